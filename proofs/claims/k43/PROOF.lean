import PyProof.Rows.All
import PySem.Str
import HandS.ForMost
import HandS.ForExc
import HandS.ExcIs
import HandS.TupAny
import PyProof.StrOps2
import HandS.Deep
import HandS.DictComp
import HandS.DeepEq
import HandS.Flow
import KE.IntTextLaws
import HandS.More
import HandS.IsInst
import HandS.Text
import PyProof.Rows.SortStr
import HandS.SortInts
import PyProof.SliceList
import HandS.SetKeys
import HandS.Strs
import HandS.TupSets
import KE.KDictSum
import HandS.Zip
import HandS.NoneIn
import KE.GoesRaise
import HandS.TryOnly
import HandS.Call
import HandS.ExcOwn
import HandS.Words
import HandS.WordsExc
import HandS.Dict
import HandS.Ends
import HandS.Style
import HandS.SetFor
import PySem.Challenge.RW_callfold_k43_gain_of_a_mark
import Wide.All
import OpenK.AllK
import Wide.FinOn
import HandS.ForDict
set_option Elab.async false
set_option linter.all false
set_option autoImplicit false
set_option maxRecDepth 100000
set_option maxHeartbeats 4000000
/-! Mi0: a small language over data by value, and what its programs need so that they end as wanted. -/
namespace Mi
open PySem (Str)

abbrev Ad := Nat

/-- data: tuples and lists that nobody changes any more stand by value; `ref a` is a thing that may be changed (it stands in Mu);
    a dict is the list of its pairs, each a `tup [k, v]` -/
inductive Val where
  | non | bl (b : Bool) | int (i : Int) | str (s : Str)
  | tup (l : List Val) | lst (l : List Val) | dct (l : List Val)
  | ref (a : Ad)
  | exn (c : String) (l : List Val)
  | ins (c : String) (l : List Val)
  | dtt (l : List (List Int × Int))

abbrev Mu := Ad → Option Val
def Mu.set (μ : Mu) (a : Ad) (v : Val) : Mu := fun b => if b = a then some v else μ b
def Mu.rm (μ : Mu) (a : Ad) : Mu := fun b => if b = a then none else μ b
def Mu.cut (μ' μ : Mu) : Mu := fun a => if (μ a).isSome = true then μ' a else none
abbrev Env := List (Option Val)

def big : Nat := 16777216

def content (μ : Mu) : Val → Option Val
  | .ref a => μ a
  | v => some v
/-! ### plain operations -/
inductive Op where | add | sub | mul | mod | fdiv | pow
inductive Cm where | lt | le | gt | ge
inductive Eqm where | eq | ne
inductive Inm where | isin | notin
inductive Ty where | int | bool | str | list | tuple | dict
inductive Bi where | len | str | int | abs | list | tuple | dict | max | min | maxL | minL | sum | all | any | sorted | setlen | rev | keysL | valsL | sortK | repT | maxD | intS | inS | part | isB | ntB | join | sortSet | sortPr | dictP
inductive Me where | append | pop | get | extend | reverse | clear | count | index | update | insert | indexV | clearD

def CMul (i j : Int) : Prop := (-(2 ^ 64) < i ∧ i < 2 ^ 64) ∨ (-(2 ^ 64) < j ∧ j < 2 ^ 64)
instance (i j : Int) : Decidable (CMul i j) := by unfold CMul; infer_instance

def repL (l : List Val) (k : Int) : List Val := (List.replicate k.toNat l).flatten

def repS (a : Str) (k : Int) : Str := ⟨(List.replicate k.toNat a.cps.toList).flatten.toArray⟩

def wideD (j : Int) : Bool := decide (j.natAbs < 2 ^ 200)
def binC : Op → Val → Val → Option Val
  | .add, .int i, .int j => some (.int (i + j))
  | .add, .str a, .str b => if a.length + b.length ≤ big then some (.str (a ++ b)) else none
  | .add, .lst a, .lst b => if a.length + b.length ≤ big then some (.lst (a ++ b)) else none
  | .add, .tup a, .tup b => if a.length + b.length ≤ big then some (.tup (a ++ b)) else none
  | .sub, .int i, .int j => some (.int (i - j))
  | .mul, .int i, .int j => if CMul i j then some (.int (i * j)) else none
  | .mul, .str a, .int k => if 1 ≤ k ∧ k < 2 ^ 62 ∧ a.length * k.toNat ≤ big then some (.str (repS a k)) else none
  | .mul, .lst l, .int k => if -(2 ^ 62) ≤ k ∧ k < 2 ^ 62 ∧ l.length * k.toNat ≤ big then some (.lst (repL l k)) else none
  | .mod, .int i, .int j => if j ≠ 0 then some (.int (i.fmod j)) else none
  | .fdiv, .int i, .int j => if j ≠ 0 ∧ (j.natAbs < 1073741824 ∨ wideD j = true) then some (.int (i.fdiv j)) else none
  | .pow, .int i, .int j => if 0 ≤ j ∧ j ≤ 1000000 ∧ i.natAbs < 2 ^ 64 then some (.int (i ^ j.toNat)) else none
  | _, _, _ => none
def binV (μ : Mu) (o : Op) (v w : Val) : Option Val := (content μ v).bind fun a => (content μ w).bind fun b => binC o a b

def cmpI : Cm → Int → Int → Bool
  | .lt, i, j => decide (i < j)
  | .le, i, j => decide (i ≤ j)
  | .gt, i, j => decide (j < i)
  | .ge, i, j => decide (j ≤ i)
def cmpV (c : Cm) : Val → Val → Option Bool
  | .int i, .int j => some (cmpI c i j)
  | _, _ => none

def ixN (n : Nat) (i : Int) : Option Nat := if 0 ≤ i then (if i < n then some i.toNat else none) else if -(n : Int) ≤ i then some (i + n).toNat else none
def atI {α : Type} (xs : List α) (i : Int) : Option α := (ixN xs.length i).bind fun j => xs[j]?

def isKey : Val → Bool
  | .int _ => true
  | .str _ => true
  | _ => false
def keyEq : Val → Val → Bool
  | .int i, .int j => i == j
  | .str i, .str j => i == j
  | _, _ => false
def dLook (k : Val) : List Val → Option Val
  | .tup [k', v] :: r => if keyEq k k' = true then some v else dLook k r
  | _ :: r => dLook k r
  | [] => none
def dPut (k v : Val) : List Val → List Val
  | .tup [k', w] :: r => if keyEq k k' = true then .tup [k', v] :: r else .tup [k', w] :: dPut k v r
  | x :: r => x :: dPut k v r
  | [] => [.tup [k, v]]

/-! dicts whose keys are tuples of whole numbers -/
def tLook (k : List Int) (l : List (List Int × Int)) : Option Int := (l.find? fun p => decide (p.1 = k)).map (·.2)
def tPut (k : List Int) (v : Int) (l : List (List Int × Int)) : List (List Int × Int) := if (l.any fun p => decide (p.1 = k)) = true then l.map (fun p => if p.1 = k then (p.1, v) else p) else l ++ [(k, v)]
def ixC : Val → Val → Option Val
  | .tup l, .int i => atI l i
  | .lst l, .int i => atI l i
  | .str s, .int i => if s.length ≤ big then (atI s.cps.toList i).map fun c => .str ⟨#[c]⟩ else none
  | .dct l, k => if isKey k = true then dLook k l else none
  | _, _ => none
def ixV (μ : Mu) (v i : Val) : Option Val := (content μ v).bind fun a => ixC a i

def sIx (n d : Nat) : Option Int → Nat
  | none => d
  | some i => if i < 0 then (max (i + (n : Int)) 0).toNat else (min i (n : Int)).toNat
def cutL {α : Type} (xs : List α) (lo hi : Option Int) : List α := (xs.drop (sIx xs.length 0 lo)).take (sIx xs.length xs.length hi - sIx xs.length 0 lo)
def slC (v : Val) (lo hi : Option Int) : Option Val :=
  match v with
  | .tup l => some (.tup (cutL l lo hi))
  | .lst l => some (.lst (cutL l lo hi))
  | .str s => if s.length ≤ big then some (.str ⟨(cutL s.cps.toList lo hi).toArray⟩) else none
  | _ => none

def truthC : Val → Option Bool
  | .non => some false
  | .bl b => some b
  | .int i => some (i != 0)
  | .str s => if s.length ≤ big then some (s.length != 0) else none
  | .tup l => some (!l.isEmpty)
  | .lst l => some (!l.isEmpty)
  | _ => none
def truthV (μ : Mu) (v : Val) : Option Bool := (content μ v).bind truthC

/-! == -/
mutual
def eqb : Val → Val → Bool
  | .non, .non => true
  | .bl a, .bl b => a == b
  | .bl a, .int j => (if a then 1 else 0) == j
  | .int i, .bl b => i == (if b then 1 else 0)
  | .int i, .int j => i == j
  | .str x, .str y => x == y
  | .lst xs, .lst ys => eqbL xs ys
  | .tup xs, .tup ys => eqbL xs ys
  | _, _ => false
def eqbL : List Val → List Val → Bool
  | [], [] => true
  | x :: xs, y :: ys => eqb x y && eqbL xs ys
  | _, _ => false
end
mutual
def plain : Val → Bool
  | .non => true
  | .bl _ => true
  | .int _ => true
  | .str _ => true
  | .tup l => plainL l
  | .lst l => plainL l
  | _ => false
def plainL : List Val → Bool
  | [] => true
  | v :: r => plain v && plainL r
end
mutual
def dep : Val → Nat
  | .tup l => depL l + 1
  | .lst l => depL l + 1
  | _ => 0
def depL : List Val → Nat
  | [] => 0
  | v :: r => max (dep v) (depL r)
end
def flatEq : Val → Val → Bool
  | .non, .non => true
  | .bl a, .bl b => a == b
  | .int a, .int b => a == b
  | .str a, .str b => a == b
  | _, _ => false
def dctIn (b : List Val) : List Val → Bool
  | [] => true
  | .tup [k, v] :: r => isKey k && (match dLook k b with | some w => flatEq v w | none => false) && dctIn b r
  | _ => false
def eqC : Val → Val → Option Bool
  | .dct a, .dct b => if a.length = b.length ∧ dctIn b a = true then some true else none
  | v, w => if plain v = true ∧ plain w = true ∧ min (dep v) (dep w) ≤ 150 then some (eqb v w) else none
def eq2 (μ : Mu) (v w : Val) : Bool := match content μ v, content μ w with
  | some (.dct a), some (.dct b) => decide (a.length = b.length) && dctIn b a
  | some a, some b => plain a && plain b && decide (min (dep a) (dep b) ≤ 100) && eqb a b
  | _, _ => false
def eq2L (μ : Mu) : List Val → List Val → Bool
  | [], [] => true
  | v :: r, w :: t => eq2 μ v w && eq2L μ r t
  | _, _ => false
def eqT (μ : Mu) : Val → Val → Option Bool
  | .tup a, .tup b => if eq2L μ a b = true then some true else none
  | _, _ => none
def eqV (μ : Mu) (v w : Val) : Option Bool := (content μ v).bind fun a => (content μ w).bind fun b => match eqC a b with
  | some r => some r
  | none => eqT μ a b
def inV (μ : Mu) (x c : Val) : Option Bool :=
  match content μ c with
  | some (.tup l) => if plain x = true ∧ plainL l = true ∧ min (dep x) (depL l) ≤ 150 then some (l.any fun y => eqb y x) else none
  | some (.lst l) => if plain x = true ∧ plainL l = true ∧ min (dep x) (depL l) ≤ 150 then some (l.any fun y => eqb y x) else none
  | some (.dct l) => if isKey x = true then some (dLook x l).isSome else none
  | _ => none

def tyC : Ty → Val → Option Bool
  | .int, .int _ => some true
  | .int, .bl _ => some true
  | .bool, .bl _ => some true
  | .str, .str _ => some true
  | .list, .lst _ => some true
  | .tuple, .tup _ => some true
  | .dict, .dct _ => some true
  | _, .exn _ _ => none
  | _, .ins _ _ => none
  | _, .dtt _ => none
  | _, .ref _ => none
  | _, _ => some false
def tyV (μ : Mu) (t : Ty) (v : Val) : Option Bool := (content μ v).bind (tyC t)

def isSub (c d : String) : Bool := c == d || d == "FoldError" || d == "ValueError"

/-! ### built-ins -/
def strI (i : Int) : Str := Str.ofString (toString i)
def lenF (μ : Mu) : List Val → Option Val
  | [v] => match content μ v with
    | some (.tup l) => some (.int l.length)
    | some (.lst l) => some (.int l.length)
    | some (.str s) => if s.length ≤ big then some (.int s.length) else none
    | some (.dct l) => some (.int l.length)
    | _ => none
  | _ => none
def strF : List Val → Option Val
  | [.int i] => if i.natAbs.log2 < 1920 then some (.str (strI i)) else none
  | _ => none
def digsN (l : List Nat) : Nat := l.foldl (fun acc c => acc * 10 + (c - 48)) 0
def intF : List Val → Option Val
  | [.bl b] => some (.int (if b = true then 1 else 0))
  | [.str s] => if 0 < s.length ∧ s.length ≤ 100 ∧ s.cps.toList.all (fun c => decide (48 ≤ c ∧ c ≤ 57)) = true then some (.int (digsN s.cps.toList)) else none
  | _ => none
def absF : List Val → Option Val
  | [.int i] => some (.int i.natAbs)
  | _ => none
def listF (μ : Mu) : List Val → Option Val
  | [v] => match content μ v with
    | some (.tup l) => some (.lst l)
    | some (.lst l) => some (.lst l)
    | _ => none
  | _ => none
def tupleF (μ : Mu) : List Val → Option Val
  | [v] => match content μ v with
    | some (.tup l) => some (.tup l)
    | some (.lst l) => some (.tup l)
    | _ => none
  | _ => none
def dictF (μ : Mu) : List Val → Option Val
  | [v] => match content μ v with
    | some (.dct l) => some (.dct l)
    | _ => none
  | _ => none
def intsOf : List Val → Option (List Int)
  | [] => some []
  | .int i :: r => (intsOf r).map (i :: ·)
  | _ => none
def boolsOf : List Val → Option (List Bool)
  | [] => some []
  | .bl i :: r => (boolsOf r).map (i :: ·)
  | _ => none
def strsOf : List Val → Option (List Str)
  | [] => some []
  | .str i :: r => (strsOf r).map (i :: ·)
  | _ => none
def leS (a b : Str) : Bool := !decide (b.cps.toList < a.cps.toList)
def okS (s : Str) : Bool := s.cps.all (· < 0x110000)
def sortS (l : List Str) : List Str := l.mergeSort leS
def seqOf (μ : Mu) (v : Val) : Option (List Val) := match content μ v with
  | some (.lst l) => some l
  | some (.tup l) => some l
  | _ => none
def lstOf (μ : Mu) (v : Val) : Option (List Val) := match content μ v with
  | some (.lst l) => some l
  | _ => none
def maxL : List Int → Option Int
  | [] => none
  | i :: r => some (r.foldl max i)
def minL : List Int → Option Int
  | [] => none
  | i :: r => some (r.foldl min i)
def sortI (l : List Int) : List Int := l.mergeSort fun a b => decide (a ≤ b)
def maxF : List Val → Option Val
  | [.int i, .int j] => some (.int (if j > i then j else i))
  | _ => none
def minF : List Val → Option Val
  | [.int i, .int j] => some (.int (if j < i then j else i))
  | _ => none
def maxLF (μ : Mu) : List Val → Option Val
  | [v] => (lstOf μ v).bind fun l => (intsOf l).bind fun ns => (maxL ns).map Val.int
  | _ => none
def minLF (μ : Mu) : List Val → Option Val
  | [v] => (lstOf μ v).bind fun l => (intsOf l).bind fun ns => (minL ns).map Val.int
  | _ => none
def sumF (μ : Mu) : List Val → Option Val
  | [v] => (lstOf μ v).bind fun l => (intsOf l).bind fun ns => some (.int ns.sum)
  | _ => none
def allF (μ : Mu) : List Val → Option Val
  | [v] => (lstOf μ v).bind fun l => (boolsOf l).bind fun bs => some (.bl (bs.all id))
  | _ => none
def anyF (μ : Mu) : List Val → Option Val
  | [v] => (lstOf μ v).bind fun l => (boolsOf l).bind fun bs => some (.bl (bs.any id))
  | _ => none
def sortedF (μ : Mu) : List Val → Option Val
  | [v] => (lstOf μ v).bind fun l => match intsOf l with
    | some ns => some (.lst ((sortI ns).map .int))
    | none => (strsOf l).bind fun ss => if ss.length < 64 then some (.lst ((sortS ss).map .str)) else none
  | _ => none
def insD (x : Int) : List Int → List Int
  | [] => [x]
  | y :: r => if x < y then x :: y :: r else if x = y then y :: r else y :: insD x r
def sortD (l : List Int) : List Int := l.foldr insD []
def sortSetF (μ : Mu) : List Val → Option Val
  | [v] => match content μ v with
    | some (.lst l) => (intsOf l).bind fun ns => if ns.length < 64 then some (.lst ((sortD ns).map .int)) else none
    | _ => none
  | _ => none
def prsOf : List Val → Option (List (Int × Str))
  | [] => some []
  | .tup [.int k, .str s] :: r => (prsOf r).map fun l => (k, s) :: l
  | _ => none
def insP (x : Int × Str) : List (Int × Str) → List (Int × Str)
  | [] => [x]
  | y :: r => if x.1 < y.1 then x :: y :: r else y :: insP x r
def sortP (l : List (Int × Str)) : List (Int × Str) := l.foldr insP []
def prV (p : Int × Str) : Val := .tup [.int p.1, .str p.2]
def sortPrF (μ : Mu) : List Val → Option Val
  | [v] => match content μ v with
    | some (.lst l) => (prsOf l).bind fun ps => if (ps.map Prod.fst).Nodup then some (.lst ((sortP ps).map prV)) else none
    | _ => none
  | _ => none
def keysP : List Val → Option (List Int)
  | [] => some []
  | .tup [.int k, _] :: r => (keysP r).map (k :: ·)
  | _ => none
def dictPF (μ : Mu) : List Val → Option Val
  | [v] => match content μ v with
    | some (.lst l) => (keysP l).bind fun ks => if ks.Nodup then some (.dct l) else none
    | _ => none
  | _ => none
def revF (μ : Mu) : List Val → Option Val
  | [v] => match content μ v with
    | some (.lst l) => some (.lst l.reverse)
    | some (.tup l) => some (.tup l.reverse)
    | _ => none
  | _ => none
def distK (l : List Val) : List Val := l.foldl (fun acc v => if acc.any (fun x => keyEq x v) = true then acc else acc ++ [v]) []
def setlenF (μ : Mu) : List Val → Option Val
  | [v] => match content μ v with
    | some (.lst l) => if l.all isKey = true ∧ l.length < 4000 then some (.int (distK l).length) else none
    | some (.tup l) => if l.all isKey = true ∧ l.length < 4000 then some (.int (distK l).length) else none
    | _ => none
  | _ => none
def dKeys : List Val → List Val
  | [] => []
  | .tup [k, _] :: r => k :: dKeys r
  | _ :: r => dKeys r
def dVals : List Val → List Val
  | [] => []
  | .tup [_, v] :: r => v :: dVals r
  | _ :: r => dVals r
def keysF (μ : Mu) : List Val → Option Val
  | [v] => match content μ v with
    | some (.dct l) => (intsOf (dKeys l)).bind fun ns => some (.lst (ns.map .int))
    | _ => none
  | _ => none
def valsF (μ : Mu) : List Val → Option Val
  | [v] => match content μ v with
    | some (.dct l) => some (.lst (dVals l))
    | _ => none
  | _ => none
def sortKF (μ : Mu) : List Val → Option Val
  | [v] => match content μ v with
    | some (.dct l) => match intsOf (dKeys l) with
      | some ns => if ns.length < 64 then some (.lst ((sortI ns).map .int)) else none
      | none => (strsOf (dKeys l)).bind fun ss => if ss.length < 64 ∧ ss.all okS = true then some (.lst ((sortS ss).map .str)) else none
    | _ => none
  | _ => none
def repTF (μ : Mu) : List Val → Option Val
  | [v, .int k] => match content μ v with
    | some (.tup l) => if 0 ≤ k ∧ k ≤ 1000 ∧ l.length ≤ 1000 ∧ l.isEmpty = false then some (.tup (repL l k)) else none
    | _ => none
  | _ => none
def maxDF (μ : Mu) : List Val → Option Val
  | [v, .int d] => (lstOf μ v).bind fun l => (intsOf l).bind fun ns => some (.int ((maxL ns).getD d))
  | _ => none
def digs : List Nat → Int
  | l => l.foldl (fun (n : Int) (c : Nat) => n * 10 + ((c : Int) - 48)) 0
def intSF : List Val → Option Val
  | [.str s] => if 0 < s.length ∧ s.length ≤ 100 ∧ s.cps.all (fun c => decide (48 ≤ c ∧ c ≤ 57)) = true then some (.int (digs s.cps.toList)) else none
  | _ => none
def inSF : List Val → Option Val
  | [.str a, .str b] => if a.length = 1 ∧ b.length ≤ big then some (.bl (b.cps.toList.any fun c => a.cps.toList.contains c)) else none
  | _ => none
def partL (c : Nat) : List Nat → List Nat × Option (List Nat)
  | [] => ([], none)
  | x :: r => if x = c then ([], some r) else match partL c r with
    | (a, b) => (x :: a, b)
def partF : List Val → Option Val
  | [.str s, .str sep] => match sep.cps.toList with
    | [c] => if s.length ≤ big then some (match partL c s.cps.toList with
      | (a, some b) => .tup [.str ⟨a.toArray⟩, .str sep, .str ⟨b.toArray⟩]
      | (_, none) => .tup [.str s, .str ⟨#[]⟩, .str ⟨#[]⟩]) else none
    | _ => none
  | _ => none
def joinF (μ : Mu) : List Val → Option Val
  | [.str a, v] => (lstOf μ v).bind fun l => (strsOf l).bind fun ys => if (ys.map (·.length)).sum + ys.length * a.length ≤ big then some (.str (PySem.Str.join a ys)) else none
  | _ => none
def isBF (n : Bool) : List Val → Option Val
  | [.bl a, .bl b] => some (.bl (if n = true then !decide (a = b) else decide (a = b)))
  | _ => none
def biV (μ : Mu) (b : Bi) (vs : List Val) : Option Val :=
  match b with
  | .len => lenF μ vs
  | .str => strF vs
  | .int => intF vs
  | .abs => absF vs
  | .list => listF μ vs
  | .tuple => tupleF μ vs
  | .dict => dictF μ vs
  | .max => maxF vs
  | .min => minF vs
  | .maxL => maxLF μ vs
  | .minL => minLF μ vs
  | .sum => sumF μ vs
  | .all => allF μ vs
  | .any => anyF μ vs
  | .sorted => sortedF μ vs
  | .setlen => setlenF μ vs
  | .rev => revF μ vs
  | .keysL => keysF μ vs
  | .valsL => valsF μ vs
  | .sortK => sortKF μ vs
  | .repT => repTF μ vs
  | .maxD => maxDF μ vs
  | .intS => intSF vs
  | .inS => inSF vs
  | .part => partF vs
  | .isB => isBF false vs
  | .ntB => isBF true vs
  | .join => joinF μ vs
  | .sortSet => sortSetF μ vs
  | .sortPr => sortPrF μ vs
  | .dictP => dictPF μ vs

def fieldsOf (c : String) : List String :=
  if c = "Running" then ["book", "said", "begun_rows", "begun_rounds", "made_calls", "counts", "way", "ways"] else []
def fIx (c f : String) : Option Nat := (fieldsOf c).idxOf? f
def attrV (μ : Mu) (v : Val) (f : String) : Option Val := match v with
  | .ref a => match μ a with
    | some (.ins c l) => (fIx c f).bind fun i => l[i]?
    | _ => none
  | _ => none
def setAttrV (μ : Mu) (v : Val) (f : String) (y : Val) : Option Mu := match v with
  | .ref a => match μ a with
    | some (.ins c l) => (fIx c f).bind fun i => if i < l.length then some (μ.set a (.ins c (l.set i y))) else if i = l.length then some (μ.set a (.ins c (l ++ [y]))) else none
    | _ => none
  | _ => none
def isIns (μ : Mu) (v : Val) (c : String) : Bool := match v with
  | .ref a => match μ a with
    | some (.ins d _) => d == c
    | _ => false
  | _ => false
def isLst (μ : Mu) (v : Val) : Bool := match content μ v with
  | some (.lst _) => true
  | _ => false
def isDct (μ : Mu) (v : Val) : Bool := match content μ v with
  | some (.dct _) => true
  | some (.dtt _) => true
  | _ => false
def meOk (μ : Mu) (m : Me) (v : Val) : Bool :=
  match m with
  | .append => isLst μ v
  | .pop => isLst μ v
  | .extend => isLst μ v
  | .get => isDct μ v
  | .reverse => isLst μ v
  | .clear => isLst μ v
  | .count => isLst μ v
  | .index => isLst μ v
  | .update => isDct μ v
  | .insert => isLst μ v
  | .indexV => isLst μ v
  | .clearD => isDct μ v
def appendF (μ : Mu) : Val → List Val → Option (Val × Mu)
  | .ref a, [x] => match μ a with
    | some (.lst l) => if l.length < big then some (.non, μ.set a (.lst (l ++ [x]))) else none
    | _ => none
  | _, _ => none
def popF (μ : Mu) : Val → List Val → Option (Val × Mu)
  | .ref a, [] => match μ a with
    | some (.lst l) => (l[l.length - 1]?).map fun x => (x, μ.set a (.lst l.dropLast))
    | _ => none
  | .ref a, [.int i] => match μ a with
    | some (.lst l) => if l.length ≤ big then (ixN l.length i).bind fun k => (l[k]?).map fun x => (x, μ.set a (.lst (l.eraseIdx k))) else none
    | _ => none
  | _, _ => none
def extendF (μ : Mu) : Val → List Val → Option (Val × Mu)
  | .ref a, [v] => match μ a with
    | some (.lst l) => (seqOf μ v).bind fun r => if l.length + r.length ≤ big then some (.non, μ.set a (.lst (l ++ r))) else none
    | _ => none
  | _, _ => none
def reverseF (μ : Mu) : Val → List Val → Option (Val × Mu)
  | .ref a, [] => match μ a with
    | some (.lst l) => some (.non, μ.set a (.lst l.reverse))
    | _ => none
  | _, _ => none
def clearF (μ : Mu) : Val → List Val → Option (Val × Mu)
  | .ref a, [] => match μ a with
    | some (.lst _) => some (.non, μ.set a (.lst []))
    | _ => none
  | _, _ => none
def getF (μ : Mu) (v : Val) : List Val → Option (Val × Mu)
  | [k, d] => match content μ v with
    | some (.dct l) => if isKey k = true then some ((dLook k l).getD d, μ) else none
    | some (.dtt l) => match k, d with
      | .tup ks, .int i => (intsOf ks).bind fun ns => some (.int ((tLook ns l).getD i), μ)
      | _, _ => none
    | _ => none
  | _ => none
def countF (μ : Mu) (v : Val) : List Val → Option (Val × Mu)
  | [.bl b] => (lstOf μ v).bind fun l => (boolsOf l).bind fun bs => some (.int (bs.count b), μ)
  | _ => none
def indexF (μ : Mu) (v : Val) : List Val → Option (Val × Mu)
  | [.bl b] => (lstOf μ v).bind fun l => (boolsOf l).bind fun bs => if b ∈ bs then some (.int (bs.idxOf b), μ) else none
  | _ => none
def dPutAll : List Val → List Val → List Val
  | l, [] => l
  | l, .tup [k, v] :: r => dPutAll (dPut k v l) r
  | l, _ :: r => dPutAll l r
def refIs (a : Ad) : Val → Bool
  | .ref b => decide (b = a)
  | _ => false
def updateF (μ : Mu) : Val → List Val → Option (Val × Mu)
  | .ref a, [v] => match μ a, content μ v with
    | some (.dct l), some (.dct r) => if l.length + r.length < big ∧ refIs a v = false then some (.non, μ.set a (.dct (dPutAll l r))) else none
    | _, _ => none
  | _, _ => none
def insAt (l : List Val) (i : Int) (v : Val) : List Val := l.take i.toNat ++ v :: l.drop i.toNat
def insertF (μ : Mu) : Val → List Val → Option (Val × Mu)
  | .ref a, [.int i, v] => match μ a with
    | some (.lst l) => if l.length < big ∧ 0 ≤ i ∧ i < 2 ^ 62 then some (.non, μ.set a (.lst (insAt l i v))) else none
    | _ => none
  | _, _ => none
def indexVF (μ : Mu) (v : Val) : List Val → Option (Val × Mu)
  | [x] => (lstOf μ v).bind fun l => if plain x = true ∧ plainL l = true ∧ min (dep x) (depL l) ≤ 100 ∧ (l.any fun y => eqb y x) = true then some (.int ((l.findIdx fun y => eqb y x : Nat) : Int), μ) else none
  | _ => none
def clearDF (μ : Mu) : Val → List Val → Option (Val × Mu)
  | .ref a, [] => match μ a with
    | some (.dct _) => some (.non, μ.set a (.dct []))
    | _ => none
  | _, _ => none
def meV (μ : Mu) (m : Me) (v : Val) (vs : List Val) : Option (Val × Mu) :=
  match m with
  | .append => appendF μ v vs
  | .pop => popF μ v vs
  | .extend => extendF μ v vs
  | .get => getF μ v vs
  | .reverse => reverseF μ v vs
  | .clear => clearF μ v vs
  | .count => countF μ v vs
  | .index => indexF μ v vs
  | .update => updateF μ v vs
  | .insert => insertF μ v vs
  | .indexV => indexVF μ v vs
  | .clearD => clearDF μ v vs

def setV (μ : Mu) : Val → Val → Val → Option Mu
  | .ref a, i, v => match μ a, i with
    | some (.lst l), .int k => (ixN l.length k).map fun j => μ.set a (.lst (l.set j v))
    | some (.dct l), k => if isKey k = true ∧ l.length < big then some (μ.set a (.dct (dPut k v l))) else none
    | some (.dtt l), .tup ks => match intsOf ks, v with
      | some ns, .int i => if l.length < big then some (μ.set a (.dtt (tPut ns i l))) else none
      | _, _ => none
    | _, _ => none
  | _, _, _ => none

/-! ### the language -/
inductive Md where | val | obj | keep
inductive Tg where | n (i : Nat) | t (l : List Tg)

mutual
inductive E where
  | v (i : Nat)
  | c (v : Val)
  | tup (l : Es) | lst (l : Es) | dct (l : Es)
  | ix (a b : E) | sl (a : E) (lo hi : Es)
  | bin (o : Op) (a b : E) | cmp (o : Cm) (a b : E) | eq (o : Eqm) (a b : E) | isin (o : Inm) (a b : E)
  | isN (neg : Bool) (a : E)
  | chain (o p : Cm) (a b c : E)
  | neg (a : E) | not (a : E) | and (a b : E) | or (a b : E) | ite (c a b : E)
  | call (f : String) (m : Md) (l : Es)
  | bi (b : Bi) (l : Es)
  | me (m : Me) (o : E) (l : Es)
  | isT (a : E) (t : Ty)
  | isC (a : E) (c : String)
  | isCs (a : E) (cs : List String)
  | attr (a : E) (f : String)
  | mth (c : String) (o : E) (f : String) (m : Md) (l : Es)
  | mk (c : String) (f : String) (l : Es)
  | comp (elt : E) (tg : Tg) (own : List Nat) (it : It) (cond : E)
  | compX (elt : E) (tg : Tg) (own : List Nat) (it : It) (cond : E)
  | stuck
  | new (a : E)
inductive Es where
  | nil | cons (a : E) (r : Es)
inductive It where
  | e (a : E) | range (a : E) | range2 (a b : E) | enum (a : E) | zip (a b : E) | down (a b : E) | rev (a : E)
end

inductive S where
  | skip | seq (a b : S)
  | ex (e : E)
  | asg (i : Nat) (e : E)
  | asgT (t : Tg) (e : E)
  | setix (o i e : E)
  | setattr (o : E) (f : String) (e : E)
  | ite (c : E) (a b : S)
  | forS (t : Tg) (it : It) (b : S)
  | whileS (c : E) (b : S)
  | ret (e : E)
  | raise (c : String)
  | stuck
  | tryS (b : S) (cs : List String) (slot : Option Nat) (h : S)
  | tryK (b : S) (c : String) (slot : Nat) (h r : S)
  | try2 (b : S) (c : String) (h : S) (c2 : String) (h2 : S)
  | forB (t : Tg) (it : It) (s : S) (c : E) (b : S)

structure Fn where
  ps : Nat
  slots : Nat
  body : S

/-! ### what is wanted -/
abbrev XQ := Val → Mu → Prop
structure Ph where
  call : String → Md → List Val → Mu → (Val → Mu → Prop) → XQ → Prop
  pin : Option (String × Ad)
instance : CoeFun Ph (fun _ => String → Md → List Val → Mu → (Val → Mu → Prop) → XQ → Prop) := ⟨Ph.call⟩
def Ph.at (Φ : Ph) (c : String) (a : Ad) : Ph := ⟨Φ.call, some (c, a)⟩
def pinQ (o : Option (String × Ad)) (v : Val) (c : String) (Q : Bool → Prop) : Prop := match o, v with
  | some (d, q), .ref p => p = q ∧ Q (isSub d c)
  | _, _ => False
def pinQs (o : Option (String × Ad)) (v : Val) (cs : List String) (Q : Bool → Prop) : Prop := match o, v with
  | some (d, q), .ref p => p = q ∧ Q (cs.any fun c => isSub d c)
  | _, _ => False
def Ph.un (Φ : Ph) : Ph := ⟨Φ.call, none⟩

mutual
def Tg.asg : Tg → Val → Env → Option Env
  | .n i, v, env => some (env.set i (some v))
  | .t l, .tup vs, env => if l.length = vs.length then asgL l vs env else none
  | .t l, .lst vs, env => if l.length = vs.length then asgL l vs env else none
  | .t _, _, _ => none
def asgL : List Tg → List Val → Env → Option Env
  | [], [], env => some env
  | t :: ts, v :: vs, env => (t.asg v env).bind fun e => asgL ts vs e
  | _, _, _ => none
end

def wipe (env : Env) : List Nat → Env
  | [] => env
  | v :: vs => (wipe env vs).set v none

def gOk (a : Option (Ad × List Val)) (μ : Mu) : Prop := match a with
  | none => True
  | some (a, l) => μ a = some (.lst l)
def guard (v : Val) (l : List Val) : Option (Ad × List Val) := match v with
  | .ref a => some (a, l)
  | _ => none

def loopC (g : Mu → Prop) (step : Val → Mu → (Option Val → Mu → Prop) → Prop) : List Val → List Val → Mu → (List Val → Mu → Prop) → Prop
  | [], acc, μ, Q => g μ ∧ Q acc μ
  | v :: r, acc, μ, Q => g μ ∧ step v μ fun o μ' => match o with
    | some y => acc.length < big ∧ loopC g step r (acc ++ [y]) μ' Q
    | none => loopC g step r acc μ' Q
def loopF (g : Mu → Prop) (step : Val → Env → Mu → (Env → Mu → Prop) → Prop) (nx : Env → Mu → Prop) : List Val → Env → Mu → Prop
  | [], env, μ => g μ ∧ nx env μ
  | v :: r, env, μ => g μ ∧ step v env μ fun env' μ' => loopF g step nx r env' μ'
def loopW (step : Env → Mu → (Env → Mu → Prop) → Prop) : Nat → Env → Mu → Prop
  | 0, _, _ => False
  | n + 1, env, μ => step env μ fun env' μ' => loopW step n env' μ'

def okK : Val → Bool
  | .str s => okS s
  | _ => true
def Mu.fixed (μ : Mu) : Val → Mu
  | .ref a => μ.rm a
  | _ => μ
def intsFrom (i : Int) (n : Nat) : List Val := (List.range n).map fun (k : Nat) => Val.int (i + (k : Int))
def enumL (i : Int) : List Val → List Val
  | [] => []
  | v :: r => .tup [.int i, v] :: enumL (i + 1) r
def downFrom (i : Int) (n : Nat) : List Val := (List.range n).map fun (k : Nat) => Val.int (i - (k : Int))
def zipL : List Val → List Val → List Val
  | v :: r, w :: t => .tup [v, w] :: zipL r t
  | _, _ => []
def isCont : Val → Bool
  | .lst _ => true
  | .dtt _ => true
  | .dct _ => true
  | _ => false
def optInt : List Val → Option (Option Int)
  | [] => some none
  | [.int i] => some (some i)
  | _ => none

mutual
def wpE (Φ : Ph) : E → Env → Mu → (Val → Mu → Prop) → XQ → Prop
  | .v i, env, μ, Q, _ => match env[i]? with
    | some (some v) => Q v μ
    | _ => False
  | .c v, _, μ, Q, _ => Q v μ
  | .tup l, env, μ, Q, X => wpEs Φ l env μ (fun vs μ' => Q (.tup vs) μ') X
  | .lst l, env, μ, Q, X => wpEs Φ l env μ (fun vs μ' => Q (.lst vs) μ') X
  | .dct l, env, μ, Q, X => wpEs Φ l env μ (fun vs μ' => Q (.dct vs) μ') X
  | .ix a b, env, μ, Q, X => wpE Φ a env μ (fun v μ1 => wpE Φ b env μ1 (fun w μ2 => match ixV μ2 v w with
    | some r => Q r μ2
    | none => False) X) X
  | .sl a lo hi, env, μ, Q, X => wpE Φ a env μ (fun v μ1 => wpEs Φ lo env μ1 (fun l μ2 => match optInt l with
    | some l' => wpEs Φ hi env μ2 (fun h μ3 => match optInt h with
      | some h' => match (content μ3 v).bind fun c => slC c l' h' with
        | some r => Q r μ3
        | none => False
      | none => False) X
    | none => False) X) X
  | .bin o a b, env, μ, Q, X => wpE Φ a env μ (fun v μ1 => wpE Φ b env μ1 (fun w μ2 => match binV μ2 o v w with
    | some r => Q r μ2
    | none => False) X) X
  | .cmp o a b, env, μ, Q, X => wpE Φ a env μ (fun v μ1 => wpE Φ b env μ1 (fun w μ2 => match cmpV o v w with
    | some r => Q (.bl r) μ2
    | none => False) X) X
  | .eq o a b, env, μ, Q, X => wpE Φ a env μ (fun v μ1 => wpE Φ b env μ1 (fun w μ2 => match eqV μ2 v w with
    | some r => Q (.bl (match o with | .eq => r | .ne => !r)) μ2
    | none => False) X) X
  | .isin o a b, env, μ, Q, X => wpE Φ a env μ (fun v μ1 => wpE Φ b env μ1 (fun w μ2 => match inV μ2 v w with
    | some r => Q (.bl (match o with | .isin => r | .notin => !r)) μ2
    | none => False) X) X
  | .isN neg a, env, μ, Q, X => wpE Φ a env μ (fun v μ' => Q (.bl (match v with | .non => !neg | _ => neg)) μ') X
  | .chain o p a b c, env, μ, Q, X => wpE Φ a env μ (fun v μ1 => wpE Φ b env μ1 (fun w μ2 => match cmpV o v w with
    | some true => wpE Φ c env μ2 (fun u μ3 => match cmpV p w u with
      | some r => Q (.bl r) μ3
      | none => False) X
    | some false => Q (.bl false) μ2
    | none => False) X) X
  | .neg a, env, μ, Q, X => wpE Φ a env μ (fun v μ' => match v with
    | .int i => Q (.int (-i)) μ'
    | _ => False) X
  | .not a, env, μ, Q, X => wpE Φ a env μ (fun v μ' => match truthV μ' v with
    | some b => Q (.bl !b) μ'
    | none => False) X
  | .and a b, env, μ, Q, X => wpE Φ a env μ (fun v μ' => match truthV μ' v with
    | some true => wpE Φ b env μ' Q X
    | some false => Q v μ'
    | none => False) X
  | .or a b, env, μ, Q, X => wpE Φ a env μ (fun v μ' => match truthV μ' v with
    | some true => Q v μ'
    | some false => wpE Φ b env μ' Q X
    | none => False) X
  | .ite c a b, env, μ, Q, X => wpE Φ c env μ (fun v μ' => match truthV μ' v with
    | some true => wpE Φ a env μ' Q X
    | some false => wpE Φ b env μ' Q X
    | none => False) X
  | .call f m l, env, μ, Q, X => wpEs Φ l env μ (fun vs μ' => Φ f m vs μ' Q X) X
  | .bi b l, env, μ, Q, X => wpEs Φ l env μ (fun vs μ' => match biV μ' b vs with
    | some r => Q r μ'
    | none => False) X
  | .me m o l, env, μ, Q, X => wpE Φ o env μ (fun v μ1 => meOk μ1 m v = true ∧ wpEs Φ l env μ1 (fun vs μ2 => match meV μ2 m v vs with
    | some (r, μ3) => Q r μ3
    | none => False) X) X
  | .isT a t, env, μ, Q, X => wpE Φ a env μ (fun v μ' => match tyV μ' t v with
    | some b => Q (.bl b) μ'
    | none => False) X
  | .isC a c, env, μ, Q, X => wpE Φ a env μ (fun v μ' => pinQ Φ.pin v c fun b => Q (.bl b) μ') X
  | .isCs a cs, env, μ, Q, X => wpE Φ a env μ (fun v μ' => pinQs Φ.pin v cs fun b => Q (.bl b) μ') X
  | .attr a f, env, μ, Q, X => wpE Φ a env μ (fun v μ' => match attrV μ' v f with
    | some r => Q r μ'
    | none => False) X
  | .mth c o f m l, env, μ, Q, X => wpE Φ o env μ (fun v μ1 => isIns μ1 v c = true ∧ wpEs Φ l env μ1 (fun vs μ2 => Φ f m (v :: vs) μ2 Q X) X) X
  | .mk c f l, env, μ, Q, X => wpEs Φ l env μ (fun vs μ1 => ∀ p, μ1 p = none → Φ f .keep (.ref p :: vs) (μ1.set p (.ins c [])) (fun r μ2 => match r with
    | .non => Q (.ref p) μ2
    | _ => False) X) X
  | .comp elt tg own it cond, env, μ, Q, X => wpI Φ it env μ (fun l a μ1 => loopC (gOk a) (fun v μ2 R => match tg.asg v (wipe env own) with
    | some env' => wpE Φ cond env' μ2 (fun t μ3 => match truthV μ3 t with
      | some true => wpE Φ elt env' μ3 (fun y μ4 => R (some y) μ4) fun _ _ => False
      | some false => R none μ3
      | none => False) fun _ _ => False
    | none => False) l [] μ1 fun r μ' => Q (.lst r) μ') X
  | .compX elt tg own it cond, env, μ, Q, X => wpI Φ it env μ (fun l a μ1 => loopC (gOk a) (fun v μ2 R => match tg.asg v (wipe env own) with
    | some env' => wpE Φ cond env' μ2 (fun t μ3 => match truthV μ3 t with
      | some true => wpE Φ elt env' μ3 (fun y μ4 => R (some y) μ4) X
      | some false => R none μ3
      | none => False) fun _ _ => False
    | none => False) l [] μ1 fun r μ' => Q (.lst r) μ') X
  | .stuck, _, _, _, _ => False
  | .new a, env, μ, Q, X => wpE Φ a env μ (fun v μ' => isCont v = true ∧ ∀ p, μ' p = none → Q (.ref p) (μ'.set p v)) X
def wpEs (Φ : Ph) : Es → Env → Mu → (List Val → Mu → Prop) → XQ → Prop
  | .nil, _, μ, Q, _ => Q [] μ
  | .cons a r, env, μ, Q, X => wpE Φ a env μ (fun v μ1 => wpEs Φ r env μ1 (fun vs μ2 => Q (v :: vs) μ2) X) X
def wpI (Φ : Ph) : It → Env → Mu → (List Val → Option (Ad × List Val) → Mu → Prop) → XQ → Prop
  | .e a, env, μ, Q, X => wpE Φ a env μ (fun v μ' => match content μ' v with
    | some (.lst l) => Q l (guard v l) μ'
    | some (.tup l) => Q l none μ'
    | some (.str s) => Q (s.cps.toList.map fun c => .str ⟨#[c]⟩) none μ'
    | some (.dct l) => (dKeys l).all okK = true ∧ Q (dKeys l) none (μ'.fixed v)
    | _ => False) X
  | .range a, env, μ, Q, X => wpE Φ a env μ (fun v μ' => match v with
    | .int j => -(2 ^ 62) ≤ j ∧ j < 2 ^ 62 ∧ Q (intsFrom 0 j.toNat) none μ'
    | _ => False) X
  | .range2 a b, env, μ, Q, X => wpE Φ a env μ (fun v μ1 => wpE Φ b env μ1 (fun w μ2 => match v, w with
    | .int i, .int j => (-(2 ^ 62) ≤ i ∧ i < 2 ^ 62 ∧ -(2 ^ 62) ≤ j ∧ j < 2 ^ 62) ∧ Q (intsFrom i (j - i).toNat) none μ2
    | _, _ => False) X) X
  | .enum a, env, μ, Q, X => wpE Φ a env μ (fun v μ' => match content μ' v with
    | some (.lst l) => Q (enumL 0 l) (guard v l) μ'
    | _ => False) X
  | .zip a b, env, μ, Q, X => wpE Φ a env μ (fun v μ1 => wpE Φ b env μ1 (fun w μ2 => match seqOf μ2 v, seqOf μ2 w with
    | some l, some l2 => guard v l = none ∧ Q (zipL l l2) (guard w l2) μ2
    | _, _ => False) X) X
  | .down a b, env, μ, Q, X => wpE Φ a env μ (fun v μ1 => wpE Φ b env μ1 (fun w μ2 => match v, w with
    | .int i, .int j => (-(2 ^ 62) ≤ i ∧ i < 2 ^ 62 ∧ -(2 ^ 62) ≤ j ∧ j < 2 ^ 62) ∧ Q (downFrom i (i - j).toNat) none μ2
    | _, _ => False) X) X
  | .rev a, env, μ, Q, X => wpE Φ a env μ (fun v μ' => match content μ' v with
    | some (.lst l) => Q l.reverse (guard v l) μ'
    | _ => False) X
end

structure En where
  nx : Env → Mu → Prop
  rt : Val → Mu → Prop
  ex : Val → Env → Mu → Prop

def wpS : Ph → S → Env → Mu → En → Prop
  | Φ, .skip, env, μ, D => D.nx env μ
  | Φ, .seq a b, env, μ, D => wpS Φ a env μ { D with nx := fun env' μ' => wpS Φ b env' μ' D }
  | Φ, .ex e, env, μ, D => wpE Φ e env μ (fun _ μ' => D.nx env μ') fun x μ' => D.ex x env μ'
  | Φ, .asg i e, env, μ, D => wpE Φ e env μ (fun v μ' => D.nx (env.set i (some v)) μ') fun x μ' => D.ex x env μ'
  | Φ, .asgT t e, env, μ, D => wpE Φ e env μ (fun v μ' => match t.asg v env with
    | some env' => D.nx env' μ'
    | none => False) fun x μ' => D.ex x env μ'
  | Φ, .setix o i e, env, μ, D => wpE Φ e env μ (fun v μ1 => wpE Φ o env μ1 (fun ov μ2 => wpE Φ i env μ2 (fun iv μ3 => match setV μ3 ov iv v with
    | some μ4 => D.nx env μ4
    | none => False) fun x μ' => D.ex x env μ') fun x μ' => D.ex x env μ') fun x μ' => D.ex x env μ'
  | Φ, .setattr o f e, env, μ, D => wpE Φ e env μ (fun v μ1 => wpE Φ o env μ1 (fun ov μ2 => match setAttrV μ2 ov f v with
    | some μ3 => D.nx env μ3
    | none => False) fun x μ' => D.ex x env μ') fun x μ' => D.ex x env μ'
  | Φ, .ite c a b, env, μ, D => wpE Φ c env μ (fun v μ' => match truthV μ' v with
    | some true => wpS Φ a env μ' D
    | some false => wpS Φ b env μ' D
    | none => False) fun x μ' => D.ex x env μ'
  | Φ, .forS t it b, env, μ, D => wpI Φ it env μ (fun l a μ1 => loopF (gOk a) (fun v env' μ' R => match t.asg v env' with
    | some env2 => wpS Φ b env2 μ' { D with nx := R }
    | none => False) D.nx l env μ1) fun x μ' => D.ex x env μ'
  | Φ, .forB t it s c b, env, μ, D => wpI Φ it env μ (fun l a μ1 => loopF (gOk a) (fun v env' μ' R => match t.asg v env' with
    | some env2 => wpS Φ s env2 μ' { D with nx := fun env3 μ3 => wpE Φ c env3 μ3 (fun v μ4 => match truthV μ4 v with | some true => wpS Φ b env3 μ4 D | some false => R env3 μ4 | none => False) fun x μ4 => D.ex x env3 μ4 }
    | none => False) D.nx l env μ1) fun x μ' => D.ex x env μ'
  | Φ, .whileS c b, env, μ, D => ∃ n, loopW (fun env' μ' R => wpE Φ c env' μ' (fun v μ1 => match truthV μ1 v with
    | some true => wpS Φ b env' μ1 { D with nx := R }
    | some false => D.nx env' μ1
    | none => False) fun x μ1 => D.ex x env' μ1) n env μ
  | Φ, .ret e, env, μ, D => wpE Φ e env μ (fun v μ' => D.rt v μ') fun x μ' => D.ex x env μ'
  | Φ, .raise c, env, μ, D => D.ex (.exn c []) env μ
  | _, .stuck, _, _, _ => False
  | Φ, .try2 b c h c2 h2, env, μ, D => wpS Φ b env μ { D with ex := fun x env' μ' => match x with
    | .exn d l => if isSub d c = true then wpS Φ h env' μ' D else if isSub d c2 = true then wpS Φ h2 env' μ' D else D.ex x env' μ'
    | _ => False }
  | Φ, .tryK b c i h r, env, μ, D => wpS Φ b env μ { D with nx := fun e1 μ1 => wpS Φ.un r e1 μ1 D, ex := fun x env' μ' => match x with
    | .exn d l => if isSub d c = true then ∀ a, μ' a = none → wpS (Φ.at d a) h (env'.set i (some (.ref a))) μ' { D with nx := fun e2 μ2 => wpS (Φ.at d a) r (e2.set i none) μ2 D } else D.ex x env' μ'
    | _ => False }
  | Φ, .tryS b cs none h, env, μ, D => wpS Φ b env μ { D with ex := fun x env' μ' => match x with
    | .exn c l => if (cs.any fun d => isSub c d) = true then wpS Φ h env' μ' D else D.ex x env' μ'
    | _ => False }
  | Φ, .tryS b cs (some i) h, env, μ, D => wpS Φ b env μ { D with ex := fun x env' μ' => match x with
    | .exn c l => if (cs.any fun d => isSub c d) = true then ∀ a, μ' a = none → wpS (Φ.at c a) h (env'.set i (some (.ref a))) μ' { D with nx := fun e2 μ2 => D.nx (e2.set i none) μ2 } else D.ex x env' μ'
    | _ => False }

/-! ### calls -/
mutual
def mapRef (f : Ad → Option Val) : Val → Val
  | .ref a => (f a).getD (.ref a)
  | .tup l => .tup (mapRefL f l)
  | .lst l => .lst (mapRefL f l)
  | .dct l => .dct (mapRefL f l)
  | .exn c l => .exn c (mapRefL f l)
  | .ins c l => .ins c (mapRefL f l)
  | v => v
def mapRefL (f : Ad → Option Val) : List Val → List Val
  | [] => []
  | v :: r => mapRef f v :: mapRefL f r
end
def resoF (μ μ' : Mu) : Nat → Ad → Option Val
  | 0 => fun _ => none
  | n + 1 => fun a => if (μ a).isSome = true then none else (μ' a).map (mapRef (resoF μ μ' n))
def reso (μ μ' : Mu) (n : Nat) (v : Val) : Val := mapRef (resoF μ μ' n) v

def finM (m : Md) (μ : Mu) (Q : Val → Mu → Prop) (v : Val) (μ' : Mu) : Prop :=
  match m with
  | .keep => Q v μ'
  | .val => Q (reso μ μ' 4 v) (μ'.cut μ)
  | .obj => match v with
    | .ref p => μ p = none ∧ match μ' p with
      | some c => Q (.ref p) ((μ'.cut μ).set p (reso (μ.set p c) μ' 4 c))
      | none => False
    | _ => False

def Prog := String → Option Fn
def phi (P : Prog) : Nat → Ph
  | 0 => ⟨fun _ _ _ _ _ _ => False, none⟩
  | n + 1 => ⟨fun f m args μ Q X => match P f with
    | some d => args.length = d.ps ∧ wpS (phi P n) d.body (args.map some ++ List.replicate (d.slots - d.ps) none) μ
        { nx := fun _ μ' => finM m μ Q .non μ', rt := fun v μ' => finM m μ Q v μ', ex := fun x _ μ' => X (reso μ μ' 4 x) (match m with | .keep => μ' | _ => μ'.cut μ) }
    | none => False, none⟩
theorem phi_succ {P : Prog} {n : Nat} {f : String} {m : Md} {args : List Val} {μ : Mu} {Q : Val → Mu → Prop} {X : XQ} : (phi P (n + 1)).call f m args μ Q X = (match P f with
    | some d => args.length = d.ps ∧ wpS (phi P n) d.body (args.map some ++ List.replicate (d.slots - d.ps) none) μ
        { nx := fun _ μ' => finM m μ Q .non μ', rt := fun v μ' => finM m μ Q v μ', ex := fun x _ μ' => X (reso μ μ' 4 x) (match m with | .keep => μ' | _ => μ'.cut μ) }
    | none => False) := rfl

end Mi
/-! Mi1: what is wanted may be weakened. -/
namespace Mi

def MonoP (Φ : Ph) : Prop := ∀ f m args μ (Q Q' : Val → Mu → Prop) (X X' : XQ), (∀ v μ, Q v μ → Q' v μ) → (∀ v μ, X v μ → X' v μ) → Φ f m args μ Q X → Φ f m args μ Q' X'

theorem loopC_mono {g : Mu → Prop} {step step' : Val → Mu → (Option Val → Mu → Prop) → Prop} (hs : ∀ v μ (R R' : Option Val → Mu → Prop), (∀ o μ, R o μ → R' o μ) → step v μ R → step' v μ R') :
    ∀ (l acc : List Val) (μ : Mu) (Q Q' : List Val → Mu → Prop), (∀ r μ, Q r μ → Q' r μ) → loopC g step l acc μ Q → loopC g step' l acc μ Q'
  | [], _, _, _, _, h, q => ⟨q.1, h _ _ q.2⟩
  | v :: r, acc, μ, Q, Q', h, q => ⟨q.1, hs v μ _ _ (fun o μ' z => by
      cases o with
      | none => exact loopC_mono hs r _ _ _ _ h z
      | some y => exact ⟨z.1, loopC_mono hs r _ _ _ _ h z.2⟩) q.2⟩
theorem loopF_mono {g : Mu → Prop} {step step' : Val → Env → Mu → (Env → Mu → Prop) → Prop} {nx nx' : Env → Mu → Prop} (hs : ∀ v env μ (R R' : Env → Mu → Prop), (∀ e μ, R e μ → R' e μ) → step v env μ R → step' v env μ R') (hn : ∀ e μ, nx e μ → nx' e μ) :
    ∀ (l : List Val) (env : Env) (μ : Mu), loopF g step nx l env μ → loopF g step' nx' l env μ
  | [], _, _, q => ⟨q.1, hn _ _ q.2⟩
  | v :: r, env, μ, q => ⟨q.1, hs v env μ _ _ (fun e μ' z => loopF_mono hs hn r e μ' z) q.2⟩
theorem loopW_mono {step step' : Env → Mu → (Env → Mu → Prop) → Prop} (hs : ∀ env μ (R R' : Env → Mu → Prop), (∀ e μ, R e μ → R' e μ) → step env μ R → step' env μ R') :
    ∀ (n : Nat) (env : Env) (μ : Mu), loopW step n env μ → loopW step' n env μ
  | 0, _, _, q => q
  | n + 1, env, μ, q => hs env μ _ _ (fun e μ' z => loopW_mono hs n e μ' z) q

theorem pinQ_mono {o : Option (String × Ad)} {v : Val} {c : String} {Q Q' : Bool → Prop} (h : ∀ b, Q b → Q' b) (z : pinQ o v c Q) : pinQ o v c Q' := by
  unfold pinQ at z ⊢
  split at z
  · exact ⟨z.1, h _ z.2⟩
  · exact z.elim
theorem pinQs_mono {o : Option (String × Ad)} {v : Val} {cs : List String} {Q Q' : Bool → Prop} (h : ∀ b, Q b → Q' b) (z : pinQs o v cs Q) : pinQs o v cs Q' := by
  unfold pinQs at z ⊢
  split at z
  · exact ⟨z.1, h _ z.2⟩
  · exact z.elim
section
variable {Φ : Ph} (hΦ : MonoP Φ)
include hΦ
mutual
theorem wpE_mono : ∀ (e : E) (env : Env) (μ : Mu) (Q Q' : Val → Mu → Prop) (X X' : XQ), (∀ v μ, Q v μ → Q' v μ) → (∀ v μ, X v μ → X' v μ) → wpE Φ e env μ Q X → wpE Φ e env μ Q' X'
  | .v i, env, μ, Q, Q', X, X', hQ, hX, q => by
    simp only [wpE] at q ⊢
    split at q
    · exact hQ _ _ q
    · exact q.elim
  | .c v, env, μ, Q, Q', X, X', hQ, hX, q => hQ _ _ q
  | .tup l, env, μ, Q, Q', X, X', hQ, hX, q => wpEs_mono l env μ _ _ X X' (fun vs μ' z => hQ _ _ z) hX q
  | .lst l, env, μ, Q, Q', X, X', hQ, hX, q => wpEs_mono l env μ _ _ X X' (fun vs μ' z => hQ _ _ z) hX q
  | .dct l, env, μ, Q, Q', X, X', hQ, hX, q => wpEs_mono l env μ _ _ X X' (fun vs μ' z => hQ _ _ z) hX q
  | .ix a b, env, μ, Q, Q', X, X', hQ, hX, q => wpE_mono a env μ _ _ X X' (fun v μ1 z => wpE_mono b env μ1 _ _ X X' (fun w μ2 y => by
      split at y
      · exact hQ _ _ y
      · exact y.elim) hX z) hX q
  | .sl a lo hi, env, μ, Q, Q', X, X', hQ, hX, q => wpE_mono a env μ _ _ X X' (fun v μ1 z => wpEs_mono lo env μ1 _ _ X X' (fun w μ2 y => by
      split at y
      · exact wpEs_mono hi env μ2 _ _ X X' (fun h μ3 x => by
          split at x
          · split at x
            · exact hQ _ _ x
            · exact x.elim
          · exact x.elim) hX y
      · exact y.elim) hX z) hX q
  | .bin o a b, env, μ, Q, Q', X, X', hQ, hX, q => wpE_mono a env μ _ _ X X' (fun v μ1 z => wpE_mono b env μ1 _ _ X X' (fun w μ2 y => by
      split at y
      · exact hQ _ _ y
      · exact y.elim) hX z) hX q
  | .cmp o a b, env, μ, Q, Q', X, X', hQ, hX, q => wpE_mono a env μ _ _ X X' (fun v μ1 z => wpE_mono b env μ1 _ _ X X' (fun w μ2 y => by
      split at y
      · exact hQ _ _ y
      · exact y.elim) hX z) hX q
  | .eq o a b, env, μ, Q, Q', X, X', hQ, hX, q => wpE_mono a env μ _ _ X X' (fun v μ1 z => wpE_mono b env μ1 _ _ X X' (fun w μ2 y => by
      split at y
      · exact hQ _ _ y
      · exact y.elim) hX z) hX q
  | .isin o a b, env, μ, Q, Q', X, X', hQ, hX, q => wpE_mono a env μ _ _ X X' (fun v μ1 z => wpE_mono b env μ1 _ _ X X' (fun w μ2 y => by
      split at y
      · exact hQ _ _ y
      · exact y.elim) hX z) hX q
  | .isN neg a, env, μ, Q, Q', X, X', hQ, hX, q => wpE_mono a env μ _ _ X X' (fun v μ1 z => hQ _ _ z) hX q
  | .chain o p a b c, env, μ, Q, Q', X, X', hQ, hX, q => wpE_mono a env μ _ _ X X' (fun v μ1 z => wpE_mono b env μ1 _ _ X X' (fun w μ2 y => by
      split at y
      · exact wpE_mono c env μ2 _ _ X X' (fun u μ3 x => by
          split at x
          · exact hQ _ _ x
          · exact x.elim) hX y
      · exact hQ _ _ y
      · exact y.elim) hX z) hX q
  | .neg a, env, μ, Q, Q', X, X', hQ, hX, q => wpE_mono a env μ _ _ X X' (fun v μ1 z => by
      split at z
      · exact hQ _ _ z
      · exact z.elim) hX q
  | .not a, env, μ, Q, Q', X, X', hQ, hX, q => wpE_mono a env μ _ _ X X' (fun v μ1 z => by
      split at z
      · exact hQ _ _ z
      · exact z.elim) hX q
  | .and a b, env, μ, Q, Q', X, X', hQ, hX, q => wpE_mono a env μ _ _ X X' (fun v μ1 z => by
      split at z
      · exact wpE_mono b env μ1 _ _ X X' hQ hX z
      · exact hQ _ _ z
      · exact z.elim) hX q
  | .or a b, env, μ, Q, Q', X, X', hQ, hX, q => wpE_mono a env μ _ _ X X' (fun v μ1 z => by
      split at z
      · exact hQ _ _ z
      · exact wpE_mono b env μ1 _ _ X X' hQ hX z
      · exact z.elim) hX q
  | .ite c a b, env, μ, Q, Q', X, X', hQ, hX, q => wpE_mono c env μ _ _ X X' (fun v μ1 z => by
      split at z
      · exact wpE_mono a env μ1 _ _ X X' hQ hX z
      · exact wpE_mono b env μ1 _ _ X X' hQ hX z
      · exact z.elim) hX q
  | .call f m l, env, μ, Q, Q', X, X', hQ, hX, q => wpEs_mono l env μ _ _ X X' (fun vs μ' z => hΦ f m vs μ' Q Q' X X' hQ hX z) hX q
  | .bi b l, env, μ, Q, Q', X, X', hQ, hX, q => wpEs_mono l env μ _ _ X X' (fun vs μ' z => by
      split at z
      · exact hQ _ _ z
      · exact z.elim) hX q
  | .me m o l, env, μ, Q, Q', X, X', hQ, hX, q => wpE_mono o env μ _ _ X X' (fun v μ1 z => ⟨z.1, wpEs_mono l env μ1 _ _ X X' (fun vs μ' y => by
      split at y
      · exact hQ _ _ y
      · exact y.elim) hX z.2⟩) hX q
  | .isT a t, env, μ, Q, Q', X, X', hQ, hX, q => wpE_mono a env μ _ _ X X' (fun v μ1 z => by
      split at z
      · exact hQ _ _ z
      · exact z.elim) hX q
  | .isC a c, env, μ, Q, Q', X, X', hQ, hX, q => wpE_mono a env μ _ _ X X' (fun v μ1 z => pinQ_mono (fun b y => hQ _ _ y) z) hX q
  | .isCs a cs, env, μ, Q, Q', X, X', hQ, hX, q => wpE_mono a env μ _ _ X X' (fun v μ1 z => pinQs_mono (fun b y => hQ _ _ y) z) hX q
  | .attr a f, env, μ, Q, Q', X, X', hQ, hX, q => wpE_mono a env μ _ _ X X' (fun v μ1 z => by
      split at z
      · exact hQ _ _ z
      · exact z.elim) hX q
  | .mth c o f m l, env, μ, Q, Q', X, X', hQ, hX, q => wpE_mono o env μ _ _ X X' (fun v μ1 z => ⟨z.1, wpEs_mono l env μ1 _ _ X X' (fun vs μ2 y => hΦ f m _ μ2 _ _ _ _ hQ hX y) hX z.2⟩) hX q
  | .mk c f l, env, μ, Q, Q', X, X', hQ, hX, q => wpEs_mono l env μ _ _ X X' (fun vs μ1 z p hp => hΦ f .keep _ _ _ _ _ _ (fun r μ2 y => by
      split at y
      · exact hQ _ _ y
      · exact y.elim) hX (z p hp)) hX q
  | .comp elt tg own it cond, env, μ, Q, Q', X, X', hQ, hX, q => wpI_mono it env μ _ _ X X' (fun l a μ1 z => loopC_mono (fun v μ2 R R' hR y => by
      split at y
      · rename_i env' _
        exact wpE_mono cond env' μ2 _ _ _ _ (fun t μ3 x => by
          split at x
          · exact wpE_mono elt env' μ3 _ _ _ _ (fun w μ4 u => hR _ _ u) (fun _ _ u => u) x
          · exact hR _ _ x
          · exact x.elim) (fun _ _ u => u) y
      · exact y.elim) l [] μ1 _ _ (fun r μ' x => hQ _ _ x) z) hX q
  | .compX elt tg own it cond, env, μ, Q, Q', X, X', hQ, hX, q => wpI_mono it env μ _ _ X X' (fun l a μ1 z => loopC_mono (fun v μ2 R R' hR y => by
      split at y
      · rename_i env' _
        exact wpE_mono cond env' μ2 _ _ _ _ (fun t μ3 x => by
          split at x
          · exact wpE_mono elt env' μ3 _ _ _ _ (fun w μ4 u => hR _ _ u) hX x
          · exact hR _ _ x
          · exact x.elim) (fun _ _ u => u) y
      · exact y.elim) l [] μ1 _ _ (fun r μ' x => hQ _ _ x) z) hX q
  | .stuck, env, μ, Q, Q', X, X', hQ, hX, q => q.elim
  | .new a, env, μ, Q, Q', X, X', hQ, hX, q => wpE_mono a env μ _ _ X X' (fun v μ1 z => ⟨z.1, fun p hp => hQ _ _ (z.2 p hp)⟩) hX q
theorem wpEs_mono : ∀ (l : Es) (env : Env) (μ : Mu) (Q Q' : List Val → Mu → Prop) (X X' : XQ), (∀ v μ, Q v μ → Q' v μ) → (∀ v μ, X v μ → X' v μ) → wpEs Φ l env μ Q X → wpEs Φ l env μ Q' X'
  | .nil, env, μ, Q, Q', X, X', hQ, hX, q => hQ _ _ q
  | .cons a r, env, μ, Q, Q', X, X', hQ, hX, q => wpE_mono a env μ _ _ X X' (fun v μ1 z => wpEs_mono r env μ1 _ _ X X' (fun vs μ2 y => hQ _ _ y) hX z) hX q
theorem wpI_mono : ∀ (i : It) (env : Env) (μ : Mu) (Q Q' : List Val → Option (Ad × List Val) → Mu → Prop) (X X' : XQ), (∀ l a μ, Q l a μ → Q' l a μ) → (∀ v μ, X v μ → X' v μ) → wpI Φ i env μ Q X → wpI Φ i env μ Q' X'
  | .e a, env, μ, Q, Q', X, X', hQ, hX, q => wpE_mono a env μ _ _ X X' (fun v μ1 z => by
      split at z
      · exact hQ _ _ _ z
      · exact hQ _ _ _ z
      · exact hQ _ _ _ z
      · exact ⟨z.1, hQ _ _ _ z.2⟩
      · exact z.elim) hX q
  | .range a, env, μ, Q, Q', X, X', hQ, hX, q => wpE_mono a env μ _ _ X X' (fun v μ1 z => by
      split at z
      · exact ⟨z.1, z.2.1, hQ _ _ _ z.2.2⟩
      · exact z.elim) hX q
  | .range2 a b, env, μ, Q, Q', X, X', hQ, hX, q => wpE_mono a env μ _ _ X X' (fun v μ1 z => wpE_mono b env μ1 _ _ X X' (fun w μ2 y => by
      split at y
      · exact ⟨y.1, hQ _ _ _ y.2⟩
      · exact y.elim) hX z) hX q
  | .enum a, env, μ, Q, Q', X, X', hQ, hX, q => wpE_mono a env μ _ _ X X' (fun v μ1 z => by
      split at z
      · exact hQ _ _ _ z
      · exact z.elim) hX q
  | .zip a b, env, μ, Q, Q', X, X', hQ, hX, q => wpE_mono a env μ _ _ X X' (fun v μ1 z => wpE_mono b env μ1 _ _ X X' (fun w μ2 y => by
      split at y
      · exact ⟨y.1, hQ _ _ _ y.2⟩
      · exact y.elim) hX z) hX q
  | .down a b, env, μ, Q, Q', X, X', hQ, hX, q => wpE_mono a env μ _ _ X X' (fun v μ1 z => wpE_mono b env μ1 _ _ X X' (fun w μ2 y => by
      split at y
      · exact ⟨y.1, hQ _ _ _ y.2⟩
      · exact y.elim) hX z) hX q
  | .rev a, env, μ, Q, Q', X, X', hQ, hX, q => wpE_mono a env μ _ _ X X' (fun v μ1 z => by
      split at z
      · exact hQ _ _ _ z
      · exact z.elim) hX q
end

structure En.Le (D D' : En) : Prop where
  nx : ∀ e μ, D.nx e μ → D'.nx e μ
  rt : ∀ v μ, D.rt v μ → D'.rt v μ
  ex : ∀ v e μ, D.ex v e μ → D'.ex v e μ
end
theorem wpS_mono : ∀ {Φ : Ph} (hΦ : MonoP Φ) (s : S) (env : Env) (μ : Mu) (D D' : En), D.Le D' → wpS Φ s env μ D → wpS Φ s env μ D'
  | Φ, hΦ, .skip, env, μ, D, D', h, q => h.nx _ _ q
  | Φ, hΦ, .seq a b, env, μ, D, D', h, q => by
    rw [wpS] at q ⊢
    refine wpS_mono hΦ a env μ _ _ ?_ q
    exact ⟨fun e μ' z => wpS_mono hΦ b e μ' D D' h z, h.rt, h.ex⟩
  | Φ, hΦ, .ex e, env, μ, D, D', h, q => by
    rw [wpS] at q ⊢
    exact wpE_mono hΦ e env μ _ _ _ _ (fun _ _ z => h.nx _ _ z) (fun _ _ z => h.ex _ _ _ z) q
  | Φ, hΦ, .asg i e, env, μ, D, D', h, q => by
    rw [wpS] at q ⊢
    exact wpE_mono hΦ e env μ _ _ _ _ (fun _ _ z => h.nx _ _ z) (fun _ _ z => h.ex _ _ _ z) q
  | Φ, hΦ, .asgT t e, env, μ, D, D', h, q => by
    rw [wpS] at q ⊢
    exact wpE_mono hΦ e env μ _ _ _ _ (fun _ _ z => by
      split at z
      · exact h.nx _ _ z
      · exact z.elim) (fun _ _ z => h.ex _ _ _ z) q
  | Φ, hΦ, .setix o i e, env, μ, D, D', h, q => by
    rw [wpS] at q ⊢
    exact wpE_mono hΦ e env μ _ _ _ _ (fun _ μ1 z => wpE_mono hΦ o env μ1 _ _ _ _ (fun _ μ2 y => wpE_mono hΦ i env μ2 _ _ _ _ (fun _ μ3 x => by
      split at x
      · exact h.nx _ _ x
      · exact x.elim) (fun _ _ z => h.ex _ _ _ z) y) (fun _ _ z => h.ex _ _ _ z) z) (fun _ _ z => h.ex _ _ _ z) q
  | Φ, hΦ, .setattr o f e, env, μ, D, D', h, q => by
    rw [wpS] at q ⊢
    exact wpE_mono hΦ e env μ _ _ _ _ (fun _ μ1 z => wpE_mono hΦ o env μ1 _ _ _ _ (fun _ μ2 y => by
      split at y
      · exact h.nx _ _ y
      · exact y.elim) (fun _ _ z => h.ex _ _ _ z) z) (fun _ _ z => h.ex _ _ _ z) q
  | Φ, hΦ, .ite c a b, env, μ, D, D', h, q => by
    rw [wpS] at q ⊢
    exact wpE_mono hΦ c env μ _ _ _ _ (fun _ μ1 z => by
      split at z
      · exact wpS_mono hΦ a env μ1 D D' h z
      · exact wpS_mono hΦ b env μ1 D D' h z
      · exact z.elim) (fun _ _ z => h.ex _ _ _ z) q
  | Φ, hΦ, .forS t it b, env, μ, D, D', h, q => by
    rw [wpS] at q ⊢
    exact wpI_mono hΦ it env μ _ _ _ _ (fun l a μ1 z => loopF_mono (fun v env' μ2 R R' hR y => by
      split at y
      · refine wpS_mono hΦ b _ μ2 _ _ ?_ y
        exact ⟨hR, h.rt, h.ex⟩
      · exact y.elim) h.nx l env μ1 z) (fun _ _ z => h.ex _ _ _ z) q
  | Φ, hΦ, .forB t it s c b, env, μ, D, D', h, q => by
    rw [wpS] at q ⊢
    exact wpI_mono hΦ it env μ _ _ _ _ (fun l a μ1 z => loopF_mono (fun v env' μ2 R R' hR y => by
      split at y
      · refine wpS_mono hΦ s _ μ2 _ _ ?_ y
        exact ⟨fun e3 μ3 w => wpE_mono hΦ c e3 μ3 _ _ _ _ (fun _ μ4 x => by
          split at x
          · exact wpS_mono hΦ b _ μ4 D D' h x
          · exact hR _ _ x
          · exact x.elim) (fun _ _ z => h.ex _ _ _ z) w, h.rt, h.ex⟩
      · exact y.elim) h.nx l env μ1 z) (fun _ _ z => h.ex _ _ _ z) q
  | Φ, hΦ, .whileS c b, env, μ, D, D', h, q => by
    rw [wpS] at q ⊢
    obtain ⟨n, q⟩ := q
    exact ⟨n, loopW_mono (fun env' μ2 R R' hR y => wpE_mono hΦ c env' μ2 _ _ _ _ (fun _ μ3 x => by
      split at x
      · refine wpS_mono hΦ b _ μ3 _ _ ?_ x
        exact ⟨hR, h.rt, h.ex⟩
      · exact h.nx _ _ x
      · exact x.elim) (fun _ _ z => h.ex _ _ _ z) y) n env μ q⟩
  | Φ, hΦ, .ret e, env, μ, D, D', h, q => by
    rw [wpS] at q ⊢
    exact wpE_mono hΦ e env μ _ _ _ _ (fun _ _ z => h.rt _ _ z) (fun _ _ z => h.ex _ _ _ z) q
  | Φ, hΦ, .raise c, env, μ, D, D', h, q => h.ex _ _ _ q
  | Φ, hΦ, .stuck, env, μ, D, D', h, q => q.elim
  | Φ, hΦ, .try2 b c hb c2 hb2, env, μ, D, D', h, q => by
    rw [wpS] at q ⊢
    refine wpS_mono hΦ b env μ _ _ ?_ q
    refine ⟨h.nx, h.rt, fun v e μ' z => ?_⟩
    dsimp only at z ⊢
    split at z
    · rename_i d l
      by_cases hc : isSub d c = true
      · rw [if_pos hc] at z ⊢
        exact wpS_mono hΦ hb _ _ _ _ h z
      · rw [if_neg hc] at z ⊢
        by_cases hc2 : isSub d c2 = true
        · rw [if_pos hc2] at z ⊢
          exact wpS_mono hΦ hb2 _ _ _ _ h z
        · rw [if_neg hc2] at z ⊢
          exact h.ex _ _ _ z
    · exact z.elim
  | Φ, hΦ, .tryK b c i hb r, env, μ, D, D', h, q => by
    rw [wpS] at q ⊢
    refine wpS_mono hΦ b env μ _ _ ?_ q
    refine ⟨fun e μ' z => wpS_mono (Φ := Φ.un) hΦ r _ _ _ _ h z, h.rt, fun v e μ' z => ?_⟩
    dsimp only at z ⊢
    split at z
    · rename_i d l
      by_cases hc : isSub d c = true
      · rw [if_pos hc] at z ⊢
        exact fun a ha => wpS_mono (Φ := Φ.at d a) hΦ hb _ _ { D with nx := fun e2 μ2 => wpS (Φ.at d a) r (e2.set i none) μ2 D } { D' with nx := fun e2 μ2 => wpS (Φ.at d a) r (e2.set i none) μ2 D' } ⟨fun e2 μ2 y => wpS_mono (Φ := Φ.at d a) hΦ r _ _ _ _ h y, h.rt, h.ex⟩ (z a ha)
      · rw [if_neg hc] at z ⊢
        exact h.ex _ _ _ z
    · exact z.elim
  | Φ, hΦ, .tryS b cs none hb, env, μ, D, D', h, q => by
    rw [wpS] at q ⊢
    refine wpS_mono hΦ b env μ _ _ ?_ q
    refine ⟨h.nx, h.rt, fun v e μ' z => ?_⟩
    dsimp only at z ⊢
    split at z
    · rename_i c l
      by_cases hc : (cs.any fun d => isSub c d) = true
      · rw [if_pos hc] at z ⊢
        exact wpS_mono hΦ hb _ _ _ _ h z
      · rw [if_neg hc] at z ⊢
        exact h.ex _ _ _ z
    · exact z.elim
  | Φ, hΦ, .tryS b cs (some i) hb, env, μ, D, D', h, q => by
    rw [wpS] at q ⊢
    refine wpS_mono hΦ b env μ _ _ ?_ q
    refine ⟨h.nx, h.rt, fun v e μ' z => ?_⟩
    dsimp only at z ⊢
    split at z
    · rename_i c l
      by_cases hc : (cs.any fun d => isSub c d) = true
      · rw [if_pos hc] at z ⊢
        exact fun a ha => wpS_mono (Φ := Φ.at c a) hΦ hb _ _ { D with nx := fun e2 μ2 => D.nx (e2.set i none) μ2 } { D' with nx := fun e2 μ2 => D'.nx (e2.set i none) μ2 } ⟨fun e2 μ2 y => h.nx _ _ y, h.rt, h.ex⟩ (z a ha)
      · rw [if_neg hc] at z ⊢
        exact h.ex _ _ _ z
    · exact z.elim

theorem finM_mono {m : Md} {μ : Mu} {Q Q' : Val → Mu → Prop} (hQ : ∀ v μ, Q v μ → Q' v μ) {v : Val} {μ' : Mu} (h : finM m μ Q v μ') : finM m μ Q' v μ' := by
  cases m with
  | keep => exact hQ _ _ h
  | val => exact hQ _ _ h
  | obj =>
    simp only [finM] at h ⊢
    split at h
    · refine ⟨h.1, ?_⟩
      have h2 := h.2
      split at h2
      · exact hQ _ _ h2
      · exact h2.elim
    · exact h.elim
theorem phi_mono (P : Prog) : ∀ n, MonoP (phi P n)
  | 0 => fun _ _ _ _ _ _ _ _ _ _ h => h.elim
  | n + 1 => fun f m args μ Q Q' X X' hQ hX h => by
    rw [phi_succ] at h ⊢
    split at h
    · exact ⟨h.1, wpS_mono (phi_mono P n) _ _ _ _ _ ⟨fun _ _ z => finM_mono hQ z, fun _ _ z => finM_mono hQ z, fun _ _ _ z => hX _ _ z⟩ h.2⟩
    · exact h.elim

def LeP (Φ Ψ : Ph) : Prop := ∀ f m args μ Q X, Φ f m args μ Q X → Ψ f m args μ Q X
/-! ### sorted -/
theorem sortI_perm (l : List Int) : (sortI l).Perm l := List.mergeSort_perm _ _
theorem sortI_sorted (l : List Int) : (sortI l).Pairwise (· ≤ ·) := by
  have := List.pairwise_mergeSort (le := fun a b : Int => decide (a ≤ b)) (fun a b c h1 h2 => by simp at *; omega) (fun a b => by simp; omega) l
  exact this.imp fun h => by simpa using h
theorem sort_uniq {l ns : List Int} (h1 : l.Perm ns) (h2 : l.Pairwise (· ≤ ·)) : l = sortI ns :=
  List.Perm.eq_of_pairwise (fun a b _ _ h h' => Int.le_antisymm h h') h2 (sortI_sorted ns) (h1.trans (sortI_perm ns).symm)
theorem leS_iff (a b : PySem.Str) : leS a b = true ↔ a.cps.toList ≤ b.cps.toList := by
  unfold leS
  rw [Bool.not_eq_true', decide_eq_false_iff_not, List.not_lt]
theorem leS_trans (a b c : PySem.Str) (h : leS a b = true) (h' : leS b c = true) : leS a c = true := by
  rw [leS_iff] at *
  exact List.le_trans h h'
theorem leS_total (a b : PySem.Str) : (leS a b || leS b a) = true := by
  rw [Bool.or_eq_true, leS_iff, leS_iff]
  exact List.le_total _ _
theorem leS_anti (a b : PySem.Str) (h : leS a b = true) (h' : leS b a = true) : a = b := by
  rw [leS_iff] at *
  have := List.le_antisymm h h'
  cases a; cases b
  simp only at this
  congr 1
  exact Array.toList_inj.mp this
theorem sortS_perm (l : List PySem.Str) : (sortS l).Perm l := List.mergeSort_perm _ _
theorem sortS_sorted (l : List PySem.Str) : (sortS l).Pairwise (fun a b => leS a b = true) := List.pairwise_mergeSort leS_trans leS_total l
end Mi
/-! Mi2: data by value against the layer's heap. -/
namespace Mi
open PySem PySem.Spec PyProof.Rows L2

abbrev Fr := PySem.W.Frag

def WL (K : Fr) (a : Addr) (xs : List V) : Prop := ∃ (o : Obj) (its : Array Value) (n : Nat), K.lookup a = some o ∧ o.cls = .type "list" ∧ o.dict = none ∧ o.data = .seq its n ∧ its.size ≤ sizeLine ∧ Vals xs its.toList
def WT (K : Fr) (a : Addr) (xs : List V) : Prop := ∃ (o : Obj) (its : Array Value) (n : Nat), K.lookup a = some o ∧ o.cls = .type "tuple" ∧ o.data = .seq its n ∧ its.size ≤ sizeLine ∧ Vals xs its.toList

def clsAt (K : Fr) (c : String) (C : Addr) : Prop := PySem.W.nsIn K mainGlobals (Str.ofString c) = some (some (.ref C))
def flds (c : String) (xs : List V) : List (Str × V) := ((fieldsOf c).map Str.ofString).zip xs
def ttK (l : List (List Int × Int)) : List (List Key × V) := l.map fun p => (p.1.map Sum.inl, V.int p.2)
def keyOf : Val → Option Key
  | .int i => some (.inl i)
  | .str s => some (.inr s)
  | _ => none

mutual
def Den (K : Fr) (D : Addr → Prop) (H : Hp) : Val → V → Prop
  | .non, x => x = .non
  | .bl b, x => x = .bl b
  | .int i, x => x = .int i
  | .str s, x => x = .str s ∧ PyData.strOk s = true
  | .tup l, x => ∃ a xs, x = .ref a ∧ (¬ D a ∧ H a = some (.tup xs)) ∧ DenL K D H l xs
  | .lst l, x => ∃ a xs, x = .ref a ∧ ((¬ D a ∧ Rd H a (.lst xs)) ∨ WL K a xs) ∧ DenL K D H l xs
  | .dct l, x => ∃ a kvs, x = .ref a ∧ ¬ D a ∧ Rd H a (.dK kvs) ∧ DenP K D H l kvs
  | .ref a, x => x = .ref a
  | .exn _ _, _ => False
  | .ins c l, x => ∃ a C dx xs, x = .ref a ∧ ¬ D a ∧ Rd H a (.ins C dx (flds c xs)) ∧ clsAt K c C ∧ DenL K D H l xs
  | .dtt l, x => ∃ a, x = .ref a ∧ ¬ D a ∧ Rd H a (.dT (ttK l))
def DenL (K : Fr) (D : Addr → Prop) (H : Hp) : List Val → List V → Prop
  | [], xs => xs = []
  | v :: r, xs => ∃ x t, xs = x :: t ∧ Den K D H v x ∧ DenL K D H r t
def DenP (K : Fr) (D : Addr → Prop) (H : Hp) : List Val → List (Key × V) → Prop
  | [], kvs => kvs = []
  | .tup [kv, v] :: r, kvs => ∃ k x t, kvs = (k, x) :: t ∧ keyOf kv = some k ∧ Den K D H v x ∧ DenP K D H r t
  | _ :: _, _ => False
end

def Dn (Xc : Addr → Prop) (μ : Mu) : Addr → Prop := fun a => (μ a).isSome = true ∨ Xc a

def CRel (K : Fr) (D : Addr → Prop) (H : Hp) : Val → HO → Prop
  | .lst l, o => ∃ xs, o = .lst xs ∧ DenL K D H l xs
  | .dct l, o => ∃ kvs, o = .dK kvs ∧ DenP K D H l kvs
  | .ins c l, o => ∃ C dx xs, o = .ins C dx (flds c xs) ∧ clsAt K c C ∧ DenL K D H l xs
  | .dtt l, o => o = .dT (ttK l)
  | _, _ => False

def Nf (H : Hp) (a : Addr) : Prop := ∃ o, H a = some o ∧ ∀ ob u, o ≠ .frz ob u
structure MRel (K : Fr) (Xc : Addr → Prop) (μ : Mu) (H : Hp) : Prop where
  obj : ∀ a c, μ a = some c → ∃ o, H a = some o ∧ CRel K (Dn Xc μ) H c o
  xc : ∀ a, Xc a → Nf H a ∧ μ a = none
structure SRel (K : Fr) (Xc : Addr → Prop) (σ : List (Option V)) (H : Hp) (env : Env) (μ : Mu) : Prop where
  m : MRel K Xc μ H
  slot : ∀ (i : Nat) (v : Val), env[i]? = some (some v) → ∃ x, σ[i]? = some (some x) ∧ Den K (Dn Xc μ) H v x
  len : env.length = σ.length

structure Ext (μ : Mu) (H : Hp) (μ' : Mu) (H' : Hp) : Prop where
  keepO : ∀ a o, H a = some o → μ a = none → H' a = some o ∨ ∃ ob kvs, o = .dK kvs ∧ H' a = some (.frz ob o)
  nonew : ∀ a, H a ≠ none → μ a = none → μ' a = none
  there : ∀ a, H a ≠ none → H' a ≠ none

theorem Ext.refl {μ : Mu} {H : Hp} : Ext μ H μ H := ⟨fun _ _ h _ => .inl h, fun _ _ h => h, fun _ h => h⟩
theorem Ext.keepE {μ μ' : Mu} {H H' : Hp} (e : Ext μ H μ' H') (a : Addr) (o : HO) (h : H a = some o) (n : μ a = none) (no : ∀ kvs, o ≠ .dK kvs) : H' a = some o := by
  rcases e.keepO a o h n with z | ⟨ob, kvs, ek, _⟩
  · exact z
  · exact (no kvs ek).elim
theorem Ext.keep {μ μ' : Mu} {H H' : Hp} (e : Ext μ H μ' H') (a : Addr) (u : HO) (h : Rd H a u) (n : μ a = none) : Rd H' a u := by
  rcases h with h | ⟨o, h⟩
  · rcases e.keepO a _ h n with z | ⟨ob, _, _, z⟩
    · exact .inl z
    · exact .inr ⟨ob, z⟩
  · exact .inr ⟨o, e.keepE a _ h n (fun _ z => by cases z)⟩
theorem rdSome {H : Hp} {a : Addr} {u : HO} (h : Rd H a u) : H a ≠ none := by
  rcases h with h | ⟨o, h⟩ <;> (rw [h]; intro z; cases z)
theorem Ext.trans {μ μ1 μ2 : Mu} {H H1 H2 : Hp} (a : Ext μ H μ1 H1) (b : Ext μ1 H1 μ2 H2) : Ext μ H μ2 H2 where
  keepO := fun c u h n => by
    have n1 := a.nonew c (by rw [h]; intro z; cases z) n
    rcases a.keepO c u h n with z | ⟨ob, kvs, ek, z⟩
    · exact b.keepO c u z n1
    · exact .inr ⟨ob, kvs, ek, b.keepE c _ z n1 (fun _ y => by cases y)⟩
  nonew := fun c h n => b.nonew c (a.there c h) (a.nonew c h n)
  there := fun c h => b.there c (a.there c h)

section
variable {K : Fr} {Xc : Addr → Prop} {μ μ' : Mu} {H H' : Hp} {σ : List (Option V)} {env : Env}
theorem Ext.dn (e : Ext μ H μ' H') {a : Addr} (h : H a ≠ none) (n : ¬ Dn Xc μ a) : ¬ Dn Xc μ' a := by
  intro z
  rcases z with z | z
  · have hn : μ a = none := by
      cases q : μ a with
      | none => rfl
      | some c => exact (n (.inl (by rw [q]; rfl))).elim
    rw [e.nonew a h hn] at z
    cases z
  · exact n (.inr z)
theorem dn_none {a : Addr} (n : ¬ Dn Xc μ a) : μ a = none := by
  cases q : μ a with
  | none => rfl
  | some c => exact (n (.inl (by rw [q]; rfl))).elim
mutual
theorem Den.ext (e : Ext μ H μ' H') : ∀ (v : Val) (x : V), Den K (Dn Xc μ) H v x → Den K (Dn Xc μ') H' v x
  | .non, x, h => h
  | .bl _, x, h => h
  | .int _, x, h => h
  | .str _, x, h => h
  | .ref _, x, h => h
  | .exn _ _, x, h => h
  | .ins c l, x, ⟨a, C, dx, xs, e1, n, r, hc, hl⟩ => ⟨a, C, dx, xs, e1, e.dn (rdSome r) n, e.keep a _ r (dn_none n), hc, DenL.ext e l xs hl⟩
  | .tup l, x, ⟨a, xs, e1, ⟨n, r⟩, hl⟩ => ⟨a, xs, e1, ⟨e.dn (rdSome (.inl r)) n, e.keepE a _ r (dn_none n) (fun _ z => by cases z)⟩, DenL.ext e l xs hl⟩
  | .dtt l, x, ⟨a, e1, n, r⟩ => ⟨a, e1, e.dn (rdSome r) n, e.keep a _ r (dn_none n)⟩
  | .lst l, x, ⟨a, xs, e1, h, hl⟩ => ⟨a, xs, e1, h.imp (fun ⟨n, r⟩ => ⟨e.dn (rdSome r) n, e.keep a _ r (dn_none n)⟩) id, DenL.ext e l xs hl⟩
  | .dct l, x, ⟨a, kvs, e1, n, r, hl⟩ => ⟨a, kvs, e1, e.dn (rdSome r) n, e.keep a _ r (dn_none n), DenP.ext e l kvs hl⟩
theorem DenL.ext (e : Ext μ H μ' H') : ∀ (l : List Val) (xs : List V), DenL K (Dn Xc μ) H l xs → DenL K (Dn Xc μ') H' l xs
  | [], xs, h => h
  | v :: r, xs, ⟨x, t, e1, h1, h2⟩ => ⟨x, t, e1, Den.ext e v x h1, DenL.ext e r t h2⟩
theorem DenP.ext (e : Ext μ H μ' H') : ∀ (l : List Val) (kvs : List (Key × V)), DenP K (Dn Xc μ) H l kvs → DenP K (Dn Xc μ') H' l kvs
  | [], kvs, h => h
  | .tup [kv, v] :: r, kvs, ⟨k, x, t, e1, ek, h1, h2⟩ => ⟨k, x, t, e1, ek, Den.ext e v x h1, DenP.ext e r t h2⟩
  | .tup [] :: _, kvs, h => h
  | .tup [_] :: _, kvs, h => h
  | .tup (_ :: _ :: _ :: _) :: _, kvs, h => h
  | .non :: _, kvs, h => h
  | .bl _ :: _, kvs, h => h
  | .int _ :: _, kvs, h => h
  | .str _ :: _, kvs, h => h
  | .lst _ :: _, kvs, h => h
  | .dct _ :: _, kvs, h => h
  | .ref _ :: _, kvs, h => h
  | .exn _ _ :: _, kvs, h => h
  | .ins _ _ :: _, kvs, h => h
  | .dtt _ :: _, kvs, h => h
end
theorem CRel.ext (e : Ext μ H μ' H') {c : Val} {o : HO} (h : CRel K (Dn Xc μ) H c o) : CRel K (Dn Xc μ') H' c o := by
  cases c with
  | lst l => obtain ⟨xs, e1, hl⟩ := h; exact ⟨xs, e1, DenL.ext e l xs hl⟩
  | dct l => obtain ⟨kvs, e1, hl⟩ := h; exact ⟨kvs, e1, DenP.ext e l kvs hl⟩
  | ins c l => obtain ⟨C, dx, xs, e1, hc, hl⟩ := h; exact ⟨C, dx, xs, e1, hc, DenL.ext e l xs hl⟩
  | dtt l => exact h
  | _ => exact h.elim

theorem DenL.length : ∀ {l : List Val} {xs : List V} {D : Addr → Prop}, DenL K D H l xs → l.length = xs.length
  | [], xs, D, h => by rw [show xs = [] from h]; rfl
  | v :: r, xs, D, ⟨x, t, e1, h1, h2⟩ => by rw [e1, List.length_cons, List.length_cons, DenL.length h2]
theorem DenL.get : ∀ {l : List Val} {xs : List V} {D : Addr → Prop} {i : Nat} {v : Val}, DenL K D H l xs → l[i]? = some v → ∃ x, xs[i]? = some x ∧ Den K D H v x
  | [], xs, D, i, v, h, e => by simp at e
  | w :: r, xs, D, 0, v, ⟨x, t, e1, h1, h2⟩, e => by
    simp only [List.getElem?_cons_zero, Option.some.injEq] at e
    subst e; subst e1
    exact ⟨x, rfl, h1⟩
  | w :: r, xs, D, i + 1, v, ⟨x, t, e1, h1, h2⟩, e => by
    subst e1
    obtain ⟨y, e2, h3⟩ := DenL.get (i := i) (v := v) h2 (by simpa using e)
    exact ⟨y, by simpa using e2, h3⟩
theorem DenL.append : ∀ {l r : List Val} {xs ys : List V} {D : Addr → Prop}, DenL K D H l xs → DenL K D H r ys → DenL K D H (l ++ r) (xs ++ ys)
  | [], r, xs, ys, D, h, h' => by rw [show xs = [] from h]; exact h'
  | v :: l, r, xs, ys, D, ⟨x, t, e1, h1, h2⟩, h' => by subst e1; exact ⟨x, t ++ ys, rfl, h1, DenL.append h2 h'⟩
theorem DenL.drop : ∀ {l : List Val} {xs : List V} {D : Addr → Prop} (n : Nat), DenL K D H l xs → DenL K D H (l.drop n) (xs.drop n)
  | l, xs, D, 0, h => h
  | [], xs, D, n + 1, h => by rw [show xs = [] from h]; exact rfl
  | v :: l, xs, D, n + 1, ⟨x, t, e1, h1, h2⟩ => by subst e1; exact DenL.drop n h2
theorem DenL.take : ∀ {l : List Val} {xs : List V} {D : Addr → Prop} (n : Nat), DenL K D H l xs → DenL K D H (l.take n) (xs.take n)
  | l, xs, D, 0, h => rfl
  | [], xs, D, n + 1, h => by rw [show xs = [] from h]; exact rfl
  | v :: l, xs, D, n + 1, ⟨x, t, e1, h1, h2⟩ => by subst e1; exact ⟨x, t.take n, rfl, h1, DenL.take n h2⟩
theorem DenL.set : ∀ {l : List Val} {xs : List V} {D : Addr → Prop} {v : Val} {x : V} (n : Nat), DenL K D H l xs → Den K D H v x → DenL K D H (l.set n v) (xs.set n x)
  | [], xs, D, v, x, n, h, hv => by rw [show xs = [] from h]; exact rfl
  | w :: l, xs, D, v, x, 0, ⟨y, t, e1, h1, h2⟩, hv => by subst e1; exact ⟨x, t, rfl, hv, h2⟩
  | w :: l, xs, D, v, x, n + 1, ⟨y, t, e1, h1, h2⟩, hv => by subst e1; exact ⟨y, t.set n x, rfl, h1, DenL.set n h2 hv⟩
theorem DenL.eraseIdx : ∀ {l : List Val} {xs : List V} {D : Addr → Prop} (n : Nat), DenL K D H l xs → DenL K D H (l.eraseIdx n) (xs.eraseIdx n)
  | [], xs, D, n, h => by rw [show xs = [] from h]; exact rfl
  | w :: l, xs, D, 0, ⟨y, t, e1, h1, h2⟩ => by subst e1; exact h2
  | w :: l, xs, D, n + 1, ⟨y, t, e1, h1, h2⟩ => by subst e1; exact ⟨y, t.eraseIdx n, rfl, h1, DenL.eraseIdx n h2⟩
theorem DenL.dropLast {l : List Val} {xs : List V} {D : Addr → Prop} (h : DenL K D H l xs) : DenL K D H l.dropLast xs.dropLast := by
  rw [List.dropLast_eq_take, List.dropLast_eq_take, h.length]
  exact h.take _
theorem DenL.nil_iff {l : List Val} {xs : List V} {D : Addr → Prop} (h : DenL K D H l xs) : l.isEmpty = xs.isEmpty := by
  cases l with
  | nil => rw [show xs = [] from h]; rfl
  | cons v r => obtain ⟨x, t, e1, _⟩ := h; rw [e1]; rfl

/-! ### a new object -/
theorem Ext.laid {p : Addr} {o : HO} (hp : H p = none) : Ext μ H μ (upd H p o) where
  keepO := fun a u h n => by
    have ne : a ≠ p := fun z => by rw [z, hp] at h; cases h
    rw [upd_ne ne]; exact .inl h
  nonew := fun _ _ n => n
  there := fun a h => by
    by_cases e : a = p
    · rw [e, upd_same]; intro z; cases z
    · rw [upd_ne e]; exact h
theorem MRel.xcn (m : MRel K Xc μ H) {p : Addr} (h : Xc p) (hp : H p = none) : False := by
  obtain ⟨⟨o, e, _⟩, _⟩ := m.xc p h
  rw [hp] at e
  cases e
theorem Nf.upd {a p : Addr} {o : HO} (h : Nf H a) (hp : H p = none) : Nf (upd H p o) a := by
  obtain ⟨u, e, n⟩ := h
  exact ⟨u, by rw [upd_ne (fun z => by rw [z, hp] at e; cases e)]; exact e, n⟩
theorem CRel.nf {D : Addr → Prop} {c : Val} {o : HO} (h : CRel K D H c o) : ∀ ob u, o ≠ .frz ob u := fun ob u z => by
  subst z
  cases c with
  | lst l => obtain ⟨_, e, _⟩ := h; cases e
  | dct l => obtain ⟨_, e, _⟩ := h; cases e
  | ins c l => obtain ⟨_, _, _, e, _⟩ := h; cases e
  | dtt l => cases h
  | _ => exact h.elim
theorem Ext.frz (e : Ext μ H μ' H') (m : MRel K Xc μ H) {a : Addr} {ob : Obj} {u : HO} (h : H a = some (.frz ob u)) : H' a = some (.frz ob u) := by
  refine e.keepE a _ h ?_ (fun _ z => by cases z)
  cases q : μ a with
  | none => rfl
  | some c =>
    obtain ⟨o, e1, r⟩ := m.obj a c q
    rw [h] at e1
    cases e1
    exact (r.nf ob u rfl).elim
theorem MRel.fresh (m : MRel K Xc μ H) {p : Addr} (hp : H p = none) : ¬ Dn Xc μ p := by
  intro z
  rcases z with z | z
  · cases q : μ p with
    | none => rw [q] at z; cases z
    | some c =>
      obtain ⟨o, e, _⟩ := m.obj p c q
      rw [hp] at e; cases e
  · exact m.xcn z hp
theorem MRel.laid (m : MRel K Xc μ H) {p : Addr} {o : HO} (hp : H p = none) : MRel K Xc μ (upd H p o) where
  obj := fun a c h => by
    obtain ⟨u, e, r⟩ := m.obj a c h
    exact ⟨u, by rw [upd_ne (ne_of_none e hp)]; exact e, r.ext (Ext.laid hp)⟩
  xc := fun a h => ⟨(m.xc a h).1.upd hp, (m.xc a h).2⟩
theorem SRel.of_ext {H' : Hp} {μ' : Mu} (s : SRel K Xc σ H env μ) (m : MRel K Xc μ' H') (e : Ext μ H μ' H') : SRel K Xc σ H' env μ' where
  m := m
  slot := fun i v h => by
    obtain ⟨x, e1, d⟩ := s.slot i v h
    exact ⟨x, e1, d.ext e⟩
  len := s.len
theorem SRel.laid (s : SRel K Xc σ H env μ) {p : Addr} {o : HO} (hp : H p = none) : SRel K Xc σ (upd H p o) env μ := s.of_ext (s.m.laid hp) (Ext.laid hp)

theorem Mu.set_same {a : Addr} {c : Val} : (μ.set a c) a = some c := by unfold Mu.set; rw [if_pos rfl]
theorem Mu.set_ne {a b : Addr} {c : Val} (h : b ≠ a) : (μ.set a c) b = μ b := by unfold Mu.set; rw [if_neg h]
theorem Ext.laidM {p : Addr} {o : HO} {c : Val} (hp : H p = none) : Ext μ H (μ.set p c) (upd H p o) where
  keepO := (Ext.laid (μ := μ) hp).keepO
  nonew := fun a h n => by
    have ne : a ≠ p := fun z => h (by rw [z]; exact hp)
    rw [Mu.set_ne ne]; exact n
  there := (Ext.laid (μ := μ) hp).there
theorem MRel.laidM (m : MRel K Xc μ H) {p : Addr} {o : HO} {c : Val} (hp : H p = none) (r : CRel K (Dn Xc μ) H c o) : MRel K Xc (μ.set p c) (upd H p o) where
  obj := fun a c' h => by
    by_cases e : a = p
    · subst e
      rw [Mu.set_same] at h; cases h
      exact ⟨o, upd_same, r.ext (Ext.laidM hp)⟩
    · rw [Mu.set_ne e] at h
      obtain ⟨u, e1, r1⟩ := m.obj a c' h
      exact ⟨u, by rw [upd_ne e]; exact e1, r1.ext (Ext.laidM hp)⟩
  xc := fun a h => ⟨(m.xc a h).1.upd hp, by rw [Mu.set_ne (fun z => by subst z; exact m.xcn h hp)]; exact (m.xc a h).2⟩
theorem SRel.laidM (s : SRel K Xc σ H env μ) {p : Addr} {o : HO} {c : Val} (hp : H p = none) (r : CRel K (Dn Xc μ) H c o) : SRel K Xc σ (upd H p o) env (μ.set p c) := s.of_ext (s.m.laidM hp r) (Ext.laidM hp)

theorem Ext.put {a : Addr} {c c' : Val} {o : HO} (h : μ a = some c) : Ext μ H (μ.set a c') (upd H a o) where
  keepO := fun b u r n => by
    have ne : b ≠ a := fun z => by rw [z, h] at n; cases n
    rw [upd_ne ne]; exact .inl r
  nonew := fun b _ n => by
    have ne : b ≠ a := fun z => by rw [z, h] at n; cases n
    rw [Mu.set_ne ne]; exact n
  there := fun b q => by
    by_cases e : b = a
    · rw [e, upd_same]; intro z; cases z
    · rw [upd_ne e]; exact q
theorem MRel.put (m : MRel K Xc μ H) {a : Addr} {c c' : Val} {o : HO} (h : μ a = some c) (r : CRel K (Dn Xc μ) H c' o) : MRel K Xc (μ.set a c') (upd H a o) where
  obj := fun b d hb => by
    by_cases e : b = a
    · subst e
      rw [Mu.set_same] at hb; cases hb
      exact ⟨o, upd_same, r.ext (Ext.put h)⟩
    · rw [Mu.set_ne e] at hb
      obtain ⟨u, e1, r1⟩ := m.obj b d hb
      exact ⟨u, by rw [upd_ne e]; exact e1, r1.ext (Ext.put h)⟩
  xc := fun b q => by
    obtain ⟨⟨u, e1, n⟩, n2⟩ := m.xc b q
    have e : b ≠ a := fun z => by rw [z, h] at n2; cases n2
    exact ⟨⟨u, by rw [upd_ne e]; exact e1, n⟩, by rw [Mu.set_ne e]; exact n2⟩
theorem SRel.put (s : SRel K Xc σ H env μ) {a : Addr} {c c' : Val} {o : HO} (h : μ a = some c) (r : CRel K (Dn Xc μ) H c' o) : SRel K Xc σ (upd H a o) env (μ.set a c') := s.of_ext (s.m.put h r) (Ext.put h)

/-! ### what is seen of a value -/
theorem MRel.lst (m : MRel K Xc μ H) {v : Val} {x : V} {l : List Val} (d : Den K (Dn Xc μ) H v x) (h : content μ v = some (.lst l)) : ∃ a xs, x = .ref a ∧ SqL K H a xs ∧ DenL K (Dn Xc μ) H l xs := by
  cases v with
  | ref a =>
    obtain ⟨o, e, xs, e1, hl⟩ := m.obj a _ h
    subst e1
    exact ⟨a, xs, d, SqL.of e, hl⟩
  | lst l' =>
    cases h
    obtain ⟨a, xs, e1, q, hl⟩ := d
    refine ⟨a, xs, e1, ?_, hl⟩
    rcases q with ⟨_, q⟩ | q
    · exact .inl q
    · exact .inr q
  | _ => cases h
theorem MRel.lstM (m : MRel K Xc μ H) {a : Addr} {l : List Val} (h : μ a = some (.lst l)) : ∃ xs, H a = some (.lst xs) ∧ DenL K (Dn Xc μ) H l xs := by
  obtain ⟨o, e, xs, e1, hl⟩ := m.obj a _ h
  subst e1
  exact ⟨xs, e, hl⟩
theorem MRel.dctM (m : MRel K Xc μ H) {a : Addr} {l : List Val} (h : μ a = some (.dct l)) : ∃ kvs, H a = some (.dK kvs) ∧ DenP K (Dn Xc μ) H l kvs := by
  obtain ⟨o, e, kvs, e1, hl⟩ := m.obj a _ h
  subst e1
  exact ⟨kvs, e, hl⟩
theorem MRel.tup (m : MRel K Xc μ H) {v : Val} {x : V} {l : List Val} (d : Den K (Dn Xc μ) H v x) (h : content μ v = some (.tup l)) : ∃ a xs, x = .ref a ∧ SqT K H a xs ∧ DenL K (Dn Xc μ) H l xs := by
  cases v with
  | ref a =>
    obtain ⟨o, e, r⟩ := m.obj a _ h
    exact r.elim
  | tup l' =>
    cases h
    obtain ⟨a, xs, e1, q, hl⟩ := d
    exact ⟨a, xs, e1, .inl (.inl q.2), hl⟩
  | _ => cases h
theorem MRel.dct (m : MRel K Xc μ H) {v : Val} {x : V} {l : List Val} (d : Den K (Dn Xc μ) H v x) (h : content μ v = some (.dct l)) : ∃ a kvs, x = .ref a ∧ Rd H a (.dK kvs) ∧ DenP K (Dn Xc μ) H l kvs := by
  cases v with
  | ref a =>
    obtain ⟨o, e, kvs, e1, hl⟩ := m.obj a _ h
    subst e1
    exact ⟨a, kvs, d, .inl e, hl⟩
  | dct l' =>
    cases h
    obtain ⟨a, kvs, e1, n, q, hl⟩ := d
    exact ⟨a, kvs, e1, q, hl⟩
  | _ => cases h
theorem MRel.flat (m : MRel K Xc μ H) {v w : Val} {x : V} (d : Den K (Dn Xc μ) H v x) (h : content μ v = some w) (hw : match w with | .non | .bl _ | .int _ | .str _ => True | _ => False) : Den K (Dn Xc μ) H w x := by
  cases v with
  | ref a =>
    obtain ⟨o, e, r⟩ := m.obj a _ h
    cases w <;> first | exact r.elim | exact hw.elim
  | _ => cases h; exact d
end
end Mi
/-! Mi3: the language's expressions against the layer's judgements. -/
namespace Mi
open PySem PySem.Spec PyProof.Rows L2

/-! ### readings -/
def excNames : List String := ["FoldError", "Twice", "NoDeed", "WrongCount", "TooDeep", "TooLong", "TooBig", "NoCall", "NoMark", "TooMany", "Called", "NoWay", "NoRow", "NoBack", "Broken", "Ringed", "BadRun", "NoText"]
structure IsExc (K : Fr) (mg : Str → Option Value) (c : String) : Prop where
  ex : ∀ cls, mg (Str.ofString c) = some cls → ∀ h ∈ excNames, ∀ c', mg (Str.ofString h) = some c' → PySem.W.exmOne K cls c' = some (isSub c h)
  kit : ∀ cls, mg (Str.ofString c) = some cls → ∃ D, cls = .ref D ∧ ExcC K D ∧ (∀ h ∈ excNames, ∀ c', mg (Str.ofString h) = some c' → (∃ C, c' = .ref C) ∧ PySem.W.kitOne K cls c' = some (isSub c h)) ∧ PySem.W.kitOne K cls (.type "ValueError") = some true
def ExR (K : Fr) (mg : Str → Option Value) (e : Val) (cls : Value) (d : Option Addr) : Prop := ∃ c, e = .exn c [] ∧ mg (Str.ofString c) = some cls ∧ IsExc K mg c ∧ d = none
section
variable (K : Fr) (mg : Str → Option Value) (W : WX) (Xc : Addr → Prop) (σ : List (Option V)) (H : Hp) (env : Env) (μ : Mu)
def EPost (Q : VK) : Val → Mu → Prop := fun v μ' => ∀ x H', SRel K Xc σ H' env μ' → Ext μ H μ' H' → Den K (Dn Xc μ') H' v x → Q x H'
def LPost (Q : List V → Hp → Prop) : List Val → Mu → Prop := fun vs μ' => ∀ xs H', SRel K Xc σ H' env μ' → Ext μ H μ' H' → DenL K (Dn Xc μ') H' vs xs → Q xs H'
def TPost (Q : Bool → Hp → Prop) : Val → Mu → Prop := fun v μ' => match truthV μ' v with
  | some b => ∀ H', SRel K Xc σ H' env μ' → Ext μ H μ' H' → Q b H'
  | none => False
def XPost : XQ := fun e μ' => ∀ cls d H', SRel K Xc σ H' env μ' → Ext μ H μ' H' → ExR K mg e cls d → W cls d σ H'
end
def rdE (K : Fr) (mg : Str → Option Value) (Φ : Ph) (W : WX) (e : E) : TE := fun σ H Q => ∃ Xc env μ, SRel K Xc σ H env μ ∧ wpE Φ e env μ (EPost K Xc σ H env μ Q) (XPost K mg W Xc σ H env μ)
def rdA (K : Fr) (mg : Str → Option Value) (Φ : Ph) (W : WX) (l : Es) : TA := fun σ H Q => ∃ Xc env μ, SRel K Xc σ H env μ ∧ wpEs Φ l env μ (LPost K Xc σ H env μ Q) (XPost K mg W Xc σ H env μ)
def rdT (K : Fr) (mg : Str → Option Value) (Φ : Ph) (W : WX) (e : E) : TT := fun σ H Q => ∃ Xc env μ, SRel K Xc σ H env μ ∧ wpE Φ e env μ (TPost K Xc σ H env μ Q) (XPost K mg W Xc σ H env μ)

def NewRel (K : Fr) (D : Addr → Prop) (H : Hp) (v : Val) (o : HO) : Prop := match v with
  | .tup l => ∃ xs, o = .tup xs ∧ DenL K D H l xs
  | v => CRel K D H v o
def FPost (K : Fr) (Xc : Addr → Prop) (σ : List (Option V)) (H : Hp) (env : Env) (μ : Mu) (Q : VK) : Val → Mu → Prop := fun v μ' => ∀ p o H1, SRel K Xc σ H1 env μ' → Ext μ H μ' H1 → H1 p = none → NewRel K (Dn Xc μ') H1 v o → Q (.ref p) (upd H1 p o)
def rdF (K : Fr) (mg : Str → Option Value) (Φ : Ph) (W : WX) (e : E) : TE := fun σ H Q => ∃ Xc env μ, SRel K Xc σ H env μ ∧ wpE Φ e env μ (FPost K Xc σ H env μ Q) (XPost K mg W Xc σ H env μ)

abbrev SE (X : Cx) (Φ : Ph) (W : WX) (a : Expr) (e : E) : Prop := PE X a (rdE X.K X.mg Φ W e)
abbrev SA (X : Cx) (Φ : Ph) (W : WX) (a : List Expr) (e : Es) : Prop := PA X a (rdA X.K X.mg Φ W e)
abbrev ST (X : Cx) (Φ : Ph) (W : WX) (a : Expr) (e : E) : Prop := PT X a (rdT X.K X.mg Φ W e)
abbrev SW (X : Cx) (Φ : Ph) (W : WX) (a : Expr) (e : E) : Prop := PW X a (rdT X.K X.mg Φ W e)
abbrev SF (X : Cx) (Φ : Ph) (W : WX) (a : Expr) (e : E) : Prop := PE X a (rdF X.K X.mg Φ W e)

theorem PE.imp {X : Cx} {a : Expr} {t t' : TE} (h : PE X a t) (f : ∀ σ H Q, t' σ H Q → t σ H Q) : PE X a t' := ⟨fun pins s σ H Q I q => h.run pins s σ H Q I (f _ _ _ q)⟩
theorem PA.imp {X : Cx} {a : List Expr} {t t' : TA} (h : PA X a t) (f : ∀ σ H Q, t' σ H Q → t σ H Q) : PA X a t' := ⟨fun pos pins s σ H Q I q => h.run pos pins s σ H Q I (f _ _ _ q)⟩
theorem PT.imp {X : Cx} {a : Expr} {t t' : TT} (h : PT X a t) (f : ∀ σ H Q, t' σ H Q → t σ H Q) : PT X a t' := ⟨fun pins s σ H Q I q => h.run pins s σ H Q I (f _ _ _ q)⟩
theorem PW.imp {X : Cx} {a : Expr} {t t' : TT} (h : PW X a t) (f : ∀ σ H Q, t' σ H Q → t σ H Q) : PW X a t' := ⟨fun wh pins s σ H Q I q => h.run wh pins s σ H Q I (f _ _ _ q)⟩

section
variable {K : Fr} {mg : Str → Option Value} {Φ : Ph} {W : WX} {Xc : Addr → Prop} {σ : List (Option V)} {H H0 : Hp} {env : Env} {μ μ0 : Mu}
theorem XPost.from {e : Val} {μ' : Mu} (E0 : Ext μ0 H0 μ H) (h : XPost K mg W Xc σ H0 env μ0 e μ') : XPost K mg W Xc σ H env μ e μ' := fun cls d H' S E r => h cls d H' S (E0.trans E) r
theorem use (hΦ : MonoP Φ) {e : E} {F : Val → Mu → Prop} {R : VK} (S : SRel K Xc σ H env μ) (E0 : Ext μ0 H0 μ H) (q : wpE Φ e env μ F (XPost K mg W Xc σ H0 env μ0))
    (k : ∀ v μ1 x H1, SRel K Xc σ H1 env μ1 → Ext μ H μ1 H1 → Ext μ0 H0 μ1 H1 → Den K (Dn Xc μ1) H1 v x → F v μ1 → R x H1) : rdE K mg Φ W e σ H R :=
  ⟨Xc, env, μ, S, wpE_mono hΦ e env μ _ _ _ _ (fun v μ1 f x H1 S1 E1 d => k v μ1 x H1 S1 E1 (E0.trans E1) d f) (fun v μ1 f => XPost.from E0 f) q⟩
theorem useT (hΦ : MonoP Φ) {e : E} {F : Val → Mu → Prop} {R : Bool → Hp → Prop} (S : SRel K Xc σ H env μ) (E0 : Ext μ0 H0 μ H) (q : wpE Φ e env μ F (XPost K mg W Xc σ H0 env μ0))
    (t : ∀ v μ1, F v μ1 → truthV μ1 v ≠ none)
    (k : ∀ v μ1 b H1, SRel K Xc σ H1 env μ1 → Ext μ0 H0 μ1 H1 → truthV μ1 v = some b → F v μ1 → R b H1) : rdT K mg Φ W e σ H R :=
  ⟨Xc, env, μ, S, wpE_mono hΦ e env μ _ _ _ _ (fun v μ1 f => by
      unfold TPost
      cases hb : truthV μ1 v with
      | none => exact (t v μ1 f hb).elim
      | some b => exact fun H1 S1 E1 => k v μ1 b H1 S1 (E0.trans E1) hb f) (fun v μ1 f => XPost.from E0 f) q⟩
theorem useA (hΦ : MonoP Φ) {l : Es} {F : List Val → Mu → Prop} {R : List V → Hp → Prop} (S : SRel K Xc σ H env μ) (E0 : Ext μ0 H0 μ H) (q : wpEs Φ l env μ F (XPost K mg W Xc σ H0 env μ0))
    (k : ∀ vs μ1 xs H1, SRel K Xc σ H1 env μ1 → Ext μ H μ1 H1 → Ext μ0 H0 μ1 H1 → DenL K (Dn Xc μ1) H1 vs xs → F vs μ1 → R xs H1) : rdA K mg Φ W l σ H R :=
  ⟨Xc, env, μ, S, wpEs_mono hΦ l env μ _ _ _ _ (fun v μ1 f x H1 S1 E1 d => k v μ1 x H1 S1 E1 (E0.trans E1) d f) (fun v μ1 f => XPost.from E0 f) q⟩

theorem NewRel.den {v : Val} {o : HO} {p : Addr} (m : MRel K Xc μ H) (hp : H p = none) (r : NewRel K (Dn Xc μ) H v o) : Den K (Dn Xc μ) (upd H p o) v (.ref p) := by
  have n := m.fresh hp
  have e : Ext μ H μ (upd H p o) := Ext.laid hp
  cases v with
  | tup l => obtain ⟨xs, rfl, h⟩ := r; exact ⟨p, xs, rfl, ⟨n, upd_same⟩, h.ext e⟩
  | dtt l => obtain rfl : o = .dT (ttK l) := r; exact ⟨p, rfl, n, .inl upd_same⟩
  | lst l => obtain ⟨xs, rfl, h⟩ := r; exact ⟨p, xs, rfl, .inl ⟨n, .inl upd_same⟩, h.ext e⟩
  | dct l => obtain ⟨xs, rfl, h⟩ := r; exact ⟨p, xs, rfl, n, .inl upd_same, h.ext e⟩
  | ins c l => obtain ⟨C, dx, xs, rfl, hc, h⟩ := r; exact ⟨p, C, dx, xs, rfl, n, .inl upd_same, hc, h.ext e⟩
  | _ => exact r.elim
theorem EPost.new {Q : VK} {v : Val} {μ' : Mu} (q : EPost K Xc σ H env μ Q v μ') : FPost K Xc σ H env μ Q v μ' := fun p o H1 S E hp r => q _ _ (S.laid hp) (E.trans (Ext.laid hp)) (r.den S.m hp)
end

section
variable {X : Cx} {Φ : Ph} {W : WX} {a b c : Expr} {pos : Pos}
theorem SF.val (hΦ : MonoP Φ) {e : E} (h : SF X Φ W a e) : SE X Φ W a e := PE.imp h fun σ H Q ⟨Xc, env, μ, S, q⟩ => ⟨Xc, env, μ, S, wpE_mono hΦ e env μ _ _ _ _ (fun v μ1 f => f.new) (fun _ _ z => z) q⟩
theorem SF.new (hΦ : MonoP Φ) {e : E} (h : SF X Φ W a e) : SE X Φ W a (.new e) := PE.imp h fun σ H Q ⟨Xc, env, μ, S, q⟩ => ⟨Xc, env, μ, S, wpE_mono hΦ e env μ _ _ _ _ (fun v μ1 f p o H1 S1 E1 hp r => by
    obtain ⟨hc, k⟩ := f
    have hm : μ1 p = none := dn_none (S1.m.fresh hp)
    have r' : CRel X.K (Dn Xc μ1) H1 v o := by
      cases v with
      | lst l => exact r
      | dct l => exact r
      | dtt l => exact r
      | _ => cases hc
    exact k p hm _ _ (S1.laidM hp r') (E1.trans (Ext.laidM hp)) rfl) (fun _ _ z => z) q⟩

/-! ### names, constants -/
theorem se_v {i : Nat} {x : Str} (h : PE X (.Name x pos) (tVar i)) : SE X Φ W (.Name x pos) (.v i) := PE.imp h fun σ H Q ⟨Xc, env, μ, S, q⟩ => by
  simp only [wpE] at q
  split at q
  · rename_i v hv
    obtain ⟨x, e, d⟩ := S.slot i v hv
    exact ⟨x, e, q x H S Ext.refl d⟩
  · exact q.elim
theorem se_int {i j} : SE X Φ W (.Constant (.int i) j pos) (.c (.int i)) := PE.imp pe_int fun σ H Q ⟨Xc, env, μ, S, q⟩ => q _ H S Ext.refl rfl
theorem se_bl {i j} : SE X Φ W (.Constant (.bool i) j pos) (.c (.bl i)) := PE.imp pe_bl fun σ H Q ⟨Xc, env, μ, S, q⟩ => q _ H S Ext.refl rfl
theorem se_non {j} : SE X Φ W (.Constant .none j pos) (.c .non) := PE.imp pe_non fun σ H Q ⟨Xc, env, μ, S, q⟩ => q _ H S Ext.refl rfl
theorem se_str {x : Str} {j} (h : PyData.strOk x = true) : SE X Φ W (.Constant (.str x) j pos) (.c (.str x)) := PE.imp pe_str fun σ H Q ⟨Xc, env, μ, S, q⟩ => q _ H S Ext.refl ⟨rfl, h⟩

/-! ### argument lists, displays -/
theorem sa_nil : SA X Φ W [] .nil := PA.imp pa_nil fun σ H Q ⟨Xc, env, μ, S, q⟩ => q _ H S Ext.refl rfl
theorem sa_cons (hΦ : MonoP Φ) {es : List Expr} {e : E} {l : Es} (ha : SE X Φ W a e) (hr : SA X Φ W es l) (hs : starEach (a :: es) X.env = (false, eval a X.env) :: starEach es X.env := by rfl) : SA X Φ W (a :: es) (.cons e l) :=
  PA.imp (pa_cons ha hr hs) fun σ H Q ⟨Xc, env, μ, S, q⟩ => by
    rw [wpEs] at q
    exact use hΦ S Ext.refl q fun v μ1 x H1 S1 E1 _ d q1 => useA hΦ S1 E1 q1 fun vs μ2 xs H2 S2 E2 E2' d2 q2 => q2 (x :: xs) H2 S2 E2' ⟨x, xs, rfl, d.ext E2, d2⟩
theorem len_line {l : List Val} {xs : List V} {K : Fr} {D : Addr → Prop} {H : Hp} (h : DenL K D H l xs) (n : Nat) (hl : l.length = n) (hn : n ≤ 1000) : xs.length ≤ sizeLine := by
  rw [← h.length, hl, sizeLine_eq]; omega
def Es.len : Es → Nat
  | .nil => 0
  | .cons _ r => r.len + 1
theorem wpEs_len (hΦ : MonoP Φ) : ∀ (l : Es) (env : Env) (μ : Mu) (F : List Val → Mu → Prop) (Y : XQ), wpEs Φ l env μ F Y → wpEs Φ l env μ (fun vs μ' => vs.length = l.len ∧ F vs μ') Y
  | .nil, env, μ, F, Y, q => ⟨rfl, q⟩
  | .cons e r, env, μ, F, Y, q => by
    rw [wpEs] at q ⊢
    exact wpE_mono hΦ e env μ _ _ _ _ (fun v μ1 q1 => wpEs_mono hΦ r env μ1 _ _ _ _ (fun vs μ2 z => ⟨by rw [List.length_cons, z.1]; rfl, z.2⟩) (fun _ _ z => z) (wpEs_len hΦ r env μ1 _ _ q1)) (fun _ _ z => z) q
theorem sf_lst (hΦ : MonoP Φ) {es : List Expr} {l : Es} (h : SA X Φ W es l) (hl : l.len ≤ 1000 := by decide) : SF X Φ W (.List es pos) (.lst l) :=
  PE.imp (pe_lst h) fun σ H Q ⟨Xc, env, μ, S, q⟩ => by
    rw [wpE] at q
    exact useA hΦ S Ext.refl (wpEs_len hΦ l env μ _ _ q) fun vs μ1 xs H1 S1 E1 _ d ⟨n, q1⟩ => ⟨len_line d _ n hl, fun p hp => q1 p _ H1 S1 E1 hp ⟨xs, rfl, d⟩⟩
theorem se_tup (hΦ : MonoP Φ) {es : List Expr} {l : Es} {k} (h : SA X Φ W es l) (hl : l.len ≤ 1000 := by decide) : SE X Φ W (.Tuple es k pos) (.tup l) := by
  refine SF.val hΦ (PE.imp (pe_tup h) fun σ H Q ⟨Xc, env, μ, S, q⟩ => ?_)
  rw [wpE] at q
  exact useA hΦ S Ext.refl (wpEs_len hΦ l env μ _ _ q) fun vs μ1 xs H1 S1 E1 _ d ⟨n, q1⟩ => ⟨len_line d _ n hl, fun p hp => q1 p _ H1 S1 E1 hp ⟨xs, rfl, d⟩⟩
theorem sf_dct0 : SF X Φ W (.Dict [] [] pos) (.dct .nil) := PE.imp pe_dnewK fun σ H Q ⟨Xc, env, μ, S, q⟩ => fun p hp => q p _ H S Ext.refl hp ⟨[], rfl, rfl⟩
end
end Mi
/-! Mi3b: text times int, list times int. -/
namespace Mi
open PySem PySem.Spec PyProof.Rows L2
open AutoSeq1 (wpAny_loadPart')

theorem list_mulW (l : Addr) (items : Array Value) (n : Nat) (dd : Option Addr) (sl : Array (Option Value)) (x : Int) (u : Tok) (hc0 : ¬(!Builtin.List.listFitsIndex x) = true) (hc1 : ¬items.size * x.toNat > (2 ^ 63 - 1) / 8) (hc2 : ¬Builtin.List.listTooLong (items.size * x.toNat) = true) :
    Meets (Builtin.«list.__mul__» ⟨[.ref l, .int x u], []⟩) (fun _ R s => s.heap.get? l = some { cls := .type "list", dict := dd, data := .seq items n, slots := sl } ∧ R (.ok (.ret (Value.ref s.heap.objs.size))) { s with heap := s.heap.push { cls := Value.type "list", data := Data.seq (List.foldl (fun x1 x2 => x1 ++ x2) #[] (List.replicate (if items.isEmpty = true then 0 else x.toNat) items)) }, toks := s.toks }) :=
  .of_wp fun prog w A R s h => by
    obtain ⟨hp, g, d, tk, os⟩ := s; obtain ⟨hl, h⟩ := h
    have hsz := PySem.AutoListH.joined_fits hc2
    wp_walk using wpAny_loadPart' hl; refine wpAny_ite_false (decide_eq_false (Nat.not_lt.mpr hsz)) ?_; wp_walk; exact ⟨_, rfl, h⟩
theorem int_rmulW (a : Int) (t : Tok) (l : Addr) (items : Array Value) (n : Nat) (dd : Option Addr) (sl : Array (Option Value)) :
    Meets (Builtin.«int.__rmul__» ⟨[.int a t, .ref l], []⟩) (fun _ R s => s.heap.get? l = some { cls := .type "list", dict := dd, data := .seq items n, slots := sl } ∧ R (.ok (.ret Value.notImplemented)) s) :=
  .of_wp fun prog w A R s h => by obtain ⟨hp, g, d, tk, os⟩ := s; obtain ⟨hl, h⟩ := h; wp_walk using wpAny_loadPart' hl; exact ⟨_, rfl, h⟩
section
variable {X : Cx}
def rRepR (K : Fr) : R2 := fun x y H Q => ∃ l k xs, x = .ref l ∧ y = .int k ∧ SqL K H l xs ∧ -(2 ^ 63) ≤ k ∧ k < 2 ^ 63 ∧ xs.length * k.toNat ≤ sizeLine ∧
  ∀ p, H p = none → Q (.ref p) (upd H p (.lst (List.replicate k.toNat xs).flatten))
theorem op_repR : OpR X (binaryOp .Mult) (rRepR X.K) := by
  intro pins s σ H x y v u Q I rx ry h
  obtain ⟨l, k, xs, rfl, rfl, hH, h1, h2, hz, q⟩ := h
  cases rx
  obtain ⟨t, rfl⟩ := ry
  obtain ⟨its, r, hl, z⟩ := I.list hH
  have el := r.length
  obtain ⟨⟨cls, dd, data, sl⟩, ho, hc, n, hd⟩ := id hl.isList
  simp only at hc hd
  subst hc hd
  have hlen : its.toArray.size * k.toNat ≤ sizeLine := by rw [List.size_toArray, ← el]; exact hz
  have hcap : ¬ its.toArray.size * k.toNat > (2 ^ 63 - 1) / 8 := by
    have : (sizeLine : Nat) ≤ (2 ^ 63 - 1) / 8 := by decide
    omega
  have hfit : ¬ (!Builtin.List.listFitsIndex k) = true := by
    rw [fitsIndex_both h1 h2]
    exact Bool.false_ne_true
  have hlong : ¬ Builtin.List.listTooLong (its.toArray.size * k.toNat) = true := by
    rw [notLongL hlen]
    exact Bool.false_ne_true
  have hnew : List.foldl (fun x1 x2 => x1 ++ x2) #[] (List.replicate (if its.toArray.isEmpty = true then 0 else k.toNat) its.toArray) = (List.replicate k.toNat its).flatten.toArray := by
    have f0 : ∀ m : Nat, List.foldl (fun x1 x2 => x1 ++ x2) #[] (List.replicate m its.toArray) = (List.replicate m its).flatten.toArray := fun m => by
      have := foldl_rep its m []
      rw [List.nil_append] at this
      exact this
    rw [f0]
    cases its with
    | nil => simp
    | cons a r' => rw [if_neg (by simp)]
  refine wpAny_binaryOp_repeat_ref (T := "list") (U := "int") (by decide) ⟨_, ho, rfl⟩ (fun s' => typeIs_int s' k t) noFill_list_mul F.fills_int_mul F.slot_int_rmul repeat_list F.slot_int_index.lookup
    (call_meets F.slot_int_rmul (typeIs_int s k t) F.entry_int_rmul (F.args_int_rmul_2 _ _) (int_rmulW k t l its.toArray n dd sl)
      ⟨ho, rfl, ⟨_, ho, rfl⟩, call_meets F.slot_list_mul ⟨_, ho, rfl⟩ F.entry_list_mul (F.args_list_mul_2 _ _) (list_mulW l its.toArray n dd sl k t hfit hcap hlong) ⟨ho, ?_⟩⟩)
  rw [hnew]
  exact ⟨.ref _, _, I.lnew (t' := s.toks) (r.rep k.toNat) (by rw [PyProof.Rows.lm_len_rep_flat, Nat.mul_comm]; exact hz), rfl, q _ I.fresh⟩

theorem foldl_repS (its : List Nat) : ∀ (k : Nat) (acc : List Nat),
    List.foldl (fun x1 x2 => x1 ++ x2) acc.toArray (List.replicate k its.toArray) = (acc ++ (List.replicate k its).flatten).toArray
  | 0, acc => by simp
  | k + 1, acc => by
    have e : acc.toArray ++ its.toArray = (acc ++ its).toArray := by simp
    have e2 : (acc ++ its) ++ (List.replicate k its).flatten = acc ++ (List.replicate (k + 1) its).flatten := by
      rw [List.replicate_succ, List.flatten_cons, List.append_assoc]
    rw [← e2, ← foldl_repS its k (acc ++ its), ← e, List.replicate_succ, List.foldl_cons]
end
section
variable {X : Cx}
def rRepS : R2 := fun x y H Q => ∃ a k, x = .str a ∧ y = .int k ∧ 1 ≤ k ∧ k < 2 ^ 62 ∧ a.length * k.toNat ≤ sizeLine ∧ Q (.str ⟨(List.replicate k.toNat a.cps.toList).flatten.toArray⟩) H
theorem op_repS : OpR X (binaryOp .Mult) rRepS := by
  intro pins s σ H x y v u Q I rx ry h
  obtain ⟨a, k, rfl, rfl, h1, h2, hz, q⟩ := h
  obtain ⟨t, rfl⟩ := rx
  obtain ⟨t', rfl⟩ := ry
  have hs : (sizeLine : Nat) < 2 ^ 25 := by decide
  have ea : ⟨(List.replicate k.toNat a.cps.toList).flatten.toArray⟩ = (⟨(List.replicate k.toNat a.cps).foldl (· ++ ·) #[]⟩ : Str) := by
    have := foldl_repS a.cps.toList k.toNat []
    rw [List.nil_append] at this
    rw [← this]
  refine PySem.P.mul_str ?_ (fun _ hc => ?_) (fun _ _ => ?_) ?_
  · rw [decide_eq_false (by omega), decide_eq_false (by omega)]; rfl
  · have hk : (0 : Int) < k := by omega
    intro hgt
    have h3 := (Int.ediv_lt_iff_lt_mul hk).mp hgt
    have h4 : ((a.length * k.toNat : Nat) : Int) = (a.length : Int) * k := by
      rw [Int.natCast_mul, Int.toNat_of_nonneg (by omega)]
    omega
  · unfold Builtin.Str.tooLong
    exact decide_eq_false (by omega)
  · rw [if_neg (by omega)]
    have hfit : (⟨(List.replicate k.toNat a.cps).foldl (· ++ ·) #[]⟩ : Str).length ≤ sizeLine := by
      rw [← ea]
      show (List.replicate k.toNat a.cps.toList).flatten.toArray.size ≤ sizeLine
      rw [List.size_toArray, PyProof.Rows.lm_len_rep_flat]
      show k.toNat * a.cps.toList.length ≤ sizeLine
      rw [Array.length_toList, Nat.mul_comm]
      exact hz
    split
    · rename_i hc
      have : a = (⟨(List.replicate k.toNat a.cps.toList).flatten.toArray⟩ : Str) := by
        rcases (Bool.or_eq_true _ _).mp hc with z | z
        · have : k = 1 := by simpa using z
          subst this
          cases a
          simp
        · have z0 : a.length = 0 := by simpa using z
          have : a.cps = #[] := Array.eq_empty_of_size_eq_zero z0
          cases a
          simp only at this
          subst this
          simp
      rw [← this] at q
      exact ⟨.str a, H, I, ⟨_, rfl⟩, q⟩
    · refine ⟨hfit, ?_⟩
      rw [← ea]
      exact ⟨.str _, H, I.tok _, ⟨_, rfl⟩, q⟩
end
end Mi
/-! Mi4: operators. -/
namespace Mi
open PySem PySem.Spec PyProof.Rows L2

structure Fin (K : Fr) (D : Addr → Prop) (H : Hp) (r : Val) (Q : VK) : Prop where
  now : ∀ x, Den K D H r x → Q x H
  new : ∀ p o, H p = none → NewRel K D H r o → Q (.ref p) (upd H p o)
theorem big_line : big = sizeLine := by rw [sizeLine_eq]; rfl

section
variable {K : Fr} {W : WX} {Xc : Addr → Prop} {σ : List (Option V)} {H H0 : Hp} {env : Env} {μ μ0 : Mu}
theorem EPost.fin {Q : VK} {v : Val} (q : EPost K Xc σ H0 env μ0 Q v μ) (S : SRel K Xc σ H env μ) (E : Ext μ0 H0 μ H) : Fin K (Dn Xc μ) H v Q :=
  ⟨fun x d => q x H S E d, fun p o hp r => q.new p o H S E hp r⟩
theorem FPost.fin {Q : VK} {v : Val} (q : FPost K Xc σ H0 env μ0 Q v μ) (S : SRel K Xc σ H env μ) (E : Ext μ0 H0 μ H) {p : Addr} {o : HO} (hp : H p = none) (r : NewRel K (Dn Xc μ) H v o) : Q (.ref p) (upd H p o) := q p o H S E hp r
theorem DenL.nil_l {D : Addr → Prop} {l : List Val} (h : DenL K D H l []) : l = [] := by
  cases l with
  | nil => rfl
  | cons _ _ => obtain ⟨_, _, h, _⟩ := h; cases h
theorem MRel.int (m : MRel K Xc μ H) {v : Val} {x : V} {i : Int} (d : Den K (Dn Xc μ) H v x) (h : content μ v = some (.int i)) : x = .int i := m.flat d h trivial
theorem MRel.strV (m : MRel K Xc μ H) {v : Val} {x : V} {i : Str} (d : Den K (Dn Xc μ) H v x) (h : content μ v = some (.str i)) : x = .str i ∧ PyData.strOk i = true := m.flat d h trivial
end

section
variable {X : Cx} {pins : List (Addr × Obj)} {σ : List (Option V)} {H : Hp} {s : Shared} {l : Addr} {xs : List V}
def rCatR (K : Fr) : R2 := fun x y H Q => ∃ l b xs zs, x = .ref l ∧ y = .ref b ∧ SqL K H l xs ∧ SqL K H b zs ∧ xs.length + zs.length ≤ sizeLine ∧ ∀ p, H p = none → Q (.ref p) (upd H p (.lst (xs ++ zs)))
theorem op_catR : OpR X (binaryOp .Add) (rCatR X.K) := by
  intro pins s σ H x y v u Q I rx ry h
  obtain ⟨l, b, xs, zs, rfl, rfl, hH, hB, hz, q⟩ := h
  cases rx
  cases ry
  obtain ⟨its, r, hl, z⟩ := I.list hH
  obtain ⟨its2, r2, hl2, z2⟩ := I.list hB
  have el := r.length
  have el2 := r2.length
  obtain ⟨⟨cls, dd, data, sl⟩, ho, hc, n, hd⟩ := id hl.isList
  obtain ⟨⟨cls2, dd2, data2, sl2⟩, ho2, hc2, n2, hd2⟩ := id hl2.isList
  simp only at hc hd hc2 hd2
  subst hc hd hc2 hd2
  have ea : its.toArray ++ its2.toArray = (its ++ its2).toArray := by simp
  refine concat_meets ⟨_, ho, rfl⟩ ⟨_, ho2, rfl⟩ noFill_list_add seq_list_add PySem.F.slot_list_add PySem.F.entry_list_add (PySem.F.args_list_add_2 _ _) (list_addW l b its.toArray its2.toArray n n2 dd dd2 sl sl2 (by rw [List.size_toArray, List.size_toArray]; omega)) ⟨ho, ho2, ?_⟩
  rw [ea]
  exact ⟨.ref _, _, I.lnew (t' := s.toks) (r.append r2) (by rw [List.length_append]; omega), rfl, q _ I.fresh⟩
end

theorem strOk_append {a b : Str} (ha : PyData.strOk a = true) (hb : PyData.strOk b = true) : PyData.strOk (a ++ b) = true := by
  unfold PyData.strOk at *
  show ((a.cps ++ b.cps).all _) = true
  rw [Array.all_append, ha, hb]; rfl

theorem all_rep {p : Nat → Bool} {l : List Nat} (h : l.all p = true) : ∀ k : Nat, (List.replicate k l).flatten.all p = true
  | 0 => rfl
  | k + 1 => by rw [List.replicate_succ, List.flatten_cons, List.all_append, h, all_rep h k]; rfl
theorem strOk_rep {a : Str} (k : Int) (ha : PyData.strOk a = true) : PyData.strOk (repS a k) = true := by
  unfold PyData.strOk at *
  show ((List.replicate k.toNat a.cps.toList).flatten.toArray.all _) = true
  rw [List.all_toArray]
  rw [← Array.all_toList] at ha
  exact all_rep ha _
theorem DenL.rep {K : Fr} {D : Addr → Prop} {H : Hp} {l : List Val} {xs : List V} (h : DenL K D H l xs) : ∀ k : Nat, DenL K D H (List.replicate k l).flatten (List.replicate k xs).flatten
  | 0 => rfl
  | k + 1 => by
    rw [List.replicate_succ, List.flatten_cons, List.replicate_succ, List.flatten_cons]
    exact h.append (h.rep k)

def pyOp : Op → Operator
  | .add => .Add
  | .sub => .Sub
  | .mul => .Mult
  | .mod => .Mod
  | .fdiv => .FloorDiv
  | .pow => .Pow

section
variable {X : Cx} {Φ : Ph} {W : WX} {a b c : Expr} {pos : Pos}
def rBin (K : Fr) (o : Op) : R2 := fun x y H Q => ∃ Xc μ v w r, MRel K Xc μ H ∧ Den K (Dn Xc μ) H v x ∧ Den K (Dn Xc μ) H w y ∧ binV μ o v w = some r ∧ Fin K (Dn Xc μ) H r Q
theorem op_fdivW : OpR X (binaryOp .FloorDiv) (rI (fun _ j => j ≠ 0 ∧ (j.natAbs < 1073741824 ∨ wideD j = true)) fun i j => .int (i.fdiv j)) := opI fun _ _ _ _ _ _ _ hc q => floordiv_int hc.1 q (.inl (PyProof.noPylong_of_log2 (by
  have h0 := hc.1
  have h1 : ∀ k, k ≤ 8000 → ∀ n : Nat, n < 2 ^ k → n.log2 < 9000 := fun k hk n h => by
    by_cases e : n = 0
    · rw [e]; decide +kernel
    · have := (Nat.log2_lt e).mpr h
      omega
  rcases hc.2 with h | h
  · exact h1 30 (by decide) _ h
  · exact h1 200 (by decide) _ (of_decide_eq_true h))))
theorem op_bin (o : Op) : OpR X (binaryOp (pyOp o)) (rBin X.K o) := by
  intro pins s σ H x y v u Q I rx ry h
  obtain ⟨Xc, μ, v', w', r, m, d1, d2, e, f⟩ := h
  unfold binV at e
  cases e1 : content μ v' with
  | none => rw [e1] at e; cases e
  | some a =>
    cases e2 : content μ w' with
    | none => rw [e1, e2] at e; cases e
    | some b =>
      rw [e1, e2] at e
      replace e : binC o a b = some r := e
      unfold binC at e
      split at e
      · cases e
        exact op_add pins s σ H x y v u Q I rx ry ⟨_, _, m.int d1 e1, m.int d2 e2, f.now _ rfl⟩
      · split at e
        · rename_i hz
          cases e
          obtain ⟨h1, o1⟩ := m.strV d1 e1
          obtain ⟨h2, o2⟩ := m.strV d2 e2
          exact op_add_str pins s σ H x y v u Q I rx ry ⟨_, _, h1, h2, by rw [← big_line]; exact hz, f.now _ ⟨rfl, strOk_append o1 o2⟩⟩
        · cases e
      · split at e
        · rename_i hz
          cases e
          obtain ⟨a1, xs, h1, q1, l1⟩ := m.lst d1 e1
          obtain ⟨a2, ys, h2, q2, l2⟩ := m.lst d2 e2
          exact op_catR pins s σ H x y v u Q I rx ry ⟨a1, a2, xs, ys, h1, h2, q1, q2, by rw [← big_line, ← l1.length, ← l2.length]; exact hz, fun p hp => f.new p _ hp ⟨_, rfl, l1.append l2⟩⟩
        · cases e
      · split at e
        · rename_i hz
          cases e
          obtain ⟨a1, xs, h1, q1, l1⟩ := m.tup d1 e1
          obtain ⟨a2, ys, h2, q2, l2⟩ := m.tup d2 e2
          subst h1; subst h2
          have side : ∀ {v : Val} {a : Addr} {l : List Val}, Den X.K (Dn Xc μ) H v (.ref a) → content μ v = some (.tup l) → Den X.K (Dn Xc μ) H (.tup l) (.ref a) := fun {v a l} d h => by
            cases v with
            | ref b => obtain ⟨o, _, z⟩ := m.obj b _ h; exact z.elim
            | tup _ => cases h; exact d
            | _ => cases h
          refine op_catA pins s σ H _ _ v u Q I rx ry ⟨a1, a2, xs, ys, rfl, rfl, q1, q2, by rw [← big_line, ← l1.length, ← l2.length]; exact hz, fun z => ?_, fun z z2 => ?_, fun z z2 p hp => f.new p _ hp ⟨_, rfl, l1.append l2⟩⟩
          · subst z
            have h0 := DenL.nil_l l1
            subst h0
            exact f.now _ (by rw [List.nil_append]; exact side d2 e2)
          · subst z2
            have h0 := DenL.nil_l l2
            subst h0
            exact f.now _ (by rw [List.append_nil]; exact side d1 e1)
        · cases e
      · cases e
        exact op_sub pins s σ H x y v u Q I rx ry ⟨_, _, m.int d1 e1, m.int d2 e2, f.now _ rfl⟩
      · split at e
        · rename_i hz
          cases e
          exact op_mul pins s σ H x y v u Q I rx ry ⟨_, _, m.int d1 e1, m.int d2 e2, hz, f.now _ rfl⟩
        · cases e
      · split at e
        · rename_i hz
          cases e
          obtain ⟨h1, o1⟩ := m.strV d1 e1
          exact op_repS pins s σ H x y v u Q I rx ry ⟨_, _, h1, m.int d2 e2, hz.1, hz.2.1, by rw [← big_line]; exact hz.2.2, f.now _ ⟨rfl, strOk_rep _ o1⟩⟩
        · cases e
      · split at e
        · rename_i hz
          cases e
          obtain ⟨a1, xs, h1, q1, l1⟩ := m.lst d1 e1
          exact op_repR pins s σ H x y v u Q I rx ry ⟨a1, _, xs, h1, m.int d2 e2, q1, by omega, by omega, by rw [← big_line, ← l1.length]; exact hz.2.2, fun p hp => f.new p _ hp ⟨_, rfl, l1.rep _⟩⟩
        · cases e
      · split at e
        · rename_i hz
          cases e
          exact op_modN pins s σ H x y v u Q I rx ry ⟨_, _, m.int d1 e1, m.int d2 e2, hz, f.now _ rfl⟩
        · cases e
      · split at e
        · rename_i hz
          cases e
          exact op_fdivW pins s σ H x y v u Q I rx ry ⟨_, _, m.int d1 e1, m.int d2 e2, hz, f.now _ rfl⟩
        · cases e
      · split at e
        · rename_i hz
          cases e
          exact op_pow pins s σ H x y v u Q I rx ry ⟨_, _, m.int d1 e1, m.int d2 e2, hz, f.now _ rfl⟩
        · cases e
      · cases e
theorem se_bin (hΦ : MonoP Φ) (o : Op) {ea eb : E} (ha : SE X Φ W a ea) (hb : SE X Φ W b eb) : SE X Φ W (.BinOp a (pyOp o) b pos) (.bin o ea eb) :=
  PE.imp (pe_op (op_bin o) ha hb) fun σ H Q ⟨Xc, env, μ, S, q⟩ => by
    rw [wpE] at q
    refine use hΦ S Ext.refl q fun v μ1 x H1 S1 E1 _ d q1 => use hΦ S1 E1 q1 fun w μ2 y H2 S2 E2 E2' d2 q2 => ?_
    split at q2
    · rename_i r hr
      exact ⟨Xc, μ2, v, w, r, S2.m, d.ext E2, d2, hr, q2.fin S2 E2'⟩
    · exact q2.elim
theorem sf_cat (hΦ : MonoP Φ) {ea eb : E} (ha : SE X Φ W a ea) (hb : SE X Φ W b eb) : SE X Φ W (.BinOp a .Add b pos) (.new (.bin .add ea eb)) :=
  PE.imp (pe_op op_catR ha hb) fun σ H Q ⟨Xc, env, μ, S, q⟩ => by
    simp only [wpE] at q
    refine use hΦ S Ext.refl q fun v μ1 x H1 S1 E1 _ d q1 => use hΦ S1 E1 q1 fun w μ2 y H2 S2 E2 E2' d2 q2 => ?_
    split at q2
    · rename_i r hr
      obtain ⟨hc, k⟩ := q2
      unfold binV at hr
      cases e1 : content μ2 v with
      | none => rw [e1] at hr; cases hr
      | some a =>
        cases e2 : content μ2 w with
        | none => rw [e1, e2] at hr; cases hr
        | some b =>
          rw [e1, e2] at hr
          replace hr : binC .add a b = some r := hr
          cases a <;> cases b <;> simp only [binC] at hr <;> first
            | (cases hr; done)
            | (split at hr <;> first | (cases hr; done) | skip)
            | skip
          all_goals first
            | (cases hr; cases hc; done)
            | skip
          rename_i la lb hz
          cases hr
          obtain ⟨a1, xs, h1, p1, l1⟩ := S2.m.lst (d.ext E2) e1
          obtain ⟨a2, ys, h2, p2, l2⟩ := S2.m.lst d2 e2
          refine ⟨a1, a2, xs, ys, h1, h2, p1, p2, by rw [← big_line, ← l1.length, ← l2.length]; exact hz, fun p hp => ?_⟩
          exact k p (dn_none (S2.m.fresh hp)) _ _ (S2.laidM hp ⟨_, rfl, l1.append l2⟩) (E2'.trans (Ext.laidM hp)) rfl
    · exact q2.elim

/-! ### comparisons of ints -/
def pyCm : Cm → CmpOp
  | .lt => .Lt
  | .le => .LtE
  | .gt => .Gt
  | .ge => .GtE
theorem op_cm (o : Cm) : OpR X (compareOp (pyCm o)) (rI0 fun i j => .bl (cmpI o i j)) := by
  cases o with
  | lt => exact op_lt
  | le => exact op_le
  | gt => exact op_gt
  | ge => exact op_ge
theorem mark_cm (o : Cm) (b : Expr) : behindInMarks (pyCm o) b = false := by cases o <;> exact nomark _
theorem cmpV_ints {c : Cm} {v w : Val} {r : Bool} (h : cmpV c v w = some r) : ∃ i j, v = .int i ∧ w = .int j ∧ r = cmpI c i j := by
  unfold cmpV at h
  split at h
  · cases h; exact ⟨_, _, rfl, rfl, rfl⟩
  · cases h
theorem cmp_read (hΦ : MonoP Φ) {K : Fr} {mg : Str → Option Value} (o : Cm) {ea eb : E} {σ : List (Option V)} {H : Hp} {Q : VK} (h : rdE K mg Φ W (.cmp o ea eb) σ H Q) : tOp (rI0 fun i j => .bl (cmpI o i j)) (rdE K mg Φ W ea) (rdE K mg Φ W eb) σ H Q := by
  obtain ⟨Xc, env, μ, S, q⟩ := h
  rw [wpE] at q
  refine use hΦ S Ext.refl q fun v μ1 x H1 S1 E1 _ d q1 => use hΦ S1 E1 q1 fun w μ2 y H2 S2 E2 E2' d2 q2 => ?_
  split at q2
  · rename_i r hr
    obtain ⟨i, j, rfl, rfl, rfl⟩ := cmpV_ints hr
    exact ⟨i, j, d, d2, q2 _ _ S2 E2' rfl⟩
  · exact q2.elim
end
end Mi
/-! Mi4b: == of tuples whose items are equal, whatever they are. -/
namespace Mi
open PySem PySem.Spec PyProof.Rows L2
open AutoSeq1 (wpAny_loadPart')
section
variable {prog : Program} {w : World}
structure TupTwin (prog : Program) (w : World) (A : Around) (s : Shared) (a b : Addr) (xs ys : Array Value) : Prop where
  fst : ∃ n dd sl, s.heap.get? a = some { cls := .type "tuple", dict := dd, data := .seq xs n, slots := sl }
  snd : ∃ n dd sl, s.heap.get? b = some { cls := .type "tuple", dict := dd, data := .seq ys n, slots := sl }
  size : xs.size = ys.size
  eq : ∀ p ∈ xs.toList.zip ys.toList, SeqAt.EqP prog w A.in1 s p.1 p.2 true
theorem twin_eq (a b : Addr) (xs ys : Array Value) : MeetsIn prog w (Builtin.«tuple.__eq__» ⟨[.ref a, .ref b], []⟩) (fun A R s => TupTwin prog w A s a b xs ys ∧ R (.ok (.ret (.bool true))) s) := by
  intro A R s h
  obtain ⟨hp, g, d, tk, os⟩ := s
  obtain ⟨⟨⟨n, dd, sl, ha⟩, ⟨n2, dd2, sl2, hb⟩, hsz, he⟩, h⟩ := h
  have f2 := AutoSeq1.sub_tuple_tuple
  wp_walk using wpAny_loadPart' ha, wpAny_loadPart' hb, wpAny_forIn_list _ (fun rest b s' => b.1 = none ∧ s' = ⟨hp, g, d, tk, os⟩ ∧ ∀ p ∈ rest, SeqAt.EqP prog w A.in1 ⟨hp, g, d, tk, os⟩ p.1 p.2 true) _
  case turn =>
    rintro ⟨y, x⟩ rest b s' ⟨hb', rfl, hall⟩
    refine wpAny_bind (hall _ List.mem_cons_self _ _ ?_)
    wp_walk
    exact ⟨rfl, rfl, fun p hp => hall p (List.mem_cons_of_mem _ hp)⟩
  case fin =>
    rintro ⟨b1, b2⟩ s' ⟨hb', rfl, hall⟩
    simp only at hb'
    subst hb'
    wp_walk
    simpa [Builtin.Tuple.tupleCompareSizes, hsz] using h
  case h => exact ⟨rfl, rfl, he⟩
theorem twin_ne (a b : Addr) (xs ys : Array Value) : MeetsIn prog w (Builtin.«tuple.__ne__» ⟨[.ref a, .ref b], []⟩) (fun A R s => TupTwin prog w A s a b xs ys ∧ R (.ok (.ret (.bool false))) s) := by
  intro A R s h
  obtain ⟨hp, g, d, tk, os⟩ := s
  obtain ⟨⟨⟨n, dd, sl, ha⟩, ⟨n2, dd2, sl2, hb⟩, hsz, he⟩, h⟩ := h
  have f2 := AutoSeq1.sub_tuple_tuple
  wp_walk using wpAny_loadPart' ha, wpAny_loadPart' hb, wpAny_forIn_list _ (fun rest b s' => b.1 = none ∧ s' = ⟨hp, g, d, tk, os⟩ ∧ ∀ p ∈ rest, SeqAt.EqP prog w A.in1 ⟨hp, g, d, tk, os⟩ p.1 p.2 true) _
  case turn =>
    rintro ⟨y, x⟩ rest b s' ⟨hb', rfl, hall⟩
    refine wpAny_bind (hall _ List.mem_cons_self _ _ ?_)
    wp_walk
    exact ⟨rfl, rfl, fun p hp => hall p (List.mem_cons_of_mem _ hp)⟩
  case fin =>
    rintro ⟨b1, b2⟩ s' ⟨hb', rfl, hall⟩
    simp only at hb'
    subst hb'
    wp_walk
    simpa [Builtin.Tuple.tupleCompareSizes, hsz] using h
  case h => exact ⟨rfl, rfl, he⟩
variable {A : Around} {s : Shared} {a b : Addr} {xs ys : Array Value}
theorem twin_cmpEq (t : TupTwin prog w A s a b xs ys) (hu : A.units < cLine) (E Q : Value → Shared → Prop) (q : Q (.bool true) s) : wpAny (model prog w) A (richCompare .Eq (.ref a) (.ref b)) Q E s := by
  obtain ⟨n, dd, sl, ha⟩ := t.fst
  obtain ⟨n2, dd2, sl2, hb⟩ := t.snd
  have ta : s.TypeIs (.ref a) "tuple" := ⟨_, ha, rfl⟩
  exact wpAny_richCompare_same_room (op := .Eq) ta ⟨_, hb, rfl⟩ PySem.F.slot_tuple_eq (call_meetsIn PySem.F.slot_tuple_eq ta PySem.F.entry_tuple_eq (PySem.F.args_tuple_eq_2 _ _) (twin_eq a b xs ys) ⟨t, show Value.bool true ≠ Value.notImplemented ∧ Q (.bool true) s from ⟨(fun x => nomatch x), q⟩⟩) hu
theorem twin_cmpNe (t : TupTwin prog w A s a b xs ys) (hu : A.units < cLine) (E Q : Value → Shared → Prop) (q : Q (.bool false) s) : wpAny (model prog w) A (richCompare .NotEq (.ref a) (.ref b)) Q E s := by
  obtain ⟨n, dd, sl, ha⟩ := t.fst
  obtain ⟨n2, dd2, sl2, hb⟩ := t.snd
  have ta : s.TypeIs (.ref a) "tuple" := ⟨_, ha, rfl⟩
  exact wpAny_richCompare_same_room (op := .NotEq) ta ⟨_, hb, rfl⟩ PySem.F.slot_tuple_ne (call_meetsIn PySem.F.slot_tuple_ne ta PySem.F.entry_tuple_ne (PySem.F.args_tuple_ne_2 _ _) (twin_ne a b xs ys) ⟨t, show Value.bool false ≠ Value.notImplemented ∧ Q (.bool false) s from ⟨(fun x => nomatch x), q⟩⟩) hu
end
end Mi
/-! Mi5: ==, in, None, and, or, not. -/
namespace Mi
open PySem PySem.Spec PyProof.Rows L2
structure RoomH (k : Nat) (A : Around) : Prop where
  un : A.units + 16 * k + 200 < cLine
theorem roomH_of {k : Nat} {A : Around} (r : Room k A) : RoomH k A := ⟨r.un⟩

mutual
def toPy : Val → PyData
  | .bl b => .bool b
  | .int i => .int i
  | .str s => .str s
  | .tup l => .tuple (toPyL l)
  | .lst l => .list (toPyL l)
  | _ => .none
def toPyL : List Val → List PyData
  | [] => []
  | v :: r => toPy v :: toPyL r
end
mutual
theorem dep_py : ∀ v : Val, (toPy v).depth = dep v
  | .non => rfl
  | .bl _ => rfl
  | .int _ => rfl
  | .str _ => rfl
  | .tup l => by simp only [toPy, dep, PyData.depth, depL_py l]
  | .lst l => by simp only [toPy, dep, PyData.depth, depL_py l]
  | .dct _ => rfl
  | .ref _ => rfl
  | .exn _ _ => rfl
  | .ins _ _ => rfl
  | .dtt _ => rfl
theorem depL_py : ∀ l : List Val, PyData.depthAll (toPyL l) = depL l
  | [] => rfl
  | v :: r => by simp only [toPyL, depL, PyData.depthAll, dep_py v, depL_py r]
end
mutual
theorem eqb_py : ∀ v w : Val, plain v = true → plain w = true → PyData.eqv (toPy v) (toPy w) = eqb v w
  | .non, w, h, h' => by cases w <;> first | rfl | cases h'
  | .bl _, w, h, h' => by cases w <;> first | rfl | cases h'
  | .int _, w, h, h' => by cases w <;> first | rfl | cases h'
  | .str _, w, h, h' => by cases w <;> first | rfl | cases h'
  | .tup l, w, h, h' => by
    cases w with
    | tup r => exact eqbL_py l r h h'
    | _ => first | rfl | cases h'
  | .lst l, w, h, h' => by
    cases w with
    | lst r => exact eqbL_py l r h h'
    | _ => first | rfl | cases h'
  | .dct _, _, h, _ => by cases h
  | .ref _, _, h, _ => by cases h
  | .exn _ _, _, h, _ => by cases h
  | .ins _ _, _, h, _ => by cases h
  | .dtt _, _, h, _ => by cases h
theorem eqbL_py : ∀ l r : List Val, plainL l = true → plainL r = true → PyData.eqvAll (toPyL l) (toPyL r) = eqbL l r
  | [], [], _, _ => rfl
  | [], _ :: _, _, _ => rfl
  | _ :: _, [], _, _ => rfl
  | v :: l, w :: r, h, h' => by
    have h1 := Bool.and_eq_true_iff.mp h
    have h2 := Bool.and_eq_true_iff.mp h'
    simp only [toPyL, PyData.eqvAll, eqbL, eqb_py v w h1.1 h2.1, eqbL_py l r h1.2 h2.2]
end
theorem any_py : ∀ (l : List Val) (x : Val), plain x = true → plainL l = true → (toPyL l).any (fun y => PyData.eqv y (toPy x)) = l.any fun y => eqb y x
  | [], _, _, _ => rfl
  | v :: r, x, hx, h => by
    have h1 := Bool.and_eq_true_iff.mp h
    simp only [toPyL, List.any_cons, eqb_py v x h1.1 hx, any_py r x hx h1.2]
section
variable {K : Fr} {D : Addr → Prop} {H : Hp}
mutual
theorem dp_of : ∀ (v : Val) (x : V), plain v = true → Den K D H v x → Dp K H x (toPy v) ∧ (toPy v).canLay0 = true
  | .non, x, _, h => by rw [show x = _ from h]; exact ⟨.non, by simp [toPy, PyData.canLay0]⟩
  | .bl b, x, _, h => by rw [show x = _ from h]; exact ⟨.bl b, by simp [toPy, PyData.canLay0]⟩
  | .int b, x, _, h => by rw [show x = _ from h]; exact ⟨.int b, by simp [toPy, PyData.canLay0]⟩
  | .str b, x, _, h => by
    obtain ⟨e, o⟩ := h
    rw [e]
    exact ⟨.str b, by simpa [toPy, PyData.canLay0] using o⟩
  | .tup l, x, p, ⟨a, xs, e, q, hl⟩ => by
    obtain ⟨h1, h2⟩ := dpL_of l xs p hl
    rw [e]
    exact ⟨.tup (.inl (.inl q.2)) h1, by simpa [toPy, PyData.canLay0] using h2⟩
  | .lst l, x, p, ⟨a, xs, e, q, hl⟩ => by
    obtain ⟨h1, h2⟩ := dpL_of l xs p hl
    rw [e]
    refine ⟨.lst ?_ h1, by simpa [toPy, PyData.canLay0] using h2⟩
    rcases q with ⟨_, q⟩ | q
    · exact .inl q
    · exact .inr q
  | .dct _, _, h, _ => by cases h
  | .ref _, _, h, _ => by cases h
  | .exn _ _, _, h, _ => by cases h
  | .ins _ _, _, h, _ => by cases h
  | .dtt _, _, h, _ => by cases h
theorem dpL_of : ∀ (l : List Val) (xs : List V), plainL l = true → DenL K D H l xs → DpAll K H xs (toPyL l) ∧ PyData.canLayAll0 (toPyL l) = true
  | [], xs, _, h => by rw [show xs = _ from h]; exact ⟨.nil, by simp [toPyL, PyData.canLayAll0]⟩
  | v :: r, xs, p, ⟨x, t, e, h1, h2⟩ => by
    have p1 := Bool.and_eq_true_iff.mp p
    obtain ⟨a1, a2⟩ := dp_of v x p1.1 h1
    obtain ⟨b1, b2⟩ := dpL_of r t p1.2 h2
    rw [e]
    exact ⟨.cons a1 b1, by simp [toPyL, PyData.canLayAll0, a2, b2]⟩
end
end
section
variable {K : Fr} {Xc : Addr → Prop} {H : Hp} {μ : Mu}
theorem MRel.dp (m : MRel K Xc μ H) {v w : Val} {x : V} (d : Den K (Dn Xc μ) H v x) (e : content μ v = some w) (p : plain w = true) : Dp K H x (toPy w) ∧ (toPy w).canLay0 = true := by
  cases v with
  | ref a =>
    obtain ⟨o, ho, r⟩ := m.obj a w e
    cases w with
    | lst l =>
      obtain ⟨xs, rfl, hl⟩ := r
      obtain ⟨h1, h2⟩ := dpL_of l xs p hl
      rw [show x = V.ref a from d]
      exact ⟨.lst (SqL.of ho) h1, by simpa [toPy, PyData.canLay0] using h2⟩
    | dct l => cases p
    | ins _ _ => cases p
    | dtt _ => cases p
    | _ => exact r.elim
  | _ => cases e; exact dp_of _ x p d
end

section
variable {X : Cx} {Φ : Ph} {W : WX} {a b c : Expr} {pos : Pos}
def pyEq : Eqm → CmpOp
  | .eq => .Eq
  | .ne => .NotEq
def flip (o : Eqm) (r : Bool) : Bool := match o with | .eq => r | .ne => !r
def pyIn : Inm → CmpOp
  | .isin => .In
  | .notin => .NotIn
def flipI (o : Inm) (r : Bool) : Bool := match o with | .isin => r | .notin => !r

theorem den_flat {K : Fr} {D : Addr → Prop} {H : Hp} {v w : Val} {x y : V} (d : Den K D H v x) (d' : Den K D H w y) (h : flatEq v w = true) : x = y ∧ flatB x = true := by
  unfold flatEq at h
  split at h
  · rw [show x = _ from d, show y = _ from d']; exact ⟨rfl, rfl⟩
  · rw [show x = _ from d, show y = _ from d', eq_of_beq h]; exact ⟨rfl, rfl⟩
  · rw [show x = _ from d, show y = _ from d', eq_of_beq h]; exact ⟨rfl, rfl⟩
  · rw [d.1, d'.1, eq_of_beq h]; exact ⟨rfl, rfl⟩
  · cases h
theorem keyEq_of {k k' : Val} {j j' : Key} (h : keyOf k = some j) (h' : keyOf k' = some j') : keyEq k k' = decide (j = j') := by
  cases k <;> first | (cases h; done) | skip
  all_goals (cases k' <;> first | (cases h'; done) | skip)
  all_goals (cases h; cases h'; simp only [keyEq])
  · exact (key_ll _ _).symm
  · exact (key_lr _ _).symm
  · exact (key_rl _ _).symm
  · rw [key_rr]; rfl
theorem DenP.look {K : Fr} {D : Addr → Prop} {H : Hp} {k : Val} {j : Key} (hk : keyOf k = some j) : ∀ {l : List Val} {kvs : List (Key × V)}, DenP K D H l kvs →
    (match dLook k l with | some v => ∃ x, valV kvs j = some x ∧ Den K D H v x | none => valV kvs j = none)
  | [], kvs, h => by rw [show kvs = [] from h]; rfl
  | .tup [k', v] :: r, kvs, ⟨j', x, t, e, hk', d, dr⟩ => by
    subst e
    have ih := DenP.look hk dr
    simp only [dLook]
    rw [keyEq_of hk hk']
    by_cases z : j = j'
    · rw [decide_eq_true z, if_pos rfl]
      exact ⟨x, valV_pos z.symm, d⟩
    · rw [decide_eq_false z, if_neg Bool.false_ne_true]
      have e2 : valV ((j', x) :: t) j = valV t j := valV_neg (fun q => z q.symm)
      rw [e2]
      exact ih
  | .tup [] :: _, _, h => h.elim
  | .tup [_] :: _, _, h => h.elim
  | .tup (_ :: _ :: _ :: _) :: _, _, h => h.elim
  | .non :: _, _, h => h.elim
  | .bl _ :: _, _, h => h.elim
  | .int _ :: _, _, h => h.elim
  | .str _ :: _, _, h => h.elim
  | .lst _ :: _, _, h => h.elim
  | .dct _ :: _, _, h => h.elim
  | .ref _ :: _, _, h => h.elim
  | .exn _ _ :: _, _, h => h.elim
  | .ins _ _ :: _, _, h => h.elim
  | .dtt _ :: _, _, h => h.elim
theorem DenP.length {K : Fr} {D : Addr → Prop} {H : Hp} : ∀ {l : List Val} {kvs : List (Key × V)}, DenP K D H l kvs → l.length = kvs.length
  | [], kvs, h => by rw [show kvs = [] from h]; rfl
  | .tup [k', v] :: r, kvs, ⟨j', x, t, e, hk', d, dr⟩ => by subst e; rw [List.length_cons, List.length_cons, DenP.length dr]
  | .tup [] :: _, _, h => h.elim
  | .tup [_] :: _, _, h => h.elim
  | .tup (_ :: _ :: _ :: _) :: _, _, h => h.elim
  | .non :: _, _, h => h.elim
  | .bl _ :: _, _, h => h.elim
  | .int _ :: _, _, h => h.elim
  | .str _ :: _, _, h => h.elim
  | .lst _ :: _, _, h => h.elim
  | .dct _ :: _, _, h => h.elim
  | .ref _ :: _, _, h => h.elim
  | .exn _ _ :: _, _, h => h.elim
  | .ins _ _ :: _, _, h => h.elim
  | .dtt _ :: _, _, h => h.elim
theorem dct_hits {K : Fr} {D : Addr → Prop} {H : Hp} {b : List Val} {ls : List (Key × V)} (hb : DenP K D H b ls) : ∀ {a : List Val} {ks : List (Key × V)}, DenP K D H a ks → dctIn b a = true → ∀ p ∈ ks, valV ls p.1 = some p.2 ∧ flatB p.2 = true
  | [], ks, h, _, p, hp => by rw [show ks = [] from h] at hp; cases hp
  | .tup [k', v] :: r, kvs, ⟨j', x, t, e, hk', d, dr⟩, hd, p, hp => by
    subst e
    simp only [dctIn, Bool.and_eq_true] at hd
    obtain ⟨⟨_, h1⟩, h2⟩ := hd
    rcases List.mem_cons.mp hp with rfl | hp
    · have := DenP.look hk' hb
      cases q : dLook k' b with
      | none => rw [q] at h1; cases h1
      | some w =>
        rw [q] at h1 this
        obtain ⟨y, e1, d1⟩ := this
        obtain ⟨e2, e3⟩ := den_flat d d1 h1
        refine ⟨?_, e3⟩
        show valV ls j' = some x
        rw [e1, e2]
    · exact dct_hits hb dr h2 p hp
  | .tup [] :: _, _, h, _, _, _ => h.elim
  | .tup [_] :: _, _, h, _, _, _ => h.elim
  | .tup (_ :: _ :: _ :: _) :: _, _, h, _, _, _ => h.elim
  | .non :: _, _, h, _, _, _ => h.elim
  | .bl _ :: _, _, h, _, _, _ => h.elim
  | .int _ :: _, _, h, _, _, _ => h.elim
  | .str _ :: _, _, h, _, _, _ => h.elim
  | .lst _ :: _, _, h, _, _, _ => h.elim
  | .dct _ :: _, _, h, _, _, _ => h.elim
  | .ref _ :: _, _, h, _, _, _ => h.elim
  | .exn _ _ :: _, _, h, _, _, _ => h.elim
  | .ins _ _ :: _, _, h, _, _, _ => h.elim
  | .dtt _ :: _, _, h, _, _, _ => h.elim

def rEqM (K : Fr) (o : Eqm) : R2 := fun x y H Q => ∃ Xc μ v w r, MRel K Xc μ H ∧ Den K (Dn Xc μ) H v x ∧ Den K (Dn Xc μ) H w y ∧ eqV μ v w = some r ∧ Q (.bl (flip o r)) H
section
variable {X : Cx} {pins : List (Addr × Obj)} {σ : L2.St} {H : Hp} {s : Shared} {Xc : Addr → Prop} {μ : Mu}
theorem eq2_run (m : MRel X.K Xc μ H) (I : Inv X pins σ H s) {A : Around} (hu : A.units + 110 < cLine) {v w : Val} {x y : V} {u u' : Value} (d : Den X.K (Dn Xc μ) H v x) (d' : Den X.K (Dn Xc μ) H w y) (rx : RelV x u) (ry : RelV y u') (h : eq2 μ v w = true) : SeqAt.EqP X.prog X.w A s u u' true := by
  unfold eq2 at h
  split at h
  · rename_i la lb e1 e2
    simp only [Bool.and_eq_true, decide_eq_true_eq] at h
    obtain ⟨p, ks, h1, q1, l1⟩ := m.dct d e1
    obtain ⟨p', ls, h2, q2, l2⟩ := m.dct d' e2
    subst h1; subst h2
    obtain rfl : u = Value.ref p := rx
    obtain rfl : u' = Value.ref p' := ry
    obtain ⟨_, ya, va, ra, da⟩ := dk_rd I.hok q1
    obtain ⟨_, yb, vb, rb, db⟩ := dk_rd I.hok q2
    by_cases e : p = p'
    · subst e
      exact (SeqAt.EqAt.same _).eqP
    · refine SeqAt.eqP_refs e fun E Q q => PySem.W.rcP_dicts (knd := mixKind X.prog X.w) (r := true) ya yb da db (by omega) (fun _ => hits_run (F := fun x y => x = y ∧ flatB x = true) (fun x y v u ⟨e, f⟩ rx ry => ?_) rb ra fun p hp => ?_) E Q ?_
      · subst e
        exact (eqAt_same rx ry f).eqP
      · obtain ⟨e1, e2⟩ := dct_hits l2 l1 h.2 p hp
        exact ⟨_, e1, rfl, e2⟩
      · have e3 : va.length = vb.length := by rw [← ra.length, ← rb.length, ← l1.length, ← l2.length]; exact h.1
        rw [show (va.length == vb.length && true) = true from by rw [e3]; simp]
        exact q
  · rename_i a b _ e1 e2
    simp only [Bool.and_eq_true, decide_eq_true_eq] at h
    obtain ⟨⟨⟨pv, pw⟩, hd⟩, he⟩ := h
    obtain ⟨p1, c1⟩ := m.dp d e1 pv
    obtain ⟨p2, c2⟩ := m.dp d' e2 pw
    obtain ⟨as, r1⟩ := Dp.reads I _ x u p1 rx
    obtain ⟨bs, r2⟩ := Dp.reads I _ y u' p2 ry
    have k := SeqAt.eqAt_reads (toPy a) (toPy b) A s u u' as bs r1 r2 c1 c2 (by rw [dep_py, dep_py]; omega)
    rw [eqb_py a b pv pw, he] at k
    exact k.eqP
  · cases h
theorem eq2L_run (m : MRel X.K Xc μ H) (I : Inv X pins σ H s) {A : Around} (hu : A.units + 110 < cLine) : ∀ {l t : List Val} {xs ys : List V} {us ws : List Value}, DenL X.K (Dn Xc μ) H l xs → DenL X.K (Dn Xc μ) H t ys → Vals xs us → Vals ys ws → eq2L μ l t = true →
    us.length = ws.length ∧ ∀ p ∈ us.zip ws, SeqAt.EqP X.prog X.w A s p.1 p.2 true
  | [], [], xs, ys, us, ws, h1, h2, r1, r2, _ => by
    rw [show xs = [] from h1] at r1
    rw [show ys = [] from h2] at r2
    cases r1
    cases r2
    exact ⟨rfl, fun p hp => by cases hp⟩
  | [], _ :: _, _, _, _, _, _, _, _, _, h => by cases h
  | _ :: _, [], _, _, _, _, _, _, _, _, h => by cases h
  | v :: l, w :: t, xs, ys, us, ws, ⟨x, xr, e1, d1, dr1⟩, ⟨y, yr, e2, d2, dr2⟩, r1, r2, h => by
    subst e1
    subst e2
    cases r1 with
    | cons a1 b1 =>
      cases r2 with
      | cons a2 b2 =>
        have h' : eq2 μ v w = true ∧ eq2L μ l t = true := by simpa [eq2L] using h
        obtain ⟨i1, i2⟩ := eq2L_run m I hu dr1 dr2 b1 b2 h'.2
        refine ⟨by rw [List.length_cons, List.length_cons, i1], fun p hp => ?_⟩
        rw [List.zip_cons_cons] at hp
        rcases List.mem_cons.mp hp with rfl | hp
        · exact eq2_run m I hu d1 d2 a1 a2 h'.1
        · exact i2 p hp
end
theorem op_eqM {k : Nat} (hr : RoomH k X.A) (o : Eqm) : OpR X (compareOp (pyEq o)) (rEqM X.K o) := by
  intro pins s σ H x y v u Q I rx ry h
  obtain ⟨Xc, μ, v', w', r, m, d1, d2, e, q⟩ := h
  have hu := hr.un
  unfold eqV at e
  cases e1 : content μ v' with
  | none => rw [e1] at e; cases e
  | some a =>
    cases e2 : content μ w' with
    | none => rw [e1, e2] at e; cases e
    | some b =>
      rw [e1, e2] at e
      replace e : (match eqC a b with | some r => some r | none => eqT μ a b) = some r := e
      cases hE : eqC a b with
      | none =>
        rw [hE] at e
        replace e : eqT μ a b = some r := e
        unfold eqT at e
        split at e
        · rename_i la lb
          split at e
          · rename_i hc
            cases e
            obtain ⟨p, ks, h1, q1, l1⟩ := m.tup d1 e1
            obtain ⟨p', ls, h2, q2, l2⟩ := m.tup d2 e2
            subst h1; subst h2
            obtain rfl : v = Value.ref p := rx
            obtain rfl : u = Value.ref p' := ry
            obtain ⟨us, r1, ⟨o1, g1, c1, n1, w1⟩, _⟩ := I.tuple q1
            obtain ⟨ws, r2, ⟨o2, g2, c2, n2, w2⟩, _⟩ := I.tuple q2
            obtain ⟨i1, i2⟩ := eq2L_run m I (A := X.A.in1) (by show X.A.units + 1 + 110 < cLine; omega) l1 l2 r1 r2 hc
            obtain ⟨cl, dd, da, sl⟩ := o1
            obtain ⟨cl2, dd2, da2, sl2⟩ := o2
            simp only at c1 w1 c2 w2
            subst c1 w1 c2 w2
            have t : TupTwin X.prog X.w X.A s p p' us.toArray ws.toArray := ⟨⟨_, _, _, g1⟩, ⟨_, _, _, g2⟩, by simpa using i1, i2⟩
            cases o with
            | eq => exact twin_cmpEq t (by omega) _ _ ⟨.bl true, H, I, rfl, q⟩
            | ne => exact twin_cmpNe t (by omega) _ _ ⟨.bl false, H, I, rfl, q⟩
          · cases e
        · cases e
      | some r' =>
      rw [hE] at e
      cases (show some r' = some r from e)
      replace e : eqC a b = some r := hE
      have main : plain a = true → plain b = true → min (dep a) (dep b) ≤ 150 → r = eqb a b → wpAny (model X.prog X.w) X.A (compareOp (pyEq o) v u) (EP X pins σ Q) X.xe s := fun pa pb hd hr => by
        obtain ⟨p1, c1⟩ := m.dp d1 e1 pa
        obtain ⟨p2, c2⟩ := m.dp d2 e2 pb
        obtain ⟨as, r1⟩ := Dp.reads I _ x v p1 rx
        obtain ⟨bs, r2⟩ := Dp.reads I _ y u p2 ry
        subst hr
        rw [← eqb_py a b pa pb] at q
        have hm : X.A.units + min (toPy a).depth (toPy b).depth < cLine := by rw [dep_py, dep_py]; omega
        cases o with
        | eq => exact SeqAt.compareEq_reads r1 r2 c1 c2 hm ⟨.bl _, H, I, rfl, q⟩
        | ne => exact SeqAt.compareNe_reads r1 r2 c1 c2 hm ⟨.bl _, H, I, rfl, q⟩
      unfold eqC at e
      split at e
      · rename_i la lb
        split at e
        · rename_i hc
          cases e
          have two : ∀ {v : Val} {x : V} {l : List Val}, Den X.K (Dn Xc μ) H v x → content μ v = some (.dct l) → ∃ a kvs, x = .ref a ∧ Rd H a (.dK kvs) ∧ DenP X.K (Dn Xc μ) H l kvs := fun d h => m.dct d h
          obtain ⟨p, ks, h1, q1, l1⟩ := m.dct d1 e1
          obtain ⟨p', ls, h2, q2, l2⟩ := m.dct d2 e2
          subst h1; subst h2
          obtain rfl : v = Value.ref p := rx
          obtain rfl : u = Value.ref p' := ry
          obtain ⟨_, ya, va, ra, da⟩ := dk_rd I.hok q1
          obtain ⟨_, yb, vb, rb, db⟩ := dk_rd I.hok q2
          have hl : va.length = vb.length := by rw [← ra.length, ← rb.length, ← l1.length, ← l2.length]; exact hc.1
          have hits := dct_hits l2 l1 hc.2
          cases o with
          | eq => exact PySem.W.keq_eq (knd := mixKind X.prog X.w) (r := true) ya yb da db (by omega) (fun _ => hits_all rb ra hits) (fin_bl I q (by simp [flip, hl]))
          | ne => exact PySem.W.keq_ne (knd := mixKind X.prog X.w) (r := true) ya yb da db (by omega) (fun _ => hits_all rb ra hits) (fin_bl I q (by simp [flip, hl]))
        · cases e
      · split at e
        · rename_i hc
          cases e
          exact main hc.1 hc.2.1 hc.2.2 rfl
        · cases e
theorem mark_eq (o : Eqm) (b : Expr) : behindInMarks (pyEq o) b = false := by cases o <;> exact nomark _
theorem eq_read (hΦ : MonoP Φ) {K : Fr} {mg : Str → Option Value} (o : Eqm) {ea eb : E} {σ : List (Option V)} {H : Hp} {Q : VK} (h : rdE K mg Φ W (.eq o ea eb) σ H Q) : tOp (rEqM K o) (rdE K mg Φ W ea) (rdE K mg Φ W eb) σ H Q := by
  obtain ⟨Xc, env, μ, S, q⟩ := h
  rw [wpE] at q
  refine use hΦ S Ext.refl q fun v μ1 x H1 S1 E1 _ d q1 => use hΦ S1 E1 q1 fun w μ2 y H2 S2 E2 E2' d2 q2 => ?_
  split at q2
  · rename_i r hr
    exact ⟨Xc, μ2, v, w, r, S2.m, d.ext E2, d2, hr, q2 _ _ S2 E2' rfl⟩
  · exact q2.elim
theorem se_eq {k : Nat} (hΦ : MonoP Φ) (hr : RoomH k X.A) (o : Eqm) {ea eb : E} (ha : SE X Φ W a ea) (hb : SE X Φ W b eb) : SE X Φ W (.Compare a [pyEq o] [b] pos) (.eq o ea eb) :=
  PE.imp (pe_cmpR (op_eqM hr o) ha hb (mark_eq o b)) fun σ H Q h => eq_read hΦ o h

theorem key_isKey {k : Val} (h : isKey k = true) : ∃ j, keyOf k = some j := by
  cases k <;> first | exact ⟨_, rfl⟩ | cases h
theorem keyOf_den {K : Fr} {D : Addr → Prop} {H : Hp} {k : Val} {j : Key} {x : V} (h : keyOf k = some j) (d : Den K D H k x) : x = kV j := by
  cases k <;> first | (cases h; exact d) | (cases h; exact d.1) | (cases h; done)

def rInM (K : Fr) (o : Inm) : R2 := fun x y H Q => ∃ Xc μ v w r, MRel K Xc μ H ∧ Den K (Dn Xc μ) H v x ∧ Den K (Dn Xc μ) H w y ∧ inV μ v w = some r ∧ Q (.bl (flipI o r)) H
theorem op_inM {k : Nat} (hr : RoomH k X.A) (o : Inm) : OpR X (compareOp (pyIn o)) (rInM X.K o) := by
  intro pins s σ H x y v u Q I rx ry h
  obtain ⟨Xc, μ, v', w', r, m, d1, d2, e, q⟩ := h
  have hu := hr.un
  unfold inV at e
  split at e
  · rename_i l hl
    split at e
    · rename_i hc
      cases e
      obtain ⟨p1, c1⟩ := dp_of v' x hc.1 d1
      obtain ⟨p2, c2⟩ := m.dp d2 hl hc.2.1
      obtain ⟨as, r1⟩ := Dp.reads I _ x v p1 rx
      obtain ⟨bs, r2⟩ := Dp.reads I _ y u p2 ry
      rw [← any_py l v' hc.1 hc.2.1] at q
      have c2' : PyData.canLayAll0 (toPyL l) = true := by simpa [toPy, PyData.canLay0] using c2
      have hm : X.A.units + 1 + min (PyData.depthAll (toPyL l)) (toPy v').depth < cLine := by rw [dep_py, depL_py]; omega
      cases o with
      | isin => exact SeqAt.in_tuple_reads r2 r1 c2' c1 hm ⟨.bl _, H, I, rfl, q⟩
      | notin => exact SeqAt.notIn_tuple_reads r2 r1 c2' c1 hm ⟨.bl _, H, I, rfl, q⟩
    · cases e
  · rename_i l hl
    split at e
    · rename_i hc
      cases e
      obtain ⟨p1, c1⟩ := dp_of v' x hc.1 d1
      obtain ⟨p2, c2⟩ := m.dp d2 hl hc.2.1
      obtain ⟨as, r1⟩ := Dp.reads I _ x v p1 rx
      obtain ⟨bs, r2⟩ := Dp.reads I _ y u p2 ry
      rw [← any_py l v' hc.1 hc.2.1] at q
      have c2' : PyData.canLayAll0 (toPyL l) = true := by simpa [toPy, PyData.canLay0] using c2
      have hm : X.A.units + 1 + min (PyData.depthAll (toPyL l)) (toPy v').depth < cLine := by rw [dep_py, depL_py]; omega
      cases o with
      | isin => exact SeqAt.in_list_reads r2 r1 c2' c1 hm ⟨.bl _, H, I, rfl, q⟩
      | notin => exact SeqAt.notIn_list_reads r2 r1 c2' c1 hm ⟨.bl _, H, I, rfl, q⟩
    · cases e
  · rename_i l hl
    split at e
    · rename_i hk
      cases e
      obtain ⟨j, hj⟩ := key_isKey hk
      obtain ⟨p, kvs, h2, q2, l2⟩ := m.dct d2 hl
      subst h2
      obtain rfl : u = Value.ref p := ry
      have g : DGet H p x (valV kvs j) := .inl ⟨kvs, j, q2, keyOf_den hj d1, rfl⟩
      have hs : (dLook v' l).isSome = (valV kvs j).isSome := by
        have := DenP.look hj l2
        cases z : dLook v' l with
        | none => rw [z] at this; rw [show valV kvs j = none from this]; rfl
        | some w => rw [z] at this; obtain ⟨_, e1, _⟩ := this; rw [e1]; rfl
      rw [hs] at q
      cases o with
      | isin => exact d_in (by omega) I g rx fun s' I' => ⟨.bl _, H, I', rfl, q⟩
      | notin => exact d_notIn (by omega) I g rx fun s' I' => ⟨.bl _, H, I', rfl, q⟩
    · cases e
  · cases e
theorem in_read (hΦ : MonoP Φ) {K : Fr} {mg : Str → Option Value} (o : Inm) {ea eb : E} {σ : List (Option V)} {H : Hp} {Q : VK} (h : rdE K mg Φ W (.isin o ea eb) σ H Q) : tOp (rInM K o) (rdE K mg Φ W ea) (rdE K mg Φ W eb) σ H Q := by
  obtain ⟨Xc, env, μ, S, q⟩ := h
  rw [wpE] at q
  refine use hΦ S Ext.refl q fun v μ1 x H1 S1 E1 _ d q1 => use hΦ S1 E1 q1 fun w μ2 y H2 S2 E2 E2' d2 q2 => ?_
  split at q2
  · rename_i r hr
    exact ⟨Xc, μ2, v, w, r, S2.m, d.ext E2, d2, hr, q2 _ _ S2 E2' rfl⟩
  · exact q2.elim
def isNon : Val → Bool
  | .non => true
  | _ => false
end
end Mi
/-! Mi6: truth, subscripts, slices. -/
namespace Mi
open PySem PySem.Spec PyProof.Rows L2

theorem natbne (n : Nat) : (n != 0) = ((n : Int) != 0) := by
  cases n with
  | zero => rfl
  | succ n =>
    rw [show (n + 1 != 0) = true by simp]
    symm
    simp only [bne_iff_ne, ne_eq]
    omega
section
variable {K : Fr} {Xc : Addr → Prop} {H : Hp} {μ : Mu}
theorem MRel.tru (m : MRel K Xc μ H) {v : Val} {x : V} {b : Bool} (d : Den K (Dn Xc μ) H v x) (e : truthV μ v = some b) : TruV K x H b := by
  unfold truthV at e
  cases e1 : content μ v with
  | none => rw [e1] at e; cases e
  | some w =>
    rw [e1] at e
    replace e : truthC w = some b := e
    unfold truthC at e
    split at e
    · cases e; rw [m.flat d e1 trivial]; rfl
    · cases e; rw [m.flat d e1 trivial]; rfl
    · cases e; rw [m.int d e1]; rfl
    · split at e
      · rename_i hz
        cases e
        rw [(m.strV d e1).1]
        exact ⟨by rw [← big_line]; exact hz, natbne _⟩
      · cases e
    · cases e
      obtain ⟨a, xs, rfl, q, hl⟩ := m.tup d e1
      exact .inr (.inl ⟨xs, q, by rw [hl.nil_iff]⟩)
    · cases e
      obtain ⟨a, xs, rfl, q, hl⟩ := m.lst d e1
      exact .inl ⟨xs, q, by rw [hl.nil_iff]⟩
    · cases e
end

section
variable {X : Cx} {Φ : Ph} {W : WX} {a b c : Expr} {pos : Pos}
theorem TPost.from {K : Fr} {Xc : Addr → Prop} {σ : List (Option V)} {H H0 : Hp} {env : Env} {μ μ0 : Mu} {Q : Bool → Hp → Prop} {v : Val} {μ' : Mu} (E0 : Ext μ0 H0 μ H) (h : TPost K Xc σ H0 env μ0 Q v μ') : TPost K Xc σ H env μ Q v μ' := by
  unfold TPost at *
  split at h
  · exact fun H' S E => h H' S (E0.trans E)
  · exact h.elim
theorem EPost.from {K : Fr} {Xc : Addr → Prop} {σ : List (Option V)} {H H0 : Hp} {env : Env} {μ μ0 : Mu} {Q : VK} {v : Val} {μ' : Mu} (E0 : Ext μ0 H0 μ H) (h : EPost K Xc σ H0 env μ0 Q v μ') : EPost K Xc σ H env μ Q v μ' := fun x H' S E => h x H' S (E0.trans E)
theorem st_of {e : E} (hΦ : MonoP Φ) (ha : SE X Φ W a e) (he : ∀ whole, isTrue a X.env whole = (do let v ← whole; standAt a.pos; holding [v] (truthy v)) := by intro _; rfl) : ST X Φ W a e :=
  PT.imp (pt_truth ha he) fun σ H Q ⟨Xc, env, μ, S, q⟩ => ⟨Xc, env, μ, S, wpE_mono hΦ e env μ _ _ _ _ (fun v μ1 f x H1 S1 E1 d => by
    unfold TPost at f
    split at f
    · rename_i b hb
      exact ⟨b, S1.m.tru d hb, f H1 S1 E1⟩
    · exact f.elim) (fun _ _ z => z) q⟩
def isB : E → Bool
  | .cmp _ _ _ => true
  | .eq _ _ _ => true
  | .isin _ _ _ => true
  | .isN _ _ => true
  | _ => false
theorem wpE_isB (hΦ : MonoP Φ) {e : E} (h : isB e = true) {env : Env} {μ : Mu} {Q : Val → Mu → Prop} {Y : XQ} (q : wpE Φ e env μ Q Y) : wpE Φ e env μ (fun v μ' => (∃ b, v = .bl b) ∧ Q v μ') Y := by
  unfold isB at h
  split at h
  · simp only [wpE] at q ⊢
    exact wpE_mono hΦ _ env μ _ _ _ _ (fun v μ1 z => wpE_mono hΦ _ env μ1 _ _ _ _ (fun w μ2 y => by
      split at y
      · exact ⟨⟨_, rfl⟩, y⟩
      · exact y.elim) (fun _ _ z => z) z) (fun _ _ z => z) q
  · simp only [wpE] at q ⊢
    exact wpE_mono hΦ _ env μ _ _ _ _ (fun v μ1 z => wpE_mono hΦ _ env μ1 _ _ _ _ (fun w μ2 y => by
      split at y
      · exact ⟨⟨_, rfl⟩, y⟩
      · exact y.elim) (fun _ _ z => z) z) (fun _ _ z => z) q
  · simp only [wpE] at q ⊢
    exact wpE_mono hΦ _ env μ _ _ _ _ (fun v μ1 z => wpE_mono hΦ _ env μ1 _ _ _ _ (fun w μ2 y => by
      split at y
      · exact ⟨⟨_, rfl⟩, y⟩
      · exact y.elim) (fun _ _ z => z) z) (fun _ _ z => z) q
  · simp only [wpE] at q ⊢
    exact wpE_mono hΦ _ env μ _ _ _ _ (fun v μ1 z => ⟨⟨_, rfl⟩, z⟩) (fun _ _ z => z) q
  · cases h
theorem rdT_E (hΦ : MonoP Φ) {K : Fr} {mg : Str → Option Value} {e : E} (hB : isB e = true) {σ : List (Option V)} {H : Hp} {Q : Bool → Hp → Prop} (h : rdT K mg Φ W e σ H Q) : rdE K mg Φ W e σ H (fun x H' => ∃ k, x = .bl k ∧ Q k H') := by
  obtain ⟨Xc, env, μ, S, q⟩ := h
  refine ⟨Xc, env, μ, S, wpE_mono hΦ e env μ _ _ _ _ (fun v μ' z x H' S' E' d => ?_) (fun _ _ z => z) (wpE_isB hΦ hB q)⟩
  obtain ⟨⟨b, rfl⟩, z⟩ := z
  exact ⟨b, d, z H' S' E'⟩
theorem st_cmp (hΦ : MonoP Φ) (o : Cm) {ea eb : E} (ha : SE X Φ W a ea) (hb : SE X Φ W b eb) : ST X Φ W (.Compare a [pyCm o] [b] pos) (.cmp o ea eb) :=
  PT.imp (pt_cmpR (op_cm o) ha hb (mark_cm o b)) fun σ H Q h => cmp_read hΦ o (rdT_E hΦ rfl h)
theorem st_eq {k : Nat} (hΦ : MonoP Φ) (hr : RoomH k X.A) (o : Eqm) {ea eb : E} (ha : SE X Φ W a ea) (hb : SE X Φ W b eb) : ST X Φ W (.Compare a [pyEq o] [b] pos) (.eq o ea eb) :=
  PT.imp (pt_cmpR (op_eqM hr o) ha hb (mark_eq o b)) fun σ H Q h => eq_read hΦ o (rdT_E hΦ rfl h)
theorem st_in {k : Nat} (hΦ : MonoP Φ) (hr : RoomH k X.A) (o : Inm) {ea eb : E} (ha : SE X Φ W a ea) (hb : SE X Φ W b eb) (hm : behindInMarks (pyIn o) b = false := by rfl) : ST X Φ W (.Compare a [pyIn o] [b] pos) (.isin o ea eb) :=
  PT.imp (pt_cmpR (op_inM hr o) ha hb hm) fun σ H Q h => in_read hΦ o (rdT_E hΦ rfl h)
theorem sw_and1 {e : E} (ha : ST X Φ W a e) : SW X Φ W (.BoolOp .And [a] pos) e := pw_and1 ha
theorem sw_or1 {e : E} (ha : ST X Φ W a e) : SW X Φ W (.BoolOp .Or [a] pos) e := pw_or1 ha
theorem sw_and (hΦ : MonoP Φ) {rest : List Expr} {ea eb : E} (ha : ST X Φ W a ea) (hb : SW X Φ W (.BoolOp .And (b :: rest) pos) eb) : SW X Φ W (.BoolOp .And (a :: b :: rest) pos) (.and ea eb) :=
  PW.imp (pw_and ha hb) fun σ H Q ⟨Xc, env, μ, S, q⟩ => by
    simp only [wpE] at q
    refine useT hΦ S Ext.refl q (fun v μ1 f z => ?_) fun v μ1 b H1 S1 E1 hb f => ?_
    · rw [z] at f; exact f
    · rw [hb] at f
      cases b with
      | true => exact iteT ⟨Xc, env, μ1, S1, wpE_mono hΦ eb env μ1 _ _ _ _ (fun v μ2 z => TPost.from E1 z) (fun v μ2 z => XPost.from E1 z) f⟩
      | false =>
        refine iteF ?_
        unfold TPost at f
        rw [hb] at f
        exact f H1 S1 E1
theorem sw_or (hΦ : MonoP Φ) {rest : List Expr} {ea eb : E} (ha : ST X Φ W a ea) (hb : SW X Φ W (.BoolOp .Or (b :: rest) pos) eb) : SW X Φ W (.BoolOp .Or (a :: b :: rest) pos) (.or ea eb) :=
  PW.imp (pw_or ha hb) fun σ H Q ⟨Xc, env, μ, S, q⟩ => by
    simp only [wpE] at q
    refine useT hΦ S Ext.refl q (fun v μ1 f z => ?_) fun v μ1 b H1 S1 E1 hb f => ?_
    · rw [z] at f; exact f
    · rw [hb] at f
      cases b with
      | false => exact iteF ⟨Xc, env, μ1, S1, wpE_mono hΦ eb env μ1 _ _ _ _ (fun v μ2 z => TPost.from E1 z) (fun v μ2 z => XPost.from E1 z) f⟩
      | true =>
        refine iteT ?_
        unfold TPost at f
        rw [hb] at f
        exact f H1 S1 E1
theorem SW.t {e : E} (h : SW X Φ W a e) : ST X Φ W a e := h.pt
theorem st_not (hΦ : MonoP Φ) {e : E} (ha : ST X Φ W a e) : ST X Φ W (.UnaryOp .Not a pos) (.not e) :=
  PT.imp (pt_not ha) fun σ H Q ⟨Xc, env, μ, S, q⟩ => by
    simp only [wpE] at q
    refine useT hΦ S Ext.refl q (fun v μ1 f z => ?_) fun v μ1 b H1 S1 E1 hb f => ?_
    · rw [z] at f; exact f
    · rw [hb] at f
      exact f H1 S1 E1
theorem se_one {op} {e : E} (ha : SE X Φ W a e) : SE X Φ W (.BoolOp op [a] pos) e := pe_one ha
theorem se_and (hΦ : MonoP Φ) {rest : List Expr} {ea eb : E} (ha : SE X Φ W a ea) (hb : SE X Φ W (.BoolOp .And (b :: rest) pos) eb) : SE X Φ W (.BoolOp .And (a :: b :: rest) pos) (.and ea eb) :=
  PE.imp (pe_andT ha hb) fun σ H Q ⟨Xc, env, μ, S, q⟩ => by
    simp only [wpE] at q
    refine use hΦ S Ext.refl q fun v μ1 x H1 S1 E1 E1' d f => ?_
    cases hb : truthV μ1 v with
    | none => rw [hb] at f; exact f.elim
    | some b =>
      rw [hb] at f
      refine ⟨b, S1.m.tru d hb, ?_⟩
      cases b with
      | true => exact iteT ⟨Xc, env, μ1, S1, wpE_mono hΦ eb env μ1 _ _ _ _ (fun v μ2 z => EPost.from E1 z) (fun v μ2 z => XPost.from E1 z) f⟩
      | false => exact iteF (f x H1 S1 E1 d)
theorem se_neg (hΦ : MonoP Φ) {e : E} (ha : SE X Φ W a e) : SE X Φ W (.UnaryOp .USub a pos) (.neg e) :=
  PE.imp (pe_un un_neg ha) fun σ H Q ⟨Xc, env, μ, S, q⟩ => by
    simp only [wpE] at q
    refine use hΦ S Ext.refl q fun v μ1 x H1 S1 E1 E1' d f => ?_
    split at f
    · rename_i i
      exact ⟨i, d, f _ H1 S1 E1 rfl⟩
    · exact f.elim
/-! ### subscripts -/
theorem DenL.at {K : Fr} {D : Addr → Prop} {H : Hp} {l : List Val} {xs : List V} {i : Int} {v : Val} (h : DenL K D H l xs) (e : Mi.atI l i = some v) : ∃ x, L2.atI xs i = some x ∧ Den K D H v x := by
  unfold Mi.atI at e
  unfold L2.atI
  rw [h.length] at e
  show ∃ x, ((Mi.ixN xs.length i).bind fun j => xs[j]?) = some x ∧ _
  cases q : Mi.ixN xs.length i with
  | none => rw [q] at e; cases e
  | some j =>
    rw [q] at e
    exact h.get e
theorem strOk_sign {s : Str} {c : Nat} (h : PyData.strOk s = true) (hc : c ∈ s.cps.toList) : PyData.strOk ⟨#[c]⟩ = true := by
  unfold PyData.strOk at *
  rw [Array.all_eq_true'] at h
  have := h c (by simpa using hc)
  simpa using this
theorem atI_mem {α : Type} {l : List α} {i : Int} {c : α} (h : Mi.atI l i = some c) : c ∈ l := by
  unfold Mi.atI at h
  cases q : Mi.ixN l.length i with
  | none => rw [q] at h; cases h
  | some j => rw [q] at h; exact List.mem_of_getElem? h
def rIxM (K : Fr) : R2 := fun x y H Q => ∃ Xc μ v w r, MRel K Xc μ H ∧ Den K (Dn Xc μ) H v x ∧ Den K (Dn Xc μ) H w y ∧ ixV μ v w = some r ∧ ∀ x, Den K (Dn Xc μ) H r x → Q x H
theorem ix_dict (hu : X.A.units + 1 < cLine) : IxR X (fun x y H Q => ∃ a v, x = .ref a ∧ DGet H a y (some v) ∧ Q v H) := by
  intro value slice pins s σ H x y v u Q I rx ry h hs
  obtain ⟨a, w, ex, g, q⟩ := h
  subst ex
  obtain rfl : v = Value.ref a := rx
  have hT := dict_typeIs I g
  unfold subscriptTail
  refine wpAny_bind ?_
  rw [getitemInPython_of_ne hT.not_modules]
  refine wpAny_bind (wpAny_specialOf hT PySem.F.slot_dict_getitem.lookup ?_)
  have fin : wpAny (model X.prog X.w) X.A (subscripted slice false (.ref a) u) (fun r s₃ => wpAny (model X.prog X.w) X.A (letTemporaryGo value (.ref a) r >>= fun _ => pure r) (EP X pins σ Q) X.xe s₃) X.xe s := by
    rw [hs]
    exact wpAny_operating (wpAny_mono (d_getItem (Q := EP X pins σ Q) hu I g ry fun w' s3 I3 rw' => ⟨w, H, I3, rw', q⟩) (fun r s₃ h₃ => wpAny_bind (wpAny_letTemporaryGo (wpAny_pure h₃))) fun _ _ x => x)
  first
    | exact wpAny_pure (wpAny_bind fin)
    | exact wpAny_bind (wpAny_pure (wpAny_bind fin))
    | exact wpAny_bind fin
theorem ix_m {k : Nat} (hr : RoomH k X.A) : IxR X (rIxM X.K) := by
  intro value slice pins s σ H x y v u Q I rx ry h hs
  obtain ⟨Xc, μ, v', w', r, m, d1, d2, e, q⟩ := h
  have hu := hr.un
  unfold ixV at e
  cases e1 : content μ v' with
  | none => rw [e1] at e; cases e
  | some a =>
    rw [e1] at e
    replace e : ixC a w' = some r := e
    unfold ixC at e
    split at e
    · obtain ⟨p, xs, rfl, q1, l1⟩ := m.tup d1 e1
      obtain ⟨z, hz, dz⟩ := l1.at e
      exact ix_tup value slice pins s σ H _ y v u Q I rx ry ⟨p, xs, _, z, rfl, d2, q1, hz, q z dz⟩ hs
    · obtain ⟨p, xs, rfl, q1, l1⟩ := m.lst d1 e1
      obtain ⟨z, hz, dz⟩ := l1.at e
      exact ix_list value slice pins s σ H _ y v u Q I rx ry ⟨p, xs, _, z, rfl, d2, q1, hz, q z dz⟩ hs
    · split at e
      · rename_i hz
        obtain ⟨c, hc, rfl⟩ := Option.map_eq_some_iff.mp e
        obtain ⟨rfl, ok⟩ := m.strV d1 e1
        exact ix_str value slice pins s σ H _ y v u Q I rx ry ⟨_, _, c, rfl, d2, by rw [← big_line]; exact hz, hc, q _ ⟨rfl, strOk_sign ok (atI_mem hc)⟩⟩ hs
      · cases e
    · split at e
      · rename_i hk
        obtain ⟨j, hj⟩ := key_isKey hk
        obtain ⟨p, kvs, rfl, q1, l1⟩ := m.dct d1 e1
        have hl := DenP.look hj l1
        rw [e] at hl
        obtain ⟨z, hz, dz⟩ := hl
        exact ix_dict (by omega) value slice pins s σ H _ y v u Q I rx ry ⟨p, z, rfl, .inl ⟨kvs, j, q1, keyOf_den hj d2, hz.symm⟩, q z dz⟩ hs
      · cases e
    · cases e
theorem se_ix {k : Nat} (hΦ : MonoP Φ) (hr : RoomH k X.A) {ea eb : E} (ha : SE X Φ W a ea) (hb : SE X Φ W b eb) (hs : PlainIx b := by exact fun _ _ => rfl) : SE X Φ W (.Subscript a b pos) (.ix ea eb) :=
  PE.imp (pe_ix (ix_m hr) ha hb hs) fun σ H Q ⟨Xc, env, μ, S, q⟩ => by
    simp only [wpE] at q
    refine use hΦ S Ext.refl q fun v μ1 x H1 S1 E1 _ d q1 => use hΦ S1 E1 q1 fun w μ2 y H2 S2 E2 E2' d2 q2 => ?_
    split at q2
    · rename_i r hr
      exact ⟨Xc, μ2, v, w, r, S2.m, d.ext E2, d2, hr, fun x dx => q2 _ _ S2 E2' dx⟩
    · exact q2.elim
end
end Mi
/-! Mi7: slices, built-ins, methods. -/
namespace Mi
open PySem PySem.Spec PyProof.Rows L2

section
variable {X : Cx} {Φ : Ph} {W : WX} {a b c : Expr} {pos : Pos}
/-! ### slices -/
def rdO (K : Fr) (mg : Str → Option Value) (Φ : Ph) (W : WX) (l : Es) : TO := fun σ H Q => ∃ Xc env μ, SRel K Xc σ H env μ ∧ wpEs Φ l env μ (fun vs μ' => match optInt vs with
  | some o => ∀ H', SRel K Xc σ H' env μ' → Ext μ H μ' H' → Q o H'
  | none => False) (XPost K mg W Xc σ H env μ)
abbrev SO (X : Cx) (Φ : Ph) (W : WX) (a : Option Expr) (l : Es) : Prop := PO X a (rdO X.K X.mg Φ W l)
theorem PO.imp {a : Option Expr} {t t' : TO} (h : PO X a t) (f : ∀ σ H Q, t' σ H Q → t σ H Q) : PO X a t' := ⟨fun pins s σ H Q I q => h.run pins s σ H Q I (f _ _ _ q)⟩
theorem so_none : SO X Φ W none .nil := PO.imp po_none fun σ H Q ⟨Xc, env, μ, S, q⟩ => q H S Ext.refl
theorem so_some (hΦ : MonoP Φ) {e : E} (h : SE X Φ W a e) : SO X Φ W (some a) (.cons e .nil) := PO.imp (po_some h) fun σ H Q ⟨Xc, env, μ, S, q⟩ => by
  simp only [wpEs] at q
  refine use hΦ S Ext.refl q fun v μ1 x H1 S1 E1 E1' d f => ?_
  unfold optInt at f
  split at f
  · rename_i o ho
    split at ho
    · rename_i hx; cases hx
    · rename_i i hx
      cases hx
      cases ho
      exact ⟨i, d, f H1 S1 E1⟩
    · cases ho
  · exact f.elim
theorem sIx_eq (n d : Nat) (o : Option Int) : HT.sIx n d o = Mi.sIx n d o := by
  cases o with
  | none => rfl
  | some v =>
    have h := HT.clip_eq v n d
    unfold Mi.sIx
    dsimp only
    by_cases hv : v < 0
    · rw [if_pos hv] at h ⊢
      omega
    · rw [if_neg hv] at h ⊢
      omega
theorem DenL.cut {K : Fr} {D : Addr → Prop} {H : Hp} {l : List Val} {xs : List V} (h : DenL K D H l xs) (lo hi : Option Int) : DenL K D H (cutL l lo hi) (cutV xs lo hi) := by
  unfold cutL cutV
  rw [sIx_eq, sIx_eq, h.length]
  exact (h.drop _).take _
theorem strOk_cut {s : Str} (h : PyData.strOk s = true) (lo hi : Option Int) : PyData.strOk ⟨(cutL s.cps.toList lo hi).toArray⟩ = true := by
  unfold PyData.strOk at *
  rw [Array.all_eq_true'] at h ⊢
  intro c hc
  refine h c ?_
  have : c ∈ cutL s.cps.toList lo hi := by simpa using hc
  unfold cutL at this
  simpa using List.mem_of_mem_drop (List.mem_of_mem_take this)
theorem cutS_cut (z : Str) (lo hi : Option Int) : cutS z lo hi = ⟨(cutL z.cps.toList lo hi).toArray⟩ := by
  unfold cutS cutL
  rw [sIx_eq, sIx_eq]
  simp [Str.length]
def rSlM (K : Fr) : V → Option Int → Option Int → Hp → VK → Prop := fun x lo hi H Q => ∃ Xc μ v c r, MRel K Xc μ H ∧ Den K (Dn Xc μ) H v x ∧ content μ v = some c ∧ slC c lo hi = some r ∧ Fin K (Dn Xc μ) H r Q
theorem sl_m : SlR X (rSlM X.K) := by
  intro pins s σ H x v vl vu lo hi sl Q I rx hs pl pu h
  obtain ⟨Xc, μ, v', c, r, m, d, e1, e, f⟩ := h
  unfold slC at e
  split at e
  · cases e
    rename_i l
    obtain ⟨p, xs, rfl, q1, l1⟩ := m.tup d e1
    refine sl_tupA pins s σ H _ v vl vu lo hi sl Q I rx hs pl pu ⟨p, xs, rfl, q1, fun hw => ?_, fun hw p' hp' => f.new p' _ hp' ⟨_, rfl, l1.cut lo hi⟩⟩
    have hl : cutL l lo hi = l := by
      unfold cutL
      rw [← sIx_eq, ← sIx_eq, l1.length, hw.1, hw.2]
      simp [← l1.length]
    have : Den X.K (Dn Xc μ) H (.tup l) (.ref p) := by
      cases v' with
      | ref b => obtain ⟨o, _, z⟩ := m.obj b _ e1; exact z.elim
      | tup _ => cases e1; exact d
      | _ => cases e1
    exact f.now _ (by rw [hl]; exact this)
  · cases e
    obtain ⟨p, xs, rfl, q1, l1⟩ := m.lst d e1
    exact sl_list pins s σ H _ v vl vu lo hi sl Q I rx hs pl pu ⟨p, xs, rfl, q1, fun p' hp' => f.new p' _ hp' ⟨_, rfl, l1.cut lo hi⟩⟩
  · split at e
    · rename_i hz
      cases e
      obtain ⟨rfl, ok⟩ := m.strV d e1
      refine sl_str pins s σ H _ v vl vu lo hi sl Q I rx hs pl pu ⟨_, rfl, by rw [← big_line]; exact hz, ?_⟩
      rw [cutS_cut]
      exact f.now _ ⟨rfl, strOk_cut ok lo hi⟩
    · cases e
  · cases e
theorem se_sl (hΦ : MonoP Φ) {lo hi : Option Expr} {e : E} {l h : Es} {p2 : Pos} (ha : SE X Φ W a e) (hl : SO X Φ W lo l) (hh : SO X Φ W hi h) : SE X Φ W (.Subscript a (.Slice lo hi none p2) pos) (.sl e l h) :=
  PE.imp (pe_slice sl_m ha hl hh) fun σ H Q ⟨Xc, env, μ, S, q⟩ => by
    simp only [wpE] at q
    refine use hΦ S Ext.refl q fun v μ1 x H1 S1 E1 E1' d q1 => ?_
    refine ⟨Xc, env, μ1, S1, wpEs_mono hΦ l env μ1 _ _ _ _ (fun vs μ2 q2 => ?_) (fun _ _ z => XPost.from E1' z) q1⟩
    cases ho : optInt vs with
    | none => rw [ho] at q2; exact q2
    | some o =>
      intro H2 S2 E2
      rw [ho] at q2
      refine ⟨Xc, env, μ2, S2, wpEs_mono hΦ h env μ2 _ _ _ _ (fun vs' μ3 q3 => ?_) (fun _ _ z => XPost.from (E1'.trans E2) z) q2⟩
      cases ho2 : optInt vs' with
      | none => rw [ho2] at q3; exact q3
      | some o2 =>
        intro H3 S3 E3
        rw [ho2] at q3
        cases hc : content μ3 v with
        | none => rw [hc] at q3; exact q3.elim
        | some c =>
          rw [hc] at q3
          replace q3 : match slC c o o2 with | some r => EPost X.K Xc σ H env μ Q r μ3 | none => False := q3
          cases hsl : slC c o o2 with
          | none => rw [hsl] at q3; exact q3.elim
          | some r =>
            rw [hsl] at q3
            exact ⟨Xc, μ3, v, c, r, S3.m, (d.ext E2).ext E3, hc, hsl, q3.fin S3 ((E1'.trans E2).trans E3)⟩

/-! ### built-ins -/
theorem se_biG (hΦ : MonoP Φ) {ast : Expr} {b : Bi} {l : Es} {r : List V → Hp → VK → Prop} (h : PE X ast (tCB r (rdA X.K X.mg Φ W l)))
    (k : ∀ {Xc : Addr → Prop} {μ : Mu} {H : Hp} {vs : List Val} {xs : List V} {res : Val} {Q : VK}, MRel X.K Xc μ H → DenL X.K (Dn Xc μ) H vs xs → biV μ b vs = some res → Fin X.K (Dn Xc μ) H res Q → r xs H Q) : SE X Φ W ast (.bi b l) :=
  PE.imp h fun σ H Q ⟨Xc, env, μ, S, q⟩ => by
    simp only [wpE] at q
    refine useA hΦ S Ext.refl q fun vs μ1 xs H1 S1 E1 E1' d q1 => ?_
    split at q1
    · rename_i res hr
      exact k S1.m d hr (q1.fin S1 E1')
    · exact q1.elim
theorem sf_biG (hΦ : MonoP Φ) {ast : Expr} {b : Bi} {l : Es} {r : List V → Hp → VK → Prop} (h : PE X ast (tCB r (rdA X.K X.mg Φ W l)))
    (k : ∀ {Xc : Addr → Prop} {μ : Mu} {H : Hp} {vs : List Val} {xs : List V} {res : Val} {Q : VK}, MRel X.K Xc μ H → DenL X.K (Dn Xc μ) H vs xs → biV μ b vs = some res → (∀ p o, H p = none → NewRel X.K (Dn Xc μ) H res o → Q (.ref p) (upd H p o)) → r xs H Q) : SF X Φ W ast (.bi b l) :=
  PE.imp h fun σ H Q ⟨Xc, env, μ, S, q⟩ => by
    simp only [wpE] at q
    refine useA hΦ S Ext.refl q fun vs μ1 xs H1 S1 E1 E1' d q1 => ?_
    split at q1
    · rename_i res hr
      exact k S1.m d hr fun p o hp n => q1 p o H1 S1 E1' hp n
    · exact q1.elim
theorem DenL.one {K : Fr} {D : Addr → Prop} {H : Hp} {v : Val} {xs : List V} (h : DenL K D H [v] xs) : ∃ x, xs = [x] ∧ Den K D H v x := by
  obtain ⟨x, t, e, d, e2⟩ := h
  rw [show t = [] from e2] at e
  exact ⟨x, e, d⟩
theorem DenL.two {K : Fr} {D : Addr → Prop} {H : Hp} {v w : Val} {xs : List V} (h : DenL K D H [v, w] xs) : ∃ x y, xs = [x, y] ∧ Den K D H v x ∧ Den K D H w y := by
  obtain ⟨x, t, e, d, h2⟩ := h
  obtain ⟨y, rfl, d2⟩ := h2.one
  exact ⟨x, y, e, d, d2⟩
def rLen (K : Fr) : List V → Hp → VK → Prop := fun xs H Q => (∃ x n, xs = [x] ∧ LenV K x H n ∧ Q (.int n) H) ∨ ∃ a kvs, xs = [V.ref a] ∧ Rd H a (.dK kvs) ∧ Q (.int kvs.length) H
theorem cr_len : CallR X (.builtin "len") (rLen X.K) := by
  intro pins s σ H xs us Q I r h
  rcases h with h | ⟨a, kvs, rfl, hd, q⟩
  · exact call_len pins s σ H xs us Q I r h
  · obtain ⟨u, rfl, rx⟩ := vals1 r
    cases rx
    exact d_len I hd fun t s' I' => ⟨.int _, H, I', ⟨_, rfl⟩, q⟩
theorem se_len (hΦ : MonoP Φ) {x : Str} {p pos : Pos} {e : E} (hg : Gl X x) (hm : X.mg x = none) (hv : bootBuiltins x = some (.builtin "len")) (hn : x ≠ "__name__") (hdb : (x == ("__debug__" : Str)) = false) (ha : SE X Φ W a e)
    (he : starEach (a :: []) X.env = (false, eval a X.env) :: starEach [] X.env := by rfl) (hpl : (backTo pos (starEach [] X.env)).any (·.1) = false := by rfl) : SE X Φ W (.Call (.Name x p) [a] [] pos) (.bi .len (.cons e .nil)) :=
  se_biG hΦ (pe_callB cr_len hg hm hv (sa_cons hΦ ha sa_nil he) hn hdb he hpl) fun {Xc μ H vs xs res Q} m d hr f => by
    simp only [biV, lenF] at hr
    split at hr
    · rename_i v
      obtain ⟨x, rfl, dx⟩ := d.one
      split at hr
      · rename_i l hl
        cases hr
        obtain ⟨a, ys, rfl, q1, l1⟩ := m.tup dx hl
        exact .inl ⟨_, ys.length, rfl, .inr ⟨ys, q1, rfl⟩, by rw [← l1.length]; exact f.now _ rfl⟩
      · rename_i l hl
        cases hr
        obtain ⟨a, ys, rfl, q1, l1⟩ := m.lst dx hl
        exact .inl ⟨_, ys.length, rfl, .inl ⟨ys, q1, rfl⟩, by rw [← l1.length]; exact f.now _ rfl⟩
      · rename_i s hl
        split at hr
        · rename_i hz
          cases hr
          obtain ⟨rfl, _⟩ := m.strV dx hl
          exact .inl ⟨_, s.length, rfl, ⟨by rw [← big_line]; exact hz, rfl⟩, f.now _ rfl⟩
        · cases hr
      · rename_i l hl
        cases hr
        obtain ⟨a, kvs, rfl, q1, l1⟩ := m.dct dx hl
        exact .inr ⟨a, kvs, rfl, q1, by rw [← l1.length]; exact f.now _ rfl⟩
      · cases hr
    · cases hr
theorem strOk_of (x : String) : PyData.strOk (Str.ofString x) = true := by
  rw [Str.ofString_eq_toList]
  unfold PyData.strOk
  rw [Array.all_eq_true']
  intro c hc
  have hc' : c ∈ x.toList.map Char.toNat := by simpa using hc
  obtain ⟨ch, _, rfl⟩ := List.mem_map.mp hc'
  have h := ch.valid
  simp only [UInt32.isValidChar, Nat.isValidChar] at h
  have : ch.toNat = ch.val.toNat := rfl
  rw [decide_eq_true_eq]
  omega
theorem cr_or {X : Cx} {f : Value} {r r' : List V → Hp → VK → Prop} (a : CallR X f r) (b : CallR X f r') : CallR X f (fun vs H Q => r vs H Q ∨ r' vs H Q) := fun pins s σ H xs us Q I v h => h.elim (a pins s σ H xs us Q I v) (b pins s σ H xs us Q I v)
theorem se_intB (hΦ : MonoP Φ) {x : Str} {p pos : Pos} {e : E} (hg : Gl X x) (hm : X.mg x = none) (hv : bootBuiltins x = some (.type "int")) (hn : x ≠ "__name__") (hdb : (x == ("__debug__" : Str)) = false) (ha : SE X Φ W a e)
    (he : starEach (a :: []) X.env = (false, eval a X.env) :: starEach [] X.env := by rfl) (hpl : (backTo pos (starEach [] X.env)).any (·.1) = false := by rfl) : SE X Φ W (.Call (.Name x p) [a] [] pos) (.bi .int (.cons e .nil)) :=
  se_biG hΦ (pe_callTy (cr_or call_int1 call_int_str) hg hm hv (sa_cons hΦ ha sa_nil he) hn hdb he hpl) fun {Xc μ H vs xs res Q} m d hr f => by
    simp only [biV, intF] at hr
    split at hr
    · rename_i b
      cases hr
      obtain ⟨x, rfl, dx⟩ := d.one
      exact .inl (.inr ⟨b, by rw [show x = V.bl b from dx], f.now _ rfl⟩)
    · rename_i s
      split at hr
      · rename_i hz
        cases hr
        obtain ⟨x, rfl, dx⟩ := d.one
        refine .inr ⟨s, _, by rw [show x = V.str s from dx.1], by exact (PySem.intText_digits (fun c hc => by simpa using List.all_eq_true.mp hz.2.2 c hc) (by intro e; have h0 : s.cps.toList.length = s.length := Array.length_toList; rw [e] at h0; have := hz.1; simp at h0; omega) (Nat.le_trans hz.2.1 (by decide))), Nat.le_trans hz.2.1 (by decide), f.now _ rfl⟩
      · cases hr
    · cases hr
theorem se_abs (hΦ : MonoP Φ) {x : Str} {p pos : Pos} {e : E} (hg : Gl X x) (hm : X.mg x = none) (hv : bootBuiltins x = some (.builtin "abs")) (hn : x ≠ "__name__") (hdb : (x == ("__debug__" : Str)) = false) (ha : SE X Φ W a e)
    (he : starEach (a :: []) X.env = (false, eval a X.env) :: starEach [] X.env := by rfl) (hpl : (backTo pos (starEach [] X.env)).any (·.1) = false := by rfl) : SE X Φ W (.Call (.Name x p) [a] [] pos) (.bi .abs (.cons e .nil)) :=
  se_biG hΦ (pe_callB call_abs hg hm hv (sa_cons hΦ ha sa_nil he) hn hdb he hpl) fun {Xc μ H vs xs res Q} m d hr f => by
    simp only [biV, absF] at hr
    split at hr
    · rename_i i
      cases hr
      obtain ⟨x, rfl, dx⟩ := d.one
      refine ⟨i, by rw [show x = V.int i from dx], ?_⟩
      have e : (if i < 0 then -i else i) = (i.natAbs : Int) := by split <;> omega
      rw [e]
      exact f.now _ rfl
    · cases hr
theorem sf_list (hΦ : MonoP Φ) {x : Str} {p pos : Pos} {e : E} (hg : Gl X x) (hm : X.mg x = none) (hv : bootBuiltins x = some (.type "list")) (hn : x ≠ "__name__") (hdb : (x == ("__debug__" : Str)) = false) (ha : SE X Φ W a e)
    (he : starEach (a :: []) X.env = (false, eval a X.env) :: starEach [] X.env := by rfl) (hpl : (backTo pos (starEach [] X.env)).any (·.1) = false := by rfl) : SF X Φ W (.Call (.Name x p) [a] [] pos) (.bi .list (.cons e .nil)) :=
  sf_biG hΦ (pe_callTy call_list_of hg hm hv (sa_cons hΦ ha sa_nil he) hn hdb he hpl) fun {Xc μ H vs xs res Q} m d hr f => by
    simp only [biV, listF] at hr
    split at hr
    · rename_i v
      obtain ⟨x, rfl, dx⟩ := d.one
      split at hr
      · rename_i l hl
        cases hr
        obtain ⟨a, ys, rfl, q1, l1⟩ := m.tup dx hl
        exact ⟨a, ys, rfl, .inr q1, fun l hl => f l _ hl ⟨ys, rfl, l1⟩⟩
      · rename_i l hl
        cases hr
        obtain ⟨a, ys, rfl, q1, l1⟩ := m.lst dx hl
        exact ⟨a, ys, rfl, .inl q1, fun l hl => f l _ hl ⟨ys, rfl, l1⟩⟩
      · cases hr
    · cases hr
theorem se_tuple (hΦ : MonoP Φ) {x : Str} {p pos : Pos} {e : E} (hg : Gl X x) (hm : X.mg x = none) (hv : bootBuiltins x = some (.type "tuple")) (hn : x ≠ "__name__") (hdb : (x == ("__debug__" : Str)) = false) (ha : SE X Φ W a e)
    (he : starEach (a :: []) X.env = (false, eval a X.env) :: starEach [] X.env := by rfl) (hpl : (backTo pos (starEach [] X.env)).any (·.1) = false := by rfl) : SE X Φ W (.Call (.Name x p) [a] [] pos) (.bi .tuple (.cons e .nil)) :=
  se_biG hΦ (pe_callTy call_tuple_of hg hm hv (sa_cons hΦ ha sa_nil he) hn hdb he hpl) fun {Xc μ H vs xs res Q} m d hr f => by
    simp only [biV, tupleF] at hr
    split at hr
    · rename_i v
      obtain ⟨x, rfl, dx⟩ := d.one
      split at hr
      · rename_i l hl
        cases hr
        obtain ⟨a, ys, rfl, q1, l1⟩ := m.tup dx hl
        have : Den X.K (Dn Xc μ) H (.tup l) (.ref a) := by
          cases v with
          | ref b => obtain ⟨o, _, z⟩ := m.obj b _ hl; exact z.elim
          | tup _ => cases hl; exact dx
          | _ => cases hl
        exact ⟨a, ys, rfl, .inr ⟨q1, f.now _ this⟩⟩
      · rename_i l hl
        cases hr
        obtain ⟨a, ys, rfl, q1, l1⟩ := m.lst dx hl
        exact ⟨a, ys, rfl, .inl ⟨q1, fun l hl => f.new l _ hl ⟨ys, rfl, l1⟩⟩⟩
      · cases hr
    · cases hr
theorem sf_dict (hΦ : MonoP Φ) {x : Str} {p pos : Pos} {e : E} (hg : Gl X x) (hm : X.mg x = none) (hv : bootBuiltins x = some (.type "dict")) (hn : x ≠ "__name__") (hdb : (x == ("__debug__" : Str)) = false) (ha : SE X Φ W a e)
    (he : starEach (a :: []) X.env = (false, eval a X.env) :: starEach [] X.env := by rfl) (hpl : (backTo pos (starEach [] X.env)).any (·.1) = false := by rfl) : SF X Φ W (.Call (.Name x p) [a] [] pos) (.bi .dict (.cons e .nil)) :=
  sf_biG hΦ (pe_callTy call_dictD hg hm hv (sa_cons hΦ ha sa_nil he) hn hdb he hpl) fun {Xc μ H vs xs res Q} m d hr f => by
    simp only [biV, dictF] at hr
    split at hr
    · rename_i v
      obtain ⟨x, rfl, dx⟩ := d.one
      split at hr
      · rename_i l hl
        cases hr
        obtain ⟨a, kvs, rfl, q1, l1⟩ := m.dct dx hl
        exact ⟨a, kvs, rfl, q1, fun l hl => f l _ hl ⟨kvs, rfl, l1⟩⟩
      · cases hr
    · cases hr

/-! ### isinstance against a built-in type -/
def tyName : Ty → String
  | .int => "int"
  | .bool => "bool"
  | .str => "str"
  | .list => "list"
  | .tuple => "tuple"
  | .dict => "dict"
def kindN : Val → String → Prop
  | .non, n => n = "NoneType"
  | .bl _, n => n = "bool"
  | .int _, n => n = "int"
  | .str _, n => n = "str"
  | .tup _, n => n = "tuple"
  | .lst _, n => n = "list"
  | .dct _, n => n = "dict"
  | _, _ => False
theorem kit_all (t : Ty) (c : Val) (b : Bool) (h : tyC t c = some b) : ∃ n, kindN c n ∧ ∀ K : Fr, PySem.W.kitOne K (.type n) (.type (tyName t)) = some b := by
  cases c <;> first
    | (cases t <;> (cases h; done))
    | (cases t <;> cases h <;> exact ⟨_, rfl, fun K => kit_ty (by decide)⟩)
theorem MRel.ty {K : Fr} {Xc : Addr → Prop} {H : Hp} {μ : Mu} (m : MRel K Xc μ H) {v w : Val} {x : V} (d : Den K (Dn Xc μ) H v x) (e : content μ v = some w) {n : String}
    (hn : kindN w n) : TyX K H x (.type n) := by
  cases w with
  | non => subst hn; rw [m.flat d e trivial]; exact .base .non
  | bl b => subst hn; rw [m.flat d e trivial]; exact .base (.bl b)
  | int b => subst hn; rw [m.int d e]; exact .base (.int b)
  | str b => subst hn; rw [(m.strV d e).1]; exact .base (.str b)
  | tup l =>
    subst hn
    obtain ⟨a, xs, rfl, q, _⟩ := m.tup d e
    rcases q with (q | ⟨o, q⟩) | ⟨o, its, n, h1, h2, _⟩
    · exact .base (.tup q)
    · exact .fTuple q
    · exact .kTuple h1 h2
  | lst l =>
    subst hn
    obtain ⟨a, xs, rfl, q, _⟩ := m.lst d e
    rcases q with (q | ⟨o, q⟩) | ⟨o, its, n, h1, h2, _⟩
    · exact .base (.lst q)
    · exact .base (.frz q)
    · exact .kList h1 h2
  | dct l =>
    subst hn
    obtain ⟨a, xs, rfl, q, _⟩ := m.dct d e
    rcases q with q | ⟨o, q⟩
    · exact .base (.dK q)
    · exact .fDict q
  | _ => exact hn.elim
theorem se_isT (hΦ : MonoP Φ) {x y : Str} {p p2 pos : Pos} {e : E} (t : Ty) (hg : Gl X x) (hm : X.mg x = none) (hv : bootBuiltins x = some (.builtin "isinstance")) (hn : x ≠ "__name__") (hdb : (x == ("__debug__" : Str)) = false) (ha : SE X Φ W a e)
    (hy : PE X (.Name y p2) (tC (.ty (tyName t))))
    (he : starEach (a :: [.Name y p2]) X.env = (false, eval a X.env) :: starEach [.Name y p2] X.env := by rfl) (he2 : starEach [.Name y p2] X.env = (false, eval (.Name y p2) X.env) :: starEach [] X.env := by rfl) (hpl : (backTo pos (starEach [.Name y p2] X.env)).any (·.1) = false := by rfl) :
    SE X Φ W (.Call (.Name x p) [a, .Name y p2] [] pos) (.isT e t) :=
  PE.imp (pe_callB call_isi hg hm hv (pa_cons ha (pa_cons hy pa_nil he2) he) hn hdb he hpl) fun σ H Q ⟨Xc, env, μ, S, q⟩ => by
    simp only [wpE] at q
    refine use hΦ S Ext.refl q fun v μ1 x H1 S1 E1 E1' d q1 => ?_
    split at q1
    · rename_i b hb
      unfold tyV at hb
      cases hc : content μ1 v with
      | none => rw [hc] at hb; cases hb
      | some c =>
        rw [hc] at hb
        obtain ⟨n, h1, h2⟩ := kit_all t c b hb
        exact ⟨x, .ty (tyName t), .type n, .type (tyName t), b, rfl, .ty _, S1.m.ty d hc h1, h2 _, q1 _ H1 S1 E1' rfl⟩
    · exact q1.elim

/-! ### methods of lists and dicts -/
def Ty' (K : Fr) (T : String) (x : V) (H : Hp) : Prop := L2.tyV K T x H ∨ (T = "dict" ∧ ∃ a, x = .ref a ∧ IsD H a)
theorem ty'_is {pins : List (Addr × Obj)} {σ : List (Option V)} {H : Hp} {s : Shared} {T : String} {x : V} {v : Value} (I : Inv X pins σ H s) (r : RelV x v) (ty : Ty' X.K T x H) :
    s.TypeIs v T ∧ ∀ a, v = .ref a → ∃ ob, s.heap.get? a = some ob ∧ ob.dict = none := by
  rcases ty with ty | ⟨rfl, a, rfl, d⟩
  · exact tyV_is I r ty
  · cases r
    obtain ⟨h1, h2, _⟩ := isD_at I d
    exact ⟨h1, h2⟩
def tBM' (K : Fr) (T : String) (r : V → List V → Hp → VK → Prop) (to : TE) (t : TA) : TE := fun σ H Q => to σ H fun x H1 => Ty' K T x H1 ∧ t σ H1 fun xs H2 => r x xs H2 Q
theorem pe_bm' {o e : Expr} {es : List Expr} {to : TE} {t : TA} {name : Str} {apos cpos : Pos} {T id : String} {r : V → List V → Hp → VK → Prop} (pa : PlainAttrs T) (slot : Slot T name id) (hty : typeOf (.builtin id) = pure (.type "method_descriptor")) (hm : MtR X id r) (ho : PE X o to) (ha : PA X (e :: es) t)
    (hbase : attributeBase o name X.env (eval o X.env) = eval o X.env := by rfl)
    (hfew : ((backTo cpos (starEach (e :: es) X.env)).all (fun x => !x.1) && (backToKw cpos (keywordEach [] X.env)).all (fun x => x.1.isSome)
      && decide ((e :: es).length + ([] : List Keyword).length + (if ([] : List Keyword).isEmpty then 0 else 1) < 30)) = true := by rfl)
    (hline : (apos.endLine == cpos.line) = true := by rfl) (hs : starEach (e :: es) X.env = (false, eval e X.env) :: starEach es X.env := by rfl) (hplain : (backTo cpos (starEach es X.env)).any (·.1) = false := by rfl) :
    PE X (.Call (.Attribute o name apos) (e :: es) [] cpos) (tBM' X.K T r to t) := by
  refine ⟨fun pins s σ H Q I h => ?_⟩
  refine wpAny_Call_method_late hbase hfew hline rfl (thn (ho.run pins s σ H _ I h) fun v s1 ⟨x, H1, I1, r1, ty, q1⟩ => ?_)
  obtain ⟨h1, h2⟩ := ty'_is I1 r1 ty
  refine ⟨T, id, pa, slot, hty, h1, h2, ?_⟩
  have hA := ha.run cpos pins s1 σ H1 _ I1 q1
  rw [hs] at hA ⊢
  refine Calls.callWith_builtin (by show (false || (backTo cpos (starEach es X.env)).any (·.1)) = false; rw [hplain] <;> rfl) (Calls.evalArgs_plain ?_)
  exact thn hA fun us s2 ⟨vs, H2, I2, r2, q2⟩ => hm pins s2 σ H2 x vs v us Q I2 r1 r2 q2
def tBM0' (K : Fr) (T : String) (r : V → List V → Hp → VK → Prop) (to : TE) : TE := fun σ H Q => to σ H fun x H1 => Ty' K T x H1 ∧ r x [] H1 Q
def rMe (K : Fr) (m : Me) : V → List V → Hp → VK → Prop := fun x xs H Q => ∃ Xc μ v vs r μ', MRel K Xc μ H ∧ Den K (Dn Xc μ) H v x ∧ DenL K (Dn Xc μ) H vs xs ∧ meV μ m v vs = some (r, μ') ∧
  ∀ y H', MRel K Xc μ' H' → Ext μ H μ' H' → Den K (Dn Xc μ') H' r y → Q y H'
theorem se_meG {o e : Expr} {es : List Expr} {name : Str} {apos cpos : Pos} {T id : String} {m : Me} {eo : E} {l : Es} (hΦ : MonoP Φ)
    (h : PE X (.Call (.Attribute o name apos) (e :: es) [] cpos) (tBM' X.K T (rMe X.K m) (rdE X.K X.mg Φ W eo) (rdA X.K X.mg Φ W l)))
    (ty : ∀ {Xc : Addr → Prop} {μ : Mu} {H : Hp} {v : Val} {x : V}, MRel X.K Xc μ H → Den X.K (Dn Xc μ) H v x → meOk μ m v = true → Ty' X.K T x H) : SE X Φ W (.Call (.Attribute o name apos) (e :: es) [] cpos) (.me m eo l) :=
  PE.imp h fun σ H Q ⟨Xc, env, μ, S, q⟩ => by
    simp only [wpE] at q
    refine use hΦ S Ext.refl q fun v μ1 x H1 S1 E1 E1' d ⟨ok, q1⟩ => ⟨ty S1.m d ok, ?_⟩
    refine useA hΦ S1 E1' q1 fun vs μ2 xs H2 S2 E2 E2' d2 q2 => ?_
    split at q2
    · rename_i r μ3 hr
      exact ⟨Xc, μ2, v, vs, r, μ3, S2.m, d.ext E2, d2, hr, fun y H3 m3 E3 d3 => q2 y H3 (S2.of_ext m3 E3) (E2'.trans E3) d3⟩
    · exact q2.elim
theorem ty_lst {Xc : Addr → Prop} {μ : Mu} {H : Hp} {v : Val} {x : V} {l : List Val} (m : MRel X.K Xc μ H) (d : Den X.K (Dn Xc μ) H v x) (h : content μ v = some (.lst l)) : Ty' X.K "list" x H := by
  obtain ⟨a, xs, rfl, q, _⟩ := m.lst d h
  exact .inl (.inl ⟨rfl, xs, q⟩)
theorem mt_append' : MtR X "list.append" (rMe X.K .append) := by
  intro pins s σ H x xs v us Q I rx rv h
  obtain ⟨Xc, μ, v', vs, r, μ', m, d, ds, e, q⟩ := h
  simp only [meV, appendF] at e
  split at e
  · rename_i a y
    split at e
    · rename_i l hl
      split at e
      · rename_i hz
        cases e
        obtain ⟨ys, hy, l1⟩ := m.lstM hl
        obtain ⟨z, rfl, dz⟩ := ds.one
        have r' : CRel X.K (Dn Xc μ) H (.lst (l ++ [y])) (.lst (ys ++ [z])) := ⟨_, rfl, l1.append ⟨z, [], rfl, dz, rfl⟩⟩
        exact mt_append pins s σ H x [z] v us Q I rx rv ⟨a, ys, z, d, rfl, hy, by rw [← big_line, ← l1.length]; exact hz, q _ _ (m.put hl r') (Ext.put hl) rfl⟩
      · cases e
    · cases e
  all_goals first | (cases e; done) | skip
theorem mt_pop' : MtR X "list.pop" (rMe X.K .pop) := by
  intro pins s σ H x xs v us Q I rx rv h
  obtain ⟨Xc, μ, v', vs, r, μ', m, d, ds, e, q⟩ := h
  have hs : sizeLine = 16777216 := sizeLine_eq
  simp only [meV, popF] at e
  split at e
  all_goals first | (cases e; done) | skip
  · rename_i a
    split at e
    · rename_i l hl
      obtain ⟨y, hy, e2⟩ := Option.map_eq_some_iff.mp e
      cases e2
      obtain ⟨ys, hys, l1⟩ := m.lstM hl
      obtain ⟨z, hz, dz⟩ := l1.get hy
      have r' : CRel X.K (Dn Xc μ) H (.lst l.dropLast) (.lst ys.dropLast) := ⟨_, rfl, l1.dropLast⟩
      rw [show xs = [] from ds] at rv
      exact mt_pop pins s σ H x [] v us Q I rx rv ⟨a, ys, z, d, rfl, hys, by rw [← l1.length]; exact hz, q _ _ (m.put hl r') (Ext.put hl) (dz.ext (Ext.put hl))⟩
    · cases e
  · rename_i a i
    split at e
    · rename_i l hl
      split at e
      · rename_i hbig
        cases hk : Mi.ixN l.length i with
        | none => rw [hk] at e; cases e
        | some k =>
          rw [hk] at e
          obtain ⟨y, hy, e2⟩ := Option.map_eq_some_iff.mp e
          cases e2
          obtain ⟨ys, hys, l1⟩ := m.lstM hl
          obtain ⟨z, hz, dz⟩ := l1.get hy
          obtain ⟨w, rfl, dw⟩ := ds.one
          have r' : CRel X.K (Dn Xc μ) H (.lst (l.eraseIdx k)) (.lst (ys.eraseIdx k)) := ⟨_, rfl, l1.eraseIdx k⟩
          have hk' : L2.ixN ys.length i = some k := by rw [← l1.length]; exact hk
          obtain ⟨h1, h2, h3, h4⟩ := ixN_seq hk'
          have hbig' : l.length ≤ 16777216 := hbig
          have hln := l1.length
          exact mt_popAt pins s σ H x [w] v us Q I rx rv ⟨a, ys, i, k, z, d, by rw [show w = V.int i from dw], hys, by omega, by omega, h1, hz, q _ _ (m.put hl r') (Ext.put hl) (dz.ext (Ext.put hl))⟩
      · cases e
    · cases e
theorem se_append (hΦ : MonoP Φ) {o e : Expr} {apos cpos : Pos} {eo ea : E} (ho : SE X Φ W o eo) (ha : SE X Φ W e ea)
    (hbase : attributeBase o "append" X.env (eval o X.env) = eval o X.env := by rfl)
    (hfew : ((backTo cpos (starEach (e :: []) X.env)).all (fun x => !x.1) && (backToKw cpos (keywordEach [] X.env)).all (fun x => x.1.isSome)
      && decide ((e :: []).length + ([] : List Keyword).length + (if ([] : List Keyword).isEmpty then 0 else 1) < 30)) = true := by rfl)
    (hline : (apos.endLine == cpos.line) = true := by rfl) (hs : starEach (e :: []) X.env = (false, eval e X.env) :: starEach [] X.env := by rfl) (hplain : (backTo cpos (starEach [] X.env)).any (·.1) = false := by rfl) :
    SE X Φ W (.Call (.Attribute o "append" apos) [e] [] cpos) (.me .append eo (.cons ea .nil)) :=
  se_meG (id := "list.append") hΦ (pe_bm' PySem.F.plainAttrs_list PySem.F.slot_list_append PySem.F.type_list_append mt_append' ho (sa_cons hΦ ha sa_nil hs) hbase hfew hline hs hplain) fun {Xc μ H v x} m d ok => by
    replace ok : isLst μ v = true := ok
    unfold isLst at ok
    split at ok
    · rename_i hc; exact ty_lst m d hc
    · cases ok
theorem se_pop1 (hΦ : MonoP Φ) {o e : Expr} {apos cpos : Pos} {eo ea : E} (ho : SE X Φ W o eo) (ha : SE X Φ W e ea)
    (hbase : attributeBase o "pop" X.env (eval o X.env) = eval o X.env := by rfl)
    (hfew : ((backTo cpos (starEach (e :: []) X.env)).all (fun x => !x.1) && (backToKw cpos (keywordEach [] X.env)).all (fun x => x.1.isSome)
      && decide ((e :: []).length + ([] : List Keyword).length + (if ([] : List Keyword).isEmpty then 0 else 1) < 30)) = true := by rfl)
    (hline : (apos.endLine == cpos.line) = true := by rfl) (hs : starEach (e :: []) X.env = (false, eval e X.env) :: starEach [] X.env := by rfl) (hplain : (backTo cpos (starEach [] X.env)).any (·.1) = false := by rfl) :
    SE X Φ W (.Call (.Attribute o "pop" apos) [e] [] cpos) (.me .pop eo (.cons ea .nil)) :=
  se_meG (id := "list.pop") hΦ (pe_bm' PySem.F.plainAttrs_list PySem.F.slot_list_pop PySem.F.type_list_pop mt_pop' ho (sa_cons hΦ ha sa_nil hs) hbase hfew hline hs hplain) fun {Xc μ H v x} m d ok => by
    replace ok : isLst μ v = true := ok
    unfold isLst at ok
    split at ok
    · rename_i hc; exact ty_lst m d hc
    · cases ok
theorem ints_tup {K : Fr} {D : Addr → Prop} {H : Hp} : ∀ {ks : List Val} {ns : List Int} {xs : List V}, intsOf ks = some ns → DenL K D H ks xs → xs = (ns.map (Sum.inl : Int → Key)).map kV
  | [], ns, xs, h, d => by
    cases h
    exact d
  | v :: r, ns, xs, h, ⟨x, t, e1, d1, d2⟩ => by
    subst e1
    cases v with
    | int i =>
      obtain ⟨ns', h1, rfl⟩ := Option.map_eq_some_iff.mp (show (intsOf r).map (i :: ·) = some ns from h)
      rw [ints_tup h1 d2, show x = V.int i from d1]
      rfl
    | _ => cases h
theorem MRel.dtt {K : Fr} {Xc : Addr → Prop} {μ : Mu} {H : Hp} (m : MRel K Xc μ H) {v : Val} {x : V} {l : List (List Int × Int)} (d : Den K (Dn Xc μ) H v x) (h : content μ v = some (.dtt l)) : ∃ a, x = .ref a ∧ Rd H a (.dT (ttK l)) := by
  cases v with
  | ref a =>
    obtain ⟨o, e, r⟩ := m.obj a _ h
    obtain rfl : o = .dT (ttK l) := r
    exact ⟨a, d, .inl e⟩
  | dtt l' =>
    cases h
    obtain ⟨a, e1, _, r⟩ := d
    exact ⟨a, e1, r⟩
  | _ => cases h
end
end Mi
/-! Mi7b: more built-ins, more methods. -/
namespace Mi
open PySem PySem.Spec PyProof.Rows L2
open AutoSeq1 (wpAny_loadPart')

theorem intsOf_eq : ∀ {l : List Val} {ns : List Int}, intsOf l = some ns → l = ns.map .int
  | [], ns, h => by cases h; rfl
  | v :: r, ns, h => by
    cases v with
    | int i =>
      simp only [intsOf] at h
      obtain ⟨m, hm, rfl⟩ := Option.map_eq_some_iff.mp h
      rw [intsOf_eq hm]; rfl
    | _ => cases h
theorem den_ints {K : Fr} {D : Addr → Prop} {H : Hp} : ∀ {ns : List Int} {xs : List V}, DenL K D H (ns.map Val.int) xs → xs = ns.map V.int
  | [], xs, h => h
  | i :: r, xs, h => by
    obtain ⟨x, t, rfl, d, h2⟩ := h
    rw [show x = V.int i from d, den_ints h2]; rfl
theorem ints_den' {K : Fr} {D : Addr → Prop} {H : Hp} : ∀ ns : List Int, DenL K D H (ns.map Val.int) (ns.map V.int)
  | [] => rfl
  | i :: r => ⟨.int i, r.map V.int, rfl, rfl, ints_den' r⟩
theorem lstOf_eq {μ : Mu} {v : Val} {l : List Val} (h : lstOf μ v = some l) : content μ v = some (.lst l) := by
  unfold lstOf at h
  split at h
  · rename_i hc; cases h; exact hc
  · cases h
section
variable {X : Cx} {Xc : Addr → Prop} {μ : Mu} {H : Hp}
end
section
variable {X : Cx} {Φ : Ph} {W : WX} {a b c : Expr} {pos : Pos}
theorem risS : ∀ (p : Str) (l : List Str), PyProof.Rows.risingS p l = true → (p :: l).Pairwise (fun a b => leS a b = true)
  | p, [], _ => by simp
  | p, x :: r, h => by
    have h : (!PySem.Spec.ltCps x.cps.toList p.cps.toList && PyProof.Rows.risingS x r) = true := h
    rw [Bool.and_eq_true, PyProof.Rows.ltCps_eq] at h
    have ih := risS x r h.2
    rw [List.pairwise_cons]
    refine ⟨fun y hy => ?_, ih⟩
    have h1 : leS p x = true := h.1
    rcases List.mem_cons.mp hy with rfl | hy
    · exact h1
    · exact leS_trans _ _ _ h1 ((List.pairwise_cons.mp ih).1 y hy)
theorem sortS_uniq {l ns : List Str} (h1 : l.Perm ns) (h2 : PyProof.Rows.sortedS l = true) : l = sortS ns := by
  have h3 : l.Pairwise (fun a b => leS a b = true) := by
    cases l with
    | nil => simp
    | cons p r => exact risS p r h2
  exact List.Perm.eq_of_pairwise (fun a b _ _ h h' => leS_anti a b h h') h3 (sortS_sorted ns) (h1.trans (sortS_perm ns).symm)
theorem strs_den' {K : Fr} {D : Addr → Prop} {H : Hp} : ∀ ns : List Str, (∀ s ∈ ns, PyData.strOk s = true) → DenL K D H (ns.map Val.str) (ns.map V.str)
  | [], _ => rfl
  | i :: r, h => ⟨.str i, r.map V.str, rfl, ⟨rfl, h i List.mem_cons_self⟩, strs_den' r fun s hs => h s (List.mem_cons_of_mem _ hs)⟩
theorem sorted_okS {ns : List Str} (h : ∀ s ∈ ns, PyData.strOk s = true) : ∀ s ∈ sortS ns, PyData.strOk s = true := fun s hs => h s ((sortS_perm ns).mem_iff.mp hs)
theorem den_strs' {K : Fr} {D : Addr → Prop} {H : Hp} : ∀ {l : List Val} {ns : List Str} {xs : List V}, strsOf l = some ns → DenL K D H l xs → xs = ns.map V.str ∧ ∀ s ∈ ns, PyData.strOk s = true
  | [], ns, xs, h, d => by
    cases h
    exact ⟨d, fun s hs => by cases hs⟩
  | .str i :: r, ns, xs, h, d => by
    obtain ⟨ns', e1, rfl⟩ := Option.map_eq_some_iff.mp (show (strsOf r).map (i :: ·) = some ns from h)
    obtain ⟨x, ys, rfl, dx, dr⟩ := d
    obtain ⟨h1, h2⟩ := den_strs' e1 dr
    rw [h1, dx.1]
    refine ⟨rfl, fun s hs => ?_⟩
    rcases List.mem_cons.mp hs with rfl | hs
    · exact dx.2
    · exact h2 s hs
  | .non :: _, _, _, h, _ => by cases h
  | .bl _ :: _, _, _, h, _ => by cases h
  | .int _ :: _, _, _, h, _ => by cases h
  | .tup _ :: _, _, _, h, _ => by cases h
  | .lst _ :: _, _, _, h, _ => by cases h
  | .dct _ :: _, _, _, h, _ => by cases h
  | .ref _ :: _, _, _, h, _ => by cases h
  | .exn _ _ :: _, _, _, h, _ => by cases h
  | .ins _ _ :: _, _, _, h, _ => by cases h
  | .dtt _ :: _, _, _, h, _ => by cases h
theorem sf_sorted (hΦ : MonoP Φ) {x : Str} {p pos : Pos} {e : E} (hg : Gl X x) (hm : X.mg x = none) (hv : bootBuiltins x = some (.builtin "sorted")) (hn : x ≠ "__name__") (hdb : (x == ("__debug__" : Str)) = false) (ha : SE X Φ W a e)
    (he : starEach (a :: []) X.env = (false, eval a X.env) :: starEach [] X.env := by rfl) (hpl : (backTo pos (starEach [] X.env)).any (·.1) = false := by rfl) : SF X Φ W (.Call (.Name x p) [a] [] pos) (.bi .sorted (.cons e .nil)) :=
  sf_biG hΦ (pe_callB (cr_or cr_sortedI cr_sortedS) hg hm hv (sa_cons hΦ ha sa_nil he) hn hdb he hpl) fun {Xc μ H vs xs res Q} m d hr f => by
    simp only [biV, sortedF] at hr
    split at hr
    · obtain ⟨l, hl, h2⟩ := Option.bind_eq_some_iff.mp hr
      obtain ⟨x, rfl, dx⟩ := d.one
      obtain ⟨a, ys, rfl, q1, l1⟩ := m.lst dx (lstOf_eq hl)
      split at h2
      · rename_i ns hn
        cases h2
        rw [intsOf_eq hn] at l1
        rw [den_ints l1] at q1
        refine .inl ⟨a, ns, rfl, q1, fun ns' p hp hs hn => f p _ hn ?_⟩
        rw [sort_uniq hp hs]
        exact ⟨_, rfl, ints_den' _⟩
      · obtain ⟨ns, hn, h3⟩ := Option.bind_eq_some_iff.mp h2
        split at h3
        · rename_i h64
          cases h3
          obtain ⟨l2, l3⟩ := den_strs' hn l1
          rw [l2] at q1
          refine .inr ⟨a, ns, rfl, q1, h64, fun ns' p hp hs hn => f p _ hn ?_⟩
          rw [sortS_uniq hp hs]
          exact ⟨_, rfl, strs_den' _ (sorted_okS l3)⟩
        · cases h3
    · cases hr
theorem list_extendW (l : Addr) (items : Array Value) (n : Nat) (b : Addr) (items2 : Array Value) (n2 : Nat) (dd2 : Option Addr) (sl2 : Array (Option Value)) (hc0 : ¬(!items.isEmpty && Builtin.List.listTooLong (items.size + items2.size)) = true) (hc1 : items.size ≤ sizeLine) (hs2 : items.size + items2.size ≤ sizeLine + 1) :
    Meets (Builtin.«list.extend» ⟨[.ref l, .ref b], []⟩) (fun _ R s => s.heap.get? l = some { cls := .type "list", dict := none, data := .seq items n, slots := #[] } ∧ s.heap.get? b = some { cls := .type "list", dict := dd2, data := .seq items2 n2, slots := sl2 } ∧ R (.ok (.ret Value.none)) { s with heap := s.heap.update l (Obj.mapSeq fun x => x ++ items2), toks := s.toks }) :=
  .of_wp fun prog w A R s h => by
    obtain ⟨hp, g, d, tk, os⟩ := s; obtain ⟨hl, hb, h⟩ := h; have f1 := AutoSeq1.idx_int; have f2 := AutoSeq1.sub_tuple_tuple; have f3 := AutoSeq1.sub_list_list; have f4 := AutoSeq1.sub_tuple_list; have f5 := AutoSeq1.sub_list_tuple;
    have hz' : (items ++ items2).size ≤ sizeLine + 1 := by rw [Array.size_append]; exact hs2
    wp_walk using (wpAny_updateSeq hl rfl (hz := hc1) (_hz' := hz')), wpAny_loadPart' hl, wpAny_loadPart' hb; exact ⟨_, rfl, h⟩
theorem list_extendV (l : Addr) (items : Array Value) (n : Nat) (b : Addr) (items2 : Array Value) (n2 : Nat) (dd2 : Option Addr) (sl2 : Array (Option Value)) (hc0 : ¬(!items.isEmpty && Builtin.List.listTooLong (items.size + items2.size)) = true) (hc1 : items.size ≤ sizeLine) (hs2 : items.size + items2.size ≤ sizeLine + 1) :
    Meets (Builtin.«list.extend» ⟨[.ref l, .ref b], []⟩) (fun _ R s => s.heap.get? l = some { cls := .type "list", dict := none, data := .seq items n, slots := #[] } ∧ s.heap.get? b = some { cls := .type "tuple", dict := dd2, data := .seq items2 n2, slots := sl2 } ∧ R (.ok (.ret Value.none)) { s with heap := s.heap.update l (Obj.mapSeq fun x => x ++ items2), toks := s.toks }) :=
  .of_wp fun prog w A R s h => by
    obtain ⟨hp, g, d, tk, os⟩ := s; obtain ⟨hl, hb, h⟩ := h; have f1 := AutoSeq1.idx_int; have f2 := AutoSeq1.sub_tuple_tuple; have f3 := AutoSeq1.sub_list_list; have f4 := AutoSeq1.sub_tuple_list; have f5 := AutoSeq1.sub_list_tuple;
    have hz' : (items ++ items2).size ≤ sizeLine + 1 := by rw [Array.size_append]; exact hs2
    wp_walk using (wpAny_updateSeq hl rfl (hz := hc1) (_hz' := hz')), wpAny_loadPart' hl, wpAny_loadPart' hb; exact ⟨_, rfl, h⟩
theorem seqOf_eq {μ : Mu} {v : Val} {l : List Val} (h : seqOf μ v = some l) : content μ v = some (.lst l) ∨ content μ v = some (.tup l) := by
  unfold seqOf at h
  split at h
  · rename_i hc; cases h; exact .inl hc
  · rename_i hc; cases h; exact .inr hc
  · cases h
theorem mt_extend' : MtR X "list.extend" (rMe X.K .extend) := by
  intro pins s σ H x xs v us Q I rx rv h
  obtain ⟨Xc, μ, v', vs, r, μ', m, d, ds, e, q⟩ := h
  simp only [meV, extendF] at e
  split at e
  · rename_i a y
    split at e
    · rename_i l hl
      obtain ⟨r2, hr2, e2⟩ := Option.bind_eq_some_iff.mp e
      split at e2
      · rename_i hz
        cases e2
        obtain ⟨ys, hy, l1⟩ := m.lstM hl
        obtain ⟨z, rfl, dz⟩ := ds.one
        rcases seqOf_eq hr2 with hc | hc
        · obtain ⟨b, zs, rfl, q2, l2⟩ := m.lst dz hc
          have r' : CRel X.K (Dn Xc μ) H (.lst (l ++ r2)) (.lst (ys ++ zs)) := ⟨_, rfl, l1.append l2⟩
          have hq := q .non _ (m.put hl r') (Ext.put hl) rfl
          obtain rfl : x = V.ref a := d
          obtain rfl : v = Value.ref a := rx
          obtain ⟨u, rfl, ru⟩ := rv.one
          obtain rfl : u = Value.ref b := ru
          obtain ⟨z1, its, n, rr, hle, ho⟩ := I.lstM hy
          obtain ⟨its2, rr2, hl2, z2⟩ := I.list q2
          obtain ⟨⟨cls2, dd2, data2, sl2⟩, ho2, hc2, n2, hd2⟩ := id hl2.isList
          simp only at hc2 hd2
          subst hc2 hd2
          have hlen : ys.length + zs.length ≤ sizeLine := by rw [← big_line, ← l1.length, ← l2.length]; exact hz
          have e1 := rr.length
          have e2 := rr2.length
          have hsz : its.toArray.size + its2.toArray.size ≤ sizeLine := by rw [List.size_toArray, List.size_toArray]; omega
          have hlong : ¬ (!its.toArray.isEmpty && Builtin.List.listTooLong (its.toArray.size + its2.toArray.size)) = true := by
            rw [notLongL hsz, Bool.and_false]
            exact Bool.false_ne_true
          refine call_meets PySem.F.slot_list_extend ⟨_, ho, rfl⟩ PySem.F.entry_list_extend (PySem.F.args_list_extend_2 _ _)
            (list_extendW a its.toArray n b its2.toArray n2 dd2 sl2 hlong (by rw [List.size_toArray]; omega) (by omega)) ⟨ho, ho2, ?_⟩
          refine ⟨.non, _, I.lset (its' := its ++ its2) hy ho (by simp) (rr.append rr2) ?_, rfl, hq⟩
          rw [List.length_append]
          omega
        · obtain ⟨b, zs, rfl, q2, l2⟩ := m.tup dz hc
          have r' : CRel X.K (Dn Xc μ) H (.lst (l ++ r2)) (.lst (ys ++ zs)) := ⟨_, rfl, l1.append l2⟩
          have hq := q .non _ (m.put hl r') (Ext.put hl) rfl
          obtain rfl : x = V.ref a := d
          obtain rfl : v = Value.ref a := rx
          obtain ⟨u, rfl, ru⟩ := rv.one
          obtain rfl : u = Value.ref b := ru
          obtain ⟨z1, its, n, rr, hle, ho⟩ := I.lstM hy
          obtain ⟨its2, rr2, hl2, z2⟩ := I.tuple q2
          obtain ⟨⟨cls2, dd2, data2, sl2⟩, ho2, hc2, n2, hd2⟩ := id hl2
          simp only at hc2 hd2
          subst hc2 hd2
          have hlen : ys.length + zs.length ≤ sizeLine := by rw [← big_line, ← l1.length, ← l2.length]; exact hz
          have e1 := rr.length
          have e2 := rr2.length
          have hsz : its.toArray.size + its2.toArray.size ≤ sizeLine := by rw [List.size_toArray, List.size_toArray]; omega
          have hlong : ¬ (!its.toArray.isEmpty && Builtin.List.listTooLong (its.toArray.size + its2.toArray.size)) = true := by
            rw [notLongL hsz, Bool.and_false]
            exact Bool.false_ne_true
          refine call_meets PySem.F.slot_list_extend ⟨_, ho, rfl⟩ PySem.F.entry_list_extend (PySem.F.args_list_extend_2 _ _)
            (list_extendV a its.toArray n b its2.toArray n2 dd2 sl2 hlong (by rw [List.size_toArray]; omega) (by omega)) ⟨ho, ho2, ?_⟩
          refine ⟨.non, _, I.lset (its' := its ++ its2) hy ho (by simp) (rr.append rr2) ?_, rfl, hq⟩
          rw [List.length_append]
          omega
      · cases e2
    · cases e
  all_goals first | (cases e; done) | skip
theorem DenL.reverse {K : Fr} {D : Addr → Prop} {H : Hp} : ∀ {l : List Val} {xs : List V}, DenL K D H l xs → DenL K D H l.reverse xs.reverse
  | [], xs, h => by rw [show xs = [] from h]; exact rfl
  | v :: r, xs, ⟨x, t, e, d, h⟩ => by
    subst e
    rw [List.reverse_cons, List.reverse_cons]
    exact (DenL.reverse h).append ⟨x, [], rfl, d, rfl⟩
theorem se_extend (hΦ : MonoP Φ) {o e : Expr} {apos cpos : Pos} {eo ea : E} (ho : SE X Φ W o eo) (ha : SE X Φ W e ea)
    (hbase : attributeBase o "extend" X.env (eval o X.env) = eval o X.env := by rfl)
    (hfew : ((backTo cpos (starEach (e :: []) X.env)).all (fun x => !x.1) && (backToKw cpos (keywordEach [] X.env)).all (fun x => x.1.isSome)
      && decide ((e :: []).length + ([] : List Keyword).length + (if ([] : List Keyword).isEmpty then 0 else 1) < 30)) = true := by rfl)
    (hline : (apos.endLine == cpos.line) = true := by rfl) (hs : starEach (e :: []) X.env = (false, eval e X.env) :: starEach [] X.env := by rfl) (hplain : (backTo cpos (starEach [] X.env)).any (·.1) = false := by rfl) :
    SE X Φ W (.Call (.Attribute o "extend" apos) [e] [] cpos) (.me .extend eo (.cons ea .nil)) :=
  se_meG (id := "list.extend") hΦ (pe_bm' PySem.F.plainAttrs_list PySem.F.slot_list_extend PySem.F.type_list_extend mt_extend' ho (sa_cons hΦ ha sa_nil hs) hbase hfew hline hs hplain) fun {Xc μ H v x} m d ok => by
    replace ok : isLst μ v = true := ok
    unfold isLst at ok
    split at ok
    · rename_i hc; exact ty_lst m d hc
    · cases ok
/-! .count(b), .index(b) of bools -/
end
end Mi
/-! Mi7c: xs[::-1]. -/
namespace Mi
open PySem PySem.Spec PyProof.Rows L2
section
variable {prog : Program} {w : World} {A : Around} {E : Value → Shared → Prop} {s : Shared}
end
section
variable {X : Cx} {e st : Expr} {te : TE} {ts : TO} {pos p2 : Pos}
variable {Φ : Ph} {W : WX}
end
end Mi
/-! Mi7d: how many different ones a list, a tuple holds. -/
namespace Mi
open PySem PySem.Spec PyProof.Rows L2
abbrev Ky := L2.Key
def met (val : Nat → Ky) : Nat → List Ky
  | 0 => []
  | i + 1 => if (met val i).any (fun x => decide (x = val i)) = true then met val i else met val i ++ [val i]
theorem met_le (val : Nat → Ky) : ∀ i, (met val i).length ≤ i
  | 0 => Nat.le_refl 0
  | i + 1 => by
    have ih := met_le val i
    unfold met
    split
    · omega
    · rw [List.length_append, List.length_singleton]; omega
def inMet (val : Nat → Ky) (i : Nat) : Ky → Bool := fun k => (met val i).any fun x => decide (x = k)
theorem inMet_succ (val : Nat → Ky) (i : Nat) (k : Ky) : inMet val (i + 1) k = (inMet val i k || decide (k = val i)) := by
  unfold inMet
  rw [met]
  by_cases h : ((met val i).any fun x => decide (x = val i)) = true
  · rw [if_pos h]
    by_cases e : k = val i
    · subst e; rw [h]; simp
    · simp [e]
  · rw [if_neg h, List.any_append]
    by_cases e : k = val i
    · subst e; simp
    · have : ¬ val i = k := fun z => e z.symm
      simp [e, this]
theorem met_len (val : Nat → Ky) (i : Nat) : (met val (i + 1)).length = if inMet val i (val i) = true then (met val i).length else (met val i).length + 1 := by
  unfold inMet
  rw [met]
  split <;> simp
section
variable {prog : Program} {w : World} {A : Around} {R : Result → Shared → Prop} {I : Addr} {fp wr : List Addr} {G : Array GenState → Array GenState → Prop} {n : Nat} {P : Nat → Value → Prop} {St : Nat → Shared → Prop}
theorem setof_eq {h : Heap} {a : Addr} {S S' : Ky → Bool} {n n' : Nat} (hS : h.SetOf (mixKind prog w) a S n) (e : S = S') (en : n = n') : h.SetOf (mixKind prog w) a S' n' := by
  subst e en
  exact hS
theorem setof_move {h h' : Heap} {a : Addr} {S : Ky → Bool} {n : Nat} (hS : h.SetOf (mixKind prog w) a S n) (e : ∀ o, h.get? a = some o → h'.get? a = some o) : h'.SetOf (mixKind prog w) a S n := by
  obtain ⟨o, es, ep, t, ho, rest⟩ := hS
  exact ⟨o, es, ep, t, e o ho, rest⟩
theorem fill_loop (W : WalksS prog w A.in1 I fp wr G n P St) (T : Addr) (hT : T ∉ fp) (val : Nat → Ky) (hv : ∀ i v, P i v → (mixKind prog w).is (val i) v = true ∧ v.scannable = true) (hb : n + 1 < scanBound) : ∀ (k i : Nat) (s : Shared), n - i = k → i ≤ n → St i s →
    s.heap.SetOf (mixKind prog w) T (inMet val i) (met val i).length →
    (∀ s', Moved (T :: wr) G s s' → s'.heap.SetOf (mixKind prog w) T (inMet val n) (met val n).length → R (.ok (.ret .none)) s') → codeAny (model prog w) A (.builtin "set.update.loop" ⟨[.ref T, .ref I], []⟩) R s := by
  have hTw : T ∉ wr := fun z => hT (W.sub _ z)
  have hsub : ∀ b ∈ wr, b ∈ T :: wr := fun _ z => .tail _ z
  intro k
  induction k with
  | zero =>
    intro i s hk hi hst hS hR
    obtain rfl : i = n := by omega
    refine codeAny_builtin PyProof.Rows.F.entry_set_update_loop ?_
    rw [Around.under_plainId PyProof.Rows.F.plain_set_update_loop _]
    refine (wpAny_bind (W.done s _ _ hst fun s' hm => ?_) : wpAny _ A.in1 (pyNext (.ref I) >>= _) _ _ s)
    have last := hR s' (hm.mono hsub) (setof_move hS fun o e => hm.heap T _ hTw e)
    show wpAny _ A.in1 (ret .none) _ _ s'
    exact wpAny_pure last
  | succ k ih =>
    intro i s hk hi hst hS hR
    have hlt : i < n := by omega
    refine codeAny_builtin PyProof.Rows.F.entry_set_update_loop ?_
    rw [Around.under_plainId PyProof.Rows.F.plain_set_update_loop _]
    refine (wpAny_bind (W.item i s _ _ hlt hst fun v s' hP hst' hm => ?_) : wpAny _ A.in1 (pyNext (.ref I) >>= _) _ _ s)
    obtain ⟨hk1, hk2⟩ := hv i v hP
    have hS1 := setof_move hS fun o e => hm.heap T _ hTw e
    refine (wpAny_bind (wpAny_holding ?_) : wpAny _ A.in1 (holding [v] (setAdd T v) >>= _) _ _ s')
    unfold setAdd
    refine wpAny_holding (wpAny_bind ((mixKind prog w).pyHash (k := val i) hk1 ?_))
    have hroom : (met val i).length + 1 < scanBound := by have := met_le val i; omega
    refine wpAny_setAddHashed_of (knd := mixKind prog w) (s := { s' with toks := s'.toks + 1 }) hk1 hk2 hS1 hroom fun h' same hS2 => ?_
    have hS3 : h'.SetOf (mixKind prog w) T (inMet val (i + 1)) (met val (i + 1)).length := setof_eq hS2 (funext fun k' => (inMet_succ val i k').symm) (met_len val i).symm
    refine wpAny_pure ⟨plainId_quiet PyProof.Rows.F.plain_set_update_loop _, ih (i + 1) _ (by omega) hlt (W.frame _ s' _ _ hst' (Nat.le_succ _) fun b hb' o e => ?_) hS3 fun s2 hm2 hS4 => ?_⟩
    · have ne : b ≠ T := fun z => hT (z ▸ hb')
      rw [same.2 b ne]
      exact e
    · refine hR s2 (Moved.trans W.gtrans ((hm.mono hsub).then_heap (Nat.le_succ _) fun b o hb' e => ?_) hm2) hS4
      have ne : b ≠ T := fun z => hb' (z ▸ List.mem_cons_self)
      rw [same.2 b ne]
      exact e
abbrev newSet (led : Bool) : Obj := { cls := .type "set", dict := none, data := .set #[] 0 (.fresh 0 0 led) }
theorem call_set_keys {E : Value → Shared → Prop} {s : Shared} {l : Addr} {items : Array Value} (val : Nat → Ky) {Q : Value → Shared → Prop} (hh : A.handled = none) (hl : s.heap.IsList l items)
    (hv : ∀ i v, items[i]? = some v → (mixKind prog w).is (val i) v = true ∧ v.scannable = true) (hb : items.size + 1 < scanBound)
    (q : ∀ (h' : Heap) (tk : Nat), h'.SetOf (mixKind prog w) s.heap.objs.size (inMet val items.size) (met val items.size).length → (∀ b o, b < s.heap.objs.size → s.heap.get? b = some o → h'.get? b = some o) → Q (.ref s.heap.objs.size) { s with heap := h', toks := tk }) :
    wpAny (model prog w) A (call (.type "set") [.ref l]) Q E s := by
  obtain ⟨c, tl, hmro⟩ := PySem.F.called_set.mro
  have f1 := PySem.F.called_set.made
  have f2 := PySem.F.called_set.sub
  have f3 := PySem.F.called_set.notType
  have f4 := PySem.F.called_set.canCreate
  have f5 := PySem.F.typeCall_set_1 (.ref l)
  refine wpAny_call (codeAny_of_tree (show wpAny _ _ (callAny (.type "set") _) _ _ _ from wpAny_pure ⟨Code.quiet_builtin _ (by decide +kernel), codeAny_builtin PySem.F.entry_type_call ?_⟩))
  rw [Around.under_plain (weight_type_call_type "set" [.ref l] []) rfl]
  repeat (any_goals (first | assumption | wp_step))
  refine codeAny_mono (code_set_new_1 (.ref l) (E := E) (Q₁ := fun v u => ∃ led : Bool, v = .ref s.heap.objs.size ∧ u = { s with heap := s.heap.push (newSet led) }) fun led => ⟨led, rfl, rfl⟩) fun r u hr => ?_
  match r, hr with
  | .error e, hr => exact hr
  | .ok (.ret v), hr =>
    obtain ⟨led, rfl, rfl⟩ := hr
    have g1 : (s.heap.push (newSet led)).get? s.heap.objs.size = some (newSet led) := Heap.get?_push_size _ rfl
    have g2 : Shared.TypeIs { s with heap := s.heap.push (newSet led) } (.ref s.heap.objs.size) "set" := ⟨_, g1, rfl⟩
    have g3 := PySem.F.called_set.init.lookup
    have g4 := PySem.F.called_set.init.bind (.ref s.heap.objs.size)
    repeat (any_goals (first | assumption | wp_step))
    refine codeAny_mono (codeAny_call_builtin (R := wants (fun r u => r = .none ∧ ∃ h' tk, u = { s with heap := h', toks := tk } ∧ h'.SetOf (mixKind prog w) s.heap.objs.size (inMet val items.size) (met val items.size).length ∧ (∀ b o, b < s.heap.objs.size → s.heap.get? b = some o → h'.get? b = some o)) E) PySem.F.called_set.init.plain PySem.F.entry_set_init (check_set_init_1 g2 ?_)) fun r u hr => ?_
    · obtain ⟨⟨cls, dd, data, sl⟩, ho, hc, nl, hd⟩ := id hl
      simp only at hc hd
      subst hc hd
      have ho' : (s.heap.push (newSet led)).get? l = some { cls := .type "list", dict := dd, data := .seq items nl, slots := sl } := Heap.get?_push_of_some _ ho
      have l1 : (s.heap.push (newSet led)).IsList l items := ⟨_, ho', rfl, nl, rfl⟩
      have e1 := PySem.F.sub_list_set
      have e2 := PySem.F.sub_list_frozenset
      have e3 : (Value.type "list" == Value.type "dict") = false := by decide
      unfold Builtin.«set.__init__» noKeywords Builtin.Frozenset.updateFrom
      generalize hPI : pyIter = PI
      wp_walk
      subst hPI
      refine wpAny_pyIter_list l1 (wpAny_bind (wpAny_runValue ?_))
      have lt := Heap.lt_size ho
      have z : (s.heap.push (newSet led)).objs.size = s.heap.objs.size + 1 := Heap.size_push ..
      have n1 : l ≠ (s.heap.push (newSet led)).objs.size := by rw [z]; exact Nat.ne_of_lt (Nat.lt_succ_of_lt lt)
      have n2 : s.heap.objs.size ∉ [(s.heap.push (newSet led)).objs.size, l] := by
        rw [z]
        simp only [List.mem_cons, List.not_mem_nil, or_false, not_or]
        exact ⟨Nat.ne_of_lt (Nat.lt_succ_self _), Nat.ne_of_gt lt⟩
      refine fill_loop ((Walks.list (by simp [hh] : A.in1.in1.in1.handled = none) _ l n1 items).toS) s.heap.objs.size n2 val hv hb (items.size - 0) 0 _ (by omega) (Nat.zero_le _) ⟨⟨_, Heap.get?_push_size _ rfl, rfl, rfl⟩, (l1.push _)⟩ ?_ fun s2 hm hs => ?_
      · have g5 : ((s.heap.push (newSet led)).push { cls := .type "list_iterator", data := .fields #[.ref l, .int 0 0] }).get? s.heap.objs.size = some (newSet led) := Heap.get?_push_of_some _ g1
        exact ⟨newSet led, #[], 0, _, g5, ⟨rfl, rfl, rfl⟩, rfl, fun e he => by simp at he, fun k => by simp [inMet, met], by decide, by rfl, rfl⟩
      · obtain ⟨h', g', d', tk', os'⟩ := s2
        have k1 : g' = s.gens := hm.gens
        have k2 : d' = s.drawn := hm.drawn
        have k3 : os' = s.os := hm.os
        subst k1 k2 k3
        show wpAny _ _ _ _ _ _
        refine wpAny_pure ?_
        show wpAny _ _ (ret Value.none) _ _ _
        refine wpAny_pure ⟨rfl, h', tk', rfl, hs, fun b o hb' e => ?_⟩
        have m1 : b ≠ s.heap.objs.size := Nat.ne_of_lt hb'
        have m2 : b ≠ (s.heap.push (newSet led)).objs.size := by rw [z]; exact Nat.ne_of_lt (Nat.lt_succ_of_lt hb')
        refine hm.heap b o ?_ (Heap.get?_push_of_some _ (Heap.get?_push_of_some _ e))
        simp only [List.mem_cons, List.not_mem_nil, or_false, not_or]
        exact ⟨m1, m2⟩
    · match r, hr with
      | .error e, hr => exact hr
      | .ok (.ret v), hr =>
        obtain ⟨rfl, h', tk, rfl, hs, hk⟩ := hr
        repeat (any_goals (first | assumption | wp_step))
        exact q _ _ hs hk
  | .ok .next, hr => exact hr.elim
theorem call_set_keysT {E : Value → Shared → Prop} {s : Shared} {l : Addr} {items : Array Value} (val : Nat → Ky) {Q : Value → Shared → Prop} (hh : A.handled = none) (hl : s.heap.IsTuple l items)
    (hv : ∀ i v, items[i]? = some v → (mixKind prog w).is (val i) v = true ∧ v.scannable = true) (hb : items.size + 1 < scanBound)
    (q : ∀ (h' : Heap) (tk : Nat), h'.SetOf (mixKind prog w) s.heap.objs.size (inMet val items.size) (met val items.size).length → (∀ b o, b < s.heap.objs.size → s.heap.get? b = some o → h'.get? b = some o) → Q (.ref s.heap.objs.size) { s with heap := h', toks := tk }) :
    wpAny (model prog w) A (call (.type "set") [.ref l]) Q E s := by
  obtain ⟨c, tl, hmro⟩ := PySem.F.called_set.mro
  have f1 := PySem.F.called_set.made
  have f2 := PySem.F.called_set.sub
  have f3 := PySem.F.called_set.notType
  have f4 := PySem.F.called_set.canCreate
  have f5 := PySem.F.typeCall_set_1 (.ref l)
  refine wpAny_call (codeAny_of_tree (show wpAny _ _ (callAny (.type "set") _) _ _ _ from wpAny_pure ⟨Code.quiet_builtin _ (by decide +kernel), codeAny_builtin PySem.F.entry_type_call ?_⟩))
  rw [Around.under_plain (weight_type_call_type "set" [.ref l] []) rfl]
  repeat (any_goals (first | assumption | wp_step))
  refine codeAny_mono (code_set_new_1 (.ref l) (E := E) (Q₁ := fun v u => ∃ led : Bool, v = .ref s.heap.objs.size ∧ u = { s with heap := s.heap.push (newSet led) }) fun led => ⟨led, rfl, rfl⟩) fun r u hr => ?_
  match r, hr with
  | .error e, hr => exact hr
  | .ok (.ret v), hr =>
    obtain ⟨led, rfl, rfl⟩ := hr
    have g1 : (s.heap.push (newSet led)).get? s.heap.objs.size = some (newSet led) := Heap.get?_push_size _ rfl
    have g2 : Shared.TypeIs { s with heap := s.heap.push (newSet led) } (.ref s.heap.objs.size) "set" := ⟨_, g1, rfl⟩
    have g3 := PySem.F.called_set.init.lookup
    have g4 := PySem.F.called_set.init.bind (.ref s.heap.objs.size)
    repeat (any_goals (first | assumption | wp_step))
    refine codeAny_mono (codeAny_call_builtin (R := wants (fun r u => r = .none ∧ ∃ h' tk, u = { s with heap := h', toks := tk } ∧ h'.SetOf (mixKind prog w) s.heap.objs.size (inMet val items.size) (met val items.size).length ∧ (∀ b o, b < s.heap.objs.size → s.heap.get? b = some o → h'.get? b = some o)) E) PySem.F.called_set.init.plain PySem.F.entry_set_init (check_set_init_1 g2 ?_)) fun r u hr => ?_
    · obtain ⟨⟨cls, dd, data, sl⟩, ho, hc, nl, hd⟩ := id hl
      simp only at hc hd
      subst hc hd
      have ho' : (s.heap.push (newSet led)).get? l = some { cls := .type "tuple", dict := dd, data := .seq items nl, slots := sl } := Heap.get?_push_of_some _ ho
      have l1 : (s.heap.push (newSet led)).IsTuple l items := ⟨_, ho', rfl, nl, rfl⟩
      have e1 := PySem.F.sub_tuple_set
      have e2 := PySem.F.sub_tuple_frozenset
      have e3 : (Value.type "tuple" == Value.type "dict") = false := by decide
      unfold Builtin.«set.__init__» noKeywords Builtin.Frozenset.updateFrom
      generalize hPI : pyIter = PI
      wp_walk
      subst hPI
      refine wpAny_pyIter_tuple l1 (wpAny_bind (wpAny_runValue ?_))
      have lt := Heap.lt_size ho
      have z : (s.heap.push (newSet led)).objs.size = s.heap.objs.size + 1 := Heap.size_push ..
      have n1 : l ≠ (s.heap.push (newSet led)).objs.size := by rw [z]; exact Nat.ne_of_lt (Nat.lt_succ_of_lt lt)
      have n2 : s.heap.objs.size ∉ [(s.heap.push (newSet led)).objs.size, l] := by
        rw [z]
        simp only [List.mem_cons, List.not_mem_nil, or_false, not_or]
        exact ⟨Nat.ne_of_lt (Nat.lt_succ_self _), Nat.ne_of_gt lt⟩
      refine fill_loop ((Walks.tuple (by simp [hh] : A.in1.in1.in1.handled = none) _ l n1 items).toS) s.heap.objs.size n2 val hv hb (items.size - 0) 0 _ (by omega) (Nat.zero_le _) ⟨⟨_, Heap.get?_push_size _ rfl, rfl, rfl⟩, (l1.push _)⟩ ?_ fun s2 hm hs => ?_
      · have g5 : ((s.heap.push (newSet led)).push { cls := .type "tuple_iterator", data := .fields #[.ref l, .int 0 0] }).get? s.heap.objs.size = some (newSet led) := Heap.get?_push_of_some _ g1
        exact ⟨newSet led, #[], 0, _, g5, ⟨rfl, rfl, rfl⟩, rfl, fun e he => by simp at he, fun k => by simp [inMet, met], by decide, by rfl, rfl⟩
      · obtain ⟨h', g', d', tk', os'⟩ := s2
        have k1 : g' = s.gens := hm.gens
        have k2 : d' = s.drawn := hm.drawn
        have k3 : os' = s.os := hm.os
        subst k1 k2 k3
        show wpAny _ _ _ _ _ _
        refine wpAny_pure ?_
        show wpAny _ _ (ret Value.none) _ _ _
        refine wpAny_pure ⟨rfl, h', tk', rfl, hs, fun b o hb' e => ?_⟩
        have m1 : b ≠ s.heap.objs.size := Nat.ne_of_lt hb'
        have m2 : b ≠ (s.heap.push (newSet led)).objs.size := by rw [z]; exact Nat.ne_of_lt (Nat.lt_succ_of_lt hb')
        refine hm.heap b o ?_ (Heap.get?_push_of_some _ (Heap.get?_push_of_some _ e))
        simp only [List.mem_cons, List.not_mem_nil, or_false, not_or]
        exact ⟨m1, m2⟩
    · match r, hr with
      | .error e, hr => exact hr
      | .ok (.ret v), hr =>
        obtain ⟨rfl, h', tk, rfl, hs, hk⟩ := hr
        repeat (any_goals (first | assumption | wp_step))
        exact q _ _ hs hk
  | .ok .next, hr => exact hr.elim
end
/-! the data's side -/
def kVal : Ky → Val
  | .inl i => .int i
  | .inr x => .str x
theorem keyOf_kVal (k : Ky) : keyOf (kVal k) = some k := by cases k <;> rfl
theorem keyEq_kVal (a b : Ky) : keyEq (kVal a) (kVal b) = decide (a = b) := keyEq_of (keyOf_kVal a) (keyOf_kVal b)
theorem keys_of : ∀ {l : List Val}, l.all isKey = true → ∃ ks : List Ky, l = ks.map kVal
  | [], _ => ⟨[], rfl⟩
  | v :: r, h => by
    rw [List.all_cons, Bool.and_eq_true] at h
    obtain ⟨ks, rfl⟩ := keys_of h.2
    cases v with
    | int i => exact ⟨.inl i :: ks, rfl⟩
    | str x => exact ⟨.inr x :: ks, rfl⟩
    | _ => exact absurd h.1 (by simp [isKey])
def stepK (acc : List Ky) (v : Ky) : List Ky := if acc.any (fun x => decide (x = v)) = true then acc else acc ++ [v]
theorem dist_fold : ∀ (ks acc : List Ky), (ks.map kVal).foldl (fun acc v => if acc.any (fun x => keyEq x v) = true then acc else acc ++ [v]) (acc.map kVal) = (ks.foldl stepK acc).map kVal
  | [], acc => rfl
  | k :: r, acc => by
    rw [List.map_cons, List.foldl_cons, List.foldl_cons]
    have e : (acc.map kVal).any (fun x => keyEq x (kVal k)) = acc.any (fun x => decide (x = k)) := by
      rw [List.any_map]
      congr 1
      funext x
      exact keyEq_kVal x k
    rw [e, ← dist_fold r]
    congr 1
    unfold stepK
    split <;> simp
theorem met_fold (ks : List Ky) (z : Ky) : ∀ i, i ≤ ks.length → met (fun j => ks.getD j z) i = (ks.take i).foldl stepK []
  | 0, _ => by simp [met]
  | i + 1, h => by
    have ih := met_fold ks z i (by omega)
    have e : ks.take (i + 1) = ks.take i ++ [ks.getD i z] := by
      rw [List.take_succ, List.getElem?_eq_getElem (by omega), List.getD_eq_getElem?_getD, List.getElem?_eq_getElem (by omega)]
      rfl
    rw [e, List.foldl_append, ← ih]
    rfl
theorem dist_met (ks : List Ky) (z : Ky) : (distK (ks.map kVal)).length = (met (fun j => ks.getD j z) ks.length).length := by
  rw [met_fold ks z _ (Nat.le_refl _), List.take_length]
  have := dist_fold ks []
  unfold distK
  rw [List.map_nil] at this
  rw [this, List.length_map]
theorem den_keys {K : Fr} {D : Addr → Prop} {H : Hp} : ∀ {ks : List Ky} {xs : List V}, DenL K D H (ks.map kVal) xs → xs = ks.map kV
  | [], xs, h => h
  | i :: r, xs, h => by
    obtain ⟨x, t, rfl, d, h2⟩ := h
    rw [den_keys h2, keyOf_den (keyOf_kVal i) d]; rfl
theorem keys_at : ∀ {ks : List Ky} {its : List Value}, Vals (ks.map kV) its → ∀ i v, its[i]? = some v → keyIs (ks.getD i (.inl 0)) v = true ∧ v.scannable = true
  | [], _, .nil, i, v, h => by simp at h
  | k :: ks, _, .cons r t, 0, v, h => by
    cases h
    refine ⟨?_, key_scan r⟩
    cases k with
    | inl i =>
      obtain ⟨t, rfl⟩ := r
      exact keyIs_int i t
    | inr x =>
      obtain ⟨t, rfl⟩ := r
      exact keyIs_str x t
  | k :: ks, _, .cons r t, i + 1, v, h => keys_at t i v (by simpa using h)
section
variable {X : Cx} {a : Expr} {ta : TE} {p p2 q pos : Pos}
theorem pe_lenK (hc : X.calm = true) {x y : Str} (hg : Gl X x) (hm : X.mg x = none) (hv : bootBuiltins x = some (.builtin "len")) (hn : x ≠ "__name__") (hdb : (x == ("__debug__" : Str)) = false) (hg2 : Gl X y) (hm2 : X.mg y = none) (hv2 : bootBuiltins y = some (.type "set")) (hn2 : y ≠ "__name__") (hdb2 : (y == ("__debug__" : Str)) = false) (ha : PE X a ta)
    (na : starEach [a] X.env = (false, eval a X.env) :: starEach [] X.env := by rfl) : PE X (.Call (.Name x p) [.Call (.Name y p2) [a] [] q] [] pos)
    (fun σ H Q => ta σ H fun x H1 => ∃ l, ∃ ks : List Ky, x = .ref l ∧ (SqL X.K H1 l (ks.map kV) ∨ SqT X.K H1 l (ks.map kV)) ∧ ks.length < 4000 ∧ Q (.int (met (fun j => ks.getD j (.inl 0)) ks.length).length) H1) := by
  refine ⟨fun pins s σ H Q I h => ?_⟩
  refine Call_ (ld_blt I hg hm hv ?_ hn hdb)
  refine PyProof.Rows.callWith_builtin1 (PyProof.Rows.args_cons ?_ rfl) rfl rfl
  refine Call_ (ld_blt I hg2 hm2 hv2 ?_ hn2 hdb2)
  refine PyProof.Rows.callWith_type1 (PyProof.Rows.args_cons (thn (ha.run pins s σ H _ I h) fun v s1 ⟨x, H1, I1, r1, q1⟩ => PyProof.Rows.args_nil ?_) na) na rfl
  obtain ⟨l, ks, rfl, hq, h1, q1⟩ := q1
  cases r1
  have big' : ks.length + 1 < scanBound := by unfold scanBound; omega
  have fin : ∀ (its : List Value), Vals (ks.map kV) its → ∀ (h' : Heap) (tk : Nat), h'.SetOf (mixKind X.prog X.w) s1.heap.objs.size (inMet (fun j => ks.getD j (.inl 0)) its.toArray.size) (met (fun j => ks.getD j (.inl 0)) its.toArray.size).length →
      (∀ b o, b < s1.heap.objs.size → s1.heap.get? b = some o → h'.get? b = some o) →
      wpAny (model X.prog X.w) X.A (spliced (backTo pos (starEach [] X.env))) (fun vs s₂ => wpAny (model X.prog X.w) X.A (call (.builtin "len") (Value.ref s1.heap.objs.size :: vs)) (EP X pins σ Q) X.xe s₂) X.xe { s1 with heap := h', toks := tk } := fun its r h' tk hS hk => by
    refine PyProof.Rows.args_nil ?_
    have hl : its.toArray.size = ks.length := by rw [List.size_toArray, ← r.length, List.length_map]
    rw [hl] at hS
    have hb := met_le (fun j => ks.getD j (.inl 0)) ks.length
    obtain ⟨o, es, ep, t, ho, hex, hd, _, _, _, hf, hn⟩ := hS
    have I2 : Inv X pins σ H1 { s1 with heap := h', toks := tk } := I1.kept fun b o e => hk b o (Heap.lt_size e) e
    refine call_len_set ho hex hd hf (by rw [hn]; omega) ⟨.int _, H1, I2.tok _, ⟨_, by rw [hn]⟩, q1⟩
  rcases hq with hq | hq
  · obtain ⟨its, r, pl, hz⟩ := I1.list hq
    have hl : its.toArray.size = ks.length := by rw [List.size_toArray, ← r.length, List.length_map]
    exact call_set_keys _ (I1.ok.hd hc) pl.isList (fun i v e => keys_at r i v (by simpa using e)) (by rw [hl]; exact big') fun h' tk hS hk => fin its r h' tk hS hk
  · obtain ⟨its, r, pl, hz⟩ := I1.tuple hq
    have hl : its.toArray.size = ks.length := by rw [List.size_toArray, ← r.length, List.length_map]
    exact call_set_keysT _ (I1.ok.hd hc) pl (fun i v e => keys_at r i v (by simpa using e)) (by rw [hl]; exact big') fun h' tk hS hk => fin its r h' tk hS hk
variable {Φ : Ph} {W : WX}
theorem se_lenset (hΦ : MonoP Φ) {e : E} {x y : Str} (hg : Gl X x) (hm : X.mg x = none) (hv : bootBuiltins x = some (.builtin "len")) (hn : x ≠ "__name__") (hdb : (x == ("__debug__" : Str)) = false) (hg2 : Gl X y) (hm2 : X.mg y = none) (hv2 : bootBuiltins y = some (.type "set")) (hn2 : y ≠ "__name__") (hdb2 : (y == ("__debug__" : Str)) = false) (ha : SE X Φ W a e) (hc : X.calm = true := by rfl)
    (na : starEach [a] X.env = (false, eval a X.env) :: starEach [] X.env := by rfl) : SE X Φ W (.Call (.Name x p) [.Call (.Name y p2) [a] [] q] [] pos) (.bi .setlen (.cons e .nil)) := by
  refine PE.imp (pe_lenK hc hg hm hv hn hdb hg2 hm2 hv2 hn2 hdb2 ha na) fun σ H Q ⟨Xc, env, μ, S, q⟩ => ?_
  simp only [wpE, wpEs] at q
  refine use hΦ S Ext.refl q fun v μ1 x H1 S1 E1 E1' d q1 => ?_
  split at q1
  · rename_i r hr
    have fin : Fin X.K (Dn Xc μ1) H1 r Q := q1.fin S1 E1'
    simp only [biV, setlenF] at hr
    split at hr
    · rename_i l hl
      split at hr
      · rename_i hk
        cases hr
        obtain ⟨b, ys, rfl, q2, l1⟩ := S1.m.lst d hl
        obtain ⟨ks, rfl⟩ := keys_of hk.1
        rw [den_keys l1] at q2
        rw [dist_met ks (.inl 0)] at fin
        exact ⟨b, ks, rfl, .inl q2, by simpa using hk.2, fin.now _ rfl⟩
      · cases hr
    · rename_i l hl
      split at hr
      · rename_i hk
        cases hr
        obtain ⟨b, ys, rfl, q2, l1⟩ := S1.m.tup d hl
        obtain ⟨ks, rfl⟩ := keys_of hk.1
        rw [den_keys l1] at q2
        rw [dist_met ks (.inl 0)] at fin
        exact ⟨b, ks, rfl, .inr q2, by simpa using hk.2, fin.now _ rfl⟩
      · cases hr
    · cases hr
  · exact q1.elim
end
end Mi
/-! Mi7e: list(d.keys()), list(d.values()), sorted(d.keys()) of whole numbers. -/
namespace Mi
open PySem PySem.Spec PyProof.Rows L2
theorem rd_one {H : Hp} {a : Addr} {x y : List (Key × V)} (h : Rd H a (.dK x)) (h' : Rd H a (.dK y)) : x = y := by
  rcases h with h | ⟨o, h⟩ <;> rcases h' with h' | ⟨o', h'⟩ <;> rw [h] at h' <;> injection h' with h'
  · injection h'
  · cases h'
  · cases h'
  · injection h' with _ h'
    injection h'
section
variable {X : Cx} {e : Expr} {td : TE} {apos cpos p pos : Pos} {pins : List (Addr × Obj)} {σ : L2.St} {H : Hp} {s : Shared} {Q1 : VK} {R E : Value → Shared → Prop}
structure Look (X : Cx) (pins : List (Addr × Obj)) (σ : L2.St) (H : Hp) (T : String) (kvs : List (Key × V)) (s : Shared) (r d : Addr) (vs : List (Key × Value)) (ep : Nat) : Prop where
  inv : Inv X pins σ H s
  view : s.heap.get? r = some { cls := .type T, data := .fields #[.ref d] }
  dict : s.heap.DictAt (mixKind X.prog X.w) d vs ep
  rel : KV kvs vs
  few : vs.length ≤ sizeLine
theorem look_keys (he : PE X e td) (I : Inv X pins σ H s) (h : td σ H Q1) (hd : ∀ x H1, Q1 x H1 → ∃ d kvs, x = .ref d ∧ Rd H1 d (.dK kvs)) (k : ∀ d kvs H1 s2 r vs ep, Q1 (.ref d) H1 → Rd H1 d (.dK kvs) → Look X pins σ H1 "dict_keys" kvs s2 r d vs ep → R (.ref r) s2)
    (hbase : attributeBase e "keys" X.env (eval e X.env) = eval e X.env) (hline : (apos.endLine == cpos.line) = true) : wpAny (model X.prog X.w) X.A (eval (.Call (.Attribute e "keys" apos) [] [] cpos) X.env) R X.xe s := by
  refine wpAny_Call_method (T := "dict") (id := "dict.keys") hbase rfl hline F.plainAttrs_dict F.slot_dict_keys F.type_dict_keys (thn (he.run pins s σ H _ I h) fun u s1 ⟨x, H1, I1, rx, q⟩ => ?_)
  obtain ⟨d, kvs, rfl, hr⟩ := hd x H1 q
  obtain rfl : u = Value.ref d := rx
  obtain ⟨z, lo, vs, rel, dd⟩ := dk_rd I1.hok hr
  obtain ⟨ep, hat⟩ := dd.dictAt
  refine ⟨dd.typeIs, dd.mapOf.noDict, ?_⟩
  show wpAny _ _ (callWith cpos (.builtin "dict.keys") [.ref d] [] []) _ X.xe s1
  refine method_meetsIn F.slot_dict_keys F.entry_dict_keys rfl (PySem.evalArgs_none ⟨rfl, dd.typeIs, F.args_dict_keys_1 _, _, PySem.W.kdl_meets_keys (mixKind X.prog X.w) d lo, ⟨vs, dd⟩, ?_⟩)
  exact k d kvs H1 _ _ vs ep q hr ⟨I1.kept (t' := s1.toks) fun b ob q => Heap.get?_push_of_some _ q, Heap.get?_push_size _ rfl, hat.push _, rel, by rw [← rel.length]; exact z⟩
def tKeysL (td : TE) : TE := fun σ H Q => td σ H fun x H1 => ∃ d kvs, x = .ref d ∧ Rd H1 d (.dK kvs) ∧ ∀ p, H1 p = none → Q (.ref p) (upd H1 p (.lst (kvs.map fun kv => kV kv.1)))
def tValsL (td : TE) : TE := fun σ H Q => td σ H fun x H1 => ∃ d kvs, x = .ref d ∧ Rd H1 d (.dK kvs) ∧ ∀ p, H1 p = none → Q (.ref p) (upd H1 p (.lst (kvs.map fun kv => kv.2)))
def tKeysS (td : TE) : TE := fun σ H Q => td σ H fun x H1 => ∃ d kvs, x = .ref d ∧ Rd H1 d (.dK kvs) ∧ ((∃ ks : List Int, kvs.map (·.1) = ks.map Sum.inl ∧ ks.length < 64 ∧ ∀ (ys : List Int) (p : Addr), ys.Perm ks → ys.Pairwise (· ≤ ·) → H1 p = none → Q (.ref p) (upd H1 p (.lst (ys.map V.int)))) ∨
  ∃ ks : List Str, kvs.map (·.1) = ks.map Sum.inr ∧ ks.length < 64 ∧ ∀ (ys : List Str) (p : Addr), ys.Perm ks → PyProof.Rows.sortedS ys = true → H1 p = none → Q (.ref p) (upd H1 p (.lst (ys.map V.str))))
theorem pe_keysS (hg : Gl X "sorted") (hm : X.mg "sorted" = none) (he : PE X e td) (hc : X.calm = true := by rfl) (hbase : attributeBase e "keys" X.env (eval e X.env) = eval e X.env := by rfl) (hline : (apos.endLine == cpos.line) = true := by rfl) : PE X (.Call (.Name "sorted" p) [.Call (.Attribute e "keys" apos) [] [] cpos] [] pos) (tKeysS td) := by
  refine ⟨fun pins s σ H Q I h => Call_ (ld_blt I hg hm PyProof.Rows.boot_sorted (PyProof.Rows.callWith_builtin1 (PyProof.Rows.args_cons (look_keys he I h (fun x H1 ⟨d, kvs, a, b, _⟩ => ⟨d, kvs, a, b⟩) (fun d kvs H1 s2 r vs ep q hr L => PyProof.Rows.args_nil ?_) hbase hline) rfl) rfl rfl))⟩
  obtain ⟨d', kvs', e1, hr', q⟩ := q
  cases e1
  obtain rfl := rd_one hr' hr
  rcases q with ⟨ks, hks, h64, q⟩ | ⟨ks, hks, h64, q⟩
  · have e0 : vs.map (·.1) = ks.map Sum.inl := L.rel.keys.symm.trans hks
    have n0 : vs.length = ks.length := by simpa using congrArg List.length e0
    refine Calls.call_function_entry PyProof.Rows.kind_sorted PyProof.Rows.plain_sorted PyProof.Rows.entry_sorted (PyProof.Rows.args_sorted1 _) ?_
    unfold Builtin.«sorted»
    refine wpAny_bind (m := checkCount "sorted" 1 1 _) (wpAny_pure (wpAny_bind (PySem.W.kdu_collect (A := X.A.in1) (PySem.W.kdl_keys (knd := mixKind X.prog X.w) (kvs := vs) (ep := ep) (r := r) (d := d)) (L.inv.ok.hd hc) ⟨⟨_, L.view, rfl, rfl⟩, L.dict⟩ L.few fun h' tk acc hk hacc => ?_)))
    have n1 : acc.toList.length = ks.length := by rw [Array.length_toList, hacc.1, n0]
    have all : IntsAre acc.toList ks := L2.ints_each n1 fun j v e => by
      obtain ⟨k, x, g1, g2⟩ := hacc.2 j v (by rw [← Array.getElem?_toList]; exact e)
      have g3 : (ks.map (Sum.inl : Int → Key))[j]? = some k := by rw [← e0, List.getElem?_map, g1]; rfl
      rw [List.getElem?_map] at g3
      obtain ⟨i, g4, g5⟩ := Option.map_eq_some_iff.mp g3
      subst g5
      rcases keyIs_shape (show keyIs (Sum.inl i) v = true from g2) with ⟨i', t, ek, ev⟩ | ⟨z, t, ek, ev⟩
      · cases ek
        exact ⟨i, t, g4, ev⟩
      · cases ek
    have J : Inv X pins σ H1 { s2 with heap := h', toks := tk } := L.inv.kept hk
    refine wpAny_bind (wpAny_newList ?_ (by rw [n1, sizeLine_eq]; omega))
    have at0 : (h'.push (seqObj "list" acc.toList.toArray 0)).get? h'.objs.size = some (seqObj "list" acc.toList.toArray 0) := Heap.get?_push_size _ rfl
    show wpAny _ _ _ _ _ { s2 with heap := h'.push (seqObj "list" acc.toList.toArray 0), toks := tk }
    refine wpAny_bind (wpAny_holding (wpAny_call_entry PyProof.Rows.slot_list_sort ⟨_, at0, rfl⟩ PyProof.Rows.entry_list_sort
      (PyProof.Rows.list_sort_tree (s := { s2 with heap := h'.push (seqObj "list" acc.toList.toArray 0), toks := tk }) at0 all (by rw [n1]; exact h64) fun out ys g1 g2 g3 => ⟨_, rfl, ?_⟩) (PyProof.Rows.args_list_sort _)))
    obtain ⟨cap, there⟩ := PyProof.Rows.sortedHeap_at (vs := acc.toList) (out := out) at0
    refine wpAny_pure ⟨_, rfl, .ref h'.objs.size, _, J.laid (t' := tk) (fun b u g => ?_) (Nat.le_refl _) (show ObjOk X.prog X.w _ _ _ (.lst (ys.map V.int)) from ⟨?_, out.toList, cap, vals_of_ints g1, by rw [Array.toArray_toList]; exact there⟩), rfl, q ys _ g2 g3 (J.hok.fresh (Nat.le_refl _))⟩
    · have lt : b < h'.objs.size := Heap.lt_size g
      rw [PyProof.Rows.sortedHeap_old (Nat.ne_of_lt lt) (by rw [size_push']; exact Nat.lt_succ_of_lt lt)]
      exact Heap.get?_push_of_some _ g
    · rw [List.length_map, g2.length_eq]
      exact Nat.le_trans (Nat.le_of_lt h64) (by decide)
  · have e0 : vs.map (·.1) = ks.map Sum.inr := L.rel.keys.symm.trans hks
    have n0 : vs.length = ks.length := by simpa using congrArg List.length e0
    refine Calls.call_function_entry PyProof.Rows.kind_sorted PyProof.Rows.plain_sorted PyProof.Rows.entry_sorted (PyProof.Rows.args_sorted1 _) ?_
    unfold Builtin.«sorted»
    refine wpAny_bind (m := checkCount "sorted" 1 1 _) (wpAny_pure (wpAny_bind (PySem.W.kdu_collect (A := X.A.in1) (PySem.W.kdl_keys (knd := mixKind X.prog X.w) (kvs := vs) (ep := ep) (r := r) (d := d)) (L.inv.ok.hd hc) ⟨⟨_, L.view, rfl, rfl⟩, L.dict⟩ L.few fun h' tk acc hk hacc => ?_)))
    have n1 : acc.toList.length = ks.length := by rw [Array.length_toList, hacc.1, n0]
    have hS : StrsAre acc.toList ks := L2.strs_at n1 fun j v e => by
      obtain ⟨k, x, g1, g2⟩ := hacc.2 j v (by rw [← Array.getElem?_toList]; exact e)
      have g3 : (ks.map (Sum.inr : Str → Key))[j]? = some k := by rw [← e0, List.getElem?_map, g1]; rfl
      rw [List.getElem?_map] at g3
      obtain ⟨i, g4, g5⟩ := Option.map_eq_some_iff.mp g3
      subst g5
      obtain ⟨t, ev⟩ := Value.isStrOf_shape (x := i) (v := v) g2
      exact ⟨i, t, g4, ev⟩
    have J : Inv X pins σ H1 { s2 with heap := h', toks := tk } := L.inv.kept hk
    refine wpAny_bind (wpAny_newList ?_ (by rw [n1, sizeLine_eq]; omega))
    have at0 : (h'.push (seqObj "list" acc.toList.toArray 0)).get? h'.objs.size = some (seqObj "list" acc.toList.toArray 0) := Heap.get?_push_size _ rfl
    show wpAny _ _ _ _ _ { s2 with heap := h'.push (seqObj "list" acc.toList.toArray 0), toks := tk }
    refine wpAny_bind (wpAny_holding (wpAny_call_entry PyProof.Rows.slot_list_sort ⟨_, at0, rfl⟩ PyProof.Rows.entry_list_sort
      (list_sort_treeK strKind_oneLt (s := { s2 with heap := h'.push (seqObj "list" acc.toList.toArray 0), toks := tk }) at0 hS.keysOf (fun v₁ v₂ rest e => keyKind_strs (by rw [← e]; exact hS)) (by rw [n1]; exact h64) fun st' hp hs => ⟨_, rfl, ?_⟩)
      (PyProof.Rows.args_list_sort _)))
    obtain ⟨ys, g1, g2, g3⟩ := sorted_out_str hS hp hs
    obtain ⟨cap, there⟩ := PyProof.Rows.sortedHeap_at (vs := acc.toList) (out := (arrOf st').map (·.2)) at0
    refine wpAny_pure ⟨_, rfl, .ref h'.objs.size, _, J.laid (t' := tk) (fun b u g => ?_) (Nat.le_refl _) (show ObjOk X.prog X.w _ _ _ (.lst (ys.map V.str)) from ⟨?_, ((arrOf st').map (·.2)).toList, cap, vals_of_strs g1, by rw [Array.toArray_toList]; exact there⟩), rfl, q ys _ g2 g3 (J.hok.fresh (Nat.le_refl _))⟩
    · have lt : b < h'.objs.size := Heap.lt_size g
      rw [PyProof.Rows.sortedHeap_old (Nat.ne_of_lt lt) (by rw [size_push']; exact Nat.lt_succ_of_lt lt)]
      exact Heap.get?_push_of_some _ g
    · rw [List.length_map, g2.length_eq]
      exact Nat.le_trans (Nat.le_of_lt h64) (by decide)
end
/-! the language's side -/
theorem ints_keys {K : Fr} {D : Addr → Prop} {H : Hp} : ∀ {l : List Val} {kvs : List (Key × V)} {ns : List Int}, DenP K D H l kvs → intsOf (dKeys l) = some ns → kvs.map (·.1) = ns.map Sum.inl
  | [], kvs, ns, h, e => by rw [show kvs = [] from h]; cases e; rfl
  | .tup [.int i, v] :: r, kvs, ns, ⟨j', x, t, e, hk', d, dr⟩, h => by
    subst e
    cases hk'
    obtain ⟨ns', e1, rfl⟩ := Option.map_eq_some_iff.mp (show (intsOf (dKeys r)).map (i :: ·) = some ns from h)
    rw [List.map_cons, List.map_cons, ints_keys dr e1]
  | .tup [.str i, v] :: r, kvs, ns, _, h => by cases h
  | .tup [.non, v] :: r, kvs, ns, _, h => by cases h
  | .tup [.bl _, v] :: r, kvs, ns, _, h => by cases h
  | .tup [.tup _, v] :: r, kvs, ns, _, h => by cases h
  | .tup [.lst _, v] :: r, kvs, ns, _, h => by cases h
  | .tup [.dct _, v] :: r, kvs, ns, _, h => by cases h
  | .tup [.ref _, v] :: r, kvs, ns, _, h => by cases h
  | .tup [.exn _ _, v] :: r, kvs, ns, _, h => by cases h
  | .tup [.ins _ _, v] :: r, kvs, ns, _, h => by cases h
  | .tup [.dtt _, v] :: r, kvs, ns, _, h => by cases h
  | .tup [] :: _, _, _, h, _ => h.elim
  | .tup [_] :: _, _, _, h, _ => h.elim
  | .tup (_ :: _ :: _ :: _) :: _, _, _, h, _ => h.elim
  | .non :: _, _, _, h, _ => h.elim
  | .bl _ :: _, _, _, h, _ => h.elim
  | .int _ :: _, _, _, h, _ => h.elim
  | .str _ :: _, _, _, h, _ => h.elim
  | .lst _ :: _, _, _, h, _ => h.elim
  | .dct _ :: _, _, _, h, _ => h.elim
  | .ref _ :: _, _, _, h, _ => h.elim
  | .exn _ _ :: _, _, _, h, _ => h.elim
  | .ins _ _ :: _, _, _, h, _ => h.elim
  | .dtt _ :: _, _, _, h, _ => h.elim
theorem strs_keys {K : Fr} {D : Addr → Prop} {H : Hp} : ∀ {l : List Val} {kvs : List (Key × V)} {ns : List Str}, DenP K D H l kvs → strsOf (dKeys l) = some ns → kvs.map (·.1) = ns.map Sum.inr
  | [], kvs, ns, h, e => by rw [show kvs = [] from h]; cases e; rfl
  | .tup [.str i, v] :: r, kvs, ns, ⟨j', x, t, e, hk', d, dr⟩, h => by
    subst e
    cases hk'
    obtain ⟨ns', e1, rfl⟩ := Option.map_eq_some_iff.mp (show (strsOf (dKeys r)).map (i :: ·) = some ns from h)
    rw [List.map_cons, List.map_cons, strs_keys dr e1]
  | .tup [.int i, v] :: r, kvs, ns, _, h => by cases h
  | .tup [.non, v] :: r, kvs, ns, _, h => by cases h
  | .tup [.bl _, v] :: r, kvs, ns, _, h => by cases h
  | .tup [.tup _, v] :: r, kvs, ns, _, h => by cases h
  | .tup [.lst _, v] :: r, kvs, ns, _, h => by cases h
  | .tup [.dct _, v] :: r, kvs, ns, _, h => by cases h
  | .tup [.ref _, v] :: r, kvs, ns, _, h => by cases h
  | .tup [.exn _ _, v] :: r, kvs, ns, _, h => by cases h
  | .tup [.ins _ _, v] :: r, kvs, ns, _, h => by cases h
  | .tup [.dtt _, v] :: r, kvs, ns, _, h => by cases h
  | .tup [] :: _, _, _, h, _ => h.elim
  | .tup [_] :: _, _, _, h, _ => h.elim
  | .tup (_ :: _ :: _ :: _) :: _, _, _, h, _ => h.elim
  | .non :: _, _, _, h, _ => h.elim
  | .bl _ :: _, _, _, h, _ => h.elim
  | .int _ :: _, _, _, h, _ => h.elim
  | .str _ :: _, _, _, h, _ => h.elim
  | .lst _ :: _, _, _, h, _ => h.elim
  | .dct _ :: _, _, _, h, _ => h.elim
  | .ref _ :: _, _, _, h, _ => h.elim
  | .exn _ _ :: _, _, _, h, _ => h.elim
  | .ins _ _ :: _, _, _, h, _ => h.elim
  | .dtt _ :: _, _, _, h, _ => h.elim
section
variable {X : Cx} {e : Expr} {apos cpos p pos : Pos} {Φ : Ph} {W : WX} {ea : E}
theorem se_keysS (hΦ : MonoP Φ) (hg : Gl X "sorted") (hm : X.mg "sorted" = none) (he : SE X Φ W e ea) (hc : X.calm = true := by rfl) (hbase : attributeBase e "keys" X.env (eval e X.env) = eval e X.env := by rfl) (hline : (apos.endLine == cpos.line) = true := by rfl) : SF X Φ W (.Call (.Name "sorted" p) [.Call (.Attribute e "keys" apos) [] [] cpos] [] pos) (.bi .sortK (.cons ea .nil)) := by
  refine PE.imp (pe_keysS hg hm he hc hbase hline) fun σ H Q ⟨Xc, env, μ, S, q⟩ => ?_
  simp only [wpE, wpEs] at q
  refine use hΦ S Ext.refl q fun v μ1 x H1 S1 E1 E1' d q1 => ?_
  split at q1
  · rename_i r hr
    simp only [biV, sortKF] at hr
    split at hr
    · rename_i l hl
      obtain ⟨b, kvs, rfl, q2, l1⟩ := S1.m.dct d hl
      split at hr
      · rename_i ns hn
        split at hr
        · rename_i h64
          cases hr
          refine ⟨b, kvs, rfl, q2, .inl ⟨ns, ints_keys l1 hn, h64, fun ys p hp hs hn => ?_⟩⟩
          rw [sort_uniq hp hs]
          exact q1 p _ H1 S1 E1 hn ⟨_, rfl, ints_den' _⟩
        · cases hr
      · obtain ⟨ns, hn, hr⟩ := Option.bind_eq_some_iff.mp hr
        split at hr
        · rename_i h64
          cases hr
          refine ⟨b, kvs, rfl, q2, .inr ⟨ns, strs_keys l1 hn, h64.1, fun ys p hp hs hn => ?_⟩⟩
          rw [sortS_uniq hp hs]
          exact q1 p _ H1 S1 E1 hn ⟨_, rfl, strs_den' _ (sorted_okS fun s hs => List.all_eq_true.mp h64.2 s hs)⟩
        · cases hr
    · cases hr
  · exact q1.elim
end
end Mi
/-! Mi8: calls, what is walked, comprehensions. -/
namespace Mi
open PySem PySem.Spec PyProof.Rows L2

/-! ### calls of defs -/
def spP (K : Fr) (mg : Str → Option Value) (Φ : Ph) (f : String) : Sp := fun vs H Q E => ∃ Xc μ m args, MRel K Xc μ H ∧ DenL K (Dn Xc μ) H args vs ∧
  Φ f m args μ (fun v μ' => ∀ x H', MRel K Xc μ' H' → Ext μ H μ' H' → Den K (Dn Xc μ') H' v x → Q x H') (fun e μ' => ∀ cls d H', MRel K Xc μ' H' → Ext μ H μ' H' → ExR K mg e cls d → E cls d H')
def FnT (P : Program) (w : World) (K : Fr) (mg : Str → Option Value) (base : Heap) (Φ : Ph) (k : Nat) (f : String) : Prop :=
  ∃ (a : Addr) (fd : FuncData) (ps : List Str), mg (Str.ofString f) = some (.ref a) ∧ PySem.W.keepIn K (.ref a) = true ∧ Binds K fd ps [] ∧ FnOk P w K mg base (L2.CX P w) k a fd ps (spP K mg Φ f)
section
variable {X : Cx} {Φ : Ph} {W : WX} {a b c : Expr} {pos : Pos}
theorem se_call {k : Nat} {f : String} {e : Expr} {es : List Expr} {l : Es} {p : Pos} {m : Md} (hΦ : MonoP Φ) (T : FnT X.prog X.w X.K X.mg X.base Φ k f) (hr : Room k X.A) (tk : Takes X W) (hg : Gl X (Str.ofString f)) (ha : SA X Φ W (e :: es) l)
    (hdb : (Str.ofString f == ("__debug__" : Str)) = false) (he : starEach (e :: es) X.env = (false, eval e X.env) :: starEach es X.env := by rfl) (hpl : (backTo pos (starEach es X.env)).any (·.1) = false := by rfl) :
    SE X Φ W (.Call (.Name (Str.ofString f) p) (e :: es) [] pos) (.call f m l) := by
  obtain ⟨ad, fd, ps, h1, h2, h3, h4⟩ := T
  refine PE.imp (pe_callS (E := WE W) h4 hr hg h1 h2 h3 (fun σ => passAt tk σ) ha hdb he hpl) fun σ H Q ⟨Xc, env, μ, S, q⟩ => ?_
  simp only [wpE] at q
  refine useA hΦ S Ext.refl q fun vs μ1 xs H1 S1 E1 E1' d q1 => ⟨Xc, μ1, m, vs, S1.m, d, ?_⟩
  exact hΦ _ _ _ _ _ _ _ _ (fun v μ2 z x H2 m2 E2 d2 => z x H2 (S1.of_ext m2 E2) (E1'.trans E2) d2) (fun v μ2 z cls d H2 m2 E2 r => z cls d H2 (S1.of_ext m2 E2) (E1'.trans E2) r) q1

/-! ### what is walked -/
def ItOk (K : Fr) (Xc : Addr → Prop) (μ0 : Mu) (H0 : Hp) (l : List Val) (a : Option (Ad × List Val)) (J : L2.It) : Prop := ∀ (i : Nat) (Xc' : Addr → Prop) (μ : Mu) (H : Hp), MRel K Xc' μ H → (∀ v x, Den K (Dn Xc μ0) H0 v x → Den K (Dn Xc' μ) H v x) → (∀ a ob u, H0 a = some (.frz ob u) → H a = some (.frz ob u)) → gOk a μ →
  (∀ v, l[i]? = some v → J.go i H ∧ ∀ x H', J.yld i H x H' → Ext μ H μ H' ∧ MRel K Xc' μ H' ∧ Den K (Dn Xc' μ) H' v x) ∧ (l.length ≤ i → J.stop i H)
def rdI (K : Fr) (mg : Str → Option Value) (Φ : Ph) (W : WX) (it : It) : TI := fun σ H R => ∃ Xc env μ, SRel K Xc σ H env μ ∧ wpI Φ it env μ (fun l a μ' => ∀ J H', SRel K Xc σ H' env μ' → Ext μ H μ' H' → ItOk K Xc μ' H' l a J → R J H') (XPost K mg W Xc σ H env μ)
abbrev SI (X : Cx) (Φ : Ph) (W : WX) (tg a : Expr) (it : It) : Prop := PI X tg a (rdI X.K X.mg Φ W it)
theorem PI.imp {tg a : Expr} {t t' : TI} (h : PI X tg a t) (f : ∀ σ H R, t' σ H R → t σ H R) : PI X tg a t' := ⟨fun pins s σ H R I q => h.run pins s σ H R I (f _ _ _ q)⟩
def iAny (K : Fr) (tl : TE) : TI := fun σ H R => tl σ H fun x H1 => (∃ a, x = .ref a ∧ (∃ xs, SqL K H1 a xs) ∧ R (Itl K a) H1) ∨ (∃ a, x = .ref a ∧ (∃ xs, SqT K H1 a xs) ∧ R (Itt K a) H1) ∨ (∃ s, x = .str s ∧ R (Its s) H1) ∨
  ∃ d kvs, x = .ref d ∧ ((∃ o, H1 d = some (.frz o (.dK kvs)) ∧ R (Itk d o kvs) H1) ∨ (H1 d = some (.dK kvs) ∧ ∀ o, R (Itk d o kvs) (upd H1 d (.frz o (.dK kvs)))))
theorem pi_any {tg l : Expr} {tl : TE} (hl : PE X l tl) : PI X tg l (iAny X.K tl) := by
  refine ⟨fun pins s σ H R I h => ?_⟩
  refine thn (hl.run pins s σ H _ I h) fun v s1 ⟨x, H1, I1, r1, q1⟩ => ?_
  rcases q1 with ⟨a, e, ⟨xs, hq⟩, q⟩ | ⟨a, e, ⟨xs, hq⟩, q⟩ | ⟨x, ex, q⟩ | ⟨d, kvs, ex, q⟩
  · subst e
    cases r1
    obtain ⟨its, rv, p, hz⟩ := I1.list hq
    refine wpAny_pyIter_list p.isList ?_
    refine ⟨s1.heap.objs.size, [s1.heap.objs.size], _, _, H1, rfl, I1.kept (t' := s1.toks) fun b o e => Heap.get?_push_of_some _ e, turn_list a _, ⟨_, Heap.get?_push_size _ rfl, rfl, rfl⟩, fun b hb => ?_, q⟩
    have e : b = s1.heap.objs.size := by simpa using hb
    subst e
    exact I1.fpOk (Nat.le_refl _) (I1.hok.fresh (Nat.le_refl _))
  · subst e
    cases r1
    obtain ⟨its, rv, p, hz⟩ := I1.tuple hq
    refine wpAny_pyIter_tuple (show s1.heap.IsTuple a its.toArray from p) ?_
    refine ⟨s1.heap.objs.size, [s1.heap.objs.size], _, _, H1, rfl, I1.kept (t' := s1.toks) fun b o e => Heap.get?_push_of_some _ e, turn_tuple a _, ⟨_, Heap.get?_push_size _ rfl, rfl, rfl⟩, fun b hb => ?_, q⟩
    have e : b = s1.heap.objs.size := by simpa using hb
    subst e
    exact I1.fpOk (Nat.le_refl _) (I1.hok.fresh (Nat.le_refl _))
  · subst ex
    obtain ⟨t, rfl⟩ := r1
    cases ha : x.cps.all (· < 128)
    · exact wpAny_pyIter_wide ha (pi_one (tk := s1.toks) I1 _ (turn_str _ x t "str_iterator" (.inr rfl)) ⟨_, Heap.get?_push_size _ rfl, rfl, rfl⟩ q)
    · exact wpAny_pyIter_ascii ha (pi_one (tk := s1.toks) I1 _ (turn_str _ x t "str_ascii_iterator" (.inl rfl)) ⟨_, Heap.get?_push_size _ rfl, rfl, rfl⟩ q)
  · subst ex
    obtain rfl : v = Value.ref d := r1
    rcases q with ⟨o, hd, q⟩ | ⟨hd, q⟩
    · obtain ⟨hs, hgd, hx, es, ep, vs, hdt, hsz, kv, hm⟩ := I1.frzK hd
      refine iter_keys hs hgd hx hdt (pi_one (tk := s1.toks) I1 _ (turn_keys _ hdt) ⟨_, Heap.get?_push_size _ rfl, rfl, ?_⟩ q)
      rw [hsz] <;> rfl
    · obtain ⟨od, I2⟩ := I1.lock hd trivial
      obtain ⟨hs, hgd, hx, es, ep, vs, hdt, hsz, kv, hm⟩ := I2.frzK upd_same
      refine iter_keys hs hgd hx hdt (pi_one (tk := s1.toks) I2 _ (turn_keys _ hdt) ⟨_, Heap.get?_push_size _ rfl, rfl, ?_⟩ (q od))
      rw [hsz] <;> rfl
end
section
variable {K : Fr} {Xc : Addr → Prop} {μ0 : Mu} {H0 : Hp}
theorem gOk_list {l : List Val} {v : Val} {x : V} (d0 : Den K (Dn Xc μ0) H0 v x) (hc : content μ0 v = some (.lst l)) {Xc' : Addr → Prop} {μ : Mu} {H : Hp} (m : MRel K Xc' μ H) (hd : ∀ v x, Den K (Dn Xc μ0) H0 v x → Den K (Dn Xc' μ) H v x) (g : gOk (guard v l) μ) {p : Addr} (hx : x = .ref p) :
    ∃ xs, SqL K H p xs ∧ DenL K (Dn Xc' μ) H l xs := by
  subst hx
  cases v with
  | ref a =>
    have e : V.ref p = V.ref a := d0
    cases e
    obtain ⟨xs, h1, h2⟩ := m.lstM (show μ p = some (.lst l) from g)
    exact ⟨xs, SqL.of h1, h2⟩
  | lst l' =>
    cases hc
    obtain ⟨a, xs, e, q, hl⟩ := hd _ _ d0
    cases e
    refine ⟨xs, ?_, hl⟩
    rcases q with ⟨_, q⟩ | q
    · exact .inl q
    · exact .inr q
  | _ => cases hc
theorem itok_list {l : List Val} {v : Val} {p : Addr} (d0 : Den K (Dn Xc μ0) H0 v (.ref p)) (hc : content μ0 v = some (.lst l)) : ItOk K Xc μ0 H0 l (guard v l) (Itl K p) := fun i Xc' μ H m hd fz g => by
  obtain ⟨xs, q, hl⟩ := gOk_list d0 hc m hd g rfl
  refine ⟨fun w hw => ?_, fun hi => ⟨xs, q, by rw [← hl.length]; exact hi⟩⟩
  obtain ⟨x, hx, dx⟩ := hl.get hw
  refine ⟨⟨xs, x, q, hx⟩, fun y H' ⟨e, hy⟩ => ?_⟩
  subst e
  have := hy xs q
  rw [hx] at this
  cases this
  exact ⟨Ext.refl, m, dx⟩
theorem itok_tup {l : List Val} {v : Val} {p : Addr} (m0 : MRel K Xc μ0 H0) (d0 : Den K (Dn Xc μ0) H0 v (.ref p)) (hc : content μ0 v = some (.tup l)) : ItOk K Xc μ0 H0 l none (Itt K p) := fun i Xc' μ H m hd fz g => by
  have d1 : Den K (Dn Xc μ0) H0 (.tup l) (.ref p) := by
    cases v with
    | ref b => obtain ⟨o, _, z⟩ := m0.obj b _ hc; exact z.elim
    | tup _ => cases hc; exact d0
    | _ => cases hc
  obtain ⟨a, xs, e, q, hl⟩ := m.tup (hd _ _ d1) rfl
  cases e
  refine ⟨fun w hw => ?_, fun hi => ⟨xs, q, by rw [← hl.length]; exact hi⟩⟩
  obtain ⟨x, hx, dx⟩ := hl.get hw
  refine ⟨⟨xs, x, q, hx⟩, fun y H' ⟨e, hy⟩ => ?_⟩
  subst e
  have := hy xs q
  rw [hx] at this
  cases this
  exact ⟨Ext.refl, m, dx⟩
theorem keys_pair {D : Addr → Prop} {H : Hp} : ∀ {l : List Val} {kvs : List (Key × V)}, DenP K D H l kvs → (dKeys l).map keyOf = kvs.map fun p => some p.1
  | [], kvs, h => by rw [show kvs = [] from h]; rfl
  | .tup [k', v] :: r, kvs, ⟨j', x, t, e, hk', d, dr⟩ => by
    subst e
    show keyOf k' :: (dKeys r).map keyOf = some j' :: t.map fun p => some p.1
    rw [hk', keys_pair dr]
  | .tup [] :: _, _, h => h.elim
  | .tup [_] :: _, _, h => h.elim
  | .tup (_ :: _ :: _ :: _) :: _, _, h => h.elim
  | .non :: _, _, h => h.elim
  | .bl _ :: _, _, h => h.elim
  | .int _ :: _, _, h => h.elim
  | .str _ :: _, _, h => h.elim
  | .lst _ :: _, _, h => h.elim
  | .dct _ :: _, _, h => h.elim
  | .ref _ :: _, _, h => h.elim
  | .exn _ _ :: _, _, h => h.elim
  | .ins _ _ :: _, _, h => h.elim
  | .dtt _ :: _, _, h => h.elim
theorem itok_keys {l : List Val} {d : Addr} {o : Obj} {kvs : List (Key × V)} {D : Addr → Prop} {H : Hp} (fz0 : H0 d = some (.frz o (.dK kvs))) (dl : DenP K D H l kvs) (hk : (dKeys l).all okK = true) : ItOk K Xc μ0 H0 (dKeys l) none (Itk d o kvs) := fun i Xc' μ H m hd fz g => by
  have hH := fz d o _ fz0
  have hp := keys_pair dl
  have hl : (dKeys l).length = kvs.length := by simpa using congrArg List.length hp
  refine ⟨fun w hw => ?_, fun hi => ⟨hH, by rw [← hl]; exact hi⟩⟩
  have hi : i < (dKeys l).length := (List.getElem?_eq_some_iff.mp hw).1
  have h1 : ((dKeys l).map keyOf)[i]? = (kvs.map fun p => some p.1)[i]? := by rw [hp]
  rw [List.getElem?_map, List.getElem?_map, hw] at h1
  have hok : okK w = true := List.all_eq_true.mp hk w (List.mem_of_getElem? hw)
  refine ⟨⟨hH, by rw [← hl]; exact hi⟩, fun y H' ⟨e, k, v, h2, h3⟩ => ?_⟩
  subst e
  subst h3
  rw [h2] at h1
  have h4 : keyOf w = some k := Option.some.inj h1
  refine ⟨Ext.refl, m, ?_⟩
  cases w with
  | int j => cases h4; rfl
  | str s => cases h4; exact ⟨rfl, hok⟩
  | _ => cases h4
theorem rm_ne {μ : Mu} {a b : Addr} (h : b ≠ a) : (μ.rm a) b = μ b := if_neg h
theorem rm_none {μ : Mu} {a b : Addr} (h : μ b = none) : (μ.rm a) b = none := by
  unfold Mu.rm
  split
  · rfl
  · exact h
theorem Ext.fix {μ : Mu} {H : Hp} {p : Addr} {c : Val} {o : Obj} {u : HO} (h : μ p = some c) : Ext μ H (μ.rm p) (upd H p (.frz o u)) where
  keepO := fun b w r n => by
    have ne : b ≠ p := fun z => by rw [z, h] at n; cases n
    rw [upd_ne ne]; exact .inl r
  nonew := fun b _ n => rm_none n
  there := fun b q => by
    by_cases e : b = p
    · rw [e, upd_same]; intro z; cases z
    · rw [upd_ne e]; exact q
theorem MRel.fix {μ : Mu} {H : Hp} (m : MRel K Xc μ H) {p : Addr} {c : Val} {o : Obj} {u : HO} (h : μ p = some c) : MRel K Xc (μ.rm p) (upd H p (.frz o u)) where
  obj := fun b d hb => by
    have ne : b ≠ p := fun z => by
      subst z
      unfold Mu.rm at hb
      rw [if_pos rfl] at hb
      cases hb
    rw [rm_ne ne] at hb
    obtain ⟨w, e1, r1⟩ := m.obj b d hb
    exact ⟨w, by rw [upd_ne ne]; exact e1, r1.ext (Ext.fix h)⟩
  xc := fun b q => by
    obtain ⟨⟨w, e1, n⟩, n2⟩ := m.xc b q
    have ne : b ≠ p := fun z => by rw [z, h] at n2; cases n2
    exact ⟨⟨w, by rw [upd_ne ne]; exact e1, n⟩, rm_none n2⟩
theorem Ext.lockV {μ : Mu} {H : Hp} {p : Addr} {o : Obj} {kvs : List (Key × V)} (h : H p = some (.dK kvs)) : Ext μ H μ (upd H p (.frz o (.dK kvs))) where
  keepO := fun b w r n => by
    by_cases e : b = p
    · subst e
      rw [h] at r
      cases r
      exact .inr ⟨o, kvs, rfl, upd_same⟩
    · rw [upd_ne e]; exact .inl r
  nonew := fun b _ n => n
  there := fun b q => by
    by_cases e : b = p
    · rw [e, upd_same]; intro z; cases z
    · rw [upd_ne e]; exact q
theorem MRel.lockV {μ : Mu} {H : Hp} (m : MRel K Xc μ H) {p : Addr} {o : Obj} {kvs : List (Key × V)} (h : H p = some (.dK kvs)) (nd : ¬ Dn Xc μ p) : MRel K Xc μ (upd H p (.frz o (.dK kvs))) where
  obj := fun b d hb => by
    have ne : b ≠ p := fun z => by subst z; exact nd (.inl (by rw [hb]; rfl))
    obtain ⟨w, e1, r1⟩ := m.obj b d hb
    exact ⟨w, by rw [upd_ne ne]; exact e1, r1.ext (Ext.lockV h)⟩
  xc := fun b q => by
    obtain ⟨⟨w, e1, n⟩, n2⟩ := m.xc b q
    have ne : b ≠ p := fun z => by subst z; exact nd (.inr q)
    exact ⟨⟨w, by rw [upd_ne ne]; exact e1, n⟩, n2⟩
theorem itok_str {s : Str} (ok : PyData.strOk s = true) : ItOk K Xc μ0 H0 (s.cps.toList.map fun c => Val.str ⟨#[c]⟩) none (Its s) := fun i Xc' μ H m hd fz g => by
  refine ⟨fun w hw => ?_, fun hi => by
    show s.cps.size ≤ i
    simpa using hi⟩
  rw [List.getElem?_map] at hw
  obtain ⟨c, hc, rfl⟩ := Option.map_eq_some_iff.mp hw
  have hc' : s.cps[i]? = some c := by simpa using hc
  refine ⟨by
    have := Array.getElem?_eq_some_iff.mp hc'
    exact this.1, fun y H' ⟨e, c', h1, h2⟩ => ?_⟩
  subst e
  rw [hc'] at h1
  cases h1
  subst h2
  exact ⟨Ext.refl, m, rfl, strOk_sign ok (List.mem_of_getElem? hc)⟩
theorem itok_range {lo : Int} {n : Nat} : ItOk K Xc μ0 H0 (intsFrom lo n) none (Itr lo n) := fun i Xc' μ H m hd fz g => by
  refine ⟨fun w hw => ?_, fun hi => by
    show n ≤ i
    simpa [intsFrom] using hi⟩
  unfold intsFrom at hw
  rw [List.getElem?_map] at hw
  obtain ⟨k, hk, rfl⟩ := Option.map_eq_some_iff.mp hw
  have hki : i < n ∧ i = k := by
    have h1 : i < (List.range n).length := (List.getElem?_eq_some_iff.mp hk).1
    have h1' : i < n := by simpa using h1
    rw [List.getElem?_range h1'] at hk
    exact ⟨h1', Option.some.inj hk⟩
  obtain ⟨h1, rfl⟩ := hki
  refine ⟨h1, fun y H' ⟨e, h2⟩ => ?_⟩
  subst e
  exact ⟨Ext.refl, m, h2⟩
theorem enumL_get : ∀ (l : List Val) (j : Int) (i : Nat) (w : Val), (enumL j l)[i]? = some w → ∃ v, l[i]? = some v ∧ w = .tup [.int (j + i), v]
  | [], _, _, _, h => by simp [enumL] at h
  | v :: r, j, 0, w, h => by
    simp only [enumL, List.getElem?_cons_zero, Option.some.injEq] at h
    exact ⟨v, rfl, by rw [← h]; simp⟩
  | v :: r, j, i + 1, w, h => by
    simp only [enumL, List.getElem?_cons_succ] at h
    obtain ⟨u, h1, h2⟩ := enumL_get r (j + 1) i w h
    refine ⟨u, by simpa using h1, ?_⟩
    rw [h2]
    congr 3
    push_cast
    omega
theorem enumL_len : ∀ (l : List Val) (j : Int), (enumL j l).length = l.length
  | [], _ => rfl
  | v :: r, j => by simp only [enumL, List.length_cons, enumL_len r]
theorem itok_enum {l : List Val} {v : Val} {p : Addr} (d0 : Den K (Dn Xc μ0) H0 v (.ref p)) (hc : content μ0 v = some (.lst l)) : ItOk K Xc μ0 H0 (enumL 0 l) (guard v l) (Ite K p) := fun i Xc' μ H m hd fz g => by
  obtain ⟨xs, q, hl⟩ := gOk_list d0 hc m hd g rfl
  refine ⟨fun w hw => ?_, fun hi => ⟨xs, q, by rw [← hl.length]; rw [enumL_len] at hi; exact hi⟩⟩
  obtain ⟨u, hu, rfl⟩ := enumL_get l 0 i w hw
  obtain ⟨x, hx, dx⟩ := hl.get hu
  refine ⟨⟨xs, x, q, hx⟩, fun y H' ⟨T, z, e1, hT, e2, hy⟩ => ?_⟩
  have := hy xs q
  rw [hx] at this
  cases this
  subst e1; subst e2
  refine ⟨Ext.laid hT, m.laid hT, ?_⟩
  refine NewRel.den m hT ⟨_, rfl, .int ((0 : Int) + (i : Nat)), [x], by simp, rfl, x, [], rfl, dx, rfl⟩
end
section
variable {X : Cx} {Φ : Ph} {W : WX} {a b c tg : Expr} {pos : Pos}
theorem si_e (hΦ : MonoP Φ) {e : E} (h : SE X Φ W a e) : SI X Φ W tg a (.e e) := PI.imp (pi_any h) fun σ H R ⟨Xc, env, μ, S, q⟩ => by
  simp only [wpI] at q
  refine use hΦ S Ext.refl q fun v μ1 x H1 S1 E1 _ d q1 => ?_
  split at q1
  · rename_i l hl
    obtain ⟨p, xs, rfl, r1, _⟩ := S1.m.lst d hl
    exact .inl ⟨p, rfl, ⟨xs, r1⟩, q1 _ H1 S1 E1 (itok_list d hl)⟩
  · rename_i l hl
    obtain ⟨p, xs, rfl, r1, _⟩ := S1.m.tup d hl
    exact .inr (.inl ⟨p, rfl, ⟨xs, r1⟩, q1 _ H1 S1 E1 (itok_tup S1.m d hl)⟩)
  · rename_i s hl
    obtain ⟨rfl, ok⟩ := S1.m.strV d hl
    exact .inr (.inr (.inl ⟨s, rfl, q1 _ H1 S1 E1 (itok_str ok)⟩))
  · rename_i l hl
    obtain ⟨hk, q2⟩ := q1
    cases v with
    | ref a =>
      have hl' : μ1 a = some (.dct l) := hl
      obtain rfl : x = V.ref a := d
      obtain ⟨kvs, hH, dl⟩ := S1.m.dctM hl'
      exact .inr (.inr (.inr ⟨a, kvs, rfl, .inr ⟨hH, fun o => q2 _ _ (S1.of_ext (S1.m.fix hl') (Ext.fix hl')) (E1.trans (Ext.fix hl')) (itok_keys upd_same dl hk)⟩⟩))
    | dct l' =>
      cases hl
      obtain ⟨a, kvs, rfl, nd, r1, dl⟩ := d
      rcases r1 with h | ⟨o, h⟩
      · exact .inr (.inr (.inr ⟨a, kvs, rfl, .inr ⟨h, fun o => q2 _ _ (S1.of_ext (S1.m.lockV h nd) (Ext.lockV h)) (E1.trans (Ext.lockV h)) (itok_keys upd_same dl hk)⟩⟩))
      · exact .inr (.inr (.inr ⟨a, kvs, rfl, .inl ⟨o, h, q2 _ _ S1 E1 (itok_keys h dl hk)⟩⟩))
    | _ => cases hl
  · exact q1.elim
theorem si_range (hΦ : MonoP Φ) {e : E} {p : Pos} (hg : Gl X "range") (hm : X.mg "range" = none) (h : SE X Φ W a e) (hs : starEach [a] X.env = [(false, eval a X.env)] := by rfl) : SI X Φ W tg (.Call (.Name "range" p) [a] [] pos) (.range e) :=
  PI.imp (pi_range1 (pos := pos) hg hm (sa_cons hΦ h sa_nil hs) hs) fun σ H R ⟨Xc, env, μ, S, q⟩ => by
    simp only [wpI] at q
    have q' : wpEs Φ (.cons e .nil) env μ (fun vs μ' => ∃ v, vs = [v] ∧ match v with
      | .int j => -(2 ^ 62) ≤ j ∧ j < 2 ^ 62 ∧ ∀ J H', SRel X.K Xc σ H' env μ' → Ext μ H μ' H' → ItOk X.K Xc μ' H' (intsFrom 0 j.toNat) none J → R J H'
      | _ => False) (XPost X.K X.mg W Xc σ H env μ) := by
      rw [wpEs]
      exact wpE_mono hΦ e env μ _ _ _ _ (fun v μ1 z => ⟨v, rfl, z⟩) (fun _ _ z => z) q
    refine useA hΦ S Ext.refl q' fun vs μ1 xs H1 S1 E1 _ d ⟨v, ev, q1⟩ => ?_
    subst ev
    obtain ⟨x, rfl, dx⟩ := d.one
    cases v with
    | int j => exact ⟨j, by rw [show x = V.int j from dx], q1.1, q1.2.1, q1.2.2 _ H1 S1 E1 itok_range⟩
    | _ => exact q1.elim
theorem si_enum (hΦ : MonoP Φ) {e : E} {p tpos : Pos} {elts : List Expr} {kk : Nat} (hg : Gl X "enumerate") (hm : X.mg "enumerate" = none) (h : SE X Φ W a e) (hs : starEach [a] X.env = [(false, eval a X.env)] := by rfl) :
    SI X Φ W (.Tuple elts kk tpos) (.Call (.Name "enumerate" p) [a] [] pos) (.enum e) :=
  PI.imp (pi_enum hg hm (sa_cons hΦ h sa_nil hs) hs) fun σ H R ⟨Xc, env, μ, S, q⟩ => by
    simp only [wpI] at q
    have q' : wpEs Φ (.cons e .nil) env μ (fun vs μ' => ∃ v l, vs = [v] ∧ content μ' v = some (.lst l) ∧ ∀ J H', SRel X.K Xc σ H' env μ' → Ext μ H μ' H' → ItOk X.K Xc μ' H' (enumL 0 l) (guard v l) J → R J H') (XPost X.K X.mg W Xc σ H env μ) := by
      rw [wpEs]
      refine wpE_mono hΦ e env μ _ _ _ _ (fun v μ1 z => ?_) (fun _ _ z => z) q
      split at z
      · rename_i l hl
        exact ⟨v, l, rfl, hl, z⟩
      · exact z.elim
    refine useA hΦ S Ext.refl q' fun vs μ1 xs H1 S1 E1 _ d ⟨v, l, ev, hl, q1⟩ => ?_
    subst ev
    obtain ⟨x, rfl, dx⟩ := d.one
    obtain ⟨p, ys, rfl, r1, _⟩ := S1.m.lst dx hl
    exact ⟨p, ys, rfl, r1, q1 _ H1 S1 E1 (itok_enum dx hl)⟩
end
end Mi
/-! Mi8b: zip, each side a list or a tuple. -/
namespace Mi
open PySem PySem.Spec PyProof.Rows L2
def zIt (k : Bool) (h : Heap) (it l : Addr) (i : Nat) : Prop := match k with
  | true => h.IsListIter it l i
  | false => h.IsTupleIter it l i
def zSq (k : Bool) (h : Heap) (l : Addr) (xs : Array Value) : Prop := match k with
  | true => h.IsList l xs
  | false => h.IsTuple l xs
theorem zIt.eb {k : Bool} {h h' : Heap} {it l b : Addr} {i : Nat} (q : zIt k h it l i) (e : Heap.ExtBut b h h') (n : it ≠ b) : zIt k h' it l i := by
  cases k
  · exact Heap.IsTupleIter.extBut q e n
  · exact Heap.IsListIter.extBut q e n
theorem zIt.at {k : Bool} {h h' : Heap} {it l : Addr} {i : Nat} (q : zIt k h it l i) (e : ∀ o, h.get? it = some o → h'.get? it = some o) : zIt k h' it l i := by
  cases k
  · exact Heap.IsTupleIter.at q e
  · exact Heap.IsListIter.at q e
theorem zIt.obj {k : Bool} {h : Heap} {it l : Addr} {i : Nat} (q : zIt k h it l i) : ∃ o, h.get? it = some o ∧ ∀ v, o.data ≠ .cell v := by
  cases k
  · obtain ⟨o, e, _, d⟩ := q
    exact ⟨o, e, fun v z => by rw [d] at z; cases z⟩
  · obtain ⟨o, e, _, d⟩ := q
    exact ⟨o, e, fun v z => by rw [d] at z; cases z⟩
theorem zIt.lt {k : Bool} {h : Heap} {it l : Addr} {i : Nat} (q : zIt k h it l i) : it < h.objs.size := by
  obtain ⟨o, e, _⟩ := q.obj
  exact Heap.lt_size e
theorem zSq.eb {k : Bool} {h h' : Heap} {l b : Addr} {xs : Array Value} (q : zSq k h l xs) (e : Heap.ExtBut b h h') (n : l ≠ b) : zSq k h' l xs := by
  cases k
  · exact Heap.IsTuple.extBut q e n
  · exact Heap.IsList.extBut q e n
theorem zSq.push {k : Bool} {h : Heap} {l : Addr} {xs : Array Value} (q : zSq k h l xs) (o : Obj) : zSq k (h.push o) l xs := by
  cases k
  · exact Heap.IsTuple.push q o
  · exact Heap.IsList.push q o
theorem zSq.lt {k : Bool} {h : Heap} {l : Addr} {xs : Array Value} (q : zSq k h l xs) : l < h.objs.size := by
  cases k
  · obtain ⟨o, e, _⟩ := q; exact Heap.lt_size e
  · obtain ⟨o, e, _⟩ := q; exact Heap.lt_size e
section
variable {prog : Program} {w : World} {A : Around} {E : Value → Shared → Prop} {s : Shared}
variable {g1 g2 : Bool} {z TI TO i1 i2 l1 l2 : Addr} {k1 k2 : Nat} {xs ys : Array Value} {a b : Value}
end
end Mi
/-! Mi8c: what walks two things at once. -/
namespace Mi
open PySem PySem.Spec PyProof.Rows L2
def zH (k : Bool) (K : Fr) (H : Hp) (a : Addr) (xs : List V) : Prop := match k with
  | true => SqL K H a xs
  | false => SqT K H a xs
theorem zH.at {X : Cx} {pins : List (Addr × Obj)} {σ : L2.St} {H : Hp} {s : Shared} {k : Bool} {a : Addr} {xs : List V} (I : Inv X pins σ H s) (q : zH k X.K H a xs) : ∃ us : List Value, Vals xs us ∧ zSq k s.heap a us.toArray := by
  cases k
  · obtain ⟨us, r, p, _⟩ := I.tuple q
    exact ⟨us, r, p⟩
  · obtain ⟨us, r, p, _⟩ := I.list q
    exact ⟨us, r, p.isList⟩
theorem zH.one {X : Cx} {pins : List (Addr × Obj)} {σ : L2.St} {H : Hp} {s : Shared} {k : Bool} {a : Addr} {xs ys : List V} (I : Inv X pins σ H s) (q : zH k X.K H a xs) (q' : zH k X.K H a ys) : xs = ys := by
  cases k
  · exact I.tuple_inj q q'
  · exact I.list_inj q q'
def Izx (K : Fr) (g1 g2 : Bool) (a b : Addr) : L2.It :=
  ⟨fun i H => ∃ (xs ys : List V) (x y : V), zH g1 K H a xs ∧ zH g2 K H b ys ∧ xs[i]? = some x ∧ ys[i]? = some y,
    fun i H v H' => ∃ T x y, v = .ref T ∧ H T = none ∧ H' = upd H T (.tup [x, y]) ∧ (∀ xs, zH g1 K H a xs → xs[i]? = some x) ∧ ∀ ys, zH g2 K H b ys → ys[i]? = some y,
    fun i H => ∃ xs ys : List V, zH g1 K H a xs ∧ zH g2 K H b ys ∧ (xs.length ≤ i ∨ ys.length ≤ i)⟩
def zFive (z TI TO i1 i2 : Addr) : List Addr := [z, TI, TO, i1, i2]
def zAt (g1 g2 : Bool) (z TI TO i1 i2 a b : Addr) (i : Nat) (h : Heap) : Prop := IsZip h z TI TO .none ∧ IsPair h TI (.ref i1) (.ref i2) ∧ (∃ x y, IsPair h TO x y) ∧ zIt g1 h i1 a i ∧ zIt g2 h i2 b i
/-! making it -/
def zName (k : Bool) : String := match k with
  | true => "list_iterator"
  | false => "tuple_iterator"
def zObj (k : Bool) (l : Addr) : Obj := { cls := .type (zName k), data := .fields #[.ref l, .int 0 0] }
def zMade (g1 g2 : Bool) (h : Heap) (a b : Addr) : Heap := ((((h.push (zObj g1 a)).push (zObj g2 b)).push { cls := .type "tuple", data := .seq #[.ref h.objs.size, .ref (h.push (zObj g1 a)).objs.size] }).push { cls := .type "tuple", data := .seq #[.none, .none] }).push
  { cls := .type "zip", data := .fields #[.none, .bool false, .bool false, .ref ((h.push (zObj g1 a)).push (zObj g2 b)).objs.size, .ref (((h.push (zObj g1 a)).push (zObj g2 b)).push { cls := .type "tuple", data := .seq #[.ref h.objs.size, .ref (h.push (zObj g1 a)).objs.size] }).objs.size] }
def zIn (h : Heap) : Obj := { cls := .type "tuple", data := .seq #[.ref h.objs.size, .ref (h.objs.size + 1)] }
def zOut : Obj := { cls := .type "tuple", data := .seq #[.none, .none] }
def zZip (h : Heap) : Obj := { cls := .type "zip", data := .fields #[.none, .bool false, .bool false, .ref (h.objs.size + 2), .ref (h.objs.size + 3)] }
section
variable {prog : Program} {w : World} {A : Around} {E : Value → Shared → Prop} {s : Shared}
end
/-! the rule -/
def iZx (K : Fr) (ta : TA) : TI := fun σ H R => ta σ H fun vs H1 => ∃ g1 g2 a b xs ys, vs = [.ref a, .ref b] ∧ zH g1 K H1 a xs ∧ zH g2 K H1 b ys ∧ R (Izx K g1 g2 a b) H1
section
variable {K : Fr} {Xc : Addr → Prop} {μ0 : Mu} {H0 : Hp}
def srcK (v : Val) (μ : Mu) : Bool := match content μ v with
  | some (.lst _) => true
  | _ => false
end
section
variable {X : Cx} {Φ : Ph} {W : WX} {a b : Expr} {pos : Pos}
end
/-! falling ranges -/
section
variable {K : Fr} {Xc : Addr → Prop} {μ0 : Mu} {H0 : Hp}
end
section
variable {X : Cx} {Φ : Ph} {W : WX} {a b c tg : Expr} {pos : Pos}
end
end Mi
/-! Mi9: targets, comprehensions. -/
namespace Mi
open PySem PySem.Spec PyProof.Rows L2

def gSeq (K : Fr) (n : Nat) (t : TGs) : TG := fun v σ H Q => gTup K n t v σ H Q ∨ gUnl K n t v σ H Q
theorem pg_seq {X : Cx} {pos : Pos} {es : List Expr} {k : Nat} {t : TGs} {n : Nat} (hc : X.calm = true) (h : PGs X es t) (hn : (assignEach es X.env).length = n := by rfl) (hst : (assignEach es X.env).findIdx? (·.1) = none := by rfl) : PG X (.Tuple es k pos) (gSeq X.K n t) :=
  ⟨fun pins s σ H v u Q I r hw => hw.elim (fun z => (pg_tup hc h hn hst).run pins s σ H v u Q I r z) fun z => (pg_unl hc h hn hst).run pins s σ H v u Q I r z⟩
mutual
def gT (K : Fr) : Tg → TG
  | .n i => gName i
  | .t l => gSeq K l.length (gTs K l)
def gTs (K : Fr) : List Tg → TGs
  | [] => gNil
  | t :: r => gCons (gT K t) (gTs K r)
end
mutual
def Tg.names : Tg → List Nat
  | .n i => [i]
  | .t l => namesL l
def namesL : List Tg → List Nat
  | [] => []
  | t :: r => t.names ++ namesL r
end
theorem wipe_set {σ : List (Option V)} {i : Nat} {x : Option V} : ∀ {vs : List Nat}, i ∈ vs → L2.wipe (σ.set i x) vs = L2.wipe σ vs
  | v :: vs, h => by
    unfold L2.wipe
    by_cases hv : i ∈ vs
    · rw [wipe_set hv]
    · have e : i = v := by
        rcases List.mem_cons.mp h with e | h
        · exact e
        · exact (hv h).elim
      subst e
      have : ∀ (vs : List Nat), i ∉ vs → L2.wipe (σ.set i x) vs = (L2.wipe σ vs).set i x := fun vs => by
        induction vs with
        | nil => intro _; rfl
        | cons w ws ih =>
          intro hn
          unfold L2.wipe
          rw [ih (fun z => hn (List.mem_cons_of_mem _ z)), List.set_comm _ _ (fun z => hn (by rw [z]; exact List.mem_cons_self))]
      rw [this vs hv, List.set_set]
theorem wipe_get {σ : List (Option V)} {i : Nat} : ∀ {vs : List Nat}, i ∉ vs → (L2.wipe σ vs)[i]? = σ[i]?
  | [], _ => rfl
  | v :: vs, h => by
    unfold L2.wipe
    rw [List.getElem?_set_ne (fun z => h (by rw [z]; exact List.mem_cons_self)), wipe_get (fun z => h (List.mem_cons_of_mem _ z))]
theorem wipeE_some {env : Env} {i : Nat} {v : Val} : ∀ {vs : List Nat}, (Mi.wipe env vs)[i]? = some (some v) → env[i]? = some (some v) ∧ i ∉ vs
  | [], h => ⟨h, by simp⟩
  | w :: vs, h => by
    unfold Mi.wipe at h
    by_cases e : w = i
    · subst e
      by_cases hl : w < (Mi.wipe env vs).length
      · rw [List.getElem?_set_self hl] at h; cases h
      · rw [List.getElem?_eq_none (by simpa using hl)] at h; cases h
    · rw [List.getElem?_set_ne e] at h
      obtain ⟨h1, h2⟩ := wipeE_some h
      exact ⟨h1, fun z => by
        rcases List.mem_cons.mp z with z | z
        · exact e z.symm
        · exact h2 z⟩
theorem wipeE_length (env : Env) : ∀ vs : List Nat, (Mi.wipe env vs).length = env.length
  | [] => rfl
  | v :: vs => by unfold Mi.wipe; rw [List.length_set, wipeE_length env vs]
theorem wipe_idem (σ : List (Option V)) : ∀ (vs ws : List Nat), (∀ i ∈ ws, i ∈ vs) → L2.wipe (L2.wipe σ ws) vs = L2.wipe σ vs
  | vs, [], _ => rfl
  | vs, w :: ws, h => by
    show L2.wipe ((L2.wipe σ ws).set w none) vs = _
    rw [wipe_set (h w List.mem_cons_self), wipe_idem σ vs ws (fun i hi => h i (List.mem_cons_of_mem _ hi))]

section
variable {K : Fr} {Xc : Addr → Prop} {H : Hp} {μ : Mu}
theorem SRel.set {σ : List (Option V)} {env : Env} (S : SRel K Xc σ H env μ) {i : Nat} {v : Val} {x : V} (d : Den K (Dn Xc μ) H v x) : SRel K Xc (σ.set i (some x)) H (env.set i (some v)) μ where
  m := S.m
  len := by rw [List.length_set, List.length_set]; exact S.len
  slot := fun j w h => by
    by_cases e : i = j
    · subst e
      by_cases hl : i < env.length
      · rw [List.getElem?_set_self hl] at h
        cases h
        exact ⟨x, by rw [List.getElem?_set_self (by rw [← S.len]; exact hl)], d⟩
      · rw [List.getElem?_eq_none (by simpa using hl)] at h; cases h
    · rw [List.getElem?_set_ne e] at h
      obtain ⟨y, h1, h2⟩ := S.slot j w h
      exact ⟨y, by rw [List.getElem?_set_ne e]; exact h1, h2⟩
theorem SRel.wipe {σ : List (Option V)} {env : Env} (S : SRel K Xc σ H env μ) (vs : List Nat) : SRel K Xc (L2.wipe σ vs) H (Mi.wipe env vs) μ where
  m := S.m
  len := by rw [wipeE_length, wipe_length]; exact S.len
  slot := fun j w h => by
    obtain ⟨h1, h2⟩ := wipeE_some h
    obtain ⟨y, h3, h4⟩ := S.slot j w h1
    exact ⟨y, by rw [wipe_get h2]; exact h3, h4⟩
mutual
theorem gT_ok : ∀ (t : Tg) (v : Val) (env env' : Env) (σ : List (Option V)) (x : V) (Q : List (Option V) → Hp → Prop), t.asg v env = some env' → SRel K Xc σ H env μ → Den K (Dn Xc μ) H v x →
    (∀ σ', SRel K Xc σ' H env' μ → (∀ vs, (∀ i ∈ t.names, i ∈ vs) → L2.wipe σ' vs = L2.wipe σ vs) → Q σ' H) → gT K t x σ H Q
  | .n i, v, env, env', σ, x, Q, e, S, d, q => by
    simp only [Tg.asg, Option.some.injEq] at e
    subst e
    exact q _ (S.set d) fun vs h => wipe_set (h i (by simp [Tg.names]))
  | .t l, v, env, env', σ, x, Q, e, S, d, q => by
    cases v with
    | tup vs =>
      simp only [Tg.asg] at e
      split at e
      · rename_i hl
        obtain ⟨a, xs, rfl, r, dl⟩ := S.m.tup d rfl
        exact .inl ⟨a, xs, rfl, r, by rw [← dl.length]; exact hl.symm, gTs_ok l vs env env' σ xs Q e S dl q⟩
      · cases e
    | lst vs =>
      simp only [Tg.asg] at e
      split at e
      · rename_i hl
        obtain ⟨a, xs, rfl, r, dl⟩ := S.m.lst d rfl
        exact .inr ⟨a, xs, rfl, r, by rw [← dl.length]; exact hl.symm, gTs_ok l vs env env' σ xs Q e S dl q⟩
      · cases e
    | _ => simp [Tg.asg] at e
theorem gTs_ok : ∀ (l : List Tg) (vs : List Val) (env env' : Env) (σ : List (Option V)) (xs : List V) (Q : List (Option V) → Hp → Prop), asgL l vs env = some env' → SRel K Xc σ H env μ → DenL K (Dn Xc μ) H vs xs →
    (∀ σ', SRel K Xc σ' H env' μ → (∀ vs, (∀ i ∈ namesL l, i ∈ vs) → L2.wipe σ' vs = L2.wipe σ vs) → Q σ' H) → gTs K l xs σ H Q
  | [], [], env, env', σ, xs, Q, e, S, d, q => by
    simp only [asgL, Option.some.injEq] at e
    subst e
    exact ⟨d, q σ S fun _ _ => rfl⟩
  | [], _ :: _, env, env', σ, xs, Q, e, S, d, q => by simp [asgL] at e
  | _ :: _, [], env, env', σ, xs, Q, e, S, d, q => by simp [asgL] at e
  | t :: ts, v :: vs, env, env', σ, xs, Q, e, S, ⟨x, r, ex, d1, d2⟩, q => by
    simp only [asgL] at e
    cases h1 : t.asg v env with
    | none => rw [h1] at e; cases e
    | some env1 =>
      rw [h1] at e
      refine ⟨x, r, ex, gT_ok t v env env1 σ x _ h1 S d1 fun σ1 S1 w1 => ?_⟩
      refine gTs_ok ts vs env1 env' σ1 r Q e S1 d2 fun σ2 S2 w2 => q σ2 S2 fun ws hw => ?_
      rw [w2 ws (fun i hi => hw i (by simp only [namesL]; exact List.mem_append_right _ hi)), w1 ws (fun i hi => hw i (by simp only [namesL]; exact List.mem_append_left _ hi))]
end

/-! ### with a list beside that is being made -/
def del (H : Hp) (D : Addr) : Hp := fun a => if a = D then none else H a
theorem del_ne {H : Hp} {D a : Addr} (h : a ≠ D) : del H D a = H a := if_neg h
theorem del_self {H : Hp} {D : Addr} : del H D D = none := if_pos rfl
theorem upd_del {H : Hp} {D : Addr} {o : HO} : upd (del H D) D o = upd H D o := by
  funext a
  unfold upd del
  by_cases h : a = D
  · rw [if_pos h, if_pos h]
  · rw [if_neg h, if_neg h, if_neg h]
def plusX (Xc : Addr → Prop) (D : Addr) : Addr → Prop := fun a => Xc a ∨ a = D
variable {D : Addr} {o : HO}
theorem rd_ne {u : HO} {a : Addr} (hD : H D = none) (r : Rd H a u) : a ≠ D := fun z => rdSome r (by rw [z]; exact hD)
theorem rd_upd {u : HO} {a : Addr} (h : a ≠ D) (r : Rd H a u) : Rd (upd H D o) a u := by
  rcases r with r | ⟨b, r⟩
  · exact .inl (by rw [upd_ne h]; exact r)
  · exact .inr ⟨b, by rw [upd_ne h]; exact r⟩
theorem rd_del {u : HO} {a : Addr} (h : a ≠ D) (r : Rd H a u) : Rd (del H D) a u := by
  rcases r with r | ⟨b, r⟩
  · exact .inl (by rw [del_ne h]; exact r)
  · exact .inr ⟨b, by rw [del_ne h]; exact r⟩
theorem dn_plus {a : Addr} (n : ¬ Dn Xc μ a) (h : a ≠ D) : ¬ Dn (plusX Xc D) μ a := fun z => by
  rcases z with z | z | z
  · exact n (.inl z)
  · exact n (.inr z)
  · exact h z
theorem dn_of_plus {a : Addr} (n : ¬ Dn (plusX Xc D) μ a) : ¬ Dn Xc μ a ∧ a ≠ D := ⟨fun z => n (z.imp id .inl), fun z => n (.inr (.inr z))⟩
mutual
theorem Den.plus (hD : H D = none) : ∀ (v : Val) (x : V), Den K (Dn Xc μ) H v x → Den K (Dn (plusX Xc D) μ) (upd H D o) v x
  | .non, x, h => h
  | .bl _, x, h => h
  | .int _, x, h => h
  | .str _, x, h => h
  | .ref _, x, h => h
  | .exn _ _, x, h => h
  | .ins c l, x, ⟨a, C, dx, xs, e1, n, r, hc, hl⟩ => ⟨a, C, dx, xs, e1, dn_plus n (rd_ne hD r), rd_upd (rd_ne hD r) r, hc, DenL.plus hD l xs hl⟩
  | .tup l, x, ⟨a, xs, e1, ⟨n, r⟩, hl⟩ => ⟨a, xs, e1, ⟨dn_plus n (rd_ne hD (.inl r)), by rw [upd_ne (rd_ne hD (.inl r))]; exact r⟩, DenL.plus hD l xs hl⟩
  | .dtt l, x, ⟨a, e1, n, r⟩ => ⟨a, e1, dn_plus n (rd_ne hD r), rd_upd (rd_ne hD r) r⟩
  | .lst l, x, ⟨a, xs, e1, h, hl⟩ => ⟨a, xs, e1, h.imp (fun ⟨n, r⟩ => ⟨dn_plus n (rd_ne hD r), rd_upd (rd_ne hD r) r⟩) id, DenL.plus hD l xs hl⟩
  | .dct l, x, ⟨a, kvs, e1, n, r, hl⟩ => ⟨a, kvs, e1, dn_plus n (rd_ne hD r), rd_upd (rd_ne hD r) r, DenP.plus hD l kvs hl⟩
theorem DenL.plus (hD : H D = none) : ∀ (l : List Val) (xs : List V), DenL K (Dn Xc μ) H l xs → DenL K (Dn (plusX Xc D) μ) (upd H D o) l xs
  | [], xs, h => h
  | v :: r, xs, ⟨x, t, e1, h1, h2⟩ => ⟨x, t, e1, Den.plus hD v x h1, DenL.plus hD r t h2⟩
theorem DenP.plus (hD : H D = none) : ∀ (l : List Val) (kvs : List (Key × V)), DenP K (Dn Xc μ) H l kvs → DenP K (Dn (plusX Xc D) μ) (upd H D o) l kvs
  | [], kvs, h => h
  | .tup [kv, v] :: r, kvs, ⟨k, x, t, e1, ek, h1, h2⟩ => ⟨k, x, t, e1, ek, Den.plus hD v x h1, DenP.plus hD r t h2⟩
  | .tup [] :: _, kvs, h => h
  | .tup [_] :: _, kvs, h => h
  | .tup (_ :: _ :: _ :: _) :: _, kvs, h => h
  | .non :: _, kvs, h => h
  | .bl _ :: _, kvs, h => h
  | .int _ :: _, kvs, h => h
  | .str _ :: _, kvs, h => h
  | .lst _ :: _, kvs, h => h
  | .dct _ :: _, kvs, h => h
  | .ref _ :: _, kvs, h => h
  | .exn _ _ :: _, kvs, h => h
  | .ins _ _ :: _, kvs, h => h
  | .dtt _ :: _, kvs, h => h
end
mutual
theorem Den.minus : ∀ (v : Val) (x : V), Den K (Dn (plusX Xc D) μ) H v x → Den K (Dn Xc μ) (del H D) v x
  | .non, x, h => h
  | .bl _, x, h => h
  | .int _, x, h => h
  | .str _, x, h => h
  | .ref _, x, h => h
  | .exn _ _, x, h => h
  | .ins c l, x, ⟨a, C, dx, xs, e1, n, r, hc, hl⟩ => ⟨a, C, dx, xs, e1, (dn_of_plus n).1, rd_del (dn_of_plus n).2 r, hc, DenL.minus l xs hl⟩
  | .tup l, x, ⟨a, xs, e1, ⟨n, r⟩, hl⟩ => ⟨a, xs, e1, ⟨(dn_of_plus n).1, by rw [del_ne (dn_of_plus n).2]; exact r⟩, DenL.minus l xs hl⟩
  | .dtt l, x, ⟨a, e1, n, r⟩ => ⟨a, e1, (dn_of_plus n).1, rd_del (dn_of_plus n).2 r⟩
  | .lst l, x, ⟨a, xs, e1, h, hl⟩ => ⟨a, xs, e1, h.imp (fun ⟨n, r⟩ => ⟨(dn_of_plus n).1, rd_del (dn_of_plus n).2 r⟩) id, DenL.minus l xs hl⟩
  | .dct l, x, ⟨a, kvs, e1, n, r, hl⟩ => ⟨a, kvs, e1, (dn_of_plus n).1, rd_del (dn_of_plus n).2 r, DenP.minus l kvs hl⟩
theorem DenL.minus : ∀ (l : List Val) (xs : List V), DenL K (Dn (plusX Xc D) μ) H l xs → DenL K (Dn Xc μ) (del H D) l xs
  | [], xs, h => h
  | v :: r, xs, ⟨x, t, e1, h1, h2⟩ => ⟨x, t, e1, Den.minus v x h1, DenL.minus r t h2⟩
theorem DenP.minus : ∀ (l : List Val) (kvs : List (Key × V)), DenP K (Dn (plusX Xc D) μ) H l kvs → DenP K (Dn Xc μ) (del H D) l kvs
  | [], kvs, h => h
  | .tup [kv, v] :: r, kvs, ⟨k, x, t, e1, ek, h1, h2⟩ => ⟨k, x, t, e1, ek, Den.minus v x h1, DenP.minus r t h2⟩
  | .tup [] :: _, kvs, h => h
  | .tup [_] :: _, kvs, h => h
  | .tup (_ :: _ :: _ :: _) :: _, kvs, h => h
  | .non :: _, kvs, h => h
  | .bl _ :: _, kvs, h => h
  | .int _ :: _, kvs, h => h
  | .str _ :: _, kvs, h => h
  | .lst _ :: _, kvs, h => h
  | .dct _ :: _, kvs, h => h
  | .ref _ :: _, kvs, h => h
  | .exn _ _ :: _, kvs, h => h
  | .ins _ _ :: _, kvs, h => h
  | .dtt _ :: _, kvs, h => h
end
theorem CRel.plus (hD : H D = none) {c : Val} {u : HO} (h : CRel K (Dn Xc μ) H c u) : CRel K (Dn (plusX Xc D) μ) (upd H D o) c u := by
  cases c with
  | lst l => obtain ⟨xs, e1, hl⟩ := h; exact ⟨xs, e1, DenL.plus hD l xs hl⟩
  | dct l => obtain ⟨kvs, e1, hl⟩ := h; exact ⟨kvs, e1, DenP.plus hD l kvs hl⟩
  | ins c l => obtain ⟨C, dx, xs, e1, hc, hl⟩ := h; exact ⟨C, dx, xs, e1, hc, DenL.plus hD l xs hl⟩
  | dtt l => exact h
  | _ => exact h.elim
theorem CRel.minus {c : Val} {u : HO} (h : CRel K (Dn (plusX Xc D) μ) H c u) : CRel K (Dn Xc μ) (del H D) c u := by
  cases c with
  | lst l => obtain ⟨xs, e1, hl⟩ := h; exact ⟨xs, e1, DenL.minus l xs hl⟩
  | dct l => obtain ⟨kvs, e1, hl⟩ := h; exact ⟨kvs, e1, DenP.minus l kvs hl⟩
  | ins c l => obtain ⟨C, dx, xs, e1, hc, hl⟩ := h; exact ⟨C, dx, xs, e1, hc, DenL.minus l xs hl⟩
  | dtt l => exact h
  | _ => exact h.elim
theorem MRel.plus (m : MRel K Xc μ H) (hD : H D = none) (ho : ∀ ob u, o ≠ .frz ob u := by intro _ _ z; cases z) : MRel K (plusX Xc D) μ (upd H D o) where
  obj := fun a c h => by
    obtain ⟨u, e, r⟩ := m.obj a c h
    exact ⟨u, by rw [upd_ne (ne_of_none e hD)]; exact e, r.plus hD⟩
  xc := fun a h => by
    by_cases e : a = D
    · subst e
      exact ⟨⟨o, upd_same, ho⟩, dn_none (m.fresh hD)⟩
    · rcases h with h | h
      · exact ⟨(m.xc a h).1.upd hD, (m.xc a h).2⟩
      · exact (e h).elim
theorem MRel.minus (m : MRel K (plusX Xc D) μ H) (hD : μ D = none) (hx : ¬ Xc D) : MRel K Xc μ (del H D) where
  obj := fun a c h => by
    obtain ⟨u, e, r⟩ := m.obj a c h
    exact ⟨u, by rw [del_ne (fun z => by rw [z, hD] at h; cases h)]; exact e, r.minus⟩
  xc := fun a h => by
    obtain ⟨⟨u, e1, n⟩, n2⟩ := m.xc a (.inl h)
    exact ⟨⟨u, by rw [del_ne (fun z => hx (by rw [← z]; exact h))]; exact e1, n⟩, n2⟩
theorem Ext.minus {μ' : Mu} {H' : Hp} (hD : H D = none) (e : Ext μ (upd H D o) μ' H') : Ext μ H μ' (del H' D) where
  keepO := fun a u h n => by
    have ne := ne_of_none h hD
    rw [del_ne ne]
    exact e.keepO a u (by rw [upd_ne ne]; exact h) n
  nonew := fun a h n => by
    have ne : a ≠ D := fun z => h (by rw [z]; exact hD)
    exact e.nonew a (by rw [upd_ne ne]; exact h) n
  there := fun a h => by
    have ne : a ≠ D := fun z => h (by rw [z]; exact hD)
    rw [del_ne ne]
    exact e.there a (by rw [upd_ne ne]; exact h)
end

/-! ### list comprehensions -/
section
variable {X : Cx} {Φ : Ph} {W : WX} {pos : Pos}
abbrev W0 : WX := fun _ _ _ _ => False
theorem PTs.imp {a : List Expr} {t t' : TT} (h : PTs X a t) (f : ∀ σ H Q, t' σ H Q → t σ H Q) : PTs X a t' := ⟨fun pins s σ H Q I q => h.run pins s σ H Q I (f _ _ _ q)⟩
theorem pts_yes : PTs X [] (rdT X.K X.mg Φ W (.c (.bl true))) := PTs.imp pts_nil fun σ H Q ⟨Xc, env, μ, S, q⟩ => by
  simp only [wpE] at q
  exact q H S Ext.refl
theorem comp_read (hΦ : MonoP Φ) {K : Fr} {mg : Str → Option Value} {elt : E} {t : Tg} {own : List Nat} {it : It} {cond : E} (hown : ∀ i ∈ t.names, i ∈ own) {σ : List (Option V)} {H : Hp} {Q : VK}
    (h : rdF K mg Φ W (.comp elt t own it cond) σ H Q) : tLc (rdI K mg Φ W it) (gT K t) (rdT K mg Φ W0 cond) (rdE K mg Φ W0 elt) own σ H Q := by
  obtain ⟨Xc, env, μ, S, q⟩ := h
  simp only [wpE] at q
  refine ⟨Xc, env, μ, S, wpI_mono hΦ it env μ _ _ _ _ (fun l g μ1 lc J H1 S1 E1 ok D hD => ?_) (fun _ _ z => z) q⟩
  refine ⟨fun i m Hc => ∃ (μ' : Mu) (acc : List Val) (Hm : Hp) (vs : List V), m = l.length - i ∧ i ≤ l.length ∧ Hc = upd Hm D (.lst vs) ∧ Hm D = none ∧ MRel K Xc μ' Hm ∧ Ext μ1 H1 μ' Hm ∧ DenL K (Dn Xc μ') Hm acc vs ∧
    loopC (gOk g) (fun v μ2 R => match t.asg v (Mi.wipe env own) with
      | some env' => wpE Φ cond env' μ2 (fun tv μ3 => match truthV μ3 tv with
        | some true => wpE Φ elt env' μ3 (fun y μ4 => R (some y) μ4) fun _ _ => False
        | some false => R none μ3
        | none => False) fun _ _ => False
      | none => False) (l.drop i) acc μ' (fun r μ' => FPost K Xc σ H env μ Q (.lst r) μ'), ⟨l.length, μ1, [], H1, [], by simp, Nat.zero_le _, rfl, hD, S1.m, Ext.refl, rfl, lc⟩, ?_⟩
  rintro i m Hc ⟨μ', acc, Hm, vs, rfl, hi, rfl, hDm, mm, Em, dacc, lc'⟩
  have mc : MRel K (plusX Xc D) μ' (upd Hm D (.lst vs)) := mm.plus hDm
  have dens : ∀ v x, Den K (Dn Xc μ1) H1 v x → Den K (Dn (plusX Xc D) μ') (upd Hm D (.lst vs)) v x := fun v x d => Den.plus hDm v x (d.ext Em)
  have hμD : μ' D = none := dn_none (mm.fresh hDm)
  have fz : ∀ a ob u, H1 a = some (.frz ob u) → (upd Hm D (.lst vs)) a = some (.frz ob u) := fun a ob u h => by rw [upd_ne (ne_of_none (Em.frz S1.m h) hDm)]; exact Em.frz S1.m h
  have hXD : ¬ Xc D := fun z => mm.xcn z hDm
  by_cases hlt : i < l.length
  · have hdrop : l.drop i = l[i] :: l.drop (i + 1) := List.drop_eq_getElem_cons hlt
    rw [hdrop] at lc'
    obtain ⟨hg, step⟩ := lc'
    obtain ⟨ok1, _⟩ := ok i (plusX Xc D) μ' (upd Hm D (.lst vs)) mc dens fz hg
    obtain ⟨go, yl⟩ := ok1 l[i] (List.getElem?_eq_getElem hlt)
    refine .inr ⟨go, fun Hn => ∃ (μ' : Mu) (acc : List Val) (Hm : Hp) (vs : List V), i + 1 ≤ l.length ∧ Hn = upd Hm D (.lst vs) ∧ Hm D = none ∧ MRel K Xc μ' Hm ∧ Ext μ1 H1 μ' Hm ∧ DenL K (Dn Xc μ') Hm acc vs ∧ loopC (gOk g) _ (l.drop (i + 1)) acc μ' _,
      fun Hn ⟨μ2, acc2, Hm2, vs2, a1, a2, a3, a4, a5, a6, a7⟩ => ⟨l.length - (i + 1), by omega, μ2, acc2, Hm2, vs2, rfl, a1, a2, a3, a4, a5, a6, a7⟩, fun x H' y => ?_⟩
    obtain ⟨Ey, my, dy⟩ := yl x H' y
    cases ha : t.asg l[i] (Mi.wipe env own) with
    | none => rw [ha] at step; exact step.elim
    | some env' =>
      rw [ha] at step
      have S' : SRel K (plusX Xc D) σ H' env μ' := ⟨my, fun j w hw => by
        obtain ⟨z, h1, h2⟩ := S1.slot j w hw
        exact ⟨z, h1, (dens w z h2).ext Ey⟩, S1.len⟩
      refine gT_ok t _ _ _ _ _ _ ha (S'.wipe own) dy fun σ2 S2 hw => ⟨by rw [hw own hown, wipe_idem _ own own (fun _ h => h)], ?_⟩
      refine ⟨plusX Xc D, env', μ', S2, wpE_mono hΦ cond env' μ' _ _ _ _ (fun tv μ3 z => ?_) (fun _ _ z => z.elim) step⟩
      unfold TPost
      cases hb : truthV μ3 tv with
      | none => rw [hb] at z; exact z
      | some b =>
        rw [hb] at z
        intro H3 S3 E3
        cases b with
        | false =>
          refine iteF ⟨μ3, acc, del H3 D, vs, hlt, ?_, del_self, ?_, ?_, ?_, z⟩
          · rw [upd_del]
            have hk : H3 D = some (.lst vs) := (Ey.trans E3).keepE D _ upd_same hμD (fun _ z => by cases z)
            funext a
            by_cases e : a = D
            · rw [e, upd_same]; exact hk
            · rw [upd_ne e]
          · exact S3.m.minus ((Ey.trans E3).nonew D (by rw [upd_same]; intro z; cases z) hμD) hXD
          · exact Em.trans ((Ey.trans E3).minus hDm)
          · exact DenL.ext ((Ey.trans E3).minus hDm) acc vs dacc
        | true =>
          refine iteT ⟨plusX Xc D, env', μ3, S3, wpE_mono hΦ elt env' μ3 _ _ _ _ (fun yv μ4 z4 y4 H4 S4 E4 d4 => ?_) (fun _ _ z => z.elim) z⟩
          have Et := (Ey.trans E3).trans E4
          have hk : H4 D = some (.lst vs) := Et.keepE D _ upd_same hμD (fun _ z => by cases z)
          obtain ⟨hlen, z5⟩ := z4
          refine ⟨vs, hk, by rw [← big_line, ← dacc.length]; exact hlen, μ4, acc ++ [yv], del H4 D, vs ++ [y4], hlt, by rw [upd_del], del_self, ?_, ?_, ?_, z5⟩
          · exact S4.m.minus (Et.nonew D (by rw [upd_same]; intro z; cases z) hμD) hXD
          · exact Em.trans (Et.minus hDm)
          · exact (DenL.ext (Et.minus hDm) acc vs dacc).append ⟨y4, [], rfl, Den.minus _ _ d4, rfl⟩
  · have e : i = l.length := by omega
    subst e
    rw [List.drop_length] at lc'
    obtain ⟨hg, fin⟩ := lc'
    obtain ⟨_, stop⟩ := ok l.length (plusX Xc D) μ' (upd Hm D (.lst vs)) mc dens fz hg
    exact .inl ⟨stop (Nat.le_refl _), fin D (.lst vs) Hm (S1.of_ext mm Em) (E1.trans Em) hDm ⟨vs, rfl, dacc⟩⟩
theorem sf_comp (hΦ : MonoP Φ) {elt tg iter : Expr} {ifs : List Expr} {scope : Scope} {own : List (Str × Nat)} {e : E} {t : Tg} {it : It} {cond : E} (hc : X.calm = true) (hN : X.N.Nodup) (hi : SI X Φ W tg iter it) (ok : BlkOk X.N X.env.scope scope own)
    (hg : ∀ (s : Shared) (H : Hp) (C : Addr) (cl : List (Str × Addr)) (fp : List Addr), PG (X.blk s H scope (compEnvC scope cl C X.env) fp) tg (gT X.K t))
    (ht : ∀ (s : Shared) (H : Hp) (C : Addr) (cl : List (Str × Addr)) (fp : List Addr), PTs (X.blk s H scope (compEnvC scope cl C X.env) fp) ifs (rdT X.K X.mg Φ W0 cond))
    (he : ∀ (s : Shared) (H : Hp) (C : Addr) (cl : List (Str × Addr)) (fp : List Addr), SE (X.blk s H scope (compEnvC scope cl C X.env) fp) Φ W0 elt e)
    (hown : ∀ i ∈ t.names, i ∈ own.map (·.2)) (hs : ∀ x, foldedSetIterable iter X.env x = pure x := by intro _; rfl) :
    SF X Φ W (.ListComp elt [⟨tg, iter, ifs, 0⟩] scope pos) (.comp e t (own.map (·.2)) it cond) :=
  PE.imp (pe_lc hc hN hi ok hg ht he hs) fun σ H Q h => comp_read hΦ hown h
end
end Mi
/-! Mi9b: comprehensions whose element may raise. -/
namespace Mi
open PySem PySem.Spec PyProof.Rows L2 PySem.HandSPX

section
variable {M : Model} {A : Around} {E : Value → Shared → Prop} {s : Shared} {base : Heap} {env : PySem.Env} {outer : List PySem.Env} {e L : Addr} {Z : Obj → Prop}
end

abbrev Cx.blkX (X : Cx) (s : Shared) (H : Hp) (scope : Scope) (cenv : PySem.Env) (fp : List Addr) : Cx := (X.blk s H scope cenv fp).tr [] (notedBy (model X.prog X.w) X.A cenv (CompFails (model X.prog X.w) X.A X.xe cenv))
section
variable {X : Cx} {W : WX}
end
end Mi
/-! Mi9c: list comprehensions whose element may raise: the rule. -/
namespace Mi
open PySem PySem.Spec PyProof.Rows L2

section
variable {X : Cx} {W : WX}
end
end Mi
/-! Mi10: statements, defs. -/
namespace Mi
open PySem PySem.Spec PyProof.Rows L2

section
variable (K : Fr) (mg : Str → Option Value) (W : WX) (Xc : Addr → Prop) (H : Hp) (μ : Mu) (D : Ends)
def enOf : En where
  nx := fun env' μ' => ∀ σ' H', SRel K Xc σ' H' env' μ' → Ext μ H μ' H' → D.nx σ' H'
  rt := fun v μ' => ∀ x H', MRel K Xc μ' H' → Ext μ H μ' H' → Den K (Dn Xc μ') H' v x → D.rt x H'
  ex := fun e env' μ' => ∀ cls d σ' H', SRel K Xc σ' H' env' μ' → Ext μ H μ' H' → ExR K mg e cls d → W cls d σ' H'
end
def rdS (K : Fr) (mg : Str → Option Value) (Φ : Ph) (W : WX) (s : S) : TS := fun D σ H => ∃ Xc env μ, SRel K Xc σ H env μ ∧ wpS Φ s env μ (enOf K mg W Xc H μ D)
abbrev SS (X : Cx) (Φ : Ph) (W : WX) (a : Stmt) (s : S) : Prop := PS X a (rdS X.K X.mg Φ W s)
abbrev SB (X : Cx) (Φ : Ph) (W : WX) (a : List Stmt) (s : S) : Prop := PSs X a (rdS X.K X.mg Φ W s)
theorem PS.imp {X : Cx} {a : Stmt} {t t' : TS} (h : PS X a t) (f : ∀ D σ H, t' D σ H → t D σ H) : PS X a t' := ⟨fun pins s σ H D I q => h.run pins s σ H D I (f _ _ _ q)⟩
theorem PSs.imp {X : Cx} {a : List Stmt} {t t' : TS} (h : PSs X a t) (f : ∀ D σ H, t' D σ H → t D σ H) : PSs X a t' := ⟨fun pins s σ H D I q => h.run pins s σ H D I (f _ _ _ q)⟩

section
variable {K : Fr} {mg : Str → Option Value} {Φ : Ph} {W : WX} {Xc : Addr → Prop} {σ : List (Option V)} {H H0 : Hp} {env : Env} {μ μ0 : Mu} {D : Ends}
theorem enOf.le (E0 : Ext μ0 H0 μ H) : (enOf K mg W Xc H0 μ0 D).Le (enOf K mg W Xc H μ D) :=
  ⟨fun e μ' h σ' H' S E => h σ' H' S (E0.trans E), fun v μ' h x H' S E d => h x H' S (E0.trans E) d, fun v e μ' h cls d σ' H' S E r => h cls d σ' H' S (E0.trans E) r⟩
theorem ex_x {e : Val} {μ' : Mu} (h : (enOf K mg W Xc H μ D).ex e env μ') : XPost K mg W Xc σ H env μ e μ' := fun cls d H' S E r => h cls d σ H' S E r
theorem useS (hΦ : MonoP Φ) {e : E} {F : Val → Mu → Prop} {R : VK} (S : SRel K Xc σ H env μ) (q : wpE Φ e env μ F (fun x μ' => (enOf K mg W Xc H μ D).ex x env μ'))
    (k : ∀ v μ1 x H1, SRel K Xc σ H1 env μ1 → Ext μ H μ1 H1 → Den K (Dn Xc μ1) H1 v x → F v μ1 → R x H1) : rdE K mg Φ W e σ H R :=
  use hΦ S Ext.refl (wpE_mono hΦ e env μ _ _ _ _ (fun _ _ z => z) (fun _ _ z => ex_x z) q) fun v μ1 x H1 S1 E1 _ d f => k v μ1 x H1 S1 E1 d f
end

section
variable {X : Cx} {Φ : Ph} {W : WX} {pos : Pos}
theorem sb_nil : SB X Φ W [] .skip := PSs.imp pss_nil fun D σ H ⟨Xc, env, μ, S, q⟩ => q σ H S Ext.refl
theorem sb_one {a : Stmt} {s : S} (h : SS X Φ W a s) : SB X Φ W [a] s := pss_one h
theorem sb_cons (hΦ : MonoP Φ) {a : Stmt} {r : List Stmt} {s t : S} (h : SS X Φ W a s) (hr : SB X Φ W r t) : SB X Φ W (a :: r) (.seq s t) :=
  PSs.imp (pss_cons h hr) fun D σ H ⟨Xc, env, μ, S, q⟩ => by
    rw [wpS] at q
    refine ⟨Xc, env, μ, S, wpS_mono hΦ s env μ _ _ ?_ q⟩
    exact ⟨fun e μ' z σ' H' S' E' => ⟨Xc, e, μ', S', wpS_mono hΦ t e μ' _ _ (enOf.le E') z⟩, fun _ _ z => z, fun _ _ _ z => z⟩
theorem ss_ex (hΦ : MonoP Φ) {a : Expr} {e : E} (h : SE X Φ W a e) (hs : swapsWith a none pos.line X.env = pure false := by rfl) : SS X Φ W (.Expr a pos) (.ex e) :=
  PS.imp (ps_expr h hs) fun D σ H ⟨Xc, env, μ, S, q⟩ => by
    rw [wpS] at q
    exact useS hΦ S q fun v μ1 x H1 S1 E1 d f => f σ H1 S1 E1
theorem ss_asg (hΦ : MonoP Φ) {i : Nat} {x : Str} {a : Expr} {e : E} {pos' : Pos} (hN : X.N.Nodup) (hi : X.N[i]? = some x) (hx : Loc X.env.scope x) (h : SE X Φ W a e) (hs : swapsWith a (some (.Name x pos')) pos.line X.env = pure false := by rfl)
    (hf : X.fn x = true ∨ X.env.scope.names.lookup x = some .local) : SS X Φ W (.Assign [.Name x pos'] a pos) (.asg i e) :=
  PS.imp (ps_set hN hi hx h hs hf) fun D σ H ⟨Xc, env, μ, S, q⟩ => by
    rw [wpS] at q
    exact useS hΦ S q fun v μ1 x H1 S1 E1 d f => f _ H1 (S1.set d) E1
/-! ### o[i] = v -/
def rSetM (K : Fr) : TSet := fun o i v H Q => ∃ Xc μ ov iv vv μ', MRel K Xc μ H ∧ Den K (Dn Xc μ) H ov o ∧ Den K (Dn Xc μ) H iv i ∧ Den K (Dn Xc μ) H vv v ∧ setV μ ov iv vv = some μ' ∧ ∀ H', MRel K Xc μ' H' → Ext μ H μ' H' → Q H'
theorem DenP.put {K : Fr} {D : Addr → Prop} {H : Hp} {k v : Val} {j : Key} {x : V} (hk : keyOf k = some j) (d : Den K D H v x) : ∀ {l : List Val} {kvs : List (Key × V)}, DenP K D H l kvs → (kvs.map (·.1)).Nodup → DenP K D H (dPut k v l) (putK kvs j x)
  | [], kvs, h, _ => by rw [show kvs = [] from h]; exact ⟨j, x, [], rfl, hk, d, rfl⟩
  | .tup [k', w] :: r, kvs, ⟨j', y, t, e, hk', dw, dr⟩, nd => by
    subst e
    simp only [dPut]
    rw [keyEq_of hk hk']
    rw [List.map_cons, List.nodup_cons] at nd
    by_cases z : j = j'
    · subst z
      rw [decide_eq_true rfl, if_pos rfl]
      have e : putK ((j, y) :: t) j x = (j, x) :: t := by
        unfold putK
        rw [if_pos (by simp)]
        rw [List.map_cons, if_pos rfl]
        congr 1
        conv => rhs; rw [← List.map_id t]
        refine List.map_congr_left fun kv hkv => ?_
        rw [if_neg (fun q => nd.1 (List.mem_map.mpr ⟨kv, hkv, q⟩))]
        rfl
      rw [e]
      exact ⟨j, x, t, rfl, hk', d, dr⟩
    · rw [decide_eq_false z, if_neg Bool.false_ne_true]
      have e : putK ((j', y) :: t) j x = (j', y) :: putK t j x := by
        have zz : ¬ j' = j := fun q => z q.symm
        unfold putK
        by_cases ha : (t.any fun kv => decide (kv.1 = j)) = true
        · rw [if_pos ha, if_pos (by rw [List.any_cons, ha, Bool.or_true]), List.map_cons, if_neg zz]
        · rw [if_neg ha, if_neg (by rw [List.any_cons, decide_eq_false zz, Bool.false_or]; exact ha)]
          rfl
      rw [e]
      exact ⟨j', y, _, rfl, hk', dw, DenP.put hk d dr nd.2⟩
  | .tup [] :: _, _, h, _ => h.elim
  | .tup [_] :: _, _, h, _ => h.elim
  | .tup (_ :: _ :: _ :: _) :: _, _, h, _ => h.elim
  | .non :: _, _, h, _ => h.elim
  | .bl _ :: _, _, h, _ => h.elim
  | .int _ :: _, _, h, _ => h.elim
  | .str _ :: _, _, h, _ => h.elim
  | .lst _ :: _, _, h, _ => h.elim
  | .dct _ :: _, _, h, _ => h.elim
  | .ref _ :: _, _, h, _ => h.elim
  | .exn _ _ :: _, _, h, _ => h.elim
  | .ins _ _ :: _, _, h, _ => h.elim
  | .dtt _ :: _, _, h, _ => h.elim
theorem inl_inj : ∀ {k k' : List Int}, k.map (Sum.inl : Int → Key) = k'.map Sum.inl → k = k'
  | [], [], _ => rfl
  | [], _ :: _, h => by cases h
  | _ :: _, [], h => by cases h
  | a :: k, b :: k', h => by
    rw [List.map_cons, List.map_cons] at h
    injection h with h1 h2
    injection h1 with h1
    rw [h1, inl_inj h2]
theorem inl_iff {k k' : List Int} : k.map (Sum.inl : Int → Key) = k'.map Sum.inl ↔ k = k' := ⟨inl_inj, fun h => by rw [h]⟩
theorem tPut_K (k : List Int) (i : Int) (l : List (List Int × Int)) : ttK (tPut k i l) = putK (ttK l) (k.map Sum.inl) (V.int i) := by
  unfold tPut putK ttK
  have e : ((l.map fun p => ((p.1.map Sum.inl : List Key), V.int p.2)).any fun kv => decide (kv.1 = k.map Sum.inl)) = l.any fun p => decide (p.1 = k) := by
    rw [List.any_map]
    congr 1
    funext p
    simp [inl_iff]
  rw [e]
  split
  · rw [List.map_map, List.map_map]
    refine List.map_congr_left fun p _ => ?_
    show ((if p.1 = k then (p.1, i) else p).1.map Sum.inl, V.int (if p.1 = k then (p.1, i) else p).2) = if (p.1.map Sum.inl : List Key) = k.map Sum.inl then _ else _
    by_cases h : p.1 = k
    · rw [if_pos h, if_pos (by rw [h])]
    · rw [if_neg h, if_neg fun z => h (inl_inj z)]
  · rw [List.map_append]
    rfl
theorem dk_nodup {pins : List (Addr × Obj)} {σ : List (Option V)} {H : Hp} {s : Shared} {a : Addr} {kvs : List (Key × V)} (I : Inv X pins σ H s) (h : H a = some (.dK kvs)) : (kvs.map (·.1)).Nodup := by
  obtain ⟨_, _, vs, rel, o, es, ep, e, x, d, he, nd⟩ := dk_of I.hok h
  rw [rel.keys]
  exact nd.2
theorem set_m {k : Nat} (hr : RoomH k X.A) : PSet X (rSetM X.K) := by
  intro pins s σ H o i v ov iv u Q I ro ri rv h
  obtain ⟨Xc, μ, ov', iv', vv', μ', m, d1, d2, d3, e, q⟩ := h
  have hu := hr.un
  unfold setV at e
  split at e
  · rename_i a
    split at e
    · rename_i l k' hl
      cases hk : Mi.ixN l.length k' with
      | none => rw [hk] at e; cases e
      | some j =>
        rw [hk] at e
        cases e
        obtain ⟨xs, hx, l1⟩ := m.lstM hl
        have hk' : L2.ixN xs.length k' = some j := by rw [← l1.length]; exact hk
        have r' : CRel X.K (Dn Xc μ) H (.lst (l.set j vv')) (.lst (xs.set j v)) := ⟨_, rfl, l1.set j d3⟩
        exact set_list pins s σ H o i v ov iv u Q I ro ri rv ⟨a, xs, k', j, d1, d2, hx, hk', q _ (m.put hl r') (Ext.put hl)⟩
    · rename_i l _ hl
      split at e
      · rename_i hk
        cases e
        obtain ⟨j, hj⟩ := key_isKey hk.1
        obtain ⟨kvs, hx, l1⟩ := m.dctM hl
        have r' : CRel X.K (Dn Xc μ) H (.dct (dPut _ vv' _)) (.dK (putK kvs j v)) := ⟨_, rfl, DenP.put hj d3 l1 (dk_nodup I hx)⟩
        rw [show o = V.ref a from d1] at ro
        obtain rfl : ov = Value.ref a := ro
        have g : DPut H a i v (upd H a (.dK (putK kvs j v))) := .inl ⟨kvs, j, hx, keyOf_den hj d2, by rw [← big_line, ← l1.length]; exact hk.2, rfl⟩
        exact d_setItem (by omega) I g ri rv fun s' I' => ⟨_, I', q _ (m.put hl r') (Ext.put hl)⟩
      · cases e
    · rename_i l ks hl
      split at e
      · rename_i ns i' hn
        split at e
        · rename_i hlen
          cases e
          obtain ⟨o', hx, ho'⟩ := m.obj a _ hl
          obtain rfl : o' = .dT (ttK l) := ho'
          obtain ⟨b, xs, rfl, ⟨_, hb⟩, l1⟩ := d2
          have r' : CRel X.K (Dn Xc μ) H (.dtt (tPut ns i' l)) (.dT (putK (ttK l) (ns.map Sum.inl) (.int i'))) := by
            show HO.dT _ = HO.dT _
            rw [tPut_K]
          rw [show o = V.ref a from d1] at ro
          obtain rfl : ov = Value.ref a := ro
          have hb' : H b = some (.tup ((ns.map (Sum.inl : Int → Key)).map kV)) := by rw [hb, ints_tup hn l1]
          obtain rfl : v = V.int i' := d3
          have g : DPut H a (.ref b) (.int i') (upd H a (.dT (putK (ttK l) (ns.map Sum.inl) (.int i')))) := .inr ⟨_, _, b, hx, rfl, hb', by rw [← big_line]; unfold ttK; rw [List.length_map]; exact hlen, rfl⟩
          exact d_setItem (by omega) I g ri rv fun s' I' => ⟨_, I', q _ (m.put hl r') (Ext.put hl)⟩
        · cases e
      · cases e
    · cases e
  · cases e
theorem ss_setix {k : Nat} (hr : RoomH k X.A) (hΦ : MonoP Φ) {o i a : Expr} {eo ei e : E} {spos : Pos} (h : SE X Φ W a e) (ho : SE X Φ W o eo) (hi : SE X Φ W i ei)
    (hs : swapsWithSole [.Subscript o i spos] a pos.line X.env = pure false := by rfl) (hw : swappedStores [.Subscript o i spos] a X.env = pure none := by rfl)
    (h1 : (assignEach [.Subscript o i spos] X.env).map (·.2) = [assign (.Subscript o i spos) X.env] := by rfl)
    (ha : ∀ v, assign (.Subscript o i spos) X.env v = (do
      let ov ← holding [v] (eval o X.env)
      let iv ← holding [v, ov] (eval i X.env)
      standAt spos
      holding [v, ov, iv] (setItem ov iv v)
      release [v, ov, iv] []) := by intro _; rfl) : SS X Φ W (.Assign [.Subscript o i spos] a pos) (.setix eo ei e) :=
  PS.imp (ps_asg h (pg_sub ho hi (set_m hr) ha) hs hw h1) fun D σ H ⟨Xc, env, μ, S, q⟩ => by
    rw [wpS] at q
    have x2 : ∀ (v : Val) (μ' : Mu), (enOf X.K X.mg W Xc H μ D).ex v env μ' → XPost X.K X.mg W Xc σ H env μ v μ' := fun _ _ z => ex_x z
    refine use hΦ S Ext.refl (wpE_mono hΦ e env μ _ _ _ _ (fun _ _ z => z) x2 q) fun v μ1 x H1 S1 E1 E1' d q1 => ?_
    refine use hΦ S1 E1' (wpE_mono hΦ eo env μ1 _ _ _ _ (fun _ _ z => z) x2 q1) fun ov μ2 y H2 S2 E2 E2' d2 q2 => ?_
    refine use hΦ S2 E2' (wpE_mono hΦ ei env μ2 _ _ _ _ (fun _ _ z => z) x2 q2) fun iv μ3 z H3 S3 E3 E3' d3 q3 => ?_
    split at q3
    · rename_i μ4 hm
      exact ⟨Xc, μ3, ov, iv, v, μ4, S3.m, d2.ext E3, d3, (d.ext E2).ext E3, hm, fun H4 m4 E4 => q3 σ H4 (S3.of_ext m4 E4) (E3'.trans E4)⟩
    · exact q3.elim
theorem ss_ite (hΦ : MonoP Φ) {c : Expr} {a b : List Stmt} {ec : E} {s t : S} (hc : ST X Φ W c ec) (ha : SB X Φ W a s) (hb : SB X Φ W b t) : SS X Φ W (.If c a b pos) (.ite ec s t) :=
  PS.imp (ps_if hc ha hb) fun D σ H ⟨Xc, env, μ, S, q⟩ => by
    rw [wpS] at q
    refine useT hΦ S Ext.refl (wpE_mono hΦ ec env μ _ _ _ _ (fun _ _ z => z) (fun _ _ z => ex_x z) q) (fun v μ1 f z => by rw [z] at f; exact f) fun v μ1 b H1 S1 E1 hb f => ?_
    rw [hb] at f
    cases b with
    | true => exact iteT ⟨Xc, env, μ1, S1, wpS_mono hΦ s env μ1 _ _ (enOf.le E1) f⟩
    | false => exact iteF ⟨Xc, env, μ1, S1, wpS_mono hΦ t env μ1 _ _ (enOf.le E1) f⟩
theorem ss_for (hΦ : MonoP Φ) {tg iter : Expr} {body : List Stmt} {t : Tg} {it : It} {s : S} (hp : PassesOwn (model X.prog X.w) X.A X.env X.xe) (hc : X.calm = true) (hi : SI X Φ W tg iter it) (hg : PG X tg (gT X.K t)) (hb : SB X Φ W body s)
    (hs : ∀ x, foldedSetIterable iter X.env x = pure x := by intro _; rfl) : SS X Φ W (.For tg iter body [] pos) (.forS t it s) :=
  PS.imp (ps_for hp hc hi hg hb hs) fun D σ H ⟨Xc, env, μ, S, q⟩ => by
    rw [wpS] at q
    refine ⟨Xc, env, μ, S, wpI_mono hΦ it env μ _ _ _ _ (fun l g μ1 lf J H1 S1 E1 ok => ?_) (fun _ _ z => ex_x z) q⟩
    refine ⟨fun i m σ' H' => ∃ env' μ', m = l.length - i ∧ i ≤ l.length ∧ SRel X.K Xc σ' H' env' μ' ∧ Ext μ1 H1 μ' H' ∧ loopF (gOk g) (fun v env' μ' R => match t.asg v env' with
      | some env2 => wpS Φ s env2 μ' { enOf X.K X.mg W Xc H μ D with nx := R }
      | none => False) (enOf X.K X.mg W Xc H μ D).nx (l.drop i) env' μ', ⟨l.length, env, μ1, by simp, Nat.zero_le _, S1, Ext.refl, lf⟩, ?_⟩
    rintro i m σ' H' ⟨env', μ', rfl, hi, S', E', lf'⟩
    have dens : ∀ v x, Den X.K (Dn Xc μ1) H1 v x → Den X.K (Dn Xc μ') H' v x := fun v x d => d.ext E'
    by_cases hlt : i < l.length
    · have hdrop : l.drop i = l[i] :: l.drop (i + 1) := List.drop_eq_getElem_cons hlt
      rw [hdrop] at lf'
      obtain ⟨hg, step⟩ := lf'
      obtain ⟨ok1, _⟩ := ok i Xc μ' H' S'.m dens (fun a ob u h => E'.frz S1.m h) hg
      obtain ⟨go, yl⟩ := ok1 l[i] (List.getElem?_eq_getElem hlt)
      refine .inr ⟨go, fun σ2 H2 => ∃ env2 μ2, i + 1 ≤ l.length ∧ SRel X.K Xc σ2 H2 env2 μ2 ∧ Ext μ1 H1 μ2 H2 ∧ loopF (gOk g) _ (enOf X.K X.mg W Xc H μ D).nx (l.drop (i + 1)) env2 μ2,
        fun σ2 H2 ⟨e2, μ2, a1, a2, a3, a4⟩ => ⟨l.length - (i + 1), by omega, e2, μ2, rfl, a1, a2, a3, a4⟩, fun x H2 y => ?_⟩
      obtain ⟨Ey, my, dy⟩ := yl x H2 y
      cases ha : t.asg l[i] env' with
      | none => rw [ha] at step; exact step.elim
      | some env2 =>
        rw [ha] at step
        refine gT_ok t _ _ _ _ _ _ ha (S'.of_ext my Ey) dy fun σ2 S2 _ => ⟨Xc, env2, μ', S2, wpS_mono hΦ s env2 μ' _ _ ?_ step⟩
        have Et : Ext μ H μ' H2 := (E1.trans E').trans Ey
        exact ⟨fun e3 μ3 z σ3 H3 S3 E3 => ⟨e3, μ3, hlt, S3, (E'.trans Ey).trans E3, z⟩, fun v μ3 z x H3 S3 E3 d => z x H3 S3 (Et.trans E3) d, fun v e μ3 z cls d σ3 H3 S3 E3 r => z cls d σ3 H3 S3 (Et.trans E3) r⟩
    · have e : i = l.length := by omega
      subst e
      rw [List.drop_length] at lf'
      obtain ⟨hg, fin⟩ := lf'
      obtain ⟨_, stop⟩ := ok l.length Xc μ' H' S'.m dens (fun a ob u h => E'.frz S1.m h) hg
      exact .inl ⟨stop (Nat.le_refl _), fin σ' H' S' (E1.trans E')⟩
theorem ss_ret (hΦ : MonoP Φ) {a : Expr} {e : E} (h : SE X Φ W a e) : SS X Φ W (.Return (some a) pos) (.ret e) :=
  PS.imp (ps_ret h) fun D σ H ⟨Xc, env, μ, S, q⟩ => by
    rw [wpS] at q
    exact useS hΦ S q fun v μ1 x H1 S1 E1 d f => f x H1 S1.m E1 d
theorem ss_raise {c : String} {C : Addr} {m : Str} {j : Nat} {p p2 p3 : Pos} {B newId initId : String} {bmB : List Value} (F : ExcBaseFacts B newId initId bmB) (q : PySem.W.excIn X.K C bmB newId = true) (gC : X.mg (Str.ofString c) = some (.ref C)) (kC : PySem.W.keepIn X.K (.ref C) = true) (r : Raises X (.ref C)) (hg : Gl X (Str.ofString c)) (ie : IsExc X.K X.mg c)
    (hc : X.calm = true) (tk : Takes X W) (hdb : (Str.ofString c == ("__debug__" : Str)) = false) : SS X Φ W (.Raise (some (.Call (.Name (Str.ofString c) p) [.Constant (.str m) j p2] [] p3)) none pos) (.raise c) :=
  PS.imp (ps_raise hc tk (pmk_own F q gC kC r hg hdb)) fun D σ H ⟨Xc, env, μ, S, q⟩ => by
    rw [wpS] at q
    exact q (.ref C) none σ H S Ext.refl ⟨c, rfl, gC, ie, rfl⟩
theorem at_monoP {Φ : Ph} {c : String} {a : Ad} (h : MonoP Φ) : MonoP (Φ.at c a) := h
theorem SRel.setN {K : Fr} {Xc : Addr → Prop} {σ : List (Option V)} {H : Hp} {env : Env} {μ : Mu} (S : SRel K Xc σ H env μ) (i : Nat) : SRel K Xc (σ.set i none) H (env.set i none) μ where
  m := S.m
  slot := fun j v h => by
    by_cases e : i = j
    · subst e
      rw [List.getElem?_set] at h
      simp at h
    · rw [List.getElem?_set_ne e] at h ⊢
      exact S.slot j v h
  len := by rw [List.length_set, List.length_set]; exact S.len
end
end Mi
/-! Mi10b: instances of the program's own classes: fields, methods, making. -/
namespace Mi
open PySem PySem.Spec PyProof.Rows L2
/-! fields -/
structure ClsOk (K : Fr) : Prop where
  cls : ∀ c C, clsAt K c C → fieldsOf c ≠ [] → Cls K C
  no : ∀ c C f, clsAt K c C → f ∈ fieldsOf c → NoAttr K C (Str.ofString f)
section
variable {X : Cx} {Φ : Ph} {W : WX} {a o : Expr} {ea eo : E} {pos apos : Pos}
end
end Mi
/-! Mi10c: methods called, instances made. -/
namespace Mi
open PySem PySem.Spec PyProof.Rows L2
section
variable {X : Cx} {CX : CXT} {k : Nat} {f C : Addr} {fd : FuncData} {ps : List Str} {sp : Sp} {WX' : L2.St → XK} {x m : Str} {p pos apos : Pos} {e o : Expr} {es : List Expr} {to : TE} {t : TA}
def tMthS (C : Addr) (m : Str) (sp : Sp) (WX' : L2.St → XK) (to : TE) (t : TA) : TE := fun σ H Q => to σ H fun y H1 => ∃ a dx fs, y = .ref a ∧ H1 a = some (.ins C dx fs) ∧ fs.lookup m = none ∧ t σ H1 fun vs H2 => sp (y :: vs) H2 Q (WX' σ)
def tMkS (C : Addr) (sp : Sp) (WX' : L2.St → XK) (t : TA) : TE := fun σ H Q => t σ H fun vs H1 => ∀ y dx, H1 y = none → H1 dx = none → dx ≠ y → sp (.ref y :: vs) (upd (upd H1 dx (.own y)) y (.ins C dx [])) (fun v H2 => v = .non ∧ Q (.ref y) H2) (WX' σ)
end
/-! the language's side -/
def MtT (P : Program) (w : World) (K : Fr) (mg : Str → Option Value) (base : Heap) (Φ : Ph) (k : Nat) (c m f : String) : Prop :=
  ∃ (C a : Addr) (fd : FuncData) (ps : List Str), clsAt K c C ∧ Meth K C (Str.ofString m) a ∧ Binds K fd ps [] ∧ FnOk P w K mg base (L2.CX P w) k a fd ps (spP K mg Φ f)
def MkT (P : Program) (w : World) (K : Fr) (mg : Str → Option Value) (base : Heap) (Φ : Ph) (k : Nat) (c f : String) : Prop :=
  ∃ (C a : Addr) (fd : FuncData) (ps : List Str), clsAt K c C ∧ mg (Str.ofString c) = some (.ref C) ∧ Mk K C a ∧ Binds K fd ps [] ∧ FnOk P w K mg base (L2.CX P w) k a fd ps (spP K mg Φ f)
section
variable {X : Cx} {Φ : Ph} {W : WX} {o e : Expr} {es : List Expr} {eo : E} {l : Es} {pos apos p : Pos} {k : Nat} {c f m : String} {md : Md}
end
end Mi
/-! Mi10d: a, b(, c) = x, y(, z): stored from the right. -/
namespace Mi
open PySem PySem.Spec PyProof.Rows L2
section
variable {X : Cx} {pos : Pos}
def tPar3 (i j k : Nat) (ta : TA) : TS := fun D σ H => ta σ H fun vs H1 => ∃ u v w, vs = [u, v, w] ∧ D.nx (((σ.set i (some u)).set j (some v)).set k (some w)) H1
variable {Φ : Ph} {W : WX}
end
end Mi
/-! Mi10e: comprehensions whose element may raise, in the language. -/
namespace Mi
open PySem PySem.Spec PyProof.Rows L2
section
variable {X : Cx} {Φ : Ph} {W : WX} {pos : Pos}
end
end Mi
/-! Mi11: a def keeps the promise that the language's run of it makes. -/
namespace Mi
open PySem PySem.Spec PyProof.Rows L2

section
variable {K : Fr} {D D2 : Addr → Prop} {H : Hp}
mutual
theorem Den.map (f : Ad → Option Val) (hD : ∀ a, D2 a → D a) (hf : ∀ a w x, f a = some w → Den K D H (.ref a) x → Den K D2 H w x) : ∀ (v : Val) (x : V), Den K D H v x → Den K D2 H (mapRef f v) x
  | .non, x, h => h
  | .bl _, x, h => h
  | .int _, x, h => h
  | .str _, x, h => h
  | .exn _ _, x, h => h
  | .ins c l, x, ⟨a, C, dx, xs, e1, n, r, hc, hl⟩ => ⟨a, C, dx, xs, e1, fun z => n (hD a z), r, hc, DenL.map f hD hf l xs hl⟩
  | .ref a, x, h => by
    simp only [mapRef]
    cases e : f a with
    | none => exact h
    | some w => exact hf a w x e h
  | .tup l, x, ⟨a, xs, e1, ⟨n, r⟩, hl⟩ => ⟨a, xs, e1, ⟨fun z => n (hD a z), r⟩, DenL.map f hD hf l xs hl⟩
  | .dtt l, x, ⟨a, e1, n, r⟩ => ⟨a, e1, fun z => n (hD a z), r⟩
  | .lst l, x, ⟨a, xs, e1, h, hl⟩ => ⟨a, xs, e1, h.imp (fun ⟨n, r⟩ => ⟨fun z => n (hD a z), r⟩) id, DenL.map f hD hf l xs hl⟩
  | .dct l, x, ⟨a, kvs, e1, n, r, hl⟩ => ⟨a, kvs, e1, fun z => n (hD a z), r, DenP.map f hD hf l kvs hl⟩
theorem DenL.map (f : Ad → Option Val) (hD : ∀ a, D2 a → D a) (hf : ∀ a w x, f a = some w → Den K D H (.ref a) x → Den K D2 H w x) : ∀ (l : List Val) (xs : List V), DenL K D H l xs → DenL K D2 H (mapRefL f l) xs
  | [], xs, h => h
  | v :: r, xs, ⟨x, t, e1, h1, h2⟩ => ⟨x, t, e1, Den.map f hD hf v x h1, DenL.map f hD hf r t h2⟩
theorem DenP.map (f : Ad → Option Val) (hD : ∀ a, D2 a → D a) (hf : ∀ a w x, f a = some w → Den K D H (.ref a) x → Den K D2 H w x) : ∀ (l : List Val) (kvs : List (Key × V)), DenP K D H l kvs → DenP K D2 H (mapRefL f l) kvs
  | [], kvs, h => h
  | .tup [kv, v] :: r, kvs, ⟨k, x, t, e1, ek, h1, h2⟩ => by
    have hk : keyOf (mapRef f kv) = some k := by cases kv <;> first | exact ek | cases ek
    exact ⟨k, x, t, e1, hk, Den.map f hD hf v x h1, DenP.map f hD hf r t h2⟩
  | .tup [] :: _, kvs, h => h.elim
  | .tup [_] :: _, kvs, h => h.elim
  | .tup (_ :: _ :: _ :: _) :: _, kvs, h => h.elim
  | .non :: _, kvs, h => h.elim
  | .bl _ :: _, kvs, h => h.elim
  | .int _ :: _, kvs, h => h.elim
  | .str _ :: _, kvs, h => h.elim
  | .lst _ :: _, kvs, h => h.elim
  | .dct _ :: _, kvs, h => h.elim
  | .ref _ :: _, kvs, h => h.elim
  | .exn _ _ :: _, kvs, h => h.elim
  | .ins _ _ :: _, kvs, h => h.elim
  | .dtt _ :: _, kvs, h => h.elim
end
end
section
variable {K : Fr} {Xc : Addr → Prop} {H H' : Hp} {μ μ' : Mu}
theorem resoF_den {D2 : Addr → Prop} {μk : Mu} (m : MRel K Xc μ' H') (hD : ∀ a, D2 a → Dn Xc μ' a) (hk : ∀ a, μk a = none → (μ' a).isSome = true → ¬ D2 a) : ∀ (n : Nat) (a : Ad) (w : Val) (x : V), resoF μk μ' n a = some w → Den K (Dn Xc μ') H' (.ref a) x → Den K D2 H' w x
  | 0, a, w, x, e, d => by cases e
  | n + 1, a, w, y, e, hy => by
    simp only [resoF] at e
    split at e
    · cases e
    · rename_i hk0
      obtain ⟨c, hc, rfl⟩ := Option.map_eq_some_iff.mp e
      have hn : μk a = none := by
        cases q : μk a with
        | none => rfl
        | some z => rw [q] at hk0; exact (hk0 rfl).elim
      obtain ⟨o, ho, r⟩ := m.obj a c hc
      have nd : ¬ D2 a := hk a hn (by rw [hc]; rfl)
      rw [show y = V.ref a from hy]
      have ih := resoF_den m hD hk n
      cases c with
      | lst l =>
        obtain ⟨xs, rfl, hl⟩ := r
        exact ⟨a, xs, rfl, .inl ⟨nd, .inl ho⟩, DenL.map _ hD ih l xs hl⟩
      | dct l =>
        obtain ⟨xs, rfl, hl⟩ := r
        exact ⟨a, xs, rfl, nd, .inl ho, DenP.map _ hD ih l xs hl⟩
      | ins c l =>
        obtain ⟨C, dx, xs, rfl, hc, hl⟩ := r
        exact ⟨a, C, dx, xs, rfl, nd, .inl ho, hc, DenL.map _ hD ih l xs hl⟩
      | dtt l =>
        obtain rfl : o = .dT (ttK l) := r
        exact ⟨a, rfl, nd, .inl ho⟩
      | _ => exact r.elim
theorem reso_den {D2 : Addr → Prop} {μk : Mu} (m : MRel K Xc μ' H') (hD : ∀ a, D2 a → Dn Xc μ' a) (hk : ∀ a, μk a = none → (μ' a).isSome = true → ¬ D2 a) (n : Nat) (v : Val) (x : V) (d : Den K (Dn Xc μ') H' v x) : Den K D2 H' (reso μk μ' n v) x :=
  Den.map _ hD (resoF_den m hD hk n) v x d
theorem CRel.weak {D D2 : Addr → Prop} (hD : ∀ a, D2 a → D a) {c : Val} {o : HO} (h : CRel K D H c o) : CRel K D2 H (mapRef (fun _ => none) c) o := by
  cases c with
  | lst l => obtain ⟨xs, e, hl⟩ := h; exact ⟨xs, e, DenL.map _ hD (fun _ _ _ e => by cases e) l xs hl⟩
  | dct l => obtain ⟨xs, e, hl⟩ := h; exact ⟨xs, e, DenP.map _ hD (fun _ _ _ e => by cases e) l xs hl⟩
  | ins c l => obtain ⟨C, dx, xs, e, hc, hl⟩ := h; exact ⟨C, dx, xs, e, hc, DenL.map _ hD (fun _ _ _ e => by cases e) l xs hl⟩
  | dtt l => exact h
  | _ => exact h.elim
theorem mapRef_none_both : (∀ v : Val, mapRef (fun _ => none) v = v) ∧ ∀ l : List Val, mapRefL (fun _ => none) l = l := by
  refine ⟨fun v => ?_, fun l => ?_⟩
  · exact Val.rec (motive_1 := fun v => mapRef (fun _ => none) v = v) (motive_2 := fun l => mapRefL (fun _ => none) l = l) rfl (fun _ => rfl) (fun _ => rfl) (fun _ => rfl)
      (fun l h => by simp only [mapRef, h]) (fun l h => by simp only [mapRef, h]) (fun l h => by simp only [mapRef, h]) (fun _ => rfl) (fun c l h => by simp only [mapRef, h]) (fun c l h => by simp only [mapRef, h]) (fun _ => rfl) rfl (fun v r h1 h2 => by simp only [mapRefL, h1, h2]) v
  · exact Val.rec_1 (motive_1 := fun v => mapRef (fun _ => none) v = v) (motive_2 := fun l => mapRefL (fun _ => none) l = l) rfl (fun _ => rfl) (fun _ => rfl) (fun _ => rfl)
      (fun l h => by simp only [mapRef, h]) (fun l h => by simp only [mapRef, h]) (fun l h => by simp only [mapRef, h]) (fun _ => rfl) (fun c l h => by simp only [mapRef, h]) (fun c l h => by simp only [mapRef, h]) (fun _ => rfl) rfl (fun v r h1 h2 => by simp only [mapRefL, h1, h2]) l
theorem mapRef_none (v : Val) : mapRef (fun _ => none) v = v := mapRef_none_both.1 v
theorem CRel.weak' {D D2 : Addr → Prop} (hD : ∀ a, D2 a → D a) {c : Val} {o : HO} (h : CRel K D H c o) : CRel K D2 H c o := by
  have := h.weak hD
  rwa [mapRef_none] at this
theorem Den.weak' {D D2 : Addr → Prop} (hD : ∀ a, D2 a → D a) {v : Val} {x : V} (h : Den K D H v x) : Den K D2 H v x := by
  have := Den.map (fun _ => none) hD (fun _ _ _ e => by cases e) v x h
  rwa [mapRef_none] at this
theorem cut_some {a : Addr} {c : Val} (h : (μ'.cut μ) a = some c) : μ' a = some c ∧ (μ a).isSome = true := by
  unfold Mu.cut at h
  split at h
  · exact ⟨h, by assumption⟩
  · cases h
theorem cut_none {a : Addr} (h : μ a = none) : (μ'.cut μ) a = none := by
  unfold Mu.cut
  rw [h] <;> rfl
theorem cut_none' {a : Addr} (h : μ' a = none) : (μ'.cut μ) a = none := by
  unfold Mu.cut
  split
  · exact h
  · rfl
theorem cut_dn {a : Addr} (h : Dn Xc (μ'.cut μ) a) : Dn Xc μ' a := by
  rcases h with h | h
  · cases q : (μ'.cut μ) a with
    | none => rw [q] at h; cases h
    | some c => exact .inl (by rw [(cut_some q).1]; rfl)
  · exact .inr h
theorem MRel.cut (m : MRel K Xc μ' H') : MRel K Xc (μ'.cut μ) H' where
  obj := fun a c h => by
    obtain ⟨o, ho, r⟩ := m.obj a c (cut_some h).1
    exact ⟨o, ho, r.weak' fun _ z => cut_dn z⟩
  xc := fun a h => ⟨(m.xc a h).1, cut_none' (m.xc a h).2⟩
theorem Ext.cut (e : Ext μ H μ' H') : Ext μ H (μ'.cut μ) H' := ⟨e.keepO, fun a _ n => cut_none n, e.there⟩
theorem new_xc (m0 : MRel K Xc μ H) (e : Ext μ H μ' H') {a : Addr} (h : μ a = none) (h' : (μ' a).isSome = true) : ¬ Xc a ∧ H a = none := by
  have hH : H a = none := by
    cases q : H a with
    | none => rfl
    | some o =>
      have := e.nonew a (by rw [q]; intro z; cases z) h
      rw [this] at h'; cases h'
  exact ⟨fun z => m0.xcn z hH, hH⟩
theorem fin_den {m : Md} {v : Val} {x : V} {Q : VK} (m0 : MRel K Xc μ H) (m' : MRel K Xc μ' H') (e : Ext μ H μ' H') (d : Den K (Dn Xc μ') H' v x)
    (f : finM m μ (fun v μ2 => ∀ x H2, MRel K Xc μ2 H2 → Ext μ H μ2 H2 → Den K (Dn Xc μ2) H2 v x → Q x H2) v μ') : Q x H' := by
  cases m with
  | keep => exact f x H' m' e d
  | val =>
    refine f x H' m'.cut e.cut (reso_den m' (fun a h => cut_dn h) (fun a h1 h2 z => ?_) 4 v x d)
    rcases z with z | z
    · rw [cut_none h1] at z; cases z
    · exact (new_xc m0 e h1 h2).1 z
  | obj =>
    simp only [finM] at f
    split at f
    · rename_i p
      obtain ⟨hp, f⟩ := f
      split at f
      · rename_i c hc
        have hx : x = .ref p := d
        subst hx
        obtain ⟨o, ho, r⟩ := m'.obj p c hc
        have hdn : ∀ a, Dn Xc ((μ'.cut μ).set p (reso (μ.set p c) μ' 4 c)) a → Dn Xc μ' a := fun a h => by
          rcases h with h | h
          · by_cases ea : a = p
            · subst ea; exact .inl (by rw [hc]; rfl)
            · rw [Mu.set_ne ea] at h; exact cut_dn (.inl h)
          · exact .inr h
        have hk : ∀ a, (μ.set p c) a = none → (μ' a).isSome = true → ¬ Dn Xc ((μ'.cut μ).set p (reso (μ.set p c) μ' 4 c)) a := fun a h1 h2 z => by
          by_cases ea : a = p
          · subst ea; rw [Mu.set_same] at h1; cases h1
          · rw [Mu.set_ne ea] at h1
            rcases z with z | z
            · rw [Mu.set_ne ea, cut_none h1] at z; cases z
            · exact (new_xc m0 e h1 h2).1 z
        have rc : CRel K (Dn Xc ((μ'.cut μ).set p (reso (μ.set p c) μ' 4 c))) H' (reso (μ.set p c) μ' 4 c) o := by
          have ih := resoF_den (μk := μ.set p c) m' hdn hk 4
          generalize hD2 : Dn Xc ((μ'.cut μ).set p (reso (μ.set p c) μ' 4 c)) = D2 at *
          cases c with
          | lst l => obtain ⟨xs, e, hl⟩ := r; exact ⟨xs, e, DenL.map _ hdn ih l xs hl⟩
          | dct l => obtain ⟨xs, e, hl⟩ := r; exact ⟨xs, e, DenP.map _ hdn ih l xs hl⟩
          | ins c l => obtain ⟨C, dx, xs, e, hc, hl⟩ := r; exact ⟨C, dx, xs, e, hc, DenL.map _ hdn ih l xs hl⟩
          | dtt l => exact r
          | _ => exact r.elim
        refine f (.ref p) H' ⟨fun a c' h => ?_, fun a h => ⟨(m'.xc a h).1, by
          rw [Mu.set_ne (fun z => by have h2 := (m'.xc a h).2; rw [z, hc] at h2; cases h2)]
          exact cut_none' (m'.xc a h).2⟩⟩ ⟨e.keepO, fun a h1 h2 => ?_, e.there⟩ rfl
        · by_cases ea : a = p
          · subst ea
            rw [Mu.set_same] at h
            cases h
            exact ⟨o, ho, rc⟩
          · rw [Mu.set_ne ea] at h
            obtain ⟨u, hu, ru⟩ := m'.obj a c' (cut_some h).1
            exact ⟨u, hu, ru.weak' hdn⟩
        · by_cases ea : a = p
          · subst ea
            exact (h1 (new_xc m0 e hp (by rw [hc]; rfl)).2).elim
          · rw [Mu.set_ne ea]; exact cut_none h2
      · exact f.elim
    · exact f.elim
end
theorem start_slot {K : Fr} {D : Addr → Prop} {H : Hp} {args : List Val} {vs : List V} (d : DenL K D H args vs) (N : List Str) (k : Nat) : ∀ (i : Nat) (v : Val), (args.map some ++ List.replicate k (none : Option Val))[i]? = some (some v) → ∃ x, (start N vs)[i]? = some (some x) ∧ Den K D H v x := fun i v h => by
  have hlen := d.length
  by_cases hi : i < args.length
  · rw [List.getElem?_append_left (by simpa using hi), List.getElem?_map] at h
    obtain ⟨w, hw, e⟩ := Option.map_eq_some_iff.mp h
    cases e
    obtain ⟨x, hx, dx⟩ := d.get hw
    refine ⟨x, ?_, dx⟩
    unfold L2.start
    rw [List.getElem?_append_left (by rw [List.length_map]; omega), List.getElem?_map, hx]
    rfl
  · rw [List.getElem?_append_right (by simpa using hi), List.getElem?_replicate] at h
    split at h <;> cases h
theorem fn_okk {P : Program} {w : World} {K : Fr} {mg : Str → Option Value} {base : Heap} {PR : Prog} {n k : Nat} {f : String} {d : Fn} {x qual : Str} {st : Stmt} {a : Addr} {fd : FuncData} {N ps : List Str} (F : L2.Fun K x qual st a fd) (S : FnScope N ps (defScope st))
    (hd : PR f = some d) (h1 : d.ps = ps.length) (h2 : d.slots = N.length)
    (body : ∀ (cdv : Value) (A : Around) (outer : List PySem.Env) (s : Shared) (H : Hp) (E : XK), Room k (A.deeper (envOfC qual (defScope st) s.heap.objs.size a cdv)) →
      SB (cxOf (L2.CX P w) P w K mg base N qual (defScope st) a cdv A outer s H E) (phi PR n) (fun cls d _ H => E cls d H) (defBody st) d.body) : FnOk P w K mg base (L2.CX P w) (k + 1) a fd ps (spP K mg (phi PR (n + 1)) f) := by
  refine (F.okX S (fun vs H Q E h => ?_) fun cdv A outer s H vs Q E hr h => ⟨_, body cdv A outer s H E hr, ?_⟩)
  · obtain ⟨Xc, μ, m, args, m0, d0, q⟩ := h
    simp only [phi, hd] at q
    rw [← d0.length, q.1, h1]
  · obtain ⟨Xc, μ, m, args, m0, d0, q⟩ := h
    simp only [phi, hd] at q
    obtain ⟨hl, q⟩ := q
    have hNl : ps.length ≤ N.length := by have := congrArg List.length S.pre; rw [List.length_take] at this; omega
    refine ⟨Xc, _, μ, ⟨m0, start_slot d0 N (d.slots - d.ps), ?_⟩, wpS_mono (phi_mono PR n) d.body _ μ _ _ ?_ q⟩
    · unfold L2.start
      have := d0.length
      simp only [List.length_append, List.length_map, List.length_replicate]
      omega
    · refine ⟨fun e μ' z σ' H' S' E' => fin_den m0 S'.m E' (show Den K (Dn Xc μ') H' .non .non from rfl) z, fun v μ' z x H' m' E' dx => fin_den m0 m' E' dx z, fun v e μ' z cls dd σ' H' S' E' r => ?_⟩
      obtain ⟨c, rfl, r1, r2⟩ := r
      cases m with
      | keep => exact z cls dd H' S'.m E' ⟨c, rfl, r1, r2⟩
      | val => exact z cls dd H' S'.m.cut E'.cut ⟨c, rfl, r1, r2⟩
      | obj => exact z cls dd H' S'.m.cut E'.cut ⟨c, rfl, r1, r2⟩
theorem fn_ok {P : Program} {w : World} {K : Fr} {mg : Str → Option Value} {base : Heap} {PR : Prog} {n k : Nat} {f : String} {d : Fn} {x qual : Str} {st : Stmt} {a : Addr} {fd : FuncData} {N ps : List Str} (F : L2.Fun K x qual st a fd) (hm : mg (Str.ofString f) = some (.ref a)) (hb : Binds K fd ps []) (S : FnScope N ps (defScope st))
    (hd : PR f = some d) (h1 : d.ps = ps.length) (h2 : d.slots = N.length)
    (body : ∀ (cdv : Value) (A : Around) (outer : List PySem.Env) (s : Shared) (H : Hp) (E : XK), Room k (A.deeper (envOfC qual (defScope st) s.heap.objs.size a cdv)) →
      SB (cxOf (L2.CX P w) P w K mg base N qual (defScope st) a cdv A outer s H E) (phi PR n) (fun cls d _ H => E cls d H) (defBody st) d.body) : FnT P w K mg base (phi PR (n + 1)) (k + 1) f :=
  ⟨a, fd, ps, hm, F.kp, hb, fn_okk F S hd h1 h2 body⟩
theorem fn_zero {P : Program} {w : World} {K : Fr} {mg : Str → Option Value} {base : Heap} {PR : Prog} {k : Nat} {f : String} {a : Addr} {fd : FuncData} {ps : List Str} (kp : PySem.W.keepIn K (.ref a) = true) (hm : mg (Str.ofString f) = some (.ref a)) (hb : Binds K fd ps []) : FnT P w K mg base (phi PR 0) k f :=
  ⟨a, fd, ps, hm, kp, hb, ⟨fun vs H Q E h => by
    obtain ⟨_, _, _, _, _, _, q⟩ := h
    exact q.elim, fun A outer s H args us vs Q E hr he hb hv h => by
    obtain ⟨_, _, _, _, _, _, q⟩ := h
    exact q.elim⟩⟩
/-! methods -/
section
variable {P : Program} {w : World} {K : Fr} {mg : Str → Option Value} {base : Heap} {PR : Prog} {n k : Nat} {c m f : String} {d : Fn} {x qual : Str} {st : Stmt} {a C : Addr} {fd : FuncData} {N ps : List Str}
end
end Mi
/-! Mi12: short words for the printed derivations. -/
namespace Mi
open PySem PySem.Spec PyProof.Rows L2
section
variable {X : Cx} {Φ : Ph} {W : WX} {pos : Pos}
theorem se_vB {x : Str} (i : Nat) (hN : X.N[i]? = some x) (hv : Vis X.env.scope x) (hd : (x == ("__debug__" : Str)) = false) (hcd : (x == ("__classdict__" : Str)) = false) : SE X Φ W (.Name x pos) (.v i) := se_v (pe_var hN hv hd hcd)
end
def ExcAt (K : Fr) (mg : Str → Option Value) (c : String) : Prop := ∃ C : Addr, PySem.W.excIn K C [.type "ValueError", .type "Exception", .type "BaseException", .type "object"] "ValueError.__new__" = true ∧ mg (Str.ofString c) = some (.ref C) ∧ PySem.W.keepIn K (.ref C) = true ∧
  PySem.W.subIn K (.ref C) (.type "BaseException") = some true ∧ PySem.W.typeIn K (.ref C) = some (.type "type")
end Mi
/-! Mi12b: dict displays. -/
namespace Mi
open PySem PySem.Spec PyProof.Rows L2
def dispE : List (Str × E) → Es
  | [] => .nil
  | (k, e) :: r => .cons (.tup (.cons (.c (.str k)) (.cons e .nil))) (dispE r)
section
variable {X : Cx} {Φ : Ph} {W : WX} {pos : Pos}
theorem disp_read (hΦ : MonoP Φ) {K : Fr} {mg : Str → Option Value} {Xc : Addr → Prop} {σ : List (Option V)} {env : Env} {μ0 : Mu} {H0 : Hp} : ∀ (ps : List (Str × E)) (H : Hp) (μ : Mu) (F : List (V × V) → Hp → Prop) (G : List Val → Mu → Prop),
    (∀ p ∈ ps, PyData.strOk p.1 = true) → SRel K Xc σ H env μ → Ext μ0 H0 μ H → wpEs Φ (dispE ps) env μ G (XPost K mg W Xc σ H0 env μ0) →
    (∀ vs μ1 kvs H1, SRel K Xc σ H1 env μ1 → Ext μ H μ1 H1 → Ext μ0 H0 μ1 H1 → DenP K (Dn Xc μ1) H1 vs kvs → kvs.map (·.1) = ps.map (fun p => Sum.inr p.1) → G vs μ1 → F (kvs.map fun kv => (kV kv.1, kv.2)) H1) →
    tPairs (ps.map fun p => (rdE K mg Φ W (.c (.str p.1)), rdE K mg Φ W p.2)) σ H F
  | [], H, μ, F, G, _, S, E, q, k => k [] μ [] H S Ext.refl E rfl rfl q
  | (s, e) :: r, H, μ, F, G, hs, S, E, q, k => by
    have q' : wpE Φ e env μ (fun v μ1 => wpEs Φ (dispE r) env μ1 (fun vs μ2 => G (.tup [.str s, v] :: vs) μ2) (XPost K mg W Xc σ H0 env μ0)) (XPost K mg W Xc σ H0 env μ0) := q
    refine ⟨Xc, env, μ, S, ?_⟩
    intro x H1 S1 E1 d1
    obtain ⟨rfl, _⟩ := d1
    refine use hΦ S1 (E.trans E1) q' fun v μ2 y H2 S2 E2 E2' d2 q2 => ?_
    refine disp_read hΦ r H2 μ2 _ _ (fun p hp => hs p (List.mem_cons_of_mem _ hp)) S2 E2' q2 fun vs μ3 kvs H3 S3 E3 E3' d3 hk g => ?_
    have := k (.tup [.str s, v] :: vs) μ3 ((Sum.inr s, y) :: kvs) H3 S3 ((E1.trans E2).trans E3) E3' ⟨Sum.inr s, y, kvs, rfl, rfl, d2.ext E3, d3⟩ (by simp [hk]) g
    exact this
theorem putK_new {kvs : List (Key × V)} {k : Key} {v : V} (h : k ∉ kvs.map (·.1)) : putK kvs k v = kvs ++ [(k, v)] := by
  unfold putK
  rw [if_neg]
  intro z
  obtain ⟨p, hp, e⟩ := List.any_eq_true.mp z
  exact h (List.mem_map.mpr ⟨p, hp, by simpa using e⟩)
theorem mergeK_new : ∀ (more kvs : List (Key × V)), ((kvs ++ more).map (·.1)).Nodup → mergeK kvs more = kvs ++ more
  | [], kvs, _ => by rw [List.append_nil]; rfl
  | (k, v) :: r, kvs, h => by
    have hk : k ∉ kvs.map (·.1) := by
      rw [List.map_append, List.nodup_append] at h
      intro z
      exact h.2.2 k z k (by simp) rfl
    show mergeK (putK kvs k v) r = _
    rw [putK_new hk, mergeK_new r (kvs ++ [(k, v)]) (by simpa using h)]
    simp
theorem sf_disp (ps : List (Str × E)) (hΦ : MonoP Φ) {keys : List (Option Expr)} {values : List Expr} {trs : List (TE × TE)} (h : PPs X pos keys values trs) (ht : trs = ps.map fun p => (rdE X.K X.mg Φ W (.c (.str p.1)), rdE X.K X.mg Φ W p.2))
    (hs : ps.all (fun p => PyData.strOk p.1) = true) (hn : (ps.map (·.1)).Nodup) (hall : keys.all (·.isSome) = true) (hl : keys.length = values.length) (h0 : keys ≠ []) (h15 : keys.length ≤ 15) (hp15 : ps.length ≤ 15) : SF X Φ W (.Dict keys values pos) (.dct (dispE ps)) :=
  PE.imp (pe_disp h hall hl h0 h15) fun σ H Q ⟨Xc, env, μ, S, q⟩ => by
    subst ht
    intro p hp
    have hμ : μ p = none := dn_none (S.m.fresh hp)
    have hX : ¬ Xc p := fun z => S.m.xcn z hp
    have S' : SRel X.K (plusX Xc p) σ (upd H p (.dK [])) env μ := ⟨S.m.plus hp, fun j w hw => by
      obtain ⟨z, h1, h2⟩ := S.slot j w hw
      exact ⟨z, h1, Den.plus hp w z h2⟩, S.len⟩
    refine disp_read (Xc := plusX Xc p) hΦ ps _ μ _ _ (fun p hp => List.all_eq_true.mp hs p hp) S' Ext.refl (wpEs_mono hΦ _ env μ _ _ _ _ (fun _ _ z => z) (fun e μ' z => ?_) q) fun vs μ1 kvs H1 S1 E1 _ d1 hk g => ?_
    · intro cls d H' S2 E2 r
      have hD : ∀ a, Dn Xc μ' a → Dn (plusX Xc p) μ' a := fun a z => z.imp id .inl
      exact z cls d H' ⟨⟨fun a c h => by
        obtain ⟨o, ho, rr⟩ := S2.m.obj a c h
        exact ⟨o, ho, rr.weak' hD⟩, fun a h => S2.m.xc a (.inl h)⟩, fun j w hw => by
        obtain ⟨y, h1, h2⟩ := S2.slot j w hw
        exact ⟨y, h1, Den.weak' hD h2⟩, S2.len⟩ ((Ext.laid hp).trans E2) r
    · have hk1 : H1 p = some (.dK []) := by
        rcases E1.keepO p _ upd_same hμ with z | ⟨ob, _, _, z⟩
        · exact z
        · obtain ⟨⟨o, e1, n⟩, _⟩ := S1.m.xc p (.inr rfl)
          rw [z] at e1
          cases e1
          exact (n _ _ rfl).elim
      refine ⟨hk1, kvs, rfl, ?_, ?_⟩
      · have := congrArg List.length hk
        simp at this
        omega
      · have hnd : (kvs.map (·.1)).Nodup := by
          rw [hk]
          have : ps.map (fun p => (Sum.inr p.1 : Key)) = (ps.map (·.1)).map Sum.inr := by simp
          rw [this]
          exact List.pairwise_map.mpr (hn.imp fun h e => h (by injection e))
        rw [mergeK_new kvs [] hnd, List.nil_append]
        have hμ1 : μ1 p = none := E1.nonew p (by rw [upd_same]; intro z; cases z) hμ
        have Sm : SRel X.K Xc σ (del H1 p) env μ1 := ⟨S1.m.minus hμ1 hX, fun j w hw => by
          obtain ⟨z, h1, h2⟩ := S1.slot j w hw
          exact ⟨z, h1, Den.minus w z h2⟩, S1.len⟩
        have := g p (.dK kvs) (del H1 p) Sm (E1.minus hp) del_self ⟨kvs, rfl, DenP.minus vs kvs d1⟩
        rw [upd_del] at this
        exact this
end
end Mi
/-! Mi12c: isinstance of the exception that is held. -/
namespace Mi
open PySem PySem.Spec PyProof.Rows L2
section
variable {X : Cx} {a1 : Addr} {oe1 : Obj} {cls1 : Value} {d1 : Option Addr} {pn1 : List (Addr × Obj)} {cn : String} {Φ : Ph} {W : WX} {a : Expr} {x y : Str} {p p2 pos : Pos} {e : E}
end
end Mi
/-! Mi13: the law's own promise, the classes of refusals. -/
namespace Mi
open PySem PySem.Spec PyProof.Rows L2
theorem exm_of {K : Fr} {C S : Addr} {b : Bool} (h1 : PySem.W.subIn K (.ref S) (.type "BaseException") = some true) (h2 : PySem.W.isClsIn K S = true) (h3 : PySem.W.typeIn K (.ref S) = some (.type "type")) (h4 : PySem.W.subIn K (.ref C) (.ref S) = some b) :
    PySem.W.exmOne K (.ref C) (.ref S) = some b := by
  have e1 : (PySem.W.subIn K (.ref S) (.type "BaseException") == some true) = true := by rw [h1] <;> rfl
  have e2 : ((PySem.W.clsIn K S).isSome && PySem.W.typeIn K (.ref S) == some (.type "type")) = true := by
    have h2' : (PySem.W.clsIn K S).isSome = true := h2
    rw [h2', h3] <;> rfl
  show (if (PySem.W.subIn K (.ref S) (.type "BaseException") == some true) = true then (if ((PySem.W.clsIn K S).isSome && PySem.W.typeIn K (.ref S) == some (.type "type")) = true then PySem.W.subIn K (.ref C) (.ref S) else none) else none) = some b
  rw [if_pos e1, if_pos e2]
  exact h4
def ExAt (K : Fr) (mg : Str → Option Value) (c : String) (C : Addr) (h : String) : Prop := ∀ c', mg (Str.ofString h) = some c' → PySem.W.exmOne K (.ref C) c' = some (isSub c h)
theorem ea_no {K : Fr} {mg : Str → Option Value} {c : String} {C : Addr} {h : String} (n : mg (Str.ofString h) = none) : ExAt K mg c C h := fun c' e => by rw [n] at e; cases e
theorem ea_yes {K : Fr} {mg : Str → Option Value} {c : String} {C S : Addr} {h : String} {b : Bool} (g : mg (Str.ofString h) = some (.ref S)) (e : isSub c h = b) (h1 : PySem.W.subIn K (.ref S) (.type "BaseException") = some true) (h2 : PySem.W.isClsIn K S = true) (h3 : PySem.W.typeIn K (.ref S) = some (.type "type")) (h4 : PySem.W.subIn K (.ref C) (.ref S) = some b) : ExAt K mg c C h := fun c' e' => by
  rw [g] at e'; cases e'
  rw [e]
  exact exm_of h1 h2 h3 h4
def KiAt (K : Fr) (mg : Str → Option Value) (c : String) (C : Addr) (h : String) : Prop := ∀ c', mg (Str.ofString h) = some c' → (∃ S, c' = .ref S) ∧ PySem.W.kitOne K (.ref C) c' = some (isSub c h)
theorem ki_no {K : Fr} {mg : Str → Option Value} {c : String} {C : Addr} {h : String} (n : mg (Str.ofString h) = none) : KiAt K mg c C h := fun c' e => by rw [n] at e; cases e
theorem ki_yes {K : Fr} {mg : Str → Option Value} {c : String} {C S : Addr} {h : String} {b : Bool} (g : mg (Str.ofString h) = some (.ref S)) (e : isSub c h = b) (k : PySem.W.kitOne K (.ref C) (.ref S) = some b) : KiAt K mg c C h := fun c' e' => by
  rw [g] at e'; cases e'
  exact ⟨⟨S, rfl⟩, by rw [e]; exact k⟩
theorem ea_all {K : Fr} {mg : Str → Option Value} {c : String} {C : Addr} (g : mg (Str.ofString c) = some (.ref C)) (t : ∀ h ∈ excNames, ExAt K mg c C h) (x : ExcC K C) (k : ∀ h ∈ excNames, KiAt K mg c C h) (v : PySem.W.kitOne K (.ref C) (.type "ValueError") = some true) : IsExc K mg c where
  ex := fun cls e h hh c' e' => by
    rw [g] at e; cases e
    exact t h hh c' e'
  kit := fun cls e => by
    rw [g] at e; cases e
    exact ⟨C, rfl, x, k, v⟩
def spLaw (K : Fr) : Sp := fun vs H Q _ => ∃ (a : Addr) (ns : List Int), vs = [.ref a] ∧ ns.length ≤ 63 ∧ SqL K H a (ns.map V.int) ∧ ∀ H', Q (.bl true) H'
theorem ints_den {K : Fr} {D : Addr → Prop} {H : Hp} : ∀ ns : List Int, DenL K D H (ns.map Val.int) (ns.map V.int)
  | [] => rfl
  | i :: r => ⟨.int i, r.map V.int, rfl, rfl, ints_den r⟩
theorem law_sp {K : Fr} {mg : Str → Option Value} {Φ : Ph} (hΦ : MonoP Φ) {f : String} (h : ∀ ns : List Int, ns.length ≤ 63 → Φ f .val [.lst (ns.map Val.int)] (fun _ => none) (fun v _ => v = .bl true) (fun _ _ => False)) (vs : List V) (H : Hp) (Q : VK) (E : XK) (q : spLaw K vs H Q E) : spP K mg Φ f vs H Q E := by
  obtain ⟨a, ns, rfl, hl, hS, hQ⟩ := q
  refine ⟨fun _ => False, fun _ => none, .val, [.lst (ns.map Val.int)], ⟨fun _ _ z => (by cases z), fun _ z => False.elim z⟩, ⟨.ref a, [], rfl, ⟨a, ns.map V.int, rfl, ?_, ints_den ns⟩, rfl⟩, hΦ _ _ _ _ _ _ _ _ (fun v μ' e x H' _ _ d => ?_) (fun _ _ z => False.elim z) (h ns hl)⟩
  · rcases hS with z | z
    · exact .inl ⟨fun y => (by rcases y with y | y; (cases y); (exact y)), z⟩
    · exact .inr z
  · subst e
    rw [show x = .bl true from d]
    exact hQ H'
theorem cx_no {P : Program} {w : World} {H : Hp} {s : Shared} {e : Value} {s' : Shared} (h : L2.CX P w [] H s (fun _ _ _ => False) e s') : False := by
  obtain ⟨_, _, _, _, _, _, _, _, _, _, _, _, z⟩ := h
  exact z
theorem law_walk {l : PySem.W.OpenLaw} {k : Nat} {q : Program} {loose : List Str} {XP : (Str → Option Value) → Heap → Prop} {YP : World → Heap → Prop} {d : DefRec} {K : Params → PySem.W.Frag} (hn : l.most = some 63) (hdf : d.params.defaults = []) (hr : Room k callerA)
    (hY : ∀ (w : World) (h : Heap), YP w h → (K w.params).In h)
    (F : ∀ (w : World) (mg : Str → Option Value) (fa : Addr) (h : Heap), (K w.params).In h → h.Ns mainGlobals mg → mg d.name = some (.ref fa) →
      ∃ fd : FuncData, (∀ (s : Shared) (u : Value), BindsTo s fd ⟨[u], []⟩ [("script", u)]) ∧ ∀ base : Heap, (K w.params).In base → base.Ns mainGlobals mg → FnOk l.prog w (K w.params) mg base (L2.CX l.prog w) k fa fd ["script"] (spLaw (K w.params))) :
    PySem.W.WalkO q loose XP YP l.row.toRowW d [] (fun f vs => PySem.call f vs) :=
  L2.walk_of (n := 63) (k := k) (x := "script") (CX := fun w => L2.CX l.prog w) (sp := fun w => spLaw (K w.params)) hn (by decide) hdf hr hY F (fun _ _ a ns hl _ hS => ⟨a, ns, rfl, hl, hS, fun _ => rfl⟩) fun _ _ _ _ _ z => cx_no z
end Mi
/-! Mi20: is, is not, of bools; a bare return. -/
namespace Mi
open PySem PySem.Spec PyProof.Rows L2
section
variable {X : Cx} {Φ : Ph} {W : WX} {a b : Expr} {pos : Pos}
end
end Mi
/-! Mi22: one sign in a text. -/
namespace Mi
open PySem PySem.Spec PyProof.Rows L2
theorem one_sign {a : Str} (h : a.length = 1) : ∃ c, a = ⟨#[c]⟩ := by
  obtain ⟨cps⟩ := a
  obtain ⟨l⟩ := cps
  match l, h with
  | [c], _ => exact ⟨c, rfl⟩
theorem any_sign (c : Nat) (l : List Nat) : (l.any fun x => [c].contains x) = decide (c ∈ l) := by
  rw [Bool.eq_iff_iff, List.any_eq_true, decide_eq_true_eq]
  constructor
  · rintro ⟨x, hx, h⟩
    simp at h
    rw [← h]
    exact hx
  · intro h
    exact ⟨c, h, by simp⟩
def rInSg : R2 := fun x y H Q => ∃ (c : Nat) (z : Str), x = .str ⟨#[c]⟩ ∧ y = .str z ∧ Q (.bl (decide (c ∈ z.cps.toList))) H
def rNotSg : R2 := fun x y H Q => ∃ (c : Nat) (z : Str), x = .str ⟨#[c]⟩ ∧ y = .str z ∧ Q (.bl (!decide (c ∈ z.cps.toList))) H
section
variable {X : Cx} {Φ : Ph} {W : WX} {a b : Expr} {pos : Pos}
theorem inSF_eq {vs : List Val} {r : Val} (h : inSF vs = some r) : ∃ (c : Nat) (z : Str), vs = [.str ⟨#[c]⟩, .str z] ∧ r = .bl (decide (c ∈ z.cps.toList)) := by
  unfold inSF at h
  split at h
  · rename_i x z
    split at h
    · rename_i hc
      obtain ⟨c, rfl⟩ := one_sign hc.1
      cases h
      exact ⟨c, z, rfl, by rw [show (⟨#[c]⟩ : Str).cps.toList = [c] from rfl, any_sign]⟩
    · cases h
  · cases h
theorem ntS_read (hΦ : MonoP Φ) {K : Fr} {mg : Str → Option Value} {ea eb : E} {σ : List (Option V)} {H : Hp} {Q : VK} (h : rdE K mg Φ W (.not (.bi .inS (.cons ea (.cons eb .nil)))) σ H Q) : tOp rNotSg (rdE K mg Φ W ea) (rdE K mg Φ W eb) σ H Q := by
  obtain ⟨Xc, env, μ, S, q⟩ := h
  simp only [wpE, wpEs] at q
  refine use hΦ S Ext.refl q fun v μ1 x H1 S1 E1 _ d q1 => use hΦ S1 E1 q1 fun w μ2 y H2 S2 E2 E2' d2 q2 => ?_
  split at q2
  · rename_i r hr
    obtain ⟨c, z, e, rfl⟩ := inSF_eq (show inSF [v, w] = some r from hr)
    cases e
    refine ⟨c, z, d.1, d2.1, ?_⟩
    simp only [truthV, content] at q2
    exact q2 _ _ S2 E2' rfl
  · exact q2.elim
theorem rdT_N (hΦ : MonoP Φ) {K : Fr} {mg : Str → Option Value} {e : E} {σ : List (Option V)} {H : Hp} {Q : Bool → Hp → Prop} (h : rdT K mg Φ W (.not e) σ H Q) : rdE K mg Φ W (.not e) σ H (fun x H' => ∃ k, x = .bl k ∧ Q k H') := by
  obtain ⟨Xc, env, μ, S, q⟩ := h
  refine ⟨Xc, env, μ, S, ?_⟩
  simp only [wpE] at q ⊢
  refine wpE_mono hΦ _ env μ _ _ _ _ (fun v μ1 y => ?_) (fun _ _ z => z) q
  split at y
  · exact fun x H' S' E' d => ⟨_, d, y H' S' E'⟩
  · exact y.elim
theorem st_ntS (hΦ : MonoP Φ) {ea eb : E} (ha : SE X Φ W a ea) (hb : SE X Φ W b eb) (hm : behindInMarks .NotIn b = false := by rfl) : ST X Φ W (.Compare a [.NotIn] [b] pos) (.not (.bi .inS (.cons ea (.cons eb .nil)))) :=
  PT.imp (pt_cmpR (show OpR X (compareOp .NotIn) rNotSg from op_notIn_sign) ha hb hm) fun σ H Q h => ntS_read hΦ (rdT_N hΦ h)
end
end Mi
/-! Mi27: the exception that a suite kept, told behind it. -/
namespace L2
open PySem PySem.Spec PyProof.Rows
section
variable {X : Cx} {pins : List (Addr × Obj)} {σ : St} {H : Hp} {s : Shared}
def wAsK (K : PySem.W.Frag) (c : Value) (i : Nat) (ts : Addr → Value → Option Addr → TS) (tr : Addr → Value → Option Addr → TS) (Wout : WX) (D : Ends) : WX := fun cls d σ H =>
  ∃ b, PySem.W.exmOne K cls c = some b ∧ (b = true → ∀ a, H a = none → ts a cls d { nx := fun σ' H' => tr a cls d D (σ'.set i none) H', rt := D.rt, bk := fun σ' H' => D.bk (σ'.set i none) H', ct := fun σ' H' => D.ct (σ'.set i none) H' } (σ.set i (some (.ref a))) H) ∧
    (b = false → Wout cls d σ H)
theorem Inv.toHeld {a : Addr} {oe : Obj} {pn' : List (Addr × Obj)} (I : Inv (X.suite a ((a, oe) :: (X.pn ++ pins))) pn' σ H s) (ok : X.Ok) : Inv (X.tr ((a, oe) :: (X.pn ++ pins)) X.xe) pn' σ H s :=
  ⟨ok.toTry _ _, I.os, I.bare, I.base, I.loc, I.cell, I.free, I.freeC, I.pin, I.hok, I.len⟩
theorem Inv.unHeld {q : Addr × Obj} {pn' : List (Addr × Obj)} (I : Inv (X.tr (q :: (X.pn ++ pins)) X.xe) pn' σ H s) (ok : X.Ok) : Inv X pins σ H s :=
  ⟨ok, I.os, I.bare, I.base, I.loc, I.cell, I.free, I.freeC, fun p hp => I.pin p (List.mem_append_left _ (List.mem_cons_of_mem _ hp)), I.hok, I.len⟩
theorem SP.unHeld {q : Addr × Obj} {D : Ends} {f : Flow} (h : SP (X.tr (q :: (X.pn ++ pins)) X.xe) [] D f s) (ok : X.Ok) : SP X pins D f s := by
  cases f with
  | next => obtain ⟨σ', H', I, z⟩ := h; exact ⟨σ', H', I.unHeld ok, z⟩
  | brk => obtain ⟨σ', H', I, z⟩ := h; exact ⟨σ', H', I.unHeld ok, z⟩
  | cont => obtain ⟨σ', H', I, z⟩ := h; exact ⟨σ', H', I.unHeld ok, z⟩
  | ret u => obtain ⟨v, σ', H', I, r, z⟩ := h; exact ⟨v, σ', H', I.unHeld ok, r, z⟩
theorem Inv.fewer {pn pn' : List (Addr × Obj)} (I : Inv (X.tr pn X.xe) pn' σ H s) (ok : X.Ok) (h : ∀ p ∈ X.pn, p ∈ pn) : Inv X pn' σ H s :=
  ⟨ok, I.os, I.bare, I.base, I.loc, I.cell, I.free, I.freeC, fun p hp => I.pin p (by
    rcases List.mem_append.mp hp with z | z
    · exact List.mem_append_left _ (h p z)
    · exact List.mem_append_right _ z), I.hok, I.len⟩
theorem Takes.more {W : WX} {pn : List (Addr × Obj)} (t : Takes X W) (h : ∀ p ∈ X.pn, p ∈ pn) : Takes (X.tr pn X.xe) W := fun u s' ⟨a, B, sI, pins, σ, H, cls, d, e, I, nb, up, sky, na, os, ag, w⟩ =>
  t u s' ⟨a, B, sI, pins, σ, H, cls, d, e, I.fewer I.ok.ofTry h, nb, up, sky, na, os, ag, w⟩
end
section
variable {X : Cx} {x n : Str} {c : Value} {i : Nat} {body suite rest : List Stmt} {b₀ : Stmt} {np pos pos' : Pos} {tb : WX → TS} {ts tr : Addr → Value → Option Addr → TS} {tr0 : TS} {Wout : WX}
theorem pss_tryK (hs : X.stack = X.env :: X.outer) (hf : X.env.frame = some X.env.locals) (hN : X.N.Nodup) (hi : X.N[i]? = some n) (hln : X.env.kindOf n = some .local) (hc : Names X x c) (tk : Takes X Wout)
    (hb : ∀ (W : WX) (pn : List (Addr × Obj)) (xe : Value → Shared → Prop), Takes (X.tr pn xe) W → PassesOwn (model X.prog X.w) X.A X.env xe → PSs (X.tr pn xe) body (tb W))
    (hsu : ∀ (a : Addr) (oe : Obj) (cls : Value) (d : Option Addr) (pn : List (Addr × Obj)), Zc cls d oe → (∃ vs, oe.data = .fields vs) → PSs (X.suite a ((a, oe) :: pn)) (b₀ :: suite) (ts a cls d))
    (hr0 : PSs X rest tr0)
    (hr : ∀ (a : Addr) (oe : Obj) (cls : Value) (d : Option Addr) (pn : List (Addr × Obj)), Zc cls d oe → (∃ vs, oe.data = .fields vs) → (∀ p ∈ X.pn, p ∈ pn) → PSs (X.tr ((a, oe) :: pn) X.xe) rest (tr a cls d)) :
    PSs X (.Try body [.ExceptHandler (some (.Name x np)) (some n) (b₀ :: suite) pos'] [] [] pos :: rest) (fun D σ H => tb (wAsK X.K c i ts tr Wout D) { D with nx := tr0 D } σ H) := by
  refine ⟨fun pins s σ H D I h => ?_⟩
  have ok := I.ok
  have hfr : X.A.frames = some (X.env :: X.outer) := by rw [ok.frames, hs]
  have hloc : Loc X.env.scope n := .inl hln
  refine wpAny_execs_cons ?_
  suffices main : ∀ Q : Flow → Shared → Prop, (∀ s1, wpAny (model X.prog X.w) X.A (execs rest X.env) (SP X pins D) X.xe s1 → Q .next s1) → (∀ s1, SP X pins D .brk s1 → Q .brk s1) → (∀ s1, SP X pins D .cont s1 → Q .cont s1) → (∀ s1 u, SP X pins D (.ret u) s1 → Q (.ret u) s1) →
      wpAny (model X.prog X.w) X.A (exec (.Try body [.ExceptHandler (some (.Name x np)) (some n) (b₀ :: suite) pos'] [] [] pos) X.env) Q X.xe s from
    main _ (fun _ z => z) (fun _ z => z) (fun _ z => z) (fun _ _ z => z)
  intro Q Qn Qb Qc Qr
  refine wpAny_Try_except ?_
  refine wpAny_mono ((hb (wAsK X.K c i ts tr Wout D) (X.pn ++ pins) (fun e s₁ => wpAny (model X.prog X.w) X.A (noteFrame e X.env) (fun _ s₂ => wpAny (model X.prog X.w) X.A (setFlight e none) (fun _ s₃ =>
    wpAny (model X.prog X.w) X.A (handleBy e X.env [.ExceptHandler (some (.Name x np)) (some n) (b₀ :: suite) pos']) Q X.xe s₃) X.xe s₂) X.xe s₁) (fun u s' xx => ?_) PassesOwn.looking).run [] s σ H { D with nx := tr0 D } (I.toTry _) h) (fun f s1 hsp => ?_) (fun e s1 he => he)
  · -- the catch
    obtain ⟨a, B, sI, pins', σ', H', cls, d, rfl, J', nb, up, sky, na, os, ag, b, hb1, hyes, hno⟩ := xx
    have J : Inv X pins σ' H' sI := J'.ofTry ok
    have sky' : Sky B (X.env :: X.outer) a (Zc cls d) X.env.locals s'.heap := by rw [← hs]; exact sky
    show wpAny (model X.prog X.w) X.A (noteFrame (.ref a) X.env) _ _ _
    refine Sky.land Zc.steady hfr hf sky' fun h3 fl3 up3 => ?_
    have J3 : Inv X pins σ' H' { s' with heap := h3 } := J.landed nb fl3.1 (up.trans up3) os ag
    obtain ⟨oe3, vs3, he3, hz3, hd3⟩ := fl3.there
    have notFr : ∀ {h : Heap} {o : Obj} {vs : Array Value}, h.FunFrames B (X.env :: X.outer) → h.get? a = some o → o.data = .fields vs → a ∉ frs (X.env :: X.outer) := fun {h o vs} ff e dd hm => by
      obtain ⟨_, o', e', hnf⟩ := ff.mem hm
      rw [e] at e'; cases e'
      exact hnf _ dd
    have nfr := notFr fl3.2.2.1 he3 hd3
    have nL : a ≠ X.env.locals := fun z => nfr (List.mem_filterMap.mpr ⟨X.env, List.mem_cons_self, by rw [hf, z]⟩)
    have nF : a ∉ X.fs := fun hm => by
      obtain ⟨e, he, q⟩ := List.mem_filterMap.mp hm
      exact nfr (List.mem_filterMap.mpr ⟨e, List.mem_cons_of_mem _ he, q⟩)
    have S3 := J3.suite he3 hd3 na nL nF
    refine wpAny_handleBy_cons (codeAny_handlers_test ?_) (by intro q; cases q)
    have LT : PySem.W.Looks (model X.prog X.w) h3 (typeOf (.ref a)) cls := fun A Q E s k q => wpAny_typeOf_ref (k _ _ he3) (by rw [hz3.1]; exact q)
    have LM := PySem.W.exm_one (M := model X.prog X.w) (J3.kIn) LT hb1
    have test : ∀ {Q : Value → Shared → Prop} {E : Value → Shared → Prop}, Q c { s' with heap := h3 } → wpAny (model X.prog X.w) (X.A.mark (some (.ref a))) (eval (.Name x np) X.env) Q E { s' with heap := h3 } := fun {Q E} q => by
      obtain ⟨hg, hdbg, hm | ⟨hm, hv, hnn⟩⟩ := hc
      · exact ld_glob (X := X.suite a ((a, oe3) :: (X.pn ++ pins))) S3 hg hm q hdbg
      · exact ld_blt (X := X.suite a ((a, oe3) :: (X.pn ++ pins))) S3 hg hm hv q hnn hdbg
    refine test (LM.here ?_)
    cases b with
    | true =>
      refine codeAny_handlers_suite_as ?_
      refine HandSPX.lands_againZ fl3 fun h4 fl4 up4 => ?_
      have J4 : Inv X pins σ' H' { s' with heap := h4 } := J.landed nb fl4.1 ((up.trans up3).trans up4) os ag
      obtain ⟨oe4, vs4, he4, hz4, hd4⟩ := fl4.there
      have S4 := J4.suite he4 hd4 na nL nF
      refine store_ok (X := X.suite a ((a, oe4) :: (X.pn ++ pins))) (v := .ref a) S4 hN hi hloc rfl (fun s5 S5 => ?_) (.inr hln)
      refine wpAny_mono ((hsu a oe4 cls d (X.pn ++ pins) hz4 ⟨_, hd4⟩).run [] s5 _ H' _ S5 (hyes rfl a na)) (fun f s6 hsp => ?_) (fun _ _ z => False.elim z)
      have end_ : ∀ {σ6 : St} {H6 : Hp} {Q : Shared → Prop}, Inv (X.suite a ((a, oe4) :: (X.pn ++ pins))) [] σ6 H6 s6 → (∀ s7, Inv (X.tr ((a, oe4) :: (X.pn ++ pins)) X.xe) [] (σ6.set i none) H6 s7 → Q s7) →
          wpAny (model X.prog X.w) X.A (do bindName X.env n .none; unbindBehindTheSuite X.env n pos') (fun _ s7 => Q s7) X.xe s6 := fun {σ6 H6 Q} S6 hq => gone_ok (X := X.tr ((a, oe4) :: (X.pn ++ pins)) X.xe) (S6.toHeld ok) hN hi hln hq
      cases f with
      | next =>
        obtain ⟨σ6, H6, S6, q6⟩ := hsp
        exact end_ S6 fun s7 J7 => Qn _ (wpAny_mono ((hr a oe4 cls d (X.pn ++ pins) hz4 ⟨_, hd4⟩ fun p hp => List.mem_append_left _ hp).run [] s7 _ _ D J7 q6) (fun f s8 z => SP.unHeld z ok) fun _ _ z => z)
      | brk =>
        obtain ⟨σ6, H6, S6, q6⟩ := hsp
        exact end_ S6 fun s7 J7 => Qb _ ⟨_, _, J7.unHeld ok, q6⟩
      | cont =>
        obtain ⟨σ6, H6, S6, q6⟩ := hsp
        exact end_ S6 fun s7 J7 => Qc _ ⟨_, _, J7.unHeld ok, q6⟩
      | ret u =>
        obtain ⟨v6, σ6, H6, S6, r6, q6⟩ := hsp
        exact end_ S6 fun s7 J7 => Qr _ _ ⟨_, _, _, J7.unHeld ok, r6, q6⟩
    | false =>
      show wpAny _ X.A (handleBy (.ref a) X.env []) _ _ _
      refine wpAny_handleBy_nil ?_
      obtain ⟨k1, k2, k3, oe, vs, T, oT, ts', he, hz, hd, h1, hr⟩ := id fl3
      unfold PySem.passOn
      refine wpAny_bind (wpAny_field he hd h1 ?_)
      rw [if_neg (show ¬ ((Value.ref T == Value.none) = true) from by simp)]
      have fin : wpAny (model X.prog X.w) X.A (setFlight (.ref a) X.env.frame) (fun _ s4 => wpAny (model X.prog X.w) X.A (throw (.ref a) : Sem Flow) Q X.xe s4) X.xe { s' with heap := h3 } := by
        rw [hf]
        refine HandSPX.setFlight_upZ fl3 fun h4 hh4 up4 => wpAny_throw (tk _ _ ?_)
        exact ⟨a, B, sI, pins, σ', H', cls, d, rfl, J, nb, (up.trans up3).trans up4, .inr (.inr (by rw [hs]; exact hh4)), na, os, ag, hno rfl⟩
      first
        | exact wpAny_bind (wpAny_pure (wpAny_bind fin))
        | exact wpAny_bind fin
  · cases f with
    | next =>
      obtain ⟨σ', H', J', q⟩ := hsp
      exact wpAny_execs_nil (Qn _ (hr0.run pins s1 σ' H' D (J'.ofTry ok) q))
    | brk =>
      obtain ⟨σ', H', J', q⟩ := hsp
      exact Qb _ ⟨σ', H', J'.ofTry ok, q⟩
    | cont =>
      obtain ⟨σ', H', J', q⟩ := hsp
      exact Qc _ ⟨σ', H', J'.ofTry ok, q⟩
    | ret u =>
      obtain ⟨v, σ', H', J', r, q⟩ := hsp
      exact Qr _ _ ⟨v, σ', H', J'.ofTry ok, r, q⟩
def rIsP (K : PySem.W.Frag) (D a : Addr) : List V → Hp → VK → Prop := fun xs H Q => ∃ (tp : Addr) (cs : List V) (us : List Value) (b : Bool), xs = [.ref a, .ref tp] ∧ H tp = some (.tup cs) ∧ Paired ClsV cs us ∧ PySem.W.kitAny K (.ref D) us = some b ∧ Q (.bl b) H
theorem call_isP {X : Cx} {a D : Addr} {oe : Obj} (C : ExcC X.K D) (hp : (a, oe) ∈ X.pn) (hz : Zc (.ref D) none oe) (hf : ∃ vs, oe.data = .fields vs) : CallR X (.builtin "isinstance") (rIsE X.K D a) := by
  intro pins s σ H xs us Q I r h
  obtain ⟨c, cv, b, rfl, hcv, e, q⟩ := h
  cases r with
  | cons rx rr =>
    cases rr with
    | cons rt rr =>
      cases rr
      cases rx
      have ec := hcv _ rt
      subst ec
      obtain ⟨hget, _⟩ := I.pin (a, oe) (List.mem_append.mpr (.inl hp))
      obtain ⟨vs, hv⟩ := hf
      have J : PySem.W.InstAt s.heap a oe D none := by
        obtain ⟨oc, od, oda, osl⟩ := oe
        obtain ⟨h1, h2⟩ := hz
        dsimp only at h1 h2 hv
        subst h1 h2 hv
        exact ⟨hget, rfl, rfl, trivial⟩
      exact PySem.W.kia_one (PySem.W.handS_kitx_exc C.hg C.hk C.hs C.hd C.ha C.hn C.ht C.hm) I.kIn J e (fun z => nomatch z) fun tk => ⟨.bl b, H, I.kept (t' := tk) fun _ _ z => z, rfl, q⟩
theorem call_isPT {X : Cx} {a D : Addr} {oe : Obj} (C : ExcC X.K D) (hp : (a, oe) ∈ X.pn) (hz : Zc (.ref D) none oe) (hf : ∃ vs, oe.data = .fields vs) : CallR X (.builtin "isinstance") (rIsP X.K D a) := by
  intro pins s σ H xs us Q I r h
  obtain ⟨tp, cs, ws, b, rfl, hT, k, e, q⟩ := h
  cases r with
  | cons rx rr =>
    cases rr with
    | cons rt rr =>
      cases rr
      cases rx
      cases rt
      obtain ⟨hget, _⟩ := I.pin (a, oe) (List.mem_append.mpr (.inl hp))
      obtain ⟨vs, hv⟩ := hf
      have J : PySem.W.InstAt s.heap a oe D none := by
        obtain ⟨oc, od, oda, osl⟩ := oe
        obtain ⟨h1, h2⟩ := hz
        dsimp only at h1 h2 hv
        subst h1 h2 hv
        exact ⟨hget, rfl, rfl, trivial⟩
      obtain ⟨_, its, rv, o, h1, h2, n, h3⟩ := (show ObjOk X.prog X.w H s.heap tp (.tup cs) from I.hok tp _ hT)
      have e3 := ClsV.all k rv
      subst e3
      obtain ⟨oc, od, dt, sl⟩ := o
      simp only at h2 h3
      subst h2 h3
      exact PySem.W.kia_tup (PySem.W.handS_kitx_exc C.hg C.hk C.hs C.hd C.ha C.hn C.ht C.hm) I.kIn J h1 e (fun z => nomatch z) fun tk => ⟨.bl b, H, I.kept (t' := tk) fun _ _ z => z, rfl, q⟩
end
end L2
namespace Mi
open PySem PySem.Spec PyProof.Rows L2
def HeldP (K : Fr) (mg : Str → Option Value) (pn : List (Addr × Obj)) (o : Option (String × Ad)) : Prop :=
  ∀ d q, o = some (d, q) → ∃ oe D, (q, oe) ∈ pn ∧ Zc (.ref D) none oe ∧ (∃ vs, oe.data = .fields vs) ∧ mg (Str.ofString d) = some (.ref D) ∧ IsExc K mg d
theorem held_none {K : Fr} {mg : Str → Option Value} {pn : List (Addr × Obj)} : HeldP K mg pn none := fun _ _ z => by cases z
theorem held_some {K : Fr} {mg : Str → Option Value} {pn : List (Addr × Obj)} {a : Addr} {oe : Obj} {cls : Value} {d : Option Addr} {cn : String} (hz : Zc cls d oe) (hv : ∃ vs, oe.data = .fields vs) (F : mg (Str.ofString cn) = some cls ∧ IsExc K mg cn ∧ d = none) : HeldP K mg ((a, oe) :: pn) (some (cn, a)) := fun d' q z => by
  cases z
  obtain ⟨h1, h2, h3⟩ := F
  subst h3
  obtain ⟨D, rfl, _⟩ := h2.kit _ h1
  exact ⟨oe, D, List.mem_cons_self, hz, hv, h1, h2⟩
section
variable {X : Cx} {Φ : Ph} {W : WX}
theorem sb_tryK (hΦ : MonoP Φ) {h : String} {c : Value} {i : Nat} {n : Str} {body suite rest : List Stmt} {b₀ : Stmt} {np pos pos' : Pos} {s t r : S} (hs : X.stack = X.env :: X.outer) (hf : X.env.frame = some X.env.locals) (hN : X.N.Nodup) (hi : X.N[i]? = some n) (hln : X.env.kindOf n = some .local) (hm : h ∈ excNames) (hc : X.mg (Str.ofString h) = some c) (hg : Gl X (Str.ofString h)) (hdb : (Str.ofString h == ("__debug__" : Str)) = false) (tk : Takes X W)
    (hb : ∀ (W' : WX) (pn : List (Addr × Obj)) (xe : Value → Shared → Prop), Takes (X.tr pn xe) W' → PassesOwn (model X.prog X.w) X.A X.env xe → SB (X.tr pn xe) Φ W' body s)
    (hsu : ∀ (a : Addr) (oe : Obj) (cls : Value) (d : Option Addr) (pn : List (Addr × Obj)), Zc cls d oe → (∃ vs, oe.data = .fields vs) → ∀ cn : String, X.mg (Str.ofString cn) = some cls ∧ IsExc X.K X.mg cn ∧ d = none → SB (X.suite a ((a, oe) :: pn)) (Φ.at cn a) W (b₀ :: suite) t)
    (hr : ∀ (pn : List (Addr × Obj)) (o : Option (String × Ad)), HeldP X.K X.mg pn o → Takes (X.tr pn X.xe) W → SB (X.tr pn X.xe) ⟨Φ.call, o⟩ W rest r) :
    SB X Φ W (.Try body [.ExceptHandler (some (.Name (Str.ofString h) np)) (some n) (b₀ :: suite) pos'] [] [] pos :: rest) (.tryK s h i t r) :=
  PSs.imp (pss_tryK (tb := fun W' => rdS X.K X.mg Φ W' s) (ts := fun a cls d D σ H => ∃ cn : String, (X.mg (Str.ofString cn) = some cls ∧ IsExc X.K X.mg cn ∧ d = none) ∧ rdS X.K X.mg (Φ.at cn a) W t D σ H)
    (tr := fun a cls d D σ H => ∃ cn : String, (X.mg (Str.ofString cn) = some cls ∧ IsExc X.K X.mg cn ∧ d = none) ∧ rdS X.K X.mg (Φ.at cn a) W r D σ H) (tr0 := rdS X.K X.mg Φ.un W r) hs hf hN hi hln ⟨hg, hdb, .inl hc⟩ tk hb
    (fun a oe cls d pn hz hv => ⟨fun pins s' σ H D I ⟨cn, h1, r⟩ => (hsu a oe cls d pn hz hv cn h1).run pins s' σ H D I r⟩) (hr X.pn none held_none tk)
    (fun a oe cls d pn hz hv hpn => ⟨fun pins s' σ H D I ⟨cn, h1, r⟩ => (hr ((a, oe) :: pn) (some (cn, a)) (held_some hz hv h1) (tk.more fun p hp => List.mem_cons_of_mem _ (hpn p hp))).run pins s' σ H D I r⟩)) fun D σ H ⟨Xc, env, μ, S, q⟩ => by
    rw [wpS] at q
    refine ⟨Xc, env, μ, S, wpS_mono hΦ s env μ _ _ ?_ q⟩
    refine ⟨fun e3 μ3 z σ3 H3 S3 E3 => ⟨Xc, e3, μ3, S3, wpS_mono (Φ := Φ.un) hΦ r e3 μ3 _ _ (enOf.le E3) z⟩, fun _ _ z => z, fun e env' μ' z cls d σ' H' S' E' r' => ?_⟩
    obtain ⟨cn, rfl, hcl, ie, hdn⟩ := r'
    have hx := ie.ex cls hcl h hm c hc
    refine ⟨isSub cn h, hx, fun hb a ha => ?_, fun hb => ?_⟩
    · dsimp only at z
      rw [if_pos hb] at z
      have hμ : μ' a = none := by
        cases hz : μ' a with
        | none => rfl
        | some v =>
          obtain ⟨o, ho, _⟩ := S'.m.obj a v hz
          rw [ha] at ho; cases ho
      refine ⟨cn, ⟨hcl, ie, hdn⟩, Xc, env'.set i (some (.ref a)), μ', S'.set (v := .ref a) (x := .ref a) rfl, wpS_mono (at_monoP hΦ) t _ μ' _ _ ?_ (z a hμ)⟩
      exact ⟨fun e3 μ3 z σ3 H3 S3 E3 => ⟨cn, ⟨hcl, ie, hdn⟩, Xc, e3.set i none, μ3, S3.setN i, wpS_mono (at_monoP hΦ) r _ _ _ _ (enOf.le (E'.trans E3)) z⟩, fun v μ3 z x H3 S3 E3 d => z x H3 S3 (E'.trans E3) d, fun v e μ3 z cls d σ3 H3 S3 E3 r => z cls d σ3 H3 S3 (E'.trans E3) r⟩
    · dsimp only at z
      rw [if_neg (by rw [hb]; exact Bool.false_ne_true)] at z
      exact z cls d σ' H' S' E' ⟨cn, rfl, hcl, ie, hdn⟩

/-! ### isinstance of what is held -/
def rIsH (K : Fr) (pn : List (Addr × Obj)) : List V → Hp → VK → Prop := fun xs H Q => ∃ D a oe, ExcC K D ∧ (a, oe) ∈ pn ∧ Zc (.ref D) none oe ∧ (∃ vs, oe.data = .fields vs) ∧ rIsE K D a xs H Q
theorem call_isH : CallR X (.builtin "isinstance") (rIsH X.K X.pn) := fun pins s σ H xs us Q I r ⟨_, _, _, C, hp, hz, hf, h⟩ => call_isP C hp hz hf pins s σ H xs us Q I r h
def rIsHT (K : Fr) (pn : List (Addr × Obj)) : List V → Hp → VK → Prop := fun xs H Q => ∃ D a oe, ExcC K D ∧ (a, oe) ∈ pn ∧ Zc (.ref D) none oe ∧ (∃ vs, oe.data = .fields vs) ∧ rIsP K D a xs H Q
theorem call_isHT : CallR X (.builtin "isinstance") (rIsHT X.K X.pn) := fun pins s σ H xs us Q I r ⟨_, _, _, C, hp, hz, hf, h⟩ => call_isPT C hp hz hf pins s σ H xs us Q I r h
variable {a : Expr} {x y : Str} {p p2 pos : Pos} {e : E}
theorem se_isH (hH : HeldP X.K X.mg X.pn Φ.pin) (hΦ : MonoP Φ) {h : String} {C : Addr} (hh : h ∈ excNames) (hC : X.mg (Str.ofString h) = some (.ref C)) (hgh : Gl X (Str.ofString h)) (hdh : (Str.ofString h == ("__debug__" : Str)) = false)
    (hg : Gl X x) (hm : X.mg x = none) (hv : bootBuiltins x = some (.builtin "isinstance")) (hn : x ≠ "__name__") (hdb : (x == ("__debug__" : Str)) = false) (ha : SE X Φ W a e)
    (he : starEach (a :: [.Name (Str.ofString h) p2]) X.env = (false, eval a X.env) :: starEach [.Name (Str.ofString h) p2] X.env := by rfl) (he2 : starEach [.Name (Str.ofString h) p2] X.env = (false, eval (.Name (Str.ofString h) p2) X.env) :: starEach [] X.env := by rfl) (hpl : (backTo pos (starEach [.Name (Str.ofString h) p2] X.env)).any (·.1) = false := by rfl) :
    SE X Φ W (.Call (.Name x p) [a, .Name (Str.ofString h) p2] [] pos) (.isC e h) := by
  have hy : PE X (.Name (Str.ofString h) p2) (tC (.ref C)) := pe_glob (v := .ref C) hgh hC rfl hdh
  refine PE.imp (pe_callB call_isH hg hm hv (pa_cons ha (pa_cons hy pa_nil he2) he) hn hdb he hpl) fun σ H Q ⟨Xc, env, μ, S, q⟩ => ?_
  simp only [wpE] at q
  refine use hΦ S Ext.refl q fun v μ1 x H1 S1 E1 E1' d q1 => ?_
  unfold pinQ at q1
  split at q1
  · rename_i d' q' p' hpin
    obtain ⟨e1, q2⟩ := q1
    subst e1
    obtain ⟨oe, D, h1, h2, h3, h4, h5⟩ := hH _ _ hpin
    obtain ⟨D', e', xc, hk, _⟩ := h5.kit _ h4
    cases e'
    exact ⟨D, _, oe, xc, h1, h2, h3, .ref C, .ref C, isSub d' h, by rw [show x = V.ref p' from d], fun u r => r, (hk h hh _ hC).2, q2 _ H1 S1 E1' rfl⟩
  · exact q1.elim
theorem se_isHV (hH : HeldP X.K X.mg X.pn Φ.pin) (hΦ : MonoP Φ)
    (hg : Gl X x) (hm : X.mg x = none) (hv : bootBuiltins x = some (.builtin "isinstance")) (hn : x ≠ "__name__") (hdb : (x == ("__debug__" : Str)) = false) (ha : SE X Φ W a e)
    (hy : PE X (.Name y p2) (tC (.ty "ValueError")))
    (he : starEach (a :: [.Name y p2]) X.env = (false, eval a X.env) :: starEach [.Name y p2] X.env := by rfl) (he2 : starEach [.Name y p2] X.env = (false, eval (.Name y p2) X.env) :: starEach [] X.env := by rfl) (hpl : (backTo pos (starEach [.Name y p2] X.env)).any (·.1) = false := by rfl) :
    SE X Φ W (.Call (.Name x p) [a, .Name y p2] [] pos) (.isC e "ValueError") := by
  refine PE.imp (pe_callB call_isH hg hm hv (pa_cons ha (pa_cons hy pa_nil he2) he) hn hdb he hpl) fun σ H Q ⟨Xc, env, μ, S, q⟩ => ?_
  simp only [wpE] at q
  refine use hΦ S Ext.refl q fun v μ1 x H1 S1 E1 E1' d q1 => ?_
  unfold pinQ at q1
  split at q1
  · rename_i d' q' p' hpin
    obtain ⟨e1, q2⟩ := q1
    subst e1
    obtain ⟨oe, D, h1, h2, h3, h4, h5⟩ := hH _ _ hpin
    obtain ⟨D', e', xc, _, hk⟩ := h5.kit _ h4
    cases e'
    have hs : isSub d' "ValueError" = true := by unfold isSub; simp
    rw [hs] at q2
    exact ⟨D, _, oe, xc, h1, h2, h3, .ty "ValueError", .type "ValueError", true, by rw [show x = V.ref p' from d], fun u r => r, hk, q2 _ H1 S1 E1' rfl⟩
  · exact q1.elim
structure PaC (X : Cx) (es : List Expr) (hs : List String) (cs : List Addr) : Prop where
  pa : PA X es (fun _ H Q => Q (cs.map V.ref) H)
  all : ∀ (K : Fr) (cls : Value) (c : String), (∀ h ∈ excNames, ∀ c', X.mg (Str.ofString h) = some c' → (∃ C, c' = .ref C) ∧ PySem.W.kitOne K cls c' = some (isSub c h)) → PySem.W.kitAny K cls (cs.map Value.ref) = some (hs.any fun h => isSub c h)
theorem paC_nil : PaC X [] [] [] := ⟨PA.imp pa_nil fun _ _ _ q => q, fun _ _ _ _ => rfl⟩
theorem paC_cons {h : String} {C : Addr} {es : List Expr} {hs : List String} {cs : List Addr} (hh : h ∈ excNames) (hC : X.mg (Str.ofString h) = some (.ref C)) (hgh : Gl X (Str.ofString h)) (hdh : (Str.ofString h == ("__debug__" : Str)) = false) (r : PaC X es hs cs)
    (he : starEach (.Name (Str.ofString h) p2 :: es) X.env = (false, eval (.Name (Str.ofString h) p2) X.env) :: starEach es X.env := by rfl) : PaC X (.Name (Str.ofString h) p2 :: es) (h :: hs) (C :: cs) :=
  ⟨PA.imp (pa_cons (pe_glob (v := .ref C) hgh hC rfl hdh) r.pa he) fun _ _ _ q => q, fun K cls c k => by
    rw [List.map_cons]
    unfold PySem.W.kitAny
    rw [(k h hh _ hC).2, List.any_cons]
    cases isSub c h with
    | true => rfl
    | false => exact r.all K cls c k⟩
theorem paired_refs : ∀ cs : List Addr, Paired ClsV (cs.map V.ref) (cs.map Value.ref)
  | [] => .nil
  | c :: r => .cons (.own c) (paired_refs r)
theorem se_isHT (hH : HeldP X.K X.mg X.pn Φ.pin) (hΦ : MonoP Φ) {es : List Expr} {hs : List String} {cs : List Addr} {k} (hc : PaC X es hs cs) (hl : cs.length ≤ 100 := by decide)
    (hg : Gl X x) (hm : X.mg x = none) (hv : bootBuiltins x = some (.builtin "isinstance")) (hn : x ≠ "__name__") (hdb : (x == ("__debug__" : Str)) = false) (ha : SE X Φ W a e)
    (he : starEach (a :: [.Tuple es k p2]) X.env = (false, eval a X.env) :: starEach [.Tuple es k p2] X.env := by rfl) (he2 : starEach [.Tuple es k p2] X.env = (false, eval (.Tuple es k p2) X.env) :: starEach [] X.env := by rfl) (hpl : (backTo pos (starEach [.Tuple es k p2] X.env)).any (·.1) = false := by rfl) :
    SE X Φ W (.Call (.Name x p) [a, .Tuple es k p2] [] pos) (.isCs e hs) := by
  refine PE.imp (pe_callB call_isHT hg hm hv (pa_cons ha (pa_cons (pe_tup hc.pa) pa_nil he2) he) hn hdb he hpl) fun σ H Q ⟨Xc, env, μ, S, q⟩ => ?_
  simp only [wpE] at q
  refine use hΦ S Ext.refl q fun v μ1 x H1 S1 E1 E1' d q1 => ?_
  unfold pinQs at q1
  split at q1
  · rename_i d' q' p' hpin
    obtain ⟨e1, q2⟩ := q1
    subst e1
    obtain ⟨oe, D, h1, h2, h3, h4, h5⟩ := hH _ _ hpin
    obtain ⟨D', e', xc, hk, _⟩ := h5.kit _ h4
    cases e'
    refine ⟨by rw [List.length_map, sizeLine_eq]; omega, fun tp htp => ?_⟩
    refine ⟨D, _, oe, xc, h1, h2, h3, tp, cs.map V.ref, cs.map Value.ref, _, by rw [show x = V.ref p' from d], upd_same, paired_refs cs, hc.all X.K _ d' hk, ?_⟩
    exact q2 _ (upd H1 tp (.tup (cs.map V.ref))) (S1.laid htp) (E1'.trans (Ext.laid htp)) rfl
  · exact q1.elim
end
end Mi
/-! Mi28: sorted lists of pairs (a number, a text), told apart by their numbers; sorted(set(..)) of a list of whole numbers. -/
namespace L2
open PySem PySem.Spec PyProof.Rows Srt SrtO
def IsPS (h : Heap) (v : Value) (x : Int) (y : Str) : Prop := ∃ a o t u n, v = .ref a ∧ h.get? a = some o ∧ o.cls = .type "tuple" ∧ o.data = .seq #[.int x t, .str y u] n
theorem IsPS.keeps {h h' : Heap} {v : Value} {x : Int} {y : Str} (p : IsPS h v x y) (k : ∀ b o, h.get? b = some o → o.cls = .type "tuple" → h'.get? b = some o) : IsPS h' v x y := by
  obtain ⟨a, o, t, u, n, e, ho, hc, hd⟩ := p
  exact ⟨a, o, t, u, n, e, k _ _ ho hc, hc, hd⟩
def ltPS (k : Value → Int) (v u : Value) : Bool := decide (k v < k u)
theorem swo_ps (k : Value → Int) : Swo (ltPS k) := by
  refine ⟨fun x y h => ?_, fun x y z h1 h2 => ?_⟩
  · have a := of_decide_eq_true (p := k x < k y) h
    exact decide_eq_false (p := k y < k x) (by omega)
  · have a := of_decide_eq_false (p := k y < k x) h1
    have b := of_decide_eq_false (p := k z < k y) h2
    exact decide_eq_false (p := k z < k x) (by omega)
section
variable {prog : Program} {w : World} {A : Around} {E : Value → Shared → Prop} {s : Shared}
theorem ps_cmp {vs : List Value} {k : Value → Int} (hp : ∀ v ∈ vs, ∃ y, IsPS s.heap v (k v) y) (inj : ∀ v ∈ vs, ∀ u ∈ vs, k v = k u → v = u) : SrtO.Cmp prog w A s (tuples' true) (fun p => p.1 ∈ vs) (lt2 (ltPS k)) := by
  intro p q hm hm'
  obtain ⟨y, a, o, t, u, n, e, ho, hc, hd⟩ := hp _ hm
  obtain ⟨y', a', o', t', u', n', e', ho', hc', hd'⟩ := hp _ hm'
  have hi := inj _ hm _ hm'
  show wpAny (model prog w) A (keyLt' (tuples' true) p.1 q.1) (fun r s' => s' = s ∧ r = ltPS k p.1 q.1) (fun _ _ => False) s
  obtain ⟨kx, hkx⟩ : ∃ kx, kx = k p.1 := ⟨_, rfl⟩
  obtain ⟨ky, hky⟩ : ∃ ky, ky = k q.1 := ⟨_, rfl⟩
  unfold ltPS
  rw [← hkx] at hd hi ⊢
  rw [← hky] at hd' hi ⊢
  rw [e, e'] at hi
  rw [e, e']
  refine PySem.W.kat_lt ho hd ho' hd' ?_
  show PySem.W.KatLex prog w A true (decide (2 < 2)) _ [(.int kx t, .int ky t'), (.str y u, .str y' u')] 0 s
  refine PySem.W.kat_cons (SeqAt.EqAt.int_int kx t ky t' prog w _ _ ?_)
  refine PySem.W.kat_go (fun e1 => ?_) (fun e1 => ?_)
  · have ex : kx = ky := by simpa using e1
    have ea : a = a' := by
      have z := hi ex
      injection z
    subst ea
    rw [ho] at ho'
    cases ho'
    rw [hd] at hd'
    injection hd' with q1 q2
    have q3 := congrArg (fun x : Array Value => x[1]?) q1
    simp at q3
    obtain ⟨q3, q4⟩ := q3
    subst q3
    refine PySem.W.kat_yes (PySem.W.kat_cons (SeqAt.EqAt.str_str y u y u' prog w _ _ ?_))
    refine PySem.W.kat_go (fun e2 => ?_) (fun e2 => ?_)
    · exact PySem.W.kat_yes (PySem.W.kat_nil ⟨rfl, (decide_eq_false (p := kx < ky) (by omega)).symm⟩)
    · exact absurd e2 (by simp)
  · have ex : ¬ kx = ky := by simpa using e1
    exact PySem.W.kat_no (oneLt_int ⟨rfl, rfl⟩)
theorem firsts_ps {h : Heap} {k : Value → Int} : ∀ {vs : List Value}, (∀ v ∈ vs, ∃ y, IsPS h v (k v) y) → ∃ fs : List Value, PySem.W.KatTups h vs fs ∧ fs.length = vs.length ∧ ∀ f ∈ fs, ∃ x t, f = Value.int x t
  | [], _ => ⟨[], PySem.W.KatTups.nil, rfl, fun _ hm => by simp at hm⟩
  | v :: vs, hp => by
    obtain ⟨fs, h1, h2, h3⟩ := firsts_ps (vs := vs) fun v' hm => hp v' (List.mem_cons_of_mem _ hm)
    obtain ⟨y, a, o, t, u, n, e, ho, hc, hd⟩ := hp v (List.mem_cons_self ..)
    subst e
    refine ⟨.int _ t :: fs, PySem.W.KatTups.cons ho hc hd rfl h1, by rw [List.length_cons, List.length_cons, h2], fun f hm => ?_⟩
    rcases List.mem_cons.mp hm with rfl | hm
    · exact ⟨_, t, rfl⟩
    · exact h3 f hm
theorem ps_sortable {a : Addr} {vs : List Value} {k : Value → Int} (h0 : 0 < vs.length) (hp : ∀ v ∈ vs, ∃ y, IsPS s.heap v (k v) y) (inj : ∀ v ∈ vs, ∀ u ∈ vs, k v = k u → v = u) (ha : ∀ o, s.heap.get? a = some o → o.cls ≠ .type "tuple") : SortableO prog w A s a vs (ltPS k) := by
  intro h' keep
  have hp' : ∀ v ∈ vs, ∃ y, IsPS h' v (k v) y := fun v hm => by
    obtain ⟨y, p⟩ := hp v hm
    exact ⟨y, p.keeps fun b o e c => keep b o (fun z => by subst z; exact ha o e c) e⟩
  obtain ⟨fs, h1, h2, h3⟩ := firsts_ps hp'
  refine ⟨tuples' true, fun Q E hq => ?_, ps_cmp (s := { s with heap := h' }) hp' inj⟩
  refine PySem.W.kat_kind (T := .type "int") h1 (by omega) (fun f hm => ?_) (by rfl) ?_
  · obtain ⟨x, t, rfl⟩ := h3 f hm
    exact PySem.W.Looks.now
  · have e : (Value.type "int" != Value.type "tuple") = true := by first | decide +kernel | rfl | decide
    rw [e]
    exact hq
end
def rSortedPS (K : PySem.W.Frag) : List V → Hp → VK → Prop := fun vs H Q => ∃ (a : Addr) (xs : List V) (k : V → Int), vs = [V.ref a] ∧ SqL K H a xs ∧ (∀ x ∈ xs, ∃ t y, x = V.ref t ∧ H t = some (.tup [.int (k x), .str y])) ∧ (xs.map k).Nodup ∧
  ∀ ys p, ys.Perm xs → (ys.map k).Pairwise (· ≤ ·) → H p = none → Q (.ref p) (upd H p (.lst ys))
theorem inj_of_nodup {α : Type} {f : α → Int} : ∀ {l : List α}, (l.map f).Nodup → ∀ v ∈ l, ∀ u ∈ l, f v = f u → v = u
  | [], _, v, h, _, _, _ => by cases h
  | a :: l, hn, v, hv, u, hu, e => by
    rw [List.map_cons, List.nodup_cons] at hn
    rcases List.mem_cons.mp hv with ev | hv'
    · rcases List.mem_cons.mp hu with eu | hu'
      · rw [ev, eu]
      · exact absurd (List.mem_map.mpr ⟨u, hu', by rw [← ev]; exact e.symm⟩) hn.1
    · rcases List.mem_cons.mp hu with eu | hu'
      · exact absurd (List.mem_map.mpr ⟨v, hv', by rw [← eu]; exact e⟩) hn.1
      · exact inj_of_nodup hn.2 v hv' u hu' e
section
variable {X : Cx}
theorem cr_sortedPS : CallR X (.builtin "sorted") (rSortedPS X.K) := by
  intro pins s σ H vs us Q I r h
  obtain ⟨a, xs, k, rfl, hs, hx, hnd, q⟩ := h
  obtain ⟨its, rv, hl, hz⟩ := I.list hs
  rw [Vals.ref1 r]
  obtain ⟨e1, e2⟩ := refs_back rv fun x m => by
    obtain ⟨t, _, e, _⟩ := hx x m
    exact ⟨t, e⟩
  have hp : ∀ v ∈ its, ∃ y, IsPS s.heap v (k (backV v)) y := fun v hv => by
    obtain ⟨t, rfl⟩ := e2 v hv
    have hm : V.ref t ∈ xs := by rw [e1]; exact List.mem_map.mpr ⟨_, hv, rfl⟩
    obtain ⟨t', y, e, ht⟩ := hx _ hm
    cases e
    obtain ⟨_, its2, r2, o, ho, hc, n, hd⟩ := I.hok _ _ ht
    obtain ⟨u1, u2, rfl, ri, rj⟩ := vals2 r2
    obtain ⟨t1, rfl⟩ := ri
    obtain ⟨t2, rfl⟩ := rj
    exact ⟨y, t, o, t1, t2, n, rfl, ho, hc, hd⟩
  have hinj : ∀ v ∈ its, ∀ u ∈ its, k (backV v) = k (backV u) → v = u := by
    refine inj_of_nodup (f := fun v => k (backV v)) ?_
    rw [e1, List.map_map] at hnd
    exact hnd
  refine SrtO.sorted_ord (swo_ps fun v => k (backV v)) hl.isList (by rw [← rv.length]; exact hz) (fun h2 h₁ a' ha' kk => ?_) fun out h1 h2 => ?_
  · refine ps_sortable (s := { s with heap := h₁ }) (by omega) (fun v hm => ?_) hinj fun o e => ?_
    · obtain ⟨y, p⟩ := hp v hm
      exact ⟨y, p.keeps fun b o e _ => (kk b o e).2⟩
    · have e' : some o = some (seqObj "list" its.toArray 0) := e.symm.trans ha'
      cases e'
      intro c
      exact absurd (Value.type.inj c) (by decide)
  · have hperm := h2.perm
    have h3 : ∀ u ∈ out, ∃ a, u = Value.ref a := fun u hu => e2 u (hperm.mem_iff.mp hu)
    obtain ⟨ep, he'⟩ := PyProof.Rows.sortedAll_at s.heap its out.toArray
    refine ⟨.ref _, upd H (s.heap.objs.size + 1) (.lst (out.map backV)), I.laid (t' := s.toks) (fun _ _ => PyProof.Rows.sortedAll_old) (Nat.le_succ _) ⟨?_, out, ep, vals_back h3, he'⟩, rfl, q _ _ ?_ ?_ (I.hok.fresh (Nat.le_succ _))⟩
    · rw [List.length_map, hperm.length_eq, ← rv.length]; exact hz
    · rw [e1]; exact hperm.map backV
    · rw [List.map_map]
      exact List.pairwise_map.mpr (h1.imp fun {x y} h => Int.not_lt.mp (of_decide_eq_false (p := k (backV y) < k (backV x)) h))
end
end L2
namespace Mi
open PySem PySem.Spec PyProof.Rows L2
theorem insP_perm (x : Int × Str) : ∀ l : List (Int × Str), (insP x l).Perm (x :: l)
  | [] => .refl _
  | y :: r => by
    rw [insP]
    split
    · exact .refl _
    · exact ((insP_perm x r).cons y).trans (.swap _ _ _)
theorem sortP_perm : ∀ l : List (Int × Str), (sortP l).Perm l
  | [] => .refl _
  | x :: r => (insP_perm x _).trans ((sortP_perm r).cons x)
theorem insP_pw (x : Int × Str) : ∀ l : List (Int × Str), l.Pairwise (fun a b => a.1 ≤ b.1) → (insP x l).Pairwise (fun a b => a.1 ≤ b.1)
  | [], _ => by simp [insP]
  | y :: r, h => by
    rw [List.pairwise_cons] at h
    rw [insP]
    split
    · rename_i hlt
      refine List.pairwise_cons.mpr ⟨fun z hz => ?_, List.pairwise_cons.mpr h⟩
      rcases List.mem_cons.mp hz with rfl | hz
      · omega
      · have := h.1 z hz
        omega
    · rename_i hge
      refine List.pairwise_cons.mpr ⟨fun z hz => ?_, insP_pw x r h.2⟩
      rcases List.mem_cons.mp ((insP_perm x r).mem_iff.mp hz) with rfl | hz
      · omega
      · exact h.1 z hz
theorem sortP_pw : ∀ l : List (Int × Str), (sortP l).Pairwise (fun a b => a.1 ≤ b.1)
  | [] => .nil
  | x :: r => insP_pw x _ (sortP_pw r)
theorem prsOf_map : ∀ {l : List Val} {ps : List (Int × Str)}, prsOf l = some ps → l = ps.map prV := by
  intro l
  induction l with
  | nil => intro ps h; cases h; rfl
  | cons v r ih =>
    intro ps h
    unfold prsOf at h
    split at h
    · rename_i e; cases e
    · rename_i k s r' e
      cases e
      obtain ⟨l2, h2, rfl⟩ := Option.map_eq_some_iff.mp h
      rw [ih h2]
      rfl
    · cases h
def kH (H : Hp) : V → Int
  | .ref t => match H t with
    | some (.tup [.int i, .str _]) => i
    | _ => 0
  | _ => 0
def pH (H : Hp) : V → Int × Str
  | .ref t => match H t with
    | some (.tup [.int i, .str s]) => (i, s)
    | _ => (0, ⟨#[]⟩)
  | _ => (0, ⟨#[]⟩)
theorem perm_lt_eq {α : Type} {f : α → Int} : ∀ {l l' : List α}, l.Perm l' → l.Pairwise (fun a b => f a < f b) → l'.Pairwise (fun a b => f a < f b) → l = l'
  | [], l', h, _, _ => (List.nil_perm.mp h).symm
  | a :: t, [], h, _, _ => absurd (List.perm_nil.mp h) (by simp)
  | a :: t, b :: t', h, h1, h2 => by
    have e : a = b := by
      have ha : a ∈ b :: t' := h.mem_iff.mp List.mem_cons_self
      have hb : b ∈ a :: t := h.mem_iff.mpr List.mem_cons_self
      rcases List.mem_cons.mp ha with e | ha
      · exact e
      · rcases List.mem_cons.mp hb with e | hb
        · exact e.symm
        · have x := (List.pairwise_cons.mp h1).1 b hb
          have y := (List.pairwise_cons.mp h2).1 a ha
          omega
    subst e
    rw [perm_lt_eq (h.cons_inv) (List.pairwise_cons.mp h1).2 (List.pairwise_cons.mp h2).2]
theorem pw_lt {α : Type} {f : α → Int} : ∀ {l : List α}, l.Pairwise (fun a b => f a ≤ f b) → (l.map f).Nodup → l.Pairwise (fun a b => f a < f b)
  | [], _, _ => .nil
  | a :: t, h, hn => by
    rw [List.map_cons, List.nodup_cons] at hn
    rw [List.pairwise_cons] at h
    refine List.pairwise_cons.mpr ⟨fun b hb => ?_, pw_lt h.2 hn.2⟩
    have := h.1 b hb
    have : f a ≠ f b := fun e => hn.1 (List.mem_map.mpr ⟨b, hb, e.symm⟩)
    omega
theorem prs_list {K : Fr} {D : Addr → Prop} {H : Hp} : ∀ {ps : List (Int × Str)} {xs : List V}, DenL K D H (ps.map prV) xs → xs.map (pH H) = ps ∧ ∀ x ∈ xs, (∃ t y, x = .ref t ∧ H t = some (.tup [.int (kH H x), .str y])) ∧ kH H x = (pH H x).1 ∧ Den K D H (prV (pH H x)) x
  | [], xs, h => by rw [show xs = [] from h]; exact ⟨rfl, fun x hx => by cases hx⟩
  | q :: ps, xs, h => by
    obtain ⟨x, t, rfl, d, h2⟩ := h
    obtain ⟨l1, l2⟩ := prs_list h2
    have d0 := d
    obtain ⟨a, xs2, e, ⟨n, r⟩, dl⟩ := d
    subst e
    obtain ⟨y1, t1, rfl, d1, y2, t2, rfl, d2, rfl⟩ := dl
    rw [show y1 = V.int q.1 from d1, show y2 = V.str q.2 from d2.1] at r
    have e1 : pH H (.ref a) = q := by simp only [pH, r]
    have e2 : kH H (.ref a) = q.1 := by simp only [kH, r]
    refine ⟨by rw [List.map_cons, e1, l1], fun y hy => ?_⟩
    rcases List.mem_cons.mp hy with rfl | hy
    · rw [e1, e2]
      exact ⟨⟨a, q.2, rfl, r⟩, rfl, d0⟩
    · exact l2 y hy
theorem den_of_prs {K : Fr} {D : Addr → Prop} {H : Hp} : ∀ {ys : List V}, (∀ x ∈ ys, Den K D H (prV (pH H x)) x) → DenL K D H ((ys.map (pH H)).map prV) ys
  | [], _ => rfl
  | y :: ys, h => ⟨y, ys, rfl, h y List.mem_cons_self, den_of_prs fun x hx => h x (List.mem_cons_of_mem _ hx)⟩
section
variable {X : Cx} {Φ : Ph} {W : WX} {a : Expr}
theorem sf_sortPr (hΦ : MonoP Φ) {x : Str} {p pos : Pos} {e : E} (hg : Gl X x) (hm : X.mg x = none) (hv : bootBuiltins x = some (.builtin "sorted")) (hn : x ≠ "__name__") (hdb : (x == ("__debug__" : Str)) = false) (ha : SE X Φ W a e)
    (he : starEach (a :: []) X.env = (false, eval a X.env) :: starEach [] X.env := by rfl) (hpl : (backTo pos (starEach [] X.env)).any (·.1) = false := by rfl) : SF X Φ W (.Call (.Name x p) [a] [] pos) (.bi .sortPr (.cons e .nil)) :=
  sf_biG hΦ (pe_callB cr_sortedPS hg hm hv (sa_cons hΦ ha sa_nil he) hn hdb he hpl) fun {Xc μ H vs xs res Q} m d hr f => by
    simp only [biV, sortPrF] at hr
    split at hr
    · rename_i v
      obtain ⟨x, rfl, dx⟩ := d.one
      split at hr
      · rename_i l hl
        obtain ⟨ps, hps, h3⟩ := Option.bind_eq_some_iff.mp hr
        split at h3
        · rename_i hnd
          cases h3
          obtain ⟨a, ys, rfl, q1, l1⟩ := m.lst dx hl
          rw [prsOf_map hps] at l1
          obtain ⟨m1, m2⟩ := prs_list l1
          have hk : ys.map (kH H) = ps.map Prod.fst := by
            rw [← m1, List.map_map]
            exact List.map_congr_left fun x hx => (m2 x hx).2.1
          refine ⟨a, ys, kH H, rfl, q1, fun x hx => (m2 x hx).1, by rw [hk]; exact hnd, fun zs p hp hs hn => f p _ hn ?_⟩
          have hmem : ∀ x ∈ zs, x ∈ ys := fun x hx => hp.mem_iff.mp hx
          have e1 : zs.map (pH H) = sortP ps := by
            refine perm_lt_eq (f := Prod.fst) ?_ (pw_lt ?_ ?_) (pw_lt (sortP_pw ps) ?_)
            · refine (hp.map (pH H)).trans ?_
              rw [m1]
              exact (sortP_perm ps).symm
            · have h1 := List.pairwise_map.mp hs
              refine List.pairwise_map.mpr (h1.imp_of_mem fun {x y} hx hy h => ?_)
              rw [← (m2 x (hmem x hx)).2.1, ← (m2 y (hmem y hy)).2.1]
              exact h
            · have h1 := ((hp.map (pH H)).map Prod.fst).nodup_iff.mpr (by rw [m1]; exact hnd)
              exact h1
            · exact ((sortP_perm ps).map Prod.fst).nodup_iff.mpr hnd
          exact ⟨zs, rfl, by rw [← e1]; exact den_of_prs fun x hx => (m2 x (hmem x hx)).2.2⟩
        · cases h3
      · cases hr
    · cases hr
theorem keysP_den {K : Fr} {D : Addr → Prop} {H : Hp} : ∀ {l : List Val} {ks : List Int} {xs : List V}, keysP l = some ks → DenL K D H l xs → ∃ (ps : List Addr) (kvs : List (Key × V)), xs = ps.map V.ref ∧ Paired (fun p kv => SqT K H p [kV kv.1, kv.2]) ps kvs ∧ DenP K D H l kvs ∧ kvs.map (·.1) = ks.map Sum.inl := by
  intro l
  induction l with
  | nil => intro ks xs h d; cases h; exact ⟨[], [], by rw [show xs = [] from d]; rfl, .nil, rfl, rfl⟩
  | cons v r ih =>
    intro ks xs h d
    unfold keysP at h
    split at h
    · rename_i e; cases e
    · rename_i k w r' e
      cases e
      obtain ⟨ks2, h2, rfl⟩ := Option.map_eq_some_iff.mp h
      obtain ⟨x, t, rfl, d1, d2⟩ := d
      obtain ⟨ps, kvs, rfl, hp, hd, hk⟩ := ih h2 d2
      obtain ⟨a, ys, rfl, ⟨n, hr⟩, dl⟩ := d1
      obtain ⟨y1, t1, rfl, e1, y2, t2, rfl, e2, rfl⟩ := dl
      obtain rfl : y1 = V.int k := e1
      exact ⟨a :: ps, (.inl k, y2) :: kvs, rfl, .cons (.inl (.inl hr)) hp, ⟨.inl k, y2, kvs, rfl, rfl, e2, hd⟩, by rw [List.map_cons, List.map_cons, hk]⟩
    · cases h
theorem sf_dictP (hΦ : MonoP Φ) {x : Str} {p pos : Pos} {e : E} (hg : Gl X x) (hm : X.mg x = none) (hv : bootBuiltins x = some (.type "dict")) (hn : x ≠ "__name__") (hdb : (x == ("__debug__" : Str)) = false) (ha : SE X Φ W a e) (hc : X.calm = true := by rfl)
    (he : starEach (a :: []) X.env = (false, eval a X.env) :: starEach [] X.env := by rfl) (hpl : (backTo pos (starEach [] X.env)).any (·.1) = false := by rfl) : SF X Φ W (.Call (.Name x p) [a] [] pos) (.bi .dictP (.cons e .nil)) :=
  sf_biG hΦ (pe_callTy (call_dictP hc) hg hm hv (sa_cons hΦ ha sa_nil he) hn hdb he hpl) fun {Xc μ H vs xs res Q} m d hr f => by
    simp only [biV, dictPF] at hr
    split at hr
    · rename_i v
      obtain ⟨x, rfl, dx⟩ := d.one
      split at hr
      · rename_i l hl
        obtain ⟨ks, hks, h3⟩ := Option.bind_eq_some_iff.mp hr
        split at h3
        · rename_i hnd
          cases h3
          obtain ⟨a, ys, rfl, q1, l1⟩ := m.lst dx hl
          obtain ⟨ps, kvs, rfl, hp, hd, hk⟩ := keysP_den hks l1
          refine ⟨a, ps, kvs, rfl, q1, hp, fun l hl => f l _ hl ?_⟩
          have hn2 : ((kvs ++ []).map (fun x : Key × V => x.1)).Nodup := by
            rw [List.append_nil, hk]
            exact List.pairwise_map.mpr (hnd.imp fun h e => h (by injection e))
          have e0 : mergeK [] kvs = kvs := by
            have := mergeK_new kvs [] (by simpa using hn2)
            simpa using this
          rw [e0]
          exact ⟨kvs, rfl, hd⟩
        · cases h3
      · cases hr
    · cases hr
end
end Mi
/-! Ml: how runs of the language are gone through. -/
namespace Mi
open PySem (Str)
theorem toNat_inj {a b : Char} (h : a.toNat = b.toNat) : a = b := Char.ext (UInt32.toNat_inj.mp h)
theorem map_toNat_inj : ∀ {l r : List Char}, l.map Char.toNat = r.map Char.toNat → l = r
  | [], [], _ => rfl
  | [], _ :: _, h => by cases h
  | _ :: _, [], h => by cases h
  | a :: l, b :: r, h => by
    rw [List.map_cons, List.map_cons] at h
    injection h with h1 h2
    rw [toNat_inj h1, map_toNat_inj h2]
@[simp] theorem os_inj {a b : String} : Str.ofString a = Str.ofString b ↔ a = b := by
  refine ⟨fun h => ?_, fun h => by rw [h]⟩
  rw [PySem.Str.ofString_eq_toList, PySem.Str.ofString_eq_toList] at h
  injection h with h
  injection h with h
  exact String.toList_inj.mp (map_toNat_inj h)
@[simp] theorem os_beq {a b : String} : (Str.ofString a == Str.ofString b) = (a == b) := by
  rw [Bool.eq_iff_iff]
  simp
theorem os_len (a : String) : (Str.ofString a).length = a.length := by
  rw [PySem.Str.ofString_eq_toList]
  show (List.map Char.toNat a.toList).toArray.size = a.length
  rw [List.size_toArray, List.length_map]
  rfl
theorem big_eq : big = 16777216 := Nat.eq_of_beq_eq_true (by decide)
/-! ### branches -/
def br (o : Option Bool) (A B : Prop) : Prop := match o with
  | some true => A
  | some false => B
  | none => False
def brV {α : Type} (o : Option α) (Q : α → Prop) : Prop := match o with
  | some v => Q v
  | none => False
@[simp] theorem br_some (b : Bool) (A B : Prop) : br (some b) A B ↔ (b = true → A) ∧ (b = false → B) := by cases b <;> simp [br]
@[simp] theorem brV_some {α : Type} (v : α) (Q : α → Prop) : brV (some v) Q ↔ Q v := Iff.rfl
@[simp] theorem brV_none {α : Type} (Q : α → Prop) : brV none Q ↔ False := Iff.rfl
@[simp] theorem brV_ifn {α : Type} {c : Prop} {_ : Decidable c} {v : α} {Q : α → Prop} : brV (if c then none else some v) Q ↔ ¬ c ∧ Q v := by
  by_cases h : c <;> simp [h]
theorem brV_ite {α : Type} {c : Prop} [Decidable c] {v : α} {Q : α → Prop} (h : c) (q : Q v) : brV (if c then some v else none) Q := by rw [if_pos h]; exact q
@[simp] theorem brV_if {α : Type} {c : Prop} {_ : Decidable c} {v : α} {Q : α → Prop} : brV (if c then some v else none) Q ↔ c ∧ Q v := by
  by_cases h : c <;> simp [h]

def exE (x : Val) (Q : String → List Val → Prop) : Prop := match x with
  | .exn c l => Q c l
  | _ => False
@[simp] theorem exE_exn {c : String} {l : List Val} {Q : String → List Val → Prop} : exE (.exn c l) Q ↔ Q c l := Iff.rfl
section
variable {Φ : Ph} {env : Env} {μ : Mu} {Q : Val → Mu → Prop} {Qs : List Val → Mu → Prop} {X : XQ} {D : En}
/-! ### expressions -/
theorem ie {a : E} {Q Q' : Val → Mu → Prop} (h : ∀ v μ, Q v μ ↔ Q' v μ) : wpE Φ a env μ Q X ↔ wpE Φ a env μ Q' X := by
  have : Q = Q' := by funext v m; exact propext (h v m)
  rw [this]
theorem is' {l : Es} {Q Q' : List Val → Mu → Prop} (h : ∀ v μ, Q v μ ↔ Q' v μ) : wpEs Φ l env μ Q X ↔ wpEs Φ l env μ Q' X := by
  have : Q = Q' := by funext v m; exact propext (h v m)
  rw [this]
theorem e_v {i : Nat} : wpE Φ (.v i) env μ Q X ↔ brV (env[i]?) fun o => brV o fun v => Q v μ := by
  rw [wpE]
  cases h : env[i]? with
  | none => exact Iff.rfl
  | some o => cases o <;> exact Iff.rfl
theorem e_c {v : Val} : wpE Φ (.c v) env μ Q X ↔ Q v μ := Iff.rfl
theorem e_tup {l : Es} : wpE Φ (.tup l) env μ Q X ↔ wpEs Φ l env μ (fun vs μ' => Q (.tup vs) μ') X := Iff.rfl
theorem e_lst {l : Es} : wpE Φ (.lst l) env μ Q X ↔ wpEs Φ l env μ (fun vs μ' => Q (.lst vs) μ') X := Iff.rfl
theorem e_dct {l : Es} : wpE Φ (.dct l) env μ Q X ↔ wpEs Φ l env μ (fun vs μ' => Q (.dct vs) μ') X := Iff.rfl
theorem s_nil : wpEs Φ .nil env μ Qs X ↔ Qs [] μ := Iff.rfl
theorem s_cons {a : E} {r : Es} : wpEs Φ (.cons a r) env μ Qs X ↔ wpE Φ a env μ (fun v μ1 => wpEs Φ r env μ1 (fun vs μ2 => Qs (v :: vs) μ2) X) X := Iff.rfl
theorem e_ix {a b : E} : wpE Φ (.ix a b) env μ Q X ↔ wpE Φ a env μ (fun v μ1 => wpE Φ b env μ1 (fun w μ2 => brV (ixV μ2 v w) fun r => Q r μ2) X) X := by
  rw [wpE]; exact ie fun v μ1 => ie fun w μ2 => by cases ixV μ2 v w <;> exact Iff.rfl
theorem e_sl {a : E} {lo hi : Es} : wpE Φ (.sl a lo hi) env μ Q X ↔ wpE Φ a env μ (fun v μ1 => wpEs Φ lo env μ1 (fun l μ2 => brV (optInt l) fun l' => wpEs Φ hi env μ2 (fun h μ3 => brV (optInt h) fun h' => brV ((content μ3 v).bind fun c => slC c l' h') fun r => Q r μ3) X) X) X := by
  rw [wpE]
  refine ie fun v μ1 => is' fun l μ2 => ?_
  cases optInt l with
  | none => exact Iff.rfl
  | some l' =>
    refine is' fun h μ3 => ?_
    cases optInt h with
    | none => exact Iff.rfl
    | some h' =>
      dsimp only [brV]
      cases ((content μ3 v).bind fun c => slC c l' h') <;> exact Iff.rfl
theorem e_bin {o : Op} {a b : E} : wpE Φ (.bin o a b) env μ Q X ↔ wpE Φ a env μ (fun v μ1 => wpE Φ b env μ1 (fun w μ2 => brV (binV μ2 o v w) fun r => Q r μ2) X) X := by
  rw [wpE]; exact ie fun v μ1 => ie fun w μ2 => by cases binV μ2 o v w <;> exact Iff.rfl
theorem e_cmp {o : Cm} {a b : E} : wpE Φ (.cmp o a b) env μ Q X ↔ wpE Φ a env μ (fun v μ1 => wpE Φ b env μ1 (fun w μ2 => brV (cmpV o v w) fun r => Q (.bl r) μ2) X) X := by
  rw [wpE]; exact ie fun v μ1 => ie fun w μ2 => by cases cmpV o v w <;> exact Iff.rfl
theorem e_eq {a b : E} : wpE Φ (.eq .eq a b) env μ Q X ↔ wpE Φ a env μ (fun v μ1 => wpE Φ b env μ1 (fun w μ2 => brV (eqV μ2 v w) fun r => Q (.bl r) μ2) X) X := by
  rw [wpE]; exact ie fun v μ1 => ie fun w μ2 => by cases eqV μ2 v w <;> exact Iff.rfl
theorem e_ne {a b : E} : wpE Φ (.eq .ne a b) env μ Q X ↔ wpE Φ a env μ (fun v μ1 => wpE Φ b env μ1 (fun w μ2 => brV (eqV μ2 v w) fun r => Q (.bl !r) μ2) X) X := by
  rw [wpE]; exact ie fun v μ1 => ie fun w μ2 => by cases eqV μ2 v w <;> exact Iff.rfl
theorem e_in {a b : E} : wpE Φ (.isin .isin a b) env μ Q X ↔ wpE Φ a env μ (fun v μ1 => wpE Φ b env μ1 (fun w μ2 => brV (inV μ2 v w) fun r => Q (.bl r) μ2) X) X := by
  rw [wpE]; exact ie fun v μ1 => ie fun w μ2 => by cases inV μ2 v w <;> exact Iff.rfl
theorem e_nin {a b : E} : wpE Φ (.isin .notin a b) env μ Q X ↔ wpE Φ a env μ (fun v μ1 => wpE Φ b env μ1 (fun w μ2 => brV (inV μ2 v w) fun r => Q (.bl !r) μ2) X) X := by
  rw [wpE]; exact ie fun v μ1 => ie fun w μ2 => by cases inV μ2 v w <;> exact Iff.rfl
def isNo : Val → Bool
  | .non => true
  | _ => false
@[simp] theorem isNo_non : isNo .non = true := rfl
@[simp] theorem isNo_int {i : Int} : isNo (.int i) = false := rfl
@[simp] theorem isNo_tup {l : List Val} : isNo (.tup l) = false := rfl
@[simp] theorem isNo_lst {l : List Val} : isNo (.lst l) = false := rfl
@[simp] theorem isNo_str {s : Str} : isNo (.str s) = false := rfl
@[simp] theorem isNo_bl {b : Bool} : isNo (.bl b) = false := rfl
theorem e_isN {a : E} : wpE Φ (.isN false a) env μ Q X ↔ wpE Φ a env μ (fun v μ' => Q (.bl (isNo v)) μ') X := by
  rw [wpE]; exact ie fun v μ' => by cases v <;> exact Iff.rfl
theorem e_notN {a : E} : wpE Φ (.isN true a) env μ Q X ↔ wpE Φ a env μ (fun v μ' => Q (.bl !(isNo v)) μ') X := by
  rw [wpE]; exact ie fun v μ' => by cases v <;> exact Iff.rfl
theorem e_chain {o p : Cm} {a b c : E} : wpE Φ (.chain o p a b c) env μ Q X ↔ wpE Φ a env μ (fun v μ1 => wpE Φ b env μ1 (fun w μ2 => br (cmpV o v w) (wpE Φ c env μ2 (fun u μ3 => brV (cmpV p w u) fun r => Q (.bl r) μ3) X) (Q (.bl false) μ2)) X) X := by
  rw [wpE]
  refine ie fun v μ1 => ie fun w μ2 => ?_
  cases h : cmpV o v w with
  | none => exact Iff.rfl
  | some b =>
    cases b with
    | false => exact Iff.rfl
    | true => exact ie fun u μ3 => by cases cmpV p w u <;> exact Iff.rfl
def intOf : Val → Option Int
  | .int i => some i
  | _ => none
@[simp] theorem intOf_int {i : Int} : intOf (.int i) = some i := rfl
theorem e_neg {a : E} : wpE Φ (.neg a) env μ Q X ↔ wpE Φ a env μ (fun v μ' => brV (intOf v) fun i => Q (.int (-i)) μ') X := by
  rw [wpE]; exact ie fun v μ' => by cases v <;> exact Iff.rfl
theorem e_not {a : E} : wpE Φ (.not a) env μ Q X ↔ wpE Φ a env μ (fun v μ' => brV (truthV μ' v) fun b => Q (.bl !b) μ') X := by
  rw [wpE]; exact ie fun v μ' => by cases truthV μ' v <;> exact Iff.rfl
theorem e_and {a b : E} : wpE Φ (.and a b) env μ Q X ↔ wpE Φ a env μ (fun v μ' => br (truthV μ' v) (wpE Φ b env μ' Q X) (Q v μ')) X := by
  rw [wpE]; exact ie fun v μ' => by
    cases truthV μ' v with
    | none => exact Iff.rfl
    | some b => cases b <;> exact Iff.rfl
theorem e_or {a b : E} : wpE Φ (.or a b) env μ Q X ↔ wpE Φ a env μ (fun v μ' => br (truthV μ' v) (Q v μ') (wpE Φ b env μ' Q X)) X := by
  rw [wpE]; exact ie fun v μ' => by
    cases truthV μ' v with
    | none => exact Iff.rfl
    | some b => cases b <;> exact Iff.rfl
theorem e_ite {c a b : E} : wpE Φ (.ite c a b) env μ Q X ↔ wpE Φ c env μ (fun v μ' => br (truthV μ' v) (wpE Φ a env μ' Q X) (wpE Φ b env μ' Q X)) X := by
  rw [wpE]; exact ie fun v μ' => by
    cases truthV μ' v with
    | none => exact Iff.rfl
    | some b => cases b <;> exact Iff.rfl
theorem e_call {f : String} {m : Md} {l : Es} : wpE Φ (.call f m l) env μ Q X ↔ wpEs Φ l env μ (fun vs μ' => Φ f m vs μ' Q X) X := Iff.rfl
theorem e_bi {b : Bi} {l : Es} : wpE Φ (.bi b l) env μ Q X ↔ wpEs Φ l env μ (fun vs μ' => brV (biV μ' b vs) fun r => Q r μ') X := by
  rw [wpE]; exact is' fun v μ' => by cases biV μ' b v <;> exact Iff.rfl
theorem e_me {m : Me} {o : E} {l : Es} : wpE Φ (.me m o l) env μ Q X ↔ wpE Φ o env μ (fun v μ1 => meOk μ1 m v = true ∧ wpEs Φ l env μ1 (fun vs μ2 => brV (meV μ2 m v vs) fun p => Q p.1 p.2) X) X := by
  rw [wpE]; exact ie fun v μ1 => and_congr Iff.rfl (is' fun vs μ2 => by cases meV μ2 m v vs <;> exact Iff.rfl)
theorem e_isT {a : E} {t : Ty} : wpE Φ (.isT a t) env μ Q X ↔ wpE Φ a env μ (fun v μ' => brV (tyV μ' t v) fun b => Q (.bl b) μ') X := by
  rw [wpE]; exact ie fun v μ' => by cases tyV μ' t v <;> exact Iff.rfl
theorem e_new {a : E} : wpE Φ (.new a) env μ Q X ↔ wpE Φ a env μ (fun v μ' => isCont v = true ∧ ∀ p, μ' p = none → Q (.ref p) (μ'.set p v)) X := by
  rw [wpE]

theorem e_attr {a : E} {f : String} : wpE Φ (.attr a f) env μ Q X ↔ wpE Φ a env μ (fun v μ' => brV (attrV μ' v f) fun r => Q r μ') X := by
  rw [wpE]; exact ie fun v μ' => by cases attrV μ' v f <;> exact Iff.rfl
theorem e_mth {c f : String} {o : E} {m : Md} {l : Es} : wpE Φ (.mth c o f m l) env μ Q X ↔ wpE Φ o env μ (fun v μ1 => isIns μ1 v c = true ∧ wpEs Φ l env μ1 (fun vs μ2 => Φ f m (v :: vs) μ2 Q X) X) X := by
  rw [wpE]
theorem e_mk {c f : String} {l : Es} : wpE Φ (.mk c f l) env μ Q X ↔ wpEs Φ l env μ (fun vs μ1 => ∀ p, μ1 p = none → Φ f .keep (.ref p :: vs) (μ1.set p (.ins c [])) (fun r μ2 => isNo r = true ∧ Q (.ref p) μ2) X) X := by
  rw [wpE]
  have : ∀ p : Ad, (fun (r : Val) (μ2 : Mu) => match r with
    | .non => Q (.ref p) μ2
    | _ => False) = fun r μ2 => isNo r = true ∧ Q (.ref p) μ2 := fun p => by
    funext r μ2
    cases r <;> simp [isNo]
  exact is' fun vs μ1 => forall_congr' fun p => forall_congr' fun h => iff_of_eq (congrArg (fun K => Φ.call f .keep (.ref p :: vs) (μ1.set p (.ins c [])) K X) (this p))
@[simp] theorem asg_n {i : Nat} {v : Val} : (Tg.n i).asg v env = some (env.set i (some v)) := rfl
@[simp] theorem asg_t {ts : List Tg} {vs : List Val} : (Tg.t ts).asg (.tup vs) env = if ts.length = vs.length then asgL ts vs env else none := rfl
@[simp] theorem asg_l {ts : List Tg} {vs : List Val} : (Tg.t ts).asg (.lst vs) env = if ts.length = vs.length then asgL ts vs env else none := rfl
@[simp] theorem asgL_nil : asgL [] [] env = some env := rfl
@[simp] theorem asgL_cons {t : Tg} {ts : List Tg} {v : Val} {vs : List Val} : asgL (t :: ts) (v :: vs) env = (t.asg v env).bind fun e => asgL ts vs e := rfl
/-! ### statements -/
theorem w_skip : wpS Φ .skip env μ D ↔ D.nx env μ := Iff.rfl
theorem w_seq {a b : S} : wpS Φ (.seq a b) env μ D ↔ wpS Φ a env μ { D with nx := fun env' μ' => wpS Φ b env' μ' D } := Iff.rfl
theorem w_ex {e : E} : wpS Φ (.ex e) env μ D ↔ wpE Φ e env μ (fun _ μ' => D.nx env μ') fun x μ' => D.ex x env μ' := Iff.rfl
theorem w_asg {i : Nat} {e : E} : wpS Φ (.asg i e) env μ D ↔ wpE Φ e env μ (fun v μ' => D.nx (env.set i (some v)) μ') fun x μ' => D.ex x env μ' := Iff.rfl
theorem w_asgT {t : Tg} {e : E} : wpS Φ (.asgT t e) env μ D ↔ wpE Φ e env μ (fun v μ' => brV (t.asg v env) fun env' => D.nx env' μ') fun x μ' => D.ex x env μ' := by
  rw [wpS]; exact ie fun v μ' => by cases t.asg v env <;> exact Iff.rfl
theorem w_setix {o i e : E} : wpS Φ (.setix o i e) env μ D ↔ wpE Φ e env μ (fun v μ1 => wpE Φ o env μ1 (fun ov μ2 => wpE Φ i env μ2 (fun iv μ3 => brV (setV μ3 ov iv v) fun μ4 => D.nx env μ4) fun x μ' => D.ex x env μ') fun x μ' => D.ex x env μ') fun x μ' => D.ex x env μ' := by
  rw [wpS]; exact ie fun v μ1 => ie fun ov μ2 => ie fun iv μ3 => by cases setV μ3 ov iv v <;> exact Iff.rfl
theorem w_setattr {o e : E} {f : String} : wpS Φ (.setattr o f e) env μ D ↔ wpE Φ e env μ (fun v μ1 => wpE Φ o env μ1 (fun ov μ2 => brV (setAttrV μ2 ov f v) fun μ3 => D.nx env μ3) fun x μ' => D.ex x env μ') fun x μ' => D.ex x env μ' := by
  rw [wpS]; exact ie fun v μ1 => ie fun ov μ2 => by cases setAttrV μ2 ov f v <;> exact Iff.rfl
theorem w_ite {c : E} {a b : S} : wpS Φ (.ite c a b) env μ D ↔ wpE Φ c env μ (fun v μ' => br (truthV μ' v) (wpS Φ a env μ' D) (wpS Φ b env μ' D)) fun x μ' => D.ex x env μ' := by
  rw [wpS]; exact ie fun v μ' => by
    cases truthV μ' v with
    | none => exact Iff.rfl
    | some b => cases b <;> exact Iff.rfl
theorem br_iff {o : Option Bool} {A A' B B' : Prop} (h1 : o = some true → (A ↔ A')) (h2 : o = some false → (B ↔ B')) : br o A B ↔ br o A' B' := by
  cases o with
  | none => exact Iff.rfl
  | some b =>
    cases b with
    | false => exact h2 rfl
    | true => exact h1 rfl
@[simp 2000] theorem w_ite_or {a b : E} {s t : S} : wpS Φ (.ite (.or a b) s t) env μ D ↔ wpS Φ (.ite a s (.ite b s t)) env μ D := by
  rw [w_ite, w_ite, e_or]
  refine ie fun v μ' => br_iff (fun h => ?_) (fun _ => ?_)
  · rw [h]; exact Iff.rfl
  · rw [w_ite]
@[simp 2000] theorem w_ite_and {a b : E} {s t : S} : wpS Φ (.ite (.and a b) s t) env μ D ↔ wpS Φ (.ite a (.ite b s t) t) env μ D := by
  rw [w_ite, w_ite, e_and]
  refine ie fun v μ' => br_iff (fun _ => ?_) (fun h => ?_)
  · rw [w_ite]
  · rw [h]; exact Iff.rfl
@[simp 2000] theorem w_ite_not {a : E} {s t : S} : wpS Φ (.ite (.not a) s t) env μ D ↔ wpS Φ (.ite a t s) env μ D := by
  rw [w_ite, w_ite, e_not]
  refine ie fun v μ' => ?_
  cases truthV μ' v with
  | none => exact Iff.rfl
  | some b => cases b <;> exact Iff.rfl
theorem w_ret {e : E} : wpS Φ (.ret e) env μ D ↔ wpE Φ e env μ (fun v μ' => D.rt v μ') fun x μ' => D.ex x env μ' := Iff.rfl
theorem w_raise {c : String} : wpS Φ (.raise c) env μ D ↔ D.ex (.exn c []) env μ := Iff.rfl
theorem e_isC {a : E} {c : String} : wpE Φ (.isC a c) env μ Q X ↔ wpE Φ a env μ (fun v μ' => pinQ Φ.pin v c fun b => Q (.bl b) μ') X := Iff.rfl
@[simp] theorem pin_at {c d : String} {a : Ad} {Q : Bool → Prop} : pinQ (Φ.at c a).pin (.ref a) d Q ↔ Q (isSub c d) := ⟨fun h => h.2, fun h => ⟨rfl, h⟩⟩
theorem call_ok {P : Prog} {n : Nat} {f : String} {d : Fn} {m : Md} {args : List Val} (h : P f = some d) (hl : args.length = d.ps)
    (q : wpS (phi P n) d.body (args.map some ++ List.replicate (d.slots - d.ps) none) μ
        { nx := fun _ μ' => finM m μ Q .non μ', rt := fun v μ' => finM m μ Q v μ', ex := fun x _ μ' => X (reso μ μ' 4 x) (match m with | .keep => μ' | _ => μ'.cut μ) }) : phi P (n + 1) f m args μ Q X := by
  rw [phi_succ, h]
  exact ⟨hl, q⟩
end

/-! ### what may be changed -/
section
variable {μ μ' : Mu} {p a : Ad} {v w : Val}
theorem Mu.ext {μ μ' : Mu} (h : ∀ a, μ a = μ' a) : μ = μ' := funext h
@[simp] theorem mset_same : (μ.set p v) p = some v := if_pos rfl
theorem mset_ne (h : a ≠ p) : (μ.set p v) a = μ a := if_neg h
@[simp] theorem mset_set : (μ.set p v).set p w = μ.set p w := by
  funext b
  unfold Mu.set
  by_cases h : b = p <;> simp [h]
theorem cut_self : μ.cut μ = μ := by
  funext b
  unfold Mu.cut
  cases h : μ b <;> simp [h]
theorem cut_new (h : μ p = none) : (μ'.set p v).cut μ = μ'.cut μ := by
  funext b
  unfold Mu.cut Mu.set
  by_cases h1 : b = p
  · subst h1; simp [h]
  · simp [h1]
/-! data by value -/
mutual
def nr : Val → Bool
  | .ref _ => false
  | .tup l => nrL l
  | .lst l => nrL l
  | .dct l => nrL l
  | .exn _ l => nrL l
  | .ins _ l => nrL l
  | _ => true
def nrL : List Val → Bool
  | [] => true
  | v :: r => nr v && nrL r
end
mutual
theorem mapRef_nr {f : Ad → Option Val} : ∀ (v : Val), nr v = true → mapRef f v = v
  | .non, _ => rfl
  | .bl _, _ => rfl
  | .int _, _ => rfl
  | .str _, _ => rfl
  | .ref _, h => by cases h
  | .tup l, h => by rw [mapRef, mapRefL_nr l h]
  | .lst l, h => by rw [mapRef, mapRefL_nr l h]
  | .dct l, h => by rw [mapRef, mapRefL_nr l h]
  | .exn _ l, h => by rw [mapRef, mapRefL_nr l h]
  | .ins _ l, h => by rw [mapRef, mapRefL_nr l h]
  | .dtt _, _ => rfl
theorem mapRefL_nr {f : Ad → Option Val} : ∀ (l : List Val), nrL l = true → mapRefL f l = l
  | [], _ => rfl
  | v :: r, h => by
    rw [nrL, Bool.and_eq_true] at h
    rw [mapRefL, mapRef_nr v h.1, mapRefL_nr r h.2]
end
theorem reso_nr {n : Nat} (h : nr v = true) : reso μ μ' n v = v := mapRef_nr v h
mutual
theorem mapRef_no : ∀ (v : Val), mapRef (fun _ => none) v = v
  | .non => rfl
  | .bl _ => rfl
  | .int _ => rfl
  | .str _ => rfl
  | .ref _ => rfl
  | .tup l => by rw [mapRef, mapRefL_no l]
  | .lst l => by rw [mapRef, mapRefL_no l]
  | .dct l => by rw [mapRef, mapRefL_no l]
  | .exn _ l => by rw [mapRef, mapRefL_no l]
  | .ins _ l => by rw [mapRef, mapRefL_no l]
  | .dtt _ => rfl
theorem mapRefL_no : ∀ (l : List Val), mapRefL (fun _ => none) l = l
  | [] => rfl
  | v :: r => by rw [mapRefL, mapRef_no v, mapRefL_no r]
end
theorem reso_new {l : Val} {n : Nat} (h : μ p = none) (h' : μ' p = some l) (hn : nr l = true) : reso μ μ' (n + 1) (.ref p) = l := by
  unfold reso
  rw [mapRef, resoF]
  simp only [h, h', Option.isSome_none, Bool.false_eq_true, if_false, Option.map_some, Option.getD_some]
  exact mapRef_nr l hn
theorem resoF_self {n : Nat} : resoF μ μ n = fun _ => none := by
  cases n with
  | zero => rfl
  | succ n =>
    funext a
    rw [resoF]
    cases h : μ a <;> simp
@[simp] theorem reso_self {n : Nat} : reso μ μ n v = v := by unfold reso; rw [resoF_self]; exact mapRef_no v
@[simp] theorem cut_self' : μ.cut μ = μ := cut_self
@[simp] theorem fin_self {Q : Val → Mu → Prop} : finM .val μ Q v μ ↔ Q v μ := by
  show Q (reso μ μ 4 v) (μ.cut μ) ↔ _
  rw [reso_self, cut_self]
theorem fin_val {Q : Val → Mu → Prop} (h : nr v = true) (hc : μ'.cut μ = μ) (q : Q v μ) : finM .val μ Q v μ' := by
  show Q (reso μ μ' 4 v) (μ'.cut μ)
  rw [reso_nr h, hc]
  exact q
theorem nrL_iff {l : List Val} : nrL l = true ↔ ∀ v ∈ l, nr v = true := by
  induction l with
  | nil => simp [nrL]
  | cons v r ih => simp [nrL, ih]
theorem nrL_ints (l : List Int) : nrL (l.map Val.int) = true := by rw [nrL_iff]; simp [nr]
theorem nrL_strs (l : List Str) : nrL (l.map Val.str) = true := by rw [nrL_iff]; simp [nr]
end

/-! ### loops -/
theorem for_rule {Φ : Ph} (hΦ : MonoP Φ) {t : Tg} {it : It} {b : S} {env : Env} {μ : Mu} {D : En}
    (h : wpI Φ it env μ (fun l a μ1 => ∃ I : List Val → Env → Mu → Prop, I [] env μ1 ∧
      (∀ done v rest env' μ', l = done ++ v :: rest → I done env' μ' → gOk a μ' ∧ brV (t.asg v env') fun env2 => wpS Φ b env2 μ' { D with nx := fun e m => I (done ++ [v]) e m }) ∧
      (∀ env' μ', I l env' μ' → gOk a μ' ∧ D.nx env' μ')) fun x μ' => D.ex x env μ') : wpS Φ (.forS t it b) env μ D := by
  rw [wpS]
  refine wpI_mono hΦ it env μ _ _ _ _ (fun l a μ1 ⟨I, h0, hs, he⟩ => ?_) (fun _ _ z => z) h
  have key : ∀ (rest done : List Val) (env' : Env) (μ' : Mu), l = done ++ rest → I done env' μ' → loopF (gOk a) (fun v env' μ' R => match t.asg v env' with
    | some env2 => wpS Φ b env2 μ' { D with nx := R }
    | none => False) D.nx rest env' μ' := by
    intro rest
    induction rest with
    | nil => intro done env' μ' e hI; rw [List.append_nil] at e; subst e; exact he _ _ hI
    | cons v r ih =>
      intro done env' μ' e hI
      have := hs done v r env' μ' e hI
      refine ⟨this.1, ?_⟩
      have h2 := this.2
      cases ha : t.asg v env' with
      | none => rw [ha] at h2; exact h2.elim
      | some env2 =>
        rw [ha] at h2
        dsimp only
        rw [ha]
        refine wpS_mono hΦ b env2 μ' { D with nx := fun e m => I (done ++ [v]) e m } _ ⟨fun e2 m z => ?_, fun _ _ z => z, fun _ _ _ z => z⟩ h2
        exact ih (done ++ [v]) e2 m (by rw [List.append_assoc]; exact e) z
  exact key l [] env μ1 rfl h0
theorem i_e {Φ : Ph} {a : E} {env : Env} {μ : Mu} {Q : List Val → Option (Ad × List Val) → Mu → Prop} {X : XQ} (h : wpE Φ a env μ (fun v μ' => (∃ l, content μ' v = some (.lst l) ∧ Q l (guard v l) μ') ∨ (∃ l, content μ' v = some (.tup l) ∧ Q l none μ')) X) (hΦ : MonoP Φ) : wpI Φ (.e a) env μ Q X := by
  rw [wpI]
  refine wpE_mono hΦ a env μ _ _ _ _ (fun v μ' z => ?_) (fun _ _ z => z) h
  rcases z with ⟨l, e, q⟩ | ⟨l, e, q⟩ <;> (rw [e]; exact q)
theorem i_range {Φ : Ph} {a : E} {env : Env} {μ : Mu} {Q : List Val → Option (Ad × List Val) → Mu → Prop} {X : XQ} : wpI Φ (.range a) env μ Q X ↔ wpE Φ a env μ (fun v μ' => brV (intOf v) fun j => -(2 ^ 62) ≤ j ∧ j < 2 ^ 62 ∧ Q (intsFrom 0 j.toNat) none μ') X := by
  rw [wpI]; exact ie fun v μ' => by cases v <;> exact Iff.rfl
theorem i_enum {Φ : Ph} {a : E} {env : Env} {μ : Mu} {Q : List Val → Option (Ad × List Val) → Mu → Prop} {X : XQ} (h : wpE Φ a env μ (fun v μ' => ∃ l, content μ' v = some (.lst l) ∧ Q (enumL 0 l) (guard v l) μ') X) (hΦ : MonoP Φ) : wpI Φ (.enum a) env μ Q X := by
  rw [wpI]
  refine wpE_mono hΦ a env μ _ _ _ _ (fun v μ' ⟨l, e, q⟩ => ?_) (fun _ _ z => z) h
  rw [e]; exact q
theorem fin_new {μ : Mu} {p : Ad} {v : Val} {Q : Val → Mu → Prop} (hp : μ p = none) (hn : nr v = true) : finM .val μ Q (.ref p) (μ.set p v) ↔ Q v μ := by
  show Q (reso μ (μ.set p v) 4 (.ref p)) ((μ.set p v).cut μ) ↔ _
  rw [reso_new hp mset_same hn, cut_new hp, cut_self]
theorem fin_obj {μ : Mu} {p : Ad} {v : Val} {Q : Val → Mu → Prop} (hp : μ p = none) : finM .obj μ Q (.ref p) (μ.set p v) ↔ Q (.ref p) (μ.set p v) := by
  simp only [finM, mset_same, hp, true_and, reso_self]
  rw [cut_new hp, cut_self]
theorem comp_inv {Φ : Ph} (hΦ : MonoP Φ) {elt : E} {tg : Tg} {own : List Nat} {it : It} {cond : E} {env : Env} {μ : Mu} {Q : Val → Mu → Prop} {X : XQ}
    (h : wpI Φ it env μ (fun l a μ1 => ∃ I : List Val → List Val → Mu → Prop, I [] [] μ1 ∧
      (∀ done v rest acc μ', l = done ++ v :: rest → I done acc μ' → gOk a μ' ∧ brV (tg.asg v (wipe env own)) fun env' =>
        wpE Φ cond env' μ' (fun t μ3 => br (truthV μ3 t) (wpE Φ elt env' μ3 (fun y μ4 => acc.length < big ∧ I (done ++ [v]) (acc ++ [y]) μ4) fun _ _ => False) (I (done ++ [v]) acc μ3)) fun _ _ => False) ∧
      (∀ acc μ', I l acc μ' → gOk a μ' ∧ Q (.lst acc) μ')) X) : wpE Φ (.comp elt tg own it cond) env μ Q X := by
  rw [wpE]
  refine wpI_mono hΦ it env μ _ _ _ _ (fun l a μ1 ⟨I, h0, hs, he⟩ => ?_) (fun _ _ z => z) h
  have key : ∀ (rest done acc : List Val) (μ' : Mu), l = done ++ rest → I done acc μ' → loopC (gOk a) (fun v μ2 R => match tg.asg v (wipe env own) with
    | some env' => wpE Φ cond env' μ2 (fun t μ3 => match truthV μ3 t with
      | some true => wpE Φ elt env' μ3 (fun y μ4 => R (some y) μ4) fun _ _ => False
      | some false => R none μ3
      | none => False) fun _ _ => False
    | none => False) rest acc μ' fun r μ' => Q (.lst r) μ' := by
    intro rest
    induction rest with
    | nil => intro done acc μ' e hI; rw [List.append_nil] at e; subst e; exact he _ _ hI
    | cons v r ih =>
      intro done acc μ' e hI
      have := hs done v r acc μ' e hI
      refine ⟨this.1, ?_⟩
      have h2 := this.2
      dsimp only
      cases ha : tg.asg v (wipe env own) with
      | none => rw [ha] at h2; exact h2.elim
      | some env' =>
        rw [ha] at h2
        refine wpE_mono hΦ cond env' μ' _ _ _ _ (fun t μ3 z => ?_) (fun _ _ z => z) h2
        cases ht : truthV μ3 t with
        | none => rw [ht] at z; exact z.elim
        | some b =>
          rw [ht] at z
          cases b with
          | false => exact ih (done ++ [v]) acc μ3 (by rw [List.append_assoc]; exact e) z
          | true => exact wpE_mono hΦ elt env' μ3 _ _ _ _ (fun y μ4 y2 => ⟨y2.1, ih (done ++ [v]) (acc ++ [y]) μ4 (by rw [List.append_assoc]; exact e) y2.2⟩) (fun _ _ z => z) z
  exact key l [] [] μ1 rfl h0
theorem split_map {α : Type} {g : α → Val} {xs ys : List α} {v : Val} {rest : List Val} (e : xs.map g = ys.map g ++ v :: rest) {zs : List α} (hz : xs = ys ++ zs) : ∃ x zs', zs = x :: zs' ∧ v = g x := by
  subst hz
  rw [List.map_append] at e
  have e2 := List.append_cancel_left e
  cases zs with
  | nil => cases e2
  | cons x zs' =>
    rw [List.map_cons] at e2
    injection e2 with h1 h2
    exact ⟨x, zs', rfl, h1.symm⟩
theorem comp_mapT {α : Type} (g : α → Val) (xs : List α) (p : α → Bool) (f : α → Val) {Φ : Ph} (hΦ : MonoP Φ) {elt : E} {tg : Tg} {own : List Nat} {it : It} {cond : E} {env : Env} {μ : Mu} {Q : Val → Mu → Prop} {X : XQ}
    (h : wpI Φ it env μ (fun l a μ1 => l = xs.map g ∧ gOk a μ1 ∧ xs.length ≤ big ∧
      (∀ x ∈ xs, brV (tg.asg (g x) (wipe env own)) fun env' => wpE Φ cond env' μ1 (fun t μ3 => μ3 = μ1 ∧ br (truthV μ1 t) (p x = true ∧ wpE Φ elt env' μ1 (fun y μ4 => μ4 = μ1 ∧ y = f x) fun _ _ => False) (p x = false)) fun _ _ => False) ∧
      Q (.lst ((xs.filter p).map f)) μ1) X) : wpE Φ (.comp elt tg own it cond) env μ Q X := by
  refine comp_inv hΦ (wpI_mono hΦ it env μ _ _ _ _ (fun l a μ1 ⟨hl0, hg, hl, hs, hq⟩ => ?_) (fun _ _ z => z) h)
  subst hl0
  refine ⟨fun done acc μ' => μ' = μ1 ∧ ∃ ys zs, xs = ys ++ zs ∧ done = ys.map g ∧ acc = (ys.filter p).map f, ⟨rfl, [], xs, rfl, rfl, rfl⟩, ?_, ?_⟩
  · rintro done v rest acc μ' e ⟨rfl, ys, zs, hx, rfl, rfl⟩
    refine ⟨hg, ?_⟩
    obtain ⟨x, zs', rfl, rfl⟩ := split_map e hx
    have h2 := hs x (by rw [hx]; simp)
    cases ha : tg.asg (g x) (wipe env own) with
    | none => rw [ha] at h2; exact h2.elim
    | some env' =>
      rw [ha] at h2
      refine wpE_mono hΦ cond env' μ' _ _ _ _ (fun t μ3 z => ?_) (fun _ _ z => z) h2
      obtain ⟨rfl, z⟩ := z
      cases ht : truthV μ3 t with
      | none => rw [ht] at z; exact z.elim
      | some b =>
        rw [ht] at z
        cases b with
        | false =>
          refine ⟨rfl, ys ++ [x], zs', by rw [hx]; simp, by simp, ?_⟩
          have z : p x = false := z
          rw [List.filter_append]
          simp [z]
        | true =>
          obtain ⟨hp, z⟩ := z
          refine wpE_mono hΦ elt env' μ3 _ _ _ _ (fun y μ4 y2 => ⟨?_, y2.1, ys ++ [x], zs', by rw [hx]; simp, by simp, ?_⟩) (fun _ _ z => z) z
          · have h3 : (ys.filter p).length ≤ ys.length := List.length_filter_le _ _
            have h4 : ys.length < xs.length := by rw [hx]; simp
            rw [List.length_map]
            omega
          · rw [y2.2, List.filter_append]
            simp [hp]
  · rintro acc μ' ⟨rfl, ys, zs, hx, e, rfl⟩
    have hz : zs = [] := by
      have := congrArg List.length e
      rw [hx] at this
      simp at this
      exact this
    subst hz
    rw [List.append_nil] at hx
    subst hx
    exact ⟨hg, hq⟩
theorem w_seq_id {Φ : Ph} (hΦ : MonoP Φ) {a b : S} {env : Env} {μ : Mu} {D : En} (h1 : wpS Φ a env μ { D with nx := fun e m => e = env ∧ m = μ }) (h2 : wpS Φ b env μ D) : wpS Φ (.seq a b) env μ D := by
  rw [w_seq]
  exact wpS_mono hΦ a env μ { D with nx := fun e m => e = env ∧ m = μ } _ ⟨fun e m ⟨h, h'⟩ => by subst h h'; exact h2, fun _ _ z => z, fun _ _ _ z => z⟩ h1
end Mi
/-! Mv: the operations on given data. -/
namespace Mi
open PySem (Str)
section
variable {μ : Mu} {i j k : Int} {b c : Bool} {s t : Str} {l r : List Val} {v w : Val} {p : Ad}
@[simp] theorem ct_ref : content μ (.ref p) = μ p := rfl
@[simp] theorem ct_non : content μ .non = some .non := rfl
@[simp] theorem ct_bl : content μ (.bl b) = some (.bl b) := rfl
@[simp] theorem ct_int : content μ (.int i) = some (.int i) := rfl
@[simp] theorem ct_str : content μ (.str s) = some (.str s) := rfl
@[simp] theorem ct_tup : content μ (.tup l) = some (.tup l) := rfl
@[simp] theorem ct_lst : content μ (.lst l) = some (.lst l) := rfl
@[simp] theorem ct_dct : content μ (.dct l) = some (.dct l) := rfl
@[simp] theorem ct_dtt {l : List (List Int × Int)} : content μ (.dtt l) = some (.dtt l) := rfl
@[simp] theorem cont_dtt {l : List (List Int × Int)} : isCont (.dtt l) = true := rfl
@[simp] theorem tv_bl : truthV μ (.bl b) = some b := rfl
@[simp] theorem tv_non : truthV μ .non = some false := rfl
@[simp] theorem tv_int : truthV μ (.int i) = some (i != 0) := rfl
@[simp] theorem tv_lst : truthV μ (.lst l) = some (!l.isEmpty) := rfl
@[simp] theorem tv_tup : truthV μ (.tup l) = some (!l.isEmpty) := rfl
@[simp] theorem eq_int : eqV μ (.int i) (.int j) = some (i == j) := rfl
@[simp] theorem eq_str : eqV μ (.str s) (.str t) = some (s == t) := rfl
@[simp] theorem eq_nn : eqV μ .non .non = some true := rfl
@[simp] theorem eq_ni : eqV μ .non (.int i) = some false := rfl
@[simp] theorem eq_in : eqV μ (.int i) .non = some false := rfl
@[simp] theorem eq_bl : eqV μ (.bl b) (.bl c) = some (b == c) := rfl
theorem eqV_of {v w a b : Val} {r : Bool} (hv : content μ v = some a) (hw : content μ w = some b) (h : eqC a b = some r) : eqV μ v w = some r := by
  unfold eqV
  rw [hv, hw]
  show (match eqC a b with | some r => some r | none => eqT μ a b) = some r
  rw [h]
theorem eq_plain {a d : Val} (h : plain a = true) (h' : plain d = true) (hd : min (dep a) (dep d) ≤ 150) (ha : ∀ l, a ≠ .dct l) : eqC a d = some (eqb a d) := by
  unfold eqC
  split
  · exact (ha _ rfl).elim
  · rw [if_pos ⟨h, h', hd⟩]
@[simp] theorem cm_lt : cmpV .lt (.int i) (.int j) = some (decide (i < j)) := rfl
@[simp] theorem cm_le : cmpV .le (.int i) (.int j) = some (decide (i ≤ j)) := rfl
@[simp] theorem cm_gt : cmpV .gt (.int i) (.int j) = some (decide (j < i)) := rfl
@[simp] theorem cm_ge : cmpV .ge (.int i) (.int j) = some (decide (j ≤ i)) := rfl
@[simp] theorem bn_add : binV μ .add (.int i) (.int j) = some (.int (i + j)) := rfl
@[simp] theorem bn_sub : binV μ .sub (.int i) (.int j) = some (.int (i - j)) := rfl
@[simp] theorem bn_mul : binV μ .mul (.int i) (.int j) = if CMul i j then some (.int (i * j)) else none := rfl
@[simp] theorem bn_mod : binV μ .mod (.int i) (.int j) = if j ≠ 0 then some (.int (i.fmod j)) else none := rfl
@[simp] theorem bn_div : binV μ .fdiv (.int i) (.int j) = if j ≠ 0 ∧ (j.natAbs < 1073741824 ∨ wideD j = true) then some (.int (i.fdiv j)) else none := rfl
@[simp] theorem bn_pow : binV μ .pow (.int i) (.int j) = if 0 ≤ j ∧ j ≤ 1000000 ∧ i.natAbs < 2 ^ 64 then some (.int (i ^ j.toNat)) else none := rfl
@[simp] theorem bn_addS : binV μ .add (.str s) (.str t) = if s.length + t.length ≤ big then some (.str (s ++ t)) else none := rfl
@[simp] theorem bn_addL : binV μ .add (.lst l) (.lst r) = if l.length + r.length ≤ big then some (.lst (l ++ r)) else none := rfl
@[simp] theorem bn_addT : binV μ .add (.tup l) (.tup r) = if l.length + r.length ≤ big then some (.tup (l ++ r)) else none := rfl
@[simp] theorem bn_mulS : binV μ .mul (.str s) (.int k) = if 1 ≤ k ∧ k < 2 ^ 62 ∧ s.length * k.toNat ≤ big then some (.str (repS s k)) else none := rfl
@[simp] theorem bn_mulL : binV μ .mul (.lst l) (.int k) = if -(2 ^ 62) ≤ k ∧ k < 2 ^ 62 ∧ l.length * k.toNat ≤ big then some (.lst (repL l k)) else none := rfl
@[simp] theorem ix_tup : ixV μ (.tup l) (.int i) = atI l i := rfl
@[simp] theorem ix_lst : ixV μ (.lst l) (.int i) = atI l i := rfl
@[simp] theorem ix_str : ixV μ (.str s) (.int i) = if s.length ≤ big then (atI s.cps.toList i).map fun c => .str ⟨#[c]⟩ else none := rfl
theorem ix_ref (h : μ p = some (.lst l)) : ixV μ (.ref p) (.int i) = atI l i := by unfold ixV; rw [ct_ref, h]; rfl
theorem at_nat {α : Type} {l : List α} {i : Int} {a : α} (h0 : 0 ≤ i) (h : l[i.toNat]? = some a) : atI l i = some a := by
  have : i.toNat < l.length := by
    rcases Nat.lt_or_ge i.toNat l.length with z | z
    · exact z
    · rw [List.getElem?_eq_none z] at h; cases h
  have h2 : i < (l.length : Int) := by omega
  unfold atI ixN
  rw [if_pos h0, if_pos h2]
  exact h
@[simp] theorem at0 {α : Type} {a : α} {r : List α} : atI (a :: r) 0 = some a := at_nat (by decide) rfl
@[simp] theorem at1 {α : Type} {a b : α} {r : List α} : atI (a :: b :: r) 1 = some b := at_nat (by decide) rfl
@[simp] theorem at2 {α : Type} {a b c : α} {r : List α} : atI (a :: b :: c :: r) 2 = some c := at_nat (by decide) rfl
@[simp] theorem at3 {α : Type} {a b c d : α} {r : List α} : atI (a :: b :: c :: d :: r) 3 = some d := at_nat (by decide) rfl
@[simp] theorem at4 {α : Type} {a b c d e : α} {r : List α} : atI (a :: b :: c :: d :: e :: r) 4 = some e := at_nat (by decide) rfl
@[simp] theorem ty_ii : tyV μ .int (.int i) = some true := rfl
@[simp] theorem ty_ib : tyV μ .int (.bl b) = some true := rfl
@[simp] theorem ty_in : tyV μ .int .non = some false := rfl
@[simp] theorem ty_bb : tyV μ .bool (.bl b) = some true := rfl
@[simp] theorem ty_bi : tyV μ .bool (.int i) = some false := rfl
@[simp] theorem ty_bn : tyV μ .bool .non = some false := rfl
@[simp] theorem bi_int : biV μ .int [.bl b] = some (.int (if b = true then 1 else 0)) := rfl
@[simp] theorem bi_str : biV μ .str [.int i] = if i.natAbs.log2 < 1920 then some (.str (strI i)) else none := rfl
@[simp] theorem bi_abs : biV μ .abs [.int i] = some (.int i.natAbs) := rfl
@[simp] theorem bi_lenL : biV μ .len [.lst l] = some (.int l.length) := rfl
@[simp] theorem bi_lenT : biV μ .len [.tup l] = some (.int l.length) := rfl
@[simp] theorem bi_lenD : biV μ .len [.dct l] = some (.int l.length) := rfl
theorem bi_lenR (h : μ p = some (.lst l)) : biV μ .len [.ref p] = some (.int l.length) := by show lenF μ [.ref p] = _; simp only [lenF, ct_ref, h]
@[simp] theorem bi_listL : biV μ .list [.lst l] = some (.lst l) := rfl
@[simp] theorem bi_listT : biV μ .list [.tup l] = some (.lst l) := rfl
@[simp] theorem bi_tupL : biV μ .tuple [.lst l] = some (.tup l) := rfl
@[simp] theorem bi_tupT : biV μ .tuple [.tup l] = some (.tup l) := rfl
theorem bi_tupR (h : μ p = some (.lst l)) : biV μ .tuple [.ref p] = some (.tup l) := by show tupleF μ [.ref p] = _; simp only [tupleF, ct_ref, h]
theorem ok_append (h : μ p = some (.lst l)) : meOk μ .append (.ref p) = true := by show isLst μ (.ref p) = true; simp only [isLst, ct_ref, h]
theorem ok_pop (h : μ p = some (.lst l)) : meOk μ .pop (.ref p) = true := ok_append h
theorem ok_extend (h : μ p = some (.lst l)) : meOk μ .extend (.ref p) = true := ok_append h
@[simp] theorem ok_getD : meOk μ .get (.dct l) = true := rfl
theorem me_append (h : μ p = some (.lst l)) : meV μ .append (.ref p) [v] = if l.length < big then some (.non, μ.set p (.lst (l ++ [v]))) else none := by show appendF μ (.ref p) [v] = _; simp only [appendF, h]
theorem set_lst {n : Nat} (h : μ p = some (.lst l)) (hn : ixN l.length k = some n) : setV μ (.ref p) (.int k) v = some (μ.set p (.lst (l.set n v))) := by simp [setV, h, hn]
theorem set_dct (h : μ p = some (.dct l)) (hk : isKey w = true) (hl : l.length < big) : setV μ (.ref p) w v = some (μ.set p (.dct (dPut w v l))) := by simp [setV, h, hk, hl]
@[simp] theorem key_int : isKey (.int i) = true := rfl
@[simp] theorem key_str : isKey (.str s) = true := rfl
@[simp] theorem in_tup1 {a : Str} : inV μ (.str s) (.tup [.str a]) = some (a == s || false) := rfl
@[simp] theorem in_tup2 {a b : Str} : inV μ (.str s) (.tup [.str a, .str b]) = some (a == s || (b == s || false)) := rfl
@[simp] theorem bi_max : biV μ .max [.int i, .int j] = some (.int (if j > i then j else i)) := rfl
@[simp] theorem bi_min : biV μ .min [.int i, .int j] = some (.int (if j < i then j else i)) := rfl
theorem me_extend (h : μ p = some (.lst l)) (h' : content μ v = some (.lst r)) : meV μ .extend (.ref p) [v] = if l.length + r.length ≤ big then some (.non, μ.set p (.lst (l ++ r))) else none := by
  show extendF μ (.ref p) [v] = _
  simp only [extendF, h, seqOf, h', Option.bind_some]
@[simp] theorem bi_revL : biV μ .rev [.lst l] = some (.lst l.reverse) := rfl
@[simp] theorem bi_revT : biV μ .rev [.tup l] = some (.tup l.reverse) := rfl
@[simp] theorem oi_nil : optInt [] = some none := rfl
@[simp] theorem oi_int : optInt [.int i] = some (some i) := rfl
@[simp] theorem slc_lst {x y : Option Int} : slC (.lst l) x y = some (.lst (cutL l x y)) := rfl
@[simp] theorem slc_tup {x y : Option Int} : slC (.tup l) x y = some (.tup (cutL l x y)) := rfl
@[simp] theorem slc_str {x y : Option Int} : slC (.str s) x y = if s.length ≤ big then some (.str ⟨(cutL s.cps.toList x y).toArray⟩) else none := rfl
@[simp] theorem cont_lst : isCont (.lst l) = true := rfl
@[simp] theorem cont_dct : isCont (.dct l) = true := rfl
@[simp] theorem cmul_l (h : -(2 ^ 64) < i) (h' : i < 2 ^ 64) : CMul i j := .inl ⟨h, h'⟩
theorem cmul_r (h : -(2 ^ 64) < j) (h' : j < 2 ^ 64) : CMul i j := .inr ⟨h, h'⟩
end
end Mi
/-! D: the defs as terms of the language. -/
namespace Mi.D
open PySem (Str)
open Mi
def joined_worth : Fn := ⟨3, 3, (.seq (.ite (.eq .eq (.v 0) (.c (.str (Str.ofString "plus"))))
  (.ret (.bin .mod (.bin .add (.v 1) (.v 2)) (.c (.int 1000000))))
  .skip)
  (.seq (.ite (.eq .eq (.v 0) (.c (.str (Str.ofString "less"))))
  (.ret (.bin .mod (.bin .sub (.v 1) (.v 2)) (.c (.int 1000000))))
  .skip)
  (.seq (.ite (.eq .eq (.v 0) (.c (.str (Str.ofString "times"))))
  (.ret (.bin .mod (.bin .mul (.v 1) (.v 2)) (.c (.int 1000000))))
  .skip)
  (.seq (.ite (.eq .eq (.v 0) (.c (.str (Str.ofString "under"))))
  (.ret (.bi .int (.cons (.cmp .lt (.v 1) (.v 2)) .nil)))
  .skip)
  (.seq (.ite (.eq .eq (.v 0) (.c (.str (Str.ofString "same"))))
  (.ret (.bi .int (.cons (.eq .eq (.v 1) (.v 2)) .nil)))
  .skip)
  (.seq (.ite (.eq .eq (.v 2) (.c (.int 0)))
  (.raise "Broken")
  .skip)
  (.seq (.ite (.eq .eq (.v 0) (.c (.str (Str.ofString "over"))))
  (.ret (.bin .fdiv (.v 1) (.v 2)))
  .skip)
  (.ret (.bin .mod (.v 1) (.v 2))))))))))⟩
def worth_of : Fn := ⟨2, 3, (.seq (.ite (.eq .eq (.ix (.v 0) (.c (.int 0))) (.c (.str (Str.ofString "number"))))
  (.ret (.ix (.v 0) (.c (.int 1))))
  .skip)
  (.seq (.ite (.eq .eq (.ix (.v 0) (.c (.int 0))) (.c (.str (Str.ofString "name"))))
  (.ret (.me .get (.v 1) (.cons (.ix (.v 0) (.c (.int 1))) (.cons (.c (.int 0)) .nil))))
  .skip)
  (.seq (.asg 2 (.call "worth_of" .val (.cons (.ix (.v 0) (.c (.int 1))) (.cons (.v 1) .nil))))
  (.ret (.call "joined_worth" .val (.cons (.ix (.v 0) (.c (.int 0))) (.cons (.v 2) (.cons (.call "worth_of" .val (.cons (.ix (.v 0) (.c (.int 2))) (.cons (.v 1) .nil))) .nil))))))))⟩
def _law_pot : Fn := ⟨2, 5, (.seq (.asg 2 (.bin .mod (.bin .add (.v 0) (.bin .mul (.c (.int 7919)) (.bin .add (.v 1) (.c (.int 1))))) (.c (.int 2147483647))))
  (.seq (.asg 3 (.new (.lst (.cons (.c (.int 0)) .nil))))
  (.seq (.forS (.n 4) (.range (.c (.int 24)))
  (.seq (.asg 2 (.bin .mod (.bin .add (.bin .add (.bin .add (.bin .mul (.v 2) (.v 2)) (.bin .mul (.c (.int 48271)) (.v 2))) (.bin .mul (.c (.int 3)) (.v 4))) (.v 1)) (.c (.int 2147483629))))
  (.setix (.v 3) (.c (.int 0)) (.bin .add (.bin .mul (.ix (.v 3) (.c (.int 0))) (.c (.int 2147483629))) (.v 2)))))
  (.seq (.ite (.cmp .ge (.v 0) (.bin .pow (.c (.int 10)) (.c (.int 18))))
  (.ex (.me .append (.v 3) (.cons (.v 0) .nil)))
  .skip)
  (.ret (.v 3))))))⟩
def _law_take : Fn := ⟨2, 3, (.seq (.asg 2 (.bin .mod (.ix (.v 0) (.neg (.c (.int 1)))) (.v 1)))
  (.seq (.setix (.v 0) (.neg (.c (.int 1))) (.bin .fdiv (.ix (.v 0) (.neg (.c (.int 1)))) (.v 1)))
  (.seq (.ite (.and (.eq .eq (.ix (.v 0) (.neg (.c (.int 1)))) (.c (.int 0))) (.cmp .gt (.bi .len (.cons (.v 0) .nil)) (.c (.int 1))))
  (.ex (.me .pop (.v 0) .nil))
  .skip)
  (.ret (.v 2)))))⟩
def _law_value : Fn := ⟨1, 1, (.seq (.ite (.eq .eq (.call "_law_take" .val (.cons (.v 0) (.cons (.c (.int 2)) .nil))) (.c (.int 0)))
  (.ret (.call "_law_take" .val (.cons (.v 0) (.cons (.c (.int 5)) .nil))))
  .skip)
  (.ret (.call "_law_take" .val (.cons (.v 0) (.cons (.bin .pow (.c (.int 10)) (.c (.int 6))) .nil)))))⟩
def _law_drawn : Fn := ⟨3, 5, (.seq (.asg 3 (.call "_law_take" .val (.cons (.v 0) (.cons (.c (.int 12)) .nil))))
  (.seq (.ite (.or (.eq .eq (.v 2) (.c (.int 1))) (.cmp .lt (.v 3) (.c (.int 4))))
  (.seq (.ite (.and (.eq .eq (.bin .mod (.v 3) (.c (.int 2))) (.c (.int 0))) (.eq .ne (.v 1) (.lst .nil)))
  (.ret (.tup (.cons (.c (.str (Str.ofString "name"))) (.cons (.ix (.v 1) (.call "_law_take" .val (.cons (.v 0) (.cons (.bi .len (.cons (.v 1) .nil)) .nil)))) .nil))))
  .skip)
  (.ret (.tup (.cons (.c (.str (Str.ofString "number"))) (.cons (.call "_law_value" .val (.cons (.v 0) .nil)) .nil)))))
  .skip)
  (.seq (.asg 4 (.ix (.lst (.cons (.c (.str (Str.ofString "plus"))) (.cons (.c (.str (Str.ofString "less"))) (.cons (.c (.str (Str.ofString "times"))) (.cons (.c (.str (Str.ofString "over"))) (.cons (.c (.str (Str.ofString "rest"))) (.cons (.c (.str (Str.ofString "under"))) (.cons (.c (.str (Str.ofString "same"))) .nil)))))))) (.call "_law_take" .val (.cons (.v 0) (.cons (.c (.int 7)) .nil)))))
  (.ret (.tup (.cons (.v 4) (.cons (.call "_law_drawn" .val (.cons (.v 0) (.cons (.v 1) (.cons (.bin .sub (.v 2) (.c (.int 1))) .nil)))) (.cons (.call "_law_drawn" .val (.cons (.v 0) (.cons (.v 1) (.cons (.bin .sub (.v 2) (.c (.int 1))) .nil)))) .nil))))))))⟩
def _law_numbered : Fn := ⟨2, 4, (.seq (.asg 2 (.new (.bi .list (.cons (.v 1) .nil))))
  (.seq (.forS (.n 3) (.e (.v 1))
  (.ite (.eq .eq (.call "_law_take" .val (.cons (.v 0) (.cons (.c (.int 3)) .nil))) (.c (.int 0)))
  (.ex (.me .append (.v 2) (.cons (.bin .add (.bin .add (.v 3) (.c (.str (Str.ofString ".")))) (.bi .str (.cons (.bin .add (.c (.int 1)) (.call "_law_take" .val (.cons (.v 0) (.cons (.ix (.lst (.cons (.c (.int 9)) (.cons (.c (.int 100)) (.cons (.bin .pow (.c (.int 10)) (.c (.int 9))) .nil)))) (.call "_law_take" .val (.cons (.v 0) (.cons (.c (.int 3)) .nil)))) .nil)))) .nil))) .nil)))
  .skip))
  (.ret (.v 2))))⟩
def _law_names : Fn := ⟨2, 6, (.seq (.asg 2 (.new (.lst .nil)))
  (.seq (.forS (.n 3) (.range (.v 1))
  (.seq (.asg 4 (.ix (.c (.str (Str.ofString "abcdefghijklmnopqrstuvwxyz"))) (.call "_law_take" .val (.cons (.v 0) (.cons (.c (.int 26)) .nil)))))
  (.seq (.asg 5 (.sl (.bin .add (.bin .mul (.v 4) (.bin .add (.c (.int 1)) (.call "_law_take" .val (.cons (.v 0) (.cons (.c (.int 3)) .nil))))) (.ix (.lst (.cons (.c (.str (Str.ofString ""))) (.cons (.c (.str (Str.ofString "a"))) (.cons (.c (.str (Str.ofString "z"))) .nil)))) (.call "_law_take" .val (.cons (.v 0) (.cons (.c (.int 3)) .nil))))) .nil (.cons (.c (.int 4)) .nil)))
  (.ite (.isin .notin (.v 5) (.v 2))
  (.ex (.me .append (.v 2) (.cons (.v 5) .nil)))
  .skip))))
  (.ret (.v 2))))⟩
def _law_joined : Fn := ⟨3, 3, (.seq (.ite (.eq .eq (.v 0) (.c (.str (Str.ofString "plus"))))
  (.ret (.bin .mod (.bin .add (.v 1) (.v 2)) (.c (.int 1000000))))
  .skip)
  (.seq (.ite (.eq .eq (.v 0) (.c (.str (Str.ofString "less"))))
  (.ret (.bin .mod (.bin .sub (.v 1) (.v 2)) (.c (.int 1000000))))
  .skip)
  (.seq (.ite (.eq .eq (.v 0) (.c (.str (Str.ofString "times"))))
  (.ret (.bin .mod (.bin .mul (.v 1) (.v 2)) (.c (.int 1000000))))
  .skip)
  (.seq (.ite (.eq .eq (.v 0) (.c (.str (Str.ofString "under"))))
  (.ret (.bi .int (.cons (.cmp .lt (.v 1) (.v 2)) .nil)))
  .skip)
  (.seq (.ite (.eq .eq (.v 0) (.c (.str (Str.ofString "same"))))
  (.ret (.bi .int (.cons (.eq .eq (.v 1) (.v 2)) .nil)))
  .skip)
  (.seq (.ite (.eq .eq (.v 2) (.c (.int 0)))
  (.ret (.c .non))
  .skip)
  (.ret (.ix (.lst (.cons (.bin .fdiv (.v 1) (.v 2)) (.cons (.bin .mod (.v 1) (.v 2)) .nil))) (.bi .int (.cons (.eq .eq (.v 0) (.c (.str (Str.ofString "rest")))) .nil))))))))))⟩
def _law_worth : Fn := ⟨2, 4, (.seq (.ite (.eq .eq (.ix (.v 0) (.c (.int 0))) (.c (.str (Str.ofString "number"))))
  (.ret (.ix (.v 0) (.c (.int 1))))
  .skip)
  (.seq (.ite (.eq .eq (.ix (.v 0) (.c (.int 0))) (.c (.str (Str.ofString "name"))))
  (.ret (.me .get (.v 1) (.cons (.ix (.v 0) (.c (.int 1))) (.cons (.c (.int 0)) .nil))))
  .skip)
  (.seq (.asg 2 (.call "_law_worth" .val (.cons (.ix (.v 0) (.c (.int 1))) (.cons (.v 1) .nil))))
  (.seq (.ite (.isN false (.v 2))
  (.ret (.c .non))
  .skip)
  (.seq (.asg 3 (.call "_law_worth" .val (.cons (.ix (.v 0) (.c (.int 2))) (.cons (.v 1) .nil))))
  (.seq (.ite (.isN false (.v 3))
  (.ret (.c .non))
  .skip)
  (.ret (.call "_law_joined" .val (.cons (.ix (.v 0) (.c (.int 0))) (.cons (.v 2) (.cons (.v 3) .nil)))))))))))⟩
def _law_same : Fn := ⟨2, 2, (.seq (.ite (.isN false (.v 1))
  (.ret (.isN false (.v 0)))
  .skip)
  (.ret (.and (.isT (.v 0) .int) (.and (.not (.isT (.v 0) .bool)) (.eq .eq (.v 0) (.v 1))))))⟩
def _law_told : Fn := ⟨2, 3, (.seq (.asg 2 (.c .non))
  (.seq (.tryS (.asg 2 (.call "worth_of" .val (.cons (.v 0) (.cons (.v 1) .nil)))) ["Broken"] none
  (.asg 2 (.c .non)))
  (.ret (.v 2))))⟩
def names_in : Fn := ⟨1, 1, (.seq (.ite (.eq .eq (.ix (.v 0) (.c (.int 0))) (.c (.str (Str.ofString "number"))))
  (.ret (.new (.lst .nil)))
  .skip)
  (.seq (.ite (.eq .eq (.ix (.v 0) (.c (.int 0))) (.c (.str (Str.ofString "name"))))
  (.ret (.new (.lst (.cons (.ix (.v 0) (.c (.int 1))) .nil))))
  .skip)
  (.ret (.new (.bin .add (.call "names_in" .val (.cons (.ix (.v 0) (.c (.int 1))) .nil)) (.call "names_in" .val (.cons (.ix (.v 0) (.c (.int 2))) .nil)))))))⟩
def depth_of : Fn := ⟨1, 1, (.seq (.ite (.isin .isin (.ix (.v 0) (.c (.int 0))) (.tup (.cons (.c (.str (Str.ofString "number"))) (.cons (.c (.str (Str.ofString "name"))) .nil))))
  (.ret (.c (.int 1)))
  .skip)
  (.ret (.bin .add (.c (.int 1)) (.bi .max (.cons (.call "depth_of" .val (.cons (.ix (.v 0) (.c (.int 1))) .nil)) (.cons (.call "depth_of" .val (.cons (.ix (.v 0) (.c (.int 2))) .nil)) .nil))))))⟩
def _law_read : Fn := ⟨1, 6, (.seq (.asg 1 (.new (.lst (.cons (.tup (.cons (.v 0) (.cons (.c (.int 1)) .nil))) .nil))))
  (.seq (.asg 2 (.new (.lst .nil)))
  (.seq (.asg 3 (.c (.int 1)))
  (.seq (.whileS (.eq .ne (.v 1) (.lst .nil))
  (.seq (.asgT (.t [(.n 4), (.n 5)]) (.me .pop (.v 1) .nil))
  (.seq (.asg 3 (.bi .max (.cons (.v 3) (.cons (.v 5) .nil))))
  (.ite (.eq .eq (.ix (.v 4) (.c (.int 0))) (.c (.str (Str.ofString "name"))))
  (.ex (.me .append (.v 2) (.cons (.ix (.v 4) (.c (.int 1))) .nil)))
  (.ite (.eq .ne (.ix (.v 4) (.c (.int 0))) (.c (.str (Str.ofString "number"))))
  (.ex (.me .extend (.v 1) (.cons (.lst (.cons (.tup (.cons (.ix (.v 4) (.c (.int 2))) (.cons (.bin .add (.v 5) (.c (.int 1))) .nil))) (.cons (.tup (.cons (.ix (.v 4) (.c (.int 1))) (.cons (.bin .add (.v 5) (.c (.int 1))) .nil))) .nil))) .nil)))
  .skip)))))
  (.ret (.tup (.cons (.v 2) (.cons (.v 3) .nil))))))))⟩
def rows_within : Fn := ⟨1, 1, (.seq (.ite (.eq .eq (.ix (.v 0) (.c (.int 0))) (.c (.str (Str.ofString "when"))))
  (.ret (.bin .add (.ix (.v 0) (.c (.int 2))) (.ix (.v 0) (.c (.int 3)))))
  .skip)
  (.seq (.ite (.eq .eq (.ix (.v 0) (.c (.int 0))) (.c (.str (Str.ofString "turn"))))
  (.ret (.ix (.v 0) (.c (.int 2))))
  .skip)
  (.ret (.tup .nil))))⟩
def read_through : Fn := ⟨1, 3, (.seq (.asg 1 (.new (.lst .nil)))
  (.seq (.forS (.n 2) (.e (.v 0))
  (.seq (.ex (.me .append (.v 1) (.cons (.v 2) .nil)))
  (.ex (.me .extend (.v 1) (.cons (.call "read_through" .val (.cons (.call "rows_within" .val (.cons (.v 2) .nil)) .nil)) .nil)))))
  (.ret (.v 1))))⟩
def rows_of : Fn := ⟨1, 1, (.ret (.call "read_through" .val (.cons (.ix (.v 0) (.c (.int 2))) .nil)))⟩
def deed_of : Fn := ⟨2, 3, (.seq (.forS (.n 2) (.e (.v 0))
  (.ite (.eq .eq (.ix (.v 2) (.c (.int 0))) (.v 1))
  (.ret (.v 2))
  .skip))
  (.raise "NoDeed"))⟩
def look_at_names : Fn := ⟨1, 6, (.seq (.asg 1 (.new (.lst .nil)))
  (.forS (.t [(.n 2), (.n 3), (.n 4), (.n 5)]) (.e (.v 0))
  (.seq (.ite (.or (.isin .isin (.v 2) (.v 1)) (.cmp .lt (.bi .setlen (.cons (.v 3) .nil)) (.bi .len (.cons (.v 3) .nil))))
  (.raise "Twice")
  .skip)
  (.ex (.me .append (.v 1) (.cons (.v 2) .nil))))))⟩
def look_at_call : Fn := ⟨3, 3, (.seq (.ite (.eq .ne (.bi .len (.cons (.ix (.v 1) (.c (.int 3))) .nil)) (.bi .len (.cons (.ix (.call "deed_of" .val (.cons (.v 0) (.cons (.ix (.v 1) (.c (.int 2))) .nil))) (.c (.int 1))) .nil)))
  (.raise "WrongCount")
  .skip)
  (.ite (.isin .isin (.ix (.v 1) (.c (.int 4))) (.v 2))
  (.raise "Twice")
  .skip))⟩
def made_book : Fn := ⟨1, 4, (.seq (.ex (.call "look_at_names" .val (.cons (.v 0) .nil)))
  (.seq (.asg 1 (.new (.lst .nil)))
  (.seq (.forS (.n 2) (.e (.v 0))
  (.forS (.n 3) (.e (.call "rows_of" .val (.cons (.v 2) .nil)))
  (.ite (.eq .eq (.ix (.v 3) (.c (.int 0))) (.c (.str (Str.ofString "call"))))
  (.seq (.ex (.call "look_at_call" .val (.cons (.v 0) (.cons (.v 3) (.cons (.v 1) .nil)))))
  (.ex (.me .append (.v 1) (.cons (.ix (.v 3) (.c (.int 4))) .nil))))
  .skip)))
  (.ret (.bi .tuple (.cons (.v 0) .nil))))))⟩
def _law_folded : Fn := ⟨2, 5, (.seq (.asg 2 (.new (.bin .mul (.lst (.cons (.c (.int 0)) .nil)) (.v 1))))
  (.seq (.forS (.t [(.n 3), (.n 4)]) (.enum (.sl (.v 0) .nil (.cons (.c (.int 63)) .nil)))
  (.setix (.v 2) (.bin .mod (.v 3) (.v 1)) (.bin .add (.bin .mul (.ix (.v 2) (.bin .mod (.v 3) (.v 1))) (.c (.int 31))) (.v 4))))
  (.ret (.v 2))))⟩
def _law_deed_words : Fn := ⟨2, 6, (.seq (.asg 2 (.call "_law_take" .val (.cons (.v 0) (.cons (.c (.int 26)) .nil))))
  (.seq (.ite (.eq .eq (.call "_law_take" .val (.cons (.v 0) (.cons (.c (.int 2)) .nil))) (.c (.int 0)))
  (.seq (.asg 3 (.comp (.bin .mul (.ix (.c (.str (Str.ofString "abcdefghijklmnopqrstuvwxyz"))) (.v 2)) (.bin .add (.c (.int 1)) (.v 5))) (.n 5) [5] (.range (.v 1)) (.c (.bl true))))
  (.ret (.ix (.lst (.cons (.v 3) (.cons (.bi .rev (.cons (.v 3) .nil)) .nil))) (.call "_law_take" .val (.cons (.v 0) (.cons (.c (.int 2)) .nil))))))
  .skip)
  (.seq (.asg 4 (.ix (.lst (.cons (.c (.str (Str.ofString ""))) (.cons (.c (.str (Str.ofString "x"))) (.cons (.c (.str (Str.ofString "deed"))) (.cons (.c (.str (Str.ofString "seventh"))) .nil))))) (.call "_law_take" .val (.cons (.v 0) (.cons (.c (.int 4)) .nil)))))
  (.ret (.comp (.bin .add (.ix (.c (.str (Str.ofString "abcdefghijklmnopqrstuvwxyz"))) (.bin .mod (.bin .add (.v 2) (.bin .mul (.c (.int 5)) (.v 5))) (.c (.int 26)))) (.v 4)) (.n 5) [5] (.range (.v 1)) (.c (.bl true)))))))⟩
def _law_heads : Fn := ⟨3, 8, (.seq (.asg 3 (.new (.lst .nil)))
  (.seq (.forS (.n 4) (.e (.call "_law_deed_words" .val (.cons (.v 0) (.cons (.v 2) .nil))))
  (.seq (.asg 5 (.new (.bi .list (.cons (.v 1) .nil))))
  (.seq (.asg 6 (.new (.lst .nil)))
  (.seq (.forS (.n 7) (.range (.bi .min (.cons (.bi .len (.cons (.v 1) .nil)) (.cons (.call "_law_take" .val (.cons (.v 0) (.cons (.c (.int 5)) .nil))) .nil))))
  (.ex (.me .append (.v 6) (.cons (.me .pop (.v 5) (.cons (.call "_law_take" .val (.cons (.v 0) (.cons (.bi .len (.cons (.v 5) .nil)) .nil))) .nil)) .nil))))
  (.ex (.me .append (.v 3) (.cons (.tup (.cons (.v 4) (.cons (.bi .tuple (.cons (.v 6) .nil)) .nil))) .nil)))))))
  (.ret (.v 3))))⟩
def rows_of_v2 : Fn := ⟨1, 1, (.ret (.call "read_through" .obj (.cons (.ix (.v 0) (.c (.int 2))) .nil)))⟩
def calls_of_v2 : Fn := ⟨1, 2, (.ret (.comp (.tup (.cons (.ix (.v 1) (.c (.int 4))) (.cons (.ix (.v 1) (.c (.int 2))) .nil))) (.n 1) [1] (.e (.call "rows_of" .val (.cons (.v 0) .nil))) (.eq .eq (.ix (.v 1) (.c (.int 0))) (.c (.str (Str.ofString "call"))))))⟩
def names_in_v2 : Fn := ⟨1, 1, (.seq (.ite (.eq .eq (.ix (.v 0) (.c (.int 0))) (.c (.str (Str.ofString "number"))))
  (.ret (.lst .nil))
  .skip)
  (.seq (.ite (.eq .eq (.ix (.v 0) (.c (.int 0))) (.c (.str (Str.ofString "name"))))
  (.ret (.lst (.cons (.ix (.v 0) (.c (.int 1))) .nil)))
  .skip)
  (.ret (.bin .add (.call "names_in" .val (.cons (.ix (.v 0) (.c (.int 1))) .nil)) (.call "names_in" .val (.cons (.ix (.v 0) (.c (.int 2))) .nil))))))⟩
def expressions_of : Fn := ⟨1, 1, (.seq (.ite (.eq .eq (.ix (.v 0) (.c (.int 0))) (.c (.str (Str.ofString "set"))))
  (.ret (.lst (.cons (.ix (.v 0) (.c (.int 2))) .nil)))
  .skip)
  (.seq (.ite (.eq .eq (.ix (.v 0) (.c (.int 0))) (.c (.str (Str.ofString "call"))))
  (.ret (.bi .list (.cons (.ix (.v 0) (.c (.int 3))) .nil)))
  .skip)
  (.ret (.lst (.cons (.ix (.v 0) (.c (.int 1))) .nil)))))⟩
def row_names : Fn := ⟨1, 3, (.seq (.asg 1 (.new (.lst .nil)))
  (.seq (.forS (.n 2) (.e (.call "expressions_of" .val (.cons (.v 0) .nil)))
  (.ex (.me .extend (.v 1) (.cons (.call "names_in" .val (.cons (.v 2) .nil)) .nil))))
  (.seq (.ite (.isin .isin (.ix (.v 0) (.c (.int 0))) (.tup (.cons (.c (.str (Str.ofString "set"))) (.cons (.c (.str (Str.ofString "call"))) .nil))))
  (.ex (.me .append (.v 1) (.cons (.ix (.v 0) (.c (.int 1))) .nil)))
  .skip)
  (.ret (.v 1)))))⟩
def deed_names : Fn := ⟨1, 3, (.seq (.asg 1 (.new (.lst .nil)))
  (.seq (.forS (.n 2) (.e (.call "rows_of" .val (.cons (.v 0) .nil)))
  (.ex (.me .extend (.v 1) (.cons (.call "row_names" .val (.cons (.v 2) .nil)) .nil))))
  (.ret (.bin .add (.v 1) (.call "names_in" .val (.cons (.ix (.v 0) (.c (.int 3))) .nil))))))⟩
def _law_cell_at : Fn := ⟨2, 3, (.seq (.ite (.cmp .lt (.v 1) (.bi .len (.cons (.v 0) .nil)))
  (.ret (.ix (.v 0) (.v 1)))
  .skip)
  (.seq (.asg 2 (.c (.int 0)))
  (.seq (.ite (.eq .ne (.v 0) (.lst .nil))
  (.asg 2 (.bin .mod (.ix (.v 0) (.bin .mod (.v 1) (.bi .len (.cons (.v 0) .nil)))) (.c (.int 1000003))))
  .skip)
  (.ret (.bin .add (.bin .add (.v 2) (.bin .mul (.c (.int 104729)) (.v 1))) (.c (.int 13)))))))⟩
def _law_folded_v2 : Fn := ⟨2, 5, (.seq (.asg 2 (.new (.comp (.call "_law_cell_at" .val (.cons (.v 0) (.cons (.v 3) .nil))) (.n 3) [3] (.range (.v 1)) (.c (.bl true)))))
  (.seq (.forS (.n 3) (.range2 (.v 1) (.bi .len (.cons (.v 0) .nil)))
  (.seq (.asg 4 (.bin .mod (.v 3) (.v 1)))
  (.setix (.v 2) (.v 4) (.bin .mod (.bin .add (.bin .mul (.bin .mod (.ix (.v 2) (.v 4)) (.bin .pow (.c (.int 10)) (.c (.int 60)))) (.c (.int 48271))) (.ix (.v 0) (.v 3))) (.bin .add (.bin .pow (.c (.int 10)) (.c (.int 60))) (.c (.int 7)))))))
  (.ret (.v 2))))⟩
def _law_state : Fn := ⟨1, 2, (.seq (.asg 1 (.c (.int 0)))
  (.seq (.ite (.cmp .ge (.v 0) (.bin .pow (.c (.int 10)) (.c (.int 18))))
  (.asg 1 (.v 0))
  .skip)
  (.ret (.new (.lst (.cons (.v 1) (.cons (.bin .mod (.bin .mul (.bin .add (.bin .mod (.v 0) (.c (.int 2147483629))) (.c (.int 11))) (.c (.int 48271))) (.c (.int 2147483647))) .nil)))))))⟩
def _law_next : Fn := ⟨2, 3, (.seq (.ite (.cmp .gt (.ix (.v 0) (.c (.int 0))) (.c (.int 0)))
  (.seq (.asg 2 (.bin .mod (.ix (.v 0) (.c (.int 0))) (.v 1)))
  (.seq (.setix (.v 0) (.c (.int 0)) (.bin .fdiv (.ix (.v 0) (.c (.int 0))) (.v 1)))
  (.ret (.v 2))))
  .skip)
  (.seq (.setix (.v 0) (.c (.int 1)) (.bin .mod (.bin .add (.bin .mul (.ix (.v 0) (.c (.int 1))) (.c (.int 69621))) (.c (.int 40692))) (.c (.int 2147483647))))
  (.ret (.bin .mod (.bin .fdiv (.bin .mod (.bin .mul (.ix (.v 0) (.c (.int 1))) (.ix (.v 0) (.c (.int 1)))) (.c (.int 2147483629))) (.c (.int 8))) (.v 1)))))⟩
def _law_variable : Fn := ⟨1, 1, (.ret (.ix (.lst (.cons (.c (.str (Str.ofString "x"))) (.cons (.c (.str (Str.ofString "y"))) (.cons (.c (.str (Str.ofString "ab"))) (.cons (.c (.str (Str.ofString "z"))) .nil))))) (.call "_law_next" .val (.cons (.v 0) (.cons (.c (.int 4)) .nil)))))⟩
def _law_expression : Fn := ⟨2, 6, (.seq (.asg 2 (.call "_law_next" .val (.cons (.v 0) (.cons (.c (.int 6)) .nil))))
  (.seq (.ite (.and (.cmp .gt (.v 2) (.c (.int 2))) (.cmp .lt (.v 1) (.c (.int 2))))
  (.seq (.asg 3 (.ix (.lst (.cons (.c (.str (Str.ofString "plus"))) (.cons (.c (.str (Str.ofString "less"))) (.cons (.c (.str (Str.ofString "times"))) (.cons (.c (.str (Str.ofString "over"))) (.cons (.c (.str (Str.ofString "rest"))) (.cons (.c (.str (Str.ofString "under"))) (.cons (.c (.str (Str.ofString "same"))) .nil)))))))) (.call "_law_next" .val (.cons (.v 0) (.cons (.c (.int 7)) .nil)))))
  (.seq (.asg 4 (.call "_law_expression" .val (.cons (.v 0) (.cons (.bin .add (.v 1) (.c (.int 1))) .nil))))
  (.ret (.tup (.cons (.v 3) (.cons (.v 4) (.cons (.call "_law_expression" .val (.cons (.v 0) (.cons (.bin .add (.v 1) (.c (.int 1))) .nil))) .nil)))))))
  .skip)
  (.seq (.ite (.or (.eq .eq (.v 2) (.c (.int 0))) (.eq .eq (.v 2) (.c (.int 5))))
  (.seq (.asg 5 (.call "_law_next" .val (.cons (.v 0) (.cons (.c (.int 5)) .nil))))
  (.seq (.ite (.eq .eq (.v 5) (.c (.int 4)))
  (.ret (.tup (.cons (.c (.str (Str.ofString "number"))) (.cons (.call "_law_next" .val (.cons (.v 0) (.cons (.c (.int 1000000)) .nil))) .nil))))
  .skip)
  (.ret (.tup (.cons (.c (.str (Str.ofString "number"))) (.cons (.ix (.lst (.cons (.c (.int 0)) (.cons (.c (.int 1)) (.cons (.c (.int 2)) (.cons (.c (.int 10)) .nil))))) (.v 5)) .nil))))))
  .skip)
  (.ret (.tup (.cons (.c (.str (Str.ofString "name"))) (.cons (.call "_law_variable" .val (.cons (.v 0) .nil)) .nil)))))))⟩
def _law_heads_v2 : Fn := ⟨2, 9, (.seq (.asg 2 (.ix (.c (.str (Str.ofString "abcdefgh"))) (.call "_law_next" .val (.cons (.v 0) (.cons (.c (.int 8)) .nil)))))
  (.seq (.asg 3 (.call "_law_next" .val (.cons (.v 0) (.cons (.c (.int 5)) .nil))))
  (.seq (.asg 4 (.new (.lst .nil)))
  (.seq (.forS (.n 5) (.range (.v 1))
  (.seq (.asg 6 (.lst (.cons (.c (.str (Str.ofString "x"))) (.cons (.c (.str (Str.ofString "y"))) (.cons (.c (.str (Str.ofString "ab"))) (.cons (.c (.str (Str.ofString "z"))) .nil))))))
  (.seq (.asg 7 (.call "_law_next" .val (.cons (.v 0) (.cons (.c (.int 4)) .nil))))
  (.seq (.asg 8 (.sl (.bin .add (.sl (.v 6) (.cons (.v 7) .nil) .nil) (.sl (.v 6) .nil (.cons (.v 7) .nil))) .nil (.cons (.ix (.lst (.cons (.c (.int 0)) (.cons (.c (.int 1)) (.cons (.c (.int 4)) (.cons (.c (.int 2)) (.cons (.c (.int 3)) .nil)))))) (.call "_law_next" .val (.cons (.v 0) (.cons (.c (.int 5)) .nil)))) .nil)))
  (.ex (.me .append (.v 4) (.cons (.tup (.cons (.bin .mul (.v 2) (.bin .add (.c (.int 1)) (.bin .mod (.bin .add (.bin .mul (.c (.int 3)) (.v 5)) (.v 3)) (.c (.int 5))))) (.cons (.bi .tuple (.cons (.v 8) .nil)) .nil))) .nil)))))))
  (.ret (.v 4))))))⟩
def _law_call_v2 : Fn := ⟨3, 8, (.seq (.asg 3 (.ix (.lst (.cons (.bin .add (.v 2) (.c (.int 1))) (.cons (.ix (.v 1) (.c (.str (Str.ofString "low")))) .nil))) (.ix (.v 1) (.c (.str (Str.ofString "rings"))))))
  (.seq (.ite (.or (.eq .eq (.ix (.v 1) (.c (.str (Str.ofString "left")))) (.c (.int 0))) (.cmp .ge (.v 3) (.bi .len (.cons (.ix (.v 1) (.c (.str (Str.ofString "heads")))) .nil))))
  (.ret (.tup (.cons (.c (.str (Str.ofString "set"))) (.cons (.call "_law_variable" .val (.cons (.v 0) .nil)) (.cons (.call "_law_expression" .val (.cons (.v 0) (.cons (.c (.int 0)) .nil))) .nil)))))
  .skip)
  (.seq (.setix (.v 1) (.c (.str (Str.ofString "left"))) (.bin .sub (.ix (.v 1) (.c (.str (Str.ofString "left")))) (.c (.int 1))))
  (.seq (.asgT (.t [(.n 4), (.n 5)]) (.ix (.ix (.v 1) (.c (.str (Str.ofString "heads")))) (.bin .add (.v 3) (.call "_law_next" .val (.cons (.v 0) (.cons (.bin .sub (.bi .len (.cons (.ix (.v 1) (.c (.str (Str.ofString "heads")))) .nil)) (.v 3)) .nil))))))
  (.seq (.asg 6 (.bi .tuple (.cons (.comp (.call "_law_expression" .val (.cons (.v 0) (.cons (.c (.int 1)) .nil))) (.n 7) [7] (.e (.v 5)) (.c (.bl true))) .nil)))
  (.ret (.tup (.cons (.c (.str (Str.ofString "call"))) (.cons (.call "_law_variable" .val (.cons (.v 0) .nil)) (.cons (.v 4) (.cons (.v 6) (.cons (.bin .mod (.bin .add (.bin .mul (.c (.int 7)) (.ix (.v 1) (.c (.str (Str.ofString "left"))))) (.ix (.v 1) (.c (.str (Str.ofString "shift"))))) (.c (.int 100))) .nil))))))))))))⟩
def _law_row_v2 : Fn := ⟨4, 7, (.seq (.asg 4 (.call "_law_next" .val (.cons (.v 0) (.cons (.c (.int 8)) .nil))))
  (.seq (.ite (.cmp .lt (.v 4) (.c (.int 2)))
  (.ret (.tup (.cons (.c (.str (Str.ofString "set"))) (.cons (.call "_law_variable" .val (.cons (.v 0) .nil)) (.cons (.call "_law_expression" .val (.cons (.v 0) (.cons (.c (.int 0)) .nil))) .nil)))))
  .skip)
  (.seq (.ite (.eq .eq (.v 4) (.c (.int 2)))
  (.ret (.tup (.cons (.c (.str (Str.ofString "say"))) (.cons (.call "_law_expression" .val (.cons (.v 0) (.cons (.c (.int 0)) .nil))) .nil))))
  .skip)
  (.seq (.ite (.cmp .lt (.v 4) (.c (.int 6)))
  (.ret (.call "_law_call" .val (.cons (.v 0) (.cons (.v 1) (.cons (.v 2) .nil)))))
  .skip)
  (.seq (.ite (.cmp .gt (.v 3) (.c (.int 1)))
  (.ret (.tup (.cons (.c (.str (Str.ofString "say"))) (.cons (.tup (.cons (.c (.str (Str.ofString "name"))) (.cons (.call "_law_variable" .val (.cons (.v 0) .nil)) .nil))) .nil))))
  .skip)
  (.seq (.ite (.eq .eq (.v 4) (.c (.int 6)))
  (.seq (.asg 5 (.call "_law_expression" .val (.cons (.v 0) (.cons (.c (.int 0)) .nil))))
  (.seq (.asg 6 (.call "_law_rows" .val (.cons (.v 0) (.cons (.v 1) (.cons (.v 2) (.cons (.bin .add (.v 3) (.c (.int 1))) .nil))))))
  (.ret (.tup (.cons (.c (.str (Str.ofString "when"))) (.cons (.v 5) (.cons (.v 6) (.cons (.call "_law_rows" .val (.cons (.v 0) (.cons (.v 1) (.cons (.v 2) (.cons (.bin .add (.v 3) (.c (.int 1))) .nil))))) .nil))))))))
  .skip)
  (.ret (.tup (.cons (.c (.str (Str.ofString "turn"))) (.cons (.tup (.cons (.c (.str (Str.ofString "number"))) (.cons (.call "_law_next" .val (.cons (.v 0) (.cons (.c (.int 4)) .nil))) .nil))) (.cons (.call "_law_rows" .val (.cons (.v 0) (.cons (.v 1) (.cons (.v 2) (.cons (.bin .add (.v 3) (.c (.int 1))) .nil))))) .nil)))))))))))⟩
def _law_rows_v2 : Fn := ⟨4, 6, (.seq (.asg 4 (.ix (.lst (.cons (.c (.int 3)) (.cons (.c (.int 2)) (.cons (.c (.int 2)) (.cons (.c (.int 4)) (.cons (.c (.int 1)) (.cons (.c (.int 2)) .nil))))))) (.call "_law_next" .val (.cons (.v 0) (.cons (.c (.int 6)) .nil)))))
  (.seq (.ite (.cmp .gt (.v 3) (.c (.int 0)))
  (.asg 4 (.ix (.lst (.cons (.c (.int 1)) (.cons (.c (.int 2)) (.cons (.c (.int 0)) (.cons (.c (.int 1)) .nil))))) (.call "_law_next" .val (.cons (.v 0) (.cons (.c (.int 4)) .nil)))))
  .skip)
  (.seq (.asg 4 (.bi .min (.cons (.v 4) (.cons (.ix (.v 1) (.c (.str (Str.ofString "room")))) .nil))))
  (.seq (.setix (.v 1) (.c (.str (Str.ofString "room"))) (.bin .sub (.ix (.v 1) (.c (.str (Str.ofString "room")))) (.v 4)))
  (.ret (.bi .tuple (.cons (.comp (.call "_law_row" .val (.cons (.v 0) (.cons (.v 1) (.cons (.v 2) (.cons (.v 3) .nil))))) (.n 5) [5] (.range (.v 4)) (.c (.bl true))) .nil)))))))⟩
def _law_deeds : Fn := ⟨4, 12, (.seq (.asg 4 (.call "_law_state" .obj (.cons (.ix (.v 0) (.c (.int 0))) .nil)))
  (.seq (.asg 5 (.new (.dct (.cons (.tup (.cons (.c (.str (Str.ofString "heads"))) (.cons (.call "_law_heads" .val (.cons (.v 4) (.cons (.v 1) .nil))) .nil))) (.cons (.tup (.cons (.c (.str (Str.ofString "rings"))) (.cons (.v 2) .nil))) (.cons (.tup (.cons (.c (.str (Str.ofString "low"))) (.cons (.v 3) .nil))) .nil))))))
  (.seq (.setix (.v 5) (.c (.str (Str.ofString "left"))) (.bin .add (.c (.int 3)) (.call "_law_next" .val (.cons (.v 4) (.cons (.c (.int 4)) .nil)))))
  (.seq (.setix (.v 5) (.c (.str (Str.ofString "shift"))) (.call "_law_next" .val (.cons (.v 4) (.cons (.c (.int 100)) .nil))))
  (.seq (.asg 6 (.new (.lst .nil)))
  (.seq (.forS (.n 7) (.range (.v 1))
  (.seq (.asg 8 (.call "_law_state" .obj (.cons (.ix (.v 0) (.bin .add (.c (.int 1)) (.v 7))) .nil)))
  (.seq (.setix (.v 5) (.c (.str (Str.ofString "room"))) (.c (.int 9)))
  (.seq (.asgT (.t [(.n 9), (.n 10)]) (.ix (.ix (.v 5) (.c (.str (Str.ofString "heads")))) (.v 7)))
  (.seq (.asg 11 (.call "_law_rows" .val (.cons (.v 8) (.cons (.v 5) (.cons (.v 7) (.cons (.c (.int 0)) .nil))))))
  (.ex (.me .append (.v 6) (.cons (.tup (.cons (.v 9) (.cons (.v 10) (.cons (.v 11) (.cons (.call "_law_expression" .val (.cons (.v 8) (.cons (.c (.int 1)) .nil))) .nil))))) .nil))))))))
  (.ret (.v 6))))))))⟩
def ends_of_calls : Fn := ⟨1, 5, (.seq (.asg 1 (.new (.dct .nil)))
  (.seq (.forS (.n 2) (.e (.v 0))
  (.forS (.t [(.n 3), (.n 4)]) (.e (.call "calls_of" .val (.cons (.v 2) .nil)))
  (.setix (.v 1) (.v 3) (.tup (.cons (.ix (.v 2) (.c (.int 0))) (.cons (.v 4) .nil))))))
  (.ret (.v 1))))⟩
def ask_marks : Fn := ⟨2, 5, (.seq (.asg 2 (.call "ends_of_calls" .val (.cons (.v 0) .nil)))
  (.forS (.t [(.n 3), (.n 4)]) (.enum (.v 1))
  (.ite (.or (.isin .notin (.v 4) (.v 2)) (.and (.cmp .gt (.v 3) (.c (.int 0))) (.cmp .le (.v 4) (.ix (.v 1) (.bin .sub (.v 3) (.c (.int 1)))))))
  (.raise "NoMark")
  .skip)))⟩
def call_from : Fn := ⟨4, 5, (.seq (.forS (.n 4) (.e (.v 1))
  (.ite (.and (.eq .eq (.ix (.ix (.v 0) (.v 4)) (.c (.int 1))) (.v 3)) (.isin .isin (.ix (.ix (.v 0) (.v 4)) (.c (.int 0))) (.v 2)))
  (.ret (.v 4))
  .skip))
  (.ret (.c .non)))⟩
def own_names_v3 : Fn := ⟨1, 4, (.seq (.asg 1 (.bi .list (.cons (.ix (.v 0) (.c (.int 1))) .nil)))
  (.seq (.asg 2 (.new (.dct .nil)))
  (.seq (.forS (.n 3) (.e (.call "deed_names" .val (.cons (.v 0) .nil)))
  (.ite (.and (.not (.bi .inS (.cons (.c (.str (Str.ofString "."))) (.cons (.v 3) .nil)))) (.isin .notin (.v 3) (.v 1)))
  (.setix (.v 2) (.v 3) (.c (.bl true)))
  .skip))
  (.ret (.new (.bin .add (.v 1) (.bi .sortK (.cons (.v 2) .nil))))))))⟩
def own_names_v4 : Fn := ⟨1, 4, (.seq (.asg 1 (.bi .list (.cons (.ix (.v 0) (.c (.int 1))) .nil)))
  (.seq (.asg 2 (.new (.dct .nil)))
  (.seq (.forS (.n 3) (.e (.call "deed_names" .val (.cons (.v 0) .nil)))
  (.ite (.and (.not (.bi .inS (.cons (.c (.str (Str.ofString "."))) (.cons (.v 3) .nil)))) (.isin .notin (.v 3) (.v 1)))
  (.setix (.v 2) (.v 3) (.c (.bl true)))
  .skip))
  (.ret (.bin .add (.v 1) (.bi .sortK (.cons (.v 2) .nil)))))))⟩
def _law_cells : Fn := ⟨2, 5, (.seq (.asg 2 (.new (.bi .list (.cons (.sl (.v 0) .nil (.cons (.v 1) .nil)) .nil))))
  (.seq (.forS (.t [(.n 3), (.n 4)]) (.enum (.sl (.v 0) (.cons (.v 1) .nil) (.cons (.c (.int 63)) .nil)))
  (.setix (.v 2) (.bin .mod (.v 3) (.v 1)) (.bin .add (.bin .mul (.ix (.v 2) (.bin .mod (.v 3) (.v 1))) (.c (.int 31))) (.v 4))))
  (.ret (.v 2))))⟩
def _law_pool : Fn := ⟨2, 4, (.seq (.asg 2 (.c (.int 0)))
  (.seq (.ite (.cmp .gt (.bi .len (.cons (.v 0) .nil)) (.c (.int 0)))
  (.asg 2 (.bin .add (.ix (.v 0) (.bin .mod (.v 1) (.bi .len (.cons (.v 0) .nil)))) (.bin .fdiv (.v 1) (.bi .len (.cons (.v 0) .nil)))))
  .skip)
  (.seq (.asg 3 (.c (.int 0)))
  (.seq (.ite (.or (.cmp .lt (.v 2) (.c (.int 0))) (.cmp .ge (.v 2) (.bin .pow (.c (.int 10)) (.c (.int 18)))))
  (.asg 3 (.bi .abs (.cons (.v 2) .nil)))
  .skip)
  (.ret (.new (.lst (.cons (.v 3) (.cons (.bin .mod (.bin .add (.bin .mul (.bin .mod (.v 2) (.c (.int 2147483629))) (.c (.int 69621))) (.bin .mul (.bin .mul (.c (.int 40009)) (.bin .add (.v 1) (.c (.int 1)))) (.bin .add (.v 1) (.c (.int 3))))) (.c (.int 2147483629))) .nil)))))))))⟩
def _law_take_v2 : Fn := ⟨2, 3, (.seq (.ite (.cmp .gt (.ix (.v 0) (.c (.int 0))) (.c (.int 0)))
  (.seq (.asg 2 (.bin .mod (.ix (.v 0) (.c (.int 0))) (.v 1)))
  (.seq (.setix (.v 0) (.c (.int 0)) (.bin .fdiv (.ix (.v 0) (.c (.int 0))) (.v 1)))
  (.ret (.v 2))))
  .skip)
  (.seq (.setix (.v 0) (.c (.int 1)) (.bin .mod (.bin .add (.bin .mul (.ix (.v 0) (.c (.int 1))) (.c (.int 48271))) (.c (.int 12820163))) (.c (.int 2147483647))))
  (.ret (.bin .mod (.bin .fdiv (.bin .mod (.bin .mul (.bin .mod (.bin .mul (.ix (.v 0) (.c (.int 1))) (.ix (.v 0) (.c (.int 1)))) (.c (.int 2147483629))) (.c (.int 69621))) (.c (.int 2147483587))) (.c (.int 8))) (.v 1)))))⟩
def _law_some : Fn := ⟨3, 5, (.seq (.asg 3 (.new (.bi .list (.cons (.v 1) .nil))))
  (.ret (.comp (.me .pop (.v 3) (.cons (.call "_law_take" .val (.cons (.v 0) (.cons (.bi .len (.cons (.v 3) .nil)) .nil))) .nil)) (.n 4) [4] (.range (.v 2)) (.c (.bl true)))))⟩
def _law_value_v2 : Fn := ⟨1, 2, (.seq (.asg 1 (.call "_law_take" .val (.cons (.v 0) (.cons (.c (.int 8)) .nil))))
  (.seq (.ite (.eq .eq (.v 1) (.c (.int 7)))
  (.ret (.c (.int 999999)))
  .skip)
  (.ret (.call "_law_take" .val (.cons (.v 0) (.cons (.ix (.lst (.cons (.c (.int 4)) (.cons (.c (.int 12)) (.cons (.c (.int 1000000)) .nil)))) (.bin .mod (.v 1) (.c (.int 3)))) .nil))))))⟩
def _law_expression_v2 : Fn := ⟨3, 7, (.seq (.asg 3 (.call "_law_take" .val (.cons (.v 0) (.cons (.c (.int 8)) .nil))))
  (.seq (.ite (.and (.cmp .gt (.v 3) (.c (.int 4))) (.cmp .lt (.v 2) (.c (.int 5))))
  (.seq (.asg 4 (.lst (.cons (.c (.str (Str.ofString "plus"))) (.cons (.c (.str (Str.ofString "less"))) (.cons (.c (.str (Str.ofString "times"))) (.cons (.c (.str (Str.ofString "under"))) (.cons (.c (.str (Str.ofString "same"))) (.cons (.c (.str (Str.ofString "over"))) (.cons (.c (.str (Str.ofString "rest"))) .nil)))))))))
  (.seq (.asg 5 (.ix (.v 4) (.call "_law_take" .val (.cons (.v 0) (.cons (.bin .add (.c (.int 5)) (.bin .mul (.c (.int 2)) (.bi .int (.cons (.eq .eq (.call "_law_take" .val (.cons (.v 0) (.cons (.c (.int 6)) .nil))) (.c (.int 0))) .nil)))) .nil)))))
  (.seq (.asg 6 (.call "_law_expression" .val (.cons (.v 0) (.cons (.v 1) (.cons (.bin .add (.v 2) (.c (.int 1))) .nil)))))
  (.ret (.tup (.cons (.v 5) (.cons (.v 6) (.cons (.call "_law_expression" .val (.cons (.v 0) (.cons (.v 1) (.cons (.bin .add (.v 2) (.c (.int 1))) .nil)))) .nil))))))))
  .skip)
  (.seq (.ite (.cmp .lt (.v 3) (.c (.int 3)))
  (.ret (.tup (.cons (.c (.str (Str.ofString "name"))) (.cons (.ix (.v 1) (.call "_law_take" .val (.cons (.v 0) (.cons (.bi .len (.cons (.v 1) .nil)) .nil)))) .nil))))
  .skip)
  (.ret (.tup (.cons (.c (.str (Str.ofString "number"))) (.cons (.call "_law_value" .val (.cons (.v 0) .nil)) .nil)))))))⟩
def _law_call_v3 : Fn := ⟨3, 9, (.seq (.asg 3 (.ix (.v 1) (.c (.str (Str.ofString "heads")))))
  (.seq (.asg 4 (.call "_law_take" .val (.cons (.v 0) (.cons (.bi .len (.cons (.v 3) .nil)) .nil))))
  (.seq (.asg 5 (.bin .sub (.bin .sub (.bi .len (.cons (.v 3) .nil)) (.ix (.v 1) (.c (.str (Str.ofString "at"))))) (.c (.int 1))))
  (.seq (.ite (.and (.cmp .gt (.v 5) (.c (.int 0))) (.cmp .gt (.call "_law_take" .val (.cons (.v 0) (.cons (.c (.int 4)) .nil))) (.c (.int 0))))
  (.asg 4 (.bin .add (.bin .add (.ix (.v 1) (.c (.str (Str.ofString "at")))) (.c (.int 1))) (.call "_law_take" .val (.cons (.v 0) (.cons (.v 5) .nil)))))
  .skip)
  (.seq (.setix (.v 1) (.c (.str (Str.ofString "calls"))) (.bin .sub (.ix (.v 1) (.c (.str (Str.ofString "calls")))) (.c (.int 1))))
  (.seq (.asg 6 (.bi .tuple (.cons (.comp (.call "_law_expression" .val (.cons (.v 0) (.cons (.v 2) (.cons (.c (.int 3)) .nil)))) (.n 8) [8] (.e (.ix (.ix (.v 3) (.v 4)) (.c (.int 1)))) (.c (.bl true))) .nil)))
  (.seq (.asg 7 (.ix (.v 2) (.call "_law_take" .val (.cons (.v 0) (.cons (.bi .len (.cons (.v 2) .nil)) .nil)))))
  (.ret (.tup (.cons (.c (.str (Str.ofString "call"))) (.cons (.v 7) (.cons (.ix (.ix (.v 3) (.v 4)) (.c (.int 0))) (.cons (.v 6) (.cons (.bin .mod (.bin .add (.ix (.v 1) (.c (.str (Str.ofString "first")))) (.bin .mul (.c (.int 37)) (.ix (.v 1) (.c (.str (Str.ofString "calls")))))) (.c (.int 100))) .nil))))))))))))))⟩
def _law_rows_v3 : Fn := ⟨4, 6, (.seq (.asg 4 (.new (.lst .nil)))
  (.seq (.forS (.n 5) (.range (.call "_law_take" .val (.cons (.v 0) (.cons (.ix (.lst (.cons (.c (.int 8)) (.cons (.c (.int 6)) (.cons (.c (.int 4)) (.cons (.c (.int 3)) .nil))))) (.v 3)) .nil))))
  (.ite (.cmp .gt (.ix (.v 1) (.c (.str (Str.ofString "rows")))) (.c (.int 0)))
  (.ex (.me .append (.v 4) (.cons (.call "_law_row" .val (.cons (.v 0) (.cons (.v 1) (.cons (.v 2) (.cons (.v 3) .nil))))) .nil)))
  .skip))
  (.ret (.bi .tuple (.cons (.v 4) .nil)))))⟩
def mark_gain : Fn := ⟨4, 5, (.seq (.asg 4 (.call "called_by" .val (.cons (.v 0) .nil)))
  (.seq (.ite (.isin .notin (.v 3) (.v 4))
  (.raise "NoMark")
  .skip)
  (.ret (.bin .mul (.ix (.v 1) (.v 3)) (.bin .sub (.v 2) (.bi .len (.cons (.call "own_names" .val (.cons (.call "deed_of" .val (.cons (.v 0) (.cons (.ix (.v 4) (.v 3)) .nil))) .nil)) .nil)))))))⟩
def _law_row_v4 : Fn := ⟨4, 8, (.seq (.asg 4 (.call "_law_take" .val (.cons (.v 0) (.cons (.c (.int 10)) .nil))))
  (.seq (.setix (.v 1) (.c (.str (Str.ofString "rows"))) (.bin .sub (.ix (.v 1) (.c (.str (Str.ofString "rows")))) (.c (.int 1))))
  (.seq (.ite (.and (.cmp .lt (.v 4) (.c (.int 3))) (.cmp .gt (.ix (.v 1) (.c (.str (Str.ofString "calls")))) (.c (.int 0))))
  (.ret (.call "_law_call" .val (.cons (.v 0) (.cons (.v 1) (.cons (.v 2) .nil)))))
  .skip)
  (.seq (.asg 5 (.ix (.v 2) (.call "_law_take" .val (.cons (.v 0) (.cons (.bi .len (.cons (.v 2) .nil)) .nil)))))
  (.seq (.asg 6 (.call "_law_expression" .val (.cons (.v 0) (.cons (.v 2) (.cons (.bin .add (.c (.int 1)) (.call "_law_take" .val (.cons (.v 0) (.cons (.c (.int 4)) .nil)))) .nil)))))
  (.seq (.ite (.and (.eq .eq (.v 4) (.c (.int 3))) (.cmp .lt (.v 3) (.c (.int 3))))
  (.seq (.asg 7 (.call "_law_rows" .val (.cons (.v 0) (.cons (.v 1) (.cons (.v 2) (.cons (.bin .add (.v 3) (.c (.int 1))) .nil))))))
  (.ret (.tup (.cons (.c (.str (Str.ofString "when"))) (.cons (.v 6) (.cons (.v 7) (.cons (.call "_law_rows" .val (.cons (.v 0) (.cons (.v 1) (.cons (.v 2) (.cons (.bin .add (.v 3) (.c (.int 1))) .nil))))) .nil)))))))
  .skip)
  (.seq (.ite (.and (.eq .eq (.v 4) (.c (.int 4))) (.cmp .lt (.v 3) (.c (.int 3))))
  (.seq (.ite (.cmp .gt (.call "_law_take" .val (.cons (.v 0) (.cons (.c (.int 4)) .nil))) (.c (.int 0)))
  (.asg 6 (.tup (.cons (.c (.str (Str.ofString "number"))) (.cons (.call "_law_take" .val (.cons (.v 0) (.cons (.c (.int 4)) .nil))) .nil))))
  .skip)
  (.ret (.tup (.cons (.c (.str (Str.ofString "turn"))) (.cons (.v 6) (.cons (.call "_law_rows" .val (.cons (.v 0) (.cons (.v 1) (.cons (.v 2) (.cons (.bin .add (.v 3) (.c (.int 1))) .nil))))) .nil))))))
  .skip)
  (.seq (.ite (.cmp .lt (.v 4) (.c (.int 7)))
  (.ret (.tup (.cons (.c (.str (Str.ofString "say"))) (.cons (.v 6) .nil))))
  .skip)
  (.ret (.tup (.cons (.c (.str (Str.ofString "set"))) (.cons (.v 5) (.cons (.v 6) .nil)))))))))))))⟩
def _law_book_v4 : Fn := ⟨2, 15, (.seq (.asg 2 (.call "_law_pool" .obj (.cons (.v 0) (.cons (.c (.int 0)) .nil))))
  (.seq (.asg 3 (.lst (.cons (.c (.str (Str.ofString "a"))) (.cons (.c (.str (Str.ofString "b"))) (.cons (.c (.str (Str.ofString "ab"))) (.cons (.c (.str (Str.ofString "x"))) (.cons (.c (.str (Str.ofString "xy"))) (.cons (.c (.str (Str.ofString "abc"))) (.cons (.c (.str (Str.ofString "abcd"))) (.cons (.c (.str (Str.ofString "set"))) (.cons (.c (.str (Str.ofString "end"))) (.cons (.c (.str (Str.ofString "else"))) (.cons (.c (.str (Str.ofString "give"))) (.cons (.c (.str (Str.ofString "z"))) .nil))))))))))))))
  (.seq (.asg 4 (.lst (.cons (.c (.str (Str.ofString "f"))) (.cons (.c (.str (Str.ofString "g"))) (.cons (.c (.str (Str.ofString "fold"))) (.cons (.c (.str (Str.ofString "gg"))) (.cons (.c (.str (Str.ofString "deed"))) (.cons (.c (.str (Str.ofString "end"))) (.cons (.c (.str (Str.ofString "callfold"))) (.cons (.c (.str (Str.ofString "h"))) (.cons (.c (.str (Str.ofString "ab"))) (.cons (.c (.str (Str.ofString "main"))) .nil))))))))))))
  (.seq (.asg 5 (.new (.lst .nil)))
  (.seq (.asg 6 (.bin .add (.c (.int 1)) (.call "_law_take" .val (.cons (.v 2) (.cons (.ix (.lst (.cons (.v 1) (.cons (.v 1) (.cons (.v 1) (.cons (.c (.int 8)) .nil))))) (.call "_law_take" .val (.cons (.v 2) (.cons (.c (.int 4)) .nil)))) .nil)))))
  (.seq (.forS (.n 7) (.e (.call "_law_some" .val (.cons (.v 2) (.cons (.v 4) (.cons (.v 6) .nil)))))
  (.ex (.me .append (.v 5) (.cons (.tup (.cons (.v 7) (.cons (.call "_law_some" .val (.cons (.v 2) (.cons (.v 3) (.cons (.call "_law_take" .val (.cons (.v 2) (.cons (.c (.int 5)) .nil))) .nil)))) .nil))) .nil))))
  (.seq (.asg 8 (.new (.dct (.cons (.tup (.cons (.c (.str (Str.ofString "heads"))) (.cons (.v 5) .nil))) (.cons (.tup (.cons (.c (.str (Str.ofString "at"))) (.cons (.c (.int 0)) .nil))) (.cons (.tup (.cons (.c (.str (Str.ofString "rows"))) (.cons (.c (.int 20)) .nil))) (.cons (.tup (.cons (.c (.str (Str.ofString "calls"))) (.cons (.c (.int 10)) .nil))) (.cons (.tup (.cons (.c (.str (Str.ofString "first"))) (.cons (.call "_law_take" .val (.cons (.v 2) (.cons (.c (.int 100)) .nil))) .nil))) .nil))))))))
  (.seq (.asg 9 (.new (.lst .nil)))
  (.seq (.forS (.t [(.n 10), (.t [(.n 7), (.n 11)])]) (.enum (.v 5))
  (.seq (.asg 2 (.call "_law_pool" .obj (.cons (.v 0) (.cons (.bin .add (.c (.int 1)) (.v 10)) .nil))))
  (.seq (.asg 12 (.bin .add (.v 11) (.call "_law_some" .val (.cons (.v 2) (.cons (.comp (.v 14) (.n 14) [14] (.e (.v 3)) (.isin .notin (.v 14) (.v 11))) (.cons (.bin .add (.c (.int 1)) (.call "_law_take" .val (.cons (.v 2) (.cons (.c (.int 3)) .nil)))) .nil))))))
  (.seq (.setix (.v 8) (.c (.str (Str.ofString "at"))) (.v 10))
  (.seq (.setix (.v 8) (.c (.str (Str.ofString "rows"))) (.c (.int 9)))
  (.seq (.asg 13 (.call "_law_rows" .val (.cons (.v 2) (.cons (.v 8) (.cons (.v 12) (.cons (.c (.int 1)) .nil))))))
  (.ex (.me .append (.v 9) (.cons (.tup (.cons (.v 7) (.cons (.bi .tuple (.cons (.v 11) .nil)) (.cons (.v 13) (.cons (.call "_law_expression" .val (.cons (.v 2) (.cons (.v 12) (.cons (.c (.int 2)) .nil)))) .nil))))) .nil)))))))))
  (.ret (.bi .tuple (.cons (.v 9) .nil))))))))))))⟩
def _law_calls_v2 : Fn := ⟨1, 3, (.seq (.asg 1 (.new (.lst .nil)))
  (.seq (.forS (.n 2) (.e (.v 0))
  (.seq (.ite (.eq .eq (.ix (.v 2) (.c (.int 0))) (.c (.str (Str.ofString "call"))))
  (.ex (.me .append (.v 1) (.cons (.v 2) .nil)))
  .skip)
  (.seq (.ite (.isin .isin (.ix (.v 2) (.c (.int 0))) (.tup (.cons (.c (.str (Str.ofString "when"))) (.cons (.c (.str (Str.ofString "turn"))) .nil))))
  (.ex (.me .extend (.v 1) (.cons (.call "_law_calls" .val (.cons (.ix (.v 2) (.c (.int 2))) .nil)) .nil)))
  .skip)
  (.ite (.eq .eq (.ix (.v 2) (.c (.int 0))) (.c (.str (Str.ofString "when"))))
  (.ex (.me .extend (.v 1) (.cons (.call "_law_calls" .val (.cons (.ix (.v 2) (.c (.int 3))) .nil)) .nil)))
  .skip))))
  (.ret (.v 1))))⟩
def _law_marks_v2 : Fn := ⟨1, 4, (.seq (.asg 1 (.new (.lst .nil)))
  (.seq (.forS (.n 2) (.e (.v 0))
  (.ex (.me .extend (.v 1) (.cons (.comp (.ix (.v 3) (.c (.int 4))) (.n 3) [3] (.e (.call "_law_calls" .val (.cons (.ix (.v 2) (.c (.int 2))) .nil))) (.c (.bl true))) .nil))))
  (.ret (.bi .sorted (.cons (.v 1) .nil)))))⟩
def _law_read_v3 : Fn := ⟨1, 1, (.seq (.ite (.eq .eq (.ix (.v 0) (.c (.int 0))) (.c (.str (Str.ofString "number"))))
  (.ret (.new (.lst .nil)))
  .skip)
  (.seq (.ite (.eq .eq (.ix (.v 0) (.c (.int 0))) (.c (.str (Str.ofString "name"))))
  (.ret (.new (.lst (.cons (.ix (.v 0) (.c (.int 1))) .nil))))
  .skip)
  (.ret (.new (.bin .add (.call "_law_read" .val (.cons (.ix (.v 0) (.c (.int 1))) .nil)) (.call "_law_read" .val (.cons (.ix (.v 0) (.c (.int 2))) .nil)))))))⟩
def _law_row_names : Fn := ⟨1, 5, (.seq (.ite (.eq .eq (.ix (.v 0) (.c (.int 0))) (.c (.str (Str.ofString "set"))))
  (.ret (.bin .add (.call "_law_read" .val (.cons (.ix (.v 0) (.c (.int 2))) .nil)) (.lst (.cons (.ix (.v 0) (.c (.int 1))) .nil))))
  .skip)
  (.seq (.ite (.eq .eq (.ix (.v 0) (.c (.int 0))) (.c (.str (Str.ofString "call"))))
  (.seq (.asg 1 (.new (.lst (.cons (.ix (.v 0) (.c (.int 1))) .nil))))
  (.seq (.forS (.n 2) (.e (.ix (.v 0) (.c (.int 3))))
  (.ex (.me .extend (.v 1) (.cons (.call "_law_read" .val (.cons (.v 2) .nil)) .nil))))
  (.ret (.v 1))))
  .skip)
  (.seq (.asg 1 (.call "_law_read" .obj (.cons (.ix (.v 0) (.c (.int 1))) .nil)))
  (.seq (.forS (.n 3) (.e (.sl (.v 0) (.cons (.c (.int 2)) .nil) .nil))
  (.forS (.n 4) (.e (.v 3))
  (.ex (.me .extend (.v 1) (.cons (.call "_law_row_names" .val (.cons (.v 4) .nil)) .nil)))))
  (.ret (.v 1))))))⟩
def _law_many_own : Fn := ⟨1, 3, (.seq (.asg 1 (.new (.bin .add (.bi .list (.cons (.ix (.v 0) (.c (.int 1))) .nil)) (.call "_law_read" .val (.cons (.ix (.v 0) (.c (.int 3))) .nil)))))
  (.seq (.forS (.n 2) (.e (.ix (.v 0) (.c (.int 2))))
  (.ex (.me .extend (.v 1) (.cons (.call "_law_row_names" .val (.cons (.v 2) .nil)) .nil))))
  (.ret (.bi .setlen (.cons (.v 1) .nil)))))⟩
def _law_due_gain : Fn := ⟨4, 8, (.seq (.forS (.n 4) (.e (.v 0))
  (.forS (.n 5) (.e (.call "_law_calls" .val (.cons (.ix (.v 4) (.c (.int 2))) .nil)))
  (.ite (.eq .eq (.ix (.v 5) (.c (.int 4))) (.v 3))
  (.seq (.asg 6 (.ix (.comp (.v 7) (.n 7) [7] (.e (.v 0)) (.eq .eq (.ix (.v 7) (.c (.int 0))) (.ix (.v 5) (.c (.int 2))))) (.c (.int 0))))
  (.ret (.bin .mul (.ix (.v 1) (.v 3)) (.bin .sub (.v 2) (.call "_law_many_own" .val (.cons (.v 6) .nil))))))
  .skip)))
  (.ret (.c (.int 0))))⟩
def _law_refused_v2 : Fn := ⟨4, 6, (.seq (.asg 4 (.c .non))
  (.tryK (.ex (.call "mark_gain" .val (.cons (.v 0) (.cons (.v 1) (.cons (.v 2) (.cons (.v 3) .nil)))))) "FoldError" 5 (.asg 4 (.v 5))
  (.seq (.ite (.isCs (.v 4) ["NoCall", "NoDeed", "NoRow"])
  (.ret (.c (.bl false)))
  .skip)
  (.ret (.and (.isC (.v 4) "NoMark") (.isC (.v 4) "ValueError"))))))⟩
def law_k43 : Fn := ⟨1, 12, (.seq (.asg 1 (.call "_law_cells" .val (.cons (.v 0) (.cons (.c (.int 9)) .nil))))
  (.seq (.asg 2 (.call "_law_book" .val (.cons (.v 1) (.cons (.c (.int 5)) .nil))))
  (.seq (.asg 3 (.call "_law_marks" .val (.cons (.v 2) .nil)))
  (.seq (.asg 4 (.call "_law_pool" .obj (.cons (.v 1) (.cons (.c (.int 8)) .nil))))
  (.seq (.asg 5 (.bi .dictP (.cons (.comp (.tup (.cons (.v 8) (.cons (.ix (.lst (.cons (.c (.int 0)) (.cons (.c (.int 1)) (.cons (.call "_law_take" .val (.cons (.v 4) (.cons (.c (.int 1000001)) .nil))) .nil)))) (.call "_law_take" .val (.cons (.v 4) (.cons (.c (.int 3)) .nil)))) .nil))) (.n 8) [8] (.e (.v 3)) (.c (.bl true))) .nil)))
  (.seq (.asg 6 (.bi .dict (.cons (.v 5) .nil)))
  (.seq (.asg 7 (.ix (.lst (.cons (.c (.int 0)) (.cons (.c (.int 3)) (.cons (.c (.int 1000)) (.cons (.call "_law_take" .val (.cons (.v 4) (.cons (.c (.int 1001)) .nil))) .nil))))) (.call "_law_take" .val (.cons (.v 4) (.cons (.c (.int 4)) .nil)))))
  (.seq (.forS (.n 8) (.e (.v 3))
  (.seq (.asg 9 (.call "mark_gain" .val (.cons (.v 2) (.cons (.v 6) (.cons (.v 7) (.cons (.v 8) .nil))))))
  (.seq (.ite (.or (.not (.isT (.v 9) .int)) (.isT (.v 9) .bool))
  (.ret (.c (.bl false)))
  .skip)
  (.ite (.or (.eq .ne (.v 9) (.call "_law_due_gain" .val (.cons (.v 2) (.cons (.v 5) (.cons (.v 7) (.cons (.v 8) .nil)))))) (.eq .ne (.call "mark_gain" .val (.cons (.v 2) (.cons (.v 6) (.cons (.v 7) (.cons (.v 8) .nil))))) (.v 9)))
  (.ret (.c (.bl false)))
  .skip))))
  (.seq (.asg 10 (.call "_law_take" .val (.cons (.v 4) (.cons (.bin .pow (.c (.int 10)) (.c (.int 29))) .nil))))
  (.seq (.forS (.n 8) (.e (.bin .add (.sl (.comp (.v 11) (.n 11) [11] (.range (.c (.int 100))) (.isin .notin (.v 11) (.v 3))) .nil (.cons (.c (.int 5)) .nil)) (.lst (.cons (.neg (.c (.int 1))) (.cons (.c (.int 100)) (.cons (.bin .add (.c (.int 100)) (.v 10)) (.cons (.bin .sub (.neg (.c (.int 1))) (.v 10)) .nil)))))))
  (.ite (.not (.call "_law_refused" .val (.cons (.v 2) (.cons (.v 6) (.cons (.v 7) (.cons (.v 8) .nil))))))
  (.ret (.c (.bl false)))
  .skip))
  (.ret (.and (.eq .eq (.v 6) (.v 5)) (.eq .eq (.v 2) (.call "_law_book" .val (.cons (.v 1) (.cons (.c (.int 5)) .nil))))))))))))))))⟩
def called_by_v3 : Fn := ⟨1, 3, (.seq (.asg 1 (.new (.lst .nil)))
  (.seq (.forS (.n 2) (.e (.v 0))
  (.ex (.me .extend (.v 1) (.cons (.call "calls_of" .val (.cons (.v 2) .nil)) .nil))))
  (.ret (.bi .dictP (.cons (.bi .sortPr (.cons (.v 1) .nil)) .nil)))))⟩
end Mi.D
/-! La: expressions and their worths. -/
namespace Mi
open PySem (Str)
inductive Wd where | plus | less | times | over | rest | under | same
  deriving DecidableEq
def Wd.s : Wd → Str
  | .plus => Str.ofString "plus"
  | .less => Str.ofString "less"
  | .times => Str.ofString "times"
  | .over => Str.ofString "over"
  | .rest => Str.ofString "rest"
  | .under => Str.ofString "under"
  | .same => Str.ofString "same"
inductive Ex where
  | num (i : Int)
  | nam (s : Str)
  | op (w : Wd) (a b : Ex)
  deriving DecidableEq
def Ex.v : Ex → Val
  | .num i => .tup [.str (Str.ofString "number"), .int i]
  | .nam s => .tup [.str (Str.ofString "name"), .str s]
  | .op w a b => .tup [.str w.s, a.v, b.v]
def Ex.deep : Ex → Nat
  | .num _ => 1
  | .nam _ => 1
  | .op _ a b => max a.deep b.deep + 1
theorem Ex.nr : ∀ e : Ex, Mi.nr e.v = true
  | .num i => rfl
  | .nam s => rfl
  | .op w a b => by simp [Ex.v, Mi.nr, Mi.nrL, Ex.nr a, Ex.nr b]
def bd (i : Int) : Prop := i.natAbs < 1073741824
def jn : Wd → Int → Int → Option Int
  | .plus, a, b => some ((a + b).fmod 1000000)
  | .less, a, b => some ((a - b).fmod 1000000)
  | .times, a, b => some ((a * b).fmod 1000000)
  | .under, a, b => some (if a < b then 1 else 0)
  | .same, a, b => some (if a = b then 1 else 0)
  | .over, a, b => if b = 0 then none else some (a.fdiv b)
  | .rest, a, b => if b = 0 then none else some (a.fmod b)
theorem fmod_lt {a m : Int} (h : 0 < m) : 0 ≤ a.fmod m ∧ a.fmod m < m := by
  rw [Int.fmod_eq_emod_of_nonneg a (Int.le_of_lt h)]
  exact ⟨Int.emod_nonneg _ (by omega), Int.emod_lt_of_pos _ h⟩
abbrev Hd := List (Str × Int)
def hdV (l : Hd) : List Val := l.map fun p => .tup [.str p.1, .int p.2]
def worth : Ex → Hd → Option Int
  | .num i, _ => some i
  | .nam s, l => some ((l.lookup s).getD 0)
  | .op w a b, l => (worth a l).bind fun x => (worth b l).bind fun y => jn w x y
def Ex.ok : Ex → Prop
  | .num i => bd i
  | .nam _ => True
  | .op _ a b => a.ok ∧ b.ok
def okH (l : Hd) : Prop := ∀ p ∈ l, bd p.2
@[simp] theorem w_num (w : Wd) : (w.s = Str.ofString "number") = False := by cases w <;> simp [Wd.s]
@[simp] theorem w_nam (w : Wd) : (w.s = Str.ofString "name") = False := by cases w <;> simp [Wd.s]
section
variable {P : Prog} {n : Nat} {μ : Mu} {Q : Val → Mu → Prop} {X : XQ}
structure WorthP (P : Prog) : Prop where
  j : P "joined_worth" = some D.joined_worth
  w : P "worth_of" = some D.worth_of
/-! the judge's own reckoning -/
def oV : Option Int → Val
  | none => .non
  | some i => .int i
@[simp] theorem oV_some (i : Int) : oV (some i) = .int i := rfl
@[simp] theorem oV_none : oV none = .non := rfl
structure LWorthP (P : Prog) : Prop where
  j : P "_law_joined" = some D._law_joined
  w : P "_law_worth" = some D._law_worth
end
end Mi
/-! Lb: pots, what is drawn out of them. -/
namespace Mi
open PySem (Str)
def Pot (μ : Mu) (p : Ad) : Prop := ∃ l : List Int, μ p = some (.lst (l.map Val.int)) ∧ l ≠ [] ∧ l.length ≤ 100 ∧ ∀ x ∈ l, 0 ≤ x
structure Pw (p : Ad) (μ μ' : Mu) : Prop where
  pot : Pot μ' p
  eq : ∀ a, a ≠ p → μ' a = μ a
theorem Pw.refl {p : Ad} {μ : Mu} (h : Pot μ p) : Pw p μ μ := ⟨h, fun _ _ => rfl⟩
theorem Pw.trans {p : Ad} {μ μ1 μ2 : Mu} (a : Pw p μ μ1) (b : Pw p μ1 μ2) : Pw p μ μ2 := ⟨b.pot, fun c h => (b.eq c h).trans (a.eq c h)⟩
theorem Pot.some {p : Ad} {μ : Mu} (h : Pot μ p) : (μ p).isSome = true := by obtain ⟨l, e, _⟩ := h; rw [e]; rfl
theorem Pot.ne {p q : Ad} {μ : Mu} (h : Pot μ p) (hq : μ q = none) : q ≠ p := fun e => by have := h.some; rw [← e, hq] at this; cases this
theorem Pot.set {p q : Ad} {μ : Mu} {v : Val} (h : Pot μ p) (hq : q ≠ p) : Pot (μ.set q v) p := by
  obtain ⟨l, e, r⟩ := h
  exact ⟨l, by rw [mset_ne (Ne.symm hq)]; exact e, r⟩
theorem Pw.cut {p : Ad} {μ μ' : Mu} (h0 : Pot μ p) (h : Pot μ' p) (he : ∀ a, (μ a).isSome = true → a ≠ p → μ' a = μ a) : Pw p μ (μ'.cut μ) := by
  have hp := h0.some
  refine ⟨?_, fun a ha => ?_⟩
  · obtain ⟨l, e, r⟩ := h
    exact ⟨l, by unfold Mu.cut; rw [if_pos hp]; exact e, r⟩
  · unfold Mu.cut
    split
    · exact he a ‹_› ha
    · cases q : μ a with
      | none => rfl
      | some v => rename_i z; rw [q] at z; exact (z rfl).elim
section
variable {P : Prog} {n : Nat} {μ : Mu} {Q : Val → Mu → Prop} {X : XQ} {p : Ad}
def strsV (l : List Str) : Val := .lst (l.map Val.str)
structure DrawP (P : Prog) : Prop where
  t : P "_law_take" = some D._law_take
  v : P "_law_value" = some D._law_value
  d : P "_law_drawn" = some D._law_drawn
theorem plainL_strs (l : List Str) : plainL (l.map Val.str) = true ∧ depL (l.map Val.str) = 0 := by
  induction l with
  | nil => exact ⟨rfl, rfl⟩
  | cons a r ih => simp [plainL, plain, depL, dep, ih]
def Ex.names : Ex → List Str
  | .num _ => []
  | .nam s => [s]
  | .op _ a b => a.names ++ b.names
def Ex.small : Ex → Prop
  | .num i => 0 ≤ i ∧ i < 1000000
  | .nam _ => True
  | .op _ a b => a.small ∧ b.small
theorem Ex.small.ok : ∀ {e : Ex}, e.small → e.ok
  | .num i, h => by unfold Ex.small at h; show bd i; unfold bd; omega
  | .nam _, _ => trivial
  | .op _ a b, h => ⟨Ex.small.ok h.1, Ex.small.ok h.2⟩
/-! names -/
@[simp] theorem eqb_str {a b : Str} : eqb (.str a) (.str b) = (a == b) := rfl
theorem any_strs {l : List Str} {s : Str} : (l.map Val.str).any (fun y => eqb y (.str s)) = decide (s ∈ l) := by
  induction l with
  | nil => simp
  | cons a r ih =>
    rw [List.map_cons, List.any_cons, ih, eqb_str, Bool.eq_iff_iff]
    simp only [List.mem_cons, Bool.or_eq_true, beq_iff_eq, decide_eq_true_eq]
    exact ⟨fun h => h.imp Eq.symm id, fun h => h.imp Eq.symm id⟩
theorem in_strs {v : Val} {l : List Str} {s : Str} (h : content μ v = some (.lst (l.map Val.str))) : inV μ (.str s) v = some (decide (s ∈ l)) := by
  unfold inV
  rw [h]
  have h1 := plainL_strs l
  show (if plain (.str s) = true ∧ plainL (l.map Val.str) = true ∧ min (dep (.str s)) (depL (l.map Val.str)) ≤ 150 then some ((l.map Val.str).any fun y => eqb y (.str s)) else none) = _
  rw [if_pos ⟨rfl, h1.1, by rw [h1.2]; exact Nat.zero_le _⟩, any_strs]
def nmOk (s : Str) : Prop := s.length ≤ 4 ∧ ∀ c ∈ s.cps.toList, 97 ≤ c ∧ c ≤ 122
end
/-! held values -/
def hput (s : Str) (v : Int) : Hd → Hd
  | [] => [(s, v)]
  | (k, w) :: r => if s == k then (k, v) :: r else (k, w) :: hput s v r
end Mi
/-! Lc: names and depths of expressions. -/
namespace Mi
open PySem (Str)
section
variable {P : Prog} {n : Nat} {μ : Mu} {Q : Val → Mu → Prop} {X : XQ} {p : Ad}
/-! the judge's own reading, by a list of what is left -/
def Ex.size : Ex → Nat
  | .num _ => 1
  | .nam _ => 1
  | .op _ a b => a.size + b.size + 1
def leftV (l : List (Ex × Int)) : Val := .lst (l.map fun p => .tup [p.1.v, .int p.2])
def restN (l : List (Ex × Int)) : List Str := (l.reverse.map fun p => p.1.names).flatten
def restD (l : List (Ex × Int)) (d : Int) : Int := l.foldr (fun p m => max m (p.2 + (p.1.deep : Int) - 1)) d
def restS (l : List (Ex × Int)) : Nat := (l.map fun p => p.1.size).sum
theorem Ex.plain : ∀ e : Ex, Mi.plain e.v = true
  | .num _ => rfl
  | .nam _ => rfl
  | .op w a b => by simp [Ex.v, Mi.plain, Mi.plainL, Ex.plain a, Ex.plain b]
end
end Mi
/-! Ld: rows, deeds, books as data. -/
namespace Mi
open PySem (Str)
theorem plain_nr' : (∀ v, plain v = true → nr v = true) ∧ (∀ l, plainL l = true → nrL l = true) := by
  have : ∀ n : Nat, (∀ v, sizeOf v < n → plain v = true → nr v = true) ∧ (∀ l, sizeOf l < n → plainL l = true → nrL l = true) := by
    intro n
    induction n with
    | zero => exact ⟨fun v h => by omega, fun l h => by omega⟩
    | succ n ih =>
      refine ⟨fun v h p => ?_, fun l h p => ?_⟩
      · cases v with
        | tup l => exact ih.2 l (by simp at h; omega) p
        | lst l => exact ih.2 l (by simp at h; omega) p
        | _ => first | rfl | cases p
      · cases l with
        | nil => rfl
        | cons v r =>
          simp only [plainL, Bool.and_eq_true] at p
          simp only [nrL, Bool.and_eq_true]
          exact ⟨ih.1 v (by simp at h; omega) p.1, ih.2 r (by simp at h; omega) p.2⟩
  exact ⟨fun v => (this (sizeOf v + 1)).1 v (Nat.lt_succ_self _), fun l => (this (sizeOf l + 1)).2 l (Nat.lt_succ_self _)⟩
theorem plain_nr {v : Val} (h : plain v = true) : nr v = true := plain_nr'.1 v h
theorem plainL_nr {l : List Val} (h : plainL l = true) : nrL l = true := plain_nr'.2 l h
theorem eqb_refl' : (∀ v, plain v = true → eqb v v = true) ∧ (∀ l, plainL l = true → eqbL l l = true) := by
  have : ∀ n : Nat, (∀ v, sizeOf v < n → plain v = true → eqb v v = true) ∧ (∀ l, sizeOf l < n → plainL l = true → eqbL l l = true) := by
    intro n
    induction n with
    | zero => exact ⟨fun v h => by omega, fun l h => by omega⟩
    | succ n ih =>
      refine ⟨fun v h p => ?_, fun l h p => ?_⟩
      · cases v with
        | tup l => unfold eqb; exact ih.2 l (by simp at h; omega) p
        | lst l => unfold eqb; exact ih.2 l (by simp at h; omega) p
        | non => simp [eqb]
        | bl b => simp [eqb]
        | int i => simp [eqb]
        | str s => simp [eqb]
        | _ => cases p
      · cases l with
        | nil => simp [eqbL]
        | cons v r =>
          simp only [plainL, Bool.and_eq_true] at p
          unfold eqbL
          simp only [Bool.and_eq_true]
          exact ⟨ih.1 v (by simp at h; omega) p.1, ih.2 r (by simp at h; omega) p.2⟩
  exact ⟨fun v => (this (sizeOf v + 1)).1 v (Nat.lt_succ_self _), fun l => (this (sizeOf l + 1)).2 l (Nat.lt_succ_self _)⟩
theorem eqb_refl {v : Val} (h : plain v = true) : eqb v v = true := eqb_refl'.1 v h
theorem plainL_iff {l : List Val} : plainL l = true ↔ ∀ v ∈ l, plain v = true := by
  induction l with
  | nil => simp [plainL]
  | cons v r ih => simp [plainL, ih]
theorem depL_le {l : List Val} {k : Nat} : depL l ≤ k ↔ ∀ v ∈ l, dep v ≤ k := by
  induction l with
  | nil => simp [depL]
  | cons v r ih => simp only [depL, List.forall_mem_cons, ← ih]; omega
theorem eq_same {μ : Mu} {v w x : Val} (hv : content μ v = some x) (hw : content μ w = some x) (hp : plain x = true) (hd : dep x ≤ 150) : eqV μ v w = some true := by
  refine eqV_of hv hw ?_
  rw [eq_plain hp hp (by omega) (fun l e => by rw [e] at hp; cases hp), eqb_refl hp]
inductive Rw where
  | set (n : Str) (e : Ex)
  | say (e : Ex)
  | call (n w : Str) (as : List Ex) (m : Int)
  | when (e : Ex) (a b : List Rw)
  | turn (e : Ex) (b : List Rw)
mutual
def Rw.v : Rw → Val
  | .set n e => .tup [.str (Str.ofString "set"), .str n, e.v]
  | .say e => .tup [.str (Str.ofString "say"), e.v]
  | .call n w as m => .tup [.str (Str.ofString "call"), .str n, .str w, .tup (as.map Ex.v), .int m]
  | .when e a b => .tup [.str (Str.ofString "when"), e.v, .tup (Rw.vs a), .tup (Rw.vs b)]
  | .turn e b => .tup [.str (Str.ofString "turn"), e.v, .tup (Rw.vs b)]
def Rw.vs : List Rw → List Val
  | [] => []
  | r :: t => r.v :: Rw.vs t
end
theorem vs_map : ∀ l : List Rw, Rw.vs l = l.map Rw.v
  | [] => rfl
  | r :: t => by rw [Rw.vs, vs_map t]; rfl
mutual
def Rw.flat : Rw → List Rw
  | .set n e => [.set n e]
  | .say e => [.say e]
  | .call n w as m => [.call n w as m]
  | .when e a b => .when e a b :: (flats a ++ flats b)
  | .turn e b => .turn e b :: flats b
def flats : List Rw → List Rw
  | [] => []
  | r :: t => r.flat ++ flats t
end
mutual
def Rw.dp : Rw → Nat
  | .set _ _ => 1
  | .say _ => 1
  | .call _ _ _ _ => 1
  | .when _ a b => max (dps a) (dps b) + 1
  | .turn _ b => dps b + 1
def dps : List Rw → Nat
  | [] => 0
  | r :: t => max r.dp (dps t)
end
def Rw.within : Rw → List Rw
  | .when _ a b => a ++ b
  | .turn _ b => b
  | _ => []
theorem flats_append : ∀ (a b : List Rw), flats (a ++ b) = flats a ++ flats b
  | [], b => rfl
  | r :: t, b => by rw [List.cons_append, flats, flats, flats_append t b, List.append_assoc]
theorem dps_append : ∀ (a b : List Rw), dps (a ++ b) = max (dps a) (dps b)
  | [], b => by simp [dps]
  | r :: t, b => by rw [List.cons_append, dps, dps, dps_append t b]; omega
theorem Rw.flat_eq (r : Rw) : r.flat = r :: flats r.within := by
  cases r <;> simp [Rw.flat, Rw.within, flats, flats_append]
theorem Rw.dp_eq (r : Rw) : r.dp = dps r.within + 1 := by
  cases r <;> simp [Rw.dp, Rw.within, dps, dps_append]
theorem flats_len : ∀ l : List Rw, l.length ≤ (flats l).length
  | [] => Nat.le_refl 0
  | r :: t => by
    have := flats_len t
    rw [flats, r.flat_eq]
    simp
    omega
def Rw.mark : Rw → Option Int
  | .call _ _ _ m => some m
  | _ => none
def mks (l : List Rw) : List Int := (flats l).filterMap Rw.mark
theorem mks_append (a b : List Rw) : mks (a ++ b) = mks a ++ mks b := by unfold mks; rw [flats_append, List.filterMap_append]
theorem mks_cons (r : Rw) (t : List Rw) : mks (r :: t) = r.flat.filterMap Rw.mark ++ mks t := by unfold mks; rw [flats, List.filterMap_append]
structure ExOk (names : List Str) (e : Ex) : Prop where
  small : e.small
  deep : e.deep ≤ 3
  names : ∀ s ∈ e.names, s ∈ names
def Rw.ok (names : List Str) (hs : List (Str × List Str)) : Rw → Prop
  | .set n e => n ∈ names ∧ ExOk names e
  | .say e => ExOk names e
  | .call n w as m => n ∈ names ∧ (∀ e ∈ as, ExOk names e) ∧ (∃ ps, (w, ps) ∈ hs ∧ as.length = ps.length) ∧ 0 ≤ m ∧ m < 100
  | .when e _ _ => ExOk names e
  | .turn e _ => ExOk names e
def RwsOk (names : List Str) (hs : List (Str × List Str)) (l : List Rw) : Prop := ∀ r ∈ flats l, r.ok names hs
theorem Ex.dep_le : ∀ e : Ex, dep e.v ≤ e.deep
  | .num _ => by simp [Ex.v, dep, depL, Ex.deep]
  | .nam _ => by simp [Ex.v, dep, depL, Ex.deep]
  | .op w a b => by
    have := Ex.dep_le a
    have := Ex.dep_le b
    simp only [Ex.v, dep, depL, Ex.deep]
    omega
mutual
theorem Rw.plain : ∀ r : Rw, Mi.plain r.v = true
  | .set n e => by simp [Rw.v, Mi.plain, Mi.plainL, Ex.plain]
  | .say e => by simp [Rw.v, Mi.plain, Mi.plainL, Ex.plain]
  | .call n w as m => by
    have : plainL (as.map Ex.v) = true := plainL_iff.mpr fun v hv => by obtain ⟨e, _, rfl⟩ := List.mem_map.mp hv; exact Ex.plain e
    simp [Rw.v, Mi.plain, Mi.plainL, this]
  | .when e a b => by simp [Rw.v, Mi.plain, Mi.plainL, Ex.plain, Rw.plains a, Rw.plains b]
  | .turn e b => by simp [Rw.v, Mi.plain, Mi.plainL, Ex.plain, Rw.plains b]
theorem Rw.plains : ∀ l : List Rw, Mi.plainL (Rw.vs l) = true
  | [] => rfl
  | r :: t => by simp [Rw.vs, Mi.plainL, Rw.plain r, Rw.plains t]
end
def Rw.low : Rw → Prop
  | .set _ e => e.deep ≤ 3
  | .say e => e.deep ≤ 3
  | .call _ _ as _ => ∀ e ∈ as, e.deep ≤ 3
  | .when e _ _ => e.deep ≤ 3
  | .turn e _ => e.deep ≤ 3
theorem Rw.ok.low {names : List Str} {hs : List (Str × List Str)} {r : Rw} (h : r.ok names hs) : r.low := by
  cases r with
  | set n e => exact h.2.deep
  | say e => exact h.deep
  | call n w as m => exact fun e he => (h.2.1 e he).deep
  | when e a b => exact h.deep
  | turn e b => exact h.deep
mutual
theorem Rw.dep_le : ∀ r : Rw, (∀ q ∈ r.flat, q.low) → dep r.v ≤ 2 * r.dp + 3
  | .set n e, h => by
    have h1 : e.deep ≤ 3 := h (.set n e) (by simp [Rw.flat])
    have := e.dep_le
    simp only [Rw.v, dep, depL, Rw.dp]; omega
  | .say e, h => by
    have h1 : e.deep ≤ 3 := h (.say e) (by simp [Rw.flat])
    have := e.dep_le
    simp only [Rw.v, dep, depL, Rw.dp]; omega
  | .call n w as m, h => by
    have h1 : ∀ e ∈ as, e.deep ≤ 3 := h (.call n w as m) (by simp [Rw.flat])
    have h2 : depL (as.map Ex.v) ≤ 3 := depL_le.mpr fun v hv => by
      obtain ⟨e, he, rfl⟩ := List.mem_map.mp hv
      have := e.dep_le
      have := h1 e he
      omega
    simp only [Rw.v, dep, depL, Rw.dp]; omega
  | .when e a b, h => by
    have h1 : e.deep ≤ 3 := h (.when e a b) (by simp [Rw.flat])
    have := e.dep_le
    have h2 := Rw.deps_le a fun q hq => h q (by simp [Rw.flat, hq])
    have h3 := Rw.deps_le b fun q hq => h q (by simp [Rw.flat, hq])
    simp only [Rw.v, dep, depL, Rw.dp]; omega
  | .turn e b, h => by
    have h1 : e.deep ≤ 3 := h (.turn e b) (by simp [Rw.flat])
    have := e.dep_le
    have h3 := Rw.deps_le b fun q hq => h q (by simp [Rw.flat, hq])
    simp only [Rw.v, dep, depL, Rw.dp]; omega
theorem Rw.deps_le : ∀ l : List Rw, (∀ q ∈ flats l, q.low) → depL (Rw.vs l) ≤ 2 * dps l + 3
  | [], h => by simp [Rw.vs, depL]
  | r :: t, h => by
    have h2 := Rw.dep_le r fun q hq => h q (by simp [flats, hq])
    have h3 := Rw.deps_le t fun q hq => h q (by simp [flats, hq])
    simp only [Rw.vs, depL, dps]; omega
end
mutual
theorem Rw.sub : ∀ (x : Rw) {r : Rw}, r ∈ x.flat → (∀ q ∈ r.flat, q ∈ x.flat) ∧ r.dp ≤ x.dp
  | .set n e, r, h => by simp [Rw.flat] at h; subst h; exact ⟨fun _ h => h, Nat.le_refl _⟩
  | .say e, r, h => by simp [Rw.flat] at h; subst h; exact ⟨fun _ h => h, Nat.le_refl _⟩
  | .call n w as m, r, h => by simp [Rw.flat] at h; subst h; exact ⟨fun _ h => h, Nat.le_refl _⟩
  | .when e a b, r, h => by
    rw [Rw.flat] at h
    rcases List.mem_cons.mp h with h | h
    · subst h; exact ⟨fun _ h => h, Nat.le_refl _⟩
    · rcases List.mem_append.mp h with h | h
      · have := flats_sub a h
        exact ⟨fun q hq => by rw [Rw.flat]; exact List.mem_cons_of_mem _ (List.mem_append_left _ (this.1 q hq)), by have := this.2; simp only [Rw.dp]; omega⟩
      · have := flats_sub b h
        exact ⟨fun q hq => by rw [Rw.flat]; exact List.mem_cons_of_mem _ (List.mem_append_right _ (this.1 q hq)), by have := this.2; simp only [Rw.dp]; omega⟩
  | .turn e b, r, h => by
    rw [Rw.flat] at h
    rcases List.mem_cons.mp h with h | h
    · subst h; exact ⟨fun _ h => h, Nat.le_refl _⟩
    · have := flats_sub b h
      exact ⟨fun q hq => by rw [Rw.flat]; exact List.mem_cons_of_mem _ (this.1 q hq), by have := this.2; simp only [Rw.dp]; omega⟩
theorem flats_sub : ∀ (l : List Rw) {r : Rw}, r ∈ flats l → (∀ q ∈ r.flat, q ∈ flats l) ∧ r.dp ≤ dps l
  | [], r, h => by simp [flats] at h
  | x :: t, r, h => by
    rw [flats] at h
    rcases List.mem_append.mp h with h | h
    · have := Rw.sub x h
      exact ⟨fun q hq => by rw [flats]; exact List.mem_append_left _ (this.1 q hq), by have := this.2; simp only [dps]; omega⟩
    · have := flats_sub t h
      exact ⟨fun q hq => by rw [flats]; exact List.mem_append_right _ (this.1 q hq), by have := this.2; simp only [dps]; omega⟩
end
structure Dd where
  name : Str
  ps : List Str
  rows : List Rw
  give : Ex
def Dd.v (d : Dd) : Val := .tup [.str d.name, .tup (d.ps.map Val.str), .tup (Rw.vs d.rows), d.give.v]
theorem Dd.plain (d : Dd) : Mi.plain d.v = true := by
  have h := plainL_strs d.ps
  simp [Dd.v, Mi.plain, Mi.plainL, Rw.plains, Ex.plain, h.1]
def Dd.head (d : Dd) : Str × List Str := (d.name, d.ps)
def headV (h : Str × List Str) : Val := .tup [.str h.1, .tup (h.2.map Val.str)]
def bmks (b : List Dd) : List Int := (b.map fun d => mks d.rows).flatten
structure DdOk (names : List Str) (hs : List (Str × List Str)) (d : Dd) : Prop where
  rows : RwsOk names hs d.rows
  dp : dps d.rows ≤ 3
  len : (flats d.rows).length ≤ 20
  give : ExOk names d.give
  nd : d.ps.Nodup
  pl : d.ps.length ≤ 4
  sub : ∀ s ∈ d.ps, s ∈ names
theorem DdOk.dep {names : List Str} {hs : List (Str × List Str)} {d : Dd} (h : DdOk names hs d) : dep d.v ≤ 12 := by
  have h1 := Rw.deps_le d.rows fun q hq => (h.rows q hq).low
  have h2 := plainL_strs d.ps
  have h3 := h.give.deep
  have h4 := d.give.dep_le
  have h5 := h.dp
  simp only [Dd.v, Mi.dep, depL, h2.2]
  omega
structure BkOk (names : List Str) (b : List Dd) : Prop where
  ne : b ≠ []
  len : b.length ≤ 8
  nm : (b.map Dd.name).Nodup
  dd : ∀ d ∈ b, DdOk names (b.map Dd.head) d
  mn : (bmks b).Nodup
  mkl : (bmks b).length ≤ 10
  wl : ∀ d ∈ b, d.name.length ≤ 12
  nn : names.Nodup
  nl : names.length ≤ 6
  nok : ∀ s ∈ names, nmOk s
theorem bk_plain (b : List Dd) : plainL (b.map Dd.v) = true := plainL_iff.mpr fun v hv => by obtain ⟨d, _, rfl⟩ := List.mem_map.mp hv; exact d.plain
theorem BkOk.dep {names : List Str} {b : List Dd} (h : BkOk names b) : depL (b.map Dd.v) ≤ 12 := depL_le.mpr fun v hv => by obtain ⟨d, hd, rfl⟩ := List.mem_map.mp hv; exact (h.dd d hd).dep
theorem w_seq_inv {Φ : Ph} (hΦ : MonoP Φ) (I : Env → Mu → Prop) {a b : S} {env : Env} {μ : Mu} {D : En} (h1 : wpS Φ a env μ { D with nx := I }) (h2 : ∀ e m, I e m → wpS Φ b e m D) : wpS Φ (.seq a b) env μ D := by
  rw [w_seq]
  exact wpS_mono hΦ a env μ { D with nx := I } _ ⟨h2, fun _ _ z => z, fun _ _ _ z => z⟩ h1
/-! loops over data of one kind -/
theorem for_T {α : Type} (g : α → Val) (xs : List α) {Φ : Ph} (hΦ : MonoP Φ) {t : Tg} {it : It} {b : S} {env : Env} {μ : Mu} {D : En}
    (h : wpI Φ it env μ (fun l a μ1 => l = xs.map g ∧ ∃ I : List α → Env → Mu → Prop, I [] env μ1 ∧
      (∀ ys x zs env' μ', xs = ys ++ x :: zs → I ys env' μ' → gOk a μ' ∧ brV (t.asg (g x) env') fun env2 => wpS Φ b env2 μ' { D with nx := fun e m => I (ys ++ [x]) e m }) ∧
      (∀ env' μ', I xs env' μ' → gOk a μ' ∧ D.nx env' μ')) fun x μ' => D.ex x env μ') : wpS Φ (.forS t it b) env μ D := by
  refine for_rule hΦ (wpI_mono hΦ it env μ _ _ _ _ (fun l a μ1 ⟨hl, I, h0, hs, he⟩ => ?_) (fun _ _ z => z) h)
  subst hl
  refine ⟨fun done env' μ' => ∃ ys zs, xs = ys ++ zs ∧ done = ys.map g ∧ I ys env' μ', ⟨[], xs, rfl, rfl, h0⟩, ?_, ?_⟩
  · rintro done v rest env' μ' e ⟨ys, zs, hx, rfl, hI⟩
    obtain ⟨x, zs', rfl, rfl⟩ := split_map e hx
    obtain ⟨h1, h2⟩ := hs ys x zs' env' μ' hx hI
    refine ⟨h1, ?_⟩
    cases ha : t.asg (g x) env' with
    | none => rw [ha] at h2; exact h2.elim
    | some env2 =>
      rw [ha] at h2
      exact wpS_mono hΦ b env2 μ' { D with nx := fun e m => I (ys ++ [x]) e m } _ ⟨fun e m z => ⟨ys ++ [x], zs', by rw [hx]; simp, by simp, z⟩, fun _ _ z => z, fun _ _ _ z => z⟩ h2
  · rintro env' μ' ⟨ys, zs, hx, e, hI⟩
    have hz : zs = [] := by
      have := congrArg List.length e
      rw [hx] at this
      simp at this
      exact this
    subst hz
    rw [List.append_nil] at hx
    subst hx
    exact he _ _ hI
theorem comp_T {α : Type} (g : α → Val) (xs : List α) {Φ : Ph} (hΦ : MonoP Φ) {elt : E} {tg : Tg} {own : List Nat} {it : It} {cond : E} {env : Env} {μ : Mu} {Q : Val → Mu → Prop} {X : XQ}
    (h : wpI Φ it env μ (fun l a μ1 => l = xs.map g ∧ ∃ I : List α → List Val → Mu → Prop, I [] [] μ1 ∧
      (∀ ys x zs acc μ', xs = ys ++ x :: zs → I ys acc μ' → gOk a μ' ∧ brV (tg.asg (g x) (wipe env own)) fun env' =>
        wpE Φ cond env' μ' (fun t μ3 => br (truthV μ3 t) (wpE Φ elt env' μ3 (fun y μ4 => acc.length < big ∧ I (ys ++ [x]) (acc ++ [y]) μ4) fun _ _ => False) (I (ys ++ [x]) acc μ3)) fun _ _ => False) ∧
      (∀ acc μ', I xs acc μ' → gOk a μ' ∧ Q (.lst acc) μ')) X) : wpE Φ (.comp elt tg own it cond) env μ Q X := by
  refine comp_inv hΦ (wpI_mono hΦ it env μ _ _ _ _ (fun l a μ1 ⟨hl, I, h0, hs, he⟩ => ?_) (fun _ _ z => z) h)
  subst hl
  refine ⟨fun done acc μ' => ∃ ys zs, xs = ys ++ zs ∧ done = ys.map g ∧ I ys acc μ', ⟨[], xs, rfl, rfl, h0⟩, ?_, ?_⟩
  · rintro done v rest acc μ' e ⟨ys, zs, hx, rfl, hI⟩
    obtain ⟨x, zs', rfl, rfl⟩ := split_map e hx
    obtain ⟨h1, h2⟩ := hs ys x zs' acc μ' hx hI
    refine ⟨h1, ?_⟩
    cases ha : tg.asg (g x) (wipe env own) with
    | none => rw [ha] at h2; exact h2.elim
    | some env' =>
      rw [ha] at h2
      refine wpE_mono hΦ cond env' μ' _ _ _ _ (fun t μ3 z => ?_) (fun _ _ z => z) h2
      cases ht : truthV μ3 t with
      | none => rw [ht] at z; exact z.elim
      | some b =>
        rw [ht] at z
        cases b with
        | false => exact ⟨ys ++ [x], zs', by rw [hx]; simp, by simp, z⟩
        | true => exact wpE_mono hΦ elt env' μ3 _ _ _ _ (fun y μ4 y2 => ⟨y2.1, ys ++ [x], zs', by rw [hx]; simp, by simp, y2.2⟩) (fun _ _ z => z) z
  · rintro acc μ' ⟨ys, zs, hx, e, hI⟩
    have hz : zs = [] := by
      have := congrArg List.length e
      rw [hx] at this
      simp at this
      exact this
    subst hz
    rw [List.append_nil] at hx
    subst hx
    exact he _ _ hI
def enumT {α : Type} (i : Int) : List α → List (Int × α)
  | [] => []
  | v :: r => (i, v) :: enumT (i + 1) r
theorem enum_map {α : Type} (g : α → Val) : ∀ (l : List α) (i : Int), enumL i (l.map g) = (enumT i l).map fun p => .tup [.int p.1, g p.2]
  | [], i => rfl
  | v :: r, i => by rw [List.map_cons, enumL, enumT, List.map_cons, enum_map g r (i + 1)]
theorem enumT_at {α : Type} : ∀ {l : List α} {i : Int} {ys : List (Int × α)} {x : Int × α} {zs : List (Int × α)}, enumT i l = ys ++ x :: zs → x.1 = i + ys.length ∧ ∃ l1 l2, l = l1 ++ x.2 :: l2 ∧ ys = enumT i l1 ∧ l1.length = ys.length
  | [], i, ys, x, zs, h => by cases ys <;> cases h
  | v :: r, i, [], x, zs, h => by
    rw [enumT, List.nil_append] at h
    injection h with h1 h2
    subst h1
    exact ⟨by simp, [], r, rfl, rfl, rfl⟩
  | v :: r, i, y :: ys, x, zs, h => by
    rw [enumT, List.cons_append] at h
    injection h with h1 h2
    obtain ⟨e, l1, l2, hl, hy, hlen⟩ := enumT_at h2
    subst h1
    refine ⟨by rw [e]; simp; omega, v :: l1, l2, by rw [hl]; rfl, by rw [enumT, hy], by simp [hlen]⟩
theorem enumT_snd {α : Type} : ∀ (l : List α) (i : Int), (enumT i l).map Prod.snd = l
  | [], _ => rfl
  | v :: r, i => by rw [enumT, List.map_cons, enumT_snd r]
theorem ints_map (i : Int) (n : Nat) : intsFrom i n = (List.range n).map fun (k : Nat) => Val.int (i + (k : Int)) := rfl
end Mi
/-! Le: the functions about books. -/
namespace Mi
open PySem (Str)
theorem cut_keep {μ μ' : Mu} (h : ∀ a, (μ a).isSome = true → μ' a = μ a) : μ'.cut μ = μ := by
  funext c
  unfold Mu.cut
  cases hz : μ c with
  | none => simp
  | some v =>
    have := h c (by rw [hz]; rfl)
    simp [this, hz]
theorem isSome_ne {μ : Mu} {a r : Ad} (h : (μ a).isSome = true) (hr : μ r = none) : a ≠ r := fun e => by rw [e, hr] at h; cases h
theorem vs_nr (l : List Rw) : nrL (Rw.vs l) = true := plainL_nr (Rw.plains l)
theorem vs_append (a b : List Rw) : Rw.vs (a ++ b) = Rw.vs a ++ Rw.vs b := by rw [vs_map, vs_map, vs_map, List.map_append]
theorem vs_len (a : List Rw) : (Rw.vs a).length = a.length := by rw [vs_map, List.length_map]
theorem flats_snoc (ys : List Rw) (x : Rw) : flats (ys ++ [x]) = flats ys ++ x :: flats x.within := by rw [flats_append, flats, flats, List.append_nil, x.flat_eq]
section
variable {P : Prog} {n : Nat} {μ : Mu} {Q : Val → Mu → Prop} {X : XQ} {p : Ad}
theorem rows_within_ok (h : P "rows_within" = some D.rows_within) (r : Rw) (hl : r.flat.length ≤ 1000000) (hn : 1 ≤ n) (q : Q (.tup (Rw.vs r.within)) μ) : phi P n "rows_within" .val [r.v] μ Q X := by
  obtain ⟨n, rfl⟩ : ∃ k, n = k + 1 := ⟨n - 1, by omega⟩
  refine call_ok h rfl ?_
  cases r with
  | set x e => simp [D.rows_within, e_v, e_c, e_tup, e_lst, e_dct, s_nil, s_cons, e_ix, e_sl, e_bin, e_cmp, e_eq, e_ne, e_in, e_nin, e_isN, e_notN, e_chain, e_neg, e_not, e_and, e_or, e_ite, e_call, e_bi, e_me, e_isT, e_new, e_attr, e_mth, e_mk, w_setattr, w_skip, w_ex, w_asg, w_asgT, w_setix, w_ite, w_ret, w_raise, w_seq, Rw.v]; exact q
  | say e => simp [D.rows_within, e_v, e_c, e_tup, e_lst, e_dct, s_nil, s_cons, e_ix, e_sl, e_bin, e_cmp, e_eq, e_ne, e_in, e_nin, e_isN, e_notN, e_chain, e_neg, e_not, e_and, e_or, e_ite, e_call, e_bi, e_me, e_isT, e_new, e_attr, e_mth, e_mk, w_setattr, w_skip, w_ex, w_asg, w_asgT, w_setix, w_ite, w_ret, w_raise, w_seq, Rw.v]; exact q
  | call x w as m => simp [D.rows_within, e_v, e_c, e_tup, e_lst, e_dct, s_nil, s_cons, e_ix, e_sl, e_bin, e_cmp, e_eq, e_ne, e_in, e_nin, e_isN, e_notN, e_chain, e_neg, e_not, e_and, e_or, e_ite, e_call, e_bi, e_me, e_isT, e_new, e_attr, e_mth, e_mk, w_setattr, w_skip, w_ex, w_asg, w_asgT, w_setix, w_ite, w_ret, w_raise, w_seq, Rw.v]; exact q
  | when e a b =>
    have h1 := flats_len a
    have h2 := flats_len b
    simp [Rw.flat] at hl
    simp [D.rows_within, e_v, e_c, e_tup, e_lst, e_dct, s_nil, s_cons, e_ix, e_sl, e_bin, e_cmp, e_eq, e_ne, e_in, e_nin, e_isN, e_notN, e_chain, e_neg, e_not, e_and, e_or, e_ite, e_call, e_bi, e_me, e_isT, e_new, e_attr, e_mth, e_mk, w_setattr, w_skip, w_ex, w_asg, w_asgT, w_setix, w_ite, w_ret, w_raise, w_seq, Rw.v, vs_len, big_eq]
    refine ⟨by omega, ?_⟩
    rw [← vs_append]; exact q
  | turn e b => simp [D.rows_within, e_v, e_c, e_tup, e_lst, e_dct, s_nil, s_cons, e_ix, e_sl, e_bin, e_cmp, e_eq, e_ne, e_in, e_nin, e_isN, e_notN, e_chain, e_neg, e_not, e_and, e_or, e_ite, e_call, e_bi, e_me, e_isT, e_new, e_attr, e_mth, e_mk, w_setattr, w_skip, w_ex, w_asg, w_asgT, w_setix, w_ite, w_ret, w_raise, w_seq, Rw.v]; exact q
structure BkP (P : Prog) : Prop where
  w : P "rows_within" = some D.rows_within
  r : P "read_through" = some D.read_through
def resV (m : Md) (μ : Mu) (Q : Val → Mu → Prop) (v : Val) : Prop := match m with
  | .obj => ∀ r, μ r = none → Q (.ref r) (μ.set r v)
  | _ => Q v μ
theorem fin_res {m : Md} (hm : m = .val ∨ m = .obj) {r : Ad} {v : Val} (hr : μ r = none) (hn : nr v = true) (q : resV m μ Q v) : finM m μ Q (.ref r) (μ.set r v) := by
  rcases hm with rfl | rfl
  · rw [fin_new hr hn]; exact q
  · rw [fin_obj hr]; exact q r hr
theorem read_through_any (h : BkP P) : ∀ (d : Nat) (m : Md) (hm : m = .val ∨ m = .obj) (rows : List Rw) (n : Nat) (μ : Mu) (Q : Val → Mu → Prop) (X : XQ), dps rows ≤ d → (flats rows).length ≤ 1000000 → d + 1 ≤ n →
    resV m μ Q (.lst (Rw.vs (flats rows))) → phi P n "read_through" m [.tup (Rw.vs rows)] μ Q X := by
  intro d
  induction d with
  | zero => ?_
  | succ d ih => ?_
  all_goals
    intro m hm rows n μ Q X hd hl hn q
    obtain ⟨n, rfl⟩ : ∃ k, n = k + 1 := ⟨n - 1, by omega⟩
    have hΦ := phi_mono P n
    refine call_ok h.r rfl ?_
    simp [D.read_through, e_v, e_c, e_tup, e_lst, e_dct, s_nil, s_cons, e_ix, e_sl, e_bin, e_cmp, e_eq, e_ne, e_in, e_nin, e_isN, e_notN, e_chain, e_neg, e_not, e_and, e_or, e_ite, e_call, e_bi, e_me, e_isT, e_new, e_attr, e_mth, e_mk, w_setattr, w_skip, w_ex, w_asg, w_asgT, w_setix, w_ite, w_ret, w_raise, w_seq]
    intro r hr
    refine for_T Rw.v rows hΦ (i_e ?_ hΦ)
    simp [e_v, e_c, e_tup, e_lst, e_dct, s_nil, s_cons, e_ix, e_sl, e_bin, e_cmp, e_eq, e_ne, e_in, e_nin, e_isN, e_notN, e_chain, e_neg, e_not, e_and, e_or, e_ite, e_call, e_bi, e_me, e_isT, e_new, e_attr, e_mth, e_mk, w_setattr, w_skip, w_ex, w_asg, w_asgT, w_setix, w_ite, w_ret, w_raise]
    refine ⟨vs_map _, fun ys env' μ' => ∃ (o : Option Val), env' = [some (.tup (Rw.vs rows)), some (.ref r), o] ∧ μ' = μ.set r (.lst (Rw.vs (flats ys))), ⟨none, rfl, by simp [flats, Rw.vs]⟩, ?_, ?_⟩
  · rintro ys x zs env' μ' e ⟨o, rfl, rfl⟩
    have : dps rows = max (dps ys) (max x.dp (dps zs)) := by rw [e, dps_append, dps]
    have := x.dp_eq
    omega
  · rintro env' μ' ⟨o, rfl, rfl⟩
    refine ⟨trivial, ?_⟩
    simp [e_v, e_c, e_tup, e_lst, e_dct, s_nil, s_cons, e_ix, e_sl, e_bin, e_cmp, e_eq, e_ne, e_in, e_nin, e_isN, e_notN, e_chain, e_neg, e_not, e_and, e_or, e_ite, e_call, e_bi, e_me, e_isT, e_new, e_attr, e_mth, e_mk, w_setattr, w_skip, w_ex, w_asg, w_asgT, w_setix, w_ite, w_ret, w_raise]
    exact fin_res hm hr (by show nrL _ = true; exact vs_nr _) q
  · rintro ys x zs env' μ' e ⟨o, rfl, rfl⟩
    refine ⟨trivial, ?_⟩
    have e1 : dps rows = max (dps ys) (max x.dp (dps zs)) := by rw [e, dps_append, dps]
    have e2 := x.dp_eq
    have e3 : flats rows = flats ys ++ (x :: flats x.within) ++ flats zs := by rw [e, flats_append, flats, x.flat_eq, List.append_assoc]
    have e4 : (flats rows).length = (flats ys).length + ((flats x.within).length + 1) + (flats zs).length := by rw [e3]; simp; omega
    have e5 : x.flat.length = (flats x.within).length + 1 := by rw [x.flat_eq]; simp
    have er : (μ.set r (.lst (Rw.vs (flats ys)))) r = some (.lst (Rw.vs (flats ys))) := mset_same
    simp [w_seq, e_v, e_c, e_tup, e_lst, e_dct, s_nil, s_cons, e_ix, e_sl, e_bin, e_cmp, e_eq, e_ne, e_in, e_nin, e_isN, e_notN, e_chain, e_neg, e_not, e_and, e_or, e_ite, e_call, e_bi, e_me, e_isT, e_new, e_attr, e_mth, e_mk, w_setattr, w_skip, w_ex, w_asg, w_asgT, w_setix, w_ite, w_ret, w_raise]
    rw [ok_append er, me_append er]
    simp [vs_len, big_eq]
    refine ⟨by omega, ?_⟩
    have er2 : (μ.set r (.lst (Rw.vs (flats ys) ++ [x.v]))) r = some (.lst (Rw.vs (flats ys) ++ [x.v])) := mset_same
    rw [ok_extend er2]
    refine ⟨rfl, ?_⟩
    refine rows_within_ok h.w x (by omega) (by omega) ?_
    refine ih .val (.inl rfl) x.within n _ _ _ (by omega) (by omega) (by omega) ?_
    show brV (meV _ _ _ _) _
    rw [me_extend er2 (r := Rw.vs (flats x.within)) rfl]
    simp [vs_len, big_eq]
    refine ⟨by omega, ?_⟩
    rw [flats_snoc, vs_append, Rw.vs]
  · rintro env' μ' ⟨o, rfl, rfl⟩
    refine ⟨trivial, ?_⟩
    simp [e_v, e_c, e_tup, e_lst, e_dct, s_nil, s_cons, e_ix, e_sl, e_bin, e_cmp, e_eq, e_ne, e_in, e_nin, e_isN, e_notN, e_chain, e_neg, e_not, e_and, e_or, e_ite, e_call, e_bi, e_me, e_isT, e_new, e_attr, e_mth, e_mk, w_setattr, w_skip, w_ex, w_asg, w_asgT, w_setix, w_ite, w_ret, w_raise]
    exact fin_res hm hr (by show nrL _ = true; exact vs_nr _) q
def RowsOf (P : Prog) : Prop := P "rows_of" = some D.rows_of ∨ P "rows_of" = some D.rows_of_v2
theorem rows_of_ok (h : BkP P) (hr : RowsOf P) (d : Dd) (hd : dps d.rows ≤ 3) (hl : (flats d.rows).length ≤ 1000000) (hn : 5 ≤ n) (q : Q (.lst (Rw.vs (flats d.rows))) μ) : phi P n "rows_of" .val [d.v] μ Q X := by
  obtain ⟨n, rfl⟩ : ∃ k, n = k + 1 := ⟨n - 1, by omega⟩
  rcases hr with hr | hr
  · refine call_ok hr rfl ?_
    simp [D.rows_of, e_v, e_c, e_tup, e_lst, e_dct, s_nil, s_cons, e_ix, e_sl, e_bin, e_cmp, e_eq, e_ne, e_in, e_nin, e_isN, e_notN, e_chain, e_neg, e_not, e_and, e_or, e_ite, e_call, e_bi, e_me, e_isT, e_new, e_attr, e_mth, e_mk, w_setattr, w_skip, w_ex, w_asg, w_asgT, w_setix, w_ite, w_ret, w_raise, w_seq, Dd.v]
    exact read_through_any h 3 .val (.inl rfl) d.rows n μ _ _ hd hl (by omega) (by simpa [resV] using q)
  · refine call_ok hr rfl ?_
    simp [D.rows_of_v2, e_v, e_c, e_tup, e_lst, e_dct, s_nil, s_cons, e_ix, e_sl, e_bin, e_cmp, e_eq, e_ne, e_in, e_nin, e_isN, e_notN, e_chain, e_neg, e_not, e_and, e_or, e_ite, e_call, e_bi, e_me, e_isT, e_new, e_attr, e_mth, e_mk, w_setattr, w_skip, w_ex, w_asg, w_asgT, w_setix, w_ite, w_ret, w_raise, w_seq, Dd.v]
    refine read_through_any h 3 .obj (.inr rfl) d.rows n μ _ _ hd hl (by omega) fun r hr => ?_
    rw [fin_new hr (by show nrL _ = true; exact vs_nr _)]
    exact q
theorem gOk_of {v : Val} {l : List Val} (h : content μ v = some (.lst l)) : gOk (guard v l) μ := by
  cases v <;> first | trivial | exact h
theorem deed_of_ok (h : P "deed_of" = some D.deed_of) {v : Val} {b : List Dd} (hv : content μ v = some (.lst (b.map Dd.v)) ∨ content μ v = some (.tup (b.map Dd.v))) (hnd : (b.map Dd.name).Nodup) {d : Dd} (hd : d ∈ b) (hn : 1 ≤ n) (q : Q d.v μ) : phi P n "deed_of" .val [v, .str d.name] μ Q X := by
  obtain ⟨n, rfl⟩ : ∃ k, n = k + 1 := ⟨n - 1, by omega⟩
  have hΦ := phi_mono P n
  refine call_ok h rfl ?_
  simp [D.deed_of, e_v, e_c, e_tup, e_lst, e_dct, s_nil, s_cons, e_ix, e_sl, e_bin, e_cmp, e_eq, e_ne, e_in, e_nin, e_isN, e_notN, e_chain, e_neg, e_not, e_and, e_or, e_ite, e_call, e_bi, e_me, e_isT, e_new, e_attr, e_mth, e_mk, w_setattr, w_skip, w_ex, w_asg, w_asgT, w_setix, w_ite, w_ret, w_raise, w_seq]
  refine for_T Dd.v b hΦ (i_e ?_ hΦ)
  simp [e_v, e_c, e_tup, e_lst, e_dct, s_nil, s_cons, e_ix, e_sl, e_bin, e_cmp, e_eq, e_ne, e_in, e_nin, e_isN, e_notN, e_chain, e_neg, e_not, e_and, e_or, e_ite, e_call, e_bi, e_me, e_isT, e_new, e_attr, e_mth, e_mk, w_setattr, w_skip, w_ex, w_asg, w_asgT, w_setix, w_ite, w_ret, w_raise]
  rcases hv with hv | hv
  all_goals
    simp [hv]
    refine ⟨fun ys env' μ' => ∃ o : Option Val, env' = [some v, some (.str d.name), o] ∧ μ' = μ ∧ d ∉ ys, ⟨none, rfl, rfl, by simp⟩, ?_, ?_⟩
    · rintro ys x zs env' μ' e ⟨o, rfl, rfl, hni⟩
      refine ⟨by first | exact gOk_of hv | trivial, ?_⟩
      simp [e_v, e_c, e_tup, e_lst, e_dct, s_nil, s_cons, e_ix, e_sl, e_bin, e_cmp, e_eq, e_ne, e_in, e_nin, e_isN, e_notN, e_chain, e_neg, e_not, e_and, e_or, e_ite, e_call, e_bi, e_me, e_isT, e_new, e_attr, e_mth, e_mk, w_setattr, w_skip, w_ex, w_asg, w_asgT, w_setix, w_ite, w_ret, w_raise, Dd.v]
      refine ⟨fun hx => ?_, fun hx => ⟨hni, fun z => hx (by rw [z])⟩⟩
      have : x = d := by
        rw [e] at hd hnd
        rw [List.map_append, List.map_cons, List.nodup_append, List.nodup_cons] at hnd
        rcases List.mem_append.mp hd with z | z
        · exact (hni z).elim
        · rcases List.mem_cons.mp z with z | z
          · exact z.symm
          · exact (hnd.2.1.1 (by rw [hx]; exact List.mem_map_of_mem z)).elim
      subst this
      exact q
    · rintro env' μ' ⟨o, rfl, rfl, hni⟩
      exact (hni hd).elim
theorem in_ints {v : Val} {l : List Int} {i : Int} (h : content μ v = some (.lst (l.map Val.int))) : inV μ (.int i) v = some (decide (i ∈ l)) := by
  unfold inV
  rw [h]
  have h1 : plainL (l.map Val.int) = true := plainL_iff.mpr fun v hv => by obtain ⟨x, _, rfl⟩ := List.mem_map.mp hv; rfl
  have h2 : depL (l.map Val.int) ≤ 0 := depL_le.mpr fun v hv => by obtain ⟨x, _, rfl⟩ := List.mem_map.mp hv; exact Nat.le_refl 0
  show (if plain (.int i) = true ∧ plainL (l.map Val.int) = true ∧ min (dep (.int i)) (depL (l.map Val.int)) ≤ 150 then some ((l.map Val.int).any fun y => eqb y (.int i)) else none) = _
  rw [if_pos ⟨rfl, h1, by omega⟩]
  congr 1
  rw [Bool.eq_iff_iff, List.any_map, List.any_eq_true, decide_eq_true_eq]
  constructor
  · rintro ⟨x, hx, e⟩
    have : x = i := by simpa [eqb] using e
    rw [← this]; exact hx
  · exact fun hi => ⟨i, hi, by simp [eqb]⟩
theorem bmks_snoc (ys : List Dd) (x : Dd) : bmks (ys ++ [x]) = bmks ys ++ mks x.rows := by simp [bmks]
structure BkP2 (P : Prog) : Prop extends BkP P where
  ro : RowsOf P
  dof : P "deed_of" = some D.deed_of
  ln : P "look_at_names" = some D.look_at_names
  lc : P "look_at_call" = some D.look_at_call
  mb : P "made_book" = some D.made_book
theorem Rw.kind (r : Rw) : (∃ n w as m, r = .call n w as m) ∨ (r.mark = none ∧ ∃ s t, r.v = .tup (.str s :: t) ∧ (s == Str.ofString "call") = false) := by
  cases r with
  | call n w as m => exact .inl ⟨n, w, as, m, rfl⟩
  | set n e => exact .inr ⟨rfl, _, _, rfl, by simp⟩
  | say e => exact .inr ⟨rfl, _, _, rfl, by simp⟩
  | when e a b => exact .inr ⟨rfl, _, _, rfl, by simp⟩
  | turn e b => exact .inr ⟨rfl, _, _, rfl, by simp⟩
end
end Mi
/-! Sa: what is drawn from a state of two numbers. -/
namespace Mi
open PySem (Str)
def Sta (μ : Mu) (p : Ad) : Prop := ∃ a b : Int, μ p = some (.lst [.int a, .int b]) ∧ 0 ≤ b ∧ b < 2147483647
structure Sw (p : Ad) (μ μ' : Mu) : Prop where
  st : Sta μ' p
  eq : ∀ a, a ≠ p → μ' a = μ a
theorem Sw.refl {p : Ad} {μ : Mu} (h : Sta μ p) : Sw p μ μ := ⟨h, fun _ _ => rfl⟩
theorem Sw.trans {p : Ad} {μ μ1 μ2 : Mu} (a : Sw p μ μ1) (b : Sw p μ1 μ2) : Sw p μ μ2 := ⟨b.st, fun c h => (b.eq c h).trans (a.eq c h)⟩
theorem Sta.some {p : Ad} {μ : Mu} (h : Sta μ p) : (μ p).isSome = true := by obtain ⟨a, b, e, _⟩ := h; rw [e]; rfl
theorem Sta.ne {p q : Ad} {μ : Mu} (h : Sta μ p) (hq : μ q = none) : q ≠ p := fun e => by have := h.some; rw [← e, hq] at this; cases this
theorem Sw.cut {p : Ad} {μ μ' : Mu} (h0 : Sta μ p) (h : Sta μ' p) (he : ∀ a, (μ a).isSome = true → a ≠ p → μ' a = μ a) : Sw p μ (μ'.cut μ) := by
  have hp := h0.some
  refine ⟨?_, fun a ha => ?_⟩
  · obtain ⟨a, b, e, r⟩ := h
    exact ⟨a, b, by unfold Mu.cut; rw [if_pos hp]; exact e, r⟩
  · unfold Mu.cut
    by_cases hs : (μ a).isSome = true
    · rw [if_pos hs]; exact he a hs ha
    · rw [if_neg hs]
      cases e : μ a with
      | none => rfl
      | some v => rw [e] at hs; exact (hs rfl).elim
theorem Sw.cut_ {p : Ad} {μ μ' : Mu} (h0 : Sta μ p) (h : Sw p μ μ') : μ'.cut μ = μ' := by
  funext a
  unfold Mu.cut
  cases e : μ a with
  | some v => simp
  | none => simp; rw [h.eq a (h0.ne e), e]
section
variable {P : Prog} {n : Nat} {μ : Mu} {Q : Val → Mu → Prop} {X : XQ} {p : Ad}
/-! ### names and expressions -/
abbrev svars : List Str := [Str.ofString "x", Str.ofString "y", Str.ofString "ab", Str.ofString "z"]
structure SxP (P : Prog) : Prop where
  n : P "_law_next" = some D._law_next
  v : P "_law_variable" = some D._law_variable
  e : P "_law_expression" = some D._law_expression
def ExprOk (P : Prog) (p : Ad) (d : Nat) : Prop := ∀ {n : Nat} {μ : Mu} {Q : Val → Mu → Prop} {X : XQ}, d ≤ 2 → Sta μ p → d + 3 ≤ n → (∀ e μ', ExOk svars e → e.deep ≤ d + 1 → Sw p μ μ' → Q e.v μ') → phi P n "_law_expression" .val [.ref p, .int (2 - (d : Int))] μ Q X
/-! ### heads -/
theorem ints0S (n : Nat) : intsFrom 0 n = (List.range n).map fun (k : Nat) => Val.int (k : Int) := by rw [ints_map]; simp
theorem repS_len (c : Nat) (k : Int) : (repS ⟨#[c]⟩ k).length = k.toNat := by
  show ((List.replicate k.toNat [c]).flatten.toArray).size = _
  simp
def snm (c : Nat) (shift : Int) (k : Nat) : Str := repS ⟨#[c]⟩ (1 + (3 * (k : Int) + shift).fmod 5)
abbrev Hs := List (Str × List Str)
def HsK (c : Nat) (shift : Int) (hs : Hs) : Prop := ∀ j h, hs[j]? = some h → h.1 = snm c shift j ∧ h.2.Nodup ∧ h.2.length ≤ 4 ∧ ∀ s ∈ h.2, s ∈ svars
end
end Mi
/-! Sb: rows drawn from a state, with a world at hand. -/
namespace Mi
open PySem (Str)
def woL (hs : Hs) (rings low : Int) (left shift room : Int) : List Val :=
  [.tup [.str (Str.ofString "heads"), .lst (hs.map headV)], .tup [.str (Str.ofString "rings"), .int rings], .tup [.str (Str.ofString "low"), .int low], .tup [.str (Str.ofString "left"), .int left], .tup [.str (Str.ofString "shift"), .int shift], .tup [.str (Str.ofString "room"), .int room]]
section
variable {μ : Mu} {w : Ad} {hs : Hs} {rings low shift left room : Int}
end
structure Ww (p w : Ad) (μ μ' : Mu) : Prop where
  st : Sta μ' p
  eq : ∀ a, a ≠ p → a ≠ w → μ' a = μ a
theorem Ww.trans {p w : Ad} {μ μ1 μ2 : Mu} (a : Ww p w μ μ1) (b : Ww p w μ1 μ2) : Ww p w μ μ2 := ⟨b.st, fun c h h2 => (b.eq c h h2).trans (a.eq c h h2)⟩
theorem Sw.ww {p w : Ad} {μ μ1 : Mu} (a : Sw p μ μ1) : Ww p w μ μ1 := ⟨a.st, fun c h _ => a.eq c h⟩
theorem Ww.cut_ {p w : Ad} {μ μ' : Mu} (h0 : Sta μ p) (hw : (μ w).isSome = true) (h : Ww p w μ μ') : μ'.cut μ = μ' := by
  funext a
  unfold Mu.cut
  cases e : μ a with
  | some v => simp
  | none => simp; rw [h.eq a (h0.ne e) (fun z => by rw [z] at e; rw [e] at hw; cases hw), e]
def mlS (shift : Int) (l l' : Nat) : List Int := (List.range (l - l')).map fun i => (7 * ((l - 1 - i : Nat) : Int) + shift).fmod 100
structure HsF (hs : Hs) : Prop where
  len : hs.length ≤ 8
  ps : ∀ h ∈ hs, h.2.length ≤ 4
structure SrP (P : Prog) : Prop where
  x : SxP P
  call : P "_law_call" = some D._law_call_v2
  row : P "_law_row" = some D._law_row_v2
  rows : P "_law_rows" = some D._law_rows_v2
section
variable {P : Prog} {n : Nat} {μ : Mu} {Q : Val → Mu → Prop} {X : XQ} {p w : Ad} {hs : Hs} {rings low shift : Int} {left room : Nat}
def WoAt (w : Ad) (hs : Hs) (rings low shift : Int) (left room : Nat) (μ : Mu) : Prop := μ w = some (.dct (woL hs rings low (left : Int) shift (room : Int)))
def RowsOkS (P : Prog) (p w : Ad) (hs : Hs) (rings low shift : Int) (d : Nat) : Prop := ∀ {n : Nat} {μ : Mu} {Q : Val → Mu → Prop} {X : XQ} {left room : Nat} {here : Int}, 8 + 2 * d ≤ n → Sta μ p → WoAt w hs rings low shift left room μ → 0 ≤ here → room ≤ 100 →
  (∀ (l : List Rw) (left' room' : Nat) μ', (∀ q ∈ flats l, q.ok svars hs) → dps l ≤ d + 1 → (flats l).length + room' = room → left' ≤ left → mks l = mlS shift left left' → Ww p w μ μ' → WoAt w hs rings low shift left' room' μ' → Q (.tup (l.map Rw.v)) μ') →
  phi P n "_law_rows" .val [.ref p, .ref w, .int here, .int (2 - (d : Int))] μ Q X
def RowOkS (P : Prog) (p w : Ad) (hs : Hs) (rings low shift : Int) (d : Nat) : Prop := ∀ {n : Nat} {μ : Mu} {Q : Val → Mu → Prop} {X : XQ} {left room : Nat} {here : Int}, 7 + 2 * d ≤ n → Sta μ p → WoAt w hs rings low shift left room μ → 0 ≤ here → room ≤ 100 →
  (∀ (r : Rw) (left' room' : Nat) μ', (∀ q ∈ flats [r], q.ok svars hs) → r.dp ≤ d + 1 → (flats r.within).length + room' = room → left' ≤ left → mks [r] = mlS shift left left' → Ww p w μ μ' → WoAt w hs rings low shift left' room' μ' → Q r.v μ') →
  phi P n "_law_row" .val [.ref p, .ref w, .int here, .int (2 - (d : Int))] μ Q X
structure RInv (p w : Ad) (hs : Hs) (rings low shift : Int) (d left rest : Nat) (μ : Mu) (k : Nat) (acc : List Val) (μ' : Mu) : Prop where
  ex : ∃ (l : List Rw) (left1 room1 : Nat), l.length = k ∧ acc = l.map Rw.v ∧ (∀ q ∈ flats l, q.ok svars hs) ∧ dps l ≤ d + 1 ∧ (flats l).length + room1 = k + rest ∧ left1 ≤ left ∧ mks l = mlS shift left left1 ∧ Ww p w μ μ' ∧ WoAt w hs rings low shift left1 room1 μ'
end
end Mi
/-! Sc: books drawn from cells. -/
namespace Mi
open PySem (Str)
def wo3 (hs : Hs) (rings low : Int) : List Val := [.tup [.str (Str.ofString "heads"), .lst (hs.map headV)], .tup [.str (Str.ofString "rings"), .int rings], .tup [.str (Str.ofString "low"), .int low]]
def wo5 (hs : Hs) (rings low left shift : Int) : List Val := wo3 hs rings low ++ [.tup [.str (Str.ofString "left"), .int left], .tup [.str (Str.ofString "shift"), .int shift]]
def wo4 (hs : Hs) (rings low left : Int) : List Val := wo3 hs rings low ++ [.tup [.str (Str.ofString "left"), .int left]]
def WoB (w : Ad) (hs : Hs) (rings low shift : Int) (left : Nat) (μ : Mu) : Prop := μ w = some (.dct (wo5 hs rings low left shift)) ∨ ∃ room : Nat, WoAt w hs rings low shift left room μ
section
variable {P : Prog} {n : Nat} {μ : Mu} {Q : Val → Mu → Prop} {X : XQ} {w : Ad} {hs : Hs} {rings low shift : Int} {left : Nat}
structure SdP (P : Prog) : Prop where
  r : SrP P
  st : P "_law_state" = some D._law_state
  hd : P "_law_heads" = some D._law_heads_v2
  de : P "_law_deeds" = some D._law_deeds
theorem snm_inj {c : Nat} {sh : Int} (h0 : 0 ≤ sh) (h1 : sh < 5) {i j : Nat} (hi : i < 5) (hj : j < 5) (e : snm c sh i = snm c sh j) : i = j := by
  have e1 : (snm c sh i).length = (snm c sh j).length := by rw [e]
  unfold snm at e1
  rw [repS_len, repS_len] at e1
  have f1 := Int.fmod_eq_emod_of_nonneg (3 * (i : Int) + sh) (show (0 : Int) ≤ 5 from by decide)
  have f2 := Int.fmod_eq_emod_of_nonneg (3 * (j : Int) + sh) (show (0 : Int) ≤ 5 from by decide)
  omega
theorem snm_len {c : Nat} {sh : Int} {i : Nat} : (snm c sh i).length ≤ 5 := by
  unfold snm
  rw [repS_len]
  have := fmod_lt (a := 3 * (i : Int) + sh) (m := 5) (by decide)
  omega
theorem mlS_nodup {sh : Int} {l l' : Nat} (h : l ≤ 6) : (mlS sh l l').Nodup := by
  unfold mlS
  rw [List.nodup_iff_pairwise_ne, List.pairwise_map]
  refine List.Pairwise.imp_of_mem ?_ (List.nodup_range (n := l - l'))
  intro a b ha hb hne e
  have ha' := List.mem_range.mp ha
  have hb' := List.mem_range.mp hb
  rw [Int.fmod_eq_emod_of_nonneg _ (show (0 : Int) ≤ 100 from by decide), Int.fmod_eq_emod_of_nonneg _ (show (0 : Int) ≤ 100 from by decide)] at e
  omega
structure DI (hs : Hs) (shift : Int) (left0 left1 k : Nat) (b : List Dd) : Prop where
  len : b.length = k
  head : b.map Dd.head = hs.take k
  rows : ∀ d ∈ b, RwsOk svars hs d.rows ∧ dps d.rows ≤ 3 ∧ (flats d.rows).length ≤ 9 ∧ ExOk svars d.give
  mkl : bmks b = mlS shift left0 left1
  le : left1 ≤ left0
theorem DI.bk {c : Nat} {sh : Int} (s0 : 0 ≤ sh) (s1 : sh < 5) {left0 left1 : Nat} (hl : left0 ≤ 6) {b : List Dd} (hk : HsK c sh hs) (h5 : hs.length ≤ 5) (h1 : 1 ≤ hs.length) (h : DI hs shift left0 left1 hs.length b) : BkOk svars b := by
  have hhd : b.map Dd.head = hs := by rw [h.head, List.take_length]
  have hnm : b.map Dd.name = hs.map Prod.fst := by rw [← hhd, List.map_map]; rfl
  have hdps : ∀ d ∈ b, ∃ j : Nat, hs[j]? = some d.head := fun d hd => by
    have : d.head ∈ hs := by rw [← hhd]; exact List.mem_map_of_mem hd
    obtain ⟨j, hj⟩ := List.getElem?_of_mem this
    exact ⟨j, hj⟩
  refine ⟨fun e => ?_, by rw [h.len]; omega, ?_, fun d hd => ?_, by rw [h.mkl]; exact mlS_nodup hl, by rw [h.mkl]; simp [mlS]; omega, fun d hd => ?_, by decide, by decide, fun s hs => by
    simp at hs
    rcases hs with rfl | rfl | rfl | rfl <;> exact ⟨by decide, by decide⟩⟩
  · have := h.len
    rw [e] at this
    simp at this
    omega
  · rw [hnm, List.nodup_iff_pairwise_ne, List.pairwise_iff_getElem]
    intro i j hi hj hij e
    rw [List.length_map] at hi hj
    rw [List.getElem_map, List.getElem_map] at e
    have a1 := (hk i hs[i] (List.getElem?_eq_getElem hi)).1
    have a2 := (hk j hs[j] (List.getElem?_eq_getElem hj)).1
    rw [a1, a2] at e
    have := snm_inj s0 s1 (by omega) (by omega) e
    omega
  · obtain ⟨r1, r2, r3, r4⟩ := h.rows d hd
    obtain ⟨j, hj⟩ := hdps d hd
    obtain ⟨_, b1, b2, b3⟩ := hk j _ hj
    rw [hhd]
    exact ⟨r1, r2, by omega, r4, b1, b2, b3⟩
  · obtain ⟨j, hj⟩ := hdps d hd
    have := (hk j _ hj).1
    rw [show d.name = snm c sh j from this]
    have := snm_len (c := c) (sh := sh) (i := j)
    omega
structure DInv (cs : List Int) (many : Int) (p w r : Ad) (hs : Hs) (rings low shift : Int) (left0 : Nat) (μ : Mu) (k : Nat) (env' : Env) (μ' : Mu) : Prop where
  ex : ∃ (b : List Dd) (left1 : Nat) (o7 o8 o9 o10 o11 : Option Val), env' = [some (.lst (cs.map .int)), some (.int many), some (.int rings), some (.int low), some (.ref p), some (.ref w), some (.ref r), o7, o8, o9, o10, o11] ∧ DI hs shift left0 left1 k b ∧ WoB w hs rings low shift left1 μ' ∧ μ' r = some (.lst (b.map Dd.v)) ∧ ∀ a, (μ a).isSome = true → μ' a = μ a
end
end Mi
/-! Sd: a script folded into cells. -/
namespace Mi
open PySem (Str)
section
variable {P : Prog} {n : Nat} {μ : Mu} {Q : Val → Mu → Prop} {X : XQ}
def intsL (i : Int) (n : Nat) : List Int := (List.range n).map fun (k : Nat) => i + (k : Int)
end
end Mi
/-! Se: the calls of a deed; whence and where calls lead. -/
namespace Mi
open PySem (Str)
def Rw.cl : Rw → Option (Int × Str)
  | .call _ w _ m => some (m, w)
  | _ => none
def clV (p : Int × Str) : Val := .tup [.int p.1, .str p.2]
section
variable {μ : Mu} {Q : Val → Mu → Prop} {X : XQ} {n : Nat} {P : Prog}
theorem calls_of2_ok (h : BkP P) (hr : RowsOf P) (hc : P "calls_of" = some D.calls_of_v2) (d : Dd) (hd : dps d.rows ≤ 3) (hl : (flats d.rows).length ≤ 1000) (hn : 6 ≤ n) (q : Q (.lst (((flats d.rows).filterMap Rw.cl).map clV)) μ) : phi P n "calls_of" .val [d.v] μ Q X := by
  obtain ⟨n, rfl⟩ : ∃ k, n = k + 1 := ⟨n - 1, by omega⟩
  have hΦ := phi_mono P n
  refine call_ok hc rfl ?_
  unfold D.calls_of_v2
  rw [w_ret]
  refine comp_T Rw.v (flats d.rows) hΦ (i_e ?_ hΦ)
  simp [e_v, e_c, e_tup, e_lst, e_dct, s_nil, s_cons, e_ix, e_sl, e_bin, e_cmp, e_eq, e_ne, e_in, e_nin, e_isN, e_notN, e_chain, e_neg, e_not, e_and, e_or, e_ite, e_call, e_bi, e_me, e_isT, e_new, e_attr, e_mth, e_mk, w_setattr, w_skip, w_ex, w_asg, w_asgT, w_setix, w_ite, w_ret, w_raise]
  refine rows_of_ok h hr d hd (by omega) (by omega) ?_
  simp [guard]
  refine ⟨vs_map _, fun ys acc μ' => μ' = μ ∧ acc = (ys.filterMap Rw.cl).map clV, ⟨rfl, rfl⟩, ?_, ?_⟩
  · rintro ys x zs acc μ' e ⟨rfl, rfl⟩
    refine ⟨trivial, ?_⟩
    have hlen : (ys.filterMap Rw.cl).length < big := by
      have h1 := List.length_filterMap_le Rw.cl ys
      have h2 := congrArg List.length e
      simp at h2
      rw [big_eq]
      omega
    simp [wipe, e_v, e_c, e_tup, e_lst, e_dct, s_nil, s_cons, e_ix, e_sl, e_bin, e_cmp, e_eq, e_ne, e_in, e_nin, e_isN, e_notN, e_chain, e_neg, e_not, e_and, e_or, e_ite, e_call, e_bi, e_me, e_isT, e_new, e_attr, e_mth, e_mk, w_setattr, w_skip, w_ex, w_asg, w_asgT, w_setix, w_ite, w_ret, w_raise]
    rcases x.kind with ⟨nm, w, as, m, rfl⟩ | ⟨hm, s, t, ev, hs⟩
    · have e0 : ixV μ' (Rw.call nm w as m).v (.int 0) = some (.str (Str.ofString "call")) := rfl
      have e4 : ixV μ' (Rw.call nm w as m).v (.int 4) = some (.int m) := rfl
      have e2 : ixV μ' (Rw.call nm w as m).v (.int 2) = some (.str w) := rfl
      rw [e0]
      simp [e4, e2]
      exact ⟨hlen, by simp [Rw.cl, clV]⟩
    · have hcl : x.cl = none := by cases x <;> first | rfl | (simp [Rw.mark] at hm)
      rw [ev]
      simp [hs]
      exact hcl
  · rintro acc μ' ⟨rfl, rfl⟩
    refine ⟨trivial, ?_⟩
    exact fin_val (by show nrL _ = true; rw [nrL_iff]; intro v hv; obtain ⟨p, _, rfl⟩ := List.mem_map.mp hv; rfl) cut_self q
abbrev Ends := List (Int × (Str × Str))
def enV (e : Int × (Str × Str)) : Val := .tup [.int e.1, .tup [.str e.2.1, .str e.2.2]]
def endsD (d : Dd) : Ends := ((flats d.rows).filterMap Rw.cl).map fun p => (p.1, (d.name, p.2))
def endsL (b : List Dd) : Ends := (b.map endsD).flatten
theorem cl_mark (r : Rw) : r.cl.map Prod.fst = r.mark := by cases r <;> rfl
def leads (E : Ends) (left : List Str) (name : Str) (m : Int) : Bool := match E.lookup m with
  | some p => decide (p.2 = name) && decide (p.1 ∈ left)
  | none => false
def fromV : Option Int → Val
  | some m => .int m
  | none => .non
end
end Mi
/-! So: the names of a deed, its own ones. -/
namespace Mi
open PySem (Str)
def Rw.exs : Rw → List Ex
  | .set _ e => [e]
  | .say e => [e]
  | .call _ _ as _ => as
  | .when e _ _ => [e]
  | .turn e _ => [e]
def Rw.aim : Rw → List Str
  | .set n _ => [n]
  | .call n _ _ _ => [n]
  | _ => []
def exN (l : List Ex) : List Str := (l.map Ex.names).flatten
theorem exN_snoc (l : List Ex) (e : Ex) : exN (l ++ [e]) = exN l ++ e.names := by simp [exN]
theorem exN_app (l r : List Ex) : exN (l ++ r) = exN l ++ exN r := by simp [exN]
theorem exN_cons (l : List Ex) (e : Ex) : exN (e :: l) = e.names ++ exN l := by simp [exN]
def Rw.nms (r : Rw) : List Str := exN r.exs ++ r.aim
def rnms (l : List Rw) : List Str := (l.map Rw.nms).flatten
def dnames (d : Dd) : List Str := rnms (flats d.rows) ++ d.give.names
theorem rnms_snoc (ys : List Rw) (x : Rw) : rnms (ys ++ [x]) = rnms ys ++ x.nms := by simp [rnms]
theorem rnms_app (ys zs : List Rw) : rnms (ys ++ zs) = rnms ys ++ rnms zs := by simp [rnms]
def dot (s : Str) : Bool := s.cps.toList.contains 46
def addK (l : List Str) (s : Str) : List Str := if s ∈ l then l else l ++ [s]
def keysK (l : List Str) : List Str := l.foldl addK []
def tdV (l : List Str) : List Val := l.map fun s => .tup [.str s, .bl true]
theorem addK_mem {l : List Str} {s x : Str} : x ∈ addK l s ↔ x ∈ l ∨ x = s := by
  unfold addK
  split
  · rename_i h
    exact ⟨.inl, fun z => z.elim id fun e => e ▸ h⟩
  · simp
theorem addK_nodup {l : List Str} {s : Str} (h : l.Nodup) : (addK l s).Nodup := by
  unfold addK
  split
  · exact h
  · rename_i hn
    rw [List.nodup_append]
    exact ⟨h, by simp, fun x hx y hy => by simp at hy; subst hy; exact fun e => hn (e ▸ hx)⟩
theorem foldK_mem : ∀ (l acc : List Str) {x : Str}, x ∈ l.foldl addK acc ↔ x ∈ acc ∨ x ∈ l
  | [], acc, x => by simp
  | a :: t, acc, x => by
    rw [List.foldl_cons, foldK_mem t, addK_mem]
    simp [or_assoc]
theorem foldK_nodup : ∀ (l acc : List Str), acc.Nodup → (l.foldl addK acc).Nodup
  | [], acc, h => h
  | a :: t, acc, h => foldK_nodup t _ (addK_nodup h)
theorem keysK_mem {l : List Str} {x : Str} : x ∈ keysK l ↔ x ∈ l := by
  unfold keysK
  rw [foldK_mem]
  simp
theorem keysK_nodup (l : List Str) : (keysK l).Nodup := foldK_nodup l [] List.nodup_nil
theorem keysK_snoc (l : List Str) (s : Str) : keysK (l ++ [s]) = addK (keysK l) s := by simp [keysK]
theorem dPut_td (s : Str) : ∀ l : List Str, dPut (.str s) (.bl true) (tdV l) = tdV (addK l s)
  | [] => rfl
  | a :: t => by
    show (if keyEq (.str s) (.str a) = true then _ else .tup [.str a, .bl true] :: dPut (.str s) (.bl true) (tdV t)) = _
    by_cases e : s = a
    · subst e
      have : addK (s :: t) s = s :: t := by unfold addK; rw [if_pos List.mem_cons_self]
      rw [this, if_pos (by simp [keyEq])]
      rfl
    · rw [if_neg (by simp [keyEq, e]), dPut_td s t]
      have : addK (a :: t) s = a :: addK t s := by
        unfold addK
        by_cases h : s ∈ t
        · rw [if_pos h, if_pos (List.mem_cons_of_mem _ h)]
        · rw [if_neg h, if_neg (by simp [e, h])]; rfl
      rw [this]
      rfl
theorem td_keys : ∀ l : List Str, dKeys (tdV l) = l.map Val.str
  | [] => rfl
  | a :: t => by
    show Val.str a :: dKeys (tdV t) = _
    rw [td_keys t]
    rfl
theorem strsOf_map : ∀ l : List Str, strsOf (l.map Val.str) = some l
  | [] => rfl
  | a :: t => by simp [strsOf, strsOf_map t]
theorem sortK_td {μ : Mu} {v : Val} {l : List Str} (hv : content μ v = some (.dct (tdV l))) (h : l.length < 64) (hok : ∀ s ∈ l, okS s = true) : biV μ .sortK [v] = some (.lst ((sortS l).map .str)) := by
  show sortKF μ [v] = _
  simp only [sortKF, hv, td_keys]
  cases l with
  | nil => simp [intsOf, sortI, sortS]
  | cons a t =>
    have h1 : intsOf ((a :: t).map Val.str) = none := rfl
    simp only [h1, strsOf_map, Option.bind_some]
    rw [if_pos ⟨h, List.all_eq_true.mpr hok⟩]
theorem perm_nodup {l r : List Str} (hl : l.Nodup) (hr : r.Nodup) (h : ∀ x, x ∈ l ↔ x ∈ r) : l.Perm r := by
  rw [List.perm_iff_count]
  intro a
  rw [hl.count, hr.count]
  simp [h a]
theorem nodup_subO {α : Type} : ∀ {l r : List α}, l.Nodup → (∀ x ∈ l, x ∈ r) → l.length ≤ r.length
  | [], _, _, _ => Nat.zero_le _
  | a :: t, r, h, hs => by
    obtain ⟨u, v, rfl⟩ := List.append_of_mem (hs a List.mem_cons_self)
    have h2 := List.nodup_cons.mp h
    have := nodup_subO (r := u ++ v) h2.2 fun x hx => by
      have := hs x (List.mem_cons_of_mem _ hx)
      simp at this ⊢
      rcases this with z | rfl | z
      · exact .inl z
      · exact (h2.1 hx).elim
      · exact .inr z
    simp at this ⊢
    omega
theorem sortS_len (l : List Str) : (sortS l).length = l.length := (sortS_perm l).length_eq
def plainN (d : Dd) (s : Str) : Bool := !dot s && !decide (s ∈ d.ps)
def ownK (d : Dd) : List Str := keysK ((dnames d).filter (plainN d))
def own (d : Dd) : List Str := d.ps ++ sortS (ownK d)
def DNamesIn (P : Prog) : Prop := P "names_in" = some D.names_in_v2
structure OwnP (P : Prog) : Prop where
  b : BkP P
  r : RowsOf P
  ni : P "names_in" = some D.names_in_v2
  ex : P "expressions_of" = some D.expressions_of
  rn : P "row_names" = some D.row_names
  dn : P "deed_names" = some D.deed_names
section
variable {μ : Mu} {Q : Val → Mu → Prop} {X : XQ} {n : Nat} {P : Prog} {p : Ad}
theorem rows_of_any (h : BkP P) (hr : RowsOf P) (d : Dd) (m : Nat) (hd : dps d.rows ≤ m) (hl : (flats d.rows).length ≤ 1000000) (hn : m + 2 ≤ n) (q : Q (.lst (Rw.vs (flats d.rows))) μ) : phi P n "rows_of" .val [d.v] μ Q X := by
  obtain ⟨n, rfl⟩ : ∃ k, n = k + 1 := ⟨n - 1, by omega⟩
  have e2 : ixV μ d.v (.int 2) = some (.tup (Rw.vs d.rows)) := rfl
  rcases hr with hr | hr
  · refine call_ok hr rfl ?_
    unfold D.rows_of
    rw [w_ret]
    simp [e_v, e_c, e_tup, e_lst, e_dct, s_nil, s_cons, e_ix, e_sl, e_bin, e_cmp, e_eq, e_ne, e_in, e_nin, e_isN, e_notN, e_chain, e_neg, e_not, e_and, e_or, e_ite, e_call, e_bi, e_me, e_isT, e_new, e_attr, e_mth, e_mk, w_setattr, w_skip, w_ex, w_asg, w_asgT, w_setix, w_ite, w_ret, w_raise, e2]
    refine read_through_any h m .val (.inl rfl) d.rows n _ _ _ hd hl (by omega) ?_
    exact fin_val (by show nrL _ = true; exact vs_nr _) cut_self q
  · refine call_ok hr rfl ?_
    unfold D.rows_of_v2
    rw [w_ret]
    simp [e_v, e_c, e_tup, e_lst, e_dct, s_nil, s_cons, e_ix, e_sl, e_bin, e_cmp, e_eq, e_ne, e_in, e_nin, e_isN, e_notN, e_chain, e_neg, e_not, e_and, e_or, e_ite, e_call, e_bi, e_me, e_isT, e_new, e_attr, e_mth, e_mk, w_setattr, w_skip, w_ex, w_asg, w_asgT, w_setix, w_ite, w_ret, w_raise, e2]
    refine read_through_any h m .obj (.inr rfl) d.rows n _ _ _ hd hl (by omega) ?_
    intro r hr0
    rw [fin_new hr0 (by show nrL _ = true; exact vs_nr _)]
    exact q
theorem names_in2_ok (h : P "names_in" = some D.names_in_v2) : ∀ (e : Ex) (n : Nat) (Q : Val → Mu → Prop) (X : XQ), e.deep ≤ n → e.names.length ≤ 1000000 → Q (strsV e.names) μ → phi P n "names_in" .val [e.v] μ Q X
  | .num i, n + 1, Q, X, hn, hl, hq => by
    refine call_ok h rfl ?_
    simp [D.names_in_v2, e_v, e_c, e_tup, e_lst, e_dct, s_nil, s_cons, e_ix, e_sl, e_bin, e_cmp, e_eq, e_ne, e_in, e_nin, e_isN, e_notN, e_chain, e_neg, e_not, e_and, e_or, e_ite, e_call, e_bi, e_me, e_isT, e_new, e_attr, e_mth, e_mk, w_setattr, w_skip, w_ex, w_asg, w_asgT, w_setix, w_ite, w_ret, w_raise, w_seq, Ex.v]
    exact hq
  | .nam s, n + 1, Q, X, hn, hl, hq => by
    refine call_ok h rfl ?_
    simp [D.names_in_v2, e_v, e_c, e_tup, e_lst, e_dct, s_nil, s_cons, e_ix, e_sl, e_bin, e_cmp, e_eq, e_ne, e_in, e_nin, e_isN, e_notN, e_chain, e_neg, e_not, e_and, e_or, e_ite, e_call, e_bi, e_me, e_isT, e_new, e_attr, e_mth, e_mk, w_setattr, w_skip, w_ex, w_asg, w_asgT, w_setix, w_ite, w_ret, w_raise, w_seq, Ex.v]
    exact hq
  | .op w a b, n + 1, Q, X, hn, hl, hq => by
    simp only [Ex.deep] at hn
    simp only [Ex.names, List.length_append] at hl
    refine call_ok h rfl ?_
    simp [D.names_in_v2, e_v, e_c, e_tup, e_lst, e_dct, s_nil, s_cons, e_ix, e_sl, e_bin, e_cmp, e_eq, e_ne, e_in, e_nin, e_isN, e_notN, e_chain, e_neg, e_not, e_and, e_or, e_ite, e_call, e_bi, e_me, e_isT, e_new, e_attr, e_mth, e_mk, w_setattr, w_skip, w_ex, w_asg, w_asgT, w_setix, w_ite, w_ret, w_raise, w_seq, Ex.v]
    refine names_in2_ok h a n _ _ (by omega) (by omega) ?_
    refine names_in2_ok h b n _ _ (by omega) (by omega) ?_
    simp [strsV, big_eq]
    refine ⟨by omega, ?_⟩
    rw [← List.map_append]
    exact hq
  | .num _, 0, _, _, hn, _, _ => by simp [Ex.deep] at hn
  | .nam _, 0, _, _, hn, _, _ => by simp [Ex.deep] at hn
  | .op _ _ _, 0, _, _, hn, _, _ => by simp [Ex.deep] at hn
theorem exs_ok (h : P "expressions_of" = some D.expressions_of) (r : Rw) (hn : 1 ≤ n) (q : Q (.lst (r.exs.map Ex.v)) μ) : phi P n "expressions_of" .val [r.v] μ Q X := by
  obtain ⟨n, rfl⟩ : ∃ k, n = k + 1 := ⟨n - 1, by omega⟩
  refine call_ok h rfl ?_
  have hnr : ∀ l : List Ex, nrL (l.map Ex.v) = true := fun l => by
    rw [nrL_iff]; intro v hv; obtain ⟨e, _, rfl⟩ := List.mem_map.mp hv; exact e.nr
  have fin : ∀ l : List Ex, Q (.lst (l.map Ex.v)) μ → finM .val μ Q (.lst (l.map Ex.v)) μ := fun l q => fin_val (hnr l) cut_self q
  cases r with
  | set m e => simp [D.expressions_of, e_v, e_c, e_tup, e_lst, e_dct, s_nil, s_cons, e_ix, e_sl, e_bin, e_cmp, e_eq, e_ne, e_in, e_nin, e_isN, e_notN, e_chain, e_neg, e_not, e_and, e_or, e_ite, e_call, e_bi, e_me, e_isT, e_new, e_attr, e_mth, e_mk, w_setattr, w_skip, w_ex, w_asg, w_asgT, w_setix, w_ite, w_ret, w_raise, w_seq, Rw.v]; exact q
  | say e => simp [D.expressions_of, e_v, e_c, e_tup, e_lst, e_dct, s_nil, s_cons, e_ix, e_sl, e_bin, e_cmp, e_eq, e_ne, e_in, e_nin, e_isN, e_notN, e_chain, e_neg, e_not, e_and, e_or, e_ite, e_call, e_bi, e_me, e_isT, e_new, e_attr, e_mth, e_mk, w_setattr, w_skip, w_ex, w_asg, w_asgT, w_setix, w_ite, w_ret, w_raise, w_seq, Rw.v]; exact q
  | call m w as k => simp [D.expressions_of, e_v, e_c, e_tup, e_lst, e_dct, s_nil, s_cons, e_ix, e_sl, e_bin, e_cmp, e_eq, e_ne, e_in, e_nin, e_isN, e_notN, e_chain, e_neg, e_not, e_and, e_or, e_ite, e_call, e_bi, e_me, e_isT, e_new, e_attr, e_mth, e_mk, w_setattr, w_skip, w_ex, w_asg, w_asgT, w_setix, w_ite, w_ret, w_raise, w_seq, Rw.v]; exact q
  | when e a b => simp [D.expressions_of, e_v, e_c, e_tup, e_lst, e_dct, s_nil, s_cons, e_ix, e_sl, e_bin, e_cmp, e_eq, e_ne, e_in, e_nin, e_isN, e_notN, e_chain, e_neg, e_not, e_and, e_or, e_ite, e_call, e_bi, e_me, e_isT, e_new, e_attr, e_mth, e_mk, w_setattr, w_skip, w_ex, w_asg, w_asgT, w_setix, w_ite, w_ret, w_raise, w_seq, Rw.v]; exact q
  | turn e a => simp [D.expressions_of, e_v, e_c, e_tup, e_lst, e_dct, s_nil, s_cons, e_ix, e_sl, e_bin, e_cmp, e_eq, e_ne, e_in, e_nin, e_isN, e_notN, e_chain, e_neg, e_not, e_and, e_or, e_ite, e_call, e_bi, e_me, e_isT, e_new, e_attr, e_mth, e_mk, w_setattr, w_skip, w_ex, w_asg, w_asgT, w_setix, w_ite, w_ret, w_raise, w_seq, Rw.v]; exact q
def ExsLe (k : Nat) (r : Rw) : Prop := ∀ e ∈ r.exs, e.deep ≤ k
theorem row_names_ok (h : OwnP P) (r : Rw) {k : Nat} (hk : ExsLe k r) (hl : r.nms.length ≤ 100000) (hn : k + 2 ≤ n) (q : Q (.lst (r.nms.map .str)) μ) : phi P n "row_names" .val [r.v] μ Q X := by
  obtain ⟨n, rfl⟩ : ∃ k, n = k + 1 := ⟨n - 1, by omega⟩
  have hΦ := phi_mono P n
  refine call_ok h.rn rfl ?_
  unfold D.row_names
  rw [w_seq]
  simp [e_v, e_c, e_tup, e_lst, e_dct, s_nil, s_cons, e_ix, e_sl, e_bin, e_cmp, e_eq, e_ne, e_in, e_nin, e_isN, e_notN, e_chain, e_neg, e_not, e_and, e_or, e_ite, e_call, e_bi, e_me, e_isT, e_new, e_attr, e_mth, e_mk, w_setattr, w_skip, w_ex, w_asg, w_asgT, w_setix, w_ite, w_ret, w_raise]
  intro p hp
  rw [w_seq]
  refine for_T Ex.v r.exs hΦ (i_e ?_ hΦ)
  simp [e_v, e_c, e_tup, e_lst, e_dct, s_nil, s_cons, e_ix, e_sl, e_bin, e_cmp, e_eq, e_ne, e_in, e_nin, e_isN, e_notN, e_chain, e_neg, e_not, e_and, e_or, e_ite, e_call, e_bi, e_me, e_isT, e_new, e_attr, e_mth, e_mk, w_setattr, w_skip, w_ex, w_asg, w_asgT, w_setix, w_ite, w_ret, w_raise]
  have hnl : (exN r.exs).length + r.aim.length = r.nms.length := by unfold Rw.nms; rw [List.length_append]
  refine exs_ok h.ex r (by omega) ?_
  simp [guard]
  refine ⟨fun ys env' μ' => ∃ o : Option Val, env' = [some r.v, some (.ref p), o] ∧ μ' = μ.set p (.lst ((exN ys).map .str)), ⟨_, rfl, rfl⟩, ?_, ?_⟩
  · rintro ys x zs env' μ' e ⟨o, rfl, rfl⟩
    refine ⟨trivial, ?_⟩
    have hxl : (exN ys).length + x.names.length ≤ r.nms.length := by
      have h1 : (exN r.exs).length = (exN ys).length + (x.names.length + (exN zs).length) := by
        rw [e, exN_app, List.length_append, exN_cons, List.length_append]
      omega
    have er : (μ.set p (.lst ((exN ys).map .str))) p = some (.lst ((exN ys).map .str)) := mset_same
    simp
    rw [ok_extend er]
    refine ⟨rfl, ?_⟩
    refine names_in2_ok h.ni x n _ _ (by have := hk x (by rw [e]; simp); omega) (by omega) ?_
    rw [me_extend er (r := x.names.map Val.str) rfl]
    refine brV_ite (by rw [List.length_map, List.length_map, big_eq]; omega) ?_
    dsimp only
    rw [mset_set, exN_snoc, List.map_append]
  · rintro env' μ' ⟨o, rfl, rfl⟩
    refine ⟨trivial, ?_⟩
    have er : (μ.set p (.lst ((exN r.exs).map .str))) p = some (.lst ((exN r.exs).map .str)) := mset_same
    have fin : ∀ l : List Str, l = r.nms → finM .val μ Q (.ref p) (μ.set p (.lst (l.map .str))) := fun l e => by
      rw [fin_new hp (by show nrL _ = true; exact nrL_strs _), e]
      exact q
    rw [w_seq]
    cases r with
    | set m e =>
      have e0 : ∀ m2 : Mu, ixV m2 (Rw.set m e).v (.int 0) = some (.str (Str.ofString "set")) := fun _ => rfl
      have e1 : ∀ m2 : Mu, ixV m2 (Rw.set m e).v (.int 1) = some (.str m) := fun _ => rfl
      simp [e_v, e_c, e_tup, e_lst, e_dct, s_nil, s_cons, e_ix, e_sl, e_bin, e_cmp, e_eq, e_ne, e_in, e_nin, e_isN, e_notN, e_chain, e_neg, e_not, e_and, e_or, e_ite, e_call, e_bi, e_me, e_isT, e_new, e_attr, e_mth, e_mk, w_setattr, w_skip, w_ex, w_asg, w_asgT, w_setix, w_ite, w_ret, w_raise, e0, e1]
      rw [ok_append er, me_append er]
      refine ⟨rfl, brV_ite (by rw [List.length_map, big_eq]; omega) ?_⟩
      dsimp only
      rw [mset_set]
      have := fin (exN (Rw.set m e).exs ++ [m]) rfl
      rw [List.map_append] at this
      exact this
    | call m w as k =>
      have e0 : ∀ m2 : Mu, ixV m2 (Rw.call m w as k).v (.int 0) = some (.str (Str.ofString "call")) := fun _ => rfl
      have e1 : ∀ m2 : Mu, ixV m2 (Rw.call m w as k).v (.int 1) = some (.str m) := fun _ => rfl
      simp [e_v, e_c, e_tup, e_lst, e_dct, s_nil, s_cons, e_ix, e_sl, e_bin, e_cmp, e_eq, e_ne, e_in, e_nin, e_isN, e_notN, e_chain, e_neg, e_not, e_and, e_or, e_ite, e_call, e_bi, e_me, e_isT, e_new, e_attr, e_mth, e_mk, w_setattr, w_skip, w_ex, w_asg, w_asgT, w_setix, w_ite, w_ret, w_raise, e0, e1]
      rw [ok_append er, me_append er]
      refine ⟨rfl, brV_ite (by rw [List.length_map, big_eq]; omega) ?_⟩
      dsimp only
      rw [mset_set]
      have := fin (exN (Rw.call m w as k).exs ++ [m]) rfl
      rw [List.map_append] at this
      exact this
    | say e =>
      have e0 : ∀ m2 : Mu, ixV m2 (Rw.say e).v (.int 0) = some (.str (Str.ofString "say")) := fun _ => rfl
      simp [e_v, e_c, e_tup, e_lst, e_dct, s_nil, s_cons, e_ix, e_sl, e_bin, e_cmp, e_eq, e_ne, e_in, e_nin, e_isN, e_notN, e_chain, e_neg, e_not, e_and, e_or, e_ite, e_call, e_bi, e_me, e_isT, e_new, e_attr, e_mth, e_mk, w_setattr, w_skip, w_ex, w_asg, w_asgT, w_setix, w_ite, w_ret, w_raise, e0]
      exact fin (exN (Rw.say e).exs) (by simp [Rw.nms, Rw.aim])
    | when e a b =>
      have e0 : ∀ m2 : Mu, ixV m2 (Rw.when e a b).v (.int 0) = some (.str (Str.ofString "when")) := fun _ => rfl
      simp [e_v, e_c, e_tup, e_lst, e_dct, s_nil, s_cons, e_ix, e_sl, e_bin, e_cmp, e_eq, e_ne, e_in, e_nin, e_isN, e_notN, e_chain, e_neg, e_not, e_and, e_or, e_ite, e_call, e_bi, e_me, e_isT, e_new, e_attr, e_mth, e_mk, w_setattr, w_skip, w_ex, w_asg, w_asgT, w_setix, w_ite, w_ret, w_raise, e0]
      exact fin (exN (Rw.when e a b).exs) (by simp [Rw.nms, Rw.aim])
    | turn e a =>
      have e0 : ∀ m2 : Mu, ixV m2 (Rw.turn e a).v (.int 0) = some (.str (Str.ofString "turn")) := fun _ => rfl
      simp [e_v, e_c, e_tup, e_lst, e_dct, s_nil, s_cons, e_ix, e_sl, e_bin, e_cmp, e_eq, e_ne, e_in, e_nin, e_isN, e_notN, e_chain, e_neg, e_not, e_and, e_or, e_ite, e_call, e_bi, e_me, e_isT, e_new, e_attr, e_mth, e_mk, w_setattr, w_skip, w_ex, w_asg, w_asgT, w_setix, w_ite, w_ret, w_raise, e0]
      exact fin (exN (Rw.turn e a).exs) (by simp [Rw.nms, Rw.aim])
structure DdLe (m k : Nat) (d : Dd) : Prop where
  dp : dps d.rows ≤ m
  len : (flats d.rows).length ≤ 100000
  ex : ∀ r ∈ flats d.rows, ExsLe k r
  give : d.give.deep ≤ k
  nl : (dnames d).length ≤ 100000
theorem deed_names_ok (h : OwnP P) (d : Dd) {m k : Nat} (hd : DdLe m k d) (hn : m + k + 4 ≤ n) (q : Q (.lst ((dnames d).map .str)) μ) : phi P n "deed_names" .val [d.v] μ Q X := by
  obtain ⟨n, rfl⟩ : ∃ k, n = k + 1 := ⟨n - 1, by omega⟩
  have hΦ := phi_mono P n
  refine call_ok h.dn rfl ?_
  unfold D.deed_names
  rw [w_seq]
  simp [e_v, e_c, e_tup, e_lst, e_dct, s_nil, s_cons, e_ix, e_sl, e_bin, e_cmp, e_eq, e_ne, e_in, e_nin, e_isN, e_notN, e_chain, e_neg, e_not, e_and, e_or, e_ite, e_call, e_bi, e_me, e_isT, e_new, e_attr, e_mth, e_mk, w_setattr, w_skip, w_ex, w_asg, w_asgT, w_setix, w_ite, w_ret, w_raise]
  intro p hp
  rw [w_seq]
  refine for_T Rw.v (flats d.rows) hΦ (i_e ?_ hΦ)
  simp [e_v, e_c, e_tup, e_lst, e_dct, s_nil, s_cons, e_ix, e_sl, e_bin, e_cmp, e_eq, e_ne, e_in, e_nin, e_isN, e_notN, e_chain, e_neg, e_not, e_and, e_or, e_ite, e_call, e_bi, e_me, e_isT, e_new, e_attr, e_mth, e_mk, w_setattr, w_skip, w_ex, w_asg, w_asgT, w_setix, w_ite, w_ret, w_raise]
  refine rows_of_any h.b h.r d m hd.dp (Nat.le_trans hd.len (by decide)) (by omega) ?_
  have hnl : (rnms (flats d.rows)).length + d.give.names.length ≤ 100000 := by have := hd.nl; unfold dnames at this; rwa [List.length_append] at this
  simp [guard]
  refine ⟨vs_map _, fun ys env' μ' => ∃ o : Option Val, env' = [some d.v, some (.ref p), o] ∧ μ' = μ.set p (.lst ((rnms ys).map .str)), ⟨_, rfl, rfl⟩, ?_, ?_⟩
  · rintro ys x zs env' μ' e ⟨o, rfl, rfl⟩
    refine ⟨trivial, ?_⟩
    have hxl : (rnms ys).length + x.nms.length ≤ 100000 := by
      have h1 : (rnms (flats d.rows)).length = (rnms ys).length + (x.nms.length + (rnms zs).length) := by
        rw [e, rnms_app, List.length_append]
        show _ + (x.nms ++ rnms zs).length = _
        rw [List.length_append]
      omega
    have er : (μ.set p (.lst ((rnms ys).map .str))) p = some (.lst ((rnms ys).map .str)) := mset_same
    simp
    rw [ok_extend er]
    refine ⟨rfl, ?_⟩
    refine row_names_ok h x (hd.ex x (by rw [e]; simp)) (by omega) (by omega) ?_
    rw [me_extend er (r := x.nms.map Val.str) rfl]
    refine brV_ite (by rw [List.length_map, List.length_map, big_eq]; omega) ?_
    dsimp only
    rw [mset_set, rnms_snoc, List.map_append]
  · rintro env' μ' ⟨o, rfl, rfl⟩
    refine ⟨trivial, ?_⟩
    have er : (μ.set p (.lst ((rnms (flats d.rows)).map .str))) p = some (.lst ((rnms (flats d.rows)).map .str)) := mset_same
    have e3 : ∀ m2 : Mu, ixV m2 d.v (.int 3) = some d.give.v := fun _ => rfl
    simp [e_v, e_c, e_tup, e_lst, e_dct, s_nil, s_cons, e_ix, e_sl, e_bin, e_cmp, e_eq, e_ne, e_in, e_nin, e_isN, e_notN, e_chain, e_neg, e_not, e_and, e_or, e_ite, e_call, e_bi, e_me, e_isT, e_new, e_attr, e_mth, e_mk, w_setattr, w_skip, w_ex, w_asg, w_asgT, w_setix, w_ite, w_ret, w_raise, e3]
    refine names_in2_ok h.ni d.give n _ _ (by have := hd.give; omega) (by omega) ?_
    unfold strsV
    have hb : binV (μ.set p (.lst ((rnms (flats d.rows)).map .str))) .add (.ref p) (.lst (d.give.names.map .str)) = some (.lst ((dnames d).map .str)) := by
      unfold binV
      rw [ct_ref, er]
      show (if ((rnms (flats d.rows)).map Val.str).length + (d.give.names.map Val.str).length ≤ big then some (Val.lst (((rnms (flats d.rows)).map Val.str) ++ (d.give.names.map Val.str))) else none) = _
      rw [if_pos (by rw [List.length_map, List.length_map, big_eq]; omega), ← List.map_append]
      rfl
    rw [hb]
    show Q (reso _ _ _ _) _
    rw [reso_nr (by show nrL _ = true; exact nrL_strs _), cut_new hp, cut_self]
    exact q
theorem inS_dot {s : Str} (h : s.length ≤ 1000000) : biV μ .inS [.str (Str.ofString "."), .str s] = some (.bl (dot s)) := by
  show inSF [.str (Str.ofString "."), .str s] = _
  have h1 : (Str.ofString ".").length = 1 := os_len "."
  show (if (Str.ofString ".").length = 1 ∧ s.length ≤ big then some (Val.bl (s.cps.toList.any fun c => (Str.ofString ".").cps.toList.contains c)) else none) = _
  rw [if_pos ⟨h1, by rw [big_eq]; omega⟩]
  have h2 : (Str.ofString ".").cps.toList = [46] := rfl
  rw [h2]
  unfold dot
  have h3 : ∀ l : List Nat, (l.any fun c => [46].contains c) = l.contains 46 := by
    intro l
    induction l with
    | nil => rfl
    | cons a t ih =>
      rw [List.any_cons, ih]
      show (([46] : List Nat).contains a || t.contains 46) = (46 == a || t.contains 46)
      by_cases e : a = 46
      · subst e; rfl
      · have e1 : ([46] : List Nat).contains a = false := by simp [e]
        have e2 : (46 == a) = false := by simp [Ne.symm e]
        rw [e1, e2]
  rw [h3]
def OwnRes (m : Md) (μ : Mu) (Q : Val → Mu → Prop) (l : List Str) : Prop := match m with
  | .obj => ∀ r, μ r = none → Q (.ref r) (μ.set r (.lst (l.map .str)))
  | _ => Q (.lst (l.map .str)) μ
structure OwnLe (m k : Nat) (d : Dd) : Prop extends DdLe m k d where
  few : (ownK d).length < 64
  ok : ∀ s ∈ dnames d, okS s = true ∧ s.length ≤ 1000000
  ps : d.ps.length ≤ 1000
theorem own_loop (h : OwnP P) (d : Dd) {m k : Nat} (hd : OwnLe m k d) (hn : m + k + 5 ≤ n) {D : En} {s : S} (q : ∀ (p : Ad) (o : Option Val), μ p = none → wpS (phi P (n - 1)) s [some d.v, some (.lst (d.ps.map .str)), some (.ref p), o] (μ.set p (.dct (tdV (ownK d)))) D) :
    wpS (phi P (n - 1)) (.seq (.asg 1 (.bi .list (.cons (.ix (.v 0) (.c (.int 1))) .nil))) (.seq (.asg 2 (.new (.dct .nil))) (.seq (.forS (.n 3) (.e (.call "deed_names" .val (.cons (.v 0) .nil)))
      (.ite (.and (.not (.bi .inS (.cons (.c (.str (Str.ofString "."))) (.cons (.v 3) .nil)))) (.isin .notin (.v 3) (.v 1))) (.setix (.v 2) (.v 3) (.c (.bl true))) .skip)) s))) [some d.v, none, none, none] μ D := by
  have hΦ := phi_mono P (n - 1)
  have e1 : ∀ m2 : Mu, ixV m2 d.v (.int 1) = some (.tup (d.ps.map .str)) := fun _ => rfl
  rw [w_seq]
  simp [e_v, e_c, e_tup, e_lst, e_dct, s_nil, s_cons, e_ix, e_sl, e_bin, e_cmp, e_eq, e_ne, e_in, e_nin, e_isN, e_notN, e_chain, e_neg, e_not, e_and, e_or, e_ite, e_call, e_bi, e_me, e_isT, e_new, e_attr, e_mth, e_mk, w_setattr, w_skip, w_ex, w_asg, w_asgT, w_setix, w_ite, w_ret, w_raise, e1]
  rw [w_seq]
  simp [e_v, e_c, e_tup, e_lst, e_dct, s_nil, s_cons, e_ix, e_sl, e_bin, e_cmp, e_eq, e_ne, e_in, e_nin, e_isN, e_notN, e_chain, e_neg, e_not, e_and, e_or, e_ite, e_call, e_bi, e_me, e_isT, e_new, e_attr, e_mth, e_mk, w_setattr, w_skip, w_ex, w_asg, w_asgT, w_setix, w_ite, w_ret, w_raise]
  intro p hp
  rw [w_seq]
  refine for_T Val.str (dnames d) hΦ (i_e ?_ hΦ)
  simp [e_v, e_c, e_tup, e_lst, e_dct, s_nil, s_cons, e_ix, e_sl, e_bin, e_cmp, e_eq, e_ne, e_in, e_nin, e_isN, e_notN, e_chain, e_neg, e_not, e_and, e_or, e_ite, e_call, e_bi, e_me, e_isT, e_new, e_attr, e_mth, e_mk, w_setattr, w_skip, w_ex, w_asg, w_asgT, w_setix, w_ite, w_ret, w_raise]
  refine deed_names_ok h d hd.toDdLe (by omega) ?_
  simp [guard]
  refine ⟨fun ys env' μ' => ∃ o : Option Val, env' = [some d.v, some (.lst (d.ps.map .str)), some (.ref p), o] ∧ μ' = μ.set p (.dct (tdV (keysK (ys.filter (plainN d))))), ⟨_, rfl, rfl⟩, ?_, ?_⟩
  · rintro ys x zs env' μ' e ⟨o, rfl, rfl⟩
    refine ⟨trivial, ?_⟩
    have hx : x ∈ dnames d := by rw [e]; simp
    have hin : ∀ m2 : Mu, inV m2 (.str x) (.lst (d.ps.map .str)) = some (decide (x ∈ d.ps)) := fun m2 => in_strs rfl
    simp [inS_dot (hd.ok x hx).2, hin]
    have hkl : (tdV (keysK (ys.filter (plainN d)))).length ≤ 100000 := by
      unfold tdV
      rw [List.length_map]
      have h1 : (keysK (ys.filter (plainN d))).length ≤ (ys.filter (plainN d)).length := nodup_subO (keysK_nodup _) fun x hx => keysK_mem.mp hx
      have h2 := List.length_filter_le (plainN d) ys
      have h3 := hd.nl
      have h4 := congrArg List.length e
      simp at h4
      omega
    have hp1 : (([x] : List Str).filter (plainN d)) = if plainN d x = true then [x] else [] := by
      by_cases hh : plainN d x = true <;> simp [hh]
    have hid : plainN d x = false → keysK (ys.filter (plainN d) ++ [x].filter (plainN d)) = keysK (ys.filter (plainN d)) := fun hh => by rw [hp1, hh]; simp
    refine ⟨fun hdot => ?_, fun hdot => ⟨fun hps => ?_, fun hps => ?_⟩⟩
    · rw [hid (by simp [plainN, hdot])]
    · have hpl : plainN d x = true := by simp [plainN, hdot, hps]
      rw [set_dct mset_same rfl (by rw [big_eq]; omega), dPut_td]
      rw [hp1, if_pos hpl, keysK_snoc]
      simp
    · rw [hid (by simp [plainN, hps])]
  · rintro env' μ' ⟨o, rfl, rfl⟩
    exact ⟨trivial, q p o hp⟩
theorem own4_val (h : OwnP P) (hw : P "own_names" = some D.own_names_v4) (d : Dd) {m k : Nat} (hd : OwnLe m k d) (hn : m + k + 5 ≤ n) (q : Q (.lst ((own d).map .str)) μ) : phi P n "own_names" .val [d.v] μ Q X := by
  obtain ⟨n, rfl⟩ : ∃ k, n = k + 1 := ⟨n - 1, by omega⟩
  refine call_ok hw rfl ?_
  refine own_loop h d hd hn fun p o hp => ?_
  have er : (μ.set p (.dct (tdV (ownK d)))) p = some (.dct (tdV (ownK d))) := mset_same
  have hs := sortK_td (μ := μ.set p (.dct (tdV (ownK d)))) (v := .ref p) er hd.few fun s hs => (hd.ok s (List.mem_filter.mp (keysK_mem.mp hs)).1).1
  have hl := sortS_len (ownK d)
  have h1 := hd.few
  have h2 := hd.ps
  simp [e_v, e_c, e_tup, e_lst, e_dct, s_nil, s_cons, e_ix, e_sl, e_bin, e_cmp, e_eq, e_ne, e_in, e_nin, e_isN, e_notN, e_chain, e_neg, e_not, e_and, e_or, e_ite, e_call, e_bi, e_me, e_isT, e_new, e_attr, e_mth, e_mk, w_setattr, w_skip, w_ex, w_asg, w_asgT, w_setix, w_ite, w_ret, w_raise, hs, big_eq]
  refine ⟨by omega, ?_⟩
  rw [← List.map_append]
  show Q (reso _ _ _ _) _
  rw [reso_nr (by show nrL _ = true; exact nrL_strs _), cut_new hp, cut_self]
  exact q
end
end Mi
/-! Lf: how books are drawn. -/
namespace Mi
open PySem (Str)
def intsV (l : List Int) : Val := .lst (l.map Val.int)
theorem ixN_in {n : Nat} {i : Int} (h0 : 0 ≤ i) (h1 : i < n) : ixN n i = some i.toNat := by
  unfold ixN
  rw [if_pos h0, if_pos h1]
section
variable {P : Prog} {n : Nat} {μ : Mu} {Q : Val → Mu → Prop} {X : XQ} {p : Ad}
end
end Mi
/-! Lg: how books are drawn, further. -/
namespace Mi
open PySem (Str)
section
variable {P : Prog} {n : Nat} {μ : Mu} {Q : Val → Mu → Prop} {X : XQ} {p : Ad}
theorem me_popI {l : List Val} {i : Int} {k : Nat} {x : Val} (h : μ p = some (.lst l)) (hl : l.length ≤ big) (hk : ixN l.length i = some k) (hx : l[k]? = some x) : meV μ .pop (.ref p) [.int i] = some (x, μ.set p (.lst (l.eraseIdx k))) := by
  show popF μ (.ref p) [.int i] = _
  simp [popF, h, hl, hk, hx]
theorem eraseIdx_map' {α β : Type} (f : α → β) : ∀ (l : List α) (k : Nat), (l.map f).eraseIdx k = (l.eraseIdx k).map f
  | [], _ => by simp
  | a :: l, 0 => rfl
  | a :: l, k + 1 => by simp [eraseIdx_map' f l k]
structure HsOk (names : List Str) (hs : List (Str × List Str)) : Prop where
  nd : (hs.map Prod.fst).Nodup
  wl : ∀ h ∈ hs, h.1.length ≤ 12
  ps : ∀ h ∈ hs, h.2.Nodup ∧ h.2.length ≤ 4 ∧ ∀ s ∈ h.2, s ∈ names
def But (p : Ad) (μ μ' : Mu) : Prop := ∀ a, (μ a).isSome = true → a ≠ p → μ' a = μ a
theorem But.pw {μ1 μ2 : Mu} (h : But p μ μ1) (k : Pw p μ1 μ2) : But p μ μ2 := fun a ha hb => (k.eq a hb).trans (h a ha hb)
theorem But.set {μ1 : Mu} {r : Ad} {v : Val} (h : But p μ μ1) (hr : μ r = none) : But p μ (μ1.set r v) := fun a ha hb => by rw [mset_ne (isSome_ne ha hr)]; exact h a ha hb
end
end Mi
/-! Ma: the drawn books of the menu family (k12.., k41..k44): draws, expressions. Its pools are Sta, too. -/
namespace Mi
open PySem (Str)
section
variable {P : Prog} {n : Nat} {μ : Mu} {Q : Val → Mu → Prop} {X : XQ} {p : Ad}
def rdPl (μ : Mu) (p : Ad) : Int × Int := match μ p with
  | some (.lst [.int a, .int b]) => (a, b)
  | _ => (0, 0)
theorem rdPl_eq {a b : Int} (e : μ p = some (.lst [.int a, .int b])) : rdPl μ p = (a, b) := by unfold rdPl; rw [e]
theorem rdPl_ne {q : Ad} {v : Val} (h : q ≠ p) : rdPl (μ.set q v) p = rdPl μ p := by unfold rdPl; rw [mset_ne (Ne.symm h)]
def stpS (b : Int) : Int := (b * 48271 + 12820163).fmod 2147483647
def mixS (c m : Int) : Int := ((((c * c).fmod 2147483629) * 69621).fmod 2147483587).fdiv 8 |>.fmod m
def tkS (m : Int) (s : Int × Int) : Int × (Int × Int) := if 0 < s.1 then (s.1.fmod m, (s.1.fdiv m, s.2)) else (mixS (stpS s.2) m, (s.1, stpS s.2))
theorem takeM_ok (h : P "_law_take" = some D._law_take_v2) {m : Int} (hp : Sta μ p) (h0 : 0 < m) (h1 : m < 1073741824) (hn : 1 ≤ n) (q : ∀ v μ', 0 ≤ v → v < m → Sw p μ μ' → tkS m (rdPl μ p) = (v, rdPl μ' p) → Q (.int v) μ') : phi P n "_law_take" .val [.ref p, .int m] μ Q X := by
  obtain ⟨n, rfl⟩ : ∃ k, n = k + 1 := ⟨n - 1, by omega⟩
  have hp0 := hp
  obtain ⟨a, b, e, b0, b1⟩ := hp
  refine call_ok h rfl ?_
  have hm0 : m ≠ 0 := by omega
  have hmb : m.natAbs < 1073741824 := by omega
  have fin : ∀ (v : Int) (μ' : Mu), 0 ≤ v → v < m → Sw p μ μ' → tkS m (rdPl μ p) = (v, rdPl μ' p) → finM .val μ Q (.int v) μ' := fun v μ' v0 v1 k he => by
    show Q (reso _ _ _ _) _
    rw [reso_nr rfl, k.cut_ hp0]
    exact q v μ' v0 v1 k he
  have hrd := rdPl_eq e
  simp [D._law_take_v2, e_v, e_c, e_tup, e_lst, e_dct, s_nil, s_cons, e_ix, e_sl, e_bin, e_cmp, e_eq, e_ne, e_in, e_nin, e_isN, e_notN, e_chain, e_neg, e_not, e_and, e_or, e_ite, e_call, e_bi, e_me, e_isT, e_new, e_attr, e_mth, e_mk, w_setattr, w_skip, w_ex, w_asg, w_asgT, w_setix, w_ite, w_ret, w_raise, w_seq, ix_ref e, hm0, hmb]
  refine ⟨fun hpos => ?_, fun hneg => ?_⟩
  · have f := fmod_lt (a := a) h0
    rw [set_lst (n := 0) e rfl]
    simp
    exact fin _ _ f.1 f.2 ⟨⟨a.fdiv m, b, mset_same, b0, b1⟩, fun c hc => mset_ne hc⟩ (by rw [hrd, rdPl_eq mset_same]; unfold tkS; rw [if_pos hpos])
  · have f := fmod_lt (a := b * 48271 + 12820163) (m := 2147483647) (by decide)
    refine ⟨cmul_l (by omega) (by omega), ?_⟩
    rw [set_lst (n := 1) e rfl]
    simp
    generalize hc : (b * 48271 + 12820163).fmod 2147483647 = c at f
    have e2 : (μ.set p (.lst [.int a, .int c])) p = some (.lst [.int a, .int c]) := mset_same
    rw [ix_ref e2]
    simp
    have f2 := fmod_lt (a := c * c) (m := 2147483629) (by decide)
    refine ⟨cmul_l (by omega) (by omega), cmul_l (by omega) (by omega), ?_⟩
    have g := fmod_lt (a := ((((c * c).fmod 2147483629) * 69621).fmod 2147483587).fdiv 8) h0
    exact ⟨hm0, fin _ _ g.1 g.2 ⟨⟨a, c, mset_same, f.1, f.2⟩, fun c hc => mset_ne hc⟩ (by
      rw [hrd, rdPl_eq mset_same]
      unfold tkS
      rw [if_neg (by show ¬ 0 < a; omega), show stpS (a, b).2 = c from hc]
      rfl)⟩
structure MxP (P : Prog) : Prop where
  t : P "_law_take" = some D._law_take_v2
  v : P "_law_value" = some D._law_value_v2
  e : P "_law_expression" = some D._law_expression_v2
def valS (s : Int × Int) : Int × (Int × Int) := match tkS 8 s with
  | (w, s1) => if w = 7 then (999999, s1) else tkS (if w.fmod 3 = 0 then 4 else if w.fmod 3 = 1 then 12 else 1000000) s1
theorem valueM_ok (h : MxP P) (hp : Sta μ p) (hn : 2 ≤ n) (q : ∀ v μ', 0 ≤ v → v < 1000000 → Sw p μ μ' → valS (rdPl μ p) = (v, rdPl μ' p) → Q (.int v) μ') : phi P n "_law_value" .val [.ref p] μ Q X := by
  obtain ⟨n, rfl⟩ : ∃ k, n = k + 1 := ⟨n - 1, by omega⟩
  refine call_ok h.v rfl ?_
  have fin : ∀ (v : Int) (μ' : Mu), 0 ≤ v → v < 1000000 → Sw p μ μ' → valS (rdPl μ p) = (v, rdPl μ' p) → finM .val μ Q (.int v) μ' := fun v μ' v0 v1 k he => by
    show Q (reso _ _ _ _) _
    rw [reso_nr rfl, k.cut_ hp]
    exact q v μ' v0 v1 k he
  unfold D._law_value_v2
  rw [w_seq]
  simp [e_v, e_c, e_tup, e_lst, e_dct, s_nil, s_cons, e_ix, e_sl, e_bin, e_cmp, e_eq, e_ne, e_in, e_nin, e_isN, e_notN, e_chain, e_neg, e_not, e_and, e_or, e_ite, e_call, e_bi, e_me, e_isT, e_new, e_attr, e_mth, e_mk, w_setattr, w_skip, w_ex, w_asg, w_asgT, w_setix, w_ite, w_ret, w_raise]
  refine takeM_ok h.t hp (by decide) (by decide) (by omega) fun w μ1 w0 w1 k1 d1 => ?_
  rw [w_seq]
  simp [e_v, e_c, e_tup, e_lst, e_dct, s_nil, s_cons, e_ix, e_sl, e_bin, e_cmp, e_eq, e_ne, e_in, e_nin, e_isN, e_notN, e_chain, e_neg, e_not, e_and, e_or, e_ite, e_call, e_bi, e_me, e_isT, e_new, e_attr, e_mth, e_mk, w_setattr, w_skip, w_ex, w_asg, w_asgT, w_setix, w_ite, w_ret, w_raise]
  refine ⟨fun hw7 => fin _ _ (by decide) (by decide) k1 (by unfold valS; rw [d1]; dsimp only; rw [if_pos hw7]), fun hw7 => ?_⟩
  obtain ⟨m, m0, m1, hm, hme⟩ : ∃ m : Int, 0 < m ∧ m ≤ 1000000 ∧ atI [Val.int 4, .int 12, .int 1000000] (w.fmod 3) = some (.int m) ∧ m = (if w.fmod 3 = 0 then 4 else if w.fmod 3 = 1 then 12 else 1000000) := by
    have f := fmod_lt (a := w) (m := 3) (by decide)
    have : w.fmod 3 = 0 ∨ w.fmod 3 = 1 ∨ w.fmod 3 = 2 := by omega
    rcases this with e | e | e <;> rw [e]
    · exact ⟨4, by decide, by decide, rfl, rfl⟩
    · exact ⟨12, by decide, by decide, rfl, rfl⟩
    · exact ⟨1000000, by decide, by decide, rfl, rfl⟩
  simp [hm]
  exact takeM_ok h.t k1.st m0 (by omega) (by omega) fun v μ2 v0 v1 k2 d2 => fin v μ2 v0 (by omega) (k1.trans k2) (by unfold valS; rw [d1]; dsimp only; rw [if_neg hw7, ← hme]; exact d2)
structure ExM (names : List Str) (d : Nat) (e : Ex) : Prop where
  small : e.small
  deep : e.deep ≤ d
  names : ∀ s ∈ e.names, s ∈ names
def wdS (i : Int) : Wd := if i = 0 then .plus else if i = 1 then .less else if i = 2 then .times else if i = 3 then .under else if i = 4 then .same else if i = 5 then .over else .rest
def leafS (names : List Str) (w : Int) (s : Int × Int) : Ex × (Int × Int) :=
  if w < 3 then (match tkS (names.length : Int) s with | (i, s2) => (.nam (names[i.toNat]?.getD ⟨#[]⟩), s2)) else (match valS s with | (v, s2) => (.num v, s2))
def exS (names : List Str) : Nat → (Int × Int) → Ex × (Int × Int)
  | 0, s => match tkS 8 s with | (w, s1) => leafS names w s1
  | d + 1, s => match tkS 8 s with
    | (w, s1) => if 4 < w then (match tkS 6 s1 with
      | (u, s2) => match tkS (5 + 2 * (if u = 0 then 1 else 0)) s2 with
        | (i, s3) => match exS names d s3 with
          | (a, s4) => match exS names d s4 with
            | (c, s5) => (.op (wdS i) a c, s5)) else leafS names w s1
theorem wd_atM {i : Int} (h0 : 0 ≤ i) (h1 : i < 7) : ∃ w : Wd, atI [Val.str (Str.ofString "plus"), .str (Str.ofString "less"), .str (Str.ofString "times"), .str (Str.ofString "under"), .str (Str.ofString "same"), .str (Str.ofString "over"), .str (Str.ofString "rest")] i = some (.str w.s) ∧ w = wdS i := by
  have : i = 0 ∨ i = 1 ∨ i = 2 ∨ i = 3 ∨ i = 4 ∨ i = 5 ∨ i = 6 := by omega
  rcases this with rfl | rfl | rfl | rfl | rfl | rfl | rfl
  · exact ⟨.plus, rfl, rfl⟩
  · exact ⟨.less, rfl, rfl⟩
  · exact ⟨.times, rfl, rfl⟩
  · exact ⟨.under, rfl, rfl⟩
  · exact ⟨.same, rfl, rfl⟩
  · exact ⟨.over, rfl, rfl⟩
  · exact ⟨.rest, rfl, rfl⟩
def ExprM (P : Prog) (p : Ad) (names : List Str) (d : Nat) : Prop := ∀ {n : Nat} {μ : Mu} {Q : Val → Mu → Prop} {X : XQ}, d ≤ 4 → Sta μ p → d + 3 ≤ n → (∀ e μ', ExM names (d + 1) e → Sw p μ μ' → exS names d (rdPl μ p) = (e, rdPl μ' p) → Q e.v μ') → phi P n "_law_expression" .val [.ref p, .lst (names.map .str), .int (5 - (d : Int))] μ Q X
theorem exprM_step (h : MxP P) {names : List Str} (hne : names ≠ []) (hnl : names.length ≤ 1000) {d : Nat} (IH : ∀ d', d' < d → ExprM P p names d') : ExprM P p names d := by
  intro n μ Q X hd hp hn q
  obtain ⟨n, rfl⟩ : ∃ k, n = k + 1 := ⟨n - 1, by omega⟩
  refine call_ok h.e rfl ?_
  have hΦ := phi_mono P n
  have fin : ∀ (e : Ex) (μ' : Mu), ExM names (d + 1) e → Sw p μ μ' → exS names d (rdPl μ p) = (e, rdPl μ' p) → finM .val μ Q e.v μ' := fun e μ' he k hq => by
    show Q (reso _ _ _ _) _
    rw [reso_nr e.nr, k.cut_ hp]
    exact q e μ' he k hq
  have hpos : 0 < names.length := List.length_pos_iff.mpr hne
  obtain ⟨D2, hD2⟩ : ∃ D2 : Int, D2 = 5 - (d : Int) := ⟨_, rfl⟩
  rw [← hD2]
  unfold D._law_expression_v2
  rw [w_seq]
  simp [e_v, e_c, e_tup, e_lst, e_dct, s_nil, s_cons, e_ix, e_sl, e_bin, e_cmp, e_eq, e_ne, e_in, e_nin, e_isN, e_notN, e_chain, e_neg, e_not, e_and, e_or, e_ite, e_call, e_bi, e_me, e_isT, e_new, e_attr, e_mth, e_mk, w_setattr, w_skip, w_ex, w_asg, w_asgT, w_setix, w_ite, w_ret, w_raise]
  refine takeM_ok h.t hp (by decide) (by decide) (by omega) fun w μ1 w0 w1 k1 d1 => ?_
  have leaf : exS names d (rdPl μ p) = leafS names w (rdPl μ1 p) → ∀ {env : Env} {D : En}, env = [some (.ref p), some (.lst (names.map .str)), some (.int D2), some (.int w), none, none, none] → D.rt = (fun v μ' => finM .val μ Q v μ') → wpS (phi P n) (.seq (.ite (.cmp .lt (.v 3) (.c (.int 3)))
  (.ret (.tup (.cons (.c (.str (Str.ofString "name"))) (.cons (.ix (.v 1) (.call "_law_take" .val (.cons (.v 0) (.cons (.bi .len (.cons (.v 1) .nil)) .nil)))) .nil))))
  .skip)
  (.ret (.tup (.cons (.c (.str (Str.ofString "number"))) (.cons (.call "_law_value" .val (.cons (.v 0) .nil)) .nil))))) env μ1 D := by
    intro hlf env D he hrt
    subst he
    rw [w_seq]
    simp [e_v, e_c, e_tup, e_lst, e_dct, s_nil, s_cons, e_ix, e_sl, e_bin, e_cmp, e_eq, e_ne, e_in, e_nin, e_isN, e_notN, e_chain, e_neg, e_not, e_and, e_or, e_ite, e_call, e_bi, e_me, e_isT, e_new, e_attr, e_mth, e_mk, w_setattr, w_skip, w_ex, w_asg, w_asgT, w_setix, w_ite, w_ret, w_raise, hrt]
    refine ⟨fun hw3 => ?_, fun hw3 => ?_⟩
    · refine takeM_ok h.t k1.st (by omega) (by omega) (by omega) fun i μ2 i0 i1 k2 d2 => ?_
      obtain ⟨s, hs⟩ : ∃ s, names[i.toNat]? = some s := ⟨_, List.getElem?_eq_getElem (by omega)⟩
      rw [ix_lst, at_nat i0 (a := Val.str s) (by rw [List.getElem?_map, hs]; rfl)]
      exact fin (.nam s) μ2 ⟨trivial, by simp [Ex.deep], fun x hx => by simp [Ex.names] at hx; rw [hx]; exact List.mem_of_getElem? hs⟩ (k1.trans k2) (by rw [hlf]; unfold leafS; rw [if_pos hw3, d2]; dsimp only; rw [hs]; rfl)
    · exact valueM_ok h k1.st (by omega) fun v μ2 v0 v1 k2 d2 => fin (.num v) μ2 ⟨⟨v0, v1⟩, by simp [Ex.deep], fun x hx => by simp [Ex.names] at hx⟩ (k1.trans k2) (by rw [hlf]; unfold leafS; rw [if_neg (by omega), d2])
  by_cases hop : 4 < w ∧ 1 ≤ d
  · have hw : 4 < w := hop.1
    have hD : D2 < 5 := by omega
    rw [w_seq]
    simp [e_v, e_c, e_tup, e_lst, e_dct, s_nil, s_cons, e_ix, e_sl, e_bin, e_cmp, e_eq, e_ne, e_in, e_nin, e_isN, e_notN, e_chain, e_neg, e_not, e_and, e_or, e_ite, e_call, e_bi, e_me, e_isT, e_new, e_attr, e_mth, e_mk, w_setattr, w_skip, w_ex, w_asg, w_asgT, w_setix, w_ite, w_ret, w_raise, hw, hD]
    rw [w_seq]
    simp [e_v, e_c, e_tup, e_lst, e_dct, s_nil, s_cons, e_ix, e_sl, e_bin, e_cmp, e_eq, e_ne, e_in, e_nin, e_isN, e_notN, e_chain, e_neg, e_not, e_and, e_or, e_ite, e_call, e_bi, e_me, e_isT, e_new, e_attr, e_mth, e_mk, w_setattr, w_skip, w_ex, w_asg, w_asgT, w_setix, w_ite, w_ret, w_raise]
    rw [w_seq]
    simp [e_v, e_c, e_tup, e_lst, e_dct, s_nil, s_cons, e_ix, e_sl, e_bin, e_cmp, e_eq, e_ne, e_in, e_nin, e_isN, e_notN, e_chain, e_neg, e_not, e_and, e_or, e_ite, e_call, e_bi, e_me, e_isT, e_new, e_attr, e_mth, e_mk, w_setattr, w_skip, w_ex, w_asg, w_asgT, w_setix, w_ite, w_ret, w_raise]
    refine takeM_ok h.t k1.st (by decide) (by decide) (by omega) fun u μ2 _ _ k2 d2 => ?_
    simp
    obtain ⟨m, hm, m0, m1⟩ : ∃ m : Int, (5 + 2 * (if u = 0 then 1 else 0) : Int) = m ∧ 0 < m ∧ m ≤ 7 := ⟨_, rfl, by split <;> omega, by split <;> omega⟩
    rw [hm]
    refine takeM_ok h.t k2.st m0 (by omega) (by omega) fun i μ3 i0 i1 k3 d3 => ?_
    obtain ⟨wd, hwd, hwe⟩ := wd_atM i0 (by omega)
    have eD : D2 + 1 = 5 - ((d - 1 : Nat) : Int) := by omega
    rw [ix_lst, hwd]
    simp only [brV_some]
    rw [w_seq]
    simp [e_v, e_c, e_tup, e_lst, e_dct, s_nil, s_cons, e_ix, e_sl, e_bin, e_cmp, e_eq, e_ne, e_in, e_nin, e_isN, e_notN, e_chain, e_neg, e_not, e_and, e_or, e_ite, e_call, e_bi, e_me, e_isT, e_new, e_attr, e_mth, e_mk, w_setattr, w_skip, w_ex, w_asg, w_asgT, w_setix, w_ite, w_ret, w_raise]
    rw [eD]
    refine IH (d - 1) (by omega) (by omega) k3.st (by omega) fun a μ4 ha k4 d4 => ?_
    refine IH (d - 1) (by omega) (by omega) k4.st (by omega) fun b μ5 hb k5 d5 => ?_
    refine fin (.op wd a b) μ5 ⟨⟨ha.small, hb.small⟩, by have := ha.deep; have := hb.deep; simp [Ex.deep]; omega, fun s hs => ?_⟩ ((((k1.trans k2).trans k3).trans k4).trans k5) (by
      obtain ⟨d', hd'⟩ : ∃ d', d = d' + 1 := ⟨d - 1, by omega⟩
      subst hd'
      rw [exS, d1]
      dsimp only
      rw [if_pos hw, d2]
      dsimp only
      rw [hm, d3]
      dsimp only
      have d4 : exS names d' (rdPl μ3 p) = (a, rdPl μ4 p) := d4
      have d5 : exS names d' (rdPl μ4 p) = (b, rdPl μ5 p) := d5
      rw [d4]
      dsimp only
      rw [d5, hwe])
    simp [Ex.names] at hs
    rcases hs with hs | hs
    · exact ha.names s hs
    · exact hb.names s hs
  · refine w_seq_id hΦ ?_ ?_
    · simp [e_v, e_c, e_tup, e_lst, e_dct, s_nil, s_cons, e_ix, e_sl, e_bin, e_cmp, e_eq, e_ne, e_in, e_nin, e_isN, e_notN, e_chain, e_neg, e_not, e_and, e_or, e_ite, e_call, e_bi, e_me, e_isT, e_new, e_attr, e_mth, e_mk, w_setattr, w_skip, w_ex, w_asg, w_asgT, w_setix, w_ite, w_ret, w_raise]
      intro h1 h2
      exact absurd ⟨h1, by omega⟩ hop
    · refine leaf ?_ rfl rfl
      cases d with
      | zero => rw [exS, d1]
      | succ d =>
        rw [exS, d1]
        dsimp only
        rw [if_neg fun z => hop ⟨z, by omega⟩]
theorem exprM_ok (h : MxP P) {names : List Str} (hne : names ≠ []) (hnl : names.length ≤ 1000) (d : Nat) : ExprM P p names d := by
  induction d using Nat.strongRecOn with
  | _ d ih => exact exprM_step h hne hnl ih
end
end Mi
/-! Nb: rows of the menu family with small turns (k41..k45), drawn with a state at hand. -/
namespace Mi
open PySem (Str)
def hdM (h : Str × List Str) : Val := .tup [.str h.1, .lst (h.2.map .str)]
def woM (r : Ad) (at' rows calls first : Int) : List Val :=
  [.tup [.str (Str.ofString "heads"), .ref r], .tup [.str (Str.ofString "at"), .int at'], .tup [.str (Str.ofString "rows"), .int rows], .tup [.str (Str.ofString "calls"), .int calls], .tup [.str (Str.ofString "first"), .int first]]
section
variable {μ : Mu} {w r : Ad} {at' rows calls first : Int}
theorem wm_heads (h : μ w = some (.dct (woM r at' rows calls first))) : ixV μ (.ref w) (.str (Str.ofString "heads")) = some (.ref r) := by
  unfold ixV
  simp only [content, h]
  rfl
theorem wm_at (h : μ w = some (.dct (woM r at' rows calls first))) : ixV μ (.ref w) (.str (Str.ofString "at")) = some (.int at') := by
  unfold ixV
  simp only [content, h]
  rfl
theorem wm_rows (h : μ w = some (.dct (woM r at' rows calls first))) : ixV μ (.ref w) (.str (Str.ofString "rows")) = some (.int rows) := by
  unfold ixV
  simp only [content, h]
  rfl
theorem wm_calls (h : μ w = some (.dct (woM r at' rows calls first))) : ixV μ (.ref w) (.str (Str.ofString "calls")) = some (.int calls) := by
  unfold ixV
  simp only [content, h]
  rfl
theorem wm_first (h : μ w = some (.dct (woM r at' rows calls first))) : ixV μ (.ref w) (.str (Str.ofString "first")) = some (.int first) := by
  unfold ixV
  simp only [content, h]
  rfl
theorem wm_setC (h : μ w = some (.dct (woM r at' rows calls first))) (i : Int) : setV μ (.ref w) (.str (Str.ofString "calls")) (.int i) = some (μ.set w (.dct (woM r at' rows i first))) := by
  rw [set_dct h rfl (by rw [big_eq]; simp [woM])]
  rfl
theorem wm_setR (h : μ w = some (.dct (woM r at' rows calls first))) (i : Int) : setV μ (.ref w) (.str (Str.ofString "rows")) (.int i) = some (μ.set w (.dct (woM r at' i calls first))) := by
  rw [set_dct h rfl (by rw [big_eq]; simp [woM])]
  rfl
theorem wm_setA (h : μ w = some (.dct (woM r at' rows calls first))) (i : Int) : setV μ (.ref w) (.str (Str.ofString "at")) (.int i) = some (μ.set w (.dct (woM r i rows calls first))) := by
  rw [set_dct h rfl (by rw [big_eq]; simp [woM])]
  rfl
end
def mlM (first : Int) (l l' : Nat) : List Int := (List.range (l - l')).map fun i => (first + 37 * ((l - 1 - i : Nat) : Int)).fmod 100
theorem mlM_self (first : Int) (l : Nat) : mlM first l l = [] := by simp [mlM]
theorem mlM_one (first : Int) (l : Nat) : mlM first (l + 1) l = [(first + 37 * (l : Int)).fmod 100] := by
  unfold mlM
  rw [show l + 1 - l = 1 from by omega]
  simp [List.range_succ]
theorem mlM_app (first : Int) {l l1 l2 : Nat} (h : l1 ≤ l) (h2 : l2 ≤ l1) : mlM first l l1 ++ mlM first l1 l2 = mlM first l l2 := by
  unfold mlM
  rw [show l - l2 = (l - l1) + (l1 - l2) from by omega, List.range_add, List.map_append, List.map_map]
  congr 1
  refine List.map_congr_left fun i hi => ?_
  have := List.mem_range.mp hi
  simp only [Function.comp]
  rw [show l - 1 - (l - l1 + i) = l1 - 1 - i from by omega]
structure RwM (names : List Str) (hs : Hs) (r : Rw) : Prop where
  ex : ∀ e ∈ r.exs, ExM names 5 e
  aim : ∀ s ∈ r.aim, s ∈ names
  cl : ∀ x w as m, r = .call x w as m → (∃ ps, (w, ps) ∈ hs ∧ as.length = ps.length) ∧ 0 ≤ m ∧ m < 100
theorem ExM.up {names : List Str} {d d' : Nat} {e : Ex} (h : ExM names d e) (hd : d ≤ d') : ExM names d' e := ⟨h.small, Nat.le_trans h.deep hd, h.names⟩
structure MrP (P : Prog) : Prop where
  x : MxP P
  call : P "_law_call" = some D._law_call_v3
  row : P "_law_row" = some D._law_row_v4
  rows : P "_law_rows" = some D._law_rows_v3
structure WmAt (w r : Ad) (hs : Hs) (at' first : Int) (left room : Nat) (μ : Mu) : Prop where
  w : μ w = some (.dct (woM r at' (room : Int) (left : Int) first))
  r : μ r = some (.lst (hs.map hdM))
structure FixM (p w r : Ad) (hs : Hs) (at' first : Int) (names : List Str) : Prop where
  wp : w ≠ p
  rp : r ≠ p
  rw' : r ≠ w
  len : hs.length ≤ 10
  ps : ∀ h ∈ hs, h.2.length ≤ 4
  at0 : 0 ≤ at'
  at1 : at' < hs.length
  ne : names ≠ []
  nl : names.length ≤ 1000
section
variable {P : Prog} {n : Nat} {μ : Mu} {Q : Val → Mu → Prop} {X : XQ} {p w r : Ad} {hs : Hs} {at' first : Int} {left room : Nat} {names : List Str}
theorem WmAt.sw (F : FixM p w r hs at' first names) (h : WmAt w r hs at' first left room μ) {μ' : Mu} (k : Sw p μ μ') : WmAt w r hs at' first left room μ' := ⟨by rw [k.eq w F.wp]; exact h.w, by rw [k.eq r F.rp]; exact h.r⟩
theorem sta_ne {q : Ad} {v : Val} (hp : Sta μ p) (h : q ≠ p) : Sta (μ.set q v) p := by
  obtain ⟨a, b, e, r2⟩ := hp
  exact ⟨a, b, by rw [mset_ne (Ne.symm h)]; exact e, r2⟩
/-! the draws as functions -/
def argS (names : List Str) (ps : List Str) (s : Int × Int) : List Ex × (Int × Int) := ps.foldl (fun acc _ => match exS names 2 acc.2 with | (e, s') => (acc.1 ++ [e], s')) ([], s)
theorem argS_snoc (names : List Str) (ys : List Str) (x : Str) (s : Int × Int) {es : List Ex} {s1 : Int × Int} {e : Ex} {s2 : Int × Int} (h1 : argS names ys s = (es, s1)) (h2 : exS names 2 s1 = (e, s2)) : argS names (ys ++ [x]) s = (es ++ [e], s2) := by
  unfold argS at h1 ⊢
  rw [List.foldl_append, h1]
  show (match exS names 2 s1 with | (e, s') => (es ++ [e], s')) = _
  rw [h2]
def chS (hs : Hs) (at' : Int) (s : Int × Int) : Int × (Int × Int) := match tkS (hs.length : Int) s with
  | (i, s1) => if 0 < (hs.length : Int) - at' - 1 then (match tkS 4 s1 with
    | (u, s2) => if 0 < u then (match tkS ((hs.length : Int) - at' - 1) s2 with | (j, s3) => (at' + 1 + j, s3)) else (i, s2)) else (i, s1)
def hdA (hs : Hs) (i : Int) : Str × List Str := (hs[i.toNat]?).getD (⟨#[]⟩, [])
def nmA (names : List Str) (j : Int) : Str := (names[j.toNat]?).getD ⟨#[]⟩
def clS (hs : Hs) (at' first : Int) (names : List Str) (left : Nat) (s : Int × Int) : Rw × (Int × Int) := match chS hs at' s with
  | (i, s1) => match argS names (hdA hs i).2 s1 with
    | (es, s2) => match tkS (names.length : Int) s2 with
      | (j, s3) => (.call (nmA names j) (hdA hs i).1 es ((first + 37 * (left : Int)).fmod 100), s3)
abbrev RSt := (Int × Int) × (Nat × Nat)
def tnS (e : Ex) (s : Int × Int) : Ex × (Int × Int) := match tkS 4 s with
  | (t, s1) => if 0 < t then (match tkS 4 s1 with | (v, s2) => (.num v, s2)) else (e, s1)
def rwS (hs : Hs) (at' first : Int) (names : List Str) (nest : Option (RSt → List Rw × RSt)) (σ : RSt) : Rw × RSt := match tkS 10 σ.1 with
  | (way, s1) => if way < 3 ∧ 0 < σ.2.1 then (match clS hs at' first names (σ.2.1 - 1) s1 with | (c, s2) => (c, (s2, (σ.2.1 - 1, σ.2.2))))
    else match tkS (names.length : Int) s1 with
    | (j, s2) => match tkS 4 s2 with
      | (u, s3) => match exS names (4 - u.toNat) s3 with
        | (e, s4) => if way = 3 ∧ nest.isSome = true then (match (nest.getD fun σ => ([], σ)) (s4, σ.2) with
            | (a, σ1) => match (nest.getD fun σ => ([], σ)) σ1 with | (b, σ2) => (.when e a b, σ2))
          else if way = 4 ∧ nest.isSome = true then (match tnS e s4 with | (e2, s5) => match (nest.getD fun σ => ([], σ)) (s5, σ.2) with | (a, σ1) => (.turn e2 a, σ1))
          else if way < 7 then (.say e, (s4, σ.2)) else (.set (nmA names j) e, (s4, σ.2))
def lpS (row : RSt → Rw × RSt) : Nat → List Rw × RSt → List Rw × RSt
  | 0, acc => acc
  | k + 1, acc => match lpS row k acc with
    | (l, σ) => if 0 < σ.2.2 then (match row (σ.1, (σ.2.1, σ.2.2 - 1)) with | (c, σ') => (l ++ [c], σ')) else (l, σ)
def mrS (d : Nat) : Int := if d = 0 then 3 else if d = 1 then 4 else 6
def rrS (hs : Hs) (at' first : Int) (names : List Str) : Nat → RSt → List Rw × RSt
  | 0, σ => match tkS (mrS 0) σ.1 with | (i, s1) => lpS (rwS hs at' first names none) i.toNat ([], (s1, σ.2))
  | d + 1, σ => match tkS (mrS (d + 1)) σ.1 with | (i, s1) => lpS (rwS hs at' first names (some (rrS hs at' first names d))) i.toNat ([], (s1, σ.2))
def neS (hs : Hs) (at' first : Int) (names : List Str) : Nat → Option (RSt → List Rw × RSt)
  | 0 => none
  | d + 1 => some (rrS hs at' first names d)
theorem rrS_eq (hs : Hs) (at' first : Int) (names : List Str) (d : Nat) (σ : RSt) : rrS hs at' first names d σ = match tkS (mrS d) σ.1 with | (i, s1) => lpS (rwS hs at' first names (neS hs at' first names d)) i.toNat ([], (s1, σ.2)) := by
  cases d with
  | zero => rw [rrS]; rfl
  | succ d => rw [rrS]; rfl
structure ClI (p w r : Ad) (hs : Hs) (at' : Int) (names : List Str) (μ : Mu) (env' : Env) (μ' : Mu) : Prop where
  ex : ∃ (i : Int) (o5 : Option Val), chS hs at' (rdPl μ p) = (i, rdPl μ' p) ∧ env' = [some (.ref p), some (.ref w), some (.lst (names.map .str)), some (.ref r), some (.int i), o5, none, none, none] ∧ 0 ≤ i ∧ i < hs.length ∧ Sw p μ μ'
theorem call_okM (h : MrP P) (F : FixM p w r hs at' first names) (hp : Sta μ p) (hw : WmAt w r hs at' first (left + 1) room μ) (hn : 7 ≤ n)
    (q : ∀ (c : Rw) μ', RwM names hs c → c.flat = [c] → c.within = [] → mks [c] = mlM first (left + 1) left → Ww p w μ μ' → WmAt w r hs at' first left room μ' → clS hs at' first names left (rdPl μ p) = (c, rdPl μ' p) → Q c.v μ') : phi P n "_law_call" .val [.ref p, .ref w, .lst (names.map .str)] μ Q X := by
  obtain ⟨n, rfl⟩ : ∃ k, n = k + 1 := ⟨n - 1, by omega⟩
  have hΦ := phi_mono P n
  refine call_ok h.call rfl ?_
  have hsw : (μ w).isSome = true := by rw [hw.w]; rfl
  have fin : ∀ (c : Rw) μ', RwM names hs c → c.flat = [c] → c.within = [] → mks [c] = mlM first (left + 1) left → Ww p w μ μ' → WmAt w r hs at' first left room μ' → clS hs at' first names left (rdPl μ p) = (c, rdPl μ' p) → finM .val μ Q c.v μ' := fun c μ' a1 a2 a3 a4 k a5 he => by
    show Q (reso _ _ _ _) _
    rw [reso_nr (plain_nr c.plain), k.cut_ hp hsw]
    exact q c μ' a1 a2 a3 a4 k a5 he
  have hl := F.len
  have h0 := F.at0
  have h1 := F.at1
  unfold D._law_call_v3
  rw [w_seq]
  simp [e_v, e_c, e_tup, e_lst, e_dct, s_nil, s_cons, e_ix, e_sl, e_bin, e_cmp, e_eq, e_ne, e_in, e_nin, e_isN, e_notN, e_chain, e_neg, e_not, e_and, e_or, e_ite, e_call, e_bi, e_me, e_isT, e_new, e_attr, e_mth, e_mk, w_setattr, w_skip, w_ex, w_asg, w_asgT, w_setix, w_ite, w_ret, w_raise, wm_heads hw.w]
  rw [w_seq]
  simp [e_v, e_c, e_tup, e_lst, e_dct, s_nil, s_cons, e_ix, e_sl, e_bin, e_cmp, e_eq, e_ne, e_in, e_nin, e_isN, e_notN, e_chain, e_neg, e_not, e_and, e_or, e_ite, e_call, e_bi, e_me, e_isT, e_new, e_attr, e_mth, e_mk, w_setattr, w_skip, w_ex, w_asg, w_asgT, w_setix, w_ite, w_ret, w_raise, bi_lenR hw.r]
  refine takeM_ok h.x.t hp (by omega) (by omega) (by omega) fun i μ1 i0 i1 k1 d1 => ?_
  have hw1 := hw.sw F k1
  rw [w_seq]
  simp [e_v, e_c, e_tup, e_lst, e_dct, s_nil, s_cons, e_ix, e_sl, e_bin, e_cmp, e_eq, e_ne, e_in, e_nin, e_isN, e_notN, e_chain, e_neg, e_not, e_and, e_or, e_ite, e_call, e_bi, e_me, e_isT, e_new, e_attr, e_mth, e_mk, w_setattr, w_skip, w_ex, w_asg, w_asgT, w_setix, w_ite, w_ret, w_raise, bi_lenR hw1.r, wm_at hw1.w]
  refine w_seq_inv hΦ (ClI p w r hs at' names μ) ?_ ?_
  · simp [e_v, e_c, e_tup, e_lst, e_dct, s_nil, s_cons, e_ix, e_sl, e_bin, e_cmp, e_eq, e_ne, e_in, e_nin, e_isN, e_notN, e_chain, e_neg, e_not, e_and, e_or, e_ite, e_call, e_bi, e_me, e_isT, e_new, e_attr, e_mth, e_mk, w_setattr, w_skip, w_ex, w_asg, w_asgT, w_setix, w_ite, w_ret, w_raise, wm_at hw1.w]
    refine ⟨fun hb => ?_, fun hb => ⟨i, _, by unfold chS; rw [d1]; dsimp only; rw [if_neg (by omega)], rfl, i0, i1, k1⟩⟩
    refine takeM_ok h.x.t k1.st (by decide) (by decide) (by omega) fun u μ2 _ _ k2 d2 => ?_
    have hw2 := hw1.sw F k2
    simp [wm_at hw2.w]
    refine ⟨fun hu => ?_, fun hu => ⟨i, _, by unfold chS; rw [d1]; dsimp only; rw [if_pos (by omega), d2]; dsimp only; rw [if_neg (by omega)], rfl, i0, i1, k1.trans k2⟩⟩
    refine takeM_ok h.x.t k2.st (by omega) (by omega) (by omega) fun j μ3 j0 j1 k3 d3 => ?_
    simp
    exact ⟨at' + 1 + j, _, by unfold chS; rw [d1]; dsimp only; rw [if_pos (by omega), d2]; dsimp only; rw [if_pos (by omega), d3], rfl, by omega, by omega, (k1.trans k2).trans k3⟩
  rintro env' μ2 ⟨i, o5, dch, rfl, i0, i1, k2⟩
  have hw2 := hw.sw F k2
  rw [w_seq]
  simp [e_v, e_c, e_tup, e_lst, e_dct, s_nil, s_cons, e_ix, e_sl, e_bin, e_cmp, e_eq, e_ne, e_in, e_nin, e_isN, e_notN, e_chain, e_neg, e_not, e_and, e_or, e_ite, e_call, e_bi, e_me, e_isT, e_new, e_attr, e_mth, e_mk, w_setattr, w_skip, w_ex, w_asg, w_asgT, w_setix, w_ite, w_ret, w_raise, wm_calls hw2.w]
  rw [wm_setC hw2.w]
  simp
  obtain ⟨μ3, h3⟩ : ∃ m, m = μ2.set w (.dct (woM r at' (room : Int) (left : Int) first)) := ⟨_, rfl⟩
  rw [← h3]
  have hw3 : WmAt w r hs at' first left room μ3 := ⟨by rw [h3, mset_same], by rw [h3, mset_ne F.rw']; exact hw2.r⟩
  have hp3 : Sta μ3 p := by rw [h3]; exact sta_ne k2.st F.wp
  have hrd3 : rdPl μ3 p = rdPl μ2 p := by rw [h3]; exact rdPl_ne F.wp
  have k3 : Ww p w μ μ3 := ⟨hp3, fun a a1 a2 => by rw [h3, mset_ne a2]; exact k2.eq a a1⟩
  obtain ⟨hd, hhd⟩ : ∃ hd, hs[i.toNat]? = some hd := ⟨_, List.getElem?_eq_getElem (by omega)⟩
  have hmem : hd ∈ hs := List.mem_of_getElem? hhd
  have hix : ∀ m2 : Mu, m2 r = some (.lst (hs.map hdM)) → ixV m2 (.ref r) (.int i) = some (hdM hd) := fun m2 hm => by
    rw [ix_ref hm]
    exact at_nat i0 (by rw [List.getElem?_map, hhd]; rfl)
  have e0 : ∀ m2 : Mu, ixV m2 (hdM hd) (.int 0) = some (.str hd.1) := fun _ => rfl
  have e1 : ∀ m2 : Mu, ixV m2 (hdM hd) (.int 1) = some (.lst (hd.2.map .str)) := fun _ => rfl
  have hpl := F.ps hd hmem
  rw [w_seq]
  simp [e_v, e_c, e_tup, e_lst, e_dct, s_nil, s_cons, e_ix, e_sl, e_bin, e_cmp, e_eq, e_ne, e_in, e_nin, e_isN, e_notN, e_chain, e_neg, e_not, e_and, e_or, e_ite, e_call, e_bi, e_me, e_isT, e_new, e_attr, e_mth, e_mk, w_setattr, w_skip, w_ex, w_asg, w_asgT, w_setix, w_ite, w_ret, w_raise]
  refine comp_T Val.str hd.2 hΦ (i_e ?_ hΦ)
  simp [e_v, e_c, e_tup, e_lst, e_dct, s_nil, s_cons, e_ix, e_sl, e_bin, e_cmp, e_eq, e_ne, e_in, e_nin, e_isN, e_notN, e_chain, e_neg, e_not, e_and, e_or, e_ite, e_call, e_bi, e_me, e_isT, e_new, e_attr, e_mth, e_mk, w_setattr, w_skip, w_ex, w_asg, w_asgT, w_setix, w_ite, w_ret, w_raise, hix μ3 hw3.r, e1, guard]
  refine ⟨fun ys acc μ' => ∃ es : List Ex, es.length = ys.length ∧ acc = es.map Ex.v ∧ (∀ e ∈ es, ExM names 5 e) ∧ Sw p μ3 μ' ∧ argS names ys (rdPl μ3 p) = (es, rdPl μ' p), ⟨[], rfl, rfl, by simp, Sw.refl hp3, rfl⟩, ?_, ?_⟩
  · rintro ys x zs acc μ' e ⟨es, e2, rfl, e3, k, da⟩
    refine ⟨trivial, ?_⟩
    have hys : ys.length < 4 := by
      rw [e] at hpl
      simp at hpl
      omega
    simp [wipe, e_v, e_c, e_tup, e_lst, e_dct, s_nil, s_cons, e_ix, e_sl, e_bin, e_cmp, e_eq, e_ne, e_in, e_nin, e_isN, e_notN, e_chain, e_neg, e_not, e_and, e_or, e_ite, e_call, e_bi, e_me, e_isT, e_new, e_attr, e_mth, e_mk, w_setattr, w_skip, w_ex, w_asg, w_asgT, w_setix, w_ite, w_ret, w_raise]
    refine exprM_ok h.x F.ne F.nl 2 (by decide) k.st (by omega) fun e0 μ4 he k4 d4 => ?_
    exact ⟨by rw [big_eq]; omega, es ++ [e0], by simp [e2], by simp, fun y hy => by
      rcases List.mem_append.mp hy with z | z
      · exact e3 y z
      · rw [List.mem_singleton.mp z]; exact he.up (by decide), k.trans k4, argS_snoc names ys x _ da d4⟩
  · rintro acc μ' ⟨es, e2, rfl, e3, k, da⟩
    refine ⟨trivial, ?_⟩
    have hpos : 0 < names.length := List.length_pos_iff.mpr F.ne
    have hnl := F.nl
    rw [w_seq]
    simp [e_v, e_c, e_tup, e_lst, e_dct, s_nil, s_cons, e_ix, e_sl, e_bin, e_cmp, e_eq, e_ne, e_in, e_nin, e_isN, e_notN, e_chain, e_neg, e_not, e_and, e_or, e_ite, e_call, e_bi, e_me, e_isT, e_new, e_attr, e_mth, e_mk, w_setattr, w_skip, w_ex, w_asg, w_asgT, w_setix, w_ite, w_ret, w_raise]
    refine takeM_ok h.x.t k.st (by omega) (by omega) (by omega) fun j μ5 j0 j1 k5 d5 => ?_
    obtain ⟨s, hs'⟩ : ∃ s, names[j.toNat]? = some s := ⟨_, List.getElem?_eq_getElem (by omega)⟩
    rw [ix_lst, at_nat j0 (a := Val.str s) (by rw [List.getElem?_map, hs']; rfl)]
    have hw5 := (hw3.sw F k).sw F k5
    simp [e_v, e_c, e_tup, e_lst, e_dct, s_nil, s_cons, e_ix, e_sl, e_bin, e_cmp, e_eq, e_ne, e_in, e_nin, e_isN, e_notN, e_chain, e_neg, e_not, e_and, e_or, e_ite, e_call, e_bi, e_me, e_isT, e_new, e_attr, e_mth, e_mk, w_setattr, w_skip, w_ex, w_asg, w_asgT, w_setix, w_ite, w_ret, w_raise, hix μ5 hw5.r, e0, wm_first hw5.w, wm_calls hw5.w]
    have f := fmod_lt (a := first + 37 * (left : Int)) (m := 100) (by decide)
    refine fin (.call s hd.1 es ((first + 37 * (left : Int)).fmod 100)) μ5 ⟨e3, fun y hy => ?_, fun x w' as m e => ?_⟩ rfl rfl (by rw [mlM_one]; rfl) (k3.trans (k.trans k5).ww) hw5 (by
      have ehd : hdA hs i = hd := by unfold hdA; rw [hhd]; rfl
      have enm : nmA names j = s := by unfold nmA; rw [hs']; rfl
      unfold clS
      rw [dch]
      dsimp only
      rw [ehd, ← hrd3, da]
      dsimp only
      rw [d5]
      dsimp only
      rw [enm])
    · simp [Rw.aim] at hy
      rw [hy]
      exact List.mem_of_getElem? hs'
    · cases e
      exact ⟨⟨hd.2, hmem, e2⟩, f.1, f.2⟩
theorem w_seq_idC {Φ : Ph} {C : Prop} (hΦ : MonoP Φ) {a b : S} {env : Env} {μ : Mu} {D : En} (h1 : wpS Φ a env μ { D with nx := fun e m => (e = env ∧ m = μ) ∧ C }) (h2 : C → wpS Φ b env μ D) : wpS Φ (.seq a b) env μ D := w_seq_inv hΦ (fun e m => (e = env ∧ m = μ) ∧ C) h1 (by rintro e m ⟨⟨rfl, rfl⟩, c⟩; exact h2 c)
def RowsOkM (P : Prog) (p w r : Ad) (hs : Hs) (at' first : Int) (names : List Str) (d : Nat) : Prop := ∀ {n : Nat} {μ : Mu} {Q : Val → Mu → Prop} {X : XQ} {left room : Nat}, 10 + 2 * d ≤ n → Sta μ p → WmAt w r hs at' first left room μ → room ≤ 100 →
  (∀ (l : List Rw) (left' room' : Nat) μ', (∀ q ∈ flats l, RwM names hs q) → dps l ≤ d + 1 → (flats l).length + room' = room → left' ≤ left → mks l = mlM first left left' → Ww p w μ μ' → WmAt w r hs at' first left' room' μ' → rrS hs at' first names d (rdPl μ p, (left, room)) = (l, (rdPl μ' p, (left', room'))) → Q (.tup (Rw.vs l)) μ') →
  phi P n "_law_rows" .val [.ref p, .ref w, .lst (names.map .str), .int (3 - (d : Int))] μ Q X
def RowOkM (P : Prog) (p w r : Ad) (hs : Hs) (at' first : Int) (names : List Str) (d : Nat) : Prop := ∀ {n : Nat} {μ : Mu} {Q : Val → Mu → Prop} {X : XQ} {left room : Nat}, 9 + 2 * d ≤ n → Sta μ p → WmAt w r hs at' first left (room + 1) μ → room ≤ 100 →
  (∀ (c : Rw) (left' room' : Nat) μ', (∀ q ∈ flats [c], RwM names hs q) → c.dp ≤ d + 1 → (flats c.within).length + room' = room → left' ≤ left → mks [c] = mlM first left left' → Ww p w μ μ' → WmAt w r hs at' first left' room' μ' → rwS hs at' first names (neS hs at' first names d) (rdPl μ p, (left, room)) = (c, (rdPl μ' p, (left', room'))) → Q c.v μ') →
  phi P n "_law_row" .val [.ref p, .ref w, .lst (names.map .str), .int (3 - (d : Int))] μ Q X
structure TnI (p w r : Ad) (names : List Str) (D2 way : Int) (s : Str) (e : Ex) (μ : Mu) (env' : Env) (μ' : Mu) : Prop where
  ex : ∃ e2 : Ex, tnS e (rdPl μ p) = (e2, rdPl μ' p) ∧ ExM names 5 e2 ∧ env' = [some (.ref p), some (.ref w), some (.lst (names.map .str)), some (.int D2), some (.int way), some (.str s), some e2.v, none] ∧ Sw p μ μ'
theorem row_stepM (h : MrP P) (F : FixM p w r hs at' first names) {d : Nat} (hd : d ≤ 2) (IH : ∀ d', d = d' + 1 → RowsOkM P p w r hs at' first names d') : RowOkM P p w r hs at' first names d := by
  intro n μ Q X left room hn hp hw hroom q
  obtain ⟨n, rfl⟩ : ∃ k, n = k + 1 := ⟨n - 1, by omega⟩
  have hΦ := phi_mono P n
  refine call_ok h.row rfl ?_
  have hsw : (μ w).isSome = true := by rw [hw.w]; rfl
  have hpos : 0 < names.length := List.length_pos_iff.mpr F.ne
  have hnl := F.nl
  have fin : ∀ (c : Rw) (left' room' : Nat) μ', (∀ q ∈ flats [c], RwM names hs q) → c.dp ≤ d + 1 → (flats c.within).length + room' = room → left' ≤ left → mks [c] = mlM first left left' → Ww p w μ μ' → WmAt w r hs at' first left' room' μ' → rwS hs at' first names (neS hs at' first names d) (rdPl μ p, (left, room)) = (c, (rdPl μ' p, (left', room'))) → finM .val μ Q c.v μ' := fun c left' room' μ' a1 a2 a3 a4 a5 k a6 he => by
    show Q (reso _ _ _ _) _
    rw [reso_nr (plain_nr c.plain), k.cut_ hp hsw]
    exact q c left' room' μ' a1 a2 a3 a4 a5 k a6 he
  obtain ⟨D2, hD2⟩ : ∃ D2 : Int, D2 = 3 - (d : Int) := ⟨_, rfl⟩
  rw [← hD2]
  unfold D._law_row_v4
  rw [w_seq]
  simp [e_v, e_c, e_tup, e_lst, e_dct, s_nil, s_cons, e_ix, e_sl, e_bin, e_cmp, e_eq, e_ne, e_in, e_nin, e_isN, e_notN, e_chain, e_neg, e_not, e_and, e_or, e_ite, e_call, e_bi, e_me, e_isT, e_new, e_attr, e_mth, e_mk, w_setattr, w_skip, w_ex, w_asg, w_asgT, w_setix, w_ite, w_ret, w_raise]
  refine takeM_ok h.x.t hp (by decide) (by decide) (by omega) fun way μ1 y0 y1 k1 d1 => ?_
  have hw1 := hw.sw F k1
  rw [w_seq]
  simp [e_v, e_c, e_tup, e_lst, e_dct, s_nil, s_cons, e_ix, e_sl, e_bin, e_cmp, e_eq, e_ne, e_in, e_nin, e_isN, e_notN, e_chain, e_neg, e_not, e_and, e_or, e_ite, e_call, e_bi, e_me, e_isT, e_new, e_attr, e_mth, e_mk, w_setattr, w_skip, w_ex, w_asg, w_asgT, w_setix, w_ite, w_ret, w_raise, wm_rows hw1.w]
  rw [wm_setR hw1.w]
  simp
  obtain ⟨μ2, h2⟩ : ∃ m, m = μ1.set w (.dct (woM r at' (room : Int) (left : Int) first)) := ⟨_, rfl⟩
  rw [← h2]
  have hw2 : WmAt w r hs at' first left room μ2 := ⟨by rw [h2, mset_same], by rw [h2, mset_ne F.rw']; exact hw1.r⟩
  have hp2 : Sta μ2 p := by rw [h2]; exact sta_ne k1.st F.wp
  have hrd2 : rdPl μ2 p = rdPl μ1 p := by rw [h2]; exact rdPl_ne F.wp
  have k2 : Ww p w μ μ2 := ⟨hp2, fun a a1 a2 => by rw [h2, mset_ne a2]; exact k1.eq a a1⟩
  have fin1 : ∀ (c : Rw) μ', RwM names hs c → c.flat = [c] → c.within = [] → c.dp = 1 → c.mark = none → Sw p μ2 μ' → rwS hs at' first names (neS hs at' first names d) (rdPl μ p, (left, room)) = (c, (rdPl μ' p, (left, room))) → finM .val μ Q c.v μ' := fun c μ' a1 a2 a3 a4 a5 k he =>
    fin c left room μ' (fun x hx => by simp [flats, a2] at hx; rw [hx]; exact a1) (by omega) (by rw [a3]; simp [flats]) (Nat.le_refl _) (by rw [mlM_self]; simp [mks, flats, a2, a5]) (k2.trans k.ww) (hw2.sw F k) he
  refine w_seq_idC (C := ¬ (way < 3 ∧ 0 < left)) hΦ ?_ fun hn1 => ?_
  · simp [e_v, e_c, e_tup, e_lst, e_dct, s_nil, s_cons, e_ix, e_sl, e_bin, e_cmp, e_eq, e_ne, e_in, e_nin, e_isN, e_notN, e_chain, e_neg, e_not, e_and, e_or, e_ite, e_call, e_bi, e_me, e_isT, e_new, e_attr, e_mth, e_mk, w_setattr, w_skip, w_ex, w_asg, w_asgT, w_setix, w_ite, w_ret, w_raise, wm_calls hw2.w]
    refine ⟨fun hw3 => ⟨fun hl0 => ?_, fun z _ => z⟩, fun z z2 => by omega⟩
    obtain ⟨l, rfl⟩ : ∃ l, left = l + 1 := ⟨left - 1, by omega⟩
    exact call_okM h F hp2 hw2 (by omega) fun c μ3 a1 a2 a3 a4 k3 a5 dc => fin c l room μ3 (fun x hx => by simp [flats, a2] at hx; rw [hx]; exact a1) (by rw [c.dp_eq, a3]; simp [dps]) (by rw [a3]; simp [flats]) (Nat.le_succ _) a4 (k2.trans k3) a5 (by
      unfold rwS
      rw [d1]
      dsimp only
      rw [if_pos ⟨hw3, by omega⟩, ← hrd2, show l + 1 - 1 = l from rfl, dc])
  rw [w_seq]
  simp [e_v, e_c, e_tup, e_lst, e_dct, s_nil, s_cons, e_ix, e_sl, e_bin, e_cmp, e_eq, e_ne, e_in, e_nin, e_isN, e_notN, e_chain, e_neg, e_not, e_and, e_or, e_ite, e_call, e_bi, e_me, e_isT, e_new, e_attr, e_mth, e_mk, w_setattr, w_skip, w_ex, w_asg, w_asgT, w_setix, w_ite, w_ret, w_raise]
  refine takeM_ok h.x.t hp2 (by omega) (by omega) (by omega) fun j μ3 j0 j1 k3 d3 => ?_
  obtain ⟨s, hs'⟩ : ∃ s, names[j.toNat]? = some s := ⟨_, List.getElem?_eq_getElem (by omega)⟩
  rw [ix_lst, at_nat j0 (a := Val.str s) (by rw [List.getElem?_map, hs']; rfl)]
  simp only [brV_some]
  rw [w_seq]
  simp [e_v, e_c, e_tup, e_lst, e_dct, s_nil, s_cons, e_ix, e_sl, e_bin, e_cmp, e_eq, e_ne, e_in, e_nin, e_isN, e_notN, e_chain, e_neg, e_not, e_and, e_or, e_ite, e_call, e_bi, e_me, e_isT, e_new, e_attr, e_mth, e_mk, w_setattr, w_skip, w_ex, w_asg, w_asgT, w_setix, w_ite, w_ret, w_raise]
  refine takeM_ok h.x.t k3.st (by decide) (by decide) (by omega) fun u μ4 u0 u1 k4 d4 => ?_
  simp
  have eu : 1 + u = 5 - ((4 - u.toNat : Nat) : Int) := by omega
  rw [eu]
  refine exprM_ok h.x F.ne F.nl (4 - u.toNat) (by omega) k4.st (by omega) fun e μ5 he k5 d5 => ?_
  have he' := he.up (d' := 5) (by omega)
  have k35 := (k3.trans k4).trans k5
  have hw5 := hw2.sw F k35
  have enm : nmA names j = s := by unfold nmA; rw [hs']; rfl
  have dr : ∀ x, (if way = 3 ∧ (neS hs at' first names d).isSome = true then (match ((neS hs at' first names d).getD fun σ => ([], σ)) (rdPl μ5 p, (left, room)) with
            | (a, σ1) => match ((neS hs at' first names d).getD fun σ => ([], σ)) σ1 with | (b, σ2) => (Rw.when e a b, σ2))
          else if way = 4 ∧ (neS hs at' first names d).isSome = true then (match tnS e (rdPl μ5 p) with | (e2, s5) => match ((neS hs at' first names d).getD fun σ => ([], σ)) (s5, (left, room)) with | (a, σ1) => (Rw.turn e2 a, σ1))
          else if way < 7 then (Rw.say e, (rdPl μ5 p, (left, room))) else (Rw.set s e, (rdPl μ5 p, (left, room)))) = x → rwS hs at' first names (neS hs at' first names d) (rdPl μ p, (left, room)) = x := fun x hx => by
    unfold rwS
    rw [d1]
    dsimp only
    rw [if_neg hn1, ← hrd2, d3]
    dsimp only
    rw [d4]
    dsimp only
    rw [d5]
    dsimp only
    rw [enm]
    exact hx
  have one : ∀ (c : Rw), c.exs = [e] → c.aim = [] → (∀ x w as m, c ≠ .call x w as m) → RwM names hs c := fun c a1 a2 a3 => ⟨fun y hy => (by rw [a1] at hy; simp at hy; rw [hy]; exact he'), fun y hy => (by rw [a2] at hy; cases hy), fun x w as m z => (a3 x w as m z).elim⟩
  have nest : ∀ (c : Rw) (in_ : List Rw) (left' room' : Nat) μ', c.within = in_ → RwM names hs c → c.mark = none → c.dp ≤ d + 1 → (∀ q ∈ flats in_, RwM names hs q) → (flats in_).length + room' = room → left' ≤ left → mks in_ = mlM first left left' → Ww p w μ μ' → WmAt w r hs at' first left' room' μ' → rwS hs at' first names (neS hs at' first names d) (rdPl μ p, (left, room)) = (c, (rdPl μ' p, (left', room'))) → finM .val μ Q c.v μ' := fun c in_ left' room' μ' e1 e2 e2' e3 e4 e5 e6 e7 k e8 e9 => by
    refine fin c left' room' μ' (fun x hx => ?_) e3 (by rw [e1]; exact e5) e6 ?_ k e8 e9
    · rw [flats, c.flat_eq, e1] at hx
      simp [flats] at hx
      rcases hx with rfl | z
      · exact e2
      · exact e4 x z
    · rw [mks_cons, c.flat_eq, e1]
      simp [e2']
      rw [← e7]
      simp [mks, flats]
  refine w_seq_idC (C := ¬ (way = 3 ∧ 1 ≤ d)) hΦ ?_ fun hn3 => ?_
  · simp [e_v, e_c, e_tup, e_lst, e_dct, s_nil, s_cons, e_ix, e_sl, e_bin, e_cmp, e_eq, e_ne, e_in, e_nin, e_isN, e_notN, e_chain, e_neg, e_not, e_and, e_or, e_ite, e_call, e_bi, e_me, e_isT, e_new, e_attr, e_mth, e_mk, w_setattr, w_skip, w_ex, w_asg, w_asgT, w_setix, w_ite, w_ret, w_raise]
    refine ⟨fun hw3 => ⟨fun hD3 => ?_, fun z _ => by omega⟩, fun z z2 => absurd z2 z⟩
    obtain ⟨d', rfl⟩ : ∃ d', d = d' + 1 := ⟨d - 1, by omega⟩
    have eD : D2 + 1 = 3 - (d' : Int) := by omega
    rw [w_seq]
    simp [e_v, e_c, e_tup, e_lst, e_dct, s_nil, s_cons, e_ix, e_sl, e_bin, e_cmp, e_eq, e_ne, e_in, e_nin, e_isN, e_notN, e_chain, e_neg, e_not, e_and, e_or, e_ite, e_call, e_bi, e_me, e_isT, e_new, e_attr, e_mth, e_mk, w_setattr, w_skip, w_ex, w_asg, w_asgT, w_setix, w_ite, w_ret, w_raise]
    rw [eD]
    refine IH d' rfl (by omega) k35.st hw5 hroom fun a left1 room1 μ6 a1 a2 a3 a4 a5 k6 a6 d6 => ?_
    refine IH d' rfl (by omega) k6.st a6 (by omega) fun b left2 room2 μ7 b1 b2 b3 b4 b5 k7 b6 d7 => ?_
    exact nest (.when e a b) (a ++ b) left2 room2 μ7 rfl (one _ rfl rfl (fun _ _ _ _ z => by cases z)) rfl (by simp [Rw.dp]; omega) (fun x hx => by
      rw [flats_append] at hx
      rcases List.mem_append.mp hx with z | z
      · exact a1 x z
      · exact b1 x z) (by rw [flats_append, List.length_append]; omega) (by omega) (by rw [mks_append, a5, b5, mlM_app first a4 b4]) (((k2.trans k35.ww).trans k6).trans k7) b6 (dr _ (by
        rw [if_pos ⟨hw3, rfl⟩]
        show (match rrS hs at' first names d' (rdPl μ5 p, (left, room)) with
            | (a, σ1) => match rrS hs at' first names d' σ1 with | (b, σ2) => (Rw.when e a b, σ2)) = _
        rw [d6]
        dsimp only
        rw [d7]))
  refine w_seq_idC (C := ¬ (way = 4 ∧ 1 ≤ d)) hΦ ?_ fun hn4 => ?_
  · simp [e_v, e_c, e_tup, e_lst, e_dct, s_nil, s_cons, e_ix, e_sl, e_bin, e_cmp, e_eq, e_ne, e_in, e_nin, e_isN, e_notN, e_chain, e_neg, e_not, e_and, e_or, e_ite, e_call, e_bi, e_me, e_isT, e_new, e_attr, e_mth, e_mk, w_setattr, w_skip, w_ex, w_asg, w_asgT, w_setix, w_ite, w_ret, w_raise]
    refine ⟨fun hw4 => ⟨fun hD3 => ?_, fun z _ => by omega⟩, fun z z2 => absurd z2 z⟩
    obtain ⟨d', rfl⟩ : ∃ d', d = d' + 1 := ⟨d - 1, by omega⟩
    have eD : D2 + 1 = 3 - (d' : Int) := by omega
    refine w_seq_inv hΦ (TnI p w r names D2 way s e μ5) ?_ ?_
    · simp [e_v, e_c, e_tup, e_lst, e_dct, s_nil, s_cons, e_ix, e_sl, e_bin, e_cmp, e_eq, e_ne, e_in, e_nin, e_isN, e_notN, e_chain, e_neg, e_not, e_and, e_or, e_ite, e_call, e_bi, e_me, e_isT, e_new, e_attr, e_mth, e_mk, w_setattr, w_skip, w_ex, w_asg, w_asgT, w_setix, w_ite, w_ret, w_raise]
      refine takeM_ok h.x.t k35.st (by decide) (by decide) (by omega) fun t μ6 t0 t1 k6 d6 => ?_
      simp
      refine ⟨fun ht => ?_, fun ht => ⟨e, by unfold tnS; rw [d6]; dsimp only; rw [if_neg (by omega)], he', rfl, k6⟩⟩
      refine takeM_ok h.x.t k6.st (by decide) (by decide) (by omega) fun v μ7 v0 v1 k7 d7 => ?_
      exact ⟨.num v, by unfold tnS; rw [d6]; dsimp only; rw [if_pos (by omega), d7], ⟨⟨v0, by omega⟩, (by simp [Ex.deep]), fun s hs => by cases hs⟩, rfl, k6.trans k7⟩
    rintro env6 μ6 ⟨e2, de2, he2, rfl, k6⟩
    have hw6 := hw5.sw F k6
    simp [e_v, e_c, e_tup, e_lst, e_dct, s_nil, s_cons, e_ix, e_sl, e_bin, e_cmp, e_eq, e_ne, e_in, e_nin, e_isN, e_notN, e_chain, e_neg, e_not, e_and, e_or, e_ite, e_call, e_bi, e_me, e_isT, e_new, e_attr, e_mth, e_mk, w_setattr, w_skip, w_ex, w_asg, w_asgT, w_setix, w_ite, w_ret, w_raise]
    rw [eD]
    refine IH d' rfl (by omega) k6.st hw6 hroom fun a left1 room1 μ7 a1 a2 a3 a4 a5 k7 a6 d7 => ?_
    exact nest (.turn e2 a) a left1 room1 μ7 rfl ⟨fun y hy => (by simp [Rw.exs] at hy; rw [hy]; exact he2), fun y hy => (by simp [Rw.aim] at hy), fun _ _ _ _ z => (by cases z)⟩ rfl (by simp [Rw.dp]; omega) a1 a3 a4 a5 ((k2.trans (k35.trans k6).ww).trans k7) a6 (dr _ (by
        rw [if_neg (by omega), if_pos ⟨hw4, rfl⟩, de2]
        show (match rrS hs at' first names d' (rdPl μ6 p, (left, room)) with | (a, σ1) => (Rw.turn e2 a, σ1)) = _
        rw [d7]))
  rw [w_seq]
  simp [e_v, e_c, e_tup, e_lst, e_dct, s_nil, s_cons, e_ix, e_sl, e_bin, e_cmp, e_eq, e_ne, e_in, e_nin, e_isN, e_notN, e_chain, e_neg, e_not, e_and, e_or, e_ite, e_call, e_bi, e_me, e_isT, e_new, e_attr, e_mth, e_mk, w_setattr, w_skip, w_ex, w_asg, w_asgT, w_setix, w_ite, w_ret, w_raise]
  have hne : (neS hs at' first names d).isSome = true → 1 ≤ d := fun z => by
    cases d with
    | zero => cases z
    | succ d => omega
  refine ⟨fun hw7 => ?_, fun hw7 => ?_⟩
  · exact fin1 (.say e) μ5 (one _ rfl rfl (fun _ _ _ _ z => by cases z)) rfl rfl rfl rfl k35 (dr _ (by rw [if_neg fun z => hn3 ⟨z.1, hne z.2⟩, if_neg fun z => hn4 ⟨z.1, hne z.2⟩, if_pos hw7]))
  · exact fin1 (.set s e) μ5 ⟨fun y hy => (by simp [Rw.exs] at hy; rw [hy]; exact he'), fun y hy => (by simp [Rw.aim] at hy; rw [hy]; exact List.mem_of_getElem? hs'), fun _ _ _ _ z => (by cases z)⟩ rfl rfl rfl rfl k35 (dr _ (by rw [if_neg fun z => hn3 ⟨z.1, hne z.2⟩, if_neg fun z => hn4 ⟨z.1, hne z.2⟩, if_neg (by omega)]))
structure RsI (p w r : Ad) (hs : Hs) (at' first : Int) (names : List Str) (d left room : Nat) (D2 : Int) (μ : Mu) (s0 : Int × Int) (k : Nat) (env' : Env) (μ' : Mu) : Prop where
  ex : ∃ (r4 : Ad) (o5 : Option Val) (l : List Rw) (left1 room1 : Nat), lpS (rwS hs at' first names (neS hs at' first names d)) k ([], (s0, (left, room))) = (l, (rdPl μ' p, (left1, room1))) ∧ env' = [some (.ref p), some (.ref w), some (.lst (names.map .str)), some (.int D2), some (.ref r4), o5] ∧ μ r4 = none ∧ μ' r4 = some (.lst (Rw.vs l)) ∧ l.length ≤ k ∧ (∀ q ∈ flats l, RwM names hs q) ∧ dps l ≤ d + 1 ∧ (flats l).length + room1 = room ∧ left1 ≤ left ∧ mks l = mlM first left left1 ∧ Sta μ' p ∧ WmAt w r hs at' first left1 room1 μ' ∧ ∀ a, a ≠ p → a ≠ w → (μ a).isSome = true → μ' a = μ a
theorem rows_stepM (h : MrP P) (F : FixM p w r hs at' first names) {d : Nat} (hd : d ≤ 2) (hrow : RowOkM P p w r hs at' first names d) : RowsOkM P p w r hs at' first names d := by
  intro n μ Q X left room hn hp hw hroom q
  obtain ⟨n, rfl⟩ : ∃ k, n = k + 1 := ⟨n - 1, by omega⟩
  have hΦ := phi_mono P n
  refine call_ok h.rows rfl ?_
  have hsw : (μ w).isSome = true := by rw [hw.w]; rfl
  have hsr : (μ r).isSome = true := by rw [hw.r]; rfl
  obtain ⟨D2, hD2⟩ : ∃ D2 : Int, D2 = 3 - (d : Int) := ⟨_, rfl⟩
  rw [← hD2]
  obtain ⟨m, m0, m1, hm, hme⟩ : ∃ m : Int, 0 < m ∧ m ≤ 8 ∧ atI [Val.int 8, .int 6, .int 4, .int 3] D2 = some (.int m) ∧ m = mrS d := by
    have : (D2 = 1 ∧ d = 2) ∨ (D2 = 2 ∧ d = 1) ∨ (D2 = 3 ∧ d = 0) := by omega
    rcases this with ⟨e, e'⟩ | ⟨e, e'⟩ | ⟨e, e'⟩ <;> rw [e, e']
    · exact ⟨6, by decide, by decide, rfl, rfl⟩
    · exact ⟨4, by decide, by decide, rfl, rfl⟩
    · exact ⟨3, by decide, by decide, rfl, rfl⟩
  unfold D._law_rows_v3
  rw [w_seq]
  simp [e_v, e_c, e_tup, e_lst, e_dct, s_nil, s_cons, e_ix, e_sl, e_bin, e_cmp, e_eq, e_ne, e_in, e_nin, e_isN, e_notN, e_chain, e_neg, e_not, e_and, e_or, e_ite, e_call, e_bi, e_me, e_isT, e_new, e_attr, e_mth, e_mk, w_setattr, w_skip, w_ex, w_asg, w_asgT, w_setix, w_ite, w_ret, w_raise]
  intro r4 hr4
  have h4p : r4 ≠ p := hp.ne hr4
  have h4w : r4 ≠ w := fun z => by rw [z] at hr4; rw [hr4] at hsw; cases hsw
  have h4r : r4 ≠ r := fun z => by rw [z] at hr4; rw [hr4] at hsr; cases hsr
  have hp1 : Sta (μ.set r4 (.lst [])) p := sta_ne hp h4p
  have hw1 : WmAt w r hs at' first left room (μ.set r4 (.lst [])) := ⟨by rw [mset_ne (Ne.symm h4w)]; exact hw.w, by rw [mset_ne (Ne.symm h4r)]; exact hw.r⟩
  rw [w_seq]
  refine for_rule hΦ (i_range.mpr ?_)
  simp [e_v, e_c, e_tup, e_lst, e_dct, s_nil, s_cons, e_ix, e_sl, e_bin, e_cmp, e_eq, e_ne, e_in, e_nin, e_isN, e_notN, e_chain, e_neg, e_not, e_and, e_or, e_ite, e_call, e_bi, e_me, e_isT, e_new, e_attr, e_mth, e_mk, w_setattr, w_skip, w_ex, w_asg, w_asgT, w_setix, w_ite, w_ret, w_raise, hm]
  refine takeM_ok h.x.t hp1 m0 (by omega) (by omega) fun i μ2 i0 i1 k2 d2 => ?_
  simp
  have hw2 := hw1.sw F k2
  rw [rdPl_ne h4p] at d2
  refine ⟨by omega, by omega, fun done env' μ' => RsI p w r hs at' first names d left room D2 μ (rdPl μ2 p) done.length env' μ', ⟨r4, none, [], left, room, rfl, rfl, hr4, by rw [k2.eq r4 h4p, mset_same] <;> rfl, by simp, by simp [flats], by simp [dps], by simp [flats], Nat.le_refl _, by rw [mlM_self]; rfl, k2.st, hw2, fun a a1 a2 a3 => by rw [k2.eq a a1, mset_ne (isSome_ne a3 hr4)]⟩, ?_, ?_⟩
  · rintro done v rest env' μ' e ⟨r4, o5, l, left1, room1, dl, rfl, hr4, e4, ll, hl, hdl, hlr, hle, hml, hst, hwm, ho⟩
    have h4p : r4 ≠ p := hp.ne hr4
    have h4w : r4 ≠ w := fun z => by rw [z] at hr4; rw [hr4] at hsw; cases hsw
    have h4r : r4 ≠ r := fun z => by rw [z] at hr4; rw [hr4] at hsr; cases hsr
    have hlen := flats_len l
    refine ⟨trivial, ?_⟩
    simp [wm_rows hwm.w]
    refine ⟨fun hr0 => ?_, fun hr0 => ⟨r4, _, l, left1, room1, by rw [lpS, dl]; dsimp only; rw [if_neg (by omega)], rfl, hr4, e4, by omega, hl, hdl, hlr, hle, hml, hst, hwm, ho⟩⟩
    obtain ⟨room2, rfl⟩ : ∃ k, room1 = k + 1 := ⟨room1 - 1, by omega⟩
    rw [ok_append e4]
    refine ⟨rfl, ?_⟩
    rw [hD2]
    refine hrow (by omega) hst hwm (by omega) fun c left2 room3 μ3 c1 c2 c3 c4 c5 k3 c6 dc => ?_
    have e5 : μ3 r4 = some (.lst (Rw.vs l)) := by rw [k3.eq r4 h4p h4w]; exact e4
    rw [me_append e5]
    refine brV_ite (by rw [vs_len, big_eq]; omega) ?_
    dsimp only
    have ev : Rw.vs l ++ [c.v] = Rw.vs (l ++ [c]) := by rw [vs_append]; rfl
    rw [ev, ← hD2]
    refine ⟨r4, _, l ++ [c], left2, room3, by rw [rdPl_ne h4p, lpS, dl]; dsimp only; rw [if_pos (by omega), show room2 + 1 - 1 = room2 from rfl, dc], rfl, hr4, mset_same, by rw [List.length_append, List.length_singleton]; omega, fun x hx => ?_, by rw [dps_append]; simp only [dps]; omega, ?_, by omega, ?_, sta_ne k3.st h4p, ⟨by rw [mset_ne (Ne.symm h4w)]; exact c6.w, by rw [mset_ne (Ne.symm h4r)]; exact c6.r⟩, fun a a1 a2 a3 => by rw [mset_ne (isSome_ne a3 hr4), k3.eq a a1 a2]; exact ho a a1 a2 a3⟩
    · rw [flats_append] at hx
      rcases List.mem_append.mp hx with z | z
      · exact hl x z
      · exact c1 x z
    · rw [flats_snoc, List.length_append, List.length_cons]
      omega
    · rw [mks_append, hml, c5, mlM_app first hle c4]
  · rintro env' μ' ⟨r4, o5, l, left1, room1, dl, rfl, hr4, e4, ll, hl, hdl, hlr, hle, hml, hst, hwm, ho⟩
    refine ⟨trivial, ?_⟩
    simp [e_v, e_c, e_tup, e_lst, e_dct, s_nil, s_cons, e_ix, e_sl, e_bin, e_cmp, e_eq, e_ne, e_in, e_nin, e_isN, e_notN, e_chain, e_neg, e_not, e_and, e_or, e_ite, e_call, e_bi, e_me, e_isT, e_new, e_attr, e_mth, e_mk, w_setattr, w_skip, w_ex, w_asg, w_asgT, w_setix, w_ite, w_ret, w_raise]
    rw [bi_tupR e4]
    simp
    show Q (reso μ _ 4 (.tup (Rw.vs l))) _
    rw [reso_nr (by show nrL _ = true; exact vs_nr _)]
    have cutS : ∀ a, (μ a).isSome = true → (μ'.cut μ) a = μ' a := fun a ha => by unfold Mu.cut; rw [if_pos ha]
    refine q l left1 room1 _ hl hdl hlr hle hml ⟨?_, fun a a1 a2 => ?_⟩ ⟨by rw [cutS w hsw]; exact hwm.w, by rw [cutS r hsr]; exact hwm.r⟩ (by
      have hcp : rdPl (μ'.cut μ) p = rdPl μ' p := by unfold rdPl; rw [cutS p hp.some]
      have hil : (intsFrom 0 i.toNat).length = i.toNat := by simp [intsFrom]
      rw [hil] at dl
      rw [hcp, rrS_eq, ← hme, d2]
      exact dl)
    · obtain ⟨a, b, e, r2⟩ := hst
      exact ⟨a, b, by rw [cutS p hp.some]; exact e, r2⟩
    · by_cases ha : (μ a).isSome = true
      · rw [cutS a ha]; exact ho a a1 a2 ha
      · unfold Mu.cut
        rw [if_neg ha]
        cases e : μ a with
        | none => rfl
        | some v => rw [e] at ha; exact (ha rfl).elim
theorem rows_okM (h : MrP P) (F : FixM p w r hs at' first names) : ∀ d : Nat, d ≤ 2 → RowsOkM P p w r hs at' first names d
  | 0, hd => rows_stepM h F hd (row_stepM h F hd fun d' e => by omega)
  | d + 1, hd => rows_stepM h F hd (row_stepM h F hd fun d' e => by
      obtain rfl : d' = d := by omega
      exact rows_okM h F _ (by omega))
end
end Mi
/-! Mc: pools, some of a menu, the drawn book of the menu family. -/
namespace Mi
open PySem (Str)
theorem erase_perm {α : Type} : ∀ {l : List α} {k : Nat} {s : α}, l[k]? = some s → (s :: l.eraseIdx k).Perm l
  | [], _, _, h => by simp at h
  | a :: t, 0, s, h => by
    cases h
    exact List.Perm.refl _
  | a :: t, k + 1, s, h => by
    have := erase_perm (l := t) (k := k) (s := s) (by simpa using h)
    exact (List.Perm.swap a s _).trans (this.cons a)
section
variable {P : Prog} {n : Nat} {μ : Mu} {Q : Val → Mu → Prop} {X : XQ} {p : Ad}
def poolC (cs : List Int) (k : Int) : Int := if 0 < cs.length then (cs[(k.fmod (cs.length : Int)).toNat]?).getD 0 + k.fdiv (cs.length : Int) else 0
def poolS (cs : List Int) (k : Int) : Int × Int := (if poolC cs k < 0 ∨ 10 ^ 18 ≤ poolC cs k then ((poolC cs k).natAbs : Int) else 0, ((poolC cs k).fmod 2147483629 * 69621 + 40009 * (k + 1) * (k + 3)).fmod 2147483629)
def someF (acc : List Str × List Str × (Int × Int)) : List Str × List Str × (Int × Int) := match tkS (acc.2.1.length : Int) acc.2.2 with
  | (u, s') => (acc.1 ++ [(acc.2.1[u.toNat]?).getD ⟨#[]⟩], acc.2.1.eraseIdx u.toNat, s')
def someI (menu : List Str) (s : Int × Int) : Nat → List Str × List Str × (Int × Int)
  | 0 => ([], menu, s)
  | k + 1 => someF (someI menu s k)
def someS (menu : List Str) (many : Nat) (s : Int × Int) : List Str × (Int × Int) := ((someI menu s many).1, (someI menu s many).2.2)
theorem pool_okM (h : P "_law_pool" = some D._law_pool) {cs : List Int} {k : Int} (k0 : 0 ≤ k) (k1 : k ≤ 1000) (hcs : cs.length ≤ 1000) (hn : 1 ≤ n) (q : ∀ p μ', μ p = none → Sw p μ μ' → rdPl μ' p = poolS cs k → Q (.ref p) μ') : phi P n "_law_pool" .obj [.lst (cs.map .int), .int k] μ Q X := by
  obtain ⟨n, rfl⟩ : ∃ k, n = k + 1 := ⟨n - 1, by omega⟩
  have hΦ := phi_mono P n
  refine call_ok h rfl ?_
  have fin : ∀ (a b : Int) (p : Ad), 0 ≤ b → b < 2147483647 → (a, b) = poolS cs k → μ p = none → finM .obj μ Q (.ref p) (μ.set p (.lst [.int a, .int b])) := fun a b p b0 b1 he hp => by
    rw [fin_obj hp]
    exact q p _ hp ⟨⟨a, b, mset_same, b0, b1⟩, fun c hc => mset_ne hc⟩ (by rw [rdPl_eq mset_same]; exact he)
  unfold D._law_pool
  rw [w_seq]
  simp [e_v, e_c, e_tup, e_lst, e_dct, s_nil, s_cons, e_ix, e_sl, e_bin, e_cmp, e_eq, e_ne, e_in, e_nin, e_isN, e_notN, e_chain, e_neg, e_not, e_and, e_or, e_ite, e_call, e_bi, e_me, e_isT, e_new, e_attr, e_mth, e_mk, w_setattr, w_skip, w_ex, w_asg, w_asgT, w_setix, w_ite, w_ret, w_raise]
  refine w_seq_inv hΦ (fun env' μ' => ∃ c : Int, env' = [some (.lst (cs.map .int)), some (.int k), some (.int c), none] ∧ μ' = μ ∧ c = poolC cs k) ?_ ?_
  · simp [e_v, e_c, e_tup, e_lst, e_dct, s_nil, s_cons, e_ix, e_sl, e_bin, e_cmp, e_eq, e_ne, e_in, e_nin, e_isN, e_notN, e_chain, e_neg, e_not, e_and, e_or, e_ite, e_call, e_bi, e_me, e_isT, e_new, e_attr, e_mth, e_mk, w_setattr, w_skip, w_ex, w_asg, w_asgT, w_setix, w_ite, w_ret, w_raise]
    refine ⟨fun h0 => ?_, fun h0 => by
      have h1 : cs.length = 0 := by first | omega | (rw [h0]; rfl)
      unfold poolC
      rw [if_neg (by omega)]⟩
    have hne : cs ≠ [] := fun z => by rw [z] at h0; simp at h0
    have f := fmod_lt (a := k) (m := (cs.length : Int)) (by omega)
    refine ⟨hne, ?_⟩
    obtain ⟨x, hx⟩ : ∃ x, cs[(k.fmod (cs.length : Int)).toNat]? = some x := ⟨_, List.getElem?_eq_getElem (by omega)⟩
    rw [at_nat f.1 (a := Val.int x) (by rw [List.getElem?_map, hx]; rfl)]
    simp
    exact ⟨⟨hne, by omega⟩, by unfold poolC; rw [if_pos (by omega), hx]; rfl⟩
  rintro env' μ' ⟨c, rfl, rfl, hcE⟩
  rw [w_seq]
  simp [e_v, e_c, e_tup, e_lst, e_dct, s_nil, s_cons, e_ix, e_sl, e_bin, e_cmp, e_eq, e_ne, e_in, e_nin, e_isN, e_notN, e_chain, e_neg, e_not, e_and, e_or, e_ite, e_call, e_bi, e_me, e_isT, e_new, e_attr, e_mth, e_mk, w_setattr, w_skip, w_ex, w_asg, w_asgT, w_setix, w_ite, w_ret, w_raise]
  refine w_seq_inv hΦ (fun env' μ2 => ∃ c2 : Int, env' = [some (.lst (cs.map .int)), some (.int k), some (.int c), some (.int c2)] ∧ μ2 = μ' ∧ c2 = (if c < 0 ∨ 10 ^ 18 ≤ c then (c.natAbs : Int) else 0)) ?_ ?_
  · simp [e_v, e_c, e_tup, e_lst, e_dct, s_nil, s_cons, e_ix, e_sl, e_bin, e_cmp, e_eq, e_ne, e_in, e_nin, e_isN, e_notN, e_chain, e_neg, e_not, e_and, e_or, e_ite, e_call, e_bi, e_me, e_isT, e_new, e_attr, e_mth, e_mk, w_setattr, w_skip, w_ex, w_asg, w_asgT, w_setix, w_ite, w_ret, w_raise]
    refine ⟨fun a b c => by omega, fun a => ⟨fun b c d => by omega, fun b c => by omega⟩⟩
  rintro env' μ2 ⟨c2, rfl, rfl, hc2⟩
  simp [e_v, e_c, e_tup, e_lst, e_dct, s_nil, s_cons, e_ix, e_sl, e_bin, e_cmp, e_eq, e_ne, e_in, e_nin, e_isN, e_notN, e_chain, e_neg, e_not, e_and, e_or, e_ite, e_call, e_bi, e_me, e_isT, e_new, e_attr, e_mth, e_mk, w_setattr, w_skip, w_ex, w_asg, w_asgT, w_setix, w_ite, w_ret, w_raise]
  have f := fmod_lt (a := c.fmod 2147483629 * 69621 + 40009 * (k + 1) * (k + 3)) (m := 2147483629) (by decide)
  have g := fmod_lt (a := c) (m := 2147483629) (by decide)
  exact ⟨cmul_l (by omega) (by omega), cmul_l (by omega) (by omega), fun p hp => fin _ _ p f.1 (by omega) (by unfold poolS; rw [← hcE, ← hc2]) hp⟩
theorem some_okM (h : P "_law_some" = some D._law_some) (ht : P "_law_take" = some D._law_take_v2) {menu : List Str} (hnd : menu.Nodup) (hml : menu.length ≤ 1000) {many : Nat} (hm : many ≤ menu.length) (hp : Sta μ p) (hn : 2 ≤ n)
    (q : ∀ (l : List Str) μ', l.length = many → l.Nodup → (∀ s ∈ l, s ∈ menu) → Sw p μ μ' → someS menu many (rdPl μ p) = (l, rdPl μ' p) → Q (.lst (l.map .str)) μ') : phi P n "_law_some" .val [.ref p, .lst (menu.map .str), .int (many : Int)] μ Q X := by
  obtain ⟨n, rfl⟩ : ∃ k, n = k + 1 := ⟨n - 1, by omega⟩
  have hΦ := phi_mono P n
  refine call_ok h rfl ?_
  unfold D._law_some
  rw [w_seq]
  simp [e_v, e_c, e_tup, e_lst, e_dct, s_nil, s_cons, e_ix, e_sl, e_bin, e_cmp, e_eq, e_ne, e_in, e_nin, e_isN, e_notN, e_chain, e_neg, e_not, e_and, e_or, e_ite, e_call, e_bi, e_me, e_isT, e_new, e_attr, e_mth, e_mk, w_setattr, w_skip, w_ex, w_asg, w_asgT, w_setix, w_ite, w_ret, w_raise]
  intro r hr
  have hrp : r ≠ p := hp.ne hr
  refine comp_T (fun (k : Nat) => Val.int (k : Int)) (List.range many) hΦ (i_range.mpr ?_)
  simp [e_v, e_c, e_tup, e_lst, e_dct, s_nil, s_cons, e_ix, e_sl, e_bin, e_cmp, e_eq, e_ne, e_in, e_nin, e_isN, e_notN, e_chain, e_neg, e_not, e_and, e_or, e_ite, e_call, e_bi, e_me, e_isT, e_new, e_attr, e_mth, e_mk, w_setattr, w_skip, w_ex, w_asg, w_asgT, w_setix, w_ite, w_ret, w_raise]
  have hp1 : Sta (μ.set r (.lst (menu.map .str))) p := sta_ne hp hrp
  refine ⟨by omega, ints0S _, fun ys acc μ' => ∃ (l rest : List Str), acc = l.map .str ∧ l.length = ys.length ∧ (l ++ rest).Perm menu ∧ μ' r = some (.lst (rest.map .str)) ∧ Sta μ' p ∧ someI menu (rdPl μ p) ys.length = (l, rest, rdPl μ' p) ∧ ∀ a, a ≠ p → a ≠ r → μ' a = μ a, ⟨[], menu, rfl, rfl, by simp, mset_same, hp1, by rw [rdPl_ne hrp]; rfl, fun a _ h2 => mset_ne h2⟩, ?_, ?_⟩
  · rintro ys x zs acc μ' e ⟨l, rest, rfl, hl, hperm, er, hst, hI, ho⟩
    refine ⟨trivial, ?_⟩
    have hyl : ys.length < many := by
      have := congrArg List.length e
      simp at this
      omega
    have hpl := hperm.length_eq
    simp at hpl
    simp [wipe, e_v, e_c, e_tup, e_lst, e_dct, s_nil, s_cons, e_ix, e_sl, e_bin, e_cmp, e_eq, e_ne, e_in, e_nin, e_isN, e_notN, e_chain, e_neg, e_not, e_and, e_or, e_ite, e_call, e_bi, e_me, e_isT, e_new, e_attr, e_mth, e_mk, w_setattr, w_skip, w_ex, w_asg, w_asgT, w_setix, w_ite, w_ret, w_raise, bi_lenR er]
    rw [ok_pop er]
    refine ⟨rfl, ?_⟩
    refine takeM_ok ht hst (by omega) (by omega) (by omega) fun u μ2 u0 u1 k2 d2 => ?_
    have er2 : μ2 r = some (.lst (rest.map .str)) := by rw [k2.eq r hrp]; exact er
    obtain ⟨s, hs⟩ : ∃ s, rest[u.toNat]? = some s := ⟨_, List.getElem?_eq_getElem (by omega)⟩
    rw [me_popI (x := .str s) (k := u.toNat) er2 (by rw [big_eq]; simp; omega) (ixN_in u0 (by simpa using u1)) (by rw [List.getElem?_map, hs]; rfl)]
    simp
    have hpe := erase_perm hs
    refine ⟨by rw [big_eq]; omega, l ++ [s], by simp, by simp [hl], rest.eraseIdx u.toNat, ?_, eraseIdx_map' _ _ _, sta_ne k2.st hrp, by rw [rdPl_ne hrp, someI, hI]; unfold someF; dsimp only; rw [d2]; dsimp only; rw [hs]; rfl, fun a a1 a2 => by rw [mset_ne a2, k2.eq a a1]; exact ho a a1 a2⟩
    rw [List.append_assoc]
    exact (List.Perm.append_left l hpe).trans hperm
  · rintro acc μ' ⟨l, rest, rfl, hl, hperm, er, hst, hI, ho⟩
    refine ⟨trivial, ?_⟩
    show Q (reso μ μ' 4 (.lst (l.map Val.str))) _
    rw [reso_nr (by show nrL _ = true; exact nrL_strs _)]
    have hnd2 := hperm.nodup_iff.mpr hnd
    refine q l _ (by simpa using hl) (List.nodup_append.mp hnd2).1 (fun s hs => hperm.mem_iff.mp (List.mem_append_left _ hs)) ⟨?_, fun a a1 => ?_⟩ (by
      have hcp : rdPl (μ'.cut μ) p = rdPl μ' p := by unfold rdPl Mu.cut; rw [if_pos hp.some]
      rw [hcp]
      unfold someS
      simp at hI
      rw [hI])
    · obtain ⟨a, b, e, r2⟩ := hst
      exact ⟨a, b, by unfold Mu.cut; rw [if_pos hp.some]; exact e, r2⟩
    · unfold Mu.cut
      by_cases ha : (μ a).isSome = true
      · rw [if_pos ha]; exact ho a a1 (isSome_ne ha hr)
      · rw [if_neg ha]
        cases e : μ a with
        | none => rfl
        | some v => rw [e] at ha; exact (ha rfl).elim
end
end Mi
/-! Nd: the drawn book of the menu family. -/
namespace Mi
open PySem (Str)
abbrev menuM : List Str := [Str.ofString "a", Str.ofString "b", Str.ofString "ab", Str.ofString "x", Str.ofString "xy", Str.ofString "abc", Str.ofString "abcd", Str.ofString "set", Str.ofString "end", Str.ofString "else", Str.ofString "give", Str.ofString "z"]
abbrev deedsM : List Str := [Str.ofString "f", Str.ofString "g", Str.ofString "fold", Str.ofString "gg", Str.ofString "deed", Str.ofString "end", Str.ofString "callfold", Str.ofString "h", Str.ofString "ab", Str.ofString "main"]
theorem menuM_nd : menuM.Nodup := by decide +kernel
theorem deedsM_nd : deedsM.Nodup := by decide +kernel
structure HdM (hs : Hs) : Prop where
  nd : (hs.map Prod.fst).Nodup
  nm : ∀ h ∈ hs, h.1 ∈ deedsM
  ps : ∀ h ∈ hs, h.2.length ≤ 4 ∧ h.2.Nodup ∧ ∀ s ∈ h.2, s ∈ menuM
structure DdM (hs : Hs) (room : Nat) (d : Dd) : Prop where
  nm : ∃ names : List Str, names ≠ [] ∧ names.length ≤ 7 ∧ names.Nodup ∧ (∀ s ∈ names, s ∈ menuM) ∧ (∀ q ∈ flats d.rows, RwM names hs q) ∧ ExM names 4 d.give ∧ ∀ s ∈ d.ps, s ∈ names
  dp : dps d.rows ≤ 3
  len : (flats d.rows).length ≤ room
structure BkM (room : Nat) (b : List Dd) : Prop where
  ne : b ≠ []
  len : b.length ≤ 8
  hd : HdM (b.map Dd.head)
  dd : ∀ d ∈ b, DdM (b.map Dd.head) room d
  mks' : ∃ (f : Int) (l : Nat), l ≤ 10 ∧ bmks b = mlM f 10 l
structure MbP (P : Prog) : Prop where
  r : MrP P
  pool : P "_law_pool" = some D._law_pool
  some' : P "_law_some" = some D._law_some
theorem filter_split {α : Type} (f : α → Bool) : ∀ l : List α, l.length = (l.filter f).length + (l.filter fun x => !f x).length
  | [] => rfl
  | a :: t => by
    have := filter_split f t
    rw [List.filter_cons, List.filter_cons, List.length_cons]
    cases f a <;> simp <;> omega
/-! the book as a function of the cells -/
def hdF (acc : Hs × (Int × Int)) (x : Str) : Hs × (Int × Int) := match tkS 5 acc.2 with
  | (t, s1) => match someS menuM t.toNat s1 with
    | (l, s2) => (acc.1 ++ [(x, l)], s2)
def ddF (cs : List Int) (hs : Hs) (f : Int) (acc : List Dd × Nat) (p : Int × (Str × List Str)) : List Dd × Nat := match tkS 3 (poolS cs (1 + p.1)) with
  | (u, s1) => match someS (menuM.filter fun s => !decide (s ∈ p.2.2)) (1 + u).toNat s1 with
    | (l, s2) => match rrS hs p.1 f (p.2.2 ++ l) 2 (s2, (acc.2, 9)) with
      | (rs, σ) => match exS (p.2.2 ++ l) 3 σ.1 with
        | (ge, _) => (acc.1 ++ [⟨p.2.1, p.2.2, rs, ge⟩], σ.2.1)
def bookS (cs : List Int) : List Dd := match tkS 4 (poolS cs 0) with
  | (u, s1) => match tkS (if u = 3 then 8 else 5) s1 with
    | (v, s2) => match someS deedsM (1 + v).toNat s2 with
      | (ds, s3) => match ds.foldl hdF ([], s3) with
        | (hs, s4) => match tkS 100 s4 with
          | (f, _) => ((enumT 0 hs).foldl (ddF cs hs f) ([], 10)).1
structure DlI (r5 w r9 : Ad) (v0 v1 v3 v4 v6 : Val) (cs : List Int) (hs : Hs) (f : Int) (μ : Mu) (ys : List (Int × (Str × List Str))) (env' : Env) (μ' : Mu) : Prop where
  ex : ∃ (b : List Dd) (left : Nat) (at' rows : Int) (o2 o7 o10 o11 o12 o13 o14 : Option Val), env' = [some v0, some v1, o2, some v3, some v4, some (.ref r5), some v6, o7, some (.ref w), some (.ref r9), o10, o11, o12, o13, o14] ∧ μ' r9 = some (.lst (b.map Dd.v)) ∧ μ' r5 = some (.lst (hs.map hdM)) ∧ μ' w = some (.dct (woM r5 at' rows (left : Int) f)) ∧ left ≤ 10 ∧ b.map Dd.head = ys.map Prod.snd ∧ (∀ d ∈ b, DdM hs 9 d) ∧ bmks b = mlM f 10 left ∧ ys.foldl (ddF cs hs f) ([], 10) = (b, left) ∧ ∀ a, (μ a).isSome = true → μ' a = μ a
structure HlI (p r5 : Ad) (v0 v1 v3 v4 v6 : Val) (s0 : Int × Int) (μ : Mu) (ys : List Str) (env' : Env) (μ' : Mu) : Prop where
  ex : ∃ (hs : Hs) (o7 : Option Val), env' = [some v0, some v1, some (.ref p), some v3, some v4, some (.ref r5), some v6, o7, none, none, none, none, none, none, none] ∧ μ' r5 = some (.lst (hs.map hdM)) ∧ hs.map Prod.fst = ys ∧ (∀ h ∈ hs, h.2.length ≤ 4 ∧ h.2.Nodup ∧ ∀ s ∈ h.2, s ∈ menuM) ∧ Sta μ' p ∧ ys.foldl hdF ([], s0) = (hs, rdPl μ' p) ∧ ∀ a, (μ a).isSome = true → μ' a = μ a
section
variable {P : Prog} {n : Nat} {μ : Mu} {Q : Val → Mu → Prop} {X : XQ} {p : Ad}
theorem book_okM (h : MbP P) (hb : P "_law_book" = some D._law_book_v4) {cs : List Int} (hcs : cs.length ≤ 1000) (hn : 20 ≤ n) (q : BkM 9 (bookS cs) → Q (.tup ((bookS cs).map Dd.v)) μ) : phi P n "_law_book" .val [.lst (cs.map .int), .int 5] μ Q X := by
  obtain ⟨n, rfl⟩ : ∃ k, n = k + 1 := ⟨n - 1, by omega⟩
  have hΦ := phi_mono P n
  have ht := h.r.x.t
  refine call_ok hb rfl ?_
  unfold D._law_book_v4
  rw [w_seq]
  simp [e_v, e_c, e_tup, e_lst, e_dct, s_nil, s_cons, e_ix, e_sl, e_bin, e_cmp, e_eq, e_ne, e_in, e_nin, e_isN, e_notN, e_chain, e_neg, e_not, e_and, e_or, e_ite, e_call, e_bi, e_me, e_isT, e_new, e_attr, e_mth, e_mk, w_setattr, w_skip, w_ex, w_asg, w_asgT, w_setix, w_ite, w_ret, w_raise]
  refine pool_okM h.pool (by decide) (by decide) hcs (by omega) fun p μ1 hp0 k1 d1 => ?_
  rw [w_seq]
  simp [e_v, e_c, e_tup, e_lst, e_dct, s_nil, s_cons, e_ix, e_sl, e_bin, e_cmp, e_eq, e_ne, e_in, e_nin, e_isN, e_notN, e_chain, e_neg, e_not, e_and, e_or, e_ite, e_call, e_bi, e_me, e_isT, e_new, e_attr, e_mth, e_mk, w_setattr, w_skip, w_ex, w_asg, w_asgT, w_setix, w_ite, w_ret, w_raise]
  rw [w_seq]
  simp [e_v, e_c, e_tup, e_lst, e_dct, s_nil, s_cons, e_ix, e_sl, e_bin, e_cmp, e_eq, e_ne, e_in, e_nin, e_isN, e_notN, e_chain, e_neg, e_not, e_and, e_or, e_ite, e_call, e_bi, e_me, e_isT, e_new, e_attr, e_mth, e_mk, w_setattr, w_skip, w_ex, w_asg, w_asgT, w_setix, w_ite, w_ret, w_raise]
  rw [w_seq]
  simp [e_v, e_c, e_tup, e_lst, e_dct, s_nil, s_cons, e_ix, e_sl, e_bin, e_cmp, e_eq, e_ne, e_in, e_nin, e_isN, e_notN, e_chain, e_neg, e_not, e_and, e_or, e_ite, e_call, e_bi, e_me, e_isT, e_new, e_attr, e_mth, e_mk, w_setattr, w_skip, w_ex, w_asg, w_asgT, w_setix, w_ite, w_ret, w_raise]
  intro r5 hr5
  have h5p : r5 ≠ p := k1.st.ne hr5
  rw [w_seq]
  simp [e_v, e_c, e_tup, e_lst, e_dct, s_nil, s_cons, e_ix, e_sl, e_bin, e_cmp, e_eq, e_ne, e_in, e_nin, e_isN, e_notN, e_chain, e_neg, e_not, e_and, e_or, e_ite, e_call, e_bi, e_me, e_isT, e_new, e_attr, e_mth, e_mk, w_setattr, w_skip, w_ex, w_asg, w_asgT, w_setix, w_ite, w_ret, w_raise]
  refine takeM_ok ht (sta_ne k1.st h5p) (by decide) (by decide) (by omega) fun u μ2 u0 u1 k2 d2 => ?_
  rw [rdPl_ne h5p, d1] at d2
  obtain ⟨m, m0, m1, hm, hme⟩ : ∃ m : Int, 0 < m ∧ m ≤ 8 ∧ atI [Val.int 5, .int 5, .int 5, .int 8] u = some (.int m) ∧ m = (if u = 3 then 8 else 5) := by
    have : u = 0 ∨ u = 1 ∨ u = 2 ∨ u = 3 := by omega
    rcases this with e | e | e | e <;> rw [e]
    · exact ⟨5, by decide, by decide, rfl, rfl⟩
    · exact ⟨5, by decide, by decide, rfl, rfl⟩
    · exact ⟨5, by decide, by decide, rfl, rfl⟩
    · exact ⟨8, by decide, by decide, rfl, rfl⟩
  simp [hm]
  refine takeM_ok ht k2.st m0 (by omega) (by omega) fun v μ3 v0 v1 k3 d3 => ?_
  obtain ⟨many, hmany⟩ : ∃ many : Nat, 1 + v = (many : Int) := ⟨(1 + v).toNat, by omega⟩
  simp
  rw [hmany]
  have em : [Val.str (Str.ofString "a"), .str (Str.ofString "b"), .str (Str.ofString "ab"), .str (Str.ofString "x"), .str (Str.ofString "xy"), .str (Str.ofString "abc"), .str (Str.ofString "abcd"), .str (Str.ofString "set"), .str (Str.ofString "end"), .str (Str.ofString "else"), .str (Str.ofString "give"), .str (Str.ofString "z")] = menuM.map Val.str := rfl
  have ed : [Val.str (Str.ofString "f"), .str (Str.ofString "g"), .str (Str.ofString "fold"), .str (Str.ofString "gg"), .str (Str.ofString "deed"), .str (Str.ofString "end"), .str (Str.ofString "callfold"), .str (Str.ofString "h"), .str (Str.ofString "ab"), .str (Str.ofString "main")] = deedsM.map Val.str := rfl
  obtain ⟨M, hM⟩ : ∃ M : List Str, M = menuM := ⟨_, rfl⟩
  have hMn : M.Nodup := by rw [hM]; exact menuM_nd
  have hMl : M.length = 12 := by rw [hM]; rfl
  rw [em, ed, ← hM]
  rw [w_seq]
  refine for_rule hΦ (i_e ?_ hΦ)
  simp [e_v, e_c, e_tup, e_lst, e_dct, s_nil, s_cons, e_ix, e_sl, e_bin, e_cmp, e_eq, e_ne, e_in, e_nin, e_isN, e_notN, e_chain, e_neg, e_not, e_and, e_or, e_ite, e_call, e_bi, e_me, e_isT, e_new, e_attr, e_mth, e_mk, w_setattr, w_skip, w_ex, w_asg, w_asgT, w_setix, w_ite, w_ret, w_raise, -List.map_cons, -List.map_nil]
  refine some_okM h.some' ht deedsM_nd (by decide) (by show many ≤ 10; omega) k3.st (by omega) fun ds μ4 e1 e2 e3 k4 d4 => ?_
  have e5 : μ4 r5 = some (.lst []) := by rw [k4.eq r5 h5p, k3.eq r5 h5p, k2.eq r5 h5p, mset_same]
  have old4 : ∀ a, (μ a).isSome = true → μ4 a = μ a := fun a ha => by
    have hap : a ≠ p := isSome_ne ha hp0
    have h1 : μ1 a = μ a := k1.eq a hap
    rw [k4.eq a hap, k3.eq a hap, k2.eq a hap, mset_ne (isSome_ne (by rw [h1]; exact ha) hr5), h1]
  simp [guard, -List.map_cons, -List.map_nil]
  refine ⟨fun done env' μ' => ∃ ys zs, ds = ys ++ zs ∧ done = ys.map Val.str ∧ HlI p r5 _ _ _ _ _ (rdPl μ4 p) μ ys env' μ', ⟨[], ds, rfl, rfl, ⟨[], _, rfl, e5, rfl, by simp, k4.st, rfl, old4⟩⟩, ?_, ?_⟩
  · rintro done v rest env' μ' e ⟨ys, zs, hz, rfl, ⟨hs, o7, rfl, e5, hfst, hps, hst, hF, ho⟩⟩
    obtain ⟨x, zs', rfl, rfl⟩ := split_map e hz
    refine ⟨trivial, ?_⟩
    have hlen : hs.length = ys.length := by rw [← hfst, List.length_map]
    have hyl : ys.length < many := by
      have := congrArg List.length hz
      simp at this
      omega
    have hr50 : μ r5 = none ∨ True := .inr trivial
    simp [-List.map_cons, -List.map_nil]
    rw [ok_append e5]
    refine ⟨rfl, ?_⟩
    refine takeM_ok ht hst (by decide) (by decide) (by omega) fun t μ5 t0 t1 k5 d5 => ?_
    obtain ⟨tn, rfl⟩ : ∃ tn : Nat, t = (tn : Int) := ⟨t.toNat, by omega⟩
    refine some_okM h.some' ht hMn (by omega) (by omega) k5.st (by omega) fun l μ6 l1 l2 l3 k6 d6 => ?_
    have e6 : μ6 r5 = some (.lst (hs.map hdM)) := by rw [k6.eq r5 h5p, k5.eq r5 h5p]; exact e5
    rw [me_append e6]
    refine brV_ite (by rw [List.length_map, big_eq]; omega) ?_
    dsimp only
    refine ⟨ys ++ [x], ⟨zs', by rw [hz]; simp⟩, by simp, ⟨hs ++ [(x, l)], _, rfl, by rw [mset_same]; simp [hdM], by simp [hfst], fun y hy => ?_, sta_ne k6.st h5p, by
      rw [List.foldl_append, hF]
      show hdF (hs, rdPl μ' p) x = _
      unfold hdF
      dsimp only
      rw [d5]
      dsimp only
      rw [Int.toNat_natCast, ← hM, d6, rdPl_ne h5p], fun a ha => ?_⟩⟩
    · rcases List.mem_append.mp hy with z | z
      · exact hps y z
      · simp at z
        rw [z]
        exact ⟨by show l.length ≤ 4; omega, l2, fun s hs => by rw [← hM]; exact l3 s hs⟩
    · have hap : a ≠ p := isSome_ne ha hp0
      have h1 : μ1 a = μ a := k1.eq a hap
      rw [mset_ne (isSome_ne (by rw [h1]; exact ha) hr5), k6.eq a hap, k5.eq a hap]
      exact ho a ha
  · rintro env' μ' ⟨ys, zs, hz, hdn, ⟨hs, o7, rfl, e5, hfst, hps, hst, hF, ho⟩⟩
    have hyd : ys = ds := by
      have h1 := congrArg List.length hdn
      have h2 := congrArg List.length hz
      simp at h1 h2
      have : zs = [] := List.length_eq_zero_iff.mp (by omega)
      rw [hz, this, List.append_nil]
    refine ⟨trivial, ?_⟩
    have hH : HdM hs := ⟨by rw [hfst, hyd]; exact e2, fun y hy => e3 _ (by rw [← hyd, ← hfst]; exact List.mem_map_of_mem hy), hps⟩
    have hhl : hs.length = many := by rw [← e1, ← hyd, ← hfst, List.length_map]
    rw [w_seq]
    simp [e_v, e_c, e_tup, e_lst, e_dct, s_nil, s_cons, e_ix, e_sl, e_bin, e_cmp, e_eq, e_ne, e_in, e_nin, e_isN, e_notN, e_chain, e_neg, e_not, e_and, e_or, e_ite, e_call, e_bi, e_me, e_isT, e_new, e_attr, e_mth, e_mk, w_setattr, w_skip, w_ex, w_asg, w_asgT, w_setix, w_ite, w_ret, w_raise, -List.map_cons, -List.map_nil]
    refine takeM_ok ht hst (by decide) (by decide) (by omega) fun f μ5 f0 f1 k5 d7 => ?_
    intro w hw0
    have hwp : w ≠ p := k5.st.ne hw0
    have e5b : μ5 r5 = some (.lst (hs.map hdM)) := by rw [k5.eq r5 h5p]; exact e5
    have h5w : r5 ≠ w := fun z => by rw [z] at e5b; rw [hw0] at e5b; cases e5b
    rw [w_seq]
    simp [e_v, e_c, e_tup, e_lst, e_dct, s_nil, s_cons, e_ix, e_sl, e_bin, e_cmp, e_eq, e_ne, e_in, e_nin, e_isN, e_notN, e_chain, e_neg, e_not, e_and, e_or, e_ite, e_call, e_bi, e_me, e_isT, e_new, e_attr, e_mth, e_mk, w_setattr, w_skip, w_ex, w_asg, w_asgT, w_setix, w_ite, w_ret, w_raise, -List.map_cons, -List.map_nil]
    intro r9 hr9
    have h9w : r9 ≠ w := fun z => by rw [z, mset_same] at hr9; cases hr9
    have hr9b : μ5 r9 = none := by rw [← hr9, mset_ne h9w]
    have h95 : r9 ≠ r5 := fun z => by rw [z, e5b] at hr9b; cases hr9b
    have old5 : ∀ a, (μ a).isSome = true → μ5 a = μ a := fun a ha => by rw [k5.eq a (isSome_ne ha hp0)]; exact ho a ha
    rw [w_seq]
    refine for_T (fun p : Int × (Str × List Str) => Val.tup [.int p.1, hdM p.2]) (enumT 0 hs) hΦ (i_enum ?_ hΦ)
    simp [e_v, e_c, e_tup, e_lst, e_dct, s_nil, s_cons, e_ix, e_sl, e_bin, e_cmp, e_eq, e_ne, e_in, e_nin, e_isN, e_notN, e_chain, e_neg, e_not, e_and, e_or, e_ite, e_call, e_bi, e_me, e_isT, e_new, e_attr, e_mth, e_mk, w_setattr, w_skip, w_ex, w_asg, w_asgT, w_setix, w_ite, w_ret, w_raise, -List.map_cons, -List.map_nil]
    refine ⟨hs.map hdM, by rw [mset_ne (Ne.symm h95), mset_ne h5w]; exact e5b, enum_map _ _ _, fun ys env' μ' => DlI r5 w r9 _ _ _ _ _ cs hs f μ ys env' μ', ⟨[], 10, 0, 20, _, _, _, _, _, _, _, rfl, mset_same, by rw [mset_ne (Ne.symm h95), mset_ne h5w]; exact e5b, by rw [mset_ne (Ne.symm h9w), mset_same]; rfl, Nat.le_refl _, rfl, by simp, by rw [mlM_self]; rfl, rfl, fun a ha => ?_⟩, ?_, ?_⟩
    · have hap : a ≠ p := isSome_ne ha hp0
      have h1 := ho a ha
      have h2 : μ5 a = μ a := by rw [k5.eq a hap]; exact h1
      rw [mset_ne (isSome_ne (by rw [h2]; exact ha) hr9b), mset_ne (isSome_ne (by rw [h2]; exact ha) hw0), h2]
    · rintro ys i nm ps zs env' μ' e ⟨b, left, a0, rows, o2, o7, o10, o11, o12, o13, o14, rfl, e9, e5, ew, hleft, hbm, hdd, hmk, hG, ho⟩
      refine ⟨e5, ?_⟩
      obtain ⟨i0, l1, l2, el, ey, ely⟩ := enumT_at e
      have hi : i = (ys.length : Int) := by rw [show i = (i, nm, ps).1 from rfl, i0]; simp
      have hmem : (nm, ps) ∈ hs := by rw [el]; simp
      have hyl : ys.length < hs.length := by
        rw [el, List.length_append, List.length_cons, ely]
        omega
      obtain ⟨p1, p2, p3⟩ := hps _ hmem
      simp [-List.map_cons, -List.map_nil, hdM]
      rw [w_seq]
      simp [e_v, e_c, e_tup, e_lst, e_dct, s_nil, s_cons, e_ix, e_sl, e_bin, e_cmp, e_eq, e_ne, e_in, e_nin, e_isN, e_notN, e_chain, e_neg, e_not, e_and, e_or, e_ite, e_call, e_bi, e_me, e_isT, e_new, e_attr, e_mth, e_mk, w_setattr, w_skip, w_ex, w_asg, w_asgT, w_setix, w_ite, w_ret, w_raise, -List.map_cons, -List.map_nil]
      refine pool_okM h.pool (by omega) (by omega) hcs (by omega) fun p' μ6 hp' k6 d8 => ?_
      rw [w_seq]
      simp [e_v, e_c, e_tup, e_lst, e_dct, s_nil, s_cons, e_ix, e_sl, e_bin, e_cmp, e_eq, e_ne, e_in, e_nin, e_isN, e_notN, e_chain, e_neg, e_not, e_and, e_or, e_ite, e_call, e_bi, e_me, e_isT, e_new, e_attr, e_mth, e_mk, w_setattr, w_skip, w_ex, w_asg, w_asgT, w_setix, w_ite, w_ret, w_raise, -List.map_cons, -List.map_nil]
      refine comp_mapT Val.str M (fun s => !decide (s ∈ ps)) Val.str hΦ (i_e ?_ hΦ)
      simp [e_v, e_c, e_tup, e_lst, e_dct, s_nil, s_cons, e_ix, e_sl, e_bin, e_cmp, e_eq, e_ne, e_in, e_nin, e_isN, e_notN, e_chain, e_neg, e_not, e_and, e_or, e_ite, e_call, e_bi, e_me, e_isT, e_new, e_attr, e_mth, e_mk, w_setattr, w_skip, w_ex, w_asg, w_asgT, w_setix, w_ite, w_ret, w_raise, guard]
      refine ⟨trivial, by rw [big_eq]; omega, fun s hs => ?_, ?_⟩
      · simp [wipe, e_v, e_c, e_tup, e_lst, e_dct, s_nil, s_cons, e_ix, e_sl, e_bin, e_cmp, e_eq, e_ne, e_in, e_nin, e_isN, e_notN, e_chain, e_neg, e_not, e_and, e_or, e_ite, e_call, e_bi, e_me, e_isT, e_new, e_attr, e_mth, e_mk, w_setattr, w_skip, w_ex, w_asg, w_asgT, w_setix, w_ite, w_ret, w_raise]
        rw [in_strs (l := ps) rfl]
        simp
      have hR : (M.filter fun s => !decide (s ∈ ps)).Nodup := hMn.filter _
      have hRl : 8 ≤ (M.filter fun s => !decide (s ∈ ps)).length := by
        have h1 : M.length = (M.filter fun s => !decide (s ∈ ps)).length + (M.filter fun s => !(!decide (s ∈ ps))).length := by
          exact filter_split (fun s => !decide (s ∈ ps)) M
        have p1' : ps.length ≤ 4 := p1
        have h2 : (M.filter fun s => !(!decide (s ∈ ps))).length ≤ ps.length := nodup_subO (hMn.filter _) fun s hs => by
          have := (List.mem_filter.mp hs).2
          simpa using this
        omega
      have hRl2 : (M.filter fun s => !decide (s ∈ ps)).length ≤ 12 := by rw [← hMl]; exact List.length_filter_le _ _
      have hRm : ∀ s ∈ (M.filter fun s => !decide (s ∈ ps)), s ∈ M ∧ s ∉ ps := fun s hs => ⟨(List.mem_filter.mp hs).1, by have := (List.mem_filter.mp hs).2; simpa using this⟩
      obtain ⟨R, hRE⟩ : ∃ R, R = (M.filter fun s => !decide (s ∈ ps)) := ⟨_, rfl⟩
      rw [← hRE] at hR hRl hRl2 hRm ⊢
      refine takeM_ok ht k6.st (by decide) (by decide) (by omega) fun u μ7 u0 u1 k7 d9 => ?_
      simp
      obtain ⟨un, hun⟩ : ∃ un : Nat, 1 + u = (un : Int) := ⟨(1 + u).toNat, by omega⟩
      rw [hun]
      refine some_okM h.some' ht hR (by omega) (by omega) k7.st (by omega) fun l μ8 l1 l2 l3 k8 d10 => ?_
      simp
      have p1' : ps.length ≤ 4 := p1
      refine ⟨by rw [big_eq]; omega, ?_⟩
      have kk := (k6.trans k7).trans k8
      have ne : ∀ a, (μ' a).isSome = true → a ≠ p' := fun a ha => isSome_ne ha hp'
      have wp' := ne w (by rw [ew]; rfl)
      have rp' := ne r5 (by rw [e5]; rfl)
      have np' := ne r9 (by rw [e9]; rfl)
      have ew8 : μ8 w = some (.dct (woM r5 a0 rows (left : Int) f)) := by rw [kk.eq w wp']; exact ew
      rw [w_seq]
      simp [e_v, e_c, e_tup, e_lst, e_dct, s_nil, s_cons, e_ix, e_sl, e_bin, e_cmp, e_eq, e_ne, e_in, e_nin, e_isN, e_notN, e_chain, e_neg, e_not, e_and, e_or, e_ite, e_call, e_bi, e_me, e_isT, e_new, e_attr, e_mth, e_mk, w_setattr, w_skip, w_ex, w_asg, w_asgT, w_setix, w_ite, w_ret, w_raise]
      rw [wm_setA ew8]
      simp
      have ew9 : (μ8.set w (.dct (woM r5 i rows (left : Int) f))) w = some (.dct (woM r5 i rows (left : Int) f)) := mset_same
      rw [w_seq]
      simp [e_v, e_c, e_tup, e_lst, e_dct, s_nil, s_cons, e_ix, e_sl, e_bin, e_cmp, e_eq, e_ne, e_in, e_nin, e_isN, e_notN, e_chain, e_neg, e_not, e_and, e_or, e_ite, e_call, e_bi, e_me, e_isT, e_new, e_attr, e_mth, e_mk, w_setattr, w_skip, w_ex, w_asg, w_asgT, w_setix, w_ite, w_ret, w_raise]
      rw [wm_setR ew9, mset_set]
      simp
      obtain ⟨μ9, h9⟩ : ∃ m, m = μ8.set w (.dct (woM r5 i ((9 : Nat) : Int) (left : Int) f)) := ⟨_, rfl⟩
      have h9' : μ8.set w (.dct (woM r5 i 9 (left : Int) f)) = μ9 := h9.symm
      rw [h9', ← List.map_append]
      have F : FixM p' w r5 hs i f (ps ++ l) := ⟨wp', rp', h5w, by omega, fun y hy => (hps y hy).1, by omega, by omega, fun z => by
        have := congrArg List.length z
        rw [List.length_append] at this
        simp only [List.length_nil] at this
        omega, by rw [List.length_append]; omega⟩
      have hwm : WmAt w r5 hs i f left 9 μ9 := ⟨by rw [h9, mset_same], by rw [h9, mset_ne h5w, kk.eq r5 rp']; exact e5⟩
      have rd9 : rdPl μ9 p' = rdPl μ8 p' := by rw [h9]; exact rdPl_ne wp'
      have hst9 : Sta μ9 p' := by rw [h9]; exact sta_ne kk.st wp'
      rw [w_seq]
      simp [e_v, e_c, e_tup, e_lst, e_dct, s_nil, s_cons, e_ix, e_sl, e_bin, e_cmp, e_eq, e_ne, e_in, e_nin, e_isN, e_notN, e_chain, e_neg, e_not, e_and, e_or, e_ite, e_call, e_bi, e_me, e_isT, e_new, e_attr, e_mth, e_mk, w_setattr, w_skip, w_ex, w_asg, w_asgT, w_setix, w_ite, w_ret, w_raise, -List.map_append]
      refine rows_okM h.r F 2 (by decide) (by omega) hst9 hwm (by decide) fun rs left' room' μ10 a1 a2 a3 a4 a5 k10 a6 d11 => ?_
      have e10 : μ10 r9 = some (.lst (b.map Dd.v)) := by rw [k10.eq r9 np' h9w, h9, mset_ne h9w, kk.eq r9 np']; exact e9
      rw [ok_append e10]
      refine ⟨rfl, ?_⟩
      refine exprM_ok h.r.x F.ne F.nl 3 (by decide) k10.st (by omega) fun ge μ11 hge k11 d12 => ?_
      have e11 : μ11 r9 = some (.lst (b.map Dd.v)) := by rw [k11.eq r9 np']; exact e10
      have hblen : b.length = ys.length := by have := congrArg List.length hbm; simpa using this
      rw [me_append e11]
      refine brV_ite (by rw [List.length_map, big_eq]; omega) ?_
      dsimp only
      have hw11 := a6.sw F k11
      have hd : DdM hs 9 ⟨nm, ps, rs, ge⟩ := ⟨⟨ps ++ l, F.ne, by rw [List.length_append]; omega, ?_, fun s hs => ?_, a1, hge, fun s hs => List.mem_append_left _ hs⟩, a2, by show (flats rs).length ≤ 9; omega⟩
      · refine ⟨b ++ [⟨nm, ps, rs, ge⟩], left', i, (room' : Int), _, _, _, _, _, _, _, rfl, by rw [mset_same]; simp [Dd.v], by rw [mset_ne (Ne.symm h95)]; exact hw11.r, by rw [mset_ne (Ne.symm h9w)]; exact hw11.w, by omega, by rw [List.map_append, List.map_append, hbm]; rfl, fun d hd' => ?_, ?_, ?_, fun a ha => ?_⟩
        · rcases List.mem_append.mp hd' with z | z
          · exact hdd d z
          · simp at z; rw [z]; exact hd
        · have eb : bmks (b ++ [⟨nm, ps, rs, ge⟩]) = bmks b ++ mks rs := by simp [bmks]
          rw [eb, hmk, a5, mlM_app f hleft a4]
        · rw [List.foldl_append, hG]
          show ddF cs hs f (b, left) (i, nm, ps) = _
          have ei : 1 + i = i + 1 := by omega
          unfold ddF
          dsimp only
          rw [← d8, d9]
          dsimp only
          rw [hun, Int.toNat_natCast, ← hM, ← hRE, d10]
          dsimp only
          rw [rd9] at d11
          rw [d11]
          dsimp only
          rw [d12]
        · have h1 := ho a ha
          have h2 := old5 a ha
          have s1 : (μ' a).isSome = true := by rw [h1]; exact ha
          have s2 : (μ5 a).isSome = true := by rw [h2]; exact ha
          rw [mset_ne (isSome_ne s2 hr9b), k11.eq a (ne a s1), k10.eq a (ne a s1) (isSome_ne s2 hw0), h9, mset_ne (isSome_ne s2 hw0), kk.eq a (ne a s1)]
          exact h1
      · rw [List.nodup_append]
        exact ⟨p2, l2, fun a ha c hc e => (hRm c (l3 c hc)).2 (by rw [← e]; exact ha)⟩
      · rcases List.mem_append.mp hs with z | z
        · exact p3 s z
        · rw [← hM]; exact (hRm s (l3 s z)).1
    · rintro env' μ' ⟨b, left, a0, rows, o2, o7, o10, o11, o12, o13, o14, rfl, e9, e5, ew, hleft, hbm, hdd, hmk, hG, ho⟩
      refine ⟨e5, ?_⟩
      simp [-List.map_cons, -List.map_nil]
      rw [bi_tupR e9]
      simp only [brV_some]
      show Q (reso μ μ' 4 (.tup (b.map Dd.v))) _
      rw [reso_nr (by show nrL _ = true; exact plainL_nr (bk_plain b)), cut_keep ho]
      have hbh : b.map Dd.head = hs := by rw [hbm, enumT_snd]
      have hbl : b.length = many := by rw [← hhl, ← hbh, List.length_map]
      have hbS : bookS cs = b := by
        unfold bookS
        rw [d2]
        dsimp only
        rw [← hme, d3]
        dsimp only
        rw [hmany, Int.toNat_natCast, d4]
        dsimp only
        rw [← hyd, hF]
        dsimp only
        rw [d7]
        dsimp only
        rw [hG]
      rw [hbS] at q
      exact q ⟨fun z => by rw [z] at hbl; simp at hbl; omega, by omega, by rw [hbh]; exact hH, by rw [hbh]; exact hdd, ⟨f, left, hleft, hmk⟩⟩
end
end Mi
/-! Ha: calls, marks and names as the laws of gains read them. -/
namespace Mi
open PySem (Str)
def Rw.isCallH : Rw → Bool
  | .call _ _ _ _ => true
  | _ => false
def callsV (l : List Rw) : List Val := ((flats l).filter Rw.isCallH).map Rw.v
theorem callsV_snoc (ys : List Rw) (x : Rw) : callsV (ys ++ [x]) = callsV ys ++ (if x.isCallH = true then [x.v] else []) ++ callsV x.within := by
  unfold callsV
  rw [flats_snoc]
  simp [List.filter_append, List.filter_cons]
  split <;> simp
theorem callsV_app (a b : List Rw) : callsV (a ++ b) = callsV a ++ callsV b := by simp [callsV, flats_append]
theorem callsV_len (l : List Rw) : (callsV l).length ≤ (flats l).length := by
  unfold callsV
  rw [List.length_map]
  exact List.length_filter_le _ _
theorem callsV_nr (l : List Rw) : nrL (callsV l) = true := by
  rw [nrL_iff]
  intro v hv
  obtain ⟨r, _, rfl⟩ := List.mem_map.mp hv
  exact plain_nr r.plain
theorem fin_anyH {m : Md} (hm : m = .val ∨ m = .obj) {μ μ' : Mu} {Q : Val → Mu → Prop} {r : Ad} {v : Val} (hr : μ r = none) (e : μ' r = some v) (hn : nr v = true) (ho : ∀ a, (μ a).isSome = true → μ' a = μ a) (q : resV m μ Q v) : finM m μ Q (.ref r) μ' := by
  rcases hm with rfl | rfl
  · show Q (reso μ μ' 4 (.ref r)) (μ'.cut μ)
    rw [reso_new hr e hn, cut_keep ho]
    exact q
  · simp only [finM, hr, e, true_and]
    have e1 : ((μ'.cut μ).set r (reso (μ.set r v) μ' 4 v)) = μ.set r v := by
      rw [cut_keep ho, reso_nr hn]
    rw [e1]
    exact q r hr
theorem sorted_iH {μ : Mu} {v : Val} {l : List Int} (hv : content μ v = some (.lst (l.map .int))) : biV μ .sorted [v] = some (.lst ((sortI l).map .int)) := by
  have e : intsOf (l.map Val.int) = some l := by
    clear hv
    induction l with
    | nil => rfl
    | cons a t ih => simp [intsOf, ih]
  show sortedF μ [v] = _
  simp [sortedF, lstOf, hv, e]
structure LcI (μ : Mu) (v0 : Val) (acc : List Val) (x : Option Val) (env' : Env) (μ' : Mu) : Prop where
  ex : ∃ (r : Ad) (o2 : Option Val), env' = [some v0, some (.ref r), o2] ∧ (∀ y, x = some y → o2 = some y) ∧ μ r = none ∧ μ' r = some (.lst acc) ∧ ∀ a, (μ a).isSome = true → μ' a = μ a
section
variable {P : Prog} {n : Nat} {μ : Mu} {Q : Val → Mu → Prop} {X : XQ}
theorem lc_ok (h : P "_law_calls" = some D._law_calls_v2) : ∀ (d : Nat) (rows : List Rw) (n : Nat) (μ : Mu) (Q : Val → Mu → Prop) (X : XQ), dps rows ≤ d → (flats rows).length ≤ 1000 → d + 1 ≤ n →
    Q (.lst (callsV rows)) μ → phi P n "_law_calls" .val [.tup (Rw.vs rows)] μ Q X := by
  intro d
  induction d with
  | zero => ?_
  | succ d ih => ?_
  all_goals
    intro rows n μ Q X hd hl hn q
    obtain ⟨n, rfl⟩ : ∃ k, n = k + 1 := ⟨n - 1, by omega⟩
    have hΦ := phi_mono P n
    refine call_ok h rfl ?_
    unfold D._law_calls_v2
    rw [w_seq]
    simp [e_v, e_c, e_tup, e_lst, e_dct, s_nil, s_cons, e_ix, e_sl, e_bin, e_cmp, e_eq, e_ne, e_in, e_nin, e_isN, e_notN, e_chain, e_neg, e_not, e_and, e_or, e_ite, e_call, e_bi, e_me, e_isT, e_new, e_attr, e_mth, e_mk, w_setattr, w_skip, w_ex, w_asg, w_asgT, w_setix, w_ite, w_ret, w_raise]
    intro r0 hr0
    rw [w_seq]
    refine for_T Rw.v rows hΦ (i_e ?_ hΦ)
    simp [e_v, e_c, e_tup, e_lst, e_dct, s_nil, s_cons, e_ix, e_sl, e_bin, e_cmp, e_eq, e_ne, e_in, e_nin, e_isN, e_notN, e_chain, e_neg, e_not, e_and, e_or, e_ite, e_call, e_bi, e_me, e_isT, e_new, e_attr, e_mth, e_mk, w_setattr, w_skip, w_ex, w_asg, w_asgT, w_setix, w_ite, w_ret, w_raise]
    refine ⟨vs_map _, fun ys env' μ' => LcI μ (.tup (Rw.vs rows)) (callsV ys) none env' μ', ⟨r0, _, rfl, (fun y e => by cases e), hr0, mset_same, fun a ha => mset_ne (isSome_ne ha hr0)⟩, ?_, ?_⟩
  · rintro ys x zs env' μ' e _
    have : dps rows = max (dps ys) (max x.dp (dps zs)) := by rw [e, dps_append, dps]
    have := x.dp_eq
    omega
  · rintro env' μ' ⟨r, o2, rfl, _, hr, hr', ho⟩
    refine ⟨trivial, ?_⟩
    simp [e_v, e_c, e_tup, e_lst, e_dct, s_nil, s_cons, e_ix, e_sl, e_bin, e_cmp, e_eq, e_ne, e_in, e_nin, e_isN, e_notN, e_chain, e_neg, e_not, e_and, e_or, e_ite, e_call, e_bi, e_me, e_isT, e_new, e_attr, e_mth, e_mk, w_setattr, w_skip, w_ex, w_asg, w_asgT, w_setix, w_ite, w_ret, w_raise]
    show Q (reso μ μ' 4 (.ref r)) (μ'.cut μ)
    rw [reso_new hr hr' (by show nrL _ = true; exact callsV_nr _), cut_keep ho]
    exact q
  · rintro ys x zs env' μ' e ⟨r, o2, rfl, _, hr, hr', ho⟩
    refine ⟨trivial, ?_⟩
    have e1 : dps rows = max (dps ys) (max x.dp (dps zs)) := by rw [e, dps_append, dps]
    have e2 := x.dp_eq
    have e3 : flats rows = flats ys ++ (x :: flats x.within) ++ flats zs := by rw [e, flats_append, flats, x.flat_eq, List.append_assoc]
    have e4 : (flats rows).length = (flats ys).length + ((flats x.within).length + 1) + (flats zs).length := by rw [e3]; simp; omega
    have l1 := callsV_len ys
    simp
    cases x with
    | set nm ex =>
      have hv : ixV μ' (Rw.set nm ex).v (.int 0) = some (.str (Str.ofString "set")) := rfl
      rw [w_seq]; simp [e_v, e_c, e_tup, e_lst, e_dct, s_nil, s_cons, e_ix, e_sl, e_bin, e_cmp, e_eq, e_ne, e_in, e_nin, e_isN, e_notN, e_chain, e_neg, e_not, e_and, e_or, e_ite, e_call, e_bi, e_me, e_isT, e_new, e_attr, e_mth, e_mk, w_setattr, w_skip, w_ex, w_asg, w_asgT, w_setix, w_ite, w_ret, w_raise, hv]
      rw [w_seq]; simp [e_v, e_c, e_tup, e_lst, e_dct, s_nil, s_cons, e_ix, e_sl, e_bin, e_cmp, e_eq, e_ne, e_in, e_nin, e_isN, e_notN, e_chain, e_neg, e_not, e_and, e_or, e_ite, e_call, e_bi, e_me, e_isT, e_new, e_attr, e_mth, e_mk, w_setattr, w_skip, w_ex, w_asg, w_asgT, w_setix, w_ite, w_ret, w_raise, hv]
      exact ⟨r, _, rfl, (fun y e => by cases e), hr, by rw [hr', callsV_snoc]; simp [Rw.isCallH, Rw.within, callsV, flats], ho⟩
    | say ex =>
      have hv : ixV μ' (Rw.say ex).v (.int 0) = some (.str (Str.ofString "say")) := rfl
      rw [w_seq]; simp [e_v, e_c, e_tup, e_lst, e_dct, s_nil, s_cons, e_ix, e_sl, e_bin, e_cmp, e_eq, e_ne, e_in, e_nin, e_isN, e_notN, e_chain, e_neg, e_not, e_and, e_or, e_ite, e_call, e_bi, e_me, e_isT, e_new, e_attr, e_mth, e_mk, w_setattr, w_skip, w_ex, w_asg, w_asgT, w_setix, w_ite, w_ret, w_raise, hv]
      rw [w_seq]; simp [e_v, e_c, e_tup, e_lst, e_dct, s_nil, s_cons, e_ix, e_sl, e_bin, e_cmp, e_eq, e_ne, e_in, e_nin, e_isN, e_notN, e_chain, e_neg, e_not, e_and, e_or, e_ite, e_call, e_bi, e_me, e_isT, e_new, e_attr, e_mth, e_mk, w_setattr, w_skip, w_ex, w_asg, w_asgT, w_setix, w_ite, w_ret, w_raise, hv]
      exact ⟨r, _, rfl, (fun y e => by cases e), hr, by rw [hr', callsV_snoc]; simp [Rw.isCallH, Rw.within, callsV, flats], ho⟩
    | call nm w as m =>
      have hv : ∀ m' : Mu, ixV m' (Rw.call nm w as m).v (.int 0) = some (.str (Str.ofString "call")) := fun _ => rfl
      rw [w_seq]; simp [e_v, e_c, e_tup, e_lst, e_dct, s_nil, s_cons, e_ix, e_sl, e_bin, e_cmp, e_eq, e_ne, e_in, e_nin, e_isN, e_notN, e_chain, e_neg, e_not, e_and, e_or, e_ite, e_call, e_bi, e_me, e_isT, e_new, e_attr, e_mth, e_mk, w_setattr, w_skip, w_ex, w_asg, w_asgT, w_setix, w_ite, w_ret, w_raise, hv]
      rw [ok_append hr', me_append hr']
      refine ⟨rfl, ?_⟩
      refine brV_ite (by rw [big_eq]; omega) ?_
      dsimp only
      rw [w_seq]; simp [e_v, e_c, e_tup, e_lst, e_dct, s_nil, s_cons, e_ix, e_sl, e_bin, e_cmp, e_eq, e_ne, e_in, e_nin, e_isN, e_notN, e_chain, e_neg, e_not, e_and, e_or, e_ite, e_call, e_bi, e_me, e_isT, e_new, e_attr, e_mth, e_mk, w_setattr, w_skip, w_ex, w_asg, w_asgT, w_setix, w_ite, w_ret, w_raise, hv]
      exact ⟨r, _, rfl, (fun y e => by cases e), hr, by rw [mset_same, callsV_snoc]; simp [Rw.isCallH, Rw.within, callsV, flats], fun a ha => by rw [mset_ne (isSome_ne ha hr)]; exact ho a ha⟩
    | when ex a b =>
      have hv : ∀ m' : Mu, ixV m' (Rw.when ex a b).v (.int 0) = some (.str (Str.ofString "when")) := fun _ => rfl
      have hv2 : ∀ m' : Mu, ixV m' (Rw.when ex a b).v (.int 2) = some (.tup (Rw.vs a)) := fun _ => rfl
      have hv3 : ∀ m' : Mu, ixV m' (Rw.when ex a b).v (.int 3) = some (.tup (Rw.vs b)) := fun _ => rfl
      have ew : (Rw.when ex a b).within = a ++ b := rfl
      rw [ew, dps_append] at e2
      rw [ew, flats_append, List.length_append] at e4
      have l2 := callsV_len a
      have l3 := callsV_len b
      rw [w_seq]; simp [e_v, e_c, e_tup, e_lst, e_dct, s_nil, s_cons, e_ix, e_sl, e_bin, e_cmp, e_eq, e_ne, e_in, e_nin, e_isN, e_notN, e_chain, e_neg, e_not, e_and, e_or, e_ite, e_call, e_bi, e_me, e_isT, e_new, e_attr, e_mth, e_mk, w_setattr, w_skip, w_ex, w_asg, w_asgT, w_setix, w_ite, w_ret, w_raise, hv]
      rw [w_seq]; simp [e_v, e_c, e_tup, e_lst, e_dct, s_nil, s_cons, e_ix, e_sl, e_bin, e_cmp, e_eq, e_ne, e_in, e_nin, e_isN, e_notN, e_chain, e_neg, e_not, e_and, e_or, e_ite, e_call, e_bi, e_me, e_isT, e_new, e_attr, e_mth, e_mk, w_setattr, w_skip, w_ex, w_asg, w_asgT, w_setix, w_ite, w_ret, w_raise, hv, hv2]
      rw [ok_extend hr']
      refine ⟨rfl, ?_⟩
      refine ih a n _ _ _ (by omega) (by omega) (by omega) ?_
      rw [me_extend hr' rfl]
      refine brV_ite (by rw [big_eq]; omega) ?_
      dsimp only
      have er : (μ'.set r (.lst (callsV ys ++ callsV a))) r = some (.lst (callsV ys ++ callsV a)) := mset_same
      simp [e_v, e_c, e_tup, e_lst, e_dct, s_nil, s_cons, e_ix, e_sl, e_bin, e_cmp, e_eq, e_ne, e_in, e_nin, e_isN, e_notN, e_chain, e_neg, e_not, e_and, e_or, e_ite, e_call, e_bi, e_me, e_isT, e_new, e_attr, e_mth, e_mk, w_setattr, w_skip, w_ex, w_asg, w_asgT, w_setix, w_ite, w_ret, w_raise, hv, hv3]
      rw [ok_extend er]
      refine ⟨rfl, ?_⟩
      refine ih b n _ _ _ (by omega) (by omega) (by omega) ?_
      rw [me_extend er rfl]
      refine brV_ite (by rw [big_eq, List.length_append]; omega) ?_
      dsimp only
      exact ⟨r, _, rfl, (fun y e => by cases e), hr, by rw [mset_same, callsV_snoc, ew, callsV_app]; simp [Rw.isCallH], fun a ha => by rw [mset_ne (isSome_ne ha hr), mset_ne (isSome_ne ha hr)]; exact ho a ha⟩
    | turn ex a =>
      have hv : ∀ m' : Mu, ixV m' (Rw.turn ex a).v (.int 0) = some (.str (Str.ofString "turn")) := fun _ => rfl
      have hv2 : ∀ m' : Mu, ixV m' (Rw.turn ex a).v (.int 2) = some (.tup (Rw.vs a)) := fun _ => rfl
      have ew : (Rw.turn ex a).within = a := rfl
      rw [ew] at e2 e4
      have l2 := callsV_len a
      rw [w_seq]; simp [e_v, e_c, e_tup, e_lst, e_dct, s_nil, s_cons, e_ix, e_sl, e_bin, e_cmp, e_eq, e_ne, e_in, e_nin, e_isN, e_notN, e_chain, e_neg, e_not, e_and, e_or, e_ite, e_call, e_bi, e_me, e_isT, e_new, e_attr, e_mth, e_mk, w_setattr, w_skip, w_ex, w_asg, w_asgT, w_setix, w_ite, w_ret, w_raise, hv]
      rw [w_seq]; simp [e_v, e_c, e_tup, e_lst, e_dct, s_nil, s_cons, e_ix, e_sl, e_bin, e_cmp, e_eq, e_ne, e_in, e_nin, e_isN, e_notN, e_chain, e_neg, e_not, e_and, e_or, e_ite, e_call, e_bi, e_me, e_isT, e_new, e_attr, e_mth, e_mk, w_setattr, w_skip, w_ex, w_asg, w_asgT, w_setix, w_ite, w_ret, w_raise, hv, hv2]
      rw [ok_extend hr']
      refine ⟨rfl, ?_⟩
      refine ih a n _ _ _ (by omega) (by omega) (by omega) ?_
      rw [me_extend hr' rfl]
      refine brV_ite (by rw [big_eq]; omega) ?_
      dsimp only
      exact ⟨r, _, rfl, (fun y e => by cases e), hr, by rw [mset_same, callsV_snoc, ew]; simp [Rw.isCallH], fun a ha => by rw [mset_ne (isSome_ne ha hr)]; exact ho a ha⟩
  · rintro env' μ' ⟨r, o2, rfl, _, hr, hr', ho⟩
    refine ⟨trivial, ?_⟩
    simp [e_v, e_c, e_tup, e_lst, e_dct, s_nil, s_cons, e_ix, e_sl, e_bin, e_cmp, e_eq, e_ne, e_in, e_nin, e_isN, e_notN, e_chain, e_neg, e_not, e_and, e_or, e_ite, e_call, e_bi, e_me, e_isT, e_new, e_attr, e_mth, e_mk, w_setattr, w_skip, w_ex, w_asg, w_asgT, w_setix, w_ite, w_ret, w_raise]
    show Q (reso μ μ' 4 (.ref r)) (μ'.cut μ)
    rw [reso_new hr hr' (by show nrL _ = true; exact callsV_nr _), cut_keep ho]
    exact q
theorem callsH (l : List Rw) : ∃ cs : List Rw, callsV l = cs.map Rw.v ∧ (∀ c ∈ cs, c.isCallH = true ∧ c ∈ flats l) ∧ cs.filterMap Rw.mark = mks l ∧ cs.length ≤ (flats l).length ∧ cs.filterMap Rw.cl = (flats l).filterMap Rw.cl := by
  refine ⟨(flats l).filter Rw.isCallH, rfl, fun c hc => ⟨(List.mem_filter.mp hc).2, (List.mem_filter.mp hc).1⟩, ?_, List.length_filter_le _ _, ?_⟩
  · unfold mks
    generalize flats l = f
    induction f with
    | nil => rfl
    | cons x t ih => cases x <;> simp [List.filter_cons, List.filterMap_cons, Rw.isCallH, Rw.mark, ih]
  · generalize flats l = f
    induction f with
    | nil => rfl
    | cons x t ih => cases x <;> simp [List.filter_cons, List.filterMap_cons, Rw.isCallH, Rw.cl, ih]
theorem lmarks_ok (h : P "_law_calls" = some D._law_calls_v2) (hm : P "_law_marks" = some D._law_marks_v2) {b : List Dd} (hd : ∀ d ∈ b, dps d.rows ≤ 3) (hl : ∀ d ∈ b, (flats d.rows).length ≤ 1000) (hml : (bmks b).length ≤ 1000) (hn : 6 ≤ n)
    (q : Q (.lst ((sortI (bmks b)).map .int)) μ) : phi P n "_law_marks" .val [.tup (b.map Dd.v)] μ Q X := by
  obtain ⟨n, rfl⟩ : ∃ k, n = k + 1 := ⟨n - 1, by omega⟩
  have hΦ := phi_mono P n
  refine call_ok hm rfl ?_
  unfold D._law_marks_v2
  rw [w_seq]
  simp [e_v, e_c, e_tup, e_lst, e_dct, s_nil, s_cons, e_ix, e_sl, e_bin, e_cmp, e_eq, e_ne, e_in, e_nin, e_isN, e_notN, e_chain, e_neg, e_not, e_and, e_or, e_ite, e_call, e_bi, e_me, e_isT, e_new, e_attr, e_mth, e_mk, w_setattr, w_skip, w_ex, w_asg, w_asgT, w_setix, w_ite, w_ret, w_raise]
  intro r0 hr0
  rw [w_seq]
  refine for_T Dd.v b hΦ (i_e ?_ hΦ)
  simp [e_v, e_c, e_tup, e_lst, e_dct, s_nil, s_cons, e_ix, e_sl, e_bin, e_cmp, e_eq, e_ne, e_in, e_nin, e_isN, e_notN, e_chain, e_neg, e_not, e_and, e_or, e_ite, e_call, e_bi, e_me, e_isT, e_new, e_attr, e_mth, e_mk, w_setattr, w_skip, w_ex, w_asg, w_asgT, w_setix, w_ite, w_ret, w_raise]
  refine ⟨fun ys env' μ' => ∃ (o2 o3 : Option Val), env' = [some (.tup (b.map Dd.v)), some (.ref r0), o2, o3] ∧ μ' = μ.set r0 (.lst ((bmks ys).map .int)), ⟨_, _, rfl, by simp [bmks]⟩, ?_, ?_⟩
  · rintro ys x zs env' μ' e ⟨o2, o3, rfl, rfl⟩
    refine ⟨trivial, ?_⟩
    have hx : x ∈ b := by rw [e]; simp
    have er : (μ.set r0 (.lst ((bmks ys).map .int))) r0 = some (.lst ((bmks ys).map .int)) := mset_same
    have e2 : ∀ m' : Mu, ixV m' x.v (.int 2) = some (.tup (Rw.vs x.rows)) := fun _ => rfl
    obtain ⟨cs, hcs, hcm, hcmk, hcl, hccl⟩ := callsH x.rows
    have hb2 : (bmks ys).length + (mks x.rows).length ≤ 1000 := by
      have : bmks b = bmks ys ++ (mks x.rows ++ bmks zs) := by rw [e]; simp [bmks]
      rw [this, List.length_append, List.length_append] at hml
      omega
    simp [e_v, e_c, e_tup, e_lst, e_dct, s_nil, s_cons, e_ix, e_sl, e_bin, e_cmp, e_eq, e_ne, e_in, e_nin, e_isN, e_notN, e_chain, e_neg, e_not, e_and, e_or, e_ite, e_call, e_bi, e_me, e_isT, e_new, e_attr, e_mth, e_mk, w_setattr, w_skip, w_ex, w_asg, w_asgT, w_setix, w_ite, w_ret, w_raise]
    rw [ok_extend er]
    refine ⟨rfl, ?_⟩
    refine comp_mapT Rw.v cs (fun _ => true) (fun c => Val.int (c.mark.getD 0)) hΦ (i_e ?_ hΦ)
    simp [e_v, e_c, e_tup, e_lst, e_dct, s_nil, s_cons, e_ix, e_sl, e_bin, e_cmp, e_eq, e_ne, e_in, e_nin, e_isN, e_notN, e_chain, e_neg, e_not, e_and, e_or, e_ite, e_call, e_bi, e_me, e_isT, e_new, e_attr, e_mth, e_mk, w_setattr, w_skip, w_ex, w_asg, w_asgT, w_setix, w_ite, w_ret, w_raise, e2]
    refine lc_ok h 3 x.rows n _ _ _ (hd x hx) (hl x hx) (by omega) ?_
    rw [hcs]
    have := hl x hx
    simp [guard]
    refine ⟨trivial, by rw [big_eq]; omega, fun c hc => ?_, ?_⟩
    · have h1 := (hcm c hc).1
      cases c with
      | call nm w as m =>
        have e4 : ∀ m' : Mu, ixV m' (Rw.call nm w as m).v (.int 4) = some (.int m) := fun _ => rfl
        simp [wipe, e_v, e_c, e_tup, e_lst, e_dct, s_nil, s_cons, e_ix, e_sl, e_bin, e_cmp, e_eq, e_ne, e_in, e_nin, e_isN, e_notN, e_chain, e_neg, e_not, e_and, e_or, e_ite, e_call, e_bi, e_me, e_isT, e_new, e_attr, e_mth, e_mk, w_setattr, w_skip, w_ex, w_asg, w_asgT, w_setix, w_ite, w_ret, w_raise, e4, Rw.mark]
      | _ => cases h1
    · have e5 : cs.map (fun c => Val.int (c.mark.getD 0)) = (mks x.rows).map .int := by
        rw [← hcmk]
        clear hcs hcmk hcl hccl
        induction cs with
        | nil => rfl
        | cons c t ih =>
          have h1 := (hcm c List.mem_cons_self).1
          rw [List.map_cons, ih fun y hy => hcm y (List.mem_cons_of_mem _ hy)]
          cases c with
          | call nm w as m => rfl
          | _ => cases h1
      rw [List.filter_eq_self.mpr (fun _ _ => rfl), e5, me_extend er rfl]
      refine brV_ite (by rw [big_eq]; simp; omega) ?_
      dsimp only
      rw [mset_set, bmks_snoc]
      simp
  · rintro env' μ' ⟨o2, o3, rfl, rfl⟩
    refine ⟨trivial, ?_⟩
    have er : (μ.set r0 (.lst ((bmks b).map .int))) r0 = some (.lst ((bmks b).map .int)) := mset_same
    simp [e_v, e_c, e_tup, e_lst, e_dct, s_nil, s_cons, e_ix, e_sl, e_bin, e_cmp, e_eq, e_ne, e_in, e_nin, e_isN, e_notN, e_chain, e_neg, e_not, e_and, e_or, e_ite, e_call, e_bi, e_me, e_isT, e_new, e_attr, e_mth, e_mk, w_setattr, w_skip, w_ex, w_asg, w_asgT, w_setix, w_ite, w_ret, w_raise]
    rw [sorted_iH (v := .ref r0) (by rw [ct_ref]; exact er)]
    simp
    exact fin_val (by show nrL _ = true; exact nrL_ints _) (by rw [cut_new hr0, cut_self]) q
end
end Mi
/-! Hb: how many own names a deed has, as the laws of gains count them. -/
namespace Mi
open PySem (Str)
theorem cut2H {α : Type} (a b : α) (l : List α) : cutL (a :: b :: l) (some 2) none = l := by
  have h0 : (a :: b :: l).length = l.length + 2 := rfl
  have h1 : sIx (a :: b :: l).length 0 (some 2) = 2 := by
    show (if (2 : Int) < 0 then (max ((2 : Int) + (((a :: b :: l).length : Nat) : Int)) 0).toNat else (min (2 : Int) (((a :: b :: l).length : Nat) : Int)).toNat) = 2
    rw [if_neg (by decide)]
    omega
  show ((a :: b :: l).drop (sIx (a :: b :: l).length 0 (some 2))).take ((a :: b :: l).length - sIx (a :: b :: l).length 0 (some 2)) = l
  rw [h1]
  exact List.take_of_length_le (by simp)
def tupH (l : List Rw) : Val := .tup (Rw.vs l)
def Rw.insH : Rw → List (List Rw)
  | .when _ a b => [a, b]
  | .turn _ a => [a]
  | _ => []
theorem Rw.insH_flat (r : Rw) : flats r.within = (r.insH.map flats).flatten := by cases r <;> simp [Rw.within, Rw.insH, flats, flats_append]
structure RnI (μ : Mu) (v0 : Val) (L : List Str) (env' : Env) (μ' : Mu) : Prop where
  ex : ∃ (r : Ad) (o2 o3 o4 : Option Val) (acc : List Str), env' = [some v0, some (.ref r), o2, o3, o4] ∧ μ r = none ∧ μ' r = some (.lst (acc.map .str)) ∧ acc.Perm L ∧ ∀ a, (μ a).isSome = true → μ' a = μ a
theorem RnI.to {μ : Mu} {v0 : Val} {L L' : List Str} {env' : Env} {μ' : Mu} (h : RnI μ v0 L env' μ') (p : L.Perm L') : RnI μ v0 L' env' μ' := by
  obtain ⟨r, o2, o3, o4, acc, h1, h2, h3, h4, h5⟩ := h
  exact ⟨r, o2, o3, o4, acc, h1, h2, h3, h4.trans p, h5⟩
theorem nr_strsH (l : List Str) : nr (.lst (l.map Val.str)) = true := by show nrL _ = true; exact nrL_strs _
section
variable {P : Prog} {n : Nat} {μ : Mu} {Q : Val → Mu → Prop} {X : XQ}
theorem l_readH (h : P "_law_read" = some D._law_read_v3) : ∀ (e : Ex) (n : Nat) (m : Md) (μ : Mu) (Q : Val → Mu → Prop) (X : XQ), (m = .val ∨ m = .obj) → e.deep ≤ n → e.names.length ≤ 100000 → resV m μ Q (.lst (e.names.map .str)) → phi P n "_law_read" m [e.v] μ Q X
  | .num i, n + 1, m, μ, Q, X, hm, hn, hl, hq => by
    refine call_ok h rfl ?_
    unfold D._law_read_v3
    rw [w_seq]
    simp [e_v, e_c, e_tup, e_lst, e_dct, s_nil, s_cons, e_ix, e_sl, e_bin, e_cmp, e_eq, e_ne, e_in, e_nin, e_isN, e_notN, e_chain, e_neg, e_not, e_and, e_or, e_ite, e_call, e_bi, e_me, e_isT, e_new, e_attr, e_mth, e_mk, w_setattr, w_skip, w_ex, w_asg, w_asgT, w_setix, w_ite, w_ret, w_raise, Ex.v]
    intro r hr
    exact fin_res hm hr (nr_strsH []) hq
  | .nam s, n + 1, m, μ, Q, X, hm, hn, hl, hq => by
    refine call_ok h rfl ?_
    unfold D._law_read_v3
    rw [w_seq]
    simp [e_v, e_c, e_tup, e_lst, e_dct, s_nil, s_cons, e_ix, e_sl, e_bin, e_cmp, e_eq, e_ne, e_in, e_nin, e_isN, e_notN, e_chain, e_neg, e_not, e_and, e_or, e_ite, e_call, e_bi, e_me, e_isT, e_new, e_attr, e_mth, e_mk, w_setattr, w_skip, w_ex, w_asg, w_asgT, w_setix, w_ite, w_ret, w_raise, Ex.v]
    rw [w_seq]
    simp [e_v, e_c, e_tup, e_lst, e_dct, s_nil, s_cons, e_ix, e_sl, e_bin, e_cmp, e_eq, e_ne, e_in, e_nin, e_isN, e_notN, e_chain, e_neg, e_not, e_and, e_or, e_ite, e_call, e_bi, e_me, e_isT, e_new, e_attr, e_mth, e_mk, w_setattr, w_skip, w_ex, w_asg, w_asgT, w_setix, w_ite, w_ret, w_raise]
    intro r hr
    exact fin_res hm hr (nr_strsH [s]) hq
  | .op w a b, n + 1, m, μ, Q, X, hm, hn, hl, hq => by
    simp only [Ex.deep] at hn
    simp only [Ex.names, List.length_append] at hl
    refine call_ok h rfl ?_
    unfold D._law_read_v3
    rw [w_seq]
    simp [e_v, e_c, e_tup, e_lst, e_dct, s_nil, s_cons, e_ix, e_sl, e_bin, e_cmp, e_eq, e_ne, e_in, e_nin, e_isN, e_notN, e_chain, e_neg, e_not, e_and, e_or, e_ite, e_call, e_bi, e_me, e_isT, e_new, e_attr, e_mth, e_mk, w_setattr, w_skip, w_ex, w_asg, w_asgT, w_setix, w_ite, w_ret, w_raise, Ex.v]
    rw [w_seq]
    simp [e_v, e_c, e_tup, e_lst, e_dct, s_nil, s_cons, e_ix, e_sl, e_bin, e_cmp, e_eq, e_ne, e_in, e_nin, e_isN, e_notN, e_chain, e_neg, e_not, e_and, e_or, e_ite, e_call, e_bi, e_me, e_isT, e_new, e_attr, e_mth, e_mk, w_setattr, w_skip, w_ex, w_asg, w_asgT, w_setix, w_ite, w_ret, w_raise]
    refine l_readH h a n .val _ _ _ (.inl rfl) (by omega) (by omega) ?_
    refine l_readH h b n .val _ _ _ (.inl rfl) (by omega) (by omega) ?_
    dsimp only [resV]
    simp
    refine ⟨by rw [big_eq]; omega, ?_⟩
    intro r hr
    have e : a.names.map Val.str ++ b.names.map Val.str = (a.names ++ b.names).map Val.str := by simp
    rw [e]
    exact fin_res hm hr (nr_strsH _) hq
  | .num _, 0, _, _, _, _, _, hn, _, _ => by simp [Ex.deep] at hn
  | .nam _, 0, _, _, _, _, _, hn, _, _ => by simp [Ex.deep] at hn
  | .op _ _ _, 0, _, _, _, _, _, hn, _, _ => by simp [Ex.deep] at hn
structure LrP (P : Prog) : Prop where
  rd : P "_law_read" = some D._law_read_v3
  rn : P "_law_row_names" = some D._law_row_names
theorem rnms_cons (x : Rw) (l : List Rw) : rnms (x :: l) = x.nms ++ rnms l := by simp [rnms]
theorem l_rownames (h : LrP P) : ∀ (d : Nat) (x : Rw) (n : Nat) (μ : Mu) (Q : Val → Mu → Prop) (X : XQ), x.dp ≤ d → (∀ q ∈ x.flat, ExsLe 5 q) → (rnms x.flat).length ≤ 100000 → 6 + d ≤ n →
    (∀ l : List Str, l.Perm (rnms x.flat) → Q (.lst (l.map .str)) μ) → phi P n "_law_row_names" .val [x.v] μ Q X := by
  intro d
  induction d with
  | zero => intro x n μ Q X hd; have := x.dp_eq; omega
  | succ d ih => ?_
  intro x n μ Q X hd hex hlen hn q
  obtain ⟨n, rfl⟩ : ∃ k, n = k + 1 := ⟨n - 1, by omega⟩
  have hΦ := phi_mono P n
  refine call_ok h.rn rfl ?_
  have hfe := x.flat_eq
  have hx0 : ExsLe 5 x := hex x (by rw [hfe]; exact List.mem_cons_self)
  have hrl : (rnms x.flat).length = x.nms.length + (rnms (flats x.within)).length := by rw [hfe, rnms_cons, List.length_append]
  have fin : ∀ (r : Ad) (μ' : Mu) (acc : List Str), μ r = none → μ' r = some (.lst (acc.map .str)) → (∀ a, (μ a).isSome = true → μ' a = μ a) → acc.Perm (rnms x.flat) → finM .val μ Q (.ref r) μ' := fun r μ' acc hr e ho hp => fin_anyH (.inl rfl) hr e (nr_strsH acc) ho (q acc hp)
  -- what stands behind an expression
  have nest : ∀ (ex : Ex) (ls : List (List Rw)) (tag : Str), x.v = .tup (.str tag :: ex.v :: ls.map tupH) → (tag == Str.ofString "set") = false → (tag == Str.ofString "call") = false → x.nms = ex.names → x.insH = ls → ex.deep ≤ 5 →
      wpS (phi P n) D._law_row_names.body [some x.v, none, none, none, none] μ { nx := fun _ μ' => finM .val μ Q .non μ', rt := fun v μ' => finM .val μ Q v μ', ex := fun x _ μ' => X (reso μ μ' 4 x) (μ'.cut μ) } := by
    intro ex ls tag hv k1 k2 hnm hins hdp
    have hxn : ex.names.length ≤ 100000 := by rw [← hnm]; omega
    have v0 : ∀ m' : Mu, ixV m' x.v (.int 0) = some (.str tag) := fun _ => by rw [hv, ix_tup, at_nat (by decide) rfl]
    have v1 : ∀ m' : Mu, ixV m' x.v (.int 1) = some ex.v := fun _ => by rw [hv, ix_tup, at_nat (by decide) rfl]
    have hif : flats x.within = (ls.map flats).flatten := by rw [x.insH_flat, hins]
    simp at k1 k2
    unfold D._law_row_names
    simp only
    rw [w_seq]
    simp [e_v, e_c, e_tup, e_lst, e_dct, s_nil, s_cons, e_ix, e_sl, e_bin, e_cmp, e_eq, e_ne, e_in, e_nin, e_isN, e_notN, e_chain, e_neg, e_not, e_and, e_or, e_ite, e_call, e_bi, e_me, e_isT, e_new, e_attr, e_mth, e_mk, w_setattr, w_skip, w_ex, w_asg, w_asgT, w_setix, w_ite, w_ret, w_raise, v0, k1]
    rw [w_seq]
    simp [e_v, e_c, e_tup, e_lst, e_dct, s_nil, s_cons, e_ix, e_sl, e_bin, e_cmp, e_eq, e_ne, e_in, e_nin, e_isN, e_notN, e_chain, e_neg, e_not, e_and, e_or, e_ite, e_call, e_bi, e_me, e_isT, e_new, e_attr, e_mth, e_mk, w_setattr, w_skip, w_ex, w_asg, w_asgT, w_setix, w_ite, w_ret, w_raise, v0, k2]
    rw [w_seq]
    simp [e_v, e_c, e_tup, e_lst, e_dct, s_nil, s_cons, e_ix, e_sl, e_bin, e_cmp, e_eq, e_ne, e_in, e_nin, e_isN, e_notN, e_chain, e_neg, e_not, e_and, e_or, e_ite, e_call, e_bi, e_me, e_isT, e_new, e_attr, e_mth, e_mk, w_setattr, w_skip, w_ex, w_asg, w_asgT, w_setix, w_ite, w_ret, w_raise, v1]
    refine l_readH h.rd ex n .obj _ _ _ (.inr rfl) (by omega) hxn ?_
    intro r hr
    rw [w_seq]
    refine for_T tupH ls hΦ (i_e ?_ hΦ)
    simp [e_v, e_c, e_tup, e_lst, e_dct, s_nil, s_cons, e_ix, e_sl, e_bin, e_cmp, e_eq, e_ne, e_in, e_nin, e_isN, e_notN, e_chain, e_neg, e_not, e_and, e_or, e_ite, e_call, e_bi, e_me, e_isT, e_new, e_attr, e_mth, e_mk, w_setattr, w_skip, w_ex, w_asg, w_asgT, w_setix, w_ite, w_ret, w_raise]
    have hsl : ∀ m' : Mu, ((content m' x.v).bind fun c => slC c (some 2) none) = some (.tup (ls.map tupH)) := fun m' => by
      rw [hv]
      show some (Val.tup (cutL (.str tag :: ex.v :: ls.map tupH) (some 2) none)) = _
      rw [cut2H]
    simp [hsl]
    refine ⟨fun ys env' μ' => RnI μ x.v (ex.names ++ rnms (ys.map flats).flatten) env' μ', ⟨r, _, _, _, ex.names, rfl, hr, mset_same, by simp [rnms], fun a ha => mset_ne (isSome_ne ha hr)⟩, ?_, ?_⟩
    · rintro ys rows zs env' μ' e ⟨r, o2, o3, o4, acc, rfl, hr, hr', hp, ho⟩
      refine ⟨trivial, ?_⟩
      have hfl : flats x.within = (ys.map flats).flatten ++ (flats rows ++ (zs.map flats).flatten) := by rw [hif, e]; simp
      have hfn : (rnms (flats x.within)).length = (rnms (ys.map flats).flatten).length + ((rnms (flats rows)).length + (rnms (zs.map flats).flatten).length) := by rw [hfl, rnms_app, rnms_app, List.length_append, List.length_append]
      have hdl : dps rows ≤ dps x.within := by
        have hm : rows ∈ x.insH := by rw [hins, e]; simp
        cases x <;> simp [Rw.insH] at hm
        · rcases hm with rfl | rfl <;> simp [Rw.within, dps_append] <;> omega
        · subst hm; simp [Rw.within]
      have hde := x.dp_eq
      simp
      refine for_T Rw.v rows hΦ (i_e ?_ hΦ)
      simp [e_v, e_c, e_tup, e_lst, e_dct, s_nil, s_cons, e_ix, e_sl, e_bin, e_cmp, e_eq, e_ne, e_in, e_nin, e_isN, e_notN, e_chain, e_neg, e_not, e_and, e_or, e_ite, e_call, e_bi, e_me, e_isT, e_new, e_attr, e_mth, e_mk, w_setattr, w_skip, w_ex, w_asg, w_asgT, w_setix, w_ite, w_ret, w_raise, tupH]
      refine ⟨vs_map _, fun us env' μ' => RnI μ x.v (ex.names ++ rnms (ys.map flats).flatten ++ rnms (flats us)) env' μ', ⟨r, _, _, _, acc, rfl, hr, hr', by simpa [rnms, flats] using hp, ho⟩, ?_, ?_⟩
      · rintro us u ws env' μ' eu ⟨r, o2, o3, o4, acc, rfl, hr, hr', hp, ho⟩
        refine ⟨trivial, ?_⟩
        have e3 : flats rows = flats us ++ (u.flat ++ flats ws) := by rw [eu, flats_append, flats]
        have e4 : (rnms (flats rows)).length = (rnms (flats us)).length + ((rnms u.flat).length + (rnms (flats ws)).length) := by rw [e3, rnms_app, rnms_app, List.length_append, List.length_append]
        have e5 : dps rows = max (dps us) (max u.dp (dps ws)) := by rw [eu, dps_append, dps]
        simp
        rw [ok_extend hr']
        refine ⟨rfl, ?_⟩
        refine ih u n _ _ _ (by omega) (fun q hq => hex q (by rw [hfe, hfl, e3]; simp [hq])) (by omega) (by omega) fun l hl => ?_
        rw [me_extend hr' rfl]
        have hpl := hp.length_eq
        have hll := hl.length_eq
        simp only [List.length_append] at hpl
        refine brV_ite (by rw [List.length_map, List.length_map, big_eq]; rw [hnm] at hrl; omega) ?_
        dsimp only
        refine ⟨r, _, _, _, acc ++ l, rfl, hr, by rw [mset_same, List.map_append], ?_, fun a ha => by rw [mset_ne (isSome_ne ha hr)]; exact ho a ha⟩
        have e6 : flats (us ++ [u]) = flats us ++ u.flat := by rw [flats_append]; simp [flats]
        have z := hp.append hl
        rw [e6, rnms_app]
        simp only [List.append_assoc] at z ⊢
        exact z
      · rintro env' μ' h1
        refine ⟨trivial, ?_⟩
        refine h1.to ?_
        simp [rnms_app]
    · rintro env' μ' ⟨r, o2, o3, o4, acc, rfl, hr, hr', hp, ho⟩
      refine ⟨trivial, ?_⟩
      simp [e_v, e_c, e_tup, e_lst, e_dct, s_nil, s_cons, e_ix, e_sl, e_bin, e_cmp, e_eq, e_ne, e_in, e_nin, e_isN, e_notN, e_chain, e_neg, e_not, e_and, e_or, e_ite, e_call, e_bi, e_me, e_isT, e_new, e_attr, e_mth, e_mk, w_setattr, w_skip, w_ex, w_asg, w_asgT, w_setix, w_ite, w_ret, w_raise]
      refine fin r μ' acc hr hr' ho ?_
      rw [hfe, rnms_cons, hnm, hif]
      exact hp
  cases x with
  | set nm ex =>
    have hd5 : ex.deep ≤ 5 := hx0 ex (by simp [Rw.exs])
    have en : (Rw.set nm ex).nms = ex.names ++ [nm] := by simp [Rw.nms, Rw.exs, Rw.aim, exN]
    have hxl : ex.names.length ≤ 100000 := by rw [en, List.length_append] at hrl; omega
    have v0 : ∀ m' : Mu, ixV m' (Rw.set nm ex).v (.int 0) = some (.str (Str.ofString "set")) := fun _ => rfl
    have v1 : ∀ m' : Mu, ixV m' (Rw.set nm ex).v (.int 1) = some (.str nm) := fun _ => rfl
    have v2 : ∀ m' : Mu, ixV m' (Rw.set nm ex).v (.int 2) = some ex.v := fun _ => rfl
    unfold D._law_row_names
    rw [w_seq]
    simp [e_v, e_c, e_tup, e_lst, e_dct, s_nil, s_cons, e_ix, e_sl, e_bin, e_cmp, e_eq, e_ne, e_in, e_nin, e_isN, e_notN, e_chain, e_neg, e_not, e_and, e_or, e_ite, e_call, e_bi, e_me, e_isT, e_new, e_attr, e_mth, e_mk, w_setattr, w_skip, w_ex, w_asg, w_asgT, w_setix, w_ite, w_ret, w_raise, v0, v1, v2]
    refine l_readH h.rd ex n .val _ _ _ (.inl rfl) (by omega) hxl ?_
    dsimp only [resV]
    simp [v1]
    refine ⟨by rw [big_eq]; omega, ?_⟩
    have e : ex.names.map Val.str ++ [Val.str nm] = (ex.names ++ [nm]).map Val.str := by simp
    rw [e]
    refine q _ ?_
    rw [hfe, rnms_cons, en]
    simp [Rw.within, flats, rnms]
  | call nm w as m =>
    have en : (Rw.call nm w as m).nms = exN as ++ [nm] := rfl
    have v0 : ∀ m' : Mu, ixV m' (Rw.call nm w as m).v (.int 0) = some (.str (Str.ofString "call")) := fun _ => rfl
    have v1 : ∀ m' : Mu, ixV m' (Rw.call nm w as m).v (.int 1) = some (.str nm) := fun _ => rfl
    have v3 : ∀ m' : Mu, ixV m' (Rw.call nm w as m).v (.int 3) = some (.tup (as.map Ex.v)) := fun _ => rfl
    have hxl : (exN as).length ≤ 100000 := by rw [en, List.length_append] at hrl; omega
    have hel : ∀ ys x zs, as = ys ++ x :: zs → (exN ys).length + (x : Ex).names.length ≤ 100000 := fun ys x zs e => by
      rw [e, exN_app, exN_cons, List.length_append, List.length_append] at hxl
      omega
    unfold D._law_row_names
    rw [w_seq]
    simp [e_v, e_c, e_tup, e_lst, e_dct, s_nil, s_cons, e_ix, e_sl, e_bin, e_cmp, e_eq, e_ne, e_in, e_nin, e_isN, e_notN, e_chain, e_neg, e_not, e_and, e_or, e_ite, e_call, e_bi, e_me, e_isT, e_new, e_attr, e_mth, e_mk, w_setattr, w_skip, w_ex, w_asg, w_asgT, w_setix, w_ite, w_ret, w_raise, v0]
    rw [w_seq]
    simp [e_v, e_c, e_tup, e_lst, e_dct, s_nil, s_cons, e_ix, e_sl, e_bin, e_cmp, e_eq, e_ne, e_in, e_nin, e_isN, e_notN, e_chain, e_neg, e_not, e_and, e_or, e_ite, e_call, e_bi, e_me, e_isT, e_new, e_attr, e_mth, e_mk, w_setattr, w_skip, w_ex, w_asg, w_asgT, w_setix, w_ite, w_ret, w_raise, v0]
    rw [w_seq]
    simp [e_v, e_c, e_tup, e_lst, e_dct, s_nil, s_cons, e_ix, e_sl, e_bin, e_cmp, e_eq, e_ne, e_in, e_nin, e_isN, e_notN, e_chain, e_neg, e_not, e_and, e_or, e_ite, e_call, e_bi, e_me, e_isT, e_new, e_attr, e_mth, e_mk, w_setattr, w_skip, w_ex, w_asg, w_asgT, w_setix, w_ite, w_ret, w_raise, v1]
    intro r hr
    rw [w_seq]
    refine for_T Ex.v as hΦ (i_e ?_ hΦ)
    simp [e_v, e_c, e_tup, e_lst, e_dct, s_nil, s_cons, e_ix, e_sl, e_bin, e_cmp, e_eq, e_ne, e_in, e_nin, e_isN, e_notN, e_chain, e_neg, e_not, e_and, e_or, e_ite, e_call, e_bi, e_me, e_isT, e_new, e_attr, e_mth, e_mk, w_setattr, w_skip, w_ex, w_asg, w_asgT, w_setix, w_ite, w_ret, w_raise, v3]
    refine ⟨fun ys env' μ' => RnI μ (Rw.call nm w as m).v (nm :: exN ys) env' μ', ⟨r, _, _, _, [nm], rfl, hr, mset_same, by simp [exN], fun a ha => mset_ne (isSome_ne ha hr)⟩, ?_, ?_⟩
    · rintro ys x zs env' μ' e ⟨r, o2, o3, o4, acc, rfl, hr, hr', hp, ho⟩
      refine ⟨trivial, ?_⟩
      have hxa : x ∈ as := by rw [e]; simp
      have hb := hel ys x zs e
      simp
      rw [ok_extend hr']
      refine ⟨rfl, ?_⟩
      refine l_readH h.rd x n .val _ _ _ (.inl rfl) (Nat.le_trans (hx0 x hxa) (by omega)) (by omega) ?_
      dsimp only [resV]
      rw [me_extend hr' rfl]
      have hpl := hp.length_eq
      rw [List.length_cons] at hpl
      refine brV_ite (by rw [List.length_map, List.length_map, big_eq]; omega) ?_
      dsimp only
      refine ⟨r, _, _, _, acc ++ x.names, rfl, hr, by rw [mset_same, List.map_append], ?_, fun a ha => by rw [mset_ne (isSome_ne ha hr)]; exact ho a ha⟩
      rw [exN_snoc, ← List.cons_append]
      exact hp.append_right _
    · rintro env' μ' ⟨r, o2, o3, o4, acc, rfl, hr, hr', hp, ho⟩
      refine ⟨trivial, ?_⟩
      simp [e_v, e_c, e_tup, e_lst, e_dct, s_nil, s_cons, e_ix, e_sl, e_bin, e_cmp, e_eq, e_ne, e_in, e_nin, e_isN, e_notN, e_chain, e_neg, e_not, e_and, e_or, e_ite, e_call, e_bi, e_me, e_isT, e_new, e_attr, e_mth, e_mk, w_setattr, w_skip, w_ex, w_asg, w_asgT, w_setix, w_ite, w_ret, w_raise]
      refine fin r μ' acc hr hr' ho ?_
      rw [hfe, rnms_cons, en]
      refine hp.trans ?_
      simp only [Rw.within, flats, rnms, List.map_nil, List.flatten_nil, List.append_nil]
      exact (List.perm_append_comm (l₁ := [nm]) (l₂ := exN as))
  | say ex => exact nest ex [] _ rfl (by simp) (by simp) (by simp [Rw.nms, Rw.exs, Rw.aim, exN]) rfl (hx0 ex (by simp [Rw.exs]))
  | when ex a b => exact nest ex [a, b] _ rfl (by simp) (by simp) (by simp [Rw.nms, Rw.exs, Rw.aim, exN]) rfl (hx0 ex (by simp [Rw.exs]))
  | turn ex a => exact nest ex [a] _ rfl (by simp) (by simp) (by simp [Rw.nms, Rw.exs, Rw.aim, exN]) rfl (hx0 ex (by simp [Rw.exs]))
theorem distK_keys : ∀ l : List Str, distK (l.map Val.str) = (keysK l).map Val.str := by
  have h : ∀ (l acc : List Str), (l.map Val.str).foldl (fun acc v => if acc.any (fun x => keyEq x v) = true then acc else acc ++ [v]) (acc.map Val.str) = (l.foldl addK acc).map Val.str := by
    intro l
    induction l with
    | nil => intro acc; rfl
    | cons a t ih =>
      intro acc
      rw [List.map_cons, List.foldl_cons, List.foldl_cons, ← ih (addK acc a)]
      congr 1
      unfold addK
      have e : ((acc.map Val.str).any fun x => keyEq x (.str a)) = decide (a ∈ acc) := by
        rw [Bool.eq_iff_iff]
        simp [keyEq]
      rw [e]
      by_cases ha : a ∈ acc
      · rw [if_pos (by simpa using ha), if_pos ha]
      · rw [if_neg (by simpa using ha), if_neg ha]
        simp
  intro l
  exact h l []
theorem own_len {d : Dd} {l : List Str} (hps : d.ps.Nodup) (hdot : ∀ s ∈ dnames d, dot s = false) (hl : ∀ s, s ∈ l ↔ s ∈ d.ps ∨ s ∈ dnames d) : (keysK l).length = (own d).length := by
  refine (perm_nodup (keysK_nodup l) ?_ fun s => ?_).length_eq
  · unfold own
    rw [List.nodup_append]
    refine ⟨hps, ?_, fun a ha b hb e => ?_⟩
    · exact (sortS_perm _).nodup_iff.mpr (keysK_nodup _)
    · subst e
      have h1 := (sortS_perm _).mem_iff.mp hb
      unfold ownK at h1
      rw [keysK_mem, List.mem_filter] at h1
      simp [plainN] at h1
      exact h1.2.2 ha
  · rw [keysK_mem, hl]
    unfold own ownK
    rw [List.mem_append, (sortS_perm _).mem_iff, keysK_mem, List.mem_filter]
    simp only [plainN, Bool.and_eq_true, Bool.not_eq_true', decide_eq_false_iff_not]
    constructor
    · rintro (h | h)
      · exact .inl h
      · by_cases hp : s ∈ d.ps
        · exact .inl hp
        · exact .inr ⟨h, hdot s h, hp⟩
    · rintro (h | h)
      · exact .inl h
      · exact .inr h.1
theorem l_many (h : LrP P) (hm : P "_law_many_own" = some D._law_many_own) (d : Dd) (hdp : dps d.rows ≤ 3) (hps : d.ps.Nodup) (hpl : d.ps.length ≤ 100) (hdot : ∀ s ∈ dnames d, dot s = false) (hex : ∀ q ∈ flats d.rows, ExsLe 5 q) (hg : d.give.deep ≤ 5) (hlen : (dnames d).length ≤ 3000) (hn : 11 ≤ n)
    (q : Q (.int ((own d).length : Int)) μ) : phi P n "_law_many_own" .val [d.v] μ Q X := by
  obtain ⟨n, rfl⟩ : ∃ k, n = k + 1 := ⟨n - 1, by omega⟩
  have hΦ := phi_mono P n
  refine call_ok hm rfl ?_
  have v1 : ∀ m' : Mu, ixV m' d.v (.int 1) = some (.tup (d.ps.map .str)) := fun _ => rfl
  have v2 : ∀ m' : Mu, ixV m' d.v (.int 2) = some (.tup (Rw.vs d.rows)) := fun _ => rfl
  have v3 : ∀ m' : Mu, ixV m' d.v (.int 3) = some d.give.v := fun _ => rfl
  have hdl : (dnames d).length = (rnms (flats d.rows)).length + d.give.names.length := by unfold dnames; rw [List.length_append]
  unfold D._law_many_own
  rw [w_seq]
  simp [e_v, e_c, e_tup, e_lst, e_dct, s_nil, s_cons, e_ix, e_sl, e_bin, e_cmp, e_eq, e_ne, e_in, e_nin, e_isN, e_notN, e_chain, e_neg, e_not, e_and, e_or, e_ite, e_call, e_bi, e_me, e_isT, e_new, e_attr, e_mth, e_mk, w_setattr, w_skip, w_ex, w_asg, w_asgT, w_setix, w_ite, w_ret, w_raise, v1, v3]
  refine l_readH h.rd d.give n .val _ _ _ (.inl rfl) (by omega) (by omega) ?_
  dsimp only [resV]
  simp
  refine ⟨by rw [big_eq]; omega, ?_⟩
  intro r hr
  have e0 : d.ps.map Val.str ++ d.give.names.map Val.str = (d.ps ++ d.give.names).map Val.str := by simp
  rw [e0]
  rw [w_seq]
  refine for_T Rw.v d.rows hΦ (i_e ?_ hΦ)
  simp [e_v, e_c, e_tup, e_lst, e_dct, s_nil, s_cons, e_ix, e_sl, e_bin, e_cmp, e_eq, e_ne, e_in, e_nin, e_isN, e_notN, e_chain, e_neg, e_not, e_and, e_or, e_ite, e_call, e_bi, e_me, e_isT, e_new, e_attr, e_mth, e_mk, w_setattr, w_skip, w_ex, w_asg, w_asgT, w_setix, w_ite, w_ret, w_raise, v2]
  refine ⟨vs_map _, fun ys env' μ' => ∃ (o2 : Option Val) (acc : List Str), env' = [some d.v, some (.ref r), o2] ∧ μ' = μ.set r (.lst (acc.map .str)) ∧ acc.Perm (d.ps ++ d.give.names ++ rnms (flats ys)), ⟨_, _, rfl, by rw [← List.map_append], by simp [flats, rnms]⟩, ?_, ?_⟩
  · rintro ys x zs env' μ' e ⟨o2, acc, rfl, rfl, hp⟩
    refine ⟨trivial, ?_⟩
    have e3 : flats d.rows = flats ys ++ (x.flat ++ flats zs) := by rw [e, flats_append, flats]
    have e4 : (rnms (flats d.rows)).length = (rnms (flats ys)).length + ((rnms x.flat).length + (rnms (flats zs)).length) := by rw [e3, rnms_app, rnms_app, List.length_append, List.length_append]
    have e5 : dps d.rows = max (dps ys) (max x.dp (dps zs)) := by rw [e, dps_append, dps]
    have er : (μ.set r (.lst (acc.map .str))) r = some (.lst (acc.map .str)) := mset_same
    simp [e_v, e_c, e_tup, e_lst, e_dct, s_nil, s_cons, e_ix, e_sl, e_bin, e_cmp, e_eq, e_ne, e_in, e_nin, e_isN, e_notN, e_chain, e_neg, e_not, e_and, e_or, e_ite, e_call, e_bi, e_me, e_isT, e_new, e_attr, e_mth, e_mk, w_setattr, w_skip, w_ex, w_asg, w_asgT, w_setix, w_ite, w_ret, w_raise]
    rw [ok_extend er]
    refine ⟨rfl, ?_⟩
    refine l_rownames h 3 x n _ _ _ (by omega) (fun q hq => hex q (by rw [e3]; simp [hq])) (by omega) (by omega) fun l hl => ?_
    rw [me_extend er rfl]
    have hpl2 := hp.length_eq
    have hll := hl.length_eq
    simp only [List.length_append] at hpl2
    refine brV_ite (by rw [List.length_map, List.length_map, big_eq]; omega) ?_
    dsimp only
    refine ⟨acc ++ l, by rw [mset_set, List.map_append], ?_⟩
    have e6 : flats (ys ++ [x]) = flats ys ++ x.flat := by rw [flats_append]; simp [flats]
    have z := hp.append hl
    rw [e6, rnms_app]
    simp only [List.append_assoc] at z ⊢
    exact z
  · rintro env' μ' ⟨o2, acc, rfl, rfl, hp⟩
    refine ⟨trivial, ?_⟩
    have er : (μ.set r (.lst (acc.map .str))) r = some (.lst (acc.map .str)) := mset_same
    have hpl2 := hp.length_eq
    simp only [List.length_append] at hpl2
    have hset : biV (μ.set r (.lst (acc.map .str))) .setlen [.ref r] = some (.int ((own d).length : Int)) := by
      show setlenF _ [.ref r] = _
      have hk : (acc.map Val.str).all isKey = true ∧ (acc.map Val.str).length < 4000 := ⟨by simp [isKey], by rw [List.length_map]; omega⟩
      simp only [setlenF, ct_ref, er]
      rw [if_pos hk, distK_keys, List.length_map, own_len hps hdot]
      intro s
      rw [hp.mem_iff]
      unfold dnames
      simp only [List.mem_append]
      constructor
      · rintro ((h | h) | h)
        · exact .inl h
        · exact .inr (.inr h)
        · exact .inr (.inl h)
      · rintro (h | h | h)
        · exact .inl (.inl h)
        · exact .inr h
        · exact .inl (.inr h)
    simp [e_v, e_c, e_tup, e_lst, e_dct, s_nil, s_cons, e_ix, e_sl, e_bin, e_cmp, e_eq, e_ne, e_in, e_nin, e_isN, e_notN, e_chain, e_neg, e_not, e_and, e_or, e_ite, e_call, e_bi, e_me, e_isT, e_new, e_attr, e_mth, e_mk, w_setattr, w_skip, w_ex, w_asg, w_asgT, w_setix, w_ite, w_ret, w_raise, hset]
    exact fin_val rfl (by rw [cut_new hr, cut_self]) q
end
end Mi
/-! Hx: the exception that a suite kept, in the plain laws. -/
namespace Mi
open PySem (Str)
section
variable {Φ : Ph} {env : Env} {μ : Mu} {Q : Val → Mu → Prop} {X : XQ} {D : En}
theorem w_tryK {b h r : S} {c : String} {i : Nat} : wpS Φ (.tryK b c i h r) env μ D ↔ wpS Φ b env μ { D with nx := fun e1 μ1 => wpS Φ.un r e1 μ1 D, ex := fun x env' μ' => exE x fun d l => if isSub d c = true then ∀ a, μ' a = none → wpS (Φ.at d a) h (env'.set i (some (.ref a))) μ' { D with nx := fun e2 μ2 => wpS (Φ.at d a) r (e2.set i none) μ2 D } else D.ex x env' μ' } := by
  rw [wpS]
  have : (fun (x : Val) (env' : Env) (μ' : Mu) => match x with
    | .exn d l => if isSub d c = true then ∀ a, μ' a = none → wpS (Φ.at d a) h (env'.set i (some (.ref a))) μ' { D with nx := fun e2 μ2 => wpS (Φ.at d a) r (e2.set i none) μ2 D } else D.ex x env' μ'
    | _ => False) = fun x env' μ' => exE x fun d l => if isSub d c = true then ∀ a, μ' a = none → wpS (Φ.at d a) h (env'.set i (some (.ref a))) μ' { D with nx := fun e2 μ2 => wpS (Φ.at d a) r (e2.set i none) μ2 D } else D.ex x env' μ' := by
    funext x env' μ'
    cases x <;> rfl
  rw [← this] <;> exact Iff.rfl
theorem e_isCs {a : E} {cs : List String} : wpE Φ (.isCs a cs) env μ Q X ↔ wpE Φ a env μ (fun v μ' => pinQs Φ.pin v cs fun b => Q (.bl b) μ') X := Iff.rfl
@[simp] theorem pins_at {c : String} {cs : List String} {a : Ad} {Q : Bool → Prop} : pinQs (Φ.at c a).pin (.ref a) cs Q ↔ Q (cs.any fun d => isSub c d) := ⟨fun h => h.2, fun h => ⟨rfl, h⟩⟩
end
end Mi
/-! Hc: whom each mark calls, the gain of a mark. -/
namespace Mi
open PySem (Str)
def clsB (b : List Dd) : List (Int × Str) := (b.map fun d => (flats d.rows).filterMap Rw.cl).flatten
theorem clsB_snoc (ys : List Dd) (x : Dd) : clsB (ys ++ [x]) = clsB ys ++ (flats x.rows).filterMap Rw.cl := by simp [clsB]
theorem clsD_keys (d : Dd) : ((flats d.rows).filterMap Rw.cl).map Prod.fst = mks d.rows := by
  unfold mks
  rw [List.map_filterMap]
  congr 1
  funext r
  exact cl_mark r
theorem clsB_keys (b : List Dd) : (clsB b).map Prod.fst = bmks b := by
  induction b with
  | nil => rfl
  | cons d r ih =>
    show (((flats d.rows).filterMap Rw.cl) ++ clsB r).map Prod.fst = mks d.rows ++ bmks r
    rw [List.map_append, ih, clsD_keys]
theorem prsOf_mapH : ∀ l : List (Int × Str), prsOf (l.map prV) = some l
  | [] => rfl
  | (k, s) :: r => by
    show (prsOf (r.map prV)).map _ = _
    rw [prsOf_mapH r]
    rfl
theorem keysP_map : ∀ l : List (Int × Str), keysP (l.map prV) = some (l.map Prod.fst)
  | [] => rfl
  | (k, s) :: r => by
    show (keysP (r.map prV)).map _ = _
    rw [keysP_map r]
    rfl
theorem insP_permH (x : Int × Str) : ∀ l : List (Int × Str), (insP x l).Perm (x :: l)
  | [] => .refl _
  | y :: r => by
    rw [insP]
    split
    · exact .refl _
    · exact ((insP_permH x r).cons y).trans (.swap _ _ _)
theorem sortP_permH : ∀ l : List (Int × Str), (sortP l).Perm l
  | [] => .refl _
  | x :: r => (insP_permH x _).trans ((sortP_permH r).cons x)
theorem dLook_pr {k : Int} {w : Str} : ∀ {l : List (Int × Str)}, (l.map Prod.fst).Nodup → (k, w) ∈ l → dLook (.int k) (l.map prV) = some (.str w)
  | [], _, h => by cases h
  | (j, s) :: r, hn, h => by
    rw [List.map_cons, List.nodup_cons] at hn
    show (if keyEq (.int k) (.int j) = true then some (Val.str s) else dLook (.int k) (r.map prV)) = _
    rcases List.mem_cons.mp h with e | h
    · cases e
      rw [if_pos (by simp [keyEq])]
    · have : k ≠ j := fun e => hn.1 (by rw [← e]; exact List.mem_map.mpr ⟨_, h, rfl⟩)
      rw [if_neg (by simp [keyEq, this]), dLook_pr hn.2 h]
theorem dLook_pr0 {k : Int} : ∀ {l : List (Int × Str)}, k ∉ l.map Prod.fst → dLook (.int k) (l.map prV) = none
  | [], _ => rfl
  | (j, s) :: r, h => by
    simp only [List.map_cons, List.mem_cons, not_or] at h
    show (if keyEq (.int k) (.int j) = true then some (Val.str s) else dLook (.int k) (r.map prV)) = _
    rw [if_neg (by simp [keyEq, h.1]), dLook_pr0 h.2]
def icV (p : Int × Int) : Val := .tup [.int p.1, .int p.2]
theorem dLook_ic {k c : Int} : ∀ {l : List (Int × Int)}, (l.map Prod.fst).Nodup → (k, c) ∈ l → dLook (.int k) (l.map icV) = some (.int c)
  | [], _, h => by cases h
  | (j, s) :: r, hn, h => by
    rw [List.map_cons, List.nodup_cons] at hn
    show (if keyEq (.int k) (.int j) = true then some (Val.int s) else dLook (.int k) (r.map icV)) = _
    rcases List.mem_cons.mp h with e | h
    · cases e
      rw [if_pos (by simp [keyEq])]
    · have : k ≠ j := fun e => hn.1 (by rw [← e]; exact List.mem_map.mpr ⟨_, h, rfl⟩)
      rw [if_neg (by simp [keyEq, this]), dLook_ic hn.2 h]
structure GnB (b : List Dd) : Prop where
  nm : (b.map Dd.name).Nodup
  bl : b.length ≤ 8
  dp : ∀ d ∈ b, dps d.rows ≤ 3
  fl : ∀ d ∈ b, (flats d.rows).length ≤ 20
  mn : (bmks b).Nodup
  ml : (bmks b).length ≤ 10
  le : ∀ d ∈ b, OwnLe 3 5 d
  ps : ∀ d ∈ b, d.ps.Nodup ∧ d.ps.length ≤ 100
  dot : ∀ d ∈ b, ∀ s ∈ dnames d, dot s = false
  ex : ∀ d ∈ b, (∀ q ∈ flats d.rows, ExsLe 5 q) ∧ d.give.deep ≤ 5 ∧ (dnames d).length ≤ 3000
  ends : ∀ p ∈ clsB b, ∃ d ∈ b, d.name = p.2
structure GnP (P : Prog) : Prop where
  own : OwnP P
  on : P "own_names" = some D.own_names_v4
  co : P "calls_of" = some D.calls_of_v2
  dof : P "deed_of" = some D.deed_of
  cb : P "called_by" = some D.called_by_v3
  mg : P "mark_gain" = some D.mark_gain
  lr : LrP P
  lm : P "_law_many_own" = some D._law_many_own
  lc : P "_law_calls" = some D._law_calls_v2
  dg : P "_law_due_gain" = some D._law_due_gain
section
variable {P : Prog} {n : Nat} {μ : Mu} {Q : Val → Mu → Prop} {X : XQ} {b : List Dd}
theorem called_ok (h : GnP P) (g : GnB b) (hn : 8 ≤ n) (q : Q (.dct ((sortP (clsB b)).map prV)) μ) : phi P n "called_by" .val [.tup (b.map Dd.v)] μ Q X := by
  obtain ⟨n, rfl⟩ : ∃ k, n = k + 1 := ⟨n - 1, by omega⟩
  have hΦ := phi_mono P n
  refine call_ok h.cb rfl ?_
  unfold D.called_by_v3
  rw [w_seq]
  simp [e_v, e_c, e_tup, e_lst, e_dct, s_nil, s_cons, e_ix, e_sl, e_bin, e_cmp, e_eq, e_ne, e_in, e_nin, e_isN, e_notN, e_chain, e_neg, e_not, e_and, e_or, e_ite, e_call, e_bi, e_me, e_isT, e_new, e_attr, e_mth, e_mk, w_setattr, w_skip, w_ex, w_asg, w_asgT, w_setix, w_ite, w_ret, w_raise]
  intro r hr
  rw [w_seq]
  refine for_T Dd.v b hΦ (i_e ?_ hΦ)
  simp [e_v, e_c, e_tup, e_lst, e_dct, s_nil, s_cons, e_ix, e_sl, e_bin, e_cmp, e_eq, e_ne, e_in, e_nin, e_isN, e_notN, e_chain, e_neg, e_not, e_and, e_or, e_ite, e_call, e_bi, e_me, e_isT, e_new, e_attr, e_mth, e_mk, w_setattr, w_skip, w_ex, w_asg, w_asgT, w_setix, w_ite, w_ret, w_raise]
  refine ⟨fun ys env' μ' => ∃ (o2 : Option Val), env' = [some (.tup (b.map Dd.v)), some (.ref r), o2] ∧ μ' = μ.set r (.lst ((clsB ys).map prV)), ⟨_, rfl, by simp [clsB]⟩, ?_, ?_⟩
  · rintro ys x zs env' μ' e ⟨o2, rfl, rfl⟩
    refine ⟨trivial, ?_⟩
    have hx : x ∈ b := by rw [e]; simp
    have er : (μ.set r (.lst ((clsB ys).map prV))) r = some (.lst ((clsB ys).map prV)) := mset_same
    have hb2 : (clsB ys).length + ((flats x.rows).filterMap Rw.cl).length ≤ 10 := by
      have h1 : (clsB b).length = (bmks b).length := by rw [← clsB_keys, List.length_map]
      have h2 : clsB b = clsB ys ++ ((flats x.rows).filterMap Rw.cl ++ clsB zs) := by rw [e]; simp [clsB]
      have := g.ml
      rw [← h1, h2, List.length_append, List.length_append] at this
      omega
    simp [e_v, e_c, e_tup, e_lst, e_dct, s_nil, s_cons, e_ix, e_sl, e_bin, e_cmp, e_eq, e_ne, e_in, e_nin, e_isN, e_notN, e_chain, e_neg, e_not, e_and, e_or, e_ite, e_call, e_bi, e_me, e_isT, e_new, e_attr, e_mth, e_mk, w_setattr, w_skip, w_ex, w_asg, w_asgT, w_setix, w_ite, w_ret, w_raise]
    rw [ok_extend er]
    refine ⟨rfl, ?_⟩
    refine calls_of2_ok h.own.b h.own.r h.co x (g.dp x hx) (Nat.le_trans (g.fl x hx) (by decide)) (by omega) ?_
    rw [me_extend er rfl]
    refine brV_ite (by rw [List.length_map, List.length_map, big_eq]; omega) ?_
    dsimp only
    rw [mset_set, clsB_snoc, List.map_append]
    rfl
  · rintro env' μ' ⟨o2, rfl, rfl⟩
    refine ⟨trivial, ?_⟩
    have er : (μ.set r (.lst ((clsB b).map prV))) r = some (.lst ((clsB b).map prV)) := mset_same
    have hnd : ((clsB b).map Prod.fst).Nodup := by rw [clsB_keys]; exact g.mn
    have h1 : biV (μ.set r (.lst ((clsB b).map prV))) .sortPr [.ref r] = some (.lst ((sortP (clsB b)).map prV)) := by
      show sortPrF _ [.ref r] = _
      simp only [sortPrF, ct_ref, er, prsOf_mapH, Option.bind_some]
      rw [if_pos hnd]
    have h2 : ∀ m' : Mu, biV m' .dictP [.lst ((sortP (clsB b)).map prV)] = some (.dct ((sortP (clsB b)).map prV)) := fun m' => by
      show dictPF m' [.lst ((sortP (clsB b)).map prV)] = _
      simp only [dictPF, ct_lst, keysP_map, Option.bind_some]
      rw [if_pos (((sortP_permH _).map Prod.fst).nodup_iff.mpr hnd)]
    simp [e_v, e_c, e_tup, e_lst, e_dct, s_nil, s_cons, e_ix, e_sl, e_bin, e_cmp, e_eq, e_ne, e_in, e_nin, e_isN, e_notN, e_chain, e_neg, e_not, e_and, e_or, e_ite, e_call, e_bi, e_me, e_isT, e_new, e_attr, e_mth, e_mk, w_setattr, w_skip, w_ex, w_asg, w_asgT, w_setix, w_ite, w_ret, w_raise, h1, h2]
    have hnr : nr (.dct ((sortP (clsB b)).map prV)) = true := by
      show nrL ((sortP (clsB b)).map prV) = true
      exact nrL_iff.mpr fun v hv => by obtain ⟨p, _, rfl⟩ := List.mem_map.mp hv; rfl
    have hct : (μ.set r (.lst ((clsB b).map prV))).cut μ = μ := by rw [cut_new hr, cut_self]
    exact fin_val hnr hct q
theorem called_nd (g : GnB b) : ((sortP (clsB b)).map Prod.fst).Nodup := ((sortP_permH _).map Prod.fst).nodup_iff.mpr (by rw [clsB_keys]; exact g.mn)
theorem gain_ok (h : GnP P) (g : GnB b) {v : Val} {cnt : List (Int × Int)} {price mark c : Int} {d : Dd} (hv : content μ v = some (.dct (cnt.map icV))) (hcn : (cnt.map Prod.fst).Nodup) (hc : (mark, c) ∈ cnt) (hc0 : 0 ≤ c) (hc1 : c ≤ 1000000) (hd : d ∈ b) (hm : (mark, d.name) ∈ clsB b) (hn : 16 ≤ n)
    (q : Q (.int (c * (price - ((own d).length : Int)))) μ) : phi P n "mark_gain" .val [.tup (b.map Dd.v), v, .int price, .int mark] μ Q X := by
  obtain ⟨n, rfl⟩ : ∃ k, n = k + 1 := ⟨n - 1, by omega⟩
  refine call_ok h.mg rfl ?_
  have hl := dLook_pr (called_nd g) ((sortP_permH _).mem_iff.mpr hm)
  have h1 : inV μ (.int mark) (.dct ((sortP (clsB b)).map prV)) = some true := by
    unfold inV
    simp only [ct_dct]
    rw [if_pos (show isKey (.int mark) = true from rfl), hl]
    rfl
  have h2 : ixV μ (.dct ((sortP (clsB b)).map prV)) (.int mark) = some (.str d.name) := by
    unfold ixV
    simp only [ct_dct, Option.bind_some, ixC]
    rw [if_pos (show isKey (.int mark) = true from rfl), hl]
  have h3 : ixV μ v (.int mark) = some (.int c) := by
    unfold ixV
    simp only [hv, Option.bind_some, ixC]
    rw [if_pos (show isKey (.int mark) = true from rfl), dLook_ic hcn hc]
  unfold D.mark_gain
  rw [w_seq]
  simp [e_v, e_c, e_tup, e_lst, e_dct, s_nil, s_cons, e_ix, e_sl, e_bin, e_cmp, e_eq, e_ne, e_in, e_nin, e_isN, e_notN, e_chain, e_neg, e_not, e_and, e_or, e_ite, e_call, e_bi, e_me, e_isT, e_new, e_attr, e_mth, e_mk, w_setattr, w_skip, w_ex, w_asg, w_asgT, w_setix, w_ite, w_ret, w_raise]
  refine called_ok h g (by omega) ?_
  rw [w_seq]
  simp [e_v, e_c, e_tup, e_lst, e_dct, s_nil, s_cons, e_ix, e_sl, e_bin, e_cmp, e_eq, e_ne, e_in, e_nin, e_isN, e_notN, e_chain, e_neg, e_not, e_and, e_or, e_ite, e_call, e_bi, e_me, e_isT, e_new, e_attr, e_mth, e_mk, w_setattr, w_skip, w_ex, w_asg, w_asgT, w_setix, w_ite, w_ret, w_raise, h1]
  simp [h3, h2]
  refine deed_of_ok h.dof (.inr rfl) g.nm hd (by omega) ?_
  refine own4_val h.own h.on d (g.le d hd) (by omega) ?_
  simp
  exact ⟨cmul_l (by omega) (by omega), q⟩
theorem gain_no (h : GnP P) (g : GnB b) {v : Val} {price mark : Int} (hm : mark ∉ bmks b) (hn : 16 ≤ n) (q : X (.exn "NoMark" []) μ) : phi P n "mark_gain" .val [.tup (b.map Dd.v), v, .int price, .int mark] μ Q X := by
  obtain ⟨n, rfl⟩ : ∃ k, n = k + 1 := ⟨n - 1, by omega⟩
  refine call_ok h.mg rfl ?_
  have hl : dLook (.int mark) ((sortP (clsB b)).map prV) = none := dLook_pr0 fun z => hm (by rw [← clsB_keys]; exact ((sortP_permH _).map Prod.fst).mem_iff.mp z)
  have h1 : inV μ (.int mark) (.dct ((sortP (clsB b)).map prV)) = some false := by
    unfold inV
    simp only [ct_dct]
    rw [if_pos (show isKey (.int mark) = true from rfl), hl]
    rfl
  unfold D.mark_gain
  rw [w_seq]
  simp [e_v, e_c, e_tup, e_lst, e_dct, s_nil, s_cons, e_ix, e_sl, e_bin, e_cmp, e_eq, e_ne, e_in, e_nin, e_isN, e_notN, e_chain, e_neg, e_not, e_and, e_or, e_ite, e_call, e_bi, e_me, e_isT, e_new, e_attr, e_mth, e_mk, w_setattr, w_skip, w_ex, w_asg, w_asgT, w_setix, w_ite, w_ret, w_raise]
  refine called_ok h g (by omega) ?_
  rw [w_seq]
  simp [e_v, e_c, e_tup, e_lst, e_dct, s_nil, s_cons, e_ix, e_sl, e_bin, e_cmp, e_eq, e_ne, e_in, e_nin, e_isN, e_notN, e_chain, e_neg, e_not, e_and, e_or, e_ite, e_call, e_bi, e_me, e_isT, e_new, e_attr, e_mth, e_mk, w_setattr, w_skip, w_ex, w_asg, w_asgT, w_setix, w_ite, w_ret, w_raise, h1]
  exact q
theorem refused_ok (h : GnP P) (hr : P "_law_refused" = some D._law_refused_v2) (g : GnB b) {v : Val} {price mark : Int} (hm : mark ∉ bmks b) (hn : 17 ≤ n) (q : Q (.bl true) μ) : phi P n "_law_refused" .val [.tup (b.map Dd.v), v, .int price, .int mark] μ Q X := by
  obtain ⟨n, rfl⟩ : ∃ k, n = k + 1 := ⟨n - 1, by omega⟩
  refine call_ok hr rfl ?_
  unfold D._law_refused_v2
  rw [w_seq]
  simp [e_v, e_c, e_tup, e_lst, e_dct, s_nil, s_cons, e_ix, e_sl, e_bin, e_cmp, e_eq, e_ne, e_in, e_nin, e_isN, e_notN, e_chain, e_neg, e_not, e_and, e_or, e_ite, e_call, e_bi, e_me, e_isT, e_new, e_attr, e_mth, e_mk, w_setattr, w_skip, w_ex, w_asg, w_asgT, w_setix, w_ite, w_ret, w_raise]
  rw [w_tryK]
  simp [e_v, e_c, e_tup, e_lst, e_dct, s_nil, s_cons, e_ix, e_sl, e_bin, e_cmp, e_eq, e_ne, e_in, e_nin, e_isN, e_notN, e_chain, e_neg, e_not, e_and, e_or, e_ite, e_call, e_bi, e_me, e_isT, e_new, e_attr, e_mth, e_mk, w_setattr, w_skip, w_ex, w_asg, w_asgT, w_setix, w_ite, w_ret, w_raise]
  refine gain_no h g hm (by omega) ?_
  simp [isSub]
  intro a ha
  rw [w_seq]
  simp [e_v, e_c, e_tup, e_lst, e_dct, s_nil, s_cons, e_ix, e_sl, e_bin, e_cmp, e_eq, e_ne, e_in, e_nin, e_isN, e_notN, e_chain, e_neg, e_not, e_and, e_or, e_ite, e_call, e_bi, e_me, e_isT, e_new, e_attr, e_mth, e_mk, w_setattr, w_skip, w_ex, w_asg, w_asgT, w_setix, w_ite, w_ret, w_raise, e_isC, e_isCs, isSub]
  exact q
theorem due_ok (h : GnP P) (g : GnB b) {v : Val} {cnt : List (Int × Int)} {price mark c : Int} {d : Dd} (hv : ∀ m' : Mu, (∀ a, (μ a).isSome = true → m' a = μ a) → content m' v = some (.dct (cnt.map icV))) (hcn : (cnt.map Prod.fst).Nodup) (hc : (mark, c) ∈ cnt) (hc0 : 0 ≤ c) (hc1 : c ≤ 1000000) (hd : d ∈ b) (hm : (mark, d.name) ∈ clsB b) (hn : 16 ≤ n)
    (q : Q (.int (c * (price - ((own d).length : Int)))) μ) : phi P n "_law_due_gain" .val [.tup (b.map Dd.v), v, .int price, .int mark] μ Q X := by
  obtain ⟨n, rfl⟩ : ∃ k, n = k + 1 := ⟨n - 1, by omega⟩
  have hΦ := phi_mono P n
  refine call_ok h.dg rfl ?_
  have h3 : ixV μ v (.int mark) = some (.int c) := by
    unfold ixV
    simp only [hv μ (fun _ _ => rfl), Option.bind_some, ixC]
    rw [if_pos (show isKey (.int mark) = true from rfl), dLook_ic hcn hc]
  unfold D._law_due_gain
  rw [w_seq]
  refine for_T Dd.v b hΦ (i_e ?_ hΦ)
  simp [e_v, e_c, e_tup, e_lst, e_dct, s_nil, s_cons, e_ix, e_sl, e_bin, e_cmp, e_eq, e_ne, e_in, e_nin, e_isN, e_notN, e_chain, e_neg, e_not, e_and, e_or, e_ite, e_call, e_bi, e_me, e_isT, e_new, e_attr, e_mth, e_mk, w_setattr, w_skip, w_ex, w_asg, w_asgT, w_setix, w_ite, w_ret, w_raise]
  refine ⟨fun ys env' μ' => ∃ (o4 o5 o6 o7 : Option Val), env' = [some (.tup (b.map Dd.v)), some v, some (.int price), some (.int mark), o4, o5, o6, o7] ∧ μ' = μ ∧ mark ∉ bmks ys, ⟨_, _, _, _, rfl, rfl, by simp [bmks]⟩, ?_, ?_⟩
  · rintro ys x zs env' μ' e ⟨o4, o5, o6, o7, rfl, rfl, hni⟩
    refine ⟨trivial, ?_⟩
    have hx : x ∈ b := by rw [e]; simp
    obtain ⟨cs, hcs, hcm, hcmk, hcl, hccl⟩ := callsH x.rows
    have hfl := g.fl x hx
    have e2 : ∀ m' : Mu, ixV m' x.v (.int 2) = some (.tup (Rw.vs x.rows)) := fun _ => rfl
    simp
    refine for_T Rw.v cs hΦ (i_e ?_ hΦ)
    simp [e_v, e_c, e_tup, e_lst, e_dct, s_nil, s_cons, e_ix, e_sl, e_bin, e_cmp, e_eq, e_ne, e_in, e_nin, e_isN, e_notN, e_chain, e_neg, e_not, e_and, e_or, e_ite, e_call, e_bi, e_me, e_isT, e_new, e_attr, e_mth, e_mk, w_setattr, w_skip, w_ex, w_asg, w_asgT, w_setix, w_ite, w_ret, w_raise, e2]
    refine lc_ok h.lc 3 x.rows n _ _ _ (g.dp x hx) (by omega) (by omega) ?_
    simp
    refine ⟨hcs, fun us env' μ2 => ∃ (o5 o6 o7 : Option Val), env' = [some (.tup (b.map Dd.v)), some v, some (.int price), some (.int mark), some x.v, o5, o6, o7] ∧ μ2 = μ' ∧ mark ∉ us.filterMap Rw.mark, ⟨_, _, _, rfl, rfl, by simp⟩, ?_, ?_⟩
    · rintro us u ws env' μ2 eu ⟨o5, o6, o7, rfl, rfl, hnu⟩
      refine ⟨trivial, ?_⟩
      have huc := hcm u (by rw [eu]; simp)
      cases u with
      | call nm w as m =>
        have f4 : ∀ m' : Mu, ixV m' (Rw.call nm w as m).v (.int 4) = some (.int m) := fun _ => rfl
        have f2 : ∀ m' : Mu, ixV m' (Rw.call nm w as m).v (.int 2) = some (.str w) := fun _ => rfl
        simp [e_v, e_c, e_tup, e_lst, e_dct, s_nil, s_cons, e_ix, e_sl, e_bin, e_cmp, e_eq, e_ne, e_in, e_nin, e_isN, e_notN, e_chain, e_neg, e_not, e_and, e_or, e_ite, e_call, e_bi, e_me, e_isT, e_new, e_attr, e_mth, e_mk, w_setattr, w_skip, w_ex, w_asg, w_asgT, w_setix, w_ite, w_ret, w_raise, f4]
        refine ⟨fun hmm => ?_, fun hmm => ⟨fun y hy z => hnu (List.mem_filterMap.mpr ⟨y, hy, z⟩), fun z => hmm (by simpa [Rw.mark] using z)⟩⟩
        subst hmm
        have hw : w = d.name := by
          have h1 : (m, w) ∈ clsB b := by
            unfold clsB
            refine List.mem_flatten.mpr ⟨_, List.mem_map.mpr ⟨x, hx, rfl⟩, ?_⟩
            exact List.mem_filterMap.mpr ⟨_, huc.2, rfl⟩
          have hnd : ((clsB b).map Prod.fst).Nodup := by rw [clsB_keys]; exact g.mn
          have h2 := dLook_pr hnd h1
          rw [dLook_pr hnd hm] at h2
          injection h2 with h2
          injection h2 with h2
          exact h2.symm
        subst hw
        rw [w_seq]
        simp [e_v, e_c, e_tup, e_lst, e_dct, s_nil, s_cons, e_ix, e_sl, e_bin, e_cmp, e_eq, e_ne, e_in, e_nin, e_isN, e_notN, e_chain, e_neg, e_not, e_and, e_or, e_ite, e_call, e_bi, e_me, e_isT, e_new, e_attr, e_mth, e_mk, w_setattr, w_skip, w_ex, w_asg, w_asgT, w_setix, w_ite, w_ret, w_raise]
        refine comp_mapT Dd.v b (fun o => decide (o.name = d.name)) Dd.v hΦ (i_e ?_ hΦ)
        simp [e_v, e_c, e_tup, e_lst, e_dct, s_nil, s_cons, e_ix, e_sl, e_bin, e_cmp, e_eq, e_ne, e_in, e_nin, e_isN, e_notN, e_chain, e_neg, e_not, e_and, e_or, e_ite, e_call, e_bi, e_me, e_isT, e_new, e_attr, e_mth, e_mk, w_setattr, w_skip, w_ex, w_asg, w_asgT, w_setix, w_ite, w_ret, w_raise, guard]
        have hbl := g.bl
        refine ⟨trivial, by rw [big_eq]; omega, fun o ho => ?_, ?_⟩
        · have f0 : ∀ m' : Mu, ixV m' o.v (.int 0) = some (.str o.name) := fun _ => rfl
          simp [wipe, e_v, e_c, e_tup, e_lst, e_dct, s_nil, s_cons, e_ix, e_sl, e_bin, e_cmp, e_eq, e_ne, e_in, e_nin, e_isN, e_notN, e_chain, e_neg, e_not, e_and, e_or, e_ite, e_call, e_bi, e_me, e_isT, e_new, e_attr, e_mth, e_mk, w_setattr, w_skip, w_ex, w_asg, w_asgT, w_setix, w_ite, w_ret, w_raise, f0, f2]
        · obtain ⟨d', t, hf⟩ : ∃ d' t, b.filter (fun o => decide (o.name = d.name)) = d' :: t := by
            cases hq : b.filter (fun o => decide (o.name = d.name)) with
            | nil =>
              have : d ∈ b.filter (fun o => decide (o.name = d.name)) := List.mem_filter.mpr ⟨hd, by simp⟩
              rw [hq] at this
              cases this
            | cons d' t => exact ⟨d', t, rfl⟩
          have hd' : d' ∈ b ∧ d'.name = d.name := by
            have : d' ∈ b.filter (fun o => decide (o.name = d.name)) := by rw [hf]; exact List.mem_cons_self
            have := List.mem_filter.mp this
            exact ⟨this.1, by simpa using this.2⟩
          have ed : d' = d := by
            have hnm := g.nm
            have := List.pairwise_map.mp hnm
            by_cases hq : d' = d
            · exact hq
            · exfalso
              obtain ⟨i, hi, ei⟩ := List.mem_iff_getElem.mp hd'.1
              obtain ⟨j, hj, ej⟩ := List.mem_iff_getElem.mp hd
              have hij : i = j := by
                have := (List.getElem_inj (xs := b.map Dd.name) (h₀ := by simpa using hi) (h₁ := by simpa using hj) hnm).mp (by simp [ei, ej, hd'.2])
                exact this
              subst hij
              exact hq (ei.symm.trans ej)
          subst ed
          rw [hf]
          simp [e_v, e_c, e_tup, e_lst, e_dct, s_nil, s_cons, e_ix, e_sl, e_bin, e_cmp, e_eq, e_ne, e_in, e_nin, e_isN, e_notN, e_chain, e_neg, e_not, e_and, e_or, e_ite, e_call, e_bi, e_me, e_isT, e_new, e_attr, e_mth, e_mk, w_setattr, w_skip, w_ex, w_asg, w_asgT, w_setix, w_ite, w_ret, w_raise, h3]
          obtain ⟨x1, x2, x3⟩ := g.ex d' hd
          refine l_many h.lr h.lm d' (g.dp d' hd) (g.ps d' hd).1 (g.ps d' hd).2 (g.dot d' hd) x1 x2 x3 (by omega) ?_
          simp
          exact ⟨cmul_l (by omega) (by omega), q⟩
      | _ => cases huc.1
    · rintro env' μ2 ⟨o5, o6, o7, rfl, rfl, hnu⟩
      refine ⟨trivial, ⟨_, _, _, _, rfl⟩, rfl, fun z => ?_⟩
      rw [bmks_snoc, ← hcmk] at z
      exact (List.mem_append.mp z).elim hni hnu
  · rintro env' μ' ⟨o4, o5, o6, o7, rfl, rfl, hni⟩
    refine (hni ?_).elim
    rw [← clsB_keys]
    exact List.mem_map.mpr ⟨_, hm, rfl⟩
end
end Mi
/-! Hd: the drawn books of the gain laws are such as their lemmas ask; draws of pools. -/
namespace Mi
open PySem (Str)
theorem names_pow : ∀ e : Ex, e.names.length ≤ 2 ^ e.deep
  | .num _ => by simp [Ex.names]
  | .nam _ => by simp [Ex.names, Ex.deep]
  | .op w a b => by
    have h1 := names_pow a
    have h2 := names_pow b
    have m1 : 2 ^ a.deep ≤ 2 ^ max a.deep b.deep := Nat.pow_le_pow_right (by decide) (Nat.le_max_left _ _)
    have m2 : 2 ^ b.deep ≤ 2 ^ max a.deep b.deep := Nat.pow_le_pow_right (by decide) (Nat.le_max_right _ _)
    have e : (Ex.op w a b).deep = max a.deep b.deep + 1 := by simp [Ex.deep, Nat.add_comm]
    rw [e, Nat.pow_succ]
    simp only [Ex.names, List.length_append]
    omega
theorem exN_bound : ∀ (l : List Ex), (∀ e ∈ l, e.deep ≤ 5) → (exN l).length ≤ 32 * l.length
  | [], _ => by simp [exN]
  | a :: t, h => by
    rw [exN_cons, List.length_append]
    have h1 := names_pow a
    have h2 : 2 ^ a.deep ≤ 2 ^ 5 := Nat.pow_le_pow_right (by decide) (h a List.mem_cons_self)
    have h3 := exN_bound t fun e he => h e (List.mem_cons_of_mem _ he)
    simp only [List.length_cons]
    omega
theorem rnms_bound : ∀ (l : List Rw), (∀ q ∈ l, q.nms.length ≤ 129) → (rnms l).length ≤ 129 * l.length
  | [], _ => by simp [rnms]
  | a :: t, h => by
    rw [rnms_cons, List.length_append]
    have h1 := h a List.mem_cons_self
    have h3 := rnms_bound t fun e he => h e (List.mem_cons_of_mem _ he)
    simp only [List.length_cons]
    omega
theorem menuM_dot : ∀ s ∈ menuM, dot s = false ∧ okS s = true ∧ s.length ≤ 1000000 := by decide +kernel
theorem mlM_nd (f : Int) (l : Nat) : (mlM f 10 l).Nodup := by
  unfold mlM
  refine List.pairwise_map.mpr ?_
  refine (List.pairwise_lt_range).imp_of_mem fun {i j} hi hj hij => ?_
  have h1 := List.mem_range.mp hi
  have h2 := List.mem_range.mp hj
  rw [Int.fmod_eq_emod_of_nonneg _ (by decide), Int.fmod_eq_emod_of_nonneg _ (by decide)]
  omega
section
variable {b : List Dd}
theorem BkM.rw_len (h : BkM 9 b) {d : Dd} (hd : d ∈ b) {q : Rw} (hq : q ∈ flats d.rows) : q.nms.length ≤ 129 ∧ ExsLe 5 q ∧ ∀ s ∈ q.nms, s ∈ menuM := by
  obtain ⟨names, _, _, _, hm, hr, _, _⟩ := (h.dd d hd).nm
  have r := hr q hq
  have h5 : ∀ e ∈ q.exs, e.deep ≤ 5 := fun e he => (r.ex e he).deep
  have hx : q.exs.length ≤ 4 := by
    cases q with
    | call x w as m =>
      obtain ⟨⟨ps, hps, hl⟩, _⟩ := r.cl x w as m rfl
      have := (h.hd.ps _ hps).1
      show as.length ≤ 4
      rw [hl]
      exact this
    | _ => simp [Rw.exs]
  have ha : q.aim.length ≤ 1 := by cases q <;> simp [Rw.aim]
  refine ⟨?_, h5, fun s hs => ?_⟩
  · unfold Rw.nms
    rw [List.length_append]
    have := exN_bound q.exs h5
    omega
  · unfold Rw.nms at hs
    rcases List.mem_append.mp hs with z | z
    · obtain ⟨l, hl, hs2⟩ := List.mem_flatten.mp z
      obtain ⟨e, he, rfl⟩ := List.mem_map.mp hl
      exact hm s ((r.ex e he).names s hs2)
    · exact hm s (r.aim s z)
theorem BkM.dn (h : BkM 9 b) {d : Dd} (hd : d ∈ b) : (∀ s ∈ dnames d, s ∈ menuM) ∧ (dnames d).length ≤ 3000 ∧ d.give.deep ≤ 4 := by
  obtain ⟨names, _, _, _, hm, hr, hg, _⟩ := (h.dd d hd).nm
  refine ⟨fun s hs => ?_, ?_, hg.deep⟩
  · unfold dnames at hs
    rcases List.mem_append.mp hs with z | z
    · obtain ⟨l, hl, hs2⟩ := List.mem_flatten.mp z
      obtain ⟨q, hq, rfl⟩ := List.mem_map.mp hl
      exact (h.rw_len hd hq).2.2 s hs2
    · exact hm s (hg.names s z)
  · unfold dnames
    rw [List.length_append]
    have h1 := rnms_bound (flats d.rows) fun q hq => (h.rw_len hd hq).1
    have h2 := (h.dd d hd).len
    have h3 := names_pow d.give
    have h4 : 2 ^ d.give.deep ≤ 2 ^ 4 := Nat.pow_le_pow_right (by decide) hg.deep
    omega
theorem BkM.own (h : BkM 9 b) {d : Dd} (hd : d ∈ b) : OwnLe 3 5 d where
  dp := (h.dd d hd).dp
  len := Nat.le_trans (h.dd d hd).len (by decide)
  ex := fun r hr => (h.rw_len hd hr).2.1
  give := Nat.le_trans (h.dn hd).2.2 (by decide)
  nl := Nat.le_trans (h.dn hd).2.1 (by decide)
  few := by
    have h1 := nodup_subO (keysK_nodup ((dnames d).filter (plainN d))) (r := menuM) fun x hx => (h.dn hd).1 x (List.mem_filter.mp (keysK_mem.mp hx)).1
    have : menuM.length = 12 := rfl
    unfold ownK
    omega
  ok := fun s hs => (menuM_dot s ((h.dn hd).1 s hs)).2
  ps := by
    have := (h.hd.ps d.head (List.mem_map.mpr ⟨d, hd, rfl⟩)).1
    show d.ps.length ≤ 1000
    have e : d.head.2 = d.ps := rfl
    rw [e] at this
    omega
theorem gnB_of (h : BkM 9 b) : GnB b := by
  obtain ⟨f, l, hl, hm⟩ := h.mks'
  have en : (b.map Dd.head).map Prod.fst = b.map Dd.name := by rw [List.map_map]; rfl
  refine ⟨by rw [← en]; exact h.hd.nd, h.len, fun d hd => (h.dd d hd).dp, fun d hd => Nat.le_trans (h.dd d hd).len (by decide), by rw [hm]; exact mlM_nd f l, by rw [hm]; simp [mlM], fun d hd => h.own hd, fun d hd => ?_, fun d hd s hs => (menuM_dot s ((h.dn hd).1 s hs)).1, fun d hd => ⟨fun q hq => (h.rw_len hd hq).2.1, Nat.le_trans (h.dn hd).2.2 (by decide), (h.dn hd).2.1⟩, fun p hp => ?_⟩
  · have h1 := h.hd.ps d.head (List.mem_map.mpr ⟨d, hd, rfl⟩)
    exact ⟨h1.2.1, Nat.le_trans h1.1 (by decide)⟩
  · unfold clsB at hp
    obtain ⟨l2, hl2, hp2⟩ := List.mem_flatten.mp hp
    obtain ⟨d, hd, rfl⟩ := List.mem_map.mp hl2
    obtain ⟨r, hr, er⟩ := List.mem_filterMap.mp hp2
    obtain ⟨names, _, _, _, _, hrw, _⟩ := (h.dd d hd).nm
    cases r with
    | call x w as m =>
      cases er
      obtain ⟨⟨ps, hps, _⟩, _⟩ := (hrw _ hr).cl x w as m rfl
      obtain ⟨d', hd', e⟩ := List.mem_map.mp hps
      exact ⟨d', hd', congrArg Prod.fst e⟩
    | _ => cases er
end
/-! a wide draw -/
section
variable {P : Prog} {n : Nat} {μ : Mu} {Q : Val → Mu → Prop} {X : XQ} {p : Ad}
theorem takeM_wide (h : P "_law_take" = some D._law_take_v2) {m : Int} (hp : Sta μ p) (h0 : 0 < m) (h1 : wideD m = true) (hn : 1 ≤ n) (q : ∀ v μ', 0 ≤ v → v < m → Sw p μ μ' → Q (.int v) μ') : phi P n "_law_take" .val [.ref p, .int m] μ Q X := by
  obtain ⟨n, rfl⟩ : ∃ k, n = k + 1 := ⟨n - 1, by omega⟩
  have hp0 := hp
  obtain ⟨a, b, e, b0, b1⟩ := hp
  refine call_ok h rfl ?_
  have hm0 : m ≠ 0 := by omega
  have fin : ∀ (v : Int) (μ' : Mu), 0 ≤ v → v < m → Sw p μ μ' → finM .val μ Q (.int v) μ' := fun v μ' v0 v1 k => by
    show Q (reso _ _ _ _) _
    rw [reso_nr rfl, k.cut_ hp0]
    exact q v μ' v0 v1 k
  simp [D._law_take_v2, e_v, e_c, e_tup, e_lst, e_dct, s_nil, s_cons, e_ix, e_sl, e_bin, e_cmp, e_eq, e_ne, e_in, e_nin, e_isN, e_notN, e_chain, e_neg, e_not, e_and, e_or, e_ite, e_call, e_bi, e_me, e_isT, e_new, e_attr, e_mth, e_mk, w_setattr, w_skip, w_ex, w_asg, w_asgT, w_setix, w_ite, w_ret, w_raise, w_seq, ix_ref e, hm0, h1]
  refine ⟨fun hpos => ?_, fun hneg => ?_⟩
  · have f := fmod_lt (a := a) h0
    rw [set_lst (n := 0) e rfl]
    simp
    exact fin _ _ f.1 f.2 ⟨⟨a.fdiv m, b, mset_same, b0, b1⟩, fun c hc => mset_ne hc⟩
  · have f := fmod_lt (a := b * 48271 + 12820163) (m := 2147483647) (by decide)
    refine ⟨cmul_l (by omega) (by omega), ?_⟩
    rw [set_lst (n := 1) e rfl]
    simp
    generalize hc : (b * 48271 + 12820163).fmod 2147483647 = c at f
    have e2 : (μ.set p (.lst [.int a, .int c])) p = some (.lst [.int a, .int c]) := mset_same
    rw [ix_ref e2]
    simp
    have f2 := fmod_lt (a := c * c) (m := 2147483629) (by decide)
    refine ⟨cmul_l (by omega) (by omega), cmul_l (by omega) (by omega), ?_⟩
    have g := fmod_lt (a := ((((c * c).fmod 2147483629) * 69621).fmod 2147483587).fdiv 8) h0
    exact ⟨hm0, fin _ _ g.1 g.2 ⟨⟨a, c, mset_same, f.1, f.2⟩, fun c hc => mset_ne hc⟩⟩
end
end Mi
/-! Hy: cells; a book is the same as itself. -/
namespace Mi
open PySem (Str)
theorem cutL_mapS {α β : Type} (f : α → β) (l : List α) (x y : Option Int) : cutL (l.map f) x y = (cutL l x y).map f := by
  simp only [cutL, List.map_drop, List.map_take, List.length_map]
theorem cut_9 {α : Type} (l : List α) : (cutL l none (some 9)).length = min 9 l.length := by
  have h1 : sIx l.length l.length (some 9) = min 9 l.length := by
    show (if (9 : Int) < 0 then (max ((9 : Int) + (l.length : Int)) 0).toNat else (min (9 : Int) (l.length : Int)).toNat) = _
    rw [if_neg (by decide)]
    omega
  show ((l.drop 0).take (sIx l.length l.length (some 9) - 0)).length = _
  rw [h1, List.length_take]
  simp
theorem cut_9b {α : Type} (l : List α) : (cutL l (some 9) (some 63)).length ≤ l.length - 9 := by
  have h1 : sIx l.length 0 (some 9) = min 9 l.length := by
    show (if (9 : Int) < 0 then (max ((9 : Int) + (l.length : Int)) 0).toNat else (min (9 : Int) (l.length : Int)).toNat) = _
    rw [if_neg (by decide)]
    omega
  unfold cutL
  rw [h1, List.length_take, List.length_drop]
  omega
section
variable {P : Prog} {n : Nat} {μ : Mu} {Q : Val → Mu → Prop} {X : XQ} {p : Ad}
theorem cells_okM (h : P "_law_cells" = some D._law_cells) {ns : List Int} (hns : ns.length ≤ 63) (hn : 1 ≤ n) (q : ∀ cs : List Int, cs.length ≤ 9 → Q (.lst (cs.map .int)) μ) : phi P n "_law_cells" .val [.lst (ns.map .int), .int 9] μ Q X := by
  obtain ⟨n, rfl⟩ : ∃ k, n = k + 1 := ⟨n - 1, by omega⟩
  have hΦ := phi_mono P n
  refine call_ok h rfl ?_
  have c1 := cut_9 ns
  have c2 := cut_9b ns
  unfold D._law_cells
  rw [w_seq]
  simp [e_v, e_c, e_tup, e_lst, e_dct, s_nil, s_cons, e_ix, e_sl, e_bin, e_cmp, e_eq, e_ne, e_in, e_nin, e_isN, e_notN, e_chain, e_neg, e_not, e_and, e_or, e_ite, e_call, e_bi, e_me, e_isT, e_new, e_attr, e_mth, e_mk, w_setattr, w_skip, w_ex, w_asg, w_asgT, w_setix, w_ite, w_ret, w_raise, cutL_mapS]
  intro r hr
  rw [w_seq]
  refine for_T (fun p : Int × Int => Val.tup [.int p.1, .int p.2]) (enumT 0 (cutL ns (some 9) (some 63))) hΦ (i_enum ?_ hΦ)
  simp [e_v, e_c, e_tup, e_lst, e_dct, s_nil, s_cons, e_ix, e_sl, e_bin, e_cmp, e_eq, e_ne, e_in, e_nin, e_isN, e_notN, e_chain, e_neg, e_not, e_and, e_or, e_ite, e_call, e_bi, e_me, e_isT, e_new, e_attr, e_mth, e_mk, w_setattr, w_skip, w_ex, w_asg, w_asgT, w_setix, w_ite, w_ret, w_raise, cutL_mapS, guard]
  refine ⟨enum_map _ _ _, fun ys env' μ' => ∃ (cs : List Int) (o3 o4 : Option Val), env' = [some (.lst (ns.map .int)), some (.int 9), some (.ref r), o3, o4] ∧ μ' = μ.set r (.lst (cs.map .int)) ∧ cs.length = min 9 ns.length, ⟨_, _, _, rfl, rfl, c1⟩, ?_, ?_⟩
  · rintro ys i c zs env' μ' e ⟨cs, o3, o4, rfl, rfl, hl⟩
    refine ⟨trivial, ?_⟩
    obtain ⟨i0, l1, l2, el, ey, ely⟩ := enumT_at e
    have hi : i = (ys.length : Int) := by rw [show i = (i, c).1 from rfl, i0]; simp
    have h9 : 9 ≤ ns.length := by
      have := congrArg List.length el
      rw [List.length_append, List.length_cons] at this
      omega
    have hcl : cs.length = 9 := by omega
    have f := fmod_lt (a := i) (m := 9) (by decide)
    have er : (μ.set r (.lst (cs.map .int))) r = some (.lst (cs.map .int)) := mset_same
    obtain ⟨x, hx⟩ : ∃ x, cs[(i.fmod 9).toNat]? = some x := ⟨_, List.getElem?_eq_getElem (by omega)⟩
    have hat : ixV (μ.set r (.lst (cs.map .int))) (.ref r) (.int (i.fmod 9)) = some (.int x) := by
      rw [ix_ref er]
      exact at_nat f.1 (by rw [List.getElem?_map, hx]; rfl)
    simp [e_v, e_c, e_tup, e_lst, e_dct, s_nil, s_cons, e_ix, e_sl, e_bin, e_cmp, e_eq, e_ne, e_in, e_nin, e_isN, e_notN, e_chain, e_neg, e_not, e_and, e_or, e_ite, e_call, e_bi, e_me, e_isT, e_new, e_attr, e_mth, e_mk, w_setattr, w_skip, w_ex, w_asg, w_asgT, w_setix, w_ite, w_ret, w_raise]
    rw [hat]
    simp
    have hbig : CMul x 31 := cmul_r (by decide) (by decide)
    refine ⟨hbig, ?_⟩
    have hix : ixN (cs.map Val.int).length (i.fmod 9) = some (i.fmod 9).toNat := ixN_in f.1 (by rw [List.length_map, hcl]; exact f.2)
    rw [set_lst er hix]
    simp
    exact ⟨cs.set (i.fmod 9).toNat (x * 31 + c), by rw [List.map_set], by simp [hl]⟩
  · rintro env' μ' ⟨cs, o3, o4, rfl, rfl, hl⟩
    refine ⟨trivial, ?_⟩
    simp [e_v, e_c, e_tup, e_lst, e_dct, s_nil, s_cons, e_ix, e_sl, e_bin, e_cmp, e_eq, e_ne, e_in, e_nin, e_isN, e_notN, e_chain, e_neg, e_not, e_and, e_or, e_ite, e_call, e_bi, e_me, e_isT, e_new, e_attr, e_mth, e_mk, w_setattr, w_skip, w_ex, w_asg, w_asgT, w_setix, w_ite, w_ret, w_raise]
    refine (fin_new hr (by show nrL _ = true; exact nrL_ints _)).mpr ?_
    exact q cs (by omega)

end
mutual
theorem Rw.dep_5 : ∀ r : Rw, (∀ q ∈ r.flat, (∀ e ∈ q.exs, e.deep ≤ 5)) → dep r.v ≤ 2 * r.dp + 5
  | .set n e, h => by
    have h1 : e.deep ≤ 5 := h (.set n e) (by simp [Rw.flat]) e (by simp [Rw.exs])
    have := e.dep_le
    simp only [Rw.v, dep, depL, Rw.dp]; omega
  | .say e, h => by
    have h1 : e.deep ≤ 5 := h (.say e) (by simp [Rw.flat]) e (by simp [Rw.exs])
    have := e.dep_le
    simp only [Rw.v, dep, depL, Rw.dp]; omega
  | .call n w as m, h => by
    have h1 : ∀ e ∈ as, e.deep ≤ 5 := fun e he => h (.call n w as m) (by simp [Rw.flat]) e (by simpa [Rw.exs] using he)
    have h2 : depL (as.map Ex.v) ≤ 5 := depL_le.mpr fun v hv => by
      obtain ⟨e, he, rfl⟩ := List.mem_map.mp hv
      have := e.dep_le
      have := h1 e he
      omega
    simp only [Rw.v, dep, depL, Rw.dp]; omega
  | .when e a b, h => by
    have h1 : e.deep ≤ 5 := h (.when e a b) (by simp [Rw.flat]) e (by simp [Rw.exs])
    have := e.dep_le
    have h2 := Rw.deps_5 a fun q hq => h q (by simp [Rw.flat, hq])
    have h3 := Rw.deps_5 b fun q hq => h q (by simp [Rw.flat, hq])
    simp only [Rw.v, dep, depL, Rw.dp]; omega
  | .turn e b, h => by
    have h1 : e.deep ≤ 5 := h (.turn e b) (by simp [Rw.flat]) e (by simp [Rw.exs])
    have := e.dep_le
    have h3 := Rw.deps_5 b fun q hq => h q (by simp [Rw.flat, hq])
    simp only [Rw.v, dep, depL, Rw.dp]; omega
theorem Rw.deps_5 : ∀ l : List Rw, (∀ q ∈ flats l, (∀ e ∈ q.exs, e.deep ≤ 5)) → depL (Rw.vs l) ≤ 2 * dps l + 5
  | [], h => by simp [Rw.vs, depL]
  | r :: t, h => by
    have h2 := Rw.dep_5 r fun q hq => h q (by simp [flats, hq])
    have h3 := Rw.deps_5 t fun q hq => h q (by simp [flats, hq])
    simp only [Rw.vs, depL, dps]; omega
end
theorem ddM_dep {hs : Hs} {d : Dd} (h : DdM hs 9 d) : Mi.dep d.v ≤ 20 := by
  obtain ⟨names, _, _, _, _, hr, hg, _⟩ := h.nm
  have h1 := Rw.deps_5 d.rows fun q hq e he => ((hr q hq).ex e he).deep
  have h2 := plainL_strs d.ps
  have h4 := d.give.dep_le
  have h5 := hg.deep
  have h6 := h.dp
  simp only [Dd.v, Mi.dep, depL, h2.2]
  omega
theorem bkN_same {μ : Mu} {b : List Dd} (h : BkM 9 b) : eqV μ (.tup (b.map Dd.v)) (.tup (b.map Dd.v)) = some true := by
  refine eq_same rfl rfl (bk_plain b) ?_
  have : depL (b.map Dd.v) ≤ 20 := depL_le.mpr fun v hv => by obtain ⟨d, hd, rfl⟩ := List.mem_map.mp hv; exact ddM_dep (h.dd d hd)
  show depL (b.map Dd.v) + 1 ≤ 150
  omega
end Mi
/-! the defs of the law, by name -/
namespace Mi.k43
open PySem (Str)
open Mi
def tab : List (String × Fn) := [("names_in", D.names_in_v2), ("rows_within", D.rows_within), ("read_through", D.read_through), ("rows_of", D.rows_of), ("expressions_of", D.expressions_of), ("row_names", D.row_names), ("deed_names", D.deed_names), ("own_names", D.own_names_v4), ("calls_of", D.calls_of_v2), ("deed_of", D.deed_of), ("called_by", D.called_by_v3), ("mark_gain", D.mark_gain), ("_law_cells", D._law_cells), ("_law_pool", D._law_pool), ("_law_take", D._law_take_v2), ("_law_some", D._law_some), ("_law_value", D._law_value_v2), ("_law_expression", D._law_expression_v2), ("_law_call", D._law_call_v3), ("_law_row", D._law_row_v4), ("_law_rows", D._law_rows_v3), ("_law_book", D._law_book_v4), ("_law_calls", D._law_calls_v2), ("_law_marks", D._law_marks_v2), ("_law_read", D._law_read_v3), ("_law_row_names", D._law_row_names), ("_law_many_own", D._law_many_own), ("_law_due_gain", D._law_due_gain), ("_law_refused", D._law_refused_v2), ("law", D.law_k43)]
def PR : Prog := fun f => (tab.find? fun p => p.1 == f).map (·.2)
theorem pr_names_in : PR "names_in" = some D.names_in_v2 := rfl
theorem pr_rows_within : PR "rows_within" = some D.rows_within := rfl
theorem pr_read_through : PR "read_through" = some D.read_through := rfl
theorem pr_rows_of : PR "rows_of" = some D.rows_of := rfl
theorem pr_expressions_of : PR "expressions_of" = some D.expressions_of := rfl
theorem pr_row_names : PR "row_names" = some D.row_names := rfl
theorem pr_deed_names : PR "deed_names" = some D.deed_names := rfl
theorem pr_own_names : PR "own_names" = some D.own_names_v4 := rfl
theorem pr_calls_of : PR "calls_of" = some D.calls_of_v2 := rfl
theorem pr_deed_of : PR "deed_of" = some D.deed_of := rfl
theorem pr_called_by : PR "called_by" = some D.called_by_v3 := rfl
theorem pr_mark_gain : PR "mark_gain" = some D.mark_gain := rfl
theorem pr__law_cells : PR "_law_cells" = some D._law_cells := rfl
theorem pr__law_pool : PR "_law_pool" = some D._law_pool := rfl
theorem pr__law_take : PR "_law_take" = some D._law_take_v2 := rfl
theorem pr__law_some : PR "_law_some" = some D._law_some := rfl
theorem pr__law_value : PR "_law_value" = some D._law_value_v2 := rfl
theorem pr__law_expression : PR "_law_expression" = some D._law_expression_v2 := rfl
theorem pr__law_call : PR "_law_call" = some D._law_call_v3 := rfl
theorem pr__law_row : PR "_law_row" = some D._law_row_v4 := rfl
theorem pr__law_rows : PR "_law_rows" = some D._law_rows_v3 := rfl
theorem pr__law_book : PR "_law_book" = some D._law_book_v4 := rfl
theorem pr__law_calls : PR "_law_calls" = some D._law_calls_v2 := rfl
theorem pr__law_marks : PR "_law_marks" = some D._law_marks_v2 := rfl
theorem pr__law_read : PR "_law_read" = some D._law_read_v3 := rfl
theorem pr__law_row_names : PR "_law_row_names" = some D._law_row_names := rfl
theorem pr__law_many_own : PR "_law_many_own" = some D._law_many_own := rfl
theorem pr__law_due_gain : PR "_law_due_gain" = some D._law_due_gain := rfl
theorem pr__law_refused : PR "_law_refused" = some D._law_refused_v2 := rfl
theorem pr_law : PR "law" = some D.law_k43 := rfl
end Mi.k43
namespace Mi.k43
open PySem PySem.Spec PyProof.Rows L2 Mi
def top (i : Nat) : Stmt := PySem.Challenge.pw_callfold_k43_gain_of_a_mark.main.body.getD i (.Pass ⟨0, 0, 0, 0⟩)
theorem dd_FoldError : (Str.ofString "FoldError" == ("__debug__" : Str)) = false := by decide +kernel
theorem dc_FoldError : (Str.ofString "FoldError" == ("__classdict__" : Str)) = false := by decide +kernel
theorem dd_NoCall : (Str.ofString "NoCall" == ("__debug__" : Str)) = false := by decide +kernel
theorem dc_NoCall : (Str.ofString "NoCall" == ("__classdict__" : Str)) = false := by decide +kernel
theorem dd_NoDeed : (Str.ofString "NoDeed" == ("__debug__" : Str)) = false := by decide +kernel
theorem dc_NoDeed : (Str.ofString "NoDeed" == ("__classdict__" : Str)) = false := by decide +kernel
theorem dd_NoMark : (Str.ofString "NoMark" == ("__debug__" : Str)) = false := by decide +kernel
theorem dc_NoMark : (Str.ofString "NoMark" == ("__classdict__" : Str)) = false := by decide +kernel
theorem dd_NoRow : (Str.ofString "NoRow" == ("__debug__" : Str)) = false := by decide +kernel
theorem dc_NoRow : (Str.ofString "NoRow" == ("__classdict__" : Str)) = false := by decide +kernel
theorem dd__law_book : (Str.ofString "_law_book" == ("__debug__" : Str)) = false := by decide +kernel
theorem dc__law_book : (Str.ofString "_law_book" == ("__classdict__" : Str)) = false := by decide +kernel
theorem dd__law_call : (Str.ofString "_law_call" == ("__debug__" : Str)) = false := by decide +kernel
theorem dc__law_call : (Str.ofString "_law_call" == ("__classdict__" : Str)) = false := by decide +kernel
theorem dd__law_calls : (Str.ofString "_law_calls" == ("__debug__" : Str)) = false := by decide +kernel
theorem dc__law_calls : (Str.ofString "_law_calls" == ("__classdict__" : Str)) = false := by decide +kernel
theorem dd__law_cells : (Str.ofString "_law_cells" == ("__debug__" : Str)) = false := by decide +kernel
theorem dc__law_cells : (Str.ofString "_law_cells" == ("__classdict__" : Str)) = false := by decide +kernel
theorem dd__law_due_gain : (Str.ofString "_law_due_gain" == ("__debug__" : Str)) = false := by decide +kernel
theorem dc__law_due_gain : (Str.ofString "_law_due_gain" == ("__classdict__" : Str)) = false := by decide +kernel
theorem dd__law_expression : (Str.ofString "_law_expression" == ("__debug__" : Str)) = false := by decide +kernel
theorem dc__law_expression : (Str.ofString "_law_expression" == ("__classdict__" : Str)) = false := by decide +kernel
theorem dd__law_many_own : (Str.ofString "_law_many_own" == ("__debug__" : Str)) = false := by decide +kernel
theorem dc__law_many_own : (Str.ofString "_law_many_own" == ("__classdict__" : Str)) = false := by decide +kernel
theorem dd__law_marks : (Str.ofString "_law_marks" == ("__debug__" : Str)) = false := by decide +kernel
theorem dc__law_marks : (Str.ofString "_law_marks" == ("__classdict__" : Str)) = false := by decide +kernel
theorem dd__law_pool : (Str.ofString "_law_pool" == ("__debug__" : Str)) = false := by decide +kernel
theorem dc__law_pool : (Str.ofString "_law_pool" == ("__classdict__" : Str)) = false := by decide +kernel
theorem dd__law_read : (Str.ofString "_law_read" == ("__debug__" : Str)) = false := by decide +kernel
theorem dc__law_read : (Str.ofString "_law_read" == ("__classdict__" : Str)) = false := by decide +kernel
theorem dd__law_refused : (Str.ofString "_law_refused" == ("__debug__" : Str)) = false := by decide +kernel
theorem dc__law_refused : (Str.ofString "_law_refused" == ("__classdict__" : Str)) = false := by decide +kernel
theorem dd__law_row : (Str.ofString "_law_row" == ("__debug__" : Str)) = false := by decide +kernel
theorem dc__law_row : (Str.ofString "_law_row" == ("__classdict__" : Str)) = false := by decide +kernel
theorem dd__law_row_names : (Str.ofString "_law_row_names" == ("__debug__" : Str)) = false := by decide +kernel
theorem dc__law_row_names : (Str.ofString "_law_row_names" == ("__classdict__" : Str)) = false := by decide +kernel
theorem dd__law_rows : (Str.ofString "_law_rows" == ("__debug__" : Str)) = false := by decide +kernel
theorem dc__law_rows : (Str.ofString "_law_rows" == ("__classdict__" : Str)) = false := by decide +kernel
theorem dd__law_some : (Str.ofString "_law_some" == ("__debug__" : Str)) = false := by decide +kernel
theorem dc__law_some : (Str.ofString "_law_some" == ("__classdict__" : Str)) = false := by decide +kernel
theorem dd__law_take : (Str.ofString "_law_take" == ("__debug__" : Str)) = false := by decide +kernel
theorem dc__law_take : (Str.ofString "_law_take" == ("__classdict__" : Str)) = false := by decide +kernel
theorem dd__law_value : (Str.ofString "_law_value" == ("__debug__" : Str)) = false := by decide +kernel
theorem dc__law_value : (Str.ofString "_law_value" == ("__classdict__" : Str)) = false := by decide +kernel
theorem dd_abs : (Str.ofString "abs" == ("__debug__" : Str)) = false := by decide +kernel
theorem dc_abs : (Str.ofString "abs" == ("__classdict__" : Str)) = false := by decide +kernel
theorem dd_arg : (Str.ofString "arg" == ("__debug__" : Str)) = false := by decide +kernel
theorem dc_arg : (Str.ofString "arg" == ("__classdict__" : Str)) = false := by decide +kernel
theorem dd_args : (Str.ofString "args" == ("__debug__" : Str)) = false := by decide +kernel
theorem dc_args : (Str.ofString "args" == ("__classdict__" : Str)) = false := by decide +kernel
theorem dd_at : (Str.ofString "at" == ("__debug__" : Str)) = false := by decide +kernel
theorem dc_at : (Str.ofString "at" == ("__classdict__" : Str)) = false := by decide +kernel
theorem dd_behind : (Str.ofString "behind" == ("__debug__" : Str)) = false := by decide +kernel
theorem dc_behind : (Str.ofString "behind" == ("__classdict__" : Str)) = false := by decide +kernel
theorem dd_book : (Str.ofString "book" == ("__debug__" : Str)) = false := by decide +kernel
theorem dc_book : (Str.ofString "book" == ("__classdict__" : Str)) = false := by decide +kernel
theorem dd_call : (Str.ofString "call" == ("__debug__" : Str)) = false := by decide +kernel
theorem dc_call : (Str.ofString "call" == ("__classdict__" : Str)) = false := by decide +kernel
theorem dd_called : (Str.ofString "called" == ("__debug__" : Str)) = false := by decide +kernel
theorem dc_called : (Str.ofString "called" == ("__classdict__" : Str)) = false := by decide +kernel
theorem dd_called_by : (Str.ofString "called_by" == ("__debug__" : Str)) = false := by decide +kernel
theorem dc_called_by : (Str.ofString "called_by" == ("__classdict__" : Str)) = false := by decide +kernel
theorem dd_calls_of : (Str.ofString "calls_of" == ("__debug__" : Str)) = false := by decide +kernel
theorem dc_calls_of : (Str.ofString "calls_of" == ("__classdict__" : Str)) = false := by decide +kernel
theorem dd_caught : (Str.ofString "caught" == ("__debug__" : Str)) = false := by decide +kernel
theorem dc_caught : (Str.ofString "caught" == ("__classdict__" : Str)) = false := by decide +kernel
theorem dd_cell : (Str.ofString "cell" == ("__debug__" : Str)) = false := by decide +kernel
theorem dc_cell : (Str.ofString "cell" == ("__classdict__" : Str)) = false := by decide +kernel
theorem dd_cells : (Str.ofString "cells" == ("__debug__" : Str)) = false := by decide +kernel
theorem dc_cells : (Str.ofString "cells" == ("__classdict__" : Str)) = false := by decide +kernel
theorem dd_counts : (Str.ofString "counts" == ("__debug__" : Str)) = false := by decide +kernel
theorem dc_counts : (Str.ofString "counts" == ("__classdict__" : Str)) = false := by decide +kernel
theorem dd_deed : (Str.ofString "deed" == ("__debug__" : Str)) = false := by decide +kernel
theorem dc_deed : (Str.ofString "deed" == ("__classdict__" : Str)) = false := by decide +kernel
theorem dd_deed_names : (Str.ofString "deed_names" == ("__debug__" : Str)) = false := by decide +kernel
theorem dc_deed_names : (Str.ofString "deed_names" == ("__classdict__" : Str)) = false := by decide +kernel
theorem dd_deed_of : (Str.ofString "deed_of" == ("__debug__" : Str)) = false := by decide +kernel
theorem dc_deed_of : (Str.ofString "deed_of" == ("__classdict__" : Str)) = false := by decide +kernel
theorem dd_deeds : (Str.ofString "deeds" == ("__debug__" : Str)) = false := by decide +kernel
theorem dc_deeds : (Str.ofString "deeds" == ("__classdict__" : Str)) = false := by decide +kernel
theorem dd_deep : (Str.ofString "deep" == ("__debug__" : Str)) = false := by decide +kernel
theorem dc_deep : (Str.ofString "deep" == ("__classdict__" : Str)) = false := by decide +kernel
theorem dd_dict : (Str.ofString "dict" == ("__debug__" : Str)) = false := by decide +kernel
theorem dc_dict : (Str.ofString "dict" == ("__classdict__" : Str)) = false := by decide +kernel
theorem dd_e : (Str.ofString "e" == ("__debug__" : Str)) = false := by decide +kernel
theorem dc_e : (Str.ofString "e" == ("__classdict__" : Str)) = false := by decide +kernel
theorem dd_expression : (Str.ofString "expression" == ("__debug__" : Str)) = false := by decide +kernel
theorem dc_expression : (Str.ofString "expression" == ("__classdict__" : Str)) = false := by decide +kernel
theorem dd_expressions_of : (Str.ofString "expressions_of" == ("__debug__" : Str)) = false := by decide +kernel
theorem dc_expressions_of : (Str.ofString "expressions_of" == ("__classdict__" : Str)) = false := by decide +kernel
theorem dd_far : (Str.ofString "far" == ("__debug__" : Str)) = false := by decide +kernel
theorem dc_far : (Str.ofString "far" == ("__classdict__" : Str)) = false := by decide +kernel
theorem dd_found : (Str.ofString "found" == ("__debug__" : Str)) = false := by decide +kernel
theorem dc_found : (Str.ofString "found" == ("__classdict__" : Str)) = false := by decide +kernel
theorem dd_handed : (Str.ofString "handed" == ("__debug__" : Str)) = false := by decide +kernel
theorem dc_handed : (Str.ofString "handed" == ("__classdict__" : Str)) = false := by decide +kernel
theorem dd_heads : (Str.ofString "heads" == ("__debug__" : Str)) = false := by decide +kernel
theorem dc_heads : (Str.ofString "heads" == ("__classdict__" : Str)) = false := by decide +kernel
theorem dd_held : (Str.ofString "held" == ("__debug__" : Str)) = false := by decide +kernel
theorem dc_held : (Str.ofString "held" == ("__classdict__" : Str)) = false := by decide +kernel
theorem dd_int : (Str.ofString "int" == ("__debug__" : Str)) = false := by decide +kernel
theorem dc_int : (Str.ofString "int" == ("__classdict__" : Str)) = false := by decide +kernel
theorem dd_isinstance : (Str.ofString "isinstance" == ("__debug__" : Str)) = false := by decide +kernel
theorem dc_isinstance : (Str.ofString "isinstance" == ("__classdict__" : Str)) = false := by decide +kernel
theorem dd_k : (Str.ofString "k" == ("__debug__" : Str)) = false := by decide +kernel
theorem dc_k : (Str.ofString "k" == ("__classdict__" : Str)) = false := by decide +kernel
theorem dd_len : (Str.ofString "len" == ("__debug__" : Str)) = false := by decide +kernel
theorem dc_len : (Str.ofString "len" == ("__classdict__" : Str)) = false := by decide +kernel
theorem dd_list : (Str.ofString "list" == ("__debug__" : Str)) = false := by decide +kernel
theorem dc_list : (Str.ofString "list" == ("__classdict__" : Str)) = false := by decide +kernel
theorem dd_many : (Str.ofString "many" == ("__debug__" : Str)) = false := by decide +kernel
theorem dc_many : (Str.ofString "many" == ("__classdict__" : Str)) = false := by decide +kernel
theorem dd_mark : (Str.ofString "mark" == ("__debug__" : Str)) = false := by decide +kernel
theorem dc_mark : (Str.ofString "mark" == ("__classdict__" : Str)) = false := by decide +kernel
theorem dd_mark_gain : (Str.ofString "mark_gain" == ("__debug__" : Str)) = false := by decide +kernel
theorem dc_mark_gain : (Str.ofString "mark_gain" == ("__classdict__" : Str)) = false := by decide +kernel
theorem dd_marks : (Str.ofString "marks" == ("__debug__" : Str)) = false := by decide +kernel
theorem dc_marks : (Str.ofString "marks" == ("__classdict__" : Str)) = false := by decide +kernel
theorem dd_menu : (Str.ofString "menu" == ("__debug__" : Str)) = false := by decide +kernel
theorem dc_menu : (Str.ofString "menu" == ("__classdict__" : Str)) = false := by decide +kernel
theorem dd_most : (Str.ofString "most" == ("__debug__" : Str)) = false := by decide +kernel
theorem dc_most : (Str.ofString "most" == ("__classdict__" : Str)) = false := by decide +kernel
theorem dd_name : (Str.ofString "name" == ("__debug__" : Str)) = false := by decide +kernel
theorem dc_name : (Str.ofString "name" == ("__classdict__" : Str)) = false := by decide +kernel
theorem dd_names : (Str.ofString "names" == ("__debug__" : Str)) = false := by decide +kernel
theorem dc_names : (Str.ofString "names" == ("__classdict__" : Str)) = false := by decide +kernel
theorem dd_names_in : (Str.ofString "names_in" == ("__debug__" : Str)) = false := by decide +kernel
theorem dc_names_in : (Str.ofString "names_in" == ("__classdict__" : Str)) = false := by decide +kernel
theorem dd_one : (Str.ofString "one" == ("__debug__" : Str)) = false := by decide +kernel
theorem dc_one : (Str.ofString "one" == ("__classdict__" : Str)) = false := by decide +kernel
theorem dd_other : (Str.ofString "other" == ("__debug__" : Str)) = false := by decide +kernel
theorem dc_other : (Str.ofString "other" == ("__classdict__" : Str)) = false := by decide +kernel
theorem dd_others : (Str.ofString "others" == ("__debug__" : Str)) = false := by decide +kernel
theorem dc_others : (Str.ofString "others" == ("__classdict__" : Str)) = false := by decide +kernel
theorem dd_own_names : (Str.ofString "own_names" == ("__debug__" : Str)) = false := by decide +kernel
theorem dc_own_names : (Str.ofString "own_names" == ("__classdict__" : Str)) = false := by decide +kernel
theorem dd_param : (Str.ofString "param" == ("__debug__" : Str)) = false := by decide +kernel
theorem dc_param : (Str.ofString "param" == ("__classdict__" : Str)) = false := by decide +kernel
theorem dd_params : (Str.ofString "params" == ("__debug__" : Str)) = false := by decide +kernel
theorem dc_params : (Str.ofString "params" == ("__classdict__" : Str)) = false := by decide +kernel
theorem dd_pool : (Str.ofString "pool" == ("__debug__" : Str)) = false := by decide +kernel
theorem dc_pool : (Str.ofString "pool" == ("__classdict__" : Str)) = false := by decide +kernel
theorem dd_price : (Str.ofString "price" == ("__debug__" : Str)) = false := by decide +kernel
theorem dc_price : (Str.ofString "price" == ("__classdict__" : Str)) = false := by decide +kernel
theorem dd_read_through : (Str.ofString "read_through" == ("__debug__" : Str)) = false := by decide +kernel
theorem dc_read_through : (Str.ofString "read_through" == ("__classdict__" : Str)) = false := by decide +kernel
theorem dd_rest : (Str.ofString "rest" == ("__debug__" : Str)) = false := by decide +kernel
theorem dc_rest : (Str.ofString "rest" == ("__classdict__" : Str)) = false := by decide +kernel
theorem dd_row : (Str.ofString "row" == ("__debug__" : Str)) = false := by decide +kernel
theorem dc_row : (Str.ofString "row" == ("__classdict__" : Str)) = false := by decide +kernel
theorem dd_row_names : (Str.ofString "row_names" == ("__debug__" : Str)) = false := by decide +kernel
theorem dc_row_names : (Str.ofString "row_names" == ("__classdict__" : Str)) = false := by decide +kernel
theorem dd_rows : (Str.ofString "rows" == ("__debug__" : Str)) = false := by decide +kernel
theorem dc_rows : (Str.ofString "rows" == ("__classdict__" : Str)) = false := by decide +kernel
theorem dd_rows_of : (Str.ofString "rows_of" == ("__debug__" : Str)) = false := by decide +kernel
theorem dc_rows_of : (Str.ofString "rows_of" == ("__classdict__" : Str)) = false := by decide +kernel
theorem dd_rows_within : (Str.ofString "rows_within" == ("__debug__" : Str)) = false := by decide +kernel
theorem dc_rows_within : (Str.ofString "rows_within" == ("__classdict__" : Str)) = false := by decide +kernel
theorem dd_script : (Str.ofString "script" == ("__debug__" : Str)) = false := by decide +kernel
theorem dc_script : (Str.ofString "script" == ("__classdict__" : Str)) = false := by decide +kernel
theorem dd_set : (Str.ofString "set" == ("__debug__" : Str)) = false := by decide +kernel
theorem dc_set : (Str.ofString "set" == ("__classdict__" : Str)) = false := by decide +kernel
theorem dd_sorted : (Str.ofString "sorted" == ("__debug__" : Str)) = false := by decide +kernel
theorem dc_sorted : (Str.ofString "sorted" == ("__classdict__" : Str)) = false := by decide +kernel
theorem dd_state : (Str.ofString "state" == ("__debug__" : Str)) = false := by decide +kernel
theorem dc_state : (Str.ofString "state" == ("__classdict__" : Str)) = false := by decide +kernel
theorem dd_tuple : (Str.ofString "tuple" == ("__debug__" : Str)) = false := by decide +kernel
theorem dc_tuple : (Str.ofString "tuple" == ("__classdict__" : Str)) = false := by decide +kernel
theorem dd_way : (Str.ofString "way" == ("__debug__" : Str)) = false := by decide +kernel
theorem dc_way : (Str.ofString "way" == ("__classdict__" : Str)) = false := by decide +kernel
theorem dd_word : (Str.ofString "word" == ("__debug__" : Str)) = false := by decide +kernel
theorem dc_word : (Str.ofString "word" == ("__classdict__" : Str)) = false := by decide +kernel
theorem dd_words : (Str.ofString "words" == ("__debug__" : Str)) = false := by decide +kernel
theorem dc_words : (Str.ofString "words" == ("__classdict__" : Str)) = false := by decide +kernel
theorem bt_ValueError : bootBuiltins (Str.ofString "ValueError") = some (.type "ValueError") := by decide +kernel
theorem bt_abs : bootBuiltins (Str.ofString "abs") = some (.builtin "abs") := by decide +kernel
theorem bt_bool : bootBuiltins (Str.ofString "bool") = some (.type "bool") := by decide +kernel
theorem bt_dict : bootBuiltins (Str.ofString "dict") = some (.type "dict") := by decide +kernel
theorem bt_enumerate : bootBuiltins (Str.ofString "enumerate") = some (.type "enumerate") := by decide +kernel
theorem bt_int : bootBuiltins (Str.ofString "int") = some (.type "int") := by decide +kernel
theorem bt_isinstance : bootBuiltins (Str.ofString "isinstance") = some (.builtin "isinstance") := by decide +kernel
theorem bt_len : bootBuiltins (Str.ofString "len") = some (.builtin "len") := by decide +kernel
theorem bt_list : bootBuiltins (Str.ofString "list") = some (.type "list") := by decide +kernel
theorem bt_range : bootBuiltins (Str.ofString "range") = some (.type "range") := by decide +kernel
theorem bt_set : bootBuiltins (Str.ofString "set") = some (.type "set") := by decide +kernel
theorem bt_sorted : bootBuiltins (Str.ofString "sorted") = some (.builtin "sorted") := by decide +kernel
theorem bt_tuple : bootBuiltins (Str.ofString "tuple") = some (.type "tuple") := by decide +kernel
structure Tx (K : Fr) (mg : Str → Option Value) : Prop where
  b_ValueError : mg (Str.ofString "ValueError") = none
  b_abs : mg (Str.ofString "abs") = none
  b_bool : mg (Str.ofString "bool") = none
  b_dict : mg (Str.ofString "dict") = none
  b_enumerate : mg (Str.ofString "enumerate") = none
  b_int : mg (Str.ofString "int") = none
  b_isinstance : mg (Str.ofString "isinstance") = none
  b_len : mg (Str.ofString "len") = none
  b_list : mg (Str.ofString "list") = none
  b_range : mg (Str.ofString "range") = none
  b_set : mg (Str.ofString "set") = none
  b_sorted : mg (Str.ofString "sorted") = none
  b_tuple : mg (Str.ofString "tuple") = none
  zNoDeed : ExcAt K mg "NoDeed"
  zNoMark : ExcAt K mg "NoMark"
  iNoDeed : IsExc K mg "NoDeed"
  iNoMark : IsExc K mg "NoMark"
  cFoldError : ∃ C, mg (Str.ofString "FoldError") = some (.ref C)
  cNoCall : ∃ C, mg (Str.ofString "NoCall") = some (.ref C)
  cNoDeed : ∃ C, mg (Str.ofString "NoDeed") = some (.ref C)
  cNoMark : ∃ C, mg (Str.ofString "NoMark") = some (.ref C)
  cNoRow : ∃ C, mg (Str.ofString "NoRow") = some (.ref C)
structure Tab (P : Program) (w : World) (K : Fr) (mg : Str → Option Value) (base : Heap) (Φ : Ph) (k : Nat) : Prop where
  t_names_in : FnT P w K mg base Φ k "names_in"
  t_rows_within : FnT P w K mg base Φ k "rows_within"
  t_read_through : FnT P w K mg base Φ k "read_through"
  t_rows_of : FnT P w K mg base Φ k "rows_of"
  t_expressions_of : FnT P w K mg base Φ k "expressions_of"
  t_row_names : FnT P w K mg base Φ k "row_names"
  t_deed_names : FnT P w K mg base Φ k "deed_names"
  t_own_names : FnT P w K mg base Φ k "own_names"
  t_calls_of : FnT P w K mg base Φ k "calls_of"
  t_deed_of : FnT P w K mg base Φ k "deed_of"
  t_called_by : FnT P w K mg base Φ k "called_by"
  t_mark_gain : FnT P w K mg base Φ k "mark_gain"
  t__law_cells : FnT P w K mg base Φ k "_law_cells"
  t__law_pool : FnT P w K mg base Φ k "_law_pool"
  t__law_take : FnT P w K mg base Φ k "_law_take"
  t__law_some : FnT P w K mg base Φ k "_law_some"
  t__law_value : FnT P w K mg base Φ k "_law_value"
  t__law_expression : FnT P w K mg base Φ k "_law_expression"
  t__law_call : FnT P w K mg base Φ k "_law_call"
  t__law_row : FnT P w K mg base Φ k "_law_row"
  t__law_rows : FnT P w K mg base Φ k "_law_rows"
  t__law_book : FnT P w K mg base Φ k "_law_book"
  t__law_calls : FnT P w K mg base Φ k "_law_calls"
  t__law_marks : FnT P w K mg base Φ k "_law_marks"
  t__law_read : FnT P w K mg base Φ k "_law_read"
  t__law_row_names : FnT P w K mg base Φ k "_law_row_names"
  t__law_many_own : FnT P w K mg base Φ k "_law_many_own"
  t__law_due_gain : FnT P w K mg base Φ k "_law_due_gain"
  t__law_refused : FnT P w K mg base Φ k "_law_refused"
  t_law : FnT P w K mg base Φ k "law"
abbrev s_names_in : Stmt := top 7
abbrev N_names_in : List Str := [Str.ofString "expression"]
abbrev ps_names_in : List Str := [Str.ofString "expression"]
theorem sc_names_in : FnScope N_names_in ps_names_in (defScope s_names_in) := ⟨rfl, rfl, rfl, by decide +kernel, rfl, by decide +kernel, by decide +kernel⟩
theorem vi_names_in_0 : Vis (defScope s_names_in) (Str.ofString "expression") := .inl (by decide +kernel)
theorem lo_names_in_0 : Loc (defScope s_names_in) (Str.ofString "expression") := .inl (by decide +kernel)
theorem ll_names_in_0 : (defScope s_names_in).names.lookup (Str.ofString "expression") = some .local := by decide +kernel
theorem gl_names_in_names_in : (defScope s_names_in).names.lookup (Str.ofString "names_in") = some .globalImplicit := by decide +kernel
theorem b_names_in {P : Program} {w : World} {K : Fr} {mg : Str → Option Value} {base : Heap} {n k : Nat} (T : Tx K mg) (Tn : Tab P w K mg base (phi PR n) k) (cdv : Value) (A : Around) (outer : List PySem.Env) (s : Shared) (H : Hp) (E : XK) {a : Addr} (hr : Room k (A.deeper (envOfC (Str.ofString "names_in") (defScope s_names_in) s.heap.objs.size a cdv))) :
    SB (cxOf (L2.CX P w) P w K mg base N_names_in (Str.ofString "names_in") (defScope s_names_in) a cdv A outer s H E) (phi PR n) (fun cls d _ H => E cls d H) (defBody s_names_in) D.names_in_v2.body := by
  have hΦ := phi_mono PR n
  have hu := roomH_of hr
  exact (sb_cons hΦ (ss_ite hΦ (st_eq hΦ hu .eq (se_ix hΦ hu (se_vB 0 rfl vi_names_in_0 dd_expression dc_expression) se_int) (se_str (strOk_of "number"))) (sb_one (ss_ret hΦ (SF.val hΦ (sf_lst hΦ sa_nil)))) sb_nil)
  (sb_cons hΦ (ss_ite hΦ (st_eq hΦ hu .eq (se_ix hΦ hu (se_vB 0 rfl vi_names_in_0 dd_expression dc_expression) se_int) (se_str (strOk_of "name"))) (sb_one (ss_ret hΦ (SF.val hΦ (sf_lst hΦ (sa_cons hΦ (se_ix hΦ hu (se_vB 0 rfl vi_names_in_0 dd_expression dc_expression) se_int) sa_nil))))) sb_nil)
  (sb_one (ss_ret hΦ (se_bin hΦ .add (se_call (f := "names_in") (m := .val) hΦ Tn.t_names_in hr (takes_of rfl rfl rfl rfl) gl_names_in_names_in (sa_cons hΦ (se_ix hΦ hu (se_vB 0 rfl vi_names_in_0 dd_expression dc_expression) se_int) sa_nil) dd_names_in) (se_call (f := "names_in") (m := .val) hΦ Tn.t_names_in hr (takes_of rfl rfl rfl rfl) gl_names_in_names_in (sa_cons hΦ (se_ix hΦ hu (se_vB 0 rfl vi_names_in_0 dd_expression dc_expression) se_int) sa_nil) dd_names_in))))))
abbrev s_rows_within : Stmt := top 9
abbrev N_rows_within : List Str := [Str.ofString "row"]
abbrev ps_rows_within : List Str := [Str.ofString "row"]
theorem sc_rows_within : FnScope N_rows_within ps_rows_within (defScope s_rows_within) := ⟨rfl, rfl, rfl, by decide +kernel, rfl, by decide +kernel, by decide +kernel⟩
theorem vi_rows_within_0 : Vis (defScope s_rows_within) (Str.ofString "row") := .inl (by decide +kernel)
theorem lo_rows_within_0 : Loc (defScope s_rows_within) (Str.ofString "row") := .inl (by decide +kernel)
theorem ll_rows_within_0 : (defScope s_rows_within).names.lookup (Str.ofString "row") = some .local := by decide +kernel
theorem b_rows_within {P : Program} {w : World} {K : Fr} {mg : Str → Option Value} {base : Heap} {n k : Nat} (T : Tx K mg) (Tn : Tab P w K mg base (phi PR n) k) (cdv : Value) (A : Around) (outer : List PySem.Env) (s : Shared) (H : Hp) (E : XK) {a : Addr} (hr : Room k (A.deeper (envOfC (Str.ofString "rows_within") (defScope s_rows_within) s.heap.objs.size a cdv))) :
    SB (cxOf (L2.CX P w) P w K mg base N_rows_within (Str.ofString "rows_within") (defScope s_rows_within) a cdv A outer s H E) (phi PR n) (fun cls d _ H => E cls d H) (defBody s_rows_within) D.rows_within.body := by
  have hΦ := phi_mono PR n
  have hu := roomH_of hr
  exact (sb_cons hΦ (ss_ite hΦ (st_eq hΦ hu .eq (se_ix hΦ hu (se_vB 0 rfl vi_rows_within_0 dd_row dc_row) se_int) (se_str (strOk_of "when"))) (sb_one (ss_ret hΦ (se_bin hΦ .add (se_ix hΦ hu (se_vB 0 rfl vi_rows_within_0 dd_row dc_row) se_int) (se_ix hΦ hu (se_vB 0 rfl vi_rows_within_0 dd_row dc_row) se_int)))) sb_nil)
  (sb_cons hΦ (ss_ite hΦ (st_eq hΦ hu .eq (se_ix hΦ hu (se_vB 0 rfl vi_rows_within_0 dd_row dc_row) se_int) (se_str (strOk_of "turn"))) (sb_one (ss_ret hΦ (se_ix hΦ hu (se_vB 0 rfl vi_rows_within_0 dd_row dc_row) se_int))) sb_nil)
  (sb_one (ss_ret hΦ (se_tup hΦ sa_nil)))))
abbrev s_read_through : Stmt := top 10
abbrev N_read_through : List Str := [Str.ofString "rows", Str.ofString "found", Str.ofString "row"]
abbrev ps_read_through : List Str := [Str.ofString "rows"]
theorem sc_read_through : FnScope N_read_through ps_read_through (defScope s_read_through) := ⟨rfl, rfl, rfl, by decide +kernel, rfl, by decide +kernel, by decide +kernel⟩
theorem vi_read_through_0 : Vis (defScope s_read_through) (Str.ofString "rows") := .inl (by decide +kernel)
theorem lo_read_through_0 : Loc (defScope s_read_through) (Str.ofString "rows") := .inl (by decide +kernel)
theorem ll_read_through_0 : (defScope s_read_through).names.lookup (Str.ofString "rows") = some .local := by decide +kernel
theorem vi_read_through_1 : Vis (defScope s_read_through) (Str.ofString "found") := .inl (by decide +kernel)
theorem lo_read_through_1 : Loc (defScope s_read_through) (Str.ofString "found") := .inl (by decide +kernel)
theorem ll_read_through_1 : (defScope s_read_through).names.lookup (Str.ofString "found") = some .local := by decide +kernel
theorem vi_read_through_2 : Vis (defScope s_read_through) (Str.ofString "row") := .inl (by decide +kernel)
theorem lo_read_through_2 : Loc (defScope s_read_through) (Str.ofString "row") := .inl (by decide +kernel)
theorem ll_read_through_2 : (defScope s_read_through).names.lookup (Str.ofString "row") = some .local := by decide +kernel
theorem gl_read_through_read_through : (defScope s_read_through).names.lookup (Str.ofString "read_through") = some .globalImplicit := by decide +kernel
theorem gl_read_through_rows_within : (defScope s_read_through).names.lookup (Str.ofString "rows_within") = some .globalImplicit := by decide +kernel
theorem b_read_through {P : Program} {w : World} {K : Fr} {mg : Str → Option Value} {base : Heap} {n k : Nat} (T : Tx K mg) (Tn : Tab P w K mg base (phi PR n) k) (cdv : Value) (A : Around) (outer : List PySem.Env) (s : Shared) (H : Hp) (E : XK) {a : Addr} (hr : Room k (A.deeper (envOfC (Str.ofString "read_through") (defScope s_read_through) s.heap.objs.size a cdv))) :
    SB (cxOf (L2.CX P w) P w K mg base N_read_through (Str.ofString "read_through") (defScope s_read_through) a cdv A outer s H E) (phi PR n) (fun cls d _ H => E cls d H) (defBody s_read_through) D.read_through.body := by
  have hΦ := phi_mono PR n
  have hu := roomH_of hr
  exact (sb_cons hΦ (ss_asg (i := 1) hΦ sc_read_through.nd rfl (lo_read_through_1) (SF.new hΦ (sf_lst hΦ sa_nil)) rfl (.inl rfl))
  (sb_cons hΦ (ss_for (t := (.n 2)) hΦ (passes_of rfl) rfl (si_e hΦ (se_vB 0 rfl vi_read_through_0 dd_rows dc_rows)) (pg_name (i := 2) sc_read_through.nd rfl (lo_read_through_2) (.inl rfl)) (sb_cons hΦ (ss_ex hΦ (se_append hΦ (se_vB 1 rfl vi_read_through_1 dd_found dc_found) (se_vB 2 rfl vi_read_through_2 dd_row dc_row)))
  (sb_one (ss_ex hΦ (se_extend hΦ (se_vB 1 rfl vi_read_through_1 dd_found dc_found) (se_call (f := "read_through") (m := .val) hΦ Tn.t_read_through hr (takes_of rfl rfl rfl rfl) gl_read_through_read_through (sa_cons hΦ (se_call (f := "rows_within") (m := .val) hΦ Tn.t_rows_within hr (takes_of rfl rfl rfl rfl) gl_read_through_rows_within (sa_cons hΦ (se_vB 2 rfl vi_read_through_2 dd_row dc_row) sa_nil) dd_rows_within) sa_nil) dd_read_through))))))
  (sb_one (ss_ret hΦ (se_vB 1 rfl vi_read_through_1 dd_found dc_found)))))
abbrev s_rows_of : Stmt := top 11
abbrev N_rows_of : List Str := [Str.ofString "deed"]
abbrev ps_rows_of : List Str := [Str.ofString "deed"]
theorem sc_rows_of : FnScope N_rows_of ps_rows_of (defScope s_rows_of) := ⟨rfl, rfl, rfl, by decide +kernel, rfl, by decide +kernel, by decide +kernel⟩
theorem vi_rows_of_0 : Vis (defScope s_rows_of) (Str.ofString "deed") := .inl (by decide +kernel)
theorem lo_rows_of_0 : Loc (defScope s_rows_of) (Str.ofString "deed") := .inl (by decide +kernel)
theorem ll_rows_of_0 : (defScope s_rows_of).names.lookup (Str.ofString "deed") = some .local := by decide +kernel
theorem gl_rows_of_read_through : (defScope s_rows_of).names.lookup (Str.ofString "read_through") = some .globalImplicit := by decide +kernel
theorem b_rows_of {P : Program} {w : World} {K : Fr} {mg : Str → Option Value} {base : Heap} {n k : Nat} (T : Tx K mg) (Tn : Tab P w K mg base (phi PR n) k) (cdv : Value) (A : Around) (outer : List PySem.Env) (s : Shared) (H : Hp) (E : XK) {a : Addr} (hr : Room k (A.deeper (envOfC (Str.ofString "rows_of") (defScope s_rows_of) s.heap.objs.size a cdv))) :
    SB (cxOf (L2.CX P w) P w K mg base N_rows_of (Str.ofString "rows_of") (defScope s_rows_of) a cdv A outer s H E) (phi PR n) (fun cls d _ H => E cls d H) (defBody s_rows_of) D.rows_of.body := by
  have hΦ := phi_mono PR n
  have hu := roomH_of hr
  exact (sb_one (ss_ret hΦ (se_call (f := "read_through") (m := .val) hΦ Tn.t_read_through hr (takes_of rfl rfl rfl rfl) gl_rows_of_read_through (sa_cons hΦ (se_ix hΦ hu (se_vB 0 rfl vi_rows_of_0 dd_deed dc_deed) se_int) sa_nil) dd_read_through)))
abbrev s_expressions_of : Stmt := top 12
abbrev N_expressions_of : List Str := [Str.ofString "row"]
abbrev ps_expressions_of : List Str := [Str.ofString "row"]
theorem sc_expressions_of : FnScope N_expressions_of ps_expressions_of (defScope s_expressions_of) := ⟨rfl, rfl, rfl, by decide +kernel, rfl, by decide +kernel, by decide +kernel⟩
theorem vi_expressions_of_0 : Vis (defScope s_expressions_of) (Str.ofString "row") := .inl (by decide +kernel)
theorem lo_expressions_of_0 : Loc (defScope s_expressions_of) (Str.ofString "row") := .inl (by decide +kernel)
theorem ll_expressions_of_0 : (defScope s_expressions_of).names.lookup (Str.ofString "row") = some .local := by decide +kernel
theorem gl_expressions_of_list : (defScope s_expressions_of).names.lookup (Str.ofString "list") = some .globalImplicit := by decide +kernel
theorem b_expressions_of {P : Program} {w : World} {K : Fr} {mg : Str → Option Value} {base : Heap} {n k : Nat} (T : Tx K mg) (Tn : Tab P w K mg base (phi PR n) k) (cdv : Value) (A : Around) (outer : List PySem.Env) (s : Shared) (H : Hp) (E : XK) {a : Addr} (hr : Room k (A.deeper (envOfC (Str.ofString "expressions_of") (defScope s_expressions_of) s.heap.objs.size a cdv))) :
    SB (cxOf (L2.CX P w) P w K mg base N_expressions_of (Str.ofString "expressions_of") (defScope s_expressions_of) a cdv A outer s H E) (phi PR n) (fun cls d _ H => E cls d H) (defBody s_expressions_of) D.expressions_of.body := by
  have hΦ := phi_mono PR n
  have hu := roomH_of hr
  exact (sb_cons hΦ (ss_ite hΦ (st_eq hΦ hu .eq (se_ix hΦ hu (se_vB 0 rfl vi_expressions_of_0 dd_row dc_row) se_int) (se_str (strOk_of "set"))) (sb_one (ss_ret hΦ (SF.val hΦ (sf_lst hΦ (sa_cons hΦ (se_ix hΦ hu (se_vB 0 rfl vi_expressions_of_0 dd_row dc_row) se_int) sa_nil))))) sb_nil)
  (sb_cons hΦ (ss_ite hΦ (st_eq hΦ hu .eq (se_ix hΦ hu (se_vB 0 rfl vi_expressions_of_0 dd_row dc_row) se_int) (se_str (strOk_of "call"))) (sb_one (ss_ret hΦ (SF.val hΦ (sf_list hΦ gl_expressions_of_list T.b_list bt_list (by decide) dd_list (se_ix hΦ hu (se_vB 0 rfl vi_expressions_of_0 dd_row dc_row) se_int))))) sb_nil)
  (sb_one (ss_ret hΦ (SF.val hΦ (sf_lst hΦ (sa_cons hΦ (se_ix hΦ hu (se_vB 0 rfl vi_expressions_of_0 dd_row dc_row) se_int) sa_nil)))))))
abbrev s_row_names : Stmt := top 13
abbrev N_row_names : List Str := [Str.ofString "row", Str.ofString "found", Str.ofString "expression"]
abbrev ps_row_names : List Str := [Str.ofString "row"]
theorem sc_row_names : FnScope N_row_names ps_row_names (defScope s_row_names) := ⟨rfl, rfl, rfl, by decide +kernel, rfl, by decide +kernel, by decide +kernel⟩
theorem vi_row_names_0 : Vis (defScope s_row_names) (Str.ofString "row") := .inl (by decide +kernel)
theorem lo_row_names_0 : Loc (defScope s_row_names) (Str.ofString "row") := .inl (by decide +kernel)
theorem ll_row_names_0 : (defScope s_row_names).names.lookup (Str.ofString "row") = some .local := by decide +kernel
theorem vi_row_names_1 : Vis (defScope s_row_names) (Str.ofString "found") := .inl (by decide +kernel)
theorem lo_row_names_1 : Loc (defScope s_row_names) (Str.ofString "found") := .inl (by decide +kernel)
theorem ll_row_names_1 : (defScope s_row_names).names.lookup (Str.ofString "found") = some .local := by decide +kernel
theorem vi_row_names_2 : Vis (defScope s_row_names) (Str.ofString "expression") := .inl (by decide +kernel)
theorem lo_row_names_2 : Loc (defScope s_row_names) (Str.ofString "expression") := .inl (by decide +kernel)
theorem ll_row_names_2 : (defScope s_row_names).names.lookup (Str.ofString "expression") = some .local := by decide +kernel
theorem gl_row_names_expressions_of : (defScope s_row_names).names.lookup (Str.ofString "expressions_of") = some .globalImplicit := by decide +kernel
theorem gl_row_names_names_in : (defScope s_row_names).names.lookup (Str.ofString "names_in") = some .globalImplicit := by decide +kernel
theorem b_row_names {P : Program} {w : World} {K : Fr} {mg : Str → Option Value} {base : Heap} {n k : Nat} (T : Tx K mg) (Tn : Tab P w K mg base (phi PR n) k) (cdv : Value) (A : Around) (outer : List PySem.Env) (s : Shared) (H : Hp) (E : XK) {a : Addr} (hr : Room k (A.deeper (envOfC (Str.ofString "row_names") (defScope s_row_names) s.heap.objs.size a cdv))) :
    SB (cxOf (L2.CX P w) P w K mg base N_row_names (Str.ofString "row_names") (defScope s_row_names) a cdv A outer s H E) (phi PR n) (fun cls d _ H => E cls d H) (defBody s_row_names) D.row_names.body := by
  have hΦ := phi_mono PR n
  have hu := roomH_of hr
  exact (sb_cons hΦ (ss_asg (i := 1) hΦ sc_row_names.nd rfl (lo_row_names_1) (SF.new hΦ (sf_lst hΦ sa_nil)) rfl (.inl rfl))
  (sb_cons hΦ (ss_for (t := (.n 2)) hΦ (passes_of rfl) rfl (si_e hΦ (se_call (f := "expressions_of") (m := .val) hΦ Tn.t_expressions_of hr (takes_of rfl rfl rfl rfl) gl_row_names_expressions_of (sa_cons hΦ (se_vB 0 rfl vi_row_names_0 dd_row dc_row) sa_nil) dd_expressions_of)) (pg_name (i := 2) sc_row_names.nd rfl (lo_row_names_2) (.inl rfl)) (sb_one (ss_ex hΦ (se_extend hΦ (se_vB 1 rfl vi_row_names_1 dd_found dc_found) (se_call (f := "names_in") (m := .val) hΦ Tn.t_names_in hr (takes_of rfl rfl rfl rfl) gl_row_names_names_in (sa_cons hΦ (se_vB 2 rfl vi_row_names_2 dd_expression dc_expression) sa_nil) dd_names_in)))))
  (sb_cons hΦ (ss_ite hΦ (st_in hΦ hu .isin (se_ix hΦ hu (se_vB 0 rfl vi_row_names_0 dd_row dc_row) se_int) (se_tup hΦ (sa_cons hΦ (se_str (strOk_of "set")) (sa_cons hΦ (se_str (strOk_of "call")) sa_nil)))) (sb_one (ss_ex hΦ (se_append hΦ (se_vB 1 rfl vi_row_names_1 dd_found dc_found) (se_ix hΦ hu (se_vB 0 rfl vi_row_names_0 dd_row dc_row) se_int)))) sb_nil)
  (sb_one (ss_ret hΦ (se_vB 1 rfl vi_row_names_1 dd_found dc_found))))))
abbrev s_deed_names : Stmt := top 14
abbrev N_deed_names : List Str := [Str.ofString "deed", Str.ofString "found", Str.ofString "row"]
abbrev ps_deed_names : List Str := [Str.ofString "deed"]
theorem sc_deed_names : FnScope N_deed_names ps_deed_names (defScope s_deed_names) := ⟨rfl, rfl, rfl, by decide +kernel, rfl, by decide +kernel, by decide +kernel⟩
theorem vi_deed_names_0 : Vis (defScope s_deed_names) (Str.ofString "deed") := .inl (by decide +kernel)
theorem lo_deed_names_0 : Loc (defScope s_deed_names) (Str.ofString "deed") := .inl (by decide +kernel)
theorem ll_deed_names_0 : (defScope s_deed_names).names.lookup (Str.ofString "deed") = some .local := by decide +kernel
theorem vi_deed_names_1 : Vis (defScope s_deed_names) (Str.ofString "found") := .inl (by decide +kernel)
theorem lo_deed_names_1 : Loc (defScope s_deed_names) (Str.ofString "found") := .inl (by decide +kernel)
theorem ll_deed_names_1 : (defScope s_deed_names).names.lookup (Str.ofString "found") = some .local := by decide +kernel
theorem vi_deed_names_2 : Vis (defScope s_deed_names) (Str.ofString "row") := .inl (by decide +kernel)
theorem lo_deed_names_2 : Loc (defScope s_deed_names) (Str.ofString "row") := .inl (by decide +kernel)
theorem ll_deed_names_2 : (defScope s_deed_names).names.lookup (Str.ofString "row") = some .local := by decide +kernel
theorem gl_deed_names_names_in : (defScope s_deed_names).names.lookup (Str.ofString "names_in") = some .globalImplicit := by decide +kernel
theorem gl_deed_names_row_names : (defScope s_deed_names).names.lookup (Str.ofString "row_names") = some .globalImplicit := by decide +kernel
theorem gl_deed_names_rows_of : (defScope s_deed_names).names.lookup (Str.ofString "rows_of") = some .globalImplicit := by decide +kernel
theorem b_deed_names {P : Program} {w : World} {K : Fr} {mg : Str → Option Value} {base : Heap} {n k : Nat} (T : Tx K mg) (Tn : Tab P w K mg base (phi PR n) k) (cdv : Value) (A : Around) (outer : List PySem.Env) (s : Shared) (H : Hp) (E : XK) {a : Addr} (hr : Room k (A.deeper (envOfC (Str.ofString "deed_names") (defScope s_deed_names) s.heap.objs.size a cdv))) :
    SB (cxOf (L2.CX P w) P w K mg base N_deed_names (Str.ofString "deed_names") (defScope s_deed_names) a cdv A outer s H E) (phi PR n) (fun cls d _ H => E cls d H) (defBody s_deed_names) D.deed_names.body := by
  have hΦ := phi_mono PR n
  have hu := roomH_of hr
  exact (sb_cons hΦ (ss_asg (i := 1) hΦ sc_deed_names.nd rfl (lo_deed_names_1) (SF.new hΦ (sf_lst hΦ sa_nil)) rfl (.inl rfl))
  (sb_cons hΦ (ss_for (t := (.n 2)) hΦ (passes_of rfl) rfl (si_e hΦ (se_call (f := "rows_of") (m := .val) hΦ Tn.t_rows_of hr (takes_of rfl rfl rfl rfl) gl_deed_names_rows_of (sa_cons hΦ (se_vB 0 rfl vi_deed_names_0 dd_deed dc_deed) sa_nil) dd_rows_of)) (pg_name (i := 2) sc_deed_names.nd rfl (lo_deed_names_2) (.inl rfl)) (sb_one (ss_ex hΦ (se_extend hΦ (se_vB 1 rfl vi_deed_names_1 dd_found dc_found) (se_call (f := "row_names") (m := .val) hΦ Tn.t_row_names hr (takes_of rfl rfl rfl rfl) gl_deed_names_row_names (sa_cons hΦ (se_vB 2 rfl vi_deed_names_2 dd_row dc_row) sa_nil) dd_row_names)))))
  (sb_one (ss_ret hΦ (se_bin hΦ .add (se_vB 1 rfl vi_deed_names_1 dd_found dc_found) (se_call (f := "names_in") (m := .val) hΦ Tn.t_names_in hr (takes_of rfl rfl rfl rfl) gl_deed_names_names_in (sa_cons hΦ (se_ix hΦ hu (se_vB 0 rfl vi_deed_names_0 dd_deed dc_deed) se_int) sa_nil) dd_names_in))))))
abbrev s_own_names : Stmt := top 15
abbrev N_own_names : List Str := [Str.ofString "deed", Str.ofString "params", Str.ofString "others", Str.ofString "name"]
abbrev ps_own_names : List Str := [Str.ofString "deed"]
theorem sc_own_names : FnScope N_own_names ps_own_names (defScope s_own_names) := ⟨rfl, rfl, rfl, by decide +kernel, rfl, by decide +kernel, by decide +kernel⟩
theorem vi_own_names_0 : Vis (defScope s_own_names) (Str.ofString "deed") := .inl (by decide +kernel)
theorem lo_own_names_0 : Loc (defScope s_own_names) (Str.ofString "deed") := .inl (by decide +kernel)
theorem ll_own_names_0 : (defScope s_own_names).names.lookup (Str.ofString "deed") = some .local := by decide +kernel
theorem vi_own_names_1 : Vis (defScope s_own_names) (Str.ofString "params") := .inl (by decide +kernel)
theorem lo_own_names_1 : Loc (defScope s_own_names) (Str.ofString "params") := .inl (by decide +kernel)
theorem ll_own_names_1 : (defScope s_own_names).names.lookup (Str.ofString "params") = some .local := by decide +kernel
theorem vi_own_names_2 : Vis (defScope s_own_names) (Str.ofString "others") := .inl (by decide +kernel)
theorem lo_own_names_2 : Loc (defScope s_own_names) (Str.ofString "others") := .inl (by decide +kernel)
theorem ll_own_names_2 : (defScope s_own_names).names.lookup (Str.ofString "others") = some .local := by decide +kernel
theorem vi_own_names_3 : Vis (defScope s_own_names) (Str.ofString "name") := .inl (by decide +kernel)
theorem lo_own_names_3 : Loc (defScope s_own_names) (Str.ofString "name") := .inl (by decide +kernel)
theorem ll_own_names_3 : (defScope s_own_names).names.lookup (Str.ofString "name") = some .local := by decide +kernel
theorem gl_own_names_deed_names : (defScope s_own_names).names.lookup (Str.ofString "deed_names") = some .globalImplicit := by decide +kernel
theorem gl_own_names_list : (defScope s_own_names).names.lookup (Str.ofString "list") = some .globalImplicit := by decide +kernel
theorem gl_own_names_sorted : (defScope s_own_names).names.lookup (Str.ofString "sorted") = some .globalImplicit := by decide +kernel
theorem b_own_names {P : Program} {w : World} {K : Fr} {mg : Str → Option Value} {base : Heap} {n k : Nat} (T : Tx K mg) (Tn : Tab P w K mg base (phi PR n) k) (cdv : Value) (A : Around) (outer : List PySem.Env) (s : Shared) (H : Hp) (E : XK) {a : Addr} (hr : Room k (A.deeper (envOfC (Str.ofString "own_names") (defScope s_own_names) s.heap.objs.size a cdv))) :
    SB (cxOf (L2.CX P w) P w K mg base N_own_names (Str.ofString "own_names") (defScope s_own_names) a cdv A outer s H E) (phi PR n) (fun cls d _ H => E cls d H) (defBody s_own_names) D.own_names_v4.body := by
  have hΦ := phi_mono PR n
  have hu := roomH_of hr
  exact (sb_cons hΦ (ss_asg (i := 1) hΦ sc_own_names.nd rfl (lo_own_names_1) (SF.val hΦ (sf_list hΦ gl_own_names_list T.b_list bt_list (by decide) dd_list (se_ix hΦ hu (se_vB 0 rfl vi_own_names_0 dd_deed dc_deed) se_int))) rfl (.inl rfl))
  (sb_cons hΦ (ss_asg (i := 2) hΦ sc_own_names.nd rfl (lo_own_names_2) (SF.new hΦ sf_dct0) rfl (.inl rfl))
  (sb_cons hΦ (ss_for (t := (.n 3)) hΦ (passes_of rfl) rfl (si_e hΦ (se_call (f := "deed_names") (m := .val) hΦ Tn.t_deed_names hr (takes_of rfl rfl rfl rfl) gl_own_names_deed_names (sa_cons hΦ (se_vB 0 rfl vi_own_names_0 dd_deed dc_deed) sa_nil) dd_deed_names)) (pg_name (i := 3) sc_own_names.nd rfl (lo_own_names_3) (.inl rfl)) (sb_one (ss_ite hΦ (SW.t (sw_and hΦ (st_ntS hΦ (se_str (strOk_of ".")) (se_vB 3 rfl vi_own_names_3 dd_name dc_name)) (sw_and1 (st_in hΦ hu .notin (se_vB 3 rfl vi_own_names_3 dd_name dc_name) (se_vB 1 rfl vi_own_names_1 dd_params dc_params))))) (sb_one (ss_setix hu hΦ se_bl (se_vB 2 rfl vi_own_names_2 dd_others dc_others) (se_vB 3 rfl vi_own_names_3 dd_name dc_name))) sb_nil)))
  (sb_one (ss_ret hΦ (se_bin hΦ .add (se_vB 1 rfl vi_own_names_1 dd_params dc_params) (SF.val hΦ (se_keysS hΦ gl_own_names_sorted T.b_sorted (se_vB 2 rfl vi_own_names_2 dd_others dc_others)))))))))
abbrev s_calls_of : Stmt := top 16
abbrev N_calls_of : List Str := [Str.ofString "deed", Str.ofString "row"]
abbrev ps_calls_of : List Str := [Str.ofString "deed"]
theorem sc_calls_of : FnScope N_calls_of ps_calls_of (defScope s_calls_of) := ⟨rfl, rfl, rfl, by decide +kernel, rfl, by decide +kernel, by decide +kernel⟩
theorem vi_calls_of_0 : Vis (defScope s_calls_of) (Str.ofString "deed") := .inl (by decide +kernel)
theorem lo_calls_of_0 : Loc (defScope s_calls_of) (Str.ofString "deed") := .inl (by decide +kernel)
theorem ll_calls_of_0 : (defScope s_calls_of).names.lookup (Str.ofString "deed") = some .local := by decide +kernel
theorem gl_calls_of_rows_of : (defScope s_calls_of).names.lookup (Str.ofString "rows_of") = some .globalImplicit := by decide +kernel
theorem b_calls_of {P : Program} {w : World} {K : Fr} {mg : Str → Option Value} {base : Heap} {n k : Nat} (T : Tx K mg) (Tn : Tab P w K mg base (phi PR n) k) (cdv : Value) (A : Around) (outer : List PySem.Env) (s : Shared) (H : Hp) (E : XK) {a : Addr} (hr : Room k (A.deeper (envOfC (Str.ofString "calls_of") (defScope s_calls_of) s.heap.objs.size a cdv))) :
    SB (cxOf (L2.CX P w) P w K mg base N_calls_of (Str.ofString "calls_of") (defScope s_calls_of) a cdv A outer s H E) (phi PR n) (fun cls d _ H => E cls d H) (defBody s_calls_of) D.calls_of_v2.body := by
  have hΦ := phi_mono PR n
  have hu := roomH_of hr
  exact (sb_one (ss_ret hΦ (SF.val hΦ (sf_comp (own := [("row", 1)]) (t := (.n 1)) (e := (.tup (.cons (.ix (.v 1) (.c (.int 4))) (.cons (.ix (.v 1) (.c (.int 2))) .nil)))) (cond := (.eq .eq (.ix (.v 1) (.c (.int 0))) (.c (.str (Str.ofString "call"))))) hΦ rfl sc_calls_of.nd (si_e hΦ (se_call (f := "rows_of") (m := .val) hΦ Tn.t_rows_of hr (takes_of rfl rfl rfl rfl) gl_calls_of_rows_of (sa_cons hΦ (se_vB 0 rfl vi_calls_of_0 dd_deed dc_deed) sa_nil) dd_rows_of)) (blkOk_by (N := N_calls_of) (sc := defScope s_calls_of) (by decide +kernel)) (fun _ _ _ _ _ => (pg_name (i := 1) sc_calls_of.nd rfl (.inl rfl) (by first | exact .inr rfl | exact .inl rfl))) (fun _ _ _ _ _ => pts_one (st_eq hΦ hu .eq (se_ix hΦ hu (se_vB 1 rfl (by first | exact .inl rfl | exact .inr (.inl rfl) | exact .inr (.inr rfl)) dd_row dc_row) se_int) (se_str (strOk_of "call")))) (fun _ _ _ _ _ => (se_tup hΦ (sa_cons hΦ (se_ix hΦ hu (se_vB 1 rfl (by first | exact .inl rfl | exact .inr (.inl rfl) | exact .inr (.inr rfl)) dd_row dc_row) se_int) (sa_cons hΦ (se_ix hΦ hu (se_vB 1 rfl (by first | exact .inl rfl | exact .inr (.inl rfl) | exact .inr (.inr rfl)) dd_row dc_row) se_int) sa_nil)))) (by decide)))))
abbrev s_deed_of : Stmt := top 17
abbrev N_deed_of : List Str := [Str.ofString "book", Str.ofString "name", Str.ofString "deed"]
abbrev ps_deed_of : List Str := [Str.ofString "book", Str.ofString "name"]
theorem sc_deed_of : FnScope N_deed_of ps_deed_of (defScope s_deed_of) := ⟨rfl, rfl, rfl, by decide +kernel, rfl, by decide +kernel, by decide +kernel⟩
theorem vi_deed_of_0 : Vis (defScope s_deed_of) (Str.ofString "book") := .inl (by decide +kernel)
theorem lo_deed_of_0 : Loc (defScope s_deed_of) (Str.ofString "book") := .inl (by decide +kernel)
theorem ll_deed_of_0 : (defScope s_deed_of).names.lookup (Str.ofString "book") = some .local := by decide +kernel
theorem vi_deed_of_1 : Vis (defScope s_deed_of) (Str.ofString "name") := .inl (by decide +kernel)
theorem lo_deed_of_1 : Loc (defScope s_deed_of) (Str.ofString "name") := .inl (by decide +kernel)
theorem ll_deed_of_1 : (defScope s_deed_of).names.lookup (Str.ofString "name") = some .local := by decide +kernel
theorem vi_deed_of_2 : Vis (defScope s_deed_of) (Str.ofString "deed") := .inl (by decide +kernel)
theorem lo_deed_of_2 : Loc (defScope s_deed_of) (Str.ofString "deed") := .inl (by decide +kernel)
theorem ll_deed_of_2 : (defScope s_deed_of).names.lookup (Str.ofString "deed") = some .local := by decide +kernel
theorem gl_deed_of_NoDeed : (defScope s_deed_of).names.lookup (Str.ofString "NoDeed") = some .globalImplicit := by decide +kernel
theorem b_deed_of {P : Program} {w : World} {K : Fr} {mg : Str → Option Value} {base : Heap} {n k : Nat} (T : Tx K mg) (Tn : Tab P w K mg base (phi PR n) k) (cdv : Value) (A : Around) (outer : List PySem.Env) (s : Shared) (H : Hp) (E : XK) {a : Addr} (hr : Room k (A.deeper (envOfC (Str.ofString "deed_of") (defScope s_deed_of) s.heap.objs.size a cdv))) :
    SB (cxOf (L2.CX P w) P w K mg base N_deed_of (Str.ofString "deed_of") (defScope s_deed_of) a cdv A outer s H E) (phi PR n) (fun cls d _ H => E cls d H) (defBody s_deed_of) D.deed_of.body := by
  have hΦ := phi_mono PR n
  have hu := roomH_of hr
  obtain ⟨CNoDeed, xNoDeed⟩ := T.zNoDeed
  exact (sb_cons hΦ (ss_for (t := (.n 2)) hΦ (passes_of rfl) rfl (si_e hΦ (se_vB 0 rfl vi_deed_of_0 dd_book dc_book)) (pg_name (i := 2) sc_deed_of.nd rfl (lo_deed_of_2) (.inl rfl)) (sb_one (ss_ite hΦ (st_eq hΦ hu .eq (se_ix hΦ hu (se_vB 2 rfl vi_deed_of_2 dd_deed dc_deed) se_int) (se_vB 1 rfl vi_deed_of_1 dd_name dc_name)) (sb_one (ss_ret hΦ (se_vB 2 rfl vi_deed_of_2 dd_deed dc_deed))) sb_nil)))
  (sb_one (ss_raise (c := "NoDeed") PySem.F.excBase_ValueError xNoDeed.1 xNoDeed.2.1 xNoDeed.2.2.1 (raises_own xNoDeed.2.2.2.1 xNoDeed.2.2.2.2) gl_deed_of_NoDeed T.iNoDeed rfl (takes_of rfl rfl rfl rfl) dd_NoDeed)))
abbrev s_called_by : Stmt := top 19
abbrev N_called_by : List Str := [Str.ofString "book", Str.ofString "found", Str.ofString "deed"]
abbrev ps_called_by : List Str := [Str.ofString "book"]
theorem sc_called_by : FnScope N_called_by ps_called_by (defScope s_called_by) := ⟨rfl, rfl, rfl, by decide +kernel, rfl, by decide +kernel, by decide +kernel⟩
theorem vi_called_by_0 : Vis (defScope s_called_by) (Str.ofString "book") := .inl (by decide +kernel)
theorem lo_called_by_0 : Loc (defScope s_called_by) (Str.ofString "book") := .inl (by decide +kernel)
theorem ll_called_by_0 : (defScope s_called_by).names.lookup (Str.ofString "book") = some .local := by decide +kernel
theorem vi_called_by_1 : Vis (defScope s_called_by) (Str.ofString "found") := .inl (by decide +kernel)
theorem lo_called_by_1 : Loc (defScope s_called_by) (Str.ofString "found") := .inl (by decide +kernel)
theorem ll_called_by_1 : (defScope s_called_by).names.lookup (Str.ofString "found") = some .local := by decide +kernel
theorem vi_called_by_2 : Vis (defScope s_called_by) (Str.ofString "deed") := .inl (by decide +kernel)
theorem lo_called_by_2 : Loc (defScope s_called_by) (Str.ofString "deed") := .inl (by decide +kernel)
theorem ll_called_by_2 : (defScope s_called_by).names.lookup (Str.ofString "deed") = some .local := by decide +kernel
theorem gl_called_by_calls_of : (defScope s_called_by).names.lookup (Str.ofString "calls_of") = some .globalImplicit := by decide +kernel
theorem gl_called_by_dict : (defScope s_called_by).names.lookup (Str.ofString "dict") = some .globalImplicit := by decide +kernel
theorem gl_called_by_sorted : (defScope s_called_by).names.lookup (Str.ofString "sorted") = some .globalImplicit := by decide +kernel
theorem b_called_by {P : Program} {w : World} {K : Fr} {mg : Str → Option Value} {base : Heap} {n k : Nat} (T : Tx K mg) (Tn : Tab P w K mg base (phi PR n) k) (cdv : Value) (A : Around) (outer : List PySem.Env) (s : Shared) (H : Hp) (E : XK) {a : Addr} (hr : Room k (A.deeper (envOfC (Str.ofString "called_by") (defScope s_called_by) s.heap.objs.size a cdv))) :
    SB (cxOf (L2.CX P w) P w K mg base N_called_by (Str.ofString "called_by") (defScope s_called_by) a cdv A outer s H E) (phi PR n) (fun cls d _ H => E cls d H) (defBody s_called_by) D.called_by_v3.body := by
  have hΦ := phi_mono PR n
  have hu := roomH_of hr
  exact (sb_cons hΦ (ss_asg (i := 1) hΦ sc_called_by.nd rfl (lo_called_by_1) (SF.new hΦ (sf_lst hΦ sa_nil)) rfl (.inl rfl))
  (sb_cons hΦ (ss_for (t := (.n 2)) hΦ (passes_of rfl) rfl (si_e hΦ (se_vB 0 rfl vi_called_by_0 dd_book dc_book)) (pg_name (i := 2) sc_called_by.nd rfl (lo_called_by_2) (.inl rfl)) (sb_one (ss_ex hΦ (se_extend hΦ (se_vB 1 rfl vi_called_by_1 dd_found dc_found) (se_call (f := "calls_of") (m := .val) hΦ Tn.t_calls_of hr (takes_of rfl rfl rfl rfl) gl_called_by_calls_of (sa_cons hΦ (se_vB 2 rfl vi_called_by_2 dd_deed dc_deed) sa_nil) dd_calls_of)))))
  (sb_one (ss_ret hΦ (SF.val hΦ (sf_dictP hΦ gl_called_by_dict T.b_dict bt_dict (by decide) dd_dict (SF.val hΦ (sf_sortPr hΦ gl_called_by_sorted T.b_sorted bt_sorted (by decide) dd_sorted (se_vB 1 rfl vi_called_by_1 dd_found dc_found)))))))))
abbrev s_mark_gain : Stmt := top 20
abbrev N_mark_gain : List Str := [Str.ofString "book", Str.ofString "counts", Str.ofString "price", Str.ofString "mark", Str.ofString "called"]
abbrev ps_mark_gain : List Str := [Str.ofString "book", Str.ofString "counts", Str.ofString "price", Str.ofString "mark"]
theorem sc_mark_gain : FnScope N_mark_gain ps_mark_gain (defScope s_mark_gain) := ⟨rfl, rfl, rfl, by decide +kernel, rfl, by decide +kernel, by decide +kernel⟩
theorem vi_mark_gain_0 : Vis (defScope s_mark_gain) (Str.ofString "book") := .inl (by decide +kernel)
theorem lo_mark_gain_0 : Loc (defScope s_mark_gain) (Str.ofString "book") := .inl (by decide +kernel)
theorem ll_mark_gain_0 : (defScope s_mark_gain).names.lookup (Str.ofString "book") = some .local := by decide +kernel
theorem vi_mark_gain_1 : Vis (defScope s_mark_gain) (Str.ofString "counts") := .inl (by decide +kernel)
theorem lo_mark_gain_1 : Loc (defScope s_mark_gain) (Str.ofString "counts") := .inl (by decide +kernel)
theorem ll_mark_gain_1 : (defScope s_mark_gain).names.lookup (Str.ofString "counts") = some .local := by decide +kernel
theorem vi_mark_gain_2 : Vis (defScope s_mark_gain) (Str.ofString "price") := .inl (by decide +kernel)
theorem lo_mark_gain_2 : Loc (defScope s_mark_gain) (Str.ofString "price") := .inl (by decide +kernel)
theorem ll_mark_gain_2 : (defScope s_mark_gain).names.lookup (Str.ofString "price") = some .local := by decide +kernel
theorem vi_mark_gain_3 : Vis (defScope s_mark_gain) (Str.ofString "mark") := .inl (by decide +kernel)
theorem lo_mark_gain_3 : Loc (defScope s_mark_gain) (Str.ofString "mark") := .inl (by decide +kernel)
theorem ll_mark_gain_3 : (defScope s_mark_gain).names.lookup (Str.ofString "mark") = some .local := by decide +kernel
theorem vi_mark_gain_4 : Vis (defScope s_mark_gain) (Str.ofString "called") := .inl (by decide +kernel)
theorem lo_mark_gain_4 : Loc (defScope s_mark_gain) (Str.ofString "called") := .inl (by decide +kernel)
theorem ll_mark_gain_4 : (defScope s_mark_gain).names.lookup (Str.ofString "called") = some .local := by decide +kernel
theorem gl_mark_gain_NoMark : (defScope s_mark_gain).names.lookup (Str.ofString "NoMark") = some .globalImplicit := by decide +kernel
theorem gl_mark_gain_called_by : (defScope s_mark_gain).names.lookup (Str.ofString "called_by") = some .globalImplicit := by decide +kernel
theorem gl_mark_gain_deed_of : (defScope s_mark_gain).names.lookup (Str.ofString "deed_of") = some .globalImplicit := by decide +kernel
theorem gl_mark_gain_len : (defScope s_mark_gain).names.lookup (Str.ofString "len") = some .globalImplicit := by decide +kernel
theorem gl_mark_gain_own_names : (defScope s_mark_gain).names.lookup (Str.ofString "own_names") = some .globalImplicit := by decide +kernel
theorem b_mark_gain {P : Program} {w : World} {K : Fr} {mg : Str → Option Value} {base : Heap} {n k : Nat} (T : Tx K mg) (Tn : Tab P w K mg base (phi PR n) k) (cdv : Value) (A : Around) (outer : List PySem.Env) (s : Shared) (H : Hp) (E : XK) {a : Addr} (hr : Room k (A.deeper (envOfC (Str.ofString "mark_gain") (defScope s_mark_gain) s.heap.objs.size a cdv))) :
    SB (cxOf (L2.CX P w) P w K mg base N_mark_gain (Str.ofString "mark_gain") (defScope s_mark_gain) a cdv A outer s H E) (phi PR n) (fun cls d _ H => E cls d H) (defBody s_mark_gain) D.mark_gain.body := by
  have hΦ := phi_mono PR n
  have hu := roomH_of hr
  obtain ⟨CNoMark, xNoMark⟩ := T.zNoMark
  exact (sb_cons hΦ (ss_asg (i := 4) hΦ sc_mark_gain.nd rfl (lo_mark_gain_4) (se_call (f := "called_by") (m := .val) hΦ Tn.t_called_by hr (takes_of rfl rfl rfl rfl) gl_mark_gain_called_by (sa_cons hΦ (se_vB 0 rfl vi_mark_gain_0 dd_book dc_book) sa_nil) dd_called_by) rfl (.inl rfl))
  (sb_cons hΦ (ss_ite hΦ (st_in hΦ hu .notin (se_vB 3 rfl vi_mark_gain_3 dd_mark dc_mark) (se_vB 4 rfl vi_mark_gain_4 dd_called dc_called)) (sb_one (ss_raise (c := "NoMark") PySem.F.excBase_ValueError xNoMark.1 xNoMark.2.1 xNoMark.2.2.1 (raises_own xNoMark.2.2.2.1 xNoMark.2.2.2.2) gl_mark_gain_NoMark T.iNoMark rfl (takes_of rfl rfl rfl rfl) dd_NoMark)) sb_nil)
  (sb_one (ss_ret hΦ (se_bin hΦ .mul (se_ix hΦ hu (se_vB 1 rfl vi_mark_gain_1 dd_counts dc_counts) (se_vB 3 rfl vi_mark_gain_3 dd_mark dc_mark)) (se_bin hΦ .sub (se_vB 2 rfl vi_mark_gain_2 dd_price dc_price) (se_len hΦ gl_mark_gain_len T.b_len bt_len (by decide) dd_len (se_call (f := "own_names") (m := .val) hΦ Tn.t_own_names hr (takes_of rfl rfl rfl rfl) gl_mark_gain_own_names (sa_cons hΦ (se_call (f := "deed_of") (m := .val) hΦ Tn.t_deed_of hr (takes_of rfl rfl rfl rfl) gl_mark_gain_deed_of (sa_cons hΦ (se_vB 0 rfl vi_mark_gain_0 dd_book dc_book) (sa_cons hΦ (se_ix hΦ hu (se_vB 4 rfl vi_mark_gain_4 dd_called dc_called) (se_vB 3 rfl vi_mark_gain_3 dd_mark dc_mark)) sa_nil)) dd_deed_of) sa_nil) dd_own_names))))))))
abbrev s__law_cells : Stmt := top 22
abbrev N__law_cells : List Str := [Str.ofString "script", Str.ofString "many", Str.ofString "cells", Str.ofString "k", Str.ofString "cell"]
abbrev ps__law_cells : List Str := [Str.ofString "script", Str.ofString "many"]
theorem sc__law_cells : FnScope N__law_cells ps__law_cells (defScope s__law_cells) := ⟨rfl, rfl, rfl, by decide +kernel, rfl, by decide +kernel, by decide +kernel⟩
theorem vi__law_cells_0 : Vis (defScope s__law_cells) (Str.ofString "script") := .inl (by decide +kernel)
theorem lo__law_cells_0 : Loc (defScope s__law_cells) (Str.ofString "script") := .inl (by decide +kernel)
theorem ll__law_cells_0 : (defScope s__law_cells).names.lookup (Str.ofString "script") = some .local := by decide +kernel
theorem vi__law_cells_1 : Vis (defScope s__law_cells) (Str.ofString "many") := .inl (by decide +kernel)
theorem lo__law_cells_1 : Loc (defScope s__law_cells) (Str.ofString "many") := .inl (by decide +kernel)
theorem ll__law_cells_1 : (defScope s__law_cells).names.lookup (Str.ofString "many") = some .local := by decide +kernel
theorem vi__law_cells_2 : Vis (defScope s__law_cells) (Str.ofString "cells") := .inl (by decide +kernel)
theorem lo__law_cells_2 : Loc (defScope s__law_cells) (Str.ofString "cells") := .inl (by decide +kernel)
theorem ll__law_cells_2 : (defScope s__law_cells).names.lookup (Str.ofString "cells") = some .local := by decide +kernel
theorem vi__law_cells_3 : Vis (defScope s__law_cells) (Str.ofString "k") := .inl (by decide +kernel)
theorem lo__law_cells_3 : Loc (defScope s__law_cells) (Str.ofString "k") := .inl (by decide +kernel)
theorem ll__law_cells_3 : (defScope s__law_cells).names.lookup (Str.ofString "k") = some .local := by decide +kernel
theorem vi__law_cells_4 : Vis (defScope s__law_cells) (Str.ofString "cell") := .inl (by decide +kernel)
theorem lo__law_cells_4 : Loc (defScope s__law_cells) (Str.ofString "cell") := .inl (by decide +kernel)
theorem ll__law_cells_4 : (defScope s__law_cells).names.lookup (Str.ofString "cell") = some .local := by decide +kernel
theorem gl__law_cells_enumerate : (defScope s__law_cells).names.lookup (Str.ofString "enumerate") = some .globalImplicit := by decide +kernel
theorem gl__law_cells_list : (defScope s__law_cells).names.lookup (Str.ofString "list") = some .globalImplicit := by decide +kernel
theorem b__law_cells {P : Program} {w : World} {K : Fr} {mg : Str → Option Value} {base : Heap} {n k : Nat} (T : Tx K mg) (Tn : Tab P w K mg base (phi PR n) k) (cdv : Value) (A : Around) (outer : List PySem.Env) (s : Shared) (H : Hp) (E : XK) {a : Addr} (hr : Room k (A.deeper (envOfC (Str.ofString "_law_cells") (defScope s__law_cells) s.heap.objs.size a cdv))) :
    SB (cxOf (L2.CX P w) P w K mg base N__law_cells (Str.ofString "_law_cells") (defScope s__law_cells) a cdv A outer s H E) (phi PR n) (fun cls d _ H => E cls d H) (defBody s__law_cells) D._law_cells.body := by
  have hΦ := phi_mono PR n
  have hu := roomH_of hr
  exact (sb_cons hΦ (ss_asg (i := 2) hΦ sc__law_cells.nd rfl (lo__law_cells_2) (SF.new hΦ (sf_list hΦ gl__law_cells_list T.b_list bt_list (by decide) dd_list (se_sl hΦ (se_vB 0 rfl vi__law_cells_0 dd_script dc_script) so_none (so_some hΦ (se_vB 1 rfl vi__law_cells_1 dd_many dc_many))))) rfl (.inl rfl))
  (sb_cons hΦ (ss_for (t := (.t [(.n 3), (.n 4)])) hΦ (passes_of rfl) rfl (si_enum hΦ gl__law_cells_enumerate T.b_enumerate (se_sl hΦ (se_vB 0 rfl vi__law_cells_0 dd_script dc_script) (so_some hΦ (se_vB 1 rfl vi__law_cells_1 dd_many dc_many)) (so_some hΦ se_int))) (pg_seq rfl (pgs_cons (pg_name (i := 3) sc__law_cells.nd rfl (lo__law_cells_3) (.inl rfl)) (pgs_cons (pg_name (i := 4) sc__law_cells.nd rfl (lo__law_cells_4) (.inl rfl)) pgs_nil))) (sb_one (ss_setix hu hΦ (se_bin hΦ .add (se_bin hΦ .mul (se_ix hΦ hu (se_vB 2 rfl vi__law_cells_2 dd_cells dc_cells) (se_bin hΦ .mod (se_vB 3 rfl vi__law_cells_3 dd_k dc_k) (se_vB 1 rfl vi__law_cells_1 dd_many dc_many))) se_int) (se_vB 4 rfl vi__law_cells_4 dd_cell dc_cell)) (se_vB 2 rfl vi__law_cells_2 dd_cells dc_cells) (se_bin hΦ .mod (se_vB 3 rfl vi__law_cells_3 dd_k dc_k) (se_vB 1 rfl vi__law_cells_1 dd_many dc_many)))))
  (sb_one (ss_ret hΦ (se_vB 2 rfl vi__law_cells_2 dd_cells dc_cells)))))
abbrev s__law_pool : Stmt := top 23
abbrev N__law_pool : List Str := [Str.ofString "cells", Str.ofString "k", Str.ofString "cell", Str.ofString "rest"]
abbrev ps__law_pool : List Str := [Str.ofString "cells", Str.ofString "k"]
theorem sc__law_pool : FnScope N__law_pool ps__law_pool (defScope s__law_pool) := ⟨rfl, rfl, rfl, by decide +kernel, rfl, by decide +kernel, by decide +kernel⟩
theorem vi__law_pool_0 : Vis (defScope s__law_pool) (Str.ofString "cells") := .inl (by decide +kernel)
theorem lo__law_pool_0 : Loc (defScope s__law_pool) (Str.ofString "cells") := .inl (by decide +kernel)
theorem ll__law_pool_0 : (defScope s__law_pool).names.lookup (Str.ofString "cells") = some .local := by decide +kernel
theorem vi__law_pool_1 : Vis (defScope s__law_pool) (Str.ofString "k") := .inl (by decide +kernel)
theorem lo__law_pool_1 : Loc (defScope s__law_pool) (Str.ofString "k") := .inl (by decide +kernel)
theorem ll__law_pool_1 : (defScope s__law_pool).names.lookup (Str.ofString "k") = some .local := by decide +kernel
theorem vi__law_pool_2 : Vis (defScope s__law_pool) (Str.ofString "cell") := .inl (by decide +kernel)
theorem lo__law_pool_2 : Loc (defScope s__law_pool) (Str.ofString "cell") := .inl (by decide +kernel)
theorem ll__law_pool_2 : (defScope s__law_pool).names.lookup (Str.ofString "cell") = some .local := by decide +kernel
theorem vi__law_pool_3 : Vis (defScope s__law_pool) (Str.ofString "rest") := .inl (by decide +kernel)
theorem lo__law_pool_3 : Loc (defScope s__law_pool) (Str.ofString "rest") := .inl (by decide +kernel)
theorem ll__law_pool_3 : (defScope s__law_pool).names.lookup (Str.ofString "rest") = some .local := by decide +kernel
theorem gl__law_pool_abs : (defScope s__law_pool).names.lookup (Str.ofString "abs") = some .globalImplicit := by decide +kernel
theorem gl__law_pool_len : (defScope s__law_pool).names.lookup (Str.ofString "len") = some .globalImplicit := by decide +kernel
theorem b__law_pool {P : Program} {w : World} {K : Fr} {mg : Str → Option Value} {base : Heap} {n k : Nat} (T : Tx K mg) (Tn : Tab P w K mg base (phi PR n) k) (cdv : Value) (A : Around) (outer : List PySem.Env) (s : Shared) (H : Hp) (E : XK) {a : Addr} (hr : Room k (A.deeper (envOfC (Str.ofString "_law_pool") (defScope s__law_pool) s.heap.objs.size a cdv))) :
    SB (cxOf (L2.CX P w) P w K mg base N__law_pool (Str.ofString "_law_pool") (defScope s__law_pool) a cdv A outer s H E) (phi PR n) (fun cls d _ H => E cls d H) (defBody s__law_pool) D._law_pool.body := by
  have hΦ := phi_mono PR n
  have hu := roomH_of hr
  exact (sb_cons hΦ (ss_asg (i := 2) hΦ sc__law_pool.nd rfl (lo__law_pool_2) se_int rfl (.inl rfl))
  (sb_cons hΦ (ss_ite hΦ (st_cmp hΦ .gt (se_len hΦ gl__law_pool_len T.b_len bt_len (by decide) dd_len (se_vB 0 rfl vi__law_pool_0 dd_cells dc_cells)) se_int) (sb_one (ss_asg (i := 2) hΦ sc__law_pool.nd rfl (lo__law_pool_2) (se_bin hΦ .add (se_ix hΦ hu (se_vB 0 rfl vi__law_pool_0 dd_cells dc_cells) (se_bin hΦ .mod (se_vB 1 rfl vi__law_pool_1 dd_k dc_k) (se_len hΦ gl__law_pool_len T.b_len bt_len (by decide) dd_len (se_vB 0 rfl vi__law_pool_0 dd_cells dc_cells)))) (se_bin hΦ .fdiv (se_vB 1 rfl vi__law_pool_1 dd_k dc_k) (se_len hΦ gl__law_pool_len T.b_len bt_len (by decide) dd_len (se_vB 0 rfl vi__law_pool_0 dd_cells dc_cells)))) rfl (.inl rfl))) sb_nil)
  (sb_cons hΦ (ss_asg (i := 3) hΦ sc__law_pool.nd rfl (lo__law_pool_3) se_int rfl (.inl rfl))
  (sb_cons hΦ (ss_ite hΦ (SW.t (sw_or hΦ (st_cmp hΦ .lt (se_vB 2 rfl vi__law_pool_2 dd_cell dc_cell) se_int) (sw_or1 (st_cmp hΦ .ge (se_vB 2 rfl vi__law_pool_2 dd_cell dc_cell) (se_bin hΦ .pow se_int se_int))))) (sb_one (ss_asg (i := 3) hΦ sc__law_pool.nd rfl (lo__law_pool_3) (se_abs hΦ gl__law_pool_abs T.b_abs bt_abs (by decide) dd_abs (se_vB 2 rfl vi__law_pool_2 dd_cell dc_cell)) rfl (.inl rfl))) sb_nil)
  (sb_one (ss_ret hΦ (SF.new hΦ (sf_lst hΦ (sa_cons hΦ (se_vB 3 rfl vi__law_pool_3 dd_rest dc_rest) (sa_cons hΦ (se_bin hΦ .mod (se_bin hΦ .add (se_bin hΦ .mul (se_bin hΦ .mod (se_vB 2 rfl vi__law_pool_2 dd_cell dc_cell) se_int) se_int) (se_bin hΦ .mul (se_bin hΦ .mul se_int (se_bin hΦ .add (se_vB 1 rfl vi__law_pool_1 dd_k dc_k) se_int)) (se_bin hΦ .add (se_vB 1 rfl vi__law_pool_1 dd_k dc_k) se_int))) se_int) sa_nil))))))))))
abbrev s__law_take : Stmt := top 24
abbrev N__law_take : List Str := [Str.ofString "pool", Str.ofString "many", Str.ofString "found"]
abbrev ps__law_take : List Str := [Str.ofString "pool", Str.ofString "many"]
theorem sc__law_take : FnScope N__law_take ps__law_take (defScope s__law_take) := ⟨rfl, rfl, rfl, by decide +kernel, rfl, by decide +kernel, by decide +kernel⟩
theorem vi__law_take_0 : Vis (defScope s__law_take) (Str.ofString "pool") := .inl (by decide +kernel)
theorem lo__law_take_0 : Loc (defScope s__law_take) (Str.ofString "pool") := .inl (by decide +kernel)
theorem ll__law_take_0 : (defScope s__law_take).names.lookup (Str.ofString "pool") = some .local := by decide +kernel
theorem vi__law_take_1 : Vis (defScope s__law_take) (Str.ofString "many") := .inl (by decide +kernel)
theorem lo__law_take_1 : Loc (defScope s__law_take) (Str.ofString "many") := .inl (by decide +kernel)
theorem ll__law_take_1 : (defScope s__law_take).names.lookup (Str.ofString "many") = some .local := by decide +kernel
theorem vi__law_take_2 : Vis (defScope s__law_take) (Str.ofString "found") := .inl (by decide +kernel)
theorem lo__law_take_2 : Loc (defScope s__law_take) (Str.ofString "found") := .inl (by decide +kernel)
theorem ll__law_take_2 : (defScope s__law_take).names.lookup (Str.ofString "found") = some .local := by decide +kernel
theorem b__law_take {P : Program} {w : World} {K : Fr} {mg : Str → Option Value} {base : Heap} {n k : Nat} (T : Tx K mg) (Tn : Tab P w K mg base (phi PR n) k) (cdv : Value) (A : Around) (outer : List PySem.Env) (s : Shared) (H : Hp) (E : XK) {a : Addr} (hr : Room k (A.deeper (envOfC (Str.ofString "_law_take") (defScope s__law_take) s.heap.objs.size a cdv))) :
    SB (cxOf (L2.CX P w) P w K mg base N__law_take (Str.ofString "_law_take") (defScope s__law_take) a cdv A outer s H E) (phi PR n) (fun cls d _ H => E cls d H) (defBody s__law_take) D._law_take_v2.body := by
  have hΦ := phi_mono PR n
  have hu := roomH_of hr
  exact (sb_cons hΦ (ss_ite hΦ (st_cmp hΦ .gt (se_ix hΦ hu (se_vB 0 rfl vi__law_take_0 dd_pool dc_pool) se_int) se_int) (sb_cons hΦ (ss_asg (i := 2) hΦ sc__law_take.nd rfl (lo__law_take_2) (se_bin hΦ .mod (se_ix hΦ hu (se_vB 0 rfl vi__law_take_0 dd_pool dc_pool) se_int) (se_vB 1 rfl vi__law_take_1 dd_many dc_many)) rfl (.inl rfl))
  (sb_cons hΦ (ss_setix hu hΦ (se_bin hΦ .fdiv (se_ix hΦ hu (se_vB 0 rfl vi__law_take_0 dd_pool dc_pool) se_int) (se_vB 1 rfl vi__law_take_1 dd_many dc_many)) (se_vB 0 rfl vi__law_take_0 dd_pool dc_pool) se_int)
  (sb_one (ss_ret hΦ (se_vB 2 rfl vi__law_take_2 dd_found dc_found))))) sb_nil)
  (sb_cons hΦ (ss_setix hu hΦ (se_bin hΦ .mod (se_bin hΦ .add (se_bin hΦ .mul (se_ix hΦ hu (se_vB 0 rfl vi__law_take_0 dd_pool dc_pool) se_int) se_int) se_int) se_int) (se_vB 0 rfl vi__law_take_0 dd_pool dc_pool) se_int)
  (sb_one (ss_ret hΦ (se_bin hΦ .mod (se_bin hΦ .fdiv (se_bin hΦ .mod (se_bin hΦ .mul (se_bin hΦ .mod (se_bin hΦ .mul (se_ix hΦ hu (se_vB 0 rfl vi__law_take_0 dd_pool dc_pool) se_int) (se_ix hΦ hu (se_vB 0 rfl vi__law_take_0 dd_pool dc_pool) se_int)) se_int) se_int) se_int) se_int) (se_vB 1 rfl vi__law_take_1 dd_many dc_many))))))
abbrev s__law_some : Stmt := top 25
abbrev N__law_some : List Str := [Str.ofString "pool", Str.ofString "menu", Str.ofString "many", Str.ofString "rest", Str.ofString "k"]
abbrev ps__law_some : List Str := [Str.ofString "pool", Str.ofString "menu", Str.ofString "many"]
theorem sc__law_some : FnScope N__law_some ps__law_some (defScope s__law_some) := ⟨rfl, rfl, rfl, by decide +kernel, rfl, by decide +kernel, by decide +kernel⟩
theorem vi__law_some_0 : Vis (defScope s__law_some) (Str.ofString "pool") := .inr (.inl (by decide +kernel))
theorem lo__law_some_0 : Loc (defScope s__law_some) (Str.ofString "pool") := .inr (by decide +kernel)
theorem vi__law_some_1 : Vis (defScope s__law_some) (Str.ofString "menu") := .inl (by decide +kernel)
theorem lo__law_some_1 : Loc (defScope s__law_some) (Str.ofString "menu") := .inl (by decide +kernel)
theorem ll__law_some_1 : (defScope s__law_some).names.lookup (Str.ofString "menu") = some .local := by decide +kernel
theorem vi__law_some_2 : Vis (defScope s__law_some) (Str.ofString "many") := .inl (by decide +kernel)
theorem lo__law_some_2 : Loc (defScope s__law_some) (Str.ofString "many") := .inl (by decide +kernel)
theorem ll__law_some_2 : (defScope s__law_some).names.lookup (Str.ofString "many") = some .local := by decide +kernel
theorem vi__law_some_3 : Vis (defScope s__law_some) (Str.ofString "rest") := .inr (.inl (by decide +kernel))
theorem lo__law_some_3 : Loc (defScope s__law_some) (Str.ofString "rest") := .inr (by decide +kernel)
theorem gl__law_some_list : (defScope s__law_some).names.lookup (Str.ofString "list") = some .globalImplicit := by decide +kernel
theorem gl__law_some_range : (defScope s__law_some).names.lookup (Str.ofString "range") = some .globalImplicit := by decide +kernel
theorem b__law_some {P : Program} {w : World} {K : Fr} {mg : Str → Option Value} {base : Heap} {n k : Nat} (T : Tx K mg) (Tn : Tab P w K mg base (phi PR n) k) (cdv : Value) (A : Around) (outer : List PySem.Env) (s : Shared) (H : Hp) (E : XK) {a : Addr} (hr : Room k (A.deeper (envOfC (Str.ofString "_law_some") (defScope s__law_some) s.heap.objs.size a cdv))) :
    SB (cxOf (L2.CX P w) P w K mg base N__law_some (Str.ofString "_law_some") (defScope s__law_some) a cdv A outer s H E) (phi PR n) (fun cls d _ H => E cls d H) (defBody s__law_some) D._law_some.body := by
  have hΦ := phi_mono PR n
  have hu := roomH_of hr
  exact (sb_cons hΦ (ss_asg (i := 3) hΦ sc__law_some.nd rfl (lo__law_some_3) (SF.new hΦ (sf_list hΦ gl__law_some_list T.b_list bt_list (by decide) dd_list (se_vB 1 rfl vi__law_some_1 dd_menu dc_menu))) rfl (.inl rfl))
  (sb_one (ss_ret hΦ (SF.val hΦ (sf_comp (own := [("k", 4)]) (t := (.n 4)) (e := (.me .pop (.v 3) (.cons (.call "_law_take" .val (.cons (.v 0) (.cons (.bi .len (.cons (.v 3) .nil)) .nil))) .nil))) (cond := (.c (.bl true))) hΦ rfl sc__law_some.nd (si_range hΦ gl__law_some_range T.b_range (se_vB 2 rfl vi__law_some_2 dd_many dc_many)) (blkOk_by (N := N__law_some) (sc := defScope s__law_some) (by decide +kernel)) (fun _ _ _ _ _ => (pg_name (i := 4) sc__law_some.nd rfl (.inl rfl) (by first | exact .inr rfl | exact .inl rfl))) (fun _ _ _ _ _ => pts_yes) (fun _ _ _ _ _ => (se_pop1 hΦ (se_vB 3 rfl (by first | exact .inl rfl | exact .inr (.inl rfl) | exact .inr (.inr rfl)) dd_rest dc_rest) (se_call (f := "_law_take") (m := .val) hΦ Tn.t__law_take hr takes0 (by first | rfl | kernel_rfl) (sa_cons hΦ (se_vB 0 rfl (by first | exact .inl rfl | exact .inr (.inl rfl) | exact .inr (.inr rfl)) dd_pool dc_pool) (sa_cons hΦ (se_len hΦ (by first | rfl | kernel_rfl) T.b_len bt_len (by decide) dd_len (se_vB 3 rfl (by first | exact .inl rfl | exact .inr (.inl rfl) | exact .inr (.inr rfl)) dd_rest dc_rest)) sa_nil)) dd__law_take))) (by decide))))))
abbrev s__law_value : Stmt := top 26
abbrev N__law_value : List Str := [Str.ofString "pool", Str.ofString "way"]
abbrev ps__law_value : List Str := [Str.ofString "pool"]
theorem sc__law_value : FnScope N__law_value ps__law_value (defScope s__law_value) := ⟨rfl, rfl, rfl, by decide +kernel, rfl, by decide +kernel, by decide +kernel⟩
theorem vi__law_value_0 : Vis (defScope s__law_value) (Str.ofString "pool") := .inl (by decide +kernel)
theorem lo__law_value_0 : Loc (defScope s__law_value) (Str.ofString "pool") := .inl (by decide +kernel)
theorem ll__law_value_0 : (defScope s__law_value).names.lookup (Str.ofString "pool") = some .local := by decide +kernel
theorem vi__law_value_1 : Vis (defScope s__law_value) (Str.ofString "way") := .inl (by decide +kernel)
theorem lo__law_value_1 : Loc (defScope s__law_value) (Str.ofString "way") := .inl (by decide +kernel)
theorem ll__law_value_1 : (defScope s__law_value).names.lookup (Str.ofString "way") = some .local := by decide +kernel
theorem gl__law_value__law_take : (defScope s__law_value).names.lookup (Str.ofString "_law_take") = some .globalImplicit := by decide +kernel
theorem b__law_value {P : Program} {w : World} {K : Fr} {mg : Str → Option Value} {base : Heap} {n k : Nat} (T : Tx K mg) (Tn : Tab P w K mg base (phi PR n) k) (cdv : Value) (A : Around) (outer : List PySem.Env) (s : Shared) (H : Hp) (E : XK) {a : Addr} (hr : Room k (A.deeper (envOfC (Str.ofString "_law_value") (defScope s__law_value) s.heap.objs.size a cdv))) :
    SB (cxOf (L2.CX P w) P w K mg base N__law_value (Str.ofString "_law_value") (defScope s__law_value) a cdv A outer s H E) (phi PR n) (fun cls d _ H => E cls d H) (defBody s__law_value) D._law_value_v2.body := by
  have hΦ := phi_mono PR n
  have hu := roomH_of hr
  exact (sb_cons hΦ (ss_asg (i := 1) hΦ sc__law_value.nd rfl (lo__law_value_1) (se_call (f := "_law_take") (m := .val) hΦ Tn.t__law_take hr (takes_of rfl rfl rfl rfl) gl__law_value__law_take (sa_cons hΦ (se_vB 0 rfl vi__law_value_0 dd_pool dc_pool) (sa_cons hΦ se_int sa_nil)) dd__law_take) rfl (.inl rfl))
  (sb_cons hΦ (ss_ite hΦ (st_eq hΦ hu .eq (se_vB 1 rfl vi__law_value_1 dd_way dc_way) se_int) (sb_one (ss_ret hΦ se_int)) sb_nil)
  (sb_one (ss_ret hΦ (se_call (f := "_law_take") (m := .val) hΦ Tn.t__law_take hr (takes_of rfl rfl rfl rfl) gl__law_value__law_take (sa_cons hΦ (se_vB 0 rfl vi__law_value_0 dd_pool dc_pool) (sa_cons hΦ (se_ix hΦ hu (SF.val hΦ (sf_lst hΦ (sa_cons hΦ se_int (sa_cons hΦ se_int (sa_cons hΦ se_int sa_nil))))) (se_bin hΦ .mod (se_vB 1 rfl vi__law_value_1 dd_way dc_way) se_int)) sa_nil)) dd__law_take)))))
abbrev s__law_expression : Stmt := top 27
abbrev N__law_expression : List Str := [Str.ofString "pool", Str.ofString "names", Str.ofString "deep", Str.ofString "way", Str.ofString "words", Str.ofString "word", Str.ofString "one"]
abbrev ps__law_expression : List Str := [Str.ofString "pool", Str.ofString "names", Str.ofString "deep"]
theorem sc__law_expression : FnScope N__law_expression ps__law_expression (defScope s__law_expression) := ⟨rfl, rfl, rfl, by decide +kernel, rfl, by decide +kernel, by decide +kernel⟩
theorem vi__law_expression_0 : Vis (defScope s__law_expression) (Str.ofString "pool") := .inl (by decide +kernel)
theorem lo__law_expression_0 : Loc (defScope s__law_expression) (Str.ofString "pool") := .inl (by decide +kernel)
theorem ll__law_expression_0 : (defScope s__law_expression).names.lookup (Str.ofString "pool") = some .local := by decide +kernel
theorem vi__law_expression_1 : Vis (defScope s__law_expression) (Str.ofString "names") := .inl (by decide +kernel)
theorem lo__law_expression_1 : Loc (defScope s__law_expression) (Str.ofString "names") := .inl (by decide +kernel)
theorem ll__law_expression_1 : (defScope s__law_expression).names.lookup (Str.ofString "names") = some .local := by decide +kernel
theorem vi__law_expression_2 : Vis (defScope s__law_expression) (Str.ofString "deep") := .inl (by decide +kernel)
theorem lo__law_expression_2 : Loc (defScope s__law_expression) (Str.ofString "deep") := .inl (by decide +kernel)
theorem ll__law_expression_2 : (defScope s__law_expression).names.lookup (Str.ofString "deep") = some .local := by decide +kernel
theorem vi__law_expression_3 : Vis (defScope s__law_expression) (Str.ofString "way") := .inl (by decide +kernel)
theorem lo__law_expression_3 : Loc (defScope s__law_expression) (Str.ofString "way") := .inl (by decide +kernel)
theorem ll__law_expression_3 : (defScope s__law_expression).names.lookup (Str.ofString "way") = some .local := by decide +kernel
theorem vi__law_expression_4 : Vis (defScope s__law_expression) (Str.ofString "words") := .inl (by decide +kernel)
theorem lo__law_expression_4 : Loc (defScope s__law_expression) (Str.ofString "words") := .inl (by decide +kernel)
theorem ll__law_expression_4 : (defScope s__law_expression).names.lookup (Str.ofString "words") = some .local := by decide +kernel
theorem vi__law_expression_5 : Vis (defScope s__law_expression) (Str.ofString "word") := .inl (by decide +kernel)
theorem lo__law_expression_5 : Loc (defScope s__law_expression) (Str.ofString "word") := .inl (by decide +kernel)
theorem ll__law_expression_5 : (defScope s__law_expression).names.lookup (Str.ofString "word") = some .local := by decide +kernel
theorem vi__law_expression_6 : Vis (defScope s__law_expression) (Str.ofString "one") := .inl (by decide +kernel)
theorem lo__law_expression_6 : Loc (defScope s__law_expression) (Str.ofString "one") := .inl (by decide +kernel)
theorem ll__law_expression_6 : (defScope s__law_expression).names.lookup (Str.ofString "one") = some .local := by decide +kernel
theorem gl__law_expression__law_expression : (defScope s__law_expression).names.lookup (Str.ofString "_law_expression") = some .globalImplicit := by decide +kernel
theorem gl__law_expression__law_take : (defScope s__law_expression).names.lookup (Str.ofString "_law_take") = some .globalImplicit := by decide +kernel
theorem gl__law_expression__law_value : (defScope s__law_expression).names.lookup (Str.ofString "_law_value") = some .globalImplicit := by decide +kernel
theorem gl__law_expression_int : (defScope s__law_expression).names.lookup (Str.ofString "int") = some .globalImplicit := by decide +kernel
theorem gl__law_expression_len : (defScope s__law_expression).names.lookup (Str.ofString "len") = some .globalImplicit := by decide +kernel
theorem b__law_expression {P : Program} {w : World} {K : Fr} {mg : Str → Option Value} {base : Heap} {n k : Nat} (T : Tx K mg) (Tn : Tab P w K mg base (phi PR n) k) (cdv : Value) (A : Around) (outer : List PySem.Env) (s : Shared) (H : Hp) (E : XK) {a : Addr} (hr : Room k (A.deeper (envOfC (Str.ofString "_law_expression") (defScope s__law_expression) s.heap.objs.size a cdv))) :
    SB (cxOf (L2.CX P w) P w K mg base N__law_expression (Str.ofString "_law_expression") (defScope s__law_expression) a cdv A outer s H E) (phi PR n) (fun cls d _ H => E cls d H) (defBody s__law_expression) D._law_expression_v2.body := by
  have hΦ := phi_mono PR n
  have hu := roomH_of hr
  exact (sb_cons hΦ (ss_asg (i := 3) hΦ sc__law_expression.nd rfl (lo__law_expression_3) (se_call (f := "_law_take") (m := .val) hΦ Tn.t__law_take hr (takes_of rfl rfl rfl rfl) gl__law_expression__law_take (sa_cons hΦ (se_vB 0 rfl vi__law_expression_0 dd_pool dc_pool) (sa_cons hΦ se_int sa_nil)) dd__law_take) rfl (.inl rfl))
  (sb_cons hΦ (ss_ite hΦ (SW.t (sw_and hΦ (st_cmp hΦ .gt (se_vB 3 rfl vi__law_expression_3 dd_way dc_way) se_int) (sw_and1 (st_cmp hΦ .lt (se_vB 2 rfl vi__law_expression_2 dd_deep dc_deep) se_int)))) (sb_cons hΦ (ss_asg (i := 4) hΦ sc__law_expression.nd rfl (lo__law_expression_4) (SF.val hΦ (sf_lst hΦ (sa_cons hΦ (se_str (strOk_of "plus")) (sa_cons hΦ (se_str (strOk_of "less")) (sa_cons hΦ (se_str (strOk_of "times")) (sa_cons hΦ (se_str (strOk_of "under")) (sa_cons hΦ (se_str (strOk_of "same")) (sa_cons hΦ (se_str (strOk_of "over")) (sa_cons hΦ (se_str (strOk_of "rest")) sa_nil))))))))) rfl (.inl rfl))
  (sb_cons hΦ (ss_asg (i := 5) hΦ sc__law_expression.nd rfl (lo__law_expression_5) (se_ix hΦ hu (se_vB 4 rfl vi__law_expression_4 dd_words dc_words) (se_call (f := "_law_take") (m := .val) hΦ Tn.t__law_take hr (takes_of rfl rfl rfl rfl) gl__law_expression__law_take (sa_cons hΦ (se_vB 0 rfl vi__law_expression_0 dd_pool dc_pool) (sa_cons hΦ (se_bin hΦ .add se_int (se_bin hΦ .mul se_int (se_intB hΦ gl__law_expression_int T.b_int bt_int (by decide) dd_int (se_eq hΦ hu .eq (se_call (f := "_law_take") (m := .val) hΦ Tn.t__law_take hr (takes_of rfl rfl rfl rfl) gl__law_expression__law_take (sa_cons hΦ (se_vB 0 rfl vi__law_expression_0 dd_pool dc_pool) (sa_cons hΦ se_int sa_nil)) dd__law_take) se_int)))) sa_nil)) dd__law_take)) rfl (.inl rfl))
  (sb_cons hΦ (ss_asg (i := 6) hΦ sc__law_expression.nd rfl (lo__law_expression_6) (se_call (f := "_law_expression") (m := .val) hΦ Tn.t__law_expression hr (takes_of rfl rfl rfl rfl) gl__law_expression__law_expression (sa_cons hΦ (se_vB 0 rfl vi__law_expression_0 dd_pool dc_pool) (sa_cons hΦ (se_vB 1 rfl vi__law_expression_1 dd_names dc_names) (sa_cons hΦ (se_bin hΦ .add (se_vB 2 rfl vi__law_expression_2 dd_deep dc_deep) se_int) sa_nil))) dd__law_expression) rfl (.inl rfl))
  (sb_one (ss_ret hΦ (se_tup hΦ (sa_cons hΦ (se_vB 5 rfl vi__law_expression_5 dd_word dc_word) (sa_cons hΦ (se_vB 6 rfl vi__law_expression_6 dd_one dc_one) (sa_cons hΦ (se_call (f := "_law_expression") (m := .val) hΦ Tn.t__law_expression hr (takes_of rfl rfl rfl rfl) gl__law_expression__law_expression (sa_cons hΦ (se_vB 0 rfl vi__law_expression_0 dd_pool dc_pool) (sa_cons hΦ (se_vB 1 rfl vi__law_expression_1 dd_names dc_names) (sa_cons hΦ (se_bin hΦ .add (se_vB 2 rfl vi__law_expression_2 dd_deep dc_deep) se_int) sa_nil))) dd__law_expression) sa_nil))))))))) sb_nil)
  (sb_cons hΦ (ss_ite hΦ (st_cmp hΦ .lt (se_vB 3 rfl vi__law_expression_3 dd_way dc_way) se_int) (sb_one (ss_ret hΦ (se_tup hΦ (sa_cons hΦ (se_str (strOk_of "name")) (sa_cons hΦ (se_ix hΦ hu (se_vB 1 rfl vi__law_expression_1 dd_names dc_names) (se_call (f := "_law_take") (m := .val) hΦ Tn.t__law_take hr (takes_of rfl rfl rfl rfl) gl__law_expression__law_take (sa_cons hΦ (se_vB 0 rfl vi__law_expression_0 dd_pool dc_pool) (sa_cons hΦ (se_len hΦ gl__law_expression_len T.b_len bt_len (by decide) dd_len (se_vB 1 rfl vi__law_expression_1 dd_names dc_names)) sa_nil)) dd__law_take)) sa_nil))))) sb_nil)
  (sb_one (ss_ret hΦ (se_tup hΦ (sa_cons hΦ (se_str (strOk_of "number")) (sa_cons hΦ (se_call (f := "_law_value") (m := .val) hΦ Tn.t__law_value hr (takes_of rfl rfl rfl rfl) gl__law_expression__law_value (sa_cons hΦ (se_vB 0 rfl vi__law_expression_0 dd_pool dc_pool) sa_nil) dd__law_value) sa_nil))))))))
abbrev s__law_call : Stmt := top 28
abbrev N__law_call : List Str := [Str.ofString "pool", Str.ofString "state", Str.ofString "names", Str.ofString "heads", Str.ofString "at", Str.ofString "behind", Str.ofString "args", Str.ofString "held", Str.ofString "param"]
abbrev ps__law_call : List Str := [Str.ofString "pool", Str.ofString "state", Str.ofString "names"]
theorem sc__law_call : FnScope N__law_call ps__law_call (defScope s__law_call) := ⟨rfl, rfl, rfl, by decide +kernel, rfl, by decide +kernel, by decide +kernel⟩
theorem vi__law_call_0 : Vis (defScope s__law_call) (Str.ofString "pool") := .inr (.inl (by decide +kernel))
theorem lo__law_call_0 : Loc (defScope s__law_call) (Str.ofString "pool") := .inr (by decide +kernel)
theorem vi__law_call_1 : Vis (defScope s__law_call) (Str.ofString "state") := .inl (by decide +kernel)
theorem lo__law_call_1 : Loc (defScope s__law_call) (Str.ofString "state") := .inl (by decide +kernel)
theorem ll__law_call_1 : (defScope s__law_call).names.lookup (Str.ofString "state") = some .local := by decide +kernel
theorem vi__law_call_2 : Vis (defScope s__law_call) (Str.ofString "names") := .inr (.inl (by decide +kernel))
theorem lo__law_call_2 : Loc (defScope s__law_call) (Str.ofString "names") := .inr (by decide +kernel)
theorem vi__law_call_3 : Vis (defScope s__law_call) (Str.ofString "heads") := .inl (by decide +kernel)
theorem lo__law_call_3 : Loc (defScope s__law_call) (Str.ofString "heads") := .inl (by decide +kernel)
theorem ll__law_call_3 : (defScope s__law_call).names.lookup (Str.ofString "heads") = some .local := by decide +kernel
theorem vi__law_call_4 : Vis (defScope s__law_call) (Str.ofString "at") := .inl (by decide +kernel)
theorem lo__law_call_4 : Loc (defScope s__law_call) (Str.ofString "at") := .inl (by decide +kernel)
theorem ll__law_call_4 : (defScope s__law_call).names.lookup (Str.ofString "at") = some .local := by decide +kernel
theorem vi__law_call_5 : Vis (defScope s__law_call) (Str.ofString "behind") := .inl (by decide +kernel)
theorem lo__law_call_5 : Loc (defScope s__law_call) (Str.ofString "behind") := .inl (by decide +kernel)
theorem ll__law_call_5 : (defScope s__law_call).names.lookup (Str.ofString "behind") = some .local := by decide +kernel
theorem vi__law_call_6 : Vis (defScope s__law_call) (Str.ofString "args") := .inl (by decide +kernel)
theorem lo__law_call_6 : Loc (defScope s__law_call) (Str.ofString "args") := .inl (by decide +kernel)
theorem ll__law_call_6 : (defScope s__law_call).names.lookup (Str.ofString "args") = some .local := by decide +kernel
theorem vi__law_call_7 : Vis (defScope s__law_call) (Str.ofString "held") := .inl (by decide +kernel)
theorem lo__law_call_7 : Loc (defScope s__law_call) (Str.ofString "held") := .inl (by decide +kernel)
theorem ll__law_call_7 : (defScope s__law_call).names.lookup (Str.ofString "held") = some .local := by decide +kernel
theorem gl__law_call__law_take : (defScope s__law_call).names.lookup (Str.ofString "_law_take") = some .globalImplicit := by decide +kernel
theorem gl__law_call_len : (defScope s__law_call).names.lookup (Str.ofString "len") = some .globalImplicit := by decide +kernel
theorem gl__law_call_tuple : (defScope s__law_call).names.lookup (Str.ofString "tuple") = some .globalImplicit := by decide +kernel
theorem b__law_call {P : Program} {w : World} {K : Fr} {mg : Str → Option Value} {base : Heap} {n k : Nat} (T : Tx K mg) (Tn : Tab P w K mg base (phi PR n) k) (cdv : Value) (A : Around) (outer : List PySem.Env) (s : Shared) (H : Hp) (E : XK) {a : Addr} (hr : Room k (A.deeper (envOfC (Str.ofString "_law_call") (defScope s__law_call) s.heap.objs.size a cdv))) :
    SB (cxOf (L2.CX P w) P w K mg base N__law_call (Str.ofString "_law_call") (defScope s__law_call) a cdv A outer s H E) (phi PR n) (fun cls d _ H => E cls d H) (defBody s__law_call) D._law_call_v3.body := by
  have hΦ := phi_mono PR n
  have hu := roomH_of hr
  exact (sb_cons hΦ (ss_asg (i := 3) hΦ sc__law_call.nd rfl (lo__law_call_3) (se_ix hΦ hu (se_vB 1 rfl vi__law_call_1 dd_state dc_state) (se_str (strOk_of "heads"))) rfl (.inl rfl))
  (sb_cons hΦ (ss_asg (i := 4) hΦ sc__law_call.nd rfl (lo__law_call_4) (se_call (f := "_law_take") (m := .val) hΦ Tn.t__law_take hr (takes_of rfl rfl rfl rfl) gl__law_call__law_take (sa_cons hΦ (se_vB 0 rfl vi__law_call_0 dd_pool dc_pool) (sa_cons hΦ (se_len hΦ gl__law_call_len T.b_len bt_len (by decide) dd_len (se_vB 3 rfl vi__law_call_3 dd_heads dc_heads)) sa_nil)) dd__law_take) rfl (.inl rfl))
  (sb_cons hΦ (ss_asg (i := 5) hΦ sc__law_call.nd rfl (lo__law_call_5) (se_bin hΦ .sub (se_bin hΦ .sub (se_len hΦ gl__law_call_len T.b_len bt_len (by decide) dd_len (se_vB 3 rfl vi__law_call_3 dd_heads dc_heads)) (se_ix hΦ hu (se_vB 1 rfl vi__law_call_1 dd_state dc_state) (se_str (strOk_of "at")))) se_int) rfl (.inl rfl))
  (sb_cons hΦ (ss_ite hΦ (SW.t (sw_and hΦ (st_cmp hΦ .gt (se_vB 5 rfl vi__law_call_5 dd_behind dc_behind) se_int) (sw_and1 (st_cmp hΦ .gt (se_call (f := "_law_take") (m := .val) hΦ Tn.t__law_take hr (takes_of rfl rfl rfl rfl) gl__law_call__law_take (sa_cons hΦ (se_vB 0 rfl vi__law_call_0 dd_pool dc_pool) (sa_cons hΦ se_int sa_nil)) dd__law_take) se_int)))) (sb_one (ss_asg (i := 4) hΦ sc__law_call.nd rfl (lo__law_call_4) (se_bin hΦ .add (se_bin hΦ .add (se_ix hΦ hu (se_vB 1 rfl vi__law_call_1 dd_state dc_state) (se_str (strOk_of "at"))) se_int) (se_call (f := "_law_take") (m := .val) hΦ Tn.t__law_take hr (takes_of rfl rfl rfl rfl) gl__law_call__law_take (sa_cons hΦ (se_vB 0 rfl vi__law_call_0 dd_pool dc_pool) (sa_cons hΦ (se_vB 5 rfl vi__law_call_5 dd_behind dc_behind) sa_nil)) dd__law_take)) rfl (.inl rfl))) sb_nil)
  (sb_cons hΦ (ss_setix hu hΦ (se_bin hΦ .sub (se_ix hΦ hu (se_vB 1 rfl vi__law_call_1 dd_state dc_state) (se_str (strOk_of "calls"))) se_int) (se_vB 1 rfl vi__law_call_1 dd_state dc_state) (se_str (strOk_of "calls")))
  (sb_cons hΦ (ss_asg (i := 6) hΦ sc__law_call.nd rfl (lo__law_call_6) (se_tuple hΦ gl__law_call_tuple T.b_tuple bt_tuple (by decide) dd_tuple (SF.val hΦ (sf_comp (own := [("param", 8)]) (t := (.n 8)) (e := (.call "_law_expression" .val (.cons (.v 0) (.cons (.v 2) (.cons (.c (.int 3)) .nil))))) (cond := (.c (.bl true))) hΦ rfl sc__law_call.nd (si_e hΦ (se_ix hΦ hu (se_ix hΦ hu (se_vB 3 rfl vi__law_call_3 dd_heads dc_heads) (se_vB 4 rfl vi__law_call_4 dd_at dc_at)) se_int)) (blkOk_by (N := N__law_call) (sc := defScope s__law_call) (by decide +kernel)) (fun _ _ _ _ _ => (pg_name (i := 8) sc__law_call.nd rfl (.inl rfl) (by first | exact .inr rfl | exact .inl rfl))) (fun _ _ _ _ _ => pts_yes) (fun _ _ _ _ _ => (se_call (f := "_law_expression") (m := .val) hΦ Tn.t__law_expression hr takes0 (by first | rfl | kernel_rfl) (sa_cons hΦ (se_vB 0 rfl (by first | exact .inl rfl | exact .inr (.inl rfl) | exact .inr (.inr rfl)) dd_pool dc_pool) (sa_cons hΦ (se_vB 2 rfl (by first | exact .inl rfl | exact .inr (.inl rfl) | exact .inr (.inr rfl)) dd_names dc_names) (sa_cons hΦ se_int sa_nil))) dd__law_expression)) (by decide)))) rfl (.inl rfl))
  (sb_cons hΦ (ss_asg (i := 7) hΦ sc__law_call.nd rfl (lo__law_call_7) (se_ix hΦ hu (se_vB 2 rfl vi__law_call_2 dd_names dc_names) (se_call (f := "_law_take") (m := .val) hΦ Tn.t__law_take hr (takes_of rfl rfl rfl rfl) gl__law_call__law_take (sa_cons hΦ (se_vB 0 rfl vi__law_call_0 dd_pool dc_pool) (sa_cons hΦ (se_len hΦ gl__law_call_len T.b_len bt_len (by decide) dd_len (se_vB 2 rfl vi__law_call_2 dd_names dc_names)) sa_nil)) dd__law_take)) rfl (.inl rfl))
  (sb_one (ss_ret hΦ (se_tup hΦ (sa_cons hΦ (se_str (strOk_of "call")) (sa_cons hΦ (se_vB 7 rfl vi__law_call_7 dd_held dc_held) (sa_cons hΦ (se_ix hΦ hu (se_ix hΦ hu (se_vB 3 rfl vi__law_call_3 dd_heads dc_heads) (se_vB 4 rfl vi__law_call_4 dd_at dc_at)) se_int) (sa_cons hΦ (se_vB 6 rfl vi__law_call_6 dd_args dc_args) (sa_cons hΦ (se_bin hΦ .mod (se_bin hΦ .add (se_ix hΦ hu (se_vB 1 rfl vi__law_call_1 dd_state dc_state) (se_str (strOk_of "first"))) (se_bin hΦ .mul se_int (se_ix hΦ hu (se_vB 1 rfl vi__law_call_1 dd_state dc_state) (se_str (strOk_of "calls"))))) se_int) sa_nil)))))))))))))))
abbrev s__law_row : Stmt := top 29
abbrev N__law_row : List Str := [Str.ofString "pool", Str.ofString "state", Str.ofString "names", Str.ofString "deep", Str.ofString "way", Str.ofString "held", Str.ofString "expression", Str.ofString "rows"]
abbrev ps__law_row : List Str := [Str.ofString "pool", Str.ofString "state", Str.ofString "names", Str.ofString "deep"]
theorem sc__law_row : FnScope N__law_row ps__law_row (defScope s__law_row) := ⟨rfl, rfl, rfl, by decide +kernel, rfl, by decide +kernel, by decide +kernel⟩
theorem vi__law_row_0 : Vis (defScope s__law_row) (Str.ofString "pool") := .inl (by decide +kernel)
theorem lo__law_row_0 : Loc (defScope s__law_row) (Str.ofString "pool") := .inl (by decide +kernel)
theorem ll__law_row_0 : (defScope s__law_row).names.lookup (Str.ofString "pool") = some .local := by decide +kernel
theorem vi__law_row_1 : Vis (defScope s__law_row) (Str.ofString "state") := .inl (by decide +kernel)
theorem lo__law_row_1 : Loc (defScope s__law_row) (Str.ofString "state") := .inl (by decide +kernel)
theorem ll__law_row_1 : (defScope s__law_row).names.lookup (Str.ofString "state") = some .local := by decide +kernel
theorem vi__law_row_2 : Vis (defScope s__law_row) (Str.ofString "names") := .inl (by decide +kernel)
theorem lo__law_row_2 : Loc (defScope s__law_row) (Str.ofString "names") := .inl (by decide +kernel)
theorem ll__law_row_2 : (defScope s__law_row).names.lookup (Str.ofString "names") = some .local := by decide +kernel
theorem vi__law_row_3 : Vis (defScope s__law_row) (Str.ofString "deep") := .inl (by decide +kernel)
theorem lo__law_row_3 : Loc (defScope s__law_row) (Str.ofString "deep") := .inl (by decide +kernel)
theorem ll__law_row_3 : (defScope s__law_row).names.lookup (Str.ofString "deep") = some .local := by decide +kernel
theorem vi__law_row_4 : Vis (defScope s__law_row) (Str.ofString "way") := .inl (by decide +kernel)
theorem lo__law_row_4 : Loc (defScope s__law_row) (Str.ofString "way") := .inl (by decide +kernel)
theorem ll__law_row_4 : (defScope s__law_row).names.lookup (Str.ofString "way") = some .local := by decide +kernel
theorem vi__law_row_5 : Vis (defScope s__law_row) (Str.ofString "held") := .inl (by decide +kernel)
theorem lo__law_row_5 : Loc (defScope s__law_row) (Str.ofString "held") := .inl (by decide +kernel)
theorem ll__law_row_5 : (defScope s__law_row).names.lookup (Str.ofString "held") = some .local := by decide +kernel
theorem vi__law_row_6 : Vis (defScope s__law_row) (Str.ofString "expression") := .inl (by decide +kernel)
theorem lo__law_row_6 : Loc (defScope s__law_row) (Str.ofString "expression") := .inl (by decide +kernel)
theorem ll__law_row_6 : (defScope s__law_row).names.lookup (Str.ofString "expression") = some .local := by decide +kernel
theorem vi__law_row_7 : Vis (defScope s__law_row) (Str.ofString "rows") := .inl (by decide +kernel)
theorem lo__law_row_7 : Loc (defScope s__law_row) (Str.ofString "rows") := .inl (by decide +kernel)
theorem ll__law_row_7 : (defScope s__law_row).names.lookup (Str.ofString "rows") = some .local := by decide +kernel
theorem gl__law_row__law_call : (defScope s__law_row).names.lookup (Str.ofString "_law_call") = some .globalImplicit := by decide +kernel
theorem gl__law_row__law_expression : (defScope s__law_row).names.lookup (Str.ofString "_law_expression") = some .globalImplicit := by decide +kernel
theorem gl__law_row__law_rows : (defScope s__law_row).names.lookup (Str.ofString "_law_rows") = some .globalImplicit := by decide +kernel
theorem gl__law_row__law_take : (defScope s__law_row).names.lookup (Str.ofString "_law_take") = some .globalImplicit := by decide +kernel
theorem gl__law_row_len : (defScope s__law_row).names.lookup (Str.ofString "len") = some .globalImplicit := by decide +kernel
theorem b__law_row {P : Program} {w : World} {K : Fr} {mg : Str → Option Value} {base : Heap} {n k : Nat} (T : Tx K mg) (Tn : Tab P w K mg base (phi PR n) k) (cdv : Value) (A : Around) (outer : List PySem.Env) (s : Shared) (H : Hp) (E : XK) {a : Addr} (hr : Room k (A.deeper (envOfC (Str.ofString "_law_row") (defScope s__law_row) s.heap.objs.size a cdv))) :
    SB (cxOf (L2.CX P w) P w K mg base N__law_row (Str.ofString "_law_row") (defScope s__law_row) a cdv A outer s H E) (phi PR n) (fun cls d _ H => E cls d H) (defBody s__law_row) D._law_row_v4.body := by
  have hΦ := phi_mono PR n
  have hu := roomH_of hr
  exact (sb_cons hΦ (ss_asg (i := 4) hΦ sc__law_row.nd rfl (lo__law_row_4) (se_call (f := "_law_take") (m := .val) hΦ Tn.t__law_take hr (takes_of rfl rfl rfl rfl) gl__law_row__law_take (sa_cons hΦ (se_vB 0 rfl vi__law_row_0 dd_pool dc_pool) (sa_cons hΦ se_int sa_nil)) dd__law_take) rfl (.inl rfl))
  (sb_cons hΦ (ss_setix hu hΦ (se_bin hΦ .sub (se_ix hΦ hu (se_vB 1 rfl vi__law_row_1 dd_state dc_state) (se_str (strOk_of "rows"))) se_int) (se_vB 1 rfl vi__law_row_1 dd_state dc_state) (se_str (strOk_of "rows")))
  (sb_cons hΦ (ss_ite hΦ (SW.t (sw_and hΦ (st_cmp hΦ .lt (se_vB 4 rfl vi__law_row_4 dd_way dc_way) se_int) (sw_and1 (st_cmp hΦ .gt (se_ix hΦ hu (se_vB 1 rfl vi__law_row_1 dd_state dc_state) (se_str (strOk_of "calls"))) se_int)))) (sb_one (ss_ret hΦ (se_call (f := "_law_call") (m := .val) hΦ Tn.t__law_call hr (takes_of rfl rfl rfl rfl) gl__law_row__law_call (sa_cons hΦ (se_vB 0 rfl vi__law_row_0 dd_pool dc_pool) (sa_cons hΦ (se_vB 1 rfl vi__law_row_1 dd_state dc_state) (sa_cons hΦ (se_vB 2 rfl vi__law_row_2 dd_names dc_names) sa_nil))) dd__law_call))) sb_nil)
  (sb_cons hΦ (ss_asg (i := 5) hΦ sc__law_row.nd rfl (lo__law_row_5) (se_ix hΦ hu (se_vB 2 rfl vi__law_row_2 dd_names dc_names) (se_call (f := "_law_take") (m := .val) hΦ Tn.t__law_take hr (takes_of rfl rfl rfl rfl) gl__law_row__law_take (sa_cons hΦ (se_vB 0 rfl vi__law_row_0 dd_pool dc_pool) (sa_cons hΦ (se_len hΦ gl__law_row_len T.b_len bt_len (by decide) dd_len (se_vB 2 rfl vi__law_row_2 dd_names dc_names)) sa_nil)) dd__law_take)) rfl (.inl rfl))
  (sb_cons hΦ (ss_asg (i := 6) hΦ sc__law_row.nd rfl (lo__law_row_6) (se_call (f := "_law_expression") (m := .val) hΦ Tn.t__law_expression hr (takes_of rfl rfl rfl rfl) gl__law_row__law_expression (sa_cons hΦ (se_vB 0 rfl vi__law_row_0 dd_pool dc_pool) (sa_cons hΦ (se_vB 2 rfl vi__law_row_2 dd_names dc_names) (sa_cons hΦ (se_bin hΦ .add se_int (se_call (f := "_law_take") (m := .val) hΦ Tn.t__law_take hr (takes_of rfl rfl rfl rfl) gl__law_row__law_take (sa_cons hΦ (se_vB 0 rfl vi__law_row_0 dd_pool dc_pool) (sa_cons hΦ se_int sa_nil)) dd__law_take)) sa_nil))) dd__law_expression) rfl (.inl rfl))
  (sb_cons hΦ (ss_ite hΦ (SW.t (sw_and hΦ (st_eq hΦ hu .eq (se_vB 4 rfl vi__law_row_4 dd_way dc_way) se_int) (sw_and1 (st_cmp hΦ .lt (se_vB 3 rfl vi__law_row_3 dd_deep dc_deep) se_int)))) (sb_cons hΦ (ss_asg (i := 7) hΦ sc__law_row.nd rfl (lo__law_row_7) (se_call (f := "_law_rows") (m := .val) hΦ Tn.t__law_rows hr (takes_of rfl rfl rfl rfl) gl__law_row__law_rows (sa_cons hΦ (se_vB 0 rfl vi__law_row_0 dd_pool dc_pool) (sa_cons hΦ (se_vB 1 rfl vi__law_row_1 dd_state dc_state) (sa_cons hΦ (se_vB 2 rfl vi__law_row_2 dd_names dc_names) (sa_cons hΦ (se_bin hΦ .add (se_vB 3 rfl vi__law_row_3 dd_deep dc_deep) se_int) sa_nil)))) dd__law_rows) rfl (.inl rfl))
  (sb_one (ss_ret hΦ (se_tup hΦ (sa_cons hΦ (se_str (strOk_of "when")) (sa_cons hΦ (se_vB 6 rfl vi__law_row_6 dd_expression dc_expression) (sa_cons hΦ (se_vB 7 rfl vi__law_row_7 dd_rows dc_rows) (sa_cons hΦ (se_call (f := "_law_rows") (m := .val) hΦ Tn.t__law_rows hr (takes_of rfl rfl rfl rfl) gl__law_row__law_rows (sa_cons hΦ (se_vB 0 rfl vi__law_row_0 dd_pool dc_pool) (sa_cons hΦ (se_vB 1 rfl vi__law_row_1 dd_state dc_state) (sa_cons hΦ (se_vB 2 rfl vi__law_row_2 dd_names dc_names) (sa_cons hΦ (se_bin hΦ .add (se_vB 3 rfl vi__law_row_3 dd_deep dc_deep) se_int) sa_nil)))) dd__law_rows) sa_nil)))))))) sb_nil)
  (sb_cons hΦ (ss_ite hΦ (SW.t (sw_and hΦ (st_eq hΦ hu .eq (se_vB 4 rfl vi__law_row_4 dd_way dc_way) se_int) (sw_and1 (st_cmp hΦ .lt (se_vB 3 rfl vi__law_row_3 dd_deep dc_deep) se_int)))) (sb_cons hΦ (ss_ite hΦ (st_cmp hΦ .gt (se_call (f := "_law_take") (m := .val) hΦ Tn.t__law_take hr (takes_of rfl rfl rfl rfl) gl__law_row__law_take (sa_cons hΦ (se_vB 0 rfl vi__law_row_0 dd_pool dc_pool) (sa_cons hΦ se_int sa_nil)) dd__law_take) se_int) (sb_one (ss_asg (i := 6) hΦ sc__law_row.nd rfl (lo__law_row_6) (se_tup hΦ (sa_cons hΦ (se_str (strOk_of "number")) (sa_cons hΦ (se_call (f := "_law_take") (m := .val) hΦ Tn.t__law_take hr (takes_of rfl rfl rfl rfl) gl__law_row__law_take (sa_cons hΦ (se_vB 0 rfl vi__law_row_0 dd_pool dc_pool) (sa_cons hΦ se_int sa_nil)) dd__law_take) sa_nil))) rfl (.inl rfl))) sb_nil)
  (sb_one (ss_ret hΦ (se_tup hΦ (sa_cons hΦ (se_str (strOk_of "turn")) (sa_cons hΦ (se_vB 6 rfl vi__law_row_6 dd_expression dc_expression) (sa_cons hΦ (se_call (f := "_law_rows") (m := .val) hΦ Tn.t__law_rows hr (takes_of rfl rfl rfl rfl) gl__law_row__law_rows (sa_cons hΦ (se_vB 0 rfl vi__law_row_0 dd_pool dc_pool) (sa_cons hΦ (se_vB 1 rfl vi__law_row_1 dd_state dc_state) (sa_cons hΦ (se_vB 2 rfl vi__law_row_2 dd_names dc_names) (sa_cons hΦ (se_bin hΦ .add (se_vB 3 rfl vi__law_row_3 dd_deep dc_deep) se_int) sa_nil)))) dd__law_rows) sa_nil))))))) sb_nil)
  (sb_cons hΦ (ss_ite hΦ (st_cmp hΦ .lt (se_vB 4 rfl vi__law_row_4 dd_way dc_way) se_int) (sb_one (ss_ret hΦ (se_tup hΦ (sa_cons hΦ (se_str (strOk_of "say")) (sa_cons hΦ (se_vB 6 rfl vi__law_row_6 dd_expression dc_expression) sa_nil))))) sb_nil)
  (sb_one (ss_ret hΦ (se_tup hΦ (sa_cons hΦ (se_str (strOk_of "set")) (sa_cons hΦ (se_vB 5 rfl vi__law_row_5 dd_held dc_held) (sa_cons hΦ (se_vB 6 rfl vi__law_row_6 dd_expression dc_expression) sa_nil))))))))))))))
abbrev s__law_rows : Stmt := top 30
abbrev N__law_rows : List Str := [Str.ofString "pool", Str.ofString "state", Str.ofString "names", Str.ofString "deep", Str.ofString "found", Str.ofString "k"]
abbrev ps__law_rows : List Str := [Str.ofString "pool", Str.ofString "state", Str.ofString "names", Str.ofString "deep"]
theorem sc__law_rows : FnScope N__law_rows ps__law_rows (defScope s__law_rows) := ⟨rfl, rfl, rfl, by decide +kernel, rfl, by decide +kernel, by decide +kernel⟩
theorem vi__law_rows_0 : Vis (defScope s__law_rows) (Str.ofString "pool") := .inl (by decide +kernel)
theorem lo__law_rows_0 : Loc (defScope s__law_rows) (Str.ofString "pool") := .inl (by decide +kernel)
theorem ll__law_rows_0 : (defScope s__law_rows).names.lookup (Str.ofString "pool") = some .local := by decide +kernel
theorem vi__law_rows_1 : Vis (defScope s__law_rows) (Str.ofString "state") := .inl (by decide +kernel)
theorem lo__law_rows_1 : Loc (defScope s__law_rows) (Str.ofString "state") := .inl (by decide +kernel)
theorem ll__law_rows_1 : (defScope s__law_rows).names.lookup (Str.ofString "state") = some .local := by decide +kernel
theorem vi__law_rows_2 : Vis (defScope s__law_rows) (Str.ofString "names") := .inl (by decide +kernel)
theorem lo__law_rows_2 : Loc (defScope s__law_rows) (Str.ofString "names") := .inl (by decide +kernel)
theorem ll__law_rows_2 : (defScope s__law_rows).names.lookup (Str.ofString "names") = some .local := by decide +kernel
theorem vi__law_rows_3 : Vis (defScope s__law_rows) (Str.ofString "deep") := .inl (by decide +kernel)
theorem lo__law_rows_3 : Loc (defScope s__law_rows) (Str.ofString "deep") := .inl (by decide +kernel)
theorem ll__law_rows_3 : (defScope s__law_rows).names.lookup (Str.ofString "deep") = some .local := by decide +kernel
theorem vi__law_rows_4 : Vis (defScope s__law_rows) (Str.ofString "found") := .inl (by decide +kernel)
theorem lo__law_rows_4 : Loc (defScope s__law_rows) (Str.ofString "found") := .inl (by decide +kernel)
theorem ll__law_rows_4 : (defScope s__law_rows).names.lookup (Str.ofString "found") = some .local := by decide +kernel
theorem vi__law_rows_5 : Vis (defScope s__law_rows) (Str.ofString "k") := .inl (by decide +kernel)
theorem lo__law_rows_5 : Loc (defScope s__law_rows) (Str.ofString "k") := .inl (by decide +kernel)
theorem ll__law_rows_5 : (defScope s__law_rows).names.lookup (Str.ofString "k") = some .local := by decide +kernel
theorem gl__law_rows__law_row : (defScope s__law_rows).names.lookup (Str.ofString "_law_row") = some .globalImplicit := by decide +kernel
theorem gl__law_rows__law_take : (defScope s__law_rows).names.lookup (Str.ofString "_law_take") = some .globalImplicit := by decide +kernel
theorem gl__law_rows_range : (defScope s__law_rows).names.lookup (Str.ofString "range") = some .globalImplicit := by decide +kernel
theorem gl__law_rows_tuple : (defScope s__law_rows).names.lookup (Str.ofString "tuple") = some .globalImplicit := by decide +kernel
theorem b__law_rows {P : Program} {w : World} {K : Fr} {mg : Str → Option Value} {base : Heap} {n k : Nat} (T : Tx K mg) (Tn : Tab P w K mg base (phi PR n) k) (cdv : Value) (A : Around) (outer : List PySem.Env) (s : Shared) (H : Hp) (E : XK) {a : Addr} (hr : Room k (A.deeper (envOfC (Str.ofString "_law_rows") (defScope s__law_rows) s.heap.objs.size a cdv))) :
    SB (cxOf (L2.CX P w) P w K mg base N__law_rows (Str.ofString "_law_rows") (defScope s__law_rows) a cdv A outer s H E) (phi PR n) (fun cls d _ H => E cls d H) (defBody s__law_rows) D._law_rows_v3.body := by
  have hΦ := phi_mono PR n
  have hu := roomH_of hr
  exact (sb_cons hΦ (ss_asg (i := 4) hΦ sc__law_rows.nd rfl (lo__law_rows_4) (SF.new hΦ (sf_lst hΦ sa_nil)) rfl (.inl rfl))
  (sb_cons hΦ (ss_for (t := (.n 5)) hΦ (passes_of rfl) rfl (si_range hΦ gl__law_rows_range T.b_range (se_call (f := "_law_take") (m := .val) hΦ Tn.t__law_take hr (takes_of rfl rfl rfl rfl) gl__law_rows__law_take (sa_cons hΦ (se_vB 0 rfl vi__law_rows_0 dd_pool dc_pool) (sa_cons hΦ (se_ix hΦ hu (SF.val hΦ (sf_lst hΦ (sa_cons hΦ se_int (sa_cons hΦ se_int (sa_cons hΦ se_int (sa_cons hΦ se_int sa_nil)))))) (se_vB 3 rfl vi__law_rows_3 dd_deep dc_deep)) sa_nil)) dd__law_take)) (pg_name (i := 5) sc__law_rows.nd rfl (lo__law_rows_5) (.inl rfl)) (sb_one (ss_ite hΦ (st_cmp hΦ .gt (se_ix hΦ hu (se_vB 1 rfl vi__law_rows_1 dd_state dc_state) (se_str (strOk_of "rows"))) se_int) (sb_one (ss_ex hΦ (se_append hΦ (se_vB 4 rfl vi__law_rows_4 dd_found dc_found) (se_call (f := "_law_row") (m := .val) hΦ Tn.t__law_row hr (takes_of rfl rfl rfl rfl) gl__law_rows__law_row (sa_cons hΦ (se_vB 0 rfl vi__law_rows_0 dd_pool dc_pool) (sa_cons hΦ (se_vB 1 rfl vi__law_rows_1 dd_state dc_state) (sa_cons hΦ (se_vB 2 rfl vi__law_rows_2 dd_names dc_names) (sa_cons hΦ (se_vB 3 rfl vi__law_rows_3 dd_deep dc_deep) sa_nil)))) dd__law_row)))) sb_nil)))
  (sb_one (ss_ret hΦ (se_tuple hΦ gl__law_rows_tuple T.b_tuple bt_tuple (by decide) dd_tuple (se_vB 4 rfl vi__law_rows_4 dd_found dc_found))))))
abbrev s__law_book : Stmt := top 31
abbrev N__law_book : List Str := [Str.ofString "cells", Str.ofString "most", Str.ofString "pool", Str.ofString "menu", Str.ofString "deeds", Str.ofString "heads", Str.ofString "many", Str.ofString "name", Str.ofString "state", Str.ofString "found", Str.ofString "k", Str.ofString "params", Str.ofString "names", Str.ofString "rows", Str.ofString "word"]
abbrev ps__law_book : List Str := [Str.ofString "cells", Str.ofString "most"]
theorem sc__law_book : FnScope N__law_book ps__law_book (defScope s__law_book) := ⟨rfl, rfl, rfl, by decide +kernel, rfl, by decide +kernel, by decide +kernel⟩
theorem vi__law_book_0 : Vis (defScope s__law_book) (Str.ofString "cells") := .inl (by decide +kernel)
theorem lo__law_book_0 : Loc (defScope s__law_book) (Str.ofString "cells") := .inl (by decide +kernel)
theorem ll__law_book_0 : (defScope s__law_book).names.lookup (Str.ofString "cells") = some .local := by decide +kernel
theorem vi__law_book_1 : Vis (defScope s__law_book) (Str.ofString "most") := .inl (by decide +kernel)
theorem lo__law_book_1 : Loc (defScope s__law_book) (Str.ofString "most") := .inl (by decide +kernel)
theorem ll__law_book_1 : (defScope s__law_book).names.lookup (Str.ofString "most") = some .local := by decide +kernel
theorem vi__law_book_2 : Vis (defScope s__law_book) (Str.ofString "pool") := .inl (by decide +kernel)
theorem lo__law_book_2 : Loc (defScope s__law_book) (Str.ofString "pool") := .inl (by decide +kernel)
theorem ll__law_book_2 : (defScope s__law_book).names.lookup (Str.ofString "pool") = some .local := by decide +kernel
theorem vi__law_book_3 : Vis (defScope s__law_book) (Str.ofString "menu") := .inl (by decide +kernel)
theorem lo__law_book_3 : Loc (defScope s__law_book) (Str.ofString "menu") := .inl (by decide +kernel)
theorem ll__law_book_3 : (defScope s__law_book).names.lookup (Str.ofString "menu") = some .local := by decide +kernel
theorem vi__law_book_4 : Vis (defScope s__law_book) (Str.ofString "deeds") := .inl (by decide +kernel)
theorem lo__law_book_4 : Loc (defScope s__law_book) (Str.ofString "deeds") := .inl (by decide +kernel)
theorem ll__law_book_4 : (defScope s__law_book).names.lookup (Str.ofString "deeds") = some .local := by decide +kernel
theorem vi__law_book_5 : Vis (defScope s__law_book) (Str.ofString "heads") := .inl (by decide +kernel)
theorem lo__law_book_5 : Loc (defScope s__law_book) (Str.ofString "heads") := .inl (by decide +kernel)
theorem ll__law_book_5 : (defScope s__law_book).names.lookup (Str.ofString "heads") = some .local := by decide +kernel
theorem vi__law_book_6 : Vis (defScope s__law_book) (Str.ofString "many") := .inl (by decide +kernel)
theorem lo__law_book_6 : Loc (defScope s__law_book) (Str.ofString "many") := .inl (by decide +kernel)
theorem ll__law_book_6 : (defScope s__law_book).names.lookup (Str.ofString "many") = some .local := by decide +kernel
theorem vi__law_book_7 : Vis (defScope s__law_book) (Str.ofString "name") := .inl (by decide +kernel)
theorem lo__law_book_7 : Loc (defScope s__law_book) (Str.ofString "name") := .inl (by decide +kernel)
theorem ll__law_book_7 : (defScope s__law_book).names.lookup (Str.ofString "name") = some .local := by decide +kernel
theorem vi__law_book_8 : Vis (defScope s__law_book) (Str.ofString "state") := .inl (by decide +kernel)
theorem lo__law_book_8 : Loc (defScope s__law_book) (Str.ofString "state") := .inl (by decide +kernel)
theorem ll__law_book_8 : (defScope s__law_book).names.lookup (Str.ofString "state") = some .local := by decide +kernel
theorem vi__law_book_9 : Vis (defScope s__law_book) (Str.ofString "found") := .inl (by decide +kernel)
theorem lo__law_book_9 : Loc (defScope s__law_book) (Str.ofString "found") := .inl (by decide +kernel)
theorem ll__law_book_9 : (defScope s__law_book).names.lookup (Str.ofString "found") = some .local := by decide +kernel
theorem vi__law_book_10 : Vis (defScope s__law_book) (Str.ofString "k") := .inl (by decide +kernel)
theorem lo__law_book_10 : Loc (defScope s__law_book) (Str.ofString "k") := .inl (by decide +kernel)
theorem ll__law_book_10 : (defScope s__law_book).names.lookup (Str.ofString "k") = some .local := by decide +kernel
theorem vi__law_book_11 : Vis (defScope s__law_book) (Str.ofString "params") := .inr (.inl (by decide +kernel))
theorem lo__law_book_11 : Loc (defScope s__law_book) (Str.ofString "params") := .inr (by decide +kernel)
theorem vi__law_book_12 : Vis (defScope s__law_book) (Str.ofString "names") := .inl (by decide +kernel)
theorem lo__law_book_12 : Loc (defScope s__law_book) (Str.ofString "names") := .inl (by decide +kernel)
theorem ll__law_book_12 : (defScope s__law_book).names.lookup (Str.ofString "names") = some .local := by decide +kernel
theorem vi__law_book_13 : Vis (defScope s__law_book) (Str.ofString "rows") := .inl (by decide +kernel)
theorem lo__law_book_13 : Loc (defScope s__law_book) (Str.ofString "rows") := .inl (by decide +kernel)
theorem ll__law_book_13 : (defScope s__law_book).names.lookup (Str.ofString "rows") = some .local := by decide +kernel
theorem gl__law_book__law_expression : (defScope s__law_book).names.lookup (Str.ofString "_law_expression") = some .globalImplicit := by decide +kernel
theorem gl__law_book__law_pool : (defScope s__law_book).names.lookup (Str.ofString "_law_pool") = some .globalImplicit := by decide +kernel
theorem gl__law_book__law_rows : (defScope s__law_book).names.lookup (Str.ofString "_law_rows") = some .globalImplicit := by decide +kernel
theorem gl__law_book__law_some : (defScope s__law_book).names.lookup (Str.ofString "_law_some") = some .globalImplicit := by decide +kernel
theorem gl__law_book__law_take : (defScope s__law_book).names.lookup (Str.ofString "_law_take") = some .globalImplicit := by decide +kernel
theorem gl__law_book_enumerate : (defScope s__law_book).names.lookup (Str.ofString "enumerate") = some .globalImplicit := by decide +kernel
theorem gl__law_book_tuple : (defScope s__law_book).names.lookup (Str.ofString "tuple") = some .globalImplicit := by decide +kernel
theorem b__law_book {P : Program} {w : World} {K : Fr} {mg : Str → Option Value} {base : Heap} {n k : Nat} (T : Tx K mg) (Tn : Tab P w K mg base (phi PR n) k) (cdv : Value) (A : Around) (outer : List PySem.Env) (s : Shared) (H : Hp) (E : XK) {a : Addr} (hr : Room k (A.deeper (envOfC (Str.ofString "_law_book") (defScope s__law_book) s.heap.objs.size a cdv))) :
    SB (cxOf (L2.CX P w) P w K mg base N__law_book (Str.ofString "_law_book") (defScope s__law_book) a cdv A outer s H E) (phi PR n) (fun cls d _ H => E cls d H) (defBody s__law_book) D._law_book_v4.body := by
  have hΦ := phi_mono PR n
  have hu := roomH_of hr
  exact (sb_cons hΦ (ss_asg (i := 2) hΦ sc__law_book.nd rfl (lo__law_book_2) (se_call (f := "_law_pool") (m := .obj) hΦ Tn.t__law_pool hr (takes_of rfl rfl rfl rfl) gl__law_book__law_pool (sa_cons hΦ (se_vB 0 rfl vi__law_book_0 dd_cells dc_cells) (sa_cons hΦ se_int sa_nil)) dd__law_pool) rfl (.inl rfl))
  (sb_cons hΦ (ss_asg (i := 3) hΦ sc__law_book.nd rfl (lo__law_book_3) (SF.val hΦ (sf_lst hΦ (sa_cons hΦ (se_str (strOk_of "a")) (sa_cons hΦ (se_str (strOk_of "b")) (sa_cons hΦ (se_str (strOk_of "ab")) (sa_cons hΦ (se_str (strOk_of "x")) (sa_cons hΦ (se_str (strOk_of "xy")) (sa_cons hΦ (se_str (strOk_of "abc")) (sa_cons hΦ (se_str (strOk_of "abcd")) (sa_cons hΦ (se_str (strOk_of "set")) (sa_cons hΦ (se_str (strOk_of "end")) (sa_cons hΦ (se_str (strOk_of "else")) (sa_cons hΦ (se_str (strOk_of "give")) (sa_cons hΦ (se_str (strOk_of "z")) sa_nil)))))))))))))) rfl (.inl rfl))
  (sb_cons hΦ (ss_asg (i := 4) hΦ sc__law_book.nd rfl (lo__law_book_4) (SF.val hΦ (sf_lst hΦ (sa_cons hΦ (se_str (strOk_of "f")) (sa_cons hΦ (se_str (strOk_of "g")) (sa_cons hΦ (se_str (strOk_of "fold")) (sa_cons hΦ (se_str (strOk_of "gg")) (sa_cons hΦ (se_str (strOk_of "deed")) (sa_cons hΦ (se_str (strOk_of "end")) (sa_cons hΦ (se_str (strOk_of "callfold")) (sa_cons hΦ (se_str (strOk_of "h")) (sa_cons hΦ (se_str (strOk_of "ab")) (sa_cons hΦ (se_str (strOk_of "main")) sa_nil)))))))))))) rfl (.inl rfl))
  (sb_cons hΦ (ss_asg (i := 5) hΦ sc__law_book.nd rfl (lo__law_book_5) (SF.new hΦ (sf_lst hΦ sa_nil)) rfl (.inl rfl))
  (sb_cons hΦ (ss_asg (i := 6) hΦ sc__law_book.nd rfl (lo__law_book_6) (se_bin hΦ .add se_int (se_call (f := "_law_take") (m := .val) hΦ Tn.t__law_take hr (takes_of rfl rfl rfl rfl) gl__law_book__law_take (sa_cons hΦ (se_vB 2 rfl vi__law_book_2 dd_pool dc_pool) (sa_cons hΦ (se_ix hΦ hu (SF.val hΦ (sf_lst hΦ (sa_cons hΦ (se_vB 1 rfl vi__law_book_1 dd_most dc_most) (sa_cons hΦ (se_vB 1 rfl vi__law_book_1 dd_most dc_most) (sa_cons hΦ (se_vB 1 rfl vi__law_book_1 dd_most dc_most) (sa_cons hΦ se_int sa_nil)))))) (se_call (f := "_law_take") (m := .val) hΦ Tn.t__law_take hr (takes_of rfl rfl rfl rfl) gl__law_book__law_take (sa_cons hΦ (se_vB 2 rfl vi__law_book_2 dd_pool dc_pool) (sa_cons hΦ se_int sa_nil)) dd__law_take)) sa_nil)) dd__law_take)) rfl (.inl rfl))
  (sb_cons hΦ (ss_for (t := (.n 7)) hΦ (passes_of rfl) rfl (si_e hΦ (se_call (f := "_law_some") (m := .val) hΦ Tn.t__law_some hr (takes_of rfl rfl rfl rfl) gl__law_book__law_some (sa_cons hΦ (se_vB 2 rfl vi__law_book_2 dd_pool dc_pool) (sa_cons hΦ (se_vB 4 rfl vi__law_book_4 dd_deeds dc_deeds) (sa_cons hΦ (se_vB 6 rfl vi__law_book_6 dd_many dc_many) sa_nil))) dd__law_some)) (pg_name (i := 7) sc__law_book.nd rfl (lo__law_book_7) (.inl rfl)) (sb_one (ss_ex hΦ (se_append hΦ (se_vB 5 rfl vi__law_book_5 dd_heads dc_heads) (se_tup hΦ (sa_cons hΦ (se_vB 7 rfl vi__law_book_7 dd_name dc_name) (sa_cons hΦ (se_call (f := "_law_some") (m := .val) hΦ Tn.t__law_some hr (takes_of rfl rfl rfl rfl) gl__law_book__law_some (sa_cons hΦ (se_vB 2 rfl vi__law_book_2 dd_pool dc_pool) (sa_cons hΦ (se_vB 3 rfl vi__law_book_3 dd_menu dc_menu) (sa_cons hΦ (se_call (f := "_law_take") (m := .val) hΦ Tn.t__law_take hr (takes_of rfl rfl rfl rfl) gl__law_book__law_take (sa_cons hΦ (se_vB 2 rfl vi__law_book_2 dd_pool dc_pool) (sa_cons hΦ se_int sa_nil)) dd__law_take) sa_nil))) dd__law_some) sa_nil)))))))
  (sb_cons hΦ (ss_asg (i := 8) hΦ sc__law_book.nd rfl (lo__law_book_8) (SF.new hΦ (sf_disp [(Str.ofString "heads", (.v 5)), (Str.ofString "at", (.c (.int 0))), (Str.ofString "rows", (.c (.int 20))), (Str.ofString "calls", (.c (.int 10))), (Str.ofString "first", (.call "_law_take" .val (.cons (.v 2) (.cons (.c (.int 100)) .nil))))] hΦ (pps_cons (se_str (strOk_of "heads")) (se_vB 5 rfl vi__law_book_5 dd_heads dc_heads) (pps_cons (se_str (strOk_of "at")) se_int (pps_cons (se_str (strOk_of "rows")) se_int (pps_cons (se_str (strOk_of "calls")) se_int (pps_cons (se_str (strOk_of "first")) (se_call (f := "_law_take") (m := .val) hΦ Tn.t__law_take hr (takes_of rfl rfl rfl rfl) gl__law_book__law_take (sa_cons hΦ (se_vB 2 rfl vi__law_book_2 dd_pool dc_pool) (sa_cons hΦ se_int sa_nil)) dd__law_take) pps_nil))))) rfl (by decide +kernel) (by decide +kernel) rfl rfl (fun z => by cases z) (Nat.le_of_ble_eq_true rfl) (Nat.le_of_ble_eq_true rfl))) rfl (.inl rfl))
  (sb_cons hΦ (ss_asg (i := 9) hΦ sc__law_book.nd rfl (lo__law_book_9) (SF.new hΦ (sf_lst hΦ sa_nil)) rfl (.inl rfl))
  (sb_cons hΦ (ss_for (t := (.t [(.n 10), (.t [(.n 7), (.n 11)])])) hΦ (passes_of rfl) rfl (si_enum hΦ gl__law_book_enumerate T.b_enumerate (se_vB 5 rfl vi__law_book_5 dd_heads dc_heads)) (pg_seq rfl (pgs_cons (pg_name (i := 10) sc__law_book.nd rfl (lo__law_book_10) (.inl rfl)) (pgs_cons (pg_seq rfl (pgs_cons (pg_name (i := 7) sc__law_book.nd rfl (lo__law_book_7) (.inl rfl)) (pgs_cons (pg_name (i := 11) sc__law_book.nd rfl (lo__law_book_11) (.inl rfl)) pgs_nil))) pgs_nil))) (sb_cons hΦ (ss_asg (i := 2) hΦ sc__law_book.nd rfl (lo__law_book_2) (se_call (f := "_law_pool") (m := .obj) hΦ Tn.t__law_pool hr (takes_of rfl rfl rfl rfl) gl__law_book__law_pool (sa_cons hΦ (se_vB 0 rfl vi__law_book_0 dd_cells dc_cells) (sa_cons hΦ (se_bin hΦ .add se_int (se_vB 10 rfl vi__law_book_10 dd_k dc_k)) sa_nil)) dd__law_pool) rfl (.inl rfl))
  (sb_cons hΦ (ss_asg (i := 12) hΦ sc__law_book.nd rfl (lo__law_book_12) (se_bin hΦ .add (se_vB 11 rfl vi__law_book_11 dd_params dc_params) (se_call (f := "_law_some") (m := .val) hΦ Tn.t__law_some hr (takes_of rfl rfl rfl rfl) gl__law_book__law_some (sa_cons hΦ (se_vB 2 rfl vi__law_book_2 dd_pool dc_pool) (sa_cons hΦ (SF.val hΦ (sf_comp (own := [("word", 14)]) (t := (.n 14)) (e := (.v 14)) (cond := (.isin .notin (.v 14) (.v 11))) hΦ rfl sc__law_book.nd (si_e hΦ (se_vB 3 rfl vi__law_book_3 dd_menu dc_menu)) (blkOk_by (N := N__law_book) (sc := defScope s__law_book) (by decide +kernel)) (fun _ _ _ _ _ => (pg_name (i := 14) sc__law_book.nd rfl (.inl rfl) (by first | exact .inr rfl | exact .inl rfl))) (fun _ _ _ _ _ => pts_one (st_in hΦ hu .notin (se_vB 14 rfl (by first | exact .inl rfl | exact .inr (.inl rfl) | exact .inr (.inr rfl)) dd_word dc_word) (se_vB 11 rfl (by first | exact .inl rfl | exact .inr (.inl rfl) | exact .inr (.inr rfl)) dd_params dc_params))) (fun _ _ _ _ _ => (se_vB 14 rfl (by first | exact .inl rfl | exact .inr (.inl rfl) | exact .inr (.inr rfl)) dd_word dc_word)) (by decide))) (sa_cons hΦ (se_bin hΦ .add se_int (se_call (f := "_law_take") (m := .val) hΦ Tn.t__law_take hr (takes_of rfl rfl rfl rfl) gl__law_book__law_take (sa_cons hΦ (se_vB 2 rfl vi__law_book_2 dd_pool dc_pool) (sa_cons hΦ se_int sa_nil)) dd__law_take)) sa_nil))) dd__law_some)) rfl (.inl rfl))
  (sb_cons hΦ (ss_setix hu hΦ (se_vB 10 rfl vi__law_book_10 dd_k dc_k) (se_vB 8 rfl vi__law_book_8 dd_state dc_state) (se_str (strOk_of "at")))
  (sb_cons hΦ (ss_setix hu hΦ se_int (se_vB 8 rfl vi__law_book_8 dd_state dc_state) (se_str (strOk_of "rows")))
  (sb_cons hΦ (ss_asg (i := 13) hΦ sc__law_book.nd rfl (lo__law_book_13) (se_call (f := "_law_rows") (m := .val) hΦ Tn.t__law_rows hr (takes_of rfl rfl rfl rfl) gl__law_book__law_rows (sa_cons hΦ (se_vB 2 rfl vi__law_book_2 dd_pool dc_pool) (sa_cons hΦ (se_vB 8 rfl vi__law_book_8 dd_state dc_state) (sa_cons hΦ (se_vB 12 rfl vi__law_book_12 dd_names dc_names) (sa_cons hΦ se_int sa_nil)))) dd__law_rows) rfl (.inl rfl))
  (sb_one (ss_ex hΦ (se_append hΦ (se_vB 9 rfl vi__law_book_9 dd_found dc_found) (se_tup hΦ (sa_cons hΦ (se_vB 7 rfl vi__law_book_7 dd_name dc_name) (sa_cons hΦ (se_tuple hΦ gl__law_book_tuple T.b_tuple bt_tuple (by decide) dd_tuple (se_vB 11 rfl vi__law_book_11 dd_params dc_params)) (sa_cons hΦ (se_vB 13 rfl vi__law_book_13 dd_rows dc_rows) (sa_cons hΦ (se_call (f := "_law_expression") (m := .val) hΦ Tn.t__law_expression hr (takes_of rfl rfl rfl rfl) gl__law_book__law_expression (sa_cons hΦ (se_vB 2 rfl vi__law_book_2 dd_pool dc_pool) (sa_cons hΦ (se_vB 12 rfl vi__law_book_12 dd_names dc_names) (sa_cons hΦ se_int sa_nil))) dd__law_expression) sa_nil))))))))))))))
  (sb_one (ss_ret hΦ (se_tuple hΦ gl__law_book_tuple T.b_tuple bt_tuple (by decide) dd_tuple (se_vB 9 rfl vi__law_book_9 dd_found dc_found)))))))))))))
abbrev s__law_calls : Stmt := top 32
abbrev N__law_calls : List Str := [Str.ofString "rows", Str.ofString "found", Str.ofString "row"]
abbrev ps__law_calls : List Str := [Str.ofString "rows"]
theorem sc__law_calls : FnScope N__law_calls ps__law_calls (defScope s__law_calls) := ⟨rfl, rfl, rfl, by decide +kernel, rfl, by decide +kernel, by decide +kernel⟩
theorem vi__law_calls_0 : Vis (defScope s__law_calls) (Str.ofString "rows") := .inl (by decide +kernel)
theorem lo__law_calls_0 : Loc (defScope s__law_calls) (Str.ofString "rows") := .inl (by decide +kernel)
theorem ll__law_calls_0 : (defScope s__law_calls).names.lookup (Str.ofString "rows") = some .local := by decide +kernel
theorem vi__law_calls_1 : Vis (defScope s__law_calls) (Str.ofString "found") := .inl (by decide +kernel)
theorem lo__law_calls_1 : Loc (defScope s__law_calls) (Str.ofString "found") := .inl (by decide +kernel)
theorem ll__law_calls_1 : (defScope s__law_calls).names.lookup (Str.ofString "found") = some .local := by decide +kernel
theorem vi__law_calls_2 : Vis (defScope s__law_calls) (Str.ofString "row") := .inl (by decide +kernel)
theorem lo__law_calls_2 : Loc (defScope s__law_calls) (Str.ofString "row") := .inl (by decide +kernel)
theorem ll__law_calls_2 : (defScope s__law_calls).names.lookup (Str.ofString "row") = some .local := by decide +kernel
theorem gl__law_calls__law_calls : (defScope s__law_calls).names.lookup (Str.ofString "_law_calls") = some .globalImplicit := by decide +kernel
theorem b__law_calls {P : Program} {w : World} {K : Fr} {mg : Str → Option Value} {base : Heap} {n k : Nat} (T : Tx K mg) (Tn : Tab P w K mg base (phi PR n) k) (cdv : Value) (A : Around) (outer : List PySem.Env) (s : Shared) (H : Hp) (E : XK) {a : Addr} (hr : Room k (A.deeper (envOfC (Str.ofString "_law_calls") (defScope s__law_calls) s.heap.objs.size a cdv))) :
    SB (cxOf (L2.CX P w) P w K mg base N__law_calls (Str.ofString "_law_calls") (defScope s__law_calls) a cdv A outer s H E) (phi PR n) (fun cls d _ H => E cls d H) (defBody s__law_calls) D._law_calls_v2.body := by
  have hΦ := phi_mono PR n
  have hu := roomH_of hr
  exact (sb_cons hΦ (ss_asg (i := 1) hΦ sc__law_calls.nd rfl (lo__law_calls_1) (SF.new hΦ (sf_lst hΦ sa_nil)) rfl (.inl rfl))
  (sb_cons hΦ (ss_for (t := (.n 2)) hΦ (passes_of rfl) rfl (si_e hΦ (se_vB 0 rfl vi__law_calls_0 dd_rows dc_rows)) (pg_name (i := 2) sc__law_calls.nd rfl (lo__law_calls_2) (.inl rfl)) (sb_cons hΦ (ss_ite hΦ (st_eq hΦ hu .eq (se_ix hΦ hu (se_vB 2 rfl vi__law_calls_2 dd_row dc_row) se_int) (se_str (strOk_of "call"))) (sb_one (ss_ex hΦ (se_append hΦ (se_vB 1 rfl vi__law_calls_1 dd_found dc_found) (se_vB 2 rfl vi__law_calls_2 dd_row dc_row)))) sb_nil)
  (sb_cons hΦ (ss_ite hΦ (st_in hΦ hu .isin (se_ix hΦ hu (se_vB 2 rfl vi__law_calls_2 dd_row dc_row) se_int) (se_tup hΦ (sa_cons hΦ (se_str (strOk_of "when")) (sa_cons hΦ (se_str (strOk_of "turn")) sa_nil)))) (sb_one (ss_ex hΦ (se_extend hΦ (se_vB 1 rfl vi__law_calls_1 dd_found dc_found) (se_call (f := "_law_calls") (m := .val) hΦ Tn.t__law_calls hr (takes_of rfl rfl rfl rfl) gl__law_calls__law_calls (sa_cons hΦ (se_ix hΦ hu (se_vB 2 rfl vi__law_calls_2 dd_row dc_row) se_int) sa_nil) dd__law_calls)))) sb_nil)
  (sb_one (ss_ite hΦ (st_eq hΦ hu .eq (se_ix hΦ hu (se_vB 2 rfl vi__law_calls_2 dd_row dc_row) se_int) (se_str (strOk_of "when"))) (sb_one (ss_ex hΦ (se_extend hΦ (se_vB 1 rfl vi__law_calls_1 dd_found dc_found) (se_call (f := "_law_calls") (m := .val) hΦ Tn.t__law_calls hr (takes_of rfl rfl rfl rfl) gl__law_calls__law_calls (sa_cons hΦ (se_ix hΦ hu (se_vB 2 rfl vi__law_calls_2 dd_row dc_row) se_int) sa_nil) dd__law_calls)))) sb_nil)))))
  (sb_one (ss_ret hΦ (se_vB 1 rfl vi__law_calls_1 dd_found dc_found)))))
abbrev s__law_marks : Stmt := top 33
abbrev N__law_marks : List Str := [Str.ofString "book", Str.ofString "found", Str.ofString "deed", Str.ofString "call"]
abbrev ps__law_marks : List Str := [Str.ofString "book"]
theorem sc__law_marks : FnScope N__law_marks ps__law_marks (defScope s__law_marks) := ⟨rfl, rfl, rfl, by decide +kernel, rfl, by decide +kernel, by decide +kernel⟩
theorem vi__law_marks_0 : Vis (defScope s__law_marks) (Str.ofString "book") := .inl (by decide +kernel)
theorem lo__law_marks_0 : Loc (defScope s__law_marks) (Str.ofString "book") := .inl (by decide +kernel)
theorem ll__law_marks_0 : (defScope s__law_marks).names.lookup (Str.ofString "book") = some .local := by decide +kernel
theorem vi__law_marks_1 : Vis (defScope s__law_marks) (Str.ofString "found") := .inl (by decide +kernel)
theorem lo__law_marks_1 : Loc (defScope s__law_marks) (Str.ofString "found") := .inl (by decide +kernel)
theorem ll__law_marks_1 : (defScope s__law_marks).names.lookup (Str.ofString "found") = some .local := by decide +kernel
theorem vi__law_marks_2 : Vis (defScope s__law_marks) (Str.ofString "deed") := .inl (by decide +kernel)
theorem lo__law_marks_2 : Loc (defScope s__law_marks) (Str.ofString "deed") := .inl (by decide +kernel)
theorem ll__law_marks_2 : (defScope s__law_marks).names.lookup (Str.ofString "deed") = some .local := by decide +kernel
theorem gl__law_marks__law_calls : (defScope s__law_marks).names.lookup (Str.ofString "_law_calls") = some .globalImplicit := by decide +kernel
theorem gl__law_marks_sorted : (defScope s__law_marks).names.lookup (Str.ofString "sorted") = some .globalImplicit := by decide +kernel
theorem b__law_marks {P : Program} {w : World} {K : Fr} {mg : Str → Option Value} {base : Heap} {n k : Nat} (T : Tx K mg) (Tn : Tab P w K mg base (phi PR n) k) (cdv : Value) (A : Around) (outer : List PySem.Env) (s : Shared) (H : Hp) (E : XK) {a : Addr} (hr : Room k (A.deeper (envOfC (Str.ofString "_law_marks") (defScope s__law_marks) s.heap.objs.size a cdv))) :
    SB (cxOf (L2.CX P w) P w K mg base N__law_marks (Str.ofString "_law_marks") (defScope s__law_marks) a cdv A outer s H E) (phi PR n) (fun cls d _ H => E cls d H) (defBody s__law_marks) D._law_marks_v2.body := by
  have hΦ := phi_mono PR n
  have hu := roomH_of hr
  exact (sb_cons hΦ (ss_asg (i := 1) hΦ sc__law_marks.nd rfl (lo__law_marks_1) (SF.new hΦ (sf_lst hΦ sa_nil)) rfl (.inl rfl))
  (sb_cons hΦ (ss_for (t := (.n 2)) hΦ (passes_of rfl) rfl (si_e hΦ (se_vB 0 rfl vi__law_marks_0 dd_book dc_book)) (pg_name (i := 2) sc__law_marks.nd rfl (lo__law_marks_2) (.inl rfl)) (sb_one (ss_ex hΦ (se_extend hΦ (se_vB 1 rfl vi__law_marks_1 dd_found dc_found) (SF.val hΦ (sf_comp (own := [("call", 3)]) (t := (.n 3)) (e := (.ix (.v 3) (.c (.int 4)))) (cond := (.c (.bl true))) hΦ rfl sc__law_marks.nd (si_e hΦ (se_call (f := "_law_calls") (m := .val) hΦ Tn.t__law_calls hr (takes_of rfl rfl rfl rfl) gl__law_marks__law_calls (sa_cons hΦ (se_ix hΦ hu (se_vB 2 rfl vi__law_marks_2 dd_deed dc_deed) se_int) sa_nil) dd__law_calls)) (blkOk_by (N := N__law_marks) (sc := defScope s__law_marks) (by decide +kernel)) (fun _ _ _ _ _ => (pg_name (i := 3) sc__law_marks.nd rfl (.inl rfl) (by first | exact .inr rfl | exact .inl rfl))) (fun _ _ _ _ _ => pts_yes) (fun _ _ _ _ _ => (se_ix hΦ hu (se_vB 3 rfl (by first | exact .inl rfl | exact .inr (.inl rfl) | exact .inr (.inr rfl)) dd_call dc_call) se_int)) (by decide)))))))
  (sb_one (ss_ret hΦ (SF.val hΦ (sf_sorted hΦ gl__law_marks_sorted T.b_sorted bt_sorted (by decide) dd_sorted (se_vB 1 rfl vi__law_marks_1 dd_found dc_found)))))))
abbrev s__law_read : Stmt := top 34
abbrev N__law_read : List Str := [Str.ofString "expression"]
abbrev ps__law_read : List Str := [Str.ofString "expression"]
theorem sc__law_read : FnScope N__law_read ps__law_read (defScope s__law_read) := ⟨rfl, rfl, rfl, by decide +kernel, rfl, by decide +kernel, by decide +kernel⟩
theorem vi__law_read_0 : Vis (defScope s__law_read) (Str.ofString "expression") := .inl (by decide +kernel)
theorem lo__law_read_0 : Loc (defScope s__law_read) (Str.ofString "expression") := .inl (by decide +kernel)
theorem ll__law_read_0 : (defScope s__law_read).names.lookup (Str.ofString "expression") = some .local := by decide +kernel
theorem gl__law_read__law_read : (defScope s__law_read).names.lookup (Str.ofString "_law_read") = some .globalImplicit := by decide +kernel
theorem b__law_read {P : Program} {w : World} {K : Fr} {mg : Str → Option Value} {base : Heap} {n k : Nat} (T : Tx K mg) (Tn : Tab P w K mg base (phi PR n) k) (cdv : Value) (A : Around) (outer : List PySem.Env) (s : Shared) (H : Hp) (E : XK) {a : Addr} (hr : Room k (A.deeper (envOfC (Str.ofString "_law_read") (defScope s__law_read) s.heap.objs.size a cdv))) :
    SB (cxOf (L2.CX P w) P w K mg base N__law_read (Str.ofString "_law_read") (defScope s__law_read) a cdv A outer s H E) (phi PR n) (fun cls d _ H => E cls d H) (defBody s__law_read) D._law_read_v3.body := by
  have hΦ := phi_mono PR n
  have hu := roomH_of hr
  exact (sb_cons hΦ (ss_ite hΦ (st_eq hΦ hu .eq (se_ix hΦ hu (se_vB 0 rfl vi__law_read_0 dd_expression dc_expression) se_int) (se_str (strOk_of "number"))) (sb_one (ss_ret hΦ (SF.new hΦ (sf_lst hΦ sa_nil)))) sb_nil)
  (sb_cons hΦ (ss_ite hΦ (st_eq hΦ hu .eq (se_ix hΦ hu (se_vB 0 rfl vi__law_read_0 dd_expression dc_expression) se_int) (se_str (strOk_of "name"))) (sb_one (ss_ret hΦ (SF.new hΦ (sf_lst hΦ (sa_cons hΦ (se_ix hΦ hu (se_vB 0 rfl vi__law_read_0 dd_expression dc_expression) se_int) sa_nil))))) sb_nil)
  (sb_one (ss_ret hΦ (sf_cat hΦ (se_call (f := "_law_read") (m := .val) hΦ Tn.t__law_read hr (takes_of rfl rfl rfl rfl) gl__law_read__law_read (sa_cons hΦ (se_ix hΦ hu (se_vB 0 rfl vi__law_read_0 dd_expression dc_expression) se_int) sa_nil) dd__law_read) (se_call (f := "_law_read") (m := .val) hΦ Tn.t__law_read hr (takes_of rfl rfl rfl rfl) gl__law_read__law_read (sa_cons hΦ (se_ix hΦ hu (se_vB 0 rfl vi__law_read_0 dd_expression dc_expression) se_int) sa_nil) dd__law_read))))))
abbrev s__law_row_names : Stmt := top 35
abbrev N__law_row_names : List Str := [Str.ofString "row", Str.ofString "found", Str.ofString "arg", Str.ofString "rows", Str.ofString "one"]
abbrev ps__law_row_names : List Str := [Str.ofString "row"]
theorem sc__law_row_names : FnScope N__law_row_names ps__law_row_names (defScope s__law_row_names) := ⟨rfl, rfl, rfl, by decide +kernel, rfl, by decide +kernel, by decide +kernel⟩
theorem vi__law_row_names_0 : Vis (defScope s__law_row_names) (Str.ofString "row") := .inl (by decide +kernel)
theorem lo__law_row_names_0 : Loc (defScope s__law_row_names) (Str.ofString "row") := .inl (by decide +kernel)
theorem ll__law_row_names_0 : (defScope s__law_row_names).names.lookup (Str.ofString "row") = some .local := by decide +kernel
theorem vi__law_row_names_1 : Vis (defScope s__law_row_names) (Str.ofString "found") := .inl (by decide +kernel)
theorem lo__law_row_names_1 : Loc (defScope s__law_row_names) (Str.ofString "found") := .inl (by decide +kernel)
theorem ll__law_row_names_1 : (defScope s__law_row_names).names.lookup (Str.ofString "found") = some .local := by decide +kernel
theorem vi__law_row_names_2 : Vis (defScope s__law_row_names) (Str.ofString "arg") := .inl (by decide +kernel)
theorem lo__law_row_names_2 : Loc (defScope s__law_row_names) (Str.ofString "arg") := .inl (by decide +kernel)
theorem ll__law_row_names_2 : (defScope s__law_row_names).names.lookup (Str.ofString "arg") = some .local := by decide +kernel
theorem vi__law_row_names_3 : Vis (defScope s__law_row_names) (Str.ofString "rows") := .inl (by decide +kernel)
theorem lo__law_row_names_3 : Loc (defScope s__law_row_names) (Str.ofString "rows") := .inl (by decide +kernel)
theorem ll__law_row_names_3 : (defScope s__law_row_names).names.lookup (Str.ofString "rows") = some .local := by decide +kernel
theorem vi__law_row_names_4 : Vis (defScope s__law_row_names) (Str.ofString "one") := .inl (by decide +kernel)
theorem lo__law_row_names_4 : Loc (defScope s__law_row_names) (Str.ofString "one") := .inl (by decide +kernel)
theorem ll__law_row_names_4 : (defScope s__law_row_names).names.lookup (Str.ofString "one") = some .local := by decide +kernel
theorem gl__law_row_names__law_read : (defScope s__law_row_names).names.lookup (Str.ofString "_law_read") = some .globalImplicit := by decide +kernel
theorem gl__law_row_names__law_row_names : (defScope s__law_row_names).names.lookup (Str.ofString "_law_row_names") = some .globalImplicit := by decide +kernel
theorem b__law_row_names {P : Program} {w : World} {K : Fr} {mg : Str → Option Value} {base : Heap} {n k : Nat} (T : Tx K mg) (Tn : Tab P w K mg base (phi PR n) k) (cdv : Value) (A : Around) (outer : List PySem.Env) (s : Shared) (H : Hp) (E : XK) {a : Addr} (hr : Room k (A.deeper (envOfC (Str.ofString "_law_row_names") (defScope s__law_row_names) s.heap.objs.size a cdv))) :
    SB (cxOf (L2.CX P w) P w K mg base N__law_row_names (Str.ofString "_law_row_names") (defScope s__law_row_names) a cdv A outer s H E) (phi PR n) (fun cls d _ H => E cls d H) (defBody s__law_row_names) D._law_row_names.body := by
  have hΦ := phi_mono PR n
  have hu := roomH_of hr
  exact (sb_cons hΦ (ss_ite hΦ (st_eq hΦ hu .eq (se_ix hΦ hu (se_vB 0 rfl vi__law_row_names_0 dd_row dc_row) se_int) (se_str (strOk_of "set"))) (sb_one (ss_ret hΦ (se_bin hΦ .add (se_call (f := "_law_read") (m := .val) hΦ Tn.t__law_read hr (takes_of rfl rfl rfl rfl) gl__law_row_names__law_read (sa_cons hΦ (se_ix hΦ hu (se_vB 0 rfl vi__law_row_names_0 dd_row dc_row) se_int) sa_nil) dd__law_read) (SF.val hΦ (sf_lst hΦ (sa_cons hΦ (se_ix hΦ hu (se_vB 0 rfl vi__law_row_names_0 dd_row dc_row) se_int) sa_nil)))))) sb_nil)
  (sb_cons hΦ (ss_ite hΦ (st_eq hΦ hu .eq (se_ix hΦ hu (se_vB 0 rfl vi__law_row_names_0 dd_row dc_row) se_int) (se_str (strOk_of "call"))) (sb_cons hΦ (ss_asg (i := 1) hΦ sc__law_row_names.nd rfl (lo__law_row_names_1) (SF.new hΦ (sf_lst hΦ (sa_cons hΦ (se_ix hΦ hu (se_vB 0 rfl vi__law_row_names_0 dd_row dc_row) se_int) sa_nil))) rfl (.inl rfl))
  (sb_cons hΦ (ss_for (t := (.n 2)) hΦ (passes_of rfl) rfl (si_e hΦ (se_ix hΦ hu (se_vB 0 rfl vi__law_row_names_0 dd_row dc_row) se_int)) (pg_name (i := 2) sc__law_row_names.nd rfl (lo__law_row_names_2) (.inl rfl)) (sb_one (ss_ex hΦ (se_extend hΦ (se_vB 1 rfl vi__law_row_names_1 dd_found dc_found) (se_call (f := "_law_read") (m := .val) hΦ Tn.t__law_read hr (takes_of rfl rfl rfl rfl) gl__law_row_names__law_read (sa_cons hΦ (se_vB 2 rfl vi__law_row_names_2 dd_arg dc_arg) sa_nil) dd__law_read)))))
  (sb_one (ss_ret hΦ (se_vB 1 rfl vi__law_row_names_1 dd_found dc_found))))) sb_nil)
  (sb_cons hΦ (ss_asg (i := 1) hΦ sc__law_row_names.nd rfl (lo__law_row_names_1) (se_call (f := "_law_read") (m := .obj) hΦ Tn.t__law_read hr (takes_of rfl rfl rfl rfl) gl__law_row_names__law_read (sa_cons hΦ (se_ix hΦ hu (se_vB 0 rfl vi__law_row_names_0 dd_row dc_row) se_int) sa_nil) dd__law_read) rfl (.inl rfl))
  (sb_cons hΦ (ss_for (t := (.n 3)) hΦ (passes_of rfl) rfl (si_e hΦ (se_sl hΦ (se_vB 0 rfl vi__law_row_names_0 dd_row dc_row) (so_some hΦ se_int) so_none)) (pg_name (i := 3) sc__law_row_names.nd rfl (lo__law_row_names_3) (.inl rfl)) (sb_one (ss_for (t := (.n 4)) hΦ (passes_of rfl) rfl (si_e hΦ (se_vB 3 rfl vi__law_row_names_3 dd_rows dc_rows)) (pg_name (i := 4) sc__law_row_names.nd rfl (lo__law_row_names_4) (.inl rfl)) (sb_one (ss_ex hΦ (se_extend hΦ (se_vB 1 rfl vi__law_row_names_1 dd_found dc_found) (se_call (f := "_law_row_names") (m := .val) hΦ Tn.t__law_row_names hr (takes_of rfl rfl rfl rfl) gl__law_row_names__law_row_names (sa_cons hΦ (se_vB 4 rfl vi__law_row_names_4 dd_one dc_one) sa_nil) dd__law_row_names)))))))
  (sb_one (ss_ret hΦ (se_vB 1 rfl vi__law_row_names_1 dd_found dc_found)))))))
abbrev s__law_many_own : Stmt := top 36
abbrev N__law_many_own : List Str := [Str.ofString "deed", Str.ofString "found", Str.ofString "row"]
abbrev ps__law_many_own : List Str := [Str.ofString "deed"]
theorem sc__law_many_own : FnScope N__law_many_own ps__law_many_own (defScope s__law_many_own) := ⟨rfl, rfl, rfl, by decide +kernel, rfl, by decide +kernel, by decide +kernel⟩
theorem vi__law_many_own_0 : Vis (defScope s__law_many_own) (Str.ofString "deed") := .inl (by decide +kernel)
theorem lo__law_many_own_0 : Loc (defScope s__law_many_own) (Str.ofString "deed") := .inl (by decide +kernel)
theorem ll__law_many_own_0 : (defScope s__law_many_own).names.lookup (Str.ofString "deed") = some .local := by decide +kernel
theorem vi__law_many_own_1 : Vis (defScope s__law_many_own) (Str.ofString "found") := .inl (by decide +kernel)
theorem lo__law_many_own_1 : Loc (defScope s__law_many_own) (Str.ofString "found") := .inl (by decide +kernel)
theorem ll__law_many_own_1 : (defScope s__law_many_own).names.lookup (Str.ofString "found") = some .local := by decide +kernel
theorem vi__law_many_own_2 : Vis (defScope s__law_many_own) (Str.ofString "row") := .inl (by decide +kernel)
theorem lo__law_many_own_2 : Loc (defScope s__law_many_own) (Str.ofString "row") := .inl (by decide +kernel)
theorem ll__law_many_own_2 : (defScope s__law_many_own).names.lookup (Str.ofString "row") = some .local := by decide +kernel
theorem gl__law_many_own__law_read : (defScope s__law_many_own).names.lookup (Str.ofString "_law_read") = some .globalImplicit := by decide +kernel
theorem gl__law_many_own__law_row_names : (defScope s__law_many_own).names.lookup (Str.ofString "_law_row_names") = some .globalImplicit := by decide +kernel
theorem gl__law_many_own_len : (defScope s__law_many_own).names.lookup (Str.ofString "len") = some .globalImplicit := by decide +kernel
theorem gl__law_many_own_list : (defScope s__law_many_own).names.lookup (Str.ofString "list") = some .globalImplicit := by decide +kernel
theorem gl__law_many_own_set : (defScope s__law_many_own).names.lookup (Str.ofString "set") = some .globalImplicit := by decide +kernel
theorem b__law_many_own {P : Program} {w : World} {K : Fr} {mg : Str → Option Value} {base : Heap} {n k : Nat} (T : Tx K mg) (Tn : Tab P w K mg base (phi PR n) k) (cdv : Value) (A : Around) (outer : List PySem.Env) (s : Shared) (H : Hp) (E : XK) {a : Addr} (hr : Room k (A.deeper (envOfC (Str.ofString "_law_many_own") (defScope s__law_many_own) s.heap.objs.size a cdv))) :
    SB (cxOf (L2.CX P w) P w K mg base N__law_many_own (Str.ofString "_law_many_own") (defScope s__law_many_own) a cdv A outer s H E) (phi PR n) (fun cls d _ H => E cls d H) (defBody s__law_many_own) D._law_many_own.body := by
  have hΦ := phi_mono PR n
  have hu := roomH_of hr
  exact (sb_cons hΦ (ss_asg (i := 1) hΦ sc__law_many_own.nd rfl (lo__law_many_own_1) (sf_cat hΦ (SF.val hΦ (sf_list hΦ gl__law_many_own_list T.b_list bt_list (by decide) dd_list (se_ix hΦ hu (se_vB 0 rfl vi__law_many_own_0 dd_deed dc_deed) se_int))) (se_call (f := "_law_read") (m := .val) hΦ Tn.t__law_read hr (takes_of rfl rfl rfl rfl) gl__law_many_own__law_read (sa_cons hΦ (se_ix hΦ hu (se_vB 0 rfl vi__law_many_own_0 dd_deed dc_deed) se_int) sa_nil) dd__law_read)) rfl (.inl rfl))
  (sb_cons hΦ (ss_for (t := (.n 2)) hΦ (passes_of rfl) rfl (si_e hΦ (se_ix hΦ hu (se_vB 0 rfl vi__law_many_own_0 dd_deed dc_deed) se_int)) (pg_name (i := 2) sc__law_many_own.nd rfl (lo__law_many_own_2) (.inl rfl)) (sb_one (ss_ex hΦ (se_extend hΦ (se_vB 1 rfl vi__law_many_own_1 dd_found dc_found) (se_call (f := "_law_row_names") (m := .val) hΦ Tn.t__law_row_names hr (takes_of rfl rfl rfl rfl) gl__law_many_own__law_row_names (sa_cons hΦ (se_vB 2 rfl vi__law_many_own_2 dd_row dc_row) sa_nil) dd__law_row_names)))))
  (sb_one (ss_ret hΦ (se_lenset hΦ gl__law_many_own_len T.b_len bt_len (by decide) dd_len gl__law_many_own_set T.b_set bt_set (by decide) dd_set (se_vB 1 rfl vi__law_many_own_1 dd_found dc_found))))))
abbrev s__law_due_gain : Stmt := top 37
abbrev N__law_due_gain : List Str := [Str.ofString "book", Str.ofString "counts", Str.ofString "price", Str.ofString "mark", Str.ofString "deed", Str.ofString "call", Str.ofString "called", Str.ofString "other"]
abbrev ps__law_due_gain : List Str := [Str.ofString "book", Str.ofString "counts", Str.ofString "price", Str.ofString "mark"]
theorem sc__law_due_gain : FnScope N__law_due_gain ps__law_due_gain (defScope s__law_due_gain) := ⟨rfl, rfl, rfl, by decide +kernel, rfl, by decide +kernel, by decide +kernel⟩
theorem vi__law_due_gain_0 : Vis (defScope s__law_due_gain) (Str.ofString "book") := .inl (by decide +kernel)
theorem lo__law_due_gain_0 : Loc (defScope s__law_due_gain) (Str.ofString "book") := .inl (by decide +kernel)
theorem ll__law_due_gain_0 : (defScope s__law_due_gain).names.lookup (Str.ofString "book") = some .local := by decide +kernel
theorem vi__law_due_gain_1 : Vis (defScope s__law_due_gain) (Str.ofString "counts") := .inl (by decide +kernel)
theorem lo__law_due_gain_1 : Loc (defScope s__law_due_gain) (Str.ofString "counts") := .inl (by decide +kernel)
theorem ll__law_due_gain_1 : (defScope s__law_due_gain).names.lookup (Str.ofString "counts") = some .local := by decide +kernel
theorem vi__law_due_gain_2 : Vis (defScope s__law_due_gain) (Str.ofString "price") := .inl (by decide +kernel)
theorem lo__law_due_gain_2 : Loc (defScope s__law_due_gain) (Str.ofString "price") := .inl (by decide +kernel)
theorem ll__law_due_gain_2 : (defScope s__law_due_gain).names.lookup (Str.ofString "price") = some .local := by decide +kernel
theorem vi__law_due_gain_3 : Vis (defScope s__law_due_gain) (Str.ofString "mark") := .inl (by decide +kernel)
theorem lo__law_due_gain_3 : Loc (defScope s__law_due_gain) (Str.ofString "mark") := .inl (by decide +kernel)
theorem ll__law_due_gain_3 : (defScope s__law_due_gain).names.lookup (Str.ofString "mark") = some .local := by decide +kernel
theorem vi__law_due_gain_4 : Vis (defScope s__law_due_gain) (Str.ofString "deed") := .inl (by decide +kernel)
theorem lo__law_due_gain_4 : Loc (defScope s__law_due_gain) (Str.ofString "deed") := .inl (by decide +kernel)
theorem ll__law_due_gain_4 : (defScope s__law_due_gain).names.lookup (Str.ofString "deed") = some .local := by decide +kernel
theorem vi__law_due_gain_5 : Vis (defScope s__law_due_gain) (Str.ofString "call") := .inr (.inl (by decide +kernel))
theorem lo__law_due_gain_5 : Loc (defScope s__law_due_gain) (Str.ofString "call") := .inr (by decide +kernel)
theorem vi__law_due_gain_6 : Vis (defScope s__law_due_gain) (Str.ofString "called") := .inl (by decide +kernel)
theorem lo__law_due_gain_6 : Loc (defScope s__law_due_gain) (Str.ofString "called") := .inl (by decide +kernel)
theorem ll__law_due_gain_6 : (defScope s__law_due_gain).names.lookup (Str.ofString "called") = some .local := by decide +kernel
theorem gl__law_due_gain__law_calls : (defScope s__law_due_gain).names.lookup (Str.ofString "_law_calls") = some .globalImplicit := by decide +kernel
theorem gl__law_due_gain__law_many_own : (defScope s__law_due_gain).names.lookup (Str.ofString "_law_many_own") = some .globalImplicit := by decide +kernel
theorem b__law_due_gain {P : Program} {w : World} {K : Fr} {mg : Str → Option Value} {base : Heap} {n k : Nat} (T : Tx K mg) (Tn : Tab P w K mg base (phi PR n) k) (cdv : Value) (A : Around) (outer : List PySem.Env) (s : Shared) (H : Hp) (E : XK) {a : Addr} (hr : Room k (A.deeper (envOfC (Str.ofString "_law_due_gain") (defScope s__law_due_gain) s.heap.objs.size a cdv))) :
    SB (cxOf (L2.CX P w) P w K mg base N__law_due_gain (Str.ofString "_law_due_gain") (defScope s__law_due_gain) a cdv A outer s H E) (phi PR n) (fun cls d _ H => E cls d H) (defBody s__law_due_gain) D._law_due_gain.body := by
  have hΦ := phi_mono PR n
  have hu := roomH_of hr
  exact (sb_cons hΦ (ss_for (t := (.n 4)) hΦ (passes_of rfl) rfl (si_e hΦ (se_vB 0 rfl vi__law_due_gain_0 dd_book dc_book)) (pg_name (i := 4) sc__law_due_gain.nd rfl (lo__law_due_gain_4) (.inl rfl)) (sb_one (ss_for (t := (.n 5)) hΦ (passes_of rfl) rfl (si_e hΦ (se_call (f := "_law_calls") (m := .val) hΦ Tn.t__law_calls hr (takes_of rfl rfl rfl rfl) gl__law_due_gain__law_calls (sa_cons hΦ (se_ix hΦ hu (se_vB 4 rfl vi__law_due_gain_4 dd_deed dc_deed) se_int) sa_nil) dd__law_calls)) (pg_name (i := 5) sc__law_due_gain.nd rfl (lo__law_due_gain_5) (.inl rfl)) (sb_one (ss_ite hΦ (st_eq hΦ hu .eq (se_ix hΦ hu (se_vB 5 rfl vi__law_due_gain_5 dd_call dc_call) se_int) (se_vB 3 rfl vi__law_due_gain_3 dd_mark dc_mark)) (sb_cons hΦ (ss_asg (i := 6) hΦ sc__law_due_gain.nd rfl (lo__law_due_gain_6) (se_ix hΦ hu (SF.val hΦ (sf_comp (own := [("other", 7)]) (t := (.n 7)) (e := (.v 7)) (cond := (.eq .eq (.ix (.v 7) (.c (.int 0))) (.ix (.v 5) (.c (.int 2))))) hΦ rfl sc__law_due_gain.nd (si_e hΦ (se_vB 0 rfl vi__law_due_gain_0 dd_book dc_book)) (blkOk_by (N := N__law_due_gain) (sc := defScope s__law_due_gain) (by decide +kernel)) (fun _ _ _ _ _ => (pg_name (i := 7) sc__law_due_gain.nd rfl (.inl rfl) (by first | exact .inr rfl | exact .inl rfl))) (fun _ _ _ _ _ => pts_one (st_eq hΦ hu .eq (se_ix hΦ hu (se_vB 7 rfl (by first | exact .inl rfl | exact .inr (.inl rfl) | exact .inr (.inr rfl)) dd_other dc_other) se_int) (se_ix hΦ hu (se_vB 5 rfl (by first | exact .inl rfl | exact .inr (.inl rfl) | exact .inr (.inr rfl)) dd_call dc_call) se_int))) (fun _ _ _ _ _ => (se_vB 7 rfl (by first | exact .inl rfl | exact .inr (.inl rfl) | exact .inr (.inr rfl)) dd_other dc_other)) (by decide))) se_int) rfl (.inl rfl))
  (sb_one (ss_ret hΦ (se_bin hΦ .mul (se_ix hΦ hu (se_vB 1 rfl vi__law_due_gain_1 dd_counts dc_counts) (se_vB 3 rfl vi__law_due_gain_3 dd_mark dc_mark)) (se_bin hΦ .sub (se_vB 2 rfl vi__law_due_gain_2 dd_price dc_price) (se_call (f := "_law_many_own") (m := .val) hΦ Tn.t__law_many_own hr (takes_of rfl rfl rfl rfl) gl__law_due_gain__law_many_own (sa_cons hΦ (se_vB 6 rfl vi__law_due_gain_6 dd_called dc_called) sa_nil) dd__law_many_own)))))) sb_nil)))))
  (sb_one (ss_ret hΦ se_int)))
abbrev s__law_refused : Stmt := top 38
abbrev N__law_refused : List Str := [Str.ofString "book", Str.ofString "counts", Str.ofString "price", Str.ofString "mark", Str.ofString "caught", Str.ofString "e"]
abbrev ps__law_refused : List Str := [Str.ofString "book", Str.ofString "counts", Str.ofString "price", Str.ofString "mark"]
theorem sc__law_refused : FnScope N__law_refused ps__law_refused (defScope s__law_refused) := ⟨rfl, rfl, rfl, by decide +kernel, rfl, by decide +kernel, by decide +kernel⟩
theorem vi__law_refused_0 : Vis (defScope s__law_refused) (Str.ofString "book") := .inl (by decide +kernel)
theorem lo__law_refused_0 : Loc (defScope s__law_refused) (Str.ofString "book") := .inl (by decide +kernel)
theorem ll__law_refused_0 : (defScope s__law_refused).names.lookup (Str.ofString "book") = some .local := by decide +kernel
theorem vi__law_refused_1 : Vis (defScope s__law_refused) (Str.ofString "counts") := .inl (by decide +kernel)
theorem lo__law_refused_1 : Loc (defScope s__law_refused) (Str.ofString "counts") := .inl (by decide +kernel)
theorem ll__law_refused_1 : (defScope s__law_refused).names.lookup (Str.ofString "counts") = some .local := by decide +kernel
theorem vi__law_refused_2 : Vis (defScope s__law_refused) (Str.ofString "price") := .inl (by decide +kernel)
theorem lo__law_refused_2 : Loc (defScope s__law_refused) (Str.ofString "price") := .inl (by decide +kernel)
theorem ll__law_refused_2 : (defScope s__law_refused).names.lookup (Str.ofString "price") = some .local := by decide +kernel
theorem vi__law_refused_3 : Vis (defScope s__law_refused) (Str.ofString "mark") := .inl (by decide +kernel)
theorem lo__law_refused_3 : Loc (defScope s__law_refused) (Str.ofString "mark") := .inl (by decide +kernel)
theorem ll__law_refused_3 : (defScope s__law_refused).names.lookup (Str.ofString "mark") = some .local := by decide +kernel
theorem vi__law_refused_4 : Vis (defScope s__law_refused) (Str.ofString "caught") := .inl (by decide +kernel)
theorem lo__law_refused_4 : Loc (defScope s__law_refused) (Str.ofString "caught") := .inl (by decide +kernel)
theorem ll__law_refused_4 : (defScope s__law_refused).names.lookup (Str.ofString "caught") = some .local := by decide +kernel
theorem vi__law_refused_5 : Vis (defScope s__law_refused) (Str.ofString "e") := .inl (by decide +kernel)
theorem kl__law_refused_5 : (defScope s__law_refused).names.lookup (Str.ofString "e") = some .local := by decide +kernel
theorem lo__law_refused_5 : Loc (defScope s__law_refused) (Str.ofString "e") := .inl (by decide +kernel)
theorem ll__law_refused_5 : (defScope s__law_refused).names.lookup (Str.ofString "e") = some .local := by decide +kernel
theorem gl__law_refused_FoldError : (defScope s__law_refused).names.lookup (Str.ofString "FoldError") = some .globalImplicit := by decide +kernel
theorem gl__law_refused_NoCall : (defScope s__law_refused).names.lookup (Str.ofString "NoCall") = some .globalImplicit := by decide +kernel
theorem gl__law_refused_NoDeed : (defScope s__law_refused).names.lookup (Str.ofString "NoDeed") = some .globalImplicit := by decide +kernel
theorem gl__law_refused_NoMark : (defScope s__law_refused).names.lookup (Str.ofString "NoMark") = some .globalImplicit := by decide +kernel
theorem gl__law_refused_NoRow : (defScope s__law_refused).names.lookup (Str.ofString "NoRow") = some .globalImplicit := by decide +kernel
theorem gl__law_refused_ValueError : (defScope s__law_refused).names.lookup (Str.ofString "ValueError") = some .globalImplicit := by decide +kernel
theorem gl__law_refused_isinstance : (defScope s__law_refused).names.lookup (Str.ofString "isinstance") = some .globalImplicit := by decide +kernel
theorem gl__law_refused_mark_gain : (defScope s__law_refused).names.lookup (Str.ofString "mark_gain") = some .globalImplicit := by decide +kernel
theorem b__law_refused {P : Program} {w : World} {K : Fr} {mg : Str → Option Value} {base : Heap} {n k : Nat} (T : Tx K mg) (Tn : Tab P w K mg base (phi PR n) k) (cdv : Value) (A : Around) (outer : List PySem.Env) (s : Shared) (H : Hp) (E : XK) {a : Addr} (hr : Room k (A.deeper (envOfC (Str.ofString "_law_refused") (defScope s__law_refused) s.heap.objs.size a cdv))) :
    SB (cxOf (L2.CX P w) P w K mg base N__law_refused (Str.ofString "_law_refused") (defScope s__law_refused) a cdv A outer s H E) (phi PR n) (fun cls d _ H => E cls d H) (defBody s__law_refused) D._law_refused_v2.body := by
  have hΦ := phi_mono PR n
  have hu := roomH_of hr
  obtain ⟨MFoldError, mFoldError⟩ := T.cFoldError
  obtain ⟨MNoCall, mNoCall⟩ := T.cNoCall
  obtain ⟨MNoDeed, mNoDeed⟩ := T.cNoDeed
  obtain ⟨MNoMark, mNoMark⟩ := T.cNoMark
  obtain ⟨MNoRow, mNoRow⟩ := T.cNoRow
  exact (sb_cons hΦ (ss_asg (i := 4) hΦ sc__law_refused.nd rfl (lo__law_refused_4) se_non rfl (.inl rfl))
  (sb_tryK (h := "FoldError") (i := 5) hΦ rfl rfl sc__law_refused.nd rfl kl__law_refused_5 (by decide) mFoldError gl__law_refused_FoldError dd_FoldError (takes_of rfl rfl rfl rfl) (fun W1 pn1 xe1 tk1 pas1 => (sb_one (ss_ex hΦ (se_call (f := "mark_gain") (m := .val) hΦ Tn.t_mark_gain hr tk1 gl__law_refused_mark_gain (sa_cons hΦ (se_vB 0 rfl vi__law_refused_0 dd_book dc_book) (sa_cons hΦ (se_vB 1 rfl vi__law_refused_1 dd_counts dc_counts) (sa_cons hΦ (se_vB 2 rfl vi__law_refused_2 dd_price dc_price) (sa_cons hΦ (se_vB 3 rfl vi__law_refused_3 dd_mark dc_mark) sa_nil)))) dd_mark_gain)))) (fun a1 oe1 cls1 d1 pn1 hz1 hf1 cn1 F1 => by have hH : MonoP ((phi PR n).at cn1 a1) := at_monoP hΦ; exact (sb_one (ss_asg (i := 4) hH sc__law_refused.nd rfl (lo__law_refused_4) (se_vB 5 rfl vi__law_refused_5 dd_e dc_e) rfl (.inl rfl))))
  (fun pn2 o2 hp2 tk2 => by have hH : MonoP (⟨(phi PR n).call, o2⟩ : Ph) := hΦ; exact (sb_cons hH (ss_ite hH (st_of hH (se_isHT hp2 hH (paC_cons (h := "NoCall") (by decide) mNoCall gl__law_refused_NoCall dd_NoCall (paC_cons (h := "NoDeed") (by decide) mNoDeed gl__law_refused_NoDeed dd_NoDeed (paC_cons (h := "NoRow") (by decide) mNoRow gl__law_refused_NoRow dd_NoRow paC_nil))) (Nat.le_of_ble_eq_true rfl) gl__law_refused_isinstance T.b_isinstance bt_isinstance (by decide) dd_isinstance (se_vB 4 rfl vi__law_refused_4 dd_caught dc_caught))) (sb_one (ss_ret hH se_bl)) sb_nil)
  (sb_one (ss_ret hH (se_and hH (se_isH hp2 hH (h := "NoMark") (by decide) mNoMark gl__law_refused_NoMark dd_NoMark gl__law_refused_isinstance T.b_isinstance bt_isinstance (by decide) dd_isinstance (se_vB 4 rfl vi__law_refused_4 dd_caught dc_caught)) (se_one (se_isHV hp2 hH gl__law_refused_isinstance T.b_isinstance bt_isinstance (by decide) dd_isinstance (se_vB 4 rfl vi__law_refused_4 dd_caught dc_caught) (pe_bltn gl__law_refused_ValueError T.b_ValueError bt_ValueError rfl))))))))))
abbrev s_law : Stmt := top 39
abbrev N_law : List Str := [Str.ofString "script", Str.ofString "cells", Str.ofString "book", Str.ofString "marks", Str.ofString "pool", Str.ofString "counts", Str.ofString "handed", Str.ofString "price", Str.ofString "mark", Str.ofString "found", Str.ofString "far", Str.ofString "one"]
abbrev ps_law : List Str := [Str.ofString "script"]
theorem sc_law : FnScope N_law ps_law (defScope s_law) := ⟨rfl, rfl, rfl, by decide +kernel, rfl, by decide +kernel, by decide +kernel⟩
theorem vi_law_0 : Vis (defScope s_law) (Str.ofString "script") := .inl (by decide +kernel)
theorem lo_law_0 : Loc (defScope s_law) (Str.ofString "script") := .inl (by decide +kernel)
theorem ll_law_0 : (defScope s_law).names.lookup (Str.ofString "script") = some .local := by decide +kernel
theorem vi_law_1 : Vis (defScope s_law) (Str.ofString "cells") := .inl (by decide +kernel)
theorem lo_law_1 : Loc (defScope s_law) (Str.ofString "cells") := .inl (by decide +kernel)
theorem ll_law_1 : (defScope s_law).names.lookup (Str.ofString "cells") = some .local := by decide +kernel
theorem vi_law_2 : Vis (defScope s_law) (Str.ofString "book") := .inl (by decide +kernel)
theorem lo_law_2 : Loc (defScope s_law) (Str.ofString "book") := .inl (by decide +kernel)
theorem ll_law_2 : (defScope s_law).names.lookup (Str.ofString "book") = some .local := by decide +kernel
theorem vi_law_3 : Vis (defScope s_law) (Str.ofString "marks") := .inr (.inl (by decide +kernel))
theorem lo_law_3 : Loc (defScope s_law) (Str.ofString "marks") := .inr (by decide +kernel)
theorem vi_law_4 : Vis (defScope s_law) (Str.ofString "pool") := .inr (.inl (by decide +kernel))
theorem lo_law_4 : Loc (defScope s_law) (Str.ofString "pool") := .inr (by decide +kernel)
theorem vi_law_5 : Vis (defScope s_law) (Str.ofString "counts") := .inl (by decide +kernel)
theorem lo_law_5 : Loc (defScope s_law) (Str.ofString "counts") := .inl (by decide +kernel)
theorem ll_law_5 : (defScope s_law).names.lookup (Str.ofString "counts") = some .local := by decide +kernel
theorem vi_law_6 : Vis (defScope s_law) (Str.ofString "handed") := .inl (by decide +kernel)
theorem lo_law_6 : Loc (defScope s_law) (Str.ofString "handed") := .inl (by decide +kernel)
theorem ll_law_6 : (defScope s_law).names.lookup (Str.ofString "handed") = some .local := by decide +kernel
theorem vi_law_7 : Vis (defScope s_law) (Str.ofString "price") := .inl (by decide +kernel)
theorem lo_law_7 : Loc (defScope s_law) (Str.ofString "price") := .inl (by decide +kernel)
theorem ll_law_7 : (defScope s_law).names.lookup (Str.ofString "price") = some .local := by decide +kernel
theorem vi_law_8 : Vis (defScope s_law) (Str.ofString "mark") := .inl (by decide +kernel)
theorem lo_law_8 : Loc (defScope s_law) (Str.ofString "mark") := .inl (by decide +kernel)
theorem ll_law_8 : (defScope s_law).names.lookup (Str.ofString "mark") = some .local := by decide +kernel
theorem vi_law_9 : Vis (defScope s_law) (Str.ofString "found") := .inl (by decide +kernel)
theorem lo_law_9 : Loc (defScope s_law) (Str.ofString "found") := .inl (by decide +kernel)
theorem ll_law_9 : (defScope s_law).names.lookup (Str.ofString "found") = some .local := by decide +kernel
theorem vi_law_10 : Vis (defScope s_law) (Str.ofString "far") := .inl (by decide +kernel)
theorem lo_law_10 : Loc (defScope s_law) (Str.ofString "far") := .inl (by decide +kernel)
theorem ll_law_10 : (defScope s_law).names.lookup (Str.ofString "far") = some .local := by decide +kernel
theorem gl_law__law_book : (defScope s_law).names.lookup (Str.ofString "_law_book") = some .globalImplicit := by decide +kernel
theorem gl_law__law_cells : (defScope s_law).names.lookup (Str.ofString "_law_cells") = some .globalImplicit := by decide +kernel
theorem gl_law__law_due_gain : (defScope s_law).names.lookup (Str.ofString "_law_due_gain") = some .globalImplicit := by decide +kernel
theorem gl_law__law_marks : (defScope s_law).names.lookup (Str.ofString "_law_marks") = some .globalImplicit := by decide +kernel
theorem gl_law__law_pool : (defScope s_law).names.lookup (Str.ofString "_law_pool") = some .globalImplicit := by decide +kernel
theorem gl_law__law_refused : (defScope s_law).names.lookup (Str.ofString "_law_refused") = some .globalImplicit := by decide +kernel
theorem gl_law__law_take : (defScope s_law).names.lookup (Str.ofString "_law_take") = some .globalImplicit := by decide +kernel
theorem gl_law_bool : (defScope s_law).names.lookup (Str.ofString "bool") = some .globalImplicit := by decide +kernel
theorem gl_law_dict : (defScope s_law).names.lookup (Str.ofString "dict") = some .globalImplicit := by decide +kernel
theorem gl_law_int : (defScope s_law).names.lookup (Str.ofString "int") = some .globalImplicit := by decide +kernel
theorem gl_law_isinstance : (defScope s_law).names.lookup (Str.ofString "isinstance") = some .globalImplicit := by decide +kernel
theorem gl_law_mark_gain : (defScope s_law).names.lookup (Str.ofString "mark_gain") = some .globalImplicit := by decide +kernel
theorem gl_law_range : (defScope s_law).names.lookup (Str.ofString "range") = some .globalImplicit := by decide +kernel
theorem b_law {P : Program} {w : World} {K : Fr} {mg : Str → Option Value} {base : Heap} {n k : Nat} (T : Tx K mg) (Tn : Tab P w K mg base (phi PR n) k) (cdv : Value) (A : Around) (outer : List PySem.Env) (s : Shared) (H : Hp) (E : XK) {a : Addr} (hr : Room k (A.deeper (envOfC (Str.ofString "law") (defScope s_law) s.heap.objs.size a cdv))) :
    SB (cxOf (L2.CX P w) P w K mg base N_law (Str.ofString "law") (defScope s_law) a cdv A outer s H E) (phi PR n) (fun cls d _ H => E cls d H) (defBody s_law) D.law_k43.body := by
  have hΦ := phi_mono PR n
  have hu := roomH_of hr
  exact (sb_cons hΦ (ss_asg (i := 1) hΦ sc_law.nd rfl (lo_law_1) (se_call (f := "_law_cells") (m := .val) hΦ Tn.t__law_cells hr (takes_of rfl rfl rfl rfl) gl_law__law_cells (sa_cons hΦ (se_vB 0 rfl vi_law_0 dd_script dc_script) (sa_cons hΦ se_int sa_nil)) dd__law_cells) rfl (.inl rfl))
  (sb_cons hΦ (ss_asg (i := 2) hΦ sc_law.nd rfl (lo_law_2) (se_call (f := "_law_book") (m := .val) hΦ Tn.t__law_book hr (takes_of rfl rfl rfl rfl) gl_law__law_book (sa_cons hΦ (se_vB 1 rfl vi_law_1 dd_cells dc_cells) (sa_cons hΦ se_int sa_nil)) dd__law_book) rfl (.inl rfl))
  (sb_cons hΦ (ss_asg (i := 3) hΦ sc_law.nd rfl (lo_law_3) (se_call (f := "_law_marks") (m := .val) hΦ Tn.t__law_marks hr (takes_of rfl rfl rfl rfl) gl_law__law_marks (sa_cons hΦ (se_vB 2 rfl vi_law_2 dd_book dc_book) sa_nil) dd__law_marks) rfl (.inl rfl))
  (sb_cons hΦ (ss_asg (i := 4) hΦ sc_law.nd rfl (lo_law_4) (se_call (f := "_law_pool") (m := .obj) hΦ Tn.t__law_pool hr (takes_of rfl rfl rfl rfl) gl_law__law_pool (sa_cons hΦ (se_vB 1 rfl vi_law_1 dd_cells dc_cells) (sa_cons hΦ se_int sa_nil)) dd__law_pool) rfl (.inl rfl))
  (sb_cons hΦ (ss_asg (i := 5) hΦ sc_law.nd rfl (lo_law_5) (SF.val hΦ (sf_dictP hΦ gl_law_dict T.b_dict bt_dict (by decide) dd_dict (SF.val hΦ (sf_comp (own := [("mark", 8)]) (t := (.n 8)) (e := (.tup (.cons (.v 8) (.cons (.ix (.lst (.cons (.c (.int 0)) (.cons (.c (.int 1)) (.cons (.call "_law_take" .val (.cons (.v 4) (.cons (.c (.int 1000001)) .nil))) .nil)))) (.call "_law_take" .val (.cons (.v 4) (.cons (.c (.int 3)) .nil)))) .nil)))) (cond := (.c (.bl true))) hΦ rfl sc_law.nd (si_e hΦ (se_vB 3 rfl vi_law_3 dd_marks dc_marks)) (blkOk_by (N := N_law) (sc := defScope s_law) (by decide +kernel)) (fun _ _ _ _ _ => (pg_name (i := 8) sc_law.nd rfl (.inl rfl) (by first | exact .inr rfl | exact .inl rfl))) (fun _ _ _ _ _ => pts_yes) (fun _ _ _ _ _ => (se_tup hΦ (sa_cons hΦ (se_vB 8 rfl (by first | exact .inl rfl | exact .inr (.inl rfl) | exact .inr (.inr rfl)) dd_mark dc_mark) (sa_cons hΦ (se_ix hΦ hu (SF.val hΦ (sf_lst hΦ (sa_cons hΦ se_int (sa_cons hΦ se_int (sa_cons hΦ (se_call (f := "_law_take") (m := .val) hΦ Tn.t__law_take hr takes0 (by first | rfl | kernel_rfl) (sa_cons hΦ (se_vB 4 rfl (by first | exact .inl rfl | exact .inr (.inl rfl) | exact .inr (.inr rfl)) dd_pool dc_pool) (sa_cons hΦ se_int sa_nil)) dd__law_take) sa_nil))))) (se_call (f := "_law_take") (m := .val) hΦ Tn.t__law_take hr takes0 (by first | rfl | kernel_rfl) (sa_cons hΦ (se_vB 4 rfl (by first | exact .inl rfl | exact .inr (.inl rfl) | exact .inr (.inr rfl)) dd_pool dc_pool) (sa_cons hΦ se_int sa_nil)) dd__law_take)) sa_nil)))) (by decide))))) rfl (.inl rfl))
  (sb_cons hΦ (ss_asg (i := 6) hΦ sc_law.nd rfl (lo_law_6) (SF.val hΦ (sf_dict hΦ gl_law_dict T.b_dict bt_dict (by decide) dd_dict (se_vB 5 rfl vi_law_5 dd_counts dc_counts))) rfl (.inl rfl))
  (sb_cons hΦ (ss_asg (i := 7) hΦ sc_law.nd rfl (lo_law_7) (se_ix hΦ hu (SF.val hΦ (sf_lst hΦ (sa_cons hΦ se_int (sa_cons hΦ se_int (sa_cons hΦ se_int (sa_cons hΦ (se_call (f := "_law_take") (m := .val) hΦ Tn.t__law_take hr (takes_of rfl rfl rfl rfl) gl_law__law_take (sa_cons hΦ (se_vB 4 rfl vi_law_4 dd_pool dc_pool) (sa_cons hΦ se_int sa_nil)) dd__law_take) sa_nil)))))) (se_call (f := "_law_take") (m := .val) hΦ Tn.t__law_take hr (takes_of rfl rfl rfl rfl) gl_law__law_take (sa_cons hΦ (se_vB 4 rfl vi_law_4 dd_pool dc_pool) (sa_cons hΦ se_int sa_nil)) dd__law_take)) rfl (.inl rfl))
  (sb_cons hΦ (ss_for (t := (.n 8)) hΦ (passes_of rfl) rfl (si_e hΦ (se_vB 3 rfl vi_law_3 dd_marks dc_marks)) (pg_name (i := 8) sc_law.nd rfl (lo_law_8) (.inl rfl)) (sb_cons hΦ (ss_asg (i := 9) hΦ sc_law.nd rfl (lo_law_9) (se_call (f := "mark_gain") (m := .val) hΦ Tn.t_mark_gain hr (takes_of rfl rfl rfl rfl) gl_law_mark_gain (sa_cons hΦ (se_vB 2 rfl vi_law_2 dd_book dc_book) (sa_cons hΦ (se_vB 6 rfl vi_law_6 dd_handed dc_handed) (sa_cons hΦ (se_vB 7 rfl vi_law_7 dd_price dc_price) (sa_cons hΦ (se_vB 8 rfl vi_law_8 dd_mark dc_mark) sa_nil)))) dd_mark_gain) rfl (.inl rfl))
  (sb_cons hΦ (ss_ite hΦ (SW.t (sw_or hΦ (st_not hΦ (st_of hΦ (se_isT hΦ .int gl_law_isinstance T.b_isinstance bt_isinstance (by decide) dd_isinstance (se_vB 9 rfl vi_law_9 dd_found dc_found) (pe_bltn gl_law_int T.b_int bt_int rfl)))) (sw_or1 (st_of hΦ (se_isT hΦ .bool gl_law_isinstance T.b_isinstance bt_isinstance (by decide) dd_isinstance (se_vB 9 rfl vi_law_9 dd_found dc_found) (pe_bltn gl_law_bool T.b_bool bt_bool rfl)))))) (sb_one (ss_ret hΦ se_bl)) sb_nil)
  (sb_one (ss_ite hΦ (SW.t (sw_or hΦ (st_eq hΦ hu .ne (se_vB 9 rfl vi_law_9 dd_found dc_found) (se_call (f := "_law_due_gain") (m := .val) hΦ Tn.t__law_due_gain hr (takes_of rfl rfl rfl rfl) gl_law__law_due_gain (sa_cons hΦ (se_vB 2 rfl vi_law_2 dd_book dc_book) (sa_cons hΦ (se_vB 5 rfl vi_law_5 dd_counts dc_counts) (sa_cons hΦ (se_vB 7 rfl vi_law_7 dd_price dc_price) (sa_cons hΦ (se_vB 8 rfl vi_law_8 dd_mark dc_mark) sa_nil)))) dd__law_due_gain)) (sw_or1 (st_eq hΦ hu .ne (se_call (f := "mark_gain") (m := .val) hΦ Tn.t_mark_gain hr (takes_of rfl rfl rfl rfl) gl_law_mark_gain (sa_cons hΦ (se_vB 2 rfl vi_law_2 dd_book dc_book) (sa_cons hΦ (se_vB 6 rfl vi_law_6 dd_handed dc_handed) (sa_cons hΦ (se_vB 7 rfl vi_law_7 dd_price dc_price) (sa_cons hΦ (se_vB 8 rfl vi_law_8 dd_mark dc_mark) sa_nil)))) dd_mark_gain) (se_vB 9 rfl vi_law_9 dd_found dc_found))))) (sb_one (ss_ret hΦ se_bl)) sb_nil)))))
  (sb_cons hΦ (ss_asg (i := 10) hΦ sc_law.nd rfl (lo_law_10) (se_call (f := "_law_take") (m := .val) hΦ Tn.t__law_take hr (takes_of rfl rfl rfl rfl) gl_law__law_take (sa_cons hΦ (se_vB 4 rfl vi_law_4 dd_pool dc_pool) (sa_cons hΦ (se_bin hΦ .pow se_int se_int) sa_nil)) dd__law_take) rfl (.inl rfl))
  (sb_cons hΦ (ss_for (t := (.n 8)) hΦ (passes_of rfl) rfl (si_e hΦ (se_bin hΦ .add (se_sl hΦ (SF.val hΦ (sf_comp (own := [("one", 11)]) (t := (.n 11)) (e := (.v 11)) (cond := (.isin .notin (.v 11) (.v 3))) hΦ rfl sc_law.nd (si_range hΦ gl_law_range T.b_range se_int) (blkOk_by (N := N_law) (sc := defScope s_law) (by decide +kernel)) (fun _ _ _ _ _ => (pg_name (i := 11) sc_law.nd rfl (.inl rfl) (by first | exact .inr rfl | exact .inl rfl))) (fun _ _ _ _ _ => pts_one (st_in hΦ hu .notin (se_vB 11 rfl (by first | exact .inl rfl | exact .inr (.inl rfl) | exact .inr (.inr rfl)) dd_one dc_one) (se_vB 3 rfl (by first | exact .inl rfl | exact .inr (.inl rfl) | exact .inr (.inr rfl)) dd_marks dc_marks))) (fun _ _ _ _ _ => (se_vB 11 rfl (by first | exact .inl rfl | exact .inr (.inl rfl) | exact .inr (.inr rfl)) dd_one dc_one)) (by decide))) so_none (so_some hΦ se_int)) (SF.val hΦ (sf_lst hΦ (sa_cons hΦ (se_neg hΦ se_int) (sa_cons hΦ se_int (sa_cons hΦ (se_bin hΦ .add se_int (se_vB 10 rfl vi_law_10 dd_far dc_far)) (sa_cons hΦ (se_bin hΦ .sub (se_neg hΦ se_int) (se_vB 10 rfl vi_law_10 dd_far dc_far)) sa_nil)))))))) (pg_name (i := 8) sc_law.nd rfl (lo_law_8) (.inl rfl)) (sb_one (ss_ite hΦ (st_not hΦ (st_of hΦ (se_call (f := "_law_refused") (m := .val) hΦ Tn.t__law_refused hr (takes_of rfl rfl rfl rfl) gl_law__law_refused (sa_cons hΦ (se_vB 2 rfl vi_law_2 dd_book dc_book) (sa_cons hΦ (se_vB 6 rfl vi_law_6 dd_handed dc_handed) (sa_cons hΦ (se_vB 7 rfl vi_law_7 dd_price dc_price) (sa_cons hΦ (se_vB 8 rfl vi_law_8 dd_mark dc_mark) sa_nil)))) dd__law_refused))) (sb_one (ss_ret hΦ se_bl)) sb_nil)))
  (sb_one (ss_ret hΦ (se_and hΦ (se_eq hΦ hu .eq (se_vB 6 rfl vi_law_6 dd_handed dc_handed) (se_vB 5 rfl vi_law_5 dd_counts dc_counts)) (se_one (se_eq hΦ hu .eq (se_vB 2 rfl vi_law_2 dd_book dc_book) (se_call (f := "_law_book") (m := .val) hΦ Tn.t__law_book hr (takes_of rfl rfl rfl rfl) gl_law__law_book (sa_cons hΦ (se_vB 1 rfl vi_law_1 dd_cells dc_cells) (sa_cons hΦ se_int sa_nil)) dd__law_book))))))))))))))))
end Mi.k43
namespace Mi.k43
open PySem (Str)
open Mi
def depth : Nat := 40
theorem mxP : MxP PR := ⟨pr__law_take, pr__law_value, pr__law_expression⟩
theorem mrP : MrP PR := ⟨mxP, pr__law_call, pr__law_row, pr__law_rows⟩
theorem mbP : MbP PR := ⟨mrP, pr__law_pool, pr__law_some⟩
theorem bkP : BkP PR := ⟨pr_rows_within, pr_read_through⟩
theorem rowsOf : RowsOf PR := by first | exact .inl pr_rows_of | exact .inr pr_rows_of
theorem ownP : OwnP PR := ⟨bkP, rowsOf, pr_names_in, pr_expressions_of, pr_row_names, pr_deed_names⟩
theorem gnP : GnP PR := ⟨ownP, pr_own_names, pr_calls_of, pr_deed_of, pr_called_by, pr_mark_gain, ⟨pr__law_read, pr__law_row_names⟩, pr__law_many_own, pr__law_calls, pr__law_due_gain⟩
theorem flatEq_int (c : Int) : flatEq (.int c) (.int c) = true := by simp [flatEq]
theorem dctIn_ic {m : List (Int × Int)} (hm : (m.map Prod.fst).Nodup) : ∀ {l : List (Int × Int)}, (∀ p ∈ l, p ∈ m) → dctIn (m.map icV) (l.map icV) = true
  | [], _ => rfl
  | (k, w) :: r, h => by
    show (isKey (.int k) && (match dLook (.int k) (m.map icV) with | some w' => flatEq (.int w) w' | none => false) && dctIn (m.map icV) (r.map icV)) = true
    rw [dLook_ic hm (h (k, w) List.mem_cons_self), dctIn_ic hm fun p hp => h p (List.mem_cons_of_mem _ hp)]
    simp [flatEq, isKey]
theorem eq_ic {μ : Mu} {l : List (Int × Int)} (hn : (l.map Prod.fst).Nodup) : eqV μ (.dct (l.map icV)) (.dct (l.map icV)) = some true := by
  have h : eqC (.dct (l.map icV)) (.dct (l.map icV)) = some true := by
    unfold eqC
    dsimp only
    rw [if_pos ⟨rfl, dctIn_ic hn fun p hp => hp⟩]
  unfold eqV
  simp only [ct_dct, Option.bind_some, h]
theorem keysP_ic : ∀ l : List (Int × Int), keysP (l.map icV) = some (l.map Prod.fst)
  | [] => rfl
  | (k, s) :: r => by
    show (keysP (r.map icV)).map _ = _
    rw [keysP_ic r]
    rfl
def CbOk (l : List (Int × Int)) : Prop := ∀ q ∈ l, 0 ≤ q.2 ∧ q.2 ≤ 1000000
theorem cb_snoc {l : List (Int × Int)} (h : CbOk l) {x c : Int} (h0 : 0 ≤ c) (h1 : c ≤ 1000000) : CbOk (l ++ [(x, c)]) := fun q hq => by
  rcases List.mem_append.mp hq with z | z
  · exact h q z
  · rw [List.mem_singleton.mp z]; exact ⟨h0, h1⟩
theorem law_pure (ns : List Int) (hn : ns.length ≤ 63) : phi PR (depth + 1) "law" .val [.lst (ns.map Val.int)] (fun _ => none) (fun v _ => v = .bl true) (fun _ _ => False) := by
  refine call_ok pr_law rfl ?_
  have hΦ := phi_mono PR depth
  unfold D.law_k43
  rw [w_seq]
  simp [e_v, e_c, e_tup, e_lst, e_dct, s_nil, s_cons, e_ix, e_sl, e_bin, e_cmp, e_eq, e_ne, e_in, e_nin, e_isN, e_notN, e_chain, e_neg, e_not, e_and, e_or, e_ite, e_call, e_bi, e_me, e_isT, e_new, e_attr, e_mth, e_mk, w_setattr, w_skip, w_ex, w_asg, w_asgT, w_setix, w_ite, w_ret, w_raise]
  refine cells_okM pr__law_cells hn (by decide) fun cs hcs => ?_
  rw [w_seq]
  simp [e_v, e_c, e_tup, e_lst, e_dct, s_nil, s_cons, e_ix, e_sl, e_bin, e_cmp, e_eq, e_ne, e_in, e_nin, e_isN, e_notN, e_chain, e_neg, e_not, e_and, e_or, e_ite, e_call, e_bi, e_me, e_isT, e_new, e_attr, e_mth, e_mk, w_setattr, w_skip, w_ex, w_asg, w_asgT, w_setix, w_ite, w_ret, w_raise]
  refine book_okM (n := depth) mbP pr__law_book (by omega) (by decide) fun hB => ?_
  have g := gnB_of hB
  obtain ⟨b, hbE⟩ : ∃ b, b = bookS cs := ⟨_, rfl⟩
  have hB' := hB
  rw [← hbE] at g hB' ⊢
  rw [w_seq]
  simp [e_v, e_c, e_tup, e_lst, e_dct, s_nil, s_cons, e_ix, e_sl, e_bin, e_cmp, e_eq, e_ne, e_in, e_nin, e_isN, e_notN, e_chain, e_neg, e_not, e_and, e_or, e_ite, e_call, e_bi, e_me, e_isT, e_new, e_attr, e_mth, e_mk, w_setattr, w_skip, w_ex, w_asg, w_asgT, w_setix, w_ite, w_ret, w_raise]
  refine lmarks_ok (n := depth) pr__law_calls pr__law_marks g.dp (fun d hd => Nat.le_trans (g.fl d hd) (by decide)) (Nat.le_trans g.ml (by decide)) (by decide) ?_
  obtain ⟨ms, hms⟩ : ∃ ms, ms = sortI (bmks b) := ⟨_, rfl⟩
  have hmp : ms.Perm (bmks b) := by rw [hms]; exact List.mergeSort_perm _ _
  have hmn : ms.Nodup := hmp.nodup_iff.mpr g.mn
  have hml : ms.length ≤ 10 := by rw [hmp.length_eq]; exact g.ml
  rw [← hms]
  rw [w_seq]
  simp [e_v, e_c, e_tup, e_lst, e_dct, s_nil, s_cons, e_ix, e_sl, e_bin, e_cmp, e_eq, e_ne, e_in, e_nin, e_isN, e_notN, e_chain, e_neg, e_not, e_and, e_or, e_ite, e_call, e_bi, e_me, e_isT, e_new, e_attr, e_mth, e_mk, w_setattr, w_skip, w_ex, w_asg, w_asgT, w_setix, w_ite, w_ret, w_raise]
  refine pool_okM (n := depth) pr__law_pool (by decide) (by decide) (by omega) (by decide) fun p μ1 hp0 k1 d1 => ?_
  rw [w_seq]
  simp [e_v, e_c, e_tup, e_lst, e_dct, s_nil, s_cons, e_ix, e_sl, e_bin, e_cmp, e_eq, e_ne, e_in, e_nin, e_isN, e_notN, e_chain, e_neg, e_not, e_and, e_or, e_ite, e_call, e_bi, e_me, e_isT, e_new, e_attr, e_mth, e_mk, w_setattr, w_skip, w_ex, w_asg, w_asgT, w_setix, w_ite, w_ret, w_raise]
  refine comp_T Val.int ms hΦ (i_e ?_ hΦ)
  simp [e_v, e_c, e_tup, e_lst, e_dct, s_nil, s_cons, e_ix, e_sl, e_bin, e_cmp, e_eq, e_ne, e_in, e_nin, e_isN, e_notN, e_chain, e_neg, e_not, e_and, e_or, e_ite, e_call, e_bi, e_me, e_isT, e_new, e_attr, e_mth, e_mk, w_setattr, w_skip, w_ex, w_asg, w_asgT, w_setix, w_ite, w_ret, w_raise, guard]
  refine ⟨fun ys acc μ' => ∃ cnt : List (Int × Int), acc = cnt.map icV ∧ cnt.map Prod.fst = ys ∧ CbOk cnt ∧ Sta μ' p, ⟨[], rfl, rfl, (fun q hq => by cases hq), k1.st⟩, ?_, ?_⟩
  · rintro ys x zs acc μ' e ⟨cnt, rfl, hcf, hcb, hst⟩
    refine ⟨trivial, ?_⟩
    have hyl : cnt.length < 11 := by
      have h1 := congrArg List.length e
      have h2 := congrArg List.length hcf
      simp at h1 h2
      omega
    simp [wipe, e_v, e_c, e_tup, e_lst, e_dct, s_nil, s_cons, e_ix, e_sl, e_bin, e_cmp, e_eq, e_ne, e_in, e_nin, e_isN, e_notN, e_chain, e_neg, e_not, e_and, e_or, e_ite, e_call, e_bi, e_me, e_isT, e_new, e_attr, e_mth, e_mk, w_setattr, w_skip, w_ex, w_asg, w_asgT, w_setix, w_ite, w_ret, w_raise]
    refine takeM_ok (n := depth) pr__law_take hst (by decide) (by decide) (by decide) fun t μ2 t0 t1 k2 _ => ?_
    refine takeM_ok (n := depth) pr__law_take k2.st (by decide) (by decide) (by decide) fun u μ3 u0 u1 k3 _ => ?_
    obtain ⟨c, hc, c0, c1⟩ : ∃ c : Int, atI [Val.int 0, .int 1, .int t] u = some (.int c) ∧ 0 ≤ c ∧ c ≤ 1000000 := by
      have : u = 0 ∨ u = 1 ∨ u = 2 := by omega
      rcases this with e | e | e <;> rw [e]
      · exact ⟨0, rfl, by decide, by decide⟩
      · exact ⟨1, rfl, by decide, by decide⟩
      · exact ⟨t, rfl, t0, by omega⟩
    simp [hc]
    refine ⟨by rw [big_eq]; omega, cnt ++ [(x, c)], by simp [icV], by simp [hcf], cb_snoc hcb c0 c1, k3.st⟩
  rintro acc μ2 ⟨cnt, rfl, hcf, hcb, hst⟩
  refine ⟨trivial, ?_⟩
  have hcn : (cnt.map Prod.fst).Nodup := by rw [hcf]; exact hmn
  have hdp : biV μ2 .dictP [.lst (cnt.map icV)] = some (.dct (cnt.map icV)) := by
    show dictPF μ2 [.lst (cnt.map icV)] = _
    simp only [dictPF, ct_lst, keysP_ic, Option.bind_some]
    rw [if_pos hcn]
  have hdd : ∀ m : Mu, biV m .dict [.dct (cnt.map icV)] = some (.dct (cnt.map icV)) := fun _ => rfl
  rw [hdp]
  simp only [brV_some]
  rw [w_seq]
  simp [e_v, e_c, e_tup, e_lst, e_dct, s_nil, s_cons, e_ix, e_sl, e_bin, e_cmp, e_eq, e_ne, e_in, e_nin, e_isN, e_notN, e_chain, e_neg, e_not, e_and, e_or, e_ite, e_call, e_bi, e_me, e_isT, e_new, e_attr, e_mth, e_mk, w_setattr, w_skip, w_ex, w_asg, w_asgT, w_setix, w_ite, w_ret, w_raise, hdd]
  rw [w_seq]
  simp [e_v, e_c, e_tup, e_lst, e_dct, s_nil, s_cons, e_ix, e_sl, e_bin, e_cmp, e_eq, e_ne, e_in, e_nin, e_isN, e_notN, e_chain, e_neg, e_not, e_and, e_or, e_ite, e_call, e_bi, e_me, e_isT, e_new, e_attr, e_mth, e_mk, w_setattr, w_skip, w_ex, w_asg, w_asgT, w_setix, w_ite, w_ret, w_raise]
  refine takeM_ok (n := depth) pr__law_take hst (by decide) (by decide) (by decide) fun t μ3 t0 t1 k3 _ => ?_
  refine takeM_ok (n := depth) pr__law_take k3.st (by decide) (by decide) (by decide) fun u μ4 u0 u1 k4 _ => ?_
  obtain ⟨price, hpr⟩ : ∃ c : Int, atI [Val.int 0, .int 3, .int 1000, .int t] u = some (.int c) := by
    have : u = 0 ∨ u = 1 ∨ u = 2 ∨ u = 3 := by omega
    rcases this with e | e | e | e <;> rw [e]
    · exact ⟨0, rfl⟩
    · exact ⟨3, rfl⟩
    · exact ⟨1000, rfl⟩
    · exact ⟨t, rfl⟩
  simp [hpr]
  have hmem : ∀ m ∈ ms, ∃ d c, d ∈ b ∧ (m, d.name) ∈ clsB b ∧ (m, c) ∈ cnt ∧ 0 ≤ c ∧ c ≤ 1000000 := fun m hm => by
    have h1 : m ∈ (clsB b).map Prod.fst := by rw [clsB_keys]; exact hmp.mem_iff.mp hm
    obtain ⟨⟨m', w⟩, h2, rfl⟩ := List.mem_map.mp h1
    obtain ⟨d, hd, e⟩ := g.ends _ h2
    have h3 : m' ∈ cnt.map Prod.fst := by rw [hcf]; exact hm
    obtain ⟨⟨m2, c⟩, h4, e2⟩ := List.mem_map.mp h3
    obtain rfl : m2 = m' := e2
    exact ⟨d, c, hd, by rw [e]; exact h2, h4, hcb _ h4⟩
  have hti : ∀ (m : Mu) (i : Int), tyV m .int (.int i) = some true := fun _ _ => rfl
  have htb : ∀ (m : Mu) (i : Int), tyV m .bool (.int i) = some false := fun _ _ => rfl
  rw [w_seq]
  refine for_T Val.int ms hΦ (i_e ?_ hΦ)
  simp [e_v, e_c, e_tup, e_lst, e_dct, s_nil, s_cons, e_ix, e_sl, e_bin, e_cmp, e_eq, e_ne, e_in, e_nin, e_isN, e_notN, e_chain, e_neg, e_not, e_and, e_or, e_ite, e_call, e_bi, e_me, e_isT, e_new, e_attr, e_mth, e_mk, w_setattr, w_skip, w_ex, w_asg, w_asgT, w_setix, w_ite, w_ret, w_raise, guard]
  refine ⟨fun ys env' μ' => ∃ (o8 o9 : Option Val), env' = [some (.lst (ns.map .int)), some (.lst (cs.map .int)), some (.tup (b.map Dd.v)), some (.lst (ms.map .int)), some (.ref p), some (.dct (cnt.map icV)), some (.dct (cnt.map icV)), some (.int price), o8, o9, none, none] ∧ μ' = μ4, ⟨_, _, rfl, rfl⟩, ?_, ?_⟩
  · rintro ys x zs env' μ' e ⟨o8, o9, rfl, rfl⟩
    refine ⟨trivial, ?_⟩
    obtain ⟨d, c, hd, hm, hc, c0, c1⟩ := hmem x (by rw [e]; simp)
    simp
    rw [w_seq]
    simp [e_v, e_c, e_tup, e_lst, e_dct, s_nil, s_cons, e_ix, e_sl, e_bin, e_cmp, e_eq, e_ne, e_in, e_nin, e_isN, e_notN, e_chain, e_neg, e_not, e_and, e_or, e_ite, e_call, e_bi, e_me, e_isT, e_new, e_attr, e_mth, e_mk, w_setattr, w_skip, w_ex, w_asg, w_asgT, w_setix, w_ite, w_ret, w_raise]
    refine gain_ok (n := depth) gnP g rfl hcn hc c0 c1 hd hm (by decide) ?_
    rw [w_seq]
    simp [e_v, e_c, e_tup, e_lst, e_dct, s_nil, s_cons, e_ix, e_sl, e_bin, e_cmp, e_eq, e_ne, e_in, e_nin, e_isN, e_notN, e_chain, e_neg, e_not, e_and, e_or, e_ite, e_call, e_bi, e_me, e_isT, e_new, e_attr, e_mth, e_mk, w_setattr, w_skip, w_ex, w_asg, w_asgT, w_setix, w_ite, w_ret, w_raise, hti, htb]
    refine due_ok (n := depth) gnP g (fun m' _ => rfl) hcn hc c0 c1 hd hm (by decide) ?_
    simp
    refine gain_ok (n := depth) gnP g rfl hcn hc c0 c1 hd hm (by decide) ?_
    simp
  rintro env' μ' ⟨o8, o9, rfl, rfl⟩
  refine ⟨trivial, ?_⟩
  rw [w_seq]
  simp [e_v, e_c, e_tup, e_lst, e_dct, s_nil, s_cons, e_ix, e_sl, e_bin, e_cmp, e_eq, e_ne, e_in, e_nin, e_isN, e_notN, e_chain, e_neg, e_not, e_and, e_or, e_ite, e_call, e_bi, e_me, e_isT, e_new, e_attr, e_mth, e_mk, w_setattr, w_skip, w_ex, w_asg, w_asgT, w_setix, w_ite, w_ret, w_raise]
  refine takeM_wide (n := depth) pr__law_take k4.st (by decide) (by decide +kernel) (by decide) fun far μ5 far0 far1 k5 => ?_
  rw [w_seq]
  have hmr : ∀ m ∈ ms, 0 ≤ m ∧ m < 100 := fun m hm => by
    obtain ⟨f, l, _, h1⟩ := hB'.mks'
    have h2 := hmp.mem_iff.mp hm
    rw [h1] at h2
    unfold mlM at h2
    obtain ⟨i, _, rfl⟩ := List.mem_map.mp h2
    exact fmod_lt (by decide)
  obtain ⟨S, hS⟩ : ∃ S : List Nat, S = (List.range 100).filter (fun k => !decide (((k : Nat) : Int) ∈ ms)) := ⟨_, rfl⟩
  have hSl : S.length ≤ 100 := by rw [hS]; exact Nat.le_trans (List.length_filter_le _ _) (by simp)
  obtain ⟨T, hT⟩ : ∃ T : List Nat, T = cutL S none (some 5) := ⟨_, rfl⟩
  have hTs : ∀ k ∈ T, k ∈ S := fun k hk => by
    rw [hT] at hk
    unfold cutL at hk
    exact List.mem_of_mem_drop (List.mem_of_mem_take hk)
  have hTl : T.length ≤ 100 := by
    rw [hT]
    unfold cutL
    rw [List.length_take, List.length_drop]
    omega
  refine for_T Val.int (T.map (fun k : Nat => (k : Int)) ++ [-1, 100, 100 + far, -1 - far]) hΦ (i_e ?_ hΦ)
  simp [e_v, e_c, e_tup, e_lst, e_dct, s_nil, s_cons, e_ix, e_sl, e_bin, e_cmp, e_eq, e_ne, e_in, e_nin, e_isN, e_notN, e_chain, e_neg, e_not, e_and, e_or, e_ite, e_call, e_bi, e_me, e_isT, e_new, e_attr, e_mth, e_mk, w_setattr, w_skip, w_ex, w_asg, w_asgT, w_setix, w_ite, w_ret, w_raise]
  refine comp_mapT (fun k : Nat => Val.int (k : Int)) (List.range 100) (fun k => !decide (((k : Nat) : Int) ∈ ms)) (fun k => Val.int ((k : Nat) : Int)) hΦ (i_range.mpr ?_)
  simp [e_v, e_c, e_tup, e_lst, e_dct, s_nil, s_cons, e_ix, e_sl, e_bin, e_cmp, e_eq, e_ne, e_in, e_nin, e_isN, e_notN, e_chain, e_neg, e_not, e_and, e_or, e_ite, e_call, e_bi, e_me, e_isT, e_new, e_attr, e_mth, e_mk, w_setattr, w_skip, w_ex, w_asg, w_asgT, w_setix, w_ite, w_ret, w_raise]
  refine ⟨ints0S 100, trivial, by rw [big_eq]; decide, fun x hx => ?_, ?_⟩
  · simp [wipe, e_v, e_c, e_tup, e_lst, e_dct, s_nil, s_cons, e_ix, e_sl, e_bin, e_cmp, e_eq, e_ne, e_in, e_nin, e_isN, e_notN, e_chain, e_neg, e_not, e_and, e_or, e_ite, e_call, e_bi, e_me, e_isT, e_new, e_attr, e_mth, e_mk, w_setattr, w_skip, w_ex, w_asg, w_asgT, w_setix, w_ite, w_ret, w_raise]
    rw [in_ints (l := ms) rfl]
    simp
  · have hno : ∀ x ∈ T.map (fun k : Nat => (k : Int)) ++ [-1, 100, 100 + far, -1 - far], x ∉ bmks b := fun x hx hxb => by
      have hxm := hmp.mem_iff.mpr hxb
      have hr := hmr x hxm
      rcases List.mem_append.mp hx with z | z
      · obtain ⟨k, hk, rfl⟩ := List.mem_map.mp z
        have h1 := hTs k hk
        rw [hS] at h1
        have h2 := (List.mem_filter.mp h1).2
        simp at h2
        exact h2 hxm
      · simp at z
        omega
    refine ⟨by rw [← hS, cutL_mapS, List.length_map, ← hT, big_eq]; omega, by rw [← hS, cutL_mapS, ← hT]; rfl, fun ys env' μ' => ∃ o8 : Option Val, env' = [some (.lst (ns.map .int)), some (.lst (cs.map .int)), some (.tup (b.map Dd.v)), some (.lst (ms.map .int)), some (.ref p), some (.dct (cnt.map icV)), some (.dct (cnt.map icV)), some (.int price), o8, o9, some (.int far), none] ∧ μ' = μ5, ⟨_, rfl, rfl⟩, ?_, ?_⟩
    · rintro ys x zs env' μ' e ⟨o8, rfl, rfl⟩
      refine ⟨trivial, ?_⟩
      have hx := hno x (by rw [e]; simp)
      simp
      refine refused_ok (n := depth) gnP pr__law_refused g hx (by decide) ?_
      simp
    · rintro env' μ' ⟨o8, rfl, rfl⟩
      refine ⟨trivial, ?_⟩
      simp [e_v, e_c, e_tup, e_lst, e_dct, s_nil, s_cons, e_ix, e_sl, e_bin, e_cmp, e_eq, e_ne, e_in, e_nin, e_isN, e_notN, e_chain, e_neg, e_not, e_and, e_or, e_ite, e_call, e_bi, e_me, e_isT, e_new, e_attr, e_mth, e_mk, w_setattr, w_skip, w_ex, w_asg, w_asgT, w_setix, w_ite, w_ret, w_raise, eq_ic hcn]
      refine book_okM (n := depth) mbP pr__law_book (by omega) (by decide) fun _ => ?_
      rw [← hbE, bkN_same hB']
      simp
      exact rfl
end Mi.k43
namespace Mi.k43
open PySem PySem.Spec PyProof.Rows L2 Mi
theorem all_mk {P : Program} {w : World} {K : Fr} {h : Heap} {mg : Str → Option Value} {fa : Addr} (X : K.In h) (G : h.Ns mainGlobals mg) (hfa : mg "law" = some (.ref fa))
    {f_names_in : Addr} {od_names_in an_names_in : Option Addr} {sl_names_in : Array (Option Value)} {oc_names_in kV_names_in dc_names_in pm_names_in cd_names_in ct_names_in : Value} {f_rows_within : Addr} {od_rows_within an_rows_within : Option Addr} {sl_rows_within : Array (Option Value)} {oc_rows_within kV_rows_within dc_rows_within pm_rows_within cd_rows_within ct_rows_within : Value} {f_read_through : Addr} {od_read_through an_read_through : Option Addr} {sl_read_through : Array (Option Value)} {oc_read_through kV_read_through dc_read_through pm_read_through cd_read_through ct_read_through : Value} {f_rows_of : Addr} {od_rows_of an_rows_of : Option Addr} {sl_rows_of : Array (Option Value)} {oc_rows_of kV_rows_of dc_rows_of pm_rows_of cd_rows_of ct_rows_of : Value} {f_expressions_of : Addr} {od_expressions_of an_expressions_of : Option Addr} {sl_expressions_of : Array (Option Value)} {oc_expressions_of kV_expressions_of dc_expressions_of pm_expressions_of cd_expressions_of ct_expressions_of : Value} {f_row_names : Addr} {od_row_names an_row_names : Option Addr} {sl_row_names : Array (Option Value)} {oc_row_names kV_row_names dc_row_names pm_row_names cd_row_names ct_row_names : Value} {f_deed_names : Addr} {od_deed_names an_deed_names : Option Addr} {sl_deed_names : Array (Option Value)} {oc_deed_names kV_deed_names dc_deed_names pm_deed_names cd_deed_names ct_deed_names : Value} {f_own_names : Addr} {od_own_names an_own_names : Option Addr} {sl_own_names : Array (Option Value)} {oc_own_names kV_own_names dc_own_names pm_own_names cd_own_names ct_own_names : Value} {f_calls_of : Addr} {od_calls_of an_calls_of : Option Addr} {sl_calls_of : Array (Option Value)} {oc_calls_of kV_calls_of dc_calls_of pm_calls_of cd_calls_of ct_calls_of : Value} {f_deed_of : Addr} {od_deed_of an_deed_of : Option Addr} {sl_deed_of : Array (Option Value)} {oc_deed_of kV_deed_of dc_deed_of pm_deed_of cd_deed_of ct_deed_of : Value} {f_called_by : Addr} {od_called_by an_called_by : Option Addr} {sl_called_by : Array (Option Value)} {oc_called_by kV_called_by dc_called_by pm_called_by cd_called_by ct_called_by : Value} {f_mark_gain : Addr} {od_mark_gain an_mark_gain : Option Addr} {sl_mark_gain : Array (Option Value)} {oc_mark_gain kV_mark_gain dc_mark_gain pm_mark_gain cd_mark_gain ct_mark_gain : Value} {f__law_cells : Addr} {od__law_cells an__law_cells : Option Addr} {sl__law_cells : Array (Option Value)} {oc__law_cells kV__law_cells dc__law_cells pm__law_cells cd__law_cells ct__law_cells : Value} {f__law_pool : Addr} {od__law_pool an__law_pool : Option Addr} {sl__law_pool : Array (Option Value)} {oc__law_pool kV__law_pool dc__law_pool pm__law_pool cd__law_pool ct__law_pool : Value} {f__law_take : Addr} {od__law_take an__law_take : Option Addr} {sl__law_take : Array (Option Value)} {oc__law_take kV__law_take dc__law_take pm__law_take cd__law_take ct__law_take : Value} {f__law_some : Addr} {od__law_some an__law_some : Option Addr} {sl__law_some : Array (Option Value)} {oc__law_some kV__law_some dc__law_some pm__law_some cd__law_some ct__law_some : Value} {f__law_value : Addr} {od__law_value an__law_value : Option Addr} {sl__law_value : Array (Option Value)} {oc__law_value kV__law_value dc__law_value pm__law_value cd__law_value ct__law_value : Value} {f__law_expression : Addr} {od__law_expression an__law_expression : Option Addr} {sl__law_expression : Array (Option Value)} {oc__law_expression kV__law_expression dc__law_expression pm__law_expression cd__law_expression ct__law_expression : Value} {f__law_call : Addr} {od__law_call an__law_call : Option Addr} {sl__law_call : Array (Option Value)} {oc__law_call kV__law_call dc__law_call pm__law_call cd__law_call ct__law_call : Value} {f__law_row : Addr} {od__law_row an__law_row : Option Addr} {sl__law_row : Array (Option Value)} {oc__law_row kV__law_row dc__law_row pm__law_row cd__law_row ct__law_row : Value} {f__law_rows : Addr} {od__law_rows an__law_rows : Option Addr} {sl__law_rows : Array (Option Value)} {oc__law_rows kV__law_rows dc__law_rows pm__law_rows cd__law_rows ct__law_rows : Value} {f__law_book : Addr} {od__law_book an__law_book : Option Addr} {sl__law_book : Array (Option Value)} {oc__law_book kV__law_book dc__law_book pm__law_book cd__law_book ct__law_book : Value} {f__law_calls : Addr} {od__law_calls an__law_calls : Option Addr} {sl__law_calls : Array (Option Value)} {oc__law_calls kV__law_calls dc__law_calls pm__law_calls cd__law_calls ct__law_calls : Value} {f__law_marks : Addr} {od__law_marks an__law_marks : Option Addr} {sl__law_marks : Array (Option Value)} {oc__law_marks kV__law_marks dc__law_marks pm__law_marks cd__law_marks ct__law_marks : Value} {f__law_read : Addr} {od__law_read an__law_read : Option Addr} {sl__law_read : Array (Option Value)} {oc__law_read kV__law_read dc__law_read pm__law_read cd__law_read ct__law_read : Value} {f__law_row_names : Addr} {od__law_row_names an__law_row_names : Option Addr} {sl__law_row_names : Array (Option Value)} {oc__law_row_names kV__law_row_names dc__law_row_names pm__law_row_names cd__law_row_names ct__law_row_names : Value} {f__law_many_own : Addr} {od__law_many_own an__law_many_own : Option Addr} {sl__law_many_own : Array (Option Value)} {oc__law_many_own kV__law_many_own dc__law_many_own pm__law_many_own cd__law_many_own ct__law_many_own : Value} {f__law_due_gain : Addr} {od__law_due_gain an__law_due_gain : Option Addr} {sl__law_due_gain : Array (Option Value)} {oc__law_due_gain kV__law_due_gain dc__law_due_gain pm__law_due_gain cd__law_due_gain ct__law_due_gain : Value} {f__law_refused : Addr} {od__law_refused an__law_refused : Option Addr} {sl__law_refused : Array (Option Value)} {oc__law_refused kV__law_refused dc__law_refused pm__law_refused cd__law_refused ct__law_refused : Value} {f_law : Addr} {od_law an_law : Option Addr} {sl_law : Array (Option Value)} {oc_law kV_law dc_law pm_law cd_law ct_law : Value} {C_FoldError : Addr} {C_NoDeed : Addr} {C_NoCall : Addr} {C_NoMark : Addr} {C_NoRow : Addr}
    (a_names_in : PySem.W.nsIn K mainGlobals "names_in" = some (some (.ref f_names_in)))
    (l_names_in : K.lookup f_names_in = some ⟨oc_names_in, od_names_in, .func (PySem.W.fnOf "names_in" "names_in" (defArgs s_names_in) (defBody s_names_in) (defScope s_names_in) .none kV_names_in dc_names_in pm_names_in an_names_in cd_names_in ct_names_in), sl_names_in⟩)
    (c_names_in : PySem.W.codeIn K cd_names_in "names_in" = true)
    (k_names_in : PySem.W.keepIn K (.ref f_names_in) = true)
    (a_rows_within : PySem.W.nsIn K mainGlobals "rows_within" = some (some (.ref f_rows_within)))
    (l_rows_within : K.lookup f_rows_within = some ⟨oc_rows_within, od_rows_within, .func (PySem.W.fnOf "rows_within" "rows_within" (defArgs s_rows_within) (defBody s_rows_within) (defScope s_rows_within) .none kV_rows_within dc_rows_within pm_rows_within an_rows_within cd_rows_within ct_rows_within), sl_rows_within⟩)
    (c_rows_within : PySem.W.codeIn K cd_rows_within "rows_within" = true)
    (k_rows_within : PySem.W.keepIn K (.ref f_rows_within) = true)
    (a_read_through : PySem.W.nsIn K mainGlobals "read_through" = some (some (.ref f_read_through)))
    (l_read_through : K.lookup f_read_through = some ⟨oc_read_through, od_read_through, .func (PySem.W.fnOf "read_through" "read_through" (defArgs s_read_through) (defBody s_read_through) (defScope s_read_through) .none kV_read_through dc_read_through pm_read_through an_read_through cd_read_through ct_read_through), sl_read_through⟩)
    (c_read_through : PySem.W.codeIn K cd_read_through "read_through" = true)
    (k_read_through : PySem.W.keepIn K (.ref f_read_through) = true)
    (a_rows_of : PySem.W.nsIn K mainGlobals "rows_of" = some (some (.ref f_rows_of)))
    (l_rows_of : K.lookup f_rows_of = some ⟨oc_rows_of, od_rows_of, .func (PySem.W.fnOf "rows_of" "rows_of" (defArgs s_rows_of) (defBody s_rows_of) (defScope s_rows_of) .none kV_rows_of dc_rows_of pm_rows_of an_rows_of cd_rows_of ct_rows_of), sl_rows_of⟩)
    (c_rows_of : PySem.W.codeIn K cd_rows_of "rows_of" = true)
    (k_rows_of : PySem.W.keepIn K (.ref f_rows_of) = true)
    (a_expressions_of : PySem.W.nsIn K mainGlobals "expressions_of" = some (some (.ref f_expressions_of)))
    (l_expressions_of : K.lookup f_expressions_of = some ⟨oc_expressions_of, od_expressions_of, .func (PySem.W.fnOf "expressions_of" "expressions_of" (defArgs s_expressions_of) (defBody s_expressions_of) (defScope s_expressions_of) .none kV_expressions_of dc_expressions_of pm_expressions_of an_expressions_of cd_expressions_of ct_expressions_of), sl_expressions_of⟩)
    (c_expressions_of : PySem.W.codeIn K cd_expressions_of "expressions_of" = true)
    (k_expressions_of : PySem.W.keepIn K (.ref f_expressions_of) = true)
    (a_row_names : PySem.W.nsIn K mainGlobals "row_names" = some (some (.ref f_row_names)))
    (l_row_names : K.lookup f_row_names = some ⟨oc_row_names, od_row_names, .func (PySem.W.fnOf "row_names" "row_names" (defArgs s_row_names) (defBody s_row_names) (defScope s_row_names) .none kV_row_names dc_row_names pm_row_names an_row_names cd_row_names ct_row_names), sl_row_names⟩)
    (c_row_names : PySem.W.codeIn K cd_row_names "row_names" = true)
    (k_row_names : PySem.W.keepIn K (.ref f_row_names) = true)
    (a_deed_names : PySem.W.nsIn K mainGlobals "deed_names" = some (some (.ref f_deed_names)))
    (l_deed_names : K.lookup f_deed_names = some ⟨oc_deed_names, od_deed_names, .func (PySem.W.fnOf "deed_names" "deed_names" (defArgs s_deed_names) (defBody s_deed_names) (defScope s_deed_names) .none kV_deed_names dc_deed_names pm_deed_names an_deed_names cd_deed_names ct_deed_names), sl_deed_names⟩)
    (c_deed_names : PySem.W.codeIn K cd_deed_names "deed_names" = true)
    (k_deed_names : PySem.W.keepIn K (.ref f_deed_names) = true)
    (a_own_names : PySem.W.nsIn K mainGlobals "own_names" = some (some (.ref f_own_names)))
    (l_own_names : K.lookup f_own_names = some ⟨oc_own_names, od_own_names, .func (PySem.W.fnOf "own_names" "own_names" (defArgs s_own_names) (defBody s_own_names) (defScope s_own_names) .none kV_own_names dc_own_names pm_own_names an_own_names cd_own_names ct_own_names), sl_own_names⟩)
    (c_own_names : PySem.W.codeIn K cd_own_names "own_names" = true)
    (k_own_names : PySem.W.keepIn K (.ref f_own_names) = true)
    (a_calls_of : PySem.W.nsIn K mainGlobals "calls_of" = some (some (.ref f_calls_of)))
    (l_calls_of : K.lookup f_calls_of = some ⟨oc_calls_of, od_calls_of, .func (PySem.W.fnOf "calls_of" "calls_of" (defArgs s_calls_of) (defBody s_calls_of) (defScope s_calls_of) .none kV_calls_of dc_calls_of pm_calls_of an_calls_of cd_calls_of ct_calls_of), sl_calls_of⟩)
    (c_calls_of : PySem.W.codeIn K cd_calls_of "calls_of" = true)
    (k_calls_of : PySem.W.keepIn K (.ref f_calls_of) = true)
    (a_deed_of : PySem.W.nsIn K mainGlobals "deed_of" = some (some (.ref f_deed_of)))
    (l_deed_of : K.lookup f_deed_of = some ⟨oc_deed_of, od_deed_of, .func (PySem.W.fnOf "deed_of" "deed_of" (defArgs s_deed_of) (defBody s_deed_of) (defScope s_deed_of) .none kV_deed_of dc_deed_of pm_deed_of an_deed_of cd_deed_of ct_deed_of), sl_deed_of⟩)
    (c_deed_of : PySem.W.codeIn K cd_deed_of "deed_of" = true)
    (k_deed_of : PySem.W.keepIn K (.ref f_deed_of) = true)
    (a_called_by : PySem.W.nsIn K mainGlobals "called_by" = some (some (.ref f_called_by)))
    (l_called_by : K.lookup f_called_by = some ⟨oc_called_by, od_called_by, .func (PySem.W.fnOf "called_by" "called_by" (defArgs s_called_by) (defBody s_called_by) (defScope s_called_by) .none kV_called_by dc_called_by pm_called_by an_called_by cd_called_by ct_called_by), sl_called_by⟩)
    (c_called_by : PySem.W.codeIn K cd_called_by "called_by" = true)
    (k_called_by : PySem.W.keepIn K (.ref f_called_by) = true)
    (a_mark_gain : PySem.W.nsIn K mainGlobals "mark_gain" = some (some (.ref f_mark_gain)))
    (l_mark_gain : K.lookup f_mark_gain = some ⟨oc_mark_gain, od_mark_gain, .func (PySem.W.fnOf "mark_gain" "mark_gain" (defArgs s_mark_gain) (defBody s_mark_gain) (defScope s_mark_gain) .none kV_mark_gain dc_mark_gain pm_mark_gain an_mark_gain cd_mark_gain ct_mark_gain), sl_mark_gain⟩)
    (c_mark_gain : PySem.W.codeIn K cd_mark_gain "mark_gain" = true)
    (k_mark_gain : PySem.W.keepIn K (.ref f_mark_gain) = true)
    (a__law_cells : PySem.W.nsIn K mainGlobals "_law_cells" = some (some (.ref f__law_cells)))
    (l__law_cells : K.lookup f__law_cells = some ⟨oc__law_cells, od__law_cells, .func (PySem.W.fnOf "_law_cells" "_law_cells" (defArgs s__law_cells) (defBody s__law_cells) (defScope s__law_cells) .none kV__law_cells dc__law_cells pm__law_cells an__law_cells cd__law_cells ct__law_cells), sl__law_cells⟩)
    (c__law_cells : PySem.W.codeIn K cd__law_cells "_law_cells" = true)
    (k__law_cells : PySem.W.keepIn K (.ref f__law_cells) = true)
    (a__law_pool : PySem.W.nsIn K mainGlobals "_law_pool" = some (some (.ref f__law_pool)))
    (l__law_pool : K.lookup f__law_pool = some ⟨oc__law_pool, od__law_pool, .func (PySem.W.fnOf "_law_pool" "_law_pool" (defArgs s__law_pool) (defBody s__law_pool) (defScope s__law_pool) .none kV__law_pool dc__law_pool pm__law_pool an__law_pool cd__law_pool ct__law_pool), sl__law_pool⟩)
    (c__law_pool : PySem.W.codeIn K cd__law_pool "_law_pool" = true)
    (k__law_pool : PySem.W.keepIn K (.ref f__law_pool) = true)
    (a__law_take : PySem.W.nsIn K mainGlobals "_law_take" = some (some (.ref f__law_take)))
    (l__law_take : K.lookup f__law_take = some ⟨oc__law_take, od__law_take, .func (PySem.W.fnOf "_law_take" "_law_take" (defArgs s__law_take) (defBody s__law_take) (defScope s__law_take) .none kV__law_take dc__law_take pm__law_take an__law_take cd__law_take ct__law_take), sl__law_take⟩)
    (c__law_take : PySem.W.codeIn K cd__law_take "_law_take" = true)
    (k__law_take : PySem.W.keepIn K (.ref f__law_take) = true)
    (a__law_some : PySem.W.nsIn K mainGlobals "_law_some" = some (some (.ref f__law_some)))
    (l__law_some : K.lookup f__law_some = some ⟨oc__law_some, od__law_some, .func (PySem.W.fnOf "_law_some" "_law_some" (defArgs s__law_some) (defBody s__law_some) (defScope s__law_some) .none kV__law_some dc__law_some pm__law_some an__law_some cd__law_some ct__law_some), sl__law_some⟩)
    (c__law_some : PySem.W.codeIn K cd__law_some "_law_some" = true)
    (k__law_some : PySem.W.keepIn K (.ref f__law_some) = true)
    (a__law_value : PySem.W.nsIn K mainGlobals "_law_value" = some (some (.ref f__law_value)))
    (l__law_value : K.lookup f__law_value = some ⟨oc__law_value, od__law_value, .func (PySem.W.fnOf "_law_value" "_law_value" (defArgs s__law_value) (defBody s__law_value) (defScope s__law_value) .none kV__law_value dc__law_value pm__law_value an__law_value cd__law_value ct__law_value), sl__law_value⟩)
    (c__law_value : PySem.W.codeIn K cd__law_value "_law_value" = true)
    (k__law_value : PySem.W.keepIn K (.ref f__law_value) = true)
    (a__law_expression : PySem.W.nsIn K mainGlobals "_law_expression" = some (some (.ref f__law_expression)))
    (l__law_expression : K.lookup f__law_expression = some ⟨oc__law_expression, od__law_expression, .func (PySem.W.fnOf "_law_expression" "_law_expression" (defArgs s__law_expression) (defBody s__law_expression) (defScope s__law_expression) .none kV__law_expression dc__law_expression pm__law_expression an__law_expression cd__law_expression ct__law_expression), sl__law_expression⟩)
    (c__law_expression : PySem.W.codeIn K cd__law_expression "_law_expression" = true)
    (k__law_expression : PySem.W.keepIn K (.ref f__law_expression) = true)
    (a__law_call : PySem.W.nsIn K mainGlobals "_law_call" = some (some (.ref f__law_call)))
    (l__law_call : K.lookup f__law_call = some ⟨oc__law_call, od__law_call, .func (PySem.W.fnOf "_law_call" "_law_call" (defArgs s__law_call) (defBody s__law_call) (defScope s__law_call) .none kV__law_call dc__law_call pm__law_call an__law_call cd__law_call ct__law_call), sl__law_call⟩)
    (c__law_call : PySem.W.codeIn K cd__law_call "_law_call" = true)
    (k__law_call : PySem.W.keepIn K (.ref f__law_call) = true)
    (a__law_row : PySem.W.nsIn K mainGlobals "_law_row" = some (some (.ref f__law_row)))
    (l__law_row : K.lookup f__law_row = some ⟨oc__law_row, od__law_row, .func (PySem.W.fnOf "_law_row" "_law_row" (defArgs s__law_row) (defBody s__law_row) (defScope s__law_row) .none kV__law_row dc__law_row pm__law_row an__law_row cd__law_row ct__law_row), sl__law_row⟩)
    (c__law_row : PySem.W.codeIn K cd__law_row "_law_row" = true)
    (k__law_row : PySem.W.keepIn K (.ref f__law_row) = true)
    (a__law_rows : PySem.W.nsIn K mainGlobals "_law_rows" = some (some (.ref f__law_rows)))
    (l__law_rows : K.lookup f__law_rows = some ⟨oc__law_rows, od__law_rows, .func (PySem.W.fnOf "_law_rows" "_law_rows" (defArgs s__law_rows) (defBody s__law_rows) (defScope s__law_rows) .none kV__law_rows dc__law_rows pm__law_rows an__law_rows cd__law_rows ct__law_rows), sl__law_rows⟩)
    (c__law_rows : PySem.W.codeIn K cd__law_rows "_law_rows" = true)
    (k__law_rows : PySem.W.keepIn K (.ref f__law_rows) = true)
    (a__law_book : PySem.W.nsIn K mainGlobals "_law_book" = some (some (.ref f__law_book)))
    (l__law_book : K.lookup f__law_book = some ⟨oc__law_book, od__law_book, .func (PySem.W.fnOf "_law_book" "_law_book" (defArgs s__law_book) (defBody s__law_book) (defScope s__law_book) .none kV__law_book dc__law_book pm__law_book an__law_book cd__law_book ct__law_book), sl__law_book⟩)
    (c__law_book : PySem.W.codeIn K cd__law_book "_law_book" = true)
    (k__law_book : PySem.W.keepIn K (.ref f__law_book) = true)
    (a__law_calls : PySem.W.nsIn K mainGlobals "_law_calls" = some (some (.ref f__law_calls)))
    (l__law_calls : K.lookup f__law_calls = some ⟨oc__law_calls, od__law_calls, .func (PySem.W.fnOf "_law_calls" "_law_calls" (defArgs s__law_calls) (defBody s__law_calls) (defScope s__law_calls) .none kV__law_calls dc__law_calls pm__law_calls an__law_calls cd__law_calls ct__law_calls), sl__law_calls⟩)
    (c__law_calls : PySem.W.codeIn K cd__law_calls "_law_calls" = true)
    (k__law_calls : PySem.W.keepIn K (.ref f__law_calls) = true)
    (a__law_marks : PySem.W.nsIn K mainGlobals "_law_marks" = some (some (.ref f__law_marks)))
    (l__law_marks : K.lookup f__law_marks = some ⟨oc__law_marks, od__law_marks, .func (PySem.W.fnOf "_law_marks" "_law_marks" (defArgs s__law_marks) (defBody s__law_marks) (defScope s__law_marks) .none kV__law_marks dc__law_marks pm__law_marks an__law_marks cd__law_marks ct__law_marks), sl__law_marks⟩)
    (c__law_marks : PySem.W.codeIn K cd__law_marks "_law_marks" = true)
    (k__law_marks : PySem.W.keepIn K (.ref f__law_marks) = true)
    (a__law_read : PySem.W.nsIn K mainGlobals "_law_read" = some (some (.ref f__law_read)))
    (l__law_read : K.lookup f__law_read = some ⟨oc__law_read, od__law_read, .func (PySem.W.fnOf "_law_read" "_law_read" (defArgs s__law_read) (defBody s__law_read) (defScope s__law_read) .none kV__law_read dc__law_read pm__law_read an__law_read cd__law_read ct__law_read), sl__law_read⟩)
    (c__law_read : PySem.W.codeIn K cd__law_read "_law_read" = true)
    (k__law_read : PySem.W.keepIn K (.ref f__law_read) = true)
    (a__law_row_names : PySem.W.nsIn K mainGlobals "_law_row_names" = some (some (.ref f__law_row_names)))
    (l__law_row_names : K.lookup f__law_row_names = some ⟨oc__law_row_names, od__law_row_names, .func (PySem.W.fnOf "_law_row_names" "_law_row_names" (defArgs s__law_row_names) (defBody s__law_row_names) (defScope s__law_row_names) .none kV__law_row_names dc__law_row_names pm__law_row_names an__law_row_names cd__law_row_names ct__law_row_names), sl__law_row_names⟩)
    (c__law_row_names : PySem.W.codeIn K cd__law_row_names "_law_row_names" = true)
    (k__law_row_names : PySem.W.keepIn K (.ref f__law_row_names) = true)
    (a__law_many_own : PySem.W.nsIn K mainGlobals "_law_many_own" = some (some (.ref f__law_many_own)))
    (l__law_many_own : K.lookup f__law_many_own = some ⟨oc__law_many_own, od__law_many_own, .func (PySem.W.fnOf "_law_many_own" "_law_many_own" (defArgs s__law_many_own) (defBody s__law_many_own) (defScope s__law_many_own) .none kV__law_many_own dc__law_many_own pm__law_many_own an__law_many_own cd__law_many_own ct__law_many_own), sl__law_many_own⟩)
    (c__law_many_own : PySem.W.codeIn K cd__law_many_own "_law_many_own" = true)
    (k__law_many_own : PySem.W.keepIn K (.ref f__law_many_own) = true)
    (a__law_due_gain : PySem.W.nsIn K mainGlobals "_law_due_gain" = some (some (.ref f__law_due_gain)))
    (l__law_due_gain : K.lookup f__law_due_gain = some ⟨oc__law_due_gain, od__law_due_gain, .func (PySem.W.fnOf "_law_due_gain" "_law_due_gain" (defArgs s__law_due_gain) (defBody s__law_due_gain) (defScope s__law_due_gain) .none kV__law_due_gain dc__law_due_gain pm__law_due_gain an__law_due_gain cd__law_due_gain ct__law_due_gain), sl__law_due_gain⟩)
    (c__law_due_gain : PySem.W.codeIn K cd__law_due_gain "_law_due_gain" = true)
    (k__law_due_gain : PySem.W.keepIn K (.ref f__law_due_gain) = true)
    (a__law_refused : PySem.W.nsIn K mainGlobals "_law_refused" = some (some (.ref f__law_refused)))
    (l__law_refused : K.lookup f__law_refused = some ⟨oc__law_refused, od__law_refused, .func (PySem.W.fnOf "_law_refused" "_law_refused" (defArgs s__law_refused) (defBody s__law_refused) (defScope s__law_refused) .none kV__law_refused dc__law_refused pm__law_refused an__law_refused cd__law_refused ct__law_refused), sl__law_refused⟩)
    (c__law_refused : PySem.W.codeIn K cd__law_refused "_law_refused" = true)
    (k__law_refused : PySem.W.keepIn K (.ref f__law_refused) = true)
    (a_law : PySem.W.nsIn K mainGlobals "law" = some (some (.ref f_law)))
    (l_law : K.lookup f_law = some ⟨oc_law, od_law, .func (PySem.W.fnOf "law" "law" (defArgs s_law) (defBody s_law) (defScope s_law) .none kV_law dc_law pm_law an_law cd_law ct_law), sl_law⟩)
    (c_law : PySem.W.codeIn K cd_law "law" = true)
    (k_law : PySem.W.keepIn K (.ref f_law) = true)
    (n_ValueError : PySem.W.nsIn K mainGlobals "ValueError" = some none)
    (n_abs : PySem.W.nsIn K mainGlobals "abs" = some none)
    (n_bool : PySem.W.nsIn K mainGlobals "bool" = some none)
    (n_dict : PySem.W.nsIn K mainGlobals "dict" = some none)
    (n_enumerate : PySem.W.nsIn K mainGlobals "enumerate" = some none)
    (n_int : PySem.W.nsIn K mainGlobals "int" = some none)
    (n_isinstance : PySem.W.nsIn K mainGlobals "isinstance" = some none)
    (n_len : PySem.W.nsIn K mainGlobals "len" = some none)
    (n_list : PySem.W.nsIn K mainGlobals "list" = some none)
    (n_range : PySem.W.nsIn K mainGlobals "range" = some none)
    (n_set : PySem.W.nsIn K mainGlobals "set" = some none)
    (n_sorted : PySem.W.nsIn K mainGlobals "sorted" = some none)
    (n_tuple : PySem.W.nsIn K mainGlobals "tuple" = some none)
    (ga_FoldError : PySem.W.nsIn K mainGlobals "FoldError" = some (some (.ref C_FoldError)))
    (gb_FoldError : PySem.W.subIn K (.ref C_FoldError) (.type "BaseException") = some true)
    (gi_FoldError : PySem.W.isClsIn K C_FoldError = true)
    (gt_FoldError : PySem.W.typeIn K (.ref C_FoldError) = some (.type "type"))
    (ga_NoDeed : PySem.W.nsIn K mainGlobals "NoDeed" = some (some (.ref C_NoDeed)))
    (gb_NoDeed : PySem.W.subIn K (.ref C_NoDeed) (.type "BaseException") = some true)
    (gi_NoDeed : PySem.W.isClsIn K C_NoDeed = true)
    (gt_NoDeed : PySem.W.typeIn K (.ref C_NoDeed) = some (.type "type"))
    (ga_NoCall : PySem.W.nsIn K mainGlobals "NoCall" = some (some (.ref C_NoCall)))
    (gb_NoCall : PySem.W.subIn K (.ref C_NoCall) (.type "BaseException") = some true)
    (gi_NoCall : PySem.W.isClsIn K C_NoCall = true)
    (gt_NoCall : PySem.W.typeIn K (.ref C_NoCall) = some (.type "type"))
    (ga_NoMark : PySem.W.nsIn K mainGlobals "NoMark" = some (some (.ref C_NoMark)))
    (gb_NoMark : PySem.W.subIn K (.ref C_NoMark) (.type "BaseException") = some true)
    (gi_NoMark : PySem.W.isClsIn K C_NoMark = true)
    (gt_NoMark : PySem.W.typeIn K (.ref C_NoMark) = some (.type "type"))
    (ga_NoRow : PySem.W.nsIn K mainGlobals "NoRow" = some (some (.ref C_NoRow)))
    (gb_NoRow : PySem.W.subIn K (.ref C_NoRow) (.type "BaseException") = some true)
    (gi_NoRow : PySem.W.isClsIn K C_NoRow = true)
    (gt_NoRow : PySem.W.typeIn K (.ref C_NoRow) = some (.type "type"))
    (yn : PySem.W.specialIn K (.builtin "object.__class__") "__get__" = some (some (.builtin "getset_descriptor.__get__")))
    (yt : PySem.W.takesIn K (.builtin "object.__class__") = some true)
    (na_Twice : PySem.W.nsIn K mainGlobals "Twice" = some none)
    (na_WrongCount : PySem.W.nsIn K mainGlobals "WrongCount" = some none)
    (na_TooDeep : PySem.W.nsIn K mainGlobals "TooDeep" = some none)
    (na_TooLong : PySem.W.nsIn K mainGlobals "TooLong" = some none)
    (na_TooBig : PySem.W.nsIn K mainGlobals "TooBig" = some none)
    (na_TooMany : PySem.W.nsIn K mainGlobals "TooMany" = some none)
    (na_Called : PySem.W.nsIn K mainGlobals "Called" = some none)
    (na_NoWay : PySem.W.nsIn K mainGlobals "NoWay" = some none)
    (na_NoBack : PySem.W.nsIn K mainGlobals "NoBack" = some none)
    (na_Broken : PySem.W.nsIn K mainGlobals "Broken" = some none)
    (na_Ringed : PySem.W.nsIn K mainGlobals "Ringed" = some none)
    (na_BadRun : PySem.W.nsIn K mainGlobals "BadRun" = some none)
    (na_NoText : PySem.W.nsIn K mainGlobals "NoText" = some none)
    (xe_NoDeed : PySem.W.excIn K C_NoDeed [.type "ValueError", .type "Exception", .type "BaseException", .type "object"] "ValueError.__new__" = true)
    (xk_NoDeed : PySem.W.keepIn K (.ref C_NoDeed) = true)
    (yg_NoDeed : PySem.W.findIn K (.ref C_NoDeed) "__getattribute__" = some (some (.builtin "BaseException.__getattribute__")))
    (yk_NoDeed : PySem.W.findIn K (.ref C_NoDeed) "__getattr__" = some none)
    (yd_NoDeed : PySem.W.hasDictIn K C_NoDeed = true)
    (ya_NoDeed : PySem.W.findIn K (.ref C_NoDeed) "__class__" = some (some (.builtin "object.__class__")))
    (ym_NoDeed : PySem.W.mroIn K C_NoDeed (.type "object") = some true)
    (kv_NoDeed : PySem.W.kitOne K (.ref C_NoDeed) (.type "ValueError") = some true)
    (kq_NoDeed_FoldError : PySem.W.kitOne K (.ref C_NoDeed) (.ref C_FoldError) = some true)
    (kq_NoDeed_NoDeed : PySem.W.kitOne K (.ref C_NoDeed) (.ref C_NoDeed) = some true)
    (kq_NoDeed_NoCall : PySem.W.kitOne K (.ref C_NoDeed) (.ref C_NoCall) = some false)
    (kq_NoDeed_NoMark : PySem.W.kitOne K (.ref C_NoDeed) (.ref C_NoMark) = some false)
    (kq_NoDeed_NoRow : PySem.W.kitOne K (.ref C_NoDeed) (.ref C_NoRow) = some false)
    (xs_NoDeed_FoldError : PySem.W.subIn K (.ref C_NoDeed) (.ref C_FoldError) = some true)
    (xs_NoDeed_NoDeed : PySem.W.subIn K (.ref C_NoDeed) (.ref C_NoDeed) = some true)
    (xs_NoDeed_NoCall : PySem.W.subIn K (.ref C_NoDeed) (.ref C_NoCall) = some false)
    (xs_NoDeed_NoMark : PySem.W.subIn K (.ref C_NoDeed) (.ref C_NoMark) = some false)
    (xs_NoDeed_NoRow : PySem.W.subIn K (.ref C_NoDeed) (.ref C_NoRow) = some false)
    (xe_NoMark : PySem.W.excIn K C_NoMark [.type "ValueError", .type "Exception", .type "BaseException", .type "object"] "ValueError.__new__" = true)
    (xk_NoMark : PySem.W.keepIn K (.ref C_NoMark) = true)
    (yg_NoMark : PySem.W.findIn K (.ref C_NoMark) "__getattribute__" = some (some (.builtin "BaseException.__getattribute__")))
    (yk_NoMark : PySem.W.findIn K (.ref C_NoMark) "__getattr__" = some none)
    (yd_NoMark : PySem.W.hasDictIn K C_NoMark = true)
    (ya_NoMark : PySem.W.findIn K (.ref C_NoMark) "__class__" = some (some (.builtin "object.__class__")))
    (ym_NoMark : PySem.W.mroIn K C_NoMark (.type "object") = some true)
    (kv_NoMark : PySem.W.kitOne K (.ref C_NoMark) (.type "ValueError") = some true)
    (kq_NoMark_FoldError : PySem.W.kitOne K (.ref C_NoMark) (.ref C_FoldError) = some true)
    (kq_NoMark_NoDeed : PySem.W.kitOne K (.ref C_NoMark) (.ref C_NoDeed) = some false)
    (kq_NoMark_NoCall : PySem.W.kitOne K (.ref C_NoMark) (.ref C_NoCall) = some false)
    (kq_NoMark_NoMark : PySem.W.kitOne K (.ref C_NoMark) (.ref C_NoMark) = some true)
    (kq_NoMark_NoRow : PySem.W.kitOne K (.ref C_NoMark) (.ref C_NoRow) = some false)
    (xs_NoMark_FoldError : PySem.W.subIn K (.ref C_NoMark) (.ref C_FoldError) = some true)
    (xs_NoMark_NoDeed : PySem.W.subIn K (.ref C_NoMark) (.ref C_NoDeed) = some false)
    (xs_NoMark_NoCall : PySem.W.subIn K (.ref C_NoMark) (.ref C_NoCall) = some false)
    (xs_NoMark_NoMark : PySem.W.subIn K (.ref C_NoMark) (.ref C_NoMark) = some true)
    (xs_NoMark_NoRow : PySem.W.subIn K (.ref C_NoMark) (.ref C_NoRow) = some false)
    : ∃ fd : FuncData, (∀ (s : Shared) (v : Value), BindsTo s fd ⟨[v], []⟩ [("script", v)]) ∧ ∀ base : Heap, K.In base → base.Ns mainGlobals mg → FnOk P w K mg base (L2.CX P w) (depth + 2) fa fd ["script"] (spLaw K) := by
  have e := hfa.symm.trans (PySem.W.mg_of X G a_law)
  cases e
  have T : Tx K mg := ⟨PySem.W.mg_none_of X G n_ValueError, PySem.W.mg_none_of X G n_abs, PySem.W.mg_none_of X G n_bool, PySem.W.mg_none_of X G n_dict, PySem.W.mg_none_of X G n_enumerate, PySem.W.mg_none_of X G n_int, PySem.W.mg_none_of X G n_isinstance, PySem.W.mg_none_of X G n_len, PySem.W.mg_none_of X G n_list, PySem.W.mg_none_of X G n_range, PySem.W.mg_none_of X G n_set, PySem.W.mg_none_of X G n_sorted, PySem.W.mg_none_of X G n_tuple, ⟨C_NoDeed, xe_NoDeed, PySem.W.mg_of X G ga_NoDeed, xk_NoDeed, gb_NoDeed, gt_NoDeed⟩, ⟨C_NoMark, xe_NoMark, PySem.W.mg_of X G ga_NoMark, xk_NoMark, gb_NoMark, gt_NoMark⟩, ea_all (PySem.W.mg_of X G ga_NoDeed) (List.forall_mem_cons.mpr ⟨ea_yes (PySem.W.mg_of X G ga_FoldError) (b := true) (by decide +kernel) gb_FoldError gi_FoldError gt_FoldError xs_NoDeed_FoldError, List.forall_mem_cons.mpr ⟨ea_no (PySem.W.mg_none_of X G na_Twice), List.forall_mem_cons.mpr ⟨ea_yes (PySem.W.mg_of X G ga_NoDeed) (b := true) (by decide +kernel) gb_NoDeed gi_NoDeed gt_NoDeed xs_NoDeed_NoDeed, List.forall_mem_cons.mpr ⟨ea_no (PySem.W.mg_none_of X G na_WrongCount), List.forall_mem_cons.mpr ⟨ea_no (PySem.W.mg_none_of X G na_TooDeep), List.forall_mem_cons.mpr ⟨ea_no (PySem.W.mg_none_of X G na_TooLong), List.forall_mem_cons.mpr ⟨ea_no (PySem.W.mg_none_of X G na_TooBig), List.forall_mem_cons.mpr ⟨ea_yes (PySem.W.mg_of X G ga_NoCall) (b := false) (by decide +kernel) gb_NoCall gi_NoCall gt_NoCall xs_NoDeed_NoCall, List.forall_mem_cons.mpr ⟨ea_yes (PySem.W.mg_of X G ga_NoMark) (b := false) (by decide +kernel) gb_NoMark gi_NoMark gt_NoMark xs_NoDeed_NoMark, List.forall_mem_cons.mpr ⟨ea_no (PySem.W.mg_none_of X G na_TooMany), List.forall_mem_cons.mpr ⟨ea_no (PySem.W.mg_none_of X G na_Called), List.forall_mem_cons.mpr ⟨ea_no (PySem.W.mg_none_of X G na_NoWay), List.forall_mem_cons.mpr ⟨ea_yes (PySem.W.mg_of X G ga_NoRow) (b := false) (by decide +kernel) gb_NoRow gi_NoRow gt_NoRow xs_NoDeed_NoRow, List.forall_mem_cons.mpr ⟨ea_no (PySem.W.mg_none_of X G na_NoBack), List.forall_mem_cons.mpr ⟨ea_no (PySem.W.mg_none_of X G na_Broken), List.forall_mem_cons.mpr ⟨ea_no (PySem.W.mg_none_of X G na_Ringed), List.forall_mem_cons.mpr ⟨ea_no (PySem.W.mg_none_of X G na_BadRun), List.forall_mem_cons.mpr ⟨ea_no (PySem.W.mg_none_of X G na_NoText), List.forall_mem_nil _⟩⟩⟩⟩⟩⟩⟩⟩⟩⟩⟩⟩⟩⟩⟩⟩⟩⟩) ⟨yg_NoDeed, yk_NoDeed, gb_NoDeed, yd_NoDeed, ya_NoDeed, yn, yt, ym_NoDeed⟩ (List.forall_mem_cons.mpr ⟨ki_yes (PySem.W.mg_of X G ga_FoldError) (by decide +kernel) kq_NoDeed_FoldError, List.forall_mem_cons.mpr ⟨ki_no (PySem.W.mg_none_of X G na_Twice), List.forall_mem_cons.mpr ⟨ki_yes (PySem.W.mg_of X G ga_NoDeed) (by decide +kernel) kq_NoDeed_NoDeed, List.forall_mem_cons.mpr ⟨ki_no (PySem.W.mg_none_of X G na_WrongCount), List.forall_mem_cons.mpr ⟨ki_no (PySem.W.mg_none_of X G na_TooDeep), List.forall_mem_cons.mpr ⟨ki_no (PySem.W.mg_none_of X G na_TooLong), List.forall_mem_cons.mpr ⟨ki_no (PySem.W.mg_none_of X G na_TooBig), List.forall_mem_cons.mpr ⟨ki_yes (PySem.W.mg_of X G ga_NoCall) (by decide +kernel) kq_NoDeed_NoCall, List.forall_mem_cons.mpr ⟨ki_yes (PySem.W.mg_of X G ga_NoMark) (by decide +kernel) kq_NoDeed_NoMark, List.forall_mem_cons.mpr ⟨ki_no (PySem.W.mg_none_of X G na_TooMany), List.forall_mem_cons.mpr ⟨ki_no (PySem.W.mg_none_of X G na_Called), List.forall_mem_cons.mpr ⟨ki_no (PySem.W.mg_none_of X G na_NoWay), List.forall_mem_cons.mpr ⟨ki_yes (PySem.W.mg_of X G ga_NoRow) (by decide +kernel) kq_NoDeed_NoRow, List.forall_mem_cons.mpr ⟨ki_no (PySem.W.mg_none_of X G na_NoBack), List.forall_mem_cons.mpr ⟨ki_no (PySem.W.mg_none_of X G na_Broken), List.forall_mem_cons.mpr ⟨ki_no (PySem.W.mg_none_of X G na_Ringed), List.forall_mem_cons.mpr ⟨ki_no (PySem.W.mg_none_of X G na_BadRun), List.forall_mem_cons.mpr ⟨ki_no (PySem.W.mg_none_of X G na_NoText), List.forall_mem_nil _⟩⟩⟩⟩⟩⟩⟩⟩⟩⟩⟩⟩⟩⟩⟩⟩⟩⟩) kv_NoDeed, ea_all (PySem.W.mg_of X G ga_NoMark) (List.forall_mem_cons.mpr ⟨ea_yes (PySem.W.mg_of X G ga_FoldError) (b := true) (by decide +kernel) gb_FoldError gi_FoldError gt_FoldError xs_NoMark_FoldError, List.forall_mem_cons.mpr ⟨ea_no (PySem.W.mg_none_of X G na_Twice), List.forall_mem_cons.mpr ⟨ea_yes (PySem.W.mg_of X G ga_NoDeed) (b := false) (by decide +kernel) gb_NoDeed gi_NoDeed gt_NoDeed xs_NoMark_NoDeed, List.forall_mem_cons.mpr ⟨ea_no (PySem.W.mg_none_of X G na_WrongCount), List.forall_mem_cons.mpr ⟨ea_no (PySem.W.mg_none_of X G na_TooDeep), List.forall_mem_cons.mpr ⟨ea_no (PySem.W.mg_none_of X G na_TooLong), List.forall_mem_cons.mpr ⟨ea_no (PySem.W.mg_none_of X G na_TooBig), List.forall_mem_cons.mpr ⟨ea_yes (PySem.W.mg_of X G ga_NoCall) (b := false) (by decide +kernel) gb_NoCall gi_NoCall gt_NoCall xs_NoMark_NoCall, List.forall_mem_cons.mpr ⟨ea_yes (PySem.W.mg_of X G ga_NoMark) (b := true) (by decide +kernel) gb_NoMark gi_NoMark gt_NoMark xs_NoMark_NoMark, List.forall_mem_cons.mpr ⟨ea_no (PySem.W.mg_none_of X G na_TooMany), List.forall_mem_cons.mpr ⟨ea_no (PySem.W.mg_none_of X G na_Called), List.forall_mem_cons.mpr ⟨ea_no (PySem.W.mg_none_of X G na_NoWay), List.forall_mem_cons.mpr ⟨ea_yes (PySem.W.mg_of X G ga_NoRow) (b := false) (by decide +kernel) gb_NoRow gi_NoRow gt_NoRow xs_NoMark_NoRow, List.forall_mem_cons.mpr ⟨ea_no (PySem.W.mg_none_of X G na_NoBack), List.forall_mem_cons.mpr ⟨ea_no (PySem.W.mg_none_of X G na_Broken), List.forall_mem_cons.mpr ⟨ea_no (PySem.W.mg_none_of X G na_Ringed), List.forall_mem_cons.mpr ⟨ea_no (PySem.W.mg_none_of X G na_BadRun), List.forall_mem_cons.mpr ⟨ea_no (PySem.W.mg_none_of X G na_NoText), List.forall_mem_nil _⟩⟩⟩⟩⟩⟩⟩⟩⟩⟩⟩⟩⟩⟩⟩⟩⟩⟩) ⟨yg_NoMark, yk_NoMark, gb_NoMark, yd_NoMark, ya_NoMark, yn, yt, ym_NoMark⟩ (List.forall_mem_cons.mpr ⟨ki_yes (PySem.W.mg_of X G ga_FoldError) (by decide +kernel) kq_NoMark_FoldError, List.forall_mem_cons.mpr ⟨ki_no (PySem.W.mg_none_of X G na_Twice), List.forall_mem_cons.mpr ⟨ki_yes (PySem.W.mg_of X G ga_NoDeed) (by decide +kernel) kq_NoMark_NoDeed, List.forall_mem_cons.mpr ⟨ki_no (PySem.W.mg_none_of X G na_WrongCount), List.forall_mem_cons.mpr ⟨ki_no (PySem.W.mg_none_of X G na_TooDeep), List.forall_mem_cons.mpr ⟨ki_no (PySem.W.mg_none_of X G na_TooLong), List.forall_mem_cons.mpr ⟨ki_no (PySem.W.mg_none_of X G na_TooBig), List.forall_mem_cons.mpr ⟨ki_yes (PySem.W.mg_of X G ga_NoCall) (by decide +kernel) kq_NoMark_NoCall, List.forall_mem_cons.mpr ⟨ki_yes (PySem.W.mg_of X G ga_NoMark) (by decide +kernel) kq_NoMark_NoMark, List.forall_mem_cons.mpr ⟨ki_no (PySem.W.mg_none_of X G na_TooMany), List.forall_mem_cons.mpr ⟨ki_no (PySem.W.mg_none_of X G na_Called), List.forall_mem_cons.mpr ⟨ki_no (PySem.W.mg_none_of X G na_NoWay), List.forall_mem_cons.mpr ⟨ki_yes (PySem.W.mg_of X G ga_NoRow) (by decide +kernel) kq_NoMark_NoRow, List.forall_mem_cons.mpr ⟨ki_no (PySem.W.mg_none_of X G na_NoBack), List.forall_mem_cons.mpr ⟨ki_no (PySem.W.mg_none_of X G na_Broken), List.forall_mem_cons.mpr ⟨ki_no (PySem.W.mg_none_of X G na_Ringed), List.forall_mem_cons.mpr ⟨ki_no (PySem.W.mg_none_of X G na_BadRun), List.forall_mem_cons.mpr ⟨ki_no (PySem.W.mg_none_of X G na_NoText), List.forall_mem_nil _⟩⟩⟩⟩⟩⟩⟩⟩⟩⟩⟩⟩⟩⟩⟩⟩⟩⟩) kv_NoMark, ⟨C_FoldError, PySem.W.mg_of X G ga_FoldError⟩, ⟨C_NoCall, PySem.W.mg_of X G ga_NoCall⟩, ⟨C_NoDeed, PySem.W.mg_of X G ga_NoDeed⟩, ⟨C_NoMark, PySem.W.mg_of X G ga_NoMark⟩, ⟨C_NoRow, PySem.W.mg_of X G ga_NoRow⟩⟩
  have F_names_in := fun_mk (st := s_names_in) l_names_in c_names_in k_names_in
  have b_names_in := F_names_in.binds (ps := ps_names_in) fun _ _ _ _ _ _ us hl => match us, hl with | [_], _ => rfl
  have F_rows_within := fun_mk (st := s_rows_within) l_rows_within c_rows_within k_rows_within
  have b_rows_within := F_rows_within.binds (ps := ps_rows_within) fun _ _ _ _ _ _ us hl => match us, hl with | [_], _ => rfl
  have F_read_through := fun_mk (st := s_read_through) l_read_through c_read_through k_read_through
  have b_read_through := F_read_through.binds (ps := ps_read_through) fun _ _ _ _ _ _ us hl => match us, hl with | [_], _ => rfl
  have F_rows_of := fun_mk (st := s_rows_of) l_rows_of c_rows_of k_rows_of
  have b_rows_of := F_rows_of.binds (ps := ps_rows_of) fun _ _ _ _ _ _ us hl => match us, hl with | [_], _ => rfl
  have F_expressions_of := fun_mk (st := s_expressions_of) l_expressions_of c_expressions_of k_expressions_of
  have b_expressions_of := F_expressions_of.binds (ps := ps_expressions_of) fun _ _ _ _ _ _ us hl => match us, hl with | [_], _ => rfl
  have F_row_names := fun_mk (st := s_row_names) l_row_names c_row_names k_row_names
  have b_row_names := F_row_names.binds (ps := ps_row_names) fun _ _ _ _ _ _ us hl => match us, hl with | [_], _ => rfl
  have F_deed_names := fun_mk (st := s_deed_names) l_deed_names c_deed_names k_deed_names
  have b_deed_names := F_deed_names.binds (ps := ps_deed_names) fun _ _ _ _ _ _ us hl => match us, hl with | [_], _ => rfl
  have F_own_names := fun_mk (st := s_own_names) l_own_names c_own_names k_own_names
  have b_own_names := F_own_names.binds (ps := ps_own_names) fun _ _ _ _ _ _ us hl => match us, hl with | [_], _ => rfl
  have F_calls_of := fun_mk (st := s_calls_of) l_calls_of c_calls_of k_calls_of
  have b_calls_of := F_calls_of.binds (ps := ps_calls_of) fun _ _ _ _ _ _ us hl => match us, hl with | [_], _ => rfl
  have F_deed_of := fun_mk (st := s_deed_of) l_deed_of c_deed_of k_deed_of
  have b_deed_of := F_deed_of.binds (ps := ps_deed_of) fun _ _ _ _ _ _ us hl => match us, hl with | [_, _], _ => rfl
  have F_called_by := fun_mk (st := s_called_by) l_called_by c_called_by k_called_by
  have b_called_by := F_called_by.binds (ps := ps_called_by) fun _ _ _ _ _ _ us hl => match us, hl with | [_], _ => rfl
  have F_mark_gain := fun_mk (st := s_mark_gain) l_mark_gain c_mark_gain k_mark_gain
  have b_mark_gain := F_mark_gain.binds (ps := ps_mark_gain) fun _ _ _ _ _ _ us hl => match us, hl with | [_, _, _, _], _ => rfl
  have F__law_cells := fun_mk (st := s__law_cells) l__law_cells c__law_cells k__law_cells
  have b__law_cells := F__law_cells.binds (ps := ps__law_cells) fun _ _ _ _ _ _ us hl => match us, hl with | [_, _], _ => rfl
  have F__law_pool := fun_mk (st := s__law_pool) l__law_pool c__law_pool k__law_pool
  have b__law_pool := F__law_pool.binds (ps := ps__law_pool) fun _ _ _ _ _ _ us hl => match us, hl with | [_, _], _ => rfl
  have F__law_take := fun_mk (st := s__law_take) l__law_take c__law_take k__law_take
  have b__law_take := F__law_take.binds (ps := ps__law_take) fun _ _ _ _ _ _ us hl => match us, hl with | [_, _], _ => rfl
  have F__law_some := fun_mk (st := s__law_some) l__law_some c__law_some k__law_some
  have b__law_some := F__law_some.binds (ps := ps__law_some) fun _ _ _ _ _ _ us hl => match us, hl with | [_, _, _], _ => rfl
  have F__law_value := fun_mk (st := s__law_value) l__law_value c__law_value k__law_value
  have b__law_value := F__law_value.binds (ps := ps__law_value) fun _ _ _ _ _ _ us hl => match us, hl with | [_], _ => rfl
  have F__law_expression := fun_mk (st := s__law_expression) l__law_expression c__law_expression k__law_expression
  have b__law_expression := F__law_expression.binds (ps := ps__law_expression) fun _ _ _ _ _ _ us hl => match us, hl with | [_, _, _], _ => rfl
  have F__law_call := fun_mk (st := s__law_call) l__law_call c__law_call k__law_call
  have b__law_call := F__law_call.binds (ps := ps__law_call) fun _ _ _ _ _ _ us hl => match us, hl with | [_, _, _], _ => rfl
  have F__law_row := fun_mk (st := s__law_row) l__law_row c__law_row k__law_row
  have b__law_row := F__law_row.binds (ps := ps__law_row) fun _ _ _ _ _ _ us hl => match us, hl with | [_, _, _, _], _ => rfl
  have F__law_rows := fun_mk (st := s__law_rows) l__law_rows c__law_rows k__law_rows
  have b__law_rows := F__law_rows.binds (ps := ps__law_rows) fun _ _ _ _ _ _ us hl => match us, hl with | [_, _, _, _], _ => rfl
  have F__law_book := fun_mk (st := s__law_book) l__law_book c__law_book k__law_book
  have b__law_book := F__law_book.binds (ps := ps__law_book) fun _ _ _ _ _ _ us hl => match us, hl with | [_, _], _ => rfl
  have F__law_calls := fun_mk (st := s__law_calls) l__law_calls c__law_calls k__law_calls
  have b__law_calls := F__law_calls.binds (ps := ps__law_calls) fun _ _ _ _ _ _ us hl => match us, hl with | [_], _ => rfl
  have F__law_marks := fun_mk (st := s__law_marks) l__law_marks c__law_marks k__law_marks
  have b__law_marks := F__law_marks.binds (ps := ps__law_marks) fun _ _ _ _ _ _ us hl => match us, hl with | [_], _ => rfl
  have F__law_read := fun_mk (st := s__law_read) l__law_read c__law_read k__law_read
  have b__law_read := F__law_read.binds (ps := ps__law_read) fun _ _ _ _ _ _ us hl => match us, hl with | [_], _ => rfl
  have F__law_row_names := fun_mk (st := s__law_row_names) l__law_row_names c__law_row_names k__law_row_names
  have b__law_row_names := F__law_row_names.binds (ps := ps__law_row_names) fun _ _ _ _ _ _ us hl => match us, hl with | [_], _ => rfl
  have F__law_many_own := fun_mk (st := s__law_many_own) l__law_many_own c__law_many_own k__law_many_own
  have b__law_many_own := F__law_many_own.binds (ps := ps__law_many_own) fun _ _ _ _ _ _ us hl => match us, hl with | [_], _ => rfl
  have F__law_due_gain := fun_mk (st := s__law_due_gain) l__law_due_gain c__law_due_gain k__law_due_gain
  have b__law_due_gain := F__law_due_gain.binds (ps := ps__law_due_gain) fun _ _ _ _ _ _ us hl => match us, hl with | [_, _, _, _], _ => rfl
  have F__law_refused := fun_mk (st := s__law_refused) l__law_refused c__law_refused k__law_refused
  have b__law_refused := F__law_refused.binds (ps := ps__law_refused) fun _ _ _ _ _ _ us hl => match us, hl with | [_, _, _, _], _ => rfl
  have F_law := fun_mk (st := s_law) l_law c_law k_law
  have b_law := F_law.binds (ps := ps_law) fun _ _ _ _ _ _ us hl => match us, hl with | [_], _ => rfl
  have tab : ∀ (base : Heap) (n : Nat), Tab P w K mg base (phi PR n) (n + 1) := fun base n => by
    induction n with
    | zero => exact ⟨fn_zero k_names_in (PySem.W.mg_of X G a_names_in) b_names_in, fn_zero k_rows_within (PySem.W.mg_of X G a_rows_within) b_rows_within, fn_zero k_read_through (PySem.W.mg_of X G a_read_through) b_read_through, fn_zero k_rows_of (PySem.W.mg_of X G a_rows_of) b_rows_of, fn_zero k_expressions_of (PySem.W.mg_of X G a_expressions_of) b_expressions_of, fn_zero k_row_names (PySem.W.mg_of X G a_row_names) b_row_names, fn_zero k_deed_names (PySem.W.mg_of X G a_deed_names) b_deed_names, fn_zero k_own_names (PySem.W.mg_of X G a_own_names) b_own_names, fn_zero k_calls_of (PySem.W.mg_of X G a_calls_of) b_calls_of, fn_zero k_deed_of (PySem.W.mg_of X G a_deed_of) b_deed_of, fn_zero k_called_by (PySem.W.mg_of X G a_called_by) b_called_by, fn_zero k_mark_gain (PySem.W.mg_of X G a_mark_gain) b_mark_gain, fn_zero k__law_cells (PySem.W.mg_of X G a__law_cells) b__law_cells, fn_zero k__law_pool (PySem.W.mg_of X G a__law_pool) b__law_pool, fn_zero k__law_take (PySem.W.mg_of X G a__law_take) b__law_take, fn_zero k__law_some (PySem.W.mg_of X G a__law_some) b__law_some, fn_zero k__law_value (PySem.W.mg_of X G a__law_value) b__law_value, fn_zero k__law_expression (PySem.W.mg_of X G a__law_expression) b__law_expression, fn_zero k__law_call (PySem.W.mg_of X G a__law_call) b__law_call, fn_zero k__law_row (PySem.W.mg_of X G a__law_row) b__law_row, fn_zero k__law_rows (PySem.W.mg_of X G a__law_rows) b__law_rows, fn_zero k__law_book (PySem.W.mg_of X G a__law_book) b__law_book, fn_zero k__law_calls (PySem.W.mg_of X G a__law_calls) b__law_calls, fn_zero k__law_marks (PySem.W.mg_of X G a__law_marks) b__law_marks, fn_zero k__law_read (PySem.W.mg_of X G a__law_read) b__law_read, fn_zero k__law_row_names (PySem.W.mg_of X G a__law_row_names) b__law_row_names, fn_zero k__law_many_own (PySem.W.mg_of X G a__law_many_own) b__law_many_own, fn_zero k__law_due_gain (PySem.W.mg_of X G a__law_due_gain) b__law_due_gain, fn_zero k__law_refused (PySem.W.mg_of X G a__law_refused) b__law_refused, fn_zero k_law (PySem.W.mg_of X G a_law) b_law⟩
    | succ n ih => exact ⟨fn_ok F_names_in (PySem.W.mg_of X G a_names_in) b_names_in sc_names_in pr_names_in rfl rfl fun cdv A outer s H E hr => Mi.k43.b_names_in T ih cdv A outer s H E hr,
      fn_ok F_rows_within (PySem.W.mg_of X G a_rows_within) b_rows_within sc_rows_within pr_rows_within rfl rfl fun cdv A outer s H E hr => Mi.k43.b_rows_within T ih cdv A outer s H E hr,
      fn_ok F_read_through (PySem.W.mg_of X G a_read_through) b_read_through sc_read_through pr_read_through rfl rfl fun cdv A outer s H E hr => Mi.k43.b_read_through T ih cdv A outer s H E hr,
      fn_ok F_rows_of (PySem.W.mg_of X G a_rows_of) b_rows_of sc_rows_of pr_rows_of rfl rfl fun cdv A outer s H E hr => Mi.k43.b_rows_of T ih cdv A outer s H E hr,
      fn_ok F_expressions_of (PySem.W.mg_of X G a_expressions_of) b_expressions_of sc_expressions_of pr_expressions_of rfl rfl fun cdv A outer s H E hr => Mi.k43.b_expressions_of T ih cdv A outer s H E hr,
      fn_ok F_row_names (PySem.W.mg_of X G a_row_names) b_row_names sc_row_names pr_row_names rfl rfl fun cdv A outer s H E hr => Mi.k43.b_row_names T ih cdv A outer s H E hr,
      fn_ok F_deed_names (PySem.W.mg_of X G a_deed_names) b_deed_names sc_deed_names pr_deed_names rfl rfl fun cdv A outer s H E hr => Mi.k43.b_deed_names T ih cdv A outer s H E hr,
      fn_ok F_own_names (PySem.W.mg_of X G a_own_names) b_own_names sc_own_names pr_own_names rfl rfl fun cdv A outer s H E hr => Mi.k43.b_own_names T ih cdv A outer s H E hr,
      fn_ok F_calls_of (PySem.W.mg_of X G a_calls_of) b_calls_of sc_calls_of pr_calls_of rfl rfl fun cdv A outer s H E hr => Mi.k43.b_calls_of T ih cdv A outer s H E hr,
      fn_ok F_deed_of (PySem.W.mg_of X G a_deed_of) b_deed_of sc_deed_of pr_deed_of rfl rfl fun cdv A outer s H E hr => Mi.k43.b_deed_of T ih cdv A outer s H E hr,
      fn_ok F_called_by (PySem.W.mg_of X G a_called_by) b_called_by sc_called_by pr_called_by rfl rfl fun cdv A outer s H E hr => Mi.k43.b_called_by T ih cdv A outer s H E hr,
      fn_ok F_mark_gain (PySem.W.mg_of X G a_mark_gain) b_mark_gain sc_mark_gain pr_mark_gain rfl rfl fun cdv A outer s H E hr => Mi.k43.b_mark_gain T ih cdv A outer s H E hr,
      fn_ok F__law_cells (PySem.W.mg_of X G a__law_cells) b__law_cells sc__law_cells pr__law_cells rfl rfl fun cdv A outer s H E hr => Mi.k43.b__law_cells T ih cdv A outer s H E hr,
      fn_ok F__law_pool (PySem.W.mg_of X G a__law_pool) b__law_pool sc__law_pool pr__law_pool rfl rfl fun cdv A outer s H E hr => Mi.k43.b__law_pool T ih cdv A outer s H E hr,
      fn_ok F__law_take (PySem.W.mg_of X G a__law_take) b__law_take sc__law_take pr__law_take rfl rfl fun cdv A outer s H E hr => Mi.k43.b__law_take T ih cdv A outer s H E hr,
      fn_ok F__law_some (PySem.W.mg_of X G a__law_some) b__law_some sc__law_some pr__law_some rfl rfl fun cdv A outer s H E hr => Mi.k43.b__law_some T ih cdv A outer s H E hr,
      fn_ok F__law_value (PySem.W.mg_of X G a__law_value) b__law_value sc__law_value pr__law_value rfl rfl fun cdv A outer s H E hr => Mi.k43.b__law_value T ih cdv A outer s H E hr,
      fn_ok F__law_expression (PySem.W.mg_of X G a__law_expression) b__law_expression sc__law_expression pr__law_expression rfl rfl fun cdv A outer s H E hr => Mi.k43.b__law_expression T ih cdv A outer s H E hr,
      fn_ok F__law_call (PySem.W.mg_of X G a__law_call) b__law_call sc__law_call pr__law_call rfl rfl fun cdv A outer s H E hr => Mi.k43.b__law_call T ih cdv A outer s H E hr,
      fn_ok F__law_row (PySem.W.mg_of X G a__law_row) b__law_row sc__law_row pr__law_row rfl rfl fun cdv A outer s H E hr => Mi.k43.b__law_row T ih cdv A outer s H E hr,
      fn_ok F__law_rows (PySem.W.mg_of X G a__law_rows) b__law_rows sc__law_rows pr__law_rows rfl rfl fun cdv A outer s H E hr => Mi.k43.b__law_rows T ih cdv A outer s H E hr,
      fn_ok F__law_book (PySem.W.mg_of X G a__law_book) b__law_book sc__law_book pr__law_book rfl rfl fun cdv A outer s H E hr => Mi.k43.b__law_book T ih cdv A outer s H E hr,
      fn_ok F__law_calls (PySem.W.mg_of X G a__law_calls) b__law_calls sc__law_calls pr__law_calls rfl rfl fun cdv A outer s H E hr => Mi.k43.b__law_calls T ih cdv A outer s H E hr,
      fn_ok F__law_marks (PySem.W.mg_of X G a__law_marks) b__law_marks sc__law_marks pr__law_marks rfl rfl fun cdv A outer s H E hr => Mi.k43.b__law_marks T ih cdv A outer s H E hr,
      fn_ok F__law_read (PySem.W.mg_of X G a__law_read) b__law_read sc__law_read pr__law_read rfl rfl fun cdv A outer s H E hr => Mi.k43.b__law_read T ih cdv A outer s H E hr,
      fn_ok F__law_row_names (PySem.W.mg_of X G a__law_row_names) b__law_row_names sc__law_row_names pr__law_row_names rfl rfl fun cdv A outer s H E hr => Mi.k43.b__law_row_names T ih cdv A outer s H E hr,
      fn_ok F__law_many_own (PySem.W.mg_of X G a__law_many_own) b__law_many_own sc__law_many_own pr__law_many_own rfl rfl fun cdv A outer s H E hr => Mi.k43.b__law_many_own T ih cdv A outer s H E hr,
      fn_ok F__law_due_gain (PySem.W.mg_of X G a__law_due_gain) b__law_due_gain sc__law_due_gain pr__law_due_gain rfl rfl fun cdv A outer s H E hr => Mi.k43.b__law_due_gain T ih cdv A outer s H E hr,
      fn_ok F__law_refused (PySem.W.mg_of X G a__law_refused) b__law_refused sc__law_refused pr__law_refused rfl rfl fun cdv A outer s H E hr => Mi.k43.b__law_refused T ih cdv A outer s H E hr,
      fn_ok F_law (PySem.W.mg_of X G a_law) b_law sc_law pr_law rfl rfl fun cdv A outer s H E hr => Mi.k43.b_law T ih cdv A outer s H E hr⟩
  exact ⟨_, fun s v => .of_eq rfl, fun base _ _ => (fn_okk F_law sc_law pr_law rfl rfl fun cdv A outer s H E hr => Mi.k43.b_law T (tab base depth) cdv A outer s H E hr).imp fun vs H Q E q => law_sp (phi_mono PR (depth + 1)) law_pure vs H Q E q⟩
end Mi.k43
open PySem PySem.W PyProof.Rows
set_option maxRecDepth 100000 in
set_option maxHeartbeats 0 in
theorem PySem.Challenge.cw_callfold_k43_gain_of_a_mark_holds : PySem.Challenge.rw_callfold_k43_gain_of_a_mark.Holds := by
  w_on; o_law; k_head; (case hw => w_witness2)
  k_fill
  refine Mi.law_walk (l := PySem.Challenge.rw_callfold_k43_gain_of_a_mark) (k := Mi.k43.depth + 2) rfl rfl ⟨rfl, by decide, by decide⟩ (fun w h Y => PySem.W.kIn_of Y) ?F
  case F =>
    intro w mg fa h KX G hmg
    refine' Mi.k43.all_mk KX G hmg ?a_names_in ?l_names_in ?c_names_in ?k_names_in ?a_rows_within ?l_rows_within ?c_rows_within ?k_rows_within ?a_read_through ?l_read_through ?c_read_through ?k_read_through ?a_rows_of ?l_rows_of ?c_rows_of ?k_rows_of ?a_expressions_of ?l_expressions_of ?c_expressions_of ?k_expressions_of ?a_row_names ?l_row_names ?c_row_names ?k_row_names ?a_deed_names ?l_deed_names ?c_deed_names ?k_deed_names ?a_own_names ?l_own_names ?c_own_names ?k_own_names ?a_calls_of ?l_calls_of ?c_calls_of ?k_calls_of ?a_deed_of ?l_deed_of ?c_deed_of ?k_deed_of ?a_called_by ?l_called_by ?c_called_by ?k_called_by ?a_mark_gain ?l_mark_gain ?c_mark_gain ?k_mark_gain ?a__law_cells ?l__law_cells ?c__law_cells ?k__law_cells ?a__law_pool ?l__law_pool ?c__law_pool ?k__law_pool ?a__law_take ?l__law_take ?c__law_take ?k__law_take ?a__law_some ?l__law_some ?c__law_some ?k__law_some ?a__law_value ?l__law_value ?c__law_value ?k__law_value ?a__law_expression ?l__law_expression ?c__law_expression ?k__law_expression ?a__law_call ?l__law_call ?c__law_call ?k__law_call ?a__law_row ?l__law_row ?c__law_row ?k__law_row ?a__law_rows ?l__law_rows ?c__law_rows ?k__law_rows ?a__law_book ?l__law_book ?c__law_book ?k__law_book ?a__law_calls ?l__law_calls ?c__law_calls ?k__law_calls ?a__law_marks ?l__law_marks ?c__law_marks ?k__law_marks ?a__law_read ?l__law_read ?c__law_read ?k__law_read ?a__law_row_names ?l__law_row_names ?c__law_row_names ?k__law_row_names ?a__law_many_own ?l__law_many_own ?c__law_many_own ?k__law_many_own ?a__law_due_gain ?l__law_due_gain ?c__law_due_gain ?k__law_due_gain ?a__law_refused ?l__law_refused ?c__law_refused ?k__law_refused ?a_law ?l_law ?c_law ?k_law ?n_ValueError ?n_abs ?n_bool ?n_dict ?n_enumerate ?n_int ?n_isinstance ?n_len ?n_list ?n_range ?n_set ?n_sorted ?n_tuple ?ga_FoldError ?gb_FoldError ?gi_FoldError ?gt_FoldError ?ga_NoDeed ?gb_NoDeed ?gi_NoDeed ?gt_NoDeed ?ga_NoCall ?gb_NoCall ?gi_NoCall ?gt_NoCall ?ga_NoMark ?gb_NoMark ?gi_NoMark ?gt_NoMark ?ga_NoRow ?gb_NoRow ?gi_NoRow ?gt_NoRow ?yn ?yt ?na_Twice ?na_WrongCount ?na_TooDeep ?na_TooLong ?na_TooBig ?na_TooMany ?na_Called ?na_NoWay ?na_NoBack ?na_Broken ?na_Ringed ?na_BadRun ?na_NoText ?xe_NoDeed ?xk_NoDeed ?yg_NoDeed ?yk_NoDeed ?yd_NoDeed ?ya_NoDeed ?ym_NoDeed ?kv_NoDeed ?kq_NoDeed_FoldError ?kq_NoDeed_NoDeed ?kq_NoDeed_NoCall ?kq_NoDeed_NoMark ?kq_NoDeed_NoRow ?xs_NoDeed_FoldError ?xs_NoDeed_NoDeed ?xs_NoDeed_NoCall ?xs_NoDeed_NoMark ?xs_NoDeed_NoRow ?xe_NoMark ?xk_NoMark ?yg_NoMark ?yk_NoMark ?yd_NoMark ?ya_NoMark ?ym_NoMark ?kv_NoMark ?kq_NoMark_FoldError ?kq_NoMark_NoDeed ?kq_NoMark_NoCall ?kq_NoMark_NoMark ?kq_NoMark_NoRow ?xs_NoMark_FoldError ?xs_NoMark_NoDeed ?xs_NoMark_NoCall ?xs_NoMark_NoMark ?xs_NoMark_NoRow
    (case a_names_in => k_is)
    (case l_names_in => k_is)
    (case c_names_in => k_is)
    (case k_names_in => k_is)
    (case a_rows_within => k_is)
    (case l_rows_within => k_is)
    (case c_rows_within => k_is)
    (case k_rows_within => k_is)
    (case a_read_through => k_is)
    (case l_read_through => k_is)
    (case c_read_through => k_is)
    (case k_read_through => k_is)
    (case a_rows_of => k_is)
    (case l_rows_of => k_is)
    (case c_rows_of => k_is)
    (case k_rows_of => k_is)
    (case a_expressions_of => k_is)
    (case l_expressions_of => k_is)
    (case c_expressions_of => k_is)
    (case k_expressions_of => k_is)
    (case a_row_names => k_is)
    (case l_row_names => k_is)
    (case c_row_names => k_is)
    (case k_row_names => k_is)
    (case a_deed_names => k_is)
    (case l_deed_names => k_is)
    (case c_deed_names => k_is)
    (case k_deed_names => k_is)
    (case a_own_names => k_is)
    (case l_own_names => k_is)
    (case c_own_names => k_is)
    (case k_own_names => k_is)
    (case a_calls_of => k_is)
    (case l_calls_of => k_is)
    (case c_calls_of => k_is)
    (case k_calls_of => k_is)
    (case a_deed_of => k_is)
    (case l_deed_of => k_is)
    (case c_deed_of => k_is)
    (case k_deed_of => k_is)
    (case a_called_by => k_is)
    (case l_called_by => k_is)
    (case c_called_by => k_is)
    (case k_called_by => k_is)
    (case a_mark_gain => k_is)
    (case l_mark_gain => k_is)
    (case c_mark_gain => k_is)
    (case k_mark_gain => k_is)
    (case a__law_cells => k_is)
    (case l__law_cells => k_is)
    (case c__law_cells => k_is)
    (case k__law_cells => k_is)
    (case a__law_pool => k_is)
    (case l__law_pool => k_is)
    (case c__law_pool => k_is)
    (case k__law_pool => k_is)
    (case a__law_take => k_is)
    (case l__law_take => k_is)
    (case c__law_take => k_is)
    (case k__law_take => k_is)
    (case a__law_some => k_is)
    (case l__law_some => k_is)
    (case c__law_some => k_is)
    (case k__law_some => k_is)
    (case a__law_value => k_is)
    (case l__law_value => k_is)
    (case c__law_value => k_is)
    (case k__law_value => k_is)
    (case a__law_expression => k_is)
    (case l__law_expression => k_is)
    (case c__law_expression => k_is)
    (case k__law_expression => k_is)
    (case a__law_call => k_is)
    (case l__law_call => k_is)
    (case c__law_call => k_is)
    (case k__law_call => k_is)
    (case a__law_row => k_is)
    (case l__law_row => k_is)
    (case c__law_row => k_is)
    (case k__law_row => k_is)
    (case a__law_rows => k_is)
    (case l__law_rows => k_is)
    (case c__law_rows => k_is)
    (case k__law_rows => k_is)
    (case a__law_book => k_is)
    (case l__law_book => k_is)
    (case c__law_book => k_is)
    (case k__law_book => k_is)
    (case a__law_calls => k_is)
    (case l__law_calls => k_is)
    (case c__law_calls => k_is)
    (case k__law_calls => k_is)
    (case a__law_marks => k_is)
    (case l__law_marks => k_is)
    (case c__law_marks => k_is)
    (case k__law_marks => k_is)
    (case a__law_read => k_is)
    (case l__law_read => k_is)
    (case c__law_read => k_is)
    (case k__law_read => k_is)
    (case a__law_row_names => k_is)
    (case l__law_row_names => k_is)
    (case c__law_row_names => k_is)
    (case k__law_row_names => k_is)
    (case a__law_many_own => k_is)
    (case l__law_many_own => k_is)
    (case c__law_many_own => k_is)
    (case k__law_many_own => k_is)
    (case a__law_due_gain => k_is)
    (case l__law_due_gain => k_is)
    (case c__law_due_gain => k_is)
    (case k__law_due_gain => k_is)
    (case a__law_refused => k_is)
    (case l__law_refused => k_is)
    (case c__law_refused => k_is)
    (case k__law_refused => k_is)
    (case a_law => k_is)
    (case l_law => k_is)
    (case c_law => k_is)
    (case k_law => k_is)
    (case n_ValueError => k_is)
    (case n_abs => k_is)
    (case n_bool => k_is)
    (case n_dict => k_is)
    (case n_enumerate => k_is)
    (case n_int => k_is)
    (case n_isinstance => k_is)
    (case n_len => k_is)
    (case n_list => k_is)
    (case n_range => k_is)
    (case n_set => k_is)
    (case n_sorted => k_is)
    (case n_tuple => k_is)
    (case ga_FoldError => k_is)
    (case gb_FoldError => k_is)
    (case gi_FoldError => k_is)
    (case gt_FoldError => k_is)
    (case ga_NoDeed => k_is)
    (case gb_NoDeed => k_is)
    (case gi_NoDeed => k_is)
    (case gt_NoDeed => k_is)
    (case ga_NoCall => k_is)
    (case gb_NoCall => k_is)
    (case gi_NoCall => k_is)
    (case gt_NoCall => k_is)
    (case ga_NoMark => k_is)
    (case gb_NoMark => k_is)
    (case gi_NoMark => k_is)
    (case gt_NoMark => k_is)
    (case ga_NoRow => k_is)
    (case gb_NoRow => k_is)
    (case gi_NoRow => k_is)
    (case gt_NoRow => k_is)
    (case yn => k_is)
    (case yt => k_is)
    (case na_Twice => k_is)
    (case na_WrongCount => k_is)
    (case na_TooDeep => k_is)
    (case na_TooLong => k_is)
    (case na_TooBig => k_is)
    (case na_TooMany => k_is)
    (case na_Called => k_is)
    (case na_NoWay => k_is)
    (case na_NoBack => k_is)
    (case na_Broken => k_is)
    (case na_Ringed => k_is)
    (case na_BadRun => k_is)
    (case na_NoText => k_is)
    (case xe_NoDeed => k_exc)
    (case xk_NoDeed => k_is)
    (case yg_NoDeed => k_is)
    (case yk_NoDeed => k_is)
    (case yd_NoDeed => k_is)
    (case ya_NoDeed => k_is)
    (case ym_NoDeed => k_is)
    (case kv_NoDeed => kit_is)
    (case kq_NoDeed_FoldError => first | kit_is | rfl)
    (case kq_NoDeed_NoDeed => first | kit_is | rfl)
    (case kq_NoDeed_NoCall => first | kit_is | rfl)
    (case kq_NoDeed_NoMark => first | kit_is | rfl)
    (case kq_NoDeed_NoRow => first | kit_is | rfl)
    (case xs_NoDeed_FoldError => k_is)
    (case xs_NoDeed_NoDeed => first | rfl | k_is)
    (case xs_NoDeed_NoCall => k_is)
    (case xs_NoDeed_NoMark => k_is)
    (case xs_NoDeed_NoRow => k_is)
    (case xe_NoMark => k_exc)
    (case xk_NoMark => k_is)
    (case yg_NoMark => k_is)
    (case yk_NoMark => k_is)
    (case yd_NoMark => k_is)
    (case ya_NoMark => k_is)
    (case ym_NoMark => k_is)
    (case kv_NoMark => kit_is)
    (case kq_NoMark_FoldError => first | kit_is | rfl)
    (case kq_NoMark_NoDeed => first | kit_is | rfl)
    (case kq_NoMark_NoCall => first | kit_is | rfl)
    (case kq_NoMark_NoMark => first | kit_is | rfl)
    (case kq_NoMark_NoRow => first | kit_is | rfl)
    (case xs_NoMark_FoldError => k_is)
    (case xs_NoMark_NoDeed => k_is)
    (case xs_NoMark_NoCall => k_is)
    (case xs_NoMark_NoMark => first | rfl | k_is)
    (case xs_NoMark_NoRow => k_is)
#print axioms PySem.Challenge.cw_callfold_k43_gain_of_a_mark_holds
