import PyProof.Rows.All
import Wide.All
import OpenK.AllK
import Wide.FinOn
import HandS.ForMost
import HandS.Exc
import HandS.ExcOwn
import HandS.TryOnly
import HandS.Flow
import HandS.Style
import HandS.TupAny
import HandS.TupMul
import HandS.Deep
import HandS.SortInts
import HandS.Strs
import HandS.Zip
import HandS.Iter
import HandS.IsInst
import HandS.WordsExc
import HandS.EndBits
import PySem.Challenge.RW_circuits_k21_form_of_cover
set_option Elab.async false
set_option linter.all false
/-! MI: a small interpreter of a part of Python, in core Lean: values, a heap of mutable things, calls by fuel. -/
set_option autoImplicit false
namespace MI

inductive D where
  | non
  | bl (b : Bool)
  | int (i : Int)
  | str (s : List Nat)
  | tup (xs : List D)
  | ref (i : Nat)
  | exc (c : Nat)
  | lst (xs : List D)
  deriving Inhabited

inductive O where
  | lst (xs : List D)
  | frz (xs : List D)
  | dic (kvs : List (D × D))
  | set (xs : List D)
  | ins (c : Nat) (fs : List (String × D))
  deriving Inhabited

abbrev Hv := List O
inductive Rs (α : Type) where
  | ok (a : α) (h : Hv)
  | ex (c : Nat) (h : Hv)
  | bad
abbrev Mo (α : Type) := Hv → Rs α
def Mo.pure {α : Type} (a : α) : Mo α := fun h => .ok a h
def Mo.bind {α β : Type} (m : Mo α) (f : α → Mo β) : Mo β := fun h => match m h with
  | .ok a h' => f a h'
  | .ex c h' => .ex c h'
  | .bad => .bad
def badM {α : Type} : Mo α := fun _ => .bad
def raiM {α : Type} (c : Nat) : Mo α := fun h => .ex c h
/-- what may lack -/
def ofO {α : Type} : Option α → Mo α
  | some a => .pure a
  | none => badM
def lookM {α : Type} (f : Hv → Option α) : Mo α := fun h => match f h with
  | some a => .ok a h
  | none => .bad
def allocM (o : O) : Mo D := fun h => .ok (.ref h.length) (h ++ [o])

/-! ### equality -/
def b2D (b : Bool) : Int := if b = true then 1 else 0
mutual
def D.eqv : D → D → Bool
  | .non, .non => true
  | .bl a, .bl b => a == b
  | .int i, .int j => i == j
  | .bl a, .int j => b2D a == j
  | .int i, .bl b => i == b2D b
  | .str x, .str y => x == y
  | .tup xs, .tup ys => D.eqvs xs ys
  | .lst xs, .lst ys => D.eqvs xs ys
  | _, _ => false
def D.eqvs : List D → List D → Bool
  | [], [] => true
  | x :: xs, y :: ys => D.eqv x y && D.eqvs xs ys
  | _, _ => false
end
def lim : Nat := 16777216
mutual
/-- how deep; every text below the line -/
def D.dep : D → Nat
  | .tup xs => D.deps xs + 1
  | .lst xs => D.deps xs + 1
  | _ => 0
def D.deps : List D → Nat
  | [] => 0
  | x :: xs => max (D.dep x) (D.deps xs)
end
mutual
def D.fine : D → Bool
  | .str s => s.all fun c => decide (c < 1114112)
  | .tup xs => D.fines xs
  | .lst xs => D.fines xs
  | .ref _ => false
  | .exc _ => false
  | _ => true
def D.fines : List D → Bool
  | [] => true
  | x :: xs => D.fine x && D.fines xs
end
/-- the list at an address -/
def getL (h : Hv) : D → Option (List D)
  | .ref i => match h[i]? with
    | some (.lst xs) => some xs
    | some (.frz xs) => some xs
    | _ => none
  | _ => none
mutual
/-- a value with the lists that f tells in the references' stead -/
def deepW (f : Nat → Option D) : D → Option D
  | .tup xs => (deepsW f xs).map .tup
  | .ref i => f i
  | .non => some .non
  | .bl b => some (.bl b)
  | .int i => some (.int i)
  | .str s => some (.str s)
  | .exc _ => none
  | .lst _ => none
def deepsW (f : Nat → Option D) : List D → Option (List D)
  | [] => some []
  | x :: xs => (deepW f x).bind fun y => (deepsW f xs).map fun ys => y :: ys
end
def deepR (h : Hv) : Nat → Nat → Option D
  | 0, _ => none
  | n + 1, i => match h[i]? with
    | some (.lst xs) => (deepsW (deepR h n) xs).map .lst
    | some (.frz xs) => (deepsW (deepR h n) xs).map .lst
    | _ => none
def deep (h : Hv) (d : D) : Option D := deepW (deepR h 6) d
def shp (d : D) : Bool := D.fine d && decide (D.dep d ≤ 60)
/-- x == y -/
def eqH (x y : D) (h : Hv) : Option Bool := (deep h x).bind fun a => (deep h y).bind fun b => if shp a && shp b then some (D.eqv a b) else none
def eqM (x y : D) : Mo Bool := lookM (eqH x y)

/-! ### syntax -/
inductive Op where | add | sub | mul | fdiv | mod | pow
  deriving DecidableEq
inductive Cm where | eq | ne | lt | le | gt | ge | is | isn | isin | nin
  deriving DecidableEq
inductive Bf where | len | tuple | list | int | min | max | all | any | sum | set | sorted | str | repr | dict
  deriving DecidableEq
inductive Mh where | append | pop | reverse | clear | index | count | join | get | update | split | partition | replace | insert
  deriving DecidableEq
inductive Ty where | bool | int | str | tuple | list | dict
  deriving DecidableEq
mutual
inductive ME where
  | loc (i : Nat)
  | cst (d : D)
  | tup (es : List ME)
  | lst (es : List ME)
  | dic (ks vs : List ME)
  | bin (o : Op) (a b : ME)
  | neg (a : ME)
  | not (a : ME)
  | and (a b : ME)
  | or (a b : ME)
  | cmp (o : Cm) (a b : ME)
  | chn (o p : Cm) (a b c : ME)
  | ife (c a b : ME)
  | idx (a i : ME)
  | slc (a : ME) (lo hi : Option ME)
  | call (f : String) (es : List ME)
  | blt (f : Bf) (es : List ME)
  | mth (m : Mh) (o : ME) (es : List ME)
  | own (m : String) (o : ME) (es : List ME)
  | new (c : Nat) (es : List ME)
  | fld (o : ME) (x : String)
  | isi (e : ME) (t : Ty)
  | ise (e : ME) (c : Nat)
  | lc (tg : Tgt) (it : ITr) (cond : Option ME) (elt : ME)
  | skey (e : ME) (f : String)
  | mkey (e : ME) (i : Nat) (f : ME)
  | mdef (mx : Bool) (e d : ME)
inductive Tgt where
  | one (i : Nat)
  | two (i j : Nat)
inductive ITr where
  | seq (e : ME)
  | rng (a : ME)
  | rng2 (a b : ME)
  | enm (e : ME)
  | zip (a b : ME)
end
/-- the body of a try: expressions, by cases -/
inductive MT where
  | exp (e : ME)
  | ife (c : ME) (a b : MT)
inductive MS where
  | set (i : Nat) (e : ME)
  | upk (is : List Nat) (e : ME)
  | par (is : List Nat) (es : List ME)
  | sub (o i e : ME)
  | fld (o : ME) (x : String) (e : ME)
  | exp (e : ME)
  | ret (e : ME)
  | ife (c : ME) (a b : List MS)
  | for_ (tg : Tgt) (it : ITr) (body : List MS)
  | whl (c : ME) (body : List MS)
  | rse (c : Nat)
  | nev
  | try_ (body : MT) (hs : List (Nat × Option Nat × List MS))
  | pas
abbrev Rho := List (Option D)
inductive Fl where
  | nx (ρ : Rho)
  | rt (d : D)

/-! ### operations -/
def toI : D → Option Int
  | .int i => some i
  | .bl b => some (b2D b)
  | _ => none
def bigI : Int := 18446744073709551616
def binM (o : Op) (x y : D) : Mo D := match o, x, y with
  | .add, .int i, .int j => .pure (.int (i + j))
  | .add, .int i, .bl b => .pure (.int (i + b2D b))
  | .add, .str a, .str b => fun h => if a.length + b.length ≤ lim then .ok (.str (a ++ b)) h else .bad
  | .add, .tup a, .tup b => fun h => if a.length + b.length ≤ lim then .ok (.tup (a ++ b)) h else .bad
  | .add, .ref i, .ref j => fun h => match h[i]?, h[j]? with
    | some (.lst a), some (.lst b) => if a.length + b.length ≤ lim then allocM (.lst (a ++ b)) h else .bad
    | _, _ => .bad
  | .sub, .int i, .int j => .pure (.int (i - j))
  | .mul, .int i, .int j => fun h => if ((-bigI < i ∧ i < bigI) ∨ (-bigI < j ∧ j < bigI)) ∨ i.natAbs.log2 + j.natAbs.log2 < 134217000 then .ok (.int (i * j)) h else .bad
  | .mul, .ref i, .int k => fun h => match h[i]? with
    | some (.lst a) => if 0 ≤ k ∧ k < 16777216 ∧ a.length * k.toNat ≤ lim then allocM (.lst (List.replicate k.toNat a).flatten) h else .bad
    | _ => .bad
  | .fdiv, .int i, .int j => fun h => if 0 < j ∧ j < 1073741824 then .ok (.int (i / j)) h else .bad
  | .mod, .int i, .int j => fun h => if 0 < j then .ok (.int (i % j)) h else .bad
  | .pow, .int i, .int j => fun h => if 0 ≤ j ∧ j ≤ 1000000 ∧ i.natAbs < 18446744073709551616 then .ok (.int (i ^ j.toNat)) h else .bad
  | _, _, _ => badM
/-- kinds -/
inductive Tk where | non | bl | int | str | tup | list | set
def tyD (d : D) (h : Hv) : Option Tk := match d with
  | .non => some .non
  | .bl _ => some .bl
  | .int _ => some .int
  | .str _ => some .str
  | .tup _ => some .tup
  | .ref i => match h[i]? with
    | some (.lst _) => some .list
    | some (.frz _) => some .list
    | _ => none
  | _ => none
def isT : Ty → Tk → Bool
  | .bool, .bl => true
  | .int, .bl => true
  | .int, .int => true
  | .str, .str => true
  | .tuple, .tup => true
  | .list, .list => true
  | _, _ => false
/-- truth -/
def truH (d : D) (h : Hv) : Option Bool := match d with
  | .non => some false
  | .bl b => some b
  | .int i => some (i != 0)
  | .str s => if s.length ≤ lim then some (!s.isEmpty) else none
  | .tup xs => if xs.length ≤ lim then some (!xs.isEmpty) else none
  | .ref i => match h[i]? with
    | some (.lst xs) => some (!xs.isEmpty)
    | some (.frz xs) => some (!xs.isEmpty)
    | some (.dic kvs) => some (!kvs.isEmpty)
    | _ => none
  | _ => none
def truM (d : D) : Mo Bool := lookM (truH d)
def natLt : List Nat → List Nat → Bool
  | [], [] => false
  | [], _ :: _ => true
  | _ :: _, [] => false
  | x :: xs, y :: ys => if x < y then true else if x = y then natLt xs ys else false
/-- membership, item by item -/
def memH (x : D) (ys : List D) (h : Hv) : Option Bool := (deep h x).bind fun a => (deepsW (deepR h 6) ys).bind fun bs =>
  if shp a && bs.all shp then some (bs.any fun b => D.eqv b a) else none
def keyI : D → D
  | .bl b => .int (b2D b)
  | d => d
def keyOk1 : D → Bool
  | .int _ => true
  | .str _ => true
  | .bl _ => true
  | .non => true
  | _ => false
def keyOk : D → Bool
  | .tup xs => xs.all keyOk1
  | d => keyOk1 d
def isFlat : D → Bool
  | .tup _ => false
  | _ => true
def subAt (x : List Nat) : List Nat → Bool
  | [] => x.isEmpty
  | y :: ys => x.isPrefixOf (y :: ys) || subAt x ys
def flatD : D → Bool
  | .non => true
  | .bl _ => true
  | .int _ => true
  | .str _ => true
  | _ => false
def getD (h : Hv) : D → Option (List (D × D))
  | .ref i => match h[i]? with
    | some (.dic kvs) => some kvs
    | _ => none
  | _ => none
def inH (x y : D) (h : Hv) : Option Bool := match getL h y with
  | some ys => memH x ys h
  | none => match getD h y with
    | some kvs => if keyOk x && kvs.all (fun kv => isFlat kv.1 == isFlat x) then some (kvs.any fun kv => D.eqv kv.1 x) else none
    | none => match y with
      | .tup ys => if flatD x && ys.all flatD then some (ys.any fun y => D.eqv y x) else none
      | .str s => match x with
        | .str [c] => some (s.any (· == c))
        | _ => none
      | _ => none
def cmpH (o : Cm) (x y : D) (h : Hv) : Option Bool := match o with
  | .eq => eqH x y h
  | .ne => (eqH x y h).map (!·)
  | .isin => inH x y h
  | .nin => (inH x y h).map (!·)
  | .is => match y with
    | .non => some (match x with | .non => true | _ => false)
    | .bl b => some (match x with | .bl c => c == b | _ => false)
    | _ => none
  | .isn => match y with
    | .non => some (match x with | .non => false | _ => true)
    | .bl b => some (match x with | .bl c => !(c == b) | _ => true)
    | _ => none
  | .lt => match x, y with
    | .int i, .int j => some (decide (i < j))
    | _, _ => none
  | .le => match x, y with
    | .int i, .int j => some (decide (i ≤ j))
    | _, _ => none
  | .gt => match x, y with
    | .int i, .int j => some (decide (j < i))
    | _, _ => none
  | .ge => match x, y with
    | .int i, .int j => some (decide (j ≤ i))
    | _, _ => none
def cmpM (o : Cm) (x y : D) : Mo Bool := lookM (cmpH o x y)
/-- the place of an index -/
def ixD (n : Nat) (i : Int) : Option Nat := if 0 ≤ i then (if i < n then some i.toNat else none) else if -(n : Int) ≤ i then some (i + n).toNat else none
def atD {α : Type} (xs : List α) (i : Int) : Option α := (ixD xs.length i).bind fun j => xs[j]?
def dget (kvs : List (D × D)) (k : D) : Option D := (kvs.find? fun kv => D.eqv kv.1 k).map (·.2)
def dput (kvs : List (D × D)) (k v : D) : List (D × D) := if (kvs.any fun kv => D.eqv kv.1 k) = true then kvs.map (fun kv => if D.eqv kv.1 k = true then (kv.1, v) else kv) else kvs ++ [(k, v)]
def okKey (kvs : List (D × D)) (k : D) : Bool := keyOk k && kvs.all fun kv => isFlat kv.1 == isFlat k
def idxH (x y : D) (h : Hv) : Option D := match x, y with
  | .tup xs, .int i => atD xs i
  | .lst xs, .int i => atD xs i
  | .str s, .int i => if s.length ≤ lim then (atD s i).map fun c => .str [c] else none
  | .ref a, k => match h[a]? with
    | some (.lst xs) => match k with | .int i => atD xs i | _ => none
    | some (.frz xs) => match k with | .int i => atD xs i | _ => none
    | some (.dic kvs) => if okKey kvs k then dget kvs k else none
    | _ => none
  | _, _ => none
def idxM (x y : D) : Mo D := lookM (idxH x y)
/-- the bounds of a slice -/
def sIxD (n d : Nat) : Option Int → Nat
  | none => d
  | some i => if i < 0 then (i + n).toNat else min i.toNat n
def mcut {α : Type} (xs : List α) (lo hi : Option Int) : List α := (xs.drop (sIxD xs.length 0 lo)).take (sIxD xs.length xs.length hi - sIxD xs.length 0 lo)
def slcM (x : D) (lo hi : Option Int) : Mo D := match x with
  | .tup xs => .pure (.tup (mcut xs lo hi))
  | .str s => fun h => if s.length ≤ lim then .ok (.str (mcut s lo hi)) h else .bad
  | .ref a => fun h => match h[a]? with
    | some (.lst xs) => allocM (.lst (mcut xs lo hi)) h
    | some (.frz xs) => allocM (.lst (mcut xs lo hi)) h
    | _ => .bad
  | _ => badM
def optI : D → Option Int
  | .int i => some i
  | _ => none
/-! ### sorting -/
def ltD : D → D → Bool
  | .int i, .int j => decide (i < j)
  | .str a, .str b => natLt a b
  | _, _ => false
mutual
def ltT : D → D → Bool
  | .int i, .int j => decide (i < j)
  | .str a, .str b => natLt a b
  | .tup a, .tup b => ltTs a b
  | _, _ => false
def ltTs : List D → List D → Bool
  | [], [] => false
  | [], _ :: _ => true
  | _ :: _, [] => false
  | x :: xs, y :: ys => if D.eqv x y = true then ltTs xs ys else ltT x y
end
def insI {α : Type} (lt : α → α → Bool) (x : α) : List α → List α
  | [] => [x]
  | y :: ys => if lt x y = true then x :: y :: ys else y :: insI lt x ys
def isort {α : Type} (lt : α → α → Bool) (xs : List α) : List α := xs.foldl (fun acc x => insI lt x acc) []
def allInt (xs : List D) : Bool := xs.all fun | .int _ => true | _ => false
def allStr (xs : List D) : Bool := xs.all fun | .str _ => true | _ => false
def allPair (xs : List D) : Bool := xs.all fun | .tup [.int _, .int _] => true | _ => false
def sortH (xs : List D) : Option (List D) := if allInt xs || allStr xs || allPair xs then some (isort ltT xs) else none
/-- the members of a set, in the order in which they came -/
def nubU : List D → List D
  | [] => []
  | x :: xs => x :: (nubU xs).filter fun y => !D.eqv y x
def nubL (xs : List D) : List D := xs.foldl (fun acc x => if acc.any (fun y => D.eqv y x) = true then acc else acc ++ [x]) []
/-- what a list, a tuple, a set, a dict holds -/
def itemsH (d : D) (h : Hv) : Option (List D) := match d with
  | .tup xs => some xs
  | .str s => some (s.map fun c => .str [c])
  | .ref i => match h[i]? with
    | some (.lst xs) => some xs
    | some (.frz xs) => some xs
    | some (.dic kvs) => some (kvs.map (·.1))
    | _ => none
  | _ => none
def isSet (d : D) (h : Hv) : Option (List D) := match d with
  | .ref i => match h[i]? with
    | some (.set xs) => some xs
    | _ => none
  | _ => none
def intsOf : List D → Option (List Int)
  | [] => some []
  | .int i :: xs => (intsOf xs).map (i :: ·)
  | _ => none
def boolsOf : List D → Option (List Bool)
  | [] => some []
  | .bl i :: xs => (boolsOf xs).map (i :: ·)
  | _ => none
def strsOf : List D → Option (List (List Nat))
  | [] => some []
  | .str i :: xs => (strsOf xs).map (i :: ·)
  | _ => none
def maxI (i : Int) (xs : List Int) : Int := xs.foldl (fun a b => if a < b then b else a) i
def minI (i : Int) (xs : List Int) : Int := xs.foldl (fun a b => if b < a then b else a) i
def strI (i : Int) : List Nat := (toString i).toList.map Char.toNat
def joinS (sep : List Nat) : List (List Nat) → List Nat
  | [] => []
  | [x] => x
  | x :: xs => x ++ sep ++ joinS sep xs
def lenH (d : D) (h : Hv) : Option Nat := match d with
  | .str s => if s.length ≤ lim then some s.length else none
  | .tup xs => if xs.length ≤ lim then some xs.length else none
  | .lst xs => if xs.length ≤ lim then some xs.length else none
  | .ref i => match h[i]? with
    | some (.lst xs) => some xs.length
    | some (.frz xs) => some xs.length
    | some (.dic kvs) => some kvs.length
    | _ => none
  | _ => none
/-- the items of a list or a tuple -/
def seqH (d : D) (h : Hv) : Option (List D) := match d with
  | .tup xs => some xs
  | d => getL h d
def allPairD (xs : List D) : Bool := xs.all fun | .tup [.int _, .int _] => true | _ => false
def getS (h : Hv) : D → Option (List D)
  | .ref i => match h[i]? with
    | some (.set xs) => some xs
    | _ => none
  | _ => none
def leI (a b : Int) : Bool := decide (a ≤ b)
def sortI (ns : List Int) : List Int := ns.mergeSort leI
def uniq (ns : List Int) : List Int := ns.foldl (fun acc x => if x ∈ acc then acc else acc ++ [x]) []
def bltM (f : Bf) (vs : List D) : Mo D := match f, vs with
  | .len, [x] => lookM fun h => (lenH x h).map fun n => .int n
  | .tuple, [x] => lookM fun h => (seqH x h).map .tup
  | .list, [x] => fun h => match seqH x h with
    | some xs => allocM (.lst xs) h
    | none => match getD h x with
      | some kvs => allocM (.lst (kvs.map (·.1))) h
      | none => .bad
  | .int, [.int i] => .pure (.int i)
  | .int, [.bl b] => .pure (.int (b2D b))
  | .min, [.int i, .int j] => .pure (.int (if j < i then j else i))
  | .max, [.int i, .int j] => .pure (.int (if j > i then j else i))
  | .all, [x] => lookM fun h => (getL h x).bind fun xs => (boolsOf xs).map fun bs => .bl (bs.all id)
  | .any, [x] => lookM fun h => (getL h x).bind fun xs => (boolsOf xs).map fun bs => .bl (bs.any id)
  | .sum, [x] => lookM fun h => (getL h x).bind fun xs => (intsOf xs).map fun bs => .int bs.sum
  | .max, [x] => lookM fun h => (getL h x).bind fun xs => (intsOf xs).bind fun | [] => none | i :: r => some (.int (maxI i r))
  | .min, [x] => lookM fun h => (getL h x).bind fun xs => (intsOf xs).bind fun | [] => none | i :: r => some (.int (minI i r))
  | .set, [x] => fun h => match (getL h x).bind intsOf with
    | some ns => if ns.length < 4000 then allocM (.set ((uniq ns).map .int)) h else .bad
    | none => match (seqH x h) with
      | some xs => if allStr xs then allocM (.set (nubL xs)) h else .bad
      | none => .bad
  | .sorted, [x] => fun h => match getS h x with
    | some xs => match intsOf xs with
      | some ns => if ns.length < 64 then allocM (.lst ((sortI ns).map .int)) h else .bad
      | none => .bad
    | none => match getL h x with
      | some xs => match intsOf xs with
        | some ns => allocM (.lst ((sortI ns).map .int)) h
        | none => .bad
      | none => .bad
  | .str, [.int i] => if i.natAbs.log2 < 1900 then .pure (.str (strI i)) else badM
  | _, _ => badM
def idxOf (x : D) : List D → Nat → Option Nat
  | [], _ => none
  | y :: ys, n => if D.eqv y x = true then some n else idxOf x ys (n + 1)
def mthM (m : Mh) (o : D) (vs : List D) : Mo D := match m, o, vs with
  | .append, .ref i, [x] => fun h => match h[i]? with
    | some (.lst xs) => if xs.length < lim then .ok .non (h.set i (.lst (xs ++ [x]))) else .bad
    | _ => .bad
  | .pop, .ref i, [] => fun h => match h[i]? with
    | some (.lst xs) => match xs.getLast? with | some y => .ok y (h.set i (.lst xs.dropLast)) | none => .bad
    | _ => .bad
  | .pop, .ref i, [.int k] => fun h => match h[i]? with
    | some (.lst xs) => match (if -4611686018427387904 ≤ k ∧ k < 4611686018427387904 then ixD xs.length k else none) with | some j => (match xs[j]? with | some y => .ok y (h.set i (.lst (xs.eraseIdx j))) | none => .bad) | none => .bad
    | _ => .bad
  | .reverse, .ref i, [] => fun h => match h[i]? with
    | some (.lst xs) => .ok .non (h.set i (.lst xs.reverse))
    | _ => .bad
  | .clear, .ref i, [] => fun h => match h[i]? with
    | some (.lst _) => .ok .non (h.set i (.lst []))
    | some (.dic _) => .ok .non (h.set i (.dic []))
    | _ => .bad
  | .index, o, [x] => lookM fun h => (getL h o).bind fun ys => (memH x ys h).bind fun b => if b = true then (deep h x).bind fun a => (deepsW (deepR h 6) ys).bind fun bs => (idxOf a bs 0).map fun n => .int n else none
  | .count, o, [.int k] => lookM fun h => (getL h o).bind fun ys => (intsOf ys).map fun ns => .int (ns.count k)
  | .join, .str sep, [x] => lookM fun h => (seqH x h).bind fun xs => (strsOf xs).bind fun ss => if (ss.map List.length).sum + ss.length * sep.length ≤ lim then some (.str (joinS sep ss)) else none
  | .get, .ref i, [k, d] => fun h => match h[i]? with
    | some (.dic kvs) => if okKey kvs k then .ok ((dget kvs k).getD d) h else .bad
    | _ => .bad
  | .update, .ref i, [.ref j] => fun h => match h[i]?, h[j]? with
    | some (.dic kvs), some (.dic more) => if i ≠ j then .ok .non (h.set i (.dic (more.foldl (fun acc kv => dput acc kv.1 kv.2) kvs))) else .bad
    | _, _ => .bad
  | _, _, _ => badM
/-- what has the method -/
def kndH (m : Mh) (d : D) (h : Hv) : Option Unit := match m with
  | .join => match d with | .str _ => some () | _ => none
  | .split => match d with | .str _ => some () | _ => none
  | .partition => match d with | .str _ => some () | _ => none
  | .replace => match d with | .str _ => some () | _ => none
  | .get => (getD h d).map fun _ => ()
  | .update => (getD h d).map fun _ => ()
  | _ => (getL h d).map fun _ => ()
def fget (fs : List (String × D)) (x : String) : Option D := fs.lookup x
def fput (x : String) (v : D) : List (String × D) → List (String × D)
  | [] => [(x, v)]
  | p :: r => if p.1 = x then (x, v) :: r else p :: fput x v r
/-- the classes of refusals: 0 CircuitError, the others beneath it -/
def subC (c d : Nat) : Bool := d == c || d == 0 || d == 10

/-! ### evaluation -/
structure FD where
  ar : Nat
  ns : Nat
  body : List MS
abbrev PrM := String → Option FD
abbrev ClM := String → List D → Mo D
def setT (ρ : Rho) : Tgt → D → Option Rho
  | .one i, d => some (ρ.set i (some d))
  | .two i j, .tup [a, b] => some ((ρ.set i (some a)).set j (some b))
  | _, _ => none
def wipeT (ρ : Rho) : Tgt → Rho
  | .one i => ρ.set i none
  | .two i j => (ρ.set j none).set i none
/-- what is walked: at a turn nothing is known, it ends, or the item -/
abbrev Nxt := Nat → Hv → Option (Option D)
def nxSeq (v : D) : Nxt := fun i h => match v with
  | .tup xs => some xs[i]?
  | .str s => some (s[i]?.map fun c => .str [c])
  | .ref a => (getL h (.ref a)).map fun xs => xs[i]?
  | _ => none
def seqK (v : D) (h : Hv) : Option Unit := match v with
  | .tup _ => some ()
  | .str _ => some ()
  | .ref a => (getL h (.ref a)).map fun _ => ()
  | _ => none
def nxRng (lo hi : Int) : Nxt := fun i _ => if i < (hi - lo).toNat then some (some (.int (lo + i))) else some none
def nxEnm (v : D) : Nxt := fun i h => (getL h v).map fun xs => xs[i]?.map fun x => .tup [.int i, x]
def zip2 (xs ys : List D) (i : Nat) : Option D := match xs[i]?, ys[i]? with
  | some x, some y => some (.tup [x, y])
  | _, _ => none
def nxZip (v w : D) : Nxt := fun i h => match v, w with
  | .tup xs, .tup ys => some (zip2 xs ys i)
  | .ref a, .ref b => (getL h (.ref a)).bind fun xs => (getL h (.ref b)).map fun ys => zip2 xs ys i
  | _, _ => none
def zipK (v w : D) (h : Hv) : Option Unit := match v, w with
  | .tup _, .tup _ => some ()
  | .ref a, .ref b => (getL h (.ref a)).bind fun _ => (getL h (.ref b)).map fun _ => ()
  | _, _ => none
def rngOk (i : Int) : Bool := decide (-4611686018427387904 ≤ i ∧ i < 4611686018427387904)
theorem wfu_ex : ∃ n : Nat, 1099511627776 ≤ n := ⟨_, Nat.le_refl _⟩
noncomputable section
/-- turns enough; no numeral, so that nobody counts it down -/
def WFu : Nat := Classical.choose wfu_ex
theorem wfu_ge : 1099511627776 ≤ WFu := Classical.choose_spec wfu_ex
/-- a for: turns left, the turn's number -/
def forN (nx : Nxt) (tg : Tgt) (body : Rho → Mo Fl) : Nat → Nat → Rho → Mo Fl
  | 0, _, _ => badM
  | n + 1, i, ρ => fun h => match nx i h with
    | none => .bad
    | some none => .ok (.nx ρ) h
    | some (some d) => match setT ρ tg d with
      | none => .bad
      | some ρ1 => (body ρ1).bind (fun | .nx ρ' => forN nx tg body n (i + 1) ρ' | .rt v => .pure (.rt v)) h
def whlN (c : Rho → Mo Bool) (body : Rho → Mo Fl) : Nat → Rho → Mo Fl
  | 0, _ => badM
  | n + 1, ρ => (c ρ).bind fun b => if b = true then (body ρ).bind (fun | .nx ρ' => whlN c body n ρ' | .rt v => .pure (.rt v)) else .pure (.nx ρ)
/-- nothing is raised -/
def safeM {α : Type} (m : Mo α) : Mo α := fun h => match m h with
  | .ok a h' => .ok a h'
  | _ => .bad
/-- a comprehension: what is made so far -/
def lcN (nx : Nxt) (tg : Tgt) (cond : Rho → Mo Bool) (elt : Rho → Mo D) (ρ : Rho) : Nat → Nat → List D → Mo (List D)
  | 0, _, _ => badM
  | n + 1, i, acc => fun h => match nx i h with
    | none => .bad
    | some none => .ok acc h
    | some (some d) => match setT (wipeT ρ tg) tg d with
      | none => .bad
      | some ρ1 => ((safeM (cond ρ1)).bind fun b => if b = true then (safeM (elt ρ1)).bind fun y => if acc.length < lim then lcN nx tg cond elt ρ n (i + 1) (acc ++ [y]) else badM else lcN nx tg cond elt ρ n (i + 1) acc) h
/-- keys of a sort by a def -/
def keysM (f : D → Mo D) : List D → Mo (List D)
  | [] => .pure []
  | x :: xs => (f x).bind fun k => (keysM f xs).bind fun ks => .pure (k :: ks)
def getI : D → Mo Int
  | .int i => .pure i
  | _ => badM
def minK : List (Int × D) → Option D
  | [] => none
  | p :: r => some (r.foldl (fun a b => if b.1 < a.1 then b else a) p).2
def intKeys : List D → List D → Option (List (Int × D))
  | [], [] => some []
  | .int i :: ks, x :: xs => (intKeys ks xs).map ((i, x) :: ·)
  | _, _ => none
def dispD : List D → List D → List (D × D) → Option (List (D × D))
  | [], [], acc => some acc
  | k :: ks, v :: vs, acc => if okKey acc k then dispD ks vs (dput acc k v) else none
  | _, _, _ => none
def locM (ρ : Rho) (i : Nat) : Mo D := match ρ[i]? with
  | some (some d) => .pure d
  | _ => badM
/-- an argument list's, a test's end -/
def ofTest (m : Mo D) : Mo Bool := m.bind truM
mutual
def evE (c c' : ClM) : ME → Rho → Mo D
  | .loc i, ρ => locM ρ i
  | .cst d, _ => .pure d
  | .tup es, ρ => (evEs c c' es ρ).bind fun ds => .pure (.tup ds)
  | .lst es, ρ => (evEs c c' es ρ).bind fun ds => allocM (.lst ds)
  | .dic ks vs, ρ => (evEs c c' ks ρ).bind fun ds => (evEs c c' vs ρ).bind fun es => (ofO (dispD ds es [])).bind fun kvs => allocM (.dic kvs)
  | .bin o a b, ρ => (evE c c' a ρ).bind fun x => (evE c c' b ρ).bind fun y => binM o x y
  | .neg a, ρ => (evE c c' a ρ).bind fun x => (getI x).bind fun i => .pure (.int (-i))
  | .not a, ρ => ((evE c c' a ρ).bind truM).bind fun b => .pure (.bl !b)
  | .and a b, ρ => (evE c c' a ρ).bind fun x => (truM x).bind fun t => if t = true then evE c c' b ρ else .pure x
  | .or a b, ρ => (evE c c' a ρ).bind fun x => (truM x).bind fun t => if t = true then .pure x else evE c c' b ρ
  | .cmp o a b, ρ => (evE c c' a ρ).bind fun x => (evE c c' b ρ).bind fun y => (cmpM o x y).bind fun t => .pure (.bl t)
  | .chn o p a b d, ρ => (evE c c' a ρ).bind fun x => (evE c c' b ρ).bind fun y => (cmpM o x y).bind fun t => if t = true then (evE c c' d ρ).bind fun z => (cmpM p y z).bind fun u => .pure (.bl u) else .pure (.bl false)
  | .ife t a b, ρ => ((evE c c' t ρ).bind truM).bind fun v => if v = true then evE c c' a ρ else evE c c' b ρ
  | .idx a i, ρ => (evE c c' a ρ).bind fun x => (evE c c' i ρ).bind fun y => idxM x y
  | .slc a lo hi, ρ => (evE c c' a ρ).bind fun x => (evO c c' lo ρ).bind fun l => (evO c c' hi ρ).bind fun u => slcM x l u
  | .call f es, ρ => (evEs c c' es ρ).bind fun ds => c f ds
  | .blt f es, ρ => (evEs c c' es ρ).bind fun ds => bltM f ds
  | .mth m o es, ρ => (evE c c' o ρ).bind fun x => (lookM (kndH m x)).bind fun _ => (evEs c c' es ρ).bind fun ds => mthM m x ds
  | .own m o es, ρ => (evE c c' o ρ).bind fun x => (evEs c c' es ρ).bind fun ds => c m (x :: ds)
  | .new k es, ρ => (evEs c c' es ρ).bind fun ds => (allocM (.ins k [])).bind fun o => (c' "Store.__init__" (o :: ds)).bind fun | .non => .pure o | _ => badM
  | .fld o x, ρ => (evE c c' o ρ).bind fun v => lookM fun h => match v with
    | .ref i => match h[i]? with
      | some (.ins _ fs) => fget fs x
      | _ => none
    | _ => none
  | .isi e t, ρ => (evE c c' e ρ).bind fun v => lookM fun h => (tyD v h).map fun k => .bl (isT t k)
  | .ise e k, ρ => (evE c c' e ρ).bind fun v => match v with
    | .exc j => .pure (.bl (subC j k))
    | _ => badM
  | .lc tg it cond elt, ρ => (evI c c' it ρ).bind fun nx => (lcN nx tg (evC c c' cond) (evE c c' elt) ρ WFu 0 []).bind fun acc => allocM (.lst acc)
  | .skey e f, ρ => (evE c c' e ρ).bind fun v => (lookM (seqH v)).bind fun xs => (keysM (fun x => c f [x]) xs).bind fun ks =>
      if allStr ks || allInt ks then allocM (.lst ((isort (fun (p q : D × D) => ltT p.1 q.1) (ks.zip xs)).map (·.2))) else badM
  | .mkey e i f, ρ => (evE c c' e ρ).bind fun v => (lookM (seqH v)).bind fun xs => (keysM (fun x => evE c c' f (ρ.set i (some x))) xs).bind fun ks =>
      ofO ((intKeys ks xs).bind minK)
  | .mdef mx e d, ρ => (evE c c' e ρ).bind fun v => (evE c c' d ρ).bind fun w => lookM fun h => (getL h v).bind fun xs => (intsOf xs).map fun
      | [] => w
      | i :: r => .int (if mx = true then maxI i r else minI i r)
def evEs (c c' : ClM) : List ME → Rho → Mo (List D)
  | [], _ => .pure []
  | e :: es, ρ => (evE c c' e ρ).bind fun d => (evEs c c' es ρ).bind fun ds => .pure (d :: ds)
def evO (c c' : ClM) : Option ME → Rho → Mo (Option Int)
  | none, _ => .pure none
  | some e, ρ => (evE c c' e ρ).bind fun d => (getI d).bind fun i => .pure (some i)
def evC (c c' : ClM) : Option ME → Rho → Mo Bool
  | none, _ => .pure true
  | some t, ρ => (evE c c' t ρ).bind truM
def evI (c c' : ClM) : ITr → Rho → Mo Nxt
  | .seq e, ρ => (evE c c' e ρ).bind fun v => (lookM (seqK v)).bind fun _ => .pure (nxSeq v)
  | .rng a, ρ => (evE c c' a ρ).bind fun v => (getI v).bind fun i => if rngOk i = true then .pure (nxRng 0 i) else badM
  | .rng2 a b, ρ => (evE c c' a ρ).bind fun v => (evE c c' b ρ).bind fun w => (getI v).bind fun i => (getI w).bind fun j => if (rngOk i && rngOk j) = true then .pure (nxRng i j) else badM
  | .enm e, ρ => (evE c c' e ρ).bind fun v => (lookM fun h => getL h v).bind fun _ => .pure (nxEnm v)
  | .zip a b, ρ => (evE c c' a ρ).bind fun v => (evE c c' b ρ).bind fun w => (lookM (zipK v w)).bind fun _ => .pure (nxZip v w)
end
abbrev evT (c c' : ClM) (e : ME) (ρ : Rho) : Mo Bool := (evE c c' e ρ).bind truM
def evX (c c' : ClM) : MT → Rho → Mo Unit
  | .exp e, ρ => (evE c c' e ρ).bind fun _ => .pure ()
  | .ife t a b, ρ => (evT c c' t ρ).bind fun v => if v = true then evX c c' a ρ else evX c c' b ρ
def setsL : List Nat → List D → Rho → Option Rho
  | [], [], ρ => some ρ
  | i :: is, d :: ds, ρ => setsL is ds (ρ.set i (some d))
  | _, _, _ => none
/-- o[i] = v -/
def setM (o i v : D) : Mo Unit := fun h => match o with
  | .ref a => match h[a]? with
    | some (.lst xs) => match i with
      | .int k => match ixD xs.length k with
        | some j => .ok () (h.set a (.lst (xs.set j v)))
        | none => .bad
      | _ => .bad
    | some (.dic kvs) => if okKey kvs i && decide (kvs.length < lim) then .ok () (h.set a (.dic (dput kvs i v))) else .bad
    | _ => .bad
  | _ => .bad
def hdl (c : Nat) : List (Nat × Option Nat × List MS) → Option (Option Nat × List MS)
  | [] => none
  | p :: r => if subC c p.1 then some p.2 else hdl c r
mutual
def evS (c c' : ClM) : MS → Rho → Mo Fl
  | .set i e, ρ => (evE c c' e ρ).bind fun d => .pure (.nx (ρ.set i (some d)))
  | .upk is e, ρ => (evE c c' e ρ).bind fun d => match d with
    | .tup ds => (ofO (setsL is ds ρ)).bind fun ρ' => .pure (.nx ρ')
    | _ => badM
  | .par is es, ρ => (evEs c c' es ρ).bind fun ds => (ofO (setsL is ds ρ)).bind fun ρ' => .pure (.nx ρ')
  | .sub o i e, ρ => (evE c c' e ρ).bind fun d => (evE c c' o ρ).bind fun x => (evE c c' i ρ).bind fun k => (setM x k d).bind fun _ => .pure (.nx ρ)
  | .fld o x e, ρ => (evE c c' e ρ).bind fun d => (evE c c' o ρ).bind fun v => fun h => match v with
    | .ref i => match h[i]? with
      | some (.ins k fs) => if fs.length < 1000 then .ok (.nx ρ) (h.set i (.ins k (fput x d fs))) else .bad
      | _ => .bad
    | _ => .bad
  | .exp e, ρ => (evE c c' e ρ).bind fun _ => .pure (.nx ρ)
  | .ret e, ρ => (evE c c' e ρ).bind fun d => .pure (.rt d)
  | .ife t a b, ρ => (evT c c' t ρ).bind fun v => if v = true then evB c c' a ρ else evB c c' b ρ
  | .for_ tg it body, ρ => (evI c c' it ρ).bind fun nx => forN nx tg (fun ρ1 => evB c c' body ρ1) WFu 0 ρ
  | .whl t body, ρ => whlN (fun ρ1 => evT c c' t ρ1) (fun ρ1 => evB c c' body ρ1) WFu ρ
  | .rse k, _ => raiM k
  | .nev, _ => badM
  | .try_ body hs, ρ => fun h => match evX c c' body ρ h with
    | .ok _ h' => .ok (.nx ρ) h'
    | .ex k h' => evH c c' k hs ρ h'
    | .bad => .bad
  | .pas, ρ => .pure (.nx ρ)
def evB (c c' : ClM) : List MS → Rho → Mo Fl
  | [], ρ => .pure (.nx ρ)
  | s :: r, ρ => (evS c c' s ρ).bind fun | .nx ρ' => evB c c' r ρ' | .rt d => .pure (.rt d)
/-- the first clause that takes it -/
def evH (c c' : ClM) (k : Nat) : List (Nat × Option Nat × List MS) → Rho → Mo Fl
  | [], _ => raiM k
  | (j, sl, b) :: r, ρ => if subC k j then (evB c c' b (match sl with | some i => ρ.set i (some (.exc k)) | none => ρ)).bind (fun
      | .nx ρ' => .pure (.nx (match sl with | some i => ρ'.set i none | none => ρ'))
      | .rt d => .pure (.rt d)) else evH c c' k r ρ
end
def runF (c c' : ClM) (fd : FD) (ds : List D) : Mo D := if ds.length = fd.ar then (evB c c' fd.body (ds.map some ++ List.replicate (fd.ns - fd.ar) none)).bind fun
  | .rt d => .pure d
  | .nx _ => .pure .non else badM
def runP (P : PrM) (c c' : ClM) : ClM := fun f ds => match P f with
  | some fd => runF c c' fd ds
  | none => badM
/-- n calls, one in another -/
def calls (P : PrM) : Nat → ClM × ClM
  | 0 => (fun _ _ => badM, fun _ _ => badM)
  | n + 1 => (runP P (calls P n).1 (calls P n).2, (calls P n).1)
def callN (P : PrM) (n : Nat) : ClM := (calls P n).1
end
end MI

set_option Elab.async false
set_option linter.all false
set_option maxRecDepth 100000
/-! MiP: reasoning about MI's runs. -/
namespace MI
def Wp {α : Type} (m : Mo α) (η : Hv) (Q : α → Hv → Prop) : Prop := match m η with
  | .ok a h => Q a h
  | .ex _ _ => False
  | .bad => False
section
variable {α β : Type} {m : Mo α} {f : α → Mo β} {η : Hv} {Q : β → Hv → Prop} {R : α → Hv → Prop}
theorem wp_pure {a : α} : Wp (Mo.pure a) η R = R a η := rfl
theorem wp_bind : Wp (Mo.bind m f) η Q = Wp m η fun a η1 => Wp (f a) η1 Q := by
  unfold Wp Mo.bind
  cases m η <;> rfl
theorem wp_look {g : Hv → Option α} {a : α} (h : g η = some a) : Wp (lookM g) η R = R a η := by
  unfold Wp lookM
  rw [h]
theorem wp_alloc {o : O} {R : D → Hv → Prop} : Wp (allocM o) η R = R (.ref η.length) (η ++ [o]) := rfl
theorem wp_ofO {a : α} : Wp (ofO (some a)) η R = R a η := rfl
theorem Wp.imp {R' : α → Hv → Prop} (h : Wp m η R) (q : ∀ a η', R a η' → R' a η') : Wp m η R' := by
  unfold Wp at h ⊢
  cases e : m η with
  | ok a h' => rw [e] at h; exact q _ _ h
  | ex _ _ => rw [e] at h; exact h.elim
  | bad => rw [e] at h; exact h.elim
theorem Wp.ok (h : Wp m η R) : ∃ a η', m η = .ok a η' ∧ R a η' := by
  unfold Wp at h
  cases e : m η with
  | ok a h' => rw [e] at h; exact ⟨a, h', rfl, h⟩
  | ex _ _ => rw [e] at h; exact h.elim
  | bad => rw [e] at h; exact h.elim
theorem wp_safe : Wp (safeM m) η R = Wp m η R := by
  unfold Wp safeM
  cases m η <;> rfl
theorem wp_eq {a : α} {η' : Hv} (h : m η = .ok a η') : Wp m η R = R a η' := by
  unfold Wp
  rw [h]
end
/-- all that stands still stands -/
def Ext (η η' : Hv) : Prop := ∀ (i : Nat) (o : O), η[i]? = some o → η'[i]? = some o
theorem Ext.refl {η : Hv} : Ext η η := fun _ _ h => h
theorem Ext.trans {a b c : Hv} (h : Ext a b) (q : Ext b c) : Ext a c := fun i o e => q i o (h i o e)
theorem Ext.app {η t : Hv} : Ext η (η ++ t) := fun i o e => by
  rw [List.getElem?_append_left (List.getElem?_eq_some_iff.mp e).1]; exact e
theorem Ext.len {η η' : Hv} (h : Ext η η') : η.length ≤ η'.length := by
  rcases Nat.lt_or_ge η'.length η.length with q | q
  · have := h η'.length (η[η'.length]) (List.getElem?_eq_getElem q)
    rw [List.getElem?_eq_none (Nat.le_refl _)] at this
    cases this
  · exact q
/-- a new place is written -/
theorem Ext.set {η η' : Hv} (h : Ext η η') {i : Nat} {o : O} (hi : η.length ≤ i) : Ext η (η'.set i o) := fun j u e => by
  have hj : j < η.length := (List.getElem?_eq_some_iff.mp e).1
  rw [List.getElem?_set_ne (by omega)]
  exact h j u e
theorem at_new {η : Hv} {o : O} : (η ++ [o])[η.length]? = some o := by simp
theorem set_at {η : Hv} {i : Nat} {o u : O} (h : η[i]? = some u) : (η.set i o)[i]? = some o := by
  rw [List.getElem?_set_self (List.getElem?_eq_some_iff.mp h).1]
/-! ### walks -/
theorem wp_for {nx : Nxt} {tg : Tgt} {body : Rho → Mo Fl} {ρ : Rho} {η : Hv} {Q : Fl → Hv → Prop} (I : Nat → Rho → Hv → Prop) (xs : List D) (hl : xs.length < 1099511627776) (h0 : I 0 ρ η) (hx : ∀ i ρ η, I i ρ η → nx i η = some xs[i]?)
    (hs : ∀ i ρ η d, I i ρ η → xs[i]? = some d → ∃ ρ1, setT ρ tg d = some ρ1 ∧ Wp (body ρ1) η fun f η' => match f with
      | .nx ρ' => I (i + 1) ρ' η'
      | .rt v => Q (.rt v) η')
    (he : ∀ ρ η, I xs.length ρ η → Q (.nx ρ) η) : Wp (forN nx tg body WFu 0 ρ) η Q := by
  have key : ∀ m i ρ η, i ≤ xs.length → xs.length - i < m → I i ρ η → Wp (forN nx tg body m i ρ) η Q := by
    intro m
    induction m with
    | zero => intro i ρ η h1 h2; omega
    | succ m ih =>
      intro i ρ η h1 h2 hI
      have e := hx i ρ η hI
      unfold Wp forN
      rw [e]
      cases g : xs[i]? with
      | none =>
        have : i = xs.length := by
          have := List.getElem?_eq_none_iff.mp g
          omega
        subst this
        exact he ρ η hI
      | some d =>
        obtain ⟨ρ1, e1, w⟩ := hs i ρ η d hI g
        simp only [e1]
        have hi := (List.getElem?_eq_some_iff.mp g).1
        have : Wp ((body ρ1).bind fun | .nx ρ' => forN nx tg body m (i + 1) ρ' | .rt v => .pure (.rt v)) η Q := by
          rw [wp_bind]
          refine w.imp fun f η' q => ?_
          cases f with
          | nx ρ' => exact ih (i + 1) ρ' η' hi (by omega) q
          | rt v => exact q
        exact this
  exact key WFu 0 ρ η (Nat.zero_le _) (by have := wfu_ge; omega) h0
theorem wp_lc {nx : Nxt} {tg : Tgt} {cond : Rho → Mo Bool} {elt : Rho → Mo D} {ρ : Rho} {η : Hv} {Q : List D → Hv → Prop} (I : Nat → List D → Hv → Prop) (xs : List D) (hl : xs.length ≤ 16777216) (h0 : I 0 [] η) (hx : ∀ i acc η, I i acc η → nx i η = some xs[i]?)
    (hs : ∀ i acc η d, I i acc η → xs[i]? = some d → ∃ ρ1, setT (wipeT ρ tg) tg d = some ρ1 ∧ Wp (cond ρ1) η fun b η1 => if b = true then Wp (elt ρ1) η1 fun y η2 => I (i + 1) (acc ++ [y]) η2 else I (i + 1) acc η1)
    (he : ∀ acc η, I xs.length acc η → Q acc η) : Wp (lcN nx tg cond elt ρ WFu 0 []) η Q := by
  have key : ∀ m i acc η, i ≤ xs.length → acc.length ≤ i → xs.length - i < m → I i acc η → Wp (lcN nx tg cond elt ρ m i acc) η Q := by
    intro m
    induction m with
    | zero => intro i acc η h1 h2 h3; omega
    | succ m ih =>
      intro i acc η h1 h2 h3 hI
      have e := hx i acc η hI
      unfold Wp lcN
      rw [e]
      cases g : xs[i]? with
      | none =>
        have : i = xs.length := by
          have := List.getElem?_eq_none_iff.mp g
          omega
        subst this
        exact he acc η hI
      | some d =>
        obtain ⟨ρ1, e1, w⟩ := hs i acc η d hI g
        simp only [e1]
        have hi := (List.getElem?_eq_some_iff.mp g).1
        have : Wp ((safeM (cond ρ1)).bind fun b => if b = true then (safeM (elt ρ1)).bind fun y => if acc.length < lim then lcN nx tg cond elt ρ m (i + 1) (acc ++ [y]) else badM else lcN nx tg cond elt ρ m (i + 1) acc) η Q := by
          rw [wp_bind, wp_safe]
          refine w.imp fun b η' q => ?_
          cases b with
          | true =>
            simp only [if_true] at q ⊢
            rw [wp_bind, wp_safe]
            refine q.imp fun y η2 q2 => ?_
            have hlim : acc.length < lim := by show acc.length < 16777216; omega
            rw [if_pos hlim]
            exact ih (i + 1) _ η2 hi (by simp; omega) (by omega) q2
          | false =>
            simp only [Bool.false_eq_true, if_false] at q ⊢
            exact ih (i + 1) _ η' hi (by omega) (by omega) q
        exact this
  exact key WFu 0 [] η (Nat.zero_le _) (Nat.le_refl _) (by have := wfu_ge; omega) h0
/-! ### the forms -/
section
variable {c c' : ClM} {ρ : Rho}
theorem x_loc {i : Nat} : evE c c' (.loc i) ρ = locM ρ i := rfl
theorem x_cst {d : D} : evE c c' (.cst d) ρ = Mo.pure d := rfl
theorem x_tup {es : List ME} : evE c c' (.tup es) ρ = (evEs c c' es ρ).bind fun ds => .pure (.tup ds) := rfl
theorem x_lst {es : List ME} : evE c c' (.lst es) ρ = (evEs c c' es ρ).bind fun ds => allocM (.lst ds) := rfl
theorem x_bin {o : Op} {a b : ME} : evE c c' (.bin o a b) ρ = (evE c c' a ρ).bind fun x => (evE c c' b ρ).bind fun y => binM o x y := rfl
theorem x_neg {a : ME} : evE c c' (.neg a) ρ = (evE c c' a ρ).bind fun x => (getI x).bind fun i => .pure (.int (-i)) := rfl
theorem x_not {a : ME} : evE c c' (.not a) ρ = ((evE c c' a ρ).bind truM).bind fun b => .pure (.bl !b) := rfl
theorem x_and {a b : ME} : evE c c' (.and a b) ρ = (evE c c' a ρ).bind fun x => (truM x).bind fun t => if t = true then evE c c' b ρ else .pure x := rfl
theorem x_or {a b : ME} : evE c c' (.or a b) ρ = (evE c c' a ρ).bind fun x => (truM x).bind fun t => if t = true then .pure x else evE c c' b ρ := rfl
theorem x_cmp {o : Cm} {a b : ME} : evE c c' (.cmp o a b) ρ = (evE c c' a ρ).bind fun x => (evE c c' b ρ).bind fun y => (cmpM o x y).bind fun t => .pure (.bl t) := rfl
theorem x_chn {o p : Cm} {a b d : ME} : evE c c' (.chn o p a b d) ρ = (evE c c' a ρ).bind fun x => (evE c c' b ρ).bind fun y => (cmpM o x y).bind fun t => if t = true then (evE c c' d ρ).bind fun z => (cmpM p y z).bind fun u => .pure (.bl u) else .pure (.bl false) := rfl
theorem x_ife {t a b : ME} : evE c c' (.ife t a b) ρ = ((evE c c' t ρ).bind truM).bind fun v => if v = true then evE c c' a ρ else evE c c' b ρ := rfl
theorem x_idx {a i : ME} : evE c c' (.idx a i) ρ = (evE c c' a ρ).bind fun x => (evE c c' i ρ).bind fun y => idxM x y := rfl
theorem x_slc {a : ME} {lo hi : Option ME} : evE c c' (.slc a lo hi) ρ = (evE c c' a ρ).bind fun x => (evO c c' lo ρ).bind fun l => (evO c c' hi ρ).bind fun u => slcM x l u := rfl
theorem x_call {f : String} {es : List ME} : evE c c' (.call f es) ρ = (evEs c c' es ρ).bind fun ds => c f ds := rfl
theorem x_blt {f : Bf} {es : List ME} : evE c c' (.blt f es) ρ = (evEs c c' es ρ).bind fun ds => bltM f ds := rfl
theorem x_mth {m : Mh} {o : ME} {es : List ME} : evE c c' (.mth m o es) ρ = (evE c c' o ρ).bind fun x => (lookM (kndH m x)).bind fun _ => (evEs c c' es ρ).bind fun ds => mthM m x ds := rfl
theorem x_isi {e : ME} {t : Ty} : evE c c' (.isi e t) ρ = (evE c c' e ρ).bind fun v => lookM fun h => (tyD v h).map fun k => .bl (isT t k) := rfl
theorem x_lc {tg : Tgt} {it : ITr} {cond : Option ME} {elt : ME} : evE c c' (.lc tg it cond elt) ρ = (evI c c' it ρ).bind fun nx => (lcN nx tg (evC c c' cond) (evE c c' elt) ρ WFu 0 []).bind fun acc => allocM (.lst acc) := rfl
theorem x_nil : evEs c c' [] ρ = Mo.pure [] := rfl
theorem x_cons {e : ME} {es : List ME} : evEs c c' (e :: es) ρ = (evE c c' e ρ).bind fun d => (evEs c c' es ρ).bind fun ds => .pure (d :: ds) := rfl
theorem x_onone : evO c c' none ρ = Mo.pure none := rfl
theorem x_osome {e : ME} : evO c c' (some e) ρ = (evE c c' e ρ).bind fun d => (getI d).bind fun i => .pure (some i) := rfl
theorem x_cnone : evC c c' none ρ = Mo.pure true := rfl
theorem x_csome {t : ME} : evC c c' (some t) ρ = (evE c c' t ρ).bind truM := rfl
theorem x_seq {e : ME} : evI c c' (.seq e) ρ = (evE c c' e ρ).bind fun v => (lookM (seqK v)).bind fun _ => .pure (nxSeq v) := rfl
theorem x_rng {a : ME} : evI c c' (.rng a) ρ = (evE c c' a ρ).bind fun v => (getI v).bind fun i => if rngOk i = true then .pure (nxRng 0 i) else badM := rfl
theorem x_rng2 {a b : ME} : evI c c' (.rng2 a b) ρ = (evE c c' a ρ).bind fun v => (evE c c' b ρ).bind fun w => (getI v).bind fun i => (getI w).bind fun j => if (rngOk i && rngOk j) = true then .pure (nxRng i j) else badM := rfl
theorem x_enm {e : ME} : evI c c' (.enm e) ρ = (evE c c' e ρ).bind fun v => (lookM fun h => getL h v).bind fun _ => .pure (nxEnm v) := rfl
theorem x_zip {a b : ME} : evI c c' (.zip a b) ρ = (evE c c' a ρ).bind fun v => (evE c c' b ρ).bind fun w => (lookM (zipK v w)).bind fun _ => .pure (nxZip v w) := rfl
theorem s_set {i : Nat} {e : ME} : evS c c' (.set i e) ρ = (evE c c' e ρ).bind fun d => .pure (.nx (ρ.set i (some d))) := rfl
theorem s_sub {o i e : ME} : evS c c' (.sub o i e) ρ = (evE c c' e ρ).bind fun d => (evE c c' o ρ).bind fun x => (evE c c' i ρ).bind fun k => (setM x k d).bind fun _ => .pure (.nx ρ) := rfl
theorem s_exp {e : ME} : evS c c' (.exp e) ρ = (evE c c' e ρ).bind fun _ => .pure (.nx ρ) := rfl
theorem s_ret {e : ME} : evS c c' (.ret e) ρ = (evE c c' e ρ).bind fun d => .pure (.rt d) := rfl
theorem s_ife {t : ME} {a b : List MS} : evS c c' (.ife t a b) ρ = ((evE c c' t ρ).bind truM).bind fun v => if v = true then evB c c' a ρ else evB c c' b ρ := rfl
theorem s_for {tg : Tgt} {it : ITr} {body : List MS} : evS c c' (.for_ tg it body) ρ = (evI c c' it ρ).bind fun nx => forN nx tg (fun ρ1 => evB c c' body ρ1) WFu 0 ρ := rfl
theorem s_whl {t : ME} {body : List MS} : evS c c' (.whl t body) ρ = whlN (fun ρ1 => (evE c c' t ρ1).bind truM) (fun ρ1 => evB c c' body ρ1) WFu ρ := rfl
theorem b_nil : evB c c' [] ρ = Mo.pure (.nx ρ) := rfl
theorem b_cons {s : MS} {r : List MS} : evB c c' (s :: r) ρ = (evS c c' s ρ).bind fun | .nx ρ' => evB c c' r ρ' | .rt d => .pure (.rt d) := rfl
end
section
variable {η : Hv} {ρ : Rho} {R : D → Hv → Prop}
theorem wp_loc {i : Nat} {d : D} (h : ρ[i]? = some (some d)) : Wp (locM ρ i) η R = R d η := by
  unfold locM
  rw [h]
  rfl
theorem wp_tru {d : D} {b : Bool} {R : Bool → Hv → Prop} (h : truH d η = some b) : Wp (truM d) η R = R b η := wp_look h
theorem wp_cmp {o : Cm} {x y : D} {b : Bool} {R : Bool → Hv → Prop} (h : cmpH o x y η = some b) : Wp (cmpM o x y) η R = R b η := wp_look h
theorem wp_idx {x y d : D} (h : idxH x y η = some d) : Wp (idxM x y) η R = R d η := wp_look h
theorem wp_if {α : Type} {b : Bool} {p q : Mo α} {R : α → Hv → Prop} : Wp (if b = true then p else q) η R = if b = true then Wp p η R else Wp q η R := by
  cases b <;> rfl
end
/-- a def's run -/
theorem wp_call {P : PrM} {n : Nat} {f : String} {fd : FD} {ds : List D} {η : Hv} {R : D → Hv → Prop} (h : P f = some fd) (hl : ds.length = fd.ar) :
    Wp (callN P (n + 1) f ds) η R = Wp (evB (callN P n) (calls P n).2 fd.body (ds.map some ++ List.replicate (fd.ns - fd.ar) none)) η fun fl η' => match fl with
      | .rt d => R d η'
      | .nx _ => R .non η' := by
  have e : callN P (n + 1) f ds = (evB (callN P n) (calls P n).2 fd.body (ds.map some ++ List.replicate (fd.ns - fd.ar) none)).bind fun
      | .rt d => .pure d
      | .nx _ => .pure .non := by
    show runP P (calls P n).1 (calls P n).2 f ds = _
    unfold runP
    rw [h]
    show runF _ _ fd ds = _
    unfold runF
    rw [if_pos hl]
    rfl
  rw [e, wp_bind]
  congr 1
  funext fl η'
  cases fl <;> rfl
section
variable {ρ : Rho} {a : Option D} {d : D} {i : Nat}
theorem l_zero : locM (some d :: ρ) 0 = Mo.pure d := rfl
theorem l_succ : locM (a :: ρ) (i + 1) = locM ρ i := rfl
end
section
variable {η : Hv} {R : D → Hv → Prop} {RB : Bool → Hv → Prop} {i j : Int} {xs ys : List D}
theorem w_add : Wp (binM .add (.int i) (.int j)) η R = R (.int (i + j)) η := rfl
theorem w_sub : Wp (binM .sub (.int i) (.int j)) η R = R (.int (i - j)) η := rfl
theorem w_mod (h : 0 < j) : Wp (binM .mod (.int i) (.int j)) η R = R (.int (i % j)) η := by
  unfold Wp binM
  simp only [h, if_true]
theorem w_fdiv (h : 0 < j) (h2 : j < 1073741824) : Wp (binM .fdiv (.int i) (.int j)) η R = R (.int (i / j)) η := by
  unfold Wp binM
  simp only [h, h2, and_self, if_true]
theorem w_mulR (h : -18446744073709551616 < j) (h2 : j < 18446744073709551616) : Wp (binM .mul (.int i) (.int j)) η R = R (.int (i * j)) η := by
  have e : ((-bigI < i ∧ i < bigI) ∨ (-bigI < j ∧ j < bigI)) ∨ i.natAbs.log2 + j.natAbs.log2 < 134217000 := .inl (.inr ⟨h, h2⟩)
  unfold Wp binM
  simp only [e, if_true]
theorem w_mulL (h : -18446744073709551616 < i) (h2 : i < 18446744073709551616) : Wp (binM .mul (.int i) (.int j)) η R = R (.int (i * j)) η := by
  have e : ((-bigI < i ∧ i < bigI) ∨ (-bigI < j ∧ j < bigI)) ∨ i.natAbs.log2 + j.natAbs.log2 < 134217000 := .inl (.inl ⟨h, h2⟩)
  unfold Wp binM
  simp only [e, if_true]
theorem w_lt : Wp (cmpM .lt (.int i) (.int j)) η RB = RB (decide (i < j)) η := rfl
theorem w_le : Wp (cmpM .le (.int i) (.int j)) η RB = RB (decide (i ≤ j)) η := rfl
theorem w_gt : Wp (cmpM .gt (.int i) (.int j)) η RB = RB (decide (j < i)) η := rfl
theorem w_ge : Wp (cmpM .ge (.int i) (.int j)) η RB = RB (decide (j ≤ i)) η := rfl
theorem w_eqi : Wp (cmpM .eq (.int i) (.int j)) η RB = RB (i == j) η := rfl
theorem w_nei : Wp (cmpM .ne (.int i) (.int j)) η RB = RB (!(i == j)) η := rfl
theorem w_eqb {a b : Bool} : Wp (cmpM .eq (.bl a) (.bl b)) η RB = RB (a == b) η := rfl
theorem w_neb {a b : Bool} : Wp (cmpM .ne (.bl a) (.bl b)) η RB = RB (!(a == b)) η := rfl
theorem w_trub {b : Bool} : Wp (truM (.bl b)) η RB = RB b η := rfl
theorem w_trui : Wp (truM (.int i)) η RB = RB (i != 0) η := rfl
theorem w_gi {R : Int → Hv → Prop} : Wp (getI (.int i)) η R = R i η := rfl
theorem w_lenT (h : xs.length ≤ 16777216) : Wp (bltM .len [.tup xs]) η R = R (.int xs.length) η := by
  have h' : xs.length ≤ lim := h
  unfold Wp bltM lookM
  simp only [lenH, h', if_true]
  rfl
theorem w_lenV (h : xs.length ≤ 16777216) : Wp (bltM .len [.lst xs]) η R = R (.int xs.length) η := by
  have h' : xs.length ≤ lim := h
  unfold Wp bltM lookM
  simp only [lenH, h', if_true]
  rfl
theorem w_lenL {a : Nat} (h : η[a]? = some (.lst xs)) : Wp (bltM .len [.ref a]) η R = R (.int xs.length) η := by
  unfold Wp bltM lookM
  simp only [lenH, h]
  rfl
theorem at_nat {α : Type} {xs : List α} {k : Nat} {d : α} (h : xs[k]? = some d) : atD xs (k : Int) = some d := by
  have hk := (List.getElem?_eq_some_iff.mp h).1
  unfold atD ixD
  rw [if_pos (by omega), if_pos (by omega)]
  exact h
theorem at_int {α : Type} {xs : List α} {k : Int} {d : α} (h0 : 0 ≤ k) (h : xs[k.toNat]? = some d) : atD xs k = some d := by
  have := at_nat h
  rw [Int.toNat_of_nonneg h0] at this
  exact this
theorem w_idxV {d : D} (h : atD xs i = some d) : Wp (idxM (.lst xs) (.int i)) η R = R d η := wp_idx h
theorem w_idxT {d : D} (h : atD xs i = some d) : Wp (idxM (.tup xs) (.int i)) η R = R d η := wp_idx h
theorem w_idxL {a : Nat} {d : D} (q : η[a]? = some (.lst xs)) (h : atD xs i = some d) : Wp (idxM (.ref a) (.int i)) η R = R d η := wp_idx (by unfold idxH; simp only [q]; exact h)
theorem w_tupL {a : Nat} (q : η[a]? = some (.lst xs)) : Wp (bltM .tuple [.ref a]) η R = R (.tup xs) η := by
  unfold Wp bltM lookM
  simp only [seqH, getL, q, Option.map_some]
theorem w_listL {a : Nat} (q : η[a]? = some (.lst xs)) : Wp (bltM .list [.ref a]) η R = R (.ref η.length) (η ++ [.lst xs]) := by
  unfold Wp bltM
  simp only [seqH, getL, q]
  rfl
theorem w_listT : Wp (bltM .list [.tup xs]) η R = R (.ref η.length) (η ++ [.lst xs]) := rfl
theorem w_int : Wp (bltM .int [.int i]) η R = R (.int i) η := rfl
theorem w_intb {b : Bool} : Wp (bltM .int [.bl b]) η R = R (.int (b2D b)) η := rfl
theorem w_isN {d : D} : Wp (cmpM .is d .non) η RB = RB (match d with | .non => true | _ => false) η := rfl
theorem w_isnN {d : D} : Wp (cmpM .isn d .non) η RB = RB (match d with | .non => false | _ => true) η := rfl
theorem w_isB {d : D} {b : Bool} : Wp (cmpM .is d (.bl b)) η RB = RB (match d with | .bl c => c == b | _ => false) η := rfl
theorem w_isnB {d : D} {b : Bool} : Wp (cmpM .isn d (.bl b)) η RB = RB (match d with | .bl c => !(c == b) | _ => true) η := rfl
theorem w_app {a : Nat} {x : D} (q : η[a]? = some (.lst xs)) (h : xs.length < 16777216) : Wp (mthM .append (.ref a) [x]) η R = R .non (η.set a (.lst (xs ++ [x]))) := by
  have h' : xs.length < lim := h
  unfold Wp mthM
  simp only [q, h', if_true]
theorem w_kndL {a : Nat} {m : Mh} {R : Unit → Hv → Prop} (q : η[a]? = some (.lst xs)) (hm : ∀ d h, kndH m d h = (getL h d).map fun _ => ()) : Wp (lookM (kndH m (.ref a))) η R = R () η := wp_look (by rw [hm]; simp only [getL, q, Option.map_some])
theorem w_cat {a b : Nat} (q1 : η[a]? = some (.lst xs)) (q2 : η[b]? = some (.lst ys)) (h : xs.length + ys.length ≤ 16777216) : Wp (binM .add (.ref a) (.ref b)) η R = R (.ref η.length) (η ++ [.lst (xs ++ ys)]) := by
  have h' : xs.length + ys.length ≤ lim := h
  unfold Wp binM
  simp only [q1, q2, h', if_true]
  rfl
theorem w_sub1 {a k : Nat} {v : D} {R : Unit → Hv → Prop} (q : η[a]? = some (.lst xs)) (h : k < xs.length) : Wp (setM (.ref a) (.int k) v) η R = R () (η.set a (.lst (xs.set k v))) := by
  have e : ixD xs.length (k : Int) = some k := by
    unfold ixD
    rw [if_pos (by omega), if_pos (by omega)]
    rfl
  unfold Wp setM
  simp only [q, e]
end
theorem w_mulG {η : Hv} {R : D → Hv → Prop} {i j : Int} (h : i.natAbs.log2 + j.natAbs.log2 < 134217000) : Wp (binM .mul (.int i) (.int j)) η R = R (.int (i * j)) η := by
  have e : ((-bigI < i ∧ i < bigI) ∨ (-bigI < j ∧ j < bigI)) ∨ i.natAbs.log2 + j.natAbs.log2 < 134217000 := .inr h
  unfold Wp binM
  simp only [e, if_true]
theorem rng_ok {i : Int} (h : -4611686018427387904 ≤ i) (h2 : i < 4611686018427387904) : rngOk i = true := decide_eq_true ⟨h, h2⟩
/-- the numbers of a range -/
def rngL (lo : Int) (n : Nat) : List D := (List.range n).map fun (i : Nat) => D.int (lo + (i : Int))
theorem rngL_len {lo : Int} {n : Nat} : (rngL lo n).length = n := by simp [rngL]
theorem rngL_at {lo : Int} {n i : Nat} {d : D} (h : (rngL lo n)[i]? = some d) : i < n ∧ d = .int (lo + i) := by
  have hi := (List.getElem?_eq_some_iff.mp h).1
  rw [rngL_len] at hi
  unfold rngL at h
  rw [List.getElem?_map, List.getElem?_range hi] at h
  cases h
  exact ⟨hi, rfl⟩
theorem nx_rng {lo hi : Int} {i : Nat} {η : Hv} : nxRng lo hi i η = some (rngL lo (hi - lo).toNat)[i]? := by
  unfold nxRng rngL
  by_cases h : i < (hi - lo).toNat
  · rw [if_pos h, List.getElem?_map, List.getElem?_range h]; rfl
  · rw [if_neg h, List.getElem?_eq_none (by simpa using Nat.le_of_not_lt h)]
theorem nx_tup {xs : List D} {i : Nat} {η : Hv} : nxSeq (.tup xs) i η = some xs[i]? := rfl
theorem nx_lst {xs : List D} {a i : Nat} {η : Hv} (h : η[a]? = some (.lst xs)) : nxSeq (.ref a) i η = some xs[i]? := by
  unfold nxSeq getL
  simp only [h, Option.map_some]
theorem nx_zipT {xs ys : List D} {i : Nat} {η : Hv} : nxZip (.tup xs) (.tup ys) i η = some ((xs.zip ys).map fun p => .tup [p.1, p.2])[i]? := by
  show some (zip2 xs ys i) = _
  unfold zip2
  rw [List.getElem?_map, List.zip, List.getElem?_zipWith]
  generalize xs[i]? = p
  generalize ys[i]? = q
  cases p <;> cases q <;> rfl
theorem sk_tup {xs : List D} {η : Hv} : seqK (.tup xs) η = some () := rfl
theorem sk_lst {xs : List D} {a : Nat} {η : Hv} (h : η[a]? = some (.lst xs)) : seqK (.ref a) η = some () := by
  unfold seqK getL
  simp only [h, Option.map_some]
/-- a comprehension that leaves the heap -/
theorem wp_lcMap {c c' : ClM} {nx : Nxt} {tg : Tgt} {elt : Rho → Mo D} {ρ : Rho} {η : Hv} {Q : List D → Hv → Prop} {g : D → D} (xs : List D) (hl : xs.length ≤ 16777216) (hx : ∀ i, nx i η = some xs[i]?)
    (hs : ∀ d ∈ xs, ∃ ρ1, setT (wipeT ρ tg) tg d = some ρ1 ∧ ∀ R : D → Hv → Prop, R (g d) η → Wp (elt ρ1) η R) (q : Q (xs.map g) η) : Wp (lcN nx tg (evC c c' none) elt ρ WFu 0 []) η Q := by
  refine wp_lc (fun i acc h => h = η ∧ acc = (xs.take i).map g) xs hl ⟨rfl, rfl⟩ (fun i acc h e => by rw [e.1]; exact hx i) (fun i acc h d e hd => ?_) (fun acc h e => by rw [e.1, e.2, List.take_length]; exact q)
  obtain ⟨rfl, rfl⟩ := e
  obtain ⟨ρ1, e1, w⟩ := hs d (List.mem_of_getElem? hd)
  refine ⟨ρ1, e1, ?_⟩
  rw [x_cnone, wp_pure, if_pos rfl]
  refine w _ ⟨rfl, ?_⟩
  rw [List.take_add_one, hd, List.map_append]
  rfl
theorem ints_of : ∀ ns : List Int, intsOf (ns.map D.int) = some ns
  | [] => rfl
  | n :: ns => by
    show (intsOf (ns.map D.int)).map (n :: ·) = _
    rw [ints_of ns]; rfl
theorem w_sorted {η : Hv} {R : D → Hv → Prop} {a : Nat} {ns : List Int} (q : η[a]? = some (.lst (ns.map .int))) : Wp (bltM .sorted [.ref a]) η R = R (.ref η.length) (η ++ [.lst ((sortI ns).map .int)]) := by
  unfold Wp bltM
  simp only [getS, getL, q, ints_of]
  rfl
theorem deepsW_ints {f : Nat → Option D} : ∀ ns : List Int, deepsW f (ns.map D.int) = some (ns.map D.int)
  | [] => rfl
  | n :: ns => by
    show (some (D.int n)).bind (fun y => (deepsW f (ns.map D.int)).map fun ys => y :: ys) = _
    rw [deepsW_ints ns]; rfl
theorem fines_ints : ∀ ns : List Int, D.fines (ns.map D.int) = true
  | [] => rfl
  | n :: ns => by
    show (true && D.fines (ns.map D.int)) = true
    rw [fines_ints ns]; rfl
theorem deps_ints : ∀ ns : List Int, D.deps (ns.map D.int) = 0
  | [] => rfl
  | n :: ns => by
    show max 0 (D.deps (ns.map D.int)) = 0
    rw [deps_ints ns]; rfl
theorem eqvs_ints : ∀ ms ns : List Int, D.eqvs (ms.map D.int) (ns.map D.int) = decide (ms = ns)
  | [], [] => rfl
  | [], n :: ns => rfl
  | m :: ms, [] => rfl
  | m :: ms, n :: ns => by
    show ((m == n) && D.eqvs (ms.map D.int) (ns.map D.int)) = _
    rw [eqvs_ints ms ns]
    by_cases h1 : m = n <;> by_cases h2 : ms = ns <;> simp [h1, h2]
theorem deep_ints {η : Hv} {a : Nat} {ns : List Int} (h : η[a]? = some (.lst (ns.map .int))) : deep η (.ref a) = some (.lst (ns.map .int)) := by
  show deepR η 6 a = _
  unfold deepR
  simp only [h, deepsW_ints, Option.map_some]
theorem shp_ints {ns : List Int} : shp (.lst (ns.map .int)) = true := by
  show (D.fines (ns.map D.int) && decide (D.deps (ns.map D.int) + 1 ≤ 60)) = true
  rw [fines_ints, deps_ints]; rfl
theorem eq_ints {η : Hv} {a b : Nat} {ms ns : List Int} (h1 : η[a]? = some (.lst (ms.map .int))) (h2 : η[b]? = some (.lst (ns.map .int))) : eqH (.ref a) (.ref b) η = some (decide (ms = ns)) := by
  unfold eqH
  rw [deep_ints h1, deep_ints h2]
  show (if (shp _ && shp _) = true then some (D.eqvs _ _) else none) = _
  rw [shp_ints, shp_ints, eqvs_ints]
  rfl
theorem eq_strs {η : Hv} {s t : List Nat} (h1 : s.all (fun c => decide (c < 1114112)) = true) (h2 : t.all (fun c => decide (c < 1114112)) = true) : eqH (.str s) (.str t) η = some (s == t) := by
  show (if ((s.all (fun c => decide (c < 1114112)) && decide (0 ≤ 60)) && (t.all (fun c => decide (c < 1114112)) && decide (0 ≤ 60))) = true then some (s == t) else none) = _
  rw [h1, h2]; rfl
theorem strs_of : ∀ ss : List (List Nat), strsOf (ss.map D.str) = some ss
  | [] => rfl
  | s :: ss => by
    show (strsOf (ss.map D.str)).map (s :: ·) = _
    rw [strs_of ss]; rfl
theorem w_join {η : Hv} {R : D → Hv → Prop} {a : Nat} {sep : List Nat} {ss : List (List Nat)} (q : η[a]? = some (.lst (ss.map .str))) (h : (ss.map List.length).sum + ss.length * sep.length ≤ 16777216) : Wp (mthM .join (.str sep) [.ref a]) η R = R (.str (joinS sep ss)) η := by
  have h' : (ss.map List.length).sum + ss.length * sep.length ≤ lim := h
  unfold Wp mthM lookM
  simp only [seqH, getL, q, Option.bind_some, strs_of, h', if_true]
/-! ### the forms, read from their end -/
section
variable {c c' : ClM} {ρ : Rho} {η : Hv} {R : D → Hv → Prop} {RF : Fl → Hv → Prop} {RL : List D → Hv → Prop} {RN : Nxt → Hv → Prop} {RO : Option Int → Hv → Prop} {RB : Bool → Hv → Prop}
theorem v_loc {i : Nat} : Wp (evE c c' (.loc i) ρ) η R = Wp (locM ρ i) η R := rfl
theorem v_cst {d : D} : Wp (evE c c' (.cst d) ρ) η R = R d η := rfl
theorem v_tup {es : List ME} : Wp (evE c c' (.tup es) ρ) η R = Wp (evEs c c' es ρ) η fun ds η1 => R (.tup ds) η1 := by rw [x_tup, wp_bind]; rfl
theorem v_lst {es : List ME} : Wp (evE c c' (.lst es) ρ) η R = Wp (evEs c c' es ρ) η fun ds η1 => R (.ref η1.length) (η1 ++ [.lst ds]) := by rw [x_lst, wp_bind]; rfl
theorem v_bin {o : Op} {a b : ME} : Wp (evE c c' (.bin o a b) ρ) η R = Wp (evE c c' a ρ) η fun x η1 => Wp (evE c c' b ρ) η1 fun y η2 => Wp (binM o x y) η2 R := by simp only [x_bin, wp_bind]
theorem v_neg {a : ME} : Wp (evE c c' (.neg a) ρ) η R = Wp (evE c c' a ρ) η fun x η1 => Wp (getI x) η1 fun i η2 => R (.int (-i)) η2 := by simp only [x_neg, wp_bind, wp_pure]
theorem v_not {a : ME} : Wp (evE c c' (.not a) ρ) η R = Wp (evE c c' a ρ) η fun x η1 => Wp (truM x) η1 fun b η2 => R (.bl !b) η2 := by simp only [x_not, wp_bind, wp_pure]
theorem v_and {a b : ME} : Wp (evE c c' (.and a b) ρ) η R = Wp (evE c c' a ρ) η fun x η1 => Wp (truM x) η1 fun t η2 => if t = true then Wp (evE c c' b ρ) η2 R else R x η2 := by simp only [x_and, wp_bind, wp_pure, wp_if]
theorem v_or {a b : ME} : Wp (evE c c' (.or a b) ρ) η R = Wp (evE c c' a ρ) η fun x η1 => Wp (truM x) η1 fun t η2 => if t = true then R x η2 else Wp (evE c c' b ρ) η2 R := by simp only [x_or, wp_bind, wp_pure, wp_if]
theorem v_cmp {o : Cm} {a b : ME} : Wp (evE c c' (.cmp o a b) ρ) η R = Wp (evE c c' a ρ) η fun x η1 => Wp (evE c c' b ρ) η1 fun y η2 => Wp (cmpM o x y) η2 fun t η3 => R (.bl t) η3 := by simp only [x_cmp, wp_bind, wp_pure]
theorem v_chn {o p : Cm} {a b d : ME} : Wp (evE c c' (.chn o p a b d) ρ) η R = Wp (evE c c' a ρ) η fun x η1 => Wp (evE c c' b ρ) η1 fun y η2 => Wp (cmpM o x y) η2 fun t η3 => if t = true then Wp (evE c c' d ρ) η3 fun z η4 => Wp (cmpM p y z) η4 fun u η5 => R (.bl u) η5 else R (.bl false) η3 := by simp only [x_chn, wp_bind, wp_pure, wp_if]
theorem v_ife {t a b : ME} : Wp (evE c c' (.ife t a b) ρ) η R = Wp (evE c c' t ρ) η fun x η1 => Wp (truM x) η1 fun v η2 => if v = true then Wp (evE c c' a ρ) η2 R else Wp (evE c c' b ρ) η2 R := by simp only [x_ife, wp_bind, wp_if]
theorem v_idx {a i : ME} : Wp (evE c c' (.idx a i) ρ) η R = Wp (evE c c' a ρ) η fun x η1 => Wp (evE c c' i ρ) η1 fun y η2 => Wp (idxM x y) η2 R := by simp only [x_idx, wp_bind]
theorem v_slc {a : ME} {lo hi : Option ME} : Wp (evE c c' (.slc a lo hi) ρ) η R = Wp (evE c c' a ρ) η fun x η1 => Wp (evO c c' lo ρ) η1 fun l η2 => Wp (evO c c' hi ρ) η2 fun u η3 => Wp (slcM x l u) η3 R := by simp only [x_slc, wp_bind]
theorem v_call {f : String} {es : List ME} : Wp (evE c c' (.call f es) ρ) η R = Wp (evEs c c' es ρ) η fun ds η1 => Wp (c f ds) η1 R := by simp only [x_call, wp_bind]
theorem v_blt {f : Bf} {es : List ME} : Wp (evE c c' (.blt f es) ρ) η R = Wp (evEs c c' es ρ) η fun ds η1 => Wp (bltM f ds) η1 R := by simp only [x_blt, wp_bind]
theorem v_mth {m : Mh} {o : ME} {es : List ME} : Wp (evE c c' (.mth m o es) ρ) η R = Wp (evE c c' o ρ) η fun x η1 => Wp (lookM (kndH m x)) η1 fun _ η2 => Wp (evEs c c' es ρ) η2 fun ds η3 => Wp (mthM m x ds) η3 R := by simp only [x_mth, wp_bind]
theorem v_isi {e : ME} {t : Ty} : Wp (evE c c' (.isi e t) ρ) η R = Wp (evE c c' e ρ) η fun v η1 => Wp (lookM fun h => (tyD v h).map fun k => D.bl (isT t k)) η1 R := by simp only [x_isi, wp_bind]
theorem v_lc {tg : Tgt} {it : ITr} {cond : Option ME} {elt : ME} : Wp (evE c c' (.lc tg it cond elt) ρ) η R = Wp (evI c c' it ρ) η fun nx η1 => Wp (lcN nx tg (evC c c' cond) (evE c c' elt) ρ WFu 0 []) η1 fun acc η2 => R (.ref η2.length) (η2 ++ [.lst acc]) := by simp only [x_lc, wp_bind, wp_alloc]
theorem v_nil : Wp (evEs c c' [] ρ) η RL = RL [] η := rfl
theorem v_cons {e : ME} {es : List ME} : Wp (evEs c c' (e :: es) ρ) η RL = Wp (evE c c' e ρ) η fun d η1 => Wp (evEs c c' es ρ) η1 fun ds η2 => RL (d :: ds) η2 := by simp only [x_cons, wp_bind, wp_pure]
theorem v_onone : Wp (evO c c' none ρ) η RO = RO none η := rfl
theorem v_osome {e : ME} : Wp (evO c c' (some e) ρ) η RO = Wp (evE c c' e ρ) η fun d η1 => Wp (getI d) η1 fun i η2 => RO (some i) η2 := by simp only [x_osome, wp_bind, wp_pure]
theorem v_cnone : Wp (evC c c' none ρ) η RB = RB true η := rfl
theorem v_csome {t : ME} : Wp (evC c c' (some t) ρ) η RB = Wp (evE c c' t ρ) η fun x η1 => Wp (truM x) η1 RB := by simp only [x_csome, wp_bind]
theorem v_seq {e : ME} : Wp (evI c c' (.seq e) ρ) η RN = Wp (evE c c' e ρ) η fun v η1 => Wp (lookM (seqK v)) η1 fun _ η2 => RN (nxSeq v) η2 := by simp only [x_seq, wp_bind, wp_pure]
theorem v_rng {a : ME} : Wp (evI c c' (.rng a) ρ) η RN = Wp (evE c c' a ρ) η fun v η1 => Wp (getI v) η1 fun i η2 => rngOk i = true ∧ RN (nxRng 0 i) η2 := by
  simp only [x_rng, wp_bind, wp_if, wp_pure]
  congr 1; funext v η1; congr 1; funext i η2
  cases rngOk i <;> simp [Wp, badM]
theorem v_rng2 {a b : ME} : Wp (evI c c' (.rng2 a b) ρ) η RN = Wp (evE c c' a ρ) η fun v η1 => Wp (evE c c' b ρ) η1 fun w η2 => Wp (getI v) η2 fun i η3 => Wp (getI w) η3 fun j η4 => (rngOk i && rngOk j) = true ∧ RN (nxRng i j) η4 := by
  simp only [x_rng2, wp_bind, wp_if, wp_pure]
  congr 1; funext v η1; congr 1; funext w η2; congr 1; funext i η3; congr 1; funext j η4
  cases (rngOk i && rngOk j) <;> simp [Wp, badM]
theorem v_enm {a : ME} : Wp (evI c c' (.enm a) ρ) η RN = Wp (evE c c' a ρ) η fun v η1 => Wp (lookM fun h => getL h v) η1 fun _ η2 => RN (nxEnm v) η2 := by simp only [x_enm, wp_bind, wp_pure]
theorem v_zip {a b : ME} : Wp (evI c c' (.zip a b) ρ) η RN = Wp (evE c c' a ρ) η fun v η1 => Wp (evE c c' b ρ) η1 fun w η2 => Wp (lookM (zipK v w)) η2 fun _ η3 => RN (nxZip v w) η3 := by simp only [x_zip, wp_bind, wp_pure]
theorem t_set {i : Nat} {e : ME} : Wp (evS c c' (.set i e) ρ) η RF = Wp (evE c c' e ρ) η fun d η1 => RF (.nx (ρ.set i (some d))) η1 := by simp only [s_set, wp_bind, wp_pure]
theorem t_sub {o i e : ME} : Wp (evS c c' (.sub o i e) ρ) η RF = Wp (evE c c' e ρ) η fun d η1 => Wp (evE c c' o ρ) η1 fun x η2 => Wp (evE c c' i ρ) η2 fun k η3 => Wp (setM x k d) η3 fun _ η4 => RF (.nx ρ) η4 := by simp only [s_sub, wp_bind, wp_pure]
theorem t_exp {e : ME} : Wp (evS c c' (.exp e) ρ) η RF = Wp (evE c c' e ρ) η fun _ η1 => RF (.nx ρ) η1 := by simp only [s_exp, wp_bind, wp_pure]
theorem t_ret {e : ME} : Wp (evS c c' (.ret e) ρ) η RF = Wp (evE c c' e ρ) η fun d η1 => RF (.rt d) η1 := by simp only [s_ret, wp_bind, wp_pure]
theorem t_ife {t : ME} {a b : List MS} : Wp (evS c c' (.ife t a b) ρ) η RF = Wp (evE c c' t ρ) η fun x η1 => Wp (truM x) η1 fun v η2 => if v = true then Wp (evB c c' a ρ) η2 RF else Wp (evB c c' b ρ) η2 RF := by simp only [s_ife, wp_bind, wp_if]
theorem t_for {tg : Tgt} {it : ITr} {body : List MS} : Wp (evS c c' (.for_ tg it body) ρ) η RF = Wp (evI c c' it ρ) η fun nx η1 => Wp (forN nx tg (fun ρ1 => evB c c' body ρ1) WFu 0 ρ) η1 RF := by simp only [s_for, wp_bind]
theorem r_nil : Wp (evB c c' [] ρ) η RF = RF (.nx ρ) η := rfl
theorem r_cons {s : MS} {r : List MS} : Wp (evB c c' (s :: r) ρ) η RF = Wp (evS c c' s ρ) η fun f η1 => match f with
    | .nx ρ' => Wp (evB c c' r ρ') η1 RF
    | .rt d => RF (.rt d) η1 := by
  rw [b_cons, wp_bind]
  congr 1; funext f η1
  cases f <;> rfl
theorem k_zero {d : D} {ρ : Rho} : Wp (locM (some d :: ρ) 0) η R = R d η := rfl
theorem k_succ {a : Option D} {i : Nat} : Wp (locM (a :: ρ) (i + 1)) η R = Wp (locM ρ i) η R := rfl
end
end MI

set_option Elab.async false
set_option linter.all false
set_option maxRecDepth 100000
/-! MiS1: how MI's values and heaps lie in the hand layer's; readings by MI. -/
namespace MIS
open PySem PySem.Spec PyProof.Rows L2 MI

/-! ### values -/
/-- the written part, the world, the program, where the own classes and the refusals stand -/
structure KW where
  K : PySem.W.Frag
  w : World
  P : Program
  cl : Nat → Addr
  ex : Nat → Addr
abbrev kw (X : Cx) (cl ex : Nat → Addr) : KW := ⟨X.K, X.w, X.prog, cl, ex⟩
/-- a list that nobody writes -/
def SqK (K : PySem.W.Frag) (a : Addr) (xs : List V) : Prop := ∃ (o : Obj) (its : Array Value) (n : Nat), K.lookup a = some o ∧ o.cls = .type "list" ∧ o.dict = none ∧ o.data = .seq its n ∧ its.size ≤ sizeLine ∧ Vals xs its.toList
def SqI (K : PySem.W.Frag) (H : Hp) (a : Addr) (xs : List V) : Prop := (∃ ob, H a = some (.frz ob (.lst xs))) ∨ SqK K a xs
theorem SqI.list {K : PySem.W.Frag} {H : Hp} {a : Addr} {xs : List V} (h : SqI K H a xs) : SqL K H a xs := h.imp .inr id
section
variable (K : KW)
mutual
def RV (μ : List Addr) (H : Hp) : D → V → Prop
  | .non, v => v = .non
  | .bl b, v => v = .bl b
  | .int i, v => v = .int i
  | .str s, v => v = .str ⟨s.toArray⟩
  | .tup xs, v => ∃ a vs, v = .ref a ∧ SqT K.K H a vs ∧ RVs μ H xs vs
  | .ref i, v => ∃ a, v = .ref a ∧ μ[i]? = some a
  | .exc _, _ => False
  | .lst xs, v => ∃ a vs, v = .ref a ∧ SqI K.K H a vs ∧ RVs μ H xs vs
def RVs (μ : List Addr) (H : Hp) : List D → List V → Prop
  | [], vs => vs = []
  | x :: xs, vs => ∃ v r, vs = v :: r ∧ RV μ H x v ∧ RVs μ H xs r
end
/-- what stands at a place of the heap -/
def OB (μ : List Addr) (H : Hp) (a : Addr) : O → Prop
  | .lst ds => ∃ vs, H a = some (.lst vs) ∧ RVs K μ H ds vs
  | .frz ds => ∃ ob vs, H a = some (.frz ob (.lst vs)) ∧ RVs K μ H ds vs
  | .dic _ => False
  | .set ds => ∃ (ns : List Int) (S : Int → Bool), ds = ns.map .int ∧ ns.Nodup ∧ H a = some (SetO K.w a S ns.length) ∧ ∀ k, S k = decide (k ∈ ns)
  | .ins _ _ => False
structure Wd (μ : List Addr) (H : Hp) (η : Hv) : Prop where
  len : μ.length = η.length
  nd : μ.Nodup
  obj : ∀ (i : Nat) (a : Addr) (o : O), μ[i]? = some a → η[i]? = some o → OB K μ H a o
/-- later: more places, the tuples stand -/
structure Aft (μ : List Addr) (H : Hp) (μ' : List Addr) (H' : Hp) : Prop where
  pre : ∃ t, μ' = μ ++ t
  keep : ∀ a vs, SqT K.K H a vs → SqT K.K H' a vs
  keepL : ∀ a vs, SqI K.K H a vs → SqI K.K H' a vs
  frame : ∀ a o, H a = some o → a ∉ μ → H' a = some o ∧ a ∉ μ'
end
section
variable {K : KW} {μ μ1 μ2 : List Addr} {H H1 H2 : Hp} {η η1 : Hv}
theorem Aft.refl : Aft K μ H μ H := ⟨⟨[], by simp⟩, fun _ _ h => h, fun _ _ h => h, fun _ _ h n => ⟨h, n⟩⟩
theorem Aft.trans (a : Aft K μ H μ1 H1) (b : Aft K μ1 H1 μ2 H2) : Aft K μ H μ2 H2 := by
  obtain ⟨t, e⟩ := a.pre
  obtain ⟨u, f⟩ := b.pre
  exact ⟨⟨t ++ u, by rw [f, e, List.append_assoc]⟩, fun x vs h => b.keep x vs (a.keep x vs h), fun x vs h => b.keepL x vs (a.keepL x vs h), fun x o h n => let ⟨h1, n1⟩ := a.frame x o h n; b.frame x o h1 n1⟩
theorem Aft.at (a : Aft K μ H μ1 H1) {i : Nat} {x : Addr} (h : μ[i]? = some x) : μ1[i]? = some x := by
  obtain ⟨t, e⟩ := a.pre
  rw [e]
  have hi : i < μ.length := by
    rcases Nat.lt_or_ge i μ.length with q | q
    · exact q
    · rw [List.getElem?_eq_none q] at h; cases h
  rw [List.getElem?_append_left hi]; exact h
mutual
theorem RV.mono (a : Aft K μ H μ1 H1) : ∀ (d : D) (v : V), RV K μ H d v → RV K μ1 H1 d v
  | .non, _, h => h
  | .bl _, _, h => h
  | .int _, _, h => h
  | .str _, _, h => h
  | .tup xs, _, h => by
    obtain ⟨p, vs, e, q, r⟩ := h
    exact ⟨p, vs, e, a.keep _ _ q, RVs.mono a xs vs r⟩
  | .ref _, _, h => by
    obtain ⟨p, e, q⟩ := h
    exact ⟨p, e, a.at q⟩
  | .exc _, _, h => h
  | .lst xs, _, h => by
    obtain ⟨p, vs, e, q, r⟩ := h
    exact ⟨p, vs, e, a.keepL _ _ q, RVs.mono a xs vs r⟩
theorem RVs.mono (a : Aft K μ H μ1 H1) : ∀ (ds : List D) (vs : List V), RVs K μ H ds vs → RVs K μ1 H1 ds vs
  | [], _, h => h
  | x :: xs, _, h => by
    obtain ⟨v, r, e, h1, h2⟩ := h
    exact ⟨v, r, e, RV.mono a x v h1, RVs.mono a xs r h2⟩
end
theorem RVs.len : ∀ {ds : List D} {vs : List V}, RVs K μ H ds vs → vs.length = ds.length
  | [], _, h => by rw [show _ = [] from h]; rfl
  | x :: xs, _, h => by
    obtain ⟨v, r, e, _, h2⟩ := h
    rw [e, List.length_cons, List.length_cons, RVs.len h2]
theorem RVs.get : ∀ {ds : List D} {vs : List V} {i : Nat} {d : D}, RVs K μ H ds vs → ds[i]? = some d → ∃ v, vs[i]? = some v ∧ RV K μ H d v
  | [], _, _, _, _, e => by simp at e
  | x :: xs, _, 0, d, h, e => by
    obtain ⟨v, r, rfl, h1, _⟩ := h
    simp at e; subst e
    exact ⟨v, rfl, h1⟩
  | x :: xs, _, i + 1, d, h, e => by
    obtain ⟨v, r, rfl, _, h2⟩ := h
    obtain ⟨w, q, k⟩ := RVs.get (i := i) h2 (by simpa using e)
    exact ⟨w, by simpa using q, k⟩
theorem RVs.append : ∀ {ds es : List D} {vs ws : List V}, RVs K μ H ds vs → RVs K μ H es ws → RVs K μ H (ds ++ es) (vs ++ ws)
  | [], _, _, _, h, q => by rw [show _ = [] from h]; exact q
  | x :: xs, _, _, _, h, q => by
    obtain ⟨v, r, rfl, h1, h2⟩ := h
    exact ⟨v, r ++ _, rfl, h1, RVs.append h2 q⟩
theorem RVs.one {d : D} {v : V} (h : RV K μ H d v) : RVs K μ H [d] [v] := ⟨v, [], rfl, h, rfl⟩
theorem RVs.take : ∀ {ds : List D} {vs : List V} (n : Nat), RVs K μ H ds vs → RVs K μ H (ds.take n) (vs.take n)
  | _, _, 0, _ => by simp; exact rfl
  | [], _, n + 1, h => by rw [show _ = [] from h]; exact rfl
  | x :: xs, _, n + 1, h => by
    obtain ⟨v, r, rfl, h1, h2⟩ := h
    exact ⟨v, r.take n, rfl, h1, RVs.take n h2⟩
theorem RVs.drop : ∀ {ds : List D} {vs : List V} (n : Nat), RVs K μ H ds vs → RVs K μ H (ds.drop n) (vs.drop n)
  | _, _, 0, h => h
  | [], _, n + 1, h => by rw [show _ = [] from h]; exact rfl
  | x :: xs, _, n + 1, h => by
    obtain ⟨v, r, rfl, h1, h2⟩ := h
    exact RVs.drop n h2
theorem RVs.set : ∀ {ds : List D} {vs : List V} (i : Nat) {d : D} {v : V}, RVs K μ H ds vs → RV K μ H d v → RVs K μ H (ds.set i d) (vs.set i v)
  | [], _, _, _, _, h, _ => by rw [show _ = [] from h]; exact rfl
  | x :: xs, _, 0, _, w, h, q => by
    obtain ⟨v, r, rfl, h1, h2⟩ := h
    exact ⟨w, r, rfl, q, h2⟩
  | x :: xs, _, i + 1, _, w, h, q => by
    obtain ⟨v, r, rfl, h1, h2⟩ := h
    exact ⟨v, r.set i w, rfl, h1, RVs.set i h2 q⟩
theorem RVs.dropLast {ds : List D} {vs : List V} (h : RVs K μ H ds vs) : RVs K μ H ds.dropLast vs.dropLast := by
  rw [List.dropLast_eq_take, List.dropLast_eq_take, h.len]
  exact RVs.take _ h
theorem RVs.reverse : ∀ {ds : List D} {vs : List V}, RVs K μ H ds vs → RVs K μ H ds.reverse vs.reverse
  | [], _, h => by rw [show _ = [] from h]; exact rfl
  | x :: xs, _, h => by
    obtain ⟨v, r, rfl, h1, h2⟩ := h
    rw [List.reverse_cons, List.reverse_cons]
    exact RVs.append (RVs.reverse h2) (RVs.one h1)
theorem RVs.erase : ∀ {ds : List D} {vs : List V} (i : Nat), RVs K μ H ds vs → RVs K μ H (ds.eraseIdx i) (vs.eraseIdx i)
  | [], _, _, h => by rw [show _ = [] from h]; exact rfl
  | x :: xs, _, 0, h => by
    obtain ⟨v, r, rfl, h1, h2⟩ := h
    exact h2
  | x :: xs, _, i + 1, h => by
    obtain ⟨v, r, rfl, h1, h2⟩ := h
    exact ⟨v, r.eraseIdx i, rfl, h1, RVs.erase i h2⟩
theorem RVs.ints : ∀ {ns : List Int} {vs : List V}, RVs K μ H (ns.map D.int) vs → vs = ns.map V.int
  | [], _, h => h
  | n :: ns, _, h => by
    obtain ⟨v, r, rfl, h1, h2⟩ := h
    rw [show v = .int n from h1, RVs.ints h2]; rfl
theorem RVs.of_ints : ∀ (ns : List Int), RVs K μ H (ns.map D.int) (ns.map V.int)
  | [] => rfl
  | n :: ns => ⟨.int n, ns.map V.int, rfl, rfl, RVs.of_ints ns⟩
theorem RVs.bools : ∀ {ns : List Bool} {vs : List V}, RVs K μ H (ns.map D.bl) vs → vs = ns.map V.bl
  | [], _, h => h
  | n :: ns, _, h => by
    obtain ⟨v, r, rfl, h1, h2⟩ := h
    rw [show v = .bl n from h1, RVs.bools h2]; rfl
theorem OB.mono (a : Aft K μ H μ1 H1) {p : Addr} (e : H1 p = H p) : ∀ {o : O}, OB K μ H p o → OB K μ1 H1 p o
  | .lst ds, h => by
    obtain ⟨vs, q, r⟩ := h
    exact ⟨vs, by rw [e]; exact q, RVs.mono a ds vs r⟩
  | .frz ds, h => by
    obtain ⟨ob, vs, q, r⟩ := h
    exact ⟨ob, vs, by rw [e]; exact q, RVs.mono a ds vs r⟩
  | .dic _, h => h.elim
  | .set ds, h => by
    obtain ⟨ns, S, h1, h2, h3, h4⟩ := h
    exact ⟨ns, S, h1, h2, by rw [e]; exact h3, h4⟩
  | .ins _ _, h => h.elim

/-! ### worlds -/
theorem Wd.ex (w : Wd K μ H η) {i : Nat} {o : O} (h : η[i]? = some o) : ∃ a, μ[i]? = some a ∧ OB K μ H a o := by
  have hi : i < η.length := by
    rcases Nat.lt_or_ge i η.length with q | q
    · exact q
    · rw [List.getElem?_eq_none q] at h; cases h
  have h2 : μ[i]? = some (μ[i]'(by rw [w.len]; exact hi)) := List.getElem?_eq_getElem _
  exact ⟨_, h2, w.obj i _ o h2 h⟩
theorem Wd.lst (w : Wd K μ H η) {i : Nat} {a : Addr} {ds : List D} (ha : μ[i]? = some a) (h : η[i]? = some (.lst ds)) : ∃ vs, H a = some (.lst vs) ∧ RVs K μ H ds vs := w.obj i a _ ha h
/-- a list that may be read -/
theorem Wd.getL (w : Wd K μ H η) {d : D} {v : V} {ds : List D} (r : RV K μ H d v) (h : MI.getL η d = some ds) : ∃ a vs, v = .ref a ∧ SqL K.K H a vs ∧ RVs K μ H ds vs := by
  cases d with
  | ref i =>
    obtain ⟨a, e, ha⟩ := r
    unfold MI.getL at h
    simp only at h
    split at h
    · rename_i xs q
      cases h
      obtain ⟨vs, h1, h2⟩ := w.obj i a _ ha q
      exact ⟨a, vs, e, SqL.of h1, h2⟩
    · rename_i xs q
      cases h
      obtain ⟨ob, vs, h1, h2⟩ := w.obj i a _ ha q
      exact ⟨a, vs, e, .inl (.inr ⟨ob, h1⟩), h2⟩
    · cases h
  | _ => simp [MI.getL] at h
theorem aft_new {p : Addr} {o : HO} (hp : H p = none) : Aft K μ H μ (upd H p o) := ⟨⟨[], by simp⟩, fun a vs h => by
  rcases h with h | h
  · refine .inl ?_
    rcases h with h | ⟨ob, h⟩
    · exact .inl (by rw [upd_ne (ne_of_none h hp)]; exact h)
    · exact .inr ⟨ob, by rw [upd_ne (ne_of_none h hp)]; exact h⟩
  · exact .inr h, fun a vs h => h.imp (fun ⟨ob, h⟩ => ⟨ob, by rw [upd_ne (ne_of_none h hp)]; exact h⟩) id, fun a u h n => ⟨by rw [upd_ne (ne_of_none h hp)]; exact h, n⟩⟩
theorem OB.there {p : Addr} {o : O} (h : OB K μ H p o) : ∃ u, H p = some u := by
  cases o with
  | lst ds => obtain ⟨vs, q, _⟩ := h; exact ⟨_, q⟩
  | frz ds => obtain ⟨ob, vs, q, _⟩ := h; exact ⟨_, q⟩
  | dic _ => exact h.elim
  | set ds => obtain ⟨ns, S, _, _, h3, _⟩ := h; exact ⟨_, h3⟩
  | ins _ _ => exact h.elim
theorem Wd.mem (w : Wd K μ H η) {a : Addr} (h : a ∈ μ) : ∃ u, H a = some u := by
  obtain ⟨i, hi, e⟩ := List.mem_iff_getElem.mp h
  have h1 : μ[i]? = some a := by rw [List.getElem?_eq_getElem hi, e]
  have h2 : η[i]? = some (η[i]'(by rw [← w.len]; exact hi)) := List.getElem?_eq_getElem _
  exact (w.obj i a _ h1 h2).there
/-- a new untracked-by-MI object: the world stands -/
theorem Wd.fresh (w : Wd K μ H η) {p : Addr} {o : HO} (hp : H p = none) : Wd K μ (upd H p o) η := ⟨w.len, w.nd, fun i a u h1 h2 => by
  have q := w.obj i a u h1 h2
  obtain ⟨z, e⟩ := q.there
  exact OB.mono (aft_new hp) (upd_ne (ne_of_none e hp)) q⟩
theorem aft_push {p : Addr} {o : HO} (hp : H p = none) : Aft K μ H (μ ++ [p]) (upd H p o) := ⟨⟨[p], rfl⟩, (aft_new (K := K) (μ := μ) hp).keep, (aft_new (K := K) (μ := μ) hp).keepL, fun a u h n => ⟨by rw [upd_ne (ne_of_none h hp)]; exact h, by
  rw [List.mem_append, List.mem_singleton]
  rintro (z | z)
  · exact n z
  · exact ne_of_none h hp z⟩⟩
/-- a new object of MI's -/
theorem Wd.alloc (w : Wd K μ H η) {p : Addr} {o : HO} {u : O} (hp : H p = none) (ho : OB K (μ ++ [p]) (upd H p o) p u) : Wd K (μ ++ [p]) (upd H p o) (η ++ [u]) ∧ Aft K μ H (μ ++ [p]) (upd H p o) := by
  have af : Aft K μ H (μ ++ [p]) (upd H p o) := aft_push hp
  refine ⟨⟨by simp [w.len], ?_, fun i a x h1 h2 => ?_⟩, af⟩
  · rw [List.nodup_append]
    refine ⟨w.nd, by simp, fun a ha b hb e => ?_⟩
    have hb' : b = p := by simpa using hb
    obtain ⟨z, q⟩ := w.mem ha
    rw [e, hb', hp] at q; cases q
  · by_cases hi : i < μ.length
    · rw [List.getElem?_append_left hi] at h1
      rw [List.getElem?_append_left (by rw [← w.len]; exact hi)] at h2
      have q := w.obj i a x h1 h2
      obtain ⟨z, e⟩ := q.there
      exact OB.mono af (upd_ne (ne_of_none e hp)) q
    · have hi' : μ.length ≤ i := Nat.le_of_not_lt hi
      rw [List.getElem?_append_right hi'] at h1
      rw [List.getElem?_append_right (by rw [← w.len]; exact hi')] at h2
      have e0 : i - μ.length = 0 := by
        rcases Nat.eq_zero_or_pos (i - μ.length) with z | z
        · exact z
        · rw [List.getElem?_eq_none (by simp; omega)] at h1; cases h1
      rw [e0] at h1
      rw [← w.len, e0] at h2
      cases h1; cases h2
      exact ho
/-- an object of MI's is written -/
theorem aft_write {p : Addr} {o u : HO} (hm : p ∈ μ) (hp : H p = some u) (hu : (∀ vs, u ≠ .tup vs) ∧ ∀ ob x, u ≠ .frz ob x) : Aft K μ H μ (upd H p o) := ⟨⟨[], by simp⟩, fun a vs h => by
  rcases h with h | h
  · refine .inl ?_
    rcases h with h | ⟨ob, h⟩
    · refine .inl ?_
      rw [upd_ne (ne_of h hp fun z => hu.1 vs z.symm)]; exact h
    · refine .inr ⟨ob, ?_⟩
      rw [upd_ne (ne_of h hp fun z => hu.2 _ _ z.symm)]; exact h
  · exact .inr h, fun a vs h => h.imp (fun ⟨ob, h⟩ => ⟨ob, by rw [upd_ne (ne_of h hp fun z => hu.2 _ _ z.symm)]; exact h⟩) id, fun a x h n => ⟨by rw [upd_ne (fun z => n (by rw [z]; exact hm))]; exact h, n⟩⟩
theorem Wd.write (w : Wd K μ H η) {i : Nat} {p : Addr} {o u : HO} {x : O} (hi : μ[i]? = some p) (hp : H p = some u) (hu : (∀ vs, u ≠ .tup vs) ∧ ∀ ob x, u ≠ .frz ob x) (ho : OB K μ (upd H p o) p x) :
    Wd K μ (upd H p o) (η.set i x) ∧ Aft K μ H μ (upd H p o) := by
  have af : Aft K μ H μ (upd H p o) := aft_write (List.mem_of_getElem? hi) hp hu
  refine ⟨⟨by simp [w.len], w.nd, fun j a y h1 h2 => ?_⟩, af⟩
  by_cases e : j = i
  · subst e
    rw [hi] at h1; cases h1
    have hl : j < η.length := by
      rw [← w.len]
      rcases Nat.lt_or_ge j μ.length with q | q
      · exact q
      · rw [List.getElem?_eq_none q] at hi; cases hi
    rw [List.getElem?_set_self hl] at h2
    cases h2
    exact ho
  · rw [List.getElem?_set_ne (Ne.symm e)] at h2
    have ne : a ≠ p := fun z => by
      subst z
      exact e ((List.getElem_inj w.nd).mp ((List.getElem?_eq_some_iff.mp h1).2.trans (List.getElem?_eq_some_iff.mp hi).2.symm))
    exact OB.mono af (upd_ne ne) (w.obj j a y h1 h2)
end

/-! ### slots -/
section
variable (K : KW)
structure RE (μ : List Addr) (H : Hp) (ρ : Rho) (σ : L2.St) : Prop where
  len : ρ.length = σ.length
  get : ∀ (i : Nat) (d : D), ρ[i]? = some (some d) → ∃ v, σ[i]? = some (some v) ∧ RV K μ H d v
end
section
variable {K : KW} {μ μ1 : List Addr} {H H1 : Hp} {ρ : Rho} {σ : L2.St}
theorem RE.mono (r : RE K μ H ρ σ) (a : Aft K μ H μ1 H1) : RE K μ1 H1 ρ σ := ⟨r.len, fun i d h => by
  obtain ⟨v, e, q⟩ := r.get i d h
  exact ⟨v, e, RV.mono a d v q⟩⟩
theorem RE.set (r : RE K μ H ρ σ) (i : Nat) {d : D} {v : V} (q : RV K μ H d v) : RE K μ H (ρ.set i (some d)) (σ.set i (some v)) := ⟨by simp [r.len], fun j e h => by
  by_cases hj : j = i
  · subst hj
    have hl : j < ρ.length := by
      rcases Nat.lt_or_ge j ρ.length with z | z
      · exact z
      · rw [List.getElem?_eq_none (by simpa using z)] at h; cases h
    rw [List.getElem?_set_self hl] at h
    cases h
    exact ⟨v, List.getElem?_set_self (by rw [← r.len]; exact hl), q⟩
  · rw [List.getElem?_set_ne (Ne.symm hj)] at h
    obtain ⟨w, e1, e2⟩ := r.get j e h
    exact ⟨w, by rw [List.getElem?_set_ne (Ne.symm hj)]; exact e1, e2⟩⟩
theorem RE.wipe1 (r : RE K μ H ρ σ) (i : Nat) : RE K μ H (ρ.set i none) (σ.set i none) := ⟨by simp [r.len], fun j e h => by
  by_cases hj : j = i
  · subst hj
    by_cases hl : j < ρ.length
    · rw [List.getElem?_set_self hl] at h; cases h
    · rw [List.getElem?_eq_none (by simpa using hl)] at h; cases h
  · rw [List.getElem?_set_ne (Ne.symm hj)] at h
    obtain ⟨w, e1, e2⟩ := r.get j e h
    exact ⟨w, by rw [List.getElem?_set_ne (Ne.symm hj)]; exact e1, e2⟩⟩
end

/-! ### ends -/
section
variable (K : KW) (W : Nat → Hp → Prop)
/-- what a run of MI's comes to: P behind it, W of what is raised -/
def EndG {α : Type} (μ : List Addr) (H : Hp) (P : α → Hv → List Addr → Hp → Prop) : Rs α → Prop
  | .ok a η' => ∀ μ' H', Aft K μ H μ' H' → Wd K μ' H' η' → P a η' μ' H'
  | .ex c η' => ∀ μ' H', Aft K μ H μ' H' → Wd K μ' H' η' → W c H'
  | .bad => False
end
section
variable {K : KW} {W : Nat → Hp → Prop} {α β : Type} {μ μ1 : List Addr} {H H1 : Hp} {η : Hv}
theorem EndG.imp {P P' : α → Hv → List Addr → Hp → Prop} {r : Rs α} (h : EndG K W μ H P r) (q : ∀ a η μ' H', Aft K μ H μ' H' → Wd K μ' H' η → P a η μ' H' → P' a η μ' H') : EndG K W μ H P' r := by
  cases r with
  | ok a η' => exact fun μ' H' x y => q a η' μ' H' x y (h μ' H' x y)
  | ex c η' => exact h
  | bad => exact h
theorem EndG.rebase {P : α → Hv → List Addr → Hp → Prop} {r : Rs α} (h : EndG K W μ H P r) (a : Aft K μ H μ1 H1) : EndG K W μ1 H1 P r := by
  cases r with
  | ok x η' => exact fun μ' H' y z => h μ' H' (a.trans y) z
  | ex c η' => exact fun μ' H' y z => h μ' H' (a.trans y) z
  | bad => exact h
theorem EndG.bind {P : β → Hv → List Addr → Hp → Prop} {m : Mo α} {f : α → Mo β} (h : EndG K W μ H P (Mo.bind m f η)) : EndG K W μ H (fun a η1 μ1 H1 => EndG K W μ1 H1 P (f a η1)) (m η) := by
  unfold Mo.bind at h
  cases e : m η with
  | ok a η1 =>
    rw [e] at h
    exact fun μ' H' x y => h.rebase x
  | ex c η1 =>
    rw [e] at h
    exact h
  | bad =>
    rw [e] at h
    exact h.elim
theorem EndG.look {P : α → Hv → List Addr → Hp → Prop} {f : Hv → Option α} (w : Wd K μ H η) (h : EndG K W μ H P (lookM f η)) : ∃ a, f η = some a ∧ P a η μ H := by
  unfold lookM at h
  cases e : f η with
  | some a =>
    rw [e] at h
    exact ⟨a, rfl, h μ H .refl w⟩
  | none =>
    rw [e] at h
    exact h.elim
theorem EndG.pure {P : α → Hv → List Addr → Hp → Prop} {a : α} (w : Wd K μ H η) (h : EndG K W μ H P (Mo.pure a η)) : P a η μ H := h μ H .refl w
/-- the reading of an expression -/
def tE (K : KW) (W : Nat → L2.St → Hp → Prop) (m : Rho → Mo D) : TE := fun σ H Q => ∃ μ η ρ, Wd K μ H η ∧ RE K μ H ρ σ ∧ EndG K (fun c H' => W c σ H') μ H (fun d _ μ' H' => ∀ v, RV K μ' H' d v → Q v H') (m ρ η)
def tT (K : KW) (W : Nat → L2.St → Hp → Prop) (m : Rho → Mo Bool) : TT := fun σ H Q => ∃ μ η ρ, Wd K μ H η ∧ RE K μ H ρ σ ∧ EndG K (fun c H' => W c σ H') μ H (fun b _ _ H' => Q b H') (m ρ η)
def tA (K : KW) (W : Nat → L2.St → Hp → Prop) (m : Rho → Mo (List D)) : TA := fun σ H Q => ∃ μ η ρ, Wd K μ H η ∧ RE K μ H ρ σ ∧ EndG K (fun c H' => W c σ H') μ H (fun ds _ μ' H' => ∀ vs, RVs K μ' H' ds vs → Q vs H') (m ρ η)
end
theorem impE {X : Cx} {e : Expr} {t t' : TE} (h : PE X e t) (q : ∀ σ H Q, t' σ H Q → t σ H Q) : PE X e t' := ⟨fun pins s σ H Q I x => h.run pins s σ H Q I (q σ H Q x)⟩
theorem impT {X : Cx} {e : Expr} {t t' : TT} (h : PT X e t) (q : ∀ σ H Q, t' σ H Q → t σ H Q) : PT X e t' := ⟨fun pins s σ H Q I x => h.run pins s σ H Q I (q σ H Q x)⟩
theorem impW {X : Cx} {e : Expr} {t t' : TT} (h : PW X e t) (q : ∀ σ H Q, t' σ H Q → t σ H Q) : PW X e t' := ⟨fun wh pins s σ H Q I x => h.run wh pins s σ H Q I (q σ H Q x)⟩
theorem impA {X : Cx} {e : List Expr} {t t' : TA} (h : PA X e t) (q : ∀ σ H Q, t' σ H Q → t σ H Q) : PA X e t' := ⟨fun pos pins s σ H Q I x => h.run pos pins s σ H Q I (q σ H Q x)⟩
theorem impS {X : Cx} {e : Stmt} {t t' : TS} (h : PS X e t) (q : ∀ D σ H, t' D σ H → t D σ H) : PS X e t' := ⟨fun pins s σ H D I x => h.run pins s σ H D I (q D σ H x)⟩
theorem impB {X : Cx} {e : List Stmt} {t t' : TS} (h : PSs X e t) (q : ∀ D σ H, t' D σ H → t D σ H) : PSs X e t' := ⟨fun pins s σ H D I x => h.run pins s σ H D I (q D σ H x)⟩
end MIS

set_option Elab.async false
set_option linter.all false
set_option maxRecDepth 100000
set_option maxHeartbeats 1000000
/-! MiS2: MI's operations by values, over the hand layer's rules. -/
namespace MIS
open PySem PySem.Spec PyProof.Rows L2 MI
abbrev WN := Nat → Hp → Prop
/-- the end of a value -/
abbrev EV (K : KW) (W : WN) (μ : List Addr) (H : Hp) (Q : VK) : Rs D → Prop := EndG K W μ H (fun d _ μ' H' => ∀ v, RV K μ' H' d v → Q v H')
section
variable {K : KW} {W : WN} {μ : List Addr} {H : Hp} {η : Hv} {Q : VK}
theorem EV.same {d : D} {v : V} (h : EV K W μ H Q (.ok d η)) (w : Wd K μ H η) (r : RV K μ H d v) : Q v H := h μ H .refl w v r
/-- a new tuple -/
theorem EV.tup {ds : List D} {vs : List V} {p : Addr} (h : EV K W μ H Q (.ok (.tup ds) η)) (w : Wd K μ H η) (r : RVs K μ H ds vs) (hp : H p = none) : Q (.ref p) (upd H p (.tup vs)) :=
  h μ _ (aft_new hp) (w.fresh hp) _ ⟨p, vs, rfl, SqT.of upd_same, RVs.mono (aft_new hp) ds vs r⟩
/-- a new object of MI's -/
theorem EV.new {o : O} {u : HO} {p : Addr} (h : EV K W μ H Q (allocM o η)) (w : Wd K μ H η) (hp : H p = none) (ho : OB K (μ ++ [p]) (upd H p u) p o) : Q (.ref p) (upd H p u) := by
  obtain ⟨w', a⟩ := w.alloc hp ho
  refine h (μ ++ [p]) _ a w' _ ⟨p, rfl, ?_⟩
  rw [← w.len, List.getElem?_append_right (Nat.le_refl _), Nat.sub_self]
  rfl
theorem EV.lst {ds : List D} {vs : List V} {p : Addr} (h : EV K W μ H Q (allocM (.lst ds) η)) (w : Wd K μ H η) (r : RVs K μ H ds vs) (hp : H p = none) : Q (.ref p) (upd H p (.lst vs)) := by
  refine h.new w hp ⟨vs, upd_same, RVs.mono (μ1 := μ ++ [p]) (aft_push hp) ds vs r⟩
/-- an operation of MI's as a reading -/
def r2 (K : KW) (f : D → D → Mo D) : R2 := fun x y H Q => ∃ (W : WN) (μ : List Addr) (η : Hv) (d e : D), Wd K μ H η ∧ RV K μ H d x ∧ RV K μ H e y ∧ EV K W μ H Q (f d e η)
theorem lim_eq : lim = sizeLine := by rw [sizeLine_eq]; rfl
end
section
variable {X : Cx} {cl ex : Nat → Addr}
theorem opM_add : OpR X (binaryOp .Add) (r2 (kw X cl ex) (binM .add)) := by
  intro pins s σ H x y v u Q I rx ry ⟨W, μ, η, d, e, wd, rd, re, h⟩
  have hl := lim_eq
  cases d <;> cases e <;> simp only [binM, badM] at h <;> try exact h.elim
  · cases rd; cases re
    exact op_add_ib pins s σ H _ _ v u Q I rx ry ⟨_, _, rfl, rfl, h.same wd rfl⟩
  · cases rd; cases re
    exact op_add pins s σ H _ _ v u Q I rx ry ⟨_, _, rfl, rfl, h.same wd rfl⟩
  · cases rd; cases re
    rename_i a b
    by_cases c : a.length + b.length ≤ lim
    · rw [if_pos c] at h
      refine op_add_str pins s σ H _ _ v u Q I rx ry ⟨_, _, rfl, rfl, ?_, ?_⟩
      · show a.toArray.size + b.toArray.size ≤ sizeLine
        rw [List.size_toArray, List.size_toArray, ← hl]; exact c
      · refine h.same wd ?_
        show V.str ⟨a.toArray ++ b.toArray⟩ = V.str ⟨(a ++ b).toArray⟩
        rw [List.append_toArray]
    · rw [if_neg c] at h; exact h.elim
  · obtain ⟨p, vs, rfl, hp, q1⟩ := rd
    obtain ⟨p', ws, rfl, hp', q2⟩ := re
    rename_i a b
    by_cases c : a.length + b.length ≤ lim
    · rw [if_pos c] at h
      refine op_catA pins s σ H _ _ v u Q I rx ry ⟨p, p', vs, ws, rfl, rfl, hp, hp', by rw [q1.len, q2.len, ← hl]; exact c, fun e => ?_, fun _ e => ?_, fun _ _ t ht => h.tup wd (q1.append q2) ht⟩
      · have e2 : a = [] := by
          have := q1.len
          rw [e] at this
          exact List.eq_nil_of_length_eq_zero this.symm
        rw [e2, List.nil_append] at h
        exact h.same wd ⟨p', ws, rfl, hp', q2⟩
      · have e2 : b = [] := by
          have := q2.len
          rw [e] at this
          exact List.eq_nil_of_length_eq_zero this.symm
        rw [e2, List.append_nil] at h
        exact h.same wd ⟨p, vs, rfl, hp, q1⟩
    · rw [if_neg c] at h; exact h.elim
  · obtain ⟨p, rfl, hp⟩ := rd
    obtain ⟨p', rfl, hp'⟩ := re
    rename_i i j
    split at h
    · rename_i a b e1 e2
      by_cases c : a.length + b.length ≤ lim
      · rw [if_pos c] at h
        obtain ⟨vs, h1, q1⟩ := wd.lst hp e1
        obtain ⟨ws, h2, q2⟩ := wd.lst hp' e2
        exact op_cat pins s σ H _ _ v u Q I rx ry ⟨p, p', vs, ws, rfl, rfl, h1, h2, by rw [q1.len, q2.len, ← hl]; exact c, fun t ht => h.lst wd (q1.append q2) ht⟩
      · rw [if_neg c] at h; exact h.elim
    · exact h.elim
theorem opM_sub : OpR X (binaryOp .Sub) (r2 (kw X cl ex) (binM .sub)) := by
  intro pins s σ H x y v u Q I rx ry ⟨W, μ, η, d, e, wd, rd, re, h⟩
  cases d <;> cases e <;> simp only [binM, badM] at h <;> try exact h.elim
  cases rd; cases re
  exact op_sub pins s σ H _ _ v u Q I rx ry ⟨_, _, rfl, rfl, h.same wd rfl⟩
theorem opM_fdiv : OpR X (binaryOp .FloorDiv) (r2 (kw X cl ex) (binM .fdiv)) := by
  intro pins s σ H x y v u Q I rx ry ⟨W, μ, η, d, e, wd, rd, re, h⟩
  cases d <;> cases e <;> simp only [binM, badM] at h <;> try exact h.elim
  cases rd; cases re
  rename_i i j
  by_cases c : 0 < j ∧ j < 1073741824
  · rw [if_pos c] at h
    exact op_fdiv pins s σ H _ _ v u Q I rx ry ⟨_, _, rfl, rfl, c, h.same wd rfl⟩
  · rw [if_neg c] at h; exact h.elim
theorem opM_mod : OpR X (binaryOp .Mod) (r2 (kw X cl ex) (binM .mod)) := by
  intro pins s σ H x y v u Q I rx ry ⟨W, μ, η, d, e, wd, rd, re, h⟩
  cases d <;> cases e <;> simp only [binM, badM] at h <;> try exact h.elim
  cases rd; cases re
  rename_i i j
  by_cases c : 0 < j
  · rw [if_pos c] at h
    exact op_mod pins s σ H _ _ v u Q I rx ry ⟨_, _, rfl, rfl, c, h.same wd rfl⟩
  · rw [if_neg c] at h; exact h.elim
theorem opM_pow : OpR X (binaryOp .Pow) (r2 (kw X cl ex) (binM .pow)) := by
  intro pins s σ H x y v u Q I rx ry ⟨W, μ, η, d, e, wd, rd, re, h⟩
  cases d <;> cases e <;> simp only [binM, badM] at h <;> try exact h.elim
  cases rd; cases re
  rename_i i j
  by_cases c : 0 ≤ j ∧ j ≤ 1000000 ∧ i.natAbs < 18446744073709551616
  · rw [if_pos c] at h
    exact op_pow pins s σ H _ _ v u Q I rx ry ⟨_, _, rfl, rfl, c, h.same wd rfl⟩
  · rw [if_neg c] at h; exact h.elim
theorem mulG_ok {i j : Int} (h : i.natAbs.log2 + j.natAbs.log2 < 134217000) : IntMulOk i j := by
  have b : ∀ x : Int, Builtin.Int.intBits x ≤ x.natAbs.log2 + 1 := fun x => by unfold Builtin.Int.intBits; split <;> omega
  have b1 := b i
  have b2 := b j
  have e : bitsLine = 134217728 := by decide
  intro z
  rw [Bool.and_eq_true] at z
  have z3 : ((Builtin.Int.intBits i + Builtin.Int.intBits j : Nat) : Int) > bitsLine := by simpa [Builtin.Int.intTooBig] using z.2
  omega
theorem op_mulG : OpR X (binaryOp .Mult) (rI (fun i j => i.natAbs.log2 + j.natAbs.log2 < 134217000) fun i j => .int (i * j)) := opI fun _ _ _ _ _ _ _ hc q => mul_int q (mulG_ok hc)
theorem opM_mul : OpR X (binaryOp .Mult) (r2 (kw X cl ex) (binM .mul)) := by
  intro pins s σ H x y v u Q I rx ry ⟨W, μ, η, d, e, wd, rd, re, h⟩
  have hl := lim_eq
  cases d <;> cases e <;> simp only [binM, badM] at h <;> try exact h.elim
  · cases rd; cases re
    rename_i i j
    by_cases c : ((-bigI < i ∧ i < bigI) ∨ (-bigI < j ∧ j < bigI)) ∨ i.natAbs.log2 + j.natAbs.log2 < 134217000
    · rw [if_pos c] at h
      rcases c with c | c
      · exact op_mul pins s σ H _ _ v u Q I rx ry ⟨_, _, rfl, rfl, c, h.same wd rfl⟩
      · exact op_mulG pins s σ H _ _ v u Q I rx ry ⟨_, _, rfl, rfl, c, h.same wd rfl⟩
    · rw [if_neg c] at h; exact h.elim
  · cases re
    obtain ⟨p, rfl, hp⟩ := rd
    rename_i i k
    split at h
    · rename_i a e1
      by_cases c : 0 ≤ k ∧ k < 16777216 ∧ a.length * k.toNat ≤ lim
      · rw [if_pos c] at h
        obtain ⟨vs, h1, q1⟩ := wd.lst hp e1
        have hf : ∀ n : Nat, RVs (kw X cl ex) μ H (List.replicate n a).flatten (List.replicate n vs).flatten := fun n => by
          induction n with
          | zero => exact rfl
          | succ n ih =>
            rw [List.replicate_succ, List.replicate_succ, List.flatten_cons, List.flatten_cons]
            exact q1.append ih
        exact op_rep pins s σ H _ _ v u Q I rx ry ⟨p, k, vs, rfl, rfl, h1, by omega, by omega, by rw [q1.len, ← hl]; exact c.2.2, fun t ht => h.lst wd (hf _) ht⟩
      · rw [if_neg c] at h; exact h.elim
    · exact h.elim
end
/-! ### deep data -/
mutual
def py : D → PyData
  | .non => .none
  | .bl b => .bool b
  | .int i => .int i
  | .str s => .str ⟨s.toArray⟩
  | .tup xs => .tuple (pys xs)
  | .lst xs => .list (pys xs)
  | .ref _ => .none
  | .exc _ => .none
def pys : List D → List PyData
  | [] => []
  | x :: xs => py x :: pys xs
end
end MIS

set_option Elab.async false
set_option linter.all false
set_option maxRecDepth 100000
set_option maxHeartbeats 1000000
/-! MiS3: comparisons, subscripts, truth. -/
namespace MIS
open PySem PySem.Spec PyProof.Rows L2 MI
section
variable {K : KW} {μ : List Addr} {H : Hp} {η : Hv}
mutual
theorem deepW_dp {f : Nat → Option D} (hf : ∀ i a d, f i = some d → μ[i]? = some a → Dp K.K H (.ref a) (py d)) : ∀ (d e : D) (v : V), deepW f d = some e → RV K μ H d v → Dp K.K H v (py e)
  | .non, e, v, h, r => by cases h; cases r; exact .non
  | .bl b, e, v, h, r => by cases h; cases r; exact .bl b
  | .int i, e, v, h, r => by cases h; cases r; exact .int i
  | .str s, e, v, h, r => by cases h; cases r; exact .str _
  | .tup xs, e, v, h, r => by
    rw [deepW] at h
    cases q : deepsW f xs with
    | none => rw [q] at h; cases h
    | some ys =>
      rw [q] at h; cases h
      obtain ⟨a, vs, rfl, hs, rs⟩ := r
      exact .tup hs (deepsW_dp hf xs ys vs q rs)
  | .ref i, e, v, h, r => by
    obtain ⟨a, rfl, ha⟩ := r
    exact hf i a e h ha
  | .exc _, e, v, h, r => nomatch h
  | .lst _, e, v, h, r => nomatch h
theorem deepsW_dp {f : Nat → Option D} (hf : ∀ i a d, f i = some d → μ[i]? = some a → Dp K.K H (.ref a) (py d)) : ∀ (ds es : List D) (vs : List V), deepsW f ds = some es → RVs K μ H ds vs → DpAll K.K H vs (pys es)
  | [], es, vs, h, r => by cases h; rw [show vs = [] from r]; exact .nil
  | x :: xs, es, vs, h, r => by
    rw [deepsW] at h
    cases q : deepW f x with
    | none => rw [q] at h; cases h
    | some y =>
      cases q2 : deepsW f xs with
      | none => rw [q, q2] at h; cases h
      | some ys =>
        rw [q, q2] at h; cases h
        obtain ⟨v, r', rfl, h1, h2⟩ := r
        exact .cons (deepW_dp hf x y v q h1) (deepsW_dp hf xs ys r' q2 h2)
end
theorem deepR_dp (w : Wd K μ H η) : ∀ (n i : Nat) (a : Addr) (d : D), deepR η n i = some d → μ[i]? = some a → Dp K.K H (.ref a) (py d)
  | 0, _, _, _, h, _ => nomatch h
  | n + 1, i, a, d, h, ha => by
    rw [deepR] at h
    have key : ∀ xs, MI.getL η (.ref i) = some xs → (deepsW (deepR η n) xs).map D.lst = some d → Dp K.K H (.ref a) (py d) := fun xs hx hd => by
      cases q : deepsW (deepR η n) xs with
      | none => rw [q] at hd; cases hd
      | some ys =>
        rw [q] at hd; cases hd
        obtain ⟨a', vs, e, hs, rs⟩ := w.getL (d := .ref i) (v := .ref a) ⟨a, rfl, ha⟩ hx
        cases e
        exact .lst hs (deepsW_dp (deepR_dp w n) xs ys vs q rs)
    split at h
    · rename_i xs e
      exact key xs (by unfold MI.getL; simp only [e]) h
    · rename_i xs e
      exact key xs (by unfold MI.getL; simp only [e]) h
    · cases h
theorem deep_dp (w : Wd K μ H η) {d e : D} {v : V} (h : deep η d = some e) (r : RV K μ H d v) : Dp K.K H v (py e) := deepW_dp (fun i a d h1 h2 => deepR_dp w 6 i a d h1 h2) d e v h r
mutual
theorem fine_lay : ∀ d : D, d.fine = true → (py d).canLay0 = true
  | .non, _ => rfl
  | .bl _, _ => rfl
  | .int _, _ => rfl
  | .str s, h => by
    simp only [py, PyData.canLay0, PyData.strOk]
    rw [D.fine] at h
    simpa [Array.all_eq_true, List.all_eq_true] using h
  | .tup xs, h => by rw [py, PyData.canLay0]; exact fines_lay xs (by rw [D.fine] at h; exact h)
  | .lst xs, h => by rw [py, PyData.canLay0]; exact fines_lay xs (by rw [D.fine] at h; exact h)
  | .ref _, h => nomatch h
  | .exc _, h => nomatch h
theorem fines_lay : ∀ ds : List D, D.fines ds = true → PyData.canLayAll0 (pys ds) = true
  | [], _ => rfl
  | x :: xs, h => by
    rw [D.fines, Bool.and_eq_true] at h
    rw [pys, PyData.canLayAll0, fine_lay x h.1, fines_lay xs h.2]; rfl
end
mutual
theorem dep_py : ∀ d : D, (py d).depth = d.dep
  | .non => rfl
  | .bl _ => rfl
  | .int _ => rfl
  | .str _ => rfl
  | .tup xs => by rw [py, PyData.depth, D.dep, deps_py xs]
  | .lst xs => by rw [py, PyData.depth, D.dep, deps_py xs]
  | .ref _ => rfl
  | .exc _ => rfl
theorem deps_py : ∀ ds : List D, PyData.depthAll (pys ds) = D.deps ds
  | [] => rfl
  | x :: xs => by rw [pys, PyData.depthAll, D.deps, dep_py x, deps_py xs]
end
theorem shp_shaped {d : D} (h : shp d = true) : SeqAt.shaped (py d) = true := by
  unfold shp at h
  rw [Bool.and_eq_true] at h
  unfold SeqAt.shaped
  rw [fine_lay d h.1, dep_py]
  have := of_decide_eq_true h.2
  simp; omega
mutual
theorem eqv_py : ∀ d e : D, d.fine = true → e.fine = true → PyData.eqv (py d) (py e) = D.eqv d e
  | .ref _, _, h, _ => nomatch h
  | .exc _, _, h, _ => nomatch h
  | _, .ref _, _, h => nomatch h
  | _, .exc _, _, h => nomatch h
  | .tup xs, .tup ys, h, h' => by
    rw [py, py, PyData.eqv, D.eqv]
    exact eqvs_py xs ys (by rw [D.fine] at h; exact h) (by rw [D.fine] at h'; exact h')
  | .lst xs, .lst ys, h, h' => by
    rw [py, py, PyData.eqv, D.eqv]
    exact eqvs_py xs ys (by rw [D.fine] at h; exact h) (by rw [D.fine] at h'; exact h')
  | .str x, .str y, _, _ => by
    rw [py, py, PyData.eqv, D.eqv]
    by_cases e : x = y
    · subst e; simp
    · have e2 : ¬ (⟨x.toArray⟩ : Str) = ⟨y.toArray⟩ := fun z => e (by simpa using congrArg Str.cps z)
      rw [beq_eq_false_iff_ne.mpr e, beq_eq_false_iff_ne.mpr e2]
  | .non, .non, _, _ => rfl
  | .bl _, .bl _, _, _ => rfl
  | .int _, .int _, _, _ => rfl
  | .bl b, .int _, _, _ => by cases b <;> rfl
  | .int _, .bl b, _, _ => by cases b <;> rfl
  | .non, .bl _, _, _ => rfl
  | .non, .int _, _, _ => rfl
  | .non, .str _, _, _ => rfl
  | .non, .tup _, _, _ => rfl
  | .non, .lst _, _, _ => rfl
  | .bl _, .non, _, _ => rfl
  | .bl _, .str _, _, _ => rfl
  | .bl _, .tup _, _, _ => rfl
  | .bl _, .lst _, _, _ => rfl
  | .int _, .non, _, _ => rfl
  | .int _, .str _, _, _ => rfl
  | .int _, .tup _, _, _ => rfl
  | .int _, .lst _, _, _ => rfl
  | .str _, .non, _, _ => rfl
  | .str _, .bl _, _, _ => rfl
  | .str _, .int _, _, _ => rfl
  | .str _, .tup _, _, _ => rfl
  | .str _, .lst _, _, _ => rfl
  | .tup _, .non, _, _ => rfl
  | .tup _, .bl _, _, _ => rfl
  | .tup _, .int _, _, _ => rfl
  | .tup _, .str _, _, _ => rfl
  | .tup _, .lst _, _, _ => rfl
  | .lst _, .non, _, _ => rfl
  | .lst _, .bl _, _, _ => rfl
  | .lst _, .int _, _, _ => rfl
  | .lst _, .str _, _, _ => rfl
  | .lst _, .tup _, _, _ => rfl
theorem eqvs_py : ∀ ds es : List D, D.fines ds = true → D.fines es = true → PyData.eqvAll (pys ds) (pys es) = D.eqvs ds es
  | [], [], _, _ => rfl
  | [], _ :: _, _, _ => rfl
  | _ :: _, [], _, _ => rfl
  | x :: xs, y :: ys, h, h' => by
    rw [D.fines, Bool.and_eq_true] at h h'
    rw [pys, pys, PyData.eqvAll, D.eqvs, eqv_py x y h.1 h'.1, eqvs_py xs ys h.2 h'.2]
end
theorem shp_fine {d : D} (h : shp d = true) : d.fine = true := by
  unfold shp at h
  rw [Bool.and_eq_true] at h
  exact h.1
/-- == of two values -/
theorem eqH_dp (w : Wd K μ H η) {d e : D} {x y : V} {b : Bool} (h : eqH d e η = some b) (r : RV K μ H d x) (q : RV K μ H e y) : ∃ a c, Dp K.K H x a ∧ Dp K.K H y c ∧ SeqAt.shaped a = true ∧ SeqAt.shaped c = true ∧ PyData.eqv a c = b := by
  unfold eqH at h
  cases h1 : deep η d with
  | none => rw [h1] at h; cases h
  | some a =>
    cases h2 : deep η e with
    | none => rw [h1, h2] at h; cases h
    | some c =>
      rw [h1, h2] at h
      simp only [Option.bind_some] at h
      split at h
      · rename_i hs
        rw [Bool.and_eq_true] at hs
        cases h
        exact ⟨py a, py c, deep_dp w h1 r, deep_dp w h2 q, shp_shaped hs.1, shp_shaped hs.2, eqv_py a c (shp_fine hs.1) (shp_fine hs.2)⟩
      · cases h
end
/-- a comparison of MI's as a reading -/
def r2c (K : KW) (f : D → D → Hv → Option Bool) : R2 := fun x y H Q => ∃ (μ : List Addr) (η : Hv) (d e : D) (b : Bool), Wd K μ H η ∧ RV K μ H d x ∧ RV K μ H e y ∧ f d e η = some b ∧ Q (.bl b) H
section
variable {X : Cx} {cl ex : Nat → Addr}
theorem opM_eq (hu : X.A.units + 64 < cLine) : OpR X (compareOp .Eq) (r2c (kw X cl ex) (cmpH .eq)) := by
  intro pins s σ H x y v u Q I rx ry ⟨μ, η, d, e, b, wd, rd, re, h, q⟩
  obtain ⟨a, c, h1, h2, h3, h4, h5⟩ := eqH_dp wd h rd re
  exact op_eqD hu pins s σ H x y v u Q I rx ry ⟨a, c, h1, h2, h3, h4, by rw [h5]; exact q⟩
theorem opM_ne (hu : X.A.units + 64 < cLine) : OpR X (compareOp .NotEq) (r2c (kw X cl ex) (cmpH .ne)) := by
  intro pins s σ H x y v u Q I rx ry ⟨μ, η, d, e, b, wd, rd, re, h, q⟩
  cases g : eqH d e η with
  | none => simp only [cmpH, g] at h; cases h
  | some c =>
    simp only [cmpH, g] at h
    cases h
    obtain ⟨a, c', h1, h2, h3, h4, h5⟩ := eqH_dp wd g rd re
    exact op_neD hu pins s σ H x y v u Q I rx ry ⟨a, c', h1, h2, h3, h4, by rw [h5]; exact q⟩
theorem opM_lt : OpR X (compareOp .Lt) (r2c (kw X cl ex) (cmpH .lt)) := by
  intro pins s σ H x y v u Q I rx ry ⟨μ, η, d, e, b, wd, rd, re, h, q⟩
  cases d <;> cases e <;> first | (cases h; done) | skip
  cases rd; cases re; cases h
  exact op_lt pins s σ H _ _ v u Q I rx ry ⟨_, _, rfl, rfl, q⟩
theorem opM_le : OpR X (compareOp .LtE) (r2c (kw X cl ex) (cmpH .le)) := by
  intro pins s σ H x y v u Q I rx ry ⟨μ, η, d, e, b, wd, rd, re, h, q⟩
  cases d <;> cases e <;> first | (cases h; done) | skip
  cases rd; cases re; cases h
  exact op_le pins s σ H _ _ v u Q I rx ry ⟨_, _, rfl, rfl, q⟩
theorem opM_gt : OpR X (compareOp .Gt) (r2c (kw X cl ex) (cmpH .gt)) := by
  intro pins s σ H x y v u Q I rx ry ⟨μ, η, d, e, b, wd, rd, re, h, q⟩
  cases d <;> cases e <;> first | (cases h; done) | skip
  cases rd; cases re; cases h
  exact op_gt pins s σ H _ _ v u Q I rx ry ⟨_, _, rfl, rfl, q⟩
theorem opM_ge : OpR X (compareOp .GtE) (r2c (kw X cl ex) (cmpH .ge)) := by
  intro pins s σ H x y v u Q I rx ry ⟨μ, η, d, e, b, wd, rd, re, h, q⟩
  cases d <;> cases e <;> first | (cases h; done) | skip
  cases rd; cases re; cases h
  exact op_ge pins s σ H _ _ v u Q I rx ry ⟨_, _, rfl, rfl, q⟩
/-- x is None, True, False -/
theorem is_bool_other {A : Around} {E : Value → Shared → Prop} {s : Shared} {v : Value} {b : Bool} {Q : Value → Shared → Prop} {M : Model} (hv : ∀ c, v ≠ .bool c) (hn : v ≠ .bool b) (h : Q (.bool false) s) (hr : ∀ a, v = .ref a → True) : True := trivial
end
end MIS

set_option Elab.async false
set_option linter.all false
set_option maxRecDepth 100000
set_option maxHeartbeats 1000000
/-! MiS4: is, in, subscripts, slices, truth. -/
namespace MIS
open PySem PySem.Spec PyProof.Rows L2 MI
theorem is_bool_gen {M : Model} {A : Around} {E : Value → Shared → Prop} {s : Shared} {x : V} {v : Value} {b : Bool} {Q : Value → Shared → Prop} (r : RelV x v) (h : Q (.bool (decide (x = .bl b))) s) : wpAny M A (compareOp .Is v (.bool b)) Q E s := by
  cases x with
  | non => cases r; exact wpAny_is_other rfl (fun z => nomatch z) (by simpa using h)
  | bl c =>
    cases r
    by_cases e : c = b
    · subst e; exact wpAny_is_self rfl (by simpa using h)
    · exact wpAny_is_other rfl (fun z => e (Value.bool.inj z)) (by simpa [e] using h)
  | int i => obtain ⟨t, rfl⟩ := r; exact wpAny_is_other rfl (fun z => nomatch z) (by simpa using h)
  | str i => obtain ⟨t, rfl⟩ := r; exact wpAny_is_other rfl (fun z => nomatch z) (by simpa using h)
  | byt i => obtain ⟨t, rfl⟩ := r; exact wpAny_is_other rfl (fun z => nomatch z) (by simpa using h)
  | flt i => obtain ⟨t, rfl⟩ := r; exact wpAny_is_other rfl (fun z => nomatch z) (by simpa using h)
  | ref i => cases r; exact wpAny_is_other rfl (fun z => nomatch z) (by simpa using h)
  | ty i => cases r; exact wpAny_is_other rfl (fun z => nomatch z) (by simpa using h)
theorem isn_bool_gen {M : Model} {A : Around} {E : Value → Shared → Prop} {s : Shared} {x : V} {v : Value} {b : Bool} {Q : Value → Shared → Prop} (r : RelV x v) (h : Q (.bool (!decide (x = .bl b))) s) : wpAny M A (compareOp .IsNot v (.bool b)) Q E s := by
  cases x with
  | non => cases r; exact wpAny_isNot_other rfl (fun z => nomatch z) (by simpa using h)
  | bl c =>
    cases r
    by_cases e : c = b
    · subst e; exact wpAny_isNot_self rfl (by simpa using h)
    · exact wpAny_isNot_other rfl (fun z => e (Value.bool.inj z)) (by simpa [e] using h)
  | int i => obtain ⟨t, rfl⟩ := r; exact wpAny_isNot_other rfl (fun z => nomatch z) (by simpa using h)
  | str i => obtain ⟨t, rfl⟩ := r; exact wpAny_isNot_other rfl (fun z => nomatch z) (by simpa using h)
  | byt i => obtain ⟨t, rfl⟩ := r; exact wpAny_isNot_other rfl (fun z => nomatch z) (by simpa using h)
  | flt i => obtain ⟨t, rfl⟩ := r; exact wpAny_isNot_other rfl (fun z => nomatch z) (by simpa using h)
  | ref i => cases r; exact wpAny_isNot_other rfl (fun z => nomatch z) (by simpa using h)
  | ty i => cases r; exact wpAny_isNot_other rfl (fun z => nomatch z) (by simpa using h)
section
variable {K : KW} {μ : List Addr} {H : Hp} {η : Hv}
def isNon : D → Bool
  | .non => true
  | _ => false
def isBl (b : Bool) : D → Bool
  | .bl c => c == b
  | _ => false
theorem RV.non_iff {d : D} {x : V} (r : RV K μ H d x) : decide (x = .non) = isNon d := by
  cases d with
  | tup ds => obtain ⟨a, vs, rfl, _⟩ := r; simp [isNon, isBl]
  | ref i => obtain ⟨a, rfl, _⟩ := r; simp [isNon, isBl]
  | exc _ => exact r.elim
  | lst ds => obtain ⟨a, vs, rfl, _⟩ := r; simp [isNon, isBl]
  | _ => cases r; simp [isNon, isBl]
theorem RV.bl_iff {d : D} {x : V} {b : Bool} (r : RV K μ H d x) : decide (x = .bl b) = isBl b d := by
  cases d with
  | tup ds => obtain ⟨a, vs, rfl, _⟩ := r; simp [isNon, isBl]
  | ref i => obtain ⟨a, rfl, _⟩ := r; simp [isNon, isBl]
  | exc _ => exact r.elim
  | lst ds => obtain ⟨a, vs, rfl, _⟩ := r; simp [isNon, isBl]
  | bl c => cases r; cases c <;> cases b <;> simp [isBl]
  | _ => cases r; simp [isNon, isBl]
end
section
variable {X : Cx} {cl ex : Nat → Addr}
theorem opM_is : OpR X (compareOp .Is) (r2c (kw X cl ex) (cmpH .is)) := by
  intro pins s σ H x y v u Q I rx ry ⟨μ, η, d, e, b, wd, rd, re, h, q⟩
  cases e <;> first | (cases h; done) | skip
  · cases re
    simp only [cmpH] at h
    have e1 := Option.some.inj h
    refine op_isN pins s σ H x _ v u Q I rx ry ⟨rfl, ?_⟩
    have : decide (x = .non) = b := by rw [rd.non_iff, ← e1]; cases d <;> rfl
    rw [this]; exact q
  · cases re
    simp only [cmpH] at h
    have e1 := Option.some.inj h
    cases ry
    rename_i c
    have : decide (x = .bl c) = b := by rw [rd.bl_iff, ← e1]; cases d <;> rfl
    exact is_bool_gen rx ⟨.bl _, H, I, rfl, by rw [this]; exact q⟩
theorem opM_isn : OpR X (compareOp .IsNot) (r2c (kw X cl ex) (cmpH .isn)) := by
  intro pins s σ H x y v u Q I rx ry ⟨μ, η, d, e, b, wd, rd, re, h, q⟩
  cases e <;> first | (cases h; done) | skip
  · cases re
    simp only [cmpH] at h
    have e1 := Option.some.inj h
    refine op_notN pins s σ H x _ v u Q I rx ry ⟨rfl, ?_⟩
    have : (!decide (x = .non)) = b := by rw [rd.non_iff, ← e1]; cases d <;> rfl
    rw [this]; exact q
  · cases re
    simp only [cmpH] at h
    have e1 := Option.some.inj h
    cases ry
    rename_i c
    have : (!decide (x = .bl c)) = b := by rw [rd.bl_iff, ← e1]; cases d <;> rfl
    exact isn_bool_gen rx ⟨.bl _, H, I, rfl, by rw [this]; exact q⟩
end
section
variable {K : KW} {μ : List Addr} {H : Hp} {η : Hv}
theorem flat_V {d : D} {x : V} (r : RV K μ H d x) (f : flatD d = true) : flatV x = true := by
  cases d <;> first | (cases f; done) | (cases r; rfl)
theorem flat_all : ∀ {ds : List D} {vs : List V}, RVs K μ H ds vs → ds.all flatD = true → vs.all flatV = true
  | [], _, h, _ => by rw [show _ = [] from h]; rfl
  | x :: xs, _, h, f => by
    obtain ⟨v, r, rfl, h1, h2⟩ := h
    rw [List.all_cons, Bool.and_eq_true] at f
    rw [List.all_cons, flat_V h1 f.1, flat_all h2 f.2]; rfl
theorem eqv_V {d e : D} {x y : V} (r : RV K μ H d x) (q : RV K μ H e y) (f : flatD d = true) (g : flatD e = true) : eqV x y = D.eqv d e := by
  cases d <;> first | (cases f; done) | skip
  all_goals (cases e <;> first | (cases g; done) | skip)
  all_goals (cases r; cases q)
  all_goals try rfl
  · rename_i a b
    show ((⟨a.toArray⟩ : Str) == ⟨b.toArray⟩) = (a == b)
    by_cases e : a = b
    · subst e; simp
    · have e2 : ¬ (⟨a.toArray⟩ : Str) = ⟨b.toArray⟩ := fun z => e (by simpa using congrArg Str.cps z)
      rw [beq_eq_false_iff_ne.mpr e, beq_eq_false_iff_ne.mpr e2]
theorem any_V {d : D} {x : V} (r : RV K μ H d x) (f : flatD d = true) : ∀ {ds : List D} {vs : List V}, RVs K μ H ds vs → ds.all flatD = true → (vs.any fun y => eqV y x) = ds.any fun e => D.eqv e d
  | [], _, h, _ => by rw [show _ = [] from h]; rfl
  | e :: es, _, h, g => by
    obtain ⟨v, r', rfl, h1, h2⟩ := h
    rw [List.all_cons, Bool.and_eq_true] at g
    rw [List.any_cons, List.any_cons, eqv_V h1 r g.1 f, any_V r f h2 g.2]
theorem deps_le : ∀ {ds : List D}, ds.all shp = true → D.deps ds ≤ 60
  | [], _ => Nat.zero_le _
  | d :: ds, h => by
    rw [List.all_cons, Bool.and_eq_true] at h
    have h1 := h.1
    unfold shp at h1
    rw [Bool.and_eq_true] at h1
    rw [D.deps]
    exact Nat.max_le.mpr ⟨of_decide_eq_true h1.2, deps_le h.2⟩
theorem fines_of : ∀ {ds : List D}, ds.all shp = true → D.fines ds = true
  | [], _ => rfl
  | d :: ds, h => by
    rw [List.all_cons, Bool.and_eq_true] at h
    rw [D.fines, shp_fine h.1, fines_of h.2]; rfl
theorem shaped_list {ds : List D} (h : ds.all shp = true) : SeqAt.shaped (.list (pys ds)) = true := by
  have h1 := fine_lay (.lst ds) (by rw [D.fine]; exact fines_of h)
  have h2 := dep_py (.lst ds)
  rw [py] at h1 h2
  unfold SeqAt.shaped
  rw [h1, h2, D.dep]
  have := deps_le h
  simp; omega
theorem any_py {d : D} (f : d.fine = true) : ∀ {ds : List D}, ds.all shp = true → ((pys ds).any fun z => PyData.eqv z (py d)) = ds.any fun e => D.eqv e d
  | [], _ => rfl
  | e :: es, h => by
    rw [List.all_cons, Bool.and_eq_true] at h
    rw [pys, List.any_cons, List.any_cons, eqv_py e d (shp_fine h.1) f, any_py f h.2]
/-- membership in a list -/
theorem memH_dp (w : Wd K μ H η) {d e : D} {x y : V} {ds : List D} {b : Bool} (h : memH d ds η = some b) (hl : MI.getL η e = some ds) (r : RV K μ H d x) (q : RV K μ H e y) :
    ∃ a cs, Dp K.K H x a ∧ Dp K.K H y (.list cs) ∧ SeqAt.shaped a = true ∧ SeqAt.shaped (.list cs) = true ∧ (cs.any fun z => PyData.eqv z a) = b := by
  unfold memH at h
  cases h1 : deep η d with
  | none => rw [h1] at h; cases h
  | some a =>
    cases h2 : deepsW (deepR η 6) ds with
    | none => rw [h1, h2] at h; cases h
    | some cs =>
      rw [h1, h2] at h
      simp only [Option.bind_some] at h
      split at h
      · rename_i hs
        rw [Bool.and_eq_true] at hs
        cases h
        obtain ⟨p, vs, rfl, hp, rs⟩ := w.getL q hl
        exact ⟨py a, pys cs, deep_dp w h1 r, .lst hp (deepsW_dp (fun i a d h1 h2 => deepR_dp w 6 i a d h1 h2) ds cs vs h2 rs), shp_shaped hs.1, shaped_list hs.2, any_py (shp_fine hs.1) hs.2⟩
      · cases h
end
section
variable {X : Cx} {cl ex : Nat → Addr}
theorem no_dic {K : KW} {μ : List Addr} {H : Hp} {η : Hv} (wd : Wd K μ H η) {d : D} {x : V} {kvs : List (D × D)} (r : RV K μ H d x) (h : MI.getD η d = some kvs) : False := by
  unfold MI.getD at h
  split at h
  · rename_i i
    obtain ⟨a, rfl, ha⟩ := r
    split at h
    · rename_i ys e
      exact wd.obj i a _ ha e
    · cases h
  · cases h
/-- the three ways of a membership -/
theorem inH_ways {K : KW} {μ : List Addr} {H : Hp} {η : Hv} {d e : D} {x y : V} {b : Bool} (wd : Wd K μ H η) (rd : RV K μ H d x) (re : RV K μ H e y) (h : inH d e η = some b) :
    (∃ a cs, Dp K.K H x a ∧ Dp K.K H y (.list cs) ∧ SeqAt.shaped a = true ∧ SeqAt.shaped (.list cs) = true ∧ (cs.any fun z => PyData.eqv z a) = b) ∨
    (∃ p vs, y = .ref p ∧ SqT K.K H p vs ∧ flatV x = true ∧ vs.all flatV = true ∧ inV x vs = b) ∨
    ∃ (c : Nat) (z : Str), x = .str ⟨#[c]⟩ ∧ y = .str z ∧ decide (c ∈ z.cps.toList) = b := by
  unfold inH at h
  split at h
  · rename_i ys hl
    exact .inl (memH_dp wd h hl rd re)
  · split at h
    · rename_i kvs hk
      exact (no_dic wd re hk).elim
    · split at h
      · rename_i ys _ _
        split at h
        · rename_i hf
          rw [Bool.and_eq_true] at hf
          obtain ⟨p, vs, rfl, hp, rs⟩ := re
          refine .inr (.inl ⟨p, vs, rfl, hp, flat_V rd hf.1, flat_all rs hf.2, ?_⟩)
          unfold inV
          rw [any_V rd hf.1 rs hf.2]
          exact Option.some.inj h
        · cases h
      · rename_i ss _ _
        split at h
        · rename_i c
          cases rd; cases re
          refine .inr (.inr ⟨c, ⟨ss.toArray⟩, rfl, rfl, ?_⟩)
          rw [← Option.some.inj h, Bool.eq_iff_iff]; simp
        · cases h
      · cases h
theorem opM_in (hu : X.A.units + 65 < cLine) : OpR X (compareOp .In) (r2c (kw X cl ex) (cmpH .isin)) := by
  intro pins s σ H x y v u Q I rx ry ⟨μ, η, d, e, b, wd, rd, re, h, q⟩
  rcases inH_ways wd rd re h with ⟨a, cs, h1, h2, h3, h4, h5⟩ | ⟨p, vs, rfl, h1, h2, h3, h4⟩ | ⟨c, z, rfl, rfl, h1⟩
  · exact op_inD hu pins s σ H x y v u Q I rx ry ⟨a, cs, h1, h2, h3, h4, by rw [h5]; exact q⟩
  · exact op_in_seq pins s σ H x _ v u Q I rx ry ⟨p, vs, rfl, .inr h1, h2, h3, by
      show Q (.bl (inV x vs)) H
      rw [h4]; exact q⟩
  · exact op_in_sign pins s σ H _ _ v u Q I rx ry ⟨c, z, rfl, rfl, by rw [h1]; exact q⟩
theorem opM_nin (hu : X.A.units + 65 < cLine) : OpR X (compareOp .NotIn) (r2c (kw X cl ex) (cmpH .nin)) := by
  intro pins s σ H x y v u Q I rx ry ⟨μ, η, d, e, b, wd, rd, re, h, q⟩
  cases g : inH d e η with
  | none => simp only [cmpH, g] at h; cases h
  | some b' =>
    simp only [cmpH, g] at h
    cases h
    rcases inH_ways wd rd re g with ⟨a, cs, h1, h2, h3, h4, h5⟩ | ⟨p, vs, rfl, h1, h2, h3, h4⟩ | ⟨c, z, rfl, rfl, h1⟩
    · exact op_notInD hu pins s σ H x y v u Q I rx ry ⟨a, cs, h1, h2, h3, h4, by rw [h5]; exact q⟩
    · exact op_notIn_seq pins s σ H x _ v u Q I rx ry ⟨p, vs, rfl, .inr h1, h2, h3, by
        show Q (.bl (!inV x vs)) H
        rw [h4]; exact q⟩
    · exact op_notIn_sign pins s σ H _ _ v u Q I rx ry ⟨c, z, rfl, rfl, by rw [h1]; exact q⟩
end
section
variable {K : KW} {μ : List Addr} {H : Hp} {η : Hv}
theorem atI_of {ds : List D} {vs : List V} {i : Int} {d : D} (r : RVs K μ H ds vs) (h : atD ds i = some d) : ∃ v, L2.atI vs i = some v ∧ RV K μ H d v := by
  unfold atD ixD at h
  unfold L2.atI L2.ixN
  rw [r.len]
  cases e : (if 0 ≤ i then (if i < (ds.length : Int) then some i.toNat else none) else if -(ds.length : Int) ≤ i then some (i + ds.length).toNat else none) with
  | none => rw [e] at h; cases h
  | some j =>
    rw [e] at h
    obtain ⟨v, h1, h2⟩ := r.get (i := j) h
    exact ⟨v, h1, h2⟩
end
section
variable {X : Cx} {cl ex : Nat → Addr}
def r2h (K : KW) (f : D → D → Hv → Option D) : R2 := fun x y H Q => ∃ (μ : List Addr) (η : Hv) (d e c : D), Wd K μ H η ∧ RV K μ H d x ∧ RV K μ H e y ∧ f d e η = some c ∧ ∀ v, RV K μ H c v → Q v H
theorem ixM : IxR X (r2h (kw X cl ex) idxH) := by
  intro value slice pins s σ H x y v u Q I rx ry ⟨μ, η, d, e, c, wd, rd, re, h, q⟩ hs
  unfold idxH at h
  split at h
  · rename_i xs i
    cases re
    obtain ⟨p, vs, rfl, hp, rs⟩ := rd
    obtain ⟨w, h1, h2⟩ := atI_of rs h
    exact ix_tup value slice pins s σ H _ _ v u Q I rx ry ⟨p, vs, i, w, rfl, rfl, hp, h1, q w h2⟩ hs
  · rename_i xs i
    cases re
    obtain ⟨p, vs, rfl, hp, rs⟩ := rd
    obtain ⟨w, h1, h2⟩ := atI_of rs h
    exact ix_list value slice pins s σ H _ _ v u Q I rx ry ⟨p, vs, i, w, rfl, rfl, hp.list, h1, q w h2⟩ hs
  · rename_i ss i
    split at h
    · rename_i hz
      cases re; cases rd
      cases g : atD ss i with
      | none => rw [g] at h; cases h
      | some k =>
        rw [g] at h; cases h
        exact ix_str value slice pins s σ H _ _ v u Q I rx ry ⟨⟨ss.toArray⟩, i, k, rfl, rfl, by rw [← lim_eq]; exact hz, g, q _ rfl⟩ hs
    · cases h
  · rename_i a0 a
    have key : ∀ xs i, MI.getL η (.ref a) = some xs → e = .int i → atD xs i = some c → wpAny (model X.prog X.w) X.A (subscriptTail value slice v u) (EP X pins σ Q) X.xe s := fun xs i hx he hc => by
      subst he
      cases re
      obtain ⟨p, vs, rfl, hp, rs⟩ := wd.getL rd hx
      obtain ⟨w, h1, h2⟩ := atI_of rs hc
      exact ix_list value slice pins s σ H _ _ v u Q I rx ry ⟨p, vs, i, w, rfl, rfl, hp, h1, q w h2⟩ hs
    split at h
    · rename_i xs e1
      split at h
      · rename_i i; exact key xs i (by unfold MI.getL; simp only [e1]) rfl h
      · cases h
    · rename_i xs e1
      split at h
      · rename_i i; exact key xs i (by unfold MI.getL; simp only [e1]) rfl h
      · cases h
    · rename_i kvs e1
      obtain ⟨p, rfl, hp⟩ := rd
      exact (wd.obj a p _ hp e1).elim
    · cases h
  · cases h
/-- slices -/
theorem sIx_eq (n d : Nat) : ∀ o : Option Int, HT.sIx n d o = sIxD n d o
  | none => rfl
  | some i => by
    first
      | rfl
      | (unfold HT.sIx sIxD; rfl)
end
end MIS

set_option Elab.async false
set_option linter.all false
set_option maxRecDepth 100000
set_option maxHeartbeats 1000000
/-! MiS5: truth, slices, built-in functions and methods by values. -/
namespace MIS
open PySem PySem.Spec PyProof.Rows L2 MI
section
variable {K : KW} {μ : List Addr} {H : Hp} {η : Hv}
theorem RVs.isEmpty {ds : List D} {vs : List V} (r : RVs K μ H ds vs) : vs.isEmpty = ds.isEmpty := by
  have := r.len
  cases ds <;> cases vs <;> simp_all
theorem truth_ok (w : Wd K μ H η) {d : D} {x : V} {b : Bool} (r : RV K μ H d x) (h : truH d η = some b) : TruV K.K x H b := by
  have hl := lim_eq
  cases d with
  | non => cases r; simp only [truH] at h; exact (Option.some.inj h).symm
  | bl c => cases r; simp only [truH] at h; exact (Option.some.inj h).symm
  | int i => cases r; simp only [truH] at h; exact (Option.some.inj h).symm
  | str s =>
    cases r
    simp only [truH] at h
    split at h
    · rename_i hz
      refine ⟨by show s.toArray.size ≤ sizeLine; rw [List.size_toArray, ← hl]; exact hz, ?_⟩
      rw [← Option.some.inj h]
      show _ = ((s.toArray.size : Int) != 0)
      rw [List.size_toArray]
      cases s with
      | nil => rfl
      | cons a t =>
        show (!false) = _
        have : ((((a :: t).length : Nat) : Int) != 0) = true := by
          rw [bne_iff_ne]; simp; omega
        rw [this]; rfl
    · cases h
  | tup xs =>
    obtain ⟨a, vs, rfl, hs, rs⟩ := r
    simp only [truH] at h
    split at h
    · exact .inr (.inl ⟨vs, hs, by rw [rs.isEmpty]; exact (Option.some.inj h).symm⟩)
    · cases h
  | ref i =>
    obtain ⟨a, rfl, ha⟩ := r
    simp only [truH] at h
    split at h
    · rename_i xs e
      obtain ⟨vs, h1, rs⟩ := w.obj i a _ ha e
      exact .inl ⟨vs, SqL.of h1, by rw [rs.isEmpty]; exact (Option.some.inj h).symm⟩
    · rename_i xs e
      obtain ⟨ob, vs, h1, rs⟩ := w.obj i a _ ha e
      exact .inl ⟨vs, .inl (.inr ⟨ob, h1⟩), by rw [rs.isEmpty]; exact (Option.some.inj h).symm⟩
    · rename_i kvs e
      exact (w.obj i a _ ha e).elim
    · cases h
  | exc _ => exact r.elim
  | lst _ => cases h
theorem RVs.cut {ds : List D} {vs : List V} (r : RVs K μ H ds vs) (lo hi : Option Int) : RVs K μ H (mcut ds lo hi) (cutV vs lo hi) := by
  unfold mcut cutV
  rw [sIx_eq, sIx_eq, r.len]
  exact (r.drop _).take _
end
/-- a slice of MI's as a reading -/
def r3 (K : KW) (f : D → Option Int → Option Int → Mo D) : V → Option Int → Option Int → Hp → VK → Prop := fun x lo hi H Q => ∃ (W : WN) (μ : List Addr) (η : Hv) (d : D), Wd K μ H η ∧ RV K μ H d x ∧ EV K W μ H Q (f d lo hi η)
section
variable {X : Cx} {cl ex : Nat → Addr}
theorem slM : SlR X (r3 (kw X cl ex) slcM) := by
  intro pins s σ H x v vl vu lo hi sl Q I rx hs pl pu ⟨W, μ, η, d, wd, rd, h⟩
  have hl := lim_eq
  cases d with
  | tup xs =>
    obtain ⟨a, vs, rfl, ha, rs⟩ := rd
    simp only [slcM] at h
    refine sl_tupA pins s σ H _ v vl vu lo hi sl Q I rx hs pl pu ⟨a, vs, rfl, ha, fun hw => ?_, fun _ p hp => h.tup wd (rs.cut lo hi) hp⟩
    refine h.same wd ⟨a, vs, rfl, ha, ?_⟩
    have e : cutV vs lo hi = vs := by
      unfold cutV
      rw [hw.1, hw.2, List.drop_zero, Nat.sub_zero, List.take_length]
    have := rs.cut lo hi
    rw [e] at this
    exact this
  | str ss =>
    cases rd
    simp only [slcM] at h
    split at h
    · rename_i hz
      refine sl_str pins s σ H _ v vl vu lo hi sl Q I rx hs pl pu ⟨⟨ss.toArray⟩, rfl, by show ss.toArray.size ≤ sizeLine; rw [List.size_toArray, ← hl]; exact hz, h.same wd ?_⟩
      show V.str (cutS ⟨ss.toArray⟩ lo hi) = V.str ⟨(mcut ss lo hi).toArray⟩
      unfold cutS mcut
      rw [sIx_eq, sIx_eq]
      simp [Str.length]
    · exact h.elim
  | ref i =>
    have key : ∀ xs, MI.getL η (.ref i) = some xs → EV (kw X cl ex) W μ H Q (allocM (.lst (mcut xs lo hi)) η) → ∃ T id, typeLookup (.type T) "__getitem__" = pure (some (.builtin id)) ∧ s.TypeIs v T ∧ wpAny (model X.prog X.w) X.A (getItem v (.ref sl)) (EP X pins σ Q) X.xe s := fun xs hx hq => by
      obtain ⟨a, vs, rfl, ha, rs⟩ := wd.getL rd hx
      exact sl_list pins s σ H _ v vl vu lo hi sl Q I rx hs pl pu ⟨a, vs, rfl, ha, fun p hp => hq.lst wd (rs.cut lo hi) hp⟩
    simp only [slcM] at h
    split at h
    · rename_i xs e
      exact key xs (by unfold MI.getL; simp only [e]) h
    · rename_i xs e
      exact key xs (by unfold MI.getL; simp only [e]) h
    · exact h.elim
  | non => exact h.elim
  | bl _ => exact h.elim
  | int _ => exact h.elim
  | exc _ => exact h.elim
  | lst _ => exact h.elim
end
/-- a call of MI's as a reading -/
def rB (K : KW) (f : List D → Mo D) : List V → Hp → VK → Prop := fun xs H Q => ∃ (W : WN) (μ : List Addr) (η : Hv) (ds : List D), Wd K μ H η ∧ RVs K μ H ds xs ∧ EV K W μ H Q (f ds η)
section
variable {K : KW} {μ : List Addr} {H : Hp} {η : Hv}
theorem RVs.one_inv {d : D} {xs : List V} (r : RVs K μ H [d] xs) : ∃ x, xs = [x] ∧ RV K μ H d x := by
  obtain ⟨v, r', rfl, h1, h2⟩ := r
  rw [show r' = [] from h2]
  exact ⟨v, rfl, h1⟩
theorem RVs.two_inv {d e : D} {xs : List V} (r : RVs K μ H [d, e] xs) : ∃ x y, xs = [x, y] ∧ RV K μ H d x ∧ RV K μ H e y := by
  obtain ⟨v, r', rfl, h1, h2⟩ := r
  obtain ⟨w, rfl, h3⟩ := RVs.one_inv h2
  exact ⟨v, w, rfl, h1, h3⟩
theorem EV.look {W : WN} {Q : VK} {f : Hv → Option D} (w : Wd K μ H η) (h : EV K W μ H Q (lookM f η)) : ∃ d, f η = some d ∧ ∀ v, RV K μ H d v → Q v H := EndG.look w h
theorem seq_ok (w : Wd K μ H η) {d : D} {x : V} {ds : List D} (r : RV K μ H d x) (h : seqH d η = some ds) : ∃ a vs, x = .ref a ∧ RVs K μ H ds vs ∧ ((MI.getL η d = some ds ∧ SqL K.K H a vs) ∨ (d = .tup ds ∧ SqT K.K H a vs)) := by
  cases d with
  | tup xs =>
    cases h
    obtain ⟨a, vs, e, hs, rs⟩ := r
    exact ⟨a, vs, e, rs, .inr ⟨rfl, hs⟩⟩
  | _ =>
    simp only [seqH] at h
    obtain ⟨a, vs, e, hs, rs⟩ := w.getL r h
    exact ⟨a, vs, e, rs, .inl ⟨h, hs⟩⟩
theorem intsOf_map : ∀ {ds : List D} {ns : List Int}, intsOf ds = some ns → ds = ns.map .int
  | [], ns, h => by cases h; rfl
  | .int i :: r, ns, h => by
    rw [intsOf] at h
    cases q : intsOf r with
    | none => rw [q] at h; cases h
    | some ms => rw [q] at h; cases h; rw [intsOf_map q]; rfl
  | .non :: _, _, h => nomatch h
  | .bl _ :: _, _, h => nomatch h
  | .str _ :: _, _, h => nomatch h
  | .tup _ :: _, _, h => nomatch h
  | .ref _ :: _, _, h => nomatch h
  | .exc _ :: _, _, h => nomatch h
  | .lst _ :: _, _, h => nomatch h
theorem boolsOf_map : ∀ {ds : List D} {ns : List Bool}, boolsOf ds = some ns → ds = ns.map .bl
  | [], ns, h => by cases h; rfl
  | .bl i :: r, ns, h => by
    rw [boolsOf] at h
    cases q : boolsOf r with
    | none => rw [q] at h; cases h
    | some ms => rw [q] at h; cases h; rw [boolsOf_map q]; rfl
  | .non :: _, _, h => nomatch h
  | .int _ :: _, _, h => nomatch h
  | .str _ :: _, _, h => nomatch h
  | .tup _ :: _, _, h => nomatch h
  | .ref _ :: _, _, h => nomatch h
  | .exc _ :: _, _, h => nomatch h
  | .lst _ :: _, _, h => nomatch h
theorem strsOf_map : ∀ {ds : List D} {ns : List (List Nat)}, strsOf ds = some ns → ds = ns.map .str
  | [], ns, h => by cases h; rfl
  | .str i :: r, ns, h => by
    rw [strsOf] at h
    cases q : strsOf r with
    | none => rw [q] at h; cases h
    | some ms => rw [q] at h; cases h; rw [strsOf_map q]; rfl
  | .non :: _, _, h => nomatch h
  | .int _ :: _, _, h => nomatch h
  | .bl _ :: _, _, h => nomatch h
  | .tup _ :: _, _, h => nomatch h
  | .ref _ :: _, _, h => nomatch h
  | .exc _ :: _, _, h => nomatch h
  | .lst _ :: _, _, h => nomatch h
theorem RVs.strs : ∀ {ns : List (List Nat)} {vs : List V}, RVs K μ H (ns.map D.str) vs → vs = (ns.map fun s => (⟨s.toArray⟩ : Str)).map V.str
  | [], _, h => h
  | n :: ns, _, h => by
    obtain ⟨v, r, rfl, h1, h2⟩ := h
    rw [show v = .str ⟨n.toArray⟩ from h1, RVs.strs h2]; rfl
theorem sortI_spec (ns : List Int) : (sortI ns).Perm ns ∧ (sortI ns).Pairwise (· ≤ ·) := by
  refine ⟨List.mergeSort_perm _ _, ?_⟩
  have := List.pairwise_mergeSort (le := leI) (by intro a b c; simp [leI]; omega) (by intro a b; simp [leI]; omega) ns
  exact this.imp fun h => by simpa [leI] using h
theorem sorted_unique {as bs : List Int} (h1 : as.Perm bs) (h2 : as.Pairwise (· ≤ ·)) (h3 : bs.Pairwise (· ≤ ·)) : as = bs :=
  h1.eq_of_pairwise (fun a b _ _ x y => Int.le_antisymm x y) h2 h3
end
section
variable {X : Cx} {cl ex : Nat → Addr}
theorem cM_len : CallR X (.builtin "len") (rB (kw X cl ex) (bltM .len)) := by
  intro pins s σ H xs us Q I r ⟨W, μ, η, ds, wd, rd, h⟩
  have hl := lim_eq
  match ds, rd, h with
  | [], _, h => exact h.elim
  | _ :: _ :: _, _, h => exact h.elim
  | [d], rd, h =>
    obtain ⟨x, rfl, rx⟩ := rd.one_inv
    simp only [bltM] at h
    obtain ⟨c, h1, q⟩ := h.look wd
    cases e : lenH d η with
    | none => rw [e] at h1; cases h1
    | some n =>
      rw [e] at h1
      cases h1
      refine call_len pins s σ H _ us Q I r ⟨x, n, rfl, ?_, q _ rfl⟩
      cases d with
      | str ss =>
        cases rx
        simp only [lenH] at e
        split at e
        · rename_i hz
          cases e
          exact ⟨by show ss.toArray.size ≤ sizeLine; rw [List.size_toArray, ← hl]; exact hz, by show _ = ss.toArray.size; rw [List.size_toArray]⟩
        · cases e
      | tup ys =>
        obtain ⟨a, vs, rfl, hs, rs⟩ := rx
        simp only [lenH] at e
        split at e
        · cases e
          exact .inr ⟨vs, hs, rs.len.symm⟩
        · cases e
      | lst ys =>
        obtain ⟨a, vs, rfl, hs, rs⟩ := rx
        simp only [lenH] at e
        split at e
        · cases e
          exact .inl ⟨vs, hs.list, rs.len.symm⟩
        · cases e
      | ref i =>
        obtain ⟨a, rfl, ha⟩ := rx
        simp only [lenH] at e
        split at e
        · rename_i ys e1
          cases e
          obtain ⟨vs, hs, rs⟩ := wd.obj i a _ ha e1
          exact .inl ⟨vs, SqL.of hs, rs.len.symm⟩
        · rename_i ys e1
          cases e
          obtain ⟨ob, vs, hs, rs⟩ := wd.obj i a _ ha e1
          exact .inl ⟨vs, .inl (.inr ⟨ob, hs⟩), rs.len.symm⟩
        · rename_i ys e1
          exact (wd.obj i a _ ha e1).elim
        · cases e
      | _ => simp [lenH] at e
theorem cM_tuple : CallR X (.type "tuple") (rB (kw X cl ex) (bltM .tuple)) := by
  intro pins s σ H xs us Q I r ⟨W, μ, η, ds, wd, rd, h⟩
  match ds, rd, h with
  | [], _, h => exact h.elim
  | _ :: _ :: _, _, h => exact h.elim
  | [d], rd, h =>
    obtain ⟨x, rfl, rx⟩ := rd.one_inv
    simp only [bltM, lookM] at h
    cases e : seqH d η with
    | none => rw [e] at h; exact h.elim
    | some ys =>
      rw [e] at h
      simp only [Option.map_some] at h
      obtain ⟨a, vs, rfl, rs, hh⟩ := seq_ok wd rx e
      refine call_tuple_of pins s σ H _ us Q I r ⟨a, vs, rfl, ?_⟩
      rcases hh with ⟨_, hs⟩ | ⟨_, hs⟩
      · exact .inl ⟨hs, fun p hp => h.tup wd rs hp⟩
      · exact .inr ⟨hs, h.same wd ⟨a, vs, rfl, hs, rs⟩⟩
theorem cM_list : CallR X (.type "list") (rB (kw X cl ex) (bltM .list)) := by
  intro pins s σ H xs us Q I r ⟨W, μ, η, ds, wd, rd, h⟩
  match ds, rd, h with
  | [], _, h => exact h.elim
  | _ :: _ :: _, _, h => exact h.elim
  | [d], rd, h =>
    obtain ⟨x, rfl, rx⟩ := rd.one_inv
    simp only [bltM] at h
    cases e : seqH d η with
    | some ys =>
      rw [e] at h
      obtain ⟨a, vs, rfl, rs, hh⟩ := seq_ok wd rx e
      refine call_list_of pins s σ H _ us Q I r ⟨a, vs, rfl, hh.imp (·.2) (·.2), fun p hp => h.lst wd rs hp⟩
    | none =>
      rw [e] at h
      simp only at h
      split at h
      · rename_i kvs g
        unfold MI.getD at g
        split at g
        · rename_i i
          obtain ⟨a, rfl, ha⟩ := rx
          split at g
          · rename_i kvs' e1
            exact (wd.obj i a _ ha e1).elim
          · cases g
        · cases g
      · exact h.elim
theorem cM_int : CallR X (.type "int") (rB (kw X cl ex) (bltM .int)) := by
  intro pins s σ H xs us Q I r ⟨W, μ, η, ds, wd, rd, h⟩
  match ds, rd, h with
  | [], _, h => exact h.elim
  | a :: _ :: _, _, h => cases a <;> exact h.elim
  | [d], rd, h =>
    obtain ⟨x, rfl, rx⟩ := rd.one_inv
    cases d <;> simp only [bltM, badM] at h <;> try exact h.elim
    · cases rx
      exact call_int1 pins s σ H _ us Q I r (.inr ⟨_, rfl, h.same wd rfl⟩)
    · cases rx
      exact call_int1 pins s σ H _ us Q I r (.inl ⟨_, rfl, h.same wd rfl⟩)
theorem cM_str : CallR X (.type "str") (rB (kw X cl ex) (bltM .str)) := by
  intro pins s σ H xs us Q I r ⟨W, μ, η, ds, wd, rd, h⟩
  match ds, rd, h with
  | [], _, h => exact h.elim
  | a :: _ :: _, _, h => cases a <;> exact h.elim
  | [d], rd, h =>
    obtain ⟨x, rfl, rx⟩ := rd.one_inv
    cases d <;> simp only [bltM, badM] at h <;> try exact h.elim
    cases rx
    split at h
    · rename_i hz
      refine call_str_int pins s σ H _ us Q I r ⟨_, rfl, by omega, h.same wd ?_⟩
      show V.str (Str.ofString _) = _
      rw [Str.ofString_eq_toList]
      rfl
    · exact h.elim
theorem cM_min (hc : X.calm = true) : CallR X (.builtin "min") (rB (kw X cl ex) (bltM .min)) := by
  intro pins s σ H xs us Q I r ⟨W, μ, η, ds, wd, rd, h⟩
  match ds, rd, h with
  | [], _, h => exact h.elim
  | a :: b :: _ :: _, _, h => cases a <;> cases b <;> exact h.elim
  | [d, e], rd, h =>
    obtain ⟨x, y, rfl, rx, ry⟩ := rd.two_inv
    cases d <;> cases e <;> simp only [bltM, badM] at h <;> try exact h.elim
    cases rx; cases ry
    exact call_min2 hc pins s σ H _ us Q I r ⟨_, _, rfl, h.same wd rfl⟩
  | [d], rd, h =>
    obtain ⟨x, rfl, rx⟩ := rd.one_inv
    simp only [bltM] at h
    obtain ⟨c, h1, q⟩ := h.look wd
    cases e : MI.getL η d with
    | none => rw [e] at h1; cases h1
    | some ys =>
      rw [e] at h1
      simp only [Option.bind_some] at h1
      cases e2 : intsOf ys with
      | none => rw [e2] at h1; cases h1
      | some ns =>
        rw [e2] at h1
        simp only [Option.bind_some] at h1
        have em := intsOf_map e2
        subst em
        obtain ⟨a, vs, rfl, hs, rs⟩ := wd.getL rx e
        rw [rs.ints] at hs
        cases ns with
        | nil => cases h1
        | cons i t =>
          cases h1
          refine cr_min hc pins s σ H _ us Q I r ⟨a, i :: t, rfl, hs, Nat.succ_pos _, fun m hm hle => q _ ?_⟩
          show V.int m = V.int (minI i t)
          have key : ∀ (t : List Int) (i : Int), minI i t ∈ i :: t ∧ ∀ y ∈ i :: t, minI i t ≤ y := by
            intro t
            induction t with
            | nil => intro i; simp [minI]
            | cons b t ih =>
              intro i
              have hst : minI i (b :: t) = minI (if b < i then b else i) t := rfl
              obtain ⟨k1, k2⟩ := ih (if b < i then b else i)
              rw [hst]
              have hz : (if b < i then b else i) ≤ i ∧ (if b < i then b else i) ≤ b ∧ ((if b < i then b else i) = i ∨ (if b < i then b else i) = b) := by split <;> omega
              generalize (if b < i then b else i) = z at k1 k2 hz
              refine ⟨?_, ?_⟩
              · rcases List.mem_cons.mp k1 with y | y
                · rw [y]; rcases hz.2.2 with e | e <;> simp [e]
                · simp [y]
              · intro y hy
                have k3 := k2 z List.mem_cons_self
                rcases List.mem_cons.mp hy with y' | hy
                · omega
                · rcases List.mem_cons.mp hy with y' | hy
                  · omega
                  · exact k2 y (List.mem_cons_of_mem _ hy)
          have k := key t i
          have := hle _ k.1
          have := k.2 _ hm
          congr 1
          omega
theorem cM_max (hc : X.calm = true) : CallR X (.builtin "max") (rB (kw X cl ex) (bltM .max)) := by
  intro pins s σ H xs us Q I r ⟨W, μ, η, ds, wd, rd, h⟩
  match ds, rd, h with
  | [], _, h => exact h.elim
  | a :: b :: _ :: _, _, h => cases a <;> cases b <;> exact h.elim
  | [d, e], rd, h =>
    obtain ⟨x, y, rfl, rx, ry⟩ := rd.two_inv
    cases d <;> cases e <;> simp only [bltM, badM] at h <;> try exact h.elim
    cases rx; cases ry
    exact call_max2 hc pins s σ H _ us Q I r ⟨_, _, rfl, h.same wd rfl⟩
  | [d], rd, h =>
    obtain ⟨x, rfl, rx⟩ := rd.one_inv
    simp only [bltM] at h
    obtain ⟨c, h1, q⟩ := h.look wd
    cases e : MI.getL η d with
    | none => rw [e] at h1; cases h1
    | some ys =>
      rw [e] at h1
      simp only [Option.bind_some] at h1
      cases e2 : intsOf ys with
      | none => rw [e2] at h1; cases h1
      | some ns =>
        rw [e2] at h1
        simp only [Option.bind_some] at h1
        have em := intsOf_map e2
        subst em
        obtain ⟨a, vs, rfl, hs, rs⟩ := wd.getL rx e
        rw [rs.ints] at hs
        cases ns with
        | nil => cases h1
        | cons i t =>
          cases h1
          refine cr_max hc pins s σ H _ us Q I r ⟨a, i :: t, rfl, hs, Nat.succ_pos _, fun m hm hle => q _ ?_⟩
          show V.int m = V.int (maxI i t)
          have key : ∀ (t : List Int) (i : Int), maxI i t ∈ i :: t ∧ ∀ y ∈ i :: t, y ≤ maxI i t := by
            intro t
            induction t with
            | nil => intro i; simp [maxI]
            | cons b t ih =>
              intro i
              have hst : maxI i (b :: t) = maxI (if i < b then b else i) t := rfl
              obtain ⟨k1, k2⟩ := ih (if i < b then b else i)
              rw [hst]
              have hz : i ≤ (if i < b then b else i) ∧ b ≤ (if i < b then b else i) ∧ ((if i < b then b else i) = i ∨ (if i < b then b else i) = b) := by split <;> omega
              generalize (if i < b then b else i) = z at k1 k2 hz
              refine ⟨?_, ?_⟩
              · rcases List.mem_cons.mp k1 with y | y
                · rw [y]; rcases hz.2.2 with e | e <;> simp [e]
                · simp [y]
              · intro y hy
                have k3 := k2 z List.mem_cons_self
                rcases List.mem_cons.mp hy with y' | hy
                · omega
                · rcases List.mem_cons.mp hy with y' | hy
                  · omega
                  · exact k2 y (List.mem_cons_of_mem _ hy)
          have k := key t i
          have := hle _ k.1
          have := k.2 _ hm
          congr 1
          omega
theorem cM_sum (hc : X.calm = true) : CallR X (.builtin "sum") (rB (kw X cl ex) (bltM .sum)) := by
  intro pins s σ H xs us Q I r ⟨W, μ, η, ds, wd, rd, h⟩
  match ds, rd, h with
  | [], _, h => exact h.elim
  | _ :: _ :: _, _, h => exact h.elim
  | [d], rd, h =>
    obtain ⟨x, rfl, rx⟩ := rd.one_inv
    simp only [bltM] at h
    obtain ⟨c, h1, q⟩ := h.look wd
    cases e : MI.getL η d with
    | none => rw [e] at h1; cases h1
    | some ys =>
      rw [e] at h1
      simp only [Option.bind_some] at h1
      cases e2 : intsOf ys with
      | none => rw [e2] at h1; cases h1
      | some ns =>
        rw [e2] at h1
        cases h1
        have em := intsOf_map e2
        subst em
        obtain ⟨a, vs, rfl, hs, rs⟩ := wd.getL rx e
        rw [rs.ints] at hs
        exact cr_sum hc pins s σ H _ us Q I r ⟨a, ns, rfl, hs, q _ rfl⟩
theorem cM_all (hc : X.calm = true) : CallR X (.builtin "all") (rB (kw X cl ex) (bltM .all)) := by
  intro pins s σ H xs us Q I r ⟨W, μ, η, ds, wd, rd, h⟩
  match ds, rd, h with
  | [], _, h => exact h.elim
  | _ :: _ :: _, _, h => exact h.elim
  | [d], rd, h =>
    obtain ⟨x, rfl, rx⟩ := rd.one_inv
    simp only [bltM] at h
    obtain ⟨c, h1, q⟩ := h.look wd
    cases e : MI.getL η d with
    | none => rw [e] at h1; cases h1
    | some ys =>
      rw [e] at h1
      simp only [Option.bind_some] at h1
      cases e2 : boolsOf ys with
      | none => rw [e2] at h1; cases h1
      | some ns =>
        rw [e2] at h1
        cases h1
        have em := boolsOf_map e2
        subst em
        obtain ⟨a, vs, rfl, hs, rs⟩ := wd.getL rx e
        rw [rs.bools] at hs
        exact cr_all hc pins s σ H _ us Q I r ⟨a, ns, rfl, hs, q _ rfl⟩
theorem cM_any (hc : X.calm = true) : CallR X (.builtin "any") (rB (kw X cl ex) (bltM .any)) := by
  intro pins s σ H xs us Q I r ⟨W, μ, η, ds, wd, rd, h⟩
  match ds, rd, h with
  | [], _, h => exact h.elim
  | _ :: _ :: _, _, h => exact h.elim
  | [d], rd, h =>
    obtain ⟨x, rfl, rx⟩ := rd.one_inv
    simp only [bltM] at h
    obtain ⟨c, h1, q⟩ := h.look wd
    cases e : MI.getL η d with
    | none => rw [e] at h1; cases h1
    | some ys =>
      rw [e] at h1
      simp only [Option.bind_some] at h1
      cases e2 : boolsOf ys with
      | none => rw [e2] at h1; cases h1
      | some ns =>
        rw [e2] at h1
        cases h1
        have em := boolsOf_map e2
        subst em
        obtain ⟨a, vs, rfl, hs, rs⟩ := wd.getL rx e
        rw [rs.bools] at hs
        exact cr_any hc pins s σ H _ us Q I r ⟨a, ns, rfl, hs, q _ rfl⟩
theorem getS_ok {μ : List Addr} {H : Hp} {η : Hv} (wd : Wd (kw X cl ex) μ H η) {d : D} {x : V} {xs : List D} (rx : RV (kw X cl ex) μ H d x) (h : getS η d = some xs) :
    ∃ (a : Addr) (ns : List Int) (S : Int → Bool), x = .ref a ∧ xs = ns.map .int ∧ ns.Nodup ∧ H a = some (SetO X.w a S ns.length) ∧ ∀ k, S k = decide (k ∈ ns) := by
  unfold getS at h
  split at h
  · rename_i i
    obtain ⟨a, rfl, ha⟩ := rx
    split at h
    · rename_i ys e
      cases h
      obtain ⟨ns, S, h1, h2, h3, h4⟩ := wd.obj i a _ ha e
      exact ⟨a, ns, S, rfl, h1, h2, h3, h4⟩
    · cases h
  · cases h
theorem intsOf_ints : ∀ ns : List Int, intsOf (ns.map D.int) = some ns
  | [] => rfl
  | n :: t => by rw [List.map_cons, intsOf, intsOf_ints t]; rfl
theorem cM_sorted (hc : X.calm = true) : CallR X (.builtin "sorted") (rB (kw X cl ex) (bltM .sorted)) := by
  intro pins s σ H xs us Q I r ⟨W, μ, η, ds, wd, rd, h⟩
  match ds, rd, h with
  | [], _, h => exact h.elim
  | _ :: _ :: _, _, h => exact h.elim
  | [d], rd, h =>
    obtain ⟨x, rfl, rx⟩ := rd.one_inv
    simp only [bltM] at h
    cases e : getS η d with
    | some ys =>
      rw [e] at h
      simp only at h
      obtain ⟨a, ns, S, rfl, rfl, hnd, hs, hS⟩ := getS_ok wd rx e
      have ei := intsOf_ints ns
      rw [ei] at h
      simp only at h
      split at h
      · rename_i h64
        refine cr_sortedSet hc pins s σ H _ us Q I r ⟨a, S, ns.length, rfl, hs, h64, fun ms p hp hm hlen hn => ?_⟩
        have e2 : ms = sortI ns := by
          have h1 := sortI_spec ns
          refine sorted_unique ?_ (hp.imp fun z => Int.le_of_lt z) h1.2
          refine (List.perm_ext_iff_of_nodup (hp.imp fun z => Int.ne_of_lt z) (h1.1.nodup_iff.mpr hnd)).mpr fun k => ?_
          rw [hm k, hS k, h1.1.mem_iff]; simp
        rw [e2]
        exact h.lst wd (RVs.of_ints _) hn
      · exact h.elim
    | none =>
      rw [e] at h
      simp only at h
      cases e1 : MI.getL η d with
      | none => rw [e1] at h; exact h.elim
      | some ys =>
        rw [e1] at h
        simp only at h
        cases e2 : intsOf ys with
        | none => rw [e2] at h; exact h.elim
        | some ns =>
          rw [e2] at h
          simp only at h
          have em := intsOf_map e2
          subst em
          obtain ⟨a, vs, rfl, hs, rs⟩ := wd.getL rx e1
          rw [rs.ints] at hs
          refine cr_sortedI pins s σ H _ us Q I r ⟨a, ns, rfl, hs, fun ms p hp hm hn => ?_⟩
          have e3 : ms = sortI ns := sorted_unique (hp.trans (sortI_spec ns).1.symm) hm (sortI_spec ns).2
          rw [e3]
          exact h.lst wd (RVs.of_ints _) hn
end
end MIS

set_option Elab.async false
set_option linter.all false
set_option maxRecDepth 100000
set_option maxHeartbeats 1000000
/-! MiS6: how readings by MI become the hand layer's. -/
namespace MIS
open PySem PySem.Spec PyProof.Rows L2 MI
abbrev WS := Nat → L2.St → Hp → Prop
section
variable {K : KW} {W : WS} {σ : L2.St} {H : Hp}
theorem conv_bin {ma mb : Rho → Mo D} {op : D → D → Mo D} {Q : VK} (h : tE K W (fun ρ => (ma ρ).bind fun x => (mb ρ).bind fun y => op x y) σ H Q) : tOp (r2 K op) (tE K W ma) (tE K W mb) σ H Q := by
  obtain ⟨μ, η, ρ, wd, re, e⟩ := h
  refine ⟨μ, η, ρ, wd, re, (EndG.bind e).imp fun d η1 μ1 H1 af wd1 e2 v rv => ?_⟩
  refine ⟨μ1, η1, ρ, wd1, re.mono af, (EndG.bind e2).imp fun d2 η2 μ2 H2 af2 wd2 e4 v2 rv2 => ?_⟩
  exact ⟨_, μ2, η2, d, d2, wd2, RV.mono af2 d v rv, rv2, e4⟩
theorem conv_idx {ma mb : Rho → Mo D} {f : D → D → Hv → Option D} {Q : VK} (h : tE K W (fun ρ => (ma ρ).bind fun x => (mb ρ).bind fun y => lookM (f x y)) σ H Q) : tOp (r2h K f) (tE K W ma) (tE K W mb) σ H Q := by
  obtain ⟨μ, η, ρ, wd, re, e⟩ := h
  refine ⟨μ, η, ρ, wd, re, (EndG.bind e).imp fun d η1 μ1 H1 af wd1 e2 v rv => ?_⟩
  refine ⟨μ1, η1, ρ, wd1, re.mono af, (EndG.bind e2).imp fun d2 η2 μ2 H2 af2 wd2 e4 v2 rv2 => ?_⟩
  obtain ⟨c, h1, q⟩ := EndG.look wd2 e4
  exact ⟨μ2, η2, d, d2, c, wd2, RV.mono af2 d v rv, rv2, h1, q⟩
theorem conv_cmp {ma mb : Rho → Mo D} {f : D → D → Hv → Option Bool} {Q : VK} (h : tE K W (fun ρ => (ma ρ).bind fun x => (mb ρ).bind fun y => (lookM (f x y)).bind fun t => .pure (.bl t)) σ H Q) : tOp (r2c K f) (tE K W ma) (tE K W mb) σ H Q := by
  obtain ⟨μ, η, ρ, wd, re, e⟩ := h
  refine ⟨μ, η, ρ, wd, re, (EndG.bind e).imp fun d η1 μ1 H1 af wd1 e2 v rv => ?_⟩
  refine ⟨μ1, η1, ρ, wd1, re.mono af, (EndG.bind e2).imp fun d2 η2 μ2 H2 af2 wd2 e4 v2 rv2 => ?_⟩
  obtain ⟨c, h1, q⟩ := EndG.look wd2 (EndG.bind e4)
  exact ⟨μ2, η2, d, d2, c, wd2, RV.mono af2 d v rv, rv2, h1, EndG.pure wd2 q _ rfl⟩
theorem bind_assoc {α β γ : Type} (m : Mo α) (f : α → Mo β) (g : β → Mo γ) : (m.bind f).bind g = m.bind fun a => (f a).bind g := by
  funext h
  unfold Mo.bind
  cases m h <;> rfl
theorem bl_tru (t : Bool) : (Mo.pure (D.bl t)).bind truM = Mo.pure t := rfl
theorem conv_cmpT {ma mb : Rho → Mo D} {f : D → D → Hv → Option Bool} {Q : Bool → Hp → Prop} (h : tT K W (fun ρ => ((ma ρ).bind fun x => (mb ρ).bind fun y => (lookM (f x y)).bind fun t => .pure (.bl t)).bind truM) σ H Q) : tTest (tOp (r2c K f) (tE K W ma) (tE K W mb)) σ H Q := by
  simp only [bind_assoc, bl_tru] at h
  obtain ⟨μ, η, ρ, wd, re, e⟩ := h
  refine ⟨μ, η, ρ, wd, re, (EndG.bind e).imp fun d η1 μ1 H1 af wd1 e2 v rv => ?_⟩
  refine ⟨μ1, η1, ρ, wd1, re.mono af, (EndG.bind e2).imp fun d2 η2 μ2 H2 af2 wd2 e4 v2 rv2 => ?_⟩
  obtain ⟨c, h1, q⟩ := EndG.look wd2 (EndG.bind e4)
  exact ⟨μ2, η2, d, d2, c, wd2, RV.mono af2 d v rv, rv2, h1, c, rfl, EndG.pure wd2 q⟩
theorem conv_chain {ma mb mc : Rho → Mo D} {f g : D → D → Hv → Option Bool} {Q : VK}
    (h : tE K W (fun ρ => (ma ρ).bind fun x => (mb ρ).bind fun y => (lookM (f x y)).bind fun t => if t = true then (mc ρ).bind fun z => (lookM (g y z)).bind fun u => .pure (.bl u) else .pure (.bl false)) σ H Q) :
    tChain (r2c K f) (r2c K g) (tE K W ma) (tE K W mb) (tE K W mc) σ H Q := by
  obtain ⟨μ, η, ρ, wd, re, e⟩ := h
  refine ⟨μ, η, ρ, wd, re, (EndG.bind e).imp fun d η1 μ1 H1 af wd1 e2 v rv => ?_⟩
  refine ⟨μ1, η1, ρ, wd1, re.mono af, (EndG.bind e2).imp fun d2 η2 μ2 H2 af2 wd2 e4 v2 rv2 => ?_⟩
  obtain ⟨c, h1, q⟩ := EndG.look wd2 (EndG.bind e4)
  refine ⟨μ2, η2, d, d2, c, wd2, RV.mono af2 d v rv, rv2, h1, c, rfl, ?_⟩
  cases c with
  | true =>
    rw [if_pos rfl] at q ⊢
    refine ⟨μ2, η2, ρ, wd2, (re.mono af).mono af2, (EndG.bind q).imp fun d3 η3 μ3 H3 af3 wd3 e5 v3 rv3 => ?_⟩
    obtain ⟨c3, h3, q3⟩ := EndG.look wd3 (EndG.bind e5)
    exact ⟨μ3, η3, d2, d3, c3, wd3, RV.mono af3 d2 v2 rv2, rv3, h3, EndG.pure wd3 q3 _ rfl⟩
  | false =>
    rw [if_neg Bool.false_ne_true] at q ⊢
    exact EndG.pure wd2 q _ rfl
theorem conv_truth {ma : Rho → Mo D} {Q : Bool → Hp → Prop} (h : tT K W (fun ρ => (ma ρ).bind truM) σ H Q) : tE K W ma σ H fun x H' => ∃ k, TruV K.K x H' k ∧ Q k H' := by
  obtain ⟨μ, η, ρ, wd, re, e⟩ := h
  refine ⟨μ, η, ρ, wd, re, (EndG.bind e).imp fun d η1 μ1 H1 af wd1 e2 v rv => ?_⟩
  obtain ⟨b, h1, q⟩ := EndG.look wd1 e2
  exact ⟨b, truth_ok wd1 rv h1, q⟩
theorem conv_not {ma : Rho → Mo D} {Q : VK} (h : tE K W (fun ρ => ((ma ρ).bind truM).bind fun b => .pure (.bl !b)) σ H Q) : tNotT K.K (tE K W ma) σ H Q := by
  obtain ⟨μ, η, ρ, wd, re, e⟩ := h
  refine ⟨μ, η, ρ, wd, re, (EndG.bind (EndG.bind e)).imp fun d η1 μ1 H1 af wd1 e2 v rv => ?_⟩
  obtain ⟨b, h1, q⟩ := EndG.look wd1 e2
  exact ⟨b, truth_ok wd1 rv h1, EndG.pure wd1 q _ rfl⟩
theorem conv_and {ma mb : Rho → Mo D} {Q : VK} (h : tE K W (fun ρ => (ma ρ).bind fun x => (truM x).bind fun t => if t = true then mb ρ else .pure x) σ H Q) : tAndT K.K (tE K W ma) (tE K W mb) σ H Q := by
  obtain ⟨μ, η, ρ, wd, re, e⟩ := h
  refine ⟨μ, η, ρ, wd, re, (EndG.bind e).imp fun d η1 μ1 H1 af wd1 e2 v rv => ?_⟩
  obtain ⟨b, h1, q⟩ := EndG.look wd1 (EndG.bind e2)
  refine ⟨b, truth_ok wd1 rv h1, ?_⟩
  cases b with
  | true =>
    rw [if_pos rfl] at q ⊢
    exact ⟨μ1, η1, ρ, wd1, re.mono af, q⟩
  | false =>
    rw [if_neg Bool.false_ne_true] at q ⊢
    exact EndG.pure wd1 q v rv
theorem conv_or {ma mb : Rho → Mo D} {Q : VK} (h : tE K W (fun ρ => (ma ρ).bind fun x => (truM x).bind fun t => if t = true then .pure x else mb ρ) σ H Q) : tOrT K.K (tE K W ma) (tE K W mb) σ H Q := by
  obtain ⟨μ, η, ρ, wd, re, e⟩ := h
  refine ⟨μ, η, ρ, wd, re, (EndG.bind e).imp fun d η1 μ1 H1 af wd1 e2 v rv => ?_⟩
  obtain ⟨b, h1, q⟩ := EndG.look wd1 (EndG.bind e2)
  refine ⟨b, truth_ok wd1 rv h1, ?_⟩
  cases b with
  | true =>
    rw [if_pos rfl] at q ⊢
    exact EndG.pure wd1 q v rv
  | false =>
    rw [if_neg Bool.false_ne_true] at q ⊢
    exact ⟨μ1, η1, ρ, wd1, re.mono af, q⟩
theorem conv_notT {ma : Rho → Mo D} {Q : Bool → Hp → Prop} (h : tT K W (fun ρ => (((ma ρ).bind truM).bind fun b => .pure (.bl !b)).bind truM) σ H Q) : tNot (tT K W (fun ρ => (ma ρ).bind truM)) σ H Q := by
  obtain ⟨μ, η, ρ, wd, re, e⟩ := h
  refine ⟨μ, η, ρ, wd, re, (EndG.bind (EndG.bind e)).imp fun b η1 μ1 H1 af wd1 e2 => ?_⟩
  obtain ⟨c, h1, q⟩ := EndG.look wd1 (EndG.pure wd1 e2)
  have : (!b) = c := Option.some.inj h1
  rw [this]; exact q
theorem conv_andT {ma mb : Rho → Mo D} {Q : Bool → Hp → Prop} (h : tT K W (fun ρ => ((ma ρ).bind fun x => (truM x).bind fun t => if t = true then mb ρ else .pure x).bind truM) σ H Q) :
    tAnd (tT K W (fun ρ => (ma ρ).bind truM)) (tT K W (fun ρ => (mb ρ).bind truM)) σ H Q := by
  obtain ⟨μ, η, ρ, wd, re, e⟩ := h
  refine ⟨μ, η, ρ, wd, re, ?_⟩
  simp only [Mo.bind, truM, lookM] at e ⊢
  cases r : ma ρ η with
  | bad => rw [r] at e; exact e.elim
  | ex c η1 => rw [r] at e; exact e
  | ok x η1 =>
    rw [r] at e
    simp only at e ⊢
    cases t : truH x η1 with
    | none => rw [t] at e; exact e.elim
    | some b =>
      rw [t] at e
      simp only at e ⊢
      intro μ1 H1 af wd1
      cases b with
      | true =>
        rw [if_pos rfl] at e ⊢
        exact ⟨μ1, η1, ρ, wd1, re.mono af, e.rebase af⟩
      | false =>
        simp only [Bool.false_eq_true, if_false, Mo.pure, t] at e ⊢
        exact e μ1 H1 af wd1
theorem conv_orT {ma mb : Rho → Mo D} {Q : Bool → Hp → Prop} (h : tT K W (fun ρ => ((ma ρ).bind fun x => (truM x).bind fun t => if t = true then .pure x else mb ρ).bind truM) σ H Q) :
    tOr (tT K W (fun ρ => (ma ρ).bind truM)) (tT K W (fun ρ => (mb ρ).bind truM)) σ H Q := by
  obtain ⟨μ, η, ρ, wd, re, e⟩ := h
  refine ⟨μ, η, ρ, wd, re, ?_⟩
  simp only [Mo.bind, truM, lookM] at e ⊢
  cases r : ma ρ η with
  | bad => rw [r] at e; exact e.elim
  | ex c η1 => rw [r] at e; exact e
  | ok x η1 =>
    rw [r] at e
    simp only at e ⊢
    cases t : truH x η1 with
    | none => rw [t] at e; exact e.elim
    | some b =>
      rw [t] at e
      simp only at e ⊢
      intro μ1 H1 af wd1
      cases b with
      | false =>
        simp only [Bool.false_eq_true, if_false] at e ⊢
        exact ⟨μ1, η1, ρ, wd1, re.mono af, e.rebase af⟩
      | true =>
        simp only [if_true, Mo.pure, t] at e ⊢
        exact e μ1 H1 af wd1
theorem conv_ife {mt : Rho → Mo Bool} {ma mb : Rho → Mo D} {Q : VK} (h : tE K W (fun ρ => (mt ρ).bind fun v => if v = true then ma ρ else mb ρ) σ H Q) : tIf (tT K W mt) (tE K W ma) (tE K W mb) σ H Q := by
  obtain ⟨μ, η, ρ, wd, re, e⟩ := h
  refine ⟨μ, η, ρ, wd, re, (EndG.bind e).imp fun b η1 μ1 H1 af wd1 e2 => ?_⟩
  cases b with
  | true => rw [if_pos rfl] at e2 ⊢; exact ⟨μ1, η1, ρ, wd1, re.mono af, e2⟩
  | false => rw [if_neg Bool.false_ne_true] at e2 ⊢; exact ⟨μ1, η1, ρ, wd1, re.mono af, e2⟩
theorem conv_neg {ma : Rho → Mo D} {Q : VK} (h : tE K W (fun ρ => (ma ρ).bind fun x => (getI x).bind fun i => .pure (.int (-i))) σ H Q) : tUn (rU fun i => V.int (-i)) (tE K W ma) σ H Q := by
  obtain ⟨μ, η, ρ, wd, re, e⟩ := h
  refine ⟨μ, η, ρ, wd, re, (EndG.bind e).imp fun d η1 μ1 H1 af wd1 e2 v rv => ?_⟩
  cases d <;> first | exact (EndG.bind e2).elim | skip
  cases rv
  exact ⟨_, rfl, EndG.pure wd1 (EndG.pure wd1 (EndG.bind e2)) _ rfl⟩
theorem conv_loc {i : Nat} {Q : VK} (h : tE K W (fun ρ => locM ρ i) σ H Q) : tVar i σ H Q := by
  obtain ⟨μ, η, ρ, wd, re, e⟩ := h
  unfold locM at e
  cases g : ρ[i]? with
  | none => simp only [g] at e; exact e.elim
  | some o =>
    cases o with
    | none => simp only [g] at e; exact e.elim
    | some d =>
      simp only [g] at e
      obtain ⟨v, h1, h2⟩ := re.get i d g
      exact ⟨v, h1, EndG.pure wd e v h2⟩
theorem conv_cst {d : D} {v : V} {Q : VK} (hr : ∀ μ H, RV K μ H d v) (h : tE K W (fun _ => .pure d) σ H Q) : tC v σ H Q := by
  obtain ⟨μ, η, ρ, wd, re, e⟩ := h
  exact EndG.pure wd e v (hr μ H)
theorem conv_tup {ms : Rho → Mo (List D)} {Q : VK} (hz : ∀ ρ η ds η', ms ρ η = .ok ds η' → ds.length ≤ lim) (h : tE K W (fun ρ => (ms ρ).bind fun ds => .pure (.tup ds)) σ H Q) : tTup (tA K W ms) σ H Q := by
  obtain ⟨μ, η, ρ, wd, re, e⟩ := h
  refine ⟨μ, η, ρ, wd, re, ?_⟩
  have e1 := EndG.bind e
  cases r : ms ρ η with
  | bad => rw [r] at e1; exact e1.elim
  | ex c η1 => rw [r] at e1; exact e1
  | ok ds η1 =>
    rw [r] at e1
    intro μ1 H1 af wd1 vs rs
    refine ⟨by rw [rs.len, ← lim_eq]; exact hz _ _ _ _ r, fun p hp => EV.tup (e1 μ1 H1 af wd1) wd1 rs hp⟩
theorem conv_lst {ms : Rho → Mo (List D)} {Q : VK} (hz : ∀ ρ η ds η', ms ρ η = .ok ds η' → ds.length ≤ lim) (h : tE K W (fun ρ => (ms ρ).bind fun ds => allocM (.lst ds)) σ H Q) : tLst (tA K W ms) σ H Q := by
  obtain ⟨μ, η, ρ, wd, re, e⟩ := h
  refine ⟨μ, η, ρ, wd, re, ?_⟩
  have e1 := EndG.bind e
  cases r : ms ρ η with
  | bad => rw [r] at e1; exact e1.elim
  | ex c η1 => rw [r] at e1; exact e1
  | ok ds η1 =>
    rw [r] at e1
    intro μ1 H1 af wd1 vs rs
    refine ⟨by rw [rs.len, ← lim_eq]; exact hz _ _ _ _ r, fun p hp => EV.lst (e1 μ1 H1 af wd1) wd1 rs hp⟩
theorem conv_nil {Q : List V → Hp → Prop} (h : tA K W (fun _ => .pure []) σ H Q) : tNil σ H Q := by
  obtain ⟨μ, η, ρ, wd, re, e⟩ := h
  exact EndG.pure wd e [] rfl
theorem conv_cons {ma : Rho → Mo D} {ms : Rho → Mo (List D)} {Q : List V → Hp → Prop} (h : tA K W (fun ρ => (ma ρ).bind fun d => (ms ρ).bind fun ds => .pure (d :: ds)) σ H Q) : tCons (tE K W ma) (tA K W ms) σ H Q := by
  obtain ⟨μ, η, ρ, wd, re, e⟩ := h
  refine ⟨μ, η, ρ, wd, re, (EndG.bind e).imp fun d η1 μ1 H1 af wd1 e2 v rv => ?_⟩
  refine ⟨μ1, η1, ρ, wd1, re.mono af, (EndG.bind e2).imp fun ds η2 μ2 H2 af2 wd2 e4 vs rs => ?_⟩
  exact EndG.pure wd2 e4 _ ⟨v, vs, rfl, RV.mono af2 d v rv, rs⟩
theorem conv_B {ms : Rho → Mo (List D)} {f : List D → Mo D} {Q : VK} (h : tE K W (fun ρ => (ms ρ).bind fun ds => f ds) σ H Q) : tCB (rB K f) (tA K W ms) σ H Q := by
  obtain ⟨μ, η, ρ, wd, re, e⟩ := h
  exact ⟨μ, η, ρ, wd, re, (EndG.bind e).imp fun ds η1 μ1 H1 af wd1 e2 vs rs => ⟨_, μ1, η1, ds, wd1, rs, e2⟩⟩
def tP (K : KW) (W : WS) (m : Rho → Mo (Option Int)) : TO := fun σ H Q => ∃ μ η ρ, Wd K μ H η ∧ RE K μ H ρ σ ∧ EndG K (fun c H' => W c σ H') μ H (fun o _ _ H' => Q o H') (m ρ η)
theorem conv_pnone {Q : Option Int → Hp → Prop} (h : tP K W (fun _ => .pure none) σ H Q) : tNoPart σ H Q := by
  obtain ⟨μ, η, ρ, wd, re, e⟩ := h
  exact EndG.pure wd e
theorem conv_psome {ma : Rho → Mo D} {Q : Option Int → Hp → Prop} (h : tP K W (fun ρ => (ma ρ).bind fun d => (getI d).bind fun i => .pure (some i)) σ H Q) : tPart (tE K W ma) σ H Q := by
  obtain ⟨μ, η, ρ, wd, re, e⟩ := h
  refine ⟨μ, η, ρ, wd, re, (EndG.bind e).imp fun d η1 μ1 H1 af wd1 e2 v rv => ?_⟩
  cases d <;> first | exact (EndG.bind e2).elim | skip
  cases rv
  exact ⟨_, rfl, EndG.pure wd1 (EndG.pure wd1 (EndG.bind e2))⟩
theorem conv_slc {ma : Rho → Mo D} {ml mh : Rho → Mo (Option Int)} {f : D → Option Int → Option Int → Mo D} {Q : VK} (h : tE K W (fun ρ => (ma ρ).bind fun x => (ml ρ).bind fun l => (mh ρ).bind fun u => f x l u) σ H Q) :
    tSl (r3 K f) (tE K W ma) (tP K W ml) (tP K W mh) σ H Q := by
  obtain ⟨μ, η, ρ, wd, re, e⟩ := h
  refine ⟨μ, η, ρ, wd, re, (EndG.bind e).imp fun d η1 μ1 H1 af wd1 e2 v rv => ?_⟩
  refine ⟨μ1, η1, ρ, wd1, re.mono af, (EndG.bind e2).imp fun l η2 μ2 H2 af2 wd2 e3 => ?_⟩
  refine ⟨μ2, η2, ρ, wd2, (re.mono af).mono af2, (EndG.bind e3).imp fun u η3 μ3 H3 af3 wd3 e4 => ?_⟩
  exact ⟨_, μ3, η3, d, wd3, RV.mono (af2.trans af3) d v rv, e4⟩
end
/-! ### MI's own equations, as functions -/
section
variable {c c' : ClM} {a b d : ME} {es ks : List ME}
theorem fE_loc {i : Nat} : evE c c' (.loc i) = fun ρ => locM ρ i := rfl
theorem fE_cst {d : D} : evE c c' (.cst d) = fun _ => .pure d := rfl
theorem fE_tup : evE c c' (.tup es) = fun ρ => (evEs c c' es ρ).bind fun ds => .pure (.tup ds) := rfl
theorem fE_lst : evE c c' (.lst es) = fun ρ => (evEs c c' es ρ).bind fun ds => allocM (.lst ds) := rfl
theorem fE_bin {o : Op} : evE c c' (.bin o a b) = fun ρ => (evE c c' a ρ).bind fun x => (evE c c' b ρ).bind fun y => binM o x y := rfl
theorem fE_neg : evE c c' (.neg a) = fun ρ => (evE c c' a ρ).bind fun x => (getI x).bind fun i => .pure (.int (-i)) := rfl
theorem fE_not : evE c c' (.not a) = fun ρ => ((evE c c' a ρ).bind truM).bind fun b => .pure (.bl !b) := rfl
theorem fE_and : evE c c' (.and a b) = fun ρ => (evE c c' a ρ).bind fun x => (truM x).bind fun t => if t = true then evE c c' b ρ else .pure x := rfl
theorem fE_or : evE c c' (.or a b) = fun ρ => (evE c c' a ρ).bind fun x => (truM x).bind fun t => if t = true then .pure x else evE c c' b ρ := rfl
theorem fE_cmp {o : Cm} : evE c c' (.cmp o a b) = fun ρ => (evE c c' a ρ).bind fun x => (evE c c' b ρ).bind fun y => (lookM (cmpH o x y)).bind fun t => .pure (.bl t) := rfl
theorem fE_chn {o p : Cm} : evE c c' (.chn o p a b d) = fun ρ => (evE c c' a ρ).bind fun x => (evE c c' b ρ).bind fun y => (lookM (cmpH o x y)).bind fun t => if t = true then (evE c c' d ρ).bind fun z => (lookM (cmpH p y z)).bind fun u => .pure (.bl u) else .pure (.bl false) := rfl
theorem fE_ife : evE c c' (.ife d a b) = fun ρ => ((evE c c' d ρ).bind truM).bind fun v => if v = true then evE c c' a ρ else evE c c' b ρ := rfl
theorem fE_idx : evE c c' (.idx a b) = fun ρ => (evE c c' a ρ).bind fun x => (evE c c' b ρ).bind fun y => lookM (idxH x y) := rfl
theorem fE_slc {lo hi : Option ME} : evE c c' (.slc a lo hi) = fun ρ => (evE c c' a ρ).bind fun x => (evO c c' lo ρ).bind fun l => (evO c c' hi ρ).bind fun u => slcM x l u := rfl
theorem fE_call {f : String} : evE c c' (.call f es) = fun ρ => (evEs c c' es ρ).bind fun ds => c f ds := rfl
theorem fE_blt {f : Bf} : evE c c' (.blt f es) = fun ρ => (evEs c c' es ρ).bind fun ds => bltM f ds := rfl
theorem fE_mth {m : Mh} : evE c c' (.mth m a es) = fun ρ => (evE c c' a ρ).bind fun x => (lookM (kndH m x)).bind fun _ => (evEs c c' es ρ).bind fun ds => mthM m x ds := rfl
theorem fE_lc {t : Tgt} {it : ITr} {o : Option ME} : evE c c' (.lc t it o a) = fun ρ => (evI c c' it ρ).bind fun nx => (lcN nx t (evC c c' o) (evE c c' a) ρ WFu 0 []).bind fun acc => allocM (.lst acc) := rfl
theorem fE_isi {t : MI.Ty} : evE c c' (.isi a t) = fun ρ => (evE c c' a ρ).bind fun v => lookM fun h => (tyD v h).map fun k => .bl (isT t k) := rfl
theorem fC_none : evC c c' none = fun _ => .pure true := rfl
theorem fC_some : evC c c' (some a) = fun ρ => (evE c c' a ρ).bind truM := rfl
theorem fI_seq : evI c c' (.seq a) = fun ρ => (evE c c' a ρ).bind fun v => (lookM (seqK v)).bind fun _ => .pure (nxSeq v) := rfl
theorem fI_rng : evI c c' (.rng a) = fun ρ => (evE c c' a ρ).bind fun v => (getI v).bind fun i => if rngOk i = true then .pure (nxRng 0 i) else badM := rfl
theorem fI_rng2 : evI c c' (.rng2 a b) = fun ρ => (evE c c' a ρ).bind fun v => (evE c c' b ρ).bind fun w => (getI v).bind fun i => (getI w).bind fun j => if (rngOk i && rngOk j) = true then .pure (nxRng i j) else badM := rfl
theorem fI_enm : evI c c' (.enm a) = fun ρ => (evE c c' a ρ).bind fun v => (lookM fun h => MI.getL h v).bind fun _ => .pure (nxEnm v) := rfl
theorem fI_zip : evI c c' (.zip a b) = fun ρ => (evE c c' a ρ).bind fun v => (evE c c' b ρ).bind fun w => (lookM (zipK v w)).bind fun _ => .pure (nxZip v w) := rfl
theorem fEs_nil : evEs c c' [] = fun _ => .pure [] := rfl
theorem fEs_cons : evEs c c' (a :: es) = fun ρ => (evE c c' a ρ).bind fun d => (evEs c c' es ρ).bind fun ds => .pure (d :: ds) := rfl
theorem fO_none : evO c c' none = fun _ => .pure none := rfl
theorem fO_some : evO c c' (some a) = fun ρ => (evE c c' a ρ).bind fun d => (getI d).bind fun i => .pure (some i) := rfl
end
end MIS

set_option Elab.async false
set_option linter.all false
set_option maxRecDepth 100000
set_option maxHeartbeats 1000000
/-! MiS7: the checker of expressions, and what it shows. -/
namespace MIS
open PySem PySem.Spec PyProof.Rows L2 MI
/-! ### tables -/
structure Tab where
  fns : List (Str × String × Nat)
  consts : List (Str × D)
  blts : List Str
/-- a def's promise by MI's run -/
def spF (K : KW) (ar : Nat) (c : List D → Mo D) : Sp := fun vs H Q E => vs.length = ar ∧ ∃ μ η ds, Wd K μ H η ∧ RVs K μ H ds vs ∧
  EndG K (fun k H' => E (.ref (K.ex k)) none H') μ H (fun d _ μ' H' => ∀ v, RV K μ' H' d v → Q v H') (c ds η)
structure FnFact (X : Cx) (cl ex : Nat → Addr) (c : ClM) (n : Nat) (x : Str) (f : String) (ar : Nat) : Prop where
  g : ∃ a, X.mg x = some (.ref a) ∧ PySem.W.keepIn X.K (.ref a) = true ∧ ∃ fdat ps, ps.length = ar ∧ FnOk X.prog X.w X.K X.mg X.base (L2.CX X.prog X.w) n a fdat ps (spF (kw X cl ex) ar (c f)) ∧ Binds X.K fdat ps []
structure Facts (X : Cx) (cl ex : Nat → Addr) (T : Tab) (c : ClM) (n : Nat) : Prop where
  fn : ∀ p ∈ T.fns, FnFact X cl ex c n p.1 p.2.1 p.2.2
  cs : ∀ p ∈ T.consts, ∃ u v, X.mg p.1 = some u ∧ RelV v u ∧ ∀ μ H, RV (kw X cl ex) μ H p.2 v
  bt : ∀ x ∈ T.blts, X.mg x = none
/-- what is wanted of refusals, in the hand layer's form -/
def wx (ex : Nat → Addr) (W : WS) : WX := fun cls d σ H => ∃ k, cls = .ref (ex k) ∧ d = none ∧ W k σ H
structure Good (X : Cx) (cl ex : Nat → Addr) (T : Tab) (c : ClM) (n : Nat) (sc : Scope) (N : List Str) (W : WS) : Prop where
  sc : X.env.scope = sc
  nms : X.N = N
  nd : N.Nodup
  calm : X.calm = true
  room : Room n X.A
  tk : Takes X (wx ex W)
  po : PassesOwn (model X.prog X.w) X.A X.env X.xe
  fs : Facts X cl ex T c n
/-! ### the checker -/
def visB (sc : Scope) (x : Str) : Bool := match sc.names.lookup x with
  | some .local => true
  | some .cell => true
  | some .free => true
  | _ => false
def glB (sc : Scope) (x : Str) : Bool := match sc.names.lookup x with
  | some .globalImplicit => true
  | _ => false
def nmB (x : Str) : Bool := !(x == "__debug__") && !(x == "__classdict__") && !(x == "__name__")
def noStar : Expr → Bool
  | .Starred .. => false
  | _ => true
def noSet : Expr → Bool
  | .Set .. => false
  | _ => true
def noSlice : Expr → Bool
  | .Slice .. => false
  | _ => true
def noComp : Expr → Bool
  | .ListComp .. => false
  | .SetComp .. => false
  | .DictComp .. => false
  | _ => true
def noIf : Expr → Bool
  | .IfExp .. => false
  | _ => true
mutual
def same : D → D → Bool
  | .non, .non => true
  | .bl a, .bl b => a == b
  | .int i, .int j => i == j
  | .str a, .str b => a == b
  | .tup a, .tup b => sames a b
  | _, _ => false
def sames : List D → List D → Bool
  | [], [] => true
  | x :: xs, y :: ys => same x y && sames xs ys
  | _, _ => false
end
mutual
theorem same_eq : ∀ a b : D, same a b = true → a = b
  | .non, .non, _ => rfl
  | .bl a, .bl b, h => by rw [same] at h; rw [eq_of_beq h]
  | .int i, .int j, h => by rw [same] at h; rw [eq_of_beq h]
  | .str a, .str b, h => by rw [same] at h; rw [eq_of_beq h]
  | .tup a, .tup b, h => by rw [same] at h; rw [sames_eq a b h]
  | .non, .bl _, h => nomatch h
  | .non, .int _, h => nomatch h
  | .non, .str _, h => nomatch h
  | .non, .tup _, h => nomatch h
  | .non, .ref _, h => nomatch h
  | .non, .exc _, h => nomatch h
  | .non, .lst _, h => nomatch h
  | .bl _, .non, h => nomatch h
  | .bl _, .int _, h => nomatch h
  | .bl _, .str _, h => nomatch h
  | .bl _, .tup _, h => nomatch h
  | .bl _, .ref _, h => nomatch h
  | .bl _, .exc _, h => nomatch h
  | .bl _, .lst _, h => nomatch h
  | .int _, .non, h => nomatch h
  | .int _, .bl _, h => nomatch h
  | .int _, .str _, h => nomatch h
  | .int _, .tup _, h => nomatch h
  | .int _, .ref _, h => nomatch h
  | .int _, .exc _, h => nomatch h
  | .int _, .lst _, h => nomatch h
  | .str _, .non, h => nomatch h
  | .str _, .bl _, h => nomatch h
  | .str _, .int _, h => nomatch h
  | .str _, .tup _, h => nomatch h
  | .str _, .ref _, h => nomatch h
  | .str _, .exc _, h => nomatch h
  | .str _, .lst _, h => nomatch h
  | .tup _, .non, h => nomatch h
  | .tup _, .bl _, h => nomatch h
  | .tup _, .int _, h => nomatch h
  | .tup _, .str _, h => nomatch h
  | .tup _, .ref _, h => nomatch h
  | .tup _, .exc _, h => nomatch h
  | .tup _, .lst _, h => nomatch h
  | .ref _, _, h => nomatch h
  | .exc _, _, h => nomatch h
  | .lst _, _, h => nomatch h
theorem sames_eq : ∀ a b : List D, sames a b = true → a = b
  | [], [], _ => rfl
  | x :: xs, y :: ys, h => by
    rw [sames, Bool.and_eq_true] at h
    rw [same_eq x y h.1, sames_eq xs ys h.2]
  | [], _ :: _, h => nomatch h
  | _ :: _, [], h => nomatch h
end
def opB : Operator → Op → Bool
  | .Add, .add => true
  | .Sub, .sub => true
  | .Mult, .mul => true
  | .FloorDiv, .fdiv => true
  | .Mod, .mod => true
  | .Pow, .pow => true
  | _, _ => false
def cmB : CmpOp → Cm → Bool
  | .Eq, .eq => true
  | .NotEq, .ne => true
  | .Lt, .lt => true
  | .LtE, .le => true
  | .Gt, .gt => true
  | .GtE, .ge => true
  | .Is, .is => true
  | .IsNot, .isn => true
  | .In, .isin => true
  | .NotIn, .nin => true
  | _, _ => false
def bfN : Bf → Str
  | .len => "len"
  | .tuple => "tuple"
  | .list => "list"
  | .int => "int"
  | .min => "min"
  | .max => "max"
  | .all => "all"
  | .any => "any"
  | .sum => "sum"
  | .set => "set"
  | .sorted => "sorted"
  | .str => "str"
  | .repr => "repr"
  | .dict => "dict"
def tyS : MI.Ty → Str
  | .bool => "bool"
  | .int => "int"
  | .str => "str"
  | .tuple => "tuple"
  | .list => "list"
  | .dict => "dict"
def tyN : MI.Ty → String
  | .bool => "bool"
  | .int => "int"
  | .str => "str"
  | .tuple => "tuple"
  | .list => "list"
  | .dict => "dict"
def okBf : Bf → Bool
  | .len => true
  | .tuple => true
  | .list => true
  | .int => true
  | .min => true
  | .all => true
  | .any => true
  | .sum => true
  | .max => true
  | .str => true
  | .sorted => true
  | _ => false
def isC (d : D) : ME → Bool
  | .cst e => same e d
  | _ => false
def locB (sc : Scope) (x : Str) : Bool := match sc.names.lookup x with
  | some .local => true
  | some .cell => true
  | _ => false
/-- a target and its places -/
def tgB (sc : Scope) (N : List Str) : Expr → Tgt → Bool
  | .Name x _, .one i => decide (N[i]? = some x) && locB sc x
  | .Tuple [.Name x _, .Name y _] _ _, .two i j => decide (N[i]? = some x) && locB sc x && decide (N[j]? = some y) && locB sc y
  | _, _ => false
def tgN : Expr → List Str
  | .Name x _ => [x]
  | .Tuple [.Name x _, .Name y _] _ _ => [x, y]
  | _ => []
def ownT (tg : Expr) : Tgt → List (Str × Nat)
  | .one i => (tgN tg).zip [i]
  | .two i j => (tgN tg).zip [i, j]
def isTup : Expr → Bool
  | .Tuple .. => true
  | _ => false
def mhN : Mh → Str
  | .append => "append"
  | .pop => "pop"
  | .reverse => "reverse"
  | .clear => "clear"
  | .index => "index"
  | .count => "count"
  | .join => "join"
  | .get => "get"
  | .update => "update"
  | .split => "split"
  | .partition => "partition"
  | .replace => "replace"
  | .insert => "insert"
def mh1 : Mh → Bool
  | .append => true
  | .index => true
  | .join => true
  | _ => false
def mh0 : Mh → Bool
  | .pop => true
  | .reverse => true
  | .clear => true
  | _ => false
def baseOk : Expr → Bool
  | .Call .. => false
  | _ => true
section
variable (T : Tab) (N : List Str)
mutual
def ckE : Nat → Scope → Expr → ME → Bool
  | 0, _, _, _ => false
  | _ + 1, sc, .Name x _, .loc i => decide (N[i]? = some x) && visB sc x && nmB x
  | _ + 1, sc, .Name x _, .cst d => glB sc x && nmB x && T.consts.any (fun p => p.1 == x && same p.2 d)
  | _ + 1, _, .Constant (.int i) _ _, .cst (.int j) => i == j
  | _ + 1, _, .Constant (.bool i) _ _, .cst (.bl j) => i == j
  | _ + 1, _, .Constant (.str x) _ _, .cst (.str s) => decide (x = ⟨s.toArray⟩)
  | _ + 1, _, .Constant .none _ _, .cst .non => true
  | n + 1, sc, .Tuple es _ _, .tup ms => ckEs n sc es ms && decide (ms.length ≤ 1000)
  | n + 1, sc, .List es _, .lst ms => ckEs n sc es ms && decide (ms.length ≤ 1000)
  | n + 1, sc, .BinOp a op b _, .bin o x y => opB op o && ckE n sc a x && ckE n sc b y
  | n + 1, sc, .UnaryOp .Not a _, .not x => ckE n sc a x && noIf a
  | n + 1, sc, .UnaryOp .USub a _, .neg x => ckE n sc a x
  | n + 1, sc, .BoolOp .And (a :: b :: r) p, .and x y => ckE n sc a x && noIf a && ckA n sc p (b :: r) y
  | n + 1, sc, .BoolOp .Or (a :: b :: r) p, .or x y => ckE n sc a x && noIf a && ckO n sc p (b :: r) y
  | n + 1, sc, .Compare a [op] [b] _, .cmp o x y => cmB op o && ckE n sc a x && ckE n sc b y && noSet b
  | n + 1, sc, .Compare a [op, op'] [b, c] _, .chn o o' x y z => cmB op o && cmB op' o' && ckE n sc a x && ckE n sc b y && ckE n sc c z && noSet b && noSet c
  | n + 1, sc, .IfExp c a b _, .ife z x y => ckE n sc c z && noIf c && ckE n sc a x && ckE n sc b y
  | n + 1, sc, .Subscript a (.Slice lo hi none _) _, .slc x l h => ckE n sc a x && ckP n sc lo l && ckP n sc hi h
  | n + 1, sc, .Subscript a b _, .idx x y => ckE n sc a x && ckE n sc b y && noSlice b
  | n + 1, sc, .Call (.Name f _) (e :: es) [] _, .call g ms => glB sc f && nmB f && T.fns.any (fun p => p.1 == f && p.2.1 == g && p.2.2 == ms.length) && ckEs n sc (e :: es) ms
  | n + 1, sc, .Call (.Name f _) (e :: es) [] _, .blt b ms => glB sc f && nmB f && (f == bfN b) && T.blts.contains f && okBf b && ckEs n sc (e :: es) ms
  | n + 1, sc, .Call (.Name f _) [e, .Name t _] [] _, .isi x ty => (f == "isinstance") && glB sc f && T.blts.contains f && (t == tyS ty) && glB sc t && T.blts.contains t && noStar e && ckE n sc e x
  | n + 1, sc, .Call (.Attribute o m apos) [e] [] cpos, .mth mm x [y] => (m == mhN mm) && mh1 mm && baseOk o && (apos.endLine == cpos.line) && noStar e && ckE n sc o x && ckEs n sc [e] [y]
  | n + 1, sc, .Call (.Attribute o m apos) [] [] cpos, .mth mm x [] => (m == mhN mm) && mh0 mm && baseOk o && (apos.endLine == cpos.line) && ckE n sc o x
  | n + 1, sc, .ListComp elt [⟨tg, iter, ifs, 0⟩] scope _, .lc t it cond m => ckI n sc tg iter it && noSet iter && tgB (relS scope sc) N tg t && blkC N sc scope (ownT tg t) &&
      ((tgN tg).all fun x => decide ((relS scope sc).names.lookup x = some .local) || (scope.names.lookup x == some .cell)) && ckC n (relS scope sc) ifs cond && ckE n (relS scope sc) elt m
  | _, _, _, _ => false
def ckC : Nat → Scope → List Expr → Option ME → Bool
  | 0, _, _, _ => false
  | _ + 1, _, [], none => true
  | n + 1, sc, [e], some m => ckE n sc e m && noIf e
  | _, _, _, _ => false
def ckI : Nat → Scope → Expr → Expr → ITr → Bool
  | 0, _, _, _, _ => false
  | n + 1, sc, _, .Call (.Name f _) [a] [] _, .rng x => (f == "range") && glB sc f && T.blts.contains f && noStar a && ckE n sc a x
  | n + 1, sc, _, .Call (.Name f _) [a, b] [] _, .rng2 x y => (f == "range") && glB sc f && T.blts.contains f && noStar a && noStar b && ckE n sc a x && ckE n sc b y
  | n + 1, sc, tg, .Call (.Name f _) [a] [] _, .enm x => (f == "enumerate") && isTup tg && glB sc f && T.blts.contains f && noStar a && ckE n sc a x
  | n + 1, sc, tg, .Call (.Name f _) [a, b] [] _, .zip x y => (f == "zip") && isTup tg && glB sc f && T.blts.contains f && noStar a && noStar b && ckE n sc a x && ckE n sc b y
  | n + 1, sc, _, e, .seq x => ckE n sc e x
  | _, _, _, _, _ => false
def ckA : Nat → Scope → Pos → List Expr → ME → Bool
  | 0, _, _, _, _ => false
  | n + 1, sc, _, [a], x => ckE n sc a x && noIf a
  | n + 1, sc, p, a :: b :: r, .and x y => ckE n sc a x && noIf a && ckA n sc p (b :: r) y
  | _, _, _, _, _ => false
def ckO : Nat → Scope → Pos → List Expr → ME → Bool
  | 0, _, _, _, _ => false
  | n + 1, sc, _, [a], x => ckE n sc a x && noIf a
  | n + 1, sc, p, a :: b :: r, .or x y => ckE n sc a x && noIf a && ckO n sc p (b :: r) y
  | _, _, _, _, _ => false
def ckEs : Nat → Scope → List Expr → List ME → Bool
  | 0, _, _, _ => false
  | _ + 1, _, [], [] => true
  | n + 1, sc, e :: es, m :: ms => ckE n sc e m && noStar e && ckEs n sc es ms
  | _, _, _, _ => false
def ckP : Nat → Scope → Option Expr → Option ME → Bool
  | 0, _, _, _ => false
  | _ + 1, _, none, none => true
  | n + 1, sc, some e, some m => ckE n sc e m
  | _, _, _, _ => false
end
end
/-! ### small facts -/
theorem vis_of {sc : Scope} {x : Str} (h : visB sc x = true) : Vis sc x := by
  unfold visB at h
  split at h
  · exact .inl (by assumption)
  · exact .inr (.inl (by assumption))
  · exact .inr (.inr (by assumption))
  · cases h
theorem star_cons {e : Expr} (h : noStar e = true) (es : List Expr) (env : PySem.Env) : starEach (e :: es) env = (false, eval e env) :: starEach es env := by
  cases e <;> first | rfl | (cases h; done)
theorem mark_of {b : Expr} (op : CmpOp) (h : noSet b = true) : behindInMarks op b = false := by
  cases b <;> first | rfl | (cases h; done)
theorem plain_ix {b : Expr} (h : noSlice b = true) : L2.PlainIx b := by
  intro o i
  cases b <;> first | rfl | (cases h; done)
theorem nm_dbg {x : Str} (h : nmB x = true) : (x == ("__debug__" : Str)) = false := by
  unfold nmB at h
  simp only [Bool.and_eq_true, Bool.not_eq_true'] at h
  exact h.1.1
theorem nm_cd {x : Str} (h : nmB x = true) : (x == ("__classdict__" : Str)) = false := by
  unfold nmB at h
  simp only [Bool.and_eq_true, Bool.not_eq_true'] at h
  exact h.1.2
theorem nm_nm {x : Str} (h : nmB x = true) : x ≠ ("__name__" : Str) := by
  unfold nmB at h
  simp only [Bool.and_eq_true, Bool.not_eq_true'] at h
  intro e
  rw [e] at h
  simp at h
theorem evEs_len {c c' : ClM} : ∀ (ms : List ME) (ρ : Rho) (η : Hv) (ds : List D) (η' : Hv), evEs c c' ms ρ η = .ok ds η' → ds.length = ms.length
  | [], ρ, η, ds, η', h => by
    rw [evEs] at h
    cases h; rfl
  | m :: ms, ρ, η, ds, η', h => by
    rw [evEs] at h
    unfold Mo.bind at h
    cases h1 : evE c c' m ρ η with
    | bad => rw [h1] at h; cases h
    | ex k q => rw [h1] at h; cases h
    | ok d η1 =>
      rw [h1] at h
      simp only at h
      cases h2 : evEs c c' ms ρ η1 with
      | bad => rw [h2] at h; cases h
      | ex k q => rw [h2] at h; cases h
      | ok es η2 =>
        rw [h2] at h
        cases h
        rw [List.length_cons, List.length_cons, evEs_len ms ρ η1 es _ h2]
theorem stars_plain {T : Tab} {N : List Str} {sc : Scope} (pos : Pos) (env : PySem.Env) : ∀ (n : Nat) (es : List Expr) (ms : List ME), ckEs T N n sc es ms = true → (backTo pos (starEach es env)).any (·.1) = false
  | 0, es, ms, h => by simp [ckEs] at h
  | n + 1, [], ms, _ => rfl
  | n + 1, e :: es, [], h => by simp [ckEs] at h
  | n + 1, e :: es, m :: ms, h => by
    rw [ckEs] at h
    simp only [Bool.and_eq_true] at h
    rw [star_cons h.1.2]
    show (false || (backTo pos (starEach es env)).any (·.1)) = false
    rw [stars_plain pos env n es ms h.2]; rfl
section
variable {X : Cx} {cl ex : Nat → Addr} {T : Tab} {c c' : ClM} {k : Nat} {sc : Scope} {N : List Str} {W : WS}
theorem Good.vis (G : Good X cl ex T c k sc N W) {i : Nat} {x : Str} (h : (decide (N[i]? = some x) && visB sc x && nmB x) = true) {pos : Pos} : PE X (.Name x pos) (tVar i) := by
  simp only [Bool.and_eq_true, decide_eq_true_eq] at h
  refine pe_var (by rw [G.nms]; exact h.1.1) ?_ (nm_dbg h.2) (nm_cd h.2)
  rw [G.sc]
  exact vis_of h.1.2
theorem Good.gl (G : Good X cl ex T c k sc N W) {x : Str} (h : glB sc x = true) : Gl X x := by
  show X.env.scope.names.lookup x = some .globalImplicit
  rw [G.sc]
  unfold glB at h
  split at h
  · assumption
  · cases h
theorem Good.hu (G : Good X cl ex T c k sc N W) : X.A.units + 65 < cLine := by have := G.room.un; omega
end
end MIS

set_option Elab.async false
set_option linter.all false
set_option maxRecDepth 100000
set_option maxHeartbeats 2000000
/-! MiS9: what is walked. -/
namespace MIS
open PySem PySem.Spec PyProof.Rows L2 MI
/-- a walk of MI's is a walk of the hand layer's -/
def JR (K : KW) (μ0 : List Addr) (H0 : Hp) (J : L2.It) (nx : Nxt) : Prop := ∀ (μ : List Addr) (H : Hp) (η : Hv) (i : Nat), Aft K μ0 H0 μ H → Wd K μ H η → match nx i η with
  | none => True
  | some none => J.stop i H
  | some (some d) => J.go i H ∧ ∀ x H', J.yld i H x H' → Aft K μ H μ H' ∧ Wd K μ H' η ∧ RV K μ H' d x
def tI (K : KW) (W : WS) (m : Rho → Mo Nxt) : TI := fun σ H R => ∃ μ η ρ, Wd K μ H η ∧ RE K μ H ρ σ ∧ EndG K (fun c H' => W c σ H') μ H (fun nx _ μ' H' => ∀ J, JR K μ' H' J nx → R J H') (m ρ η)
section
variable {K : KW} {μ0 : List Addr} {H0 : Hp}
theorem RVs.none_of {μ : List Addr} {H : Hp} {ds : List D} {vs : List V} {i : Nat} (r : RVs K μ H ds vs) (h : ds[i]? = none) : vs.length ≤ i := by
  rw [r.len]; exact List.getElem?_eq_none_iff.mp h
theorem jr_list {a : Addr} {j : Nat} (hj : μ0[j]? = some a) : JR K μ0 H0 (Itl K.K a) (nxSeq (.ref j)) := by
  intro μ H η i af wd
  simp only [nxSeq]
  cases e : MI.getL η (.ref j) with
  | none => trivial
  | some xs =>
    obtain ⟨b, vs, hb, hs, rs⟩ := wd.getL (d := .ref j) (v := .ref a) ⟨a, rfl, af.at hj⟩ e
    cases hb
    simp only [Option.map_some]
    cases g : xs[i]? with
    | none => exact ⟨vs, hs, rs.none_of g⟩
    | some d =>
      obtain ⟨v, h1, h2⟩ := rs.get g
      refine ⟨⟨vs, v, hs, h1⟩, fun x H' ⟨e1, e2⟩ => ?_⟩
      subst e1
      have := e2 vs hs
      rw [h1] at this
      cases this
      exact ⟨.refl, wd, h2⟩
theorem jr_tup {a : Addr} {xs : List D} {vs : List V} (hs : SqT K.K H0 a vs) (rs : RVs K μ0 H0 xs vs) : JR K μ0 H0 (Itt K.K a) (nxSeq (.tup xs)) := by
  intro μ H η i af wd
  have hs' := af.keep _ _ hs
  have rs' := RVs.mono af xs vs rs
  simp only [nxSeq]
  cases g : xs[i]? with
  | none => exact ⟨vs, hs', rs'.none_of g⟩
  | some d =>
    obtain ⟨v, h1, h2⟩ := rs'.get g
    refine ⟨⟨vs, v, hs', h1⟩, fun x H' ⟨e1, e2⟩ => ?_⟩
    subst e1
    have := e2 vs hs'
    rw [h1] at this
    cases this
    exact ⟨.refl, wd, h2⟩
theorem jr_str {s : List Nat} : JR K μ0 H0 (Its ⟨s.toArray⟩) (nxSeq (.str s)) := by
  intro μ H η i af wd
  simp only [nxSeq]
  cases g : s[i]? with
  | none =>
    show s.toArray.size ≤ i
    rw [List.size_toArray]; exact List.getElem?_eq_none_iff.mp g
  | some c =>
    have hi := (List.getElem?_eq_some_iff.mp g).1
    refine ⟨by show i < s.toArray.size; rw [List.size_toArray]; exact hi, fun x H' ⟨e1, c', e2, e3⟩ => ?_⟩
    subst e1
    have e4 : s[i]? = some c' := by
      have : (s.toArray)[i]? = some c' := e2
      simpa using this
    rw [g] at e4
    cases e4
    exact ⟨.refl, wd, e3⟩
theorem jr_rng {lo hi : Int} : JR K μ0 H0 (Itr lo (hi - lo).toNat) (nxRng lo hi) := by
  intro μ H η i af wd
  simp only [nxRng]
  split
  · rename_i x e
    split at e <;> cases e
  · rename_i e
    split at e
    · cases e
    · rename_i hn
      exact Nat.le_of_not_lt hn
  · rename_i d e
    split at e
    · rename_i hn
      cases e
      refine ⟨hn, fun x H' ⟨e1, e2⟩ => ?_⟩
      subst e1
      exact ⟨.refl, wd, e2⟩
    · cases e
/-- a new tuple beside -/
theorem fresh_tup {μ : List Addr} {H : Hp} {η : Hv} (wd : Wd K μ H η) {t : Addr} {ds : List D} {vs : List V} (ht : H t = none) (rs : RVs K μ H ds vs) :
    Aft K μ H μ (upd H t (.tup vs)) ∧ Wd K μ (upd H t (.tup vs)) η ∧ RV K μ (upd H t (.tup vs)) (.tup ds) (.ref t) :=
  ⟨aft_new ht, wd.fresh ht, t, vs, rfl, SqT.of upd_same, RVs.mono (aft_new ht) ds vs rs⟩
theorem jr_enm {a : Addr} {j : Nat} (hj : μ0[j]? = some a) : JR K μ0 H0 (Ite K.K a) (nxEnm (.ref j)) := by
  intro μ H η i af wd
  simp only [nxEnm]
  cases e : MI.getL η (.ref j) with
  | none => trivial
  | some xs =>
    obtain ⟨b, vs, hb, hs, rs⟩ := wd.getL (d := .ref j) (v := .ref a) ⟨a, rfl, af.at hj⟩ e
    cases hb
    simp only [Option.map_some]
    cases g : xs[i]? with
    | none => exact ⟨vs, hs, rs.none_of g⟩
    | some d =>
      obtain ⟨v, h1, h2⟩ := rs.get g
      refine ⟨⟨vs, v, hs, h1⟩, fun x H' ⟨t, y, e1, e2, e3, e4⟩ => ?_⟩
      subst e1 e3
      have := e4 vs hs
      rw [h1] at this
      cases this
      exact fresh_tup wd e2 ⟨.int i, [v], rfl, rfl, RVs.one h2⟩
theorem zip2_none {xs ys : List D} {i : Nat} (h : zip2 xs ys i = none) : xs[i]? = none ∨ ys[i]? = none := by
  unfold zip2 at h
  split at h
  · cases h
  · rename_i hn
    cases e : xs[i]? with
    | none => exact .inl rfl
    | some x =>
      cases f : ys[i]? with
      | none => exact .inr rfl
      | some y => exact (hn x y e f).elim
theorem zip2_some {xs ys : List D} {i : Nat} {d : D} (h : zip2 xs ys i = some d) : ∃ x y, xs[i]? = some x ∧ ys[i]? = some y ∧ d = .tup [x, y] := by
  unfold zip2 at h
  split at h
  · rename_i x y e f
    cases h
    exact ⟨x, y, e, f, rfl⟩
  · cases h
theorem jr_zipL {a b : Addr} {j l : Nat} (hj : μ0[j]? = some a) (hl : μ0[l]? = some b) : JR K μ0 H0 (Itz K.K a b) (nxZip (.ref j) (.ref l)) := by
  intro μ H η i af wd
  simp only [nxZip]
  cases e : MI.getL η (.ref j) with
  | none => trivial
  | some xs =>
    cases f : MI.getL η (.ref l) with
    | none => trivial
    | some ys =>
      obtain ⟨a', vs, ha, hs, rs⟩ := wd.getL (d := .ref j) (v := .ref a) ⟨a, rfl, af.at hj⟩ e
      obtain ⟨b', ws, hb, hq, qs⟩ := wd.getL (d := .ref l) (v := .ref b) ⟨b, rfl, af.at hl⟩ f
      cases ha; cases hb
      simp only [Option.bind_some, Option.map_some]
      cases g : zip2 xs ys i with
      | none => exact ⟨vs, ws, hs, hq, (zip2_none g).imp rs.none_of qs.none_of⟩
      | some d =>
        obtain ⟨x, y, g1, g2, rfl⟩ := zip2_some g
        obtain ⟨v, h1, h2⟩ := rs.get g1
        obtain ⟨w, h3, h4⟩ := qs.get g2
        refine ⟨⟨vs, ws, v, w, hs, hq, h1, h3⟩, fun z H' ⟨t, x', y', e1, e2, e3, e4, e5⟩ => ?_⟩
        subst e1 e3
        have t1 := e4 vs hs
        have t2 := e5 ws hq
        rw [h1] at t1
        rw [h3] at t2
        cases t1; cases t2
        exact fresh_tup wd e2 ⟨v, [w], rfl, h2, RVs.one h4⟩
theorem jr_zipT {a b : Addr} {xs ys : List D} {vs ws : List V} (hs : SqT K.K H0 a vs) (rs : RVs K μ0 H0 xs vs) (hq : SqT K.K H0 b ws) (qs : RVs K μ0 H0 ys ws) : JR K μ0 H0 (RZ.ItzT K.K a b) (nxZip (.tup xs) (.tup ys)) := by
  intro μ H η i af wd
  have hs' := af.keep _ _ hs
  have rs' := RVs.mono af xs vs rs
  have hq' := af.keep _ _ hq
  have qs' := RVs.mono af ys ws qs
  simp only [nxZip]
  cases g : zip2 xs ys i with
  | none => exact ⟨vs, ws, hs', hq', (zip2_none g).imp rs'.none_of qs'.none_of⟩
  | some d =>
    obtain ⟨x, y, g1, g2, rfl⟩ := zip2_some g
    obtain ⟨v, h1, h2⟩ := rs'.get g1
    obtain ⟨w, h3, h4⟩ := qs'.get g2
    refine ⟨⟨vs, ws, v, w, hs', hq', h1, h3⟩, fun z H' ⟨t, x', y', e1, e2, e3, e4, e5⟩ => ?_⟩
    subst e1 e3
    have t1 := e4 vs hs'
    have t2 := e5 ws hq'
    rw [h1] at t1
    rw [h3] at t2
    cases t1; cases t2
    exact fresh_tup wd e2 ⟨v, [w], rfl, h2, RVs.one h4⟩
end
/-! ### the walks by their expressions -/
section
variable {X : Cx} {cl ex : Nat → Addr} {T : Tab} {c c' : ClM} {k : Nat} {sc : Scope} {N : List Str} {W : WS} {tg : Expr}
theorem seqK_ref {j : Nat} {η : Hv} {u : Unit} (h : seqK (.ref j) η = some u) : ∃ xs, MI.getL η (.ref j) = some xs := by
  simp only [seqK] at h
  cases e : MI.getL η (.ref j) with
  | none => rw [e] at h; cases h
  | some xs => exact ⟨xs, rfl⟩
theorem pi_seq {l : Expr} {ma : Rho → Mo D} (hl : PE X l (tE (kw X cl ex) W ma)) : PI X tg l (tI (kw X cl ex) W (fun ρ => (ma ρ).bind fun v => (lookM (seqK v)).bind fun _ => .pure (nxSeq v))) := by
  refine ⟨fun pins s σ H R I h => ?_⟩
  obtain ⟨μ, η, ρ, wd, re, e⟩ := h
  have e1 := EndG.bind e
  cases r : ma ρ η with
  | bad => rw [r] at e1; exact e1.elim
  | ex j η1 =>
    refine (pi_list hl).run pins s σ H R I ⟨μ, η, ρ, wd, re, ?_⟩
    rw [r] at e1 ⊢; exact e1
  | ok d η1 =>
    rw [r] at e1
    have e2 : ∀ μ1 H1, Aft (kw X cl ex) μ H μ1 H1 → Wd (kw X cl ex) μ1 H1 η1 → (∃ u, seqK d η1 = some u) ∧ ∀ J, JR (kw X cl ex) μ1 H1 J (nxSeq d) → R J H1 := fun μ1 H1 af wd1 => by
      obtain ⟨u, h1, q⟩ := EndG.look wd1 (EndG.bind (e1 μ1 H1 af wd1))
      exact ⟨⟨u, h1⟩, EndG.pure wd1 q⟩
    cases d with
    | tup xs =>
      refine (pi_tup hl).run pins s σ H R I ⟨μ, η, ρ, wd, re, ?_⟩
      rw [r]
      intro μ1 H1 af wd1 v rv
      obtain ⟨a, vs, rfl, hs, rs⟩ := rv
      exact ⟨a, rfl, ⟨vs, hs⟩, (e2 μ1 H1 af wd1).2 _ (jr_tup hs rs)⟩
    | str ss =>
      refine (pi_str hl).run pins s σ H R I ⟨μ, η, ρ, wd, re, ?_⟩
      rw [r]
      intro μ1 H1 af wd1 v rv
      cases rv
      exact ⟨_, rfl, (e2 μ1 H1 af wd1).2 _ jr_str⟩
    | ref j =>
      refine (pi_list hl).run pins s σ H R I ⟨μ, η, ρ, wd, re, ?_⟩
      rw [r]
      intro μ1 H1 af wd1 v rv
      obtain ⟨⟨u, hu⟩, q⟩ := e2 μ1 H1 af wd1
      obtain ⟨xs, hx⟩ := seqK_ref hu
      obtain ⟨a, vs, rfl, hs, rs⟩ := wd1.getL rv hx
      obtain ⟨a', ea, ha⟩ := rv
      cases ea
      exact ⟨a, rfl, ⟨vs, hs⟩, q _ (jr_list ha)⟩
    | _ =>
      refine (pi_list hl).run pins s σ H R I ⟨μ, η, ρ, wd, re, ?_⟩
      rw [r]
      intro μ1 H1 af wd1 v rv
      obtain ⟨⟨u, hu⟩, _⟩ := e2 μ1 H1 af wd1
      cases hu
theorem rng_of {i : Int} (h : rngOk i = true) : -(2 ^ 62) ≤ i ∧ i < 2 ^ 62 := by
  unfold rngOk at h
  have := of_decide_eq_true h
  have e : (2 : Int) ^ 62 = 4611686018427387904 := by decide
  rw [e]; exact this
theorem pi_rng (G : Good X cl ex T c k sc N W) {a : Expr} {ma : Rho → Mo D} {p pos : Pos} (hg : glB sc "range" = true) (hb : ("range" : Str) ∈ T.blts) (hs : noStar a = true) (ha : PE X a (tE (kw X cl ex) W ma)) :
    PI X tg (.Call (.Name "range" p) [a] [] pos) (tI (kw X cl ex) W (fun ρ => (ma ρ).bind fun v => (getI v).bind fun i => if rngOk i = true then .pure (nxRng 0 i) else badM)) := by
  refine ⟨fun pins s σ H R I h => (pi_range1 (G.gl hg) (G.fs.bt _ hb) (pa_cons ha pa_nil (star_cons hs _ _)) (star_cons hs [] _)).run pins s σ H R I ?_⟩
  obtain ⟨μ, η, ρ, wd, re, e⟩ := h
  refine ⟨μ, η, ρ, wd, re, (EndG.bind e).imp fun d η1 μ1 H1 af wd1 e2 v rv => ?_⟩
  cases d <;> first | exact (EndG.bind e2).elim | skip
  cases rv
  have e3 := EndG.pure wd1 (EndG.bind e2)
  split at e3
  · rename_i i hi
    obtain ⟨h1, h2⟩ := rng_of hi
    have q := EndG.pure wd1 e3 _ (jr_rng (lo := 0) (hi := i))
    rw [Int.sub_zero] at q
    exact ⟨i, rfl, h1, h2, q⟩
  · exact e3.elim
theorem pi_rng2 (G : Good X cl ex T c k sc N W) {a b : Expr} {ma mb : Rho → Mo D} {p pos : Pos} (hg : glB sc "range" = true) (hb : ("range" : Str) ∈ T.blts) (hs : noStar a = true) (hs2 : noStar b = true) (ha : PE X a (tE (kw X cl ex) W ma)) (hb2 : PE X b (tE (kw X cl ex) W mb)) :
    PI X tg (.Call (.Name "range" p) [a, b] [] pos) (tI (kw X cl ex) W (fun ρ => (ma ρ).bind fun v => (mb ρ).bind fun w => (getI v).bind fun i => (getI w).bind fun j => if (rngOk i && rngOk j) = true then .pure (nxRng i j) else badM)) := by
  refine ⟨fun pins s σ H R I h => (pi_range2 (G.gl hg) (G.fs.bt _ hb) (pa_cons ha (pa_cons hb2 pa_nil (star_cons hs2 _ _)) (star_cons hs _ _)) (by rw [star_cons hs, star_cons hs2]; rfl) (star_cons hs2 [] _)).run pins s σ H R I ?_⟩
  obtain ⟨μ, η, ρ, wd, re, e⟩ := h
  refine ⟨μ, η, ρ, wd, re, (EndG.bind e).imp fun d η1 μ1 H1 af wd1 e2 v rv => ?_⟩
  refine ⟨μ1, η1, ρ, wd1, re.mono af, (EndG.bind e2).imp fun d2 η2 μ2 H2 af2 wd2 e4 v2 rv2 => ?_⟩
  cases d <;> first | exact (EndG.bind e4).elim | skip
  cases d2 <;> first | exact (EndG.bind (EndG.pure wd2 (EndG.bind e4))).elim | skip
  cases rv; cases rv2
  have e5 := EndG.pure wd2 (EndG.bind (EndG.pure wd2 (EndG.bind e4)))
  split at e5
  · rename_i i j hi
    rw [Bool.and_eq_true] at hi
    obtain ⟨h1, h2⟩ := rng_of hi.1
    obtain ⟨h3, h4⟩ := rng_of hi.2
    exact ⟨i, j, rfl, ⟨h1, h2, h3, h4⟩, EndG.pure wd2 e5 _ jr_rng⟩
  · exact e5.elim
theorem pi_enm (G : Good X cl ex T c k sc N W) {a : Expr} {ma : Rho → Mo D} {p pos tpos : Pos} {elts : List Expr} {kk : Nat} (hg : glB sc "enumerate" = true) (hb : ("enumerate" : Str) ∈ T.blts) (hs : noStar a = true) (ha : PE X a (tE (kw X cl ex) W ma)) :
    PI X (.Tuple elts kk tpos) (.Call (.Name "enumerate" p) [a] [] pos) (tI (kw X cl ex) W (fun ρ => (ma ρ).bind fun v => (lookM fun h => MI.getL h v).bind fun _ => .pure (nxEnm v))) := by
  refine ⟨fun pins s σ H R I h => (pi_enum (G.gl hg) (G.fs.bt _ hb) (pa_cons ha pa_nil (star_cons hs _ _)) (star_cons hs [] _)).run pins s σ H R I ?_⟩
  obtain ⟨μ, η, ρ, wd, re, e⟩ := h
  refine ⟨μ, η, ρ, wd, re, (EndG.bind e).imp fun d η1 μ1 H1 af wd1 e2 v rv => ?_⟩
  obtain ⟨xs, h1, q⟩ := EndG.look wd1 (EndG.bind e2)
  obtain ⟨a', vs, rfl, hsq, rs⟩ := wd1.getL rv h1
  cases d <;> first | (cases h1; done) | skip
  obtain ⟨a2, ea, ha2⟩ := rv
  cases ea
  exact ⟨a', vs, rfl, hsq, EndG.pure wd1 q _ (jr_enm ha2)⟩
theorem pi_zp (G : Good X cl ex T c k sc N W) {a b : Expr} {ma mb : Rho → Mo D} {p pos tpos : Pos} {elts : List Expr} {kk : Nat} (hg : glB sc "zip" = true) (hb : ("zip" : Str) ∈ T.blts) (hs : noStar a = true) (hs2 : noStar b = true) (ha : PE X a (tE (kw X cl ex) W ma)) (hb2 : PE X b (tE (kw X cl ex) W mb)) :
    PI X (.Tuple elts kk tpos) (.Call (.Name "zip" p) [a, b] [] pos) (tI (kw X cl ex) W (fun ρ => (ma ρ).bind fun v => (mb ρ).bind fun w => (lookM (zipK v w)).bind fun _ => .pure (nxZip v w))) := by
  refine ⟨fun pins s σ H R I h => (RZ.pi_zipA (G.gl hg) (G.fs.bt _ hb) (pa_cons ha (pa_cons hb2 pa_nil (star_cons hs2 _ _)) (star_cons hs _ _)) (star_cons hs _ _) (by rw [star_cons hs2]; rfl)).run pins s σ H R I ?_⟩
  obtain ⟨μ, η, ρ, wd, re, e⟩ := h
  refine ⟨μ, η, ρ, wd, re, (EndG.bind e).imp fun d η1 μ1 H1 af wd1 e2 v rv => ?_⟩
  refine ⟨μ1, η1, ρ, wd1, re.mono af, (EndG.bind e2).imp fun d2 η2 μ2 H2 af2 wd2 e4 v2 rv2 => ?_⟩
  obtain ⟨u, h1, q0⟩ := EndG.look wd2 (EndG.bind e4)
  have q := EndG.pure wd2 q0
  have rv' := RV.mono af2 d v rv
  unfold zipK at h1
  split at h1
  · obtain ⟨a1, vs, rfl, hs1, rs⟩ := rv'
    obtain ⟨b1, ws, rfl, hs2', qs⟩ := rv2
    exact ⟨a1, b1, vs, ws, rfl, .inr ⟨hs1, hs2', q _ (jr_zipT hs1 rs hs2' qs)⟩⟩
  · rename_i j l
    cases e5 : MI.getL η2 (.ref j) with
    | none => rw [e5] at h1; cases h1
    | some xs =>
      cases e6 : MI.getL η2 (.ref l) with
      | none => rw [e5, e6] at h1; cases h1
      | some ys =>
        obtain ⟨a1, vs, rfl, hs1, rs⟩ := wd2.getL rv' e5
        obtain ⟨b1, ws, rfl, hs2', qs⟩ := wd2.getL rv2 e6
        obtain ⟨a2, ea, ha2⟩ := rv'
        obtain ⟨b2, eb, hb3⟩ := rv2
        cases ea; cases eb
        exact ⟨a1, b1, vs, ws, rfl, .inl ⟨hs1, hs2', q _ (jr_zipL ha2 hb3)⟩⟩
  · cases h1
end
end MIS

set_option Elab.async false
set_option linter.all false
set_option maxRecDepth 100000
set_option maxHeartbeats 2000000
/-! MiS10: methods. -/
namespace MIS
open PySem PySem.Spec PyProof.Rows L2 MI
def rMm (K : KW) (f : D → List D → Mo D) : V → List V → Hp → VK → Prop := fun x xs H Q => ∃ (W : WN) (μ : List Addr) (η : Hv) (d : D) (ds : List D), Wd K μ H η ∧ RV K μ H d x ∧ RVs K μ H ds xs ∧ EV K W μ H Q (f d ds η)
section
variable {K : KW} {μ : List Addr} {H : Hp} {η : Hv} {W : WN} {Q : VK}
/-- a list of MI's is written -/
theorem EV.wr {i : Nat} {a : Addr} {es : List D} {vs ws : List V} {d : D} {v : V} (h : EV K W μ H Q (.ok d (η.set i (.lst es)))) (w : Wd K μ H η) (ha : μ[i]? = some a) (hv : H a = some (.lst vs)) (rs : RVs K μ H es ws) (rd : RV K μ H d v) : Q v (upd H a (.lst ws)) := by
  have af : Aft K μ H μ (upd H a (.lst ws)) := aft_write (List.mem_of_getElem? ha) hv ⟨fun _ z => (nomatch z), fun _ _ z => (nomatch z)⟩
  have w2 := w.write (x := .lst es) (o := .lst ws) ha hv ⟨fun _ z => (nomatch z), fun _ _ z => (nomatch z)⟩ ⟨ws, upd_same, RVs.mono af es ws rs⟩
  exact h μ _ af w2.1 v (RV.mono af d v rd)
end
section
variable {X : Cx} {cl ex : Nat → Addr}
theorem mM_append : MtM X "list.append" (rMm (kw X cl ex) (mthM .append)) := by
  intro pins s σ H x xs v us Q I rx rs ⟨W, μ, η, d, ds, wd, rd, rds, h⟩
  have hl := lim_eq
  match ds, rds, h with
  | [], _, h => cases d <;> exact h.elim
  | _ :: _ :: _, _, h => cases d <;> exact h.elim
  | [e], rds, h =>
    obtain ⟨y, rfl, ry⟩ := rds.one_inv
    cases d <;> first | exact h.elim | skip
    obtain ⟨a, rfl, ha⟩ := rd
    simp only [mthM] at h
    split at h
    · rename_i ys e1
      split at h
      · rename_i hz
        obtain ⟨vs, h1, h2⟩ := wd.lst ha e1
        exact mt_append pins s σ H _ _ v us Q I rx rs ⟨a, vs, y, rfl, rfl, h1, by rw [h2.len, ← hl]; exact hz, h.wr (v := .non) wd ha h1 (h2.append (RVs.one ry)) rfl⟩
      · exact h.elim
    · exact h.elim
theorem ix_seq {i : Int} {n k : Nat} (h : ixD n i = some k) : seqIndex? i n = some k := by
  unfold ixD at h
  unfold seqIndex?
  by_cases h0 : 0 ≤ i
  · rw [if_pos h0] at h
    by_cases h1 : i < n
    · rw [if_pos h1] at h
      cases h
      have : ¬ i < 0 := by omega
      simp [this, h0, h1]
    · rw [if_neg h1] at h; cases h
  · rw [if_neg h0] at h
    by_cases h1 : -(n : Int) ≤ i
    · rw [if_pos h1] at h
      cases h
      have e1 : i < 0 := by omega
      have e2 : 0 ≤ i + n := by omega
      have e3 : i + (n : Int) < n := by omega
      simp only [e1, if_true, e2, e3, decide_true, Bool.and_self]
    · rw [if_neg h1] at h; cases h
theorem mM_pop : MtM X "list.pop" (rMm (kw X cl ex) (mthM .pop)) := by
  intro pins s σ H x xs v us Q I rx rs ⟨W, μ, η, d, ds, wd, rd, rds, h⟩
  match ds, rds, h with
  | e :: _ :: _, _, h => cases d <;> cases e <;> exact h.elim
  | [e], rds, h =>
    obtain ⟨y, rfl, ry⟩ := rds.one_inv
    cases d <;> first | exact h.elim | skip
    cases e <;> first | exact h.elim | skip
    obtain ⟨a, rfl, ha⟩ := rd
    cases ry
    simp only [mthM] at h
    split at h
    · rename_i ys e1
      split at h
      · rename_i j e3
        split at h
        · rename_i y e2
          obtain ⟨vs, h1, h2⟩ := wd.lst ha e1
          obtain ⟨w, h3, h4⟩ := h2.get e2
          split at e3
          · rename_i hb
            exact mt_popAt pins s σ H _ _ v us Q I rx rs ⟨a, vs, _, j, w, rfl, rfl, h1, by omega, by omega, ix_seq (by rw [h2.len]; exact e3), h3, h.wr wd ha h1 (h2.erase j) h4⟩
          · cases e3
        · exact h.elim
      · exact h.elim
    · exact h.elim
  | [], rds, h =>
    have e0 : xs = [] := rds
    subst e0
    cases d <;> first | exact h.elim | skip
    obtain ⟨a, rfl, ha⟩ := rd
    simp only [mthM] at h
    split at h
    · rename_i ys e1
      split at h
      · rename_i y e2
        obtain ⟨vs, h1, h2⟩ := wd.lst ha e1
        rw [List.getLast?_eq_getElem?] at e2
        obtain ⟨w, h3, h4⟩ := h2.get e2
        exact mt_pop pins s σ H _ _ v us Q I rx rs ⟨a, vs, w, rfl, rfl, h1, by rw [h2.len]; exact h3, h.wr wd ha h1 h2.dropLast h4⟩
      · exact h.elim
    · exact h.elim
theorem mM_reverse : MtM X "list.reverse" (rMm (kw X cl ex) (mthM .reverse)) := by
  intro pins s σ H x xs v us Q I rx rs ⟨W, μ, η, d, ds, wd, rd, rds, h⟩
  match ds, rds, h with
  | _ :: _, _, h => cases d <;> exact h.elim
  | [], rds, h =>
    have e0 : xs = [] := rds
    subst e0
    cases d <;> first | exact h.elim | skip
    obtain ⟨a, rfl, ha⟩ := rd
    simp only [mthM] at h
    split at h
    · rename_i ys e1
      obtain ⟨vs, h1, h2⟩ := wd.lst ha e1
      exact mt_reverse pins s σ H _ _ v us Q I rx rs ⟨a, vs, rfl, rfl, h1, h.wr (v := .non) wd ha h1 h2.reverse rfl⟩
    · exact h.elim
theorem mM_clear : MtM X "list.clear" (rMm (kw X cl ex) (mthM .clear)) := by
  intro pins s σ H x xs v us Q I rx rs ⟨W, μ, η, d, ds, wd, rd, rds, h⟩
  match ds, rds, h with
  | _ :: _, _, h => cases d <;> exact h.elim
  | [], rds, h =>
    have e0 : xs = [] := rds
    subst e0
    cases d <;> first | exact h.elim | skip
    obtain ⟨a, rfl, ha⟩ := rd
    simp only [mthM] at h
    split at h
    · rename_i ys e1
      obtain ⟨vs, h1, h2⟩ := wd.lst ha e1
      exact mt_clear pins s σ H _ _ v us Q I rx rs ⟨a, vs, rfl, rfl, h1, h.wr (v := .non) (ws := []) wd ha h1 rfl rfl⟩
    · rename_i ys e1
      exact (wd.obj _ a _ ha e1).elim
    · exact h.elim
theorem joinS_eq (a : List Nat) : ∀ ys : List (List Nat), Str.join ⟨a.toArray⟩ (ys.map fun s => (⟨s.toArray⟩ : Str)) = ⟨(joinS a ys).toArray⟩
  | [] => rfl
  | [x] => rfl
  | x :: y :: r => by
    have ih := joinS_eq a (y :: r)
    show (⟨x.toArray⟩ : Str) ++ ⟨a.toArray⟩ ++ Str.join ⟨a.toArray⟩ ((y :: r).map fun s => (⟨s.toArray⟩ : Str)) = ⟨(x ++ a ++ joinS a (y :: r)).toArray⟩
    rw [ih]
    show (⟨x.toArray ++ a.toArray ++ (joinS a (y :: r)).toArray⟩ : Str) = _
    rw [List.append_toArray, List.append_toArray]
theorem mM_join : MtR X "str.join" (rMm (kw X cl ex) (mthM .join)) := by
  intro pins s σ H x xs v us Q I rx rs ⟨W, μ, η, d, ds, wd, rd, rds, h⟩
  have hl := lim_eq
  match ds, rds, h with
  | [], _, h => cases d <;> exact h.elim
  | _ :: _ :: _, _, h => cases d <;> exact h.elim
  | [e], rds, h =>
    obtain ⟨y, rfl, ry⟩ := rds.one_inv
    cases d <;> first | exact h.elim | skip
    rename_i sep
    cases rd
    simp only [mthM] at h
    obtain ⟨c, h1, q⟩ := h.look wd
    cases e1 : seqH e η with
    | none => rw [e1] at h1; cases h1
    | some ys =>
      rw [e1] at h1
      simp only [Option.bind_some] at h1
      cases e2 : strsOf ys with
      | none => rw [e2] at h1; cases h1
      | some ss =>
        rw [e2] at h1
        simp only [Option.bind_some] at h1
        split at h1
        · rename_i hz
          cases h1
          have em := strsOf_map e2
          subst em
          obtain ⟨a, vs, rfl, rs2, hh⟩ := seq_ok wd ry e1
          rw [rs2.strs] at hh
          refine mt_join pins s σ H _ _ v us Q I rx rs ⟨_, a, _, rfl, rfl, hh.imp (·.2) (·.2), ?_, ?_⟩
          · have hm : ((ss.map fun s => (⟨s.toArray⟩ : Str)).map (·.length)) = ss.map List.length := by
              rw [List.map_map]
              exact List.map_congr_left fun z _ => by show z.toArray.size = _; rw [List.size_toArray]
            rw [hm, List.length_map]
            refine Nat.le_trans (Nat.le_of_eq ?_) hz
            show _ + _ * (List.toArray _).size = _
            rw [List.size_toArray]
          · rw [TL.join_eq, joinS_eq]
            exact q _ rfl
        · cases h1
theorem idxOf_spec (a : D) : ∀ (bs : List D) (n j : Nat), idxOf a bs n = some j → ∃ i z, j = n + i ∧ bs[i]? = some z ∧ D.eqv z a = true ∧ ∀ m z', m < i → bs[m]? = some z' → D.eqv z' a = false
  | [], _, _, h => nomatch h
  | b :: bs, n, j, h => by
    rw [idxOf] at h
    split at h
    · rename_i hb
      cases h
      exact ⟨0, b, rfl, rfl, hb, fun m z' hm => absurd hm (Nat.not_lt_zero _)⟩
    · rename_i hb
      obtain ⟨i, z, e1, e2, e3, e4⟩ := idxOf_spec a bs (n + 1) j h
      refine ⟨i + 1, z, by omega, by simpa using e2, e3, fun m z' hm hz => ?_⟩
      cases m with
      | zero =>
        simp at hz
        subst hz
        exact Bool.eq_false_iff.mpr hb
      | succ m => exact e4 m z' (by omega) (by simpa using hz)
theorem pys_get : ∀ {bs : List D} {i : Nat}, (pys bs)[i]? = (bs[i]?).map py
  | [], i => by simp [pys]
  | b :: bs, 0 => by simp [pys]
  | b :: bs, i + 1 => by
    rw [pys, List.getElem?_cons_succ, List.getElem?_cons_succ]
    exact pys_get
theorem mM_index (hu : X.A.units + 65 < cLine) : MtR X "list.index" (rMm (kw X cl ex) (mthM .index)) := by
  intro pins s σ H x xs v us Q I rx rs ⟨W, μ, η, d, ds, wd, rd, rds, h⟩
  match ds, rds, h with
  | [], _, h => cases d <;> exact h.elim
  | _ :: _ :: _, _, h => cases d <;> exact h.elim
  | [e], rds, h =>
    obtain ⟨y, rfl, ry⟩ := rds.one_inv
    have h' : EV (kw X cl ex) W μ H Q (lookM (fun h => (MI.getL h d).bind fun ys => (memH e ys h).bind fun b => if b = true then (deep h e).bind fun a => (deepsW (deepR h 6) ys).bind fun bs => (idxOf a bs 0).map fun n => D.int n else none) η) := by
      cases d <;> exact h
    obtain ⟨c, h1, q⟩ := h'.look wd
    cases e1 : MI.getL η d with
    | none => rw [e1] at h1; cases h1
    | some ys =>
      rw [e1] at h1
      simp only [Option.bind_some] at h1
      cases e2 : memH e ys η with
      | none => rw [e2] at h1; cases h1
      | some b =>
        rw [e2] at h1
        simp only [Option.bind_some] at h1
        cases b with
        | false => cases h1
        | true =>
          rw [if_pos rfl] at h1
          have hm := e2
          unfold memH at hm
          cases e3 : deep η e with
          | none => rw [e3] at h1; cases h1
          | some a =>
            cases e4 : deepsW (deepR η 6) ys with
            | none => rw [e3, e4] at h1; cases h1
            | some bs =>
              rw [e3, e4] at h1 hm
              simp only [Option.bind_some] at h1 hm
              split at hm
              · rename_i hs
                rw [Bool.and_eq_true] at hs
                cases e5 : idxOf a bs 0 with
                | none => rw [e5] at h1; cases h1
                | some j =>
                  rw [e5] at h1
                  cases h1
                  obtain ⟨i, z, e6, e7, e8, e9⟩ := idxOf_spec a bs 0 j e5
                  rw [Nat.zero_add] at e6
                  subst e6
                  obtain ⟨p, vs, rfl, hp, rs2⟩ := wd.getL rd e1
                  have fin : ∀ z ∈ bs, z.fine = true := fun z hz => shp_fine (List.all_eq_true.mp hs.2 z hz)
                  refine mt_indexD hu pins s σ H _ _ v us Q I rx rs ⟨p, y, py a, pys bs, j, py z, rfl, rfl, .lst hp (deepsW_dp (fun i a d h1 h2 => deepR_dp wd 6 i a d h1 h2) ys bs vs e4 rs2), deep_dp wd e3 ry, shaped_list hs.2, shp_shaped hs.1, ?_, ?_, fun m z' hm' hz' => ?_, q _ rfl⟩
                  · rw [pys_get, e7]; rfl
                  · rw [eqv_py z a (fin z (List.mem_of_getElem? e7)) (shp_fine hs.1)]; exact e8
                  · rw [pys_get] at hz'
                    cases e10 : bs[m]? with
                    | none => rw [e10] at hz'; cases hz'
                    | some w =>
                      rw [e10] at hz'
                      cases hz'
                      rw [eqv_py w a (fin w (List.mem_of_getElem? e10)) (shp_fine hs.1)]
                      exact e9 m w hm' e10
              · cases hm
end
/-! ### the calls -/
section
variable {X : Cx} {cl ex : Nat → Addr} {T : Tab} {c c' : ClM} {k : Nat} {sc : Scope} {N : List Str} {W : WS}
theorem base_of {o : Expr} (h : baseOk o = true) (m : Str) (env : PySem.Env) (w : Sem Value) : attributeBase o m env w = w := by
  cases o <;> first | rfl | (cases h; done)
/-- the receiver's kind is known -/
def tKnd (K : KW) (W : WS) (kd : D → Hv → Option Unit) (mo : Rho → Mo D) : Rho → Mo D := fun ρ => (mo ρ).bind fun x => (lookM (kd x)).bind fun _ => .pure x
theorem conv_M {K : KW} {σ : L2.St} {H : Hp} {Q : VK} {mo : Rho → Mo D} {ms : Rho → Mo (List D)} {kd : D → Hv → Option Unit} {f : D → List D → Mo D} {TT : String} (hk : ∀ μ H η d x u, Wd K μ H η → RV K μ H d x → kd d η = some u → tyV K.K TT x H)
    (h : tE K W (fun ρ => (mo ρ).bind fun x => (lookM (kd x)).bind fun _ => (ms ρ).bind fun ds => f x ds) σ H Q) : tBM K.K TT (rMm K f) (tE K W mo) (tA K W ms) σ H Q := by
  obtain ⟨μ, η, ρ, wd, re, e⟩ := h
  refine ⟨μ, η, ρ, wd, re, (EndG.bind e).imp fun d η1 μ1 H1 af wd1 e2 v rv => ?_⟩
  obtain ⟨u, h1, q⟩ := EndG.look wd1 (EndG.bind e2)
  refine ⟨hk _ _ _ _ _ u wd1 rv h1, μ1, η1, ρ, wd1, re.mono af, (EndG.bind q).imp fun ds η2 μ2 H2 af2 wd2 e4 vs rs => ?_⟩
  exact ⟨_, μ2, η2, d, ds, wd2, RV.mono af2 d v rv, rs, e4⟩
theorem conv_M0 {K : KW} {σ : L2.St} {H : Hp} {Q : VK} {mo : Rho → Mo D} {kd : D → Hv → Option Unit} {f : D → List D → Mo D} {TT : String} (hk : ∀ μ H η d x u, Wd K μ H η → RV K μ H d x → kd d η = some u → tyV K.K TT x H)
    (h : tE K W (fun ρ => (mo ρ).bind fun x => (lookM (kd x)).bind fun _ => (Mo.pure []).bind fun ds => f x ds) σ H Q) : tBM0 K.K TT (rMm K f) (tE K W mo) σ H Q := by
  obtain ⟨μ, η, ρ, wd, re, e⟩ := h
  refine ⟨μ, η, ρ, wd, re, (EndG.bind e).imp fun d η1 μ1 H1 af wd1 e2 v rv => ?_⟩
  obtain ⟨u, h1, q⟩ := EndG.look wd1 (EndG.bind e2)
  exact ⟨hk _ _ _ _ _ u wd1 rv h1, _, μ1, η1, d, [], wd1, rv, rfl, q⟩
theorem ty_list {K : KW} {kd : D → Hv → Option Unit} (he : ∀ d h, kd d h = (MI.getL h d).map fun _ => ()) : ∀ μ H η d x u, Wd K μ H η → RV K μ H d x → kd d η = some u → tyV K.K "list" x H := by
  intro μ H η d x u wd rd h
  rw [he] at h
  cases e : MI.getL η d with
  | none => rw [e] at h; cases h
  | some xs =>
    obtain ⟨a, vs, rfl, hs, _⟩ := wd.getL rd e
    exact .inl ⟨rfl, vs, hs⟩
theorem ty_str {K : KW} : ∀ μ H η d x u, Wd K μ H η → RV K μ H d x → kndH .join d η = some u → tyV K.K "str" x H := by
  intro μ H η d x u wd rd h
  cases d <;> first | (cases h; done) | skip
  cases rd
  rfl
theorem few_of {e : Expr} {cpos : Pos} {env : PySem.Env} (h : noStar e = true) : ((backTo cpos (starEach [e] env)).all (fun x => !x.1) && (backToKw cpos (keywordEach [] env)).all (fun x => x.1.isSome)
      && decide ([e].length + ([] : List Keyword).length + (if ([] : List Keyword).isEmpty then 0 else 1) < 30)) = true := by
  rw [star_cons h]; rfl
theorem Good.m1 (G : Good X cl ex T c k sc N W) {o e : Expr} {mo : Rho → Mo D} {name : Str} {apos cpos : Pos} {TT id : String} {kd : D → Hv → Option Unit} {f : D → List D → Mo D} (pa : PlainAttrs TT) (slot : Slot TT name id) (hty : typeOf (.builtin id) = pure (.type "method_descriptor"))
    (hm : MtR X id (rMm (kw X cl ex) f)) (hk : ∀ μ H η d x u, Wd (kw X cl ex) μ H η → RV (kw X cl ex) μ H d x → kd d η = some u → tyV X.K TT x H) (hb : baseOk o = true) (hl : (apos.endLine == cpos.line) = true) (hs : noStar e = true) (ho : PE X o (tE (kw X cl ex) W mo)) {ms : Rho → Mo (List D)} (he : PA X [e] (tA (kw X cl ex) W ms)) :
    PE X (.Call (.Attribute o name apos) [e] [] cpos) (tE (kw X cl ex) W (fun ρ => (mo ρ).bind fun x => (lookM (kd x)).bind fun _ => (ms ρ).bind fun ds => f x ds)) :=
  impE (pe_bm pa slot hty hm ho he (base_of hb _ _ _) (few_of hs) hl (star_cons hs _ _) rfl) fun σ H Q h => conv_M hk h
theorem Good.m0 (G : Good X cl ex T c k sc N W) {o : Expr} {mo : Rho → Mo D} {name : Str} {apos cpos : Pos} {TT id : String} {kd : D → Hv → Option Unit} {f : D → List D → Mo D} (pa : PlainAttrs TT) (slot : Slot TT name id) (hty : typeOf (.builtin id) = pure (.type "method_descriptor"))
    (hm : MtR X id (rMm (kw X cl ex) f)) (hk : ∀ μ H η d x u, Wd (kw X cl ex) μ H η → RV (kw X cl ex) μ H d x → kd d η = some u → tyV X.K TT x H) (hb : baseOk o = true) (hl : (apos.endLine == cpos.line) = true) (ho : PE X o (tE (kw X cl ex) W mo)) :
    PE X (.Call (.Attribute o name apos) [] [] cpos) (tE (kw X cl ex) W (fun ρ => (mo ρ).bind fun x => (lookM (kd x)).bind fun _ => (Mo.pure []).bind fun ds => f x ds)) :=
  impE (pe_bm0 pa slot hty hm ho (base_of hb _ _ _) hl) fun σ H Q h => conv_M0 hk h
end
end MIS

set_option Elab.async false
set_option linter.all false
set_option maxRecDepth 100000
set_option maxHeartbeats 2000000
/-! MiS11: targets, comprehensions. -/
namespace MIS
open PySem PySem.Spec PyProof.Rows L2 MI
section
variable {K : KW} {μ μ1 : List Addr} {H H1 : Hp} {η : Hv} {ρ ρ1 : Rho} {σ : L2.St}
def gT (F : PySem.W.Frag) : Tgt → TG
  | .one i => gName i
  | .two i j => gTup F 2 (gCons (gName i) (gCons (gName j) gNil))
def vsT : Tgt → List Nat
  | .one i => [i]
  | .two i j => [i, j]
theorem gT_ok {t : Tgt} {d : D} {x : V} {Q : L2.St → Hp → Prop} (re : RE K μ H ρ σ) (rd : RV K μ H d x) (h : setT ρ t d = some ρ1) (q : ∀ σ1, RE K μ H ρ1 σ1 → (wipe σ1 (vsT t) = wipe σ (vsT t)) → Q σ1 H) : gT K.K t x σ H Q := by
  cases t with
  | one i =>
    cases h
    exact q _ (re.set i rd) (by simp [vsT, wipe])
  | two i j =>
    unfold setT at h
    split at h
    · rename_i e; cases e
    · rename_i i' j' a b e
      cases e
      cases h
      obtain ⟨p, vs, rfl, hs, rs⟩ := rd
      obtain ⟨va, vb, rfl, ra, rb⟩ := rs.two_inv
      refine ⟨p, _, rfl, hs, rfl, va, [vb], rfl, vb, [], rfl, rfl, q _ ((re.set i ra).set j rb) ?_⟩
      simp only [vsT, wipe]
      apply List.ext_getElem?
      intro n
      simp only [List.getElem?_set, List.length_set]
      by_cases h1 : i = n
      · simp [h1]
      · by_cases h2 : j = n
        · simp [h1, h2]
        · simp [h1, h2]
    · cases h
theorem RE.wipeT (re : RE K μ H ρ σ) (t : Tgt) : RE K μ H (MI.wipeT ρ t) (wipe σ (vsT t)) := by
  cases t with
  | one i => exact re.wipe1 i
  | two i j => exact (re.wipe1 j).wipe1 i
/-- a tracked list beside MI's heap -/
theorem keep_side {dd : Addr} {vs : List V} {o : HO} (hD : H dd = some (.lst vs)) {a : Addr} {ws : List V} (h : SqT K.K H a ws) : SqT K.K (upd H dd o) a ws := by
  rcases h with h | h
  · refine .inl ?_
    rcases h with h | ⟨ob, h⟩
    · exact .inl (by rw [upd_ne (ne_of h hD fun z => (nomatch z))]; exact h)
    · exact .inr ⟨ob, by rw [upd_ne (ne_of h hD fun z => (nomatch z))]; exact h⟩
  · exact .inr h
theorem keep_sideL {dd : Addr} {vs : List V} {o : HO} (hD : H dd = some (.lst vs)) {a : Addr} {ws : List V} (h : SqI K.K H a ws) : SqI K.K (upd H dd o) a ws :=
  h.imp (fun ⟨ob, h⟩ => ⟨ob, by rw [upd_ne (ne_of h hD fun z => (nomatch z))]; exact h⟩) id
theorem aft_side {dd : Addr} {vs : List V} {o : HO} (hD : H dd = some (.lst vs)) (hn : dd ∉ μ) : ∀ {μ0 : List Addr} {H0 : Hp}, H0 dd = none → Aft K μ0 H0 μ H → Aft K μ0 H0 μ (upd H dd o) := fun {μ0 H0} h0 af =>
  ⟨af.pre, fun a ws h => keep_side hD (af.keep a ws h), fun a ws h => keep_sideL hD (af.keepL a ws h), fun a x h n => by
    obtain ⟨h1, n1⟩ := af.frame a x h n
    exact ⟨by rw [upd_ne (ne_of_none h h0)]; exact h1, n1⟩⟩
theorem rv_side {dd : Addr} {vs : List V} {o : HO} (hD : H dd = some (.lst vs)) : Aft K μ H μ (upd H dd o) ∨ True := .inr trivial
mutual
theorem RV.side {dd : Addr} {vs : List V} {o : HO} (hD : H dd = some (.lst vs)) : ∀ (d : D) (v : V), RV K μ H d v → RV K μ (upd H dd o) d v
  | .non, _, h => h
  | .bl _, _, h => h
  | .int _, _, h => h
  | .str _, _, h => h
  | .tup xs, _, h => by
    obtain ⟨p, ws, e, q, r⟩ := h
    exact ⟨p, ws, e, keep_side hD q, RVs.side hD xs ws r⟩
  | .ref _, _, h => h
  | .exc _, _, h => h
  | .lst xs, _, h => by
    obtain ⟨p, ws, e, q, r⟩ := h
    exact ⟨p, ws, e, keep_sideL hD q, RVs.side hD xs ws r⟩
theorem RVs.side {dd : Addr} {vs : List V} {o : HO} (hD : H dd = some (.lst vs)) : ∀ (ds : List D) (ws : List V), RVs K μ H ds ws → RVs K μ (upd H dd o) ds ws
  | [], _, h => h
  | x :: xs, _, h => by
    obtain ⟨v, r, e, h1, h2⟩ := h
    exact ⟨v, r, e, RV.side hD x v h1, RVs.side hD xs r h2⟩
end
theorem OB.side {dd : Addr} {vs : List V} {o : HO} (hD : H dd = some (.lst vs)) {p : Addr} (hp : p ≠ dd) : ∀ {u : O}, OB K μ H p u → OB K μ (upd H dd o) p u
  | .lst ds, h => by
    obtain ⟨ws, q, r⟩ := h
    exact ⟨ws, by rw [upd_ne hp]; exact q, RVs.side hD ds ws r⟩
  | .frz ds, h => by
    obtain ⟨ob, ws, q, r⟩ := h
    exact ⟨ob, ws, by rw [upd_ne hp]; exact q, RVs.side hD ds ws r⟩
  | .dic _, h => h.elim
  | .set ds, h => by
    obtain ⟨ns, S, h1, h2, h3, h4⟩ := h
    exact ⟨ns, S, h1, h2, by rw [upd_ne hp]; exact h3, h4⟩
  | .ins _ _, h => h.elim
theorem Wd.side (w : Wd K μ H η) {dd : Addr} {vs : List V} {o : HO} (hD : H dd = some (.lst vs)) (hn : dd ∉ μ) : Wd K μ (upd H dd o) η :=
  ⟨w.len, w.nd, fun i a u h1 h2 => OB.side hD (fun e => hn (by rw [← e]; exact List.mem_of_getElem? h1)) (w.obj i a u h1 h2)⟩
/-- .. is taken into it -/
theorem Wd.adopt (w : Wd K μ H η) {dd : Addr} {vs : List V} {ds : List D} (hD : H dd = some (.lst vs)) (hn : dd ∉ μ) (rs : RVs K μ H ds vs) : Wd K (μ ++ [dd]) H (η ++ [.lst ds]) := by
  have mono : Aft K μ H (μ ++ [dd]) H ∨ True := .inr trivial
  have rvm : ∀ {ds : List D} {ws : List V}, RVs K μ H ds ws → RVs K (μ ++ [dd]) H ds ws := by
    have at' : ∀ {i : Nat} {x : Addr}, μ[i]? = some x → (μ ++ [dd])[i]? = some x := fun {i x} h => by
      rw [List.getElem?_append_left (List.getElem?_eq_some_iff.mp h).1]; exact h
    have key : ∀ (n : Nat), (∀ d : D, sizeOf d < n → ∀ v, RV K μ H d v → RV K (μ ++ [dd]) H d v) := by
      intro n
      induction n with
      | zero => intro d hd; omega
      | succ n ih =>
        intro d hd v h
        cases d with
        | tup xs =>
          obtain ⟨p, ws, e, q, r⟩ := h
          refine ⟨p, ws, e, q, ?_⟩
          have hx : ∀ (ys : List D) (us : List V), sizeOf ys < n → RVs K μ H ys us → RVs K (μ ++ [dd]) H ys us := by
            intro ys
            induction ys with
            | nil => intro us _ h; exact h
            | cons y ys ih2 =>
              intro us hs h
              obtain ⟨u, r', e', h1, h2⟩ := h
              simp only [List.cons.sizeOf_spec] at hs
              exact ⟨u, r', e', ih y (by omega) u h1, ih2 r' (by omega) h2⟩
          simp only [D.tup.sizeOf_spec] at hd
          exact hx xs ws (by omega) r
        | lst xs =>
          obtain ⟨p, ws, e, q, r⟩ := h
          refine ⟨p, ws, e, q, ?_⟩
          have hx : ∀ (ys : List D) (us : List V), sizeOf ys < n → RVs K μ H ys us → RVs K (μ ++ [dd]) H ys us := by
            intro ys
            induction ys with
            | nil => intro us _ h; exact h
            | cons y ys ih2 =>
              intro us hs h
              obtain ⟨u, r', e', h1, h2⟩ := h
              simp only [List.cons.sizeOf_spec] at hs
              exact ⟨u, r', e', ih y (by omega) u h1, ih2 r' (by omega) h2⟩
          simp only [D.lst.sizeOf_spec] at hd
          exact hx xs ws (by omega) r
        | ref i =>
          obtain ⟨p, e, q⟩ := h
          exact ⟨p, e, at' q⟩
        | _ => exact h
    intro ds
    induction ds with
    | nil => intro ws h; exact h
    | cons y ys ih =>
      intro ws h
      obtain ⟨u, r', e', h1, h2⟩ := h
      exact ⟨u, r', e', key (sizeOf y + 1) y (Nat.lt_succ_self _) u h1, ih h2⟩
  refine ⟨by simp [w.len], ?_, fun i a x h1 h2 => ?_⟩
  · rw [List.nodup_append]
    refine ⟨w.nd, by simp, fun a ha b hb e => ?_⟩
    have hb' : b = dd := by simpa using hb
    exact hn (by rw [← hb', ← e]; exact ha)
  · by_cases hi : i < μ.length
    · rw [List.getElem?_append_left hi] at h1
      rw [List.getElem?_append_left (by rw [← w.len]; exact hi)] at h2
      have q := w.obj i a x h1 h2
      cases x with
      | lst es => obtain ⟨ws, q1, q2⟩ := q; exact ⟨ws, q1, rvm q2⟩
      | frz es => obtain ⟨ob, ws, q1, q2⟩ := q; exact ⟨ob, ws, q1, rvm q2⟩
      | set es => exact q
      | dic es => exact q.elim
      | ins c es => exact q.elim
    · have hi' : μ.length ≤ i := Nat.le_of_not_lt hi
      rw [List.getElem?_append_right hi'] at h1
      rw [List.getElem?_append_right (by rw [← w.len]; exact hi')] at h2
      have e0 : i - μ.length = 0 := by
        rcases Nat.eq_zero_or_pos (i - μ.length) with z | z
        · exact z
        · rw [List.getElem?_eq_none (by simp; omega)] at h1; cases h1
      rw [e0] at h1
      rw [← w.len, e0] at h2
      cases h1; cases h2
      exact ⟨vs, hD, rvm rs⟩
theorem lcN_step {nx : Nxt} {t : Tgt} {cond : Rho → Mo Bool} {elt : Rho → Mo D} {n i : Nat} {acc : List D} :
    lcN nx t cond elt ρ (n + 1) i acc η = match nx i η with
    | none => .bad
    | some none => .ok acc η
    | some (some d) => match setT (MI.wipeT ρ t) t d with
      | none => .bad
      | some ρ1 => ((safeM (cond ρ1)).bind fun b => if b = true then (safeM (elt ρ1)).bind fun y => if acc.length < lim then lcN nx t cond elt ρ n (i + 1) (acc ++ [y]) else badM else lcN nx t cond elt ρ n (i + 1) acc) η := rfl
theorem safe_ok {α β : Type} {m : Mo α} {f : α → Mo β} : ((safeM m).bind f) η = match m η with
    | .ok a η1 => f a η1
    | _ => .bad := by
  unfold Mo.bind safeM
  cases m η <;> rfl
/-- no refusal -/
abbrev W0 : WS := fun _ _ _ => False
theorem conv_lc {W : WS} {mi : Rho → Mo Nxt} {cond : Rho → Mo Bool} {elt : Rho → Mo D} {t : Tgt} {Q : VK}
    (h : tE K W (fun ρ => (mi ρ).bind fun nx => (lcN nx t cond elt ρ WFu 0 []).bind fun acc => allocM (.lst acc)) σ H Q) :
    tLc (tI K W mi) (gT K.K t) (tT K W0 cond) (tE K W0 elt) (vsT t) σ H Q := by
  obtain ⟨μ, η, ρ, wd, re, e⟩ := h
  refine ⟨μ, η, ρ, wd, re, (EndG.bind e).imp fun nx η1 μ1 H1 af1 wd1 e2 J hJ => ?_⟩
  have re1 := re.mono af1
  intro dd hD
  have h1m : dd ∉ μ1 := fun hm => by
    obtain ⟨u, hu⟩ := wd1.mem hm
    rw [hD] at hu; cases hu
  refine ⟨fun i m H2 => ∃ μ2 η2 acc vs, Aft K μ1 H1 μ2 H2 ∧ Wd K μ2 H2 η2 ∧ H2 dd = some (.lst vs) ∧ RVs K μ2 H2 acc vs ∧ dd ∉ μ2 ∧
      EndG K (fun c H' => W c σ H') μ1 H1 (fun d _ μ' H' => ∀ v, RV K μ' H' d v → Q v H') (((lcN nx t cond elt ρ m i acc).bind fun acc => allocM (.lst acc)) η2),
    ⟨WFu, μ1, η1, [], [], aft_new hD, wd1.fresh hD, upd_same, rfl, h1m, e2⟩, ?_⟩
  rintro i m H2 ⟨μ2, η2, acc, vs, af2, wd2, hd2, rs2, hn2, e3⟩
  cases m with
  | zero => exact e3.elim
  | succ m =>
    have jr := hJ μ2 H2 η2 i af2 wd2
    unfold Mo.bind at e3
    rw [lcN_step] at e3
    cases hx : nx i η2 with
    | none => rw [hx] at e3; exact e3.elim
    | some o =>
      rw [hx] at e3 jr
      cases o with
      | none =>
        simp only at e3 jr
        refine .inl ⟨jr, ?_⟩
        have ad := wd2.adopt hd2 hn2 rs2
        have af3 : Aft K μ1 H1 (μ2 ++ [dd]) H2 := by
          obtain ⟨t', et⟩ := af2.pre
          refine ⟨⟨t' ++ [dd], by rw [et, List.append_assoc]⟩, af2.keep, af2.keepL, fun a x h n => ?_⟩
          obtain ⟨h1, n1⟩ := af2.frame a x h n
          refine ⟨h1, ?_⟩
          rw [List.mem_append, List.mem_singleton]
          rintro (z | z)
          · exact n1 z
          · exact ne_of_none h hD z
        refine e3 _ H2 af3 ad _ ⟨dd, rfl, ?_⟩
        rw [← wd2.len, List.getElem?_append_right (Nat.le_refl _), Nat.sub_self]
        rfl
      | some d =>
        simp only at e3 jr
        obtain ⟨jg, jy⟩ := jr
        cases hs : setT (MI.wipeT ρ t) t d with
        | none => rw [hs] at e3; exact e3.elim
        | some ρ1 =>
          rw [hs] at e3
          simp only at e3
          refine .inr ⟨jg, fun H' => ∃ μ2 η2 acc vs, Aft K μ1 H1 μ2 H' ∧ Wd K μ2 H' η2 ∧ H' dd = some (.lst vs) ∧ RVs K μ2 H' acc vs ∧ dd ∉ μ2 ∧
            EndG K (fun c H' => W c σ H') μ1 H1 (fun d _ μ' H' => ∀ v, RV K μ' H' d v → Q v H') (((lcN nx t cond elt ρ m (i + 1) acc).bind fun acc => allocM (.lst acc)) η2),
            fun H' q => ⟨m, Nat.lt_succ_self _, q⟩, fun x H' hy => ?_⟩
          obtain ⟨af3, wd3, rd3⟩ := jy x H' hy
          have fr3 := af3.frame dd _ hd2 hn2
          have a13 := af2.trans af3
          refine gT_ok (((re1.mono a13)).wipeT t) rd3 hs fun σ2 re2 hw => ⟨?_, ?_⟩
          · rw [hw]
            cases t with
            | one i => simp [vsT, wipe]
            | two i j =>
              simp only [vsT, wipe]
              apply List.ext_getElem?
              intro n
              simp only [List.getElem?_set, List.length_set]
              by_cases h1 : i = n
              · simp [h1]
              · by_cases h2 : j = n <;> simp [h1, h2]
          · rw [safe_ok] at e3
            refine ⟨μ2, η2, ρ1, wd3, re2, ?_⟩
            cases hc : cond ρ1 η2 with
            | bad => rw [hc] at e3; exact e3.elim
            | ex c η3 => rw [hc] at e3; exact e3.elim
            | ok b η3 =>
              rw [hc] at e3
              intro μ3 H3 af4 wd4
              have fr4 := af4.frame dd _ fr3.1 fr3.2
              have a14 := a13.trans af4
              cases b with
              | false =>
                refine iteF ?_
                simp only [Bool.false_eq_true, if_false] at e3
                exact ⟨μ3, η3, acc, vs, a14, wd4, fr4.1, RVs.mono (af3.trans af4) acc vs rs2, fr4.2, e3⟩
              | true =>
                refine iteT ?_
                simp only [if_true] at e3
                rw [safe_ok] at e3
                refine ⟨μ3, η3, ρ1, wd4, re2.mono af4, ?_⟩
                cases he : elt ρ1 η3 with
                | bad => rw [he] at e3; exact e3.elim
                | ex c η4 => rw [he] at e3; exact e3.elim
                | ok y η4 =>
                  rw [he] at e3
                  simp only at e3
                  intro μ4 H4 af5 wd5 v rv
                  have fr5 := af5.frame dd _ fr4.1 fr4.2
                  have a15 := a14.trans af5
                  have rs5 := RVs.mono ((af3.trans af4).trans af5) acc vs rs2
                  by_cases hz : acc.length < lim
                  · rw [if_pos hz] at e3
                    refine ⟨vs, fr5.1, by rw [rs5.len, ← lim_eq]; exact hz, μ4, η4, acc ++ [y], vs ++ [v], aft_side fr5.1 fr5.2 hD a15, wd5.side fr5.1 fr5.2, upd_same, ?_, fr5.2, e3⟩
                    exact RVs.side fr5.1 _ _ (rs5.append (RVs.one rv))
                  · rw [if_neg hz] at e3; exact e3.elim
end
end MIS

set_option Elab.async false
set_option linter.all false
set_option maxRecDepth 100000
set_option maxHeartbeats 2000000
/-! MiS8: expressions: what the checker takes runs as MI does. -/
namespace MIS
open PySem PySem.Spec PyProof.Rows L2 MI
section
variable {X : Cx} {cl ex : Nat → Addr} {T : Tab} {c c' : ClM} {k : Nat} {sc : Scope} {N : List Str} {W : WS}
/-- a call of an own def -/
theorem conv_call {K : KW} {ms : Rho → Mo (List D)} {f : List D → Mo D} {ar : Nat} {σ : L2.St} {H : Hp} {Q : VK} (hz : ∀ ρ η ds η', ms ρ η = .ok ds η' → ds.length = ar)
    (h : tE K W (fun ρ => (ms ρ).bind fun ds => f ds) σ H Q) : tCallS (spF K ar f) (fun σ => WE (wx K.ex W) σ) (tA K W ms) σ H Q := by
  obtain ⟨μ, η, ρ, wd, re, e⟩ := h
  refine ⟨μ, η, ρ, wd, re, ?_⟩
  have e1 := EndG.bind e
  cases r : ms ρ η with
  | bad => rw [r] at e1; exact e1.elim
  | ex c η1 => rw [r] at e1; exact e1
  | ok ds η1 =>
    rw [r] at e1
    intro μ1 H1 af wd1 vs rs
    refine ⟨by rw [rs.len]; exact hz _ _ _ _ r, μ1, η1, ds, wd1, rs, ?_⟩
    have e2 : EndG K (fun c H' => W c σ H') μ1 H1 (fun d _ μ' H' => ∀ v, RV K μ' H' d v → Q v H') (f ds η1) := e1 μ1 H1 af wd1
    cases q : f ds η1 with
    | bad => rw [q] at e2; exact e2
    | ok d η2 => rw [q] at e2; exact e2
    | ex j η2 => rw [q] at e2; exact fun μ' H' a w => ⟨j, rfl, rfl, e2 μ' H' a w⟩
theorem Good.call (G : Good X cl ex T c k sc N W) {x : Str} {f : String} {ar : Nat} {e : Expr} {es : List Expr} {ms : Rho → Mo (List D)} {p pos : Pos} (hx : glB sc x = true) (hn : nmB x = true) (hf : (x, f, ar) ∈ T.fns)
    (hz : ∀ ρ η ds η', ms ρ η = .ok ds η' → ds.length = ar) (ha : PA X (e :: es) (tA (kw X cl ex) W ms)) (h1 : starEach (e :: es) X.env = (false, eval e X.env) :: starEach es X.env) (h2 : (backTo pos (starEach es X.env)).any (·.1) = false) :
    PE X (.Call (.Name x p) (e :: es) [] pos) (tE (kw X cl ex) W (fun ρ => (ms ρ).bind fun ds => c f ds)) := by
  obtain ⟨a, hm, hk, fdat, ps, hl, F, B⟩ := (G.fs.fn _ hf).g
  exact impE (pe_callS F G.room (G.gl hx) hm hk B (fun σ => passAt G.tk σ) ha (nm_dbg hn) h1 h2) fun σ H Q h => conv_call hz h
def tkN : MI.Tk → String
  | .non => "NoneType"
  | .bl => "bool"
  | .int => "int"
  | .str => "str"
  | .tup => "tuple"
  | .list => "list"
  | .set => "set"
theorem kit_all (t : MI.Ty) (k : MI.Tk) : L2.kitB (tkN k) (tyN t) = some (isT t k) := by
  cases t <;> cases k <;> decide +kernel
theorem boot_tyS (t : MI.Ty) : bootBuiltins (tyS t) = some (.type (tyN t)) := by
  cases t <;> decide +kernel
theorem tyx_of {K : KW} {μ : List Addr} {H : Hp} {η : Hv} {d : D} {x : V} {k : MI.Tk} (wd : Wd K μ H η) (r : RV K μ H d x) (h : tyD d η = some k) : L2.TyX K.K H x (.type (tkN k)) := by
  unfold tyD at h
  split at h
  · cases h; cases r; exact .base .non
  · cases h; cases r; exact .base (.bl _)
  · cases h; cases r; exact .base (.int _)
  · cases h; cases r; exact .base (.str _)
  · cases h
    obtain ⟨a, vs, rfl, hs, _⟩ := r
    rcases hs with (hs | ⟨ob, hs⟩) | ⟨o, its, n, h1, h2, _⟩
    · exact .base (.tup hs)
    · exact .fTuple hs
    · exact .kTuple h1 h2
  · obtain ⟨a, rfl, ha⟩ := r
    split at h
    · rename_i e
      cases h
      obtain ⟨vs, h1, _⟩ := wd.obj _ a _ ha e
      exact .base (.lst h1)
    · rename_i e
      cases h
      obtain ⟨ob, vs, h1, _⟩ := wd.obj _ a _ ha e
      exact .base (.frz h1)
    · cases h
  · cases h
theorem conv_isi {K : KW} {σ : L2.St} {H : Hp} {Q : VK} {me : Rho → Mo D} {t : MI.Ty} (h : tE K W (fun ρ => (me ρ).bind fun v => lookM fun h => (tyD v h).map fun k => D.bl (isT t k)) σ H Q) :
    tCB (L2.rIsi K.K) (tCons (tE K W me) (tCons (tC (.ty (tyN t))) tNil)) σ H Q := by
  obtain ⟨μ, η, ρ, wd, re, e⟩ := h
  refine ⟨μ, η, ρ, wd, re, (EndG.bind e).imp fun d η1 μ1 H1 af wd1 e2 v rv => ?_⟩
  obtain ⟨c, h1, q⟩ := EndG.look wd1 e2
  cases e3 : tyD d η1 with
  | none => rw [e3] at h1; cases h1
  | some k =>
    rw [e3] at h1
    cases h1
    exact ⟨v, .ty (tyN t), .type (tkN k), .type (tyN t), isT t k, rfl, .ty _, tyx_of wd1 rv e3, L2.kit_ty (kit_all t k), q _ rfl⟩
theorem Good.isi (G : Good X cl ex T c k sc N W) {e : Expr} {me : Rho → Mo D} {t : MI.Ty} {p p2 pos : Pos} (h1 : glB sc "isinstance" = true) (h2 : ("isinstance" : Str) ∈ T.blts) (h3 : glB sc (tyS t) = true) (h4 : tyS t ∈ T.blts) (hs : noStar e = true) (he : PE X e (tE (kw X cl ex) W me)) :
    PE X (.Call (.Name "isinstance" p) [e, .Name (tyS t) p2] [] pos) (tE (kw X cl ex) W (fun ρ => (me ρ).bind fun v => lookM fun h => (tyD v h).map fun k => D.bl (isT t k))) :=
  impE (pe_callB L2.call_isi (G.gl h1) (G.fs.bt _ h2) (by decide +kernel) (pa_cons he (pa_cons (pe_bltn (v := .ty (tyN t)) (G.gl h3) (G.fs.bt _ h4) (boot_tyS t) rfl (by cases t <;> decide +kernel) (by cases t <;> decide +kernel)) pa_nil) (star_cons hs _ _)) (by decide +kernel) (by decide +kernel) (star_cons hs _ _) rfl) fun σ H Q q => conv_isi q
theorem set_of {e : Expr} (h : noSet e = true) (env : PySem.Env) (x : Value) : foldedSetIterable e env x = pure x := by
  cases e <;> first | rfl | (cases h; done)
theorem loc_of {sc : Scope} {x : Str} (h : locB sc x = true) : Loc sc x := by
  unfold locB at h
  split at h
  · exact .inl (by assumption)
  · exact .inr (by assumption)
  · cases h
theorem pg_tgt {X : Cx} {N : List Str} {sc : Scope} {tg : Expr} {t : Tgt} (hN : X.N = N) (nd : N.Nodup) (hc : X.calm = true) (hsc : X.env.scope = sc) (h : tgB sc N tg t = true) (hf : ∀ x ∈ tgN tg, X.fn x = true ∨ X.env.scope.names.lookup x = some .local) : PG X tg (gT X.K t) := by
  unfold tgB at h
  split at h
  · simp only [Bool.and_eq_true, decide_eq_true_eq] at h
    exact pg_name (by rw [hN]; exact nd) (by rw [hN]; exact h.1) (by rw [hsc]; exact loc_of h.2) (hf _ (by simp [tgN]))
  · simp only [Bool.and_eq_true, decide_eq_true_eq] at h
    exact pg_tup hc (pgs_cons (pg_name (by rw [hN]; exact nd) (by rw [hN]; exact h.1.1.1) (by rw [hsc]; exact loc_of h.1.1.2) (hf _ (by simp [tgN])))
      (pgs_cons (pg_name (by rw [hN]; exact nd) (by rw [hN]; exact h.1.2) (by rw [hsc]; exact loc_of h.2) (hf _ (by simp [tgN]))) pgs_nil))
  · cases h
theorem own_vs {sc : Scope} {N : List Str} {tg : Expr} {t : Tgt} (h : tgB sc N tg t = true) : (ownT tg t).map (·.2) = vsT t := by
  unfold tgB at h
  split at h
  · rfl
  · rfl
  · cases h
theorem tup_of {tg : Expr} (h : isTup tg = true) : ∃ es k p, tg = .Tuple es k p := by
  cases tg <;> first | exact ⟨_, _, _, rfl⟩ | (cases h; done)
theorem Good.blk (G : Good X cl ex T c k sc N W) (s : Shared) (H : Hp) (scope : Scope) (C : Addr) (cs : List (Str × Addr)) (fp : List Addr) : Good (X.blk s H scope (compEnvC scope cs C X.env) fp) cl ex T c k (relS scope sc) N W0 :=
  ⟨by rw [← G.sc]; rfl, G.nms, G.nd, G.calm, G.room, fun u s' x => by
    obtain ⟨_, _, _, _, _, _, _, _, _, _, _, _, _, _, _, _, z⟩ := x
    obtain ⟨_, _, _, z⟩ := z
    exact z.elim, PassesOwn.never, ⟨fun p hp => ⟨(G.fs.fn p hp).g⟩, G.fs.cs, G.fs.bt⟩⟩
theorem impTs {es : List Expr} {t t' : TT} (h : PTs X es t) (q : ∀ σ H Q, t' σ H Q → t σ H Q) : PTs X es t' := ⟨fun pins s σ H Q I x => h.run pins s σ H Q I (q σ H Q x)⟩
structure SoundAt (X : Cx) (cl ex : Nat → Addr) (T : Tab) (N : List Str) (c c' : ClM) (sc : Scope) (W : WS) (n : Nat) : Prop where
  e : ∀ e m, ckE T N n sc e m = true → PE X e (tE (kw X cl ex) W (evE c c' m))
  t : ∀ e m, ckE T N n sc e m = true → noIf e = true → PT X e (tT (kw X cl ex) W (fun ρ => (evE c c' m ρ).bind truM))
  es : ∀ es ms, ckEs T N n sc es ms = true → PA X es (tA (kw X cl ex) W (evEs c c' ms))
  cd : ∀ ifs o, ckC T N n sc ifs o = true → PTs X ifs (tT (kw X cl ex) W (evC c c' o))
  i : ∀ tg e it, ckI T N n sc tg e it = true → PI X tg e (tI (kw X cl ex) W (evI c c' it))
  p : ∀ o l, ckP T N n sc o l = true → PO X o (tP (kw X cl ex) W (evO c c' l))
  a : ∀ p es m, ckA T N n sc p es m = true → PE X (.BoolOp .And es p) (tE (kw X cl ex) W (evE c c' m)) ∧ PW X (.BoolOp .And es p) (tT (kw X cl ex) W (fun ρ => (evE c c' m ρ).bind truM))
  o : ∀ p es m, ckO T N n sc p es m = true → PE X (.BoolOp .Or es p) (tE (kw X cl ex) W (evE c c' m)) ∧ PW X (.BoolOp .Or es p) (tT (kw X cl ex) W (fun ρ => (evE c c' m ρ).bind truM))
theorem op_of (G : Good X cl ex T c k sc N W) {op : Operator} {o : Op} (h : opB op o = true) : OpR X (binaryOp op) (r2 (kw X cl ex) (binM o)) := by
  cases op <;> cases o <;> first | (cases h; done) | skip
  · exact opM_add
  · exact opM_sub
  · exact opM_mul
  · exact opM_mod
  · exact opM_pow
  · exact opM_fdiv
theorem cm_of (G : Good X cl ex T c k sc N W) {op : CmpOp} {o : Cm} (h : cmB op o = true) : OpR X (compareOp op) (r2c (kw X cl ex) (cmpH o)) := by
  have hu := G.hu
  have hu2 : X.A.units + 64 < cLine := by omega
  cases op <;> cases o <;> first | (cases h; done) | skip
  · exact opM_eq hu2
  · exact opM_ne hu2
  · exact opM_lt
  · exact opM_le
  · exact opM_gt
  · exact opM_ge
  · exact opM_is
  · exact opM_isn
  · exact opM_in hu
  · exact opM_nin hu
theorem any_mem {α : Type} {p : α → Bool} {l : List α} (h : l.any p = true) : ∃ x ∈ l, p x = true := List.any_eq_true.mp h
theorem Good.bB (G : Good X cl ex T c k sc N W) {x : Str} {id : String} {f : List D → Mo D} {e : Expr} {es : List Expr} {ms : Rho → Mo (List D)} {p pos : Pos} (hc : CallR X (.builtin id) (rB (kw X cl ex) f)) (hv : bootBuiltins x = some (.builtin id)) (hx : glB sc x = true) (hn : nmB x = true) (hb : x ∈ T.blts)
    (ha : PA X (e :: es) (tA (kw X cl ex) W ms)) (h1 : starEach (e :: es) X.env = (false, eval e X.env) :: starEach es X.env) (h2 : (backTo pos (starEach es X.env)).any (·.1) = false) :
    PE X (.Call (.Name x p) (e :: es) [] pos) (tE (kw X cl ex) W (fun ρ => (ms ρ).bind fun ds => f ds)) :=
  impE (pe_callB hc (G.gl hx) (G.fs.bt x hb) hv ha (nm_nm hn) (nm_dbg hn) h1 h2) fun σ H Q h => conv_B h
theorem Good.bT (G : Good X cl ex T c k sc N W) {x : Str} {id : String} {f : List D → Mo D} {e : Expr} {es : List Expr} {ms : Rho → Mo (List D)} {p pos : Pos} (hc : CallR X (.type id) (rB (kw X cl ex) f)) (hv : bootBuiltins x = some (.type id)) (hx : glB sc x = true) (hn : nmB x = true) (hb : x ∈ T.blts)
    (ha : PA X (e :: es) (tA (kw X cl ex) W ms)) (h1 : starEach (e :: es) X.env = (false, eval e X.env) :: starEach es X.env) (h2 : (backTo pos (starEach es X.env)).any (·.1) = false) :
    PE X (.Call (.Name x p) (e :: es) [] pos) (tE (kw X cl ex) W (fun ρ => (ms ρ).bind fun ds => f ds)) :=
  impE (pe_callTy hc (G.gl hx) (G.fs.bt x hb) hv ha (nm_nm hn) (nm_dbg hn) h1 h2) fun σ H Q h => conv_B h
theorem Good.blt (G : Good X cl ex T c k sc N W) {b : Bf} {e : Expr} {es : List Expr} {ms : Rho → Mo (List D)} {p pos : Pos} (hok : okBf b = true) (hx : glB sc (bfN b) = true) (hn : nmB (bfN b) = true) (hb : bfN b ∈ T.blts)
    (ha : PA X (e :: es) (tA (kw X cl ex) W ms)) (h1 : starEach (e :: es) X.env = (false, eval e X.env) :: starEach es X.env) (h2 : (backTo pos (starEach es X.env)).any (·.1) = false) :
    PE X (.Call (.Name (bfN b) p) (e :: es) [] pos) (tE (kw X cl ex) W (fun ρ => (ms ρ).bind fun ds => bltM b ds)) := by
  cases b <;> first | (cases hok; done) | skip
  · exact G.bB cM_len (by decide +kernel) hx hn hb ha h1 h2
  · exact G.bT cM_tuple (by decide +kernel) hx hn hb ha h1 h2
  · exact G.bT cM_list (by decide +kernel) hx hn hb ha h1 h2
  · exact G.bT cM_int (by decide +kernel) hx hn hb ha h1 h2
  · exact G.bB (cM_min G.calm) (by decide +kernel) hx hn hb ha h1 h2
  · exact G.bB (cM_max G.calm) (by decide +kernel) hx hn hb ha h1 h2
  · exact G.bB (cM_all G.calm) (by decide +kernel) hx hn hb ha h1 h2
  · exact G.bB (cM_any G.calm) (by decide +kernel) hx hn hb ha h1 h2
  · exact G.bB (cM_sum G.calm) (by decide +kernel) hx hn hb ha h1 h2
  · exact G.bB (cM_sorted G.calm) (by decide +kernel) hx hn hb ha h1 h2
  · exact G.bT cM_str (by decide +kernel) hx hn hb ha h1 h2
theorem Good.mth1 (G : Good X cl ex T c k sc N W) {m : Mh} {o e : Expr} {mo : Rho → Mo D} {ms : Rho → Mo (List D)} {apos cpos : Pos} (h1 : mh1 m = true) (hb : baseOk o = true) (hl : (apos.endLine == cpos.line) = true) (hs : noStar e = true) (ho : PE X o (tE (kw X cl ex) W mo)) (he : PA X [e] (tA (kw X cl ex) W ms)) :
    PE X (.Call (.Attribute o (mhN m) apos) [e] [] cpos) (tE (kw X cl ex) W (fun ρ => (mo ρ).bind fun x => (lookM (kndH m x)).bind fun _ => (ms ρ).bind fun ds => mthM m x ds)) := by
  cases m <;> first | (cases h1; done) | skip
  · exact G.m1 PySem.F.plainAttrs_list PySem.F.slot_list_append PySem.F.type_list_append mM_append (ty_list fun _ _ => rfl) hb hl hs ho he
  · exact G.m1 PySem.F.plainAttrs_list PySem.F.slot_list_index PySem.F.type_list_index (mM_index G.hu) (ty_list fun _ _ => rfl) hb hl hs ho he
  · exact G.m1 PySem.F.plainAttrs_str PySem.F.slot_str_join PySem.F.type_str_join mM_join ty_str hb hl hs ho he
theorem Good.mth0 (G : Good X cl ex T c k sc N W) {m : Mh} {o : Expr} {mo : Rho → Mo D} {apos cpos : Pos} (h1 : mh0 m = true) (hb : baseOk o = true) (hl : (apos.endLine == cpos.line) = true) (ho : PE X o (tE (kw X cl ex) W mo)) :
    PE X (.Call (.Attribute o (mhN m) apos) [] [] cpos) (tE (kw X cl ex) W (fun ρ => (mo ρ).bind fun x => (lookM (kndH m x)).bind fun _ => (evEs c c' [] ρ).bind fun ds => mthM m x ds)) := by
  rw [fEs_nil]
  cases m <;> first | (cases h1; done) | skip
  · exact G.m0 PySem.F.plainAttrs_list PySem.F.slot_list_pop PySem.F.type_list_pop mM_pop (ty_list fun _ _ => rfl) hb hl ho
  · exact G.m0 PySem.F.plainAttrs_list PySem.F.slot_list_reverse PySem.F.type_list_reverse mM_reverse (ty_list fun _ _ => rfl) hb hl ho
  · exact G.m0 PySem.F.plainAttrs_list PySem.F.slot_list_clear PySem.F.type_list_clear mM_clear (ty_list fun _ _ => rfl) hb hl ho
theorem sound_zero : SoundAt X cl ex T N c c' sc W 0 := ⟨fun _ _ h => by simp [ckE] at h, fun _ _ h => by simp [ckE] at h, fun _ _ h => by simp [ckEs] at h, fun _ _ h => by simp [ckC] at h, fun _ _ _ h => by simp [ckI] at h, fun _ _ h => by simp [ckP] at h, fun _ _ _ h => by simp [ckA] at h, fun _ _ _ h => by simp [ckO] at h⟩
theorem sound_es (G : Good X cl ex T c k sc N W) {n : Nat} (S : SoundAt X cl ex T N c c' sc W n) : ∀ es ms, ckEs T N (n + 1) sc es ms = true → PA X es (tA (kw X cl ex) W (evEs c c' ms))
  | [], [], _ => impA pa_nil fun σ H Q h => conv_nil h
  | e :: es, m :: ms, h => by
    rw [ckEs] at h
    simp only [Bool.and_eq_true] at h
    exact impA (pa_cons (S.e e m h.1.1) (S.es es ms h.2) (star_cons h.1.2 _ _)) fun σ H Q h => conv_cons h
  | [], _ :: _, h => by simp [ckEs] at h
  | _ :: _, [], h => by simp [ckEs] at h
theorem sound_p {n : Nat} (S : SoundAt X cl ex T N c c' sc W n) : ∀ o l, ckP T N (n + 1) sc o l = true → PO X o (tP (kw X cl ex) W (evO c c' l))
  | none, none, _ => ⟨fun pins s σ H Q I h => po_none.run pins s σ H Q I (conv_pnone h)⟩
  | some e, some m, h => by
    rw [ckP] at h
    exact ⟨fun pins s σ H Q I q => (po_some (S.e e m h)).run pins s σ H Q I (conv_psome q)⟩
  | none, some _, h => by simp [ckP] at h
  | some _, none, h => by simp [ckP] at h
theorem sound_c {n : Nat} (S : SoundAt X cl ex T N c c' sc W n) : ∀ ifs o, ckC T N (n + 1) sc ifs o = true → PTs X ifs (tT (kw X cl ex) W (evC c c' o)) := by
  intro ifs o h
  unfold ckC at h
  split at h
  · cases h
  · rw [fC_none]
    refine impTs pts_nil fun σ H Q q => ?_
    obtain ⟨μ, η, ρ, wd, re, e⟩ := q
    exact EndG.pure wd e
  · rename_i e
    cases e
    rw [fC_some]
    simp only [Bool.and_eq_true] at h
    exact pts_one (S.t _ _ h.1 h.2)
  · cases h
theorem mem_of {l : List Str} {x : Str} (h : l.contains x = true) : x ∈ l := List.contains_iff_mem.mp h
theorem sound_i (G : Good X cl ex T c k sc N W) {n : Nat} (S : ∀ n', n = n' + 1 → SoundAt X cl ex T N c c' sc W n') : ∀ tg e it, ckI T N n sc tg e it = true → PI X tg e (tI (kw X cl ex) W (evI c c' it)) := by
  intro tg e it h
  unfold ckI at h
  split at h
  · cases h
  · simp only [Bool.and_eq_true] at h
    have ef := eq_of_beq h.1.1.1.1
    subst ef
    rw [fI_rng]
    exact pi_rng G h.1.1.1.2 (mem_of h.1.1.2) h.1.2 ((S _ rfl).e _ _ h.2)
  · simp only [Bool.and_eq_true] at h
    have ef := eq_of_beq h.1.1.1.1.1.1
    subst ef
    rw [fI_rng2]
    exact pi_rng2 G h.1.1.1.1.1.2 (mem_of h.1.1.1.1.2) h.1.1.1.2 h.1.1.2 ((S _ rfl).e _ _ h.1.2) ((S _ rfl).e _ _ h.2)
  · simp only [Bool.and_eq_true] at h
    have ef := eq_of_beq h.1.1.1.1.1
    subst ef
    obtain ⟨es, kk, pp, rfl⟩ := tup_of h.1.1.1.1.2
    rw [fI_enm]
    exact pi_enm G h.1.1.1.2 (mem_of h.1.1.2) h.1.2 ((S _ rfl).e _ _ h.2)
  · simp only [Bool.and_eq_true] at h
    have ef := eq_of_beq h.1.1.1.1.1.1.1
    subst ef
    obtain ⟨es, kk, pp, rfl⟩ := tup_of h.1.1.1.1.1.1.2
    rw [fI_zip]
    exact pi_zp G h.1.1.1.1.1.2 (mem_of h.1.1.1.1.2) h.1.1.1.2 h.1.1.2 ((S _ rfl).e _ _ h.1.2) ((S _ rfl).e _ _ h.2)
  · rw [fI_seq]
    exact pi_seq ((S _ rfl).e _ _ h)
  · cases h
theorem sound_a (G : Good X cl ex T c k sc N W) {n : Nat} (S : SoundAt X cl ex T N c c' sc W n) : ∀ p es m, ckA T N (n + 1) sc p es m = true → PE X (.BoolOp .And es p) (tE (kw X cl ex) W (evE c c' m)) ∧ PW X (.BoolOp .And es p) (tT (kw X cl ex) W (fun ρ => (evE c c' m ρ).bind truM))
  | p, [a], x, h => by
    rw [ckA] at h
    simp only [Bool.and_eq_true] at h
    exact ⟨pe_one (S.e a x h.1), pw_and1 (S.t a x h.1 h.2)⟩
  | p, [], m, h => by cases m <;> simp [ckA] at h
  | p, a :: b :: r, m, h => by
    cases m
    case and x y =>
      rw [ckA] at h
      simp only [Bool.and_eq_true] at h
      obtain ⟨h1, h2⟩ := S.a p (b :: r) y h.2
      exact ⟨impE (pe_andT (S.e a x h.1.1) h1) fun σ H Q q => conv_and (by rw [fE_and] at q; exact q), impW (pw_and (S.t a x h.1.1 h.1.2) h2) fun σ H Q q => conv_andT (by rw [fE_and] at q; exact q)⟩
    all_goals (simp [ckA] at h)
theorem sound_o (G : Good X cl ex T c k sc N W) {n : Nat} (S : SoundAt X cl ex T N c c' sc W n) : ∀ p es m, ckO T N (n + 1) sc p es m = true → PE X (.BoolOp .Or es p) (tE (kw X cl ex) W (evE c c' m)) ∧ PW X (.BoolOp .Or es p) (tT (kw X cl ex) W (fun ρ => (evE c c' m ρ).bind truM))
  | p, [a], x, h => by
    rw [ckO] at h
    simp only [Bool.and_eq_true] at h
    exact ⟨pe_one (S.e a x h.1), pw_or1 (S.t a x h.1 h.2)⟩
  | p, [], m, h => by cases m <;> simp [ckO] at h
  | p, a :: b :: r, m, h => by
    cases m
    case or x y =>
      rw [ckO] at h
      simp only [Bool.and_eq_true] at h
      obtain ⟨h1, h2⟩ := S.o p (b :: r) y h.2
      exact ⟨impE (pe_orT (S.e a x h.1.1) h1) fun σ H Q q => conv_or (by rw [fE_or] at q; exact q), impW (pw_or (S.t a x h.1.1 h.1.2) h2) fun σ H Q q => conv_orT (by rw [fE_or] at q; exact q)⟩
    all_goals (simp [ckO] at h)
theorem cons_of {T : Tab} {N : List Str} {n : Nat} {sc : Scope} {e : Expr} {es : List Expr} {ms : List ME} (h : ckEs T N n sc (e :: es) ms = true) (env : PySem.Env) :
    starEach (e :: es) env = (false, eval e env) :: starEach es env ∧ ∀ pos, (backTo pos (starEach es env)).any (·.1) = false := by
  cases n with
  | zero => simp [ckEs] at h
  | succ n =>
    cases ms with
    | nil => simp [ckEs] at h
    | cons m ms =>
      rw [ckEs] at h
      simp only [Bool.and_eq_true] at h
      exact ⟨star_cons h.1.2 _ _, fun pos => stars_plain pos _ _ _ _ h.2⟩
theorem sound_e (G : Good X cl ex T c k sc N W) {n : Nat} (S : ∀ n', n = n' + 1 → ∀ {X : Cx} {sc : Scope} {W : WS}, Good X cl ex T c k sc N W → SoundAt X cl ex T N c c' sc W n') : ∀ e m, ckE T N n sc e m = true → PE X e (tE (kw X cl ex) W (evE c c' m)) := by
  intro e m h
  unfold ckE at h
  split at h
  · cases h
  · rw [fE_loc]
    exact impE (G.vis h) fun σ H Q q => conv_loc q
  · rw [fE_cst]
    simp only [Bool.and_eq_true] at h
    obtain ⟨p, hp, hq⟩ := any_mem h.2
    simp only [Bool.and_eq_true] at hq
    obtain ⟨u, v, h1, h2, h3⟩ := G.fs.cs p hp
    have e1 := eq_of_beq hq.1
    have e2 := same_eq _ _ hq.2
    rw [e1] at h1
    rw [e2] at h3
    exact impE (pe_glob (G.gl h.1.1) h1 h2 (nm_dbg h.1.2)) fun σ H Q q => conv_cst h3 q
  · rw [fE_cst]
    have e1 := eq_of_beq h
    subst e1
    exact impE pe_int fun σ H Q q => conv_cst (by intros; exact rfl) q
  · rw [fE_cst]
    have e1 := eq_of_beq h
    subst e1
    exact impE pe_bl fun σ H Q q => conv_cst (by intros; exact rfl) q
  · rw [fE_cst]
    have e1 := of_decide_eq_true h
    subst e1
    exact impE pe_str fun σ H Q q => conv_cst (by intros; exact rfl) q
  · rw [fE_cst]
    exact impE pe_non fun σ H Q q => conv_cst (by intros; exact rfl) q
  · rw [fE_tup]
    simp only [Bool.and_eq_true, decide_eq_true_eq] at h
    exact impE (pe_tup ((S _ rfl G).es _ _ h.1)) fun σ H Q q => conv_tup (fun ρ η ds η' e => by rw [evEs_len _ _ _ _ _ e]; have : lim = 16777216 := rfl; omega) q
  · rw [fE_lst]
    simp only [Bool.and_eq_true, decide_eq_true_eq] at h
    exact impE (pe_lst ((S _ rfl G).es _ _ h.1)) fun σ H Q q => conv_lst (fun ρ η ds η' e => by rw [evEs_len _ _ _ _ _ e]; have : lim = 16777216 := rfl; omega) q
  · rw [fE_bin]
    simp only [Bool.and_eq_true] at h
    exact impE (pe_op (op_of G h.1.1) ((S _ rfl G).e _ _ h.1.2) ((S _ rfl G).e _ _ h.2)) fun σ H Q q => conv_bin q
  · rw [fE_not]
    simp only [Bool.and_eq_true] at h
    exact impE (pe_notT ((S _ rfl G).e _ _ h.1)) fun σ H Q q => conv_not q
  · rw [fE_neg]
    exact impE (pe_un un_neg ((S _ rfl G).e _ _ h)) fun σ H Q q => conv_neg q
  · rw [fE_and]
    simp only [Bool.and_eq_true] at h
    exact impE (pe_andT ((S _ rfl G).e _ _ h.1.1) ((S _ rfl G).a _ _ _ h.2).1) fun σ H Q q => conv_and q
  · rw [fE_or]
    simp only [Bool.and_eq_true] at h
    exact impE (pe_orT ((S _ rfl G).e _ _ h.1.1) ((S _ rfl G).o _ _ _ h.2).1) fun σ H Q q => conv_or q
  · rw [fE_cmp]
    simp only [Bool.and_eq_true] at h
    exact impE (pe_cmpR (cm_of G h.1.1.1) ((S _ rfl G).e _ _ h.1.1.2) ((S _ rfl G).e _ _ h.1.2) (mark_of _ h.2)) fun σ H Q q => conv_cmp q
  · rw [fE_chn]
    simp only [Bool.and_eq_true] at h
    exact impE (pe_chain (cm_of G h.1.1.1.1.1.1) (cm_of G h.1.1.1.1.1.2) ((S _ rfl G).e _ _ h.1.1.1.1.2) ((S _ rfl G).e _ _ h.1.1.1.2) ((S _ rfl G).e _ _ h.1.1.2) (by show behindInMarks _ _ = false; exact mark_of _ h.2)) fun σ H Q q => conv_chain q
  · rw [fE_ife]
    simp only [Bool.and_eq_true] at h
    exact impE (pe_ifExp ((S _ rfl G).t _ _ h.1.1.1 h.1.1.2) ((S _ rfl G).e _ _ h.1.2) ((S _ rfl G).e _ _ h.2)) fun σ H Q q => conv_ife q
  · rw [fE_slc]
    simp only [Bool.and_eq_true] at h
    exact impE (pe_slice slM ((S _ rfl G).e _ _ h.1.1) ((S _ rfl G).p _ _ h.1.2) ((S _ rfl G).p _ _ h.2)) fun σ H Q q => conv_slc q
  · rw [fE_idx]
    simp only [Bool.and_eq_true] at h
    exact impE (pe_ix ixM ((S _ rfl G).e _ _ h.1.1) ((S _ rfl G).e _ _ h.1.2) (plain_ix h.2)) fun σ H Q q => conv_idx q
  · rw [fE_call]
    simp only [Bool.and_eq_true] at h
    obtain ⟨p, hp, hq⟩ := any_mem h.1.2
    simp only [Bool.and_eq_true] at hq
    obtain ⟨x, f, ar⟩ := p
    have e1 := eq_of_beq hq.1.1
    have e2 := eq_of_beq hq.1.2
    have e3 := eq_of_beq hq.2
    simp only at e1 e2 e3
    subst e1 e2 e3
    obtain ⟨h1, h2⟩ := cons_of h.2 X.env
    exact G.call h.1.1.1 h.1.1.2 hp (fun ρ η ds η' e => evEs_len _ _ _ _ _ e) ((S _ rfl G).es _ _ h.2) h1 (h2 _)
  · rw [fE_blt]
    simp only [Bool.and_eq_true] at h
    obtain ⟨h1, h2⟩ := cons_of h.2 X.env
    have e1 := eq_of_beq h.1.1.1.2
    subst e1
    exact G.blt h.1.2 h.1.1.1.1.1 h.1.1.1.1.2 (List.contains_iff_mem.mp h.1.1.2) ((S _ rfl G).es _ _ h.2) h1 (h2 _)
  · rw [fE_isi]
    simp only [Bool.and_eq_true] at h
    have e1 := eq_of_beq h.1.1.1.1.1.1.1
    have e2 := eq_of_beq h.1.1.1.1.2
    subst e1 e2
    exact G.isi h.1.1.1.1.1.1.2 (List.contains_iff_mem.mp h.1.1.1.1.1.2) h.1.1.1.2 (List.contains_iff_mem.mp h.1.1.2) h.1.2 ((S _ rfl G).e _ _ h.2)
  · rw [fE_mth]
    simp only [Bool.and_eq_true] at h
    have e1 := eq_of_beq h.1.1.1.1.1.1
    subst e1
    exact G.mth1 h.1.1.1.1.1.2 h.1.1.1.1.2 h.1.1.1.2 h.1.1.2 ((S _ rfl G).e _ _ h.1.2) ((S _ rfl G).es _ _ h.2)
  · rw [fE_mth]
    simp only [Bool.and_eq_true] at h
    have e1 := eq_of_beq h.1.1.1.1
    subst e1
    exact G.mth0 h.1.1.1.2 h.1.1.2 h.1.2 ((S _ rfl G).e _ _ h.2)
  · rw [fE_lc]
    simp only [Bool.and_eq_true] at h
    rename_i elt tg iter ifs scope pos tgt it cond m
    have ok := blkOk_by h.1.1.1.2
    have hv := own_vs h.1.1.1.1.2
    have e1 : ∀ (s : Shared) (H : Hp) (C : Addr) (cs : List (Str × Addr)) (fp : List Addr), PE (X.blk s H scope (compEnvC scope cs C X.env) fp) elt (tE (kw X cl ex) W0 (evE c c' m)) := fun s H C cs fp => (S _ rfl (G.blk s H scope C cs fp)).e _ _ h.2
    have e2 : ∀ (s : Shared) (H : Hp) (C : Addr) (cs : List (Str × Addr)) (fp : List Addr), PTs (X.blk s H scope (compEnvC scope cs C X.env) fp) ifs (tT (kw X cl ex) W0 (evC c c' cond)) := fun s H C cs fp => (S _ rfl (G.blk s H scope C cs fp)).cd _ _ h.1.2
    have e3 : ∀ (s : Shared) (H : Hp) (C : Addr) (cs : List (Str × Addr)) (fp : List Addr), PG (X.blk s H scope (compEnvC scope cs C X.env) fp) tg (gT X.K tgt) := fun s H C cs fp => pg_tgt (X := X.blk s H scope (compEnvC scope cs C X.env) fp) G.nms G.nd G.calm (G.blk s H scope C cs fp).sc h.1.1.1.1.2 fun x hx => by
      have hh := List.all_eq_true.mp h.1.1.2 x hx
      rw [Bool.or_eq_true] at hh
      rcases hh with hh | hh
      · refine .inr ?_
        rw [(G.blk s H scope C cs fp).sc]
        exact of_decide_eq_true hh
      · exact .inl hh
    refine impE (pe_lc G.calm (by rw [G.nms]; exact G.nd) ((S _ rfl G).i _ _ _ h.1.1.1.1.1.1) (by rw [G.nms, G.sc]; exact ok) e3 e2 e1 (set_of h.1.1.1.1.1.2 _)) fun σ H Q q => ?_
    · rw [hv]
      exact conv_lc q
  · cases h
theorem bl_tru2 (m : Mo Bool) : (m.bind fun t => Mo.pure (D.bl t)).bind truM = m := by
  funext η
  simp only [Mo.bind]
  cases m η <;> rfl
theorem conv_chainT {K : KW} {σ : L2.St} {H : Hp} {ma mb mc : Rho → Mo D} {f g : D → D → Hv → Option Bool} {Q : Bool → Hp → Prop}
    (h : tT K W (fun ρ => ((ma ρ).bind fun x => (mb ρ).bind fun y => (lookM (f x y)).bind fun t => if t = true then (mc ρ).bind fun z => (lookM (g y z)).bind fun u => .pure (.bl u) else .pure (.bl false)).bind truM) σ H Q) :
    tTest (tChain (r2c K f) (r2c K g) (tE K W ma) (tE K W mb) (tE K W mc)) σ H Q := by
  simp only [bind_assoc] at h
  obtain ⟨μ, η, ρ, wd, re, e⟩ := h
  refine ⟨μ, η, ρ, wd, re, (EndG.bind e).imp fun d η1 μ1 H1 af wd1 e2 v rv => ?_⟩
  refine ⟨μ1, η1, ρ, wd1, re.mono af, (EndG.bind e2).imp fun d2 η2 μ2 H2 af2 wd2 e4 v2 rv2 => ?_⟩
  obtain ⟨c, h1, q⟩ := EndG.look wd2 (EndG.bind e4)
  refine ⟨μ2, η2, d, d2, c, wd2, RV.mono af2 d v rv, rv2, h1, c, rfl, ?_⟩
  cases c with
  | true =>
    rw [if_pos rfl] at q ⊢
    simp only [bind_assoc] at q
    refine ⟨μ2, η2, ρ, wd2, (re.mono af).mono af2, (EndG.bind q).imp fun d3 η3 μ3 H3 af3 wd3 e5 v3 rv3 => ?_⟩
    obtain ⟨c3, h3, q3⟩ := EndG.look wd3 (EndG.bind e5)
    exact ⟨μ3, η3, d2, d3, c3, wd3, RV.mono af3 d2 v2 rv2, rv3, h3, c3, rfl, EndG.pure wd3 q3⟩
  | false =>
    rw [if_neg Bool.false_ne_true] at q ⊢
    exact ⟨false, rfl, EndG.pure wd2 q⟩
/-- expressions whose test is their value's truth -/
def plainT : Expr → Bool
  | .UnaryOp .Not _ _ => false
  | .BoolOp .. => false
  | .IfExp .. => false
  | .Compare .. => false
  | _ => true
theorem isTrue_of {e : Expr} (h : plainT e = true) (env : PySem.Env) (whole : Sem Value) : isTrue e env whole = (do let v ← whole; standAt e.pos; holding [v] (truthy v)) := by
  cases e with
  | UnaryOp op a p => cases op <;> first | rfl | (cases h; done)
  | _ => first | rfl | (cases h; done)
theorem sound_t (G : Good X cl ex T c k sc N W) {n : Nat} (S : ∀ n', n = n' + 1 → ∀ {X : Cx} {sc : Scope} {W : WS}, Good X cl ex T c k sc N W → SoundAt X cl ex T N c c' sc W n') : ∀ e m, ckE T N n sc e m = true → noIf e = true → PT X e (tT (kw X cl ex) W (fun ρ => (evE c c' m ρ).bind truM)) := by
  intro e m h hi
  by_cases hp : plainT e = true
  · exact impT (pt_truth (sound_e G S e m h) (isTrue_of hp X.env)) fun σ H Q q => conv_truth q
  · unfold ckE at h
    split at h <;> first | (exfalso; exact hp rfl) | (cases h; done) | skip
    · simp only [Bool.and_eq_true] at h
      rw [fE_not]
      exact impT (pt_not ((S _ rfl G).t _ _ h.1 h.2)) fun σ H Q q => conv_notT q
    · simp only [Bool.and_eq_true] at h
      rw [fE_and]
      exact impT (pw_and ((S _ rfl G).t _ _ h.1.1 h.1.2) ((S _ rfl G).a _ _ _ h.2).2).pt fun σ H Q q => conv_andT q
    · simp only [Bool.and_eq_true] at h
      rw [fE_or]
      exact impT (pw_or ((S _ rfl G).t _ _ h.1.1 h.1.2) ((S _ rfl G).o _ _ _ h.2).2).pt fun σ H Q q => conv_orT q
    · simp only [Bool.and_eq_true] at h
      rw [fE_cmp]
      exact impT (pt_cmpR (cm_of G h.1.1.1) ((S _ rfl G).e _ _ h.1.1.2) ((S _ rfl G).e _ _ h.1.2) (mark_of _ h.2)) fun σ H Q q => conv_cmpT q
    · simp only [Bool.and_eq_true] at h
      rw [fE_chn]
      exact impT (pt_chain (cm_of G h.1.1.1.1.1.1) (cm_of G h.1.1.1.1.1.2) ((S _ rfl G).e _ _ h.1.1.1.1.2) ((S _ rfl G).e _ _ h.1.1.1.2) ((S _ rfl G).e _ _ h.1.1.2) (by show behindInMarks _ _ = false; exact mark_of _ h.2)) fun σ H Q q => conv_chainT q
    · cases hi
theorem sound : ∀ n {X : Cx} {sc : Scope} {W : WS}, Good X cl ex T c k sc N W → SoundAt X cl ex T N c c' sc W n
  | 0, _, _, _, _ => sound_zero
  | n + 1, X, sc, W, G => by
    have S : SoundAt X cl ex T N c c' sc W n := sound n G
    have S' : ∀ n', n + 1 = n' + 1 → ∀ {X : Cx} {sc : Scope} {W : WS}, Good X cl ex T c k sc N W → SoundAt X cl ex T N c c' sc W n' := fun n' e {X sc W} G => by cases e; exact sound n G
    exact ⟨sound_e G S', sound_t G S', sound_es G S, sound_c S, sound_i G (fun n' e => S' n' e G), sound_p S, sound_a G S, sound_o G S⟩
end
end MIS

set_option Elab.async false
set_option linter.all false
set_option maxRecDepth 100000
set_option maxHeartbeats 2000000
/-! MiS12: statements. -/
namespace MIS
open PySem PySem.Spec PyProof.Rows L2 MI
def FlR (K : KW) (D : Ends) (f : Fl) (μ : List Addr) (H : Hp) : Prop := match f with
  | .nx ρ => ∀ σ, RE K μ H ρ σ → D.nx σ H
  | .rt d => ∀ v, RV K μ H d v → D.rt v H
abbrev cW (W : WN) : WS := fun c _ H => W c H
abbrev EF (K : KW) (W : WN) (D : Ends) (μ : List Addr) (H : Hp) : Rs Fl → Prop := EndG K W μ H (fun f _ μ' H' => FlR K D f μ' H')
def tS (K : KW) (W : WN) (m : Rho → Mo Fl) : TS := fun D σ H => ∃ μ η ρ, Wd K μ H η ∧ RE K μ H ρ σ ∧ EF K W D μ H (m ρ η)
section
variable {K : KW} {W : WN} {μ μ1 : List Addr} {H H1 : Hp} {η : Hv} {ρ ρ1 : Rho} {σ : L2.St} {Z : Ends}
theorem conv_set {ma : Rho → Mo D} {i : Nat} (h : tS K W (fun ρ => (ma ρ).bind fun d => .pure (.nx (ρ.set i (some d)))) Z σ H) : tAsg (tE K (cW W) ma) (gName i) Z σ H := by
  obtain ⟨μ, η, ρ, wd, re, e⟩ := h
  refine ⟨μ, η, ρ, wd, re, (EndG.bind e).imp fun d η1 μ1 H1 af wd1 e2 v rv => ?_⟩
  exact EndG.pure wd1 e2 _ ((re.mono af).set i rv)
theorem conv_setLc {mi : Rho → Mo Nxt} {cond : Rho → Mo Bool} {elt : Rho → Mo D} {t : Tgt} {i : Nat} (h : tS K W (fun ρ => ((mi ρ).bind fun nx => (lcN nx t cond elt ρ WFu 0 []).bind fun acc => allocM (.lst acc)).bind fun d => .pure (.nx (ρ.set i (some d)))) Z σ H) :
    tAsg (tLc (tI K (cW W) mi) (gT K.K t) (tT K W0 cond) (tE K W0 elt) (vsT t)) (gName i) Z σ H := by
  obtain ⟨μ, η, ρ, wd, re, e⟩ := h
  refine conv_lc ⟨μ, η, ρ, wd, re, (EndG.bind e).imp fun d η1 μ1 H1 af wd1 e2 v rv => ?_⟩
  exact EndG.pure wd1 e2 _ ((re.mono af).set i rv)
theorem conv_exp {ma : Rho → Mo D} (h : tS K W (fun ρ => (ma ρ).bind fun _ => .pure (.nx ρ)) Z σ H) : tDrop (tE K (cW W) ma) Z σ H := by
  obtain ⟨μ, η, ρ, wd, re, e⟩ := h
  refine ⟨μ, η, ρ, wd, re, (EndG.bind e).imp fun d η1 μ1 H1 af wd1 e2 v rv => ?_⟩
  exact EndG.pure wd1 e2 _ (re.mono af)
theorem conv_ret {ma : Rho → Mo D} (h : tS K W (fun ρ => (ma ρ).bind fun d => .pure (.rt d)) Z σ H) : tRet (tE K (cW W) ma) Z σ H := by
  obtain ⟨μ, η, ρ, wd, re, e⟩ := h
  refine ⟨μ, η, ρ, wd, re, (EndG.bind e).imp fun d η1 μ1 H1 af wd1 e2 v rv => ?_⟩
  exact EndG.pure wd1 e2 _ rv
theorem conv_retN (h : tS K W (fun ρ => (Mo.pure MI.D.non).bind fun d => .pure (.rt d)) Z σ H) : tRetN Z σ H := by
  obtain ⟨μ, η, ρ, wd, re, e⟩ := h
  exact EndG.pure wd (EndG.pure wd (EndG.bind e)) _ rfl
theorem conv_nx (h : tS K W (fun ρ => .pure (.nx ρ)) Z σ H) : tNext Z σ H := by
  obtain ⟨μ, η, ρ, wd, re, e⟩ := h
  exact EndG.pure wd e _ re
theorem conv_if {mt : Rho → Mo Bool} {ma mb : Rho → Mo Fl} (h : tS K W (fun ρ => (mt ρ).bind fun v => if v = true then ma ρ else mb ρ) Z σ H) : tIfS (tT K (cW W) mt) (tS K W ma) (tS K W mb) Z σ H := by
  obtain ⟨μ, η, ρ, wd, re, e⟩ := h
  refine ⟨μ, η, ρ, wd, re, (EndG.bind e).imp fun b η1 μ1 H1 af wd1 e2 => ?_⟩
  cases b with
  | true => exact iteT ⟨μ1, η1, ρ, wd1, re.mono af, e2⟩
  | false => exact iteF ⟨μ1, η1, ρ, wd1, re.mono af, e2⟩
theorem conv_seq {ma mb : Rho → Mo Fl} (h : tS K W (fun ρ => (ma ρ).bind fun | .nx ρ' => mb ρ' | .rt d => .pure (.rt d)) Z σ H) : tSeq (tS K W ma) (tS K W mb) Z σ H := by
  obtain ⟨μ, η, ρ, wd, re, e⟩ := h
  refine ⟨μ, η, ρ, wd, re, (EndG.bind e).imp fun f η1 μ1 H1 af wd1 e2 => ?_⟩
  cases f with
  | nx ρ1 => exact fun σ1 re1 => ⟨μ1, η1, ρ1, wd1, re1, e2⟩
  | rt d => exact EndG.pure wd1 e2
theorem conv_while {mc : Rho → Mo Bool} {mb : Rho → Mo Fl} (h : tS K W (fun ρ => whlN mc mb WFu ρ) Z σ H) : tWhile (tT K (cW W) mc) (tS K W mb) Z σ H := by
  refine ⟨fun m => tS K W (fun ρ => whlN mc mb m ρ) Z, ⟨WFu, h⟩, ?_⟩
  rintro m σ1 H1 ⟨μ, η, ρ, wd, re, e⟩
  cases m with
  | zero => exact e.elim
  | succ m =>
    refine ⟨μ, η, ρ, wd, re, (EndG.bind e).imp fun b η1 μ1 H1 af wd1 e2 => ?_⟩
    cases b with
    | true =>
      refine iteT ⟨fun σ H => tS K W (fun ρ => whlN mc mb m ρ) Z σ H, fun σ' H' q => ⟨m, Nat.lt_succ_self m, q⟩, μ1, η1, ρ, wd1, re.mono af, ?_⟩
      rw [if_pos rfl] at e2
      refine (EndG.bind e2).imp fun f η2 μ2 H2 af2 wd2 e3 => ?_
      cases f with
      | nx ρ2 => exact fun σ2 re2 => ⟨μ2, η2, ρ2, wd2, re2, e3⟩
      | rt d => exact EndG.pure wd2 e3
    | false =>
      rw [if_neg Bool.false_ne_true] at e2
      exact iteF (EndG.pure wd1 e2 _ (re.mono af))
theorem conv_for {mi : Rho → Mo Nxt} {mb : Rho → Mo Fl} {t : Tgt} (h : tS K W (fun ρ => (mi ρ).bind fun nx => forN nx t mb WFu 0 ρ) Z σ H) : tFor (tI K (cW W) mi) (gT K.K t) (tS K W mb) Z σ H := by
  obtain ⟨μ, η, ρ, wd, re, e⟩ := h
  refine ⟨μ, η, ρ, wd, re, (EndG.bind e).imp fun nx η1 μ1 H1 af wd1 e2 J hJ => ?_⟩
  refine ⟨fun i m σ2 H2 => ∃ μ2 η2 ρ2, Aft K μ1 H1 μ2 H2 ∧ Wd K μ2 H2 η2 ∧ RE K μ2 H2 ρ2 σ2 ∧ EF K W Z μ2 H2 (forN nx t mb m i ρ2 η2), ⟨WFu, μ1, η1, ρ, .refl, wd1, re.mono af, e2⟩, ?_⟩
  rintro i m σ2 H2 ⟨μ2, η2, ρ2, af2, wd2, re2, e3⟩
  cases m with
  | zero => exact e3.elim
  | succ m =>
    have jr := hJ μ2 H2 η2 i af2 wd2
    unfold forN at e3
    cases hx : nx i η2 with
    | none => rw [hx] at e3; exact e3.elim
    | some o =>
      rw [hx] at e3 jr
      cases o with
      | none => exact .inl ⟨jr, EndG.pure (a := Fl.nx ρ2) wd2 e3 _ re2⟩
      | some d =>
        simp only at e3 jr
        obtain ⟨jg, jy⟩ := jr
        cases hs : setT ρ2 t d with
        | none => rw [hs] at e3; exact e3.elim
        | some ρ3 =>
          rw [hs] at e3
          simp only at e3
          refine .inr ⟨jg, fun σ3 H3 => ∃ μ2 η2 ρ2, Aft K μ1 H1 μ2 H3 ∧ Wd K μ2 H3 η2 ∧ RE K μ2 H3 ρ2 σ3 ∧ EF K W Z μ2 H3 (forN nx t mb m (i + 1) ρ2 η2), fun σ' H' q => ⟨m, Nat.lt_succ_self m, q⟩, fun x H3 hy => ?_⟩
          obtain ⟨af3, wd3, rd3⟩ := jy x H3 hy
          refine gT_ok (re2.mono af3) rd3 hs fun σ4 re4 _ => ⟨μ2, η2, ρ3, wd3, re4, ?_⟩
          refine (EndG.bind (e3.rebase af3)).imp fun f η4 μ4 H4 af4 wd4 e4 => ?_
          cases f with
          | nx ρ4 => exact fun σ5 re5 => ⟨μ4, η4, ρ4, (af2.trans af3).trans af4, wd4, re5, e4⟩
          | rt d => exact EndG.pure wd4 e4
theorem ixD_N {n : Nat} {i : Int} {j : Nat} (h : ixD n i = some j) : ixN n i = some j := by
  unfold ixD at h
  unfold ixN
  exact h
/-- o[i] = e, on lists -/
theorem conv_sub {me mo mi : Rho → Mo D} (h : tS K W (fun ρ => (me ρ).bind fun d => (mo ρ).bind fun x => (mi ρ).bind fun k => (setM x k d).bind fun _ => .pure (.nx ρ)) Z σ H) :
    tAsg (tE K (cW W) me) (gSub (tE K (cW W) mo) (tE K (cW W) mi) rSetL) Z σ H := by
  obtain ⟨μ, η, ρ, wd, re, e⟩ := h
  refine ⟨μ, η, ρ, wd, re, (EndG.bind e).imp fun d η1 μ1 H1 af wd1 e2 v rv => ?_⟩
  refine ⟨μ1, η1, ρ, wd1, re.mono af, (EndG.bind e2).imp fun x η2 μ2 H2 af2 wd2 e3 v2 rv2 => ?_⟩
  refine ⟨μ2, η2, ρ, wd2, (re.mono af).mono af2, (EndG.bind e3).imp fun k η3 μ3 H3 af3 wd3 e4 v3 rv3 => ?_⟩
  have re3 := ((re.mono af).mono af2).mono af3
  have rd := RV.mono (af2.trans af3) d v rv
  have rx := RV.mono af3 x v2 rv2
  have e5 := EndG.bind e4
  unfold setM at e5
  cases x <;> first | exact e5.elim | skip
  obtain ⟨a, rfl, ha⟩ := rx
  simp only at e5
  split at e5
  · rename_i xs e6
    obtain ⟨vs, h1, h2⟩ := wd3.lst ha e6
    cases k <;> first | exact e5.elim | skip
    cases rv3
    simp only at e5
    split at e5
    · rename_i j e7
      refine ⟨a, vs, _, j, rfl, rfl, h1, by rw [h2.len]; exact ixD_N e7, ?_⟩
      have w := wd3.write (x := .lst (xs.set j d)) (o := .lst (vs.set j v)) ha h1 ⟨fun _ z => (nomatch z), fun _ _ z => (nomatch z)⟩ ⟨_, upd_same, RVs.mono (aft_write (List.mem_of_getElem? ha) h1 ⟨fun _ z => (nomatch z), fun _ _ z => (nomatch z)⟩) _ _ (h2.set j rd)⟩
      exact EndG.pure w.1 (e5 _ _ w.2 w.1) _ (re3.mono w.2)
    · exact e5.elim
  · rename_i kvs e6
    exact (wd3.obj _ a _ ha e6).elim
  · exact e5.elim
end
end MIS

set_option Elab.async false
set_option linter.all false
set_option maxRecDepth 100000
set_option maxHeartbeats 2000000
/-! MiS13: the checker of statements, and what it shows. -/
namespace MIS
open PySem PySem.Spec PyProof.Rows L2 MI
def loclB (sc : Scope) (x : Str) : Bool := decide (sc.names.lookup x = some .local)
def swOk (sc scope : Scope) (x : Str) (xp p : Pos) : Bool := decide (sc.kind = .function) && (xp.line == p.line) && !(scope.names.any fun (n, k) => n == x && (k == .local || k == .cell))
section
variable (T : Tab) (N : List Str)
mutual
def ckS : Nat → Scope → Stmt → MS → Bool
  | 0, _, _, _ => false
  | n + 1, sc, .Assign [.Name x xp] (.ListComp elt [⟨tg, iter, ifs, 0⟩] scope p) _, .set i (.lc t it cd m) => (decide (N[i]? = some x) && loclB sc x && swOk sc scope x xp p && ckI T N n sc tg iter it && noSet iter && tgB (relS scope sc) N tg t && blkC N sc scope (ownT tg t) &&
      ((tgN tg).all fun x => decide ((relS scope sc).names.lookup x = some .local) || (scope.names.lookup x == some .cell)) && ckC T N n (relS scope sc) ifs cd && ckE T N n (relS scope sc) elt m) ||
      (decide (N[i]? = some x) && locB sc x && !loclB sc x && ckE T N n sc (.ListComp elt [⟨tg, iter, ifs, 0⟩] scope p) (.lc t it cd m))
  | n + 1, sc, .Assign [.Name x _] e _, .set i m => decide (N[i]? = some x) && locB sc x && noComp e && ckE T N n sc e m
  | n + 1, sc, .Assign [.Subscript o i _] e _, .sub mo mi me => noSlice i && noComp e && ckE T N n sc o mo && ckE T N n sc i mi && ckE T N n sc e me
  | n + 1, sc, .Expr e _, .exp m => noComp e && ckE T N n sc e m
  | n + 1, sc, .Return (some e) _, .ret m => ckE T N n sc e m
  | _ + 1, _, .Return none _, .ret (.cst .non) => true
  | n + 1, sc, .If t a b _, .ife m x y => ckE T N n sc t m && noIf t && ckB n sc a x && ckB n sc b y
  | n + 1, sc, .For tg iter body [] _, .for_ t it b => ckI T N n sc tg iter it && noSet iter && tgB sc N tg t && ckB n sc body b
  | n + 1, sc, .While t body [] _, .whl m b => ckE T N n sc t m && noIf t && ckB n sc body b
  | _ + 1, _, .Pass _, .pas => true
  | _ + 1, _, .Raise .., .nev => true
  | _, _, _, _ => false
def ckB : Nat → Scope → List Stmt → List MS → Bool
  | 0, _, _, _ => false
  | _ + 1, _, [], [] => true
  | n + 1, sc, s :: r, m :: ms => ckS n sc s m && ckB n sc r ms
  | _, _, _, _ => false
end
end
theorem sw_no {e : Expr} (h : noComp e = true) (t : Option Expr) (l : Nat) (env : PySem.Env) : swapsWith e t l env = pure false := by
  cases e <;> first | rfl | (cases h; done)
theorem swS_no {e tg : Expr} (h : noComp e = true) (l : Nat) (env : PySem.Env) : swapsWithSole [tg] e l env = pure false := sw_no h _ _ _
theorem as_sub {i : Expr} (h : noSlice i = true) (o : Expr) (pos : Pos) (env : PySem.Env) (v : Value) : assign (.Subscript o i pos) env v = (do
      let ov ← holding [v] (eval o env)
      let iv ← holding [v, ov] (eval i env)
      standAt pos
      holding [v, ov, iv] (setItem ov iv v)
      release [v, ov, iv] []) := by
  cases i <;> first | rfl | (cases h; done)
structure SStm (X : Cx) (cl ex : Nat → Addr) (T : Tab) (N : List Str) (c c' : ClM) (sc : Scope) (W : WN) (n : Nat) : Prop where
  s : ∀ st m, ckS T N n sc st m = true → PS X st (tS (kw X cl ex) W (evS c c' m))
  b : ∀ sts ms, ckB T N n sc sts ms = true → PSs X sts (tS (kw X cl ex) W (evB c c' ms))
section
variable {X : Cx} {cl ex : Nat → Addr} {T : Tab} {c c' : ClM} {k : Nat} {sc : Scope} {N : List Str} {W : WN}
theorem locl_of {x : Str} (h : loclB sc x = true) : sc.names.lookup x = some .local := of_decide_eq_true h
theorem sw_cell {elt : Expr} {gs : List Comprehension} {scope : Scope} {pos py : Pos} {y : Str} {l : Nat} {env : PySem.Env} (h : env.scope.names.lookup y ≠ some .local) : swapsWith (.ListComp elt gs scope pos) (some (.Name y py)) l env = pure false := by
  have ky : (env.kindOf y == some .local) = false := by
    have e : env.kindOf y = env.scope.names.lookup y := rfl
    rw [e]
    cases q : env.scope.names.lookup y with
    | none => rfl
    | some z =>
      rw [q] at h
      cases z <;> first | rfl | exact absurd rfl h
  unfold swapsWith
  simp only [ky]
  rw [Bool.and_false, Bool.false_and, Bool.false_and]
theorem sound_s (hfn : ∀ x, X.fn x = true) (G : Good X cl ex T c k sc N (cW W)) {n : Nat} (S : ∀ n', n = n' + 1 → SStm X cl ex T N c c' sc W n') : SStm X cl ex T N c c' sc W n := by
    have E := fun n => sound (c' := c') n G
    have nd : X.N.Nodup := by rw [G.nms]; exact G.nd
    refine ⟨fun st m h => ?_, fun sts ms h => ?_⟩
    · unfold ckS at h
      split at h
      · cases h
      · rename_i n' x xp elt tg iter ifs scope p spos i tgt it cond m
        rw [Bool.or_eq_true] at h
        rcases h with h | h
        rotate_left
        · simp only [Bool.and_eq_true, Bool.not_eq_true'] at h
          refine impS (ps_set nd (by rw [G.nms]; exact of_decide_eq_true h.1.1.1) (by rw [G.sc]; exact loc_of h.1.1.2) ((E _).e _ _ h.2) (sw_cell fun z => ?_) (.inl (hfn _))) fun D σ H q => conv_set q
          rw [G.sc] at z
          have := h.1.2
          unfold loclB at this
          rw [decide_eq_true z] at this
          cases this
        simp only [Bool.and_eq_true] at h
        obtain ⟨⟨⟨⟨⟨⟨⟨⟨⟨h1, h2⟩, h3⟩, h4⟩, h5⟩, h6⟩, h7⟩, h8⟩, h9⟩, h10⟩ := h
        unfold swOk at h3
        simp only [Bool.and_eq_true, Bool.not_eq_true'] at h3
        obtain ⟨⟨k1, k2⟩, k3⟩ := h3
        have ok := blkOk_by h7
        have hv := own_vs h6
        have gb := fun (s : Shared) (H : Hp) (C : Addr) (cs : List (Str × Addr)) (fp : List Addr) => G.blk s H scope C cs fp
        have e1 : ∀ (s : Shared) (H : Hp) (C : Addr) (cs : List (Str × Addr)) (fp : List Addr), PE (X.blk s H scope (compEnvC scope cs C X.env) fp) elt (tE (kw X cl ex) W0 (evE c c' m)) := fun s H C cs fp => (sound (c' := c') n' (gb s H C cs fp)).e _ _ h10
        have e2 : ∀ (s : Shared) (H : Hp) (C : Addr) (cs : List (Str × Addr)) (fp : List Addr), PTs (X.blk s H scope (compEnvC scope cs C X.env) fp) ifs (tT (kw X cl ex) W0 (evC c c' cond)) := fun s H C cs fp => (sound (c' := c') n' (gb s H C cs fp)).cd _ _ h9
        have e3 : ∀ (s : Shared) (H : Hp) (C : Addr) (cs : List (Str × Addr)) (fp : List Addr), PG (X.blk s H scope (compEnvC scope cs C X.env) fp) tg (gT X.K tgt) := fun s H C cs fp => pg_tgt (X := X.blk s H scope (compEnvC scope cs C X.env) fp) G.nms G.nd G.calm (gb s H C cs fp).sc h6 fun x hx => by
          have hh := List.all_eq_true.mp h8 x hx
          rw [Bool.or_eq_true] at hh
          rcases hh with hh | hh
          · refine .inr ?_
            rw [(gb s H C cs fp).sc]
            exact of_decide_eq_true hh
          · exact .inl hh
        refine impS (ps_setLc G.calm nd (by rw [G.nms]; exact of_decide_eq_true h1) (by rw [G.sc]; exact locl_of h2) (sw_true (by rw [G.sc]; exact of_decide_eq_true k1) (by rw [G.sc]; exact locl_of h2) k2 k3) ((E _).i _ _ _ h4) (by rw [G.nms, G.sc]; exact ok) e3 e2 e1 (set_of h5 _)) fun D σ H q => ?_
        · rw [hv]
          obtain ⟨μ, η, ρ, wd, re, e⟩ := q
          exact conv_setLc ⟨μ, η, ρ, wd, re, e⟩
      · simp only [Bool.and_eq_true] at h
        exact impS (ps_set nd (by rw [G.nms]; exact of_decide_eq_true h.1.1.1) (by rw [G.sc]; exact loc_of h.1.1.2) ((E _).e _ _ h.2) (sw_no h.1.2 _ _ _) (.inl (hfn _))) fun D σ H q => conv_set q
      · simp only [Bool.and_eq_true] at h
        exact impS (ps_asg ((E _).e _ _ h.2) (pg_sub ((E _).e _ _ h.1.1.2) ((E _).e _ _ h.1.2) set_list (as_sub h.1.1.1.1 _ _ _)) (swS_no h.1.1.1.2 _ _)) fun D σ H q => conv_sub q
      · simp only [Bool.and_eq_true] at h
        exact impS (ps_expr ((E _).e _ _ h.2) (sw_no h.1 _ _ _)) fun D σ H q => conv_exp q
      · exact impS (ps_ret ((E _).e _ _ h)) fun D σ H q => conv_ret q
      · exact impS ps_retN fun D σ H q => conv_retN q
      · simp only [Bool.and_eq_true] at h
        exact impS (ps_if ((E _).t _ _ h.1.1.1 h.1.1.2) ((S _ rfl).b _ _ h.1.2) ((S _ rfl).b _ _ h.2)) fun D σ H q => conv_if q
      · simp only [Bool.and_eq_true] at h
        exact impS (ps_for G.po G.calm ((E _).i _ _ _ h.1.1.1) (pg_tgt G.nms G.nd G.calm G.sc h.1.2 fun x hx => .inl (hfn _)) ((S _ rfl).b _ _ h.2) (set_of h.1.1.2 _)) fun D σ H q => conv_for q
      · simp only [Bool.and_eq_true] at h
        exact impS (ps_while G.po ((E _).t _ _ h.1.1 h.1.2) ((S _ rfl).b _ _ h.2)) fun D σ H q => conv_while q
      · exact impS ps_pass fun D σ H q => conv_nx q
      · exact impS ps_never fun D σ H q => by
          obtain ⟨μ, η, ρ, wd, re, e⟩ := q
          exact e.elim
      · cases h
    · unfold ckB at h
      split at h
      · cases h
      · exact impB pss_nil fun D σ H q => conv_nx q
      · simp only [Bool.and_eq_true] at h
        exact impB (pss_cons ((S _ rfl).s _ _ h.1) ((S _ rfl).b _ _ h.2)) fun D σ H q => conv_seq q
      · cases h
theorem stm (hfn : ∀ x, X.fn x = true) (G : Good X cl ex T c k sc N (cW W)) : ∀ n, SStm X cl ex T N c c' sc W n
  | 0 => sound_s hfn G fun _ e => nomatch e
  | n + 1 => sound_s hfn G fun n' e => by cases e; exact stm hfn G n
end
end MIS

set_option Elab.async false
set_option linter.all false
set_option maxRecDepth 100000
set_option maxHeartbeats 2000000
/-! MiS14: defs, and the law's end. -/
namespace MIS
open PySem PySem.Spec PyProof.Rows L2 MI
def scB (N ps : List Str) (sc : Scope) : Bool := decide (sc.kind = .function) && !sc.isCoroutine && !sc.isGenerator && decide N.Nodup && decide (N.take ps.length = ps) &&
  (ps.all fun x => decide (sc.names.lookup x = some .local) || decide (sc.names.lookup x = some .cell)) && sc.names.all fun y => decide (y.2 ≠ .free)
theorem sc_of {N ps : List Str} {sc : Scope} (h : scB N ps sc = true) : FnScope N ps sc := by
  unfold scB at h
  simp only [Bool.and_eq_true, Bool.not_eq_true', decide_eq_true_eq, List.all_eq_true, Bool.or_eq_true] at h
  obtain ⟨⟨⟨⟨⟨⟨h1, h2⟩, h3⟩, h4⟩, h5⟩, h6⟩, h7⟩ := h
  exact ⟨h1, h2, h3, h4, h5, h6, h7⟩
structure DefAt (K : PySem.W.Frag) (P : PrM) (T : Tab) (f : String) (ar : Nat) (a : Addr) (fdat : FuncData) (ps : List Str) : Prop where
  g : ∃ (nm : Str) (st : Stmt) (N : List Str) (fd : FD) (fuel : Nat), L2.Fun K nm nm st a fdat ∧ Binds K fdat ps [] ∧ P f = some fd ∧
    (scB N ps (defScope st) && ckB T N fuel (defScope st) (defBody st) fd.body && (ps.length == ar) && (fd.ar == ar) && (fd.ns == N.length)) = true
def DefOk (K : PySem.W.Frag) (mg : Str → Option Value) (P : PrM) (T : Tab) (x : Str) (f : String) (ar : Nat) : Prop := ∃ (a : Addr) (fdat : FuncData) (ps : List Str), mg x = some (.ref a) ∧ DefAt K P T f ar a fdat ps
def FnS (prog : Program) (w : World) (K : PySem.W.Frag) (mg : Str → Option Value) (base : Heap) (cl ex : Nat → Addr) (P : PrM) (n : Nat) (p : Str × String × Nat) : Prop :=
  ∃ a, mg p.1 = some (.ref a) ∧ PySem.W.keepIn K (.ref a) = true ∧ ∃ fdat ps, ps.length = p.2.2 ∧ FnOk prog w K mg base (L2.CX prog w) n a fdat ps (spF ⟨K, w, prog, cl, ex⟩ p.2.2 (callN P n p.2.1)) ∧ Binds K fdat ps []
section
variable {prog : Program} {w : World} {K : PySem.W.Frag} {mg : Str → Option Value} {base : Heap} {cl ex : Nat → Addr} {P : PrM} {T : Tab}
theorem RE.start {KK : KW} {μ : List Addr} {H : Hp} {ds : List D} {vs : List V} {N : List Str} {m : Nat} (rs : RVs KK μ H ds vs) (hm : m = N.length - vs.length) : RE KK μ H (ds.map some ++ List.replicate m none) (L2.start N vs) := by
  subst hm
  refine ⟨by simp [L2.start, rs.len], fun i d h => ?_⟩
  unfold L2.start
  by_cases hi : i < ds.length
  · rw [List.getElem?_append_left (by simpa using hi)] at h
    rw [List.getElem?_append_left (by simpa [rs.len] using hi)]
    rw [List.getElem?_map] at h ⊢
    cases e : ds[i]? with
    | none => rw [e] at h; cases h
    | some y =>
      rw [e] at h
      cases h
      obtain ⟨v, h1, h2⟩ := rs.get e
      exact ⟨v, by rw [h1]; rfl, h2⟩
  · rw [List.getElem?_append_right (by simpa using Nat.le_of_not_lt hi), List.getElem?_replicate] at h
    split at h <;> cases h
theorem fns_zero (h : ∀ p ∈ T.fns, DefOk K mg P T p.1 p.2.1 p.2.2) : ∀ p ∈ T.fns, FnS prog w K mg base cl ex P 0 p := fun p hp => by
  obtain ⟨a, fdat, ps, hm, d⟩ := h p hp
  obtain ⟨nm, st, N, fd, fuel, F, B, hP, hck⟩ := d.g
  simp only [Bool.and_eq_true] at hck
  have hl : ps.length = p.2.2 := eq_of_beq hck.1.1.2
  refine ⟨a, hm, F.kp, fdat, ps, hl, ⟨fun vs H Q E h => by rw [hl]; exact h.1, fun A outer s H args us vs Q E _ _ _ _ h => ?_⟩, B⟩
  obtain ⟨_, μ, η, ds, wd, rs, e⟩ := h
  exact e.elim
theorem def_step {f : String} {ar : Nat} {a : Addr} {fdat : FuncData} {ps : List Str} (d : DefAt K P T f ar a fdat ps) (hC : ∀ p ∈ T.consts, ∃ u v, mg p.1 = some u ∧ RelV v u ∧ ∀ μ H, RV ⟨K, w, prog, cl, ex⟩ μ H p.2 v) (hB : ∀ x ∈ T.blts, mg x = none) {n : Nat} (ih : ∀ p ∈ T.fns, FnS prog w K mg base cl ex P n p) :
    PySem.W.keepIn K (.ref a) = true ∧ ps.length = ar ∧ FnOk prog w K mg base (L2.CX prog w) (n + 1) a fdat ps (spF ⟨K, w, prog, cl, ex⟩ ar (callN P (n + 1) f)) ∧ Binds K fdat ps [] := by
  obtain ⟨nm, st, N, fd, fuel, F, B, hP, hck⟩ := d.g
  simp only [Bool.and_eq_true] at hck
  obtain ⟨⟨⟨⟨c1, c2⟩, c3⟩, c4⟩, c5⟩ := hck
  have hl : ps.length = ar := eq_of_beq c3
  have ha : fd.ar = ar := eq_of_beq c4
  have hn : fd.ns = N.length := eq_of_beq c5
  have sc := sc_of c1
  refine ⟨F.kp, hl, F.okX sc (fun vs H Q E h => by rw [hl]; exact h.1) (fun cdv A outer s H vs Q E hr h => ?_), B⟩
  have G : Good (cxOf (L2.CX prog w) prog w K mg base N nm (defScope st) a cdv A outer s H E) cl ex T (callN P n) n (defScope st) N (cW fun k H' => E (.ref (ex k)) none H') := by
    refine ⟨rfl, rfl, sc.nd, rfl, hr, ?_, ?_, ⟨fun p hp => ⟨ih p hp⟩, hC, hB⟩⟩
    · refine (takes_of (E := E) rfl rfl rfl rfl).imp fun c d σ H q => ?_
      obtain ⟨k, e1, e2, w⟩ := q
      subst e1 e2
      exact w
    · exact passes_of rfl
  refine ⟨_, (stm (c' := (calls P n).2) (fun _ => rfl) G fuel).b _ _ c2, ?_⟩
  obtain ⟨hlen, μ, η, ds, wd, rs, e⟩ := h
  have hz : ds.length = fd.ar := by rw [← rs.len, hlen, ha]
  refine ⟨μ, η, ds.map some ++ List.replicate (fd.ns - fd.ar) none, wd, RE.start rs (by rw [hn, ← hz, rs.len]), ?_⟩
  have e0 : callN P (n + 1) f ds η = ((evB (calls P n).1 (calls P n).2 fd.body (ds.map some ++ List.replicate (fd.ns - fd.ar) none)).bind fun
      | .rt d => .pure d
      | .nx _ => .pure .non) η := by
    show runP P (calls P n).1 (calls P n).2 f ds η = _
    unfold runP
    rw [hP]
    show runF _ _ fd ds η = _
    unfold runF
    rw [if_pos hz]
    all_goals exact congrFun (congrArg _ (funext fun f => by cases f <;> rfl)) _
  rw [e0] at e
  refine (EndG.bind e).imp fun fl η1 μ1 H1 af wd1 e2 => ?_
  cases fl with
  | nx ρ1 => exact fun σ1 _ => EndG.pure wd1 e2 _ rfl
  | rt d => exact EndG.pure wd1 e2
theorem fns_step (h : ∀ p ∈ T.fns, DefOk K mg P T p.1 p.2.1 p.2.2) (hC : ∀ p ∈ T.consts, ∃ u v, mg p.1 = some u ∧ RelV v u ∧ ∀ μ H, RV ⟨K, w, prog, cl, ex⟩ μ H p.2 v) (hB : ∀ x ∈ T.blts, mg x = none) {n : Nat} (ih : ∀ p ∈ T.fns, FnS prog w K mg base cl ex P n p) :
    ∀ p ∈ T.fns, FnS prog w K mg base cl ex P (n + 1) p := fun p hp => by
  obtain ⟨a, fdat, ps, hm, d⟩ := h p hp
  obtain ⟨h1, h2, h3, h4⟩ := def_step (prog := prog) (w := w) (base := base) (cl := cl) (ex := ex) d hC hB ih
  exact ⟨a, hm, h1, fdat, ps, h2, h3, h4⟩
theorem fns_all (h : ∀ p ∈ T.fns, DefOk K mg P T p.1 p.2.1 p.2.2) (hC : ∀ p ∈ T.consts, ∃ u v, mg p.1 = some u ∧ RelV v u ∧ ∀ μ H, RV ⟨K, w, prog, cl, ex⟩ μ H p.2 v) (hB : ∀ x ∈ T.blts, mg x = none) : ∀ n, ∀ p ∈ T.fns, FnS prog w K mg base cl ex P n p
  | 0 => fns_zero h
  | n + 1 => fns_step h hC hB (fns_all h hC hB n)
end
/-- what law promises: True, for a list of at most 63 ints, each of a size -/
def spLaw (K : PySem.W.Frag) : Sp := fun vs H Q _ => ∃ (a : Addr) (ns : List Int), vs = [.ref a] ∧ SqI K H a (ns.map V.int) ∧ ns.length ≤ 63 ∧ (∀ z ∈ ns, Builtin.Int.intBits z ≤ 1048576) ∧ ∀ H', Q (.bl true) H'
/-- MI's answer is True -/
def LawTrue (P : PrM) (law : String) (n : Nat) : Prop := ∀ ns : List Int, ns.length ≤ 63 → (∀ z ∈ ns, Builtin.Int.intBits z ≤ 1048576) → ∃ η', callN P n law [.lst (ns.map .int)] [] = .ok (.bl true) η'
section
variable {prog : Program} {w : World} {K : PySem.W.Frag} {mg : Str → Option Value} {base : Heap} {cl ex : Nat → Addr} {P : PrM} {T : Tab}
theorem law_fn {law : String} {a : Addr} {fdat : FuncData} {ps : List Str} (d : DefAt K P T law 1 a fdat ps) (h : ∀ p ∈ T.fns, DefOk K mg P T p.1 p.2.1 p.2.2) (hC : ∀ p ∈ T.consts, ∃ u v, mg p.1 = some u ∧ RelV v u ∧ ∀ μ H, RV ⟨K, w, prog, cl, ex⟩ μ H p.2 v)
    (hB : ∀ x ∈ T.blts, mg x = none) {n : Nat} (hT : LawTrue P law (n + 1)) : FnOk prog w K mg base (L2.CX prog w) (n + 1) a fdat ps (spLaw K) := by
  obtain ⟨_, _, h3, _⟩ := def_step (prog := prog) (w := w) (base := base) (cl := cl) (ex := ex) d hC hB (fns_all h hC hB n)
  refine h3.imp fun vs H Q E q => ?_
  obtain ⟨a, ns, rfl, hs, hl, hb, q⟩ := q
  obtain ⟨η', e⟩ := hT ns hl hb
  refine ⟨rfl, [], [], [.lst (ns.map .int)], ⟨rfl, List.nodup_nil, fun i a o h => nomatch h⟩, ⟨_, [], rfl, ⟨a, _, rfl, hs, RVs.of_ints ns⟩, rfl⟩, ?_⟩
  rw [e]
  intro μ' H' _ _ v rv
  rw [show v = .bl true from rv]
  exact q H'
theorem walk_law {l : PySem.W.OpenLaw} {k : Nat} {q : Program} {loose : List Str} {XP : (Str → Option Value) → Heap → Prop} {YP : World → Heap → Prop} {d : DefRec} {K : Params → PySem.W.Frag} {x : Str}
    (hn : l.most = some 63) (hdf : d.params.defaults = []) (hr : Room k callerA) (hY : ∀ (w : World) (h : Heap), YP w h → (K w.params).In h)
    (F : ∀ (w : World) (mg : Str → Option Value) (fa : Addr) (h : Heap), (K w.params).In h → h.Ns mainGlobals mg → mg d.name = some (.ref fa) →
      ∃ fd : FuncData, (∀ (s : Shared) (u : Value), BindsTo s fd ⟨[u], []⟩ [(x, u)]) ∧ ∀ base : Heap, (K w.params).In base → base.Ns mainGlobals mg → FnOk l.prog w (K w.params) mg base (L2.CX l.prog w) k fa fd [x] (spLaw (K w.params))) :
    PySem.W.WalkO q loose XP YP l.row.toRowW d [] (fun f vs => PySem.call f vs) :=
  walk_ofB (CX := fun w => L2.CX l.prog w) (sp := fun w => spLaw (K w.params)) hn (by decide) hdf hr hY F (fun w H a ns hl hb hO hS => ⟨a, ns, rfl, by
    rcases hS with hS | hS
    · rcases hO a with z | ⟨o, xs, z⟩
      · rcases hS with hS | ⟨ob, hS⟩ <;> (rw [z] at hS; cases hS)
      · rcases hS with hS | ⟨ob, hS⟩
        · rw [z] at hS; cases hS
        · exact .inl ⟨ob, hS⟩
    · exact .inr hS, hl, hb, fun _ => rfl⟩) fun w H s e s' c => by
    obtain ⟨a, B, H', cls, d, _, _, _, _, _, _, _, z⟩ := c
    exact z
end
end MIS

set_option Elab.async false
set_option linter.all false
set_option maxRecDepth 10000
set_option maxHeartbeats 400000
namespace Law
open MI
def d_form_of_cube : FD := { ar := 1, ns := 4, body := [(.set 1 (.cst .non)), (.for_ (.one 2) (.rng (.blt .len [(.loc 0)])) [(.ife (.cmp .isn (.idx (.loc 0) (.loc 2)) (.cst .non)) [(.set 3 (.ife (.idx (.loc 0) (.loc 2)) (.tup [(.cst (.str [97, 116])), (.loc 2)]) (.tup [(.cst (.str [110, 111, 116])), (.tup [(.cst (.str [97, 116])), (.loc 2)])]))), (.set 1 (.ife (.cmp .is (.loc 1) (.cst .non)) (.loc 3) (.tup [(.cst (.str [97, 110, 100])), (.loc 1), (.loc 3)])))] [])]), (.ret (.ife (.cmp .is (.loc 1) (.cst .non)) (.tup [(.cst (.str [105, 115])), (.cst (.bl true))]) (.loc 1)))] }
def d_form_of_cover : FD := { ar := 1, ns := 4, body := [(.set 1 (.cst .non)), (.for_ (.one 2) (.seq (.loc 0)) [(.set 3 (.call "form_of_cube" [(.loc 2)])), (.set 1 (.ife (.cmp .is (.loc 1) (.cst .non)) (.loc 3) (.tup [(.cst (.str [111, 114])), (.loc 1), (.loc 3)])))]), (.ret (.ife (.cmp .is (.loc 1) (.cst .non)) (.tup [(.cst (.str [105, 115])), (.cst (.bl false))]) (.loc 1)))] }
def d__law_cell_at : FD := { ar := 2, ns := 2, body := [(.ife (.cmp .lt (.loc 1) (.blt .len [(.loc 0)])) [(.ret (.idx (.loc 0) (.loc 1)))] []), (.ret (.cst (.int 0)))] }
def d__law_way : FD := { ar := 3, ns := 4, body := [(.set 3 (.bin .mod (.bin .add (.bin .add (.bin .mul (.call "_law_cell_at" [(.loc 0), (.loc 1)]) (.cst (.int 48271))) (.bin .mul (.cst (.int 7919)) (.blt .len [(.loc 0)]))) (.bin .mul (.cst (.int 104729)) (.loc 1))) (.cst (.int 2147483647)))), (.ret (.bin .mod (.bin .mod (.bin .mul (.loc 3) (.loc 3)) (.cst (.int 2147483647))) (.loc 2)))] }
def d__law_mark : FD := { ar := 2, ns := 3, body := [(.set 2 (.bin .add (.bin .add (.bin .mul (.call "_law_cell_at" [(.loc 0), (.bin .add (.cst (.int 4)) (.loc 1))]) (.cst (.int 40692))) (.bin .mul (.bin .mul (.call "_law_cell_at" [(.loc 0), (.cst (.int 3))]) (.cst (.int 48271))) (.bin .add (.loc 1) (.cst (.int 1))))) (.bin .mul (.cst (.int 7919)) (.loc 1)))), (.ret (.bin .mod (.bin .mul (.loc 2) (.loc 2)) (.cst (.int 2147483399))))] }
def d__law_rows : FD := { ar := 1, ns := 4, body := [(.set 1 (.lst [(.cst (.int 0))])), (.for_ (.one 2) (.seq (.loc 0)) [(.ife (.cmp .is (.loc 2) (.cst .non)) [(.set 1 (.bin .add (.lc (.one 3) (.seq (.loc 1)) none (.bin .mul (.cst (.int 2)) (.loc 3))) (.lc (.one 3) (.seq (.loc 1)) none (.bin .add (.bin .mul (.cst (.int 2)) (.loc 3)) (.cst (.int 1))))))] [(.set 1 (.lc (.one 3) (.seq (.loc 1)) none (.bin .add (.bin .mul (.cst (.int 2)) (.loc 3)) (.blt .int [(.loc 2)]))))])]), (.ret (.blt .sorted [(.loc 1)]))] }
def d__law_cube_by : FD := { ar := 3, ns := 5, body := [(.set 3 (.lst [(.cst .non), (.cst (.bl false)), (.cst (.bl true))])), (.ife (.cmp .eq (.call "_law_way" [(.loc 0), (.cst (.int 1)), (.cst (.int 5))]) (.cst (.int 1))) [(.set 3 (.idx (.lst [(.lst [(.cst .non)]), (.lst [(.cst (.bl false))]), (.lst [(.cst (.bl true))]), (.lst [(.cst .non), (.cst (.bl true))])]) (.call "_law_way" [(.loc 0), (.cst (.int 2)), (.cst (.int 4))])))] []), (.ret (.blt .tuple [(.lc (.one 4) (.rng (.loc 2)) none (.idx (.loc 3) (.bin .mod (.call "_law_mark" [(.loc 0), (.bin .add (.loc 1) (.loc 4))]) (.blt .len [(.loc 3)]))))]))] }
def d__law_deep_v2 : FD := { ar := 3, ns := 3, body := [(.ife (.or (.cmp .eq (.loc 2) (.cst (.int 0))) (.or (.not (.isi (.loc 0) .tuple)) (.or (.cmp .lt (.blt .len [(.loc 0)]) (.cst (.int 2))) (.not (.isi (.idx (.loc 0) (.cst (.int 0))) .str))))) [(.ret (.cst (.bl false)))] []), (.ife (.cmp .eq (.idx (.loc 0) (.cst (.int 0))) (.cst (.str [105, 115]))) [(.ret (.and (.cmp .eq (.blt .len [(.loc 0)]) (.cst (.int 2))) (.isi (.idx (.loc 0) (.cst (.int 1))) .bool)))] []), (.ife (.cmp .eq (.idx (.loc 0) (.cst (.int 0))) (.cst (.str [97, 116]))) [(.ret (.and (.cmp .eq (.blt .len [(.loc 0)]) (.cst (.int 2))) (.and (.isi (.idx (.loc 0) (.cst (.int 1))) .int) (.and (.not (.isi (.idx (.loc 0) (.cst (.int 1))) .bool)) (.chn .le .lt (.cst (.int 0)) (.idx (.loc 0) (.cst (.int 1))) (.loc 1))))))] []), (.ife (.cmp .eq (.idx (.loc 0) (.cst (.int 0))) (.cst (.str [110, 111, 116]))) [(.ret (.and (.cmp .eq (.blt .len [(.loc 0)]) (.cst (.int 2))) (.call "_law_deep_v2" [(.idx (.loc 0) (.cst (.int 1))), (.loc 1), (.bin .sub (.loc 2) (.cst (.int 1)))])))] []), (.ife (.or (.cmp .nin (.idx (.loc 0) (.cst (.int 0))) (.tup [(.cst (.str [97, 110, 100])), (.cst (.str [111, 114])), (.cst (.str [111, 100, 100]))])) (.cmp .ne (.blt .len [(.loc 0)]) (.cst (.int 3)))) [(.ret (.cst (.bl false)))] []), (.ret (.and (.call "_law_deep_v2" [(.idx (.loc 0) (.cst (.int 1))), (.loc 1), (.bin .sub (.loc 2) (.cst (.int 1)))]) (.call "_law_deep_v2" [(.idx (.loc 0) (.cst (.int 2))), (.loc 1), (.bin .sub (.loc 2) (.cst (.int 1)))])))] }
def d__law_tuples : FD := { ar := 1, ns := 2, body := [(.ife (.or (.cmp .eq (.idx (.loc 0) (.cst (.int 0))) (.cst (.str [105, 115]))) (.cmp .eq (.idx (.loc 0) (.cst (.int 0))) (.cst (.str [97, 116])))) [(.ret (.cst (.int 1)))] []), (.ret (.bin .add (.cst (.int 1)) (.blt .sum [(.lc (.one 1) (.seq (.slc (.loc 0) (some (.cst (.int 1))) none)) none (.call "_law_tuples" [(.loc 1)]))])))] }
def d__law_value : FD := { ar := 3, ns := 5, body := [(.ife (.cmp .eq (.idx (.loc 0) (.cst (.int 0))) (.cst (.str [105, 115]))) [(.ret (.idx (.loc 0) (.cst (.int 1))))] []), (.ife (.cmp .eq (.idx (.loc 0) (.cst (.int 0))) (.cst (.str [97, 116]))) [(.ret (.cmp .eq (.bin .mod (.bin .fdiv (.loc 1) (.idx (.lst [(.cst (.int 1)), (.cst (.int 2)), (.cst (.int 4)), (.cst (.int 8)), (.cst (.int 16)), (.cst (.int 32))]) (.bin .sub (.bin .sub (.loc 2) (.cst (.int 1))) (.idx (.loc 0) (.cst (.int 1)))))) (.cst (.int 2))) (.cst (.int 1))))] []), (.set 3 (.call "_law_value" [(.idx (.loc 0) (.cst (.int 1))), (.loc 1), (.loc 2)])), (.ife (.cmp .eq (.idx (.loc 0) (.cst (.int 0))) (.cst (.str [110, 111, 116]))) [(.ret (.not (.loc 3)))] []), (.set 4 (.call "_law_value" [(.idx (.loc 0) (.cst (.int 2))), (.loc 1), (.loc 2)])), (.ife (.cmp .eq (.idx (.loc 0) (.cst (.int 0))) (.cst (.str [97, 110, 100]))) [(.ret (.and (.loc 3) (.loc 4)))] []), (.ife (.cmp .eq (.idx (.loc 0) (.cst (.int 0))) (.cst (.str [111, 114]))) [(.ret (.or (.loc 3) (.loc 4)))] []), (.ret (.cmp .ne (.loc 3) (.loc 4)))] }
def d__law_open_v2 : FD := { ar := 2, ns := 4, body := [(.set 2 (.mth .index (.lst [(.cst (.str [111, 114])), (.cst (.str [111, 100, 100])), (.cst (.str [97, 110, 100])), (.cst (.str [110, 111, 116])), (.cst (.str [105, 115])), (.cst (.str [97, 116]))]) [(.idx (.loc 0) (.cst (.int 0)))])), (.ife (.cmp .gt (.loc 2) (.cst (.int 3))) [(.ret (.cst (.int 0)))] []), (.set 3 (.call "_law_open_v2" [(.idx (.loc 0) (.cst (.int 1))), (.loc 2)])), (.ife (.cmp .lt (.loc 2) (.cst (.int 3))) [(.set 3 (.blt .max [(.loc 3), (.call "_law_open_v2" [(.idx (.loc 0) (.cst (.int 2))), (.bin .add (.loc 2) (.cst (.int 1)))])]))] []), (.ret (.bin .add (.loc 3) (.blt .int [(.cmp .lt (.loc 2) (.loc 1))])))] }
def d_law_v19 : FD := { ar := 1, ns := 10, body := [(.set 1 (.call "_law_way" [(.loc 0), (.cst (.int 0)), (.cst (.int 7))])), (.set 2 (.call "_law_way" [(.loc 0), (.cst (.int 3)), (.idx (.lst [(.cst (.int 17)), (.cst (.int 17)), (.cst (.int 17)), (.cst (.int 17)), (.cst (.int 17)), (.cst (.int 9)), (.cst (.int 5))]) (.loc 1))])), (.set 3 (.lc (.one 9) (.rng (.loc 2)) none (.call "_law_cube_by" [(.loc 0), (.bin .add (.cst (.int 1)) (.bin .mul (.cst (.int 7)) (.loc 9))), (.loc 1)]))), (.set 4 (.blt .list [(.loc 3)])), (.set 5 (.call "form_of_cover" [(.loc 4)])), (.ife (.or (.not (.call "_law_deep_v2" [(.loc 5), (.loc 1), (.cst (.int 60))])) (.or (.cmp .ne (.loc 4) (.loc 3)) (.and (.cmp .eq (.loc 3) (.lst [])) (.cmp .ne (.loc 5) (.tup [(.cst (.str [105, 115])), (.cst (.bl false))]))))) [(.ret (.cst (.bl false)))] []), (.ife (.or (.cmp .gt (.call "_law_open_v2" [(.loc 5), (.cst (.int 0))]) (.cst (.int 4))) (.cmp .gt (.call "_law_tuples" [(.loc 5)]) (.cst (.int 1000)))) [(.ret (.cst (.bl false)))] []), (.exp (.mth .clear (.loc 4) [])), (.ife (.cmp .ne (.call "form_of_cover" [(.loc 3)]) (.loc 5)) [(.ret (.cst (.bl false)))] []), (.set 6 (.lst [])), (.for_ (.one 7) (.seq (.loc 3)) [(.set 6 (.bin .add (.loc 6) (.call "_law_rows" [(.loc 7)])))]), (.for_ (.one 8) (.rng (.idx (.lst [(.cst (.int 1)), (.cst (.int 2)), (.cst (.int 4)), (.cst (.int 8)), (.cst (.int 16)), (.cst (.int 32)), (.cst (.int 64))]) (.loc 1))) [(.ife (.cmp .ne (.call "_law_value" [(.loc 5), (.loc 8), (.loc 1)]) (.cmp .isin (.loc 8) (.loc 6))) [(.ret (.cst (.bl false)))] [])]), (.ret (.cst (.bl true)))] }
def P : PrM := fun f => if f = "form_of_cube" then some d_form_of_cube else if f = "form_of_cover" then some d_form_of_cover else if f = "_law_cell_at" then some d__law_cell_at else if f = "_law_way" then some d__law_way else if f = "_law_mark" then some d__law_mark else if f = "_law_rows" then some d__law_rows else if f = "_law_cube_by" then some d__law_cube_by else if f = "_law_deep_v2" then some d__law_deep_v2 else if f = "_law_tuples" then some d__law_tuples else if f = "_law_value" then some d__law_value else if f = "_law_open_v2" then some d__law_open_v2 else if f = "law_v19" then some d_law_v19 else none
theorem pd_form_of_cube : P "form_of_cube" = some d_form_of_cube := by simp [P]
theorem pd_form_of_cover : P "form_of_cover" = some d_form_of_cover := by simp [P]
theorem pd__law_cell_at : P "_law_cell_at" = some d__law_cell_at := by simp [P]
theorem pd__law_way : P "_law_way" = some d__law_way := by simp [P]
theorem pd__law_mark : P "_law_mark" = some d__law_mark := by simp [P]
theorem pd__law_rows : P "_law_rows" = some d__law_rows := by simp [P]
theorem pd__law_cube_by : P "_law_cube_by" = some d__law_cube_by := by simp [P]
theorem pd__law_deep_v2 : P "_law_deep_v2" = some d__law_deep_v2 := by simp [P]
theorem pd__law_tuples : P "_law_tuples" = some d__law_tuples := by simp [P]
theorem pd__law_value : P "_law_value" = some d__law_value := by simp [P]
theorem pd__law_open_v2 : P "_law_open_v2" = some d__law_open_v2 := by simp [P]
theorem pd_law_v19 : P "law_v19" = some d_law_v19 := by simp [P]
/-! ### forms -/
inductive Fm where
  | is (b : Bool)
  | at (n : Nat)
  | no (f : Fm)
  | op (o : Fin 3) (f g : Fm)
def opS : Fin 3 → List Nat
  | 0 => [97, 110, 100]
  | 1 => [111, 114]
  | 2 => [111, 100, 100]
def Fm.toD : Fm → D
  | .is b => .tup [.str [105, 115], .bl b]
  | .at n => .tup [.str [97, 116], .int n]
  | .no f => .tup [.str [110, 111, 116], f.toD]
  | .op o f g => .tup [.str (opS o), f.toD, g.toD]
def Fm.tall : Fm → Nat
  | .is _ => 1
  | .at _ => 1
  | .no f => f.tall + 1
  | .op _ f g => max f.tall g.tall + 1
def Fm.big : Fm → Nat
  | .is _ => 1
  | .at _ => 1
  | .no f => f.big + 1
  | .op _ f g => f.big + g.big + 1
/-- places below -/
def Fm.low (m : Nat) : Fm → Bool
  | .is _ => true
  | .at n => decide (n < m)
  | .no f => f.low m
  | .op _ f g => f.low m && g.low m
def bop : Fin 3 → Bool → Bool → Bool
  | 0, a, b => a && b
  | 1, a, b => a || b
  | 2, a, b => a != b
def Fm.val (r : Nat → Bool) : Fm → Bool
  | .is b => b
  | .at n => r n
  | .no f => !f.val r
  | .op o f g => bop o (f.val r) (g.val r)
section
variable {η : Hv} {R : D → Hv → Prop} {RB : Bool → Hv → Prop} {a b c : D}
theorem i0_2 : Wp (idxM (.tup [a, b]) (.int 0)) η R = R a η := rfl
theorem i1_2 : Wp (idxM (.tup [a, b]) (.int 1)) η R = R b η := rfl
theorem i0_3 : Wp (idxM (.tup [a, b, c]) (.int 0)) η R = R a η := rfl
theorem i1_3 : Wp (idxM (.tup [a, b, c]) (.int 1)) η R = R b η := rfl
theorem i2_3 : Wp (idxM (.tup [a, b, c]) (.int 2)) η R = R c η := rfl
theorem n_2 : Wp (bltM .len [.tup [a, b]]) η R = R (.int 2) η := rfl
theorem n_3 : Wp (bltM .len [.tup [a, b, c]]) η R = R (.int 3) η := rfl
theorem c_is_is : Wp (cmpM .eq (.str [105, 115]) (.str [105, 115])) η RB = RB true η := wp_cmp (b := true) (eq_strs (by decide) (by decide))
theorem c_is_at : Wp (cmpM .eq (.str [105, 115]) (.str [97, 116])) η RB = RB false η := wp_cmp (b := false) (eq_strs (by decide) (by decide))
theorem c_is_not : Wp (cmpM .eq (.str [105, 115]) (.str [110, 111, 116])) η RB = RB false η := wp_cmp (b := false) (eq_strs (by decide) (by decide))
theorem c_is_and : Wp (cmpM .eq (.str [105, 115]) (.str [97, 110, 100])) η RB = RB false η := wp_cmp (b := false) (eq_strs (by decide) (by decide))
theorem c_is_or : Wp (cmpM .eq (.str [105, 115]) (.str [111, 114])) η RB = RB false η := wp_cmp (b := false) (eq_strs (by decide) (by decide))
theorem c_at_is : Wp (cmpM .eq (.str [97, 116]) (.str [105, 115])) η RB = RB false η := wp_cmp (b := false) (eq_strs (by decide) (by decide))
theorem c_at_at : Wp (cmpM .eq (.str [97, 116]) (.str [97, 116])) η RB = RB true η := wp_cmp (b := true) (eq_strs (by decide) (by decide))
theorem c_at_not : Wp (cmpM .eq (.str [97, 116]) (.str [110, 111, 116])) η RB = RB false η := wp_cmp (b := false) (eq_strs (by decide) (by decide))
theorem c_at_and : Wp (cmpM .eq (.str [97, 116]) (.str [97, 110, 100])) η RB = RB false η := wp_cmp (b := false) (eq_strs (by decide) (by decide))
theorem c_at_or : Wp (cmpM .eq (.str [97, 116]) (.str [111, 114])) η RB = RB false η := wp_cmp (b := false) (eq_strs (by decide) (by decide))
theorem c_not_is : Wp (cmpM .eq (.str [110, 111, 116]) (.str [105, 115])) η RB = RB false η := wp_cmp (b := false) (eq_strs (by decide) (by decide))
theorem c_not_at : Wp (cmpM .eq (.str [110, 111, 116]) (.str [97, 116])) η RB = RB false η := wp_cmp (b := false) (eq_strs (by decide) (by decide))
theorem c_not_not : Wp (cmpM .eq (.str [110, 111, 116]) (.str [110, 111, 116])) η RB = RB true η := wp_cmp (b := true) (eq_strs (by decide) (by decide))
theorem c_not_and : Wp (cmpM .eq (.str [110, 111, 116]) (.str [97, 110, 100])) η RB = RB false η := wp_cmp (b := false) (eq_strs (by decide) (by decide))
theorem c_not_or : Wp (cmpM .eq (.str [110, 111, 116]) (.str [111, 114])) η RB = RB false η := wp_cmp (b := false) (eq_strs (by decide) (by decide))
theorem c_and_is : Wp (cmpM .eq (.str [97, 110, 100]) (.str [105, 115])) η RB = RB false η := wp_cmp (b := false) (eq_strs (by decide) (by decide))
theorem c_and_at : Wp (cmpM .eq (.str [97, 110, 100]) (.str [97, 116])) η RB = RB false η := wp_cmp (b := false) (eq_strs (by decide) (by decide))
theorem c_and_not : Wp (cmpM .eq (.str [97, 110, 100]) (.str [110, 111, 116])) η RB = RB false η := wp_cmp (b := false) (eq_strs (by decide) (by decide))
theorem c_and_and : Wp (cmpM .eq (.str [97, 110, 100]) (.str [97, 110, 100])) η RB = RB true η := wp_cmp (b := true) (eq_strs (by decide) (by decide))
theorem c_and_or : Wp (cmpM .eq (.str [97, 110, 100]) (.str [111, 114])) η RB = RB false η := wp_cmp (b := false) (eq_strs (by decide) (by decide))
theorem c_or_is : Wp (cmpM .eq (.str [111, 114]) (.str [105, 115])) η RB = RB false η := wp_cmp (b := false) (eq_strs (by decide) (by decide))
theorem c_or_at : Wp (cmpM .eq (.str [111, 114]) (.str [97, 116])) η RB = RB false η := wp_cmp (b := false) (eq_strs (by decide) (by decide))
theorem c_or_not : Wp (cmpM .eq (.str [111, 114]) (.str [110, 111, 116])) η RB = RB false η := wp_cmp (b := false) (eq_strs (by decide) (by decide))
theorem c_or_and : Wp (cmpM .eq (.str [111, 114]) (.str [97, 110, 100])) η RB = RB false η := wp_cmp (b := false) (eq_strs (by decide) (by decide))
theorem c_or_or : Wp (cmpM .eq (.str [111, 114]) (.str [111, 114])) η RB = RB true η := wp_cmp (b := true) (eq_strs (by decide) (by decide))
theorem c_odd_is : Wp (cmpM .eq (.str [111, 100, 100]) (.str [105, 115])) η RB = RB false η := wp_cmp (b := false) (eq_strs (by decide) (by decide))
theorem c_odd_at : Wp (cmpM .eq (.str [111, 100, 100]) (.str [97, 116])) η RB = RB false η := wp_cmp (b := false) (eq_strs (by decide) (by decide))
theorem c_odd_not : Wp (cmpM .eq (.str [111, 100, 100]) (.str [110, 111, 116])) η RB = RB false η := wp_cmp (b := false) (eq_strs (by decide) (by decide))
theorem c_odd_and : Wp (cmpM .eq (.str [111, 100, 100]) (.str [97, 110, 100])) η RB = RB false η := wp_cmp (b := false) (eq_strs (by decide) (by decide))
theorem c_odd_or : Wp (cmpM .eq (.str [111, 100, 100]) (.str [111, 114])) η RB = RB false η := wp_cmp (b := false) (eq_strs (by decide) (by decide))
theorem m_and : Wp (cmpM .nin (.str [97, 110, 100]) (.tup [.str [97, 110, 100], .str [111, 114], .str [111, 100, 100]])) η RB = RB false η := wp_cmp (b := false) rfl
theorem m_or : Wp (cmpM .nin (.str [111, 114]) (.tup [.str [97, 110, 100], .str [111, 114], .str [111, 100, 100]])) η RB = RB false η := wp_cmp (b := false) rfl
theorem m_odd : Wp (cmpM .nin (.str [111, 100, 100]) (.tup [.str [97, 110, 100], .str [111, 114], .str [111, 100, 100]])) η RB = RB false η := wp_cmp (b := false) rfl
theorem y_tup_bool {xs : List D} : Wp (lookM fun h => (tyD (.tup xs) h).map fun k => D.bl (isT .bool k)) η R = R (.bl false) η := rfl
theorem y_tup_int {xs : List D} : Wp (lookM fun h => (tyD (.tup xs) h).map fun k => D.bl (isT .int k)) η R = R (.bl false) η := rfl
theorem y_tup_str {xs : List D} : Wp (lookM fun h => (tyD (.tup xs) h).map fun k => D.bl (isT .str k)) η R = R (.bl false) η := rfl
theorem y_tup_tuple {xs : List D} : Wp (lookM fun h => (tyD (.tup xs) h).map fun k => D.bl (isT .tuple k)) η R = R (.bl true) η := rfl
theorem y_tup_list {xs : List D} : Wp (lookM fun h => (tyD (.tup xs) h).map fun k => D.bl (isT .list k)) η R = R (.bl false) η := rfl
theorem y_str_bool {x : List Nat} : Wp (lookM fun h => (tyD (.str x) h).map fun k => D.bl (isT .bool k)) η R = R (.bl false) η := rfl
theorem y_str_int {x : List Nat} : Wp (lookM fun h => (tyD (.str x) h).map fun k => D.bl (isT .int k)) η R = R (.bl false) η := rfl
theorem y_str_str {x : List Nat} : Wp (lookM fun h => (tyD (.str x) h).map fun k => D.bl (isT .str k)) η R = R (.bl true) η := rfl
theorem y_str_tuple {x : List Nat} : Wp (lookM fun h => (tyD (.str x) h).map fun k => D.bl (isT .tuple k)) η R = R (.bl false) η := rfl
theorem y_str_list {x : List Nat} : Wp (lookM fun h => (tyD (.str x) h).map fun k => D.bl (isT .list k)) η R = R (.bl false) η := rfl
theorem y_int_bool {i : Int} : Wp (lookM fun h => (tyD (.int i) h).map fun k => D.bl (isT .bool k)) η R = R (.bl false) η := rfl
theorem y_int_int {i : Int} : Wp (lookM fun h => (tyD (.int i) h).map fun k => D.bl (isT .int k)) η R = R (.bl true) η := rfl
theorem y_int_str {i : Int} : Wp (lookM fun h => (tyD (.int i) h).map fun k => D.bl (isT .str k)) η R = R (.bl false) η := rfl
theorem y_int_tuple {i : Int} : Wp (lookM fun h => (tyD (.int i) h).map fun k => D.bl (isT .tuple k)) η R = R (.bl false) η := rfl
theorem y_int_list {i : Int} : Wp (lookM fun h => (tyD (.int i) h).map fun k => D.bl (isT .list k)) η R = R (.bl false) η := rfl
theorem y_bl_bool {x : Bool} : Wp (lookM fun h => (tyD (.bl x) h).map fun k => D.bl (isT .bool k)) η R = R (.bl true) η := rfl
theorem y_bl_int {x : Bool} : Wp (lookM fun h => (tyD (.bl x) h).map fun k => D.bl (isT .int k)) η R = R (.bl true) η := rfl
theorem y_bl_str {x : Bool} : Wp (lookM fun h => (tyD (.bl x) h).map fun k => D.bl (isT .str k)) η R = R (.bl false) η := rfl
theorem y_bl_tuple {x : Bool} : Wp (lookM fun h => (tyD (.bl x) h).map fun k => D.bl (isT .tuple k)) η R = R (.bl false) η := rfl
theorem y_bl_list {x : Bool} : Wp (lookM fun h => (tyD (.bl x) h).map fun k => D.bl (isT .list k)) η R = R (.bl false) η := rfl
end
theorem tall_pos (f : Fm) : 0 < f.tall := by cases f <;> simp [Fm.tall]
theorem deep_ok : ∀ (f : Fm) (n : Nat) (many left : Int) (η : Hv) (R : D → Hv → Prop), f.tall ≤ n → (f.tall : Int) ≤ left → 0 ≤ many → f.low many.toNat = true → R (.bl true) η → Wp (callN P n "_law_deep_v2" [f.toD, .int many, .int left]) η R := by
  intro f
  induction f with
  | is b =>
    intro n many left η R hn hl h0 hw hR
    obtain ⟨n, rfl⟩ : ∃ m, n = m + 1 := ⟨n - 1, by have := tall_pos (.is b); omega⟩
    have e0 : (left == 0) = false := by
      have : (1 : Int) ≤ left := hl
      simp; omega
    rw [wp_call (fd := d__law_deep_v2) pd__law_deep_v2 rfl]
    simp only [d__law_deep_v2, Fm.toD, ↓k_zero, ↓k_succ, ↓v_loc, ↓v_cst, ↓v_tup, ↓v_lst, ↓v_bin, ↓v_neg, ↓v_not, ↓v_and, ↓v_or, ↓v_cmp, ↓v_chn, ↓v_ife, ↓v_idx, ↓v_slc, ↓v_call, ↓v_blt, ↓v_mth, ↓v_isi, ↓v_lc, ↓v_nil, ↓v_cons, ↓v_onone, ↓v_osome, ↓v_cnone, ↓v_csome, ↓v_seq, ↓v_rng, ↓v_rng2, ↓v_enm, ↓v_zip, ↓t_set, ↓t_sub, ↓t_exp, ↓t_ret, ↓t_ife, ↓t_for, ↓r_nil, ↓r_cons, ↓wp_pure, List.map_cons, List.map_nil, List.cons_append, List.nil_append, List.replicate_succ, List.replicate_zero, List.set_cons_zero, List.set_cons_succ, Nat.sub_self, List.append_nil, ↓c_is_is, ↓c_is_at, ↓c_is_not, ↓c_is_and, ↓c_is_or, ↓c_at_is, ↓c_at_at, ↓c_at_not, ↓c_at_and, ↓c_at_or, ↓c_not_is, ↓c_not_at, ↓c_not_not, ↓c_not_and, ↓c_not_or, ↓c_and_is, ↓c_and_at, ↓c_and_not, ↓c_and_and, ↓c_and_or, ↓c_or_is, ↓c_or_at, ↓c_or_not, ↓c_or_and, ↓c_or_or, ↓c_odd_is, ↓c_odd_at, ↓c_odd_not, ↓c_odd_and, ↓c_odd_or, ↓m_and, ↓m_or, ↓m_odd, ↓y_tup_bool, ↓y_tup_int, ↓y_tup_str, ↓y_tup_tuple, ↓y_tup_list, ↓y_str_bool, ↓y_str_int, ↓y_str_str, ↓y_str_tuple, ↓y_str_list, ↓y_int_bool, ↓y_int_int, ↓y_int_str, ↓y_int_tuple, ↓y_int_list, ↓y_bl_bool, ↓y_bl_int, ↓y_bl_str, ↓y_bl_tuple, ↓y_bl_list, ↓i0_2, ↓i1_2, ↓i0_3, ↓i1_3, ↓i2_3, ↓n_2, ↓n_3, ↓w_eqi, ↓w_nei, ↓w_eqb, ↓w_neb, ↓w_trub, ↓w_add, ↓w_sub, ↓w_lt, ↓w_le, ↓w_gt, ↓w_ge, ↓w_int, ↓w_intb, ↓w_gi, Bool.not_true, Bool.not_false, Bool.false_eq_true, if_false, if_true, beq_self_eq_true, e0]
    exact hR
  | «at» k =>
    intro n many left η R hn hl h0 hw hR
    obtain ⟨n, rfl⟩ : ∃ m, n = m + 1 := ⟨n - 1, by have := tall_pos (.at k); omega⟩
    have e0 : (left == 0) = false := by
      have : (1 : Int) ≤ left := hl
      simp; omega
    have e1 : decide ((0 : Int) ≤ (k : Int)) = true := decide_eq_true (by omega)
    have e2 : decide ((k : Int) < many) = true := by
      have : k < many.toNat := of_decide_eq_true hw
      exact decide_eq_true (by omega)
    rw [wp_call (fd := d__law_deep_v2) pd__law_deep_v2 rfl]
    simp only [d__law_deep_v2, Fm.toD, ↓k_zero, ↓k_succ, ↓v_loc, ↓v_cst, ↓v_tup, ↓v_lst, ↓v_bin, ↓v_neg, ↓v_not, ↓v_and, ↓v_or, ↓v_cmp, ↓v_chn, ↓v_ife, ↓v_idx, ↓v_slc, ↓v_call, ↓v_blt, ↓v_mth, ↓v_isi, ↓v_lc, ↓v_nil, ↓v_cons, ↓v_onone, ↓v_osome, ↓v_cnone, ↓v_csome, ↓v_seq, ↓v_rng, ↓v_rng2, ↓v_enm, ↓v_zip, ↓t_set, ↓t_sub, ↓t_exp, ↓t_ret, ↓t_ife, ↓t_for, ↓r_nil, ↓r_cons, ↓wp_pure, List.map_cons, List.map_nil, List.cons_append, List.nil_append, List.replicate_succ, List.replicate_zero, List.set_cons_zero, List.set_cons_succ, Nat.sub_self, List.append_nil, ↓c_is_is, ↓c_is_at, ↓c_is_not, ↓c_is_and, ↓c_is_or, ↓c_at_is, ↓c_at_at, ↓c_at_not, ↓c_at_and, ↓c_at_or, ↓c_not_is, ↓c_not_at, ↓c_not_not, ↓c_not_and, ↓c_not_or, ↓c_and_is, ↓c_and_at, ↓c_and_not, ↓c_and_and, ↓c_and_or, ↓c_or_is, ↓c_or_at, ↓c_or_not, ↓c_or_and, ↓c_or_or, ↓c_odd_is, ↓c_odd_at, ↓c_odd_not, ↓c_odd_and, ↓c_odd_or, ↓m_and, ↓m_or, ↓m_odd, ↓y_tup_bool, ↓y_tup_int, ↓y_tup_str, ↓y_tup_tuple, ↓y_tup_list, ↓y_str_bool, ↓y_str_int, ↓y_str_str, ↓y_str_tuple, ↓y_str_list, ↓y_int_bool, ↓y_int_int, ↓y_int_str, ↓y_int_tuple, ↓y_int_list, ↓y_bl_bool, ↓y_bl_int, ↓y_bl_str, ↓y_bl_tuple, ↓y_bl_list, ↓i0_2, ↓i1_2, ↓i0_3, ↓i1_3, ↓i2_3, ↓n_2, ↓n_3, ↓w_eqi, ↓w_nei, ↓w_eqb, ↓w_neb, ↓w_trub, ↓w_add, ↓w_sub, ↓w_lt, ↓w_le, ↓w_gt, ↓w_ge, ↓w_int, ↓w_intb, ↓w_gi, Bool.not_true, Bool.not_false, Bool.false_eq_true, if_false, if_true, beq_self_eq_true, e0, e1, e2]
    exact hR
  | no f ih =>
    intro n many left η R hn hl h0 hw hR
    have hp := tall_pos f
    simp only [Fm.tall] at hn hl
    obtain ⟨n, rfl⟩ : ∃ m, n = m + 1 := ⟨n - 1, by omega⟩
    have e0 : (left == 0) = false := by simp; omega
    rw [wp_call (fd := d__law_deep_v2) pd__law_deep_v2 rfl]
    simp only [d__law_deep_v2, Fm.toD, ↓k_zero, ↓k_succ, ↓v_loc, ↓v_cst, ↓v_tup, ↓v_lst, ↓v_bin, ↓v_neg, ↓v_not, ↓v_and, ↓v_or, ↓v_cmp, ↓v_chn, ↓v_ife, ↓v_idx, ↓v_slc, ↓v_call, ↓v_blt, ↓v_mth, ↓v_isi, ↓v_lc, ↓v_nil, ↓v_cons, ↓v_onone, ↓v_osome, ↓v_cnone, ↓v_csome, ↓v_seq, ↓v_rng, ↓v_rng2, ↓v_enm, ↓v_zip, ↓t_set, ↓t_sub, ↓t_exp, ↓t_ret, ↓t_ife, ↓t_for, ↓r_nil, ↓r_cons, ↓wp_pure, List.map_cons, List.map_nil, List.cons_append, List.nil_append, List.replicate_succ, List.replicate_zero, List.set_cons_zero, List.set_cons_succ, Nat.sub_self, List.append_nil, ↓c_is_is, ↓c_is_at, ↓c_is_not, ↓c_is_and, ↓c_is_or, ↓c_at_is, ↓c_at_at, ↓c_at_not, ↓c_at_and, ↓c_at_or, ↓c_not_is, ↓c_not_at, ↓c_not_not, ↓c_not_and, ↓c_not_or, ↓c_and_is, ↓c_and_at, ↓c_and_not, ↓c_and_and, ↓c_and_or, ↓c_or_is, ↓c_or_at, ↓c_or_not, ↓c_or_and, ↓c_or_or, ↓c_odd_is, ↓c_odd_at, ↓c_odd_not, ↓c_odd_and, ↓c_odd_or, ↓m_and, ↓m_or, ↓m_odd, ↓y_tup_bool, ↓y_tup_int, ↓y_tup_str, ↓y_tup_tuple, ↓y_tup_list, ↓y_str_bool, ↓y_str_int, ↓y_str_str, ↓y_str_tuple, ↓y_str_list, ↓y_int_bool, ↓y_int_int, ↓y_int_str, ↓y_int_tuple, ↓y_int_list, ↓y_bl_bool, ↓y_bl_int, ↓y_bl_str, ↓y_bl_tuple, ↓y_bl_list, ↓i0_2, ↓i1_2, ↓i0_3, ↓i1_3, ↓i2_3, ↓n_2, ↓n_3, ↓w_eqi, ↓w_nei, ↓w_eqb, ↓w_neb, ↓w_trub, ↓w_add, ↓w_sub, ↓w_lt, ↓w_le, ↓w_gt, ↓w_ge, ↓w_int, ↓w_intb, ↓w_gi, Bool.not_true, Bool.not_false, Bool.false_eq_true, if_false, if_true, beq_self_eq_true, e0]
    exact ih n many (left - 1) η _ (by omega) (by omega) h0 hw hR
  | op o f g ihf ihg =>
    intro n many left η R hn hl h0 hw hR
    have hp := tall_pos f
    simp only [Fm.tall] at hn hl
    simp only [Fm.low, Bool.and_eq_true] at hw
    obtain ⟨n, rfl⟩ : ∃ m, n = m + 1 := ⟨n - 1, by omega⟩
    have e0 : (left == 0) = false := by simp; omega
    have go : ∀ s : List Nat, s = opS o → Wp (callN P (n + 1) "_law_deep_v2" [.tup [.str s, f.toD, g.toD], .int many, .int left]) η R := by
      have k2 : Wp (callN P n "_law_deep_v2" [g.toD, .int many, .int (left - 1)]) η R := ihg n many (left - 1) η _ (by omega) (by omega) h0 hw.2 hR
      have k1 : ∀ Q : D → Hv → Prop, Q (.bl true) η → Wp (callN P n "_law_deep_v2" [f.toD, .int many, .int (left - 1)]) η Q := fun Q q => ihf n many (left - 1) η Q (by omega) (by omega) h0 hw.1 q
      intro s hs
      rw [wp_call (fd := d__law_deep_v2) pd__law_deep_v2 rfl]
      have o3 : s = [97, 110, 100] ∨ s = [111, 114] ∨ s = [111, 100, 100] := by
        subst hs
        revert o
        decide
      rcases o3 with e | e | e <;> subst e <;> simp only [d__law_deep_v2, ↓k_zero, ↓k_succ, ↓v_loc, ↓v_cst, ↓v_tup, ↓v_lst, ↓v_bin, ↓v_neg, ↓v_not, ↓v_and, ↓v_or, ↓v_cmp, ↓v_chn, ↓v_ife, ↓v_idx, ↓v_slc, ↓v_call, ↓v_blt, ↓v_mth, ↓v_isi, ↓v_lc, ↓v_nil, ↓v_cons, ↓v_onone, ↓v_osome, ↓v_cnone, ↓v_csome, ↓v_seq, ↓v_rng, ↓v_rng2, ↓v_enm, ↓v_zip, ↓t_set, ↓t_sub, ↓t_exp, ↓t_ret, ↓t_ife, ↓t_for, ↓r_nil, ↓r_cons, ↓wp_pure, List.map_cons, List.map_nil, List.cons_append, List.nil_append, List.replicate_succ, List.replicate_zero, List.set_cons_zero, List.set_cons_succ, Nat.sub_self, List.append_nil, ↓c_is_is, ↓c_is_at, ↓c_is_not, ↓c_is_and, ↓c_is_or, ↓c_at_is, ↓c_at_at, ↓c_at_not, ↓c_at_and, ↓c_at_or, ↓c_not_is, ↓c_not_at, ↓c_not_not, ↓c_not_and, ↓c_not_or, ↓c_and_is, ↓c_and_at, ↓c_and_not, ↓c_and_and, ↓c_and_or, ↓c_or_is, ↓c_or_at, ↓c_or_not, ↓c_or_and, ↓c_or_or, ↓c_odd_is, ↓c_odd_at, ↓c_odd_not, ↓c_odd_and, ↓c_odd_or, ↓m_and, ↓m_or, ↓m_odd, ↓y_tup_bool, ↓y_tup_int, ↓y_tup_str, ↓y_tup_tuple, ↓y_tup_list, ↓y_str_bool, ↓y_str_int, ↓y_str_str, ↓y_str_tuple, ↓y_str_list, ↓y_int_bool, ↓y_int_int, ↓y_int_str, ↓y_int_tuple, ↓y_int_list, ↓y_bl_bool, ↓y_bl_int, ↓y_bl_str, ↓y_bl_tuple, ↓y_bl_list, ↓i0_2, ↓i1_2, ↓i0_3, ↓i1_3, ↓i2_3, ↓n_2, ↓n_3, ↓w_eqi, ↓w_nei, ↓w_eqb, ↓w_neb, ↓w_trub, ↓w_add, ↓w_sub, ↓w_lt, ↓w_le, ↓w_gt, ↓w_ge, ↓w_int, ↓w_intb, ↓w_gi, Bool.not_true, Bool.not_false, Bool.false_eq_true, if_false, if_true, beq_self_eq_true, e0] <;> refine k1 _ ?_ <;> simp only [↓c_is_is, ↓c_is_at, ↓c_is_not, ↓c_is_and, ↓c_is_or, ↓c_at_is, ↓c_at_at, ↓c_at_not, ↓c_at_and, ↓c_at_or, ↓c_not_is, ↓c_not_at, ↓c_not_not, ↓c_not_and, ↓c_not_or, ↓c_and_is, ↓c_and_at, ↓c_and_not, ↓c_and_and, ↓c_and_or, ↓c_or_is, ↓c_or_at, ↓c_or_not, ↓c_or_and, ↓c_or_or, ↓c_odd_is, ↓c_odd_at, ↓c_odd_not, ↓c_odd_and, ↓c_odd_or, ↓m_and, ↓m_or, ↓m_odd, ↓y_tup_bool, ↓y_tup_int, ↓y_tup_str, ↓y_tup_tuple, ↓y_tup_list, ↓y_str_bool, ↓y_str_int, ↓y_str_str, ↓y_str_tuple, ↓y_str_list, ↓y_int_bool, ↓y_int_int, ↓y_int_str, ↓y_int_tuple, ↓y_int_list, ↓y_bl_bool, ↓y_bl_int, ↓y_bl_str, ↓y_bl_tuple, ↓y_bl_list, ↓i0_2, ↓i1_2, ↓i0_3, ↓i1_3, ↓i2_3, ↓n_2, ↓n_3, ↓w_eqi, ↓w_nei, ↓w_eqb, ↓w_neb, ↓w_trub, ↓w_add, ↓w_sub, ↓w_lt, ↓w_le, ↓w_gt, ↓w_ge, ↓w_int, ↓w_intb, ↓w_gi, Bool.not_true, Bool.not_false, Bool.false_eq_true, if_false, if_true, beq_self_eq_true] <;> exact k2
    exact go _ rfl
end Law

set_option Elab.async false
set_option linter.all false
set_option maxRecDepth 10000
set_option maxHeartbeats 400000
namespace Law
open MI
/-- a comprehension whose items may lay new things -/
theorem lc_ext {α : Type} {c c' : ClM} {nx : Nxt} {tg : Tgt} {elt : Rho → Mo D} {ρ : Rho} {η : Hv} {Q : List D → Hv → Prop} (zs : List α) (u g : α → D) (hl : zs.length ≤ 16777216) (hx : ∀ i h, Ext η h → nx i h = some (zs.map u)[i]?)
    (hs : ∀ z ∈ zs, ∃ ρ1, setT (wipeT ρ tg) tg (u z) = some ρ1 ∧ ∀ (h : Hv) (R : D → Hv → Prop), Ext η h → (∀ h', Ext h h' → R (g z) h') → Wp (elt ρ1) h R) (q : ∀ h', Ext η h' → Q (zs.map g) h') : Wp (lcN nx tg (evC c c' none) elt ρ WFu 0 []) η Q := by
  refine wp_lc (fun i acc h => Ext η h ∧ acc = (zs.take i).map g) (zs.map u) (by rw [List.length_map]; exact hl) ⟨.refl, rfl⟩ (fun i acc h e => hx i h e.1) (fun i acc h d e hd => ?_) (fun acc h e => by rw [e.2, List.length_map, List.take_length]; exact q h e.1)
  obtain ⟨e1, rfl⟩ := e
  rw [List.getElem?_map] at hd
  cases hz : zs[i]? with
  | none => rw [hz] at hd; cases hd
  | some z =>
    rw [hz] at hd
    cases hd
    obtain ⟨ρ1, e2, w⟩ := hs z (List.mem_of_getElem? hz)
    refine ⟨ρ1, e2, ?_⟩
    rw [x_cnone, wp_pure, if_pos rfl]
    refine w _ _ e1 fun h' x => ⟨e1.trans x, ?_⟩
    rw [List.take_add_one, hz, List.map_append]
    rfl
theorem w_sum {η : Hv} {R : D → Hv → Prop} {a : Nat} {ns : List Int} (q : η[a]? = some (.lst (ns.map .int))) : Wp (bltM .sum [.ref a]) η R = R (.int ns.sum) η := by
  unfold Wp bltM lookM
  simp only [getL, q, Option.bind_some, ints_of, Option.map_some]
theorem cut_2 {η : Hv} {R : D → Hv → Prop} {a b : D} : Wp (slcM (.tup [a, b]) (some 1) none) η R = R (.tup [b]) η := rfl
theorem cut_3 {η : Hv} {R : D → Hv → Prop} {a b c : D} : Wp (slcM (.tup [a, b, c]) (some 1) none) η R = R (.tup [b, c]) η := rfl
theorem ops3 (o : Fin 3) : opS o = [97, 110, 100] ∧ o = 0 ∨ opS o = [111, 114] ∧ o = 1 ∨ opS o = [111, 100, 100] ∧ o = 2 := by
  revert o
  decide
theorem tuples_ok : ∀ (f : Fm) (n : Nat) (η : Hv) (R : D → Hv → Prop), f.tall ≤ n → (∀ η', Ext η η' → R (.int f.big) η') → Wp (callN P n "_law_tuples" [f.toD]) η R := by
  intro f
  induction f with
  | is b =>
    intro n η R hn hR
    obtain ⟨n, rfl⟩ : ∃ m, n = m + 1 := ⟨n - 1, by have := tall_pos (.is b); omega⟩
    rw [wp_call (fd := d__law_tuples) pd__law_tuples rfl]
    simp only [d__law_tuples, Fm.toD, ↓k_zero, ↓k_succ, ↓v_loc, ↓v_cst, ↓v_tup, ↓v_lst, ↓v_bin, ↓v_neg, ↓v_not, ↓v_and, ↓v_or, ↓v_cmp, ↓v_chn, ↓v_ife, ↓v_idx, ↓v_slc, ↓v_call, ↓v_blt, ↓v_mth, ↓v_isi, ↓v_lc, ↓v_nil, ↓v_cons, ↓v_onone, ↓v_osome, ↓v_cnone, ↓v_csome, ↓v_seq, ↓v_rng, ↓v_rng2, ↓v_enm, ↓v_zip, ↓t_set, ↓t_sub, ↓t_exp, ↓t_ret, ↓t_ife, ↓t_for, ↓r_nil, ↓r_cons, ↓wp_pure, List.map_cons, List.map_nil, List.cons_append, List.nil_append, List.replicate_succ, List.replicate_zero, List.set_cons_zero, List.set_cons_succ, Nat.sub_self, List.append_nil, ↓c_is_is, ↓c_is_at, ↓c_is_not, ↓c_is_and, ↓c_is_or, ↓c_at_is, ↓c_at_at, ↓c_at_not, ↓c_at_and, ↓c_at_or, ↓c_not_is, ↓c_not_at, ↓c_not_not, ↓c_not_and, ↓c_not_or, ↓c_and_is, ↓c_and_at, ↓c_and_not, ↓c_and_and, ↓c_and_or, ↓c_or_is, ↓c_or_at, ↓c_or_not, ↓c_or_and, ↓c_or_or, ↓c_odd_is, ↓c_odd_at, ↓c_odd_not, ↓c_odd_and, ↓c_odd_or, ↓m_and, ↓m_or, ↓m_odd, ↓y_tup_bool, ↓y_tup_int, ↓y_tup_str, ↓y_tup_tuple, ↓y_tup_list, ↓y_str_bool, ↓y_str_int, ↓y_str_str, ↓y_str_tuple, ↓y_str_list, ↓y_int_bool, ↓y_int_int, ↓y_int_str, ↓y_int_tuple, ↓y_int_list, ↓y_bl_bool, ↓y_bl_int, ↓y_bl_str, ↓y_bl_tuple, ↓y_bl_list, ↓i0_2, ↓i1_2, ↓i0_3, ↓i1_3, ↓i2_3, ↓n_2, ↓n_3, ↓w_eqi, ↓w_nei, ↓w_eqb, ↓w_neb, ↓w_trub, ↓w_add, ↓w_sub, ↓w_lt, ↓w_le, ↓w_gt, ↓w_ge, ↓w_int, ↓w_intb, ↓w_gi, Bool.not_true, Bool.not_false, Bool.false_eq_true, if_false, if_true, beq_self_eq_true]
    exact hR _ .refl
  | «at» k =>
    intro n η R hn hR
    obtain ⟨n, rfl⟩ : ∃ m, n = m + 1 := ⟨n - 1, by have := tall_pos (.at k); omega⟩
    rw [wp_call (fd := d__law_tuples) pd__law_tuples rfl]
    simp only [d__law_tuples, Fm.toD, ↓k_zero, ↓k_succ, ↓v_loc, ↓v_cst, ↓v_tup, ↓v_lst, ↓v_bin, ↓v_neg, ↓v_not, ↓v_and, ↓v_or, ↓v_cmp, ↓v_chn, ↓v_ife, ↓v_idx, ↓v_slc, ↓v_call, ↓v_blt, ↓v_mth, ↓v_isi, ↓v_lc, ↓v_nil, ↓v_cons, ↓v_onone, ↓v_osome, ↓v_cnone, ↓v_csome, ↓v_seq, ↓v_rng, ↓v_rng2, ↓v_enm, ↓v_zip, ↓t_set, ↓t_sub, ↓t_exp, ↓t_ret, ↓t_ife, ↓t_for, ↓r_nil, ↓r_cons, ↓wp_pure, List.map_cons, List.map_nil, List.cons_append, List.nil_append, List.replicate_succ, List.replicate_zero, List.set_cons_zero, List.set_cons_succ, Nat.sub_self, List.append_nil, ↓c_is_is, ↓c_is_at, ↓c_is_not, ↓c_is_and, ↓c_is_or, ↓c_at_is, ↓c_at_at, ↓c_at_not, ↓c_at_and, ↓c_at_or, ↓c_not_is, ↓c_not_at, ↓c_not_not, ↓c_not_and, ↓c_not_or, ↓c_and_is, ↓c_and_at, ↓c_and_not, ↓c_and_and, ↓c_and_or, ↓c_or_is, ↓c_or_at, ↓c_or_not, ↓c_or_and, ↓c_or_or, ↓c_odd_is, ↓c_odd_at, ↓c_odd_not, ↓c_odd_and, ↓c_odd_or, ↓m_and, ↓m_or, ↓m_odd, ↓y_tup_bool, ↓y_tup_int, ↓y_tup_str, ↓y_tup_tuple, ↓y_tup_list, ↓y_str_bool, ↓y_str_int, ↓y_str_str, ↓y_str_tuple, ↓y_str_list, ↓y_int_bool, ↓y_int_int, ↓y_int_str, ↓y_int_tuple, ↓y_int_list, ↓y_bl_bool, ↓y_bl_int, ↓y_bl_str, ↓y_bl_tuple, ↓y_bl_list, ↓i0_2, ↓i1_2, ↓i0_3, ↓i1_3, ↓i2_3, ↓n_2, ↓n_3, ↓w_eqi, ↓w_nei, ↓w_eqb, ↓w_neb, ↓w_trub, ↓w_add, ↓w_sub, ↓w_lt, ↓w_le, ↓w_gt, ↓w_ge, ↓w_int, ↓w_intb, ↓w_gi, Bool.not_true, Bool.not_false, Bool.false_eq_true, if_false, if_true, beq_self_eq_true]
    exact hR _ .refl
  | no f ih =>
    intro n η R hn hR
    simp only [Fm.tall] at hn
    obtain ⟨n, rfl⟩ : ∃ m, n = m + 1 := ⟨n - 1, by omega⟩
    rw [wp_call (fd := d__law_tuples) pd__law_tuples rfl]
    simp only [d__law_tuples, Fm.toD, ↓k_zero, ↓k_succ, ↓v_loc, ↓v_cst, ↓v_tup, ↓v_lst, ↓v_bin, ↓v_neg, ↓v_not, ↓v_and, ↓v_or, ↓v_cmp, ↓v_chn, ↓v_ife, ↓v_idx, ↓v_slc, ↓v_call, ↓v_blt, ↓v_mth, ↓v_isi, ↓v_lc, ↓v_nil, ↓v_cons, ↓v_onone, ↓v_osome, ↓v_cnone, ↓v_csome, ↓v_seq, ↓v_rng, ↓v_rng2, ↓v_enm, ↓v_zip, ↓t_set, ↓t_sub, ↓t_exp, ↓t_ret, ↓t_ife, ↓t_for, ↓r_nil, ↓r_cons, ↓wp_pure, List.map_cons, List.map_nil, List.cons_append, List.nil_append, List.replicate_succ, List.replicate_zero, List.set_cons_zero, List.set_cons_succ, Nat.sub_self, List.append_nil, ↓c_is_is, ↓c_is_at, ↓c_is_not, ↓c_is_and, ↓c_is_or, ↓c_at_is, ↓c_at_at, ↓c_at_not, ↓c_at_and, ↓c_at_or, ↓c_not_is, ↓c_not_at, ↓c_not_not, ↓c_not_and, ↓c_not_or, ↓c_and_is, ↓c_and_at, ↓c_and_not, ↓c_and_and, ↓c_and_or, ↓c_or_is, ↓c_or_at, ↓c_or_not, ↓c_or_and, ↓c_or_or, ↓c_odd_is, ↓c_odd_at, ↓c_odd_not, ↓c_odd_and, ↓c_odd_or, ↓m_and, ↓m_or, ↓m_odd, ↓y_tup_bool, ↓y_tup_int, ↓y_tup_str, ↓y_tup_tuple, ↓y_tup_list, ↓y_str_bool, ↓y_str_int, ↓y_str_str, ↓y_str_tuple, ↓y_str_list, ↓y_int_bool, ↓y_int_int, ↓y_int_str, ↓y_int_tuple, ↓y_int_list, ↓y_bl_bool, ↓y_bl_int, ↓y_bl_str, ↓y_bl_tuple, ↓y_bl_list, ↓i0_2, ↓i1_2, ↓i0_3, ↓i1_3, ↓i2_3, ↓n_2, ↓n_3, ↓w_eqi, ↓w_nei, ↓w_eqb, ↓w_neb, ↓w_trub, ↓w_add, ↓w_sub, ↓w_lt, ↓w_le, ↓w_gt, ↓w_ge, ↓w_int, ↓w_intb, ↓w_gi, Bool.not_true, Bool.not_false, Bool.false_eq_true, if_false, if_true, beq_self_eq_true, cut_2]
    rw [wp_look (a := ()) rfl]
    refine lc_ext [f] Fm.toD (fun f => .int f.big) (by simp) (fun i h _ => rfl) (fun z hz => ?_) fun h' x => ?_
    · have hz : z = f := by simpa using hz
      refine ⟨_, rfl, fun h Q _ hQ => ?_⟩
      simp only [↓k_zero, ↓k_succ, ↓v_loc, ↓v_cst, ↓v_tup, ↓v_lst, ↓v_bin, ↓v_neg, ↓v_not, ↓v_and, ↓v_or, ↓v_cmp, ↓v_chn, ↓v_ife, ↓v_idx, ↓v_slc, ↓v_call, ↓v_blt, ↓v_mth, ↓v_isi, ↓v_lc, ↓v_nil, ↓v_cons, ↓v_onone, ↓v_osome, ↓v_cnone, ↓v_csome, ↓v_seq, ↓v_rng, ↓v_rng2, ↓v_enm, ↓v_zip, ↓t_set, ↓t_sub, ↓t_exp, ↓t_ret, ↓t_ife, ↓t_for, ↓r_nil, ↓r_cons, ↓wp_pure, List.map_cons, List.map_nil, List.cons_append, List.nil_append, List.replicate_succ, List.replicate_zero, List.set_cons_zero, List.set_cons_succ, Nat.sub_self, List.append_nil]
      rw [hz] at hQ ⊢
      exact ih n h Q (by omega) hQ
    · show Wp (bltM .sum [.ref h'.length]) (h' ++ [O.lst ([(f.big : Int)].map D.int)]) _
      rw [w_sum at_new, w_add]
      have e : (1 : Int) + [(f.big : Int)].sum = ((Fm.no f).big : Int) := by simp [Fm.big]; omega
      rw [e]
      exact hR _ (x.trans Ext.app)
  | op o f g ihf ihg =>
    intro n η R hn hR
    simp only [Fm.tall] at hn
    obtain ⟨n, rfl⟩ : ∃ m, n = m + 1 := ⟨n - 1, by omega⟩
    rw [wp_call (fd := d__law_tuples) pd__law_tuples rfl]
    have fin2 : Wp (lcN (nxSeq (.tup [f.toD, g.toD])) (.one 1) (evC (callN P n) (calls P n).2 none) (evE (callN P n) (calls P n).2 (.call "_law_tuples" [.loc 1])) [some (.tup [.str (opS o), f.toD, g.toD]), none] WFu 0 []) η fun acc η2 => Wp (bltM .sum [.ref η2.length]) (η2 ++ [.lst acc]) fun y η2 => Wp (binM .add (.int 1) y) η2 R := by
      refine lc_ext [f, g] Fm.toD (fun f => .int f.big) (by simp) (fun i h _ => rfl) (fun z hz => ?_) fun h' x => ?_
      · refine ⟨_, rfl, fun h Q _ hQ => ?_⟩
        simp only [↓k_zero, ↓k_succ, ↓v_loc, ↓v_cst, ↓v_tup, ↓v_lst, ↓v_bin, ↓v_neg, ↓v_not, ↓v_and, ↓v_or, ↓v_cmp, ↓v_chn, ↓v_ife, ↓v_idx, ↓v_slc, ↓v_call, ↓v_blt, ↓v_mth, ↓v_isi, ↓v_lc, ↓v_nil, ↓v_cons, ↓v_onone, ↓v_osome, ↓v_cnone, ↓v_csome, ↓v_seq, ↓v_rng, ↓v_rng2, ↓v_enm, ↓v_zip, ↓t_set, ↓t_sub, ↓t_exp, ↓t_ret, ↓t_ife, ↓t_for, ↓r_nil, ↓r_cons, ↓wp_pure, List.map_cons, List.map_nil, List.cons_append, List.nil_append, List.replicate_succ, List.replicate_zero, List.set_cons_zero, List.set_cons_succ, Nat.sub_self, List.append_nil]
        rcases List.mem_cons.mp hz with e | e
        · rw [e] at hQ ⊢
          exact ihf n h Q (by omega) hQ
        · have e : z = g := by simpa using e
          rw [e] at hQ ⊢
          exact ihg n h Q (by omega) hQ
      · show Wp (bltM .sum [.ref h'.length]) (h' ++ [O.lst ([(f.big : Int), (g.big : Int)].map D.int)]) _
        rw [w_sum at_new, w_add]
        have e : (1 : Int) + [(f.big : Int), (g.big : Int)].sum = ((Fm.op o f g).big : Int) := by simp [Fm.big]; omega
        rw [e]
        exact hR _ (x.trans Ext.app)
    rcases ops3 o with ⟨e, _⟩ | ⟨e, _⟩ | ⟨e, _⟩ <;> simp only [e] at fin2 <;> simp only [d__law_tuples, Fm.toD, ↓k_zero, ↓k_succ, ↓v_loc, ↓v_cst, ↓v_tup, ↓v_lst, ↓v_bin, ↓v_neg, ↓v_not, ↓v_and, ↓v_or, ↓v_cmp, ↓v_chn, ↓v_ife, ↓v_idx, ↓v_slc, ↓v_call, ↓v_blt, ↓v_mth, ↓v_isi, ↓v_lc, ↓v_nil, ↓v_cons, ↓v_onone, ↓v_osome, ↓v_cnone, ↓v_csome, ↓v_seq, ↓v_rng, ↓v_rng2, ↓v_enm, ↓v_zip, ↓t_set, ↓t_sub, ↓t_exp, ↓t_ret, ↓t_ife, ↓t_for, ↓r_nil, ↓r_cons, ↓wp_pure, List.map_cons, List.map_nil, List.cons_append, List.nil_append, List.replicate_succ, List.replicate_zero, List.set_cons_zero, List.set_cons_succ, Nat.sub_self, List.append_nil, ↓c_is_is, ↓c_is_at, ↓c_is_not, ↓c_is_and, ↓c_is_or, ↓c_at_is, ↓c_at_at, ↓c_at_not, ↓c_at_and, ↓c_at_or, ↓c_not_is, ↓c_not_at, ↓c_not_not, ↓c_not_and, ↓c_not_or, ↓c_and_is, ↓c_and_at, ↓c_and_not, ↓c_and_and, ↓c_and_or, ↓c_or_is, ↓c_or_at, ↓c_or_not, ↓c_or_and, ↓c_or_or, ↓c_odd_is, ↓c_odd_at, ↓c_odd_not, ↓c_odd_and, ↓c_odd_or, ↓m_and, ↓m_or, ↓m_odd, ↓y_tup_bool, ↓y_tup_int, ↓y_tup_str, ↓y_tup_tuple, ↓y_tup_list, ↓y_str_bool, ↓y_str_int, ↓y_str_str, ↓y_str_tuple, ↓y_str_list, ↓y_int_bool, ↓y_int_int, ↓y_int_str, ↓y_int_tuple, ↓y_int_list, ↓y_bl_bool, ↓y_bl_int, ↓y_bl_str, ↓y_bl_tuple, ↓y_bl_list, ↓i0_2, ↓i1_2, ↓i0_3, ↓i1_3, ↓i2_3, ↓n_2, ↓n_3, ↓w_eqi, ↓w_nei, ↓w_eqb, ↓w_neb, ↓w_trub, ↓w_add, ↓w_sub, ↓w_lt, ↓w_le, ↓w_gt, ↓w_ge, ↓w_int, ↓w_intb, ↓w_gi, Bool.not_true, Bool.not_false, Bool.false_eq_true, if_false, if_true, beq_self_eq_true, e, cut_3] <;> rw [wp_look (a := ()) rfl] <;> exact fin2
/-- the truth at a place of a row by its number -/
def bitN (num : Int) (many : Nat) (p : Nat) : Bool := num / 2 ^ (many - 1 - p) % 2 == 1
theorem pow_at {many p : Nat} (h : p < many) (h6 : many ≤ 6) : atD [D.int 1, .int 2, .int 4, .int 8, .int 16, .int 32] ((many : Int) - 1 - p) = some (.int (2 ^ (many - 1 - p))) := by
  have e : (many : Int) - 1 - p = ((many - 1 - p : Nat) : Int) := by omega
  rw [e]
  refine at_nat ?_
  have : many - 1 - p = 0 ∨ many - 1 - p = 1 ∨ many - 1 - p = 2 ∨ many - 1 - p = 3 ∨ many - 1 - p = 4 ∨ many - 1 - p = 5 := by omega
  rcases this with e | e | e | e | e | e <;> rw [e] <;> rfl
theorem value_ok : ∀ (f : Fm) (n : Nat) (num : Int) (many : Nat) (η : Hv) (R : D → Hv → Prop), f.tall ≤ n → many ≤ 6 → f.low many = true → (∀ η', Ext η η' → R (.bl (f.val (bitN num many))) η') → Wp (callN P n "_law_value" [f.toD, .int num, .int many]) η R := by
  intro f
  induction f with
  | is b =>
    intro n num many η R hn h6 hw hR
    obtain ⟨n, rfl⟩ : ∃ m, n = m + 1 := ⟨n - 1, by have := tall_pos (.is b); omega⟩
    rw [wp_call (fd := d__law_value) pd__law_value rfl]
    simp only [d__law_value, Fm.toD, ↓k_zero, ↓k_succ, ↓v_loc, ↓v_cst, ↓v_tup, ↓v_lst, ↓v_bin, ↓v_neg, ↓v_not, ↓v_and, ↓v_or, ↓v_cmp, ↓v_chn, ↓v_ife, ↓v_idx, ↓v_slc, ↓v_call, ↓v_blt, ↓v_mth, ↓v_isi, ↓v_lc, ↓v_nil, ↓v_cons, ↓v_onone, ↓v_osome, ↓v_cnone, ↓v_csome, ↓v_seq, ↓v_rng, ↓v_rng2, ↓v_enm, ↓v_zip, ↓t_set, ↓t_sub, ↓t_exp, ↓t_ret, ↓t_ife, ↓t_for, ↓r_nil, ↓r_cons, ↓wp_pure, List.map_cons, List.map_nil, List.cons_append, List.nil_append, List.replicate_succ, List.replicate_zero, List.set_cons_zero, List.set_cons_succ, Nat.sub_self, List.append_nil, ↓c_is_is, ↓c_is_at, ↓c_is_not, ↓c_is_and, ↓c_is_or, ↓c_at_is, ↓c_at_at, ↓c_at_not, ↓c_at_and, ↓c_at_or, ↓c_not_is, ↓c_not_at, ↓c_not_not, ↓c_not_and, ↓c_not_or, ↓c_and_is, ↓c_and_at, ↓c_and_not, ↓c_and_and, ↓c_and_or, ↓c_or_is, ↓c_or_at, ↓c_or_not, ↓c_or_and, ↓c_or_or, ↓c_odd_is, ↓c_odd_at, ↓c_odd_not, ↓c_odd_and, ↓c_odd_or, ↓m_and, ↓m_or, ↓m_odd, ↓y_tup_bool, ↓y_tup_int, ↓y_tup_str, ↓y_tup_tuple, ↓y_tup_list, ↓y_str_bool, ↓y_str_int, ↓y_str_str, ↓y_str_tuple, ↓y_str_list, ↓y_int_bool, ↓y_int_int, ↓y_int_str, ↓y_int_tuple, ↓y_int_list, ↓y_bl_bool, ↓y_bl_int, ↓y_bl_str, ↓y_bl_tuple, ↓y_bl_list, ↓i0_2, ↓i1_2, ↓i0_3, ↓i1_3, ↓i2_3, ↓n_2, ↓n_3, ↓w_eqi, ↓w_nei, ↓w_eqb, ↓w_neb, ↓w_trub, ↓w_add, ↓w_sub, ↓w_lt, ↓w_le, ↓w_gt, ↓w_ge, ↓w_int, ↓w_intb, ↓w_gi, Bool.not_true, Bool.not_false, Bool.false_eq_true, if_false, if_true, beq_self_eq_true]
    exact hR _ .refl
  | «at» k =>
    intro n num many η R hn h6 hw hR
    obtain ⟨n, rfl⟩ : ∃ m, n = m + 1 := ⟨n - 1, by have := tall_pos (.at k); omega⟩
    have hk : k < many := of_decide_eq_true hw
    rw [wp_call (fd := d__law_value) pd__law_value rfl]
    simp only [d__law_value, Fm.toD, ↓k_zero, ↓k_succ, ↓v_loc, ↓v_cst, ↓v_tup, ↓v_lst, ↓v_bin, ↓v_neg, ↓v_not, ↓v_and, ↓v_or, ↓v_cmp, ↓v_chn, ↓v_ife, ↓v_idx, ↓v_slc, ↓v_call, ↓v_blt, ↓v_mth, ↓v_isi, ↓v_lc, ↓v_nil, ↓v_cons, ↓v_onone, ↓v_osome, ↓v_cnone, ↓v_csome, ↓v_seq, ↓v_rng, ↓v_rng2, ↓v_enm, ↓v_zip, ↓t_set, ↓t_sub, ↓t_exp, ↓t_ret, ↓t_ife, ↓t_for, ↓r_nil, ↓r_cons, ↓wp_pure, List.map_cons, List.map_nil, List.cons_append, List.nil_append, List.replicate_succ, List.replicate_zero, List.set_cons_zero, List.set_cons_succ, Nat.sub_self, List.append_nil, ↓c_is_is, ↓c_is_at, ↓c_is_not, ↓c_is_and, ↓c_is_or, ↓c_at_is, ↓c_at_at, ↓c_at_not, ↓c_at_and, ↓c_at_or, ↓c_not_is, ↓c_not_at, ↓c_not_not, ↓c_not_and, ↓c_not_or, ↓c_and_is, ↓c_and_at, ↓c_and_not, ↓c_and_and, ↓c_and_or, ↓c_or_is, ↓c_or_at, ↓c_or_not, ↓c_or_and, ↓c_or_or, ↓c_odd_is, ↓c_odd_at, ↓c_odd_not, ↓c_odd_and, ↓c_odd_or, ↓m_and, ↓m_or, ↓m_odd, ↓y_tup_bool, ↓y_tup_int, ↓y_tup_str, ↓y_tup_tuple, ↓y_tup_list, ↓y_str_bool, ↓y_str_int, ↓y_str_str, ↓y_str_tuple, ↓y_str_list, ↓y_int_bool, ↓y_int_int, ↓y_int_str, ↓y_int_tuple, ↓y_int_list, ↓y_bl_bool, ↓y_bl_int, ↓y_bl_str, ↓y_bl_tuple, ↓y_bl_list, ↓i0_2, ↓i1_2, ↓i0_3, ↓i1_3, ↓i2_3, ↓n_2, ↓n_3, ↓w_eqi, ↓w_nei, ↓w_eqb, ↓w_neb, ↓w_trub, ↓w_add, ↓w_sub, ↓w_lt, ↓w_le, ↓w_gt, ↓w_ge, ↓w_int, ↓w_intb, ↓w_gi, Bool.not_true, Bool.not_false, Bool.false_eq_true, if_false, if_true, beq_self_eq_true]
    have hp : (2 : Int) ^ (many - 1 - k) = 1 ∨ (2 : Int) ^ (many - 1 - k) = 2 ∨ (2 : Int) ^ (many - 1 - k) = 4 ∨ (2 : Int) ^ (many - 1 - k) = 8 ∨ (2 : Int) ^ (many - 1 - k) = 16 ∨ (2 : Int) ^ (many - 1 - k) = 32 := by
      have : many - 1 - k = 0 ∨ many - 1 - k = 1 ∨ many - 1 - k = 2 ∨ many - 1 - k = 3 ∨ many - 1 - k = 4 ∨ many - 1 - k = 5 := by omega
      rcases this with e | e | e | e | e | e <;> rw [e] <;> decide
    rw [w_idxL at_new (pow_at hk h6), w_fdiv (by omega) (by omega), w_mod (by decide), w_eqi]
    exact hR _ Ext.app
  | no f ih =>
    intro n num many η R hn h6 hw hR
    simp only [Fm.tall] at hn
    obtain ⟨n, rfl⟩ : ∃ m, n = m + 1 := ⟨n - 1, by omega⟩
    rw [wp_call (fd := d__law_value) pd__law_value rfl]
    simp only [d__law_value, Fm.toD, ↓k_zero, ↓k_succ, ↓v_loc, ↓v_cst, ↓v_tup, ↓v_lst, ↓v_bin, ↓v_neg, ↓v_not, ↓v_and, ↓v_or, ↓v_cmp, ↓v_chn, ↓v_ife, ↓v_idx, ↓v_slc, ↓v_call, ↓v_blt, ↓v_mth, ↓v_isi, ↓v_lc, ↓v_nil, ↓v_cons, ↓v_onone, ↓v_osome, ↓v_cnone, ↓v_csome, ↓v_seq, ↓v_rng, ↓v_rng2, ↓v_enm, ↓v_zip, ↓t_set, ↓t_sub, ↓t_exp, ↓t_ret, ↓t_ife, ↓t_for, ↓r_nil, ↓r_cons, ↓wp_pure, List.map_cons, List.map_nil, List.cons_append, List.nil_append, List.replicate_succ, List.replicate_zero, List.set_cons_zero, List.set_cons_succ, Nat.sub_self, List.append_nil, ↓c_is_is, ↓c_is_at, ↓c_is_not, ↓c_is_and, ↓c_is_or, ↓c_at_is, ↓c_at_at, ↓c_at_not, ↓c_at_and, ↓c_at_or, ↓c_not_is, ↓c_not_at, ↓c_not_not, ↓c_not_and, ↓c_not_or, ↓c_and_is, ↓c_and_at, ↓c_and_not, ↓c_and_and, ↓c_and_or, ↓c_or_is, ↓c_or_at, ↓c_or_not, ↓c_or_and, ↓c_or_or, ↓c_odd_is, ↓c_odd_at, ↓c_odd_not, ↓c_odd_and, ↓c_odd_or, ↓m_and, ↓m_or, ↓m_odd, ↓y_tup_bool, ↓y_tup_int, ↓y_tup_str, ↓y_tup_tuple, ↓y_tup_list, ↓y_str_bool, ↓y_str_int, ↓y_str_str, ↓y_str_tuple, ↓y_str_list, ↓y_int_bool, ↓y_int_int, ↓y_int_str, ↓y_int_tuple, ↓y_int_list, ↓y_bl_bool, ↓y_bl_int, ↓y_bl_str, ↓y_bl_tuple, ↓y_bl_list, ↓i0_2, ↓i1_2, ↓i0_3, ↓i1_3, ↓i2_3, ↓n_2, ↓n_3, ↓w_eqi, ↓w_nei, ↓w_eqb, ↓w_neb, ↓w_trub, ↓w_add, ↓w_sub, ↓w_lt, ↓w_le, ↓w_gt, ↓w_ge, ↓w_int, ↓w_intb, ↓w_gi, Bool.not_true, Bool.not_false, Bool.false_eq_true, if_false, if_true, beq_self_eq_true]
    refine ih n num many η _ (by omega) h6 hw fun η' x => ?_
    simp only [↓c_is_is, ↓c_is_at, ↓c_is_not, ↓c_is_and, ↓c_is_or, ↓c_at_is, ↓c_at_at, ↓c_at_not, ↓c_at_and, ↓c_at_or, ↓c_not_is, ↓c_not_at, ↓c_not_not, ↓c_not_and, ↓c_not_or, ↓c_and_is, ↓c_and_at, ↓c_and_not, ↓c_and_and, ↓c_and_or, ↓c_or_is, ↓c_or_at, ↓c_or_not, ↓c_or_and, ↓c_or_or, ↓c_odd_is, ↓c_odd_at, ↓c_odd_not, ↓c_odd_and, ↓c_odd_or, ↓m_and, ↓m_or, ↓m_odd, ↓y_tup_bool, ↓y_tup_int, ↓y_tup_str, ↓y_tup_tuple, ↓y_tup_list, ↓y_str_bool, ↓y_str_int, ↓y_str_str, ↓y_str_tuple, ↓y_str_list, ↓y_int_bool, ↓y_int_int, ↓y_int_str, ↓y_int_tuple, ↓y_int_list, ↓y_bl_bool, ↓y_bl_int, ↓y_bl_str, ↓y_bl_tuple, ↓y_bl_list, ↓i0_2, ↓i1_2, ↓i0_3, ↓i1_3, ↓i2_3, ↓n_2, ↓n_3, ↓w_eqi, ↓w_nei, ↓w_eqb, ↓w_neb, ↓w_trub, ↓w_add, ↓w_sub, ↓w_lt, ↓w_le, ↓w_gt, ↓w_ge, ↓w_int, ↓w_intb, ↓w_gi, Bool.not_true, Bool.not_false, Bool.false_eq_true, if_false, if_true, beq_self_eq_true]
    exact hR _ x
  | op o f g ihf ihg =>
    intro n num many η R hn h6 hw hR
    simp only [Fm.tall] at hn
    simp only [Fm.low, Bool.and_eq_true] at hw
    obtain ⟨n, rfl⟩ : ∃ m, n = m + 1 := ⟨n - 1, by omega⟩
    rw [wp_call (fd := d__law_value) pd__law_value rfl]
    rcases ops3 o with ⟨e, rfl⟩ | ⟨e, rfl⟩ | ⟨e, rfl⟩ <;> simp only [d__law_value, Fm.toD, ↓k_zero, ↓k_succ, ↓v_loc, ↓v_cst, ↓v_tup, ↓v_lst, ↓v_bin, ↓v_neg, ↓v_not, ↓v_and, ↓v_or, ↓v_cmp, ↓v_chn, ↓v_ife, ↓v_idx, ↓v_slc, ↓v_call, ↓v_blt, ↓v_mth, ↓v_isi, ↓v_lc, ↓v_nil, ↓v_cons, ↓v_onone, ↓v_osome, ↓v_cnone, ↓v_csome, ↓v_seq, ↓v_rng, ↓v_rng2, ↓v_enm, ↓v_zip, ↓t_set, ↓t_sub, ↓t_exp, ↓t_ret, ↓t_ife, ↓t_for, ↓r_nil, ↓r_cons, ↓wp_pure, List.map_cons, List.map_nil, List.cons_append, List.nil_append, List.replicate_succ, List.replicate_zero, List.set_cons_zero, List.set_cons_succ, Nat.sub_self, List.append_nil, ↓c_is_is, ↓c_is_at, ↓c_is_not, ↓c_is_and, ↓c_is_or, ↓c_at_is, ↓c_at_at, ↓c_at_not, ↓c_at_and, ↓c_at_or, ↓c_not_is, ↓c_not_at, ↓c_not_not, ↓c_not_and, ↓c_not_or, ↓c_and_is, ↓c_and_at, ↓c_and_not, ↓c_and_and, ↓c_and_or, ↓c_or_is, ↓c_or_at, ↓c_or_not, ↓c_or_and, ↓c_or_or, ↓c_odd_is, ↓c_odd_at, ↓c_odd_not, ↓c_odd_and, ↓c_odd_or, ↓m_and, ↓m_or, ↓m_odd, ↓y_tup_bool, ↓y_tup_int, ↓y_tup_str, ↓y_tup_tuple, ↓y_tup_list, ↓y_str_bool, ↓y_str_int, ↓y_str_str, ↓y_str_tuple, ↓y_str_list, ↓y_int_bool, ↓y_int_int, ↓y_int_str, ↓y_int_tuple, ↓y_int_list, ↓y_bl_bool, ↓y_bl_int, ↓y_bl_str, ↓y_bl_tuple, ↓y_bl_list, ↓i0_2, ↓i1_2, ↓i0_3, ↓i1_3, ↓i2_3, ↓n_2, ↓n_3, ↓w_eqi, ↓w_nei, ↓w_eqb, ↓w_neb, ↓w_trub, ↓w_add, ↓w_sub, ↓w_lt, ↓w_le, ↓w_gt, ↓w_ge, ↓w_int, ↓w_intb, ↓w_gi, Bool.not_true, Bool.not_false, Bool.false_eq_true, if_false, if_true, beq_self_eq_true, e] <;> refine ihf n num many η _ (by omega) h6 hw.1 fun η' x => ?_ <;> (try simp only [↓c_is_is, ↓c_is_at, ↓c_is_not, ↓c_is_and, ↓c_is_or, ↓c_at_is, ↓c_at_at, ↓c_at_not, ↓c_at_and, ↓c_at_or, ↓c_not_is, ↓c_not_at, ↓c_not_not, ↓c_not_and, ↓c_not_or, ↓c_and_is, ↓c_and_at, ↓c_and_not, ↓c_and_and, ↓c_and_or, ↓c_or_is, ↓c_or_at, ↓c_or_not, ↓c_or_and, ↓c_or_or, ↓c_odd_is, ↓c_odd_at, ↓c_odd_not, ↓c_odd_and, ↓c_odd_or, ↓m_and, ↓m_or, ↓m_odd, ↓y_tup_bool, ↓y_tup_int, ↓y_tup_str, ↓y_tup_tuple, ↓y_tup_list, ↓y_str_bool, ↓y_str_int, ↓y_str_str, ↓y_str_tuple, ↓y_str_list, ↓y_int_bool, ↓y_int_int, ↓y_int_str, ↓y_int_tuple, ↓y_int_list, ↓y_bl_bool, ↓y_bl_int, ↓y_bl_str, ↓y_bl_tuple, ↓y_bl_list, ↓i0_2, ↓i1_2, ↓i0_3, ↓i1_3, ↓i2_3, ↓n_2, ↓n_3, ↓w_eqi, ↓w_nei, ↓w_eqb, ↓w_neb, ↓w_trub, ↓w_add, ↓w_sub, ↓w_lt, ↓w_le, ↓w_gt, ↓w_ge, ↓w_int, ↓w_intb, ↓w_gi, Bool.not_true, Bool.not_false, Bool.false_eq_true, if_false, if_true, beq_self_eq_true]) <;> refine ihg n num many η' _ (by omega) h6 hw.2 fun η2 x2 => ?_ <;> (try simp only [↓c_is_is, ↓c_is_at, ↓c_is_not, ↓c_is_and, ↓c_is_or, ↓c_at_is, ↓c_at_at, ↓c_at_not, ↓c_at_and, ↓c_at_or, ↓c_not_is, ↓c_not_at, ↓c_not_not, ↓c_not_and, ↓c_not_or, ↓c_and_is, ↓c_and_at, ↓c_and_not, ↓c_and_and, ↓c_and_or, ↓c_or_is, ↓c_or_at, ↓c_or_not, ↓c_or_and, ↓c_or_or, ↓c_odd_is, ↓c_odd_at, ↓c_odd_not, ↓c_odd_and, ↓c_odd_or, ↓m_and, ↓m_or, ↓m_odd, ↓y_tup_bool, ↓y_tup_int, ↓y_tup_str, ↓y_tup_tuple, ↓y_tup_list, ↓y_str_bool, ↓y_str_int, ↓y_str_str, ↓y_str_tuple, ↓y_str_list, ↓y_int_bool, ↓y_int_int, ↓y_int_str, ↓y_int_tuple, ↓y_int_list, ↓y_bl_bool, ↓y_bl_int, ↓y_bl_str, ↓y_bl_tuple, ↓y_bl_list, ↓i0_2, ↓i1_2, ↓i0_3, ↓i1_3, ↓i2_3, ↓n_2, ↓n_3, ↓w_eqi, ↓w_nei, ↓w_eqb, ↓w_neb, ↓w_trub, ↓w_add, ↓w_sub, ↓w_lt, ↓w_le, ↓w_gt, ↓w_ge, ↓w_int, ↓w_intb, ↓w_gi, Bool.not_true, Bool.not_false, Bool.false_eq_true, if_false, if_true, beq_self_eq_true])
    · have := hR _ (x.trans x2)
      simp only [Fm.val, bop] at this
      cases h : f.val (bitN num many) <;> simp only [h, Bool.true_and, Bool.false_and] at this ⊢ <;> simpa using this
    · have := hR _ (x.trans x2)
      simp only [Fm.val, bop] at this
      cases h : f.val (bitN num many) <;> simp only [h, Bool.true_or, Bool.false_or] at this ⊢ <;> simpa using this
    · have := hR _ (x.trans x2)
      simp only [Fm.val, bop] at this
      cases h : f.val (bitN num many) <;> cases h2 : g.val (bitN num many) <;> simp only [h, h2] at this ⊢ <;> simpa using this
end Law

set_option Elab.async false
set_option linter.all false
set_option maxRecDepth 10000
set_option maxHeartbeats 400000
namespace Law
open MI
/-! ### open brackets -/
def rk : Fin 3 → Int
  | 0 => 2
  | 1 => 0
  | 2 => 1
def openN : Fm → Int → Int
  | .is _, _ => 0
  | .at _, _ => 0
  | .no f, l => openN f 3 + b2D (decide (3 < l))
  | .op o f g, l => (if openN g (rk o + 1) > openN f (rk o) then openN g (rk o + 1) else openN f (rk o)) + b2D (decide (rk o < l))
abbrev rkL : List D := [.str [111, 114], .str [111, 100, 100], .str [97, 110, 100], .str [110, 111, 116], .str [105, 115], .str [97, 116]]
theorem knd_ix {η : Hv} {xs : List D} {a : Nat} {R : Unit → Hv → Prop} (q : η[a]? = some (.lst xs)) : Wp (lookM (kndH .index (.ref a))) η R = R () η := w_kndL q fun _ _ => rfl
theorem w_ix {η : Hv} {R : D → Hv → Prop} {a : Nat} {x : List Nat} {k : Int} (q : η[a]? = some (.lst rkL)) (h : ∀ η : Hv, (memH (.str x) rkL η).bind (fun b => if b = true then (deep η (.str x)).bind fun a => (deepsW (deepR η 6) rkL).bind fun bs => (idxOf a bs 0).map fun n => D.int n else none) = some (.int k)) : Wp (mthM .index (.ref a) [.str x]) η R = R (.int k) η := by
  have e : (fun h => (getL h (.ref a)).bind fun ys => (memH (.str x) ys h).bind fun b => if b = true then (deep h (.str x)).bind fun a => (deepsW (deepR h 6) ys).bind fun bs => (idxOf a bs 0).map fun n => D.int n else none) η = some (.int k) := by
    simp only [getL, q, Option.bind_some]
    exact h η
  exact wp_look e
theorem ix_or {η : Hv} {R : D → Hv → Prop} {a : Nat} (q : η[a]? = some (.lst rkL)) : Wp (mthM .index (.ref a) [.str [111, 114]]) η R = R (.int 0) η := w_ix q fun _ => rfl
theorem ix_odd {η : Hv} {R : D → Hv → Prop} {a : Nat} (q : η[a]? = some (.lst rkL)) : Wp (mthM .index (.ref a) [.str [111, 100, 100]]) η R = R (.int 1) η := w_ix q fun _ => rfl
theorem ix_and {η : Hv} {R : D → Hv → Prop} {a : Nat} (q : η[a]? = some (.lst rkL)) : Wp (mthM .index (.ref a) [.str [97, 110, 100]]) η R = R (.int 2) η := w_ix q fun _ => rfl
theorem ix_not {η : Hv} {R : D → Hv → Prop} {a : Nat} (q : η[a]? = some (.lst rkL)) : Wp (mthM .index (.ref a) [.str [110, 111, 116]]) η R = R (.int 3) η := w_ix q fun _ => rfl
theorem ix_is {η : Hv} {R : D → Hv → Prop} {a : Nat} (q : η[a]? = some (.lst rkL)) : Wp (mthM .index (.ref a) [.str [105, 115]]) η R = R (.int 4) η := w_ix q fun _ => rfl
theorem ix_at {η : Hv} {R : D → Hv → Prop} {a : Nat} (q : η[a]? = some (.lst rkL)) : Wp (mthM .index (.ref a) [.str [97, 116]]) η R = R (.int 5) η := w_ix q fun _ => rfl
theorem w_max2 {η : Hv} {R : D → Hv → Prop} {i j : Int} : Wp (bltM .max [.int i, .int j]) η R = R (.int (if j > i then j else i)) η := rfl
theorem open_ok : ∀ (f : Fm) (n : Nat) (l : Int) (η : Hv) (R : D → Hv → Prop), f.tall ≤ n → (∀ η', Ext η η' → R (.int (openN f l)) η') → Wp (callN P n "_law_open_v2" [f.toD, .int l]) η R := by
  intro f
  induction f with
  | is b =>
    intro n l η R hn hR
    obtain ⟨n, rfl⟩ : ∃ m, n = m + 1 := ⟨n - 1, by have := tall_pos (.is b); omega⟩
    rw [wp_call (fd := d__law_open_v2) pd__law_open_v2 rfl]
    simp only [d__law_open_v2, Fm.toD, ↓k_zero, ↓k_succ, ↓v_loc, ↓v_cst, ↓v_tup, ↓v_lst, ↓v_bin, ↓v_neg, ↓v_not, ↓v_and, ↓v_or, ↓v_cmp, ↓v_chn, ↓v_ife, ↓v_idx, ↓v_slc, ↓v_call, ↓v_blt, ↓v_mth, ↓v_isi, ↓v_lc, ↓v_nil, ↓v_cons, ↓v_onone, ↓v_osome, ↓v_cnone, ↓v_csome, ↓v_seq, ↓v_rng, ↓v_rng2, ↓v_enm, ↓v_zip, ↓t_set, ↓t_sub, ↓t_exp, ↓t_ret, ↓t_ife, ↓t_for, ↓r_nil, ↓r_cons, ↓wp_pure, List.map_cons, List.map_nil, List.cons_append, List.nil_append, List.replicate_succ, List.replicate_zero, List.set_cons_zero, List.set_cons_succ, Nat.sub_self, List.append_nil, ↓c_is_is, ↓c_is_at, ↓c_is_not, ↓c_is_and, ↓c_is_or, ↓c_at_is, ↓c_at_at, ↓c_at_not, ↓c_at_and, ↓c_at_or, ↓c_not_is, ↓c_not_at, ↓c_not_not, ↓c_not_and, ↓c_not_or, ↓c_and_is, ↓c_and_at, ↓c_and_not, ↓c_and_and, ↓c_and_or, ↓c_or_is, ↓c_or_at, ↓c_or_not, ↓c_or_and, ↓c_or_or, ↓c_odd_is, ↓c_odd_at, ↓c_odd_not, ↓c_odd_and, ↓c_odd_or, ↓m_and, ↓m_or, ↓m_odd, ↓y_tup_bool, ↓y_tup_int, ↓y_tup_str, ↓y_tup_tuple, ↓y_tup_list, ↓y_str_bool, ↓y_str_int, ↓y_str_str, ↓y_str_tuple, ↓y_str_list, ↓y_int_bool, ↓y_int_int, ↓y_int_str, ↓y_int_tuple, ↓y_int_list, ↓y_bl_bool, ↓y_bl_int, ↓y_bl_str, ↓y_bl_tuple, ↓y_bl_list, ↓i0_2, ↓i1_2, ↓i0_3, ↓i1_3, ↓i2_3, ↓n_2, ↓n_3, ↓w_eqi, ↓w_nei, ↓w_eqb, ↓w_neb, ↓w_trub, ↓w_add, ↓w_sub, ↓w_lt, ↓w_le, ↓w_gt, ↓w_ge, ↓w_int, ↓w_intb, ↓w_gi, Bool.not_true, Bool.not_false, Bool.false_eq_true, if_false, if_true, beq_self_eq_true]
    rw [knd_ix at_new, ix_is at_new, w_gt, decide_eq_true (by decide), if_pos rfl]
    exact hR _ Ext.app
  | «at» k =>
    intro n l η R hn hR
    obtain ⟨n, rfl⟩ : ∃ m, n = m + 1 := ⟨n - 1, by have := tall_pos (.at k); omega⟩
    rw [wp_call (fd := d__law_open_v2) pd__law_open_v2 rfl]
    simp only [d__law_open_v2, Fm.toD, ↓k_zero, ↓k_succ, ↓v_loc, ↓v_cst, ↓v_tup, ↓v_lst, ↓v_bin, ↓v_neg, ↓v_not, ↓v_and, ↓v_or, ↓v_cmp, ↓v_chn, ↓v_ife, ↓v_idx, ↓v_slc, ↓v_call, ↓v_blt, ↓v_mth, ↓v_isi, ↓v_lc, ↓v_nil, ↓v_cons, ↓v_onone, ↓v_osome, ↓v_cnone, ↓v_csome, ↓v_seq, ↓v_rng, ↓v_rng2, ↓v_enm, ↓v_zip, ↓t_set, ↓t_sub, ↓t_exp, ↓t_ret, ↓t_ife, ↓t_for, ↓r_nil, ↓r_cons, ↓wp_pure, List.map_cons, List.map_nil, List.cons_append, List.nil_append, List.replicate_succ, List.replicate_zero, List.set_cons_zero, List.set_cons_succ, Nat.sub_self, List.append_nil, ↓c_is_is, ↓c_is_at, ↓c_is_not, ↓c_is_and, ↓c_is_or, ↓c_at_is, ↓c_at_at, ↓c_at_not, ↓c_at_and, ↓c_at_or, ↓c_not_is, ↓c_not_at, ↓c_not_not, ↓c_not_and, ↓c_not_or, ↓c_and_is, ↓c_and_at, ↓c_and_not, ↓c_and_and, ↓c_and_or, ↓c_or_is, ↓c_or_at, ↓c_or_not, ↓c_or_and, ↓c_or_or, ↓c_odd_is, ↓c_odd_at, ↓c_odd_not, ↓c_odd_and, ↓c_odd_or, ↓m_and, ↓m_or, ↓m_odd, ↓y_tup_bool, ↓y_tup_int, ↓y_tup_str, ↓y_tup_tuple, ↓y_tup_list, ↓y_str_bool, ↓y_str_int, ↓y_str_str, ↓y_str_tuple, ↓y_str_list, ↓y_int_bool, ↓y_int_int, ↓y_int_str, ↓y_int_tuple, ↓y_int_list, ↓y_bl_bool, ↓y_bl_int, ↓y_bl_str, ↓y_bl_tuple, ↓y_bl_list, ↓i0_2, ↓i1_2, ↓i0_3, ↓i1_3, ↓i2_3, ↓n_2, ↓n_3, ↓w_eqi, ↓w_nei, ↓w_eqb, ↓w_neb, ↓w_trub, ↓w_add, ↓w_sub, ↓w_lt, ↓w_le, ↓w_gt, ↓w_ge, ↓w_int, ↓w_intb, ↓w_gi, Bool.not_true, Bool.not_false, Bool.false_eq_true, if_false, if_true, beq_self_eq_true]
    rw [knd_ix at_new, ix_at at_new, w_gt, decide_eq_true (by decide), if_pos rfl]
    exact hR _ Ext.app
  | no f ih =>
    intro n l η R hn hR
    simp only [Fm.tall] at hn
    obtain ⟨n, rfl⟩ : ∃ m, n = m + 1 := ⟨n - 1, by omega⟩
    rw [wp_call (fd := d__law_open_v2) pd__law_open_v2 rfl]
    simp only [d__law_open_v2, Fm.toD, ↓k_zero, ↓k_succ, ↓v_loc, ↓v_cst, ↓v_tup, ↓v_lst, ↓v_bin, ↓v_neg, ↓v_not, ↓v_and, ↓v_or, ↓v_cmp, ↓v_chn, ↓v_ife, ↓v_idx, ↓v_slc, ↓v_call, ↓v_blt, ↓v_mth, ↓v_isi, ↓v_lc, ↓v_nil, ↓v_cons, ↓v_onone, ↓v_osome, ↓v_cnone, ↓v_csome, ↓v_seq, ↓v_rng, ↓v_rng2, ↓v_enm, ↓v_zip, ↓t_set, ↓t_sub, ↓t_exp, ↓t_ret, ↓t_ife, ↓t_for, ↓r_nil, ↓r_cons, ↓wp_pure, List.map_cons, List.map_nil, List.cons_append, List.nil_append, List.replicate_succ, List.replicate_zero, List.set_cons_zero, List.set_cons_succ, Nat.sub_self, List.append_nil, ↓c_is_is, ↓c_is_at, ↓c_is_not, ↓c_is_and, ↓c_is_or, ↓c_at_is, ↓c_at_at, ↓c_at_not, ↓c_at_and, ↓c_at_or, ↓c_not_is, ↓c_not_at, ↓c_not_not, ↓c_not_and, ↓c_not_or, ↓c_and_is, ↓c_and_at, ↓c_and_not, ↓c_and_and, ↓c_and_or, ↓c_or_is, ↓c_or_at, ↓c_or_not, ↓c_or_and, ↓c_or_or, ↓c_odd_is, ↓c_odd_at, ↓c_odd_not, ↓c_odd_and, ↓c_odd_or, ↓m_and, ↓m_or, ↓m_odd, ↓y_tup_bool, ↓y_tup_int, ↓y_tup_str, ↓y_tup_tuple, ↓y_tup_list, ↓y_str_bool, ↓y_str_int, ↓y_str_str, ↓y_str_tuple, ↓y_str_list, ↓y_int_bool, ↓y_int_int, ↓y_int_str, ↓y_int_tuple, ↓y_int_list, ↓y_bl_bool, ↓y_bl_int, ↓y_bl_str, ↓y_bl_tuple, ↓y_bl_list, ↓i0_2, ↓i1_2, ↓i0_3, ↓i1_3, ↓i2_3, ↓n_2, ↓n_3, ↓w_eqi, ↓w_nei, ↓w_eqb, ↓w_neb, ↓w_trub, ↓w_add, ↓w_sub, ↓w_lt, ↓w_le, ↓w_gt, ↓w_ge, ↓w_int, ↓w_intb, ↓w_gi, Bool.not_true, Bool.not_false, Bool.false_eq_true, if_false, if_true, beq_self_eq_true]
    rw [knd_ix at_new, ix_not at_new, w_gt, decide_eq_false (by decide), if_neg Bool.false_ne_true]
    refine ih n 3 _ _ (by omega) fun η' x => ?_
    rw [w_lt, decide_eq_false (by decide), if_neg Bool.false_ne_true, w_lt, w_add]
    exact hR _ (Ext.app.trans x)
  | op o f g ihf ihg =>
    intro n l η R hn hR
    simp only [Fm.tall] at hn
    obtain ⟨n, rfl⟩ : ∃ m, n = m + 1 := ⟨n - 1, by omega⟩
    rw [wp_call (fd := d__law_open_v2) pd__law_open_v2 rfl]
    rcases ops3 o with ⟨e, rfl⟩ | ⟨e, rfl⟩ | ⟨e, rfl⟩
    · simp only [d__law_open_v2, Fm.toD, ↓k_zero, ↓k_succ, ↓v_loc, ↓v_cst, ↓v_tup, ↓v_lst, ↓v_bin, ↓v_neg, ↓v_not, ↓v_and, ↓v_or, ↓v_cmp, ↓v_chn, ↓v_ife, ↓v_idx, ↓v_slc, ↓v_call, ↓v_blt, ↓v_mth, ↓v_isi, ↓v_lc, ↓v_nil, ↓v_cons, ↓v_onone, ↓v_osome, ↓v_cnone, ↓v_csome, ↓v_seq, ↓v_rng, ↓v_rng2, ↓v_enm, ↓v_zip, ↓t_set, ↓t_sub, ↓t_exp, ↓t_ret, ↓t_ife, ↓t_for, ↓r_nil, ↓r_cons, ↓wp_pure, List.map_cons, List.map_nil, List.cons_append, List.nil_append, List.replicate_succ, List.replicate_zero, List.set_cons_zero, List.set_cons_succ, Nat.sub_self, List.append_nil, ↓c_is_is, ↓c_is_at, ↓c_is_not, ↓c_is_and, ↓c_is_or, ↓c_at_is, ↓c_at_at, ↓c_at_not, ↓c_at_and, ↓c_at_or, ↓c_not_is, ↓c_not_at, ↓c_not_not, ↓c_not_and, ↓c_not_or, ↓c_and_is, ↓c_and_at, ↓c_and_not, ↓c_and_and, ↓c_and_or, ↓c_or_is, ↓c_or_at, ↓c_or_not, ↓c_or_and, ↓c_or_or, ↓c_odd_is, ↓c_odd_at, ↓c_odd_not, ↓c_odd_and, ↓c_odd_or, ↓m_and, ↓m_or, ↓m_odd, ↓y_tup_bool, ↓y_tup_int, ↓y_tup_str, ↓y_tup_tuple, ↓y_tup_list, ↓y_str_bool, ↓y_str_int, ↓y_str_str, ↓y_str_tuple, ↓y_str_list, ↓y_int_bool, ↓y_int_int, ↓y_int_str, ↓y_int_tuple, ↓y_int_list, ↓y_bl_bool, ↓y_bl_int, ↓y_bl_str, ↓y_bl_tuple, ↓y_bl_list, ↓i0_2, ↓i1_2, ↓i0_3, ↓i1_3, ↓i2_3, ↓n_2, ↓n_3, ↓w_eqi, ↓w_nei, ↓w_eqb, ↓w_neb, ↓w_trub, ↓w_add, ↓w_sub, ↓w_lt, ↓w_le, ↓w_gt, ↓w_ge, ↓w_int, ↓w_intb, ↓w_gi, Bool.not_true, Bool.not_false, Bool.false_eq_true, if_false, if_true, beq_self_eq_true, e]
      rw [knd_ix at_new, ix_and at_new, w_gt, decide_eq_false (by decide), if_neg Bool.false_ne_true]
      refine ihf n 2 _ _ (by omega) fun η' x => ?_
      rw [w_lt, decide_eq_true (by decide), if_pos rfl, w_add]
      refine ihg n (2 + 1) _ _ (by omega) fun η2 x2 => ?_
      rw [w_max2, w_lt, w_add]
      exact hR _ (Ext.app.trans (x.trans x2))
    · simp only [d__law_open_v2, Fm.toD, ↓k_zero, ↓k_succ, ↓v_loc, ↓v_cst, ↓v_tup, ↓v_lst, ↓v_bin, ↓v_neg, ↓v_not, ↓v_and, ↓v_or, ↓v_cmp, ↓v_chn, ↓v_ife, ↓v_idx, ↓v_slc, ↓v_call, ↓v_blt, ↓v_mth, ↓v_isi, ↓v_lc, ↓v_nil, ↓v_cons, ↓v_onone, ↓v_osome, ↓v_cnone, ↓v_csome, ↓v_seq, ↓v_rng, ↓v_rng2, ↓v_enm, ↓v_zip, ↓t_set, ↓t_sub, ↓t_exp, ↓t_ret, ↓t_ife, ↓t_for, ↓r_nil, ↓r_cons, ↓wp_pure, List.map_cons, List.map_nil, List.cons_append, List.nil_append, List.replicate_succ, List.replicate_zero, List.set_cons_zero, List.set_cons_succ, Nat.sub_self, List.append_nil, ↓c_is_is, ↓c_is_at, ↓c_is_not, ↓c_is_and, ↓c_is_or, ↓c_at_is, ↓c_at_at, ↓c_at_not, ↓c_at_and, ↓c_at_or, ↓c_not_is, ↓c_not_at, ↓c_not_not, ↓c_not_and, ↓c_not_or, ↓c_and_is, ↓c_and_at, ↓c_and_not, ↓c_and_and, ↓c_and_or, ↓c_or_is, ↓c_or_at, ↓c_or_not, ↓c_or_and, ↓c_or_or, ↓c_odd_is, ↓c_odd_at, ↓c_odd_not, ↓c_odd_and, ↓c_odd_or, ↓m_and, ↓m_or, ↓m_odd, ↓y_tup_bool, ↓y_tup_int, ↓y_tup_str, ↓y_tup_tuple, ↓y_tup_list, ↓y_str_bool, ↓y_str_int, ↓y_str_str, ↓y_str_tuple, ↓y_str_list, ↓y_int_bool, ↓y_int_int, ↓y_int_str, ↓y_int_tuple, ↓y_int_list, ↓y_bl_bool, ↓y_bl_int, ↓y_bl_str, ↓y_bl_tuple, ↓y_bl_list, ↓i0_2, ↓i1_2, ↓i0_3, ↓i1_3, ↓i2_3, ↓n_2, ↓n_3, ↓w_eqi, ↓w_nei, ↓w_eqb, ↓w_neb, ↓w_trub, ↓w_add, ↓w_sub, ↓w_lt, ↓w_le, ↓w_gt, ↓w_ge, ↓w_int, ↓w_intb, ↓w_gi, Bool.not_true, Bool.not_false, Bool.false_eq_true, if_false, if_true, beq_self_eq_true, e]
      rw [knd_ix at_new, ix_or at_new, w_gt, decide_eq_false (by decide), if_neg Bool.false_ne_true]
      refine ihf n 0 _ _ (by omega) fun η' x => ?_
      rw [w_lt, decide_eq_true (by decide), if_pos rfl, w_add]
      refine ihg n (0 + 1) _ _ (by omega) fun η2 x2 => ?_
      rw [w_max2, w_lt, w_add]
      exact hR _ (Ext.app.trans (x.trans x2))
    · simp only [d__law_open_v2, Fm.toD, ↓k_zero, ↓k_succ, ↓v_loc, ↓v_cst, ↓v_tup, ↓v_lst, ↓v_bin, ↓v_neg, ↓v_not, ↓v_and, ↓v_or, ↓v_cmp, ↓v_chn, ↓v_ife, ↓v_idx, ↓v_slc, ↓v_call, ↓v_blt, ↓v_mth, ↓v_isi, ↓v_lc, ↓v_nil, ↓v_cons, ↓v_onone, ↓v_osome, ↓v_cnone, ↓v_csome, ↓v_seq, ↓v_rng, ↓v_rng2, ↓v_enm, ↓v_zip, ↓t_set, ↓t_sub, ↓t_exp, ↓t_ret, ↓t_ife, ↓t_for, ↓r_nil, ↓r_cons, ↓wp_pure, List.map_cons, List.map_nil, List.cons_append, List.nil_append, List.replicate_succ, List.replicate_zero, List.set_cons_zero, List.set_cons_succ, Nat.sub_self, List.append_nil, ↓c_is_is, ↓c_is_at, ↓c_is_not, ↓c_is_and, ↓c_is_or, ↓c_at_is, ↓c_at_at, ↓c_at_not, ↓c_at_and, ↓c_at_or, ↓c_not_is, ↓c_not_at, ↓c_not_not, ↓c_not_and, ↓c_not_or, ↓c_and_is, ↓c_and_at, ↓c_and_not, ↓c_and_and, ↓c_and_or, ↓c_or_is, ↓c_or_at, ↓c_or_not, ↓c_or_and, ↓c_or_or, ↓c_odd_is, ↓c_odd_at, ↓c_odd_not, ↓c_odd_and, ↓c_odd_or, ↓m_and, ↓m_or, ↓m_odd, ↓y_tup_bool, ↓y_tup_int, ↓y_tup_str, ↓y_tup_tuple, ↓y_tup_list, ↓y_str_bool, ↓y_str_int, ↓y_str_str, ↓y_str_tuple, ↓y_str_list, ↓y_int_bool, ↓y_int_int, ↓y_int_str, ↓y_int_tuple, ↓y_int_list, ↓y_bl_bool, ↓y_bl_int, ↓y_bl_str, ↓y_bl_tuple, ↓y_bl_list, ↓i0_2, ↓i1_2, ↓i0_3, ↓i1_3, ↓i2_3, ↓n_2, ↓n_3, ↓w_eqi, ↓w_nei, ↓w_eqb, ↓w_neb, ↓w_trub, ↓w_add, ↓w_sub, ↓w_lt, ↓w_le, ↓w_gt, ↓w_ge, ↓w_int, ↓w_intb, ↓w_gi, Bool.not_true, Bool.not_false, Bool.false_eq_true, if_false, if_true, beq_self_eq_true, e]
      rw [knd_ix at_new, ix_odd at_new, w_gt, decide_eq_false (by decide), if_neg Bool.false_ne_true]
      refine ihf n 1 _ _ (by omega) fun η' x => ?_
      rw [w_lt, decide_eq_true (by decide), if_pos rfl, w_add]
      refine ihg n (1 + 1) _ _ (by omega) fun η2 x2 => ?_
      rw [w_max2, w_lt, w_add]
      exact hR _ (Ext.app.trans (x.trans x2))
/-! ### forms of cubes and covers -/
def oF : Option Fm → D
  | none => .non
  | some f => f.toD
def lit (b : Bool) (p : Nat) : Fm := if b = true then .at p else .no (.at p)
def addC (acc : Option Fm) (p : Nat) (w : Option Bool) : Option Fm := match w with
  | none => acc
  | some b => some (match acc with | none => lit b p | some f => .op 0 f (lit b p))
/-- the places below i -/
def accC (cube : List (Option Bool)) : Nat → Option Fm
  | 0 => none
  | i + 1 => addC (accC cube i) i (cube.getD i none)
def cubeF (cube : List (Option Bool)) : Fm := (accC cube cube.length).getD (.is true)
theorem is_F {f : Fm} {η : Hv} {RB : Bool → Hv → Prop} : Wp (cmpM .is f.toD .non) η RB = RB false η := by
  cases f <;> rfl
end Law

set_option Elab.async false
set_option linter.all false
set_option maxRecDepth 10000
set_option maxHeartbeats 400000
namespace Law
open MI
def kD : Option Bool → D
  | none => .non
  | some b => .bl b
theorem isn_kn {η : Hv} {RB : Bool → Hv → Prop} : Wp (cmpM .isn .non .non) η RB = RB false η := rfl
theorem isn_kb {η : Hv} {b : Bool} {RB : Bool → Hv → Prop} : Wp (cmpM .isn (.bl b) .non) η RB = RB true η := rfl
theorem is_nn {η : Hv} {RB : Bool → Hv → Prop} : Wp (cmpM .is .non .non) η RB = RB true η := rfl
def cD (cube : List (Option Bool)) : D := .tup (cube.map kD)
theorem cube_form_ok {n : Nat} {cube : List (Option Bool)} {η : Hv} {R : D → Hv → Prop} (hl : cube.length ≤ 100) (h : R (cubeF cube).toD η) : Wp (callN P (n + 1) "form_of_cube" [cD cube]) η R := by
  rw [wp_call (fd := d_form_of_cube) pd_form_of_cube rfl]
  simp only [d_form_of_cube, cD, ↓k_zero, ↓k_succ, ↓v_loc, ↓v_cst, ↓v_tup, ↓v_lst, ↓v_bin, ↓v_neg, ↓v_not, ↓v_and, ↓v_or, ↓v_cmp, ↓v_chn, ↓v_ife, ↓v_idx, ↓v_slc, ↓v_call, ↓v_blt, ↓v_mth, ↓v_isi, ↓v_lc, ↓v_nil, ↓v_cons, ↓v_onone, ↓v_osome, ↓v_cnone, ↓v_csome, ↓v_seq, ↓v_rng, ↓v_rng2, ↓v_enm, ↓v_zip, ↓t_set, ↓t_sub, ↓t_exp, ↓t_ret, ↓t_ife, ↓t_for, ↓r_nil, ↓r_cons, ↓wp_pure, List.map_cons, List.map_nil, List.cons_append, List.nil_append, List.replicate_succ, List.replicate_zero, List.set_cons_zero, List.set_cons_succ, Nat.sub_self, List.append_nil, ↓c_is_is, ↓c_is_at, ↓c_is_not, ↓c_is_and, ↓c_is_or, ↓c_at_is, ↓c_at_at, ↓c_at_not, ↓c_at_and, ↓c_at_or, ↓c_not_is, ↓c_not_at, ↓c_not_not, ↓c_not_and, ↓c_not_or, ↓c_and_is, ↓c_and_at, ↓c_and_not, ↓c_and_and, ↓c_and_or, ↓c_or_is, ↓c_or_at, ↓c_or_not, ↓c_or_and, ↓c_or_or, ↓c_odd_is, ↓c_odd_at, ↓c_odd_not, ↓c_odd_and, ↓c_odd_or, ↓m_and, ↓m_or, ↓m_odd, ↓y_tup_bool, ↓y_tup_int, ↓y_tup_str, ↓y_tup_tuple, ↓y_tup_list, ↓y_str_bool, ↓y_str_int, ↓y_str_str, ↓y_str_tuple, ↓y_str_list, ↓y_int_bool, ↓y_int_int, ↓y_int_str, ↓y_int_tuple, ↓y_int_list, ↓y_bl_bool, ↓y_bl_int, ↓y_bl_str, ↓y_bl_tuple, ↓y_bl_list, ↓i0_2, ↓i1_2, ↓i0_3, ↓i1_3, ↓i2_3, ↓n_2, ↓n_3, ↓w_eqi, ↓w_nei, ↓w_eqb, ↓w_neb, ↓w_trub, ↓w_add, ↓w_sub, ↓w_lt, ↓w_le, ↓w_gt, ↓w_ge, ↓w_int, ↓w_intb, ↓w_gi, Bool.not_true, Bool.not_false, Bool.false_eq_true, if_false, if_true, beq_self_eq_true]
  rw [w_lenT (by rw [List.length_map]; omega), w_gi, List.length_map]
  refine ⟨rng_ok (by omega) (by omega), ?_⟩
  refine wp_for (fun i ρ η1 => η1 = η ∧ ∃ a b : Option D, ρ = [some (.tup (cube.map kD)), some (oF (accC cube i)), a, b]) (rngL 0 ((cube.length : Int) - 0).toNat) (by rw [rngL_len]; omega)
    ⟨rfl, none, none, rfl⟩ (fun _ _ _ _ => nx_rng) ?_ ?_
  · rintro i ρ η1 d ⟨rfl, a, b, rfl⟩ hd
    obtain ⟨hi, rfl⟩ := rngL_at hd
    have hi2 : i < cube.length := by omega
    have hg : cube.getD i none = cube[i] := by rw [List.getD_eq_getElem?_getD, List.getElem?_eq_getElem hi2]; rfl
    have i1 : atD (cube.map kD) (0 + (i : Int)) = some (kD cube[i]) := by
      rw [Int.zero_add]
      exact at_nat (by rw [List.getElem?_map, List.getElem?_eq_getElem hi2]; rfl)
    refine ⟨_, rfl, ?_⟩
    simp only [↓k_zero, ↓k_succ, ↓v_loc, ↓v_cst, ↓v_tup, ↓v_lst, ↓v_bin, ↓v_neg, ↓v_not, ↓v_and, ↓v_or, ↓v_cmp, ↓v_chn, ↓v_ife, ↓v_idx, ↓v_slc, ↓v_call, ↓v_blt, ↓v_mth, ↓v_isi, ↓v_lc, ↓v_nil, ↓v_cons, ↓v_onone, ↓v_osome, ↓v_cnone, ↓v_csome, ↓v_seq, ↓v_rng, ↓v_rng2, ↓v_enm, ↓v_zip, ↓t_set, ↓t_sub, ↓t_exp, ↓t_ret, ↓t_ife, ↓t_for, ↓r_nil, ↓r_cons, ↓wp_pure, List.map_cons, List.map_nil, List.cons_append, List.nil_append, List.replicate_succ, List.replicate_zero, List.set_cons_zero, List.set_cons_succ, Nat.sub_self, List.append_nil]
    rw [w_idxT i1]
    have e1 : accC cube (i + 1) = addC (accC cube i) i cube[i] := by
      show addC (accC cube i) i (cube.getD i none) = _
      rw [hg]
    cases hw : cube[i] with
    | none =>
      rw [kD, isn_kn, w_trub, if_neg Bool.false_ne_true]
      exact ⟨rfl, _, _, by rw [e1, hw]; rfl⟩
    | some v =>
      rw [hw] at i1 e1
      rw [kD, isn_kb, w_trub, if_pos rfl, w_idxT i1, kD, w_trub, Int.zero_add]
      cases hv : v with
      | true =>
        rw [hv] at e1
        rw [if_pos rfl]
        cases ha : accC cube i with
        | none =>
          rw [ha] at e1
          rw [oF, is_nn, w_trub, if_pos rfl]
          exact ⟨rfl, _, _, by rw [e1]; rfl⟩
        | some f =>
          rw [ha] at e1
          rw [oF, is_F, w_trub, if_neg Bool.false_ne_true]
          exact ⟨rfl, _, _, by rw [e1]; rfl⟩
      | false =>
        rw [hv] at e1
        rw [if_neg Bool.false_ne_true]
        cases ha : accC cube i with
        | none =>
          rw [ha] at e1
          rw [oF, is_nn, w_trub, if_pos rfl]
          exact ⟨rfl, _, _, by rw [e1]; rfl⟩
        | some f =>
          rw [ha] at e1
          rw [oF, is_F, w_trub, if_neg Bool.false_ne_true]
          exact ⟨rfl, _, _, by rw [e1]; rfl⟩
  · rintro ρ η1 ⟨rfl, a, b, rfl⟩
    have e : (rngL 0 ((cube.length : Int) - 0).toNat).length = cube.length := by rw [rngL_len]; omega
    rw [e]
    simp only [↓k_zero, ↓k_succ, ↓v_loc, ↓v_cst, ↓v_tup, ↓v_lst, ↓v_bin, ↓v_neg, ↓v_not, ↓v_and, ↓v_or, ↓v_cmp, ↓v_chn, ↓v_ife, ↓v_idx, ↓v_slc, ↓v_call, ↓v_blt, ↓v_mth, ↓v_isi, ↓v_lc, ↓v_nil, ↓v_cons, ↓v_onone, ↓v_osome, ↓v_cnone, ↓v_csome, ↓v_seq, ↓v_rng, ↓v_rng2, ↓v_enm, ↓v_zip, ↓t_set, ↓t_sub, ↓t_exp, ↓t_ret, ↓t_ife, ↓t_for, ↓r_nil, ↓r_cons, ↓wp_pure, List.map_cons, List.map_nil, List.cons_append, List.nil_append, List.replicate_succ, List.replicate_zero, List.set_cons_zero, List.set_cons_succ, Nat.sub_self, List.append_nil]
    cases ha : accC cube cube.length with
    | none =>
      rw [oF, is_nn, if_pos rfl]
      unfold cubeF at h
      rw [ha] at h
      exact h
    | some f =>
      rw [oF, is_F, if_neg Bool.false_ne_true]
      unfold cubeF at h
      rw [ha] at h
      exact h
def addV (acc : Option Fm) (c : List (Option Bool)) : Option Fm := some (match acc with | none => cubeF c | some f => .op 1 f (cubeF c))
def coverF (cs : List (List (Option Bool))) : Fm := (cs.foldl addV none).getD (.is false)
theorem cover_form_ok {n : Nat} {cs : List (List (Option Bool))} {a : Nat} {η : Hv} {R : D → Hv → Prop} (hs : cs.length ≤ 100) (hl : ∀ c ∈ cs, c.length ≤ 100) (ha : η[a]? = some (.lst (cs.map cD))) (h : R (coverF cs).toD η) : Wp (callN P (n + 2) "form_of_cover" [.ref a]) η R := by
  rw [wp_call (fd := d_form_of_cover) pd_form_of_cover rfl]
  simp only [d_form_of_cover, ↓k_zero, ↓k_succ, ↓v_loc, ↓v_cst, ↓v_tup, ↓v_lst, ↓v_bin, ↓v_neg, ↓v_not, ↓v_and, ↓v_or, ↓v_cmp, ↓v_chn, ↓v_ife, ↓v_idx, ↓v_slc, ↓v_call, ↓v_blt, ↓v_mth, ↓v_isi, ↓v_lc, ↓v_nil, ↓v_cons, ↓v_onone, ↓v_osome, ↓v_cnone, ↓v_csome, ↓v_seq, ↓v_rng, ↓v_rng2, ↓v_enm, ↓v_zip, ↓t_set, ↓t_sub, ↓t_exp, ↓t_ret, ↓t_ife, ↓t_for, ↓r_nil, ↓r_cons, ↓wp_pure, List.map_cons, List.map_nil, List.cons_append, List.nil_append, List.replicate_succ, List.replicate_zero, List.set_cons_zero, List.set_cons_succ, Nat.sub_self, List.append_nil, ↓c_is_is, ↓c_is_at, ↓c_is_not, ↓c_is_and, ↓c_is_or, ↓c_at_is, ↓c_at_at, ↓c_at_not, ↓c_at_and, ↓c_at_or, ↓c_not_is, ↓c_not_at, ↓c_not_not, ↓c_not_and, ↓c_not_or, ↓c_and_is, ↓c_and_at, ↓c_and_not, ↓c_and_and, ↓c_and_or, ↓c_or_is, ↓c_or_at, ↓c_or_not, ↓c_or_and, ↓c_or_or, ↓c_odd_is, ↓c_odd_at, ↓c_odd_not, ↓c_odd_and, ↓c_odd_or, ↓m_and, ↓m_or, ↓m_odd, ↓y_tup_bool, ↓y_tup_int, ↓y_tup_str, ↓y_tup_tuple, ↓y_tup_list, ↓y_str_bool, ↓y_str_int, ↓y_str_str, ↓y_str_tuple, ↓y_str_list, ↓y_int_bool, ↓y_int_int, ↓y_int_str, ↓y_int_tuple, ↓y_int_list, ↓y_bl_bool, ↓y_bl_int, ↓y_bl_str, ↓y_bl_tuple, ↓y_bl_list, ↓i0_2, ↓i1_2, ↓i0_3, ↓i1_3, ↓i2_3, ↓n_2, ↓n_3, ↓w_eqi, ↓w_nei, ↓w_eqb, ↓w_neb, ↓w_trub, ↓w_add, ↓w_sub, ↓w_lt, ↓w_le, ↓w_gt, ↓w_ge, ↓w_int, ↓w_intb, ↓w_gi, Bool.not_true, Bool.not_false, Bool.false_eq_true, if_false, if_true, beq_self_eq_true]
  rw [wp_look (a := ()) (sk_lst ha)]
  refine wp_for (fun i ρ η1 => η1 = η ∧ ∃ u v : Option D, ρ = [some (.ref a), some (oF ((cs.take i).foldl addV none)), u, v]) (cs.map cD) (by rw [List.length_map]; omega)
    ⟨rfl, none, none, rfl⟩ (fun i ρ η1 e => by rw [e.1]; exact nx_lst ha) ?_ ?_
  · rintro i ρ η1 d ⟨rfl, u, v, rfl⟩ hd
    rw [List.getElem?_map] at hd
    cases hc : cs[i]? with
    | none => rw [hc] at hd; cases hd
    | some c =>
      rw [hc] at hd
      cases hd
      refine ⟨_, rfl, ?_⟩
      simp only [↓k_zero, ↓k_succ, ↓v_loc, ↓v_cst, ↓v_tup, ↓v_lst, ↓v_bin, ↓v_neg, ↓v_not, ↓v_and, ↓v_or, ↓v_cmp, ↓v_chn, ↓v_ife, ↓v_idx, ↓v_slc, ↓v_call, ↓v_blt, ↓v_mth, ↓v_isi, ↓v_lc, ↓v_nil, ↓v_cons, ↓v_onone, ↓v_osome, ↓v_cnone, ↓v_csome, ↓v_seq, ↓v_rng, ↓v_rng2, ↓v_enm, ↓v_zip, ↓t_set, ↓t_sub, ↓t_exp, ↓t_ret, ↓t_ife, ↓t_for, ↓r_nil, ↓r_cons, ↓wp_pure, List.map_cons, List.map_nil, List.cons_append, List.nil_append, List.replicate_succ, List.replicate_zero, List.set_cons_zero, List.set_cons_succ, Nat.sub_self, List.append_nil]
      refine cube_form_ok (hl c (List.mem_of_getElem? hc)) ?_
      have e1 : (cs.take (i + 1)).foldl addV none = addV ((cs.take i).foldl addV none) c := by
        rw [List.take_add_one, hc, List.foldl_append]
        rfl
      cases ha2 : (cs.take i).foldl addV none with
      | none =>
        rw [ha2] at e1
        rw [oF, is_nn, w_trub, if_pos rfl]
        exact ⟨rfl, _, _, by rw [e1]; rfl⟩
      | some f =>
        rw [ha2] at e1
        rw [oF, is_F, w_trub, if_neg Bool.false_ne_true]
        exact ⟨rfl, _, _, by rw [e1]; rfl⟩
  · rintro ρ η1 ⟨rfl, u, v, rfl⟩
    rw [List.length_map, List.take_length]
    simp only [↓k_zero, ↓k_succ, ↓v_loc, ↓v_cst, ↓v_tup, ↓v_lst, ↓v_bin, ↓v_neg, ↓v_not, ↓v_and, ↓v_or, ↓v_cmp, ↓v_chn, ↓v_ife, ↓v_idx, ↓v_slc, ↓v_call, ↓v_blt, ↓v_mth, ↓v_isi, ↓v_lc, ↓v_nil, ↓v_cons, ↓v_onone, ↓v_osome, ↓v_cnone, ↓v_csome, ↓v_seq, ↓v_rng, ↓v_rng2, ↓v_enm, ↓v_zip, ↓t_set, ↓t_sub, ↓t_exp, ↓t_ret, ↓t_ife, ↓t_for, ↓r_nil, ↓r_cons, ↓wp_pure, List.map_cons, List.map_nil, List.cons_append, List.nil_append, List.replicate_succ, List.replicate_zero, List.set_cons_zero, List.set_cons_succ, Nat.sub_self, List.append_nil]
    cases ha2 : cs.foldl addV none with
    | none =>
      rw [oF, is_nn, if_pos rfl]
      unfold coverF at h
      rw [ha2] at h
      exact h
    | some f =>
      rw [oF, is_F, if_neg Bool.false_ne_true]
      unfold coverF at h
      rw [ha2] at h
      exact h
end Law

set_option Elab.async false
set_option linter.all false
set_option maxRecDepth 10000
set_option maxHeartbeats 400000
namespace Law
open MI
/-! ### what the forms are worth -/
def fit1 (w : Option Bool) (t : Bool) : Bool := match w with
  | none => true
  | some b => t == b
def fitR (r : Nat → Bool) (cube : List (Option Bool)) (i : Nat) : Bool := (List.range i).all fun p => fit1 (cube.getD p none) (r p)
theorem lit_val (r : Nat → Bool) (b : Bool) (p : Nat) : (lit b p).val r = (r p == b) := by
  cases b <;> cases h : r p <;> simp [lit, Fm.val, h]
theorem lit_low {m p : Nat} (b : Bool) (h : p < m) : (lit b p).low m = true := by
  cases b <;> simp [lit, Fm.low, h]
theorem lit_tall (b : Bool) (p : Nat) : (lit b p).tall ≤ 2 := by
  cases b <;> simp [lit, Fm.tall]
theorem lit_big (b : Bool) (p : Nat) : (lit b p).big ≤ 2 := by
  cases b <;> simp [lit, Fm.big]
theorem lit_open (b : Bool) (p : Nat) {l : Int} (h : l ≤ 3) : openN (lit b p) l = 0 := by
  cases b with
  | true => rfl
  | false =>
    have e : decide ((3 : Int) < l) = false := decide_eq_false (by omega)
    simp [lit, openN, e, b2D]
theorem accC_val (r : Nat → Bool) (cube : List (Option Bool)) : ∀ i, ((accC cube i).getD (.is true)).val r = fitR r cube i
  | 0 => rfl
  | i + 1 => by
    have ih := accC_val r cube i
    unfold fitR at ih ⊢
    rw [List.range_succ, List.all_append, ← ih]
    show ((addC (accC cube i) i (cube.getD i none)).getD (.is true)).val r = (((accC cube i).getD (.is true)).val r && (fit1 (cube.getD i none) (r i) && true))
    generalize cube.getD i none = w
    rw [Bool.and_true]
    cases w with
    | none => simp [addC, fit1]
    | some b =>
      cases ha : accC cube i with
      | none => simp [addC, fit1, lit_val, Fm.val]
      | some f => simp [addC, fit1, lit_val, Fm.val, bop]
theorem accC_low (cube : List (Option Bool)) (m : Nat) : ∀ i, i ≤ m → ((accC cube i).getD (.is true)).low m = true
  | 0, _ => rfl
  | i + 1, h => by
    have ih := accC_low cube m i (by omega)
    show ((addC (accC cube i) i (cube.getD i none)).getD (.is true)).low m = true
    cases hw : cube.getD i none with
    | none => simpa [addC, hw] using ih
    | some b =>
      cases ha : accC cube i with
      | none => simpa [addC] using lit_low b (by omega)
      | some f =>
        rw [ha] at ih
        have ih : f.low m = true := ih
        simp [addC, Fm.low, ih, lit_low b (show i < m by omega)]
theorem accC_tall (cube : List (Option Bool)) : ∀ i, ((accC cube i).getD (.is true)).tall ≤ i + 2
  | 0 => by simp [accC, Fm.tall]
  | i + 1 => by
    have ih := accC_tall cube i
    show ((addC (accC cube i) i (cube.getD i none)).getD (.is true)).tall ≤ _
    cases hw : cube.getD i none with
    | none => simp only [addC]; omega
    | some b =>
      have := lit_tall b i
      cases ha : accC cube i with
      | none => simp only [addC, Option.getD_some]; omega
      | some f =>
        rw [ha] at ih
        have ih : f.tall ≤ i + 2 := ih
        simp only [addC, Option.getD_some, Fm.tall]
        omega
theorem accC_big (cube : List (Option Bool)) : ∀ i, ((accC cube i).getD (.is true)).big ≤ 3 * i + 1
  | 0 => by simp [accC, Fm.big]
  | i + 1 => by
    have ih := accC_big cube i
    show ((addC (accC cube i) i (cube.getD i none)).getD (.is true)).big ≤ _
    cases hw : cube.getD i none with
    | none => simp only [addC]; omega
    | some b =>
      have := lit_big b i
      cases ha : accC cube i with
      | none => simp only [addC, Option.getD_some]; omega
      | some f =>
        rw [ha] at ih
        have ih : f.big ≤ 3 * i + 1 := ih
        simp only [addC, Option.getD_some, Fm.big]
        omega
theorem accC_open (cube : List (Option Bool)) : ∀ (i : Nat) (l : Int), l ≤ 2 → openN ((accC cube i).getD (.is true)) l = 0
  | 0, _, _ => rfl
  | i + 1, l, h => by
    have ih := accC_open cube i
    show openN ((addC (accC cube i) i (cube.getD i none)).getD (.is true)) l = 0
    cases hw : cube.getD i none with
    | none => exact ih l h
    | some b =>
      cases ha : accC cube i with
      | none => exact lit_open b i (by omega)
      | some f =>
        rw [ha] at ih
        have e1 : openN f 2 = 0 := ih 2 (by omega)
        have e2 : openN (lit b i) 3 = 0 := lit_open b i (by omega)
        have e3 : decide ((2 : Int) < l) = false := decide_eq_false (by omega)
        show (if openN (lit b i) (2 + 1) > openN f 2 then openN (lit b i) (2 + 1) else openN f 2) + b2D (decide ((2 : Int) < l)) = 0
        rw [show ((2 : Int) + 1) = 3 from rfl, e1, e2, e3]
        rfl
theorem foldV_val (r : Nat → Bool) : ∀ (cs : List (List (Option Bool))) (acc : Option Fm), ((cs.foldl addV acc).getD (.is false)).val r = ((acc.getD (.is false)).val r || cs.any fun c => (cubeF c).val r)
  | [], acc => by simp
  | c :: cs, acc => by
    rw [List.foldl_cons, foldV_val r cs, List.any_cons, ← Bool.or_assoc]
    congr 1
    cases acc with
    | none => simp [addV, Fm.val]
    | some f => simp [addV, Fm.val, bop]
theorem foldV_low {m : Nat} : ∀ (cs : List (List (Option Bool))) (acc : Option Fm), (∀ c ∈ cs, c.length ≤ m) → (acc.getD (.is false)).low m = true → ((cs.foldl addV acc).getD (.is false)).low m = true
  | [], acc, _, h => h
  | c :: cs, acc, hc, h => by
    rw [List.foldl_cons]
    refine foldV_low cs _ (fun x hx => hc x (List.mem_cons_of_mem _ hx)) ?_
    have k : (cubeF c).low m = true := accC_low c m c.length (hc c List.mem_cons_self)
    cases acc with
    | none => simpa [addV] using k
    | some f =>
      have h : f.low m = true := h
      simp [addV, Fm.low, h, k]
theorem foldV_tall {m : Nat} : ∀ (cs : List (List (Option Bool))) (acc : Option Fm) (t : Nat), (∀ c ∈ cs, c.length ≤ m) → (acc.getD (.is false)).tall ≤ t → m + 2 ≤ t → ((cs.foldl addV acc).getD (.is false)).tall ≤ t + cs.length
  | [], acc, t, _, h, _ => h
  | c :: cs, acc, t, hc, h, ht => by
    rw [List.foldl_cons, List.length_cons]
    have k : (cubeF c).tall ≤ c.length + 2 := accC_tall c c.length
    have k2 := hc c List.mem_cons_self
    have := foldV_tall cs (addV acc c) (t + 1) (fun x hx => hc x (List.mem_cons_of_mem _ hx)) (by
      cases acc with
      | none => simp only [addV, Option.getD_some]; omega
      | some f =>
        have h : f.tall ≤ t := h
        simp only [addV, Option.getD_some, Fm.tall]
        omega) (by omega)
    omega
theorem foldV_big {m : Nat} : ∀ (cs : List (List (Option Bool))) (acc : Option Fm) (t : Nat), (∀ c ∈ cs, c.length ≤ m) → (acc.getD (.is false)).big ≤ t → ((cs.foldl addV acc).getD (.is false)).big ≤ t + cs.length * (3 * m + 2)
  | [], acc, t, _, h => by simpa using h
  | c :: cs, acc, t, hc, h => by
    rw [List.foldl_cons, List.length_cons]
    have k : (cubeF c).big ≤ 3 * c.length + 1 := accC_big c c.length
    have k2 := hc c List.mem_cons_self
    have := foldV_big cs (addV acc c) (t + (3 * m + 2)) (fun x hx => hc x (List.mem_cons_of_mem _ hx)) (by
      cases acc with
      | none => simp only [addV, Option.getD_some]; omega
      | some f =>
        have h : f.big ≤ t := h
        simp only [addV, Option.getD_some, Fm.big]
        omega)
    rw [Nat.succ_mul]
    omega
theorem foldV_open : ∀ (cs : List (List (Option Bool))) (acc : Option Fm), openN (acc.getD (.is false)) 0 = 0 → openN ((cs.foldl addV acc).getD (.is false)) 0 = 0
  | [], acc, h => h
  | c :: cs, acc, h => by
    rw [List.foldl_cons]
    refine foldV_open cs _ ?_
    cases acc with
    | none => exact accC_open c c.length 0 (by omega)
    | some f =>
      have h : openN f 0 = 0 := h
      have e2 : openN (cubeF c) 1 = 0 := accC_open c c.length 1 (by omega)
      show (if openN (cubeF c) (0 + 1) > openN f 0 then openN (cubeF c) (0 + 1) else openN f 0) + b2D (decide ((0 : Int) < 0)) = 0
      rw [show ((0 : Int) + 1) = 1 from rfl, h, e2]
      rfl
/-! ### the rows by their bits -/
def stepL (w : Option Bool) (acc : List Int) : List Int := match w with
  | none => acc.map (fun k => 2 * k) ++ acc.map (fun k => 2 * k + 1)
  | some b => acc.map fun k => 2 * k + b2D b
def rowsL (cube : List (Option Bool)) : List Int := cube.foldl (fun acc w => stepL w acc) [0]
theorem rowsL_succ {cube : List (Option Bool)} {i : Nat} {w : Option Bool} (h : cube[i]? = some w) : rowsL (cube.take (i + 1)) = stepL w (rowsL (cube.take i)) := by
  unfold rowsL
  rw [List.take_add_one, h, List.foldl_append]
  rfl
theorem mem_stepL {w : Option Bool} {acc : List Int} {x : Int} : x ∈ stepL w acc ↔ x / 2 ∈ acc ∧ fit1 w (x % 2 == 1) = true := by
  cases w with
  | none =>
    show x ∈ acc.map (fun k => 2 * k) ++ acc.map (fun k => 2 * k + 1) ↔ _
    rw [List.mem_append, List.mem_map, List.mem_map]
    constructor
    · rintro (⟨k, hk, e⟩ | ⟨k, hk, e⟩)
      · have : x / 2 = k := by omega
        exact ⟨by rw [this]; exact hk, rfl⟩
      · have : x / 2 = k := by omega
        exact ⟨by rw [this]; exact hk, rfl⟩
    · rintro ⟨h, _⟩
      rcases (show x % 2 = 0 ∨ x % 2 = 1 by omega) with e | e
      · exact .inl ⟨_, h, by omega⟩
      · exact .inr ⟨_, h, by omega⟩
  | some b =>
    show x ∈ acc.map (fun k => 2 * k + b2D b) ↔ x / 2 ∈ acc ∧ ((x % 2 == 1) == b) = true
    rw [List.mem_map]
    cases b with
    | true =>
      have e1 : b2D true = 1 := rfl
      constructor
      · rintro ⟨k, hk, e⟩
        have e2 : x / 2 = k := by omega
        have e3 : x % 2 = 1 := by omega
        exact ⟨by rw [e2]; exact hk, by rw [e3]; rfl⟩
      · rintro ⟨h, e⟩
        have e3 : x % 2 = 1 := by simpa using e
        exact ⟨_, h, by omega⟩
    | false =>
      have e1 : b2D false = 0 := rfl
      constructor
      · rintro ⟨k, hk, e⟩
        have e2 : x / 2 = k := by omega
        have e3 : x % 2 = 0 := by omega
        exact ⟨by rw [e2]; exact hk, by rw [e3]; rfl⟩
      · rintro ⟨h, e⟩
        have e3 : x % 2 ≠ 1 := by simpa using e
        exact ⟨_, h, by omega⟩
theorem bit_succ {x : Int} {i p : Nat} (h : p < i) : bitN x (i + 1) p = bitN (x / 2) i p := by
  unfold bitN
  have e : i + 1 - 1 - p = (i - 1 - p) + 1 := by omega
  have q : (2 : Int) ^ (i - 1 - p + 1) = 2 * 2 ^ (i - 1 - p) := by rw [Int.pow_succ, Int.mul_comm]
  rw [e, q, Int.ediv_ediv_of_nonneg (by decide)]
theorem bit_last {x : Int} {i : Nat} : bitN x (i + 1) i = (x % 2 == 1) := by
  unfold bitN
  rw [show i + 1 - 1 - i = 0 from by omega, Int.pow_zero, Int.ediv_one]
theorem fitR_succ {x : Int} {cube : List (Option Bool)} {i : Nat} : fitR (bitN x (i + 1)) cube (i + 1) = (fitR (bitN (x / 2) i) cube i && fit1 (cube.getD i none) (x % 2 == 1)) := by
  unfold fitR
  rw [List.range_succ, List.all_append]
  show (_ && (fit1 (cube.getD i none) (bitN x (i + 1) i) && true)) = _
  rw [bit_last, Bool.and_true]
  congr 1
  rw [Bool.eq_iff_iff, List.all_eq_true, List.all_eq_true]
  constructor
  · intro h p hp
    have := h p hp
    rwa [bit_succ (List.mem_range.mp hp)] at this
  · intro h p hp
    have := h p hp
    rw [bit_succ (List.mem_range.mp hp)]
    exact this
theorem rows_fit {cube : List (Option Bool)} : ∀ (i : Nat) (x : Int), i ≤ cube.length → 0 ≤ x → x < 2 ^ i → (x ∈ rowsL (cube.take i) ↔ fitR (bitN x i) cube i = true)
  | 0, x, _, h0, h1 => by
    have e : x = 0 := by
      have : (2 : Int) ^ 0 = 1 := rfl
      omega
    subst e
    simp [rowsL, fitR]
  | i + 1, x, hi, h0, h1 => by
    have hp : (2 : Int) ^ (i + 1) = 2 * 2 ^ i := by rw [Int.pow_succ, Int.mul_comm]
    have ih := rows_fit (cube := cube) i (x / 2) (by omega) (by omega) (by omega)
    have hg : cube[i]? = some (cube.getD i none) := by
      rw [List.getD_eq_getElem?_getD, List.getElem?_eq_getElem (show i < cube.length by omega)]
      rfl
    rw [rowsL_succ hg, mem_stepL, ih, fitR_succ, Bool.and_eq_true]
end Law

set_option Elab.async false
set_option linter.all false
set_option maxRecDepth 10000
set_option maxHeartbeats 400000
namespace Law
open MI
def cellN (ns : List Int) (k : Int) : Int := if k < ns.length then ns.getD k.toNat 0 else 0
def scr (ns : List Int) : D := .lst (ns.map .int)
theorem cell_ok {n : Nat} {ns : List Int} {k : Int} {η : Hv} {R : D → Hv → Prop} (hk : 0 ≤ k) (hl : ns.length ≤ 63) : Wp (callN P (n + 1) "_law_cell_at" [scr ns, .int k]) η R = R (.int (cellN ns k)) η := by
  rw [wp_call (fd := d__law_cell_at) pd__law_cell_at rfl]
  simp only [d__law_cell_at, scr, l_zero, l_succ, x_loc, x_cst, x_tup, x_lst, x_bin, x_neg, x_not, x_and, x_or, x_cmp, x_chn, x_ife, x_idx, x_slc, x_call, x_blt, x_mth, x_isi, x_lc, x_nil, x_cons, x_onone, x_osome, x_cnone, x_csome, x_seq, x_rng, x_rng2, x_enm, x_zip, s_set, s_sub, s_exp, s_ret, s_ife, s_for, s_whl, b_nil, b_cons, wp_bind, wp_pure, wp_if, List.map_cons, List.map_nil, List.cons_append, List.nil_append, List.replicate_succ, List.replicate_zero, List.set_cons_zero, List.set_cons_succ, Nat.sub_self, List.append_nil]
  rw [w_lenV (by rw [List.length_map]; omega), List.length_map, w_lt, w_trub]
  unfold cellN
  by_cases h : k < ns.length
  · have h2 : k.toNat < ns.length := by omega
    rw [decide_eq_true h, if_pos rfl, if_pos h, w_idxV (at_int hk (by rw [List.getElem?_map, List.getElem?_eq_getElem h2]; rfl)), List.getD_eq_getElem?_getD, List.getElem?_eq_getElem h2]
    rfl
  · rw [decide_eq_false h, if_neg Bool.false_ne_true, if_neg h]
def wayN (ns : List Int) (k m : Int) : Int := ((cellN ns k * 48271 + 7919 * ns.length + 104729 * k) % 2147483647) * ((cellN ns k * 48271 + 7919 * ns.length + 104729 * k) % 2147483647) % 2147483647 % m
theorem way_ok {n : Nat} {ns : List Int} {k m : Int} {η : Hv} {R : D → Hv → Prop} (hk : 0 ≤ k) (hm : 0 < m) (hl : ns.length ≤ 63) : Wp (callN P (n + 2) "_law_way" [scr ns, .int k, .int m]) η R = R (.int (wayN ns k m)) η := by
  rw [wp_call (fd := d__law_way) pd__law_way rfl]
  simp only [d__law_way, l_zero, l_succ, x_loc, x_cst, x_tup, x_lst, x_bin, x_neg, x_not, x_and, x_or, x_cmp, x_chn, x_ife, x_idx, x_slc, x_call, x_blt, x_mth, x_isi, x_lc, x_nil, x_cons, x_onone, x_osome, x_cnone, x_csome, x_seq, x_rng, x_rng2, x_enm, x_zip, s_set, s_sub, s_exp, s_ret, s_ife, s_for, s_whl, b_nil, b_cons, wp_bind, wp_pure, wp_if, List.map_cons, List.map_nil, List.cons_append, List.nil_append, List.replicate_succ, List.replicate_zero, List.set_cons_zero, List.set_cons_succ, Nat.sub_self, List.append_nil]
  rw [cell_ok hk hl, w_mulR (by decide) (by decide)]
  unfold scr
  have b := Int.emod_nonneg (cellN ns k * 48271 + 7919 * ns.length + 104729 * k) (b := 2147483647) (by decide)
  have b2 := Int.emod_lt_of_pos (cellN ns k * 48271 + 7919 * ns.length + 104729 * k) (b := 2147483647) (by decide)
  rw [w_lenV (by rw [List.length_map]; omega), List.length_map, w_mulL (by decide) (by decide), w_add, w_mulL (by decide) (by decide), w_add, w_mod (by decide), w_mulL (by omega) (by omega), w_mod (by decide), w_mod hm]
  rfl
/-- every number of the script is below a bound -/
def Small (B : Nat) (ns : List Int) : Prop := ∀ z ∈ ns, z.natAbs < B
theorem cell_small {B : Nat} {ns : List Int} (h : Small B ns) (hB : 0 < B) (k : Int) : (cellN ns k).natAbs < B := by
  unfold cellN
  split
  · rw [List.getD_eq_getElem?_getD]
    cases e : ns[k.toNat]? with
    | none => simpa using hB
    | some z => exact h z (List.mem_of_getElem? e)
  · simpa using hB
def Sm (ns : List Int) : Prop := Small (2 ^ 1048576) ns
def mk0 (ns : List Int) (k : Int) : Int := cellN ns (4 + k) * 40692 + cellN ns 3 * 48271 * (k + 1) + 7919 * k
theorem mk0_small {B : Nat} {ns : List Int} (h : Small B ns) (hB : 0 < B) {k : Int} (h0 : 0 ≤ k) (h1 : k < 1000) : (mk0 ns k).natAbs < B * 2 ^ 60 := by
  have c1 := cell_small h hB (4 + k)
  have c2 := cell_small h hB 3
  unfold mk0
  have a1 := Int.natAbs_add_le (cellN ns (4 + k) * 40692 + cellN ns 3 * 48271 * (k + 1)) (7919 * k)
  have a2 := Int.natAbs_add_le (cellN ns (4 + k) * 40692) (cellN ns 3 * 48271 * (k + 1))
  rw [Int.natAbs_mul, Int.natAbs_mul (cellN ns 3 * 48271), Int.natAbs_mul] at a2
  rw [Int.natAbs_mul 7919] at a1
  have e1 : (40692 : Int).natAbs = 40692 := rfl
  have e2 : (48271 : Int).natAbs = 48271 := rfl
  have e3 : (7919 : Int).natAbs = 7919 := rfl
  rw [e1, e2] at a2
  rw [e3] at a1
  have b1 : (k + 1).natAbs ≤ 1000 := by omega
  have b2 : k.natAbs ≤ 1000 := by omega
  have b3 : (cellN ns 3).natAbs * 48271 * (k + 1).natAbs ≤ B * 48271 * 1000 := Nat.mul_le_mul (Nat.mul_le_mul (Nat.le_of_lt c2) (Nat.le_refl _)) b1
  have b4 : (2 : Nat) ^ 60 = 1152921504606846976 := by decide
  rw [b4]
  omega
theorem log_of {x n : Nat} (h : x < 2 ^ n) (hn : 0 < n) : x.log2 < n := by
  by_cases h0 : x = 0
  · subst h0
    simpa using hn
  · exact (Nat.log2_lt h0).mpr h
def markN (ns : List Int) (k : Int) : Int := mk0 ns k * mk0 ns k % 2147483399
theorem mark_ok {n : Nat} {ns : List Int} {k : Int} {η : Hv} {R : D → Hv → Prop} (hk : 0 ≤ k) (hk2 : k < 1000) (hl : ns.length ≤ 63) (hs : Sm ns) : Wp (callN P (n + 2) "_law_mark" [scr ns, .int k]) η R = R (.int (markN ns k)) η := by
  have sm : (mk0 ns k).natAbs.log2 < 1048636 := by
    have hB : 0 < 2 ^ 1048576 := Nat.pow_pos (by decide)
    have q := mk0_small hs hB hk hk2
    rw [← Nat.pow_add] at q
    exact log_of q (by decide)
  rw [wp_call (fd := d__law_mark) pd__law_mark rfl]
  simp only [d__law_mark, l_zero, l_succ, x_loc, x_cst, x_tup, x_lst, x_bin, x_neg, x_not, x_and, x_or, x_cmp, x_chn, x_ife, x_idx, x_slc, x_call, x_blt, x_mth, x_isi, x_lc, x_nil, x_cons, x_onone, x_osome, x_cnone, x_csome, x_seq, x_rng, x_rng2, x_enm, x_zip, s_set, s_sub, s_exp, s_ret, s_ife, s_for, s_whl, b_nil, b_cons, wp_bind, wp_pure, wp_if, List.map_cons, List.map_nil, List.cons_append, List.nil_append, List.replicate_succ, List.replicate_zero, List.set_cons_zero, List.set_cons_succ, Nat.sub_self, List.append_nil]
  rw [w_add, cell_ok (by omega) hl, w_mulR (by decide) (by decide), cell_ok (by decide) hl, w_mulR (by decide) (by decide), w_add, w_mulR (by omega) (by omega), w_add, w_mulL (by decide) (by decide), w_add]
  show Wp (binM .mul (.int (mk0 ns k)) (.int (mk0 ns k))) η _ = _
  rw [w_mulG (by omega), w_mod (by decide)]
  rfl
theorem way_lt {ns : List Int} {k m : Int} (hm : 0 < m) : 0 ≤ wayN ns k m ∧ wayN ns k m < m := ⟨Int.emod_nonneg _ (by omega), Int.emod_lt_of_pos _ hm⟩
theorem is_n {η : Hv} {RB : Bool → Hv → Prop} : Wp (cmpM .is .non .non) η RB = RB true η := rfl
theorem is_b {η : Hv} {c : Bool} {RB : Bool → Hv → Prop} : Wp (cmpM .is (.bl c) .non) η RB = RB false η := rfl
theorem ints_at {ns : List Int} {i : Nat} {d : D} (h : (ns.map D.int)[i]? = some d) : ∃ n, ns[i]? = some n ∧ d = .int n := by
  rw [List.getElem?_map] at h
  cases e : ns[i]? with
  | none => rw [e] at h; cases h
  | some n => rw [e] at h; cases h; exact ⟨n, rfl, rfl⟩
theorem stepL_len (w : Option Bool) (acc : List Int) : (stepL w acc).length ≤ 2 * acc.length := by
  cases w with
  | none =>
    show (acc.map _ ++ acc.map _).length ≤ _
    rw [List.length_append, List.length_map, List.length_map]
    omega
  | some b =>
    show (acc.map _).length ≤ _
    rw [List.length_map]
    omega
theorem rowsL_len : ∀ (cube : List (Option Bool)) (acc : List Int), (cube.foldl (fun acc w => stepL w acc) acc).length ≤ 2 ^ cube.length * acc.length
  | [], acc => by simp
  | w :: cube, acc => by
    have h1 := rowsL_len cube (stepL w acc)
    have h2 := stepL_len w acc
    rw [List.foldl_cons, List.length_cons, Nat.pow_succ]
    calc _ ≤ 2 ^ cube.length * (stepL w acc).length := h1
      _ ≤ 2 ^ cube.length * (2 * acc.length) := Nat.mul_le_mul (Nat.le_refl _) h2
      _ = _ := by rw [Nat.mul_assoc]
theorem rowsL_small {cube : List (Option Bool)} (h : cube.length ≤ 10) (i : Nat) : (rowsL (cube.take i)).length ≤ 1024 := by
  have h1 := rowsL_len (cube.take i) [0]
  have h2 : 2 ^ (cube.take i).length ≤ 2 ^ 10 := Nat.pow_le_pow_right (by decide) (by rw [List.length_take]; omega)
  unfold rowsL
  rw [List.length_singleton, Nat.mul_one] at h1
  omega
/-! ### comprehensions over ints -/
def gI (f : Int → D) : D → D := fun d => match d with
  | .int k => f k
  | _ => .non
theorem gI_ints (f : Int → D) (ns : List Int) : (ns.map D.int).map (gI f) = ns.map f := by
  rw [List.map_map]; rfl
theorem gI_rng (f : Int → D) (n : Nat) : (rngL 0 n).map (gI f) = (List.range n).map fun (i : Nat) => f (0 + (i : Int)) := by
  unfold rngL
  rw [List.map_map]; rfl
theorem lc_ints {c c' : ClM} {f : Int → D} {ns : List Int} {a t : Nat} {η : Hv} {ρ : Rho} {elt : Rho → Mo D} {Q : List D → Hv → Prop} (q : η[a]? = some (.lst (ns.map .int))) (hl : ns.length ≤ 10000)
    (hs : ∀ k ∈ ns, ∀ R : D → Hv → Prop, R (f k) η → Wp (elt ((ρ.set t none).set t (some (.int k)))) η R) (h : Q (ns.map f) η) : Wp (lcN (nxSeq (.ref a)) (.one t) (evC c c' none) elt ρ WFu 0 []) η Q := by
  refine wp_lcMap (g := gI f) (ns.map .int) (by rw [List.length_map]; omega) (fun i => nx_lst q) (fun d hd => ?_) (by rw [gI_ints]; exact h)
  obtain ⟨k, hk, rfl⟩ := List.mem_map.mp hd
  exact ⟨_, rfl, hs k hk⟩
theorem lc_rng {c c' : ClM} {f : Int → D} {m : Int} {t : Nat} {η : Hv} {ρ : Rho} {elt : Rho → Mo D} {Q : List D → Hv → Prop} (hl : m ≤ 10000)
    (hs : ∀ i : Nat, (i : Int) < m → ∀ R : D → Hv → Prop, R (f (0 + (i : Int))) η → Wp (elt ((ρ.set t none).set t (some (.int (0 + (i : Int)))))) η R) (h : Q ((List.range m.toNat).map fun (i : Nat) => f (0 + (i : Int))) η) : Wp (lcN (nxRng 0 m) (.one t) (evC c c' none) elt ρ WFu 0 []) η Q := by
  refine wp_lcMap (g := gI f) (rngL 0 (m - 0).toNat) (by rw [rngL_len]; omega) (fun i => nx_rng) (fun d hd => ?_) (by rw [gI_rng, Int.sub_zero]; exact h)
  obtain ⟨i, hi⟩ := List.mem_iff_getElem?.mp hd
  obtain ⟨h1, rfl⟩ := rngL_at hi
  exact ⟨_, rfl, hs i (by omega)⟩
theorem law_rows_ok {n : Nat} {cube : List (Option Bool)} {η : Hv} {R : D → Hv → Prop} (hl : cube.length ≤ 10) (h : ∀ (a : Nat) (η' : Hv), Ext η η' → η.length ≤ a → η'[a]? = some (.lst ((sortI (rowsL cube)).map .int)) → R (.ref a) η') : Wp (callN P (n + 1) "_law_rows" [.tup (cube.map kD)]) η R := by
  rw [wp_call (fd := d__law_rows) pd__law_rows rfl]
  simp only [d__law_rows, l_zero, l_succ, x_loc, x_cst, x_tup, x_lst, x_bin, x_neg, x_not, x_and, x_or, x_cmp, x_chn, x_ife, x_idx, x_slc, x_call, x_blt, x_mth, x_isi, x_lc, x_nil, x_cons, x_onone, x_osome, x_cnone, x_csome, x_seq, x_rng, x_rng2, x_enm, x_zip, s_set, s_sub, s_exp, s_ret, s_ife, s_for, s_whl, b_nil, b_cons, wp_bind, wp_pure, wp_if, List.map_cons, List.map_nil, List.cons_append, List.nil_append, List.replicate_succ, List.replicate_zero, List.set_cons_zero, List.set_cons_succ, Nat.sub_self, List.append_nil]
  rw [wp_alloc, wp_look (a := ()) rfl]
  refine wp_for (fun i ρ η1 => ∃ (a : Nat) (u v : Option D), ρ = [some (.tup (cube.map kD)), some (.ref a), u, v] ∧ Ext η η1 ∧ η.length ≤ a ∧ η1[a]? = some (.lst ((rowsL (cube.take i)).map .int))) (cube.map kD) (by rw [List.length_map]; omega)
    ⟨η.length, none, none, rfl, Ext.app, Nat.le_refl _, at_new⟩ (fun _ _ _ _ => rfl) ?_ ?_
  · rintro i ρ η1 d ⟨a, u, v, rfl, hx, hn, ha⟩ hd
    rw [List.getElem?_map] at hd
    cases hp : cube[i]? with
    | none => rw [hp] at hd; cases hd
    | some p =>
      rw [hp] at hd
      cases hd
      refine ⟨_, rfl, ?_⟩
      simp only [l_zero, l_succ, x_loc, x_cst, x_tup, x_lst, x_bin, x_neg, x_not, x_and, x_or, x_cmp, x_chn, x_ife, x_idx, x_slc, x_call, x_blt, x_mth, x_isi, x_lc, x_nil, x_cons, x_onone, x_osome, x_cnone, x_csome, x_seq, x_rng, x_rng2, x_enm, x_zip, s_set, s_sub, s_exp, s_ret, s_ife, s_for, s_whl, b_nil, b_cons, wp_bind, wp_pure, wp_if, List.map_cons, List.map_nil, List.cons_append, List.nil_append, List.replicate_succ, List.replicate_zero, List.set_cons_zero, List.set_cons_succ, Nat.sub_self, List.append_nil]
      have small := rowsL_small hl i
      have e1 := rowsL_succ hp
      cases p with
      | none =>
        rw [kD, is_n, w_trub, if_pos rfl, wp_look (a := ()) (sk_lst ha)]
        refine lc_ints (f := fun k => .int (2 * k)) ha (by omega) (fun k _ R hR => ?_) ?_
        · simp only [l_zero, l_succ, x_loc, x_cst, x_tup, x_lst, x_bin, x_neg, x_not, x_and, x_or, x_cmp, x_chn, x_ife, x_idx, x_slc, x_call, x_blt, x_mth, x_isi, x_lc, x_nil, x_cons, x_onone, x_osome, x_cnone, x_csome, x_seq, x_rng, x_rng2, x_enm, x_zip, s_set, s_sub, s_exp, s_ret, s_ife, s_for, s_whl, b_nil, b_cons, wp_bind, wp_pure, wp_if, List.map_cons, List.map_nil, List.cons_append, List.nil_append, List.replicate_succ, List.replicate_zero, List.set_cons_zero, List.set_cons_succ, Nat.sub_self, List.append_nil]
          rw [w_mulL (by decide) (by decide)]
          exact hR
        rw [wp_alloc]
        have ha2 := Ext.app (t := [O.lst ((rowsL (cube.take i)).map fun k => D.int (2 * k))]) a _ ha
        rw [wp_look (a := ()) (sk_lst ha2)]
        refine lc_ints (f := fun k => .int (2 * k + 1)) ha2 (by omega) (fun k _ R hR => ?_) ?_
        · simp only [l_zero, l_succ, x_loc, x_cst, x_tup, x_lst, x_bin, x_neg, x_not, x_and, x_or, x_cmp, x_chn, x_ife, x_idx, x_slc, x_call, x_blt, x_mth, x_isi, x_lc, x_nil, x_cons, x_onone, x_osome, x_cnone, x_csome, x_seq, x_rng, x_rng2, x_enm, x_zip, s_set, s_sub, s_exp, s_ret, s_ife, s_for, s_whl, b_nil, b_cons, wp_bind, wp_pure, wp_if, List.map_cons, List.map_nil, List.cons_append, List.nil_append, List.replicate_succ, List.replicate_zero, List.set_cons_zero, List.set_cons_succ, Nat.sub_self, List.append_nil]
          rw [w_mulL (by decide) (by decide), w_add]
          exact hR
        rw [wp_alloc, w_cat (Ext.app _ _ at_new) at_new (by rw [List.length_map, List.length_map]; omega)]
        refine ⟨_, _, _, rfl, hx.trans (Ext.app.trans (Ext.app.trans Ext.app)), ?_, ?_⟩
        · have := hx.len
          simp only [List.length_append]
          omega
        · rw [at_new, e1]
          unfold stepL
          rw [List.map_append, List.map_map, List.map_map]
          rfl
      | some b =>
        rw [kD, is_b, w_trub, if_neg Bool.false_ne_true, wp_look (a := ()) (sk_lst ha)]
        refine lc_ints (f := fun k => .int (2 * k + b2D b)) ha (by omega) (fun k _ R hR => ?_) ?_
        · simp only [l_zero, l_succ, x_loc, x_cst, x_tup, x_lst, x_bin, x_neg, x_not, x_and, x_or, x_cmp, x_chn, x_ife, x_idx, x_slc, x_call, x_blt, x_mth, x_isi, x_lc, x_nil, x_cons, x_onone, x_osome, x_cnone, x_csome, x_seq, x_rng, x_rng2, x_enm, x_zip, s_set, s_sub, s_exp, s_ret, s_ife, s_for, s_whl, b_nil, b_cons, wp_bind, wp_pure, wp_if, List.map_cons, List.map_nil, List.cons_append, List.nil_append, List.replicate_succ, List.replicate_zero, List.set_cons_zero, List.set_cons_succ, Nat.sub_self, List.append_nil]
          rw [w_mulL (by decide) (by decide), w_intb, w_add]
          exact hR
        rw [wp_alloc]
        refine ⟨_, _, _, rfl, hx.trans Ext.app, hx.len, ?_⟩
        rw [at_new, e1]
        unfold stepL
        rw [List.map_map]
        rfl
  · rintro ρ η1 ⟨a, u, v, rfl, hx, hn, ha⟩
    rw [List.length_map, List.take_length] at ha
    simp only [l_zero, l_succ, x_loc, x_cst, x_tup, x_lst, x_bin, x_neg, x_not, x_and, x_or, x_cmp, x_chn, x_ife, x_idx, x_slc, x_call, x_blt, x_mth, x_isi, x_lc, x_nil, x_cons, x_onone, x_osome, x_cnone, x_csome, x_seq, x_rng, x_rng2, x_enm, x_zip, s_set, s_sub, s_exp, s_ret, s_ife, s_for, s_whl, b_nil, b_cons, wp_bind, wp_pure, wp_if, List.map_cons, List.map_nil, List.cons_append, List.nil_append, List.replicate_succ, List.replicate_zero, List.set_cons_zero, List.set_cons_succ, Nat.sub_self, List.append_nil]
    rw [w_sorted ha]
    exact h _ _ (hx.trans Ext.app) hx.len at_new
theorem menu_at {menu : List (Option Bool)} {x : Int} (h : 0 < menu.length) : atD (menu.map kD) (x % (menu.length : Int)) = some (kD (menu.getD (x % (menu.length : Int)).toNat none)) := by
  have h0 := Int.emod_nonneg x (b := menu.length) (by omega)
  have h1 := Int.emod_lt_of_pos x (b := menu.length) (by omega)
  refine at_int h0 ?_
  have h2 : (x % (menu.length : Int)).toNat < menu.length := by omega
  rw [List.getElem?_map, List.getElem?_eq_getElem h2, List.getD_eq_getElem?_getD, List.getElem?_eq_getElem h2]
  rfl
theorem cube_tail {n : Nat} {ns : List Int} {many : Int} {η : Hv} (h0 : 0 ≤ many) (h1 : many ≤ 100) (hl : ns.length ≤ 63) (hs : Sm ns) {fi : Int} (f0 : 0 ≤ fi) (f1 : fi ≤ 200) (c' : ClM) (η1 : Hv) (a : Nat) (menu : List (Option Bool)) (Q : D → Hv → Prop) (hx : Ext η η1) (ha : η1[a]? = some (.lst (menu.map kD))) (hm : 0 < menu.length) (hm2 : menu.length ≤ 10) (hQ : ∀ (cube : List (Option Bool)) (η' : Hv), cube.length = many.toNat → Ext η η' → Q (.tup (cube.map kD)) η') :
      Wp (lcN (nxRng 0 many) (.one 4) (evC (callN P (n + 2)) c' none) (evE (callN P (n + 2)) c' (.idx (.loc 3) (.bin .mod (.call "_law_mark" [(.loc 0), (.bin .add (.loc 1) (.loc 4))]) (.blt .len [(.loc 3)])))) [some (scr ns), some (.int fi), some (.int many), some (.ref a), none] WFu 0 []) η1 fun acc η2 => Wp (bltM .tuple [.ref η2.length]) (η2 ++ [.lst acc]) Q := by
  refine lc_rng (f := fun k => kD (menu.getD (markN ns (fi + k) % (menu.length : Int)).toNat none)) (by omega) (fun i hi R hR => ?_) ?_
  · simp only [l_zero, l_succ, x_loc, x_cst, x_tup, x_lst, x_bin, x_neg, x_not, x_and, x_or, x_cmp, x_chn, x_ife, x_idx, x_slc, x_call, x_blt, x_mth, x_isi, x_lc, x_nil, x_cons, x_onone, x_osome, x_cnone, x_csome, x_seq, x_rng, x_rng2, x_enm, x_zip, s_set, s_sub, s_exp, s_ret, s_ife, s_for, s_whl, b_nil, b_cons, wp_bind, wp_pure, wp_if, List.map_cons, List.map_nil, List.cons_append, List.nil_append, List.replicate_succ, List.replicate_zero, List.set_cons_zero, List.set_cons_succ, Nat.sub_self, List.append_nil]
    rw [w_add, mark_ok (by omega) (by omega) hl hs, w_lenL ha, List.length_map, w_mod (by omega), w_idxL ha (menu_at hm)]
    exact hR
  · rw [w_tupL at_new]
    have e : ((List.range many.toNat).map fun (i : Nat) => kD (menu.getD (markN ns (fi + (0 + (i : Int))) % (menu.length : Int)).toNat none)) = ((List.range many.toNat).map fun (i : Nat) => menu.getD (markN ns (fi + (0 + (i : Int))) % (menu.length : Int)).toNat none).map kD := by
      rw [List.map_map]; rfl
    rw [e]
    exact hQ _ _ (by simp) (hx.trans Ext.app)
theorem cube_by_ok {n : Nat} {ns : List Int} {many : Int} {η : Hv} {R : D → Hv → Prop} (h0 : 0 ≤ many) (h1 : many ≤ 100) (hl : ns.length ≤ 63) (hs : Sm ns) {fi : Int} (f0 : 0 ≤ fi) (f1 : fi ≤ 200) (h : ∀ (cube : List (Option Bool)) (η' : Hv), cube.length = many.toNat → Ext η η' → R (.tup (cube.map kD)) η') :
    Wp (callN P (n + 3) "_law_cube_by" [scr ns, .int fi, .int many]) η R := by
  rw [wp_call (fd := d__law_cube_by) pd__law_cube_by rfl]
  simp only [d__law_cube_by, ↓k_zero, ↓k_succ, ↓v_loc, ↓v_cst, ↓v_tup, ↓v_lst, ↓v_bin, ↓v_neg, ↓v_not, ↓v_and, ↓v_or, ↓v_cmp, ↓v_chn, ↓v_ife, ↓v_idx, ↓v_slc, ↓v_call, ↓v_blt, ↓v_mth, ↓v_isi, ↓v_lc, ↓v_nil, ↓v_cons, ↓v_onone, ↓v_osome, ↓v_cnone, ↓v_csome, ↓v_seq, ↓v_rng, ↓v_rng2, ↓v_enm, ↓v_zip, ↓t_set, ↓t_sub, ↓t_exp, ↓t_ret, ↓t_ife, ↓t_for, ↓r_nil, ↓r_cons, ↓wp_pure, List.map_cons, List.map_nil, List.cons_append, List.nil_append, List.replicate_succ, List.replicate_zero, List.set_cons_zero, List.set_cons_succ, Nat.sub_self, List.append_nil]
  rw [way_ok (by decide) (by decide) hl, w_eqi, w_trub]
  have hr : rngOk many = true := rng_ok (by omega) (by omega)
  cases hc : wayN ns 1 5 == 1 with
  | false =>
    rw [if_neg Bool.false_ne_true, w_gi]
    exact ⟨hr, cube_tail h0 h1 hl hs f0 f1 _ _ _ [none, some false, some true] _ Ext.app at_new (by decide) (by decide) h⟩
  | true =>
    rw [if_pos rfl, way_ok (by decide) (by decide) hl]
    obtain ⟨w0, w1⟩ := way_lt (ns := ns) (k := 2) (m := 4) (by decide)
    have cs : wayN ns 2 4 = 0 ∨ wayN ns 2 4 = 1 ∨ wayN ns 2 4 = 2 ∨ wayN ns 2 4 = 3 := by omega
    rcases cs with e | e | e | e <;> rw [e]
    · rw [w_idxL at_new rfl, w_gi]
      exact ⟨hr, cube_tail h0 h1 hl hs f0 f1 _ _ _ [none] _ (Ext.app.trans (Ext.app.trans (Ext.app.trans (Ext.app.trans (Ext.app.trans Ext.app))))) (Ext.app _ _ (Ext.app _ _ (Ext.app _ _ (Ext.app _ _ at_new)))) (by decide) (by decide) h⟩
    · rw [w_idxL at_new rfl, w_gi]
      exact ⟨hr, cube_tail h0 h1 hl hs f0 f1 _ _ _ [some false] _ (Ext.app.trans (Ext.app.trans (Ext.app.trans (Ext.app.trans (Ext.app.trans Ext.app))))) (Ext.app _ _ (Ext.app _ _ (Ext.app _ _ at_new))) (by decide) (by decide) h⟩
    · rw [w_idxL at_new rfl, w_gi]
      exact ⟨hr, cube_tail h0 h1 hl hs f0 f1 _ _ _ [some true] _ (Ext.app.trans (Ext.app.trans (Ext.app.trans (Ext.app.trans (Ext.app.trans Ext.app))))) (Ext.app _ _ (Ext.app _ _ at_new)) (by decide) (by decide) h⟩
    · rw [w_idxL at_new rfl, w_gi]
      exact ⟨hr, cube_tail h0 h1 hl hs f0 f1 _ _ _ [none, some true] _ (Ext.app.trans (Ext.app.trans (Ext.app.trans (Ext.app.trans (Ext.app.trans Ext.app))))) (Ext.app _ _ at_new) (by decide) (by decide) h⟩
end Law

set_option Elab.async false
set_option linter.all false
set_option maxRecDepth 10000
set_option maxHeartbeats 400000
namespace Law
open MI
/-! ### equal -/
theorem deep_F (φ : Nat → Option D) : ∀ f : Fm, deepW φ f.toD = some f.toD
  | .is b => rfl
  | .at k => rfl
  | .no f => by
    have := deep_F φ f
    simp [Fm.toD, deepW, deepsW, this]
  | .op o f g => by
    have h1 := deep_F φ f
    have h2 := deep_F φ g
    simp [Fm.toD, deepW, deepsW, h1, h2]
theorem fine_F : ∀ f : Fm, f.toD.fine = true
  | .is b => rfl
  | .at k => rfl
  | .no f => by
    have := fine_F f
    simp [Fm.toD, D.fine, D.fines, this]
  | .op o f g => by
    have h1 := fine_F f
    have h2 := fine_F g
    rcases ops3 o with ⟨e, _⟩ | ⟨e, _⟩ | ⟨e, _⟩ <;> simp [Fm.toD, D.fine, D.fines, h1, h2, e]
theorem dep_F : ∀ f : Fm, f.toD.dep ≤ f.tall
  | .is b => by simp [Fm.toD, D.dep, D.deps, Fm.tall]
  | .at k => by simp [Fm.toD, D.dep, D.deps, Fm.tall]
  | .no f => by
    have := dep_F f
    simp only [Fm.toD, D.dep, D.deps, Fm.tall]
    omega
  | .op o f g => by
    have h1 := dep_F f
    have h2 := dep_F g
    simp only [Fm.toD, D.dep, D.deps, Fm.tall]
    omega
theorem eqv_F : ∀ f : Fm, D.eqv f.toD f.toD = true
  | .is b => by simp [Fm.toD, D.eqv, D.eqvs]
  | .at k => by simp [Fm.toD, D.eqv, D.eqvs]
  | .no f => by
    have := eqv_F f
    simp [Fm.toD, D.eqv, D.eqvs, this]
  | .op o f g => by
    have h1 := eqv_F f
    have h2 := eqv_F g
    simp [Fm.toD, D.eqv, D.eqvs, h1, h2]
theorem eq_F {f : Fm} {η : Hv} (h : f.tall ≤ 60) : eqH f.toD f.toD η = some true := by
  have s : shp f.toD = true := by
    unfold shp
    rw [fine_F, decide_eq_true (Nat.le_trans (dep_F f) h)]
    rfl
  unfold eqH deep
  rw [deep_F]
  show (if (shp f.toD && shp f.toD) = true then some (D.eqv f.toD f.toD) else none) = _
  rw [s, eqv_F]
  rfl
theorem deeps_k (φ : Nat → Option D) : ∀ c : List (Option Bool), deepsW φ (c.map kD) = some (c.map kD)
  | [] => rfl
  | w :: c => by
    have := deeps_k φ c
    cases w <;> simp [deepsW, deepW, kD, this]
theorem deeps_c (φ : Nat → Option D) : ∀ cs : List (List (Option Bool)), deepsW φ (cs.map cD) = some (cs.map cD)
  | [] => rfl
  | c :: cs => by
    have := deeps_c φ cs
    simp [deepsW, deepW, cD, deeps_k, this]
theorem fines_k : ∀ c : List (Option Bool), D.fines (c.map kD) = true
  | [] => rfl
  | w :: c => by
    have := fines_k c
    cases w <;> simp [D.fines, D.fine, kD, this]
theorem fines_c : ∀ cs : List (List (Option Bool)), D.fines (cs.map cD) = true
  | [] => rfl
  | c :: cs => by
    have := fines_c cs
    simp [D.fines, D.fine, cD, fines_k, this]
theorem deps_k : ∀ c : List (Option Bool), D.deps (c.map kD) = 0
  | [] => rfl
  | w :: c => by
    have := deps_k c
    cases w <;> simp [D.deps, D.dep, kD, this]
theorem deps_c : ∀ cs : List (List (Option Bool)), D.deps (cs.map cD) ≤ 1
  | [] => by simp [D.deps]
  | c :: cs => by
    have := deps_c cs
    simp only [List.map_cons, D.deps, cD, D.dep, deps_k]
    omega
theorem eqvs_k : ∀ c : List (Option Bool), D.eqvs (c.map kD) (c.map kD) = true
  | [] => rfl
  | w :: c => by
    have := eqvs_k c
    cases w <;> simp [D.eqvs, D.eqv, kD, this]
theorem eqvs_c : ∀ cs : List (List (Option Bool)), D.eqvs (cs.map cD) (cs.map cD) = true
  | [] => rfl
  | c :: cs => by
    have := eqvs_c cs
    simp [D.eqvs, D.eqv, cD, eqvs_k, this]
theorem deep_C {η : Hv} {a : Nat} {cs : List (List (Option Bool))} (h : η[a]? = some (.lst (cs.map cD))) : deep η (.ref a) = some (.lst (cs.map cD)) := by
  show deepR η 6 a = _
  unfold deepR
  simp only [h, deeps_c, Option.map_some]
theorem shp_C (cs : List (List (Option Bool))) : shp (.lst (cs.map cD)) = true := by
  have := deps_c cs
  show (D.fines (cs.map cD) && decide (D.deps (cs.map cD) + 1 ≤ 60)) = true
  rw [fines_c, decide_eq_true (by omega)]
  rfl
theorem eq_C {η : Hv} {a b : Nat} {cs : List (List (Option Bool))} (h1 : η[a]? = some (.lst (cs.map cD))) (h2 : η[b]? = some (.lst (cs.map cD))) : eqH (.ref a) (.ref b) η = some true := by
  unfold eqH
  rw [deep_C h1, deep_C h2]
  show (if (shp _ && shp _) = true then some (D.eqvs _ _) else none) = _
  rw [shp_C, eqvs_c]
  rfl
theorem eq_nil {η : Hv} {a b : Nat} {cs : List (List (Option Bool))} (h1 : η[a]? = some (.lst (cs.map cD))) (h2 : η[b]? = some (.lst [])) : eqH (.ref a) (.ref b) η = some cs.isEmpty := by
  unfold eqH
  rw [deep_C h1, deep_C (cs := []) h2]
  show (if (shp _ && shp (.lst (([] : List (List (Option Bool))).map cD))) = true then some (D.eqvs _ _) else none) = _
  rw [shp_C, shp_C]
  cases cs <;> rfl
theorem any_eqv : ∀ (ns : List Int) (x : Int), (ns.map D.int).any (fun b => D.eqv b (.int x)) = decide (x ∈ ns)
  | [], x => rfl
  | n :: ns, x => by
    have ih := any_eqv ns x
    rw [List.map_cons, List.any_cons, ih]
    show ((n == x) || decide (x ∈ ns)) = _
    by_cases h : n = x
    · subst h
      simp
    · have h3 : ¬ x = n := fun e => h e.symm
      by_cases h2 : x ∈ ns <;> simp [h, h2, h3]
theorem all_shp : ∀ ns : List Int, (ns.map D.int).all shp = true
  | [] => rfl
  | n :: ns => by
    rw [List.map_cons, List.all_cons, all_shp ns]
    rfl
theorem in_ints {η : Hv} {a : Nat} {ns : List Int} {x : Int} (h : η[a]? = some (.lst (ns.map .int))) : cmpH .isin (.int x) (.ref a) η = some (decide (x ∈ ns)) := by
  show inH (.int x) (.ref a) η = _
  unfold inH
  simp only [getL, h]
  unfold memH
  show ((some (D.int x)).bind fun a => (deepsW (deepR η 6) (ns.map D.int)).bind fun bs => if (shp a && bs.all shp) = true then some (bs.any fun b => D.eqv b a) else none) = _
  rw [Option.bind_some, deepsW_ints, Option.bind_some, all_shp, any_eqv]
  rfl
end Law

set_option Elab.async false
set_option linter.all false
set_option maxRecDepth 10000
set_option maxHeartbeats 400000
namespace Law
open MI
theorem knd_clr {η : Hv} {xs : List D} {a : Nat} {R : Unit → Hv → Prop} (q : η[a]? = some (.lst xs)) : Wp (lookM (kndH .clear (.ref a))) η R = R () η := w_kndL q fun _ _ => rfl
theorem w_clr {η : Hv} {R : D → Hv → Prop} {xs : List D} {a : Nat} (q : η[a]? = some (.lst xs)) : Wp (mthM .clear (.ref a) []) η R = R .non (η.set a (.lst [])) := by
  unfold Wp mthM
  simp only [q]
theorem law_rest {n : Nat} {c' : ClM} {ns : List Int} {many : Int} {count : D} {cs : List (List (Option Bool))} {a b : Nat} {η : Hv} (w0 : 0 ≤ many) (w1 : many < 7) (hc : cs.length ≤ 17) (hcl : ∀ c ∈ cs, c.length = many.toNat) (hab : a ≠ b)
    (ha : η[a]? = some (.lst (cs.map cD))) (hb : η[b]? = some (.lst (cs.map cD))) :
    Wp (evB (callN P (n + 69)) c' (d_law_v19.body.drop 6) [some (scr ns), some (.int many), some count, some (.ref a), some (.ref b), some (coverF cs).toD, none, none, none, none]) η fun fl η' => match fl with
      | .rt d => d = .bl true
      | .nx _ => D.non = .bl true := by
  have lo : (coverF cs).low many.toNat = true := foldV_low cs none (fun c hm => Nat.le_of_eq (hcl c hm)) rfl
  have ta0 := foldV_tall (m := 6) cs none 8 (fun c hm => by have := hcl c hm; omega) (by simp [Fm.tall]) (by omega)
  have ta : (coverF cs).tall ≤ 60 := by
    show ((cs.foldl addV none).getD (.is false)).tall ≤ 60
    omega
  have bi0 := foldV_big (m := 6) cs none 1 (fun c hm => by have := hcl c hm; omega) (by simp [Fm.big])
  have bi : (coverF cs).big ≤ 1000 := by
    show ((cs.foldl addV none).getD (.is false)).big ≤ 1000
    omega
  have o0 : openN (coverF cs) 0 = 0 := foldV_open cs none rfl
  simp only [d_law_v19, List.drop_succ_cons, List.drop_zero, ↓k_zero, ↓k_succ, ↓v_loc, ↓v_cst, ↓v_tup, ↓v_lst, ↓v_bin, ↓v_neg, ↓v_not, ↓v_and, ↓v_or, ↓v_cmp, ↓v_chn, ↓v_ife, ↓v_idx, ↓v_slc, ↓v_call, ↓v_blt, ↓v_mth, ↓v_isi, ↓v_lc, ↓v_nil, ↓v_cons, ↓v_onone, ↓v_osome, ↓v_cnone, ↓v_csome, ↓v_seq, ↓v_rng, ↓v_rng2, ↓v_enm, ↓v_zip, ↓t_set, ↓t_sub, ↓t_exp, ↓t_ret, ↓t_ife, ↓t_for, ↓r_nil, ↓r_cons, ↓wp_pure, List.map_cons, List.map_nil, List.cons_append, List.nil_append, List.replicate_succ, List.replicate_zero, List.set_cons_zero, List.set_cons_succ, Nat.sub_self, List.append_nil]
  refine open_ok _ _ _ _ _ (by omega) fun η1 x1 => ?_
  rw [o0, w_gt, decide_eq_false (by decide), w_trub, if_neg Bool.false_ne_true]
  refine tuples_ok _ _ _ _ (by omega) fun η2 x2 => ?_
  have b2 := x2 _ _ (x1 _ _ hb)
  have a2 := x2 _ _ (x1 _ _ ha)
  rw [w_gt, decide_eq_false (by omega), w_trub, if_neg Bool.false_ne_true, knd_clr b2, w_clr b2]
  have a3 : (η2.set b (.lst []))[a]? = some (.lst (cs.map cD)) := by rw [List.getElem?_set_ne (Ne.symm hab)]; exact a2
  refine cover_form_ok (cs := cs) (by omega) (fun c hm => by have := hcl c hm; omega) a3 ?_
  rw [wp_cmp (b := false) (by
    show (eqH _ _ _).map _ = _
    rw [eq_F ta]
    rfl), w_trub, if_neg Bool.false_ne_true, wp_look (a := ()) (sk_lst (Ext.app _ _ a3))]
  refine wp_for (fun i ρ h => ∃ (r : Nat) (w : Option D) (acc : List Int), ρ = [some (scr ns), some (.int many), some count, some (.ref a), some (.ref b), some (coverF cs).toD, some (.ref r), w, none, none] ∧ h[a]? = some (.lst (cs.map cD)) ∧ h[r]? = some (.lst (acc.map .int)) ∧ acc.length ≤ 1024 * i ∧ ∀ x, x ∈ acc ↔ ∃ c ∈ cs.take i, x ∈ rowsL c) (cs.map cD) (by rw [List.length_map]; omega)
    ⟨_, none, [], rfl, Ext.app _ _ a3, at_new, by simp, by simp⟩ (fun i ρ h ⟨_, _, _, _, q, _⟩ => nx_lst q) ?_ ?_
  · rintro i ρ h d ⟨r, w, acc, rfl, q1, q2, q3, q4⟩ hd
    rw [List.getElem?_map] at hd
    cases hci : cs[i]? with
    | none => rw [hci] at hd; cases hd
    | some c =>
      rw [hci] at hd
      cases hd
      have hcm := List.mem_of_getElem? hci
      have hlen := hcl c hcm
      have hi := (List.getElem?_eq_some_iff.mp hci).1
      refine ⟨_, rfl, ?_⟩
      simp only [↓k_zero, ↓k_succ, ↓v_loc, ↓v_cst, ↓v_tup, ↓v_lst, ↓v_bin, ↓v_neg, ↓v_not, ↓v_and, ↓v_or, ↓v_cmp, ↓v_chn, ↓v_ife, ↓v_idx, ↓v_slc, ↓v_call, ↓v_blt, ↓v_mth, ↓v_isi, ↓v_lc, ↓v_nil, ↓v_cons, ↓v_onone, ↓v_osome, ↓v_cnone, ↓v_csome, ↓v_seq, ↓v_rng, ↓v_rng2, ↓v_enm, ↓v_zip, ↓t_set, ↓t_sub, ↓t_exp, ↓t_ret, ↓t_ife, ↓t_for, ↓r_nil, ↓r_cons, ↓wp_pure, List.map_cons, List.map_nil, List.cons_append, List.nil_append, List.replicate_succ, List.replicate_zero, List.set_cons_zero, List.set_cons_succ, Nat.sub_self, List.append_nil]
      refine law_rows_ok (by omega) fun t h2 x2 _ q5 => ?_
      have small := rowsL_small (cube := c) (by omega) c.length
      rw [List.take_length] at small
      have sl : (sortI (rowsL c)).length = (rowsL c).length := (List.mergeSort_perm _ _).length_eq
      rw [w_cat (x2 _ _ q2) q5 (by rw [List.length_map, List.length_map]; omega)]
      refine ⟨_, _, acc ++ sortI (rowsL c), rfl, Ext.app _ _ (x2 _ _ q1), by rw [at_new, List.map_append], by rw [List.length_append]; omega, fun x => ?_⟩
      have pm : x ∈ sortI (rowsL c) ↔ x ∈ rowsL c := (List.mergeSort_perm _ _).mem_iff
      rw [List.mem_append, q4, pm, List.take_add_one, hci]
      constructor
      · rintro (⟨c2, h1, h2⟩ | h1)
        · exact ⟨c2, List.mem_append.mpr (.inl h1), h2⟩
        · exact ⟨c, List.mem_append.mpr (.inr (by simp)), h1⟩
      · rintro ⟨c2, h1, h2⟩
        rcases List.mem_append.mp h1 with h1 | h1
        · exact .inl ⟨c2, h1, h2⟩
        · obtain rfl : c2 = c := by simpa using h1
          exact .inr h2
  · rintro ρ h ⟨r, w, acc, rfl, q1, q2, q3, q4⟩
    rw [List.length_map, List.take_length] at q4
    obtain ⟨m, rfl⟩ := Int.eq_ofNat_of_zero_le w0
    simp only [↓k_zero, ↓k_succ, ↓v_loc, ↓v_cst, ↓v_tup, ↓v_lst, ↓v_bin, ↓v_neg, ↓v_not, ↓v_and, ↓v_or, ↓v_cmp, ↓v_chn, ↓v_ife, ↓v_idx, ↓v_slc, ↓v_call, ↓v_blt, ↓v_mth, ↓v_isi, ↓v_lc, ↓v_nil, ↓v_cons, ↓v_onone, ↓v_osome, ↓v_cnone, ↓v_csome, ↓v_seq, ↓v_rng, ↓v_rng2, ↓v_enm, ↓v_zip, ↓t_set, ↓t_sub, ↓t_exp, ↓t_ret, ↓t_ife, ↓t_for, ↓r_nil, ↓r_cons, ↓wp_pure, List.map_cons, List.map_nil, List.cons_append, List.nil_append, List.replicate_succ, List.replicate_zero, List.set_cons_zero, List.set_cons_succ, Nat.sub_self, List.append_nil]
    have hm : atD [D.int 1, .int 2, .int 4, .int 8, .int 16, .int 32, .int 64] (m : Int) = some (.int (2 ^ m)) := by
      have : m = 0 ∨ m = 1 ∨ m = 2 ∨ m = 3 ∨ m = 4 ∨ m = 5 ∨ m = 6 := by omega
      rcases this with e | e | e | e | e | e | e <;> subst e <;> rfl
    have hp : (2 : Int) ^ m ≤ 64 ∧ 0 < (2 : Int) ^ m := by
      have : m = 0 ∨ m = 1 ∨ m = 2 ∨ m = 3 ∨ m = 4 ∨ m = 5 ∨ m = 6 := by omega
      rcases this with e | e | e | e | e | e | e <;> subst e <;> decide
    rw [w_idxL at_new hm, w_gi]
    refine ⟨rng_ok (by omega) (by omega), ?_⟩
    refine wp_for (fun i ρ h => (∃ v : Option D, ρ = [some (scr ns), some (.int (m : Int)), some count, some (.ref a), some (.ref b), some (coverF cs).toD, some (.ref r), w, v, none]) ∧ h[r]? = some (.lst (acc.map .int))) (rngL 0 ((2 : Int) ^ m - 0).toNat) (by rw [rngL_len]; omega)
      ⟨⟨none, rfl⟩, Ext.app _ _ q2⟩ (fun _ _ _ _ => nx_rng) ?_ ?_
    · rintro i ρ h2 d ⟨⟨v, rfl⟩, p2⟩ hd
      obtain ⟨hi, rfl⟩ := rngL_at hd
      refine ⟨_, rfl, ?_⟩
      simp only [↓k_zero, ↓k_succ, ↓v_loc, ↓v_cst, ↓v_tup, ↓v_lst, ↓v_bin, ↓v_neg, ↓v_not, ↓v_and, ↓v_or, ↓v_cmp, ↓v_chn, ↓v_ife, ↓v_idx, ↓v_slc, ↓v_call, ↓v_blt, ↓v_mth, ↓v_isi, ↓v_lc, ↓v_nil, ↓v_cons, ↓v_onone, ↓v_osome, ↓v_cnone, ↓v_csome, ↓v_seq, ↓v_rng, ↓v_rng2, ↓v_enm, ↓v_zip, ↓t_set, ↓t_sub, ↓t_exp, ↓t_ret, ↓t_ife, ↓t_for, ↓r_nil, ↓r_cons, ↓wp_pure, List.map_cons, List.map_nil, List.cons_append, List.nil_append, List.replicate_succ, List.replicate_zero, List.set_cons_zero, List.set_cons_succ, Nat.sub_self, List.append_nil]
      refine value_ok _ _ _ m _ _ (by omega) (by omega) (by simpa using lo) fun h3 x3 => ?_
      have e : (coverF cs).val (bitN (0 + (i : Int)) m) = decide ((0 + (i : Int)) ∈ acc) := by
        have k := foldV_val (bitN (0 + (i : Int)) m) cs none
        have k2 : (coverF cs).val (bitN (0 + (i : Int)) m) = cs.any fun c => (cubeF c).val (bitN (0 + (i : Int)) m) := by
          show ((cs.foldl addV none).getD (.is false)).val _ = _
          rw [k]
          rfl
        rw [k2, Bool.eq_iff_iff, List.any_eq_true, decide_eq_true_iff, q4]
        constructor
        · rintro ⟨c, h1, h2⟩
          have hlen := hcl c h1
          have hlm : c.length = m := by simpa using hlen
          have z := (rows_fit (cube := c) m (0 + (i : Int)) (by omega) (by omega) (by omega)).mpr (by
            rw [← accC_val]
            have h3 : ((accC c c.length).getD (.is true)).val (bitN (0 + (i : Int)) m) = true := h2
            rw [hlm] at h3
            exact h3)
          rw [← hlm, List.take_length] at z
          exact ⟨c, h1, z⟩
        · rintro ⟨c, h1, h2⟩
          have hlen := hcl c h1
          have hlm : c.length = m := by simpa using hlen
          refine ⟨c, h1, ?_⟩
          have z := (rows_fit (cube := c) m (0 + (i : Int)) (by omega) (by omega) (by omega)).mp (by
            rw [← hlm, List.take_length]
            exact h2)
          rw [← accC_val] at z
          show ((accC c c.length).getD (.is true)).val _ = true
          rw [hlm]
          exact z
      rw [wp_cmp (o := .isin) (in_ints (x3 _ _ p2)), e, w_neb]
      rw [beq_self_eq_true, Bool.not_true, w_trub, if_neg Bool.false_ne_true]
      exact ⟨⟨_, rfl⟩, x3 _ _ p2⟩
    · rintro ρ h2 ⟨⟨v, rfl⟩, p2⟩
      simp only [↓k_zero, ↓k_succ, ↓v_loc, ↓v_cst, ↓v_tup, ↓v_lst, ↓v_bin, ↓v_neg, ↓v_not, ↓v_and, ↓v_or, ↓v_cmp, ↓v_chn, ↓v_ife, ↓v_idx, ↓v_slc, ↓v_call, ↓v_blt, ↓v_mth, ↓v_isi, ↓v_lc, ↓v_nil, ↓v_cons, ↓v_onone, ↓v_osome, ↓v_cnone, ↓v_csome, ↓v_seq, ↓v_rng, ↓v_rng2, ↓v_enm, ↓v_zip, ↓t_set, ↓t_sub, ↓t_exp, ↓t_ret, ↓t_ife, ↓t_for, ↓r_nil, ↓r_cons, ↓wp_pure, List.map_cons, List.map_nil, List.cons_append, List.nil_append, List.replicate_succ, List.replicate_zero, List.set_cons_zero, List.set_cons_succ, Nat.sub_self, List.append_nil]
end Law

set_option Elab.async false
set_option linter.all false
set_option maxRecDepth 10000
set_option maxHeartbeats 400000
namespace Law
open MI
theorem law_ok {n : Nat} {ns : List Int} {η : Hv} (hl : ns.length ≤ 63) (hs : Sm ns) : Wp (callN P (n + 70) "law_v19" [scr ns]) η fun r _ => r = .bl true := by
  rw [wp_call (fd := d_law_v19) pd_law_v19 rfl]
  have fin := @law_rest n (calls P (n + 69)).2 ns
  simp only [d_law_v19, List.drop_succ_cons, List.drop_zero, ↓k_zero, ↓k_succ, ↓v_loc, ↓v_cst, ↓v_tup, ↓v_lst, ↓v_bin, ↓v_neg, ↓v_not, ↓v_and, ↓v_or, ↓v_cmp, ↓v_chn, ↓v_ife, ↓v_idx, ↓v_slc, ↓v_call, ↓v_blt, ↓v_mth, ↓v_isi, ↓v_lc, ↓v_nil, ↓v_cons, ↓v_onone, ↓v_osome, ↓v_cnone, ↓v_csome, ↓v_seq, ↓v_rng, ↓v_rng2, ↓v_enm, ↓v_zip, ↓t_set, ↓t_sub, ↓t_exp, ↓t_ret, ↓t_ife, ↓t_for, ↓r_nil, ↓r_cons, ↓wp_pure, List.map_cons, List.map_nil, List.cons_append, List.nil_append, List.replicate_succ, List.replicate_zero, List.set_cons_zero, List.set_cons_succ, Nat.sub_self, List.append_nil] at fin
  simp only [d_law_v19, ↓k_zero, ↓k_succ, ↓v_loc, ↓v_cst, ↓v_tup, ↓v_lst, ↓v_bin, ↓v_neg, ↓v_not, ↓v_and, ↓v_or, ↓v_cmp, ↓v_chn, ↓v_ife, ↓v_idx, ↓v_slc, ↓v_call, ↓v_blt, ↓v_mth, ↓v_isi, ↓v_lc, ↓v_nil, ↓v_cons, ↓v_onone, ↓v_osome, ↓v_cnone, ↓v_csome, ↓v_seq, ↓v_rng, ↓v_rng2, ↓v_enm, ↓v_zip, ↓t_set, ↓t_sub, ↓t_exp, ↓t_ret, ↓t_ife, ↓t_for, ↓r_nil, ↓r_cons, ↓wp_pure, List.map_cons, List.map_nil, List.cons_append, List.nil_append, List.replicate_succ, List.replicate_zero, List.set_cons_zero, List.set_cons_succ, Nat.sub_self, List.append_nil]
  rw [way_ok (by decide) (by decide) hl]
  obtain ⟨w0, w1⟩ := way_lt (ns := ns) (k := 0) (m := 7) (by decide)
  generalize wayN ns 0 7 = many at w0 w1
  obtain ⟨cnt, hcnt, c0, c1⟩ : ∃ cnt : Int, atD [D.int 17, .int 17, .int 17, .int 17, .int 17, .int 9, .int 5] many = some (.int cnt) ∧ 0 < cnt ∧ cnt ≤ 17 := by
    have : many = 0 ∨ many = 1 ∨ many = 2 ∨ many = 3 ∨ many = 4 ∨ many = 5 ∨ many = 6 := by omega
    rcases this with e | e | e | e | e | e | e <;> subst e <;> exact ⟨_, rfl, by decide, by decide⟩
  rw [w_idxL at_new hcnt, way_ok (by decide) c0 hl, w_gi]
  obtain ⟨k0, k1⟩ := way_lt (ns := ns) (k := 3) c0
  generalize wayN ns 3 cnt = count at k0 k1
  refine ⟨rng_ok (by omega) (by omega), ?_⟩
  refine wp_lc (fun i acc h => ∃ cs : List (List (Option Bool)), cs.length = i ∧ acc = cs.map cD ∧ ∀ c ∈ cs, c.length = many.toNat) (rngL 0 (count - 0).toNat) (by rw [rngL_len]; omega) ⟨[], rfl, rfl, fun c h => nomatch h⟩ (fun _ _ _ _ => nx_rng) ?_ ?_
  · rintro i acc h d ⟨cs, hc, rfl, hcl⟩ hd
    obtain ⟨hi, rfl⟩ := rngL_at hd
    refine ⟨_, rfl, ?_⟩
    rw [x_cnone, wp_pure, if_pos rfl]
    simp only [wipeT, ↓k_zero, ↓k_succ, ↓v_loc, ↓v_cst, ↓v_tup, ↓v_lst, ↓v_bin, ↓v_neg, ↓v_not, ↓v_and, ↓v_or, ↓v_cmp, ↓v_chn, ↓v_ife, ↓v_idx, ↓v_slc, ↓v_call, ↓v_blt, ↓v_mth, ↓v_isi, ↓v_lc, ↓v_nil, ↓v_cons, ↓v_onone, ↓v_osome, ↓v_cnone, ↓v_csome, ↓v_seq, ↓v_rng, ↓v_rng2, ↓v_enm, ↓v_zip, ↓t_set, ↓t_sub, ↓t_exp, ↓t_ret, ↓t_ife, ↓t_for, ↓r_nil, ↓r_cons, ↓wp_pure, List.map_cons, List.map_nil, List.cons_append, List.nil_append, List.replicate_succ, List.replicate_zero, List.set_cons_zero, List.set_cons_succ, Nat.sub_self, List.append_nil]
    rw [w_mulL (by decide) (by decide), w_add]
    refine cube_by_ok w0 (by omega) hl hs (by omega) (by omega) fun cube η1 h1 _ => ?_
    refine ⟨cs ++ [cube], by simp [hc], by simp [cD], fun c hm => ?_⟩
    rcases List.mem_append.mp hm with q | q
    · exact hcl c q
    · obtain rfl : c = cube := by simpa using q
      exact h1
  · rintro acc h ⟨cs, hc, rfl, hcl⟩
    rw [rngL_len] at hc
    have lo : (coverF cs).low many.toNat = true := foldV_low cs none (fun c hm => Nat.le_of_eq (hcl c hm)) rfl
    have ta0 := foldV_tall (m := 6) cs none 8 (fun c hm => by have := hcl c hm; omega) (by simp [Fm.tall]) (by omega)
    have ta : (coverF cs).tall ≤ 60 := by
      show ((cs.foldl addV none).getD (.is false)).tall ≤ 60
      omega
    rw [w_listL at_new]
    refine cover_form_ok (cs := cs) (by omega) (fun c hm => by have := hcl c hm; omega) at_new ?_
    refine deep_ok _ (n + 69) many 60 _ _ (by omega) (by omega) w0 lo ?_
    rw [w_trub, Bool.not_true, w_trub, if_neg Bool.false_ne_true, wp_cmp (b := false) (by
      show (eqH _ _ _).map _ = _
      rw [eq_C (cs := cs) at_new (Ext.app _ _ at_new)]
      rfl), w_trub, if_neg Bool.false_ne_true, wp_cmp (o := .eq) (b := cs.isEmpty) (eq_nil (Ext.app _ _ (Ext.app _ _ at_new)) at_new), w_trub]
    cases hE : cs.isEmpty with
    | false =>
      rw [if_neg Bool.false_ne_true, w_trub, if_neg Bool.false_ne_true]
      exact fin w0 w1 (by omega) hcl (by simp) (Ext.app _ _ (Ext.app _ _ at_new)) (Ext.app _ _ at_new)
    | true =>
      have e0 : cs = [] := List.isEmpty_iff.mp hE
      rw [if_pos rfl, wp_cmp (b := false) (by
        show (eqH _ _ _).map _ = _
        subst e0
        show (eqH (Fm.is false).toD (Fm.is false).toD _).map _ = _
        rw [eq_F (by decide)]
        rfl), w_trub, if_neg Bool.false_ne_true]
      exact fin w0 w1 (by omega) hcl (by simp) (Ext.app _ _ (Ext.app _ _ at_new)) (Ext.app _ _ at_new)
end Law

set_option maxRecDepth 100000
set_option maxHeartbeats 0
namespace Law
open PySem PySem.Spec PyProof.Rows L2 MI MIS
def top (i : Nat) : Stmt := PySem.Challenge.pw_circuits_k21_form_of_cover.main.body.getD i (.Pass ⟨0, 0, 0, 0⟩)
def tab : Tab := ⟨[("_law_cell_at", "_law_cell_at", 2), ("_law_cube_by", "_law_cube_by", 3), ("_law_deep", "_law_deep_v2", 3), ("_law_mark", "_law_mark", 2), ("_law_open", "_law_open_v2", 2), ("_law_rows", "_law_rows", 1), ("_law_tuples", "_law_tuples", 1), ("_law_value", "_law_value", 3), ("_law_way", "_law_way", 3), ("form_of_cover", "form_of_cover", 1), ("form_of_cube", "form_of_cube", 1)], [], ["bool", "int", "isinstance", "len", "list", "max", "range", "sorted", "str", "sum", "tuple"]⟩
abbrev sd_form_of_cube : Stmt := top 1
theorem cd_form_of_cube : (scB ["cube", "found", "place", "part"] ["cube"] (defScope sd_form_of_cube) && ckB tab ["cube", "found", "place", "part"] 90 (defScope sd_form_of_cube) (defBody sd_form_of_cube) d_form_of_cube.body && ((["cube"] : List Str).length == 1) && (d_form_of_cube.ar == 1) && (d_form_of_cube.ns == (["cube", "found", "place", "part"] : List Str).length)) = true := by decide +kernel
abbrev sd_form_of_cover : Stmt := top 2
theorem cd_form_of_cover : (scB ["cover", "found", "cube", "part"] ["cover"] (defScope sd_form_of_cover) && ckB tab ["cover", "found", "cube", "part"] 90 (defScope sd_form_of_cover) (defBody sd_form_of_cover) d_form_of_cover.body && ((["cover"] : List Str).length == 1) && (d_form_of_cover.ar == 1) && (d_form_of_cover.ns == (["cover", "found", "cube", "part"] : List Str).length)) = true := by decide +kernel
abbrev sd__law_cell_at : Stmt := top 4
theorem cd__law_cell_at : (scB ["_law_script", "_law_k"] ["_law_script", "_law_k"] (defScope sd__law_cell_at) && ckB tab ["_law_script", "_law_k"] 90 (defScope sd__law_cell_at) (defBody sd__law_cell_at) d__law_cell_at.body && ((["_law_script", "_law_k"] : List Str).length == 2) && (d__law_cell_at.ar == 2) && (d__law_cell_at.ns == (["_law_script", "_law_k"] : List Str).length)) = true := by decide +kernel
abbrev sd__law_way : Stmt := top 5
theorem cd__law_way : (scB ["_law_script", "_law_k", "_law_many", "_law_mark_here"] ["_law_script", "_law_k", "_law_many"] (defScope sd__law_way) && ckB tab ["_law_script", "_law_k", "_law_many", "_law_mark_here"] 90 (defScope sd__law_way) (defBody sd__law_way) d__law_way.body && ((["_law_script", "_law_k", "_law_many"] : List Str).length == 3) && (d__law_way.ar == 3) && (d__law_way.ns == (["_law_script", "_law_k", "_law_many", "_law_mark_here"] : List Str).length)) = true := by decide +kernel
abbrev sd__law_mark : Stmt := top 6
theorem cd__law_mark : (scB ["_law_script", "_law_k", "_law_mark_here"] ["_law_script", "_law_k"] (defScope sd__law_mark) && ckB tab ["_law_script", "_law_k", "_law_mark_here"] 90 (defScope sd__law_mark) (defBody sd__law_mark) d__law_mark.body && ((["_law_script", "_law_k"] : List Str).length == 2) && (d__law_mark.ar == 2) && (d__law_mark.ns == (["_law_script", "_law_k", "_law_mark_here"] : List Str).length)) = true := by decide +kernel
abbrev sd__law_rows : Stmt := top 7
theorem cd__law_rows : (scB ["_law_cube", "_law_found", "_law_wished", "_law_k"] ["_law_cube"] (defScope sd__law_rows) && ckB tab ["_law_cube", "_law_found", "_law_wished", "_law_k"] 90 (defScope sd__law_rows) (defBody sd__law_rows) d__law_rows.body && ((["_law_cube"] : List Str).length == 1) && (d__law_rows.ar == 1) && (d__law_rows.ns == (["_law_cube", "_law_found", "_law_wished", "_law_k"] : List Str).length)) = true := by decide +kernel
abbrev sd__law_cube_by : Stmt := top 8
theorem cd__law_cube_by : (scB ["_law_script", "_law_first", "_law_many", "_law_menu", "_law_k"] ["_law_script", "_law_first", "_law_many"] (defScope sd__law_cube_by) && ckB tab ["_law_script", "_law_first", "_law_many", "_law_menu", "_law_k"] 90 (defScope sd__law_cube_by) (defBody sd__law_cube_by) d__law_cube_by.body && ((["_law_script", "_law_first", "_law_many"] : List Str).length == 3) && (d__law_cube_by.ar == 3) && (d__law_cube_by.ns == (["_law_script", "_law_first", "_law_many", "_law_menu", "_law_k"] : List Str).length)) = true := by decide +kernel
abbrev sd__law_deep_v2 : Stmt := top 9
theorem cd__law_deep_v2 : (scB ["_law_form", "_law_many", "_law_left"] ["_law_form", "_law_many", "_law_left"] (defScope sd__law_deep_v2) && ckB tab ["_law_form", "_law_many", "_law_left"] 90 (defScope sd__law_deep_v2) (defBody sd__law_deep_v2) d__law_deep_v2.body && ((["_law_form", "_law_many", "_law_left"] : List Str).length == 3) && (d__law_deep_v2.ar == 3) && (d__law_deep_v2.ns == (["_law_form", "_law_many", "_law_left"] : List Str).length)) = true := by decide +kernel
abbrev sd__law_tuples : Stmt := top 10
theorem cd__law_tuples : (scB ["_law_form", "_law_part"] ["_law_form"] (defScope sd__law_tuples) && ckB tab ["_law_form", "_law_part"] 90 (defScope sd__law_tuples) (defBody sd__law_tuples) d__law_tuples.body && ((["_law_form"] : List Str).length == 1) && (d__law_tuples.ar == 1) && (d__law_tuples.ns == (["_law_form", "_law_part"] : List Str).length)) = true := by decide +kernel
abbrev sd__law_value : Stmt := top 11
theorem cd__law_value : (scB ["_law_form", "_law_number", "_law_many", "_law_one", "_law_other"] ["_law_form", "_law_number", "_law_many"] (defScope sd__law_value) && ckB tab ["_law_form", "_law_number", "_law_many", "_law_one", "_law_other"] 90 (defScope sd__law_value) (defBody sd__law_value) d__law_value.body && ((["_law_form", "_law_number", "_law_many"] : List Str).length == 3) && (d__law_value.ar == 3) && (d__law_value.ns == (["_law_form", "_law_number", "_law_many", "_law_one", "_law_other"] : List Str).length)) = true := by decide +kernel
abbrev sd__law_open_v2 : Stmt := top 12
theorem cd__law_open_v2 : (scB ["_law_form", "_law_least", "_law_own", "_law_inner"] ["_law_form", "_law_least"] (defScope sd__law_open_v2) && ckB tab ["_law_form", "_law_least", "_law_own", "_law_inner"] 90 (defScope sd__law_open_v2) (defBody sd__law_open_v2) d__law_open_v2.body && ((["_law_form", "_law_least"] : List Str).length == 2) && (d__law_open_v2.ar == 2) && (d__law_open_v2.ns == (["_law_form", "_law_least", "_law_own", "_law_inner"] : List Str).length)) = true := by decide +kernel
abbrev sd_law_v19 : Stmt := top 13
theorem cd_law_v19 : (scB ["_law_script", "_law_many", "_law_count", "_law_cover", "_law_handed", "_law_form", "_law_inside", "_law_cube", "_law_number", "_law_k"] ["_law_script"] (defScope sd_law_v19) && ckB tab ["_law_script", "_law_many", "_law_count", "_law_cover", "_law_handed", "_law_form", "_law_inside", "_law_cube", "_law_number", "_law_k"] 90 (defScope sd_law_v19) (defBody sd_law_v19) d_law_v19.body && ((["_law_script"] : List Str).length == 1) && (d_law_v19.ar == 1) && (d_law_v19.ns == (["_law_script", "_law_many", "_law_count", "_law_cover", "_law_handed", "_law_form", "_law_inside", "_law_cube", "_law_number", "_law_k"] : List Str).length)) = true := by decide +kernel
theorem all_mk {l : PySem.W.OpenLaw} {w : World} {K : PySem.W.Frag} {h : Heap} {mg : Str → Option Value} {fa : Addr} (X : K.In h) (G : h.Ns mainGlobals mg) (hfa : mg "law" = some (.ref fa)) (hT : LawTrue P "law_v19" 80)
    {od0 an0 : Option Addr} {sl0 : Array (Option Value)} {oc0 kV0 dc0 pm0 cd0 ct0 : Value} {f0 : Addr}
    (a0 : PySem.W.nsIn K mainGlobals "form_of_cube" = some (some (.ref f0))) (l0 : K.lookup f0 = some ⟨oc0, od0, .func (PySem.W.fnOf "form_of_cube" "form_of_cube" (defArgs sd_form_of_cube) (defBody sd_form_of_cube) (defScope sd_form_of_cube) .none kV0 dc0 pm0 an0 cd0 ct0), sl0⟩) (c0 : PySem.W.codeIn K cd0 "form_of_cube" = true) (k0 : PySem.W.keepIn K (.ref f0) = true)
    {od1 an1 : Option Addr} {sl1 : Array (Option Value)} {oc1 kV1 dc1 pm1 cd1 ct1 : Value} {f1 : Addr}
    (a1 : PySem.W.nsIn K mainGlobals "form_of_cover" = some (some (.ref f1))) (l1 : K.lookup f1 = some ⟨oc1, od1, .func (PySem.W.fnOf "form_of_cover" "form_of_cover" (defArgs sd_form_of_cover) (defBody sd_form_of_cover) (defScope sd_form_of_cover) .none kV1 dc1 pm1 an1 cd1 ct1), sl1⟩) (c1 : PySem.W.codeIn K cd1 "form_of_cover" = true) (k1 : PySem.W.keepIn K (.ref f1) = true)
    {od2 an2 : Option Addr} {sl2 : Array (Option Value)} {oc2 kV2 dc2 pm2 cd2 ct2 : Value} {f2 : Addr}
    (a2 : PySem.W.nsIn K mainGlobals "_law_cell_at" = some (some (.ref f2))) (l2 : K.lookup f2 = some ⟨oc2, od2, .func (PySem.W.fnOf "_law_cell_at" "_law_cell_at" (defArgs sd__law_cell_at) (defBody sd__law_cell_at) (defScope sd__law_cell_at) .none kV2 dc2 pm2 an2 cd2 ct2), sl2⟩) (c2 : PySem.W.codeIn K cd2 "_law_cell_at" = true) (k2 : PySem.W.keepIn K (.ref f2) = true)
    {od3 an3 : Option Addr} {sl3 : Array (Option Value)} {oc3 kV3 dc3 pm3 cd3 ct3 : Value} {f3 : Addr}
    (a3 : PySem.W.nsIn K mainGlobals "_law_way" = some (some (.ref f3))) (l3 : K.lookup f3 = some ⟨oc3, od3, .func (PySem.W.fnOf "_law_way" "_law_way" (defArgs sd__law_way) (defBody sd__law_way) (defScope sd__law_way) .none kV3 dc3 pm3 an3 cd3 ct3), sl3⟩) (c3 : PySem.W.codeIn K cd3 "_law_way" = true) (k3 : PySem.W.keepIn K (.ref f3) = true)
    {od4 an4 : Option Addr} {sl4 : Array (Option Value)} {oc4 kV4 dc4 pm4 cd4 ct4 : Value} {f4 : Addr}
    (a4 : PySem.W.nsIn K mainGlobals "_law_mark" = some (some (.ref f4))) (l4 : K.lookup f4 = some ⟨oc4, od4, .func (PySem.W.fnOf "_law_mark" "_law_mark" (defArgs sd__law_mark) (defBody sd__law_mark) (defScope sd__law_mark) .none kV4 dc4 pm4 an4 cd4 ct4), sl4⟩) (c4 : PySem.W.codeIn K cd4 "_law_mark" = true) (k4 : PySem.W.keepIn K (.ref f4) = true)
    {od5 an5 : Option Addr} {sl5 : Array (Option Value)} {oc5 kV5 dc5 pm5 cd5 ct5 : Value} {f5 : Addr}
    (a5 : PySem.W.nsIn K mainGlobals "_law_rows" = some (some (.ref f5))) (l5 : K.lookup f5 = some ⟨oc5, od5, .func (PySem.W.fnOf "_law_rows" "_law_rows" (defArgs sd__law_rows) (defBody sd__law_rows) (defScope sd__law_rows) .none kV5 dc5 pm5 an5 cd5 ct5), sl5⟩) (c5 : PySem.W.codeIn K cd5 "_law_rows" = true) (k5 : PySem.W.keepIn K (.ref f5) = true)
    {od6 an6 : Option Addr} {sl6 : Array (Option Value)} {oc6 kV6 dc6 pm6 cd6 ct6 : Value} {f6 : Addr}
    (a6 : PySem.W.nsIn K mainGlobals "_law_cube_by" = some (some (.ref f6))) (l6 : K.lookup f6 = some ⟨oc6, od6, .func (PySem.W.fnOf "_law_cube_by" "_law_cube_by" (defArgs sd__law_cube_by) (defBody sd__law_cube_by) (defScope sd__law_cube_by) .none kV6 dc6 pm6 an6 cd6 ct6), sl6⟩) (c6 : PySem.W.codeIn K cd6 "_law_cube_by" = true) (k6 : PySem.W.keepIn K (.ref f6) = true)
    {od7 an7 : Option Addr} {sl7 : Array (Option Value)} {oc7 kV7 dc7 pm7 cd7 ct7 : Value} {f7 : Addr}
    (a7 : PySem.W.nsIn K mainGlobals "_law_deep" = some (some (.ref f7))) (l7 : K.lookup f7 = some ⟨oc7, od7, .func (PySem.W.fnOf "_law_deep" "_law_deep" (defArgs sd__law_deep_v2) (defBody sd__law_deep_v2) (defScope sd__law_deep_v2) .none kV7 dc7 pm7 an7 cd7 ct7), sl7⟩) (c7 : PySem.W.codeIn K cd7 "_law_deep" = true) (k7 : PySem.W.keepIn K (.ref f7) = true)
    {od8 an8 : Option Addr} {sl8 : Array (Option Value)} {oc8 kV8 dc8 pm8 cd8 ct8 : Value} {f8 : Addr}
    (a8 : PySem.W.nsIn K mainGlobals "_law_tuples" = some (some (.ref f8))) (l8 : K.lookup f8 = some ⟨oc8, od8, .func (PySem.W.fnOf "_law_tuples" "_law_tuples" (defArgs sd__law_tuples) (defBody sd__law_tuples) (defScope sd__law_tuples) .none kV8 dc8 pm8 an8 cd8 ct8), sl8⟩) (c8 : PySem.W.codeIn K cd8 "_law_tuples" = true) (k8 : PySem.W.keepIn K (.ref f8) = true)
    {od9 an9 : Option Addr} {sl9 : Array (Option Value)} {oc9 kV9 dc9 pm9 cd9 ct9 : Value} {f9 : Addr}
    (a9 : PySem.W.nsIn K mainGlobals "_law_value" = some (some (.ref f9))) (l9 : K.lookup f9 = some ⟨oc9, od9, .func (PySem.W.fnOf "_law_value" "_law_value" (defArgs sd__law_value) (defBody sd__law_value) (defScope sd__law_value) .none kV9 dc9 pm9 an9 cd9 ct9), sl9⟩) (c9 : PySem.W.codeIn K cd9 "_law_value" = true) (k9 : PySem.W.keepIn K (.ref f9) = true)
    {od10 an10 : Option Addr} {sl10 : Array (Option Value)} {oc10 kV10 dc10 pm10 cd10 ct10 : Value} {f10 : Addr}
    (a10 : PySem.W.nsIn K mainGlobals "_law_open" = some (some (.ref f10))) (l10 : K.lookup f10 = some ⟨oc10, od10, .func (PySem.W.fnOf "_law_open" "_law_open" (defArgs sd__law_open_v2) (defBody sd__law_open_v2) (defScope sd__law_open_v2) .none kV10 dc10 pm10 an10 cd10 ct10), sl10⟩) (c10 : PySem.W.codeIn K cd10 "_law_open" = true) (k10 : PySem.W.keepIn K (.ref f10) = true)
    {od11 an11 : Option Addr} {sl11 : Array (Option Value)} {oc11 kV11 dc11 pm11 cd11 ct11 : Value} {f11 : Addr}
    (a11 : PySem.W.nsIn K mainGlobals "law" = some (some (.ref f11))) (l11 : K.lookup f11 = some ⟨oc11, od11, .func (PySem.W.fnOf "law" "law" (defArgs sd_law_v19) (defBody sd_law_v19) (defScope sd_law_v19) .none kV11 dc11 pm11 an11 cd11 ct11), sl11⟩) (c11 : PySem.W.codeIn K cd11 "law" = true) (k11 : PySem.W.keepIn K (.ref f11) = true)
    (z0 : PySem.W.nsIn K mainGlobals "bool" = some none)
    (z1 : PySem.W.nsIn K mainGlobals "int" = some none)
    (z2 : PySem.W.nsIn K mainGlobals "isinstance" = some none)
    (z3 : PySem.W.nsIn K mainGlobals "len" = some none)
    (z4 : PySem.W.nsIn K mainGlobals "list" = some none)
    (z5 : PySem.W.nsIn K mainGlobals "max" = some none)
    (z6 : PySem.W.nsIn K mainGlobals "range" = some none)
    (z7 : PySem.W.nsIn K mainGlobals "sorted" = some none)
    (z8 : PySem.W.nsIn K mainGlobals "str" = some none)
    (z9 : PySem.W.nsIn K mainGlobals "sum" = some none)
    (z10 : PySem.W.nsIn K mainGlobals "tuple" = some none)
    : ∃ fd : FuncData, (∀ (s : Shared) (v : Value), BindsTo s fd ⟨[v], []⟩ [("_law_script", v)]) ∧ ∀ base : Heap, K.In base → base.Ns mainGlobals mg → FnOk l.prog w K mg base (L2.CX l.prog w) 80 fa fd ["_law_script"] (spLaw K) := by
  have e := hfa.symm.trans (PySem.W.mg_of X G a11)
  cases e
  have F0 := fun_mk (st := sd_form_of_cube) l0 c0 k0
  have b0 := F0.binds (ps := ["cube"]) fun _ _ _ _ _ _ us hl => match us, hl with | [_], _ => rfl
  have D0 : DefAt K P tab "form_of_cube" 1 _ _ _ := ⟨_, _, _, _, _, F0, b0, pd_form_of_cube, cd_form_of_cube⟩
  have F1 := fun_mk (st := sd_form_of_cover) l1 c1 k1
  have b1 := F1.binds (ps := ["cover"]) fun _ _ _ _ _ _ us hl => match us, hl with | [_], _ => rfl
  have D1 : DefAt K P tab "form_of_cover" 1 _ _ _ := ⟨_, _, _, _, _, F1, b1, pd_form_of_cover, cd_form_of_cover⟩
  have F2 := fun_mk (st := sd__law_cell_at) l2 c2 k2
  have b2 := F2.binds (ps := ["_law_script", "_law_k"]) fun _ _ _ _ _ _ us hl => match us, hl with | [_, _], _ => rfl
  have D2 : DefAt K P tab "_law_cell_at" 2 _ _ _ := ⟨_, _, _, _, _, F2, b2, pd__law_cell_at, cd__law_cell_at⟩
  have F3 := fun_mk (st := sd__law_way) l3 c3 k3
  have b3 := F3.binds (ps := ["_law_script", "_law_k", "_law_many"]) fun _ _ _ _ _ _ us hl => match us, hl with | [_, _, _], _ => rfl
  have D3 : DefAt K P tab "_law_way" 3 _ _ _ := ⟨_, _, _, _, _, F3, b3, pd__law_way, cd__law_way⟩
  have F4 := fun_mk (st := sd__law_mark) l4 c4 k4
  have b4 := F4.binds (ps := ["_law_script", "_law_k"]) fun _ _ _ _ _ _ us hl => match us, hl with | [_, _], _ => rfl
  have D4 : DefAt K P tab "_law_mark" 2 _ _ _ := ⟨_, _, _, _, _, F4, b4, pd__law_mark, cd__law_mark⟩
  have F5 := fun_mk (st := sd__law_rows) l5 c5 k5
  have b5 := F5.binds (ps := ["_law_cube"]) fun _ _ _ _ _ _ us hl => match us, hl with | [_], _ => rfl
  have D5 : DefAt K P tab "_law_rows" 1 _ _ _ := ⟨_, _, _, _, _, F5, b5, pd__law_rows, cd__law_rows⟩
  have F6 := fun_mk (st := sd__law_cube_by) l6 c6 k6
  have b6 := F6.binds (ps := ["_law_script", "_law_first", "_law_many"]) fun _ _ _ _ _ _ us hl => match us, hl with | [_, _, _], _ => rfl
  have D6 : DefAt K P tab "_law_cube_by" 3 _ _ _ := ⟨_, _, _, _, _, F6, b6, pd__law_cube_by, cd__law_cube_by⟩
  have F7 := fun_mk (st := sd__law_deep_v2) l7 c7 k7
  have b7 := F7.binds (ps := ["_law_form", "_law_many", "_law_left"]) fun _ _ _ _ _ _ us hl => match us, hl with | [_, _, _], _ => rfl
  have D7 : DefAt K P tab "_law_deep_v2" 3 _ _ _ := ⟨_, _, _, _, _, F7, b7, pd__law_deep_v2, cd__law_deep_v2⟩
  have F8 := fun_mk (st := sd__law_tuples) l8 c8 k8
  have b8 := F8.binds (ps := ["_law_form"]) fun _ _ _ _ _ _ us hl => match us, hl with | [_], _ => rfl
  have D8 : DefAt K P tab "_law_tuples" 1 _ _ _ := ⟨_, _, _, _, _, F8, b8, pd__law_tuples, cd__law_tuples⟩
  have F9 := fun_mk (st := sd__law_value) l9 c9 k9
  have b9 := F9.binds (ps := ["_law_form", "_law_number", "_law_many"]) fun _ _ _ _ _ _ us hl => match us, hl with | [_, _, _], _ => rfl
  have D9 : DefAt K P tab "_law_value" 3 _ _ _ := ⟨_, _, _, _, _, F9, b9, pd__law_value, cd__law_value⟩
  have F10 := fun_mk (st := sd__law_open_v2) l10 c10 k10
  have b10 := F10.binds (ps := ["_law_form", "_law_least"]) fun _ _ _ _ _ _ us hl => match us, hl with | [_, _], _ => rfl
  have D10 : DefAt K P tab "_law_open_v2" 2 _ _ _ := ⟨_, _, _, _, _, F10, b10, pd__law_open_v2, cd__law_open_v2⟩
  have F11 := fun_mk (st := sd_law_v19) l11 c11 k11
  have b11 := F11.binds (ps := ["_law_script"]) fun _ _ _ _ _ _ us hl => match us, hl with | [_], _ => rfl
  have D11 : DefAt K P tab "law_v19" 1 _ _ _ := ⟨_, _, _, _, _, F11, b11, pd_law_v19, cd_law_v19⟩
  have hF : ∀ p ∈ tab.fns, DefOk K mg P tab p.1 p.2.1 p.2.2 := by
    intro p hp
    simp only [tab, List.mem_cons, List.not_mem_nil, or_false] at hp
    rcases hp with rfl | rfl | rfl | rfl | rfl | rfl | rfl | rfl | rfl | rfl | rfl
    · exact ⟨_, _, _, PySem.W.mg_of X G a2, D2⟩
    · exact ⟨_, _, _, PySem.W.mg_of X G a6, D6⟩
    · exact ⟨_, _, _, PySem.W.mg_of X G a7, D7⟩
    · exact ⟨_, _, _, PySem.W.mg_of X G a4, D4⟩
    · exact ⟨_, _, _, PySem.W.mg_of X G a10, D10⟩
    · exact ⟨_, _, _, PySem.W.mg_of X G a5, D5⟩
    · exact ⟨_, _, _, PySem.W.mg_of X G a8, D8⟩
    · exact ⟨_, _, _, PySem.W.mg_of X G a9, D9⟩
    · exact ⟨_, _, _, PySem.W.mg_of X G a3, D3⟩
    · exact ⟨_, _, _, PySem.W.mg_of X G a1, D1⟩
    · exact ⟨_, _, _, PySem.W.mg_of X G a0, D0⟩
  have hB : ∀ x ∈ tab.blts, mg x = none := by
    intro x hx
    simp only [tab, List.mem_cons, List.not_mem_nil, or_false] at hx
    rcases hx with rfl | rfl | rfl | rfl | rfl | rfl | rfl | rfl | rfl | rfl | rfl
    · exact PySem.W.mg_none_of X G z0
    · exact PySem.W.mg_none_of X G z1
    · exact PySem.W.mg_none_of X G z2
    · exact PySem.W.mg_none_of X G z3
    · exact PySem.W.mg_none_of X G z4
    · exact PySem.W.mg_none_of X G z5
    · exact PySem.W.mg_none_of X G z6
    · exact PySem.W.mg_none_of X G z7
    · exact PySem.W.mg_none_of X G z8
    · exact PySem.W.mg_none_of X G z9
    · exact PySem.W.mg_none_of X G z10
  have hC : ∀ p ∈ tab.consts, ∃ u v, mg p.1 = some u ∧ RelV v u ∧ ∀ μ H, RV ⟨K, w, l.prog, fun _ => f0, fun _ => f0⟩ μ H p.2 v := by
    intro p hp
    cases hp
  exact ⟨_, fun s v => .of_eq rfl, fun base _ _ => law_fn (cl := fun _ => f0) (ex := fun _ => f0) D11 hF hC hB hT⟩
theorem small_of {z : Int} (h : Builtin.Int.intBits z ≤ 1048576) : z.natAbs < 2 ^ 1048576 := by
  by_cases h0 : z.natAbs = 0
  · rw [h0]
    exact Nat.pow_pos (by decide)
  · refine (Nat.log2_lt h0).mp ?_
    unfold Builtin.Int.intBits at h
    split at h
    · rename_i q
      exfalso
      simp at q
      omega
    · omega
theorem law_true : MIS.LawTrue P "law_v19" 80 := fun ns hl hb => by
  obtain ⟨r, η', e, rfl⟩ := (law_ok (n := 10) (η := []) hl fun z hz => small_of (hb z hz)).ok
  exact ⟨η', e⟩

end Law
open PySem PySem.W PyProof.Rows
set_option maxRecDepth 100000 in
set_option maxHeartbeats 0 in
theorem PySem.Challenge.cw_circuits_k21_form_of_cover_holds : PySem.Challenge.rw_circuits_k21_form_of_cover.Holds := by
  w_on; o_law; k_head; (case hw => w_witness2)
  k_fill
  refine MIS.walk_law (l := PySem.Challenge.rw_circuits_k21_form_of_cover) (k := 80) (x := "_law_script") rfl rfl ⟨rfl, by decide, by decide⟩ (fun w h Y => PySem.W.kIn_of Y) ?F
  case F =>
    intro w mg fa h KX G hmg
    refine' Law.all_mk KX G hmg Law.law_true ?a0 ?l0 ?c0 ?k0 ?a1 ?l1 ?c1 ?k1 ?a2 ?l2 ?c2 ?k2 ?a3 ?l3 ?c3 ?k3 ?a4 ?l4 ?c4 ?k4 ?a5 ?l5 ?c5 ?k5 ?a6 ?l6 ?c6 ?k6 ?a7 ?l7 ?c7 ?k7 ?a8 ?l8 ?c8 ?k8 ?a9 ?l9 ?c9 ?k9 ?a10 ?l10 ?c10 ?k10 ?a11 ?l11 ?c11 ?k11 ?z0 ?z1 ?z2 ?z3 ?z4 ?z5 ?z6 ?z7 ?z8 ?z9 ?z10
    (case a0 => k_is)
    (case l0 => k_is)
    (case c0 => k_is)
    (case k0 => k_is)
    (case a1 => k_is)
    (case l1 => k_is)
    (case c1 => k_is)
    (case k1 => k_is)
    (case a2 => k_is)
    (case l2 => k_is)
    (case c2 => k_is)
    (case k2 => k_is)
    (case a3 => k_is)
    (case l3 => k_is)
    (case c3 => k_is)
    (case k3 => k_is)
    (case a4 => k_is)
    (case l4 => k_is)
    (case c4 => k_is)
    (case k4 => k_is)
    (case a5 => k_is)
    (case l5 => k_is)
    (case c5 => k_is)
    (case k5 => k_is)
    (case a6 => k_is)
    (case l6 => k_is)
    (case c6 => k_is)
    (case k6 => k_is)
    (case a7 => k_is)
    (case l7 => k_is)
    (case c7 => k_is)
    (case k7 => k_is)
    (case a8 => k_is)
    (case l8 => k_is)
    (case c8 => k_is)
    (case k8 => k_is)
    (case a9 => k_is)
    (case l9 => k_is)
    (case c9 => k_is)
    (case k9 => k_is)
    (case a10 => k_is)
    (case l10 => k_is)
    (case c10 => k_is)
    (case k10 => k_is)
    (case a11 => k_is)
    (case l11 => k_is)
    (case c11 => k_is)
    (case k11 => k_is)
    (case z0 => k_is)
    (case z1 => k_is)
    (case z2 => k_is)
    (case z3 => k_is)
    (case z4 => k_is)
    (case z5 => k_is)
    (case z6 => k_is)
    (case z7 => k_is)
    (case z8 => k_is)
    (case z9 => k_is)
    (case z10 => k_is)
