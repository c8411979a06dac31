import PyProof.Rows.All
import Wide.All
import OpenK.AllK
import Wide.FinOn
import HandS.ForMost
import HandS.Exc
import HandS.ExcOwn
import HandS.TryOnly
import HandS.Flow
import HandS.Style
import HandS.TupAny
import HandS.TupMul
import HandS.Deep
import HandS.SortInts
import HandS.Strs
import HandS.SortRule
import HandS.HotCalls
import HandS.ExcIs
import HandS.WordsExc
import HandS.EndBits
import HandS.Zip
import HandS.Iter
import HandS.SetFor
import PyProof.ReprRoads
import HandS.Conv
import HandS.IsInst
import HandS.NoneIn
import HandS.Defaults
import HandS.Head0
import HandS.Head1
import HandS.Head2
import HandS.HeadEnd
import HandS.HeadHook1
import HandS.HeadHook2
import PySem.Challenge.RW_circuits_k42_gone
set_option Elab.async false
set_option linter.all false
/-! MI: a small interpreter of a part of Python, in core Lean: values, a heap of mutable things, calls by fuel. -/
set_option autoImplicit false
namespace MI

inductive D where
  | non
  | bl (b : Bool)
  | int (i : Int)
  | str (s : List Nat)
  | tup (xs : List D)
  | ref (i : Nat)
  | exc (c : Nat)
  | lst (xs : List D)
  | sq (xs : List D)
  | dic (ks vs : List D)
  deriving Inhabited

inductive O where
  | lst (xs : List D)
  | frz (xs : List D)
  | dic (kvs : List (D × D))
  | set (xs : List D)
  | ins (c : Nat) (fs : List (String × D))
  deriving Inhabited

abbrev Hv := List O
inductive Rs (α : Type) where
  | ok (a : α) (h : Hv)
  | ex (c : Nat) (h : Hv)
  | bad
abbrev Mo (α : Type) := Hv → Rs α
def Mo.pure {α : Type} (a : α) : Mo α := fun h => .ok a h
def Mo.bind {α β : Type} (m : Mo α) (f : α → Mo β) : Mo β := fun h => match m h with
  | .ok a h' => f a h'
  | .ex c h' => .ex c h'
  | .bad => .bad
def badM {α : Type} : Mo α := fun _ => .bad
def raiM {α : Type} (c : Nat) : Mo α := fun h => .ex c h
/-- what may lack -/
def ofO {α : Type} : Option α → Mo α
  | some a => .pure a
  | none => badM
def lookM {α : Type} (f : Hv → Option α) : Mo α := fun h => match f h with
  | some a => .ok a h
  | none => .bad
def allocM (o : O) : Mo D := fun h => .ok (.ref h.length) (h ++ [o])

/-! ### equality -/
def b2D (b : Bool) : Int := if b = true then 1 else 0
mutual
def D.eqv : D → D → Bool
  | .non, .non => true
  | .bl a, .bl b => a == b
  | .int i, .int j => i == j
  | .bl a, .int j => b2D a == j
  | .int i, .bl b => i == b2D b
  | .str x, .str y => x == y
  | .tup xs, .tup ys => D.eqvs xs ys
  | .sq xs, .sq ys => D.eqvs xs ys
  | _, _ => false
def D.eqvs : List D → List D → Bool
  | [], [] => true
  | x :: xs, y :: ys => D.eqv x y && D.eqvs xs ys
  | _, _ => false
end
def lim : Nat := 16777216
mutual
/-- how deep; every text below the line -/
def D.dep : D → Nat
  | .tup xs => D.deps xs + 1
  | .lst xs => D.deps xs + 1
  | .sq xs => D.deps xs + 1
  | _ => 0
def D.deps : List D → Nat
  | [] => 0
  | x :: xs => max (D.dep x) (D.deps xs)
end
mutual
def D.fine : D → Bool
  | .str s => s.all fun c => decide (c < 1114112)
  | .tup xs => D.fines xs
  | .sq xs => D.fines xs
  | .lst _ => false
  | .ref _ => false
  | .exc _ => false
  | .dic _ _ => false
  | _ => true
def D.fines : List D → Bool
  | [] => true
  | x :: xs => D.fine x && D.fines xs
end
/-- the list at an address -/
def getL (h : Hv) : D → Option (List D)
  | .ref i => match h[i]? with
    | some (.lst xs) => some xs
    | some (.frz xs) => some xs
    | _ => none
  | .lst xs => some xs
  | _ => none
def getR (h : Hv) : D → Option (List D)
  | .ref i => getL h (.ref i)
  | _ => none
mutual
/-- a value with the lists that f tells in the references' stead -/
def deepW (f : Nat → Option D) : D → Option D
  | .tup xs => (deepsW f xs).map .tup
  | .ref i => f i
  | .non => some .non
  | .bl b => some (.bl b)
  | .int i => some (.int i)
  | .str s => some (.str s)
  | .exc _ => none
  | .lst _ => none
  | .sq _ => none
  | .dic _ _ => none
def deepsW (f : Nat → Option D) : List D → Option (List D)
  | [] => some []
  | x :: xs => (deepW f x).bind fun y => (deepsW f xs).map fun ys => y :: ys
end
def deepR (h : Hv) : Nat → Nat → Option D
  | 0, _ => none
  | n + 1, i => match h[i]? with
    | some (.lst xs) => (deepsW (deepR h n) xs).map .sq
    | some (.frz xs) => (deepsW (deepR h n) xs).map .sq
    | _ => none
def deep (h : Hv) (d : D) : Option D := deepW (deepR h 6) d
def shp (d : D) : Bool := D.fine d && decide (D.dep d ≤ 60)
/-- x == y -/
def eqH (x y : D) (h : Hv) : Option Bool := (deep h x).bind fun a => (deep h y).bind fun b => if shp a && shp b then some (D.eqv a b) else none
def eqM (x y : D) : Mo Bool := lookM (eqH x y)

/-! ### syntax -/
inductive Op where | add | sub | mul | fdiv | mod | pow
  deriving DecidableEq
inductive Cm where | eq | ne | lt | le | gt | ge | is | isn | isin | nin
  deriving DecidableEq
inductive Bf where | len | tuple | list | int | min | max | all | any | sum | set | sorted | str | repr | dict
  deriving DecidableEq
inductive Mh where | append | pop | reverse | clear | index | count | join | get | update | split | partition | replace | insert
  deriving DecidableEq
inductive Ty where | bool | int | str | tuple | list | dict
  deriving DecidableEq
mutual
inductive ME where
  | loc (i : Nat)
  | cst (d : D)
  | tup (es : List ME)
  | lst (es : List ME)
  | dic (ks vs : List ME)
  | bin (o : Op) (a b : ME)
  | neg (a : ME)
  | not (a : ME)
  | and (a b : ME)
  | or (a b : ME)
  | cmp (o : Cm) (a b : ME)
  | chn (o p : Cm) (a b c : ME)
  | ife (c a b : ME)
  | idx (a i : ME)
  | slc (a : ME) (lo hi : Option ME)
  | call (f : String) (es : List ME)
  | blt (f : Bf) (es : List ME)
  | mth (m : Mh) (o : ME) (es : List ME)
  | own (m : String) (o : ME) (es : List ME)
  | new (c : Nat) (es : List ME)
  | fld (o : ME) (x : String)
  | isi (e : ME) (t : Ty)
  | ise (e : ME) (c : Nat)
  | lc (tg : Tgt) (it : ITr) (cond : Option ME) (elt : ME)
  | skey (e : ME) (f : String)
  | mkey (e : ME) (i : Nat) (f : ME)
  | mdef (mx : Bool) (e d : ME)
  | sset (e : ME)
  | lset (e : ME)
  | lrng (es : List ME)
inductive Tgt where
  | one (i : Nat)
  | two (i j : Nat)
inductive ITr where
  | seq (e : ME)
  | rng (a : ME)
  | rng2 (a b : ME)
  | enm (e : ME)
  | zip (a b : ME)
end
/-- the body of a try: expressions, by cases -/
inductive MT where
  | exp (e : ME)
  | ife (c : ME) (a b : MT)
inductive MS where
  | set (i : Nat) (e : ME)
  | upk (is : List Nat) (e : ME)
  | par (is : List Nat) (es : List ME)
  | sub (o i e : ME)
  | fld (o : ME) (x : String) (e : ME)
  | exp (e : ME)
  | ret (e : ME)
  | ife (c : ME) (a b : List MS)
  | for_ (tg : Tgt) (it : ITr) (body : List MS)
  | whl (c : ME) (body : List MS)
  | rse (c : Nat)
  | nev
  | try_ (body : MT) (hs : List (Nat × Option Nat × List MS))
  | pas
abbrev Rho := List (Option D)
inductive Fl where
  | nx (ρ : Rho)
  | rt (d : D)

/-! ### operations -/
def toI : D → Option Int
  | .int i => some i
  | .bl b => some (b2D b)
  | _ => none
def bigI : Int := 18446744073709551616
def binM (o : Op) (x y : D) : Mo D := match o, x, y with
  | .add, .int i, .int j => .pure (.int (i + j))
  | .add, .int i, .bl b => .pure (.int (i + b2D b))
  | .add, .str a, .str b => fun h => if a.length + b.length ≤ lim then .ok (.str (a ++ b)) h else .bad
  | .add, .tup a, .tup b => fun h => if a.length + b.length ≤ lim then .ok (.tup (a ++ b)) h else .bad
  | .add, .ref i, .ref j => fun h => match h[i]?, h[j]? with
    | some (.lst a), some (.lst b) => if a.length + b.length ≤ lim then allocM (.lst (a ++ b)) h else .bad
    | _, _ => .bad
  | .sub, .int i, .int j => .pure (.int (i - j))
  | .mul, .int i, .int j => fun h => if ((-bigI < i ∧ i < bigI) ∨ (-bigI < j ∧ j < bigI)) ∨ i.natAbs.log2 + j.natAbs.log2 < 134217000 then .ok (.int (i * j)) h else .bad
  | .mul, .tup a, .int k => fun h => if (0 ≤ k ∧ k ≤ 1000) ∧ a.length ≤ 1000 then .ok (.tup (List.replicate k.toNat a).flatten) h else .bad
  | .mul, .ref i, .int k => fun h => match h[i]? with
    | some (.lst a) => if 0 ≤ k ∧ k < 16777216 ∧ a.length * k.toNat ≤ lim then allocM (.lst (List.replicate k.toNat a).flatten) h else .bad
    | _ => .bad
  | .fdiv, .int i, .int j => fun h => if 0 < j ∧ j < 1073741824 then .ok (.int (i / j)) h else .bad
  | .mod, .int i, .int j => fun h => if 0 < j then .ok (.int (i % j)) h else .bad
  | .pow, .int i, .int j => fun h => if 0 ≤ j ∧ j ≤ 1000000 ∧ i.natAbs < 18446744073709551616 then .ok (.int (i ^ j.toNat)) h else .bad
  | _, _, _ => badM
/-- kinds -/
inductive Tk where | non | bl | int | str | tup | list | set
def tyD (d : D) (h : Hv) : Option Tk := match d with
  | .non => some .non
  | .bl _ => some .bl
  | .int _ => some .int
  | .str _ => some .str
  | .tup _ => some .tup
  | .ref i => match h[i]? with
    | some (.lst _) => some .list
    | some (.frz _) => some .list
    | _ => none
  | _ => none
def isT : Ty → Tk → Bool
  | .bool, .bl => true
  | .int, .bl => true
  | .int, .int => true
  | .str, .str => true
  | .tuple, .tup => true
  | .list, .list => true
  | _, _ => false
/-- truth -/
def truH (d : D) (h : Hv) : Option Bool := match d with
  | .non => some false
  | .bl b => some b
  | .int i => some (i != 0)
  | .str s => if s.length ≤ lim then some (!s.isEmpty) else none
  | .tup xs => if xs.length ≤ lim then some (!xs.isEmpty) else none
  | .ref i => match h[i]? with
    | some (.lst xs) => some (!xs.isEmpty)
    | some (.frz xs) => some (!xs.isEmpty)
    | some (.dic kvs) => some (!kvs.isEmpty)
    | _ => none
  | _ => none
def truM (d : D) : Mo Bool := lookM (truH d)
def natLt : List Nat → List Nat → Bool
  | [], [] => false
  | [], _ :: _ => true
  | _ :: _, [] => false
  | x :: xs, y :: ys => if x < y then true else if x = y then natLt xs ys else false
/-- membership, item by item -/
def memH (x : D) (ys : List D) (h : Hv) : Option Bool := (deep h x).bind fun a => (deepsW (deepR h 6) ys).bind fun bs =>
  if shp a && bs.all shp then some (bs.any fun b => D.eqv b a) else none
def keyI : D → D
  | .bl b => .int (b2D b)
  | d => d
def keyOk1 : D → Bool
  | .int _ => true
  | .str _ => true
  | .bl _ => true
  | .non => true
  | _ => false
def keyOk : D → Bool
  | .tup xs => xs.all keyOk1
  | d => keyOk1 d
def isFlat : D → Bool
  | .tup _ => false
  | _ => true
def subAt (x : List Nat) : List Nat → Bool
  | [] => x.isEmpty
  | y :: ys => x.isPrefixOf (y :: ys) || subAt x ys
def flatD : D → Bool
  | .non => true
  | .bl _ => true
  | .int _ => true
  | .str _ => true
  | _ => false
def getD (h : Hv) : D → Option (List (D × D))
  | .ref i => match h[i]? with
    | some (.dic kvs) => some kvs
    | _ => none
  | _ => none
def inH (x y : D) (h : Hv) : Option Bool := match getL h y with
  | some ys => memH x ys h
  | none => match getD h y with
    | some kvs => if keyOk x && kvs.all (fun kv => isFlat kv.1 == isFlat x) then some (kvs.any fun kv => D.eqv kv.1 x) else none
    | none => match y with
      | .tup ys => if flatD x && ys.all flatD then some (ys.any fun y => D.eqv y x) else none
      | .str s => match x with
        | .str [c] => some (s.any (· == c))
        | _ => none
      | _ => none
def cmpH (o : Cm) (x y : D) (h : Hv) : Option Bool := match o with
  | .eq => eqH x y h
  | .ne => (eqH x y h).map (!·)
  | .isin => inH x y h
  | .nin => (inH x y h).map (!·)
  | .is => match y with
    | .non => some (match x with | .non => true | _ => false)
    | .bl b => some (match x with | .bl c => c == b | _ => false)
    | _ => none
  | .isn => match y with
    | .non => some (match x with | .non => false | _ => true)
    | .bl b => some (match x with | .bl c => !(c == b) | _ => true)
    | _ => none
  | .lt => match x, y with
    | .int i, .int j => some (decide (i < j))
    | _, _ => none
  | .le => match x, y with
    | .int i, .int j => some (decide (i ≤ j))
    | _, _ => none
  | .gt => match x, y with
    | .int i, .int j => some (decide (j < i))
    | _, _ => none
  | .ge => match x, y with
    | .int i, .int j => some (decide (j ≤ i))
    | _, _ => none
def cmpM (o : Cm) (x y : D) : Mo Bool := lookM (cmpH o x y)
/-- the place of an index -/
def ixD (n : Nat) (i : Int) : Option Nat := if 0 ≤ i then (if i < n then some i.toNat else none) else if -(n : Int) ≤ i then some (i + n).toNat else none
def atD {α : Type} (xs : List α) (i : Int) : Option α := (ixD xs.length i).bind fun j => xs[j]?
def dget (kvs : List (D × D)) (k : D) : Option D := (kvs.find? fun kv => D.eqv kv.1 k).map (·.2)
def dput (kvs : List (D × D)) (k v : D) : List (D × D) := if (kvs.any fun kv => D.eqv kv.1 k) = true then kvs.map (fun kv => if D.eqv kv.1 k = true then (kv.1, v) else kv) else kvs ++ [(k, v)]
def okKey (kvs : List (D × D)) (k : D) : Bool := keyOk k && kvs.all fun kv => isFlat kv.1 == isFlat k
def idxH (x y : D) (h : Hv) : Option D := match x, y with
  | .tup xs, .int i => atD xs i
  | .lst xs, .int i => atD xs i
  | .str s, .int i => if s.length ≤ lim then (atD s i).map fun c => .str [c] else none
  | .ref a, k => match h[a]? with
    | some (.lst xs) => match k with | .int i => atD xs i | _ => none
    | some (.frz xs) => match k with | .int i => atD xs i | _ => none
    | some (.dic kvs) => if okKey kvs k then dget kvs k else none
    | _ => none
  | _, _ => none
def idxM (x y : D) : Mo D := lookM (idxH x y)
/-- the bounds of a slice -/
def sIxD (n d : Nat) : Option Int → Nat
  | none => d
  | some i => if i < 0 then (i + n).toNat else min i.toNat n
def mcut {α : Type} (xs : List α) (lo hi : Option Int) : List α := (xs.drop (sIxD xs.length 0 lo)).take (sIxD xs.length xs.length hi - sIxD xs.length 0 lo)
def slcM (x : D) (lo hi : Option Int) : Mo D := match x with
  | .tup xs => .pure (.tup (mcut xs lo hi))
  | .str s => fun h => if s.length ≤ lim then .ok (.str (mcut s lo hi)) h else .bad
  | .ref a => fun h => match h[a]? with
    | some (.lst xs) => allocM (.lst (mcut xs lo hi)) h
    | some (.frz xs) => allocM (.lst (mcut xs lo hi)) h
    | _ => .bad
  | .lst xs => fun h => allocM (.lst (mcut xs lo hi)) h
  | _ => badM
def optI : D → Option Int
  | .int i => some i
  | _ => none
/-! ### sorting -/
def ltD : D → D → Bool
  | .int i, .int j => decide (i < j)
  | .str a, .str b => natLt a b
  | _, _ => false
mutual
def ltT : D → D → Bool
  | .int i, .int j => decide (i < j)
  | .str a, .str b => natLt a b
  | .tup a, .tup b => ltTs a b
  | _, _ => false
def ltTs : List D → List D → Bool
  | [], [] => false
  | [], _ :: _ => true
  | _ :: _, [] => false
  | x :: xs, y :: ys => if D.eqv x y = true then ltTs xs ys else ltT x y
end
def insI {α : Type} (lt : α → α → Bool) (x : α) : List α → List α
  | [] => [x]
  | y :: ys => if lt x y = true then x :: y :: ys else y :: insI lt x ys
def isort {α : Type} (lt : α → α → Bool) (xs : List α) : List α := xs.foldl (fun acc x => insI lt x acc) []
def allInt (xs : List D) : Bool := xs.all fun | .int _ => true | _ => false
def allStr (xs : List D) : Bool := xs.all fun | .str _ => true | _ => false
def allPair (xs : List D) : Bool := xs.all fun | .tup [.int _, .int _] => true | _ => false
def sortH (xs : List D) : Option (List D) := if allInt xs || allStr xs || allPair xs then some (isort ltT xs) else none
/-- the members of a set, in the order in which they came -/
def nubU : List D → List D
  | [] => []
  | x :: xs => x :: (nubU xs).filter fun y => !D.eqv y x
def nubL (xs : List D) : List D := xs.foldl (fun acc x => if acc.any (fun y => D.eqv y x) = true then acc else acc ++ [x]) []
/-- what a list, a tuple, a set, a dict holds -/
def itemsH (d : D) (h : Hv) : Option (List D) := match d with
  | .tup xs => some xs
  | .str s => some (s.map fun c => .str [c])
  | .ref i => match h[i]? with
    | some (.lst xs) => some xs
    | some (.frz xs) => some xs
    | some (.dic kvs) => some (kvs.map (·.1))
    | _ => none
  | _ => none
def isSet (d : D) (h : Hv) : Option (List D) := match d with
  | .ref i => match h[i]? with
    | some (.set xs) => some xs
    | _ => none
  | _ => none
def intsOf : List D → Option (List Int)
  | [] => some []
  | .int i :: xs => (intsOf xs).map (i :: ·)
  | _ => none
def boolsOf : List D → Option (List Bool)
  | [] => some []
  | .bl i :: xs => (boolsOf xs).map (i :: ·)
  | _ => none
def strsOf : List D → Option (List (List Nat))
  | [] => some []
  | .str i :: xs => (strsOf xs).map (i :: ·)
  | _ => none
def maxI (i : Int) (xs : List Int) : Int := xs.foldl (fun a b => if a < b then b else a) i
def minI (i : Int) (xs : List Int) : Int := xs.foldl (fun a b => if b < a then b else a) i
def strI (i : Int) : List Nat := (toString i).toList.map Char.toNat
def joinS (sep : List Nat) : List (List Nat) → List Nat
  | [] => []
  | [x] => x
  | x :: xs => x ++ sep ++ joinS sep xs
def lenH (d : D) (h : Hv) : Option Nat := match d with
  | .str s => if s.length ≤ lim then some s.length else none
  | .tup xs => if xs.length ≤ lim then some xs.length else none
  | .lst xs => if xs.length ≤ lim then some xs.length else none
  | .ref i => match h[i]? with
    | some (.lst xs) => some xs.length
    | some (.frz xs) => some xs.length
    | some (.dic kvs) => some kvs.length
    | _ => none
  | _ => none
/-- the items of a list or a tuple -/
def seqH (d : D) (h : Hv) : Option (List D) := match d with
  | .tup xs => some xs
  | d => getL h d
def allPairD (xs : List D) : Bool := xs.all fun | .tup [.int _, .int _] => true | _ => false
def getS (h : Hv) : D → Option (List D)
  | .ref i => match h[i]? with
    | some (.set xs) => some xs
    | _ => none
  | _ => none
def leI (a b : Int) : Bool := decide (a ≤ b)
def sortI (ns : List Int) : List Int := ns.mergeSort leI
def uniq (ns : List Int) : List Int := ns.foldl (fun acc x => if x ∈ acc then acc else acc ++ [x]) []
/-- the text of a thing -/
def repB (b : Bool) : List Nat := if b = true then [84, 114, 117, 101] else [70, 97, 108, 115, 101]
mutual
def D.rep : D → List Nat
  | .non => [78, 111, 110, 101]
  | .bl b => repB b
  | .int i => strI i
  | .str s => 39 :: s ++ [39]
  | .tup xs => 40 :: joinS [44, 32] (D.reps xs) ++ (if xs.length = 1 then [44, 41] else [41])
  | .sq xs => 91 :: joinS [44, 32] (D.reps xs) ++ [93]
  | _ => []
def D.reps : List D → List (List Nat)
  | [] => []
  | x :: xs => D.rep x :: D.reps xs
end
def plainC (c : Nat) : Bool := decide (32 ≤ c ∧ c < 127) && c != 39 && c != 92
mutual
def okRep : D → Bool
  | .non => true
  | .bl _ => true
  | .int i => decide (i.natAbs.log2 < 1900)
  | .str s => s.all plainC
  | .tup xs => okReps xs
  | .sq xs => okReps xs
  | _ => false
def okReps : List D → Bool
  | [] => true
  | x :: xs => okRep x && okReps xs
end
def repK : D → Bool
  | .int _ => true
  | .tup _ => true
  | .ref _ => true
  | _ => false
def repKV : D → Bool
  | .int _ => true
  | .tup _ => true
  | .sq _ => true
  | _ => false
def repOk (d : D) : Bool := shp d && okRep d && decide ((D.rep d).length ≤ lim)
/-- pairs of ints -/
def pairsOf : List D → Option (List (Int × Int))
  | [] => some []
  | .tup [.int i, .int j] :: xs => (pairsOf xs).map ((i, j) :: ·)
  | _ => none
def leP (a b : Int × Int) : Bool := if a.1 = b.1 then decide (a.2 ≤ b.2) else decide (a.1 ≤ b.1)
def sortP (ps : List (Int × Int)) : List (Int × Int) := ps.mergeSort leP
def pairI (p : Int × Int) : D := .tup [.int p.1, .int p.2]
def bltM (f : Bf) (vs : List D) : Mo D := match f, vs with
  | .len, [x] => lookM fun h => (lenH x h).map fun (n : Nat) => .int n
  | .tuple, [x] => lookM fun h => (seqH x h).map .tup
  | .list, [x] => fun h => match seqH x h with
    | some xs => allocM (.lst xs) h
    | none => match getD h x with
      | some kvs => allocM (.lst (kvs.map (·.1))) h
      | none => .bad
  | .int, [.int i] => .pure (.int i)
  | .int, [.bl b] => .pure (.int (b2D b))
  | .min, [.int i, .int j] => .pure (.int (if j < i then j else i))
  | .max, [.int i, .int j] => .pure (.int (if j > i then j else i))
  | .all, [x] => lookM fun h => (getL h x).bind fun xs => (boolsOf xs).map fun bs => .bl (bs.all id)
  | .any, [x] => lookM fun h => (getL h x).bind fun xs => (boolsOf xs).map fun bs => .bl (bs.any id)
  | .sum, [x] => lookM fun h => (getL h x).bind fun xs => (intsOf xs).map fun bs => .int bs.sum
  | .max, [x] => lookM fun h => (getL h x).bind fun xs => (intsOf xs).bind fun | [] => none | i :: r => some (.int (maxI i r))
  | .min, [x] => lookM fun h => (getL h x).bind fun xs => (intsOf xs).bind fun | [] => none | i :: r => some (.int (minI i r))
  | .set, [x] => fun h => match (getL h x).bind intsOf with
    | some ns => if ns.length < 4000 then allocM (.set ((uniq ns).map .int)) h else .bad
    | none => .bad
  | .sorted, [x] => fun h => match getS h x with
    | some xs => match intsOf xs with
      | some ns => if ns.length < 64 then allocM (.lst ((sortI ns).map .int)) h else .bad
      | none => .bad
    | none => match getL h x with
      | some xs => match intsOf xs with
        | some ns => allocM (.lst ((sortI ns).map .int)) h
        | none => match pairsOf xs with
          | some ps => allocM (.lst ((sortP ps).map pairI)) h
          | none => .bad
      | none => .bad
  | .str, [.int i] => if i.natAbs.log2 < 1900 then .pure (.str (strI i)) else badM
  | .repr, [x] => lookM fun h => if repK x = true then (deep h x).bind fun a => if repOk a = true then some (.str (D.rep a)) else none else none
  | _, _ => badM
/-- how many different ones -/
def lsetD (xs : List D) : Option D := if (allStr xs || allInt xs) = true ∧ xs.length < 4000 then some (.int (nubL xs).length) else none
def idxOf (x : D) : List D → Nat → Option Nat
  | [], _ => none
  | y :: ys, n => if D.eqv y x = true then some n else idxOf x ys (n + 1)
def mthM (m : Mh) (o : D) (vs : List D) : Mo D := match m, o, vs with
  | .append, .ref i, [x] => fun h => match h[i]? with
    | some (.lst xs) => if xs.length < lim then .ok .non (h.set i (.lst (xs ++ [x]))) else .bad
    | _ => .bad
  | .pop, .ref i, [] => fun h => match h[i]? with
    | some (.lst xs) => match xs.getLast? with | some y => .ok y (h.set i (.lst xs.dropLast)) | none => .bad
    | _ => .bad
  | .pop, .ref i, [.int k] => fun h => match h[i]? with
    | some (.lst xs) => match (if -4611686018427387904 ≤ k ∧ k < 4611686018427387904 then ixD xs.length k else none) with | some j => (match xs[j]? with | some y => .ok y (h.set i (.lst (xs.eraseIdx j))) | none => .bad) | none => .bad
    | _ => .bad
  | .reverse, .ref i, [] => fun h => match h[i]? with
    | some (.lst xs) => .ok .non (h.set i (.lst xs.reverse))
    | _ => .bad
  | .clear, .ref i, [] => fun h => match h[i]? with
    | some (.lst _) => .ok .non (h.set i (.lst []))
    | some (.dic _) => .ok .non (h.set i (.dic []))
    | _ => .bad
  | .index, o, [x] => lookM fun h => (getL h o).bind fun ys => (memH x ys h).bind fun b => if b = true then (deep h x).bind fun a => (deepsW (deepR h 6) ys).bind fun bs => (idxOf a bs 0).map fun (n : Nat) => .int n else none
  | .count, o, [.int k] => lookM fun h => (getL h o).bind fun ys => (intsOf ys).map fun ns => .int (ns.count k)
  | .join, .str sep, [x] => lookM fun h => (seqH x h).bind fun xs => (strsOf xs).bind fun ss => if (ss.map List.length).sum + ss.length * sep.length ≤ lim then some (.str (joinS sep ss)) else none
  | .get, .ref i, [k, d] => fun h => match h[i]? with
    | some (.dic kvs) => if okKey kvs k then .ok ((dget kvs k).getD d) h else .bad
    | _ => .bad
  | .update, .ref i, [.ref j] => fun h => match h[i]?, h[j]? with
    | some (.dic kvs), some (.dic more) => if i ≠ j then .ok .non (h.set i (.dic (more.foldl (fun acc kv => dput acc kv.1 kv.2) kvs))) else .bad
    | _, _ => .bad
  | _, _, _ => badM
/-- what has the method -/
def kndH (m : Mh) (d : D) (h : Hv) : Option Unit := match m with
  | .join => match d with | .str _ => some () | _ => none
  | .split => match d with | .str _ => some () | _ => none
  | .partition => match d with | .str _ => some () | _ => none
  | .replace => match d with | .str _ => some () | _ => none
  | .get => (getD h d).map fun _ => ()
  | .update => (getD h d).map fun _ => ()
  | _ => (getL h d).map fun _ => ()
def fget (fs : List (String × D)) (x : String) : Option D := fs.lookup x
def fput (x : String) (v : D) : List (String × D) → List (String × D)
  | [] => [(x, v)]
  | p :: r => if p.1 = x then (x, v) :: r else p :: fput x v r
/-- the classes of refusals: 0 CircuitError, the others beneath it -/
def subC (c d : Nat) : Bool := d == c || d == 0 || d == 10

/-! ### evaluation -/
structure FD where
  ar : Nat
  ns : Nat
  body : List MS
abbrev PrM := String → Option FD
abbrev ClM := String → List D → Mo D
def setT (ρ : Rho) : Tgt → D → Option Rho
  | .one i, d => some (ρ.set i (some d))
  | .two i j, .tup [a, b] => some ((ρ.set i (some a)).set j (some b))
  | _, _ => none
def wipeT (ρ : Rho) : Tgt → Rho
  | .one i => ρ.set i none
  | .two i j => (ρ.set j none).set i none
/-- what is walked: at a turn nothing is known, it ends, or the item -/
abbrev Nxt := Nat → Hv → Option (Option D)
def nxSeq (v : D) : Nxt := fun i h => match v with
  | .tup xs => some xs[i]?
  | .str s => some (s[i]?.map fun c => .str [c])
  | .ref a => (getL h (.ref a)).map fun xs => xs[i]?
  | _ => none
def seqK (v : D) (h : Hv) : Option Unit := match v with
  | .tup _ => some ()
  | .str _ => some ()
  | .ref a => (getL h (.ref a)).map fun _ => ()
  | _ => none
def nxRng (lo hi : Int) : Nxt := fun i _ => if i < (hi - lo).toNat then some (some (.int (lo + i))) else some none
def nxEnm (v : D) : Nxt := fun i h => (getR h v).map fun xs => xs[i]?.map fun x => .tup [.int i, x]
def zip2 (xs ys : List D) (i : Nat) : Option D := match xs[i]?, ys[i]? with
  | some x, some y => some (.tup [x, y])
  | _, _ => none
def nxZip (v w : D) : Nxt := fun i h => match v, w with
  | .tup xs, .tup ys => some (zip2 xs ys i)
  | .ref a, .ref b => (getL h (.ref a)).bind fun xs => (getL h (.ref b)).map fun ys => zip2 xs ys i
  | _, _ => none
def zipK (v w : D) (h : Hv) : Option Unit := match v, w with
  | .tup _, .tup _ => some ()
  | .ref a, .ref b => (getL h (.ref a)).bind fun _ => (getL h (.ref b)).map fun _ => ()
  | _, _ => none
def rngOk (i : Int) : Bool := decide (-4611686018427387904 ≤ i ∧ i < 4611686018427387904)
theorem wfu_ex : ∃ n : Nat, 1099511627776 ≤ n := ⟨_, Nat.le_refl _⟩
noncomputable section
/-- turns enough; no numeral, so that nobody counts it down -/
def WFu : Nat := Classical.choose wfu_ex
theorem wfu_ge : 1099511627776 ≤ WFu := Classical.choose_spec wfu_ex
/-- a for: turns left, the turn's number -/
def forN (nx : Nxt) (tg : Tgt) (body : Rho → Mo Fl) : Nat → Nat → Rho → Mo Fl
  | 0, _, _ => badM
  | n + 1, i, ρ => fun h => match nx i h with
    | none => .bad
    | some none => .ok (.nx ρ) h
    | some (some d) => match setT ρ tg d with
      | none => .bad
      | some ρ1 => (body ρ1).bind (fun | .nx ρ' => forN nx tg body n (i + 1) ρ' | .rt v => .pure (.rt v)) h
def whlN (c : Rho → Mo Bool) (body : Rho → Mo Fl) : Nat → Rho → Mo Fl
  | 0, _ => badM
  | n + 1, ρ => (c ρ).bind fun b => if b = true then (body ρ).bind (fun | .nx ρ' => whlN c body n ρ' | .rt v => .pure (.rt v)) else .pure (.nx ρ)
/-- nothing is raised -/
def safeM {α : Type} (m : Mo α) : Mo α := fun h => match m h with
  | .ok a h' => .ok a h'
  | _ => .bad
/-- a comprehension: what is made so far -/
def lcN (nx : Nxt) (tg : Tgt) (cond : Rho → Mo Bool) (elt : Rho → Mo D) (ρ : Rho) : Nat → Nat → List D → Mo (List D)
  | 0, _, _ => badM
  | n + 1, i, acc => fun h => match nx i h with
    | none => .bad
    | some none => .ok acc h
    | some (some d) => match setT (wipeT ρ tg) tg d with
      | none => .bad
      | some ρ1 => ((safeM (cond ρ1)).bind fun b => if b = true then (safeM (elt ρ1)).bind fun y => if acc.length < lim then lcN nx tg cond elt ρ n (i + 1) (acc ++ [y]) else badM else lcN nx tg cond elt ρ n (i + 1) acc) h
/-- keys of a sort by a def -/
def keysM (f : D → Mo D) : List D → Mo (List D)
  | [] => .pure []
  | x :: xs => (f x).bind fun k => (keysM f xs).bind fun ks => .pure (k :: ks)
def getI : D → Mo Int
  | .int i => .pure i
  | _ => badM
def minK : List (Int × D) → Option D
  | [] => none
  | p :: r => some (r.foldl (fun a b => if b.1 < a.1 then b else a) p).2
def intKeys : List D → List D → Option (List (Int × D))
  | [], [] => some []
  | .int i :: ks, x :: xs => (intKeys ks xs).map ((i, x) :: ·)
  | _, _ => none
def dispD : List D → List D → List (D × D) → Option (List (D × D))
  | [], [], acc => some acc
  | k :: ks, v :: vs, acc => if okKey acc k then dispD ks vs (dput acc k v) else none
  | _, _, _ => none
def locM (ρ : Rho) (i : Nat) : Mo D := match ρ[i]? with
  | some (some d) => .pure d
  | _ => badM
/-- list(range(..)) -/
def rgOkB (i j : Int) : Bool := decide ((-4611686018427387904 ≤ i ∧ i < 4611686018427387904) ∧ (-4611686018427387904 ≤ j ∧ j < 4611686018427387904) ∧ (j - i).toNat ≤ 16777216)
def rngD (lo hi : Int) : List D := (List.range (hi - lo).toNat).map fun (i : Nat) => D.int (lo + (i : Int))
def lrngM (ds : List D) : Mo D := match ds with
  | [.int j] => if rgOkB 0 j = true then allocM (.lst (rngD 0 j)) else badM
  | [.int i, .int j] => if rgOkB i j = true then allocM (.lst (rngD i j)) else badM
  | _ => badM
/-- an argument list's, a test's end -/
def ofTest (m : Mo D) : Mo Bool := m.bind truM
mutual
def evE (c c' : ClM) : ME → Rho → Mo D
  | .loc i, ρ => locM ρ i
  | .cst d, _ => .pure d
  | .tup es, ρ => (evEs c c' es ρ).bind fun ds => .pure (.tup ds)
  | .lst es, ρ => (evEs c c' es ρ).bind fun ds => allocM (.lst ds)
  | .dic ks vs, ρ => (evEs c c' ks ρ).bind fun ds => (evEs c c' vs ρ).bind fun es => (ofO (dispD ds es [])).bind fun kvs => allocM (.dic kvs)
  | .bin o a b, ρ => (evE c c' a ρ).bind fun x => (evE c c' b ρ).bind fun y => binM o x y
  | .neg a, ρ => (evE c c' a ρ).bind fun x => (getI x).bind fun i => .pure (.int (-i))
  | .not a, ρ => ((evE c c' a ρ).bind truM).bind fun b => .pure (.bl !b)
  | .and a b, ρ => (evE c c' a ρ).bind fun x => (truM x).bind fun t => if t = true then evE c c' b ρ else .pure x
  | .or a b, ρ => (evE c c' a ρ).bind fun x => (truM x).bind fun t => if t = true then .pure x else evE c c' b ρ
  | .cmp o a b, ρ => (evE c c' a ρ).bind fun x => (evE c c' b ρ).bind fun y => (cmpM o x y).bind fun t => .pure (.bl t)
  | .chn o p a b d, ρ => (evE c c' a ρ).bind fun x => (evE c c' b ρ).bind fun y => (cmpM o x y).bind fun t => if t = true then (evE c c' d ρ).bind fun z => (cmpM p y z).bind fun u => .pure (.bl u) else .pure (.bl false)
  | .ife t a b, ρ => ((evE c c' t ρ).bind truM).bind fun v => if v = true then evE c c' a ρ else evE c c' b ρ
  | .idx a i, ρ => (evE c c' a ρ).bind fun x => (evE c c' i ρ).bind fun y => idxM x y
  | .slc a lo hi, ρ => (evE c c' a ρ).bind fun x => (evO c c' lo ρ).bind fun l => (evO c c' hi ρ).bind fun u => slcM x l u
  | .call f es, ρ => (evEs c c' es ρ).bind fun ds => c f ds
  | .blt f es, ρ => (evEs c c' es ρ).bind fun ds => bltM f ds
  | .mth m o es, ρ => (evE c c' o ρ).bind fun x => (lookM (kndH m x)).bind fun _ => (evEs c c' es ρ).bind fun ds => mthM m x ds
  | .own m o es, ρ => (evE c c' o ρ).bind fun x => (evEs c c' es ρ).bind fun ds => c m (x :: ds)
  | .new k es, ρ => (evEs c c' es ρ).bind fun ds => (allocM (.ins k [])).bind fun o => (c' "Store.__init__" (o :: ds)).bind fun | .non => .pure o | _ => badM
  | .fld o x, ρ => (evE c c' o ρ).bind fun v => lookM fun h => match v with
    | .ref i => match h[i]? with
      | some (.ins _ fs) => fget fs x
      | _ => none
    | _ => none
  | .isi e t, ρ => (evE c c' e ρ).bind fun v => lookM fun h => (tyD v h).map fun k => .bl (isT t k)
  | .ise e k, ρ => (evE c c' e ρ).bind fun v => match v with
    | .exc j => .pure (.bl (subC j k))
    | _ => badM
  | .lc tg it cond elt, ρ => (evI c c' it ρ).bind fun nx => (lcN nx tg (evC c c' cond) (evE c c' elt) ρ WFu 0 []).bind fun acc => allocM (.lst acc)
  | .skey e f, ρ => (evE c c' e ρ).bind fun v => (lookM (seqH v)).bind fun xs => (keysM (fun x => c f [x]) xs).bind fun ks =>
      if allStr ks || allInt ks then allocM (.lst ((isort (fun (p q : D × D) => ltT p.1 q.1) (ks.zip xs)).map (·.2))) else badM
  | .mkey e i f, ρ => (evE c c' e ρ).bind fun v => (lookM (seqH v)).bind fun xs => (keysM (fun x => evE c c' f (ρ.set i (some x))) xs).bind fun ks =>
      ofO ((intKeys ks xs).bind minK)
  | .mdef mx e d, ρ => (evE c c' e ρ).bind fun v => (evE c c' d ρ).bind fun w => lookM fun h => (getL h v).bind fun xs => (intsOf xs).map fun
      | [] => w
      | i :: r => .int (if mx = true then maxI i r else minI i r)
  | .sset e, ρ => (evE c c' e ρ).bind fun v => (bltM .set [v]).bind fun s => bltM .sorted [s]
  | .lset e, ρ => (evE c c' e ρ).bind fun v => lookM fun h => (seqH v h).bind lsetD
  | .lrng es, ρ => (evEs c c' es ρ).bind lrngM
def evEs (c c' : ClM) : List ME → Rho → Mo (List D)
  | [], _ => .pure []
  | e :: es, ρ => (evE c c' e ρ).bind fun d => (evEs c c' es ρ).bind fun ds => .pure (d :: ds)
def evO (c c' : ClM) : Option ME → Rho → Mo (Option Int)
  | none, _ => .pure none
  | some e, ρ => (evE c c' e ρ).bind fun d => (getI d).bind fun i => .pure (some i)
def evC (c c' : ClM) : Option ME → Rho → Mo Bool
  | none, _ => .pure true
  | some t, ρ => (evE c c' t ρ).bind truM
def evI (c c' : ClM) : ITr → Rho → Mo Nxt
  | .seq e, ρ => (evE c c' e ρ).bind fun v => (lookM (seqK v)).bind fun _ => .pure (nxSeq v)
  | .rng a, ρ => (evE c c' a ρ).bind fun v => (getI v).bind fun i => if rngOk i = true then .pure (nxRng 0 i) else badM
  | .rng2 a b, ρ => (evE c c' a ρ).bind fun v => (evE c c' b ρ).bind fun w => (getI v).bind fun i => (getI w).bind fun j => if (rngOk i && rngOk j) = true then .pure (nxRng i j) else badM
  | .enm e, ρ => (evE c c' e ρ).bind fun v => (lookM fun h => getR h v).bind fun _ => .pure (nxEnm v)
  | .zip a b, ρ => (evE c c' a ρ).bind fun v => (evE c c' b ρ).bind fun w => (lookM (zipK v w)).bind fun _ => .pure (nxZip v w)
end
abbrev evT (c c' : ClM) (e : ME) (ρ : Rho) : Mo Bool := (evE c c' e ρ).bind truM
def evX (c c' : ClM) : MT → Rho → Mo Unit
  | .exp e, ρ => (evE c c' e ρ).bind fun _ => .pure ()
  | .ife t a b, ρ => (evT c c' t ρ).bind fun v => if v = true then evX c c' a ρ else evX c c' b ρ
def setsL : List Nat → List D → Rho → Option Rho
  | [], [], ρ => some ρ
  | i :: is, d :: ds, ρ => setsL is ds (ρ.set i (some d))
  | _, _, _ => none
/-- what is told apart -/
def upkM (d : D) : Mo (List D) := match d with
  | .tup ds => .pure ds
  | d => lookM fun h => getR h d
/-- o[i] = v -/
def setM (o i v : D) : Mo Unit := fun h => match o with
  | .ref a => match h[a]? with
    | some (.lst xs) => match i with
      | .int k => match ixD xs.length k with
        | some j => .ok () (h.set a (.lst (xs.set j v)))
        | none => .bad
      | _ => .bad
    | some (.dic kvs) => if okKey kvs i && decide (kvs.length < lim) then .ok () (h.set a (.dic (dput kvs i v))) else .bad
    | _ => .bad
  | _ => .bad
def hdl (c : Nat) : List (Nat × Option Nat × List MS) → Option (Option Nat × List MS)
  | [] => none
  | p :: r => if subC c p.1 then some p.2 else hdl c r
mutual
def evS (c c' : ClM) : MS → Rho → Mo Fl
  | .set i e, ρ => (evE c c' e ρ).bind fun d => .pure (.nx (ρ.set i (some d)))
  | .upk is e, ρ => (evE c c' e ρ).bind fun d => (upkM d).bind fun ds => (ofO (setsL is ds ρ)).bind fun ρ' => .pure (.nx ρ')
  | .par is es, ρ => (evEs c c' es ρ).bind fun ds => (ofO (setsL is ds ρ)).bind fun ρ' => .pure (.nx ρ')
  | .sub o i e, ρ => (evE c c' e ρ).bind fun d => (evE c c' o ρ).bind fun x => (evE c c' i ρ).bind fun k => (setM x k d).bind fun _ => .pure (.nx ρ)
  | .fld o x e, ρ => (evE c c' e ρ).bind fun d => (evE c c' o ρ).bind fun v => fun h => match v with
    | .ref i => match h[i]? with
      | some (.ins k fs) => if fs.length < 1000 then .ok (.nx ρ) (h.set i (.ins k (fput x d fs))) else .bad
      | _ => .bad
    | _ => .bad
  | .exp e, ρ => (evE c c' e ρ).bind fun _ => .pure (.nx ρ)
  | .ret e, ρ => (evE c c' e ρ).bind fun d => .pure (.rt d)
  | .ife t a b, ρ => (evT c c' t ρ).bind fun v => if v = true then evB c c' a ρ else evB c c' b ρ
  | .for_ tg it body, ρ => (evI c c' it ρ).bind fun nx => forN nx tg (fun ρ1 => evB c c' body ρ1) WFu 0 ρ
  | .whl t body, ρ => whlN (fun ρ1 => evT c c' t ρ1) (fun ρ1 => evB c c' body ρ1) WFu ρ
  | .rse k, _ => raiM k
  | .nev, _ => badM
  | .try_ body hs, ρ => fun h => match evX c c' body ρ h with
    | .ok _ h' => .ok (.nx ρ) h'
    | .ex k h' => evH c c' k hs ρ h'
    | .bad => .bad
  | .pas, ρ => .pure (.nx ρ)
def evB (c c' : ClM) : List MS → Rho → Mo Fl
  | [], ρ => .pure (.nx ρ)
  | s :: r, ρ => (evS c c' s ρ).bind fun | .nx ρ' => evB c c' r ρ' | .rt d => .pure (.rt d)
/-- the first clause that takes it -/
def evH (c c' : ClM) (k : Nat) : List (Nat × Option Nat × List MS) → Rho → Mo Fl
  | [], _ => raiM k
  | (j, sl, b) :: r, ρ => if subC k j then (safeM (evB c c' b (match sl with | some i => ρ.set i (some (.exc k)) | none => ρ))).bind (fun
      | .nx ρ' => .pure (.nx (match sl with | some i => ρ'.set i none | none => ρ'))
      | .rt d => .pure (.rt d)) else evH c c' k r ρ
end
def runF (c c' : ClM) (fd : FD) (ds : List D) : Mo D := if ds.length = fd.ar then (evB c c' fd.body (ds.map some ++ List.replicate (fd.ns - fd.ar) none)).bind fun
  | .rt d => .pure d
  | .nx _ => .pure .non else badM
def runP (P : PrM) (c c' : ClM) : ClM := fun f ds => match P f with
  | some fd => runF c c' fd ds
  | none => badM
/-- n calls, one in another -/
def calls (P : PrM) : Nat → ClM × ClM
  | 0 => (fun _ _ => badM, fun _ _ => badM)
  | n + 1 => (runP P (calls P n).1 (calls P n).2, (calls P n).1)
def callN (P : PrM) (n : Nat) : ClM := (calls P n).1
end
end MI

set_option Elab.async false
set_option linter.all false
set_option maxRecDepth 100000
/-! MiS1: how MI's values and heaps lie in the hand layer's; readings by MI. -/
namespace MIS
open PySem PySem.Spec PyProof.Rows L2 MI

/-! ### values -/
/-- the refusal that is handled: its slot, where it stands, its class -/
abbrev HxC : Type := Option (Nat × Addr × Nat)
/-- the written part, the world, the program, the refusal that is handled, where the refusals stand -/
structure KW where
  K : PySem.W.Frag
  w : World
  P : Program
  cl : HxC
  ex : Nat → Addr
abbrev kw (X : Cx) (cl : HxC) (ex : Nat → Addr) : KW := ⟨X.K, X.w, X.prog, cl, ex⟩
/-- a list that nobody writes -/
def SqK (K : PySem.W.Frag) (a : Addr) (xs : List V) : Prop := ∃ (o : Obj) (its : Array Value) (n : Nat), K.lookup a = some o ∧ o.cls = .type "list" ∧ o.dict = none ∧ o.data = .seq its n ∧ its.size ≤ sizeLine ∧ Vals xs its.toList
def SqI (K : PySem.W.Frag) (H : Hp) (a : Addr) (xs : List V) : Prop := (∃ ob, H a = some (.frz ob (.lst xs))) ∨ SqK K a xs
theorem SqI.list {K : PySem.W.Frag} {H : Hp} {a : Addr} {xs : List V} (h : SqI K H a xs) : SqL K H a xs := h.imp .inr id
section
variable (K : KW)
mutual
def RV (μ : List Addr) (H : Hp) : D → V → Prop
  | .non, v => v = .non
  | .bl b, v => v = .bl b
  | .int i, v => v = .int i
  | .str s, v => v = .str ⟨s.toArray⟩
  | .tup xs, v => ∃ a vs, v = .ref a ∧ SqT K.K H a vs ∧ RVs μ H xs vs
  | .ref i, v => ∃ a, v = .ref a ∧ μ[i]? = some a
  | .exc _, _ => False
  | .lst xs, v => ∃ a vs, v = .ref a ∧ SqI K.K H a vs ∧ RVs μ H xs vs
  | .sq _, _ => False
  | .dic _ _, _ => False
def RVs (μ : List Addr) (H : Hp) : List D → List V → Prop
  | [], vs => vs = []
  | x :: xs, vs => ∃ v r, vs = v :: r ∧ RV μ H x v ∧ RVs μ H xs r
end
/-- what stands at a place of the heap -/
def OB (μ : List Addr) (H : Hp) (a : Addr) : O → Prop
  | .lst ds => ∃ vs, H a = some (.lst vs) ∧ RVs K μ H ds vs
  | .frz ds => ∃ ob vs, H a = some (.frz ob (.lst vs)) ∧ RVs K μ H ds vs
  | .dic _ => False
  | .set ds => ∃ (ns : List Int) (S : Int → Bool), ds = ns.map .int ∧ ns.Nodup ∧ H a = some (SetO K.w a S ns.length) ∧ ∀ k, S k = decide (k ∈ ns)
  | .ins _ _ => False
structure Wd (μ : List Addr) (H : Hp) (η : Hv) : Prop where
  len : μ.length = η.length
  nd : μ.Nodup
  obj : ∀ (i : Nat) (a : Addr) (o : O), μ[i]? = some a → η[i]? = some o → OB K μ H a o
/-- later: more places, the tuples stand -/
structure Aft (μ : List Addr) (H : Hp) (μ' : List Addr) (H' : Hp) : Prop where
  pre : ∃ t, μ' = μ ++ t
  keep : ∀ a vs, SqT K.K H a vs → SqT K.K H' a vs
  keepL : ∀ a vs, SqI K.K H a vs → SqI K.K H' a vs
  frame : ∀ a o, H a = some o → a ∉ μ → H' a = some o ∧ a ∉ μ'
end
section
variable {K : KW} {μ μ1 μ2 : List Addr} {H H1 H2 : Hp} {η η1 : Hv}
theorem Aft.refl : Aft K μ H μ H := ⟨⟨[], by simp⟩, fun _ _ h => h, fun _ _ h => h, fun _ _ h n => ⟨h, n⟩⟩
theorem Aft.trans (a : Aft K μ H μ1 H1) (b : Aft K μ1 H1 μ2 H2) : Aft K μ H μ2 H2 := by
  obtain ⟨t, e⟩ := a.pre
  obtain ⟨u, f⟩ := b.pre
  exact ⟨⟨t ++ u, by rw [f, e, List.append_assoc]⟩, fun x vs h => b.keep x vs (a.keep x vs h), fun x vs h => b.keepL x vs (a.keepL x vs h), fun x o h n => let ⟨h1, n1⟩ := a.frame x o h n; b.frame x o h1 n1⟩
theorem Aft.at (a : Aft K μ H μ1 H1) {i : Nat} {x : Addr} (h : μ[i]? = some x) : μ1[i]? = some x := by
  obtain ⟨t, e⟩ := a.pre
  rw [e]
  have hi : i < μ.length := by
    rcases Nat.lt_or_ge i μ.length with q | q
    · exact q
    · rw [List.getElem?_eq_none q] at h; cases h
  rw [List.getElem?_append_left hi]; exact h
mutual
theorem RV.mono (a : Aft K μ H μ1 H1) : ∀ (d : D) (v : V), RV K μ H d v → RV K μ1 H1 d v
  | .non, _, h => h
  | .bl _, _, h => h
  | .int _, _, h => h
  | .str _, _, h => h
  | .tup xs, _, h => by
    obtain ⟨p, vs, e, q, r⟩ := h
    exact ⟨p, vs, e, a.keep _ _ q, RVs.mono a xs vs r⟩
  | .ref _, _, h => by
    obtain ⟨p, e, q⟩ := h
    exact ⟨p, e, a.at q⟩
  | .exc _, _, h => h
  | .lst xs, _, h => by
    obtain ⟨p, vs, e, q, r⟩ := h
    exact ⟨p, vs, e, a.keepL _ _ q, RVs.mono a xs vs r⟩
  | .sq _, _, h => h
  | .dic _ _, _, h => h
theorem RVs.mono (a : Aft K μ H μ1 H1) : ∀ (ds : List D) (vs : List V), RVs K μ H ds vs → RVs K μ1 H1 ds vs
  | [], _, h => h
  | x :: xs, _, h => by
    obtain ⟨v, r, e, h1, h2⟩ := h
    exact ⟨v, r, e, RV.mono a x v h1, RVs.mono a xs r h2⟩
end
theorem RVs.len : ∀ {ds : List D} {vs : List V}, RVs K μ H ds vs → vs.length = ds.length
  | [], _, h => by rw [show _ = [] from h]; rfl
  | x :: xs, _, h => by
    obtain ⟨v, r, e, _, h2⟩ := h
    rw [e, List.length_cons, List.length_cons, RVs.len h2]
theorem RVs.get : ∀ {ds : List D} {vs : List V} {i : Nat} {d : D}, RVs K μ H ds vs → ds[i]? = some d → ∃ v, vs[i]? = some v ∧ RV K μ H d v
  | [], _, _, _, _, e => by simp at e
  | x :: xs, _, 0, d, h, e => by
    obtain ⟨v, r, rfl, h1, _⟩ := h
    simp at e; subst e
    exact ⟨v, rfl, h1⟩
  | x :: xs, _, i + 1, d, h, e => by
    obtain ⟨v, r, rfl, _, h2⟩ := h
    obtain ⟨w, q, k⟩ := RVs.get (i := i) h2 (by simpa using e)
    exact ⟨w, by simpa using q, k⟩
theorem RVs.append : ∀ {ds es : List D} {vs ws : List V}, RVs K μ H ds vs → RVs K μ H es ws → RVs K μ H (ds ++ es) (vs ++ ws)
  | [], _, _, _, h, q => by rw [show _ = [] from h]; exact q
  | x :: xs, _, _, _, h, q => by
    obtain ⟨v, r, rfl, h1, h2⟩ := h
    exact ⟨v, r ++ _, rfl, h1, RVs.append h2 q⟩
theorem RVs.one {d : D} {v : V} (h : RV K μ H d v) : RVs K μ H [d] [v] := ⟨v, [], rfl, h, rfl⟩
theorem RVs.take : ∀ {ds : List D} {vs : List V} (n : Nat), RVs K μ H ds vs → RVs K μ H (ds.take n) (vs.take n)
  | _, _, 0, _ => by simp; exact rfl
  | [], _, n + 1, h => by rw [show _ = [] from h]; exact rfl
  | x :: xs, _, n + 1, h => by
    obtain ⟨v, r, rfl, h1, h2⟩ := h
    exact ⟨v, r.take n, rfl, h1, RVs.take n h2⟩
theorem RVs.drop : ∀ {ds : List D} {vs : List V} (n : Nat), RVs K μ H ds vs → RVs K μ H (ds.drop n) (vs.drop n)
  | _, _, 0, h => h
  | [], _, n + 1, h => by rw [show _ = [] from h]; exact rfl
  | x :: xs, _, n + 1, h => by
    obtain ⟨v, r, rfl, h1, h2⟩ := h
    exact RVs.drop n h2
theorem RVs.set : ∀ {ds : List D} {vs : List V} (i : Nat) {d : D} {v : V}, RVs K μ H ds vs → RV K μ H d v → RVs K μ H (ds.set i d) (vs.set i v)
  | [], _, _, _, _, h, _ => by rw [show _ = [] from h]; exact rfl
  | x :: xs, _, 0, _, w, h, q => by
    obtain ⟨v, r, rfl, h1, h2⟩ := h
    exact ⟨w, r, rfl, q, h2⟩
  | x :: xs, _, i + 1, _, w, h, q => by
    obtain ⟨v, r, rfl, h1, h2⟩ := h
    exact ⟨v, r.set i w, rfl, h1, RVs.set i h2 q⟩
theorem RVs.dropLast {ds : List D} {vs : List V} (h : RVs K μ H ds vs) : RVs K μ H ds.dropLast vs.dropLast := by
  rw [List.dropLast_eq_take, List.dropLast_eq_take, h.len]
  exact RVs.take _ h
theorem RVs.reverse : ∀ {ds : List D} {vs : List V}, RVs K μ H ds vs → RVs K μ H ds.reverse vs.reverse
  | [], _, h => by rw [show _ = [] from h]; exact rfl
  | x :: xs, _, h => by
    obtain ⟨v, r, rfl, h1, h2⟩ := h
    rw [List.reverse_cons, List.reverse_cons]
    exact RVs.append (RVs.reverse h2) (RVs.one h1)
theorem RVs.erase : ∀ {ds : List D} {vs : List V} (i : Nat), RVs K μ H ds vs → RVs K μ H (ds.eraseIdx i) (vs.eraseIdx i)
  | [], _, _, h => by rw [show _ = [] from h]; exact rfl
  | x :: xs, _, 0, h => by
    obtain ⟨v, r, rfl, h1, h2⟩ := h
    exact h2
  | x :: xs, _, i + 1, h => by
    obtain ⟨v, r, rfl, h1, h2⟩ := h
    exact ⟨v, r.eraseIdx i, rfl, h1, RVs.erase i h2⟩
theorem RVs.ints : ∀ {ns : List Int} {vs : List V}, RVs K μ H (ns.map D.int) vs → vs = ns.map V.int
  | [], _, h => h
  | n :: ns, _, h => by
    obtain ⟨v, r, rfl, h1, h2⟩ := h
    rw [show v = .int n from h1, RVs.ints h2]; rfl
theorem RVs.of_ints : ∀ (ns : List Int), RVs K μ H (ns.map D.int) (ns.map V.int)
  | [] => rfl
  | n :: ns => ⟨.int n, ns.map V.int, rfl, rfl, RVs.of_ints ns⟩
theorem RVs.bools : ∀ {ns : List Bool} {vs : List V}, RVs K μ H (ns.map D.bl) vs → vs = ns.map V.bl
  | [], _, h => h
  | n :: ns, _, h => by
    obtain ⟨v, r, rfl, h1, h2⟩ := h
    rw [show v = .bl n from h1, RVs.bools h2]; rfl
theorem OB.mono (a : Aft K μ H μ1 H1) {p : Addr} (e : H1 p = H p) : ∀ {o : O}, OB K μ H p o → OB K μ1 H1 p o
  | .lst ds, h => by
    obtain ⟨vs, q, r⟩ := h
    exact ⟨vs, by rw [e]; exact q, RVs.mono a ds vs r⟩
  | .frz ds, h => by
    obtain ⟨ob, vs, q, r⟩ := h
    exact ⟨ob, vs, by rw [e]; exact q, RVs.mono a ds vs r⟩
  | .dic _, h => h.elim
  | .set ds, h => by
    obtain ⟨ns, S, h1, h2, h3, h4⟩ := h
    exact ⟨ns, S, h1, h2, by rw [e]; exact h3, h4⟩
  | .ins _ _, h => h.elim

/-! ### worlds -/
theorem Wd.ex (w : Wd K μ H η) {i : Nat} {o : O} (h : η[i]? = some o) : ∃ a, μ[i]? = some a ∧ OB K μ H a o := by
  have hi : i < η.length := by
    rcases Nat.lt_or_ge i η.length with q | q
    · exact q
    · rw [List.getElem?_eq_none q] at h; cases h
  have h2 : μ[i]? = some (μ[i]'(by rw [w.len]; exact hi)) := List.getElem?_eq_getElem _
  exact ⟨_, h2, w.obj i _ o h2 h⟩
theorem Wd.lst (w : Wd K μ H η) {i : Nat} {a : Addr} {ds : List D} (ha : μ[i]? = some a) (h : η[i]? = some (.lst ds)) : ∃ vs, H a = some (.lst vs) ∧ RVs K μ H ds vs := w.obj i a _ ha h
/-- a list that may be read -/
theorem Wd.getL (w : Wd K μ H η) {d : D} {v : V} {ds : List D} (r : RV K μ H d v) (h : MI.getL η d = some ds) : ∃ a vs, v = .ref a ∧ SqL K.K H a vs ∧ RVs K μ H ds vs := by
  cases d with
  | ref i =>
    obtain ⟨a, e, ha⟩ := r
    unfold MI.getL at h
    simp only at h
    split at h
    · rename_i xs q
      cases h
      obtain ⟨vs, h1, h2⟩ := w.obj i a _ ha q
      exact ⟨a, vs, e, SqL.of h1, h2⟩
    · rename_i xs q
      cases h
      obtain ⟨ob, vs, h1, h2⟩ := w.obj i a _ ha q
      exact ⟨a, vs, e, .inl (.inr ⟨ob, h1⟩), h2⟩
    · cases h
  | lst xs =>
    obtain ⟨a, vs, e, hs, rs⟩ := r
    cases h
    exact ⟨a, vs, e, hs.list, rs⟩
  | _ => simp [MI.getL] at h
theorem aft_new {p : Addr} {o : HO} (hp : H p = none) : Aft K μ H μ (upd H p o) := ⟨⟨[], by simp⟩, fun a vs h => by
  rcases h with h | h
  · refine .inl ?_
    rcases h with h | ⟨ob, h⟩
    · exact .inl (by rw [upd_ne (ne_of_none h hp)]; exact h)
    · exact .inr ⟨ob, by rw [upd_ne (ne_of_none h hp)]; exact h⟩
  · exact .inr h, fun a vs h => h.imp (fun ⟨ob, h⟩ => ⟨ob, by rw [upd_ne (ne_of_none h hp)]; exact h⟩) id, fun a u h n => ⟨by rw [upd_ne (ne_of_none h hp)]; exact h, n⟩⟩
theorem OB.there {p : Addr} {o : O} (h : OB K μ H p o) : ∃ u, H p = some u := by
  cases o with
  | lst ds => obtain ⟨vs, q, _⟩ := h; exact ⟨_, q⟩
  | frz ds => obtain ⟨ob, vs, q, _⟩ := h; exact ⟨_, q⟩
  | dic _ => exact h.elim
  | set ds => obtain ⟨ns, S, _, _, h3, _⟩ := h; exact ⟨_, h3⟩
  | ins _ _ => exact h.elim
theorem Wd.mem (w : Wd K μ H η) {a : Addr} (h : a ∈ μ) : ∃ u, H a = some u := by
  obtain ⟨i, hi, e⟩ := List.mem_iff_getElem.mp h
  have h1 : μ[i]? = some a := by rw [List.getElem?_eq_getElem hi, e]
  have h2 : η[i]? = some (η[i]'(by rw [← w.len]; exact hi)) := List.getElem?_eq_getElem _
  exact (w.obj i a _ h1 h2).there
/-- a new untracked-by-MI object: the world stands -/
theorem Wd.fresh (w : Wd K μ H η) {p : Addr} {o : HO} (hp : H p = none) : Wd K μ (upd H p o) η := ⟨w.len, w.nd, fun i a u h1 h2 => by
  have q := w.obj i a u h1 h2
  obtain ⟨z, e⟩ := q.there
  exact OB.mono (aft_new hp) (upd_ne (ne_of_none e hp)) q⟩
theorem aft_push {p : Addr} {o : HO} (hp : H p = none) : Aft K μ H (μ ++ [p]) (upd H p o) := ⟨⟨[p], rfl⟩, (aft_new (K := K) (μ := μ) hp).keep, (aft_new (K := K) (μ := μ) hp).keepL, fun a u h n => ⟨by rw [upd_ne (ne_of_none h hp)]; exact h, by
  rw [List.mem_append, List.mem_singleton]
  rintro (z | z)
  · exact n z
  · exact ne_of_none h hp z⟩⟩
/-- a new object of MI's -/
theorem Wd.alloc (w : Wd K μ H η) {p : Addr} {o : HO} {u : O} (hp : H p = none) (ho : OB K (μ ++ [p]) (upd H p o) p u) : Wd K (μ ++ [p]) (upd H p o) (η ++ [u]) ∧ Aft K μ H (μ ++ [p]) (upd H p o) := by
  have af : Aft K μ H (μ ++ [p]) (upd H p o) := aft_push hp
  refine ⟨⟨by simp [w.len], ?_, fun i a x h1 h2 => ?_⟩, af⟩
  · rw [List.nodup_append]
    refine ⟨w.nd, by simp, fun a ha b hb e => ?_⟩
    have hb' : b = p := by simpa using hb
    obtain ⟨z, q⟩ := w.mem ha
    rw [e, hb', hp] at q; cases q
  · by_cases hi : i < μ.length
    · rw [List.getElem?_append_left hi] at h1
      rw [List.getElem?_append_left (by rw [← w.len]; exact hi)] at h2
      have q := w.obj i a x h1 h2
      obtain ⟨z, e⟩ := q.there
      exact OB.mono af (upd_ne (ne_of_none e hp)) q
    · have hi' : μ.length ≤ i := Nat.le_of_not_lt hi
      rw [List.getElem?_append_right hi'] at h1
      rw [List.getElem?_append_right (by rw [← w.len]; exact hi')] at h2
      have e0 : i - μ.length = 0 := by
        rcases Nat.eq_zero_or_pos (i - μ.length) with z | z
        · exact z
        · rw [List.getElem?_eq_none (by simp; omega)] at h1; cases h1
      rw [e0] at h1
      rw [← w.len, e0] at h2
      cases h1; cases h2
      exact ho
/-- an object of MI's is written -/
theorem aft_write {p : Addr} {o u : HO} (hm : p ∈ μ) (hp : H p = some u) (hu : (∀ vs, u ≠ .tup vs) ∧ ∀ ob x, u ≠ .frz ob x) : Aft K μ H μ (upd H p o) := ⟨⟨[], by simp⟩, fun a vs h => by
  rcases h with h | h
  · refine .inl ?_
    rcases h with h | ⟨ob, h⟩
    · refine .inl ?_
      rw [upd_ne (ne_of h hp fun z => hu.1 vs z.symm)]; exact h
    · refine .inr ⟨ob, ?_⟩
      rw [upd_ne (ne_of h hp fun z => hu.2 _ _ z.symm)]; exact h
  · exact .inr h, fun a vs h => h.imp (fun ⟨ob, h⟩ => ⟨ob, by rw [upd_ne (ne_of h hp fun z => hu.2 _ _ z.symm)]; exact h⟩) id, fun a x h n => ⟨by rw [upd_ne (fun z => n (by rw [z]; exact hm))]; exact h, n⟩⟩
theorem Wd.write (w : Wd K μ H η) {i : Nat} {p : Addr} {o u : HO} {x : O} (hi : μ[i]? = some p) (hp : H p = some u) (hu : (∀ vs, u ≠ .tup vs) ∧ ∀ ob x, u ≠ .frz ob x) (ho : OB K μ (upd H p o) p x) :
    Wd K μ (upd H p o) (η.set i x) ∧ Aft K μ H μ (upd H p o) := by
  have af : Aft K μ H μ (upd H p o) := aft_write (List.mem_of_getElem? hi) hp hu
  refine ⟨⟨by simp [w.len], w.nd, fun j a y h1 h2 => ?_⟩, af⟩
  by_cases e : j = i
  · subst e
    rw [hi] at h1; cases h1
    have hl : j < η.length := by
      rw [← w.len]
      rcases Nat.lt_or_ge j μ.length with q | q
      · exact q
      · rw [List.getElem?_eq_none q] at hi; cases hi
    rw [List.getElem?_set_self hl] at h2
    cases h2
    exact ho
  · rw [List.getElem?_set_ne (Ne.symm e)] at h2
    have ne : a ≠ p := fun z => by
      subst z
      exact e ((List.getElem_inj w.nd).mp ((List.getElem?_eq_some_iff.mp h1).2.trans (List.getElem?_eq_some_iff.mp hi).2.symm))
    exact OB.mono af (upd_ne ne) (w.obj j a y h1 h2)
end

/-! ### slots -/
section
variable (K : KW)
/-- a slot's value, or the refusal that is handled -/
def RS (μ : List Addr) (H : Hp) (i : Nat) (d : D) (v : V) : Prop := ((∀ a c, K.cl ≠ some (i, a, c)) ∧ RV K μ H d v) ∨ ∃ (a : Addr) (c : Nat), K.cl = some (i, a, c) ∧ d = .exc c ∧ v = .ref a
structure RE (μ : List Addr) (H : Hp) (ρ : Rho) (σ : L2.St) : Prop where
  len : ρ.length = σ.length
  get : ∀ (i : Nat) (d : D), ρ[i]? = some (some d) → ∃ v, σ[i]? = some (some v) ∧ RS K μ H i d v
end
section
variable {K : KW} {μ μ1 : List Addr} {H H1 : Hp} {ρ : Rho} {σ : L2.St}
theorem RE.mono (r : RE K μ H ρ σ) (a : Aft K μ H μ1 H1) : RE K μ1 H1 ρ σ := ⟨r.len, fun i d h => by
  obtain ⟨v, e, q⟩ := r.get i d h
  exact ⟨v, e, q.imp (fun z => ⟨z.1, RV.mono a d v z.2⟩) id⟩⟩
theorem RE.set (r : RE K μ H ρ σ) (i : Nat) {d : D} {v : V} (q : RV K μ H d v) (hn : ∀ a c, K.cl ≠ some (i, a, c)) : RE K μ H (ρ.set i (some d)) (σ.set i (some v)) := ⟨by simp [r.len], fun j e h => by
  by_cases hj : j = i
  · subst hj
    have hl : j < ρ.length := by
      rcases Nat.lt_or_ge j ρ.length with z | z
      · exact z
      · rw [List.getElem?_eq_none (by simpa using z)] at h; cases h
    rw [List.getElem?_set_self hl] at h
    cases h
    exact ⟨v, List.getElem?_set_self (by rw [← r.len]; exact hl), .inl ⟨hn, q⟩⟩
  · rw [List.getElem?_set_ne (Ne.symm hj)] at h
    obtain ⟨w, e1, e2⟩ := r.get j e h
    exact ⟨w, by rw [List.getElem?_set_ne (Ne.symm hj)]; exact e1, e2⟩⟩
theorem RE.wipe1 (r : RE K μ H ρ σ) (i : Nat) : RE K μ H (ρ.set i none) (σ.set i none) := ⟨by simp [r.len], fun j e h => by
  by_cases hj : j = i
  · subst hj
    by_cases hl : j < ρ.length
    · rw [List.getElem?_set_self hl] at h; cases h
    · rw [List.getElem?_eq_none (by simpa using hl)] at h; cases h
  · rw [List.getElem?_set_ne (Ne.symm hj)] at h
    obtain ⟨w, e1, e2⟩ := r.get j e h
    exact ⟨w, by rw [List.getElem?_set_ne (Ne.symm hj)]; exact e1, e2⟩⟩
end

/-! ### ends -/
section
variable (K : KW) (W : Nat → Hp → Prop)
/-- what a run of MI's comes to: P behind it, W of what is raised -/
def EndG {α : Type} (μ : List Addr) (H : Hp) (P : α → Hv → List Addr → Hp → Prop) : Rs α → Prop
  | .ok a η' => ∀ μ' H', Aft K μ H μ' H' → Wd K μ' H' η' → P a η' μ' H'
  | .ex c η' => ∀ μ' H', Aft K μ H μ' H' → Wd K μ' H' η' → W c H'
  | .bad => False
end
section
variable {K : KW} {W : Nat → Hp → Prop} {α β : Type} {μ μ1 : List Addr} {H H1 : Hp} {η : Hv}
theorem EndG.imp {P P' : α → Hv → List Addr → Hp → Prop} {r : Rs α} (h : EndG K W μ H P r) (q : ∀ a η μ' H', Aft K μ H μ' H' → Wd K μ' H' η → P a η μ' H' → P' a η μ' H') : EndG K W μ H P' r := by
  cases r with
  | ok a η' => exact fun μ' H' x y => q a η' μ' H' x y (h μ' H' x y)
  | ex c η' => exact h
  | bad => exact h
theorem EndG.rebase {P : α → Hv → List Addr → Hp → Prop} {r : Rs α} (h : EndG K W μ H P r) (a : Aft K μ H μ1 H1) : EndG K W μ1 H1 P r := by
  cases r with
  | ok x η' => exact fun μ' H' y z => h μ' H' (a.trans y) z
  | ex c η' => exact fun μ' H' y z => h μ' H' (a.trans y) z
  | bad => exact h
theorem EndG.bind {P : β → Hv → List Addr → Hp → Prop} {m : Mo α} {f : α → Mo β} (h : EndG K W μ H P (Mo.bind m f η)) : EndG K W μ H (fun a η1 μ1 H1 => EndG K W μ1 H1 P (f a η1)) (m η) := by
  unfold Mo.bind at h
  cases e : m η with
  | ok a η1 =>
    rw [e] at h
    exact fun μ' H' x y => h.rebase x
  | ex c η1 =>
    rw [e] at h
    exact h
  | bad =>
    rw [e] at h
    exact h.elim
theorem EndG.look {P : α → Hv → List Addr → Hp → Prop} {f : Hv → Option α} (w : Wd K μ H η) (h : EndG K W μ H P (lookM f η)) : ∃ a, f η = some a ∧ P a η μ H := by
  unfold lookM at h
  cases e : f η with
  | some a =>
    rw [e] at h
    exact ⟨a, rfl, h μ H .refl w⟩
  | none =>
    rw [e] at h
    exact h.elim
theorem EndG.pure {P : α → Hv → List Addr → Hp → Prop} {a : α} (w : Wd K μ H η) (h : EndG K W μ H P (Mo.pure a η)) : P a η μ H := h μ H .refl w
/-- the reading of an expression -/
def tE (K : KW) (W : Nat → L2.St → Hp → Prop) (m : Rho → Mo D) : TE := fun σ H Q => ∃ μ η ρ, Wd K μ H η ∧ RE K μ H ρ σ ∧ EndG K (fun c H' => W c σ H') μ H (fun d _ μ' H' => ∀ v, RV K μ' H' d v → Q v H') (m ρ η)
def tT (K : KW) (W : Nat → L2.St → Hp → Prop) (m : Rho → Mo Bool) : TT := fun σ H Q => ∃ μ η ρ, Wd K μ H η ∧ RE K μ H ρ σ ∧ EndG K (fun c H' => W c σ H') μ H (fun b _ _ H' => Q b H') (m ρ η)
def tA (K : KW) (W : Nat → L2.St → Hp → Prop) (m : Rho → Mo (List D)) : TA := fun σ H Q => ∃ μ η ρ, Wd K μ H η ∧ RE K μ H ρ σ ∧ EndG K (fun c H' => W c σ H') μ H (fun ds _ μ' H' => ∀ vs, RVs K μ' H' ds vs → Q vs H') (m ρ η)
end
theorem impE {X : Cx} {e : Expr} {t t' : TE} (h : PE X e t) (q : ∀ σ H Q, t' σ H Q → t σ H Q) : PE X e t' := ⟨fun pins s σ H Q I x => h.run pins s σ H Q I (q σ H Q x)⟩
theorem impT {X : Cx} {e : Expr} {t t' : TT} (h : PT X e t) (q : ∀ σ H Q, t' σ H Q → t σ H Q) : PT X e t' := ⟨fun pins s σ H Q I x => h.run pins s σ H Q I (q σ H Q x)⟩
theorem impW {X : Cx} {e : Expr} {t t' : TT} (h : PW X e t) (q : ∀ σ H Q, t' σ H Q → t σ H Q) : PW X e t' := ⟨fun wh pins s σ H Q I x => h.run wh pins s σ H Q I (q σ H Q x)⟩
theorem impA {X : Cx} {e : List Expr} {t t' : TA} (h : PA X e t) (q : ∀ σ H Q, t' σ H Q → t σ H Q) : PA X e t' := ⟨fun pos pins s σ H Q I x => h.run pos pins s σ H Q I (q σ H Q x)⟩
theorem impS {X : Cx} {e : Stmt} {t t' : TS} (h : PS X e t) (q : ∀ D σ H, t' D σ H → t D σ H) : PS X e t' := ⟨fun pins s σ H D I x => h.run pins s σ H D I (q D σ H x)⟩
theorem impB {X : Cx} {e : List Stmt} {t t' : TS} (h : PSs X e t) (q : ∀ D σ H, t' D σ H → t D σ H) : PSs X e t' := ⟨fun pins s σ H D I x => h.run pins s σ H D I (q D σ H x)⟩
/-! ### another refusal is handled -/
section
variable {K : KW} {cl : HxC} {μ μ1 : List Addr} {H H1 : Hp} {η : Hv}
mutual
theorem RV.recl : ∀ (d : D) (v : V), RV K μ H d v → RV { K with cl := cl } μ H d v
  | .non, _, h => h
  | .bl _, _, h => h
  | .int _, _, h => h
  | .str _, _, h => h
  | .tup xs, _, h => by
    obtain ⟨p, vs, e, q, r⟩ := h
    exact ⟨p, vs, e, q, RVs.recl xs vs r⟩
  | .ref _, _, h => h
  | .exc _, _, h => h
  | .lst xs, _, h => by
    obtain ⟨p, vs, e, q, r⟩ := h
    exact ⟨p, vs, e, q, RVs.recl xs vs r⟩
  | .sq _, _, h => h
  | .dic _ _, _, h => h
theorem RVs.recl : ∀ (ds : List D) (vs : List V), RVs K μ H ds vs → RVs { K with cl := cl } μ H ds vs
  | [], _, h => h
  | x :: xs, _, h => by
    obtain ⟨v, r, e, h1, h2⟩ := h
    exact ⟨v, r, e, RV.recl x v h1, RVs.recl xs r h2⟩
end
theorem OB.recl {p : Addr} : ∀ {o : O}, OB K μ H p o → OB { K with cl := cl } μ H p o
  | .lst ds, h => by
    obtain ⟨vs, q, r⟩ := h
    exact ⟨vs, q, RVs.recl ds vs r⟩
  | .frz ds, h => by
    obtain ⟨ob, vs, q, r⟩ := h
    exact ⟨ob, vs, q, RVs.recl ds vs r⟩
  | .dic _, h => h.elim
  | .set ds, h => h
  | .ins _ _, h => h.elim
theorem Wd.recl (w : Wd K μ H η) : Wd { K with cl := cl } μ H η := ⟨w.len, w.nd, fun i a o h1 h2 => OB.recl (w.obj i a o h1 h2)⟩
theorem Aft.recl (a : Aft K μ H μ1 H1) : Aft { K with cl := cl } μ H μ1 H1 := ⟨a.pre, a.keep, a.keepL, a.frame⟩
theorem EndG.recl {α : Type} {W : Nat → Hp → Prop} {P P' : α → Hv → List Addr → Hp → Prop} {r : Rs α} (h : EndG K W μ H P r) (q : ∀ a η μ' H', Aft K μ H μ' H' → Wd K μ' H' η → P a η μ' H' → P' a η μ' H') : EndG { K with cl := cl } W μ H P' r := by
  have hk : K = { ({ K with cl := cl } : KW) with cl := K.cl } := rfl
  cases r with
  | ok a η' =>
    intro μ' H' x y
    have x' : Aft K μ H μ' H' := Aft.recl (K := { K with cl := cl }) (cl := K.cl) x
    have y' : Wd K μ' H' η' := Wd.recl (K := { K with cl := cl }) (cl := K.cl) y
    exact q a η' μ' H' x' y' (h μ' H' x' y')
  | ex c η' => exact fun μ' H' x y => h μ' H' (Aft.recl (K := { K with cl := cl }) (cl := K.cl) x) (Wd.recl (K := { K with cl := cl }) (cl := K.cl) y)
  | bad => exact h
theorem ncl {K : KW} (h : K.cl = none) (i : Nat) : ∀ a c, K.cl ≠ some (i, a, c) := fun a c z => by rw [h] at z; cases z
/-- the handled one's slot is emptied -/
theorem RE.uncl {ρ : Rho} {σ : L2.St} {i : Nat} {a : Addr} {c : Nat} (r : RE K μ H ρ σ) (hs : K.cl = some (i, a, c)) : RE { K with cl := none } μ H (ρ.set i none) (σ.set i none) := ⟨by simp [r.len], fun j d h => by
  have hj : j ≠ i := fun e => by
    subst e
    by_cases hl : j < ρ.length
    · rw [List.getElem?_set_self hl] at h; cases h
    · rw [List.getElem?_eq_none (by simpa using hl)] at h; cases h
  rw [List.getElem?_set_ne (Ne.symm hj)] at h
  obtain ⟨v, e, q | ⟨a', c', z, _⟩⟩ := r.get j d h
  · exact ⟨v, by rw [List.getElem?_set_ne (Ne.symm hj)]; exact e, .inl ⟨fun _ _ z => (nomatch z), RV.recl d v q.2⟩⟩
  · rw [hs] at z; cases z; exact absurd rfl hj⟩
/-- the handled one's slot is filled -/
theorem RE.enter {ρ : Rho} {σ : L2.St} (r : RE K μ H ρ σ) (hn : K.cl = none) (i : Nat) (a : Addr) (c : Nat) : RE { K with cl := some (i, a, c) } μ H (ρ.set i (some (.exc c))) (σ.set i (some (.ref a))) := ⟨by simp [r.len], fun j e h => by
  by_cases hj : j = i
  · subst hj
    have hl : j < ρ.length := by
      rcases Nat.lt_or_ge j ρ.length with z | z
      · exact z
      · rw [List.getElem?_eq_none (by simpa using z)] at h; cases h
    rw [List.getElem?_set_self hl] at h
    cases h
    exact ⟨.ref a, List.getElem?_set_self (by rw [← r.len]; exact hl), .inr ⟨a, c, rfl, rfl, rfl⟩⟩
  · rw [List.getElem?_set_ne (Ne.symm hj)] at h
    obtain ⟨w, e1, e2 | ⟨a', c', z, _⟩⟩ := r.get j e h
    · exact ⟨w, by rw [List.getElem?_set_ne (Ne.symm hj)]; exact e1, .inl ⟨fun _ _ z => by cases z; exact hj rfl, RV.recl e w e2.2⟩⟩
    · rw [hn] at z; cases z⟩
end
end MIS

set_option Elab.async false
set_option linter.all false
set_option maxRecDepth 100000
set_option maxHeartbeats 4000000
/-! MiTup: tuple * int, of none, one, many. -/
namespace MIS
open PySem PySem.Spec PyProof.Rows L2 MI
theorem tmul_same (l : Addr) (its : Array Value) (n : Nat) (dd : Option Addr) (sl : Array (Option Value)) (x : Int) (u : Tok) (c0 : (decide (x < -(2 ^ 63)) || decide (x ≥ 2 ^ 63)) = false) (c1 : (its.isEmpty || x == 1) = true) :
    Meets (Builtin.«tuple.__mul__» ⟨[.ref l, .int x u], []⟩) (fun _ R s => s.heap.get? l = some ⟨.type "tuple", dd, .seq its n, sl⟩ ∧ R (.ok (.ret (.ref l))) s) := by
  refine .of_wp fun prog w A R s h => ?_
  obtain ⟨hp, g, d, tk, os⟩ := s
  obtain ⟨hl, h⟩ := h
  have f1 := AutoSeq1.idx_int
  wp_walk using wpAny_loadPart' hl
  refine wpAny_ite_false (decide_eq_false ?_) ?_
  · rw [c0]
    exact Bool.false_ne_true
  wp_walk using wpAny_loadPart' hl
  exact ⟨_, rfl, h⟩
theorem tmul_none (l : Addr) (its : Array Value) (n : Nat) (dd : Option Addr) (sl : Array (Option Value)) (x : Int) (u : Tok) (c0 : (decide (x < -(2 ^ 63)) || decide (x ≥ 2 ^ 63)) = false) (c1 : (its.isEmpty || x == 1) = false) (c2 : (decide (x ≤ 0) || its.isEmpty) = true) :
    Meets (Builtin.«tuple.__mul__» ⟨[.ref l, .int x u], []⟩) (fun _ R s => s.heap.get? l = some ⟨.type "tuple", dd, .seq its n, sl⟩ ∧ R (.ok (.ret (.ref s.heap.objs.size))) { s with heap := s.heap.push { cls := Value.type "tuple", data := Data.seq #[] }, toks := s.toks }) := by
  refine .of_wp fun prog w A R s h => ?_
  obtain ⟨hp, g, d, tk, os⟩ := s
  obtain ⟨hl, h⟩ := h
  have f1 := AutoSeq1.idx_int
  wp_walk using wpAny_loadPart' hl
  refine wpAny_ite_false (decide_eq_false ?_) ?_
  · rw [c0]
    exact Bool.false_ne_true
  wp_walk using wpAny_loadPart' hl
  exact ⟨_, rfl, h⟩
section
variable {X : Cx}
/-- tuple * int, at most some hundreds -/
def rTM (K : PySem.W.Frag) : R2 := fun x y H Q => ∃ l k xs, x = .ref l ∧ y = .int k ∧ SqT K H l xs ∧ 0 ≤ k ∧ k ≤ 1000 ∧ xs.length ≤ 1000 ∧ ∀ p H', SqT K H' p (List.replicate k.toNat xs).flatten → ((p = l ∧ H' = H) ∨ (H p = none ∧ H' = upd H p (.tup (List.replicate k.toNat xs).flatten))) → Q (.ref p) H'
theorem op_TM : OpR X (binaryOp .Mult) (rTM X.K) := by
  intro pins s σ H x y v u Q I rx ry h
  have h0 := h
  obtain ⟨l, k, xs, rfl, rfl, hT, k0, k1, hz, q⟩ := h
  by_cases big : xs ≠ [] ∧ 2 ≤ k
  · exact op_repT pins s σ H _ _ v u Q I rx ry ⟨l, k, xs, rfl, rfl, hT, big.1, big.2, k1, hz, fun p hp => q p _ (.inl (.inl upd_same)) (.inr ⟨hp, rfl⟩)⟩
  cases rx
  obtain ⟨t, rfl⟩ := ry
  obtain ⟨its, r, ⟨⟨cls, dd, data, sl⟩, ho, hc, n, hd⟩, hs⟩ := I.tuple hT
  simp only at hc hd
  subst hc hd
  have len : its.length = xs.length := r.length.symm
  have c0 : (decide (k < -(2 ^ 63)) || decide (k ≥ 2 ^ 63)) = false := by
    rw [decide_eq_false (by omega), decide_eq_false (by omega)]; rfl
  by_cases one : (its.toArray.isEmpty || k == 1) = true
  · have ex : (List.replicate k.toNat xs).flatten = xs := by
      rw [Bool.or_eq_true] at one
      rcases one with one | one
      · have e : its = [] := by
          cases its with
          | nil => rfl
          | cons a b => cases one
        rw [e] at len
        have e2 := List.eq_nil_of_length_eq_zero len.symm
        rw [e2]
        have : ∀ m : Nat, (List.replicate m ([] : List V)).flatten = [] := fun m => by induction m <;> simp_all [List.replicate_succ]
        exact this _
      · have e : k = 1 := eq_of_beq one
        subst e
        simp [List.replicate_succ]
    refine wpAny_binaryOp_repeat_ref (T := "tuple") (U := "int") (by decide) ⟨_, ho, rfl⟩ (fun s' => typeIs_int s' k t) noFill_tuple_mul F.fills_int_mul F.slot_int_rmul repeat_tuple F.slot_int_index.lookup
      (call_meets F.slot_int_rmul (typeIs_int s k t) F.entry_int_rmul (F.args_int_rmul_2 _ _) (int_rmul_tuple k t l its.toArray n dd sl) ⟨ho, rfl, ⟨_, ho, rfl⟩,
        call_meets F.slot_tuple_mul ⟨_, ho, rfl⟩ F.entry_tuple_mul (F.args_tuple_mul_2 _ _) (tmul_same l its.toArray n dd sl k t c0 one) ⟨ho, ?_⟩⟩)
    exact ⟨.ref l, H, I, rfl, q l H (by rw [ex]; exact hT) (.inl ⟨rfl, rfl⟩)⟩
  · have one' : (its.toArray.isEmpty || k == 1) = false := by simpa using one
    have hk : k = 0 := by
      rw [Bool.or_eq_false_iff] at one'
      have e1 : k ≠ 1 := fun e => by rw [e] at one'; simp at one'
      have e2 : xs ≠ [] := fun e => by
        rw [e] at len
        have e3 := List.eq_nil_of_length_eq_zero len
        rw [e3] at one'
        cases one'.1
      have e3 : ¬ 2 ≤ k := fun z => big ⟨e2, z⟩
      omega
    subst hk
    have c2 : (decide ((0 : Int) ≤ 0) || its.toArray.isEmpty) = true := by rw [decide_eq_true (by omega)]; rfl
    refine wpAny_binaryOp_repeat_ref (T := "tuple") (U := "int") (by decide) ⟨_, ho, rfl⟩ (fun s' => typeIs_int s' 0 t) noFill_tuple_mul F.fills_int_mul F.slot_int_rmul repeat_tuple F.slot_int_index.lookup
      (call_meets F.slot_int_rmul (typeIs_int s 0 t) F.entry_int_rmul (F.args_int_rmul_2 _ _) (int_rmul_tuple 0 t l its.toArray n dd sl) ⟨ho, rfl, ⟨_, ho, rfl⟩,
        call_meets F.slot_tuple_mul ⟨_, ho, rfl⟩ F.entry_tuple_mul (F.args_tuple_mul_2 _ _) (tmul_none l its.toArray n dd sl 0 t c0 one' c2) ⟨ho, ?_⟩⟩)
    refine ⟨.ref s.heap.objs.size, _, I.laid (t' := s.toks) (o := .tup []) (fun b ob q => Heap.get?_push_of_some _ q) (Nat.le_refl _) ?_, rfl, q _ _ (.inl (.inl upd_same)) (.inr ⟨I.hok.fresh (Nat.le_refl _), rfl⟩)⟩
    exact ⟨by simp, _, .nil, IsTup.new _ _⟩
end
end MIS

set_option Elab.async false
set_option linter.all false
set_option maxRecDepth 100000
set_option maxHeartbeats 1000000
/-! MiS2: MI's operations by values, over the hand layer's rules. -/
namespace MIS
open PySem PySem.Spec PyProof.Rows L2 MI
abbrev WN := Nat → Hp → Prop
/-- the end of a value -/
abbrev EV (K : KW) (W : WN) (μ : List Addr) (H : Hp) (Q : VK) : Rs D → Prop := EndG K W μ H (fun d _ μ' H' => ∀ v, RV K μ' H' d v → Q v H')
section
variable {K : KW} {W : WN} {μ : List Addr} {H : Hp} {η : Hv} {Q : VK}
theorem EV.same {d : D} {v : V} (h : EV K W μ H Q (.ok d η)) (w : Wd K μ H η) (r : RV K μ H d v) : Q v H := h μ H .refl w v r
/-- a new tuple -/
theorem EV.tup {ds : List D} {vs : List V} {p : Addr} (h : EV K W μ H Q (.ok (.tup ds) η)) (w : Wd K μ H η) (r : RVs K μ H ds vs) (hp : H p = none) : Q (.ref p) (upd H p (.tup vs)) :=
  h μ _ (aft_new hp) (w.fresh hp) _ ⟨p, vs, rfl, SqT.of upd_same, RVs.mono (aft_new hp) ds vs r⟩
/-- a new object of MI's -/
theorem EV.new {o : O} {u : HO} {p : Addr} (h : EV K W μ H Q (allocM o η)) (w : Wd K μ H η) (hp : H p = none) (ho : OB K (μ ++ [p]) (upd H p u) p o) : Q (.ref p) (upd H p u) := by
  obtain ⟨w', a⟩ := w.alloc hp ho
  refine h (μ ++ [p]) _ a w' _ ⟨p, rfl, ?_⟩
  rw [← w.len, List.getElem?_append_right (Nat.le_refl _), Nat.sub_self]
  rfl
theorem EV.lst {ds : List D} {vs : List V} {p : Addr} (h : EV K W μ H Q (allocM (.lst ds) η)) (w : Wd K μ H η) (r : RVs K μ H ds vs) (hp : H p = none) : Q (.ref p) (upd H p (.lst vs)) := by
  refine h.new w hp ⟨vs, upd_same, RVs.mono (μ1 := μ ++ [p]) (aft_push hp) ds vs r⟩
/-- an operation of MI's as a reading -/
def r2 (K : KW) (f : D → D → Mo D) : R2 := fun x y H Q => ∃ (W : WN) (μ : List Addr) (η : Hv) (d e : D), Wd K μ H η ∧ RV K μ H d x ∧ RV K μ H e y ∧ EV K W μ H Q (f d e η)
theorem lim_eq : lim = sizeLine := by rw [sizeLine_eq]; rfl
end
section
variable {X : Cx} {cl : HxC} {ex : Nat → Addr}
theorem opM_add : OpR X (binaryOp .Add) (r2 (kw X cl ex) (binM .add)) := by
  intro pins s σ H x y v u Q I rx ry ⟨W, μ, η, d, e, wd, rd, re, h⟩
  have hl := lim_eq
  cases d <;> cases e <;> simp only [binM, badM] at h <;> try exact h.elim
  · cases rd; cases re
    exact op_add_ib pins s σ H _ _ v u Q I rx ry ⟨_, _, rfl, rfl, h.same wd rfl⟩
  · cases rd; cases re
    exact op_add pins s σ H _ _ v u Q I rx ry ⟨_, _, rfl, rfl, h.same wd rfl⟩
  · cases rd; cases re
    rename_i a b
    by_cases c : a.length + b.length ≤ lim
    · rw [if_pos c] at h
      refine op_add_str pins s σ H _ _ v u Q I rx ry ⟨_, _, rfl, rfl, ?_, ?_⟩
      · show a.toArray.size + b.toArray.size ≤ sizeLine
        rw [List.size_toArray, List.size_toArray, ← hl]; exact c
      · refine h.same wd ?_
        show V.str ⟨a.toArray ++ b.toArray⟩ = V.str ⟨(a ++ b).toArray⟩
        rw [List.append_toArray]
    · rw [if_neg c] at h; exact h.elim
  · obtain ⟨p, vs, rfl, hp, q1⟩ := rd
    obtain ⟨p', ws, rfl, hp', q2⟩ := re
    rename_i a b
    by_cases c : a.length + b.length ≤ lim
    · rw [if_pos c] at h
      refine op_catA pins s σ H _ _ v u Q I rx ry ⟨p, p', vs, ws, rfl, rfl, hp, hp', by rw [q1.len, q2.len, ← hl]; exact c, fun e => ?_, fun _ e => ?_, fun _ _ t ht => h.tup wd (q1.append q2) ht⟩
      · have e2 : a = [] := by
          have := q1.len
          rw [e] at this
          exact List.eq_nil_of_length_eq_zero this.symm
        rw [e2, List.nil_append] at h
        exact h.same wd ⟨p', ws, rfl, hp', q2⟩
      · have e2 : b = [] := by
          have := q2.len
          rw [e] at this
          exact List.eq_nil_of_length_eq_zero this.symm
        rw [e2, List.append_nil] at h
        exact h.same wd ⟨p, vs, rfl, hp, q1⟩
    · rw [if_neg c] at h; exact h.elim
  · obtain ⟨p, rfl, hp⟩ := rd
    obtain ⟨p', rfl, hp'⟩ := re
    rename_i i j
    split at h
    · rename_i a b e1 e2
      by_cases c : a.length + b.length ≤ lim
      · rw [if_pos c] at h
        obtain ⟨vs, h1, q1⟩ := wd.lst hp e1
        obtain ⟨ws, h2, q2⟩ := wd.lst hp' e2
        exact op_cat pins s σ H _ _ v u Q I rx ry ⟨p, p', vs, ws, rfl, rfl, h1, h2, by rw [q1.len, q2.len, ← hl]; exact c, fun t ht => h.lst wd (q1.append q2) ht⟩
      · rw [if_neg c] at h; exact h.elim
    · exact h.elim
theorem opM_sub : OpR X (binaryOp .Sub) (r2 (kw X cl ex) (binM .sub)) := by
  intro pins s σ H x y v u Q I rx ry ⟨W, μ, η, d, e, wd, rd, re, h⟩
  cases d <;> cases e <;> simp only [binM, badM] at h <;> try exact h.elim
  cases rd; cases re
  exact op_sub pins s σ H _ _ v u Q I rx ry ⟨_, _, rfl, rfl, h.same wd rfl⟩
theorem opM_fdiv : OpR X (binaryOp .FloorDiv) (r2 (kw X cl ex) (binM .fdiv)) := by
  intro pins s σ H x y v u Q I rx ry ⟨W, μ, η, d, e, wd, rd, re, h⟩
  cases d <;> cases e <;> simp only [binM, badM] at h <;> try exact h.elim
  cases rd; cases re
  rename_i i j
  by_cases c : 0 < j ∧ j < 1073741824
  · rw [if_pos c] at h
    exact op_fdiv pins s σ H _ _ v u Q I rx ry ⟨_, _, rfl, rfl, c, h.same wd rfl⟩
  · rw [if_neg c] at h; exact h.elim
theorem opM_mod : OpR X (binaryOp .Mod) (r2 (kw X cl ex) (binM .mod)) := by
  intro pins s σ H x y v u Q I rx ry ⟨W, μ, η, d, e, wd, rd, re, h⟩
  cases d <;> cases e <;> simp only [binM, badM] at h <;> try exact h.elim
  cases rd; cases re
  rename_i i j
  by_cases c : 0 < j
  · rw [if_pos c] at h
    exact op_mod pins s σ H _ _ v u Q I rx ry ⟨_, _, rfl, rfl, c, h.same wd rfl⟩
  · rw [if_neg c] at h; exact h.elim
theorem opM_pow : OpR X (binaryOp .Pow) (r2 (kw X cl ex) (binM .pow)) := by
  intro pins s σ H x y v u Q I rx ry ⟨W, μ, η, d, e, wd, rd, re, h⟩
  cases d <;> cases e <;> simp only [binM, badM] at h <;> try exact h.elim
  cases rd; cases re
  rename_i i j
  by_cases c : 0 ≤ j ∧ j ≤ 1000000 ∧ i.natAbs < 18446744073709551616
  · rw [if_pos c] at h
    exact op_pow pins s σ H _ _ v u Q I rx ry ⟨_, _, rfl, rfl, c, h.same wd rfl⟩
  · rw [if_neg c] at h; exact h.elim
theorem mulG_ok {i j : Int} (h : i.natAbs.log2 + j.natAbs.log2 < 134217000) : IntMulOk i j := by
  have b : ∀ x : Int, Builtin.Int.intBits x ≤ x.natAbs.log2 + 1 := fun x => by unfold Builtin.Int.intBits; split <;> omega
  have b1 := b i
  have b2 := b j
  have e : bitsLine = 134217728 := by decide
  intro z
  rw [Bool.and_eq_true] at z
  have z3 : ((Builtin.Int.intBits i + Builtin.Int.intBits j : Nat) : Int) > bitsLine := by simpa [Builtin.Int.intTooBig] using z.2
  omega
theorem op_mulG : OpR X (binaryOp .Mult) (rI (fun i j => i.natAbs.log2 + j.natAbs.log2 < 134217000) fun i j => .int (i * j)) := opI fun _ _ _ _ _ _ _ hc q => mul_int q (mulG_ok hc)
theorem opM_mul : OpR X (binaryOp .Mult) (r2 (kw X cl ex) (binM .mul)) := by
  intro pins s σ H x y v u Q I rx ry ⟨W, μ, η, d, e, wd, rd, re, h⟩
  have hl := lim_eq
  cases d <;> cases e <;> simp only [binM, badM] at h <;> try exact h.elim
  · cases rd; cases re
    rename_i i j
    by_cases c : ((-bigI < i ∧ i < bigI) ∨ (-bigI < j ∧ j < bigI)) ∨ i.natAbs.log2 + j.natAbs.log2 < 134217000
    · rw [if_pos c] at h
      rcases c with c | c
      · exact op_mul pins s σ H _ _ v u Q I rx ry ⟨_, _, rfl, rfl, c, h.same wd rfl⟩
      · exact op_mulG pins s σ H _ _ v u Q I rx ry ⟨_, _, rfl, rfl, c, h.same wd rfl⟩
    · rw [if_neg c] at h; exact h.elim
  · cases re
    obtain ⟨p, vs, rfl, hp, q1⟩ := rd
    rename_i a k
    by_cases c : (0 ≤ k ∧ k ≤ 1000) ∧ a.length ≤ 1000
    · rw [if_pos c] at h
      have hf : ∀ n : Nat, RVs (kw X cl ex) μ H (List.replicate n a).flatten (List.replicate n vs).flatten := fun n => by
        induction n with
        | zero => exact rfl
        | succ n ih =>
          rw [List.replicate_succ, List.replicate_succ, List.flatten_cons, List.flatten_cons]
          exact q1.append ih
      refine op_TM pins s σ H _ _ v u Q I rx ry ⟨p, k, vs, rfl, rfl, hp, c.1.1, c.1.2, by rw [q1.len]; exact c.2, fun p' H' hT e => ?_⟩
      rcases e with ⟨rfl, rfl⟩ | ⟨e1, rfl⟩
      · exact h.same wd ⟨p', _, rfl, hT, hf _⟩
      · exact h.tup wd (hf _) e1
    · rw [if_neg c] at h; exact h.elim
  · cases re
    obtain ⟨p, rfl, hp⟩ := rd
    rename_i i k
    split at h
    · rename_i a e1
      by_cases c : 0 ≤ k ∧ k < 16777216 ∧ a.length * k.toNat ≤ lim
      · rw [if_pos c] at h
        obtain ⟨vs, h1, q1⟩ := wd.lst hp e1
        have hf : ∀ n : Nat, RVs (kw X cl ex) μ H (List.replicate n a).flatten (List.replicate n vs).flatten := fun n => by
          induction n with
          | zero => exact rfl
          | succ n ih =>
            rw [List.replicate_succ, List.replicate_succ, List.flatten_cons, List.flatten_cons]
            exact q1.append ih
        exact op_rep pins s σ H _ _ v u Q I rx ry ⟨p, k, vs, rfl, rfl, h1, by omega, by omega, by rw [q1.len, ← hl]; exact c.2.2, fun t ht => h.lst wd (hf _) ht⟩
      · rw [if_neg c] at h; exact h.elim
    · exact h.elim
end
/-! ### deep data -/
mutual
def py : D → PyData
  | .non => .none
  | .bl b => .bool b
  | .int i => .int i
  | .str s => .str ⟨s.toArray⟩
  | .tup xs => .tuple (pys xs)
  | .lst xs => .list (pys xs)
  | .sq xs => .list (pys xs)
  | .dic _ _ => .none
  | .ref _ => .none
  | .exc _ => .none
def pys : List D → List PyData
  | [] => []
  | x :: xs => py x :: pys xs
end
end MIS

set_option Elab.async false
set_option linter.all false
set_option maxRecDepth 100000
set_option maxHeartbeats 1000000
/-! MiS3: comparisons, subscripts, truth. -/
namespace MIS
open PySem PySem.Spec PyProof.Rows L2 MI
section
variable {K : KW} {μ : List Addr} {H : Hp} {η : Hv}
mutual
theorem deepW_dp {f : Nat → Option D} (hf : ∀ i a d, f i = some d → μ[i]? = some a → Dp K.K H (.ref a) (py d)) : ∀ (d e : D) (v : V), deepW f d = some e → RV K μ H d v → Dp K.K H v (py e)
  | .non, e, v, h, r => by cases h; cases r; exact .non
  | .bl b, e, v, h, r => by cases h; cases r; exact .bl b
  | .int i, e, v, h, r => by cases h; cases r; exact .int i
  | .str s, e, v, h, r => by cases h; cases r; exact .str _
  | .tup xs, e, v, h, r => by
    rw [deepW] at h
    cases q : deepsW f xs with
    | none => rw [q] at h; cases h
    | some ys =>
      rw [q] at h; cases h
      obtain ⟨a, vs, rfl, hs, rs⟩ := r
      exact .tup hs (deepsW_dp hf xs ys vs q rs)
  | .ref i, e, v, h, r => by
    obtain ⟨a, rfl, ha⟩ := r
    exact hf i a e h ha
  | .exc _, e, v, h, r => nomatch h
  | .lst _, e, v, h, r => nomatch h
  | .sq _, e, v, h, r => nomatch h
  | .dic _ _, e, v, h, r => nomatch h
theorem deepsW_dp {f : Nat → Option D} (hf : ∀ i a d, f i = some d → μ[i]? = some a → Dp K.K H (.ref a) (py d)) : ∀ (ds es : List D) (vs : List V), deepsW f ds = some es → RVs K μ H ds vs → DpAll K.K H vs (pys es)
  | [], es, vs, h, r => by cases h; rw [show vs = [] from r]; exact .nil
  | x :: xs, es, vs, h, r => by
    rw [deepsW] at h
    cases q : deepW f x with
    | none => rw [q] at h; cases h
    | some y =>
      cases q2 : deepsW f xs with
      | none => rw [q, q2] at h; cases h
      | some ys =>
        rw [q, q2] at h; cases h
        obtain ⟨v, r', rfl, h1, h2⟩ := r
        exact .cons (deepW_dp hf x y v q h1) (deepsW_dp hf xs ys r' q2 h2)
end
theorem deepR_dp (w : Wd K μ H η) : ∀ (n i : Nat) (a : Addr) (d : D), deepR η n i = some d → μ[i]? = some a → Dp K.K H (.ref a) (py d)
  | 0, _, _, _, h, _ => nomatch h
  | n + 1, i, a, d, h, ha => by
    rw [deepR] at h
    have key : ∀ xs, MI.getL η (.ref i) = some xs → (deepsW (deepR η n) xs).map D.sq = some d → Dp K.K H (.ref a) (py d) := fun xs hx hd => by
      cases q : deepsW (deepR η n) xs with
      | none => rw [q] at hd; cases hd
      | some ys =>
        rw [q] at hd; cases hd
        obtain ⟨a', vs, e, hs, rs⟩ := w.getL (d := .ref i) (v := .ref a) ⟨a, rfl, ha⟩ hx
        cases e
        exact .lst hs (deepsW_dp (deepR_dp w n) xs ys vs q rs)
    split at h
    · rename_i xs e
      exact key xs (by unfold MI.getL; simp only [e]) h
    · rename_i xs e
      exact key xs (by unfold MI.getL; simp only [e]) h
    · cases h
theorem deep_dp (w : Wd K μ H η) {d e : D} {v : V} (h : deep η d = some e) (r : RV K μ H d v) : Dp K.K H v (py e) := deepW_dp (fun i a d h1 h2 => deepR_dp w 6 i a d h1 h2) d e v h r
mutual
theorem fine_lay : ∀ d : D, d.fine = true → (py d).canLay0 = true
  | .non, _ => rfl
  | .bl _, _ => rfl
  | .int _, _ => rfl
  | .str s, h => by
    simp only [py, PyData.canLay0, PyData.strOk]
    rw [D.fine] at h
    simpa [Array.all_eq_true, List.all_eq_true] using h
  | .tup xs, h => by rw [py, PyData.canLay0]; exact fines_lay xs (by rw [D.fine] at h; exact h)
  | .lst _, h => nomatch h
  | .sq xs, h => by rw [py, PyData.canLay0]; exact fines_lay xs (by rw [D.fine] at h; exact h)
  | .dic _ _, h => nomatch h
  | .ref _, h => nomatch h
  | .exc _, h => nomatch h
theorem fines_lay : ∀ ds : List D, D.fines ds = true → PyData.canLayAll0 (pys ds) = true
  | [], _ => rfl
  | x :: xs, h => by
    rw [D.fines, Bool.and_eq_true] at h
    rw [pys, PyData.canLayAll0, fine_lay x h.1, fines_lay xs h.2]; rfl
end
mutual
theorem dep_py : ∀ d : D, (py d).depth = d.dep
  | .non => rfl
  | .bl _ => rfl
  | .int _ => rfl
  | .str _ => rfl
  | .tup xs => by rw [py, PyData.depth, D.dep, deps_py xs]
  | .lst xs => by rw [py, PyData.depth, D.dep, deps_py xs]
  | .sq xs => by rw [py, PyData.depth, D.dep, deps_py xs]
  | .dic _ _ => rfl
  | .ref _ => rfl
  | .exc _ => rfl
theorem deps_py : ∀ ds : List D, PyData.depthAll (pys ds) = D.deps ds
  | [] => rfl
  | x :: xs => by rw [pys, PyData.depthAll, D.deps, dep_py x, deps_py xs]
end
theorem shp_shaped {d : D} (h : shp d = true) : SeqAt.shaped (py d) = true := by
  unfold shp at h
  rw [Bool.and_eq_true] at h
  unfold SeqAt.shaped
  rw [fine_lay d h.1, dep_py]
  have := of_decide_eq_true h.2
  simp; omega
mutual
theorem eqv_py : ∀ d e : D, d.fine = true → e.fine = true → PyData.eqv (py d) (py e) = D.eqv d e
  | .ref _, _, h, _ => nomatch h
  | .exc _, _, h, _ => nomatch h
  | .lst _, _, h, _ => nomatch h
  | .dic _ _, _, h, _ => nomatch h
  | _, .ref _, _, h => nomatch h
  | _, .exc _, _, h => nomatch h
  | _, .lst _, _, h => nomatch h
  | _, .dic _ _, _, h => nomatch h
  | .tup xs, .tup ys, h, h' => by
    rw [py, py, PyData.eqv, D.eqv]
    exact eqvs_py xs ys (by rw [D.fine] at h; exact h) (by rw [D.fine] at h'; exact h')
  | .sq xs, .sq ys, h, h' => by
    rw [py, py, PyData.eqv, D.eqv]
    exact eqvs_py xs ys (by rw [D.fine] at h; exact h) (by rw [D.fine] at h'; exact h')
  | .str x, .str y, _, _ => by
    rw [py, py, PyData.eqv, D.eqv]
    by_cases e : x = y
    · subst e; simp
    · have e2 : ¬ (⟨x.toArray⟩ : Str) = ⟨y.toArray⟩ := fun z => e (by simpa using congrArg Str.cps z)
      rw [beq_eq_false_iff_ne.mpr e, beq_eq_false_iff_ne.mpr e2]
  | .non, .non, _, _ => rfl
  | .bl _, .bl _, _, _ => rfl
  | .int _, .int _, _, _ => rfl
  | .bl b, .int _, _, _ => by cases b <;> rfl
  | .int _, .bl b, _, _ => by cases b <;> rfl
  | .non, .bl _, _, _ => rfl
  | .non, .int _, _, _ => rfl
  | .non, .str _, _, _ => rfl
  | .non, .tup _, _, _ => rfl
  | .non, .sq _, _, _ => rfl
  | .bl _, .non, _, _ => rfl
  | .bl _, .str _, _, _ => rfl
  | .bl _, .tup _, _, _ => rfl
  | .bl _, .sq _, _, _ => rfl
  | .int _, .non, _, _ => rfl
  | .int _, .str _, _, _ => rfl
  | .int _, .tup _, _, _ => rfl
  | .int _, .sq _, _, _ => rfl
  | .str _, .non, _, _ => rfl
  | .str _, .bl _, _, _ => rfl
  | .str _, .int _, _, _ => rfl
  | .str _, .tup _, _, _ => rfl
  | .str _, .sq _, _, _ => rfl
  | .tup _, .non, _, _ => rfl
  | .tup _, .bl _, _, _ => rfl
  | .tup _, .int _, _, _ => rfl
  | .tup _, .str _, _, _ => rfl
  | .tup _, .sq _, _, _ => rfl
  | .sq _, .non, _, _ => rfl
  | .sq _, .bl _, _, _ => rfl
  | .sq _, .int _, _, _ => rfl
  | .sq _, .str _, _, _ => rfl
  | .sq _, .tup _, _, _ => rfl
theorem eqvs_py : ∀ ds es : List D, D.fines ds = true → D.fines es = true → PyData.eqvAll (pys ds) (pys es) = D.eqvs ds es
  | [], [], _, _ => rfl
  | [], _ :: _, _, _ => rfl
  | _ :: _, [], _, _ => rfl
  | x :: xs, y :: ys, h, h' => by
    rw [D.fines, Bool.and_eq_true] at h h'
    rw [pys, pys, PyData.eqvAll, D.eqvs, eqv_py x y h.1 h'.1, eqvs_py xs ys h.2 h'.2]
end
theorem shp_fine {d : D} (h : shp d = true) : d.fine = true := by
  unfold shp at h
  rw [Bool.and_eq_true] at h
  exact h.1
/-- == of two values -/
theorem eqH_dp (w : Wd K μ H η) {d e : D} {x y : V} {b : Bool} (h : eqH d e η = some b) (r : RV K μ H d x) (q : RV K μ H e y) : ∃ a c, Dp K.K H x a ∧ Dp K.K H y c ∧ SeqAt.shaped a = true ∧ SeqAt.shaped c = true ∧ PyData.eqv a c = b := by
  unfold eqH at h
  cases h1 : deep η d with
  | none => rw [h1] at h; cases h
  | some a =>
    cases h2 : deep η e with
    | none => rw [h1, h2] at h; cases h
    | some c =>
      rw [h1, h2] at h
      simp only [Option.bind_some] at h
      split at h
      · rename_i hs
        rw [Bool.and_eq_true] at hs
        cases h
        exact ⟨py a, py c, deep_dp w h1 r, deep_dp w h2 q, shp_shaped hs.1, shp_shaped hs.2, eqv_py a c (shp_fine hs.1) (shp_fine hs.2)⟩
      · cases h
end
/-- a comparison of MI's as a reading -/
def r2c (K : KW) (f : D → D → Hv → Option Bool) : R2 := fun x y H Q => ∃ (μ : List Addr) (η : Hv) (d e : D) (b : Bool), Wd K μ H η ∧ RV K μ H d x ∧ RV K μ H e y ∧ f d e η = some b ∧ Q (.bl b) H
section
variable {X : Cx} {cl : HxC} {ex : Nat → Addr}
theorem opM_eq (hu : X.A.units + 64 < cLine) : OpR X (compareOp .Eq) (r2c (kw X cl ex) (cmpH .eq)) := by
  intro pins s σ H x y v u Q I rx ry ⟨μ, η, d, e, b, wd, rd, re, h, q⟩
  obtain ⟨a, c, h1, h2, h3, h4, h5⟩ := eqH_dp wd h rd re
  exact op_eqD hu pins s σ H x y v u Q I rx ry ⟨a, c, h1, h2, h3, h4, by rw [h5]; exact q⟩
theorem opM_ne (hu : X.A.units + 64 < cLine) : OpR X (compareOp .NotEq) (r2c (kw X cl ex) (cmpH .ne)) := by
  intro pins s σ H x y v u Q I rx ry ⟨μ, η, d, e, b, wd, rd, re, h, q⟩
  cases g : eqH d e η with
  | none => simp only [cmpH, g] at h; cases h
  | some c =>
    simp only [cmpH, g] at h
    cases h
    obtain ⟨a, c', h1, h2, h3, h4, h5⟩ := eqH_dp wd g rd re
    exact op_neD hu pins s σ H x y v u Q I rx ry ⟨a, c', h1, h2, h3, h4, by rw [h5]; exact q⟩
theorem opM_lt : OpR X (compareOp .Lt) (r2c (kw X cl ex) (cmpH .lt)) := by
  intro pins s σ H x y v u Q I rx ry ⟨μ, η, d, e, b, wd, rd, re, h, q⟩
  cases d <;> cases e <;> first | (cases h; done) | skip
  cases rd; cases re; cases h
  exact op_lt pins s σ H _ _ v u Q I rx ry ⟨_, _, rfl, rfl, q⟩
theorem opM_le : OpR X (compareOp .LtE) (r2c (kw X cl ex) (cmpH .le)) := by
  intro pins s σ H x y v u Q I rx ry ⟨μ, η, d, e, b, wd, rd, re, h, q⟩
  cases d <;> cases e <;> first | (cases h; done) | skip
  cases rd; cases re; cases h
  exact op_le pins s σ H _ _ v u Q I rx ry ⟨_, _, rfl, rfl, q⟩
theorem opM_gt : OpR X (compareOp .Gt) (r2c (kw X cl ex) (cmpH .gt)) := by
  intro pins s σ H x y v u Q I rx ry ⟨μ, η, d, e, b, wd, rd, re, h, q⟩
  cases d <;> cases e <;> first | (cases h; done) | skip
  cases rd; cases re; cases h
  exact op_gt pins s σ H _ _ v u Q I rx ry ⟨_, _, rfl, rfl, q⟩
theorem opM_ge : OpR X (compareOp .GtE) (r2c (kw X cl ex) (cmpH .ge)) := by
  intro pins s σ H x y v u Q I rx ry ⟨μ, η, d, e, b, wd, rd, re, h, q⟩
  cases d <;> cases e <;> first | (cases h; done) | skip
  cases rd; cases re; cases h
  exact op_ge pins s σ H _ _ v u Q I rx ry ⟨_, _, rfl, rfl, q⟩
/-- x is None, True, False -/
theorem is_bool_other {A : Around} {E : Value → Shared → Prop} {s : Shared} {v : Value} {b : Bool} {Q : Value → Shared → Prop} {M : Model} (hv : ∀ c, v ≠ .bool c) (hn : v ≠ .bool b) (h : Q (.bool false) s) (hr : ∀ a, v = .ref a → True) : True := trivial
end
end MIS

set_option Elab.async false
set_option linter.all false
set_option maxRecDepth 100000
set_option maxHeartbeats 1000000
/-! MiS4: is, in, subscripts, slices, truth. -/
namespace MIS
open PySem PySem.Spec PyProof.Rows L2 MI
theorem is_bool_gen {M : Model} {A : Around} {E : Value → Shared → Prop} {s : Shared} {x : V} {v : Value} {b : Bool} {Q : Value → Shared → Prop} (r : RelV x v) (h : Q (.bool (decide (x = .bl b))) s) : wpAny M A (compareOp .Is v (.bool b)) Q E s := by
  cases x with
  | non => cases r; exact wpAny_is_other rfl (fun z => nomatch z) (by simpa using h)
  | bl c =>
    cases r
    by_cases e : c = b
    · subst e; exact wpAny_is_self rfl (by simpa using h)
    · exact wpAny_is_other rfl (fun z => e (Value.bool.inj z)) (by simpa [e] using h)
  | int i => obtain ⟨t, rfl⟩ := r; exact wpAny_is_other rfl (fun z => nomatch z) (by simpa using h)
  | str i => obtain ⟨t, rfl⟩ := r; exact wpAny_is_other rfl (fun z => nomatch z) (by simpa using h)
  | byt i => obtain ⟨t, rfl⟩ := r; exact wpAny_is_other rfl (fun z => nomatch z) (by simpa using h)
  | flt i => obtain ⟨t, rfl⟩ := r; exact wpAny_is_other rfl (fun z => nomatch z) (by simpa using h)
  | ref i => cases r; exact wpAny_is_other rfl (fun z => nomatch z) (by simpa using h)
  | ty i => cases r; exact wpAny_is_other rfl (fun z => nomatch z) (by simpa using h)
theorem isn_bool_gen {M : Model} {A : Around} {E : Value → Shared → Prop} {s : Shared} {x : V} {v : Value} {b : Bool} {Q : Value → Shared → Prop} (r : RelV x v) (h : Q (.bool (!decide (x = .bl b))) s) : wpAny M A (compareOp .IsNot v (.bool b)) Q E s := by
  cases x with
  | non => cases r; exact wpAny_isNot_other rfl (fun z => nomatch z) (by simpa using h)
  | bl c =>
    cases r
    by_cases e : c = b
    · subst e; exact wpAny_isNot_self rfl (by simpa using h)
    · exact wpAny_isNot_other rfl (fun z => e (Value.bool.inj z)) (by simpa [e] using h)
  | int i => obtain ⟨t, rfl⟩ := r; exact wpAny_isNot_other rfl (fun z => nomatch z) (by simpa using h)
  | str i => obtain ⟨t, rfl⟩ := r; exact wpAny_isNot_other rfl (fun z => nomatch z) (by simpa using h)
  | byt i => obtain ⟨t, rfl⟩ := r; exact wpAny_isNot_other rfl (fun z => nomatch z) (by simpa using h)
  | flt i => obtain ⟨t, rfl⟩ := r; exact wpAny_isNot_other rfl (fun z => nomatch z) (by simpa using h)
  | ref i => cases r; exact wpAny_isNot_other rfl (fun z => nomatch z) (by simpa using h)
  | ty i => cases r; exact wpAny_isNot_other rfl (fun z => nomatch z) (by simpa using h)
section
variable {K : KW} {μ : List Addr} {H : Hp} {η : Hv}
def isNon : D → Bool
  | .non => true
  | _ => false
def isBl (b : Bool) : D → Bool
  | .bl c => c == b
  | _ => false
theorem RV.non_iff {d : D} {x : V} (r : RV K μ H d x) : decide (x = .non) = isNon d := by
  cases d with
  | tup ds => obtain ⟨a, vs, rfl, _⟩ := r; simp [isNon, isBl]
  | ref i => obtain ⟨a, rfl, _⟩ := r; simp [isNon, isBl]
  | exc _ => exact r.elim
  | lst ds => obtain ⟨a, vs, rfl, _⟩ := r; simp [isNon, isBl]
  | sq _ => exact r.elim
  | dic _ _ => exact r.elim
  | _ => cases r; simp [isNon, isBl]
theorem RV.bl_iff {d : D} {x : V} {b : Bool} (r : RV K μ H d x) : decide (x = .bl b) = isBl b d := by
  cases d with
  | tup ds => obtain ⟨a, vs, rfl, _⟩ := r; simp [isNon, isBl]
  | ref i => obtain ⟨a, rfl, _⟩ := r; simp [isNon, isBl]
  | exc _ => exact r.elim
  | lst ds => obtain ⟨a, vs, rfl, _⟩ := r; simp [isNon, isBl]
  | sq _ => exact r.elim
  | dic _ _ => exact r.elim
  | bl c => cases r; cases c <;> cases b <;> simp [isBl]
  | _ => cases r; simp [isNon, isBl]
end
section
variable {X : Cx} {cl : HxC} {ex : Nat → Addr}
theorem opM_is : OpR X (compareOp .Is) (r2c (kw X cl ex) (cmpH .is)) := by
  intro pins s σ H x y v u Q I rx ry ⟨μ, η, d, e, b, wd, rd, re, h, q⟩
  cases e <;> first | (cases h; done) | skip
  · cases re
    simp only [cmpH] at h
    have e1 := Option.some.inj h
    refine op_isN pins s σ H x _ v u Q I rx ry ⟨rfl, ?_⟩
    have : decide (x = .non) = b := by rw [rd.non_iff, ← e1]; cases d <;> rfl
    rw [this]; exact q
  · cases re
    simp only [cmpH] at h
    have e1 := Option.some.inj h
    cases ry
    rename_i c
    have : decide (x = .bl c) = b := by rw [rd.bl_iff, ← e1]; cases d <;> rfl
    exact is_bool_gen rx ⟨.bl _, H, I, rfl, by rw [this]; exact q⟩
theorem opM_isn : OpR X (compareOp .IsNot) (r2c (kw X cl ex) (cmpH .isn)) := by
  intro pins s σ H x y v u Q I rx ry ⟨μ, η, d, e, b, wd, rd, re, h, q⟩
  cases e <;> first | (cases h; done) | skip
  · cases re
    simp only [cmpH] at h
    have e1 := Option.some.inj h
    refine op_notN pins s σ H x _ v u Q I rx ry ⟨rfl, ?_⟩
    have : (!decide (x = .non)) = b := by rw [rd.non_iff, ← e1]; cases d <;> rfl
    rw [this]; exact q
  · cases re
    simp only [cmpH] at h
    have e1 := Option.some.inj h
    cases ry
    rename_i c
    have : (!decide (x = .bl c)) = b := by rw [rd.bl_iff, ← e1]; cases d <;> rfl
    exact isn_bool_gen rx ⟨.bl _, H, I, rfl, by rw [this]; exact q⟩
end
section
variable {K : KW} {μ : List Addr} {H : Hp} {η : Hv}
theorem flat_V {d : D} {x : V} (r : RV K μ H d x) (f : flatD d = true) : flatV x = true := by
  cases d <;> first | (cases f; done) | (cases r; rfl)
theorem flat_all : ∀ {ds : List D} {vs : List V}, RVs K μ H ds vs → ds.all flatD = true → vs.all flatV = true
  | [], _, h, _ => by rw [show _ = [] from h]; rfl
  | x :: xs, _, h, f => by
    obtain ⟨v, r, rfl, h1, h2⟩ := h
    rw [List.all_cons, Bool.and_eq_true] at f
    rw [List.all_cons, flat_V h1 f.1, flat_all h2 f.2]; rfl
theorem eqv_V {d e : D} {x y : V} (r : RV K μ H d x) (q : RV K μ H e y) (f : flatD d = true) (g : flatD e = true) : eqV x y = D.eqv d e := by
  cases d <;> first | (cases f; done) | skip
  all_goals (cases e <;> first | (cases g; done) | skip)
  all_goals (cases r; cases q)
  all_goals try rfl
  · rename_i a b
    show ((⟨a.toArray⟩ : Str) == ⟨b.toArray⟩) = (a == b)
    by_cases e : a = b
    · subst e; simp
    · have e2 : ¬ (⟨a.toArray⟩ : Str) = ⟨b.toArray⟩ := fun z => e (by simpa using congrArg Str.cps z)
      rw [beq_eq_false_iff_ne.mpr e, beq_eq_false_iff_ne.mpr e2]
theorem any_V {d : D} {x : V} (r : RV K μ H d x) (f : flatD d = true) : ∀ {ds : List D} {vs : List V}, RVs K μ H ds vs → ds.all flatD = true → (vs.any fun y => eqV y x) = ds.any fun e => D.eqv e d
  | [], _, h, _ => by rw [show _ = [] from h]; rfl
  | e :: es, _, h, g => by
    obtain ⟨v, r', rfl, h1, h2⟩ := h
    rw [List.all_cons, Bool.and_eq_true] at g
    rw [List.any_cons, List.any_cons, eqv_V h1 r g.1 f, any_V r f h2 g.2]
theorem deps_le : ∀ {ds : List D}, ds.all shp = true → D.deps ds ≤ 60
  | [], _ => Nat.zero_le _
  | d :: ds, h => by
    rw [List.all_cons, Bool.and_eq_true] at h
    have h1 := h.1
    unfold shp at h1
    rw [Bool.and_eq_true] at h1
    rw [D.deps]
    exact Nat.max_le.mpr ⟨of_decide_eq_true h1.2, deps_le h.2⟩
theorem fines_of : ∀ {ds : List D}, ds.all shp = true → D.fines ds = true
  | [], _ => rfl
  | d :: ds, h => by
    rw [List.all_cons, Bool.and_eq_true] at h
    rw [D.fines, shp_fine h.1, fines_of h.2]; rfl
theorem shaped_list {ds : List D} (h : ds.all shp = true) : SeqAt.shaped (.list (pys ds)) = true := by
  have h1 := fine_lay (.sq ds) (by rw [D.fine]; exact fines_of h)
  have h2 := dep_py (.sq ds)
  rw [py] at h1 h2
  unfold SeqAt.shaped
  rw [h1, h2, D.dep]
  have := deps_le h
  simp; omega
theorem any_py {d : D} (f : d.fine = true) : ∀ {ds : List D}, ds.all shp = true → ((pys ds).any fun z => PyData.eqv z (py d)) = ds.any fun e => D.eqv e d
  | [], _ => rfl
  | e :: es, h => by
    rw [List.all_cons, Bool.and_eq_true] at h
    rw [pys, List.any_cons, List.any_cons, eqv_py e d (shp_fine h.1) f, any_py f h.2]
/-- membership in a list -/
theorem memH_dp (w : Wd K μ H η) {d e : D} {x y : V} {ds : List D} {b : Bool} (h : memH d ds η = some b) (hl : MI.getL η e = some ds) (r : RV K μ H d x) (q : RV K μ H e y) :
    ∃ a cs, Dp K.K H x a ∧ Dp K.K H y (.list cs) ∧ SeqAt.shaped a = true ∧ SeqAt.shaped (.list cs) = true ∧ (cs.any fun z => PyData.eqv z a) = b := by
  unfold memH at h
  cases h1 : deep η d with
  | none => rw [h1] at h; cases h
  | some a =>
    cases h2 : deepsW (deepR η 6) ds with
    | none => rw [h1, h2] at h; cases h
    | some cs =>
      rw [h1, h2] at h
      simp only [Option.bind_some] at h
      split at h
      · rename_i hs
        rw [Bool.and_eq_true] at hs
        cases h
        obtain ⟨p, vs, rfl, hp, rs⟩ := w.getL q hl
        exact ⟨py a, pys cs, deep_dp w h1 r, .lst hp (deepsW_dp (fun i a d h1 h2 => deepR_dp w 6 i a d h1 h2) ds cs vs h2 rs), shp_shaped hs.1, shaped_list hs.2, any_py (shp_fine hs.1) hs.2⟩
      · cases h
end
section
variable {X : Cx} {cl : HxC} {ex : Nat → Addr}
theorem no_dic {K : KW} {μ : List Addr} {H : Hp} {η : Hv} (wd : Wd K μ H η) {d : D} {x : V} {kvs : List (D × D)} (r : RV K μ H d x) (h : MI.getD η d = some kvs) : False := by
  unfold MI.getD at h
  split at h
  · rename_i i
    obtain ⟨a, rfl, ha⟩ := r
    split at h
    · rename_i ys e
      exact wd.obj i a _ ha e
    · cases h
  · cases h
/-- the three ways of a membership -/
theorem inH_ways {K : KW} {μ : List Addr} {H : Hp} {η : Hv} {d e : D} {x y : V} {b : Bool} (wd : Wd K μ H η) (rd : RV K μ H d x) (re : RV K μ H e y) (h : inH d e η = some b) :
    (∃ a cs, Dp K.K H x a ∧ Dp K.K H y (.list cs) ∧ SeqAt.shaped a = true ∧ SeqAt.shaped (.list cs) = true ∧ (cs.any fun z => PyData.eqv z a) = b) ∨
    (∃ p vs, y = .ref p ∧ SqT K.K H p vs ∧ flatV x = true ∧ vs.all flatV = true ∧ inV x vs = b) ∨
    ∃ (c : Nat) (z : Str), x = .str ⟨#[c]⟩ ∧ y = .str z ∧ decide (c ∈ z.cps.toList) = b := by
  unfold inH at h
  split at h
  · rename_i ys hl
    exact .inl (memH_dp wd h hl rd re)
  · split at h
    · rename_i kvs hk
      exact (no_dic wd re hk).elim
    · split at h
      · rename_i ys _ _
        split at h
        · rename_i hf
          rw [Bool.and_eq_true] at hf
          obtain ⟨p, vs, rfl, hp, rs⟩ := re
          refine .inr (.inl ⟨p, vs, rfl, hp, flat_V rd hf.1, flat_all rs hf.2, ?_⟩)
          unfold inV
          rw [any_V rd hf.1 rs hf.2]
          exact Option.some.inj h
        · cases h
      · rename_i ss _ _
        split at h
        · rename_i c
          cases rd; cases re
          refine .inr (.inr ⟨c, ⟨ss.toArray⟩, rfl, rfl, ?_⟩)
          rw [← Option.some.inj h, Bool.eq_iff_iff]; simp
        · cases h
      · cases h
theorem opM_in (hu : X.A.units + 65 < cLine) : OpR X (compareOp .In) (r2c (kw X cl ex) (cmpH .isin)) := by
  intro pins s σ H x y v u Q I rx ry ⟨μ, η, d, e, b, wd, rd, re, h, q⟩
  rcases inH_ways wd rd re h with ⟨a, cs, h1, h2, h3, h4, h5⟩ | ⟨p, vs, rfl, h1, h2, h3, h4⟩ | ⟨c, z, rfl, rfl, h1⟩
  · exact op_inD hu pins s σ H x y v u Q I rx ry ⟨a, cs, h1, h2, h3, h4, by rw [h5]; exact q⟩
  · exact op_in_seq pins s σ H x _ v u Q I rx ry ⟨p, vs, rfl, .inr h1, h2, h3, by
      show Q (.bl (inV x vs)) H
      rw [h4]; exact q⟩
  · exact op_in_sign pins s σ H _ _ v u Q I rx ry ⟨c, z, rfl, rfl, by rw [h1]; exact q⟩
theorem opM_nin (hu : X.A.units + 65 < cLine) : OpR X (compareOp .NotIn) (r2c (kw X cl ex) (cmpH .nin)) := by
  intro pins s σ H x y v u Q I rx ry ⟨μ, η, d, e, b, wd, rd, re, h, q⟩
  cases g : inH d e η with
  | none => simp only [cmpH, g] at h; cases h
  | some b' =>
    simp only [cmpH, g] at h
    cases h
    rcases inH_ways wd rd re g with ⟨a, cs, h1, h2, h3, h4, h5⟩ | ⟨p, vs, rfl, h1, h2, h3, h4⟩ | ⟨c, z, rfl, rfl, h1⟩
    · exact op_notInD hu pins s σ H x y v u Q I rx ry ⟨a, cs, h1, h2, h3, h4, by rw [h5]; exact q⟩
    · exact op_notIn_seq pins s σ H x _ v u Q I rx ry ⟨p, vs, rfl, .inr h1, h2, h3, by
        show Q (.bl (!inV x vs)) H
        rw [h4]; exact q⟩
    · exact op_notIn_sign pins s σ H _ _ v u Q I rx ry ⟨c, z, rfl, rfl, by rw [h1]; exact q⟩
end
section
variable {K : KW} {μ : List Addr} {H : Hp} {η : Hv}
theorem atI_of {ds : List D} {vs : List V} {i : Int} {d : D} (r : RVs K μ H ds vs) (h : atD ds i = some d) : ∃ v, L2.atI vs i = some v ∧ RV K μ H d v := by
  unfold atD ixD at h
  unfold L2.atI L2.ixN
  rw [r.len]
  cases e : (if 0 ≤ i then (if i < (ds.length : Int) then some i.toNat else none) else if -(ds.length : Int) ≤ i then some (i + ds.length).toNat else none) with
  | none => rw [e] at h; cases h
  | some j =>
    rw [e] at h
    obtain ⟨v, h1, h2⟩ := r.get (i := j) h
    exact ⟨v, h1, h2⟩
end
section
variable {X : Cx} {cl : HxC} {ex : Nat → Addr}
def r2h (K : KW) (f : D → D → Hv → Option D) : R2 := fun x y H Q => ∃ (μ : List Addr) (η : Hv) (d e c : D), Wd K μ H η ∧ RV K μ H d x ∧ RV K μ H e y ∧ f d e η = some c ∧ ∀ v, RV K μ H c v → Q v H
theorem ixM : IxR X (r2h (kw X cl ex) idxH) := by
  intro value slice pins s σ H x y v u Q I rx ry ⟨μ, η, d, e, c, wd, rd, re, h, q⟩ hs
  unfold idxH at h
  split at h
  · rename_i xs i
    cases re
    obtain ⟨p, vs, rfl, hp, rs⟩ := rd
    obtain ⟨w, h1, h2⟩ := atI_of rs h
    exact ix_tup value slice pins s σ H _ _ v u Q I rx ry ⟨p, vs, i, w, rfl, rfl, hp, h1, q w h2⟩ hs
  · rename_i xs i
    cases re
    obtain ⟨p, vs, rfl, hp, rs⟩ := rd
    obtain ⟨w, h1, h2⟩ := atI_of rs h
    exact ix_list value slice pins s σ H _ _ v u Q I rx ry ⟨p, vs, i, w, rfl, rfl, hp.list, h1, q w h2⟩ hs
  · rename_i ss i
    split at h
    · rename_i hz
      cases re; cases rd
      cases g : atD ss i with
      | none => rw [g] at h; cases h
      | some k =>
        rw [g] at h; cases h
        exact ix_str value slice pins s σ H _ _ v u Q I rx ry ⟨⟨ss.toArray⟩, i, k, rfl, rfl, by rw [← lim_eq]; exact hz, g, q _ rfl⟩ hs
    · cases h
  · rename_i a0 a
    have key : ∀ xs i, MI.getL η (.ref a) = some xs → e = .int i → atD xs i = some c → wpAny (model X.prog X.w) X.A (subscriptTail value slice v u) (EP X pins σ Q) X.xe s := fun xs i hx he hc => by
      subst he
      cases re
      obtain ⟨p, vs, rfl, hp, rs⟩ := wd.getL rd hx
      obtain ⟨w, h1, h2⟩ := atI_of rs hc
      exact ix_list value slice pins s σ H _ _ v u Q I rx ry ⟨p, vs, i, w, rfl, rfl, hp, h1, q w h2⟩ hs
    split at h
    · rename_i xs e1
      split at h
      · rename_i i; exact key xs i (by unfold MI.getL; simp only [e1]) rfl h
      · cases h
    · rename_i xs e1
      split at h
      · rename_i i; exact key xs i (by unfold MI.getL; simp only [e1]) rfl h
      · cases h
    · rename_i kvs e1
      obtain ⟨p, rfl, hp⟩ := rd
      exact (wd.obj a p _ hp e1).elim
    · cases h
  · cases h
/-- slices -/
theorem sIx_eq (n d : Nat) : ∀ o : Option Int, HT.sIx n d o = sIxD n d o
  | none => rfl
  | some i => by
    first
      | rfl
      | (unfold HT.sIx sIxD; rfl)
end
end MIS

set_option Elab.async false
set_option linter.all false
set_option maxRecDepth 100000
set_option maxHeartbeats 1000000
/-! MiS5: truth, slices, built-in functions and methods by values. -/
namespace MIS
open PySem PySem.Spec PyProof.Rows L2 MI
section
variable {K : KW} {μ : List Addr} {H : Hp} {η : Hv}
theorem RVs.isEmpty {ds : List D} {vs : List V} (r : RVs K μ H ds vs) : vs.isEmpty = ds.isEmpty := by
  have := r.len
  cases ds <;> cases vs <;> simp_all
theorem truth_ok (w : Wd K μ H η) {d : D} {x : V} {b : Bool} (r : RV K μ H d x) (h : truH d η = some b) : TruV K.K x H b := by
  have hl := lim_eq
  cases d with
  | non => cases r; simp only [truH] at h; exact (Option.some.inj h).symm
  | bl c => cases r; simp only [truH] at h; exact (Option.some.inj h).symm
  | int i => cases r; simp only [truH] at h; exact (Option.some.inj h).symm
  | str s =>
    cases r
    simp only [truH] at h
    split at h
    · rename_i hz
      refine ⟨by show s.toArray.size ≤ sizeLine; rw [List.size_toArray, ← hl]; exact hz, ?_⟩
      rw [← Option.some.inj h]
      show _ = ((s.toArray.size : Int) != 0)
      rw [List.size_toArray]
      cases s with
      | nil => rfl
      | cons a t =>
        show (!false) = _
        have : ((((a :: t).length : Nat) : Int) != 0) = true := by
          rw [bne_iff_ne]; simp; omega
        rw [this]; rfl
    · cases h
  | tup xs =>
    obtain ⟨a, vs, rfl, hs, rs⟩ := r
    simp only [truH] at h
    split at h
    · exact .inr (.inl ⟨vs, hs, by rw [rs.isEmpty]; exact (Option.some.inj h).symm⟩)
    · cases h
  | ref i =>
    obtain ⟨a, rfl, ha⟩ := r
    simp only [truH] at h
    split at h
    · rename_i xs e
      obtain ⟨vs, h1, rs⟩ := w.obj i a _ ha e
      exact .inl ⟨vs, SqL.of h1, by rw [rs.isEmpty]; exact (Option.some.inj h).symm⟩
    · rename_i xs e
      obtain ⟨ob, vs, h1, rs⟩ := w.obj i a _ ha e
      exact .inl ⟨vs, .inl (.inr ⟨ob, h1⟩), by rw [rs.isEmpty]; exact (Option.some.inj h).symm⟩
    · rename_i kvs e
      exact (w.obj i a _ ha e).elim
    · cases h
  | exc _ => exact r.elim
  | lst _ => cases h
  | sq _ => exact r.elim
  | dic _ _ => exact r.elim
theorem RVs.cut {ds : List D} {vs : List V} (r : RVs K μ H ds vs) (lo hi : Option Int) : RVs K μ H (mcut ds lo hi) (cutV vs lo hi) := by
  unfold mcut cutV
  rw [sIx_eq, sIx_eq, r.len]
  exact (r.drop _).take _
end
/-- a slice of MI's as a reading -/
def r3 (K : KW) (f : D → Option Int → Option Int → Mo D) : V → Option Int → Option Int → Hp → VK → Prop := fun x lo hi H Q => ∃ (W : WN) (μ : List Addr) (η : Hv) (d : D), Wd K μ H η ∧ RV K μ H d x ∧ EV K W μ H Q (f d lo hi η)
section
variable {X : Cx} {cl : HxC} {ex : Nat → Addr}
theorem slM : SlR X (r3 (kw X cl ex) slcM) := by
  intro pins s σ H x v vl vu lo hi sl Q I rx hs pl pu ⟨W, μ, η, d, wd, rd, h⟩
  have hl := lim_eq
  cases d with
  | tup xs =>
    obtain ⟨a, vs, rfl, ha, rs⟩ := rd
    simp only [slcM] at h
    refine sl_tupA pins s σ H _ v vl vu lo hi sl Q I rx hs pl pu ⟨a, vs, rfl, ha, fun hw => ?_, fun _ p hp => h.tup wd (rs.cut lo hi) hp⟩
    refine h.same wd ⟨a, vs, rfl, ha, ?_⟩
    have e : cutV vs lo hi = vs := by
      unfold cutV
      rw [hw.1, hw.2, List.drop_zero, Nat.sub_zero, List.take_length]
    have := rs.cut lo hi
    rw [e] at this
    exact this
  | str ss =>
    cases rd
    simp only [slcM] at h
    split at h
    · rename_i hz
      refine sl_str pins s σ H _ v vl vu lo hi sl Q I rx hs pl pu ⟨⟨ss.toArray⟩, rfl, by show ss.toArray.size ≤ sizeLine; rw [List.size_toArray, ← hl]; exact hz, h.same wd ?_⟩
      show V.str (cutS ⟨ss.toArray⟩ lo hi) = V.str ⟨(mcut ss lo hi).toArray⟩
      unfold cutS mcut
      rw [sIx_eq, sIx_eq]
      simp [Str.length]
    · exact h.elim
  | ref i =>
    have key : ∀ xs, MI.getL η (.ref i) = some xs → EV (kw X cl ex) W μ H Q (allocM (.lst (mcut xs lo hi)) η) → ∃ T id, typeLookup (.type T) "__getitem__" = pure (some (.builtin id)) ∧ s.TypeIs v T ∧ wpAny (model X.prog X.w) X.A (getItem v (.ref sl)) (EP X pins σ Q) X.xe s := fun xs hx hq => by
      obtain ⟨a, vs, rfl, ha, rs⟩ := wd.getL rd hx
      exact sl_list pins s σ H _ v vl vu lo hi sl Q I rx hs pl pu ⟨a, vs, rfl, ha, fun p hp => hq.lst wd (rs.cut lo hi) hp⟩
    simp only [slcM] at h
    split at h
    · rename_i xs e
      exact key xs (by unfold MI.getL; simp only [e]) h
    · rename_i xs e
      exact key xs (by unfold MI.getL; simp only [e]) h
    · exact h.elim
  | non => exact h.elim
  | bl _ => exact h.elim
  | int _ => exact h.elim
  | exc _ => exact h.elim
  | lst xs =>
    obtain ⟨a, vs, rfl, ha, rs⟩ := wd.getL rd (show MI.getL η (.lst xs) = some xs from rfl)
    exact sl_list pins s σ H _ v vl vu lo hi sl Q I rx hs pl pu ⟨a, vs, rfl, ha, fun p hp => h.lst wd (rs.cut lo hi) hp⟩
  | sq _ => exact h.elim
  | dic _ _ => exact h.elim
end
/-- a call of MI's as a reading -/
def rB (K : KW) (f : List D → Mo D) : List V → Hp → VK → Prop := fun xs H Q => ∃ (W : WN) (μ : List Addr) (η : Hv) (ds : List D), Wd K μ H η ∧ RVs K μ H ds xs ∧ EV K W μ H Q (f ds η)
section
variable {K : KW} {μ : List Addr} {H : Hp} {η : Hv}
theorem RVs.one_inv {d : D} {xs : List V} (r : RVs K μ H [d] xs) : ∃ x, xs = [x] ∧ RV K μ H d x := by
  obtain ⟨v, r', rfl, h1, h2⟩ := r
  rw [show r' = [] from h2]
  exact ⟨v, rfl, h1⟩
theorem RVs.two_inv {d e : D} {xs : List V} (r : RVs K μ H [d, e] xs) : ∃ x y, xs = [x, y] ∧ RV K μ H d x ∧ RV K μ H e y := by
  obtain ⟨v, r', rfl, h1, h2⟩ := r
  obtain ⟨w, rfl, h3⟩ := RVs.one_inv h2
  exact ⟨v, w, rfl, h1, h3⟩
theorem EV.look {W : WN} {Q : VK} {f : Hv → Option D} (w : Wd K μ H η) (h : EV K W μ H Q (lookM f η)) : ∃ d, f η = some d ∧ ∀ v, RV K μ H d v → Q v H := EndG.look w h
theorem seq_ok (w : Wd K μ H η) {d : D} {x : V} {ds : List D} (r : RV K μ H d x) (h : seqH d η = some ds) : ∃ a vs, x = .ref a ∧ RVs K μ H ds vs ∧ ((MI.getL η d = some ds ∧ SqL K.K H a vs) ∨ (d = .tup ds ∧ SqT K.K H a vs)) := by
  cases d with
  | tup xs =>
    cases h
    obtain ⟨a, vs, e, hs, rs⟩ := r
    exact ⟨a, vs, e, rs, .inr ⟨rfl, hs⟩⟩
  | _ =>
    simp only [seqH] at h
    obtain ⟨a, vs, e, hs, rs⟩ := w.getL r h
    exact ⟨a, vs, e, rs, .inl ⟨h, hs⟩⟩
theorem intsOf_map : ∀ {ds : List D} {ns : List Int}, intsOf ds = some ns → ds = ns.map .int
  | [], ns, h => by cases h; rfl
  | .int i :: r, ns, h => by
    rw [intsOf] at h
    cases q : intsOf r with
    | none => rw [q] at h; cases h
    | some ms => rw [q] at h; cases h; rw [intsOf_map q]; rfl
  | .non :: _, _, h => nomatch h
  | .bl _ :: _, _, h => nomatch h
  | .str _ :: _, _, h => nomatch h
  | .tup _ :: _, _, h => nomatch h
  | .ref _ :: _, _, h => nomatch h
  | .exc _ :: _, _, h => nomatch h
  | .lst _ :: _, _, h => nomatch h
  | .sq _ :: _, _, h => nomatch h
  | .dic _ _ :: _, _, h => nomatch h
theorem boolsOf_map : ∀ {ds : List D} {ns : List Bool}, boolsOf ds = some ns → ds = ns.map .bl
  | [], ns, h => by cases h; rfl
  | .bl i :: r, ns, h => by
    rw [boolsOf] at h
    cases q : boolsOf r with
    | none => rw [q] at h; cases h
    | some ms => rw [q] at h; cases h; rw [boolsOf_map q]; rfl
  | .non :: _, _, h => nomatch h
  | .int _ :: _, _, h => nomatch h
  | .str _ :: _, _, h => nomatch h
  | .tup _ :: _, _, h => nomatch h
  | .ref _ :: _, _, h => nomatch h
  | .exc _ :: _, _, h => nomatch h
  | .lst _ :: _, _, h => nomatch h
  | .sq _ :: _, _, h => nomatch h
  | .dic _ _ :: _, _, h => nomatch h
theorem strsOf_map : ∀ {ds : List D} {ns : List (List Nat)}, strsOf ds = some ns → ds = ns.map .str
  | [], ns, h => by cases h; rfl
  | .str i :: r, ns, h => by
    rw [strsOf] at h
    cases q : strsOf r with
    | none => rw [q] at h; cases h
    | some ms => rw [q] at h; cases h; rw [strsOf_map q]; rfl
  | .non :: _, _, h => nomatch h
  | .int _ :: _, _, h => nomatch h
  | .bl _ :: _, _, h => nomatch h
  | .tup _ :: _, _, h => nomatch h
  | .ref _ :: _, _, h => nomatch h
  | .exc _ :: _, _, h => nomatch h
  | .lst _ :: _, _, h => nomatch h
  | .sq _ :: _, _, h => nomatch h
  | .dic _ _ :: _, _, h => nomatch h
theorem RVs.strs : ∀ {ns : List (List Nat)} {vs : List V}, RVs K μ H (ns.map D.str) vs → vs = (ns.map fun s => (⟨s.toArray⟩ : Str)).map V.str
  | [], _, h => h
  | n :: ns, _, h => by
    obtain ⟨v, r, rfl, h1, h2⟩ := h
    rw [show v = .str ⟨n.toArray⟩ from h1, RVs.strs h2]; rfl
theorem sortI_spec (ns : List Int) : (sortI ns).Perm ns ∧ (sortI ns).Pairwise (· ≤ ·) := by
  refine ⟨List.mergeSort_perm _ _, ?_⟩
  have := List.pairwise_mergeSort (le := leI) (by intro a b c; simp [leI]; omega) (by intro a b; simp [leI]; omega) ns
  exact this.imp fun h => by simpa [leI] using h
theorem sorted_unique {as bs : List Int} (h1 : as.Perm bs) (h2 : as.Pairwise (· ≤ ·)) (h3 : bs.Pairwise (· ≤ ·)) : as = bs :=
  h1.eq_of_pairwise (fun a b _ _ x y => Int.le_antisymm x y) h2 h3
end
section
variable {X : Cx} {cl : HxC} {ex : Nat → Addr}
theorem cM_len : CallR X (.builtin "len") (rB (kw X cl ex) (bltM .len)) := by
  intro pins s σ H xs us Q I r ⟨W, μ, η, ds, wd, rd, h⟩
  have hl := lim_eq
  match ds, rd, h with
  | [], _, h => exact h.elim
  | _ :: _ :: _, _, h => exact h.elim
  | [d], rd, h =>
    obtain ⟨x, rfl, rx⟩ := rd.one_inv
    simp only [bltM] at h
    obtain ⟨c, h1, q⟩ := h.look wd
    cases e : lenH d η with
    | none => rw [e] at h1; cases h1
    | some n =>
      rw [e] at h1
      cases h1
      refine call_len pins s σ H _ us Q I r ⟨x, n, rfl, ?_, q _ rfl⟩
      cases d with
      | str ss =>
        cases rx
        simp only [lenH] at e
        split at e
        · rename_i hz
          cases e
          exact ⟨by show ss.toArray.size ≤ sizeLine; rw [List.size_toArray, ← hl]; exact hz, by show _ = ss.toArray.size; rw [List.size_toArray]⟩
        · cases e
      | tup ys =>
        obtain ⟨a, vs, rfl, hs, rs⟩ := rx
        simp only [lenH] at e
        split at e
        · cases e
          exact .inr ⟨vs, hs, rs.len.symm⟩
        · cases e
      | lst ys =>
        obtain ⟨a, vs, rfl, hs, rs⟩ := rx
        simp only [lenH] at e
        split at e
        · cases e
          exact .inl ⟨vs, hs.list, rs.len.symm⟩
        · cases e
      | ref i =>
        obtain ⟨a, rfl, ha⟩ := rx
        simp only [lenH] at e
        split at e
        · rename_i ys e1
          cases e
          obtain ⟨vs, hs, rs⟩ := wd.obj i a _ ha e1
          exact .inl ⟨vs, SqL.of hs, rs.len.symm⟩
        · rename_i ys e1
          cases e
          obtain ⟨ob, vs, hs, rs⟩ := wd.obj i a _ ha e1
          exact .inl ⟨vs, .inl (.inr ⟨ob, hs⟩), rs.len.symm⟩
        · rename_i ys e1
          exact (wd.obj i a _ ha e1).elim
        · cases e
      | _ => simp [lenH] at e
theorem cM_tuple : CallR X (.type "tuple") (rB (kw X cl ex) (bltM .tuple)) := by
  intro pins s σ H xs us Q I r ⟨W, μ, η, ds, wd, rd, h⟩
  match ds, rd, h with
  | [], _, h => exact h.elim
  | _ :: _ :: _, _, h => exact h.elim
  | [d], rd, h =>
    obtain ⟨x, rfl, rx⟩ := rd.one_inv
    simp only [bltM, lookM] at h
    cases e : seqH d η with
    | none => rw [e] at h; exact h.elim
    | some ys =>
      rw [e] at h
      simp only [Option.map_some] at h
      obtain ⟨a, vs, rfl, rs, hh⟩ := seq_ok wd rx e
      refine call_tuple_of pins s σ H _ us Q I r ⟨a, vs, rfl, ?_⟩
      rcases hh with ⟨_, hs⟩ | ⟨_, hs⟩
      · exact .inl ⟨hs, fun p hp => h.tup wd rs hp⟩
      · exact .inr ⟨hs, h.same wd ⟨a, vs, rfl, hs, rs⟩⟩
theorem cM_list : CallR X (.type "list") (rB (kw X cl ex) (bltM .list)) := by
  intro pins s σ H xs us Q I r ⟨W, μ, η, ds, wd, rd, h⟩
  match ds, rd, h with
  | [], _, h => exact h.elim
  | _ :: _ :: _, _, h => exact h.elim
  | [d], rd, h =>
    obtain ⟨x, rfl, rx⟩ := rd.one_inv
    simp only [bltM] at h
    cases e : seqH d η with
    | some ys =>
      rw [e] at h
      obtain ⟨a, vs, rfl, rs, hh⟩ := seq_ok wd rx e
      refine call_list_of pins s σ H _ us Q I r ⟨a, vs, rfl, hh.imp (·.2) (·.2), fun p hp => h.lst wd rs hp⟩
    | none =>
      rw [e] at h
      simp only at h
      split at h
      · rename_i kvs g
        unfold MI.getD at g
        split at g
        · rename_i i
          obtain ⟨a, rfl, ha⟩ := rx
          split at g
          · rename_i kvs' e1
            exact (wd.obj i a _ ha e1).elim
          · cases g
        · cases g
      · exact h.elim
theorem cM_int : CallR X (.type "int") (rB (kw X cl ex) (bltM .int)) := by
  intro pins s σ H xs us Q I r ⟨W, μ, η, ds, wd, rd, h⟩
  match ds, rd, h with
  | [], _, h => exact h.elim
  | a :: _ :: _, _, h => cases a <;> exact h.elim
  | [d], rd, h =>
    obtain ⟨x, rfl, rx⟩ := rd.one_inv
    cases d <;> simp only [bltM, badM] at h <;> try exact h.elim
    · cases rx
      exact call_int1 pins s σ H _ us Q I r (.inr ⟨_, rfl, h.same wd rfl⟩)
    · cases rx
      exact call_int1 pins s σ H _ us Q I r (.inl ⟨_, rfl, h.same wd rfl⟩)
theorem cM_str : CallR X (.type "str") (rB (kw X cl ex) (bltM .str)) := by
  intro pins s σ H xs us Q I r ⟨W, μ, η, ds, wd, rd, h⟩
  match ds, rd, h with
  | [], _, h => exact h.elim
  | a :: _ :: _, _, h => cases a <;> exact h.elim
  | [d], rd, h =>
    obtain ⟨x, rfl, rx⟩ := rd.one_inv
    cases d <;> simp only [bltM, badM] at h <;> try exact h.elim
    cases rx
    split at h
    · rename_i hz
      refine call_str_int pins s σ H _ us Q I r ⟨_, rfl, by omega, h.same wd ?_⟩
      show V.str (Str.ofString _) = _
      rw [Str.ofString_eq_toList]
      rfl
    · exact h.elim
theorem cM_min (hc : X.calm = true) : CallR X (.builtin "min") (rB (kw X cl ex) (bltM .min)) := by
  intro pins s σ H xs us Q I r ⟨W, μ, η, ds, wd, rd, h⟩
  match ds, rd, h with
  | [], _, h => exact h.elim
  | a :: b :: _ :: _, _, h => cases a <;> cases b <;> exact h.elim
  | [d, e], rd, h =>
    obtain ⟨x, y, rfl, rx, ry⟩ := rd.two_inv
    cases d <;> cases e <;> simp only [bltM, badM] at h <;> try exact h.elim
    cases rx; cases ry
    exact call_min2 hc pins s σ H _ us Q I r ⟨_, _, rfl, h.same wd rfl⟩
  | [d], rd, h =>
    obtain ⟨x, rfl, rx⟩ := rd.one_inv
    simp only [bltM] at h
    obtain ⟨c, h1, q⟩ := h.look wd
    cases e : MI.getL η d with
    | none => rw [e] at h1; cases h1
    | some ys =>
      rw [e] at h1
      simp only [Option.bind_some] at h1
      cases e2 : intsOf ys with
      | none => rw [e2] at h1; cases h1
      | some ns =>
        rw [e2] at h1
        simp only [Option.bind_some] at h1
        have em := intsOf_map e2
        subst em
        obtain ⟨a, vs, rfl, hs, rs⟩ := wd.getL rx e
        rw [rs.ints] at hs
        cases ns with
        | nil => cases h1
        | cons i t =>
          cases h1
          refine cr_min hc pins s σ H _ us Q I r ⟨a, i :: t, rfl, hs, Nat.succ_pos _, fun m hm hle => q _ ?_⟩
          show V.int m = V.int (minI i t)
          have key : ∀ (t : List Int) (i : Int), minI i t ∈ i :: t ∧ ∀ y ∈ i :: t, minI i t ≤ y := by
            intro t
            induction t with
            | nil => intro i; simp [minI]
            | cons b t ih =>
              intro i
              have hst : minI i (b :: t) = minI (if b < i then b else i) t := rfl
              obtain ⟨k1, k2⟩ := ih (if b < i then b else i)
              rw [hst]
              have hz : (if b < i then b else i) ≤ i ∧ (if b < i then b else i) ≤ b ∧ ((if b < i then b else i) = i ∨ (if b < i then b else i) = b) := by split <;> omega
              generalize (if b < i then b else i) = z at k1 k2 hz
              refine ⟨?_, ?_⟩
              · rcases List.mem_cons.mp k1 with y | y
                · rw [y]; rcases hz.2.2 with e | e <;> simp [e]
                · simp [y]
              · intro y hy
                have k3 := k2 z List.mem_cons_self
                rcases List.mem_cons.mp hy with y' | hy
                · omega
                · rcases List.mem_cons.mp hy with y' | hy
                  · omega
                  · exact k2 y (List.mem_cons_of_mem _ hy)
          have k := key t i
          have := hle _ k.1
          have := k.2 _ hm
          congr 1
          omega
theorem cM_max (hc : X.calm = true) : CallR X (.builtin "max") (rB (kw X cl ex) (bltM .max)) := by
  intro pins s σ H xs us Q I r ⟨W, μ, η, ds, wd, rd, h⟩
  match ds, rd, h with
  | [], _, h => exact h.elim
  | a :: b :: _ :: _, _, h => cases a <;> cases b <;> exact h.elim
  | [d, e], rd, h =>
    obtain ⟨x, y, rfl, rx, ry⟩ := rd.two_inv
    cases d <;> cases e <;> simp only [bltM, badM] at h <;> try exact h.elim
    cases rx; cases ry
    exact call_max2 hc pins s σ H _ us Q I r ⟨_, _, rfl, h.same wd rfl⟩
  | [d], rd, h =>
    obtain ⟨x, rfl, rx⟩ := rd.one_inv
    simp only [bltM] at h
    obtain ⟨c, h1, q⟩ := h.look wd
    cases e : MI.getL η d with
    | none => rw [e] at h1; cases h1
    | some ys =>
      rw [e] at h1
      simp only [Option.bind_some] at h1
      cases e2 : intsOf ys with
      | none => rw [e2] at h1; cases h1
      | some ns =>
        rw [e2] at h1
        simp only [Option.bind_some] at h1
        have em := intsOf_map e2
        subst em
        obtain ⟨a, vs, rfl, hs, rs⟩ := wd.getL rx e
        rw [rs.ints] at hs
        cases ns with
        | nil => cases h1
        | cons i t =>
          cases h1
          refine cr_max hc pins s σ H _ us Q I r ⟨a, i :: t, rfl, hs, Nat.succ_pos _, fun m hm hle => q _ ?_⟩
          show V.int m = V.int (maxI i t)
          have key : ∀ (t : List Int) (i : Int), maxI i t ∈ i :: t ∧ ∀ y ∈ i :: t, y ≤ maxI i t := by
            intro t
            induction t with
            | nil => intro i; simp [maxI]
            | cons b t ih =>
              intro i
              have hst : maxI i (b :: t) = maxI (if i < b then b else i) t := rfl
              obtain ⟨k1, k2⟩ := ih (if i < b then b else i)
              rw [hst]
              have hz : i ≤ (if i < b then b else i) ∧ b ≤ (if i < b then b else i) ∧ ((if i < b then b else i) = i ∨ (if i < b then b else i) = b) := by split <;> omega
              generalize (if i < b then b else i) = z at k1 k2 hz
              refine ⟨?_, ?_⟩
              · rcases List.mem_cons.mp k1 with y | y
                · rw [y]; rcases hz.2.2 with e | e <;> simp [e]
                · simp [y]
              · intro y hy
                have k3 := k2 z List.mem_cons_self
                rcases List.mem_cons.mp hy with y' | hy
                · omega
                · rcases List.mem_cons.mp hy with y' | hy
                  · omega
                  · exact k2 y (List.mem_cons_of_mem _ hy)
          have k := key t i
          have := hle _ k.1
          have := k.2 _ hm
          congr 1
          omega
theorem cM_sum (hc : X.calm = true) : CallR X (.builtin "sum") (rB (kw X cl ex) (bltM .sum)) := by
  intro pins s σ H xs us Q I r ⟨W, μ, η, ds, wd, rd, h⟩
  match ds, rd, h with
  | [], _, h => exact h.elim
  | _ :: _ :: _, _, h => exact h.elim
  | [d], rd, h =>
    obtain ⟨x, rfl, rx⟩ := rd.one_inv
    simp only [bltM] at h
    obtain ⟨c, h1, q⟩ := h.look wd
    cases e : MI.getL η d with
    | none => rw [e] at h1; cases h1
    | some ys =>
      rw [e] at h1
      simp only [Option.bind_some] at h1
      cases e2 : intsOf ys with
      | none => rw [e2] at h1; cases h1
      | some ns =>
        rw [e2] at h1
        cases h1
        have em := intsOf_map e2
        subst em
        obtain ⟨a, vs, rfl, hs, rs⟩ := wd.getL rx e
        rw [rs.ints] at hs
        exact cr_sum hc pins s σ H _ us Q I r ⟨a, ns, rfl, hs, q _ rfl⟩
theorem cM_all (hc : X.calm = true) : CallR X (.builtin "all") (rB (kw X cl ex) (bltM .all)) := by
  intro pins s σ H xs us Q I r ⟨W, μ, η, ds, wd, rd, h⟩
  match ds, rd, h with
  | [], _, h => exact h.elim
  | _ :: _ :: _, _, h => exact h.elim
  | [d], rd, h =>
    obtain ⟨x, rfl, rx⟩ := rd.one_inv
    simp only [bltM] at h
    obtain ⟨c, h1, q⟩ := h.look wd
    cases e : MI.getL η d with
    | none => rw [e] at h1; cases h1
    | some ys =>
      rw [e] at h1
      simp only [Option.bind_some] at h1
      cases e2 : boolsOf ys with
      | none => rw [e2] at h1; cases h1
      | some ns =>
        rw [e2] at h1
        cases h1
        have em := boolsOf_map e2
        subst em
        obtain ⟨a, vs, rfl, hs, rs⟩ := wd.getL rx e
        rw [rs.bools] at hs
        exact cr_all hc pins s σ H _ us Q I r ⟨a, ns, rfl, hs, q _ rfl⟩
theorem cM_any (hc : X.calm = true) : CallR X (.builtin "any") (rB (kw X cl ex) (bltM .any)) := by
  intro pins s σ H xs us Q I r ⟨W, μ, η, ds, wd, rd, h⟩
  match ds, rd, h with
  | [], _, h => exact h.elim
  | _ :: _ :: _, _, h => exact h.elim
  | [d], rd, h =>
    obtain ⟨x, rfl, rx⟩ := rd.one_inv
    simp only [bltM] at h
    obtain ⟨c, h1, q⟩ := h.look wd
    cases e : MI.getL η d with
    | none => rw [e] at h1; cases h1
    | some ys =>
      rw [e] at h1
      simp only [Option.bind_some] at h1
      cases e2 : boolsOf ys with
      | none => rw [e2] at h1; cases h1
      | some ns =>
        rw [e2] at h1
        cases h1
        have em := boolsOf_map e2
        subst em
        obtain ⟨a, vs, rfl, hs, rs⟩ := wd.getL rx e
        rw [rs.bools] at hs
        exact cr_any hc pins s σ H _ us Q I r ⟨a, ns, rfl, hs, q _ rfl⟩
theorem getS_ok {μ : List Addr} {H : Hp} {η : Hv} (wd : Wd (kw X cl ex) μ H η) {d : D} {x : V} {xs : List D} (rx : RV (kw X cl ex) μ H d x) (h : getS η d = some xs) :
    ∃ (a : Addr) (ns : List Int) (S : Int → Bool), x = .ref a ∧ xs = ns.map .int ∧ ns.Nodup ∧ H a = some (SetO X.w a S ns.length) ∧ ∀ k, S k = decide (k ∈ ns) := by
  unfold getS at h
  split at h
  · rename_i i
    obtain ⟨a, rfl, ha⟩ := rx
    split at h
    · rename_i ys e
      cases h
      obtain ⟨ns, S, h1, h2, h3, h4⟩ := wd.obj i a _ ha e
      exact ⟨a, ns, S, rfl, h1, h2, h3, h4⟩
    · cases h
  · cases h
theorem intsOf_ints : ∀ ns : List Int, intsOf (ns.map D.int) = some ns
  | [] => rfl
  | n :: t => by rw [List.map_cons, intsOf, intsOf_ints t]; rfl
theorem pairsOf_map : ∀ {ds : List D} {ps : List (Int × Int)}, MI.pairsOf ds = some ps → ds = ps.map pairI
  | [], ps, h => by cases h; rfl
  | d :: ds, ps, h => by
    unfold MI.pairsOf at h
    split at h
    · rename_i e; cases e
    · rename_i i j xs e
      cases e
      cases q : MI.pairsOf ds with
      | none => rw [q] at h; cases h
      | some qs =>
        rw [q] at h
        cases h
        rw [List.map_cons, ← pairsOf_map q]; rfl
    · cases h
theorem leP_tr (a b c : Int × Int) (h1 : leP a b = true) (h2 : leP b c = true) : leP a c = true := by
  unfold leP at *
  split at h1 <;> split at h2 <;> split <;> simp at * <;> omega
theorem leP_tot (a b : Int × Int) : (leP a b || leP b a) = true := by
  unfold leP
  split <;> split <;> simp <;> omega
theorem leP_anti (a b : Int × Int) (h1 : leP a b = true) (h2 : leP b a = true) : a = b := by
  obtain ⟨a1, a2⟩ := a
  obtain ⟨b1, b2⟩ := b
  unfold leP at *
  simp only at h1 h2
  split at h1 <;> split at h2 <;> simp at h1 h2 ⊢ <;> omega
theorem leP_lex {a b : Int × Int} (h : SrtO.lexB b a = false) : leP a b = true := by
  have := SrtO.lexB_no.mp h
  unfold leP
  split <;> simp <;> omega
theorem sortP_spec (ps : List (Int × Int)) : (sortP ps).Perm ps ∧ (sortP ps).Pairwise fun a b => leP a b = true :=
  ⟨List.mergeSort_perm _ _, List.pairwise_mergeSort leP_tr leP_tot ps⟩
section
variable {X : Cx} {cl : HxC} {ex : Nat → Addr} {pins : List (Addr × Obj)} {σ : L2.St} {H : Hp} {s : Shared} {μ : List Addr}
/-- the pair that stands somewhere -/
noncomputable def kPair (K : PySem.W.Frag) (H : Hp) (x : V) : Int × Int := @Classical.epsilon (Int × Int) ⟨(0, 0)⟩ fun p => ∃ t, x = .ref t ∧ SqT K H t [.int p.1, .int p.2]
theorem kPair_at (I : Inv X pins σ H s) {t : Addr} {p : Int × Int} (h : SqT X.K H t [.int p.1, .int p.2]) : kPair X.K H (.ref t) = p := by
  have q : ∃ p : Int × Int, ∃ t', V.ref t = .ref t' ∧ SqT X.K H t' [.int p.1, .int p.2] := ⟨p, t, rfl, h⟩
  obtain ⟨t', e, h'⟩ := @Classical.epsilon_spec _ (fun p : Int × Int => ∃ t', V.ref t = .ref t' ∧ SqT X.K H t' [.int p.1, .int p.2]) q
  cases e
  have e2 := I.tuple_inj h' h
  have e3 : kPair X.K H (.ref t) = @Classical.epsilon (Int × Int) ⟨(0, 0)⟩ fun p => ∃ t', V.ref t = .ref t' ∧ SqT X.K H t' [.int p.1, .int p.2] := rfl
  rw [e3]
  simp only [List.cons.injEq, V.int.injEq, and_true] at e2
  exact Prod.ext e2.1 e2.2
theorem pairs_at (I : Inv X pins σ H s) : ∀ {ps : List (Int × Int)} {vs : List V}, RVs (kw X cl ex) μ H (ps.map pairI) vs → vs.map (kPair X.K H) = ps ∧ ∀ x ∈ vs, ∃ t, x = .ref t ∧ SqT X.K H t [.int (kPair X.K H x).1, .int (kPair X.K H x).2]
  | [], _, h => by rw [show _ = [] from h]; exact ⟨rfl, fun x hx => by cases hx⟩
  | p :: ps, _, h => by
    obtain ⟨v, r, rfl, h1, h2⟩ := h
    obtain ⟨i1, i2⟩ := pairs_at I h2
    obtain ⟨t, ws, rfl, hs, rs⟩ := h1
    obtain ⟨x, y, rfl, rx, ry⟩ := RVs.two_inv rs
    cases rx
    cases ry
    have e := kPair_at I hs
    refine ⟨by rw [List.map_cons, e, i1], fun x hx => ?_⟩
    rcases List.mem_cons.mp hx with z | z
    · subst z; exact ⟨t, rfl, by rw [e]; exact hs⟩
    · exact i2 x z
theorem rvs_pairs : ∀ {vs : List V}, (∀ x ∈ vs, ∃ t, x = .ref t ∧ SqT X.K H t [.int (kPair X.K H x).1, .int (kPair X.K H x).2]) → RVs (kw X cl ex) μ H ((vs.map (kPair X.K H)).map pairI) vs
  | [], _ => rfl
  | x :: vs, h => by
    obtain ⟨t, e, hs⟩ := h x (by simp)
    exact ⟨x, vs, rfl, ⟨t, _, e, hs, ⟨_, _, rfl, rfl, _, _, rfl, rfl, rfl⟩⟩, rvs_pairs fun y hy => h y (List.mem_cons_of_mem _ hy)⟩
theorem sort_pairs {a : Addr} {ps : List (Int × Int)} {vs : List V} {Q : Value → Shared → Prop} {E : Value → Shared → Prop} {A : Around} (I : Inv X pins σ H s) (rs : RVs (kw X cl ex) μ H (ps.map pairI) vs) (hs : SqL X.K H a vs)
    (q : ∀ (h' : Heap) (d : Addr) (ys : List V), (∀ b o, s.heap.get? b = some o → h'.get? b = some o) → H d = none → RVs (kw X cl ex) μ H ((sortP ps).map pairI) ys → Inv X pins σ (upd H d (.lst ys)) { s with heap := h' } → Q (.ref d) { s with heap := h' }) :
    wpAny (model X.prog X.w) A (call (.builtin "sorted") [.ref a]) Q E s := by
  obtain ⟨k1, k2⟩ := pairs_at I rs
  obtain ⟨its, rv, hl, hz⟩ := I.list hs
  obtain ⟨e1, e2⟩ := refs_back rv fun x m => by
    obtain ⟨t, e, _⟩ := k2 x m
    exact ⟨t, e⟩
  refine SrtO.sorted_pairsO (k := fun u => kPair X.K H (backV u)) hl.isList (by rw [← rv.length]; exact hz) (fun v hv => ?_) fun h' d out h1 h2 kp hd hn => ?_
  · obtain ⟨t, rfl⟩ := e2 v hv
    have hm : V.ref t ∈ vs := by rw [e1]; exact List.mem_map.mpr ⟨_, hv, rfl⟩
    obtain ⟨t', e, ht⟩ := k2 _ hm
    cases e
    obtain ⟨its2, r2, ⟨o, ho, hc, n, hd⟩, _⟩ := I.tuple ht
    obtain ⟨u1, u2, rfl, ri, rj⟩ := vals2 r2
    obtain ⟨t1, rfl⟩ := ri
    obtain ⟨t2, rfl⟩ := rj
    exact ⟨t, o, t1, t2, n, rfl, ho, hc, hd⟩
  · have h3 : ∀ u ∈ out, ∃ a, u = Value.ref a := fun u hu => e2 u (h2.perm.mem_iff.mp hu)
    obtain ⟨n, hn⟩ := hn
    have hb : (out.map backV).Perm vs := by
      rw [e1]
      exact h2.perm.map backV
    have hsr : ((out.map backV).map (kPair X.K H)).Pairwise fun a b => leP a b = true := by
      rw [List.map_map, List.pairwise_map]
      exact h1.imp fun z => leP_lex z
    have hp : ((out.map backV).map (kPair X.K H)).Perm ps := by
      rw [← k1]
      exact hb.map _
    have es : (out.map backV).map (kPair X.K H) = sortP ps := by
      refine List.Perm.eq_of_pairwise (le := fun a b => leP a b = true) (fun a b _ _ h1 h2 => leP_anti a b h1 h2) hsr (sortP_spec ps).2 (hp.trans (sortP_spec ps).1.symm)
    refine q h' d (out.map backV) kp (I.hok.fresh hd) ?_ (I.laid (t' := s.toks) kp hd ⟨?_, out, n, vals_back h3, hn⟩)
    · rw [← es]
      exact rvs_pairs fun x hx => k2 x (hb.mem_iff.mp hx)
    · rw [hb.length_eq]
      exact hz
end
theorem cM_sorted (hc : X.calm = true) : CallR X (.builtin "sorted") (rB (kw X cl ex) (bltM .sorted)) := by
  intro pins s σ H xs us Q I r ⟨W, μ, η, ds, wd, rd, h⟩
  match ds, rd, h with
  | [], _, h => exact h.elim
  | _ :: _ :: _, _, h => exact h.elim
  | [d], rd, h =>
    obtain ⟨x, rfl, rx⟩ := rd.one_inv
    simp only [bltM] at h
    cases e : getS η d with
    | some ys =>
      rw [e] at h
      simp only at h
      obtain ⟨a, ns, S, rfl, rfl, hnd, hs, hS⟩ := getS_ok wd rx e
      have ei := intsOf_ints ns
      rw [ei] at h
      simp only at h
      split at h
      · rename_i h64
        refine cr_sortedSet hc pins s σ H _ us Q I r ⟨a, S, ns.length, rfl, hs, h64, fun ms p hp hm hlen hn => ?_⟩
        have e2 : ms = sortI ns := by
          have h1 := sortI_spec ns
          refine sorted_unique ?_ (hp.imp fun z => Int.le_of_lt z) h1.2
          refine (List.perm_ext_iff_of_nodup (hp.imp fun z => Int.ne_of_lt z) (h1.1.nodup_iff.mpr hnd)).mpr fun k => ?_
          rw [hm k, hS k, h1.1.mem_iff]; simp
        rw [e2]
        exact h.lst wd (RVs.of_ints _) hn
      · exact h.elim
    | none =>
      rw [e] at h
      simp only at h
      cases e1 : MI.getL η d with
      | none => rw [e1] at h; exact h.elim
      | some ys =>
        rw [e1] at h
        simp only at h
        cases e2 : intsOf ys with
        | none =>
          rw [e2] at h
          simp only at h
          cases e3 : MI.pairsOf ys with
          | none => rw [e3] at h; exact h.elim
          | some ps =>
            rw [e3] at h
            simp only at h
            have em := pairsOf_map e3
            subst em
            obtain ⟨a, vs, rfl, hs, rs⟩ := wd.getL rx e1
            obtain ⟨u, rfl, ru⟩ := vals1 r
            obtain rfl : u = Value.ref a := ru
            refine sort_pairs I rs hs fun h' d ys kp hn rs2 hx => ?_
            exact ⟨.ref d, upd H d (.lst ys), hx, rfl, h.lst wd rs2 hn⟩
        | some ns =>
          rw [e2] at h
          simp only at h
          have em := intsOf_map e2
          subst em
          obtain ⟨a, vs, rfl, hs, rs⟩ := wd.getL rx e1
          rw [rs.ints] at hs
          refine cr_sortedI pins s σ H _ us Q I r ⟨a, ns, rfl, hs, fun ms p hp hm hn => ?_⟩
          have e3 : ms = sortI ns := sorted_unique (hp.trans (sortI_spec ns).1.symm) hm (sortI_spec ns).2
          rw [e3]
          exact h.lst wd (RVs.of_ints _) hn
end
end MIS

set_option Elab.async false
set_option linter.all false
set_option maxRecDepth 100000
set_option maxHeartbeats 1000000
/-! MiS6: how readings by MI become the hand layer's. -/
namespace MIS
open PySem PySem.Spec PyProof.Rows L2 MI
abbrev WS := Nat → L2.St → Hp → Prop
section
variable {K : KW} {W : WS} {σ : L2.St} {H : Hp}
theorem conv_bin {ma mb : Rho → Mo D} {op : D → D → Mo D} {Q : VK} (h : tE K W (fun ρ => (ma ρ).bind fun x => (mb ρ).bind fun y => op x y) σ H Q) : tOp (r2 K op) (tE K W ma) (tE K W mb) σ H Q := by
  obtain ⟨μ, η, ρ, wd, re, e⟩ := h
  refine ⟨μ, η, ρ, wd, re, (EndG.bind e).imp fun d η1 μ1 H1 af wd1 e2 v rv => ?_⟩
  refine ⟨μ1, η1, ρ, wd1, re.mono af, (EndG.bind e2).imp fun d2 η2 μ2 H2 af2 wd2 e4 v2 rv2 => ?_⟩
  exact ⟨_, μ2, η2, d, d2, wd2, RV.mono af2 d v rv, rv2, e4⟩
theorem conv_idx {ma mb : Rho → Mo D} {f : D → D → Hv → Option D} {Q : VK} (h : tE K W (fun ρ => (ma ρ).bind fun x => (mb ρ).bind fun y => lookM (f x y)) σ H Q) : tOp (r2h K f) (tE K W ma) (tE K W mb) σ H Q := by
  obtain ⟨μ, η, ρ, wd, re, e⟩ := h
  refine ⟨μ, η, ρ, wd, re, (EndG.bind e).imp fun d η1 μ1 H1 af wd1 e2 v rv => ?_⟩
  refine ⟨μ1, η1, ρ, wd1, re.mono af, (EndG.bind e2).imp fun d2 η2 μ2 H2 af2 wd2 e4 v2 rv2 => ?_⟩
  obtain ⟨c, h1, q⟩ := EndG.look wd2 e4
  exact ⟨μ2, η2, d, d2, c, wd2, RV.mono af2 d v rv, rv2, h1, q⟩
theorem conv_cmp {ma mb : Rho → Mo D} {f : D → D → Hv → Option Bool} {Q : VK} (h : tE K W (fun ρ => (ma ρ).bind fun x => (mb ρ).bind fun y => (lookM (f x y)).bind fun t => .pure (.bl t)) σ H Q) : tOp (r2c K f) (tE K W ma) (tE K W mb) σ H Q := by
  obtain ⟨μ, η, ρ, wd, re, e⟩ := h
  refine ⟨μ, η, ρ, wd, re, (EndG.bind e).imp fun d η1 μ1 H1 af wd1 e2 v rv => ?_⟩
  refine ⟨μ1, η1, ρ, wd1, re.mono af, (EndG.bind e2).imp fun d2 η2 μ2 H2 af2 wd2 e4 v2 rv2 => ?_⟩
  obtain ⟨c, h1, q⟩ := EndG.look wd2 (EndG.bind e4)
  exact ⟨μ2, η2, d, d2, c, wd2, RV.mono af2 d v rv, rv2, h1, EndG.pure wd2 q _ rfl⟩
theorem bind_assoc {α β γ : Type} (m : Mo α) (f : α → Mo β) (g : β → Mo γ) : (m.bind f).bind g = m.bind fun a => (f a).bind g := by
  funext h
  unfold Mo.bind
  cases m h <;> rfl
theorem bl_tru (t : Bool) : (Mo.pure (D.bl t)).bind truM = Mo.pure t := rfl
theorem conv_cmpT {ma mb : Rho → Mo D} {f : D → D → Hv → Option Bool} {Q : Bool → Hp → Prop} (h : tT K W (fun ρ => ((ma ρ).bind fun x => (mb ρ).bind fun y => (lookM (f x y)).bind fun t => .pure (.bl t)).bind truM) σ H Q) : tTest (tOp (r2c K f) (tE K W ma) (tE K W mb)) σ H Q := by
  simp only [bind_assoc, bl_tru] at h
  obtain ⟨μ, η, ρ, wd, re, e⟩ := h
  refine ⟨μ, η, ρ, wd, re, (EndG.bind e).imp fun d η1 μ1 H1 af wd1 e2 v rv => ?_⟩
  refine ⟨μ1, η1, ρ, wd1, re.mono af, (EndG.bind e2).imp fun d2 η2 μ2 H2 af2 wd2 e4 v2 rv2 => ?_⟩
  obtain ⟨c, h1, q⟩ := EndG.look wd2 (EndG.bind e4)
  exact ⟨μ2, η2, d, d2, c, wd2, RV.mono af2 d v rv, rv2, h1, c, rfl, EndG.pure wd2 q⟩
theorem conv_chain {ma mb mc : Rho → Mo D} {f g : D → D → Hv → Option Bool} {Q : VK}
    (h : tE K W (fun ρ => (ma ρ).bind fun x => (mb ρ).bind fun y => (lookM (f x y)).bind fun t => if t = true then (mc ρ).bind fun z => (lookM (g y z)).bind fun u => .pure (.bl u) else .pure (.bl false)) σ H Q) :
    tChain (r2c K f) (r2c K g) (tE K W ma) (tE K W mb) (tE K W mc) σ H Q := by
  obtain ⟨μ, η, ρ, wd, re, e⟩ := h
  refine ⟨μ, η, ρ, wd, re, (EndG.bind e).imp fun d η1 μ1 H1 af wd1 e2 v rv => ?_⟩
  refine ⟨μ1, η1, ρ, wd1, re.mono af, (EndG.bind e2).imp fun d2 η2 μ2 H2 af2 wd2 e4 v2 rv2 => ?_⟩
  obtain ⟨c, h1, q⟩ := EndG.look wd2 (EndG.bind e4)
  refine ⟨μ2, η2, d, d2, c, wd2, RV.mono af2 d v rv, rv2, h1, c, rfl, ?_⟩
  cases c with
  | true =>
    rw [if_pos rfl] at q ⊢
    refine ⟨μ2, η2, ρ, wd2, (re.mono af).mono af2, (EndG.bind q).imp fun d3 η3 μ3 H3 af3 wd3 e5 v3 rv3 => ?_⟩
    obtain ⟨c3, h3, q3⟩ := EndG.look wd3 (EndG.bind e5)
    exact ⟨μ3, η3, d2, d3, c3, wd3, RV.mono af3 d2 v2 rv2, rv3, h3, EndG.pure wd3 q3 _ rfl⟩
  | false =>
    rw [if_neg Bool.false_ne_true] at q ⊢
    exact EndG.pure wd2 q _ rfl
theorem conv_truth {ma : Rho → Mo D} {Q : Bool → Hp → Prop} (h : tT K W (fun ρ => (ma ρ).bind truM) σ H Q) : tE K W ma σ H fun x H' => ∃ k, TruV K.K x H' k ∧ Q k H' := by
  obtain ⟨μ, η, ρ, wd, re, e⟩ := h
  refine ⟨μ, η, ρ, wd, re, (EndG.bind e).imp fun d η1 μ1 H1 af wd1 e2 v rv => ?_⟩
  obtain ⟨b, h1, q⟩ := EndG.look wd1 e2
  exact ⟨b, truth_ok wd1 rv h1, q⟩
theorem conv_not {ma : Rho → Mo D} {Q : VK} (h : tE K W (fun ρ => ((ma ρ).bind truM).bind fun b => .pure (.bl !b)) σ H Q) : tNotT K.K (tE K W ma) σ H Q := by
  obtain ⟨μ, η, ρ, wd, re, e⟩ := h
  refine ⟨μ, η, ρ, wd, re, (EndG.bind (EndG.bind e)).imp fun d η1 μ1 H1 af wd1 e2 v rv => ?_⟩
  obtain ⟨b, h1, q⟩ := EndG.look wd1 e2
  exact ⟨b, truth_ok wd1 rv h1, EndG.pure wd1 q _ rfl⟩
theorem conv_and {ma mb : Rho → Mo D} {Q : VK} (h : tE K W (fun ρ => (ma ρ).bind fun x => (truM x).bind fun t => if t = true then mb ρ else .pure x) σ H Q) : tAndT K.K (tE K W ma) (tE K W mb) σ H Q := by
  obtain ⟨μ, η, ρ, wd, re, e⟩ := h
  refine ⟨μ, η, ρ, wd, re, (EndG.bind e).imp fun d η1 μ1 H1 af wd1 e2 v rv => ?_⟩
  obtain ⟨b, h1, q⟩ := EndG.look wd1 (EndG.bind e2)
  refine ⟨b, truth_ok wd1 rv h1, ?_⟩
  cases b with
  | true =>
    rw [if_pos rfl] at q ⊢
    exact ⟨μ1, η1, ρ, wd1, re.mono af, q⟩
  | false =>
    rw [if_neg Bool.false_ne_true] at q ⊢
    exact EndG.pure wd1 q v rv
theorem conv_or {ma mb : Rho → Mo D} {Q : VK} (h : tE K W (fun ρ => (ma ρ).bind fun x => (truM x).bind fun t => if t = true then .pure x else mb ρ) σ H Q) : tOrT K.K (tE K W ma) (tE K W mb) σ H Q := by
  obtain ⟨μ, η, ρ, wd, re, e⟩ := h
  refine ⟨μ, η, ρ, wd, re, (EndG.bind e).imp fun d η1 μ1 H1 af wd1 e2 v rv => ?_⟩
  obtain ⟨b, h1, q⟩ := EndG.look wd1 (EndG.bind e2)
  refine ⟨b, truth_ok wd1 rv h1, ?_⟩
  cases b with
  | true =>
    rw [if_pos rfl] at q ⊢
    exact EndG.pure wd1 q v rv
  | false =>
    rw [if_neg Bool.false_ne_true] at q ⊢
    exact ⟨μ1, η1, ρ, wd1, re.mono af, q⟩
theorem conv_notT {ma : Rho → Mo D} {Q : Bool → Hp → Prop} (h : tT K W (fun ρ => (((ma ρ).bind truM).bind fun b => .pure (.bl !b)).bind truM) σ H Q) : tNot (tT K W (fun ρ => (ma ρ).bind truM)) σ H Q := by
  obtain ⟨μ, η, ρ, wd, re, e⟩ := h
  refine ⟨μ, η, ρ, wd, re, (EndG.bind (EndG.bind e)).imp fun b η1 μ1 H1 af wd1 e2 => ?_⟩
  obtain ⟨c, h1, q⟩ := EndG.look wd1 (EndG.pure wd1 e2)
  have : (!b) = c := Option.some.inj h1
  rw [this]; exact q
theorem conv_andT {ma mb : Rho → Mo D} {Q : Bool → Hp → Prop} (h : tT K W (fun ρ => ((ma ρ).bind fun x => (truM x).bind fun t => if t = true then mb ρ else .pure x).bind truM) σ H Q) :
    tAnd (tT K W (fun ρ => (ma ρ).bind truM)) (tT K W (fun ρ => (mb ρ).bind truM)) σ H Q := by
  obtain ⟨μ, η, ρ, wd, re, e⟩ := h
  refine ⟨μ, η, ρ, wd, re, ?_⟩
  simp only [Mo.bind, truM, lookM] at e ⊢
  cases r : ma ρ η with
  | bad => rw [r] at e; exact e.elim
  | ex c η1 => rw [r] at e; exact e
  | ok x η1 =>
    rw [r] at e
    simp only at e ⊢
    cases t : truH x η1 with
    | none => rw [t] at e; exact e.elim
    | some b =>
      rw [t] at e
      simp only at e ⊢
      intro μ1 H1 af wd1
      cases b with
      | true =>
        rw [if_pos rfl] at e ⊢
        exact ⟨μ1, η1, ρ, wd1, re.mono af, e.rebase af⟩
      | false =>
        simp only [Bool.false_eq_true, if_false, Mo.pure, t] at e ⊢
        exact e μ1 H1 af wd1
theorem conv_orT {ma mb : Rho → Mo D} {Q : Bool → Hp → Prop} (h : tT K W (fun ρ => ((ma ρ).bind fun x => (truM x).bind fun t => if t = true then .pure x else mb ρ).bind truM) σ H Q) :
    tOr (tT K W (fun ρ => (ma ρ).bind truM)) (tT K W (fun ρ => (mb ρ).bind truM)) σ H Q := by
  obtain ⟨μ, η, ρ, wd, re, e⟩ := h
  refine ⟨μ, η, ρ, wd, re, ?_⟩
  simp only [Mo.bind, truM, lookM] at e ⊢
  cases r : ma ρ η with
  | bad => rw [r] at e; exact e.elim
  | ex c η1 => rw [r] at e; exact e
  | ok x η1 =>
    rw [r] at e
    simp only at e ⊢
    cases t : truH x η1 with
    | none => rw [t] at e; exact e.elim
    | some b =>
      rw [t] at e
      simp only at e ⊢
      intro μ1 H1 af wd1
      cases b with
      | false =>
        simp only [Bool.false_eq_true, if_false] at e ⊢
        exact ⟨μ1, η1, ρ, wd1, re.mono af, e.rebase af⟩
      | true =>
        simp only [if_true, Mo.pure, t] at e ⊢
        exact e μ1 H1 af wd1
theorem conv_ife {mt : Rho → Mo Bool} {ma mb : Rho → Mo D} {Q : VK} (h : tE K W (fun ρ => (mt ρ).bind fun v => if v = true then ma ρ else mb ρ) σ H Q) : tIf (tT K W mt) (tE K W ma) (tE K W mb) σ H Q := by
  obtain ⟨μ, η, ρ, wd, re, e⟩ := h
  refine ⟨μ, η, ρ, wd, re, (EndG.bind e).imp fun b η1 μ1 H1 af wd1 e2 => ?_⟩
  cases b with
  | true => rw [if_pos rfl] at e2 ⊢; exact ⟨μ1, η1, ρ, wd1, re.mono af, e2⟩
  | false => rw [if_neg Bool.false_ne_true] at e2 ⊢; exact ⟨μ1, η1, ρ, wd1, re.mono af, e2⟩
theorem conv_neg {ma : Rho → Mo D} {Q : VK} (h : tE K W (fun ρ => (ma ρ).bind fun x => (getI x).bind fun i => .pure (.int (-i))) σ H Q) : tUn (rU fun i => V.int (-i)) (tE K W ma) σ H Q := by
  obtain ⟨μ, η, ρ, wd, re, e⟩ := h
  refine ⟨μ, η, ρ, wd, re, (EndG.bind e).imp fun d η1 μ1 H1 af wd1 e2 v rv => ?_⟩
  cases d <;> first | exact (EndG.bind e2).elim | skip
  cases rv
  exact ⟨_, rfl, EndG.pure wd1 (EndG.pure wd1 (EndG.bind e2)) _ rfl⟩
theorem conv_loc {i : Nat} {Q : VK} (hh : ∀ a c, K.cl ≠ some (i, a, c)) (h : tE K W (fun ρ => locM ρ i) σ H Q) : tVar i σ H Q := by
  obtain ⟨μ, η, ρ, wd, re, e⟩ := h
  unfold locM at e
  cases g : ρ[i]? with
  | none => simp only [g] at e; exact e.elim
  | some o =>
    cases o with
    | none => simp only [g] at e; exact e.elim
    | some d =>
      simp only [g] at e
      obtain ⟨v, h1, h2 | ⟨a, c, z, _⟩⟩ := re.get i d g
      · exact ⟨v, h1, EndG.pure wd e v h2.2⟩
      · exact absurd z (hh a c)
theorem conv_cst {d : D} {v : V} {Q : VK} (hr : ∀ μ H, RV K μ H d v) (h : tE K W (fun _ => .pure d) σ H Q) : tC v σ H Q := by
  obtain ⟨μ, η, ρ, wd, re, e⟩ := h
  exact EndG.pure wd e v (hr μ H)
theorem conv_tup {ms : Rho → Mo (List D)} {Q : VK} (hz : ∀ ρ η ds η', ms ρ η = .ok ds η' → ds.length ≤ lim) (h : tE K W (fun ρ => (ms ρ).bind fun ds => .pure (.tup ds)) σ H Q) : tTup (tA K W ms) σ H Q := by
  obtain ⟨μ, η, ρ, wd, re, e⟩ := h
  refine ⟨μ, η, ρ, wd, re, ?_⟩
  have e1 := EndG.bind e
  cases r : ms ρ η with
  | bad => rw [r] at e1; exact e1.elim
  | ex c η1 => rw [r] at e1; exact e1
  | ok ds η1 =>
    rw [r] at e1
    intro μ1 H1 af wd1 vs rs
    refine ⟨by rw [rs.len, ← lim_eq]; exact hz _ _ _ _ r, fun p hp => EV.tup (e1 μ1 H1 af wd1) wd1 rs hp⟩
theorem conv_lst {ms : Rho → Mo (List D)} {Q : VK} (hz : ∀ ρ η ds η', ms ρ η = .ok ds η' → ds.length ≤ lim) (h : tE K W (fun ρ => (ms ρ).bind fun ds => allocM (.lst ds)) σ H Q) : tLst (tA K W ms) σ H Q := by
  obtain ⟨μ, η, ρ, wd, re, e⟩ := h
  refine ⟨μ, η, ρ, wd, re, ?_⟩
  have e1 := EndG.bind e
  cases r : ms ρ η with
  | bad => rw [r] at e1; exact e1.elim
  | ex c η1 => rw [r] at e1; exact e1
  | ok ds η1 =>
    rw [r] at e1
    intro μ1 H1 af wd1 vs rs
    refine ⟨by rw [rs.len, ← lim_eq]; exact hz _ _ _ _ r, fun p hp => EV.lst (e1 μ1 H1 af wd1) wd1 rs hp⟩
theorem conv_nil {Q : List V → Hp → Prop} (h : tA K W (fun _ => .pure []) σ H Q) : tNil σ H Q := by
  obtain ⟨μ, η, ρ, wd, re, e⟩ := h
  exact EndG.pure wd e [] rfl
theorem conv_cons {ma : Rho → Mo D} {ms : Rho → Mo (List D)} {Q : List V → Hp → Prop} (h : tA K W (fun ρ => (ma ρ).bind fun d => (ms ρ).bind fun ds => .pure (d :: ds)) σ H Q) : tCons (tE K W ma) (tA K W ms) σ H Q := by
  obtain ⟨μ, η, ρ, wd, re, e⟩ := h
  refine ⟨μ, η, ρ, wd, re, (EndG.bind e).imp fun d η1 μ1 H1 af wd1 e2 v rv => ?_⟩
  refine ⟨μ1, η1, ρ, wd1, re.mono af, (EndG.bind e2).imp fun ds η2 μ2 H2 af2 wd2 e4 vs rs => ?_⟩
  exact EndG.pure wd2 e4 _ ⟨v, vs, rfl, RV.mono af2 d v rv, rs⟩
theorem conv_B {ms : Rho → Mo (List D)} {f : List D → Mo D} {Q : VK} (h : tE K W (fun ρ => (ms ρ).bind fun ds => f ds) σ H Q) : tCB (rB K f) (tA K W ms) σ H Q := by
  obtain ⟨μ, η, ρ, wd, re, e⟩ := h
  exact ⟨μ, η, ρ, wd, re, (EndG.bind e).imp fun ds η1 μ1 H1 af wd1 e2 vs rs => ⟨_, μ1, η1, ds, wd1, rs, e2⟩⟩
def tP (K : KW) (W : WS) (m : Rho → Mo (Option Int)) : TO := fun σ H Q => ∃ μ η ρ, Wd K μ H η ∧ RE K μ H ρ σ ∧ EndG K (fun c H' => W c σ H') μ H (fun o _ _ H' => Q o H') (m ρ η)
theorem conv_pnone {Q : Option Int → Hp → Prop} (h : tP K W (fun _ => .pure none) σ H Q) : tNoPart σ H Q := by
  obtain ⟨μ, η, ρ, wd, re, e⟩ := h
  exact EndG.pure wd e
theorem conv_psome {ma : Rho → Mo D} {Q : Option Int → Hp → Prop} (h : tP K W (fun ρ => (ma ρ).bind fun d => (getI d).bind fun i => .pure (some i)) σ H Q) : tPart (tE K W ma) σ H Q := by
  obtain ⟨μ, η, ρ, wd, re, e⟩ := h
  refine ⟨μ, η, ρ, wd, re, (EndG.bind e).imp fun d η1 μ1 H1 af wd1 e2 v rv => ?_⟩
  cases d <;> first | exact (EndG.bind e2).elim | skip
  cases rv
  exact ⟨_, rfl, EndG.pure wd1 (EndG.pure wd1 (EndG.bind e2))⟩
theorem conv_slc {ma : Rho → Mo D} {ml mh : Rho → Mo (Option Int)} {f : D → Option Int → Option Int → Mo D} {Q : VK} (h : tE K W (fun ρ => (ma ρ).bind fun x => (ml ρ).bind fun l => (mh ρ).bind fun u => f x l u) σ H Q) :
    tSl (r3 K f) (tE K W ma) (tP K W ml) (tP K W mh) σ H Q := by
  obtain ⟨μ, η, ρ, wd, re, e⟩ := h
  refine ⟨μ, η, ρ, wd, re, (EndG.bind e).imp fun d η1 μ1 H1 af wd1 e2 v rv => ?_⟩
  refine ⟨μ1, η1, ρ, wd1, re.mono af, (EndG.bind e2).imp fun l η2 μ2 H2 af2 wd2 e3 => ?_⟩
  refine ⟨μ2, η2, ρ, wd2, (re.mono af).mono af2, (EndG.bind e3).imp fun u η3 μ3 H3 af3 wd3 e4 => ?_⟩
  exact ⟨_, μ3, η3, d, wd3, RV.mono (af2.trans af3) d v rv, e4⟩
end
/-! ### MI's own equations, as functions -/
section
variable {c c' : ClM} {a b d : ME} {es ks : List ME}
theorem fE_loc {i : Nat} : evE c c' (.loc i) = fun ρ => locM ρ i := rfl
theorem fE_cst {d : D} : evE c c' (.cst d) = fun _ => .pure d := rfl
theorem fE_tup : evE c c' (.tup es) = fun ρ => (evEs c c' es ρ).bind fun ds => .pure (.tup ds) := rfl
theorem fE_lst : evE c c' (.lst es) = fun ρ => (evEs c c' es ρ).bind fun ds => allocM (.lst ds) := rfl
theorem fE_bin {o : Op} : evE c c' (.bin o a b) = fun ρ => (evE c c' a ρ).bind fun x => (evE c c' b ρ).bind fun y => binM o x y := rfl
theorem fE_neg : evE c c' (.neg a) = fun ρ => (evE c c' a ρ).bind fun x => (getI x).bind fun i => .pure (.int (-i)) := rfl
theorem fE_not : evE c c' (.not a) = fun ρ => ((evE c c' a ρ).bind truM).bind fun b => .pure (.bl !b) := rfl
theorem fE_and : evE c c' (.and a b) = fun ρ => (evE c c' a ρ).bind fun x => (truM x).bind fun t => if t = true then evE c c' b ρ else .pure x := rfl
theorem fE_or : evE c c' (.or a b) = fun ρ => (evE c c' a ρ).bind fun x => (truM x).bind fun t => if t = true then .pure x else evE c c' b ρ := rfl
theorem fE_cmp {o : Cm} : evE c c' (.cmp o a b) = fun ρ => (evE c c' a ρ).bind fun x => (evE c c' b ρ).bind fun y => (lookM (cmpH o x y)).bind fun t => .pure (.bl t) := rfl
theorem fE_chn {o p : Cm} : evE c c' (.chn o p a b d) = fun ρ => (evE c c' a ρ).bind fun x => (evE c c' b ρ).bind fun y => (lookM (cmpH o x y)).bind fun t => if t = true then (evE c c' d ρ).bind fun z => (lookM (cmpH p y z)).bind fun u => .pure (.bl u) else .pure (.bl false) := rfl
theorem fE_ife : evE c c' (.ife d a b) = fun ρ => ((evE c c' d ρ).bind truM).bind fun v => if v = true then evE c c' a ρ else evE c c' b ρ := rfl
theorem fE_idx : evE c c' (.idx a b) = fun ρ => (evE c c' a ρ).bind fun x => (evE c c' b ρ).bind fun y => lookM (idxH x y) := rfl
theorem fE_slc {lo hi : Option ME} : evE c c' (.slc a lo hi) = fun ρ => (evE c c' a ρ).bind fun x => (evO c c' lo ρ).bind fun l => (evO c c' hi ρ).bind fun u => slcM x l u := rfl
theorem fE_call {f : String} : evE c c' (.call f es) = fun ρ => (evEs c c' es ρ).bind fun ds => c f ds := rfl
theorem fE_blt {f : Bf} : evE c c' (.blt f es) = fun ρ => (evEs c c' es ρ).bind fun ds => bltM f ds := rfl
theorem fE_mth {m : Mh} : evE c c' (.mth m a es) = fun ρ => (evE c c' a ρ).bind fun x => (lookM (kndH m x)).bind fun _ => (evEs c c' es ρ).bind fun ds => mthM m x ds := rfl
theorem fE_sset : evE c c' (.sset a) = fun ρ => (evE c c' a ρ).bind fun v => (bltM .set [v]).bind fun s => bltM .sorted [s] := rfl
theorem fE_lrng : evE c c' (.lrng es) = fun ρ => (evEs c c' es ρ).bind lrngM := rfl
theorem fE_lc {t : Tgt} {it : ITr} {o : Option ME} : evE c c' (.lc t it o a) = fun ρ => (evI c c' it ρ).bind fun nx => (lcN nx t (evC c c' o) (evE c c' a) ρ WFu 0 []).bind fun acc => allocM (.lst acc) := rfl
theorem fE_isi {t : MI.Ty} : evE c c' (.isi a t) = fun ρ => (evE c c' a ρ).bind fun v => lookM fun h => (tyD v h).map fun k => .bl (isT t k) := rfl
theorem fC_none : evC c c' none = fun _ => .pure true := rfl
theorem fC_some : evC c c' (some a) = fun ρ => (evE c c' a ρ).bind truM := rfl
theorem fI_seq : evI c c' (.seq a) = fun ρ => (evE c c' a ρ).bind fun v => (lookM (seqK v)).bind fun _ => .pure (nxSeq v) := rfl
theorem fI_rng : evI c c' (.rng a) = fun ρ => (evE c c' a ρ).bind fun v => (getI v).bind fun i => if rngOk i = true then .pure (nxRng 0 i) else badM := rfl
theorem fI_rng2 : evI c c' (.rng2 a b) = fun ρ => (evE c c' a ρ).bind fun v => (evE c c' b ρ).bind fun w => (getI v).bind fun i => (getI w).bind fun j => if (rngOk i && rngOk j) = true then .pure (nxRng i j) else badM := rfl
theorem fI_enm : evI c c' (.enm a) = fun ρ => (evE c c' a ρ).bind fun v => (lookM fun h => MI.getR h v).bind fun _ => .pure (nxEnm v) := rfl
theorem fI_zip : evI c c' (.zip a b) = fun ρ => (evE c c' a ρ).bind fun v => (evE c c' b ρ).bind fun w => (lookM (zipK v w)).bind fun _ => .pure (nxZip v w) := rfl
theorem fEs_nil : evEs c c' [] = fun _ => .pure [] := rfl
theorem fEs_cons : evEs c c' (a :: es) = fun ρ => (evE c c' a ρ).bind fun d => (evEs c c' es ρ).bind fun ds => .pure (d :: ds) := rfl
theorem fO_none : evO c c' none = fun _ => .pure none := rfl
theorem fO_some : evO c c' (some a) = fun ρ => (evE c c' a ρ).bind fun d => (getI d).bind fun i => .pure (some i) := rfl
end
end MIS

set_option Elab.async false
set_option linter.all false
set_option maxRecDepth 100000
set_option maxHeartbeats 2000000
/-! MiX: own defs called within an except suite that are handed the refusal; isinstance of it. -/
namespace MIS
open PySem PySem.Spec PyProof.Rows L2 MI
/-- a promise that knows the refusal's object -/
abbrev SpH : Type := Addr × Obj → Sp
structure FnE (P : Program) (w : World) (K : PySem.W.Frag) (mg : Str → Option Value) (base : Heap) (k : Nat) (f : Addr) (fd : FuncData) (ps : List Str) (sp : SpH) : Prop where
  len : ∀ p vs H Q E, sp p vs H Q E → vs.length = ps.length
  run : ∀ (A : Around) (out : List Env) (s : Shared) (H : Hp) (as : Args) (us : List Value) (vs : List V) (Q : VK) (E : XK) (p : Addr × Obj), L2H.RoomH k A → A.guards = some [] → L2H.PinOk out H s p → Env0 P w K mg base A out s H →
    BindsTo s fd as (ps.zip us) → Vals vs us → sp p vs H Q E → codeAny (model P w) A (.call (.ref f) as) (CR (L2.CX P w) out P w H s Q E) s
section
variable {P : Program} {w : World} {K : PySem.W.Frag} {mg : Str → Option Value} {base : Heap}
theorem Fun.okE {x qual : Str} {st : Stmt} {f : Addr} {fd : FuncData} {N ps : List Str} {k : Nat} {sp : SpH} (F : L2.Fun K x qual st f fd) (S : FnScope N ps (defScope st)) (len : ∀ p vs H Q E, sp p vs H Q E → vs.length = ps.length)
    (body : ∀ (cdv : Value) (A : Around) (out : List Env) (s : Shared) (H : Hp) (vs : List V) (Q : VK) (E : XK) (p : Addr × Obj), L2H.RoomH k (A.deeper (envOfC qual (defScope st) s.heap.objs.size f cdv)) → A.guards = some [] → sp p vs H Q E →
      ∃ t, PSs (L2H.cxH (L2.CX P w) P w K mg base N qual (defScope st) f cdv A out s H E p) (defBody st) t ∧ t { nx := fun _ H' => Q .non H', rt := Q } (L2.start N vs) H) : FnE P w K mg base (k + 1) f fd ps sp := by
  obtain ⟨oc, od, kV, doc, pm, an, cdv, ct, osl, rfl, lk, hcd⟩ := F.ex
  refine ⟨len, fun A out s H as us vs Q E p hr gg pin e0 hb r q => ?_⟩
  have hl := len _ _ _ _ _ q
  have kin : K.In s.heap :=
    PySem.W.Frag.In.keeps e0.mod.kin fun b o e => (e0.bs b o e).1
  have nolim : s.heap.NoLimit :=
    Heap.NoLimit.keeps e0.mod.nolimit fun b o e => (e0.bs b o e).1
  have pars : ∀ y ∈ ps.zip us, (defScope st).names.lookup y.1 = some .local ∨ ((defScope st).names.lookup y.1 = some .cell ∧ ((cellsFrom (s.heap.objs.size + 1) (defScope st).names []).lookup y.1).isSome = true) := by
    rintro ⟨n, v⟩ hy
    rcases S.par n (List.of_mem_zip hy).1 with z | z
    · exact .inl z
    · exact .inr ⟨z, PySem.W.cellsFrom_some _ _ _ (.inl z)⟩
  refine codeAny_call_function hr.depth (kin _ _ lk) rfl S.co S.gen rfl (PySem.W.codeRec_of kin hcd) (hb _ _ _ _ (wpAny_newFunctionEnv_cells S.kind pars fun env he s1 x => ?_))
  subst he
  refine ⟨nolim.keeps x.toInCall.keep, codeAny_func ?_⟩
  obtain ⟨t, ht, hq⟩ := body cdv A out s H vs Q E p (hr.deeper _) gg q
  have I := L2H.inv_startH (CX := L2.CX P w) (E := E) S pin e0 hl r x
  refine wpAny_mono (ht.run [] s1 (L2.start N vs) H _ I hq) (fun fl s2 hs => ?_) fun _ _ z => z
  cases fl with
  | next =>
    obtain ⟨σ2, H2, J, z⟩ := hs
    exact ⟨V.non, H2, J.os, J.bare, J.base, J.hok, rfl, z⟩
  | ret u =>
    obtain ⟨v, σ2, H2, J, rv, z⟩ := hs
    exact ⟨v, H2, J.os, J.bare, J.base, J.hok, rv, z⟩
  | brk =>
    obtain ⟨_, _, _, z⟩ := hs
    exact z.elim
  | cont =>
    obtain ⟨_, _, _, z⟩ := hs
    exact z.elim
end
section
variable {X : Cx} {k : Nat} {f : Addr} {fd : FuncData} {ps : List Str} {sp : SpH} {E : L2.St → XK} {x : Str} {q pos : Pos} {e : Expr} {es : List Expr} {t : TA}
theorem run_fnE {pins : List (Addr × Obj)} {σ : L2.St} {H : Hp} {s : Shared} {Q : VK} {us : List Value} {vs : List V} {p : Addr × Obj} (F : FnE X.prog X.w X.K X.mg X.base k f fd ps sp) (hr : L2H.RoomH k X.A) (gg : X.A.guards = some []) (hp : p ∈ X.pn) (hb : Binds X.K fd ps []) (hx : PassesAt (L2.CX X.prog X.w) X σ (E σ))
    (I : Inv X pins σ H s) (r : Vals vs us) (h : sp p vs H Q (E σ)) : wpAny (model X.prog X.w) X.A (call (.ref f) us) (EP X pins σ Q) X.xe s := by
  have hl : us.length = ps.length := r.length ▸ F.len _ _ _ _ _ h
  have b := hb s us I.kIn (by rw [List.append_nil]; exact hl)
  rw [List.append_nil] at b
  obtain ⟨p1, p2, p3, p4, p5⟩ := I.pin p (List.mem_append_left _ hp)
  have pin : L2H.PinOk X.stack H s p := ⟨p1, p2, fun hm => by
    rcases List.mem_cons.mp (I.stkSub p.1 hm) with z | z
    · exact p3 z
    · exact p4 z, p5⟩
  refine wpAny_call (codeAny_mono (F.run X.A X.stack s H ⟨us, []⟩ us vs Q (E σ) p hr gg pin I.env0 b r h) fun out s2 hq => ?_)
  cases out with
  | error u => exact hx pins H s u s2 I hq
  | ok fl =>
    cases fl with
    | ret u => exact I.after hq
    | _ => exact hq.elim
def tCallE (p : Addr × Obj) (sp : SpH) (E : L2.St → XK) (t : TA) : TE := fun σ H Q => t σ H fun vs H1 => sp p vs H1 Q (E σ)
theorem pe_callE {p : Addr × Obj} (F : FnE X.prog X.w X.K X.mg X.base k f fd ps sp) (hr : L2H.RoomH k X.A) (gg : X.A.guards = some []) (hp : p ∈ X.pn) (hg : Gl X x) (hm : X.mg x = some (.ref f)) (hk : PySem.W.keepIn X.K (.ref f) = true) (hb : Binds X.K fd ps []) (hx : ∀ σ, PassesAt (L2.CX X.prog X.w) X σ (E σ))
    (ha : PA X (e :: es) t) (hdb : (x == ("__debug__" : Str)) = false) (he : starEach (e :: es) X.env = (false, eval e X.env) :: starEach es X.env) (hpl : (backTo pos (starEach es X.env)).any (·.1) = false) :
    PE X (.Call (.Name x q) (e :: es) [] pos) (tCallE p sp E t) := by
  refine ⟨fun pins s σ H Q I h => wpAny_Call_Name_kw (ld_glob I hg hm ?_ hdb)⟩
  refine PySem.W.callWith_K (h₀ := X.base) I.ok.mod.kin hk (thn (ha.run pos pins s σ H _ I h) ?_) he hpl
  rintro us s1 ⟨vs, H1, I1, r, z⟩
  exact ⟨I1.kIn, run_fnE F hr gg hp hb (hx σ) I1 r z⟩
end
/-- isinstance(e, c), e the refusal that is handled -/
theorem call_isX {X : Cx} {a C : Addr} {oe : Obj} (hp : (a, oe) ∈ X.pn) (c : ExcC X.K C) (hz : Zc (.ref C) none oe) (hf : ∃ vs, oe.data = .fields vs) : CallR X (.builtin "isinstance") (rIsE X.K C a) := by
  rintro pins s σ H _ us Q I r ⟨t, tv, b, rfl, ht, e, z⟩
  obtain ⟨hget, _⟩ := I.pin (a, oe) (List.mem_append_left _ hp)
  have J : PySem.W.InstAt s.heap a oe C none := by
    obtain ⟨vs, hv⟩ := hf
    obtain ⟨o1, o2, o3, o4⟩ := oe
    obtain ⟨z1, z2⟩ := hz
    dsimp only at z1 z2 hv
    subst z1 z2 hv
    exact ⟨hget, rfl, rfl, trivial⟩
  cases r with
  | cons r1 r2 =>
    cases r2 with
    | cons r3 r4 =>
      cases r4
      cases r1
      have et := ht _ r3
      subst et
      have kit := PySem.W.handS_kitx_exc (K := X.K) (D := C) (x := a) (ox := oe) c.hg c.hk c.hs c.hd c.ha c.hn c.ht c.hm
      exact PySem.W.kia_one kit I.kIn J e (fun z => nomatch z) fun tk => ⟨.bl b, H, I.kept (t' := tk) fun _ _ z => z, rfl, z⟩
/-! ### promises that know that no text of a thing is under way -/
structure FnG (P : Program) (w : World) (K : PySem.W.Frag) (mg : Str → Option Value) (base : Heap) (k : Nat) (f : Addr) (fd : FuncData) (ps : List Str) (sp : Sp) : Prop where
  len : ∀ vs H Q E, sp vs H Q E → vs.length = ps.length
  run : ∀ (A : Around) (out : List Env) (s : Shared) (H : Hp) (as : Args) (us : List Value) (vs : List V) (Q : VK) (E : XK), Room k A → A.guards = some [] → Env0 P w K mg base A out s H →
    BindsTo s fd as (ps.zip us) → Vals vs us → sp vs H Q E → codeAny (model P w) A (.call (.ref f) as) (CR (L2.CX P w) out P w H s Q E) s
theorem FnG.imp {P : Program} {w : World} {K : PySem.W.Frag} {mg : Str → Option Value} {base : Heap} {k : Nat} {f : Addr} {fd : FuncData} {ps : List Str} {sp sp2 : Sp} (F : FnG P w K mg base k f fd ps sp) (q : ∀ vs H Q E, sp2 vs H Q E → sp vs H Q E) : FnG P w K mg base k f fd ps sp2 :=
  ⟨fun vs H Q E z => F.len vs H Q E (q _ _ _ _ z), fun A out s H as us vs Q E hr gg e0 hb r z => F.run A out s H as us vs Q E hr gg e0 hb r (q _ _ _ _ z)⟩
section
variable {P : Program} {w : World} {K : PySem.W.Frag} {mg : Str → Option Value} {base : Heap}
theorem Fun.okG {x qual : Str} {st : Stmt} {f : Addr} {fd : FuncData} {N ps : List Str} {k : Nat} {sp : Sp} (F : L2.Fun K x qual st f fd) (S : FnScope N ps (defScope st)) (len : ∀ vs H Q E, sp vs H Q E → vs.length = ps.length)
    (body : ∀ (cdv : Value) (A : Around) (out : List Env) (s : Shared) (H : Hp) (vs : List V) (Q : VK) (E : XK), Room k (A.deeper (envOfC qual (defScope st) s.heap.objs.size f cdv)) → A.guards = some [] → sp vs H Q E →
      ∃ t, PSs (cxOf (L2.CX P w) P w K mg base N qual (defScope st) f cdv A out s H E) (defBody st) t ∧ t { nx := fun _ H' => Q .non H', rt := Q } (L2.start N vs) H) : FnG P w K mg base (k + 1) f fd ps sp := by
  obtain ⟨oc, od, kV, doc, pm, an, cdv, ct, osl, rfl, lk, hcd⟩ := F.ex
  refine ⟨len, fun A out s H as us vs Q E hr gg e0 hb r q => ?_⟩
  have hl := len _ _ _ _ q
  have kin : K.In s.heap :=
    PySem.W.Frag.In.keeps e0.mod.kin fun b o e => (e0.bs b o e).1
  have nolim : s.heap.NoLimit :=
    Heap.NoLimit.keeps e0.mod.nolimit fun b o e => (e0.bs b o e).1
  have pars : ∀ y ∈ ps.zip us, (defScope st).names.lookup y.1 = some .local ∨ ((defScope st).names.lookup y.1 = some .cell ∧ ((cellsFrom (s.heap.objs.size + 1) (defScope st).names []).lookup y.1).isSome = true) := by
    rintro ⟨n, v⟩ hy
    rcases S.par n (List.of_mem_zip hy).1 with z | z
    · exact .inl z
    · exact .inr ⟨z, PySem.W.cellsFrom_some _ _ _ (.inl z)⟩
  refine codeAny_call_function hr.depth (kin _ _ lk) rfl S.co S.gen rfl (PySem.W.codeRec_of kin hcd) (hb _ _ _ _ (wpAny_newFunctionEnv_cells S.kind pars fun env he s1 x => ?_))
  subst he
  refine ⟨nolim.keeps x.toInCall.keep, codeAny_func ?_⟩
  obtain ⟨t, ht, hq⟩ := body cdv A out s H vs Q E (hr.deeper _) gg q
  have I : Inv (cxOf (L2.CX P w) P w K mg base N qual (defScope st) f cdv A out s H E) [] (L2.start N vs) H s1 :=
    inv_start S hr.hd e0 hl r x
  refine wpAny_mono (ht.run [] s1 (L2.start N vs) H _ I hq) (fun fl s2 hs => ?_) fun _ _ z => z
  cases fl with
  | next =>
    obtain ⟨σ2, H2, J, z⟩ := hs
    exact ⟨V.non, H2, J.os, J.bare, J.base, J.hok, rfl, z⟩
  | ret u =>
    obtain ⟨v, σ2, H2, J, rv, z⟩ := hs
    exact ⟨v, H2, J.os, J.bare, J.base, J.hok, rv, z⟩
  | brk =>
    obtain ⟨_, _, _, z⟩ := hs
    exact z.elim
  | cont =>
    obtain ⟨_, _, _, z⟩ := hs
    exact z.elim
end
section
variable {X : Cx} {k : Nat} {f : Addr} {fd : FuncData} {ps : List Str} {sp : Sp} {E : L2.St → XK} {x : Str} {q pos : Pos} {e : Expr} {es : List Expr} {t : TA}
theorem run_fnG {pins : List (Addr × Obj)} {σ : L2.St} {H : Hp} {s : Shared} {Q : VK} {us : List Value} {vs : List V} (F : FnG X.prog X.w X.K X.mg X.base k f fd ps sp) (hr : Room k X.A) (gg : X.A.guards = some []) (hb : Binds X.K fd ps []) (hx : PassesAt (L2.CX X.prog X.w) X σ (E σ))
    (I : Inv X pins σ H s) (r : Vals vs us) (h : sp vs H Q (E σ)) : wpAny (model X.prog X.w) X.A (call (.ref f) us) (EP X pins σ Q) X.xe s := by
  have hl : us.length = ps.length := r.length ▸ F.len _ _ _ _ h
  have b := hb s us I.kIn (by rw [List.append_nil]; exact hl)
  rw [List.append_nil] at b
  refine wpAny_call (codeAny_mono (F.run X.A X.stack s H ⟨us, []⟩ us vs Q (E σ) hr gg I.env0 b r h) fun out s2 hq => ?_)
  cases out with
  | error u => exact hx pins H s u s2 I hq
  | ok fl =>
    cases fl with
    | ret u => exact I.after hq
    | _ => exact hq.elim
theorem pe_callG (F : FnG X.prog X.w X.K X.mg X.base k f fd ps sp) (hr : Room k X.A) (gg : X.A.guards = some []) (hg : Gl X x) (hm : X.mg x = some (.ref f)) (hk : PySem.W.keepIn X.K (.ref f) = true) (hb : Binds X.K fd ps []) (hx : ∀ σ, PassesAt (L2.CX X.prog X.w) X σ (E σ))
    (ha : PA X (e :: es) t) (hdb : (x == ("__debug__" : Str)) = false) (he : starEach (e :: es) X.env = (false, eval e X.env) :: starEach es X.env) (hpl : (backTo pos (starEach es X.env)).any (·.1) = false) :
    PE X (.Call (.Name x q) (e :: es) [] pos) (tCallS sp E t) := by
  refine ⟨fun pins s σ H Q I h => wpAny_Call_Name_kw (ld_glob I hg hm ?_ hdb)⟩
  refine PySem.W.callWith_K (h₀ := X.base) I.ok.mod.kin hk (thn (ha.run pos pins s σ H _ I h) ?_) he hpl
  rintro us s1 ⟨vs, H1, I1, r, z⟩
  exact ⟨I1.kIn, run_fnG F hr gg hb (hx σ) I1 r z⟩
end
/-- the law's call, where nothing but the script is known -/
theorem law_callG {P : Program} {w : World} {K : PySem.W.Frag} {mg mb : Str → Option Value} {k : Nat} {fa a : Addr} {fd : FuncData} {x : Str} {sp : Sp} {s1 : Shared} {us : List Value} {ns : List Int}
    (kin : K.In s1.heap) (gl : s1.heap.Ns mainGlobals mg) (bl : s1.heap.Ns builtinsNs mb) (bo : ∀ x : Str, x ≠ "__name__" → mb x = bootBuiltins x) (nl : s1.heap.NoLimit) (ge : s1.gens = #[])
    (ga : s1.heap.get? a = some { cls := .type "list", data := .seq us.toArray }) (ia : IntsAre us ns) (le : ns.length ≤ sizeLine) (rm : Room k callerA)
    (F : ∀ base : Heap, K.In base → base.Ns mainGlobals mg → FnG P w K mg base k fa fd [x] sp) (bd : ∀ (s : Shared) (u : Value), BindsTo s fd ⟨[u], []⟩ [(x, u)])
    (pr : ∀ H : Hp, Only H → SqL K H a (ns.map V.int) → sp [.ref a] H (fun v _ => v = .bl true) fun _ _ _ => False)
    (nx : ∀ H e s2, L2.CX P w [] H s1 (fun _ _ _ => False) e s2 → False) :
    codeAny (model P w) callerA (.call (.ref fa) ⟨[.ref a], []⟩) (fun r s2 => r = .ok (.ret (.bool true)) ∧ OldK s1.heap s2.heap ∧ s2.os = s1.os ∧ AllBare s2.gens) s1 := by
  have rel := vals_ints ia
  have go : ∀ H : Hp, Only H → SqL K H a (ns.map V.int) → HOk P w H s1.heap → (∀ b, b ≠ a → H b = none) → (K.lookup a = none ∨ H a = none) →
      codeAny (model P w) callerA (.call (.ref fa) ⟨[.ref a], []⟩) (fun r s2 => r = .ok (.ret (.bool true)) ∧ OldK s1.heap s2.heap ∧ s2.os = s1.os ∧ AllBare s2.gens) s1 := by
    intro H only sq hok far near
    have ns : ∀ {b : Addr} {m : Str → Option Value}, s1.heap.Ns b m → (hidT s1.heap H).Ns b m := by
      rintro b m ⟨o, es, ep, e, d, r⟩
      refine ⟨o, es, ep, hidT_get e ?_, d, r⟩
      by_cases c : b = a
      · exfalso
        subst c
        have z := Option.some.inj (ga.symm.trans e)
        rw [← z] at d
        cases d
      · exact far b c
    have kb : K.In (hidT s1.heap H) := fun b o e => hidT_get (kin b o e) (by
      by_cases c : b = a
      · subst c
        rcases near with z | z
        · rw [e] at z; cases z
        · exact z
      · exact far b c)
    have md : Mod K mg (hidT s1.heap H) := by
      obtain ⟨mc, z1, z2⟩ := nl
      exact ⟨kb, ns gl, ⟨mb, ns bl, bo⟩, ⟨mc, ns z1, z2⟩⟩
    have env : Env0 P w K mg (hidT s1.heap H) callerA [] s1 H := ⟨rfl, md, fun b o e => of_hidT e, Nat.le_of_eq (hidT_size _ _), trivial, (fun b hb => (List.not_mem_nil (show b ∈ ([] : List Addr) from hb)).elim), hok, AllBare.of_eq ge⟩
    have run := (F _ kb (ns gl)).run callerA [] s1 H ⟨[.ref a], []⟩ [.ref a] [.ref a] (fun v _ => v = .bl true) (fun _ _ _ => False) rm rfl env (bd s1 (.ref a)) (.cons rfl .nil) (pr H only sq)
    refine codeAny_mono run fun out s2 z => ?_
    rcases out with u | fl
    · exact (nx H u s2 z).elim
    have wr : ∃ u v H2, fl = .ret u ∧ s2.os = s1.os ∧ AllBare s2.gens ∧ Un (frs []) [] H H2 s1.heap s2.heap ∧ HOk P w H2 s2.heap ∧ RelV v u ∧ v = .bl true := by
      cases fl with
      | ret u =>
        obtain ⟨v, H2, z1, z2, z3, z4, z5, z6⟩ := z
        exact ⟨u, v, H2, rfl, z1, z2, z3, z4, z5, z6⟩
      | _ => exact z.elim
    obtain ⟨u, v, H2, rfl, os2, bare2, un2, hok2, rv, rfl⟩ := wr
    have ru : u = Value.bool true := rv
    rw [ru]
    refine ⟨rfl, OldK.of_keep fun b o e => ?_, os2, bare2⟩
    cases hb : H b with
    | none => exact un2.keep b o e hb (fun z => (List.not_mem_nil (show b ∈ ([] : List Addr) from z)).elim) fun z => by cases z
    | some u =>
      rcases only b with z | ⟨ob, xs, z⟩
      · rw [hb] at z; cases z
      · have t1 := (hok b _ z).1
        have t2 := (hok2 b _ (un2.frzs b ob _ z)).1
        rw [e] at t1
        rw [Option.some.inj t1]
        exact t2
  rcases hk : K.lookup a with _ | o
  · let H0 : Hp := fun b => if b = a then some (.frz { cls := .type "list", data := .seq us.toArray } (.lst (ns.map V.int))) else none
    have at_a : H0 a = some (.frz { cls := .type "list", data := .seq us.toArray } (.lst (ns.map V.int))) := if_pos rfl
    have off : ∀ b, b ≠ a → H0 b = none := fun b hb => if_neg hb
    refine go H0 (fun b => ?_) (.inl (.inr ⟨_, at_a⟩)) (fun b u z => ?_) off (.inl hk)
    · by_cases c : b = a
      · exact .inr ⟨_, _, by rw [c]; exact at_a⟩
      · exact .inl (off b c)
    · by_cases c : b = a
      · subst c
        rw [at_a] at z
        cases z
        exact ⟨ga, by rw [List.length_map]; exact le, us, _, rel, ga⟩
      · rw [off b c] at z; cases z
  · have e := kin a o hk
    rw [ga] at e
    cases e
    refine go (fun _ => none) (fun _ => .inl rfl) (.inr ?_) (fun b u z => by cases z) (fun _ _ => rfl) (.inr rfl)
    refine ⟨_, us.toArray, _, hk, rfl, rfl, rfl, ?_, ?_⟩
    · rw [List.size_toArray, ia.length]; exact le
    · simpa using rel
end MIS

set_option Elab.async false
set_option linter.all false
set_option maxRecDepth 100000
set_option maxHeartbeats 1000000
/-! MiS7: the checker of expressions, and what it shows. -/
namespace MIS
open PySem PySem.Spec PyProof.Rows L2 MI
/-! ### tables -/
structure Tab where
  fns : List (Str × String × Nat)
  consts : List (Str × D)
  blts : List Str
  /-- nothing is handled -/
  cool : Bool
  /-- the slot of the refusal that is handled -/
  es : Option Nat
  excs : List (Str × Nat)
  /-- defs that are called within except suites, handed the refusal first -/
  hfns : List (Str × String × Nat)
def Tab.heat (T : Tab) (i : Option Nat) : Tab := ⟨[], T.consts, T.blts, false, i, T.excs, T.hfns⟩
/-- a def's promise by MI's run -/
def spF (K : KW) (ar : Nat) (c : List D → Mo D) : Sp := fun vs H Q E => vs.length = ar ∧ ∃ μ η ds, Wd K μ H η ∧ RVs K μ H ds vs ∧
  EndG K (fun k H' => E (.ref (K.ex k)) none H') μ H (fun d _ μ' H' => ∀ v, RV K μ' H' d v → Q v H') (c ds η)
/-- the same of a def that is handed the refusal -/
def spE (K : KW) (ar : Nat) (c : List D → Mo D) : SpH := fun p vs H Q E => vs.length = ar ∧ ∃ (j : Nat) (μ : List Addr) (η : Hv) (ds : List D) (us : List V), vs = .ref p.1 :: us ∧ Zc (.ref (K.ex j)) none p.2 ∧ (∃ z, p.2.data = .fields z) ∧ Wd K μ H η ∧ RVs K μ H ds us ∧
  EndG K (fun _ _ => False) μ H (fun d _ μ' H' => ∀ v, RV K μ' H' d v → Q v H') (c (.exc j :: ds) η)
structure HotFact (X : Cx) (ex : Nat → Addr) (c : ClM) (n : Nat) (x : Str) (f : String) (ar : Nat) : Prop where
  g : ∃ a, X.mg x = some (.ref a) ∧ PySem.W.keepIn X.K (.ref a) = true ∧ ∃ fdat ps, ps.length = ar ∧ FnE X.prog X.w X.K X.mg X.base n a fdat ps (spE (kw X none ex) ar (c f)) ∧ Binds X.K fdat ps []
abbrev veBase : List Value := [.type "ValueError", .type "Exception", .type "BaseException", .type "object"]
/-- a class of refusals -/
structure ExcF (K : PySem.W.Frag) (mg : Str → Option Value) (ex : Nat → Addr) (x : Str) (c : Nat) : Prop where
  mg : mg x = some (.ref (ex c))
  ci : PySem.W.excIn K (ex c) veBase "ValueError.__new__" = true
  kp : PySem.W.keepIn K (.ref (ex c)) = true
  sb : PySem.W.subIn K (.ref (ex c)) (.type "BaseException") = some true
  ty : PySem.W.typeIn K (.ref (ex c)) = some (.type "type")
  em : ∀ k, PySem.W.exmOne K (.ref (ex k)) (.ref (ex c)) = some (subC k c)
  ki : ∀ k, PySem.W.kitOne K (.ref (ex k)) (.ref (ex c)) = some (subC k c)
structure ExcG (K : PySem.W.Frag) (ex : Nat → Addr) : Prop where
  all : ∀ k, ExcC K (ex k)
  ve : ∀ k, PySem.W.kitOne K (.ref (ex k)) (.type "ValueError") = some true
structure FnFact (X : Cx) (cl : HxC) (ex : Nat → Addr) (c : ClM) (n : Nat) (x : Str) (f : String) (ar : Nat) : Prop where
  g : ∃ a, X.mg x = some (.ref a) ∧ PySem.W.keepIn X.K (.ref a) = true ∧ ∃ fdat ps, ps.length = ar ∧ FnG X.prog X.w X.K X.mg X.base n a fdat ps (spF (kw X cl ex) ar (c f)) ∧ Binds X.K fdat ps []
structure Facts (X : Cx) (cl : HxC) (ex : Nat → Addr) (T : Tab) (c : ClM) (n : Nat) : Prop where
  fn : ∀ p ∈ T.fns, FnFact X cl ex c n p.1 p.2.1 p.2.2
  cs : ∀ p ∈ T.consts, ∃ u v, X.mg p.1 = some u ∧ RelV v u ∧ ∀ μ H, RV (kw X cl ex) μ H p.2 v
  bt : ∀ x ∈ T.blts, X.mg x = none
  hf : ∀ p ∈ T.hfns, HotFact X ex c n p.1 p.2.1 p.2.2
  ec : ∀ p ∈ T.excs, ExcF X.K X.mg ex p.1 p.2
  eg : T.excs ≠ [] → ExcG X.K ex
/-- what is wanted of refusals, in the hand layer's form -/
def wx (ex : Nat → Addr) (W : WS) : WX := fun cls d σ H => ∃ k, cls = .ref (ex k) ∧ d = none ∧ W k σ H
structure Good (X : Cx) (cl : HxC) (ex : Nat → Addr) (T : Tab) (c : ClM) (n : Nat) (sc : Scope) (N : List Str) (W : WS) : Prop where
  sc : X.env.scope = sc
  nms : X.N = N
  nd : N.Nodup
  calm : T.cool = true → X.calm = true
  room : L2H.RoomH n X.A
  roomC : T.cool = true → Room n X.A
  gds : X.A.guards = some []
  tk : Takes X (wx ex W)
  po : PassesOwn (model X.prog X.w) X.A X.env X.xe
  fs : Facts X cl ex T c n
  cold : T.cool = true → cl = none
  noes : T.es = none → cl = none
  dry : (∃ i, T.es = some i) → ∀ k σ H, ¬ W k σ H
  hx : ∀ i, T.es = some i → ∃ (a : Addr) (j : Nat) (oe : Obj), cl = some (i, a, j) ∧ (a, oe) ∈ X.pn ∧ Zc (.ref (ex j)) none oe ∧ ∃ z, oe.data = .fields z
/-! ### the checker -/
def visB (sc : Scope) (x : Str) : Bool := match sc.names.lookup x with
  | some .local => true
  | some .cell => true
  | some .free => true
  | _ => false
def glB (sc : Scope) (x : Str) : Bool := match sc.names.lookup x with
  | some .globalImplicit => true
  | _ => false
def nmB (x : Str) : Bool := !(x == "__debug__") && !(x == "__classdict__") && !(x == "__name__")
def noStar : Expr → Bool
  | .Starred .. => false
  | _ => true
def noSet : Expr → Bool
  | .Set .. => false
  | _ => true
def noSlice : Expr → Bool
  | .Slice .. => false
  | _ => true
def noComp : Expr → Bool
  | .ListComp .. => false
  | .SetComp .. => false
  | .DictComp .. => false
  | _ => true
def noIf : Expr → Bool
  | .IfExp .. => false
  | _ => true
mutual
def same : D → D → Bool
  | .non, .non => true
  | .bl a, .bl b => a == b
  | .int i, .int j => i == j
  | .str a, .str b => a == b
  | .tup a, .tup b => sames a b
  | _, _ => false
def sames : List D → List D → Bool
  | [], [] => true
  | x :: xs, y :: ys => same x y && sames xs ys
  | _, _ => false
end
mutual
theorem same_eq : ∀ a b : D, same a b = true → a = b
  | .non, .non, _ => rfl
  | .bl a, .bl b, h => by rw [same] at h; rw [eq_of_beq h]
  | .int i, .int j, h => by rw [same] at h; rw [eq_of_beq h]
  | .str a, .str b, h => by rw [same] at h; rw [eq_of_beq h]
  | .tup a, .tup b, h => by rw [same] at h; rw [sames_eq a b h]
  | .non, .bl _, h => nomatch h
  | .non, .int _, h => nomatch h
  | .non, .str _, h => nomatch h
  | .non, .tup _, h => nomatch h
  | .non, .sq _, h => nomatch h
  | .non, .lst _, h => nomatch h
  | .non, .ref _, h => nomatch h
  | .non, .exc _, h => nomatch h
  | .non, .dic _ _, h => nomatch h
  | .bl _, .non, h => nomatch h
  | .bl _, .int _, h => nomatch h
  | .bl _, .str _, h => nomatch h
  | .bl _, .tup _, h => nomatch h
  | .bl _, .sq _, h => nomatch h
  | .bl _, .lst _, h => nomatch h
  | .bl _, .ref _, h => nomatch h
  | .bl _, .exc _, h => nomatch h
  | .bl _, .dic _ _, h => nomatch h
  | .int _, .non, h => nomatch h
  | .int _, .bl _, h => nomatch h
  | .int _, .str _, h => nomatch h
  | .int _, .tup _, h => nomatch h
  | .int _, .sq _, h => nomatch h
  | .int _, .lst _, h => nomatch h
  | .int _, .ref _, h => nomatch h
  | .int _, .exc _, h => nomatch h
  | .int _, .dic _ _, h => nomatch h
  | .str _, .non, h => nomatch h
  | .str _, .bl _, h => nomatch h
  | .str _, .int _, h => nomatch h
  | .str _, .tup _, h => nomatch h
  | .str _, .sq _, h => nomatch h
  | .str _, .lst _, h => nomatch h
  | .str _, .ref _, h => nomatch h
  | .str _, .exc _, h => nomatch h
  | .str _, .dic _ _, h => nomatch h
  | .tup _, .non, h => nomatch h
  | .tup _, .bl _, h => nomatch h
  | .tup _, .int _, h => nomatch h
  | .tup _, .str _, h => nomatch h
  | .tup _, .sq _, h => nomatch h
  | .tup _, .lst _, h => nomatch h
  | .tup _, .ref _, h => nomatch h
  | .tup _, .exc _, h => nomatch h
  | .tup _, .dic _ _, h => nomatch h
  | .sq _, _, h => nomatch h
  | .lst _, _, h => nomatch h
  | .ref _, _, h => nomatch h
  | .exc _, _, h => nomatch h
  | .dic _ _, _, h => nomatch h
theorem sames_eq : ∀ a b : List D, sames a b = true → a = b
  | [], [], _ => rfl
  | x :: xs, y :: ys, h => by
    rw [sames, Bool.and_eq_true] at h
    rw [same_eq x y h.1, sames_eq xs ys h.2]
  | [], _ :: _, h => nomatch h
  | _ :: _, [], h => nomatch h
end
def opB : Operator → Op → Bool
  | .Add, .add => true
  | .Sub, .sub => true
  | .Mult, .mul => true
  | .FloorDiv, .fdiv => true
  | .Mod, .mod => true
  | .Pow, .pow => true
  | _, _ => false
def cmB : CmpOp → Cm → Bool
  | .Eq, .eq => true
  | .NotEq, .ne => true
  | .Lt, .lt => true
  | .LtE, .le => true
  | .Gt, .gt => true
  | .GtE, .ge => true
  | .Is, .is => true
  | .IsNot, .isn => true
  | .In, .isin => true
  | .NotIn, .nin => true
  | _, _ => false
def bfN : Bf → Str
  | .len => "len"
  | .tuple => "tuple"
  | .list => "list"
  | .int => "int"
  | .min => "min"
  | .max => "max"
  | .all => "all"
  | .any => "any"
  | .sum => "sum"
  | .set => "set"
  | .sorted => "sorted"
  | .str => "str"
  | .repr => "repr"
  | .dict => "dict"
def tyS : MI.Ty → Str
  | .bool => "bool"
  | .int => "int"
  | .str => "str"
  | .tuple => "tuple"
  | .list => "list"
  | .dict => "dict"
def tyN : MI.Ty → String
  | .bool => "bool"
  | .int => "int"
  | .str => "str"
  | .tuple => "tuple"
  | .list => "list"
  | .dict => "dict"
def okBf : Bf → Bool
  | .len => true
  | .tuple => true
  | .list => true
  | .int => true
  | .min => true
  | .all => true
  | .any => true
  | .sum => true
  | .set => true
  | .max => true
  | .str => true
  | .sorted => true
  | .repr => true
  | _ => false
/-- what asks for nothing that is handled -/
def hotBf : Bf → Bool
  | .len => true
  | .tuple => true
  | .list => true
  | .int => true
  | .str => true
  | _ => false
def isC (d : D) : ME → Bool
  | .cst e => same e d
  | _ => false
def locB (sc : Scope) (x : Str) : Bool := match sc.names.lookup x with
  | some .local => true
  | some .cell => true
  | _ => false
/-- a target and its places -/
def tgB (sc : Scope) (N : List Str) : Expr → Tgt → Bool
  | .Name x _, .one i => decide (N[i]? = some x) && locB sc x
  | .Tuple [.Name x _, .Name y _] _ _, .two i j => decide (N[i]? = some x) && locB sc x && decide (N[j]? = some y) && locB sc y
  | _, _ => false
def tgN : Expr → List Str
  | .Name x _ => [x]
  | .Tuple [.Name x _, .Name y _] _ _ => [x, y]
  | _ => []
def ownT (tg : Expr) : Tgt → List (Str × Nat)
  | .one i => (tgN tg).zip [i]
  | .two i j => (tgN tg).zip [i, j]
def isTup : Expr → Bool
  | .Tuple .. => true
  | _ => false
def mhN : Mh → Str
  | .append => "append"
  | .pop => "pop"
  | .reverse => "reverse"
  | .clear => "clear"
  | .index => "index"
  | .count => "count"
  | .join => "join"
  | .get => "get"
  | .update => "update"
  | .split => "split"
  | .partition => "partition"
  | .replace => "replace"
  | .insert => "insert"
def mh1 : Mh → Bool
  | .append => true
  | .index => true
  | .join => true
  | _ => false
def mh0 : Mh → Bool
  | .pop => true
  | .reverse => true
  | .clear => true
  | _ => false
def baseOk : Expr → Bool
  | .Call .. => false
  | _ => true
section
variable (T : Tab) (N : List Str)
mutual
def ckE : Nat → Scope → Expr → ME → Bool
  | 0, _, _, _ => false
  | _ + 1, sc, .Name x _, .loc i => (decide (N[i]? = some x) && visB sc x && nmB x) && decide (T.es ≠ some i)
  | _ + 1, sc, .Name x _, .cst d => glB sc x && nmB x && T.consts.any (fun p => p.1 == x && same p.2 d)
  | _ + 1, _, .Constant (.int i) _ _, .cst (.int j) => i == j
  | _ + 1, _, .Constant (.bool i) _ _, .cst (.bl j) => i == j
  | _ + 1, _, .Constant (.str x) _ _, .cst (.str s) => decide (x = ⟨s.toArray⟩)
  | _ + 1, _, .Constant .none _ _, .cst .non => true
  | n + 1, sc, .Tuple es _ _, .tup ms => ckEs n sc es ms && decide (ms.length ≤ 1000)
  | n + 1, sc, .List es _, .lst ms => ckEs n sc es ms && decide (ms.length ≤ 1000)
  | n + 1, sc, .BinOp a op b _, .bin o x y => opB op o && ckE n sc a x && ckE n sc b y
  | n + 1, sc, .UnaryOp .Not a _, .not x => ckE n sc a x && noIf a
  | n + 1, sc, .UnaryOp .USub a _, .neg x => ckE n sc a x
  | n + 1, sc, .BoolOp .And (a :: b :: r) p, .and x y => ckE n sc a x && noIf a && ckA n sc p (b :: r) y
  | n + 1, sc, .BoolOp .Or (a :: b :: r) p, .or x y => ckE n sc a x && noIf a && ckO n sc p (b :: r) y
  | n + 1, sc, .Compare a [op] [b] _, .cmp o x y => cmB op o && ckE n sc a x && ckE n sc b y && noSet b
  | n + 1, sc, .Compare a [op, op'] [b, c] _, .chn o o' x y z => cmB op o && cmB op' o' && ckE n sc a x && ckE n sc b y && ckE n sc c z && noSet b && noSet c
  | n + 1, sc, .IfExp c a b _, .ife z x y => ckE n sc c z && noIf c && ckE n sc a x && ckE n sc b y
  | n + 1, sc, .Subscript a (.Slice lo hi none _) _, .slc x l h => ckE n sc a x && ckP n sc lo l && ckP n sc hi h
  | n + 1, sc, .Subscript a b _, .idx x y => ckE n sc a x && ckE n sc b y && noSlice b
  | n + 1, sc, .Call (.Name f _) (e :: es) [] _, .call g ms => (T.cool && (glB sc f && nmB f && T.fns.any (fun p => p.1 == f && p.2.1 == g && p.2.2 == ms.length) && ckEs n sc (e :: es) ms)) || (glB sc f && nmB f && T.hfns.any (fun p => p.1 == f && p.2.1 == g && p.2.2 == ms.length) && ckH n sc (e :: es) ms)
  | n + 1, sc, .Call (.Name f _) [.Call (.Name g _) [e] [] _] [] _, .sset x => T.cool && (f == "sorted") && (g == "set") && glB sc f && T.blts.contains f && glB sc g && T.blts.contains g && ckEs n sc [e] [x]
  | n + 1, sc, .Call (.Name f _) [.Call (.Name g _) [a] [] _] [] _, .lrng [x] => T.cool && (f == "list") && (g == "range") && glB sc f && T.blts.contains f && glB sc g && T.blts.contains g && noStar a && ckE n sc a x
  | n + 1, sc, .Call (.Name f _) [.Call (.Name g _) [a, b] [] _] [] _, .lrng [x, y] => T.cool && (f == "list") && (g == "range") && glB sc f && T.blts.contains f && glB sc g && T.blts.contains g && noStar a && noStar b && ckE n sc a x && ckE n sc b y
  | n + 1, sc, .Call (.Name f _) (e :: es) [] _, .blt b ms => glB sc f && nmB f && (f == bfN b) && T.blts.contains f && (okBf b && (T.cool || hotBf b)) && ckEs n sc (e :: es) ms
  | n + 1, sc, .Call (.Name f _) [e, .Name t _] [] _, .isi x ty => (f == "isinstance") && glB sc f && T.blts.contains f && (t == tyS ty) && glB sc t && T.blts.contains t && noStar e && ckE n sc e x
  | _ + 1, sc, .Call (.Name f _) [.Name y _, .Name t _] [] _, .ise (.loc i) k => (f == "isinstance") && glB sc f && T.blts.contains f && (decide (N[i]? = some y) && visB sc y && nmB y) && decide (T.es = some i) && glB sc t && nmB t && !T.excs.isEmpty && (T.excs.contains (t, k) || (t == "ValueError" && T.blts.contains t && k == 10))
  | n + 1, sc, .Call (.Attribute o m apos) [e] [] cpos, .mth mm x [y] => (m == mhN mm) && mh1 mm && baseOk o && (apos.endLine == cpos.line) && noStar e && ckE n sc o x && ckEs n sc [e] [y]
  | n + 1, sc, .Call (.Attribute o m apos) [] [] cpos, .mth mm x [] => (m == mhN mm) && mh0 mm && baseOk o && (apos.endLine == cpos.line) && ckE n sc o x
  | n + 1, sc, .ListComp elt [⟨tg, iter, ifs, 0⟩] scope _, .lc t it cond m => T.cool && ckI n sc tg iter it && noSet iter && tgB (relS scope sc) N tg t && blkC N sc scope (ownT tg t) &&
      ((tgN tg).all fun x => decide ((relS scope sc).names.lookup x = some .local) || (scope.names.lookup x == some .cell)) && ckC n (relS scope sc) ifs cond && ckE n (relS scope sc) elt m
  | _, _, _, _ => false
def ckH : Nat → Scope → List Expr → List ME → Bool
  | 0, _, _, _ => false
  | n + 1, sc, .Name y _ :: es, .loc i :: ms => (decide (N[i]? = some y) && visB sc y && nmB y) && decide (T.es = some i) && ckEs n sc es ms
  | _, _, _, _ => false
def ckC : Nat → Scope → List Expr → Option ME → Bool
  | 0, _, _, _ => false
  | _ + 1, _, [], none => true
  | n + 1, sc, [e], some m => ckE n sc e m && noIf e
  | _, _, _, _ => false
def ckI : Nat → Scope → Expr → Expr → ITr → Bool
  | 0, _, _, _, _ => false
  | n + 1, sc, _, .Call (.Name f _) [a] [] _, .rng x => (f == "range") && glB sc f && T.blts.contains f && noStar a && ckE n sc a x
  | n + 1, sc, _, .Call (.Name f _) [a, b] [] _, .rng2 x y => (f == "range") && glB sc f && T.blts.contains f && noStar a && noStar b && ckE n sc a x && ckE n sc b y
  | n + 1, sc, tg, .Call (.Name f _) [a] [] _, .enm x => (f == "enumerate") && isTup tg && glB sc f && T.blts.contains f && noStar a && ckE n sc a x
  | n + 1, sc, tg, .Call (.Name f _) [a, b] [] _, .zip x y => (f == "zip") && isTup tg && glB sc f && T.blts.contains f && noStar a && noStar b && ckE n sc a x && ckE n sc b y
  | n + 1, sc, _, e, .seq x => ckE n sc e x
  | _, _, _, _, _ => false
def ckA : Nat → Scope → Pos → List Expr → ME → Bool
  | 0, _, _, _, _ => false
  | n + 1, sc, _, [a], x => ckE n sc a x && noIf a
  | n + 1, sc, p, a :: b :: r, .and x y => ckE n sc a x && noIf a && ckA n sc p (b :: r) y
  | _, _, _, _, _ => false
def ckO : Nat → Scope → Pos → List Expr → ME → Bool
  | 0, _, _, _, _ => false
  | n + 1, sc, _, [a], x => ckE n sc a x && noIf a
  | n + 1, sc, p, a :: b :: r, .or x y => ckE n sc a x && noIf a && ckO n sc p (b :: r) y
  | _, _, _, _, _ => false
def ckEs : Nat → Scope → List Expr → List ME → Bool
  | 0, _, _, _ => false
  | _ + 1, _, [], [] => true
  | n + 1, sc, e :: es, m :: ms => ckE n sc e m && noStar e && ckEs n sc es ms
  | _, _, _, _ => false
def ckP : Nat → Scope → Option Expr → Option ME → Bool
  | 0, _, _, _ => false
  | _ + 1, _, none, none => true
  | n + 1, sc, some e, some m => ckE n sc e m
  | _, _, _, _ => false
end
end
/-! ### small facts -/
theorem vis_of {sc : Scope} {x : Str} (h : visB sc x = true) : Vis sc x := by
  unfold visB at h
  split at h
  · exact .inl (by assumption)
  · exact .inr (.inl (by assumption))
  · exact .inr (.inr (by assumption))
  · cases h
theorem star_cons {e : Expr} (h : noStar e = true) (es : List Expr) (env : PySem.Env) : starEach (e :: es) env = (false, eval e env) :: starEach es env := by
  cases e <;> first | rfl | (cases h; done)
theorem mark_of {b : Expr} (op : CmpOp) (h : noSet b = true) : behindInMarks op b = false := by
  cases b <;> first | rfl | (cases h; done)
theorem plain_ix {b : Expr} (h : noSlice b = true) : L2.PlainIx b := by
  intro o i
  cases b <;> first | rfl | (cases h; done)
theorem nm_dbg {x : Str} (h : nmB x = true) : (x == ("__debug__" : Str)) = false := by
  unfold nmB at h
  simp only [Bool.and_eq_true, Bool.not_eq_true'] at h
  exact h.1.1
theorem nm_cd {x : Str} (h : nmB x = true) : (x == ("__classdict__" : Str)) = false := by
  unfold nmB at h
  simp only [Bool.and_eq_true, Bool.not_eq_true'] at h
  exact h.1.2
theorem nm_nm {x : Str} (h : nmB x = true) : x ≠ ("__name__" : Str) := by
  unfold nmB at h
  simp only [Bool.and_eq_true, Bool.not_eq_true'] at h
  intro e
  rw [e] at h
  simp at h
theorem evEs_len {c c' : ClM} : ∀ (ms : List ME) (ρ : Rho) (η : Hv) (ds : List D) (η' : Hv), evEs c c' ms ρ η = .ok ds η' → ds.length = ms.length
  | [], ρ, η, ds, η', h => by
    rw [evEs] at h
    cases h; rfl
  | m :: ms, ρ, η, ds, η', h => by
    rw [evEs] at h
    unfold Mo.bind at h
    cases h1 : evE c c' m ρ η with
    | bad => rw [h1] at h; cases h
    | ex k q => rw [h1] at h; cases h
    | ok d η1 =>
      rw [h1] at h
      simp only at h
      cases h2 : evEs c c' ms ρ η1 with
      | bad => rw [h2] at h; cases h
      | ex k q => rw [h2] at h; cases h
      | ok es η2 =>
        rw [h2] at h
        cases h
        rw [List.length_cons, List.length_cons, evEs_len ms ρ η1 es _ h2]
theorem stars_plain {T : Tab} {N : List Str} {sc : Scope} (pos : Pos) (env : PySem.Env) : ∀ (n : Nat) (es : List Expr) (ms : List ME), ckEs T N n sc es ms = true → (backTo pos (starEach es env)).any (·.1) = false
  | 0, es, ms, h => by simp [ckEs] at h
  | n + 1, [], ms, _ => rfl
  | n + 1, e :: es, [], h => by simp [ckEs] at h
  | n + 1, e :: es, m :: ms, h => by
    rw [ckEs] at h
    simp only [Bool.and_eq_true] at h
    rw [star_cons h.1.2]
    show (false || (backTo pos (starEach es env)).any (·.1)) = false
    rw [stars_plain pos env n es ms h.2]; rfl
section
variable {X : Cx} {cl : HxC} {ex : Nat → Addr} {T : Tab} {c c' : ClM} {k : Nat} {sc : Scope} {N : List Str} {W : WS}
theorem Good.vis (G : Good X cl ex T c k sc N W) {i : Nat} {x : Str} (h : (decide (N[i]? = some x) && visB sc x && nmB x) = true) {pos : Pos} : PE X (.Name x pos) (tVar i) := by
  simp only [Bool.and_eq_true, decide_eq_true_eq] at h
  refine pe_var (by rw [G.nms]; exact h.1.1) ?_ (nm_dbg h.2) (nm_cd h.2)
  rw [G.sc]
  exact vis_of h.1.2
theorem Good.gl (G : Good X cl ex T c k sc N W) {x : Str} (h : glB sc x = true) : Gl X x := by
  show X.env.scope.names.lookup x = some .globalImplicit
  rw [G.sc]
  unfold glB at h
  split at h
  · assumption
  · cases h
theorem Good.hu (G : Good X cl ex T c k sc N W) : X.A.units + 65 < cLine := by have := G.room.un; omega
theorem Good.slot (G : Good X cl ex T c k sc N W) {i : Nat} (h : T.es ≠ some i) : ∀ a j, (kw X cl ex).cl ≠ some (i, a, j) := fun a j z => by
  have z' : cl = some (i, a, j) := z
  cases e : T.es with
  | none => rw [G.noes e] at z'; cases z'
  | some i' =>
    obtain ⟨a', j', oe, e1, _⟩ := G.hx i' e
    rw [e1] at z'
    cases z'
    exact h e
end
end MIS

set_option Elab.async false
set_option linter.all false
set_option maxRecDepth 100000
set_option maxHeartbeats 2000000
/-! MiS9: what is walked. -/
namespace MIS
open PySem PySem.Spec PyProof.Rows L2 MI
/-- a walk of MI's is a walk of the hand layer's -/
def JR (K : KW) (μ0 : List Addr) (H0 : Hp) (J : L2.It) (nx : Nxt) : Prop := ∀ (μ : List Addr) (H : Hp) (η : Hv) (i : Nat), Aft K μ0 H0 μ H → Wd K μ H η → match nx i η with
  | none => True
  | some none => J.stop i H
  | some (some d) => J.go i H ∧ ∀ x H', J.yld i H x H' → Aft K μ H μ H' ∧ Wd K μ H' η ∧ RV K μ H' d x
def tI (K : KW) (W : WS) (m : Rho → Mo Nxt) : TI := fun σ H R => ∃ μ η ρ, Wd K μ H η ∧ RE K μ H ρ σ ∧ EndG K (fun c H' => W c σ H') μ H (fun nx _ μ' H' => ∀ J, JR K μ' H' J nx → R J H') (m ρ η)
section
variable {K : KW} {μ0 : List Addr} {H0 : Hp}
theorem RVs.none_of {μ : List Addr} {H : Hp} {ds : List D} {vs : List V} {i : Nat} (r : RVs K μ H ds vs) (h : ds[i]? = none) : vs.length ≤ i := by
  rw [r.len]; exact List.getElem?_eq_none_iff.mp h
theorem jr_list {a : Addr} {j : Nat} (hj : μ0[j]? = some a) : JR K μ0 H0 (Itl K.K a) (nxSeq (.ref j)) := by
  intro μ H η i af wd
  simp only [nxSeq]
  cases e : MI.getL η (.ref j) with
  | none => trivial
  | some xs =>
    obtain ⟨b, vs, hb, hs, rs⟩ := wd.getL (d := .ref j) (v := .ref a) ⟨a, rfl, af.at hj⟩ e
    cases hb
    simp only [Option.map_some]
    cases g : xs[i]? with
    | none => exact ⟨vs, hs, rs.none_of g⟩
    | some d =>
      obtain ⟨v, h1, h2⟩ := rs.get g
      refine ⟨⟨vs, v, hs, h1⟩, fun x H' ⟨e1, e2⟩ => ?_⟩
      subst e1
      have := e2 vs hs
      rw [h1] at this
      cases this
      exact ⟨.refl, wd, h2⟩
theorem jr_tup {a : Addr} {xs : List D} {vs : List V} (hs : SqT K.K H0 a vs) (rs : RVs K μ0 H0 xs vs) : JR K μ0 H0 (Itt K.K a) (nxSeq (.tup xs)) := by
  intro μ H η i af wd
  have hs' := af.keep _ _ hs
  have rs' := RVs.mono af xs vs rs
  simp only [nxSeq]
  cases g : xs[i]? with
  | none => exact ⟨vs, hs', rs'.none_of g⟩
  | some d =>
    obtain ⟨v, h1, h2⟩ := rs'.get g
    refine ⟨⟨vs, v, hs', h1⟩, fun x H' ⟨e1, e2⟩ => ?_⟩
    subst e1
    have := e2 vs hs'
    rw [h1] at this
    cases this
    exact ⟨.refl, wd, h2⟩
theorem jr_str {s : List Nat} : JR K μ0 H0 (Its ⟨s.toArray⟩) (nxSeq (.str s)) := by
  intro μ H η i af wd
  simp only [nxSeq]
  cases g : s[i]? with
  | none =>
    show s.toArray.size ≤ i
    rw [List.size_toArray]; exact List.getElem?_eq_none_iff.mp g
  | some c =>
    have hi := (List.getElem?_eq_some_iff.mp g).1
    refine ⟨by show i < s.toArray.size; rw [List.size_toArray]; exact hi, fun x H' ⟨e1, c', e2, e3⟩ => ?_⟩
    subst e1
    have e4 : s[i]? = some c' := by
      have : (s.toArray)[i]? = some c' := e2
      simpa using this
    rw [g] at e4
    cases e4
    exact ⟨.refl, wd, e3⟩
theorem jr_rng {lo hi : Int} : JR K μ0 H0 (Itr lo (hi - lo).toNat) (nxRng lo hi) := by
  intro μ H η i af wd
  simp only [nxRng]
  split
  · rename_i x e
    split at e <;> cases e
  · rename_i e
    split at e
    · cases e
    · rename_i hn
      exact Nat.le_of_not_lt hn
  · rename_i d e
    split at e
    · rename_i hn
      cases e
      refine ⟨hn, fun x H' ⟨e1, e2⟩ => ?_⟩
      subst e1
      exact ⟨.refl, wd, e2⟩
    · cases e
/-- a new tuple beside -/
theorem fresh_tup {μ : List Addr} {H : Hp} {η : Hv} (wd : Wd K μ H η) {t : Addr} {ds : List D} {vs : List V} (ht : H t = none) (rs : RVs K μ H ds vs) :
    Aft K μ H μ (upd H t (.tup vs)) ∧ Wd K μ (upd H t (.tup vs)) η ∧ RV K μ (upd H t (.tup vs)) (.tup ds) (.ref t) :=
  ⟨aft_new ht, wd.fresh ht, t, vs, rfl, SqT.of upd_same, RVs.mono (aft_new ht) ds vs rs⟩
theorem jr_enm {a : Addr} {j : Nat} (hj : μ0[j]? = some a) : JR K μ0 H0 (Ite K.K a) (nxEnm (.ref j)) := by
  intro μ H η i af wd
  simp only [nxEnm, MI.getR]
  cases e : MI.getL η (.ref j) with
  | none => trivial
  | some xs =>
    obtain ⟨b, vs, hb, hs, rs⟩ := wd.getL (d := .ref j) (v := .ref a) ⟨a, rfl, af.at hj⟩ e
    cases hb
    simp only [Option.map_some]
    cases g : xs[i]? with
    | none => exact ⟨vs, hs, rs.none_of g⟩
    | some d =>
      obtain ⟨v, h1, h2⟩ := rs.get g
      refine ⟨⟨vs, v, hs, h1⟩, fun x H' ⟨t, y, e1, e2, e3, e4⟩ => ?_⟩
      subst e1 e3
      have := e4 vs hs
      rw [h1] at this
      cases this
      exact fresh_tup wd e2 ⟨.int i, [v], rfl, rfl, RVs.one h2⟩
theorem zip2_none {xs ys : List D} {i : Nat} (h : zip2 xs ys i = none) : xs[i]? = none ∨ ys[i]? = none := by
  unfold zip2 at h
  split at h
  · cases h
  · rename_i hn
    cases e : xs[i]? with
    | none => exact .inl rfl
    | some x =>
      cases f : ys[i]? with
      | none => exact .inr rfl
      | some y => exact (hn x y e f).elim
theorem zip2_some {xs ys : List D} {i : Nat} {d : D} (h : zip2 xs ys i = some d) : ∃ x y, xs[i]? = some x ∧ ys[i]? = some y ∧ d = .tup [x, y] := by
  unfold zip2 at h
  split at h
  · rename_i x y e f
    cases h
    exact ⟨x, y, e, f, rfl⟩
  · cases h
theorem jr_zipL {a b : Addr} {j l : Nat} (hj : μ0[j]? = some a) (hl : μ0[l]? = some b) : JR K μ0 H0 (Itz K.K a b) (nxZip (.ref j) (.ref l)) := by
  intro μ H η i af wd
  simp only [nxZip]
  cases e : MI.getL η (.ref j) with
  | none => trivial
  | some xs =>
    cases f : MI.getL η (.ref l) with
    | none => trivial
    | some ys =>
      obtain ⟨a', vs, ha, hs, rs⟩ := wd.getL (d := .ref j) (v := .ref a) ⟨a, rfl, af.at hj⟩ e
      obtain ⟨b', ws, hb, hq, qs⟩ := wd.getL (d := .ref l) (v := .ref b) ⟨b, rfl, af.at hl⟩ f
      cases ha; cases hb
      simp only [Option.bind_some, Option.map_some]
      cases g : zip2 xs ys i with
      | none => exact ⟨vs, ws, hs, hq, (zip2_none g).imp rs.none_of qs.none_of⟩
      | some d =>
        obtain ⟨x, y, g1, g2, rfl⟩ := zip2_some g
        obtain ⟨v, h1, h2⟩ := rs.get g1
        obtain ⟨w, h3, h4⟩ := qs.get g2
        refine ⟨⟨vs, ws, v, w, hs, hq, h1, h3⟩, fun z H' ⟨t, x', y', e1, e2, e3, e4, e5⟩ => ?_⟩
        subst e1 e3
        have t1 := e4 vs hs
        have t2 := e5 ws hq
        rw [h1] at t1
        rw [h3] at t2
        cases t1; cases t2
        exact fresh_tup wd e2 ⟨v, [w], rfl, h2, RVs.one h4⟩
theorem jr_zipT {a b : Addr} {xs ys : List D} {vs ws : List V} (hs : SqT K.K H0 a vs) (rs : RVs K μ0 H0 xs vs) (hq : SqT K.K H0 b ws) (qs : RVs K μ0 H0 ys ws) : JR K μ0 H0 (RZ.ItzT K.K a b) (nxZip (.tup xs) (.tup ys)) := by
  intro μ H η i af wd
  have hs' := af.keep _ _ hs
  have rs' := RVs.mono af xs vs rs
  have hq' := af.keep _ _ hq
  have qs' := RVs.mono af ys ws qs
  simp only [nxZip]
  cases g : zip2 xs ys i with
  | none => exact ⟨vs, ws, hs', hq', (zip2_none g).imp rs'.none_of qs'.none_of⟩
  | some d =>
    obtain ⟨x, y, g1, g2, rfl⟩ := zip2_some g
    obtain ⟨v, h1, h2⟩ := rs'.get g1
    obtain ⟨w, h3, h4⟩ := qs'.get g2
    refine ⟨⟨vs, ws, v, w, hs', hq', h1, h3⟩, fun z H' ⟨t, x', y', e1, e2, e3, e4, e5⟩ => ?_⟩
    subst e1 e3
    have t1 := e4 vs hs'
    have t2 := e5 ws hq'
    rw [h1] at t1
    rw [h3] at t2
    cases t1; cases t2
    exact fresh_tup wd e2 ⟨v, [w], rfl, h2, RVs.one h4⟩
end
/-! ### the walks by their expressions -/
section
variable {X : Cx} {cl : HxC} {ex : Nat → Addr} {T : Tab} {c c' : ClM} {k : Nat} {sc : Scope} {N : List Str} {W : WS} {tg : Expr}
theorem seqK_ref {j : Nat} {η : Hv} {u : Unit} (h : seqK (.ref j) η = some u) : ∃ xs, MI.getL η (.ref j) = some xs := by
  simp only [seqK] at h
  cases e : MI.getL η (.ref j) with
  | none => rw [e] at h; cases h
  | some xs => exact ⟨xs, rfl⟩
theorem pi_seq {l : Expr} {ma : Rho → Mo D} (hl : PE X l (tE (kw X cl ex) W ma)) : PI X tg l (tI (kw X cl ex) W (fun ρ => (ma ρ).bind fun v => (lookM (seqK v)).bind fun _ => .pure (nxSeq v))) := by
  refine ⟨fun pins s σ H R I h => ?_⟩
  obtain ⟨μ, η, ρ, wd, re, e⟩ := h
  have e1 := EndG.bind e
  cases r : ma ρ η with
  | bad => rw [r] at e1; exact e1.elim
  | ex j η1 =>
    refine (pi_list hl).run pins s σ H R I ⟨μ, η, ρ, wd, re, ?_⟩
    rw [r] at e1 ⊢; exact e1
  | ok d η1 =>
    rw [r] at e1
    have e2 : ∀ μ1 H1, Aft (kw X cl ex) μ H μ1 H1 → Wd (kw X cl ex) μ1 H1 η1 → (∃ u, seqK d η1 = some u) ∧ ∀ J, JR (kw X cl ex) μ1 H1 J (nxSeq d) → R J H1 := fun μ1 H1 af wd1 => by
      obtain ⟨u, h1, q⟩ := EndG.look wd1 (EndG.bind (e1 μ1 H1 af wd1))
      exact ⟨⟨u, h1⟩, EndG.pure wd1 q⟩
    cases d with
    | tup xs =>
      refine (pi_tup hl).run pins s σ H R I ⟨μ, η, ρ, wd, re, ?_⟩
      rw [r]
      intro μ1 H1 af wd1 v rv
      obtain ⟨a, vs, rfl, hs, rs⟩ := rv
      exact ⟨a, rfl, ⟨vs, hs⟩, (e2 μ1 H1 af wd1).2 _ (jr_tup hs rs)⟩
    | str ss =>
      refine (pi_str hl).run pins s σ H R I ⟨μ, η, ρ, wd, re, ?_⟩
      rw [r]
      intro μ1 H1 af wd1 v rv
      cases rv
      exact ⟨_, rfl, (e2 μ1 H1 af wd1).2 _ jr_str⟩
    | ref j =>
      refine (pi_list hl).run pins s σ H R I ⟨μ, η, ρ, wd, re, ?_⟩
      rw [r]
      intro μ1 H1 af wd1 v rv
      obtain ⟨⟨u, hu⟩, q⟩ := e2 μ1 H1 af wd1
      obtain ⟨xs, hx⟩ := seqK_ref hu
      obtain ⟨a, vs, rfl, hs, rs⟩ := wd1.getL rv hx
      obtain ⟨a', ea, ha⟩ := rv
      cases ea
      exact ⟨a, rfl, ⟨vs, hs⟩, q _ (jr_list ha)⟩
    | _ =>
      refine (pi_list hl).run pins s σ H R I ⟨μ, η, ρ, wd, re, ?_⟩
      rw [r]
      intro μ1 H1 af wd1 v rv
      obtain ⟨⟨u, hu⟩, _⟩ := e2 μ1 H1 af wd1
      cases hu
theorem rng_of {i : Int} (h : rngOk i = true) : -(2 ^ 62) ≤ i ∧ i < 2 ^ 62 := by
  unfold rngOk at h
  have := of_decide_eq_true h
  have e : (2 : Int) ^ 62 = 4611686018427387904 := by decide
  rw [e]; exact this
theorem pi_rng (G : Good X cl ex T c k sc N W) {a : Expr} {ma : Rho → Mo D} {p pos : Pos} (hg : glB sc "range" = true) (hb : ("range" : Str) ∈ T.blts) (hs : noStar a = true) (ha : PE X a (tE (kw X cl ex) W ma)) :
    PI X tg (.Call (.Name "range" p) [a] [] pos) (tI (kw X cl ex) W (fun ρ => (ma ρ).bind fun v => (getI v).bind fun i => if rngOk i = true then .pure (nxRng 0 i) else badM)) := by
  refine ⟨fun pins s σ H R I h => (pi_range1 (G.gl hg) (G.fs.bt _ hb) (pa_cons ha pa_nil (star_cons hs _ _)) (star_cons hs [] _)).run pins s σ H R I ?_⟩
  obtain ⟨μ, η, ρ, wd, re, e⟩ := h
  refine ⟨μ, η, ρ, wd, re, (EndG.bind e).imp fun d η1 μ1 H1 af wd1 e2 v rv => ?_⟩
  cases d <;> first | exact (EndG.bind e2).elim | skip
  cases rv
  have e3 := EndG.pure wd1 (EndG.bind e2)
  split at e3
  · rename_i i hi
    obtain ⟨h1, h2⟩ := rng_of hi
    have q := EndG.pure wd1 e3 _ (jr_rng (lo := 0) (hi := i))
    rw [Int.sub_zero] at q
    exact ⟨i, rfl, h1, h2, q⟩
  · exact e3.elim
theorem pi_rng2 (G : Good X cl ex T c k sc N W) {a b : Expr} {ma mb : Rho → Mo D} {p pos : Pos} (hg : glB sc "range" = true) (hb : ("range" : Str) ∈ T.blts) (hs : noStar a = true) (hs2 : noStar b = true) (ha : PE X a (tE (kw X cl ex) W ma)) (hb2 : PE X b (tE (kw X cl ex) W mb)) :
    PI X tg (.Call (.Name "range" p) [a, b] [] pos) (tI (kw X cl ex) W (fun ρ => (ma ρ).bind fun v => (mb ρ).bind fun w => (getI v).bind fun i => (getI w).bind fun j => if (rngOk i && rngOk j) = true then .pure (nxRng i j) else badM)) := by
  refine ⟨fun pins s σ H R I h => (pi_range2 (G.gl hg) (G.fs.bt _ hb) (pa_cons ha (pa_cons hb2 pa_nil (star_cons hs2 _ _)) (star_cons hs _ _)) (by rw [star_cons hs, star_cons hs2]; rfl) (star_cons hs2 [] _)).run pins s σ H R I ?_⟩
  obtain ⟨μ, η, ρ, wd, re, e⟩ := h
  refine ⟨μ, η, ρ, wd, re, (EndG.bind e).imp fun d η1 μ1 H1 af wd1 e2 v rv => ?_⟩
  refine ⟨μ1, η1, ρ, wd1, re.mono af, (EndG.bind e2).imp fun d2 η2 μ2 H2 af2 wd2 e4 v2 rv2 => ?_⟩
  cases d <;> first | exact (EndG.bind e4).elim | skip
  cases d2 <;> first | exact (EndG.bind (EndG.pure wd2 (EndG.bind e4))).elim | skip
  cases rv; cases rv2
  have e5 := EndG.pure wd2 (EndG.bind (EndG.pure wd2 (EndG.bind e4)))
  split at e5
  · rename_i i j hi
    rw [Bool.and_eq_true] at hi
    obtain ⟨h1, h2⟩ := rng_of hi.1
    obtain ⟨h3, h4⟩ := rng_of hi.2
    exact ⟨i, j, rfl, ⟨h1, h2, h3, h4⟩, EndG.pure wd2 e5 _ jr_rng⟩
  · exact e5.elim
theorem pi_enm (G : Good X cl ex T c k sc N W) {a : Expr} {ma : Rho → Mo D} {p pos tpos : Pos} {elts : List Expr} {kk : Nat} (hg : glB sc "enumerate" = true) (hb : ("enumerate" : Str) ∈ T.blts) (hs : noStar a = true) (ha : PE X a (tE (kw X cl ex) W ma)) :
    PI X (.Tuple elts kk tpos) (.Call (.Name "enumerate" p) [a] [] pos) (tI (kw X cl ex) W (fun ρ => (ma ρ).bind fun v => (lookM fun h => MI.getR h v).bind fun _ => .pure (nxEnm v))) := by
  refine ⟨fun pins s σ H R I h => (pi_enum (G.gl hg) (G.fs.bt _ hb) (pa_cons ha pa_nil (star_cons hs _ _)) (star_cons hs [] _)).run pins s σ H R I ?_⟩
  obtain ⟨μ, η, ρ, wd, re, e⟩ := h
  refine ⟨μ, η, ρ, wd, re, (EndG.bind e).imp fun d η1 μ1 H1 af wd1 e2 v rv => ?_⟩
  obtain ⟨xs, h1, q⟩ := EndG.look wd1 (EndG.bind e2)
  cases d <;> first | (cases h1; done) | skip
  obtain ⟨a', vs, rfl, hsq, rs⟩ := wd1.getL rv h1
  obtain ⟨a2, ea, ha2⟩ := rv
  cases ea
  exact ⟨a', vs, rfl, hsq, EndG.pure wd1 q _ (jr_enm ha2)⟩
theorem pi_zp (G : Good X cl ex T c k sc N W) {a b : Expr} {ma mb : Rho → Mo D} {p pos tpos : Pos} {elts : List Expr} {kk : Nat} (hg : glB sc "zip" = true) (hb : ("zip" : Str) ∈ T.blts) (hs : noStar a = true) (hs2 : noStar b = true) (ha : PE X a (tE (kw X cl ex) W ma)) (hb2 : PE X b (tE (kw X cl ex) W mb)) :
    PI X (.Tuple elts kk tpos) (.Call (.Name "zip" p) [a, b] [] pos) (tI (kw X cl ex) W (fun ρ => (ma ρ).bind fun v => (mb ρ).bind fun w => (lookM (zipK v w)).bind fun _ => .pure (nxZip v w))) := by
  refine ⟨fun pins s σ H R I h => (RZ.pi_zipA (G.gl hg) (G.fs.bt _ hb) (pa_cons ha (pa_cons hb2 pa_nil (star_cons hs2 _ _)) (star_cons hs _ _)) (star_cons hs _ _) (by rw [star_cons hs2]; rfl)).run pins s σ H R I ?_⟩
  obtain ⟨μ, η, ρ, wd, re, e⟩ := h
  refine ⟨μ, η, ρ, wd, re, (EndG.bind e).imp fun d η1 μ1 H1 af wd1 e2 v rv => ?_⟩
  refine ⟨μ1, η1, ρ, wd1, re.mono af, (EndG.bind e2).imp fun d2 η2 μ2 H2 af2 wd2 e4 v2 rv2 => ?_⟩
  obtain ⟨u, h1, q0⟩ := EndG.look wd2 (EndG.bind e4)
  have q := EndG.pure wd2 q0
  have rv' := RV.mono af2 d v rv
  unfold zipK at h1
  split at h1
  · obtain ⟨a1, vs, rfl, hs1, rs⟩ := rv'
    obtain ⟨b1, ws, rfl, hs2', qs⟩ := rv2
    exact ⟨a1, b1, vs, ws, rfl, .inr ⟨hs1, hs2', q _ (jr_zipT hs1 rs hs2' qs)⟩⟩
  · rename_i j l
    cases e5 : MI.getL η2 (.ref j) with
    | none => rw [e5] at h1; cases h1
    | some xs =>
      cases e6 : MI.getL η2 (.ref l) with
      | none => rw [e5, e6] at h1; cases h1
      | some ys =>
        obtain ⟨a1, vs, rfl, hs1, rs⟩ := wd2.getL rv' e5
        obtain ⟨b1, ws, rfl, hs2', qs⟩ := wd2.getL rv2 e6
        obtain ⟨a2, ea, ha2⟩ := rv'
        obtain ⟨b2, eb, hb3⟩ := rv2
        cases ea; cases eb
        exact ⟨a1, b1, vs, ws, rfl, .inl ⟨hs1, hs2', q _ (jr_zipL ha2 hb3)⟩⟩
  · cases h1
end
end MIS

set_option Elab.async false
set_option linter.all false
set_option maxRecDepth 100000
set_option maxHeartbeats 2000000
/-! MiS10: methods. -/
namespace MIS
open PySem PySem.Spec PyProof.Rows L2 MI
def rMm (K : KW) (f : D → List D → Mo D) : V → List V → Hp → VK → Prop := fun x xs H Q => ∃ (W : WN) (μ : List Addr) (η : Hv) (d : D) (ds : List D), Wd K μ H η ∧ RV K μ H d x ∧ RVs K μ H ds xs ∧ EV K W μ H Q (f d ds η)
section
variable {K : KW} {μ : List Addr} {H : Hp} {η : Hv} {W : WN} {Q : VK}
/-- a list of MI's is written -/
theorem EV.wr {i : Nat} {a : Addr} {es : List D} {vs ws : List V} {d : D} {v : V} (h : EV K W μ H Q (.ok d (η.set i (.lst es)))) (w : Wd K μ H η) (ha : μ[i]? = some a) (hv : H a = some (.lst vs)) (rs : RVs K μ H es ws) (rd : RV K μ H d v) : Q v (upd H a (.lst ws)) := by
  have af : Aft K μ H μ (upd H a (.lst ws)) := aft_write (List.mem_of_getElem? ha) hv ⟨fun _ z => (nomatch z), fun _ _ z => (nomatch z)⟩
  have w2 := w.write (x := .lst es) (o := .lst ws) ha hv ⟨fun _ z => (nomatch z), fun _ _ z => (nomatch z)⟩ ⟨ws, upd_same, RVs.mono af es ws rs⟩
  exact h μ _ af w2.1 v (RV.mono af d v rd)
end
section
variable {X : Cx} {cl : HxC} {ex : Nat → Addr}
theorem mM_append : MtM X "list.append" (rMm (kw X cl ex) (mthM .append)) := by
  intro pins s σ H x xs v us Q I rx rs ⟨W, μ, η, d, ds, wd, rd, rds, h⟩
  have hl := lim_eq
  match ds, rds, h with
  | [], _, h => cases d <;> exact h.elim
  | _ :: _ :: _, _, h => cases d <;> exact h.elim
  | [e], rds, h =>
    obtain ⟨y, rfl, ry⟩ := rds.one_inv
    cases d <;> first | exact h.elim | skip
    obtain ⟨a, rfl, ha⟩ := rd
    simp only [mthM] at h
    split at h
    · rename_i ys e1
      split at h
      · rename_i hz
        obtain ⟨vs, h1, h2⟩ := wd.lst ha e1
        exact mt_append pins s σ H _ _ v us Q I rx rs ⟨a, vs, y, rfl, rfl, h1, by rw [h2.len, ← hl]; exact hz, h.wr (v := .non) wd ha h1 (h2.append (RVs.one ry)) rfl⟩
      · exact h.elim
    · exact h.elim
theorem ix_seq {i : Int} {n k : Nat} (h : ixD n i = some k) : seqIndex? i n = some k := by
  unfold ixD at h
  unfold seqIndex?
  by_cases h0 : 0 ≤ i
  · rw [if_pos h0] at h
    by_cases h1 : i < n
    · rw [if_pos h1] at h
      cases h
      have : ¬ i < 0 := by omega
      simp [this, h0, h1]
    · rw [if_neg h1] at h; cases h
  · rw [if_neg h0] at h
    by_cases h1 : -(n : Int) ≤ i
    · rw [if_pos h1] at h
      cases h
      have e1 : i < 0 := by omega
      have e2 : 0 ≤ i + n := by omega
      have e3 : i + (n : Int) < n := by omega
      simp only [e1, if_true, e2, e3, decide_true, Bool.and_self]
    · rw [if_neg h1] at h; cases h
theorem mM_pop : MtM X "list.pop" (rMm (kw X cl ex) (mthM .pop)) := by
  intro pins s σ H x xs v us Q I rx rs ⟨W, μ, η, d, ds, wd, rd, rds, h⟩
  match ds, rds, h with
  | e :: _ :: _, _, h => cases d <;> cases e <;> exact h.elim
  | [e], rds, h =>
    obtain ⟨y, rfl, ry⟩ := rds.one_inv
    cases d <;> first | exact h.elim | skip
    cases e <;> first | exact h.elim | skip
    obtain ⟨a, rfl, ha⟩ := rd
    cases ry
    simp only [mthM] at h
    split at h
    · rename_i ys e1
      split at h
      · rename_i j e3
        split at h
        · rename_i y e2
          obtain ⟨vs, h1, h2⟩ := wd.lst ha e1
          obtain ⟨w, h3, h4⟩ := h2.get e2
          split at e3
          · rename_i hb
            exact mt_popAt pins s σ H _ _ v us Q I rx rs ⟨a, vs, _, j, w, rfl, rfl, h1, by omega, by omega, ix_seq (by rw [h2.len]; exact e3), h3, h.wr wd ha h1 (h2.erase j) h4⟩
          · cases e3
        · exact h.elim
      · exact h.elim
    · exact h.elim
  | [], rds, h =>
    have e0 : xs = [] := rds
    subst e0
    cases d <;> first | exact h.elim | skip
    obtain ⟨a, rfl, ha⟩ := rd
    simp only [mthM] at h
    split at h
    · rename_i ys e1
      split at h
      · rename_i y e2
        obtain ⟨vs, h1, h2⟩ := wd.lst ha e1
        rw [List.getLast?_eq_getElem?] at e2
        obtain ⟨w, h3, h4⟩ := h2.get e2
        exact mt_pop pins s σ H _ _ v us Q I rx rs ⟨a, vs, w, rfl, rfl, h1, by rw [h2.len]; exact h3, h.wr wd ha h1 h2.dropLast h4⟩
      · exact h.elim
    · exact h.elim
theorem mM_reverse : MtM X "list.reverse" (rMm (kw X cl ex) (mthM .reverse)) := by
  intro pins s σ H x xs v us Q I rx rs ⟨W, μ, η, d, ds, wd, rd, rds, h⟩
  match ds, rds, h with
  | _ :: _, _, h => cases d <;> exact h.elim
  | [], rds, h =>
    have e0 : xs = [] := rds
    subst e0
    cases d <;> first | exact h.elim | skip
    obtain ⟨a, rfl, ha⟩ := rd
    simp only [mthM] at h
    split at h
    · rename_i ys e1
      obtain ⟨vs, h1, h2⟩ := wd.lst ha e1
      exact mt_reverse pins s σ H _ _ v us Q I rx rs ⟨a, vs, rfl, rfl, h1, h.wr (v := .non) wd ha h1 h2.reverse rfl⟩
    · exact h.elim
theorem mM_clear : MtM X "list.clear" (rMm (kw X cl ex) (mthM .clear)) := by
  intro pins s σ H x xs v us Q I rx rs ⟨W, μ, η, d, ds, wd, rd, rds, h⟩
  match ds, rds, h with
  | _ :: _, _, h => cases d <;> exact h.elim
  | [], rds, h =>
    have e0 : xs = [] := rds
    subst e0
    cases d <;> first | exact h.elim | skip
    obtain ⟨a, rfl, ha⟩ := rd
    simp only [mthM] at h
    split at h
    · rename_i ys e1
      obtain ⟨vs, h1, h2⟩ := wd.lst ha e1
      exact mt_clear pins s σ H _ _ v us Q I rx rs ⟨a, vs, rfl, rfl, h1, h.wr (v := .non) (ws := []) wd ha h1 rfl rfl⟩
    · rename_i ys e1
      exact (wd.obj _ a _ ha e1).elim
    · exact h.elim
theorem joinS_eq (a : List Nat) : ∀ ys : List (List Nat), Str.join ⟨a.toArray⟩ (ys.map fun s => (⟨s.toArray⟩ : Str)) = ⟨(joinS a ys).toArray⟩
  | [] => rfl
  | [x] => rfl
  | x :: y :: r => by
    have ih := joinS_eq a (y :: r)
    show (⟨x.toArray⟩ : Str) ++ ⟨a.toArray⟩ ++ Str.join ⟨a.toArray⟩ ((y :: r).map fun s => (⟨s.toArray⟩ : Str)) = ⟨(x ++ a ++ joinS a (y :: r)).toArray⟩
    rw [ih]
    show (⟨x.toArray ++ a.toArray ++ (joinS a (y :: r)).toArray⟩ : Str) = _
    rw [List.append_toArray, List.append_toArray]
theorem mM_join : MtR X "str.join" (rMm (kw X cl ex) (mthM .join)) := by
  intro pins s σ H x xs v us Q I rx rs ⟨W, μ, η, d, ds, wd, rd, rds, h⟩
  have hl := lim_eq
  match ds, rds, h with
  | [], _, h => cases d <;> exact h.elim
  | _ :: _ :: _, _, h => cases d <;> exact h.elim
  | [e], rds, h =>
    obtain ⟨y, rfl, ry⟩ := rds.one_inv
    cases d <;> first | exact h.elim | skip
    rename_i sep
    cases rd
    simp only [mthM] at h
    obtain ⟨c, h1, q⟩ := h.look wd
    cases e1 : seqH e η with
    | none => rw [e1] at h1; cases h1
    | some ys =>
      rw [e1] at h1
      simp only [Option.bind_some] at h1
      cases e2 : strsOf ys with
      | none => rw [e2] at h1; cases h1
      | some ss =>
        rw [e2] at h1
        simp only [Option.bind_some] at h1
        split at h1
        · rename_i hz
          cases h1
          have em := strsOf_map e2
          subst em
          obtain ⟨a, vs, rfl, rs2, hh⟩ := seq_ok wd ry e1
          rw [rs2.strs] at hh
          refine mt_join pins s σ H _ _ v us Q I rx rs ⟨_, a, _, rfl, rfl, hh.imp (·.2) (·.2), ?_, ?_⟩
          · have hm : ((ss.map fun s => (⟨s.toArray⟩ : Str)).map (·.length)) = ss.map List.length := by
              rw [List.map_map]
              exact List.map_congr_left fun z _ => by show z.toArray.size = _; rw [List.size_toArray]
            rw [hm, List.length_map]
            refine Nat.le_trans (Nat.le_of_eq ?_) hz
            show _ + _ * (List.toArray _).size = _
            rw [List.size_toArray]
          · rw [TL.join_eq, joinS_eq]
            exact q _ rfl
        · cases h1
theorem idxOf_spec (a : D) : ∀ (bs : List D) (n j : Nat), idxOf a bs n = some j → ∃ i z, j = n + i ∧ bs[i]? = some z ∧ D.eqv z a = true ∧ ∀ m z', m < i → bs[m]? = some z' → D.eqv z' a = false
  | [], _, _, h => nomatch h
  | b :: bs, n, j, h => by
    rw [idxOf] at h
    split at h
    · rename_i hb
      cases h
      exact ⟨0, b, rfl, rfl, hb, fun m z' hm => absurd hm (Nat.not_lt_zero _)⟩
    · rename_i hb
      obtain ⟨i, z, e1, e2, e3, e4⟩ := idxOf_spec a bs (n + 1) j h
      refine ⟨i + 1, z, by omega, by simpa using e2, e3, fun m z' hm hz => ?_⟩
      cases m with
      | zero =>
        simp at hz
        subst hz
        exact Bool.eq_false_iff.mpr hb
      | succ m => exact e4 m z' (by omega) (by simpa using hz)
theorem pys_get : ∀ {bs : List D} {i : Nat}, (pys bs)[i]? = (bs[i]?).map py
  | [], i => by simp [pys]
  | b :: bs, 0 => by simp [pys]
  | b :: bs, i + 1 => by
    rw [pys, List.getElem?_cons_succ, List.getElem?_cons_succ]
    exact pys_get
theorem mM_index (hu : X.A.units + 65 < cLine) : MtR X "list.index" (rMm (kw X cl ex) (mthM .index)) := by
  intro pins s σ H x xs v us Q I rx rs ⟨W, μ, η, d, ds, wd, rd, rds, h⟩
  match ds, rds, h with
  | [], _, h => cases d <;> exact h.elim
  | _ :: _ :: _, _, h => cases d <;> exact h.elim
  | [e], rds, h =>
    obtain ⟨y, rfl, ry⟩ := rds.one_inv
    have h' : EV (kw X cl ex) W μ H Q (lookM (fun h => (MI.getL h d).bind fun ys => (memH e ys h).bind fun b => if b = true then (deep h e).bind fun a => (deepsW (deepR h 6) ys).bind fun bs => (idxOf a bs 0).map fun (n : Nat) => D.int n else none) η) := by
      cases d <;> exact h
    obtain ⟨c, h1, q⟩ := h'.look wd
    cases e1 : MI.getL η d with
    | none => rw [e1] at h1; cases h1
    | some ys =>
      rw [e1] at h1
      simp only [Option.bind_some] at h1
      cases e2 : memH e ys η with
      | none => rw [e2] at h1; cases h1
      | some b =>
        rw [e2] at h1
        simp only [Option.bind_some] at h1
        cases b with
        | false => cases h1
        | true =>
          rw [if_pos rfl] at h1
          have hm := e2
          unfold memH at hm
          cases e3 : deep η e with
          | none => rw [e3] at h1; cases h1
          | some a =>
            cases e4 : deepsW (deepR η 6) ys with
            | none => rw [e3, e4] at h1; cases h1
            | some bs =>
              rw [e3, e4] at h1 hm
              simp only [Option.bind_some] at h1 hm
              split at hm
              · rename_i hs
                rw [Bool.and_eq_true] at hs
                cases e5 : idxOf a bs 0 with
                | none => rw [e5] at h1; cases h1
                | some j =>
                  rw [e5] at h1
                  cases h1
                  obtain ⟨i, z, e6, e7, e8, e9⟩ := idxOf_spec a bs 0 j e5
                  rw [Nat.zero_add] at e6
                  subst e6
                  obtain ⟨p, vs, rfl, hp, rs2⟩ := wd.getL rd e1
                  have fin : ∀ z ∈ bs, z.fine = true := fun z hz => shp_fine (List.all_eq_true.mp hs.2 z hz)
                  refine mt_indexD hu pins s σ H _ _ v us Q I rx rs ⟨p, y, py a, pys bs, j, py z, rfl, rfl, .lst hp (deepsW_dp (fun i a d h1 h2 => deepR_dp wd 6 i a d h1 h2) ys bs vs e4 rs2), deep_dp wd e3 ry, shaped_list hs.2, shp_shaped hs.1, ?_, ?_, fun m z' hm' hz' => ?_, q _ rfl⟩
                  · rw [pys_get, e7]; rfl
                  · rw [eqv_py z a (fin z (List.mem_of_getElem? e7)) (shp_fine hs.1)]; exact e8
                  · rw [pys_get] at hz'
                    cases e10 : bs[m]? with
                    | none => rw [e10] at hz'; cases hz'
                    | some w =>
                      rw [e10] at hz'
                      cases hz'
                      rw [eqv_py w a (fin w (List.mem_of_getElem? e10)) (shp_fine hs.1)]
                      exact e9 m w hm' e10
              · cases hm
end
/-! ### the calls -/
section
variable {X : Cx} {cl : HxC} {ex : Nat → Addr} {T : Tab} {c c' : ClM} {k : Nat} {sc : Scope} {N : List Str} {W : WS}
theorem base_of {o : Expr} (h : baseOk o = true) (m : Str) (env : PySem.Env) (w : Sem Value) : attributeBase o m env w = w := by
  cases o <;> first | rfl | (cases h; done)
/-- the receiver's kind is known -/
def tKnd (K : KW) (W : WS) (kd : D → Hv → Option Unit) (mo : Rho → Mo D) : Rho → Mo D := fun ρ => (mo ρ).bind fun x => (lookM (kd x)).bind fun _ => .pure x
theorem conv_M {K : KW} {σ : L2.St} {H : Hp} {Q : VK} {mo : Rho → Mo D} {ms : Rho → Mo (List D)} {kd : D → Hv → Option Unit} {f : D → List D → Mo D} {TT : String} (hk : ∀ μ H η d x u, Wd K μ H η → RV K μ H d x → kd d η = some u → tyV K.K TT x H)
    (h : tE K W (fun ρ => (mo ρ).bind fun x => (lookM (kd x)).bind fun _ => (ms ρ).bind fun ds => f x ds) σ H Q) : tBM K.K TT (rMm K f) (tE K W mo) (tA K W ms) σ H Q := by
  obtain ⟨μ, η, ρ, wd, re, e⟩ := h
  refine ⟨μ, η, ρ, wd, re, (EndG.bind e).imp fun d η1 μ1 H1 af wd1 e2 v rv => ?_⟩
  obtain ⟨u, h1, q⟩ := EndG.look wd1 (EndG.bind e2)
  refine ⟨hk _ _ _ _ _ u wd1 rv h1, μ1, η1, ρ, wd1, re.mono af, (EndG.bind q).imp fun ds η2 μ2 H2 af2 wd2 e4 vs rs => ?_⟩
  exact ⟨_, μ2, η2, d, ds, wd2, RV.mono af2 d v rv, rs, e4⟩
theorem conv_M0 {K : KW} {σ : L2.St} {H : Hp} {Q : VK} {mo : Rho → Mo D} {kd : D → Hv → Option Unit} {f : D → List D → Mo D} {TT : String} (hk : ∀ μ H η d x u, Wd K μ H η → RV K μ H d x → kd d η = some u → tyV K.K TT x H)
    (h : tE K W (fun ρ => (mo ρ).bind fun x => (lookM (kd x)).bind fun _ => (Mo.pure []).bind fun ds => f x ds) σ H Q) : tBM0 K.K TT (rMm K f) (tE K W mo) σ H Q := by
  obtain ⟨μ, η, ρ, wd, re, e⟩ := h
  refine ⟨μ, η, ρ, wd, re, (EndG.bind e).imp fun d η1 μ1 H1 af wd1 e2 v rv => ?_⟩
  obtain ⟨u, h1, q⟩ := EndG.look wd1 (EndG.bind e2)
  exact ⟨hk _ _ _ _ _ u wd1 rv h1, _, μ1, η1, d, [], wd1, rv, rfl, q⟩
theorem ty_list {K : KW} {kd : D → Hv → Option Unit} (he : ∀ d h, kd d h = (MI.getL h d).map fun _ => ()) : ∀ μ H η d x u, Wd K μ H η → RV K μ H d x → kd d η = some u → tyV K.K "list" x H := by
  intro μ H η d x u wd rd h
  rw [he] at h
  cases e : MI.getL η d with
  | none => rw [e] at h; cases h
  | some xs =>
    obtain ⟨a, vs, rfl, hs, _⟩ := wd.getL rd e
    exact .inl ⟨rfl, vs, hs⟩
theorem ty_str {K : KW} : ∀ μ H η d x u, Wd K μ H η → RV K μ H d x → kndH .join d η = some u → tyV K.K "str" x H := by
  intro μ H η d x u wd rd h
  cases d <;> first | (cases h; done) | skip
  cases rd
  rfl
theorem few_of {e : Expr} {cpos : Pos} {env : PySem.Env} (h : noStar e = true) : ((backTo cpos (starEach [e] env)).all (fun x => !x.1) && (backToKw cpos (keywordEach [] env)).all (fun x => x.1.isSome)
      && decide ([e].length + ([] : List Keyword).length + (if ([] : List Keyword).isEmpty then 0 else 1) < 30)) = true := by
  rw [star_cons h]; rfl
theorem Good.m1 (G : Good X cl ex T c k sc N W) {o e : Expr} {mo : Rho → Mo D} {name : Str} {apos cpos : Pos} {TT id : String} {kd : D → Hv → Option Unit} {f : D → List D → Mo D} (pa : PlainAttrs TT) (slot : Slot TT name id) (hty : typeOf (.builtin id) = pure (.type "method_descriptor"))
    (hm : MtR X id (rMm (kw X cl ex) f)) (hk : ∀ μ H η d x u, Wd (kw X cl ex) μ H η → RV (kw X cl ex) μ H d x → kd d η = some u → tyV X.K TT x H) (hb : baseOk o = true) (hl : (apos.endLine == cpos.line) = true) (hs : noStar e = true) (ho : PE X o (tE (kw X cl ex) W mo)) {ms : Rho → Mo (List D)} (he : PA X [e] (tA (kw X cl ex) W ms)) :
    PE X (.Call (.Attribute o name apos) [e] [] cpos) (tE (kw X cl ex) W (fun ρ => (mo ρ).bind fun x => (lookM (kd x)).bind fun _ => (ms ρ).bind fun ds => f x ds)) :=
  impE (pe_bm pa slot hty hm ho he (base_of hb _ _ _) (few_of hs) hl (star_cons hs _ _) rfl) fun σ H Q h => conv_M hk h
theorem Good.m0 (G : Good X cl ex T c k sc N W) {o : Expr} {mo : Rho → Mo D} {name : Str} {apos cpos : Pos} {TT id : String} {kd : D → Hv → Option Unit} {f : D → List D → Mo D} (pa : PlainAttrs TT) (slot : Slot TT name id) (hty : typeOf (.builtin id) = pure (.type "method_descriptor"))
    (hm : MtR X id (rMm (kw X cl ex) f)) (hk : ∀ μ H η d x u, Wd (kw X cl ex) μ H η → RV (kw X cl ex) μ H d x → kd d η = some u → tyV X.K TT x H) (hb : baseOk o = true) (hl : (apos.endLine == cpos.line) = true) (ho : PE X o (tE (kw X cl ex) W mo)) :
    PE X (.Call (.Attribute o name apos) [] [] cpos) (tE (kw X cl ex) W (fun ρ => (mo ρ).bind fun x => (lookM (kd x)).bind fun _ => (Mo.pure []).bind fun ds => f x ds)) :=
  impE (pe_bm0 pa slot hty hm ho (base_of hb _ _ _) hl) fun σ H Q h => conv_M0 hk h
end
end MIS

set_option Elab.async false
set_option linter.all false
set_option maxRecDepth 100000
set_option maxHeartbeats 2000000
/-! MiS11: targets, comprehensions. -/
namespace MIS
open PySem PySem.Spec PyProof.Rows L2 MI
section
variable {K : KW} {μ μ1 : List Addr} {H H1 : Hp} {η : Hv} {ρ ρ1 : Rho} {σ : L2.St}
def gT (F : PySem.W.Frag) : Tgt → TG
  | .one i => gName i
  | .two i j => gTup F 2 (gCons (gName i) (gCons (gName j) gNil))
def vsT : Tgt → List Nat
  | .one i => [i]
  | .two i j => [i, j]
theorem gT_ok {t : Tgt} {d : D} {x : V} {Q : L2.St → Hp → Prop} (hcl : K.cl = none) (re : RE K μ H ρ σ) (rd : RV K μ H d x) (h : setT ρ t d = some ρ1) (q : ∀ σ1, RE K μ H ρ1 σ1 → (wipe σ1 (vsT t) = wipe σ (vsT t)) → Q σ1 H) : gT K.K t x σ H Q := by
  cases t with
  | one i =>
    cases h
    exact q _ (re.set i rd (ncl hcl i)) (by simp [vsT, wipe])
  | two i j =>
    unfold setT at h
    split at h
    · rename_i e; cases e
    · rename_i i' j' a b e
      cases e
      cases h
      obtain ⟨p, vs, rfl, hs, rs⟩ := rd
      obtain ⟨va, vb, rfl, ra, rb⟩ := rs.two_inv
      refine ⟨p, _, rfl, hs, rfl, va, [vb], rfl, vb, [], rfl, rfl, q _ ((re.set i ra (ncl hcl i)).set j rb (ncl hcl j)) ?_⟩
      simp only [vsT, wipe]
      apply List.ext_getElem?
      intro n
      simp only [List.getElem?_set, List.length_set]
      by_cases h1 : i = n
      · simp [h1]
      · by_cases h2 : j = n
        · simp [h1, h2]
        · simp [h1, h2]
    · cases h
theorem RE.wipeT (re : RE K μ H ρ σ) (t : Tgt) : RE K μ H (MI.wipeT ρ t) (wipe σ (vsT t)) := by
  cases t with
  | one i => exact re.wipe1 i
  | two i j => exact (re.wipe1 j).wipe1 i
/-- a tracked list beside MI's heap -/
theorem keep_side {dd : Addr} {vs : List V} {o : HO} (hD : H dd = some (.lst vs)) {a : Addr} {ws : List V} (h : SqT K.K H a ws) : SqT K.K (upd H dd o) a ws := by
  rcases h with h | h
  · refine .inl ?_
    rcases h with h | ⟨ob, h⟩
    · exact .inl (by rw [upd_ne (ne_of h hD fun z => (nomatch z))]; exact h)
    · exact .inr ⟨ob, by rw [upd_ne (ne_of h hD fun z => (nomatch z))]; exact h⟩
  · exact .inr h
theorem keep_sideL {dd : Addr} {vs : List V} {o : HO} (hD : H dd = some (.lst vs)) {a : Addr} {ws : List V} (h : SqI K.K H a ws) : SqI K.K (upd H dd o) a ws :=
  h.imp (fun ⟨ob, h⟩ => ⟨ob, by rw [upd_ne (ne_of h hD fun z => (nomatch z))]; exact h⟩) id
theorem aft_side {dd : Addr} {vs : List V} {o : HO} (hD : H dd = some (.lst vs)) (hn : dd ∉ μ) : ∀ {μ0 : List Addr} {H0 : Hp}, H0 dd = none → Aft K μ0 H0 μ H → Aft K μ0 H0 μ (upd H dd o) := fun {μ0 H0} h0 af =>
  ⟨af.pre, fun a ws h => keep_side hD (af.keep a ws h), fun a ws h => keep_sideL hD (af.keepL a ws h), fun a x h n => by
    obtain ⟨h1, n1⟩ := af.frame a x h n
    exact ⟨by rw [upd_ne (ne_of_none h h0)]; exact h1, n1⟩⟩
theorem rv_side {dd : Addr} {vs : List V} {o : HO} (hD : H dd = some (.lst vs)) : Aft K μ H μ (upd H dd o) ∨ True := .inr trivial
mutual
theorem RV.side {dd : Addr} {vs : List V} {o : HO} (hD : H dd = some (.lst vs)) : ∀ (d : D) (v : V), RV K μ H d v → RV K μ (upd H dd o) d v
  | .non, _, h => h
  | .bl _, _, h => h
  | .int _, _, h => h
  | .str _, _, h => h
  | .tup xs, _, h => by
    obtain ⟨p, ws, e, q, r⟩ := h
    exact ⟨p, ws, e, keep_side hD q, RVs.side hD xs ws r⟩
  | .ref _, _, h => h
  | .exc _, _, h => h
  | .lst xs, _, h => by
    obtain ⟨p, ws, e, q, r⟩ := h
    exact ⟨p, ws, e, keep_sideL hD q, RVs.side hD xs ws r⟩
  | .sq _, _, h => h
  | .dic _ _, _, h => h
theorem RVs.side {dd : Addr} {vs : List V} {o : HO} (hD : H dd = some (.lst vs)) : ∀ (ds : List D) (ws : List V), RVs K μ H ds ws → RVs K μ (upd H dd o) ds ws
  | [], _, h => h
  | x :: xs, _, h => by
    obtain ⟨v, r, e, h1, h2⟩ := h
    exact ⟨v, r, e, RV.side hD x v h1, RVs.side hD xs r h2⟩
end
theorem OB.side {dd : Addr} {vs : List V} {o : HO} (hD : H dd = some (.lst vs)) {p : Addr} (hp : p ≠ dd) : ∀ {u : O}, OB K μ H p u → OB K μ (upd H dd o) p u
  | .lst ds, h => by
    obtain ⟨ws, q, r⟩ := h
    exact ⟨ws, by rw [upd_ne hp]; exact q, RVs.side hD ds ws r⟩
  | .frz ds, h => by
    obtain ⟨ob, ws, q, r⟩ := h
    exact ⟨ob, ws, by rw [upd_ne hp]; exact q, RVs.side hD ds ws r⟩
  | .dic _, h => h.elim
  | .set ds, h => by
    obtain ⟨ns, S, h1, h2, h3, h4⟩ := h
    exact ⟨ns, S, h1, h2, by rw [upd_ne hp]; exact h3, h4⟩
  | .ins _ _, h => h.elim
theorem Wd.side (w : Wd K μ H η) {dd : Addr} {vs : List V} {o : HO} (hD : H dd = some (.lst vs)) (hn : dd ∉ μ) : Wd K μ (upd H dd o) η :=
  ⟨w.len, w.nd, fun i a u h1 h2 => OB.side hD (fun e => hn (by rw [← e]; exact List.mem_of_getElem? h1)) (w.obj i a u h1 h2)⟩
/-- .. is taken into it -/
theorem Wd.adopt (w : Wd K μ H η) {dd : Addr} {vs : List V} {ds : List D} (hD : H dd = some (.lst vs)) (hn : dd ∉ μ) (rs : RVs K μ H ds vs) : Wd K (μ ++ [dd]) H (η ++ [.lst ds]) := by
  have mono : Aft K μ H (μ ++ [dd]) H ∨ True := .inr trivial
  have rvm : ∀ {ds : List D} {ws : List V}, RVs K μ H ds ws → RVs K (μ ++ [dd]) H ds ws := by
    have at' : ∀ {i : Nat} {x : Addr}, μ[i]? = some x → (μ ++ [dd])[i]? = some x := fun {i x} h => by
      rw [List.getElem?_append_left (List.getElem?_eq_some_iff.mp h).1]; exact h
    have key : ∀ (n : Nat), (∀ d : D, sizeOf d < n → ∀ v, RV K μ H d v → RV K (μ ++ [dd]) H d v) := by
      intro n
      induction n with
      | zero => intro d hd; omega
      | succ n ih =>
        intro d hd v h
        cases d with
        | tup xs =>
          obtain ⟨p, ws, e, q, r⟩ := h
          refine ⟨p, ws, e, q, ?_⟩
          have hx : ∀ (ys : List D) (us : List V), sizeOf ys < n → RVs K μ H ys us → RVs K (μ ++ [dd]) H ys us := by
            intro ys
            induction ys with
            | nil => intro us _ h; exact h
            | cons y ys ih2 =>
              intro us hs h
              obtain ⟨u, r', e', h1, h2⟩ := h
              simp only [List.cons.sizeOf_spec] at hs
              exact ⟨u, r', e', ih y (by omega) u h1, ih2 r' (by omega) h2⟩
          simp only [D.tup.sizeOf_spec] at hd
          exact hx xs ws (by omega) r
        | lst xs =>
          obtain ⟨p, ws, e, q, r⟩ := h
          refine ⟨p, ws, e, q, ?_⟩
          have hx : ∀ (ys : List D) (us : List V), sizeOf ys < n → RVs K μ H ys us → RVs K (μ ++ [dd]) H ys us := by
            intro ys
            induction ys with
            | nil => intro us _ h; exact h
            | cons y ys ih2 =>
              intro us hs h
              obtain ⟨u, r', e', h1, h2⟩ := h
              simp only [List.cons.sizeOf_spec] at hs
              exact ⟨u, r', e', ih y (by omega) u h1, ih2 r' (by omega) h2⟩
          simp only [D.lst.sizeOf_spec] at hd
          exact hx xs ws (by omega) r
        | ref i =>
          obtain ⟨p, e, q⟩ := h
          exact ⟨p, e, at' q⟩
        | _ => exact h
    intro ds
    induction ds with
    | nil => intro ws h; exact h
    | cons y ys ih =>
      intro ws h
      obtain ⟨u, r', e', h1, h2⟩ := h
      exact ⟨u, r', e', key (sizeOf y + 1) y (Nat.lt_succ_self _) u h1, ih h2⟩
  refine ⟨by simp [w.len], ?_, fun i a x h1 h2 => ?_⟩
  · rw [List.nodup_append]
    refine ⟨w.nd, by simp, fun a ha b hb e => ?_⟩
    have hb' : b = dd := by simpa using hb
    exact hn (by rw [← hb', ← e]; exact ha)
  · by_cases hi : i < μ.length
    · rw [List.getElem?_append_left hi] at h1
      rw [List.getElem?_append_left (by rw [← w.len]; exact hi)] at h2
      have q := w.obj i a x h1 h2
      cases x with
      | lst es => obtain ⟨ws, q1, q2⟩ := q; exact ⟨ws, q1, rvm q2⟩
      | frz es => obtain ⟨ob, ws, q1, q2⟩ := q; exact ⟨ob, ws, q1, rvm q2⟩
      | set es => exact q
      | dic es => exact q.elim
      | ins c es => exact q.elim
    · have hi' : μ.length ≤ i := Nat.le_of_not_lt hi
      rw [List.getElem?_append_right hi'] at h1
      rw [List.getElem?_append_right (by rw [← w.len]; exact hi')] at h2
      have e0 : i - μ.length = 0 := by
        rcases Nat.eq_zero_or_pos (i - μ.length) with z | z
        · exact z
        · rw [List.getElem?_eq_none (by simp; omega)] at h1; cases h1
      rw [e0] at h1
      rw [← w.len, e0] at h2
      cases h1; cases h2
      exact ⟨vs, hD, rvm rs⟩
theorem lcN_step {nx : Nxt} {t : Tgt} {cond : Rho → Mo Bool} {elt : Rho → Mo D} {n i : Nat} {acc : List D} :
    lcN nx t cond elt ρ (n + 1) i acc η = match nx i η with
    | none => .bad
    | some none => .ok acc η
    | some (some d) => match setT (MI.wipeT ρ t) t d with
      | none => .bad
      | some ρ1 => ((safeM (cond ρ1)).bind fun b => if b = true then (safeM (elt ρ1)).bind fun y => if acc.length < lim then lcN nx t cond elt ρ n (i + 1) (acc ++ [y]) else badM else lcN nx t cond elt ρ n (i + 1) acc) η := rfl
theorem safe_ok {α β : Type} {m : Mo α} {f : α → Mo β} : ((safeM m).bind f) η = match m η with
    | .ok a η1 => f a η1
    | _ => .bad := by
  unfold Mo.bind safeM
  cases m η <;> rfl
/-- no refusal -/
abbrev W0 : WS := fun _ _ _ => False
theorem conv_lc (hcl : K.cl = none) {W : WS} {mi : Rho → Mo Nxt} {cond : Rho → Mo Bool} {elt : Rho → Mo D} {t : Tgt} {Q : VK}
    (h : tE K W (fun ρ => (mi ρ).bind fun nx => (lcN nx t cond elt ρ WFu 0 []).bind fun acc => allocM (.lst acc)) σ H Q) :
    tLc (tI K W mi) (gT K.K t) (tT K W0 cond) (tE K W0 elt) (vsT t) σ H Q := by
  obtain ⟨μ, η, ρ, wd, re, e⟩ := h
  refine ⟨μ, η, ρ, wd, re, (EndG.bind e).imp fun nx η1 μ1 H1 af1 wd1 e2 J hJ => ?_⟩
  have re1 := re.mono af1
  intro dd hD
  have h1m : dd ∉ μ1 := fun hm => by
    obtain ⟨u, hu⟩ := wd1.mem hm
    rw [hD] at hu; cases hu
  refine ⟨fun i m H2 => ∃ μ2 η2 acc vs, Aft K μ1 H1 μ2 H2 ∧ Wd K μ2 H2 η2 ∧ H2 dd = some (.lst vs) ∧ RVs K μ2 H2 acc vs ∧ dd ∉ μ2 ∧
      EndG K (fun c H' => W c σ H') μ1 H1 (fun d _ μ' H' => ∀ v, RV K μ' H' d v → Q v H') (((lcN nx t cond elt ρ m i acc).bind fun acc => allocM (.lst acc)) η2),
    ⟨WFu, μ1, η1, [], [], aft_new hD, wd1.fresh hD, upd_same, rfl, h1m, e2⟩, ?_⟩
  rintro i m H2 ⟨μ2, η2, acc, vs, af2, wd2, hd2, rs2, hn2, e3⟩
  cases m with
  | zero => exact e3.elim
  | succ m =>
    have jr := hJ μ2 H2 η2 i af2 wd2
    unfold Mo.bind at e3
    rw [lcN_step] at e3
    cases hx : nx i η2 with
    | none => rw [hx] at e3; exact e3.elim
    | some o =>
      rw [hx] at e3 jr
      cases o with
      | none =>
        simp only at e3 jr
        refine .inl ⟨jr, ?_⟩
        have ad := wd2.adopt hd2 hn2 rs2
        have af3 : Aft K μ1 H1 (μ2 ++ [dd]) H2 := by
          obtain ⟨t', et⟩ := af2.pre
          refine ⟨⟨t' ++ [dd], by rw [et, List.append_assoc]⟩, af2.keep, af2.keepL, fun a x h n => ?_⟩
          obtain ⟨h1, n1⟩ := af2.frame a x h n
          refine ⟨h1, ?_⟩
          rw [List.mem_append, List.mem_singleton]
          rintro (z | z)
          · exact n1 z
          · exact ne_of_none h hD z
        refine e3 _ H2 af3 ad _ ⟨dd, rfl, ?_⟩
        rw [← wd2.len, List.getElem?_append_right (Nat.le_refl _), Nat.sub_self]
        rfl
      | some d =>
        simp only at e3 jr
        obtain ⟨jg, jy⟩ := jr
        cases hs : setT (MI.wipeT ρ t) t d with
        | none => rw [hs] at e3; exact e3.elim
        | some ρ1 =>
          rw [hs] at e3
          simp only at e3
          refine .inr ⟨jg, fun H' => ∃ μ2 η2 acc vs, Aft K μ1 H1 μ2 H' ∧ Wd K μ2 H' η2 ∧ H' dd = some (.lst vs) ∧ RVs K μ2 H' acc vs ∧ dd ∉ μ2 ∧
            EndG K (fun c H' => W c σ H') μ1 H1 (fun d _ μ' H' => ∀ v, RV K μ' H' d v → Q v H') (((lcN nx t cond elt ρ m (i + 1) acc).bind fun acc => allocM (.lst acc)) η2),
            fun H' q => ⟨m, Nat.lt_succ_self _, q⟩, fun x H' hy => ?_⟩
          obtain ⟨af3, wd3, rd3⟩ := jy x H' hy
          have fr3 := af3.frame dd _ hd2 hn2
          have a13 := af2.trans af3
          refine gT_ok hcl (((re1.mono a13)).wipeT t) rd3 hs fun σ2 re2 hw => ⟨?_, ?_⟩
          · rw [hw]
            cases t with
            | one i => simp [vsT, wipe]
            | two i j =>
              simp only [vsT, wipe]
              apply List.ext_getElem?
              intro n
              simp only [List.getElem?_set, List.length_set]
              by_cases h1 : i = n
              · simp [h1]
              · by_cases h2 : j = n <;> simp [h1, h2]
          · rw [safe_ok] at e3
            refine ⟨μ2, η2, ρ1, wd3, re2, ?_⟩
            cases hc : cond ρ1 η2 with
            | bad => rw [hc] at e3; exact e3.elim
            | ex c η3 => rw [hc] at e3; exact e3.elim
            | ok b η3 =>
              rw [hc] at e3
              intro μ3 H3 af4 wd4
              have fr4 := af4.frame dd _ fr3.1 fr3.2
              have a14 := a13.trans af4
              cases b with
              | false =>
                refine iteF ?_
                simp only [Bool.false_eq_true, if_false] at e3
                exact ⟨μ3, η3, acc, vs, a14, wd4, fr4.1, RVs.mono (af3.trans af4) acc vs rs2, fr4.2, e3⟩
              | true =>
                refine iteT ?_
                simp only [if_true] at e3
                rw [safe_ok] at e3
                refine ⟨μ3, η3, ρ1, wd4, re2.mono af4, ?_⟩
                cases he : elt ρ1 η3 with
                | bad => rw [he] at e3; exact e3.elim
                | ex c η4 => rw [he] at e3; exact e3.elim
                | ok y η4 =>
                  rw [he] at e3
                  simp only at e3
                  intro μ4 H4 af5 wd5 v rv
                  have fr5 := af5.frame dd _ fr4.1 fr4.2
                  have a15 := a14.trans af5
                  have rs5 := RVs.mono ((af3.trans af4).trans af5) acc vs rs2
                  by_cases hz : acc.length < lim
                  · rw [if_pos hz] at e3
                    refine ⟨vs, fr5.1, by rw [rs5.len, ← lim_eq]; exact hz, μ4, η4, acc ++ [y], vs ++ [v], aft_side fr5.1 fr5.2 hD a15, wd5.side fr5.1 fr5.2, upd_same, ?_, fr5.2, e3⟩
                    exact RVs.side fr5.1 _ _ (rs5.append (RVs.one rv))
                  · rw [if_neg hz] at e3; exact e3.elim
end
end MIS

set_option Elab.async false
set_option linter.all false
set_option maxRecDepth 100000
/-! MiSet: set(list of ints). -/
namespace MIS
open PySem PySem.Spec PyProof.Rows L2 MI
abbrev fsO (w : World) : Obj := { cls := .type "set", dict := none, data := .set #[] 0 (.fresh 0 0 (!w.params.followText "set-order")) }
abbrev fsH (w : World) (h : Heap) : Heap := h.push (fsO w)
section
variable {P : Program} {w : World} {A : Around} {E : Value → Shared → Prop} {s : Shared}
/-- what is there behind the filling -/
def Filled (w : World) (s : Shared) (ns : List Int) (h' : Heap) (c : Nat) : Prop :=
  SetR w h' s.heap.objs.size (fun j => decide (j ∈ ns)) c ∧ c ≤ ns.length ∧ ∀ b o, s.heap.get? b = some o → h'.get? b = some o
set_option maxHeartbeats 6000000 in
theorem set_listI {l : Addr} {its : Array Value} (ns : List Int) {Q : Value → Shared → Prop} (free : A.handled = none) (isl : s.heap.IsList l its) (hit : IntsAre its.toList ns) (few : ns.length + 1 < scanBound)
    (next : ∀ (h' : Heap) (tk c : Nat), Filled w s ns h' c → Q (.ref s.heap.objs.size) { s with heap := h', toks := tk }) :
    wpAny (model P w) A (call (.type "set") [.ref l]) Q E s := by
  have hsz : its.size = ns.length := by rw [← Array.length_toList, hit.length]
  obtain ⟨k0, k1, mro⟩ := F.called_set.mro
  have made := F.called_set.made
  have sub := F.called_set.sub
  have nt := F.called_set.notType
  have cc := F.called_set.canCreate
  have tc := F.typeCall_set_1 (.ref l)
  refine wpAny_call (codeAny_of_tree ?_)
  show wpAny _ _ (callAny (.type "set") _) _ _ _
  refine wpAny_pure ⟨Code.quiet_builtin _ (by decide +kernel), codeAny_builtin F.entry_type_call ?_⟩
  rw [Around.under_plain (weight_type_call_type "set" [.ref l] []) rfl]
  repeat (any_goals (first | assumption | wp_step))
  refine codeAny_mono (code_set_led1 (.ref l) (E := E) (Q₁ := fun v u => v = .ref s.heap.objs.size ∧ u = { s with heap := fsH w s.heap }) ⟨rfl, rfl⟩) fun res u q => ?_
  rcases res with e | fl
  · exact q
  rcases fl with _ | _ | obj | _ <;> first | exact q.elim | skip
  obtain ⟨rfl, rfl⟩ := q
  have here : (fsH w s.heap).get? s.heap.objs.size = some (fsO w) := Heap.get?_push_size _ rfl
  have ty : Shared.TypeIs { s with heap := fsH w s.heap } (.ref s.heap.objs.size) "set" := ⟨_, here, rfl⟩
  have look := F.called_set.init.lookup
  have bnd := F.called_set.init.bind (.ref s.heap.objs.size)
  repeat (any_goals (first | assumption | wp_step))
  refine codeAny_mono (codeAny_call_builtin (R := wants (fun v u => v = .none ∧ ∃ h' tk c, u = { s with heap := h', toks := tk } ∧ Filled w s ns h' c) E) F.called_set.init.plain F.entry_set_init (check_set_init_1 ty ?_)) fun res2 u2 q2 => ?_
  rotate_left
  · rcases res2 with e | fl2
    · exact q2
    rcases fl2 with _ | _ | _ | _ <;> first | exact q2.elim | skip
    obtain ⟨rfl, h', tk, c, rfl, fl⟩ := q2
    repeat (any_goals (first | assumption | wp_step))
    exact next _ _ _ fl
  obtain ⟨lo, lget, lcls, ln, ldat⟩ := isl
  rcases lo with ⟨_, ldic, _, lsl⟩
  simp only at lcls ldat
  subst lcls ldat
  have lget2 : (fsH w s.heap).get? l = some { cls := .type "list", dict := ldic, data := .seq its ln, slots := lsl } := Heap.get?_push_of_some _ lget
  have il : (fsH w s.heap).IsList l its := ⟨_, lget2, rfl, ln, rfl⟩
  have n1 := F.sub_list_set
  have n2 := F.sub_list_frozenset
  have n3 : (Value.type "list" == Value.type "dict") = false := by decide
  have llt : l < s.heap.objs.size := Heap.lt_size lget
  have psz : (fsH w s.heap).objs.size = s.heap.objs.size + 1 := Heap.size_push ..
  unfold Builtin.«set.__init__» noKeywords Builtin.Frozenset.updateFrom
  generalize it0 : pyIter = IT
  wp_walk
  subst it0
  refine wpAny_pyIter_list il (wpAny_bind (wpAny_runValue ?_))
  have free3 : A.in1.in1.in1.handled = none := by simp [free]
  have nl : l ≠ (fsH w s.heap).objs.size := by rw [psz]; exact Nat.ne_of_lt (Nat.lt_succ_of_lt llt)
  refine set_update_ints ((Walks.list free3 _ l nl its).toS) s.heap.objs.size (fun z => ?_) ns hsz few (fun i v hv => ?_) its.size 0 _ (Nat.sub_zero _) (Nat.zero_le _) ⟨⟨_, Heap.get?_push_size _ rfl, rfl, rfl⟩, il.push _⟩
    ⟨0, Nat.le_refl 0, setR_new_at (Heap.get?_push_of_some _ here)⟩ fun u c mv hc hS => ?_
  · rw [psz] at z
    simp only [List.mem_cons, List.not_mem_nil, or_false] at z
    exact z.elim (Nat.ne_of_lt (Nat.lt_succ_self _)) (Nat.ne_of_gt llt)
  · have hi : i < ns.length := by rw [← hsz]; exact (Array.getElem?_eq_some_iff.mp hv).1
    obtain ⟨t, e⟩ := hit.int_at i v (by rw [Array.getElem?_toList]; exact hv)
    exact ⟨ns[i], t, List.getElem?_eq_getElem hi, by rw [e, List.getD_eq_getElem?_getD, List.getElem?_eq_getElem hi]; rfl⟩
  · obtain ⟨h', g2, d2, tk, os2⟩ := u
    cases (show g2 = s.gens from mv.gens)
    cases (show d2 = s.drawn from mv.drawn)
    cases (show os2 = s.os from mv.os)
    rw [hsz] at hc
    show wpAny _ _ _ _ _ _
    refine wpAny_pure ?_
    show wpAny _ _ (ret Value.none) _ _ _
    refine wpAny_pure ⟨rfl, h', tk, c, rfl, hS, hc, fun b o e => mv.heap b o (fun z => ?_) (Heap.get?_push_of_some _ (Heap.get?_push_of_some _ e))⟩
    have bl := Heap.lt_size e
    rw [psz] at z
    simp only [List.mem_cons, List.not_mem_nil, or_false] at z
    exact z.elim (Nat.ne_of_lt bl) (Nat.ne_of_lt (Nat.lt_succ_of_lt bl))
end
section
variable {X : Cx} {cl : HxC} {ex : Nat → Addr}
theorem uniq_nodup : ∀ (xs acc : List Int), acc.Nodup → (xs.foldl (fun acc x => if x ∈ acc then acc else acc ++ [x]) acc).Nodup ∧ ∀ k, k ∈ xs.foldl (fun acc x => if x ∈ acc then acc else acc ++ [x]) acc ↔ k ∈ acc ∨ k ∈ xs
  | [], acc, h => ⟨h, fun k => by simp⟩
  | x :: xs, acc, h => by
    rw [List.foldl_cons]
    by_cases hx : x ∈ acc
    · rw [if_pos hx]
      obtain ⟨h1, h2⟩ := uniq_nodup xs acc h
      refine ⟨h1, fun k => ?_⟩
      rw [h2, List.mem_cons]
      constructor
      · rintro (z | z)
        · exact .inl z
        · exact .inr (.inr z)
      · rintro (z | z | z)
        · exact .inl z
        · exact .inl (by rw [z]; exact hx)
        · exact .inr z
    · rw [if_neg hx]
      have hn : (acc ++ [x]).Nodup := by
        rw [List.nodup_append]
        refine ⟨h, by simp, fun a ha b hb e => hx ?_⟩
        rw [List.mem_singleton.mp hb] at e
        rw [← e]; exact ha
      obtain ⟨h1, h2⟩ := uniq_nodup xs (acc ++ [x]) hn
      refine ⟨h1, fun k => ?_⟩
      rw [h2, List.mem_append, List.mem_singleton, List.mem_cons, or_assoc]
theorem cM_set (hc : X.calm = true) : CallR X (.type "set") (rB (kw X cl ex) (bltM .set)) := by
  intro pins s σ H xs us Q I r ⟨W, μ, η, ds, wd, rd, h⟩
  match ds, rd, h with
  | [], _, h => exact h.elim
  | _ :: _ :: _, _, h => exact h.elim
  | [d], rd, h =>
    obtain ⟨x, rfl, rx⟩ := rd.one_inv
    simp only [bltM] at h
    cases e1 : MI.getL η d with
    | none => rw [e1] at h; exact h.elim
    | some ys =>
      rw [e1] at h
      simp only [Option.bind_some] at h
      cases e2 : intsOf ys with
      | none => rw [e2] at h; exact h.elim
      | some ns =>
        rw [e2] at h
        simp only at h
        split at h
        · rename_i few
          have em := intsOf_map e2
          subst em
          obtain ⟨a, vs, rfl, hs, rs⟩ := wd.getL rx e1
          rw [rs.ints] at hs
          obtain ⟨its, rv, hl, hz⟩ := I.list hs
          rw [Vals.ref1 r]
          have hn : H s.heap.objs.size = none := I.hok.fresh (Nat.le_refl _)
          refine set_listI (P := X.prog) (w := X.w) ns (I.ok.hd hc) hl.isList rv.ints (by unfold scanBound; omega) fun h' tk c fl => ?_
          obtain ⟨fS, _, keep⟩ := fl
          obtain ⟨u1, u2⟩ := uniq_nodup ns [] List.nodup_nil
          have hc : c = (uniq ns).length := by
            obtain ⟨o, es, ep, t, _, _, _, _, q1, q2, _, _, q3, _⟩ := fS
            rw [← q3, ← Array.length_toList, ← List.length_map (f := keyOf)]
            refine ((List.perm_ext_iff_of_nodup q1 u1).mpr fun k => ?_).length_eq
            rw [← q2 k, u2]
            simp
          have fS2 : SetR X.w h' s.heap.objs.size (fun j => decide (j ∈ uniq ns)) (uniq ns).length := by
            rw [← hc]
            refine fS.congr fun k => ?_
            have := u2 k
            simp only [List.not_mem_nil, false_or] at this
            exact decide_eq_decide.mpr this
          refine ⟨.ref s.heap.objs.size, upd H s.heap.objs.size (SetO X.w s.heap.objs.size (fun j => decide (j ∈ uniq ns)) (uniq ns).length), I.laid (t' := tk) keep (Nat.le_refl _) (setO_new fS2), rfl, ?_⟩
          exact EV.new h wd hn ⟨uniq ns, _, rfl, u1, upd_same, fun k => rfl⟩
        · exact h.elim
end
end MIS

set_option Elab.async false
set_option linter.all false
set_option maxRecDepth 100000
/-! MiRep: repr of ints, truths, None, plain texts, tuples and lists of such. -/
namespace MIS
open PySem PySem.Spec PyProof.Rows L2 MI
abbrev SL (l : List Nat) : Str := ⟨l.toArray⟩
theorem sl_app (a b : List Nat) : SL a ++ SL b = SL (a ++ b) := by
  show (⟨a.toArray ++ b.toArray⟩ : Str) = ⟨(a ++ b).toArray⟩
  simp
theorem sl_join : ∀ xs : List (List Nat), Str.join (SL [44, 32]) (xs.map SL) = SL (joinS [44, 32] xs)
  | [] => rfl
  | [x] => rfl
  | x :: y :: r => by
    show SL x ++ SL [44, 32] ++ Str.join (SL [44, 32]) ((y :: r).map SL) = _
    rw [sl_join (y :: r), sl_app, sl_app]
    rfl
theorem sl_from : ∀ (xs : List (List Nat)) (k : Nat) (acc : List Nat), textFrom (k + 1) (SL acc) (xs.map SL) = SL (acc ++ (xs.map fun x => [44, 32] ++ x).flatten)
  | [], k, acc => by simp [textFrom]
  | x :: xs, k, acc => by
    rw [List.map_cons, textFrom]
    have e : (if k + 1 > 0 then ", " else "" : String) = ", " := if_pos (by omega)
    rw [e]
    have e2 : SL acc ++ (", " : Str) ++ SL x = SL (acc ++ [44, 32] ++ x) := by
      show SL acc ++ SL [44, 32] ++ SL x = _
      rw [sl_app, sl_app]
    rw [e2, sl_from xs (k + 1)]
    simp
theorem join_flat : ∀ (x : List Nat) (xs : List (List Nat)), joinS [44, 32] (x :: xs) = x ++ (xs.map fun x => [44, 32] ++ x).flatten
  | x, [] => by simp [joinS]
  | x, y :: ys => by
    have ih := join_flat y ys
    show x ++ [44, 32] ++ joinS [44, 32] (y :: ys) = _
    rw [ih]
    simp
theorem sl_list (xs : List (List Nat)) : listText (xs.map SL) = SL (91 :: joinS [44, 32] xs ++ [93]) := by
  unfold listText
  cases xs with
  | nil => rfl
  | cons x r =>
    rw [List.map_cons, textFrom]
    have e2 : ("[" : Str) ++ (if (0 : Nat) > 0 then ", " else "" : String) ++ SL x = SL (91 :: x) := by
      show SL [91] ++ SL [] ++ SL x = _
      rw [sl_app, sl_app]; rfl
    rw [e2, sl_from r 0, join_flat]
    show SL _ ++ SL [93] = _
    rw [sl_app]
    simp
theorem sl_tuple (xs : List (List Nat)) : tupleText (xs.map SL) = SL (40 :: joinS [44, 32] xs ++ (if xs.length = 1 then [44, 41] else [41])) := by
  unfold tupleText
  have e : Str.join (", " : Str) (xs.map SL) = SL (joinS [44, 32] xs) := sl_join xs
  rw [e, List.length_map]
  by_cases h : xs.length = 1
  · have q : ((if (xs.length == 1) = true then ",)" else ")" : String)) = ",)" := by rw [h]; rfl
    rw [q, if_pos h]
    show SL [40] ++ SL _ ++ SL [44, 41] = _
    rw [sl_app, sl_app]; rfl
  · have q : ((if (xs.length == 1) = true then ",)" else ")" : String)) = ")" := by
      have : (xs.length == 1) = false := by simpa using h
      rw [this]; rfl
    rw [q, if_neg h]
    show SL [40] ++ SL _ ++ SL [41] = _
    rw [sl_app, sl_app]; rfl
theorem plain_char : ∀ c : Nat, plainC c = true → Builtin.Str.reprChar 39 c = [c] := by
  intro c h
  have hc : c < 127 := by
    unfold plainC at h
    simp only [Bool.and_eq_true, decide_eq_true_eq] at h
    exact h.1.1.2
  have all : ∀ c : Fin 127, plainC c.val = true → Builtin.Str.reprChar 39 c.val = [c.val] := by decide +kernel
  exact all ⟨c, hc⟩ h
theorem sl_str (s : List Nat) (h : s.all plainC = true) : reprText (SL s) = SL (39 :: s ++ [39]) := by
  have hq : reprQuote (SL s) = 39 := by
    unfold reprQuote
    have : (SL s).cps.contains 39 = false := by
      show s.toArray.contains 39 = false
      rw [Bool.eq_false_iff]
      intro z
      have hm : 39 ∈ s := by simpa using z
      have := List.all_eq_true.mp h 39 hm
      revert this; decide
    rw [this]; rfl
  unfold reprText
  rw [hq]
  have f : ∀ (l : List Nat) (acc : Array Nat), l.all plainC = true → l.foldl (fun out c => out ++ (Builtin.Str.reprChar 39 c).toArray) acc = acc ++ l.toArray := by
    intro l
    induction l with
    | nil => intro acc _; simp
    | cons c l ih =>
      intro acc h
      rw [List.all_cons, Bool.and_eq_true] at h
      rw [List.foldl_cons, plain_char c h.1, ih _ h.2]
      simp
  have g : (SL s).cps.foldl (fun out c => out ++ (Builtin.Str.reprChar 39 c).toArray) #[39] = #[39] ++ s.toArray := by
    show s.toArray.foldl _ _ = _
    rw [← Array.foldl_toList]
    exact f s #[39] h
  rw [g]
  show (⟨_⟩ : Str) = ⟨_⟩
  congr 1
  simp
mutual
theorem rep_shown : ∀ d : D, okRep d = true → PyData.shown (py d) = SL (D.rep d)
  | .non, _ => rfl
  | .bl b, _ => by cases b <;> rfl
  | .int i, _ => by
    show Str.ofString (toString i) = _
    rw [Str.ofString_eq_toList]; rfl
  | .str s, h => sl_str s h
  | .tup xs, h => by
    show tupleText (PyData.shownAll (pys xs)) = _
    rw [reps_shown xs h, sl_tuple, reps_len]; rfl
  | .sq xs, h => by
    show listText (PyData.shownAll (pys xs)) = _
    rw [reps_shown xs h, sl_list]; rfl
  | .ref _, h => by cases h
  | .exc _, h => by cases h
  | .lst _, h => by cases h
  | .dic _ _, h => by cases h
theorem reps_shown : ∀ ds : List D, okReps ds = true → PyData.shownAll (pys ds) = (D.reps ds).map SL
  | [], _ => rfl
  | d :: ds, h => by
    rw [okReps, Bool.and_eq_true] at h
    show PyData.shown (py d) :: PyData.shownAll (pys ds) = _
    rw [rep_shown d h.1, reps_shown ds h.2]; rfl
theorem reps_len : ∀ ds : List D, (D.reps ds).length = ds.length
  | [] => rfl
  | d :: ds => by rw [D.reps, List.length_cons, List.length_cons, reps_len ds]
end
mutual
theorem rep_able : ∀ d : D, okRep d = true → PyData.showable (py d) = true
  | .non, _ => rfl
  | .bl b, _ => rfl
  | .int i, h => by
    have : i.natAbs.log2 < 1900 := of_decide_eq_true h
    show decide (i.natAbs.log2 < 1920) = true
    exact decide_eq_true (by omega)
  | .str s, h => rfl
  | .tup xs, h => reps_able xs h
  | .sq xs, h => reps_able xs h
  | .ref _, h => by cases h
  | .exc _, h => by cases h
  | .lst _, h => by cases h
  | .dic _ _, h => by cases h
theorem reps_able : ∀ ds : List D, okReps ds = true → PyData.showableAll (pys ds) = true
  | [], _ => rfl
  | d :: ds, h => by
    rw [okReps, Bool.and_eq_true] at h
    show (PyData.showable (py d) && PyData.showableAll (pys ds)) = true
    rw [rep_able d h.1, reps_able ds h.2]; rfl
end
section
variable {X : Cx} {cl : HxC} {ex : Nat → Addr}
theorem cM_repr (hg : X.A.guards = some []) (hu : X.A.units + 64 < cLine) : CallR X (.builtin "repr") (rB (kw X cl ex) (bltM .repr)) := by
  intro pins s σ H xs us Q I r ⟨W, μ, η, ds, wd, rd, h⟩
  match ds, rd, h with
  | [], _, h => exact h.elim
  | _ :: _ :: _, _, h => exact h.elim
  | [d], rd, h =>
    obtain ⟨x, rfl, rx⟩ := rd.one_inv
    simp only [bltM] at h
    obtain ⟨c, hc, q⟩ := h.look wd
    split at hc
    rotate_left
    · cases hc
    rename_i hk
    cases e : MI.deep η d with
    | none => rw [e] at hc; cases hc
    | some a =>
      rw [e] at hc
      simp only [Option.bind_some] at hc
      split at hc
      rotate_left
      · cases hc
      rename_i ok
      cases hc
      unfold repOk at ok
      simp only [Bool.and_eq_true, decide_eq_true_eq] at ok
      obtain ⟨⟨o1, o2⟩, o3⟩ := ok
      have dp := deep_dp wd e rx
      have fl := shp_fine o1
      have hd := PyData.hasDict_of_canLay (py a) (fine_lay a fl)
      have dep : (py a).depth ≤ 60 := by
        rw [dep_py]
        unfold shp at o1
        rw [Bool.and_eq_true] at o1
        exact of_decide_eq_true o1.2
      have sh := rep_shown a o2
      have sz : (PyData.shown (py a)).length ≤ sizeLine := by
        rw [sh, ← lim_eq]
        show (D.rep a).toArray.size ≤ lim
        rw [List.size_toArray]; exact o3
      have fin := q (.str (SL (D.rep a))) rfl
      obtain ⟨u, rfl, r1⟩ := vals1 r
      obtain ⟨as, rds⟩ := Dp.reads I (py a) x _ dp r1
      have byRef : (∃ b, x = .ref b) → wpAny (model X.prog X.w) X.A (call (.builtin "repr") [u]) (EP X pins σ Q) X.xe s := by
        rintro ⟨b, rfl⟩
        cases r1
        refine repr_of_reads' rds (rep_able a o2) (fun z => by rw [hd] at z; cases z) hg (by omega) (fun _ _ z => z) (fun h' u tk kp => ?_) sz
        rw [sh]
        exact ⟨.str (SL (D.rep a)), H, I.kept (t' := tk) kp, ⟨u, rfl⟩, fin⟩
      cases d with
      | int i =>
        cases rx
        obtain ⟨t, rfl⟩ := r1
        cases e
        have hz : i.natAbs.log2 < 1900 := of_decide_eq_true o2
        refine PySem.P.repr_of_int (by omega) ⟨.str _, H, I.tok _, ⟨_, rfl⟩, ?_⟩
        rw [Str.ofString_eq_toList]
        exact fin
      | tup ts =>
        obtain ⟨b, _, z, _⟩ := rx
        exact byRef ⟨b, z⟩
      | ref j =>
        obtain ⟨b, z, _⟩ := rx
        exact byRef ⟨b, z⟩
      | _ => cases hk
end
end MIS

set_option Elab.async false
set_option linter.all false
set_option maxRecDepth 100000
set_option maxHeartbeats 2000000
/-! MiS8: expressions: what the checker takes runs as MI does. -/
namespace MIS
open PySem PySem.Spec PyProof.Rows L2 MI
section
variable {X : Cx} {cl : HxC} {ex : Nat → Addr} {T : Tab} {c c' : ClM} {k : Nat} {sc : Scope} {N : List Str} {W : WS}
/-- a call of an own def -/
theorem conv_call {K : KW} {ms : Rho → Mo (List D)} {f : List D → Mo D} {ar : Nat} {σ : L2.St} {H : Hp} {Q : VK} (hz : ∀ ρ η ds η', ms ρ η = .ok ds η' → ds.length = ar)
    (h : tE K W (fun ρ => (ms ρ).bind fun ds => f ds) σ H Q) : tCallS (spF K ar f) (fun σ => WE (wx K.ex W) σ) (tA K W ms) σ H Q := by
  obtain ⟨μ, η, ρ, wd, re, e⟩ := h
  refine ⟨μ, η, ρ, wd, re, ?_⟩
  have e1 := EndG.bind e
  cases r : ms ρ η with
  | bad => rw [r] at e1; exact e1.elim
  | ex c η1 => rw [r] at e1; exact e1
  | ok ds η1 =>
    rw [r] at e1
    intro μ1 H1 af wd1 vs rs
    refine ⟨by rw [rs.len]; exact hz _ _ _ _ r, μ1, η1, ds, wd1, rs, ?_⟩
    have e2 : EndG K (fun c H' => W c σ H') μ1 H1 (fun d _ μ' H' => ∀ v, RV K μ' H' d v → Q v H') (f ds η1) := e1 μ1 H1 af wd1
    cases q : f ds η1 with
    | bad => rw [q] at e2; exact e2
    | ok d η2 => rw [q] at e2; exact e2
    | ex j η2 => rw [q] at e2; exact fun μ' H' a w => ⟨j, rfl, rfl, e2 μ' H' a w⟩
theorem Good.call (G : Good X cl ex T c k sc N W) (hcool : T.cool = true) {x : Str} {f : String} {ar : Nat} {e : Expr} {es : List Expr} {ms : Rho → Mo (List D)} {p pos : Pos} (hx : glB sc x = true) (hn : nmB x = true) (hf : (x, f, ar) ∈ T.fns)
    (hz : ∀ ρ η ds η', ms ρ η = .ok ds η' → ds.length = ar) (ha : PA X (e :: es) (tA (kw X cl ex) W ms)) (h1 : starEach (e :: es) X.env = (false, eval e X.env) :: starEach es X.env) (h2 : (backTo pos (starEach es X.env)).any (·.1) = false) :
    PE X (.Call (.Name x p) (e :: es) [] pos) (tE (kw X cl ex) W (fun ρ => (ms ρ).bind fun ds => c f ds)) := by
  obtain ⟨a, hm, hk, fdat, ps, hl, F, B⟩ := (G.fs.fn _ hf).g
  exact impE (pe_callG F (G.roomC hcool) G.gds (G.gl hx) hm hk B (fun σ => passAt G.tk σ) ha (nm_dbg hn) h1 h2) fun σ H Q h => conv_call hz h
theorem conv_hot {K : KW} {c : ClM} {f : String} {i ar : Nat} {ms : List ME} {a : Addr} {j : Nat} {oe : Obj} {c' : ClM} {σ : L2.St} {H : Hp} {Q : VK} (hcl : K.cl = some (i, a, j)) (hz : Zc (.ref (K.ex j)) none oe) (hf : ∃ z, oe.data = .fields z) (har : ms.length + 1 = ar)
    (h : tE K W (fun ρ => (evEs c c' (.loc i :: ms) ρ).bind fun ds => c f ds) σ H Q) (hW : ∀ k σ H, ¬ W k σ H) : tCallE (a, oe) (spE { K with cl := none } ar (c f)) (fun σ => WE (wx K.ex W) σ) (tCons (tVar i) (tA K W (evEs c c' ms))) σ H Q := by
  obtain ⟨μ, η, ρ, wd, re, e⟩ := h
  have e0 : EndG K (fun c H' => W c σ H') μ H (fun d _ μ' H' => ∀ v, RV K μ' H' d v → Q v H') (((locM ρ i).bind fun d => (evEs c c' ms ρ).bind fun ds => c f (d :: ds)) η) := by
    have eq : ((evEs c c' (.loc i :: ms) ρ).bind fun ds => c f ds) = ((locM ρ i).bind fun d => (evEs c c' ms ρ).bind fun ds => c f (d :: ds)) := by
      funext η
      rw [evEs, fE_loc]
      unfold Mo.bind Mo.pure
      cases hl : locM ρ i η with
      | ok d η1 =>
        simp only
        cases h2 : evEs c c' ms ρ η1 <;> simp only [hl, h2]
      | ex _ _ => simp only [hl]
      | bad => simp only [hl]
    rw [← eq]; exact e
  unfold locM at e0
  cases g : ρ[i]? with
  | none => simp only [g] at e0; exact e0.elim
  | some o =>
    cases o with
    | none => simp only [g] at e0; exact e0.elim
    | some d =>
      simp only [g] at e0
      obtain ⟨v, h1, h2 | ⟨a', j', z1, rfl, rfl⟩⟩ := re.get i d g
      · exact absurd hcl (h2.1 a j)
      · rw [hcl] at z1
        cases z1
        have e1 := EndG.pure wd (EndG.bind e0)
        refine ⟨.ref a, h1, μ, η, ρ, wd, re, ?_⟩
        have e2 := EndG.bind e1
        cases r : evEs c c' ms ρ η with
        | bad => rw [r] at e2; exact e2.elim
        | ex c1 η1 => rw [r] at e2; exact e2
        | ok ds η1 =>
          rw [r] at e2
          intro μ1 H1 af wd1 vs rs
          have e3 : EndG K (fun c H' => W c σ H') μ1 H1 (fun d _ μ' H' => ∀ v, RV K μ' H' d v → Q v H') (c f (.exc j :: ds) η1) := e2 μ1 H1 af wd1
          refine ⟨by rw [List.length_cons, rs.len, evEs_len _ _ _ _ _ r]; exact har, j, μ1, η1, ds, vs, rfl, hz, hf, wd1.recl, RVs.recl _ _ rs, ?_⟩
          cases q : c f (.exc j :: ds) η1 with
          | bad => rw [q] at e3; exact e3.elim
          | ex k2 η2 =>
            rw [q] at e3
            exact fun μ' H' x y => hW _ _ _ (e3 μ' H' (Aft.recl (K := { K with cl := none }) (cl := K.cl) x) (Wd.recl (K := { K with cl := none }) (cl := K.cl) y))
          | ok d η2 =>
            rw [q] at e3
            have e4 : EndG K (fun _ _ => False) μ1 H1 (fun d _ μ' H' => ∀ v, RV K μ' H' d v → Q v H') (Rs.ok d η2) := e3
            exact EndG.recl e4 fun d2 η3 μ3 H3 af3 wd3 z v rv => z v (RV.recl (K := { K with cl := none }) (cl := K.cl) d2 v rv)
theorem Good.hot (G : Good X cl ex T c k sc N W) {x : Str} {f : String} {i : Nat} {ms : List ME} {e : Expr} {es : List Expr} {p pos : Pos} (hx : glB sc x = true) (hn : nmB x = true) (hf : (x, f, (ME.loc i :: ms).length) ∈ T.hfns) (hi : T.es = some i)
    (ha : PA X (e :: es) (tCons (tVar i) (tA (kw X cl ex) W (evEs c c' ms)))) (h1 : starEach (e :: es) X.env = (false, eval e X.env) :: starEach es X.env) (h2 : (backTo pos (starEach es X.env)).any (·.1) = false) :
    PE X (.Call (.Name x p) (e :: es) [] pos) (tE (kw X cl ex) W (fun ρ => (evEs c c' (.loc i :: ms) ρ).bind fun ds => c f ds)) := by
  obtain ⟨a, j, oe, ecl, hpn, hz, hfl⟩ := G.hx i hi
  obtain ⟨fa, hm, hk, fdat, ps, hl, F, B⟩ := (G.fs.hf _ hf).g
  exact impE (pe_callE (p := (a, oe)) F G.room G.gds hpn (G.gl hx) hm hk B (fun σ => passAt G.tk σ) ha (nm_dbg hn) h1 h2) fun σ H Q h => conv_hot (K := kw X cl ex) ecl hz hfl rfl h (G.dry ⟨i, hi⟩)
theorem Good.ise (G : Good X cl ex T c k sc N W) {y t : Str} {i kk : Nat} {p p2 p3 pos : Pos} (h1 : glB sc "isinstance" = true) (h2 : ("isinstance" : Str) ∈ T.blts) (hv : (decide (N[i]? = some y) && visB sc y && nmB y) = true) (hi : T.es = some i) (ht : glB sc t = true) (hn : nmB t = true) (hne : T.excs ≠ [])
    (hh : (T.excs.contains (t, kk) || (t == "ValueError" && T.blts.contains t && kk == 10)) = true) : PE X (.Call (.Name "isinstance" p) [.Name y p2, .Name t p3] [] pos) (tE (kw X cl ex) W (evE c c' (.ise (.loc i) kk))) := by
  obtain ⟨a, j, oe, ecl, hpn, hz, hfl⟩ := G.hx i hi
  have C := (G.fs.eg hne).all j
  have key : ∀ (v : V) (tv : Value), (∀ u, RelV v u → u = tv) → PySem.W.kitOne X.K (.ref (ex j)) tv = some (subC j kk) → PE X (.Name t p3) (tC v) → PE X (.Call (.Name "isinstance" p) [.Name y p2, .Name t p3] [] pos) (tE (kw X cl ex) W (evE c c' (.ise (.loc i) kk))) := by
    intro v tv h3 h4 h5
    refine impE (pe_callB (call_isX hpn C hz hfl) (G.gl h1) (G.fs.bt _ h2) (by decide +kernel) (pa_cons (G.vis hv) (pa_cons h5 pa_nil) rfl) (by decide +kernel) (by decide +kernel) rfl rfl) fun σ H Q q => ?_
    obtain ⟨μ, η, ρ, wd, re, e⟩ := q
    have e1 : EndG (kw X cl ex) (fun c H' => W c σ H') μ H (fun d _ μ' H' => ∀ v, RV (kw X cl ex) μ' H' d v → Q v H') (((locM ρ i).bind fun v => match v with
      | .exc j => Mo.pure (.bl (subC j kk))
      | _ => badM) η) := by
      have e2 := e
      rw [evE, fE_loc] at e2
      exact e2
    unfold locM at e1
    cases g : ρ[i]? with
    | none => simp only [g] at e1; exact e1.elim
    | some o =>
      cases o with
      | none => simp only [g] at e1; exact e1.elim
      | some d =>
        simp only [g] at e1
        obtain ⟨v1, g1, g2 | ⟨a', j', z1, rfl, rfl⟩⟩ := re.get i d g
        · exact absurd ecl (g2.1 a j)
        · have z2 : cl = some (i, a', j') := z1
          rw [ecl] at z2
          cases z2
          have e3 := EndG.pure wd (EndG.bind e1)
          exact ⟨.ref a, g1, v, tv, subC j kk, rfl, h3, h4, EndG.pure wd e3 _ rfl⟩
  rw [Bool.or_eq_true] at hh
  rcases hh with hh | hh
  · have F := G.fs.ec _ (List.contains_iff_mem.mp hh)
    exact key (.ref (ex kk)) _ (fun u z => z) (F.ki j) (pe_glob (G.gl ht) F.mg rfl (nm_dbg hn))
  · simp only [Bool.and_eq_true] at hh
    have e1 := eq_of_beq hh.1.1
    have e2 := eq_of_beq hh.2
    subst e1 e2
    refine key (.ty "ValueError") (.type "ValueError") (fun u z => z) (by rw [(G.fs.eg hne).ve j]; simp [subC]) (pe_bltn (v := .ty "ValueError") (G.gl ht) (G.fs.bt _ (List.contains_iff_mem.mp hh.1.2)) (by decide +kernel) rfl (by decide +kernel) (by decide +kernel))
theorem consH_of {T : Tab} {N : List Str} {n : Nat} {sc : Scope} {e : Expr} {es : List Expr} {ms : List ME} (h : ckH T N n sc (e :: es) ms = true) (env : PySem.Env) :
    starEach (e :: es) env = (false, eval e env) :: starEach es env ∧ ∀ pos, (backTo pos (starEach es env)).any (·.1) = false := by
  unfold ckH at h
  split at h
  · cases h
  · rename_i n1 y ps es' i ms' e1
    cases e1
    rw [Bool.and_eq_true] at h
    exact ⟨rfl, fun pos => stars_plain pos _ _ _ _ h.2⟩
  · cases h
def tkN : MI.Tk → String
  | .non => "NoneType"
  | .bl => "bool"
  | .int => "int"
  | .str => "str"
  | .tup => "tuple"
  | .list => "list"
  | .set => "set"
theorem kit_all (t : MI.Ty) (k : MI.Tk) : L2.kitB (tkN k) (tyN t) = some (isT t k) := by
  cases t <;> cases k <;> decide +kernel
theorem boot_tyS (t : MI.Ty) : bootBuiltins (tyS t) = some (.type (tyN t)) := by
  cases t <;> decide +kernel
theorem tyx_of {K : KW} {μ : List Addr} {H : Hp} {η : Hv} {d : D} {x : V} {k : MI.Tk} (wd : Wd K μ H η) (r : RV K μ H d x) (h : tyD d η = some k) : L2.TyX K.K H x (.type (tkN k)) := by
  unfold tyD at h
  split at h
  · cases h; cases r; exact .base .non
  · cases h; cases r; exact .base (.bl _)
  · cases h; cases r; exact .base (.int _)
  · cases h; cases r; exact .base (.str _)
  · cases h
    obtain ⟨a, vs, rfl, hs, _⟩ := r
    rcases hs with (hs | ⟨ob, hs⟩) | ⟨o, its, n, h1, h2, _⟩
    · exact .base (.tup hs)
    · exact .fTuple hs
    · exact .kTuple h1 h2
  · obtain ⟨a, rfl, ha⟩ := r
    split at h
    · rename_i e
      cases h
      obtain ⟨vs, h1, _⟩ := wd.obj _ a _ ha e
      exact .base (.lst h1)
    · rename_i e
      cases h
      obtain ⟨ob, vs, h1, _⟩ := wd.obj _ a _ ha e
      exact .base (.frz h1)
    · cases h
  · cases h
theorem conv_isi {K : KW} {σ : L2.St} {H : Hp} {Q : VK} {me : Rho → Mo D} {t : MI.Ty} (h : tE K W (fun ρ => (me ρ).bind fun v => lookM fun h => (tyD v h).map fun k => D.bl (isT t k)) σ H Q) :
    tCB (L2.rIsi K.K) (tCons (tE K W me) (tCons (tC (.ty (tyN t))) tNil)) σ H Q := by
  obtain ⟨μ, η, ρ, wd, re, e⟩ := h
  refine ⟨μ, η, ρ, wd, re, (EndG.bind e).imp fun d η1 μ1 H1 af wd1 e2 v rv => ?_⟩
  obtain ⟨c, h1, q⟩ := EndG.look wd1 e2
  cases e3 : tyD d η1 with
  | none => rw [e3] at h1; cases h1
  | some k =>
    rw [e3] at h1
    cases h1
    exact ⟨v, .ty (tyN t), .type (tkN k), .type (tyN t), isT t k, rfl, .ty _, tyx_of wd1 rv e3, L2.kit_ty (kit_all t k), q _ rfl⟩
theorem Good.isi (G : Good X cl ex T c k sc N W) {e : Expr} {me : Rho → Mo D} {t : MI.Ty} {p p2 pos : Pos} (h1 : glB sc "isinstance" = true) (h2 : ("isinstance" : Str) ∈ T.blts) (h3 : glB sc (tyS t) = true) (h4 : tyS t ∈ T.blts) (hs : noStar e = true) (he : PE X e (tE (kw X cl ex) W me)) :
    PE X (.Call (.Name "isinstance" p) [e, .Name (tyS t) p2] [] pos) (tE (kw X cl ex) W (fun ρ => (me ρ).bind fun v => lookM fun h => (tyD v h).map fun k => D.bl (isT t k))) :=
  impE (pe_callB L2.call_isi (G.gl h1) (G.fs.bt _ h2) (by decide +kernel) (pa_cons he (pa_cons (pe_bltn (v := .ty (tyN t)) (G.gl h3) (G.fs.bt _ h4) (boot_tyS t) rfl (by cases t <;> decide +kernel) (by cases t <;> decide +kernel)) pa_nil) (star_cons hs _ _)) (by decide +kernel) (by decide +kernel) (star_cons hs _ _) rfl) fun σ H Q q => conv_isi q
theorem set_of {e : Expr} (h : noSet e = true) (env : PySem.Env) (x : Value) : foldedSetIterable e env x = pure x := by
  cases e <;> first | rfl | (cases h; done)
theorem loc_of {sc : Scope} {x : Str} (h : locB sc x = true) : Loc sc x := by
  unfold locB at h
  split at h
  · exact .inl (by assumption)
  · exact .inr (by assumption)
  · cases h
theorem pg_tgt {X : Cx} {N : List Str} {sc : Scope} {tg : Expr} {t : Tgt} (hN : X.N = N) (nd : N.Nodup) (hc : X.calm = true) (hsc : X.env.scope = sc) (h : tgB sc N tg t = true) (hf : ∀ x ∈ tgN tg, X.fn x = true ∨ X.env.scope.names.lookup x = some .local) : PG X tg (gT X.K t) := by
  unfold tgB at h
  split at h
  · simp only [Bool.and_eq_true, decide_eq_true_eq] at h
    exact pg_name (by rw [hN]; exact nd) (by rw [hN]; exact h.1) (by rw [hsc]; exact loc_of h.2) (hf _ (by simp [tgN]))
  · simp only [Bool.and_eq_true, decide_eq_true_eq] at h
    exact pg_tup hc (pgs_cons (pg_name (by rw [hN]; exact nd) (by rw [hN]; exact h.1.1.1) (by rw [hsc]; exact loc_of h.1.1.2) (hf _ (by simp [tgN])))
      (pgs_cons (pg_name (by rw [hN]; exact nd) (by rw [hN]; exact h.1.2) (by rw [hsc]; exact loc_of h.2) (hf _ (by simp [tgN]))) pgs_nil))
  · cases h
theorem own_vs {sc : Scope} {N : List Str} {tg : Expr} {t : Tgt} (h : tgB sc N tg t = true) : (ownT tg t).map (·.2) = vsT t := by
  unfold tgB at h
  split at h
  · rfl
  · rfl
  · cases h
theorem tup_of {tg : Expr} (h : isTup tg = true) : ∃ es k p, tg = .Tuple es k p := by
  cases tg <;> first | exact ⟨_, _, _, rfl⟩ | (cases h; done)
theorem Facts.sub {Y : Cx} {n : Nat} (F : Facts X cl ex T c n) (h1 : Y.prog = X.prog) (h2 : Y.w = X.w) (h3 : Y.K = X.K) (h4 : Y.mg = X.mg) (h5 : Y.base = X.base) : Facts Y cl ex T c n := by
  obtain ⟨p1, p2, p3, p4, p5, p6, p7, p8, p9, p10, p11, p12, p13, p14, p15, p16, p17⟩ := X
  obtain ⟨q1, q2, q3, q4, q5, q6, q7, q8, q9, q10, q11, q12, q13, q14, q15, q16, q17⟩ := Y
  dsimp only at h1 h2 h3 h4 h5
  subst h1 h2 h3 h4 h5
  exact ⟨fun p hp => ⟨(F.fn p hp).g⟩, F.cs, F.bt, fun p hp => ⟨(F.hf p hp).g⟩, F.ec, F.eg⟩
theorem Good.blk (G : Good X cl ex T c k sc N W) (hcool : T.cool = true) (s : Shared) (H : Hp) (scope : Scope) (C : Addr) (cs : List (Str × Addr)) (fp : List Addr) : Good (X.blk s H scope (compEnvC scope cs C X.env) fp) cl ex T c k (relS scope sc) N W0 :=
  ⟨by rw [← G.sc]; rfl, G.nms, G.nd, G.calm, G.room, G.roomC, G.gds, fun u s' x => by
    obtain ⟨_, _, _, _, _, _, _, _, _, _, _, _, _, _, _, _, z⟩ := x
    obtain ⟨_, _, _, z⟩ := z
    exact z.elim, PassesOwn.never, G.fs.sub rfl rfl rfl rfl rfl, G.cold, G.noes, fun _ _ _ _ z => z.elim, fun i hi => by
      obtain ⟨a, j, oe, e, _⟩ := G.hx i hi
      rw [G.cold hcool] at e; cases e⟩
theorem impTs {es : List Expr} {t t' : TT} (h : PTs X es t) (q : ∀ σ H Q, t' σ H Q → t σ H Q) : PTs X es t' := ⟨fun pins s σ H Q I x => h.run pins s σ H Q I (q σ H Q x)⟩
structure SoundAt (X : Cx) (cl : HxC) (ex : Nat → Addr) (T : Tab) (N : List Str) (c c' : ClM) (sc : Scope) (W : WS) (n : Nat) : Prop where
  e : ∀ e m, ckE T N n sc e m = true → PE X e (tE (kw X cl ex) W (evE c c' m))
  t : ∀ e m, ckE T N n sc e m = true → noIf e = true → PT X e (tT (kw X cl ex) W (fun ρ => (evE c c' m ρ).bind truM))
  es : ∀ es ms, ckEs T N n sc es ms = true → PA X es (tA (kw X cl ex) W (evEs c c' ms))
  hh : ∀ es ms, ckH T N n sc es ms = true → ∃ i ms', ms = .loc i :: ms' ∧ T.es = some i ∧ PA X es (tCons (tVar i) (tA (kw X cl ex) W (evEs c c' ms')))
  cd : ∀ ifs o, ckC T N n sc ifs o = true → PTs X ifs (tT (kw X cl ex) W (evC c c' o))
  i : ∀ tg e it, ckI T N n sc tg e it = true → PI X tg e (tI (kw X cl ex) W (evI c c' it))
  p : ∀ o l, ckP T N n sc o l = true → PO X o (tP (kw X cl ex) W (evO c c' l))
  a : ∀ p es m, ckA T N n sc p es m = true → PE X (.BoolOp .And es p) (tE (kw X cl ex) W (evE c c' m)) ∧ PW X (.BoolOp .And es p) (tT (kw X cl ex) W (fun ρ => (evE c c' m ρ).bind truM))
  o : ∀ p es m, ckO T N n sc p es m = true → PE X (.BoolOp .Or es p) (tE (kw X cl ex) W (evE c c' m)) ∧ PW X (.BoolOp .Or es p) (tT (kw X cl ex) W (fun ρ => (evE c c' m ρ).bind truM))
theorem op_of (G : Good X cl ex T c k sc N W) {op : Operator} {o : Op} (h : opB op o = true) : OpR X (binaryOp op) (r2 (kw X cl ex) (binM o)) := by
  cases op <;> cases o <;> first | (cases h; done) | skip
  · exact opM_add
  · exact opM_sub
  · exact opM_mul
  · exact opM_mod
  · exact opM_pow
  · exact opM_fdiv
theorem cm_of (G : Good X cl ex T c k sc N W) {op : CmpOp} {o : Cm} (h : cmB op o = true) : OpR X (compareOp op) (r2c (kw X cl ex) (cmpH o)) := by
  have hu := G.hu
  have hu2 : X.A.units + 64 < cLine := by omega
  cases op <;> cases o <;> first | (cases h; done) | skip
  · exact opM_eq hu2
  · exact opM_ne hu2
  · exact opM_lt
  · exact opM_le
  · exact opM_gt
  · exact opM_ge
  · exact opM_is
  · exact opM_isn
  · exact opM_in hu
  · exact opM_nin hu
theorem rg_ok {i j : Int} (h : rgOkB i j = true) : RgOk i j := by
  have := of_decide_eq_true h
  exact ⟨by omega, by omega, by omega, by omega, by omega⟩
theorem rg_eq (i j : Int) : rgV i j = (List.range (j - i).toNat).map fun (k : Nat) => V.int (i + (k : Int)) := rfl
theorem rvs_rng {K : KW} {μ : List Addr} {H : Hp} (i j : Int) : RVs K μ H (rngD i j) ((List.range (j - i).toNat).map fun (k : Nat) => V.int (i + (k : Int))) := by
  have e1 : rngD i j = ((List.range (j - i).toNat).map fun (k : Nat) => i + (k : Int)).map D.int := by
    unfold rngD; rw [List.map_map]; rfl
  have e2 : ((List.range (j - i).toNat).map fun (k : Nat) => V.int (i + (k : Int))) = ((List.range (j - i).toNat).map fun (k : Nat) => i + (k : Int)).map V.int := by
    rw [List.map_map]; rfl
  rw [e1, e2]
  exact RVs.of_ints _
theorem any_mem {α : Type} {p : α → Bool} {l : List α} (h : l.any p = true) : ∃ x ∈ l, p x = true := List.any_eq_true.mp h
theorem Good.bB (G : Good X cl ex T c k sc N W) {x : Str} {id : String} {f : List D → Mo D} {e : Expr} {es : List Expr} {ms : Rho → Mo (List D)} {p pos : Pos} (hc : CallR X (.builtin id) (rB (kw X cl ex) f)) (hv : bootBuiltins x = some (.builtin id)) (hx : glB sc x = true) (hn : nmB x = true) (hb : x ∈ T.blts)
    (ha : PA X (e :: es) (tA (kw X cl ex) W ms)) (h1 : starEach (e :: es) X.env = (false, eval e X.env) :: starEach es X.env) (h2 : (backTo pos (starEach es X.env)).any (·.1) = false) :
    PE X (.Call (.Name x p) (e :: es) [] pos) (tE (kw X cl ex) W (fun ρ => (ms ρ).bind fun ds => f ds)) :=
  impE (pe_callB hc (G.gl hx) (G.fs.bt x hb) hv ha (nm_nm hn) (nm_dbg hn) h1 h2) fun σ H Q h => conv_B h
theorem Good.bT (G : Good X cl ex T c k sc N W) {x : Str} {id : String} {f : List D → Mo D} {e : Expr} {es : List Expr} {ms : Rho → Mo (List D)} {p pos : Pos} (hc : CallR X (.type id) (rB (kw X cl ex) f)) (hv : bootBuiltins x = some (.type id)) (hx : glB sc x = true) (hn : nmB x = true) (hb : x ∈ T.blts)
    (ha : PA X (e :: es) (tA (kw X cl ex) W ms)) (h1 : starEach (e :: es) X.env = (false, eval e X.env) :: starEach es X.env) (h2 : (backTo pos (starEach es X.env)).any (·.1) = false) :
    PE X (.Call (.Name x p) (e :: es) [] pos) (tE (kw X cl ex) W (fun ρ => (ms ρ).bind fun ds => f ds)) :=
  impE (pe_callTy hc (G.gl hx) (G.fs.bt x hb) hv ha (nm_nm hn) (nm_dbg hn) h1 h2) fun σ H Q h => conv_B h
theorem Good.blt (G : Good X cl ex T c k sc N W) {b : Bf} {e : Expr} {es : List Expr} {ms : Rho → Mo (List D)} {p pos : Pos} (hok : (okBf b && (T.cool || hotBf b)) = true) (hx : glB sc (bfN b) = true) (hn : nmB (bfN b) = true) (hb : bfN b ∈ T.blts)
    (ha : PA X (e :: es) (tA (kw X cl ex) W ms)) (h1 : starEach (e :: es) X.env = (false, eval e X.env) :: starEach es X.env) (h2 : (backTo pos (starEach es X.env)).any (·.1) = false) :
    PE X (.Call (.Name (bfN b) p) (e :: es) [] pos) (tE (kw X cl ex) W (fun ρ => (ms ρ).bind fun ds => bltM b ds)) := by
  rw [Bool.and_eq_true] at hok
  have calm : hotBf b = false → X.calm = true := fun z => G.calm (by have h2 := hok.2; rw [z, Bool.or_false] at h2; exact h2)
  obtain ⟨hok, _⟩ := hok
  cases b <;> first | (cases hok; done) | skip
  · exact G.bB cM_len (by decide +kernel) hx hn hb ha h1 h2
  · exact G.bT cM_tuple (by decide +kernel) hx hn hb ha h1 h2
  · exact G.bT cM_list (by decide +kernel) hx hn hb ha h1 h2
  · exact G.bT cM_int (by decide +kernel) hx hn hb ha h1 h2
  · exact G.bB (cM_min (calm rfl)) (by decide +kernel) hx hn hb ha h1 h2
  · exact G.bB (cM_max (calm rfl)) (by decide +kernel) hx hn hb ha h1 h2
  · exact G.bB (cM_all (calm rfl)) (by decide +kernel) hx hn hb ha h1 h2
  · exact G.bB (cM_any (calm rfl)) (by decide +kernel) hx hn hb ha h1 h2
  · exact G.bB (cM_sum (calm rfl)) (by decide +kernel) hx hn hb ha h1 h2
  · exact G.bT (cM_set (calm rfl)) (by decide +kernel) hx hn hb ha h1 h2
  · exact G.bB (cM_sorted (calm rfl)) (by decide +kernel) hx hn hb ha h1 h2
  · exact G.bT cM_str (by decide +kernel) hx hn hb ha h1 h2
  · exact G.bB (cM_repr G.gds (by have := G.room.un; omega)) (by decide +kernel) hx hn hb ha h1 h2
theorem conv_lrng1 {K : KW} {W : WS} {ma : Rho → Mo D} {σ : L2.St} {H : Hp} {Q : VK} (h : tE K W (fun ρ => (ma ρ).bind fun d => lrngM [d]) σ H Q) : tLstRg (tRg1 (tE K W ma)) σ H Q := by
  obtain ⟨μ, η, ρ, wd, re, e⟩ := h
  refine ⟨μ, η, ρ, wd, re, (EndG.bind e).imp fun d η1 μ1 H1 af wd1 e2 v rv => ?_⟩
  cases d <;> first | exact e2.elim | skip
  rename_i j
  cases rv
  have e3 : EV K (fun c H' => W c σ H') μ1 H1 Q ((if rgOkB 0 j = true then allocM (.lst (rngD 0 j)) else badM) η1) := e2
  split at e3
  · rename_i ok
    refine ⟨_, rfl, rg_ok ok, fun q hq => ?_⟩
    rw [rg_eq]
    exact e3.lst wd1 (rvs_rng _ _) hq
  · exact e3.elim
theorem conv_lrng2 {K : KW} {W : WS} {ma mb : Rho → Mo D} {σ : L2.St} {H : Hp} {Q : VK} (h : tE K W (fun ρ => (ma ρ).bind fun d => (mb ρ).bind fun d2 => lrngM [d, d2]) σ H Q) : tLstRg (tRg2 (tE K W ma) (tE K W mb)) σ H Q := by
  obtain ⟨μ, η, ρ, wd, re, e⟩ := h
  refine ⟨μ, η, ρ, wd, re, (EndG.bind e).imp fun d η1 μ1 H1 af wd1 e2 v rv => ?_⟩
  refine ⟨μ1, η1, ρ, wd1, re.mono af, (EndG.bind e2).imp fun d2 η2 μ2 H2 af2 wd2 e3 v2 rv2 => ?_⟩
  have rv' := RV.mono af2 d v rv
  cases d <;> first | exact e3.elim | skip
  cases d2 <;> first | exact e3.elim | skip
  rename_i i j
  cases rv'
  cases rv2
  have e4 : EV K (fun c H' => W c σ H') μ2 H2 Q ((if rgOkB i j = true then allocM (.lst (rngD i j)) else badM) η2) := e3
  split at e4
  · rename_i ok
    refine ⟨_, _, rfl, rfl, rg_ok ok, fun q hq => ?_⟩
    rw [rg_eq]
    exact e4.lst wd2 (rvs_rng _ _) hq
  · exact e4.elim
theorem Good.mth1 (G : Good X cl ex T c k sc N W) {m : Mh} {o e : Expr} {mo : Rho → Mo D} {ms : Rho → Mo (List D)} {apos cpos : Pos} (h1 : mh1 m = true) (hb : baseOk o = true) (hl : (apos.endLine == cpos.line) = true) (hs : noStar e = true) (ho : PE X o (tE (kw X cl ex) W mo)) (he : PA X [e] (tA (kw X cl ex) W ms)) :
    PE X (.Call (.Attribute o (mhN m) apos) [e] [] cpos) (tE (kw X cl ex) W (fun ρ => (mo ρ).bind fun x => (lookM (kndH m x)).bind fun _ => (ms ρ).bind fun ds => mthM m x ds)) := by
  cases m <;> first | (cases h1; done) | skip
  · exact G.m1 PySem.F.plainAttrs_list PySem.F.slot_list_append PySem.F.type_list_append mM_append (ty_list fun _ _ => rfl) hb hl hs ho he
  · exact G.m1 PySem.F.plainAttrs_list PySem.F.slot_list_index PySem.F.type_list_index (mM_index G.hu) (ty_list fun _ _ => rfl) hb hl hs ho he
  · exact G.m1 PySem.F.plainAttrs_str PySem.F.slot_str_join PySem.F.type_str_join mM_join ty_str hb hl hs ho he
theorem Good.mth0 (G : Good X cl ex T c k sc N W) {m : Mh} {o : Expr} {mo : Rho → Mo D} {apos cpos : Pos} (h1 : mh0 m = true) (hb : baseOk o = true) (hl : (apos.endLine == cpos.line) = true) (ho : PE X o (tE (kw X cl ex) W mo)) :
    PE X (.Call (.Attribute o (mhN m) apos) [] [] cpos) (tE (kw X cl ex) W (fun ρ => (mo ρ).bind fun x => (lookM (kndH m x)).bind fun _ => (evEs c c' [] ρ).bind fun ds => mthM m x ds)) := by
  rw [fEs_nil]
  cases m <;> first | (cases h1; done) | skip
  · exact G.m0 PySem.F.plainAttrs_list PySem.F.slot_list_pop PySem.F.type_list_pop mM_pop (ty_list fun _ _ => rfl) hb hl ho
  · exact G.m0 PySem.F.plainAttrs_list PySem.F.slot_list_reverse PySem.F.type_list_reverse mM_reverse (ty_list fun _ _ => rfl) hb hl ho
  · exact G.m0 PySem.F.plainAttrs_list PySem.F.slot_list_clear PySem.F.type_list_clear mM_clear (ty_list fun _ _ => rfl) hb hl ho
theorem sound_zero : SoundAt X cl ex T N c c' sc W 0 := ⟨fun _ _ h => by simp [ckE] at h, fun _ _ h => by simp [ckE] at h, fun _ _ h => by simp [ckEs] at h, fun _ _ h => by simp [ckH] at h, fun _ _ h => by simp [ckC] at h, fun _ _ _ h => by simp [ckI] at h, fun _ _ h => by simp [ckP] at h, fun _ _ _ h => by simp [ckA] at h, fun _ _ _ h => by simp [ckO] at h⟩
theorem sound_es (G : Good X cl ex T c k sc N W) {n : Nat} (S : SoundAt X cl ex T N c c' sc W n) : ∀ es ms, ckEs T N (n + 1) sc es ms = true → PA X es (tA (kw X cl ex) W (evEs c c' ms))
  | [], [], _ => impA pa_nil fun σ H Q h => conv_nil h
  | e :: es, m :: ms, h => by
    rw [ckEs] at h
    simp only [Bool.and_eq_true] at h
    exact impA (pa_cons (S.e e m h.1.1) (S.es es ms h.2) (star_cons h.1.2 _ _)) fun σ H Q h => conv_cons h
  | [], _ :: _, h => by simp [ckEs] at h
  | _ :: _, [], h => by simp [ckEs] at h
theorem sound_h (G : Good X cl ex T c k sc N W) {n : Nat} (S : SoundAt X cl ex T N c c' sc W n) : ∀ es ms, ckH T N (n + 1) sc es ms = true → ∃ i ms', ms = .loc i :: ms' ∧ T.es = some i ∧ PA X es (tCons (tVar i) (tA (kw X cl ex) W (evEs c c' ms'))) := by
  intro es ms h
  unfold ckH at h
  split at h
  · cases h
  · rename_i n1 y ps es' i ms' e1
    cases e1
    rw [Bool.and_eq_true, Bool.and_eq_true] at h
    exact ⟨i, ms', rfl, of_decide_eq_true h.1.2, pa_cons (G.vis h.1.1) (S.es es' ms' h.2) rfl⟩
  · cases h
theorem sound_p {n : Nat} (S : SoundAt X cl ex T N c c' sc W n) : ∀ o l, ckP T N (n + 1) sc o l = true → PO X o (tP (kw X cl ex) W (evO c c' l))
  | none, none, _ => ⟨fun pins s σ H Q I h => po_none.run pins s σ H Q I (conv_pnone h)⟩
  | some e, some m, h => by
    rw [ckP] at h
    exact ⟨fun pins s σ H Q I q => (po_some (S.e e m h)).run pins s σ H Q I (conv_psome q)⟩
  | none, some _, h => by simp [ckP] at h
  | some _, none, h => by simp [ckP] at h
theorem sound_c {n : Nat} (S : SoundAt X cl ex T N c c' sc W n) : ∀ ifs o, ckC T N (n + 1) sc ifs o = true → PTs X ifs (tT (kw X cl ex) W (evC c c' o)) := by
  intro ifs o h
  unfold ckC at h
  split at h
  · cases h
  · rw [fC_none]
    refine impTs pts_nil fun σ H Q q => ?_
    obtain ⟨μ, η, ρ, wd, re, e⟩ := q
    exact EndG.pure wd e
  · rename_i e
    cases e
    rw [fC_some]
    simp only [Bool.and_eq_true] at h
    exact pts_one (S.t _ _ h.1 h.2)
  · cases h
theorem mem_of {l : List Str} {x : Str} (h : l.contains x = true) : x ∈ l := List.contains_iff_mem.mp h
theorem sound_i (G : Good X cl ex T c k sc N W) {n : Nat} (S : ∀ n', n = n' + 1 → SoundAt X cl ex T N c c' sc W n') : ∀ tg e it, ckI T N n sc tg e it = true → PI X tg e (tI (kw X cl ex) W (evI c c' it)) := by
  intro tg e it h
  unfold ckI at h
  split at h
  · cases h
  · simp only [Bool.and_eq_true] at h
    have ef := eq_of_beq h.1.1.1.1
    subst ef
    rw [fI_rng]
    exact pi_rng G h.1.1.1.2 (mem_of h.1.1.2) h.1.2 ((S _ rfl).e _ _ h.2)
  · simp only [Bool.and_eq_true] at h
    have ef := eq_of_beq h.1.1.1.1.1.1
    subst ef
    rw [fI_rng2]
    exact pi_rng2 G h.1.1.1.1.1.2 (mem_of h.1.1.1.1.2) h.1.1.1.2 h.1.1.2 ((S _ rfl).e _ _ h.1.2) ((S _ rfl).e _ _ h.2)
  · simp only [Bool.and_eq_true] at h
    have ef := eq_of_beq h.1.1.1.1.1
    subst ef
    obtain ⟨es, kk, pp, rfl⟩ := tup_of h.1.1.1.1.2
    rw [fI_enm]
    exact pi_enm G h.1.1.1.2 (mem_of h.1.1.2) h.1.2 ((S _ rfl).e _ _ h.2)
  · simp only [Bool.and_eq_true] at h
    have ef := eq_of_beq h.1.1.1.1.1.1.1
    subst ef
    obtain ⟨es, kk, pp, rfl⟩ := tup_of h.1.1.1.1.1.1.2
    rw [fI_zip]
    exact pi_zp G h.1.1.1.1.1.2 (mem_of h.1.1.1.1.2) h.1.1.1.2 h.1.1.2 ((S _ rfl).e _ _ h.1.2) ((S _ rfl).e _ _ h.2)
  · rw [fI_seq]
    exact pi_seq ((S _ rfl).e _ _ h)
  · cases h
theorem sound_a (G : Good X cl ex T c k sc N W) {n : Nat} (S : SoundAt X cl ex T N c c' sc W n) : ∀ p es m, ckA T N (n + 1) sc p es m = true → PE X (.BoolOp .And es p) (tE (kw X cl ex) W (evE c c' m)) ∧ PW X (.BoolOp .And es p) (tT (kw X cl ex) W (fun ρ => (evE c c' m ρ).bind truM))
  | p, [a], x, h => by
    rw [ckA] at h
    simp only [Bool.and_eq_true] at h
    exact ⟨pe_one (S.e a x h.1), pw_and1 (S.t a x h.1 h.2)⟩
  | p, [], m, h => by cases m <;> simp [ckA] at h
  | p, a :: b :: r, m, h => by
    cases m
    case and x y =>
      rw [ckA] at h
      simp only [Bool.and_eq_true] at h
      obtain ⟨h1, h2⟩ := S.a p (b :: r) y h.2
      exact ⟨impE (pe_andT (S.e a x h.1.1) h1) fun σ H Q q => conv_and (by rw [fE_and] at q; exact q), impW (pw_and (S.t a x h.1.1 h.1.2) h2) fun σ H Q q => conv_andT (by rw [fE_and] at q; exact q)⟩
    all_goals (simp [ckA] at h)
theorem sound_o (G : Good X cl ex T c k sc N W) {n : Nat} (S : SoundAt X cl ex T N c c' sc W n) : ∀ p es m, ckO T N (n + 1) sc p es m = true → PE X (.BoolOp .Or es p) (tE (kw X cl ex) W (evE c c' m)) ∧ PW X (.BoolOp .Or es p) (tT (kw X cl ex) W (fun ρ => (evE c c' m ρ).bind truM))
  | p, [a], x, h => by
    rw [ckO] at h
    simp only [Bool.and_eq_true] at h
    exact ⟨pe_one (S.e a x h.1), pw_or1 (S.t a x h.1 h.2)⟩
  | p, [], m, h => by cases m <;> simp [ckO] at h
  | p, a :: b :: r, m, h => by
    cases m
    case or x y =>
      rw [ckO] at h
      simp only [Bool.and_eq_true] at h
      obtain ⟨h1, h2⟩ := S.o p (b :: r) y h.2
      exact ⟨impE (pe_orT (S.e a x h.1.1) h1) fun σ H Q q => conv_or (by rw [fE_or] at q; exact q), impW (pw_or (S.t a x h.1.1 h.1.2) h2) fun σ H Q q => conv_orT (by rw [fE_or] at q; exact q)⟩
    all_goals (simp [ckO] at h)
theorem cons_of {T : Tab} {N : List Str} {n : Nat} {sc : Scope} {e : Expr} {es : List Expr} {ms : List ME} (h : ckEs T N n sc (e :: es) ms = true) (env : PySem.Env) :
    starEach (e :: es) env = (false, eval e env) :: starEach es env ∧ ∀ pos, (backTo pos (starEach es env)).any (·.1) = false := by
  cases n with
  | zero => simp [ckEs] at h
  | succ n =>
    cases ms with
    | nil => simp [ckEs] at h
    | cons m ms =>
      rw [ckEs] at h
      simp only [Bool.and_eq_true] at h
      exact ⟨star_cons h.1.2 _ _, fun pos => stars_plain pos _ _ _ _ h.2⟩
theorem sound_e (G : Good X cl ex T c k sc N W) {n : Nat} (S : ∀ n', n = n' + 1 → ∀ {X : Cx} {sc : Scope} {W : WS}, Good X cl ex T c k sc N W → SoundAt X cl ex T N c c' sc W n') : ∀ e m, ckE T N n sc e m = true → PE X e (tE (kw X cl ex) W (evE c c' m)) := by
  intro e m h
  unfold ckE at h
  split at h
  · cases h
  · rw [fE_loc]
    rw [Bool.and_eq_true] at h
    exact impE (G.vis h.1) fun σ H Q q => conv_loc (G.slot (of_decide_eq_true h.2)) q
  · rw [fE_cst]
    simp only [Bool.and_eq_true] at h
    obtain ⟨p, hp, hq⟩ := any_mem h.2
    simp only [Bool.and_eq_true] at hq
    obtain ⟨u, v, h1, h2, h3⟩ := G.fs.cs p hp
    have e1 := eq_of_beq hq.1
    have e2 := same_eq _ _ hq.2
    rw [e1] at h1
    rw [e2] at h3
    exact impE (pe_glob (G.gl h.1.1) h1 h2 (nm_dbg h.1.2)) fun σ H Q q => conv_cst h3 q
  · rw [fE_cst]
    have e1 := eq_of_beq h
    subst e1
    exact impE pe_int fun σ H Q q => conv_cst (by intros; exact rfl) q
  · rw [fE_cst]
    have e1 := eq_of_beq h
    subst e1
    exact impE pe_bl fun σ H Q q => conv_cst (by intros; exact rfl) q
  · rw [fE_cst]
    have e1 := of_decide_eq_true h
    subst e1
    exact impE pe_str fun σ H Q q => conv_cst (by intros; exact rfl) q
  · rw [fE_cst]
    exact impE pe_non fun σ H Q q => conv_cst (by intros; exact rfl) q
  · rw [fE_tup]
    simp only [Bool.and_eq_true, decide_eq_true_eq] at h
    exact impE (pe_tup ((S _ rfl G).es _ _ h.1)) fun σ H Q q => conv_tup (fun ρ η ds η' e => by rw [evEs_len _ _ _ _ _ e]; have : lim = 16777216 := rfl; omega) q
  · rw [fE_lst]
    simp only [Bool.and_eq_true, decide_eq_true_eq] at h
    exact impE (pe_lst ((S _ rfl G).es _ _ h.1)) fun σ H Q q => conv_lst (fun ρ η ds η' e => by rw [evEs_len _ _ _ _ _ e]; have : lim = 16777216 := rfl; omega) q
  · rw [fE_bin]
    simp only [Bool.and_eq_true] at h
    exact impE (pe_op (op_of G h.1.1) ((S _ rfl G).e _ _ h.1.2) ((S _ rfl G).e _ _ h.2)) fun σ H Q q => conv_bin q
  · rw [fE_not]
    simp only [Bool.and_eq_true] at h
    exact impE (pe_notT ((S _ rfl G).e _ _ h.1)) fun σ H Q q => conv_not q
  · rw [fE_neg]
    exact impE (pe_un un_neg ((S _ rfl G).e _ _ h)) fun σ H Q q => conv_neg q
  · rw [fE_and]
    simp only [Bool.and_eq_true] at h
    exact impE (pe_andT ((S _ rfl G).e _ _ h.1.1) ((S _ rfl G).a _ _ _ h.2).1) fun σ H Q q => conv_and q
  · rw [fE_or]
    simp only [Bool.and_eq_true] at h
    exact impE (pe_orT ((S _ rfl G).e _ _ h.1.1) ((S _ rfl G).o _ _ _ h.2).1) fun σ H Q q => conv_or q
  · rw [fE_cmp]
    simp only [Bool.and_eq_true] at h
    exact impE (pe_cmpR (cm_of G h.1.1.1) ((S _ rfl G).e _ _ h.1.1.2) ((S _ rfl G).e _ _ h.1.2) (mark_of _ h.2)) fun σ H Q q => conv_cmp q
  · rw [fE_chn]
    simp only [Bool.and_eq_true] at h
    exact impE (pe_chain (cm_of G h.1.1.1.1.1.1) (cm_of G h.1.1.1.1.1.2) ((S _ rfl G).e _ _ h.1.1.1.1.2) ((S _ rfl G).e _ _ h.1.1.1.2) ((S _ rfl G).e _ _ h.1.1.2) (by show behindInMarks _ _ = false; exact mark_of _ h.2)) fun σ H Q q => conv_chain q
  · rw [fE_ife]
    simp only [Bool.and_eq_true] at h
    exact impE (pe_ifExp ((S _ rfl G).t _ _ h.1.1.1 h.1.1.2) ((S _ rfl G).e _ _ h.1.2) ((S _ rfl G).e _ _ h.2)) fun σ H Q q => conv_ife q
  · rw [fE_slc]
    simp only [Bool.and_eq_true] at h
    exact impE (pe_slice slM ((S _ rfl G).e _ _ h.1.1) ((S _ rfl G).p _ _ h.1.2) ((S _ rfl G).p _ _ h.2)) fun σ H Q q => conv_slc q
  · rw [fE_idx]
    simp only [Bool.and_eq_true] at h
    exact impE (pe_ix ixM ((S _ rfl G).e _ _ h.1.1) ((S _ rfl G).e _ _ h.1.2) (plain_ix h.2)) fun σ H Q q => conv_idx q
  · rw [fE_call]
    rw [Bool.or_eq_true] at h
    rcases h with h | h
    · simp only [Bool.and_eq_true] at h
      obtain ⟨hcool, h⟩ := h
      obtain ⟨p, hp, hq⟩ := any_mem h.1.2
      simp only [Bool.and_eq_true] at hq
      obtain ⟨x, f, ar⟩ := p
      have e1 := eq_of_beq hq.1.1
      have e2 := eq_of_beq hq.1.2
      have e3 := eq_of_beq hq.2
      simp only at e1 e2 e3
      subst e1 e2 e3
      obtain ⟨h1, h2⟩ := cons_of h.2 X.env
      exact G.call hcool h.1.1.1 h.1.1.2 hp (fun ρ η ds η' e => evEs_len _ _ _ _ _ e) ((S _ rfl G).es _ _ h.2) h1 (h2 _)
    · simp only [Bool.and_eq_true] at h
      obtain ⟨p, hp, hq⟩ := any_mem h.1.2
      simp only [Bool.and_eq_true] at hq
      obtain ⟨x, f, ar⟩ := p
      have e1 := eq_of_beq hq.1.1
      have e2 := eq_of_beq hq.1.2
      have e3 := eq_of_beq hq.2
      simp only at e1 e2 e3
      subst e1 e2 e3
      obtain ⟨i, ms', em, hi, ha⟩ := (S _ rfl G).hh _ _ h.2
      obtain ⟨h1, h2⟩ := consH_of h.2 X.env
      subst em
      exact G.hot h.1.1.1 h.1.1.2 hp hi ha h1 (h2 _)
  · simp only [Bool.and_eq_true] at h
    rename_i f _ g _ e _ _ x
    obtain ⟨⟨⟨⟨⟨⟨⟨k0, k1⟩, k2⟩, k3⟩, k4⟩, k5⟩, k6⟩, k7⟩ := h
    have e1 := eq_of_beq k1
    have e2 := eq_of_beq k2
    subst e1 e2
    obtain ⟨h1, h2⟩ := cons_of k7 X.env
    rename_i p1 p2 p3 p4
    have inner := G.blt (c := c) (b := .set) (p := p2) (pos := p3) (by rw [k0]; rfl) k5 (by decide +kernel) (mem_of k6) ((S _ rfl G).es _ _ k7) h1 (h2 _)
    have outer := G.blt (c := c) (b := .sorted) (p := p1) (pos := p4) (by rw [k0]; rfl) k3 (by decide +kernel) (mem_of k4) (impA (pa_cons inner (impA pa_nil fun σ H Q h => conv_nil h) (star_cons rfl _ _)) fun σ H Q h => conv_cons (ms := fun _ => Mo.pure []) h) (star_cons rfl _ _) rfl
    refine impE outer fun σ H Q q => ?_
    obtain ⟨μ, η, ρ, wd, re, e⟩ := q
    refine ⟨μ, η, ρ, wd, re, ?_⟩
    have eq : (((((evEs c c' [x] ρ).bind fun ds => bltM .set ds).bind fun d => (Mo.pure []).bind fun ds => Mo.pure (d :: ds)).bind fun ds => bltM .sorted ds) : Mo D) = evE c c' (.sset x) ρ := by
      funext η
      show _ = ((evE c c' x ρ).bind fun v => (bltM .set [v]).bind fun s => bltM .sorted [s]) η
      show ((((((evE c c' x ρ).bind fun d => (Mo.pure []).bind fun ds => Mo.pure (d :: ds)).bind fun ds => bltM .set ds).bind fun d => (Mo.pure []).bind fun ds => Mo.pure (d :: ds)).bind fun ds => bltM .sorted ds) : Mo D) η = _
      unfold Mo.bind Mo.pure
      cases evE c c' x ρ η with
      | ok v η1 =>
        simp only
        cases bltM .set [v] η1 <;> rfl
      | ex _ _ => rfl
      | bad => rfl
    rw [← eq] at e
    exact e
  · simp only [Bool.and_eq_true] at h
    rename_i f _ g _ a _ _ x
    obtain ⟨⟨⟨⟨⟨⟨⟨⟨k0, k1⟩, k2⟩, k3⟩, k4⟩, k5⟩, k6⟩, k7⟩, k8⟩ := h
    have e1 := eq_of_beq k1
    have e2 := eq_of_beq k2
    subst e1 e2
    refine impE (pe_listRg (G.calm k0) (G.gl k3) (G.fs.bt _ (mem_of k4)) (prg_1 (G.gl k5) (G.fs.bt _ (mem_of k6)) ((S _ rfl G).e _ _ k8) (star_cons k7 _ _)) (star_cons rfl _ _)) fun σ H Q q => conv_lrng1 ?_
    obtain ⟨μ, η, ρ, wd, re, e⟩ := q
    refine ⟨μ, η, ρ, wd, re, ?_⟩
    have eq : evE c c' (.lrng [x]) ρ = (evE c c' x ρ).bind fun d => lrngM [d] := by
      funext η
      show (((evE c c' x ρ).bind fun d => (Mo.pure []).bind fun ds => Mo.pure (d :: ds)).bind lrngM) η = _
      unfold Mo.bind Mo.pure
      cases evE c c' x ρ η <;> rfl
    rw [eq] at e
    exact e
  · simp only [Bool.and_eq_true] at h
    rename_i f _ g _ a b _ _ x y
    obtain ⟨⟨⟨⟨⟨⟨⟨⟨⟨⟨k0, k1⟩, k2⟩, k3⟩, k4⟩, k5⟩, k6⟩, k7⟩, k8⟩, k9⟩, k10⟩ := h
    have e1 := eq_of_beq k1
    have e2 := eq_of_beq k2
    subst e1 e2
    refine impE (pe_listRg (G.calm k0) (G.gl k3) (G.fs.bt _ (mem_of k4)) (prg_2 (G.gl k5) (G.fs.bt _ (mem_of k6)) ((S _ rfl G).e _ _ k9) ((S _ rfl G).e _ _ k10) (star_cons k7 _ _) (star_cons k8 _ _) (by rw [star_cons k8]; rfl)) (star_cons rfl _ _)) fun σ H Q q => conv_lrng2 ?_
    obtain ⟨μ, η, ρ, wd, re, e⟩ := q
    refine ⟨μ, η, ρ, wd, re, ?_⟩
    have eq : evE c c' (.lrng [x, y]) ρ = (evE c c' x ρ).bind fun d => (evE c c' y ρ).bind fun d2 => lrngM [d, d2] := by
      funext η
      show (((evE c c' x ρ).bind fun d => ((evE c c' y ρ).bind fun d2 => (Mo.pure []).bind fun ds => Mo.pure (d2 :: ds)).bind fun ds => Mo.pure (d :: ds)).bind lrngM) η = _
      unfold Mo.bind Mo.pure
      cases evE c c' x ρ η with
      | ok v η1 => simp only; cases evE c c' y ρ η1 <;> rfl
      | ex _ _ => rfl
      | bad => rfl
    rw [eq] at e
    exact e
  · rw [fE_blt]
    rw [Bool.and_eq_true, Bool.and_eq_true] at h
    obtain ⟨⟨h0, hok⟩, h9⟩ := h
    simp only [Bool.and_eq_true] at h0
    obtain ⟨h1, h2⟩ := cons_of h9 X.env
    have e1 := eq_of_beq h0.1.2
    subst e1
    exact G.blt hok h0.1.1.1 h0.1.1.2 (List.contains_iff_mem.mp h0.2) ((S _ rfl G).es _ _ h9) h1 (h2 _)
  · rw [fE_isi]
    simp only [Bool.and_eq_true] at h
    have e1 := eq_of_beq h.1.1.1.1.1.1.1
    have e2 := eq_of_beq h.1.1.1.1.2
    subst e1 e2
    exact G.isi h.1.1.1.1.1.1.2 (List.contains_iff_mem.mp h.1.1.1.1.1.2) h.1.1.1.2 (List.contains_iff_mem.mp h.1.1.2) h.1.2 ((S _ rfl G).e _ _ h.2)
  · rename_i f _ y _ t _ _ i kk
    simp only [Bool.and_eq_true] at h
    obtain ⟨⟨⟨⟨⟨⟨⟨⟨h1, h2⟩, h3⟩, h4⟩, h5⟩, h6⟩, h7⟩, h8⟩, h9⟩ := h
    have e1 := eq_of_beq h1
    subst e1
    exact G.ise h2 (List.contains_iff_mem.mp h3) (by simpa only [Bool.and_eq_true] using h4) (of_decide_eq_true h5) h6 h7 (fun z => by rw [z] at h8; cases h8) h9
  · rw [fE_mth]
    simp only [Bool.and_eq_true] at h
    have e1 := eq_of_beq h.1.1.1.1.1.1
    subst e1
    exact G.mth1 h.1.1.1.1.1.2 h.1.1.1.1.2 h.1.1.1.2 h.1.1.2 ((S _ rfl G).e _ _ h.1.2) ((S _ rfl G).es _ _ h.2)
  · rw [fE_mth]
    simp only [Bool.and_eq_true] at h
    have e1 := eq_of_beq h.1.1.1.1
    subst e1
    exact G.mth0 h.1.1.1.2 h.1.1.2 h.1.2 ((S _ rfl G).e _ _ h.2)
  · rw [fE_lc]
    simp only [Bool.and_eq_true] at h
    rename_i elt tg iter ifs scope pos tgt it cond m
    have hcool := h.1.1.1.1.1.1.1
    have ok := blkOk_by h.1.1.1.2
    have hv := own_vs h.1.1.1.1.2
    have e1 : ∀ (s : Shared) (H : Hp) (C : Addr) (cs : List (Str × Addr)) (fp : List Addr), PE (X.blk s H scope (compEnvC scope cs C X.env) fp) elt (tE (kw X cl ex) W0 (evE c c' m)) := fun s H C cs fp => (S _ rfl (G.blk hcool s H scope C cs fp)).e _ _ h.2
    have e2 : ∀ (s : Shared) (H : Hp) (C : Addr) (cs : List (Str × Addr)) (fp : List Addr), PTs (X.blk s H scope (compEnvC scope cs C X.env) fp) ifs (tT (kw X cl ex) W0 (evC c c' cond)) := fun s H C cs fp => (S _ rfl (G.blk hcool s H scope C cs fp)).cd _ _ h.1.2
    have e3 : ∀ (s : Shared) (H : Hp) (C : Addr) (cs : List (Str × Addr)) (fp : List Addr), PG (X.blk s H scope (compEnvC scope cs C X.env) fp) tg (gT X.K tgt) := fun s H C cs fp => pg_tgt (X := X.blk s H scope (compEnvC scope cs C X.env) fp) G.nms G.nd (G.calm hcool) (G.blk hcool s H scope C cs fp).sc h.1.1.1.1.2 fun x hx => by
      have hh := List.all_eq_true.mp h.1.1.2 x hx
      rw [Bool.or_eq_true] at hh
      rcases hh with hh | hh
      · refine .inr ?_
        rw [(G.blk hcool s H scope C cs fp).sc]
        exact of_decide_eq_true hh
      · exact .inl hh
    refine impE (pe_lc (G.calm hcool) (by rw [G.nms]; exact G.nd) ((S _ rfl G).i _ _ _ h.1.1.1.1.1.1.2) (by rw [G.nms, G.sc]; exact ok) e3 e2 e1 (set_of h.1.1.1.1.1.2 _)) fun σ H Q q => ?_
    · rw [hv]
      exact conv_lc (G.cold hcool) q
  · cases h
theorem bl_tru2 (m : Mo Bool) : (m.bind fun t => Mo.pure (D.bl t)).bind truM = m := by
  funext η
  simp only [Mo.bind]
  cases m η <;> rfl
theorem conv_chainT {K : KW} {σ : L2.St} {H : Hp} {ma mb mc : Rho → Mo D} {f g : D → D → Hv → Option Bool} {Q : Bool → Hp → Prop}
    (h : tT K W (fun ρ => ((ma ρ).bind fun x => (mb ρ).bind fun y => (lookM (f x y)).bind fun t => if t = true then (mc ρ).bind fun z => (lookM (g y z)).bind fun u => .pure (.bl u) else .pure (.bl false)).bind truM) σ H Q) :
    tTest (tChain (r2c K f) (r2c K g) (tE K W ma) (tE K W mb) (tE K W mc)) σ H Q := by
  simp only [bind_assoc] at h
  obtain ⟨μ, η, ρ, wd, re, e⟩ := h
  refine ⟨μ, η, ρ, wd, re, (EndG.bind e).imp fun d η1 μ1 H1 af wd1 e2 v rv => ?_⟩
  refine ⟨μ1, η1, ρ, wd1, re.mono af, (EndG.bind e2).imp fun d2 η2 μ2 H2 af2 wd2 e4 v2 rv2 => ?_⟩
  obtain ⟨c, h1, q⟩ := EndG.look wd2 (EndG.bind e4)
  refine ⟨μ2, η2, d, d2, c, wd2, RV.mono af2 d v rv, rv2, h1, c, rfl, ?_⟩
  cases c with
  | true =>
    rw [if_pos rfl] at q ⊢
    simp only [bind_assoc] at q
    refine ⟨μ2, η2, ρ, wd2, (re.mono af).mono af2, (EndG.bind q).imp fun d3 η3 μ3 H3 af3 wd3 e5 v3 rv3 => ?_⟩
    obtain ⟨c3, h3, q3⟩ := EndG.look wd3 (EndG.bind e5)
    exact ⟨μ3, η3, d2, d3, c3, wd3, RV.mono af3 d2 v2 rv2, rv3, h3, c3, rfl, EndG.pure wd3 q3⟩
  | false =>
    rw [if_neg Bool.false_ne_true] at q ⊢
    exact ⟨false, rfl, EndG.pure wd2 q⟩
/-- expressions whose test is their value's truth -/
def plainT : Expr → Bool
  | .UnaryOp .Not _ _ => false
  | .BoolOp .. => false
  | .IfExp .. => false
  | .Compare .. => false
  | _ => true
theorem isTrue_of {e : Expr} (h : plainT e = true) (env : PySem.Env) (whole : Sem Value) : isTrue e env whole = (do let v ← whole; standAt e.pos; holding [v] (truthy v)) := by
  cases e with
  | UnaryOp op a p => cases op <;> first | rfl | (cases h; done)
  | _ => first | rfl | (cases h; done)
theorem sound_t (G : Good X cl ex T c k sc N W) {n : Nat} (S : ∀ n', n = n' + 1 → ∀ {X : Cx} {sc : Scope} {W : WS}, Good X cl ex T c k sc N W → SoundAt X cl ex T N c c' sc W n') : ∀ e m, ckE T N n sc e m = true → noIf e = true → PT X e (tT (kw X cl ex) W (fun ρ => (evE c c' m ρ).bind truM)) := by
  intro e m h hi
  by_cases hp : plainT e = true
  · exact impT (pt_truth (sound_e G S e m h) (isTrue_of hp X.env)) fun σ H Q q => conv_truth q
  · unfold ckE at h
    split at h <;> first | (exfalso; exact hp rfl) | (cases h; done) | skip
    · simp only [Bool.and_eq_true] at h
      rw [fE_not]
      exact impT (pt_not ((S _ rfl G).t _ _ h.1 h.2)) fun σ H Q q => conv_notT q
    · simp only [Bool.and_eq_true] at h
      rw [fE_and]
      exact impT (pw_and ((S _ rfl G).t _ _ h.1.1 h.1.2) ((S _ rfl G).a _ _ _ h.2).2).pt fun σ H Q q => conv_andT q
    · simp only [Bool.and_eq_true] at h
      rw [fE_or]
      exact impT (pw_or ((S _ rfl G).t _ _ h.1.1 h.1.2) ((S _ rfl G).o _ _ _ h.2).2).pt fun σ H Q q => conv_orT q
    · simp only [Bool.and_eq_true] at h
      rw [fE_cmp]
      exact impT (pt_cmpR (cm_of G h.1.1.1) ((S _ rfl G).e _ _ h.1.1.2) ((S _ rfl G).e _ _ h.1.2) (mark_of _ h.2)) fun σ H Q q => conv_cmpT q
    · simp only [Bool.and_eq_true] at h
      rw [fE_chn]
      exact impT (pt_chain (cm_of G h.1.1.1.1.1.1) (cm_of G h.1.1.1.1.1.2) ((S _ rfl G).e _ _ h.1.1.1.1.2) ((S _ rfl G).e _ _ h.1.1.1.2) ((S _ rfl G).e _ _ h.1.1.2) (by show behindInMarks _ _ = false; exact mark_of _ h.2)) fun σ H Q q => conv_chainT q
    · cases hi
theorem sound : ∀ n {X : Cx} {sc : Scope} {W : WS}, Good X cl ex T c k sc N W → SoundAt X cl ex T N c c' sc W n
  | 0, _, _, _, _ => sound_zero
  | n + 1, X, sc, W, G => by
    have S : SoundAt X cl ex T N c c' sc W n := sound n G
    have S' : ∀ n', n + 1 = n' + 1 → ∀ {X : Cx} {sc : Scope} {W : WS}, Good X cl ex T c k sc N W → SoundAt X cl ex T N c c' sc W n' := fun n' e {X sc W} G => by cases e; exact sound n G
    exact ⟨sound_e G S', sound_t G S', sound_es G S, sound_h G S, sound_c S, sound_i G (fun n' e => S' n' e G), sound_p S, sound_a G S, sound_o G S⟩
end
end MIS

set_option Elab.async false
set_option linter.all false
set_option maxRecDepth 100000
set_option maxHeartbeats 2000000
/-! MiS12: statements. -/
namespace MIS
open PySem PySem.Spec PyProof.Rows L2 MI
def FlR (K : KW) (D : Ends) (f : Fl) (μ : List Addr) (H : Hp) : Prop := match f with
  | .nx ρ => ∀ σ, RE K μ H ρ σ → D.nx σ H
  | .rt d => ∀ v, RV K μ H d v → D.rt v H
abbrev cW (W : WN) : WS := fun c _ H => W c H
abbrev EF (K : KW) (W : WN) (D : Ends) (μ : List Addr) (H : Hp) : Rs Fl → Prop := EndG K W μ H (fun f _ μ' H' => FlR K D f μ' H')
def tS (K : KW) (W : WN) (m : Rho → Mo Fl) : TS := fun D σ H => ∃ μ η ρ, Wd K μ H η ∧ RE K μ H ρ σ ∧ EF K W D μ H (m ρ η)
section
variable {K : KW} {W : WN} {μ μ1 : List Addr} {H H1 : Hp} {η : Hv} {ρ ρ1 : Rho} {σ : L2.St} {Z : Ends}
theorem conv_set {ma : Rho → Mo D} {i : Nat} (hn : ∀ a c, K.cl ≠ some (i, a, c)) (h : tS K W (fun ρ => (ma ρ).bind fun d => .pure (.nx (ρ.set i (some d)))) Z σ H) : tAsg (tE K (cW W) ma) (gName i) Z σ H := by
  obtain ⟨μ, η, ρ, wd, re, e⟩ := h
  refine ⟨μ, η, ρ, wd, re, (EndG.bind e).imp fun d η1 μ1 H1 af wd1 e2 v rv => ?_⟩
  exact EndG.pure wd1 e2 _ ((re.mono af).set i rv hn)
theorem conv_setLc (hcl : K.cl = none) {mi : Rho → Mo Nxt} {cond : Rho → Mo Bool} {elt : Rho → Mo D} {t : Tgt} {i : Nat} (h : tS K W (fun ρ => ((mi ρ).bind fun nx => (lcN nx t cond elt ρ WFu 0 []).bind fun acc => allocM (.lst acc)).bind fun d => .pure (.nx (ρ.set i (some d)))) Z σ H) :
    tAsg (tLc (tI K (cW W) mi) (gT K.K t) (tT K W0 cond) (tE K W0 elt) (vsT t)) (gName i) Z σ H := by
  obtain ⟨μ, η, ρ, wd, re, e⟩ := h
  refine conv_lc hcl ⟨μ, η, ρ, wd, re, (EndG.bind e).imp fun d η1 μ1 H1 af wd1 e2 v rv => ?_⟩
  exact EndG.pure wd1 e2 _ ((re.mono af).set i rv (ncl hcl i))
theorem conv_exp {ma : Rho → Mo D} (h : tS K W (fun ρ => (ma ρ).bind fun _ => .pure (.nx ρ)) Z σ H) : tDrop (tE K (cW W) ma) Z σ H := by
  obtain ⟨μ, η, ρ, wd, re, e⟩ := h
  refine ⟨μ, η, ρ, wd, re, (EndG.bind e).imp fun d η1 μ1 H1 af wd1 e2 v rv => ?_⟩
  exact EndG.pure wd1 e2 _ (re.mono af)
theorem conv_ret {ma : Rho → Mo D} (h : tS K W (fun ρ => (ma ρ).bind fun d => .pure (.rt d)) Z σ H) : tRet (tE K (cW W) ma) Z σ H := by
  obtain ⟨μ, η, ρ, wd, re, e⟩ := h
  refine ⟨μ, η, ρ, wd, re, (EndG.bind e).imp fun d η1 μ1 H1 af wd1 e2 v rv => ?_⟩
  exact EndG.pure wd1 e2 _ rv
theorem conv_retN (h : tS K W (fun ρ => (Mo.pure MI.D.non).bind fun d => .pure (.rt d)) Z σ H) : tRetN Z σ H := by
  obtain ⟨μ, η, ρ, wd, re, e⟩ := h
  exact EndG.pure wd (EndG.pure wd (EndG.bind e)) _ rfl
theorem conv_nx (h : tS K W (fun ρ => .pure (.nx ρ)) Z σ H) : tNext Z σ H := by
  obtain ⟨μ, η, ρ, wd, re, e⟩ := h
  exact EndG.pure wd e _ re
theorem conv_if {mt : Rho → Mo Bool} {ma mb : Rho → Mo Fl} (h : tS K W (fun ρ => (mt ρ).bind fun v => if v = true then ma ρ else mb ρ) Z σ H) : tIfS (tT K (cW W) mt) (tS K W ma) (tS K W mb) Z σ H := by
  obtain ⟨μ, η, ρ, wd, re, e⟩ := h
  refine ⟨μ, η, ρ, wd, re, (EndG.bind e).imp fun b η1 μ1 H1 af wd1 e2 => ?_⟩
  cases b with
  | true => exact iteT ⟨μ1, η1, ρ, wd1, re.mono af, e2⟩
  | false => exact iteF ⟨μ1, η1, ρ, wd1, re.mono af, e2⟩
theorem conv_seq {ma mb : Rho → Mo Fl} (h : tS K W (fun ρ => (ma ρ).bind fun | .nx ρ' => mb ρ' | .rt d => .pure (.rt d)) Z σ H) : tSeq (tS K W ma) (tS K W mb) Z σ H := by
  obtain ⟨μ, η, ρ, wd, re, e⟩ := h
  refine ⟨μ, η, ρ, wd, re, (EndG.bind e).imp fun f η1 μ1 H1 af wd1 e2 => ?_⟩
  cases f with
  | nx ρ1 => exact fun σ1 re1 => ⟨μ1, η1, ρ1, wd1, re1, e2⟩
  | rt d => exact EndG.pure wd1 e2
theorem conv_while {mc : Rho → Mo Bool} {mb : Rho → Mo Fl} (h : tS K W (fun ρ => whlN mc mb WFu ρ) Z σ H) : tWhile (tT K (cW W) mc) (tS K W mb) Z σ H := by
  refine ⟨fun m => tS K W (fun ρ => whlN mc mb m ρ) Z, ⟨WFu, h⟩, ?_⟩
  rintro m σ1 H1 ⟨μ, η, ρ, wd, re, e⟩
  cases m with
  | zero => exact e.elim
  | succ m =>
    refine ⟨μ, η, ρ, wd, re, (EndG.bind e).imp fun b η1 μ1 H1 af wd1 e2 => ?_⟩
    cases b with
    | true =>
      refine iteT ⟨fun σ H => tS K W (fun ρ => whlN mc mb m ρ) Z σ H, fun σ' H' q => ⟨m, Nat.lt_succ_self m, q⟩, μ1, η1, ρ, wd1, re.mono af, ?_⟩
      rw [if_pos rfl] at e2
      refine (EndG.bind e2).imp fun f η2 μ2 H2 af2 wd2 e3 => ?_
      cases f with
      | nx ρ2 => exact fun σ2 re2 => ⟨μ2, η2, ρ2, wd2, re2, e3⟩
      | rt d => exact EndG.pure wd2 e3
    | false =>
      rw [if_neg Bool.false_ne_true] at e2
      exact iteF (EndG.pure wd1 e2 _ (re.mono af))
theorem conv_for (hcl : K.cl = none) {mi : Rho → Mo Nxt} {mb : Rho → Mo Fl} {t : Tgt} (h : tS K W (fun ρ => (mi ρ).bind fun nx => forN nx t mb WFu 0 ρ) Z σ H) : tFor (tI K (cW W) mi) (gT K.K t) (tS K W mb) Z σ H := by
  obtain ⟨μ, η, ρ, wd, re, e⟩ := h
  refine ⟨μ, η, ρ, wd, re, (EndG.bind e).imp fun nx η1 μ1 H1 af wd1 e2 J hJ => ?_⟩
  refine ⟨fun i m σ2 H2 => ∃ μ2 η2 ρ2, Aft K μ1 H1 μ2 H2 ∧ Wd K μ2 H2 η2 ∧ RE K μ2 H2 ρ2 σ2 ∧ EF K W Z μ2 H2 (forN nx t mb m i ρ2 η2), ⟨WFu, μ1, η1, ρ, .refl, wd1, re.mono af, e2⟩, ?_⟩
  rintro i m σ2 H2 ⟨μ2, η2, ρ2, af2, wd2, re2, e3⟩
  cases m with
  | zero => exact e3.elim
  | succ m =>
    have jr := hJ μ2 H2 η2 i af2 wd2
    unfold forN at e3
    cases hx : nx i η2 with
    | none => rw [hx] at e3; exact e3.elim
    | some o =>
      rw [hx] at e3 jr
      cases o with
      | none => exact .inl ⟨jr, EndG.pure (a := Fl.nx ρ2) wd2 e3 _ re2⟩
      | some d =>
        simp only at e3 jr
        obtain ⟨jg, jy⟩ := jr
        cases hs : setT ρ2 t d with
        | none => rw [hs] at e3; exact e3.elim
        | some ρ3 =>
          rw [hs] at e3
          simp only at e3
          refine .inr ⟨jg, fun σ3 H3 => ∃ μ2 η2 ρ2, Aft K μ1 H1 μ2 H3 ∧ Wd K μ2 H3 η2 ∧ RE K μ2 H3 ρ2 σ3 ∧ EF K W Z μ2 H3 (forN nx t mb m (i + 1) ρ2 η2), fun σ' H' q => ⟨m, Nat.lt_succ_self m, q⟩, fun x H3 hy => ?_⟩
          obtain ⟨af3, wd3, rd3⟩ := jy x H3 hy
          refine gT_ok hcl (re2.mono af3) rd3 hs fun σ4 re4 _ => ⟨μ2, η2, ρ3, wd3, re4, ?_⟩
          refine (EndG.bind (e3.rebase af3)).imp fun f η4 μ4 H4 af4 wd4 e4 => ?_
          cases f with
          | nx ρ4 => exact fun σ5 re5 => ⟨μ4, η4, ρ4, (af2.trans af3).trans af4, wd4, re5, e4⟩
          | rt d => exact EndG.pure wd4 e4
theorem ixD_N {n : Nat} {i : Int} {j : Nat} (h : ixD n i = some j) : ixN n i = some j := by
  unfold ixD at h
  unfold ixN
  exact h
/-- a tuple or a list is told apart -/
def gUp (K : PySem.W.Frag) (n : Nat) (t : TGs) : TG := fun v σ H Q => gTup K n t v σ H Q ∨ gUnl K n t v σ H Q
/-- a, b, .. = e -/
def gL : List Nat → TGs
  | [] => gNil
  | i :: is => gCons (gName i) (gL is)
theorem gL_ok (hcl : K.cl = none) {H : Hp} {Q : L2.St → Hp → Prop} : ∀ {is : List Nat} {ds : List D} {vs : List V} {ρ ρ1 : Rho} {σ : L2.St}, RE K μ H ρ σ → RVs K μ H ds vs → setsL is ds ρ = some ρ1 → (∀ σ1, RE K μ H ρ1 σ1 → Q σ1 H) → gL is vs σ H Q
  | [], [], vs, ρ, ρ1, σ, re, rs, e, q => by
    cases e
    exact ⟨rs, q σ re⟩
  | [], _ :: _, _, _, _, _, _, _, e, _ => by cases e
  | _ :: _, [], _, _, _, _, _, _, e, _ => by cases e
  | i :: is, d :: ds, _, ρ, ρ1, σ, re, rs, e, q => by
    obtain ⟨v, r, rfl, h1, h2⟩ := rs
    exact ⟨v, r, rfl, gL_ok hcl (re.set i h1 (ncl hcl i)) h2 e q⟩
theorem setsL_len : ∀ {is : List Nat} {ds : List D} {ρ ρ1 : Rho}, setsL is ds ρ = some ρ1 → ds.length = is.length
  | [], [], _, _, _ => rfl
  | [], _ :: _, _, _, e => by cases e
  | _ :: _, [], _, _, e => by cases e
  | i :: is, d :: ds, ρ, ρ1, e => by rw [List.length_cons, List.length_cons, setsL_len (is := is) e]
theorem conv_upk (hcl : K.cl = none) {ma : Rho → Mo D} {is : List Nat} (h : tS K W (fun ρ => (ma ρ).bind fun d => (upkM d).bind fun ds => (ofO (setsL is ds ρ)).bind fun ρ' => .pure (.nx ρ')) Z σ H) : tAsg (tE K (cW W) ma) (gUp K.K is.length (gL is)) Z σ H := by
  obtain ⟨μ, η, ρ, wd, re, e⟩ := h
  refine ⟨μ, η, ρ, wd, re, (EndG.bind e).imp fun d η1 μ1 H1 af wd1 e2 v rv => ?_⟩
  have fin : ∀ (a : Addr) (ds : List D) (vs : List V), RVs K μ1 H1 ds vs → EF K W Z μ1 H1 (((ofO (setsL is ds ρ)).bind fun ρ' => Mo.pure (Fl.nx ρ')) η1) → vs.length = is.length ∧ gL is vs σ H1 Z.nx := fun a ds vs rs e2 => by
    cases es : setsL is ds ρ with
    | none => rw [es] at e2; exact (EndG.bind e2).elim
    | some ρ' =>
      rw [es] at e2
      have e3 : EF K W Z μ1 H1 (Mo.pure (Fl.nx ρ') η1) := e2
      exact ⟨by rw [rs.len]; exact setsL_len es, gL_ok hcl (re.mono af) rs es fun σ1 re1 => EndG.pure wd1 e3 _ re1⟩
  cases d with
  | tup ds =>
    obtain ⟨a, vs, rfl, hs, rs⟩ := rv
    obtain ⟨l1, l2⟩ := fin a ds vs rs e2
    exact .inl ⟨a, vs, rfl, hs, l1, l2⟩
  | ref i =>
    have e3 := EndG.bind (m := lookM fun h => MI.getR h (.ref i)) e2
    obtain ⟨ds, hd, e4⟩ := EndG.look wd1 e3
    obtain ⟨a, vs, rfl, hs, rs⟩ := wd1.getL rv hd
    obtain ⟨l1, l2⟩ := fin a ds vs rs e4
    exact .inr ⟨a, vs, rfl, hs, l1, l2⟩
  | _ => exact e2.elim
theorem conv_par (hcl : K.cl = none) {ma : Rho → Mo (List D)} {i j : Nat} (h : tS K W (fun ρ => (ma ρ).bind fun ds => (ofO (setsL [i, j] ds ρ)).bind fun ρ' => .pure (.nx ρ')) Z σ H) : tPar i j (tA K (cW W) ma) Z σ H := by
  obtain ⟨μ, η, ρ, wd, re, e⟩ := h
  refine ⟨μ, η, ρ, wd, re, (EndG.bind e).imp fun ds η1 μ1 H1 af wd1 e2 vs rs => ?_⟩
  cases es : setsL [i, j] ds ρ with
  | none => rw [es] at e2; exact (EndG.bind e2).elim
  | some ρ' =>
    rw [es] at e2
    have hl := setsL_len es
    match ds, rs, es, hl with
    | [a, b], rs, es, _ =>
      obtain ⟨va, vb, rfl, ra, rb⟩ := rs.two_inv
      cases es
      have e3 : EF K W Z μ1 H1 (Mo.pure (Fl.nx _) η1) := e2
      exact ⟨va, vb, rfl, EndG.pure wd1 e3 _ (((re.mono af).set i ra (ncl hcl i)).set j rb (ncl hcl j))⟩
/-- o[i] = e, on lists -/
theorem conv_sub {me mo mi : Rho → Mo D} (h : tS K W (fun ρ => (me ρ).bind fun d => (mo ρ).bind fun x => (mi ρ).bind fun k => (setM x k d).bind fun _ => .pure (.nx ρ)) Z σ H) :
    tAsg (tE K (cW W) me) (gSub (tE K (cW W) mo) (tE K (cW W) mi) rSetL) Z σ H := by
  obtain ⟨μ, η, ρ, wd, re, e⟩ := h
  refine ⟨μ, η, ρ, wd, re, (EndG.bind e).imp fun d η1 μ1 H1 af wd1 e2 v rv => ?_⟩
  refine ⟨μ1, η1, ρ, wd1, re.mono af, (EndG.bind e2).imp fun x η2 μ2 H2 af2 wd2 e3 v2 rv2 => ?_⟩
  refine ⟨μ2, η2, ρ, wd2, (re.mono af).mono af2, (EndG.bind e3).imp fun k η3 μ3 H3 af3 wd3 e4 v3 rv3 => ?_⟩
  have re3 := ((re.mono af).mono af2).mono af3
  have rd := RV.mono (af2.trans af3) d v rv
  have rx := RV.mono af3 x v2 rv2
  have e5 := EndG.bind e4
  unfold setM at e5
  cases x <;> first | exact e5.elim | skip
  obtain ⟨a, rfl, ha⟩ := rx
  simp only at e5
  split at e5
  · rename_i xs e6
    obtain ⟨vs, h1, h2⟩ := wd3.lst ha e6
    cases k <;> first | exact e5.elim | skip
    cases rv3
    simp only at e5
    split at e5
    · rename_i j e7
      refine ⟨a, vs, _, j, rfl, rfl, h1, by rw [h2.len]; exact ixD_N e7, ?_⟩
      have w := wd3.write (x := .lst (xs.set j d)) (o := .lst (vs.set j v)) ha h1 ⟨fun _ z => (nomatch z), fun _ _ z => (nomatch z)⟩ ⟨_, upd_same, RVs.mono (aft_write (List.mem_of_getElem? ha) h1 ⟨fun _ z => (nomatch z), fun _ _ z => (nomatch z)⟩) _ _ (h2.set j rd)⟩
      exact EndG.pure w.1 (e5 _ _ w.2 w.1) _ (re3.mono w.2)
    · exact e5.elim
  · rename_i kvs e6
    exact (wd3.obj _ a _ ha e6).elim
  · exact e5.elim
/-- raise -/
theorem conv_raise {c : Nat} (h : tS K W (fun _ => raiM c) Z σ H) : W c H := by
  obtain ⟨μ, η, ρ, wd, re, e⟩ := h
  exact e μ H .refl wd
/-- a try's body -/
def tX (K : KW) (W : WS) (m : Rho → Mo Unit) : TS := fun D σ H => ∃ μ η ρ, Wd K μ H η ∧ RE K μ H ρ σ ∧ EndG K (fun c H' => W c σ H') μ H (fun _ _ _ H' => D.nx σ H') (m ρ η)
theorem conv_xexp {W : WS} {ma : Rho → Mo D} (h : tX K W (fun ρ => (ma ρ).bind fun _ => .pure ()) Z σ H) : tSeq (tDrop (tE K W ma)) tNext Z σ H := by
  obtain ⟨μ, η, ρ, wd, re, e⟩ := h
  exact ⟨μ, η, ρ, wd, re, (EndG.bind e).imp fun d η1 μ1 H1 af wd1 e2 v rv => EndG.pure wd1 e2⟩
theorem conv_xif {W : WS} {mt : Rho → Mo Bool} {ma mb : Rho → Mo Unit} (h : tX K W (fun ρ => (mt ρ).bind fun v => if v = true then ma ρ else mb ρ) Z σ H) : tSeq (tIfS (tT K W mt) (tX K W ma) (tX K W mb)) tNext Z σ H := by
  obtain ⟨μ, η, ρ, wd, re, e⟩ := h
  refine ⟨μ, η, ρ, wd, re, (EndG.bind e).imp fun b η1 μ1 H1 af wd1 e2 => ?_⟩
  cases b with
  | true => exact iteT ⟨μ1, η1, ρ, wd1, re.mono af, e2⟩
  | false => exact iteF ⟨μ1, η1, ρ, wd1, re.mono af, e2⟩
/-- an except suite -/
def tHs (K : KW) (i : Nat) (m : Rho → Mo Fl) : Addr → Value → Option Addr → TS := fun a cls d D σ H => ∃ k, cls = .ref (K.ex k) ∧ d = none ∧ tS { K with cl := some (i, a, k) } (fun _ _ => False) m D σ H
theorem conv_try {mx : Rho → Mo Unit} {mb : Rho → Mo Fl} {i c0 : Nat} {C : Value} (hcl : K.cl = none) (hC : ∀ k, PySem.W.exmOne K.K (.ref (K.ex k)) C = some (subC k c0))
    (h : tS K W (fun ρ => fun h => match mx ρ h with
      | .ok _ h' => .ok (.nx ρ) h'
      | .ex k h' => (if subC k c0 then (safeM (mb (ρ.set i (some (.exc k))))).bind (fun
        | .nx ρ' => Mo.pure (.nx (ρ'.set i none))
        | .rt d => Mo.pure (.rt d)) else raiM k) h'
      | .bad => .bad) Z σ H) : tX K (fun k σ H => wAs K.K C i (tHs K i mb) (wx K.ex (cW W)) Z (.ref (K.ex k)) none σ H) mx Z σ H := by
  obtain ⟨μ, η, ρ, wd, re, e⟩ := h
  refine ⟨μ, η, ρ, wd, re, ?_⟩
  cases q : mx ρ η with
  | bad => simp only [q] at e; exact e.elim
  | ok u η1 =>
    simp only [q] at e
    exact fun μ1 H1 af wd1 => e μ1 H1 af wd1 σ (re.mono af)
  | ex k η1 =>
    simp only [q] at e
    intro μ1 H1 af wd1
    refine ⟨subC k c0, hC k, fun hb a ha => ⟨k, rfl, rfl, μ1, η1, ρ.set i (some (.exc k)), wd1.recl, (re.mono af).enter hcl i a k, ?_⟩, fun hb => ⟨k, rfl, rfl, ?_⟩⟩
    · rw [if_pos hb] at e
      have e1 := EndG.bind (e.rebase af)
      unfold safeM at e1
      cases q2 : mb (ρ.set i (some (.exc k))) η1 with
      | bad => simp only [q2] at e1; exact e1.elim
      | ex k2 η2 => simp only [q2] at e1; exact e1.elim
      | ok fl η2 =>
        simp only [q2] at e1
        have e2 : EndG K (fun _ _ => False) μ1 H1 (fun f η3 μ3 H3 => EF K W Z μ3 H3 ((fun | Fl.nx ρ' => Mo.pure (Fl.nx (ρ'.set i none)) | Fl.rt d => Mo.pure (Fl.rt d) : Fl → Mo Fl) f η3)) (Rs.ok fl η2) := e1
        refine EndG.recl e2 fun f η3 μ3 H3 af3 wd3 e3 => ?_
        cases f with
        | nx ρ' =>
          intro σ3 re3
          have r4 : RE K μ3 H3 (ρ'.set i none) (σ3.set i none) := by
            have r5 := RE.uncl (K := { K with cl := some (i, a, k) }) re3 rfl
            have eK : ({ ({ K with cl := some (i, a, k) } : KW) with cl := none } : KW) = K := by
              obtain ⟨k1, k2, k3, k4, k5⟩ := K
              cases hcl
              rfl
            rw [eK] at r5
            exact r5
          exact EndG.pure wd3 e3 _ r4
        | rt d =>
          intro v rv
          exact EndG.pure wd3 e3 v (RV.recl (K := { K with cl := some (i, a, k) }) (cl := K.cl) d v rv)
    · rw [hb, if_neg Bool.false_ne_true] at e
      exact e μ1 H1 af wd1
end
end MIS

set_option Elab.async false
set_option linter.all false
set_option maxRecDepth 100000
set_option maxHeartbeats 2000000
/-! MiS13: the checker of statements, and what it shows. -/
namespace MIS
open PySem PySem.Spec PyProof.Rows L2 MI
def loclB (sc : Scope) (x : Str) : Bool := decide (sc.names.lookup x = some .local)
def swOk (sc scope : Scope) (x : Str) (xp p : Pos) : Bool := decide (sc.kind = .function) && (xp.line == p.line) && !(scope.names.any fun (n, k) => n == x && (k == .local || k == .cell))
/-- names and their places -/
def upB (sc : Scope) (N : List Str) : List Expr → List Nat → Bool
  | [], [] => true
  | .Name x _ :: es, i :: is => decide (N[i]? = some x) && locB sc x && upB sc N es is
  | _, _ => false
def noTp : Expr → Bool
  | .Tuple es _ _ => es.all (foldedForSure 8) && (es.length == 2)
  | _ => true
def parB (sc : Scope) (N : List Str) (x y : Str) (px py : Pos) (i j : Nat) (a b : Expr) : Bool := decide (sc.kind = .function) && loclB sc x && loclB sc y && decide (N[i]? = some x) && decide (N[j]? = some y) && !(i == j) && (px.line == py.line) && !(x == y) && noStar a && noStar b && !(foldedForSure 8 a && foldedForSure 8 b) && !(constantsAlone 8 a && constantsAlone 8 b)
section
variable (T : Tab) (N : List Str)
/-- a try's body -/
def ckX : Nat → Scope → List Stmt → MT → Bool
  | 0, _, _, _ => false
  | n + 1, sc, [.Expr e _], .exp m => noComp e && ckE T N n sc e m
  | n + 1, sc, [.If t a b _], .ife m x y => ckE T N n sc t m && noIf t && ckX n sc a x && ckX n sc b y
  | _, _, _, _ => false
end
section
variable (T : Tab) (N : List Str) (tr : Nat → Scope → Stmt → MS → Bool)
mutual
def ckS : Nat → Scope → Stmt → MS → Bool
  | 0, _, _, _ => false
  | n + 1, sc, .Assign [.Name x xp] (.ListComp elt [⟨tg, iter, ifs, 0⟩] scope p) _, .set i (.lc t it cd m) => T.cool && ((decide (N[i]? = some x) && loclB sc x && swOk sc scope x xp p && ckI T N n sc tg iter it && noSet iter && tgB (relS scope sc) N tg t && blkC N sc scope (ownT tg t) &&
      ((tgN tg).all fun x => decide ((relS scope sc).names.lookup x = some .local) || (scope.names.lookup x == some .cell)) && ckC T N n (relS scope sc) ifs cd && ckE T N n (relS scope sc) elt m) ||
      (decide (N[i]? = some x) && locB sc x && !loclB sc x && ckE T N n sc (.ListComp elt [⟨tg, iter, ifs, 0⟩] scope p) (.lc t it cd m)))
  | n + 1, sc, .Assign [.Name x _] e _, .set i m => decide (T.es ≠ some i) && decide (N[i]? = some x) && locB sc x && noComp e && ckE T N n sc e m
  | n + 1, sc, .Assign [.Subscript o i _] e _, .sub mo mi me => noSlice i && noComp e && ckE T N n sc o mo && ckE T N n sc i mi && ckE T N n sc e me
  | n + 1, sc, .Assign [.Tuple es _ _] e _, .upk is m => T.cool && upB sc N es is && noComp e && noTp e && ckE T N n sc e m
  | n + 1, sc, .Assign [.Tuple [.Name x px, .Name y py] _ _] (.Tuple [a, b] _ _) _, .par [i, j] ms => T.cool && parB sc N x y px py i j a b && ckEs T N n sc [a, b] ms
  | n + 1, sc, .Expr e _, .exp m => noComp e && ckE T N n sc e m
  | n + 1, sc, .Return (some e) _, .ret m => ckE T N n sc e m
  | _ + 1, _, .Return none _, .ret (.cst .non) => true
  | n + 1, sc, .If t a b _, .ife m x y => ckE T N n sc t m && noIf t && ckB n sc a x && ckB n sc b y
  | n + 1, sc, .For tg iter body [] _, .for_ t it b => T.cool && ckI T N n sc tg iter it && noSet iter && tgB sc N tg t && ckB n sc body b
  | n + 1, sc, .While t body [] _, .whl m b => ckE T N n sc t m && noIf t && ckB n sc body b
  | _ + 1, _, .Pass _, .pas => true
  | _ + 1, _, .Raise .., .nev => true
  | _ + 1, sc, .Raise (some (.Call (.Name x _) [.Constant (.str _) _ _] [] _)) none _, .rse c => T.cool && glB sc x && nmB x && T.excs.contains (x, c)
  | n + 1, sc, .Try b hs oe fb p, .try_ mb l => tr n sc (.Try b hs oe fb p) (.try_ mb l)
  | _, _, _, _ => false
def ckB : Nat → Scope → List Stmt → List MS → Bool
  | 0, _, _, _ => false
  | _ + 1, _, [], [] => true
  | n + 1, sc, s :: r, m :: ms => ckS n sc s m && ckB n sc r ms
  | _, _, _, _ => false
end
end
/-- try .. except X as e, what is done there -/
def tryB (T : Tab) (N : List Str) : Nat → Scope → Stmt → MS → Bool
  | n, sc, .Try body [.ExceptHandler (some (.Name x _)) (some y) (s :: su) _] [] [] _, .try_ mb [(c, some i, ms)] => T.cool && glB sc x && nmB x && T.excs.contains (x, c) && decide (N[i]? = some y) && loclB sc y && ckX T N n sc body mb && ckB (T.heat (some i)) N (fun _ _ _ _ => false) n sc (s :: su) ms
  | _, _, _, _ => false
/-- a def's body -/
abbrev ckD (T : Tab) (N : List Str) (n : Nat) (sc : Scope) (b : List Stmt) (ms : List MS) : Bool := ckB T N (tryB T N) n sc b ms
/-- the body of a def that is handed a refusal -/
abbrev ckDH (T : Tab) (N : List Str) (n : Nat) (sc : Scope) (b : List Stmt) (ms : List MS) : Bool := ckB (T.heat (some 0)) N (fun _ _ _ _ => false) n sc b ms
theorem sw_no {e : Expr} (h : noComp e = true) (t : Option Expr) (l : Nat) (env : PySem.Env) : swapsWith e t l env = pure false := by
  cases e <;> first | rfl | (cases h; done)
theorem swS_no {e tg : Expr} (h : noComp e = true) (l : Nat) (env : PySem.Env) : swapsWithSole [tg] e l env = pure false := sw_no h _ _ _
theorem as_sub {i : Expr} (h : noSlice i = true) (o : Expr) (pos : Pos) (env : PySem.Env) (v : Value) : assign (.Subscript o i pos) env v = (do
      let ov ← holding [v] (eval o env)
      let iv ← holding [v, ov] (eval i env)
      standAt pos
      holding [v, ov, iv] (setItem ov iv v)
      release [v, ov, iv] []) := by
  cases i <;> first | rfl | (cases h; done)
structure SStm (X : Cx) (cl : HxC) (ex : Nat → Addr) (T : Tab) (N : List Str) (tr : Nat → Scope → Stmt → MS → Bool) (c c' : ClM) (sc : Scope) (W : WN) (n : Nat) : Prop where
  s : ∀ st m, ckS T N tr n sc st m = true → PS X st (tS (kw X cl ex) W (evS c c' m))
  b : ∀ sts ms, ckB T N tr n sc sts ms = true → PSs X sts (tS (kw X cl ex) W (evB c c' ms))
section
variable {X : Cx} {cl : HxC} {ex : Nat → Addr} {T : Tab} {c c' : ClM} {k : Nat} {sc : Scope} {N : List Str} {W : WN}
theorem locl_of {x : Str} (h : loclB sc x = true) : sc.names.lookup x = some .local := of_decide_eq_true h
theorem sw_cell {elt : Expr} {gs : List Comprehension} {scope : Scope} {pos py : Pos} {y : Str} {l : Nat} {env : PySem.Env} (h : env.scope.names.lookup y ≠ some .local) : swapsWith (.ListComp elt gs scope pos) (some (.Name y py)) l env = pure false := by
  have ky : (env.kindOf y == some .local) = false := by
    have e : env.kindOf y = env.scope.names.lookup y := rfl
    rw [e]
    cases q : env.scope.names.lookup y with
    | none => rfl
    | some z =>
      rw [q] at h
      cases z <;> first | rfl | exact absurd rfl h
  unfold swapsWith
  simp only [ky]
  rw [Bool.and_false, Bool.false_and, Bool.false_and]
theorem pgs_up (hN : X.N = N) (nd : N.Nodup) (hsc : X.env.scope = sc) (hfn : ∀ x, X.fn x = true) : ∀ {es : List Expr} {is : List Nat}, upB sc N es is = true → PGs X es (gL is) ∧ (assignEach es X.env).length = is.length ∧ (assignEach es X.env).findIdx? (·.1) = none
  | [], [], _ => ⟨pgs_nil, rfl, rfl⟩
  | .Name x p :: es, i :: is, h => by
    rw [upB] at h
    simp only [Bool.and_eq_true, decide_eq_true_eq] at h
    obtain ⟨h1, h2, h3⟩ := pgs_up hN nd hsc hfn h.2
    refine ⟨pgs_cons (pg_name (by rw [hN]; exact nd) (by rw [hN]; exact h.1.1) (by rw [hsc]; exact loc_of h.1.2) (.inl (hfn _))) h1, ?_, ?_⟩
    · show (assignEach es X.env).length + 1 = is.length + 1
      rw [h2]
    · have e : assignEach (.Name x p :: es) X.env = (false, assign (.Name x p) X.env) :: assignEach es X.env := rfl
      rw [e, List.findIdx?_cons, h3]
      rfl
  | [], _ :: _, h => by simp [upB] at h
  | e :: es, [], h => by cases e <;> simp [upB] at h
  | .Constant .. :: _, _ :: _, h => by simp [upB] at h
theorem pg_up (hN : X.N = N) (nd : N.Nodup) (hc : X.calm = true) (hsc : X.env.scope = sc) (hfn : ∀ x, X.fn x = true) {es : List Expr} {is : List Nat} {k : Nat} {p : Pos} (h : upB sc N es is = true) : PG X (.Tuple es k p) (gUp X.K is.length (gL is)) := by
  obtain ⟨h1, h2, h3⟩ := pgs_up (X := X) hN nd hsc hfn h
  refine ⟨fun pins s σ H v u Q I r hw => ?_⟩
  rcases hw with hw | hw
  · exact (pg_tup hc h1 h2 h3).run pins s σ H v u Q I r hw
  · exact (pg_unl hc h1 h2 h3).run pins s σ H v u Q I r hw
theorem sp_no {es : List Expr} {k : Nat} {p : Pos} {e : Expr} {env : PySem.Env} (h : noTp e = true) : swappedStores [.Tuple es k p] e env = pure none := by
  cases e <;> first | rfl | skip
  rename_i vs _ _
  have h2 : vs.all (foldedForSure 8) = true := by
    unfold noTp at h
    rw [Bool.and_eq_true] at h
    exact h.1
  unfold swappedStores
  dsimp only
  split
  · rfl
  · split
    · rfl
    · split
      · rfl
      · rfl
theorem sp_yes {x y : Str} {px py pt p2 : Pos} {k k2 : Nat} {a b' : Expr} {env : PySem.Env} (h1 : env.scope.kind = .function) (h2 : env.scope.names.lookup x = some .local) (h3 : env.scope.names.lookup y = some .local) (h4 : (px.line == py.line) = true) (h5 : (x == y) = false) (h6 : noStar a = true) (h7 : noStar b' = true) (h8 : (foldedForSure 8 a && foldedForSure 8 b') = false) (h9 : (constantsAlone 8 a && constantsAlone 8 b') = false) :
    swappedStores [.Tuple [.Name x px, .Name y py] k pt] (.Tuple [a, b'] k2 p2) env = pure (some [x, y]) := by
  have b : env.blockKind = .function := by
    unfold PySem.Env.blockKind
    rw [h1]; rfl
  have kx : (env.kindOf x == some .local) = true := by
    show (env.scope.names.lookup x == some .local) = true
    rw [h2]; rfl
  have ky : (env.kindOf y == some .local) = true := by
    show (env.scope.names.lookup y == some .local) = true
    rw [h3]; rfl
  have e1 : ([a, b'].all (foldedForSure 8)) = false := by
    rw [List.all_cons, List.all_cons, List.all_nil, Bool.and_true]; exact h8
  have e2 : ([a, b'].all (constantsAlone 8)) = false := by
    rw [List.all_cons, List.all_cons, List.all_nil, Bool.and_true]; exact h9
  have s1 : ∀ e, noStar e = true → (match e with | .Starred .. => true | _ => false) = false := fun e h => by cases e <;> first | rfl | cases h
  have l1 : ((Expr.Name x px).pos.line == (Expr.Name x px).pos.line) = true := by simp
  have l2 : ((Expr.Name y py).pos.line == (Expr.Name x px).pos.line) = true := by
    show (py.line == px.line) = true
    rw [eq_of_beq h4]; simp
  have ny : (y == x) = false := by
    rw [beq_eq_false_iff_ne] at h5 ⊢
    exact fun z => h5 z.symm
  have px0 : (px.line == px.line) = true := by simp
  have py0 : (py.line == px.line) = true := l2
  have s2 : ([a, b'].any fun | .Starred .. => true | _ => false) = false := by
    rw [List.any_cons, List.any_cons, List.any_nil, s1 a h6, s1 b' h7]; rfl
  unfold swappedStores
  simp only [List.length_cons, List.length_nil, b, s2, e1, e2, List.filterMap_cons, List.filterMap_nil, kx, ky, List.head?_cons, Option.map_some, Option.getD_some]
  simp [Expr.pos, py0, ny, h5, List.eraseDups, List.eraseDupsBy, List.eraseDupsBy.loop]
  rintro (z | z)
  · cases a <;> first | (cases h6; done) | cases z
  · cases b' <;> first | (cases h7; done) | cases z
theorem sound_s {tr : Nat → Scope → Stmt → MS → Bool} (hfn : ∀ x, X.fn x = true) (G : Good X cl ex T c k sc N (cW W)) (htr : ∀ n st m, tr n sc st m = true → PS X st (tS (kw X cl ex) W (evS c c' m))) {n : Nat} (S : ∀ n', n = n' + 1 → SStm X cl ex T N tr c c' sc W n') : SStm X cl ex T N tr c c' sc W n := by
    have E := fun n => sound (c' := c') n G
    have nd : X.N.Nodup := by rw [G.nms]; exact G.nd
    refine ⟨fun st m h => ?_, fun sts ms h => ?_⟩
    · unfold ckS at h
      split at h
      · cases h
      · rename_i n' x xp elt tg iter ifs scope p spos i tgt it cond m
        rw [Bool.and_eq_true, Bool.or_eq_true] at h
        obtain ⟨hcool, h⟩ := h
        have hcl : (kw X cl ex).cl = none := G.cold hcool
        rcases h with h | h
        rotate_left
        · simp only [Bool.and_eq_true, Bool.not_eq_true'] at h
          refine impS (ps_set nd (by rw [G.nms]; exact of_decide_eq_true h.1.1.1) (by rw [G.sc]; exact loc_of h.1.1.2) ((E _).e _ _ h.2) (sw_cell fun z => ?_) (.inl (hfn _))) fun D σ H q => conv_set (ncl hcl i) q
          rw [G.sc] at z
          have := h.1.2
          unfold loclB at this
          rw [decide_eq_true z] at this
          cases this
        simp only [Bool.and_eq_true] at h
        obtain ⟨⟨⟨⟨⟨⟨⟨⟨⟨h1, h2⟩, h3⟩, h4⟩, h5⟩, h6⟩, h7⟩, h8⟩, h9⟩, h10⟩ := h
        unfold swOk at h3
        simp only [Bool.and_eq_true, Bool.not_eq_true'] at h3
        obtain ⟨⟨k1, k2⟩, k3⟩ := h3
        have ok := blkOk_by h7
        have hv := own_vs h6
        have gb := fun (s : Shared) (H : Hp) (C : Addr) (cs : List (Str × Addr)) (fp : List Addr) => G.blk hcool s H scope C cs fp
        have e1 : ∀ (s : Shared) (H : Hp) (C : Addr) (cs : List (Str × Addr)) (fp : List Addr), PE (X.blk s H scope (compEnvC scope cs C X.env) fp) elt (tE (kw X cl ex) W0 (evE c c' m)) := fun s H C cs fp => (sound (c' := c') n' (gb s H C cs fp)).e _ _ h10
        have e2 : ∀ (s : Shared) (H : Hp) (C : Addr) (cs : List (Str × Addr)) (fp : List Addr), PTs (X.blk s H scope (compEnvC scope cs C X.env) fp) ifs (tT (kw X cl ex) W0 (evC c c' cond)) := fun s H C cs fp => (sound (c' := c') n' (gb s H C cs fp)).cd _ _ h9
        have e3 : ∀ (s : Shared) (H : Hp) (C : Addr) (cs : List (Str × Addr)) (fp : List Addr), PG (X.blk s H scope (compEnvC scope cs C X.env) fp) tg (gT X.K tgt) := fun s H C cs fp => pg_tgt (X := X.blk s H scope (compEnvC scope cs C X.env) fp) G.nms G.nd (G.calm hcool) (gb s H C cs fp).sc h6 fun x hx => by
          have hh := List.all_eq_true.mp h8 x hx
          rw [Bool.or_eq_true] at hh
          rcases hh with hh | hh
          · refine .inr ?_
            rw [(gb s H C cs fp).sc]
            exact of_decide_eq_true hh
          · exact .inl hh
        refine impS (ps_setLc (G.calm hcool) nd (by rw [G.nms]; exact of_decide_eq_true h1) (by rw [G.sc]; exact locl_of h2) (sw_true (by rw [G.sc]; exact of_decide_eq_true k1) (by rw [G.sc]; exact locl_of h2) k2 k3) ((E _).i _ _ _ h4) (by rw [G.nms, G.sc]; exact ok) e3 e2 e1 (set_of h5 _)) fun D σ H q => ?_
        · rw [hv]
          obtain ⟨μ, η, ρ, wd, re, e⟩ := q
          exact conv_setLc hcl ⟨μ, η, ρ, wd, re, e⟩
      · simp only [Bool.and_eq_true] at h
        exact impS (ps_set nd (by rw [G.nms]; exact of_decide_eq_true h.1.1.1.2) (by rw [G.sc]; exact loc_of h.1.1.2) ((E _).e _ _ h.2) (sw_no h.1.2 _ _ _) (.inl (hfn _))) fun D σ H q => conv_set (G.slot (of_decide_eq_true h.1.1.1.1)) q
      · simp only [Bool.and_eq_true] at h
        exact impS (ps_asg ((E _).e _ _ h.2) (pg_sub ((E _).e _ _ h.1.1.2) ((E _).e _ _ h.1.2) set_list (as_sub h.1.1.1.1 _ _ _)) (swS_no h.1.1.1.2 _ _)) fun D σ H q => conv_sub q
      · simp only [Bool.and_eq_true] at h
        refine impS (ps_asg ((E _).e _ _ h.2) (pg_up G.nms G.nd (G.calm h.1.1.1.1) G.sc hfn h.1.1.1.2) (swS_no h.1.1.2 _ _) (sp_no h.1.2)) fun D σ H q => conv_upk (G.cold h.1.1.1.1) q
      · simp only [Bool.and_eq_true] at h
        have hp := h.1.2
        unfold parB at hp
        simp only [Bool.and_eq_true, Bool.not_eq_true', decide_eq_true_eq] at hp
        obtain ⟨⟨⟨⟨⟨⟨⟨⟨⟨⟨⟨p1, p2⟩, p3⟩, p4⟩, p5⟩, p6⟩, p7⟩, p8⟩, p9⟩, p10⟩, p11⟩, p12⟩ := hp
        exact impS (ps_par (G.calm h.1.1) nd (by rw [G.nms]; exact p4) (by rw [G.nms]; exact p5) (fun z => by rw [z] at p6; simp at p6) (by rw [G.sc]; exact locl_of p2) (by rw [G.sc]; exact locl_of p3) ((E _).es _ _ h.2)
          (sp_yes (by rw [G.sc]; exact p1) (by rw [G.sc]; exact locl_of p2) (by rw [G.sc]; exact locl_of p3) p7 p8 p9 p10 p11 p12)) fun D σ H q => conv_par (G.cold h.1.1) q
      · simp only [Bool.and_eq_true] at h
        exact impS (ps_expr ((E _).e _ _ h.2) (sw_no h.1 _ _ _)) fun D σ H q => conv_exp q
      · exact impS (ps_ret ((E _).e _ _ h)) fun D σ H q => conv_ret q
      · exact impS ps_retN fun D σ H q => conv_retN q
      · simp only [Bool.and_eq_true] at h
        exact impS (ps_if ((E _).t _ _ h.1.1.1 h.1.1.2) ((S _ rfl).b _ _ h.1.2) ((S _ rfl).b _ _ h.2)) fun D σ H q => conv_if q
      · simp only [Bool.and_eq_true] at h
        exact impS (ps_for G.po (G.calm h.1.1.1.1) ((E _).i _ _ _ h.1.1.1.2) (pg_tgt G.nms G.nd (G.calm h.1.1.1.1) G.sc h.1.2 fun x hx => .inl (hfn _)) ((S _ rfl).b _ _ h.2) (set_of h.1.1.2 _)) fun D σ H q => conv_for (G.cold h.1.1.1.1) q
      · simp only [Bool.and_eq_true] at h
        exact impS (ps_while G.po ((E _).t _ _ h.1.1 h.1.2) ((S _ rfl).b _ _ h.2)) fun D σ H q => conv_while q
      · exact impS ps_pass fun D σ H q => conv_nx q
      · exact impS ps_never fun D σ H q => by
          obtain ⟨μ, η, ρ, wd, re, e⟩ := q
          exact e.elim
      · simp only [Bool.and_eq_true] at h
        have F := G.fs.ec _ (List.contains_iff_mem.mp h.2)
        exact impS (ps_raise (G.calm h.1.1.1) G.tk (pmk_own PySem.F.excBase_ValueError F.ci F.mg F.kp (raises_own F.sb F.ty) (G.gl h.1.1.2) (nm_dbg h.1.2))) fun D σ H q => ⟨_, rfl, rfl, conv_raise q⟩
      · exact htr _ _ _ h
      · cases h
    · unfold ckB at h
      split at h
      · cases h
      · exact impB pss_nil fun D σ H q => conv_nx q
      · simp only [Bool.and_eq_true] at h
        exact impB (pss_cons ((S _ rfl).s _ _ h.1) ((S _ rfl).b _ _ h.2)) fun D σ H q => conv_seq q
      · cases h
theorem stm {tr : Nat → Scope → Stmt → MS → Bool} (hfn : ∀ x, X.fn x = true) (G : Good X cl ex T c k sc N (cW W)) (htr : ∀ n st m, tr n sc st m = true → PS X st (tS (kw X cl ex) W (evS c c' m))) : ∀ n, SStm X cl ex T N tr c c' sc W n
  | 0 => sound_s hfn G htr fun _ e => nomatch e
  | n + 1 => sound_s hfn G htr fun n' e => by cases e; exact stm hfn G htr n
theorem sound_x {W : WS} (G : Good X cl ex T c k sc N W) : ∀ (n : Nat) (b : List Stmt) (m : MT), ckX T N n sc b m = true → PSs X b (tX (kw X cl ex) W (evX c c' m)) := by
  intro n
  induction n with
  | zero => intro b m h; simp [ckX] at h
  | succ n ih =>
    intro b m h
    unfold ckX at h
    split at h
    · rename_i e1; cases e1
    · rename_i e1
      cases e1
      simp only [Bool.and_eq_true] at h
      exact impB (pss_cons (ps_expr ((sound n G).e _ _ h.2) (sw_no h.1 _ _ _)) pss_nil) fun D σ H q => conv_xexp q
    · rename_i e1
      cases e1
      simp only [Bool.and_eq_true] at h
      exact impB (pss_cons (ps_if ((sound n G).t _ _ h.1.1.1 h.1.1.2) (ih _ _ h.1.2) (ih _ _ h.2)) pss_nil) fun D σ H q => conv_xif q
    · cases h
theorem Good.noHot {W : WS} (G : Good X cl ex T c k sc N W) (hes : T.cool = true) (i : Nat) (hi : T.es = some i) : False := by
  obtain ⟨a, j, oe, e, _⟩ := G.hx i hi
  rw [G.cold hes] at e
  cases e
theorem Good.tr {W : WS} (G : Good X cl ex T c k sc N W) (hes : T.cool = true) (pn : List (Addr × Obj)) (xe : Value → Shared → Prop) (W2 : WS) (tk : Takes (X.tr pn xe) (wx ex W2)) (po : PassesOwn (model X.prog X.w) X.A X.env xe) : Good (X.tr pn xe) cl ex T c k sc N W2 :=
  ⟨G.sc, G.nms, G.nd, G.calm, G.room, G.roomC, G.gds, tk, po, G.fs.sub rfl rfl rfl rfl rfl, G.cold, G.noes, fun ⟨i, hi⟩ => (G.noHot hes i hi).elim, fun i hi => (G.noHot hes i hi).elim⟩
theorem Good.suite {W : WS} (G : Good X cl ex T c k sc N W) (i : Nat) (a : Addr) (j : Nat) (oe : Obj) (pn : List (Addr × Obj)) (hz : Zc (.ref (ex j)) none oe) (hf : ∃ z, oe.data = .fields z) : Good (X.suite a ((a, oe) :: pn)) (some (i, a, j)) ex (T.heat (some i)) c k sc N (cW fun _ _ => False) :=
  ⟨G.sc, G.nms, G.nd, fun z => (nomatch z), ⟨G.room.dp, G.room.un⟩, fun z => (nomatch z), G.gds, fun u s' x => by
    obtain ⟨_, _, _, _, _, _, _, _, _, _, _, _, _, _, _, _, z⟩ := x
    obtain ⟨_, _, _, z⟩ := z
    exact z.elim, PassesOwn.never, ⟨fun p hp => (nomatch hp), fun p hp => (by
      obtain ⟨u, v, z1, z2, z3⟩ := G.fs.cs p hp
      exact ⟨u, v, z1, z2, fun μ H => RV.recl (K := kw X cl ex) _ _ (z3 μ H)⟩), G.fs.bt, fun p hp => ⟨(G.fs.hf p hp).g⟩, G.fs.ec, G.fs.eg⟩,
    fun z => (nomatch z), fun z => (nomatch z), fun _ _ _ _ z => z, fun i' hi => by
      have e : i = i' := Option.some.inj hi
      subst e
      exact ⟨a, j, oe, rfl, List.mem_cons_self, hz, hf⟩⟩
theorem sound_try (hfn : ∀ x, X.fn x = true) (hs : X.stack = X.env :: X.outer) (hfr : X.env.frame = some X.env.locals) (G : Good X cl ex T c k sc N (cW W)) : ∀ n st m, tryB T N n sc st m = true → PS X st (tS (kw X cl ex) W (evS c c' m)) := by
  intro n st m h
  unfold tryB at h
  split at h
  · skip
    rename_i body x px y s su ph pt mb c0 i ms
    simp only [Bool.and_eq_true] at h
    obtain ⟨⟨⟨⟨⟨⟨⟨h1, h2⟩, h3⟩, h4⟩, h5⟩, h6⟩, h7⟩, h8⟩ := h
    have F := G.fs.ec _ (List.contains_iff_mem.mp h4)
    have hln : X.env.kindOf y = some .local := by
      show X.env.scope.names.lookup y = _
      rw [G.sc]
      exact locl_of h6
    refine impS (ps_try_as (i := i) (tb := fun W2 => tX (kw X cl ex) (fun k σ H => W2 (.ref (ex k)) none σ H) (evX c c' mb)) (ts := tHs (kw X cl ex) i (evB c c' ms)) hs hfr (by rw [G.nms]; exact G.nd) (by rw [G.nms]; exact of_decide_eq_true h5) hln ⟨G.gl h2, nm_dbg h3, .inl F.mg⟩ G.tk
      (fun W2 pn xe tk po => sound_x (G.tr h1 pn xe _ (tk.imp fun cls d σ H q => ?_) po) n _ _ h7) (fun a oe cls d pn hz hf => ?_)) fun D σ H q => ?_
    · obtain ⟨k, rfl, rfl, q⟩ := q
      exact q
    · refine ⟨fun pins s' σ H D I q => ?_⟩
      obtain ⟨k, rfl, rfl, q⟩ := q
      exact ((stm (W := fun _ _ => False) (c' := c') (tr := fun _ _ _ _ => false) (X := X.suite a ((a, oe) :: pn)) hfn (G.suite i a k oe pn hz hf) (fun _ _ _ z => nomatch z) n).b _ _ h8).run pins s' σ H D I q
    · refine conv_try (c0 := c0) (G.cold h1) F.em ?_
      obtain ⟨μ, η, ρ, wd, re, e⟩ := q
      refine ⟨μ, η, ρ, wd, re, ?_⟩
      exact e
  · cases h
end
end MIS

set_option Elab.async false
set_option linter.all false
set_option maxRecDepth 100000
set_option maxHeartbeats 2000000
/-! MiS14: defs, and the law's end. -/
namespace MIS
open PySem PySem.Spec PyProof.Rows L2 MI
def scB (N ps : List Str) (sc : Scope) : Bool := decide (sc.kind = .function) && !sc.isCoroutine && !sc.isGenerator && decide N.Nodup && decide (N.take ps.length = ps) &&
  (ps.all fun x => decide (sc.names.lookup x = some .local) || decide (sc.names.lookup x = some .cell)) && sc.names.all fun y => decide (y.2 ≠ .free)
theorem sc_of {N ps : List Str} {sc : Scope} (h : scB N ps sc = true) : FnScope N ps sc := by
  unfold scB at h
  simp only [Bool.and_eq_true, Bool.not_eq_true', decide_eq_true_eq, List.all_eq_true, Bool.or_eq_true] at h
  obtain ⟨⟨⟨⟨⟨⟨h1, h2⟩, h3⟩, h4⟩, h5⟩, h6⟩, h7⟩ := h
  exact ⟨h1, h2, h3, h4, h5, h6, h7⟩
structure DefAt (K : PySem.W.Frag) (P : PrM) (T : Tab) (f : String) (ar : Nat) (a : Addr) (fdat : FuncData) (ps : List Str) : Prop where
  g : ∃ (nm : Str) (st : Stmt) (N : List Str) (fd : FD) (fuel : Nat), L2.Fun K nm nm st a fdat ∧ Binds K fdat ps [] ∧ P f = some fd ∧
    (scB N ps (defScope st) && ckD T N fuel (defScope st) (defBody st) fd.body && (ps.length == ar) && (fd.ar == ar) && (fd.ns == N.length)) = true
def DefOk (K : PySem.W.Frag) (mg : Str → Option Value) (P : PrM) (T : Tab) (x : Str) (f : String) (ar : Nat) : Prop := ∃ (a : Addr) (fdat : FuncData) (ps : List Str), mg x = some (.ref a) ∧ DefAt K P T f ar a fdat ps
/-- the same of a def that is handed a refusal -/
structure DefAtH (K : PySem.W.Frag) (P : PrM) (T : Tab) (f : String) (ar : Nat) (a : Addr) (fdat : FuncData) (ps : List Str) : Prop where
  g : ∃ (nm : Str) (st : Stmt) (N : List Str) (fd : FD) (fuel : Nat), L2.Fun K nm nm st a fdat ∧ Binds K fdat ps [] ∧ P f = some fd ∧
    (scB N ps (defScope st) && ckDH T N fuel (defScope st) (defBody st) fd.body && (ps.length == ar) && (fd.ar == ar) && (fd.ns == N.length) && (0 < ar)) = true
def DefOkH (K : PySem.W.Frag) (mg : Str → Option Value) (P : PrM) (T : Tab) (x : Str) (f : String) (ar : Nat) : Prop := ∃ (a : Addr) (fdat : FuncData) (ps : List Str), mg x = some (.ref a) ∧ DefAtH K P T f ar a fdat ps
def FnS (prog : Program) (w : World) (K : PySem.W.Frag) (mg : Str → Option Value) (base : Heap) (ex : Nat → Addr) (P : PrM) (n : Nat) (p : Str × String × Nat) : Prop :=
  ∃ a, mg p.1 = some (.ref a) ∧ PySem.W.keepIn K (.ref a) = true ∧ ∃ fdat ps, ps.length = p.2.2 ∧ FnG prog w K mg base n a fdat ps (spF ⟨K, w, prog, none, ex⟩ p.2.2 (callN P n p.2.1)) ∧ Binds K fdat ps []
def HotS (prog : Program) (w : World) (K : PySem.W.Frag) (mg : Str → Option Value) (base : Heap) (ex : Nat → Addr) (P : PrM) (n : Nat) (p : Str × String × Nat) : Prop :=
  ∃ a, mg p.1 = some (.ref a) ∧ PySem.W.keepIn K (.ref a) = true ∧ ∃ fdat ps, ps.length = p.2.2 ∧ FnE prog w K mg base n a fdat ps (spE ⟨K, w, prog, none, ex⟩ p.2.2 (callN P n p.2.1)) ∧ Binds K fdat ps []
/-- what the program's top must say -/
structure TopF (w : World) (prog : Program) (K : PySem.W.Frag) (mg : Str → Option Value) (ex : Nat → Addr) (P : PrM) (T : Tab) : Prop where
  fn : ∀ p ∈ T.fns, DefOk K mg P T p.1 p.2.1 p.2.2
  hf : ∀ p ∈ T.hfns, DefOkH K mg P T p.1 p.2.1 p.2.2
  cs : ∀ p ∈ T.consts, ∃ u v, mg p.1 = some u ∧ RelV v u ∧ ∀ μ H, RV ⟨K, w, prog, none, ex⟩ μ H p.2 v
  bt : ∀ x ∈ T.blts, mg x = none
  ec : ∀ p ∈ T.excs, ExcF K mg ex p.1 p.2
  eg : T.excs ≠ [] → ExcG K ex
  cool : T.cool = true
  es : T.es = none
section
variable {prog : Program} {w : World} {K : PySem.W.Frag} {mg : Str → Option Value} {base : Heap} {ex : Nat → Addr} {P : PrM} {T : Tab}
theorem RE.start {KK : KW} {μ : List Addr} {H : Hp} {ds : List D} {vs : List V} {N : List Str} {m : Nat} (rs : RVs KK μ H ds vs) (hcl : KK.cl = none) (hm : m = N.length - vs.length) : RE KK μ H (ds.map some ++ List.replicate m none) (L2.start N vs) := by
  subst hm
  refine ⟨by simp [L2.start, rs.len], fun i d h => ?_⟩
  unfold L2.start
  by_cases hi : i < ds.length
  · rw [List.getElem?_append_left (by simpa using hi)] at h
    rw [List.getElem?_append_left (by simpa [rs.len] using hi)]
    rw [List.getElem?_map] at h ⊢
    cases e : ds[i]? with
    | none => rw [e] at h; cases h
    | some y =>
      rw [e] at h
      cases h
      obtain ⟨v, h1, h2⟩ := rs.get e
      exact ⟨v, by rw [h1]; rfl, .inl ⟨ncl hcl i, h2⟩⟩
  · rw [List.getElem?_append_right (by simpa using Nat.le_of_not_lt hi), List.getElem?_replicate] at h
    split at h <;> cases h
theorem hots_zero (F : TopF w prog K mg ex P T) : ∀ p ∈ T.hfns, HotS prog w K mg base ex P 0 p := fun p hp => by
  obtain ⟨a, fdat, ps, hm, d⟩ := F.hf p hp
  obtain ⟨nm, st, N, fd, fuel, F1, B, hP, hck⟩ := d.g
  simp only [Bool.and_eq_true] at hck
  have hl : ps.length = p.2.2 := eq_of_beq hck.1.1.1.2
  refine ⟨a, hm, F1.kp, fdat, ps, hl, ⟨fun _ vs H Q E h => by rw [hl]; exact h.1, fun A outer s H args us vs Q E p _ _ _ _ _ _ h => ?_⟩, B⟩
  obtain ⟨_, j, μ, η, ds, us, _, _, _, wd, rs, e⟩ := h
  exact e.elim
theorem run_eq {f : String} {fd : FD} {n : Nat} {ds : List D} {η : Hv} (hP : P f = some fd) (hz : ds.length = fd.ar) : callN P (n + 1) f ds η = ((evB (calls P n).1 (calls P n).2 fd.body (ds.map some ++ List.replicate (fd.ns - fd.ar) none)).bind fun
    | .rt d => .pure d
    | .nx _ => .pure .non) η := by
  show runP P (calls P n).1 (calls P n).2 f ds η = _
  unfold runP
  rw [hP]
  show runF _ _ fd ds η = _
  unfold runF
  rw [if_pos hz]
  all_goals exact congrFun (congrArg _ (funext fun f => by cases f <;> rfl)) _
theorem hots_step (F : TopF w prog K mg ex P T) {n : Nat} (ih : ∀ p ∈ T.hfns, HotS prog w K mg base ex P n p) : ∀ p ∈ T.hfns, HotS prog w K mg base ex P (n + 1) p := fun p hp => by
  obtain ⟨a, fdat, ps, hm, d⟩ := F.hf p hp
  obtain ⟨nm, st, N, fd, fuel, F1, B, hP, hck⟩ := d.g
  simp only [Bool.and_eq_true] at hck
  obtain ⟨⟨⟨⟨⟨c1, c2⟩, c3⟩, c4⟩, c5⟩, c6⟩ := hck
  have hl : ps.length = p.2.2 := eq_of_beq c3
  have ha : fd.ar = p.2.2 := eq_of_beq c4
  have hn : fd.ns = N.length := eq_of_beq c5
  have hpos : 0 < p.2.2 := of_decide_eq_true c6
  have sc := sc_of c1
  refine ⟨a, hm, F1.kp, fdat, ps, hl, Fun.okE F1 sc (fun _ vs H Q E h => by rw [hl]; exact h.1) (fun cdv A outer s H vs Q E p0 hr gg h => ?_), B⟩
  obtain ⟨hlen, j, μ, η, ds, us, rfl, hz, hfl, wd, rs, e⟩ := h
  have G : Good (L2H.cxH (L2.CX prog w) prog w K mg base N nm (defScope st) a cdv A outer s H E p0) (some (0, p0.1, j)) ex (T.heat (some 0)) (callN P n) n (defScope st) N (cW fun _ _ => False) := by
    refine ⟨rfl, rfl, sc.nd, fun z => (nomatch z), hr, fun z => (nomatch z), gg, fun u s' x => ?_, passes_of rfl, ⟨fun p hp => (nomatch hp), fun p hp => ?_, F.bt, fun p hp => ⟨ih p hp⟩, F.ec, F.eg⟩, fun z => (nomatch z), fun z => (nomatch z), fun _ _ _ _ z => z, fun i hi => ?_⟩
    · obtain ⟨_, _, _, _, _, _, _, _, _, _, _, _, _, _, _, _, z⟩ := x
      obtain ⟨_, _, _, z⟩ := z
      exact z.elim
    · obtain ⟨u, v, z1, z2, z3⟩ := F.cs p hp
      exact ⟨u, v, z1, z2, fun μ H => RV.recl (K := ⟨K, w, prog, none, ex⟩) _ _ (z3 μ H)⟩
    · have e : 0 = i := Option.some.inj hi
      subst e
      exact ⟨p0.1, j, p0.2, rfl, List.mem_cons_self, hz, hfl⟩
  refine ⟨_, (stm (c' := (calls P n).2) (tr := fun _ _ _ _ => false) (fun _ => rfl) G (fun _ _ _ z => nomatch z) fuel).b _ _ c2, ?_⟩
  have hzl : (D.exc j :: ds).length = fd.ar := by
    rw [List.length_cons, ← rs.len, ha, ← hlen, List.length_cons]
  rw [run_eq hP hzl] at e
  have re0 : RE ⟨K, w, prog, none, ex⟩ μ H ((D.non :: ds).map some ++ List.replicate (fd.ns - fd.ar) none) (L2.start N (V.non :: us)) := RE.start ⟨.non, us, rfl, rfl, rs⟩ rfl (by rw [hn, ← hzl, List.length_cons, List.length_cons, rs.len])
  have re1 := re0.enter rfl 0 p0.1 j
  refine ⟨μ, η, _, wd.recl, re1, ?_⟩
  refine EndG.recl (EndG.bind e) fun fl η1 μ1 H1 af wd1 e2 => ?_
  cases fl with
  | nx ρ1 => exact fun σ1 _ => EndG.pure wd1 e2 _ rfl
  | rt d => exact fun v rv => EndG.pure wd1 e2 v (RV.recl (K := ⟨K, w, prog, some (0, p0.1, j), ex⟩) (cl := none) d v rv)
theorem hots_all (F : TopF w prog K mg ex P T) : ∀ n, ∀ p ∈ T.hfns, HotS prog w K mg base ex P n p
  | 0 => hots_zero F
  | n + 1 => hots_step F (hots_all F n)
theorem fns_zero (F : TopF w prog K mg ex P T) : ∀ p ∈ T.fns, FnS prog w K mg base ex P 0 p := fun p hp => by
  obtain ⟨a, fdat, ps, hm, d⟩ := F.fn p hp
  obtain ⟨nm, st, N, fd, fuel, F1, B, hP, hck⟩ := d.g
  simp only [Bool.and_eq_true] at hck
  have hl : ps.length = p.2.2 := eq_of_beq hck.1.1.2
  refine ⟨a, hm, F1.kp, fdat, ps, hl, ⟨fun vs H Q E h => by rw [hl]; exact h.1, fun A outer s H args us vs Q E _ _ _ _ _ h => ?_⟩, B⟩
  obtain ⟨_, μ, η, ds, wd, rs, e⟩ := h
  exact e.elim
theorem def_step {f : String} {ar : Nat} {a : Addr} {fdat : FuncData} {ps : List Str} (d : DefAt K P T f ar a fdat ps) (F : TopF w prog K mg ex P T) {n : Nat} (ih : ∀ p ∈ T.fns, FnS prog w K mg base ex P n p) :
    PySem.W.keepIn K (.ref a) = true ∧ ps.length = ar ∧ FnG prog w K mg base (n + 1) a fdat ps (spF ⟨K, w, prog, none, ex⟩ ar (callN P (n + 1) f)) ∧ Binds K fdat ps [] := by
  obtain ⟨nm, st, N, fd, fuel, F1, B, hP, hck⟩ := d.g
  simp only [Bool.and_eq_true] at hck
  obtain ⟨⟨⟨⟨c1, c2⟩, c3⟩, c4⟩, c5⟩ := hck
  have hl : ps.length = ar := eq_of_beq c3
  have ha : fd.ar = ar := eq_of_beq c4
  have hn : fd.ns = N.length := eq_of_beq c5
  have sc := sc_of c1
  refine ⟨F1.kp, hl, Fun.okG F1 sc (fun vs H Q E h => by rw [hl]; exact h.1) (fun cdv A outer s H vs Q E hr gg h => ?_), B⟩
  have no : ∀ i, T.es = some i → False := fun i hi => by
    rw [F.es] at hi
    cases hi
  have G : Good (cxOf (L2.CX prog w) prog w K mg base N nm (defScope st) a cdv A outer s H E) none ex T (callN P n) n (defScope st) N (cW fun k H' => E (.ref (ex k)) none H') := by
    refine ⟨rfl, rfl, sc.nd, fun _ => rfl, L2H.roomH_of hr, fun _ => hr, gg, ?_, ?_, ⟨fun p hp => ⟨ih p hp⟩, F.cs, F.bt, fun p hp => ⟨hots_all F n p hp⟩, F.ec, F.eg⟩, fun _ => rfl, fun _ => rfl, fun ⟨i, hi⟩ => (no i hi).elim, fun i hi => (no i hi).elim⟩
    · refine (takes_of (E := E) rfl rfl rfl rfl).imp fun c d σ H q => ?_
      obtain ⟨k, e1, e2, w⟩ := q
      subst e1 e2
      exact w
    · exact passes_of rfl
  refine ⟨_, (stm (c' := (calls P n).2) (tr := tryB T N) (fun _ => rfl) G (sound_try (fun _ => rfl) rfl rfl G) fuel).b _ _ c2, ?_⟩
  obtain ⟨hlen, μ, η, ds, wd, rs, e⟩ := h
  have hz : ds.length = fd.ar := by rw [← rs.len, hlen, ha]
  refine ⟨μ, η, ds.map some ++ List.replicate (fd.ns - fd.ar) none, wd, RE.start rs rfl (by rw [hn, ← hz, rs.len]), ?_⟩
  rw [run_eq hP hz] at e
  refine (EndG.bind e).imp fun fl η1 μ1 H1 af wd1 e2 => ?_
  cases fl with
  | nx ρ1 => exact fun σ1 _ => EndG.pure wd1 e2 _ rfl
  | rt d => exact EndG.pure wd1 e2
theorem fns_step (F : TopF w prog K mg ex P T) {n : Nat} (ih : ∀ p ∈ T.fns, FnS prog w K mg base ex P n p) : ∀ p ∈ T.fns, FnS prog w K mg base ex P (n + 1) p := fun p hp => by
  obtain ⟨a, fdat, ps, hm, d⟩ := F.fn p hp
  obtain ⟨h1, h2, h3, h4⟩ := def_step (prog := prog) (w := w) (base := base) (ex := ex) d F ih
  exact ⟨a, hm, h1, fdat, ps, h2, h3, h4⟩
theorem fns_all (F : TopF w prog K mg ex P T) : ∀ n, ∀ p ∈ T.fns, FnS prog w K mg base ex P n p
  | 0 => fns_zero F
  | n + 1 => fns_step F (fns_all F n)
end
/-- what law promises: True, for a list of at most 63 ints, each of a size -/
def spLaw (K : PySem.W.Frag) : Sp := fun vs H Q _ => ∃ (a : Addr) (ns : List Int), vs = [.ref a] ∧ SqI K H a (ns.map V.int) ∧ ns.length ≤ 63 ∧ (∀ z ∈ ns, Builtin.Int.intBits z ≤ 1048576) ∧ ∀ H', Q (.bl true) H'
/-- MI's answer is True -/
def LawTrue (P : PrM) (law : String) (n : Nat) : Prop := ∀ ns : List Int, ns.length ≤ 63 → (∀ z ∈ ns, Builtin.Int.intBits z ≤ 1048576) → ∃ η', callN P n law [.lst (ns.map .int)] [] = .ok (.bl true) η'
section
variable {prog : Program} {w : World} {K : PySem.W.Frag} {mg : Str → Option Value} {base : Heap} {ex : Nat → Addr} {P : PrM} {T : Tab}
theorem law_fn {law : String} {a : Addr} {fdat : FuncData} {ps : List Str} (d : DefAt K P T law 1 a fdat ps) (F : TopF w prog K mg ex P T) {n : Nat} (hT : LawTrue P law (n + 1)) : FnG prog w K mg base (n + 1) a fdat ps (spLaw K) := by
  obtain ⟨_, _, h3, _⟩ := def_step (prog := prog) (w := w) (base := base) (ex := ex) d F (fns_all F n)
  refine h3.imp fun vs H Q E q => ?_
  obtain ⟨a, ns, rfl, hs, hl, hb, q⟩ := q
  obtain ⟨η', e⟩ := hT ns hl hb
  refine ⟨rfl, [], [], [.lst (ns.map .int)], ⟨rfl, List.nodup_nil, fun i a o h => nomatch h⟩, ⟨_, [], rfl, ⟨a, _, rfl, hs, RVs.of_ints ns⟩, rfl⟩, ?_⟩
  rw [e]
  intro μ' H' _ _ v rv
  rw [show v = .bl true from rv]
  exact q H'
end
end MIS

set_option autoImplicit false
set_option linter.all false
set_option Elab.async false
/-! MiH: a law's walk behind the head that tells facts by names. -/
namespace MIS
open PySem PySem.Spec PyProof.Rows L2 MI
theorem fun_of {K : PySem.W.Frag} {x q : Str} {st : Stmt} {f : Addr} {fd : FuncData} (F : FunD K x q (defArgs st) (defBody st) (defScope st) [] [] f fd) : Fun K x q st f fd := by
  obtain ⟨⟨oc, od, dV, kV, doc, pm, an, cdv, ct, osl, e, lk, hcd, hd, _⟩, kp⟩ := F
  rcases hd with ⟨_, rfl⟩ | ⟨z, _⟩
  · exact ⟨⟨oc, od, kV, doc, pm, an, cdv, ct, osl, e, lk, hcd⟩, kp⟩
  · exact absurd rfl z
/-- a law whose head says of some part K what Says says -/
theorem walk_lawE {l : PySem.W.OpenLaw} {k : Nat} {q : Program} {loose : List Str} {XP : (Str → Option Value) → Heap → Prop} {Says : PySem.W.Frag → Prop} {d : DefRec} {x : Str}
    (hn : l.most = some 63) (hdf : d.params.defaults = []) (hr : Room k callerA)
    (F : ∀ (w : World) (mg : Str → Option Value) (fa : Addr) (h : Heap) (K : PySem.W.Frag), K.In h → h.Ns mainGlobals mg → mg d.name = some (.ref fa) → Says K →
      ∃ fd : FuncData, (∀ (s : Shared) (u : Value), BindsTo s fd ⟨[u], []⟩ [(x, u)]) ∧ ∀ base : Heap, K.In base → base.Ns mainGlobals mg → FnG l.prog w K mg base k fa fd [x] (spLaw K)) :
    PySem.W.WalkO q loose XP (fun _ h => ∃ K : PySem.W.Frag, K.In h ∧ Says K) l.row.toRowW d [] (fun f vs => PySem.call f vs) := by
  refine Att.attach_callB hn hdf fun w sA sB mg mb fa o pm cd doc a vs ns G Y hA hB hC hD hE hF hlen hbits hg => ?_
  obtain ⟨K, inK, c⟩ := Y
  obtain ⟨fd, b, ok⟩ := F w mg fa _ K inK G.T.g hD c
  have hsp : ∀ (H : Hp), Only H → SqL K H a (ns.map V.int) → spLaw K [.ref a] H (fun v _ => v = .bl true) fun _ _ _ => False := fun H hO hS => ⟨a, ns, rfl, by
    rcases hS with hS | hS
    · rcases hO a with z | ⟨o, xs, z⟩
      · rcases hS with hS | ⟨ob, hS⟩ <;> (rw [z] at hS; cases hS)
      · rcases hS with hS | ⟨ob, hS⟩
        · rw [z] at hS; cases hS
        · exact .inl ⟨ob, hS⟩
    · exact .inr hS, hlen, hbits, fun _ => rfl⟩
  exact law_callG inK G.T.g G.T.b G.T.builtins G.T.nolimit hg hE hF (Nat.le_trans hlen (by decide)) hr ok b hsp fun H e s' c => by
    obtain ⟨a, B, H', cls, d, _, _, _, _, _, _, _, z⟩ := c
    exact z
/-! ### classes of refusals -/
def eqOO (a b : Option (Option Value)) : Bool := decide (a = b)
def exOk (K : PySem.W.Frag) (C : Addr) : Bool :=
  eqOO (PySem.W.findIn K (.ref C) "__getattribute__") (some (some (.builtin "BaseException.__getattribute__"))) && (eqOO (PySem.W.findIn K (.ref C) "__getattr__") (some none) && (decide (PySem.W.subIn K (.ref C) (.type "BaseException") = some true) &&
  (PySem.W.hasDictIn K C && (eqOO (PySem.W.findIn K (.ref C) "__class__") (some (some (.builtin "object.__class__"))) && (eqOO (PySem.W.specialIn K (.builtin "object.__class__") "__get__") (some (some (.builtin "getset_descriptor.__get__"))) &&
  (decide (PySem.W.takesIn K (.builtin "object.__class__") = some true) && decide (PySem.W.mroIn K C (.type "object") = some true)))))))
theorem exOk_of {K : PySem.W.Frag} {C : Addr} (h : exOk K C = true) : ExcC K C := by
  unfold exOk eqOO at h
  simp only [Bool.and_eq_true, decide_eq_true_eq] at h
  exact ⟨h.1, h.2.1, h.2.2.1, h.2.2.2.1, h.2.2.2.2.1, h.2.2.2.2.2.1, h.2.2.2.2.2.2.1, h.2.2.2.2.2.2.2⟩
/-- what is asked of the written part about the classes of refusals -/
def pxK (L : List (Str × Nat)) (K : PySem.W.Frag) : Bool := L.all fun p => (He.Fa.exc p.1).ok K && (exOk K (He.ga K p.1) && (decide (PySem.W.kitOne K (.ref (He.ga K p.1)) (.type "ValueError") = some true) &&
  L.all fun q => decide (PySem.W.exmOne K (.ref (He.ga K p.1)) (.ref (He.ga K q.1)) = some (subC p.2 q.2)) && decide (PySem.W.kitOne K (.ref (He.ga K p.1)) (.ref (He.ga K q.1)) = some (subC p.2 q.2))))
def exN (L : List (Str × Nat)) (k : Nat) : Str := match L.find? (fun p => p.2 == k) with
  | some p => p.1
  | none => "CircuitError"
def exA (L : List (Str × Nat)) (K : PySem.W.Frag) (k : Nat) : Addr := He.ga K (exN L k)
theorem exN_cases (L : List (Str × Nat)) (k : Nat) (h0 : (("CircuitError" : Str), 0) ∈ L) : ∃ p ∈ L, exN L k = p.1 ∧ (p.2 = k ∨ (p.2 = 0 ∧ ∀ q ∈ L, q.2 ≠ k)) := by
  unfold exN
  cases e : L.find? (fun p => p.2 == k) with
  | some p => exact ⟨p, List.mem_of_find?_eq_some e, rfl, .inl (by simpa using List.find?_some e)⟩
  | none => exact ⟨_, h0, rfl, .inr ⟨rfl, fun q hq z => by
      have := List.find?_eq_none.mp e q hq
      simp [z] at this⟩⟩
theorem sub_alike {p q k : Nat} (h : p = k ∨ (p = 0 ∧ q ≠ k)) : subC p q = subC k q := by
  rcases h with rfl | ⟨rfl, h⟩
  · rfl
  · unfold subC
    have e : (q == k) = false := by simpa using h
    rw [e]
    cases q <;> simp
theorem px_all {L : List (Str × Nat)} {K : PySem.W.Frag} (h : pxK L K = true) (h0 : (("CircuitError" : Str), 0) ∈ L) (k : Nat) :
    exOk K (exA L K k) = true ∧ PySem.W.kitOne K (.ref (exA L K k)) (.type "ValueError") = some true ∧ ∀ q ∈ L, PySem.W.exmOne K (.ref (exA L K k)) (.ref (He.ga K q.1)) = some (subC k q.2) ∧ PySem.W.kitOne K (.ref (exA L K k)) (.ref (He.ga K q.1)) = some (subC k q.2) := by
  obtain ⟨p, hp, e, hc⟩ := exN_cases L k h0
  have h1 := List.all_eq_true.mp h p hp
  simp only [Bool.and_eq_true, decide_eq_true_eq, List.all_eq_true] at h1
  obtain ⟨_, h2, h3, h4⟩ := h1
  unfold exA
  rw [e]
  refine ⟨h2, h3, fun q hq => ?_⟩
  have h5 := h4 q hq
  rw [sub_alike (q := q.2) (hc.imp id fun z => ⟨z.1, z.2 q hq⟩)] at h5
  exact h5
theorem px_ec {L : List (Str × Nat)} {K : PySem.W.Frag} {mg : Str → Option Value} (h : pxK L K = true) (h0 : (("CircuitError" : Str), 0) ∈ L) (hN : (L.all fun p => exN L p.2 == p.1) = true) (hm : ∀ p ∈ L, mg p.1 = some (.ref (He.ga K p.1))) : ∀ p ∈ L, ExcF K mg (exA L K) p.1 p.2 := fun p hp => by
  have e : exA L K p.2 = He.ga K p.1 := by
    unfold exA
    rw [eq_of_beq (List.all_eq_true.mp hN p hp)]
  have h1 := List.all_eq_true.mp h p hp
  simp only [Bool.and_eq_true] at h1
  have hx := He.exc_ok h1.1
  refine ⟨by rw [e]; exact hm p hp, by rw [e]; exact hx.1, by rw [e]; exact hx.2.1, by rw [e]; exact hx.2.2.1, by rw [e]; exact hx.2.2.2, fun k => ?_, fun k => ?_⟩
  · rw [e]; exact ((px_all h h0 k).2.2 p hp).1
  · rw [e]; exact ((px_all h h0 k).2.2 p hp).2
theorem px_eg {L : List (Str × Nat)} {K : PySem.W.Frag} (h : pxK L K = true) (h0 : (("CircuitError" : Str), 0) ∈ L) : ExcG K (exA L K) := ⟨fun k => exOk_of (px_all h h0 k).1, fun k => (px_all h h0 k).2.1⟩
/-- the head's Hook, with one more Bool -/
abbrev AlQ : Type := Bool × He.AlD
def obsQ (n : Nat) (fa : List He.Fa) (fn : List He.DefD) (px : PySem.W.Frag → Bool) (g : Addr → Option Obj) : AlQ := (px (He.frG g (He.asD g n)), He.obsDG n fa fn g)
def SaysQ (fa : List He.Fa) (fn : List He.DefD) (px : PySem.W.Frag → Bool) (K : PySem.W.Frag) : Prop := He.SaysD fa fn K ∧ px K = true
def hookQ (n : Nat) (fa : List He.Fa) (fn : List He.DefD) (px : PySem.W.Frag → Bool) : PySem.W.Hook where
  α := AlQ
  obs := fun s => obsQ n fa fn px s.heap.get?
  val := fun _ => (true, He.valD fn)
  says := fun _ h => ∃ K : PySem.W.Frag, K.In h ∧ SaysQ fa fn px K
  of := fun _ _ e => ⟨_, He.frG_in, congrArg (fun z : AlQ => z.2) e, congrArg (fun z : AlQ => z.1) e⟩
  keeps := fun _ _ _ ⟨K, hK, c⟩ k => ⟨K, PySem.W.Frag.In.keeps hK k, c⟩
theorem obsQ_eq {n : Nat} {fa : List He.Fa} {fn : List He.DefD} {px : PySem.W.Frag → Bool} {g : Addr → Option Obj} {s : Shared} (h : ∀ a, g a = s.heap.get? a) : obsQ n fa fn px g = (hookQ n fa fn px).obs s := by
  have e : g = s.heap.get? := funext h
  rw [e]
  rfl
end MIS

set_option Elab.async false
set_option linter.all false
set_option maxRecDepth 100000
/-! MiP: reasoning about MI's runs. -/
namespace MI
def Wp {α : Type} (m : Mo α) (η : Hv) (Q : α → Hv → Prop) : Prop := match m η with
  | .ok a h => Q a h
  | .ex _ _ => False
  | .bad => False
section
variable {α β : Type} {m : Mo α} {f : α → Mo β} {η : Hv} {Q : β → Hv → Prop} {R : α → Hv → Prop}
theorem wp_pure {a : α} : Wp (Mo.pure a) η R = R a η := rfl
theorem wp_bind : Wp (Mo.bind m f) η Q = Wp m η fun a η1 => Wp (f a) η1 Q := by
  unfold Wp Mo.bind
  cases m η <;> rfl
theorem wp_look {g : Hv → Option α} {a : α} (h : g η = some a) : Wp (lookM g) η R = R a η := by
  unfold Wp lookM
  rw [h]
theorem wp_alloc {o : O} {R : D → Hv → Prop} : Wp (allocM o) η R = R (.ref η.length) (η ++ [o]) := rfl
theorem wp_ofO {a : α} : Wp (ofO (some a)) η R = R a η := rfl
theorem Wp.imp {R' : α → Hv → Prop} (h : Wp m η R) (q : ∀ a η', R a η' → R' a η') : Wp m η R' := by
  unfold Wp at h ⊢
  cases e : m η with
  | ok a h' => rw [e] at h; exact q _ _ h
  | ex _ _ => rw [e] at h; exact h.elim
  | bad => rw [e] at h; exact h.elim
theorem Wp.ok (h : Wp m η R) : ∃ a η', m η = .ok a η' ∧ R a η' := by
  unfold Wp at h
  cases e : m η with
  | ok a h' => rw [e] at h; exact ⟨a, h', rfl, h⟩
  | ex _ _ => rw [e] at h; exact h.elim
  | bad => rw [e] at h; exact h.elim
theorem wp_safe : Wp (safeM m) η R = Wp m η R := by
  unfold Wp safeM
  cases m η <;> rfl
theorem wp_eq {a : α} {η' : Hv} (h : m η = .ok a η') : Wp m η R = R a η' := by
  unfold Wp
  rw [h]
end
/-- all that stands still stands -/
def Ext (η η' : Hv) : Prop := ∀ (i : Nat) (o : O), η[i]? = some o → η'[i]? = some o
theorem Ext.refl {η : Hv} : Ext η η := fun _ _ h => h
theorem Ext.trans {a b c : Hv} (h : Ext a b) (q : Ext b c) : Ext a c := fun i o e => q i o (h i o e)
theorem Ext.app {η t : Hv} : Ext η (η ++ t) := fun i o e => by
  rw [List.getElem?_append_left (List.getElem?_eq_some_iff.mp e).1]; exact e
theorem Ext.len {η η' : Hv} (h : Ext η η') : η.length ≤ η'.length := by
  rcases Nat.lt_or_ge η'.length η.length with q | q
  · have := h η'.length (η[η'.length]) (List.getElem?_eq_getElem q)
    rw [List.getElem?_eq_none (Nat.le_refl _)] at this
    cases this
  · exact q
/-- a new place is written -/
theorem Ext.set {η η' : Hv} (h : Ext η η') {i : Nat} {o : O} (hi : η.length ≤ i) : Ext η (η'.set i o) := fun j u e => by
  have hj : j < η.length := (List.getElem?_eq_some_iff.mp e).1
  rw [List.getElem?_set_ne (by omega)]
  exact h j u e
theorem at_new {η : Hv} {o : O} : (η ++ [o])[η.length]? = some o := by simp
theorem set_at {η : Hv} {i : Nat} {o u : O} (h : η[i]? = some u) : (η.set i o)[i]? = some o := by
  rw [List.getElem?_set_self (List.getElem?_eq_some_iff.mp h).1]
/-! ### walks -/
theorem wp_for {nx : Nxt} {tg : Tgt} {body : Rho → Mo Fl} {ρ : Rho} {η : Hv} {Q : Fl → Hv → Prop} (I : Nat → Rho → Hv → Prop) (xs : List D) (hl : xs.length < 1099511627776) (h0 : I 0 ρ η) (hx : ∀ i ρ η, I i ρ η → nx i η = some xs[i]?)
    (hs : ∀ i ρ η d, I i ρ η → xs[i]? = some d → ∃ ρ1, setT ρ tg d = some ρ1 ∧ Wp (body ρ1) η fun f η' => match f with
      | .nx ρ' => I (i + 1) ρ' η'
      | .rt v => Q (.rt v) η')
    (he : ∀ ρ η, I xs.length ρ η → Q (.nx ρ) η) : Wp (forN nx tg body WFu 0 ρ) η Q := by
  have key : ∀ m i ρ η, i ≤ xs.length → xs.length - i < m → I i ρ η → Wp (forN nx tg body m i ρ) η Q := by
    intro m
    induction m with
    | zero => intro i ρ η h1 h2; omega
    | succ m ih =>
      intro i ρ η h1 h2 hI
      have e := hx i ρ η hI
      unfold Wp forN
      rw [e]
      cases g : xs[i]? with
      | none =>
        have : i = xs.length := by
          have := List.getElem?_eq_none_iff.mp g
          omega
        subst this
        exact he ρ η hI
      | some d =>
        obtain ⟨ρ1, e1, w⟩ := hs i ρ η d hI g
        simp only [e1]
        have hi := (List.getElem?_eq_some_iff.mp g).1
        have : Wp ((body ρ1).bind fun | .nx ρ' => forN nx tg body m (i + 1) ρ' | .rt v => .pure (.rt v)) η Q := by
          rw [wp_bind]
          refine w.imp fun f η' q => ?_
          cases f with
          | nx ρ' => exact ih (i + 1) ρ' η' hi (by omega) q
          | rt v => exact q
        exact this
  exact key WFu 0 ρ η (Nat.zero_le _) (by have := wfu_ge; omega) h0
theorem wp_lc {nx : Nxt} {tg : Tgt} {cond : Rho → Mo Bool} {elt : Rho → Mo D} {ρ : Rho} {η : Hv} {Q : List D → Hv → Prop} (I : Nat → List D → Hv → Prop) (xs : List D) (hl : xs.length ≤ 16777216) (h0 : I 0 [] η) (hx : ∀ i acc η, I i acc η → nx i η = some xs[i]?)
    (hs : ∀ i acc η d, I i acc η → xs[i]? = some d → ∃ ρ1, setT (wipeT ρ tg) tg d = some ρ1 ∧ Wp (cond ρ1) η fun b η1 => if b = true then Wp (elt ρ1) η1 fun y η2 => I (i + 1) (acc ++ [y]) η2 else I (i + 1) acc η1)
    (he : ∀ acc η, I xs.length acc η → Q acc η) : Wp (lcN nx tg cond elt ρ WFu 0 []) η Q := by
  have key : ∀ m i acc η, i ≤ xs.length → acc.length ≤ i → xs.length - i < m → I i acc η → Wp (lcN nx tg cond elt ρ m i acc) η Q := by
    intro m
    induction m with
    | zero => intro i acc η h1 h2 h3; omega
    | succ m ih =>
      intro i acc η h1 h2 h3 hI
      have e := hx i acc η hI
      unfold Wp lcN
      rw [e]
      cases g : xs[i]? with
      | none =>
        have : i = xs.length := by
          have := List.getElem?_eq_none_iff.mp g
          omega
        subst this
        exact he acc η hI
      | some d =>
        obtain ⟨ρ1, e1, w⟩ := hs i acc η d hI g
        simp only [e1]
        have hi := (List.getElem?_eq_some_iff.mp g).1
        have : Wp ((safeM (cond ρ1)).bind fun b => if b = true then (safeM (elt ρ1)).bind fun y => if acc.length < lim then lcN nx tg cond elt ρ m (i + 1) (acc ++ [y]) else badM else lcN nx tg cond elt ρ m (i + 1) acc) η Q := by
          rw [wp_bind, wp_safe]
          refine w.imp fun b η' q => ?_
          cases b with
          | true =>
            simp only [if_true] at q ⊢
            rw [wp_bind, wp_safe]
            refine q.imp fun y η2 q2 => ?_
            have hlim : acc.length < lim := by show acc.length < 16777216; omega
            rw [if_pos hlim]
            exact ih (i + 1) _ η2 hi (by simp; omega) (by omega) q2
          | false =>
            simp only [Bool.false_eq_true, if_false] at q ⊢
            exact ih (i + 1) _ η' hi (by omega) (by omega) q
        exact this
  exact key WFu 0 [] η (Nat.zero_le _) (Nat.le_refl _) (by have := wfu_ge; omega) h0
/-! ### the forms -/
section
variable {c c' : ClM} {ρ : Rho}
theorem x_loc {i : Nat} : evE c c' (.loc i) ρ = locM ρ i := rfl
theorem x_cst {d : D} : evE c c' (.cst d) ρ = Mo.pure d := rfl
theorem x_tup {es : List ME} : evE c c' (.tup es) ρ = (evEs c c' es ρ).bind fun ds => .pure (.tup ds) := rfl
theorem x_lst {es : List ME} : evE c c' (.lst es) ρ = (evEs c c' es ρ).bind fun ds => allocM (.lst ds) := rfl
theorem x_bin {o : Op} {a b : ME} : evE c c' (.bin o a b) ρ = (evE c c' a ρ).bind fun x => (evE c c' b ρ).bind fun y => binM o x y := rfl
theorem x_neg {a : ME} : evE c c' (.neg a) ρ = (evE c c' a ρ).bind fun x => (getI x).bind fun i => .pure (.int (-i)) := rfl
theorem x_not {a : ME} : evE c c' (.not a) ρ = ((evE c c' a ρ).bind truM).bind fun b => .pure (.bl !b) := rfl
theorem x_and {a b : ME} : evE c c' (.and a b) ρ = (evE c c' a ρ).bind fun x => (truM x).bind fun t => if t = true then evE c c' b ρ else .pure x := rfl
theorem x_or {a b : ME} : evE c c' (.or a b) ρ = (evE c c' a ρ).bind fun x => (truM x).bind fun t => if t = true then .pure x else evE c c' b ρ := rfl
theorem x_cmp {o : Cm} {a b : ME} : evE c c' (.cmp o a b) ρ = (evE c c' a ρ).bind fun x => (evE c c' b ρ).bind fun y => (cmpM o x y).bind fun t => .pure (.bl t) := rfl
theorem x_chn {o p : Cm} {a b d : ME} : evE c c' (.chn o p a b d) ρ = (evE c c' a ρ).bind fun x => (evE c c' b ρ).bind fun y => (cmpM o x y).bind fun t => if t = true then (evE c c' d ρ).bind fun z => (cmpM p y z).bind fun u => .pure (.bl u) else .pure (.bl false) := rfl
theorem x_ife {t a b : ME} : evE c c' (.ife t a b) ρ = ((evE c c' t ρ).bind truM).bind fun v => if v = true then evE c c' a ρ else evE c c' b ρ := rfl
theorem x_idx {a i : ME} : evE c c' (.idx a i) ρ = (evE c c' a ρ).bind fun x => (evE c c' i ρ).bind fun y => idxM x y := rfl
theorem x_slc {a : ME} {lo hi : Option ME} : evE c c' (.slc a lo hi) ρ = (evE c c' a ρ).bind fun x => (evO c c' lo ρ).bind fun l => (evO c c' hi ρ).bind fun u => slcM x l u := rfl
theorem x_call {f : String} {es : List ME} : evE c c' (.call f es) ρ = (evEs c c' es ρ).bind fun ds => c f ds := rfl
theorem x_blt {f : Bf} {es : List ME} : evE c c' (.blt f es) ρ = (evEs c c' es ρ).bind fun ds => bltM f ds := rfl
theorem x_mth {m : Mh} {o : ME} {es : List ME} : evE c c' (.mth m o es) ρ = (evE c c' o ρ).bind fun x => (lookM (kndH m x)).bind fun _ => (evEs c c' es ρ).bind fun ds => mthM m x ds := rfl
theorem x_isi {e : ME} {t : Ty} : evE c c' (.isi e t) ρ = (evE c c' e ρ).bind fun v => lookM fun h => (tyD v h).map fun k => .bl (isT t k) := rfl
theorem x_lc {tg : Tgt} {it : ITr} {cond : Option ME} {elt : ME} : evE c c' (.lc tg it cond elt) ρ = (evI c c' it ρ).bind fun nx => (lcN nx tg (evC c c' cond) (evE c c' elt) ρ WFu 0 []).bind fun acc => allocM (.lst acc) := rfl
theorem x_nil : evEs c c' [] ρ = Mo.pure [] := rfl
theorem x_cons {e : ME} {es : List ME} : evEs c c' (e :: es) ρ = (evE c c' e ρ).bind fun d => (evEs c c' es ρ).bind fun ds => .pure (d :: ds) := rfl
theorem x_onone : evO c c' none ρ = Mo.pure none := rfl
theorem x_osome {e : ME} : evO c c' (some e) ρ = (evE c c' e ρ).bind fun d => (getI d).bind fun i => .pure (some i) := rfl
theorem x_cnone : evC c c' none ρ = Mo.pure true := rfl
theorem x_csome {t : ME} : evC c c' (some t) ρ = (evE c c' t ρ).bind truM := rfl
theorem x_seq {e : ME} : evI c c' (.seq e) ρ = (evE c c' e ρ).bind fun v => (lookM (seqK v)).bind fun _ => .pure (nxSeq v) := rfl
theorem x_rng {a : ME} : evI c c' (.rng a) ρ = (evE c c' a ρ).bind fun v => (getI v).bind fun i => if rngOk i = true then .pure (nxRng 0 i) else badM := rfl
theorem x_rng2 {a b : ME} : evI c c' (.rng2 a b) ρ = (evE c c' a ρ).bind fun v => (evE c c' b ρ).bind fun w => (getI v).bind fun i => (getI w).bind fun j => if (rngOk i && rngOk j) = true then .pure (nxRng i j) else badM := rfl
theorem x_enm {e : ME} : evI c c' (.enm e) ρ = (evE c c' e ρ).bind fun v => (lookM fun h => getR h v).bind fun _ => .pure (nxEnm v) := rfl
theorem x_zip {a b : ME} : evI c c' (.zip a b) ρ = (evE c c' a ρ).bind fun v => (evE c c' b ρ).bind fun w => (lookM (zipK v w)).bind fun _ => .pure (nxZip v w) := rfl
theorem s_set {i : Nat} {e : ME} : evS c c' (.set i e) ρ = (evE c c' e ρ).bind fun d => .pure (.nx (ρ.set i (some d))) := rfl
theorem s_sub {o i e : ME} : evS c c' (.sub o i e) ρ = (evE c c' e ρ).bind fun d => (evE c c' o ρ).bind fun x => (evE c c' i ρ).bind fun k => (setM x k d).bind fun _ => .pure (.nx ρ) := rfl
theorem s_exp {e : ME} : evS c c' (.exp e) ρ = (evE c c' e ρ).bind fun _ => .pure (.nx ρ) := rfl
theorem s_ret {e : ME} : evS c c' (.ret e) ρ = (evE c c' e ρ).bind fun d => .pure (.rt d) := rfl
theorem s_ife {t : ME} {a b : List MS} : evS c c' (.ife t a b) ρ = ((evE c c' t ρ).bind truM).bind fun v => if v = true then evB c c' a ρ else evB c c' b ρ := rfl
theorem s_for {tg : Tgt} {it : ITr} {body : List MS} : evS c c' (.for_ tg it body) ρ = (evI c c' it ρ).bind fun nx => forN nx tg (fun ρ1 => evB c c' body ρ1) WFu 0 ρ := rfl
theorem s_whl {t : ME} {body : List MS} : evS c c' (.whl t body) ρ = whlN (fun ρ1 => (evE c c' t ρ1).bind truM) (fun ρ1 => evB c c' body ρ1) WFu ρ := rfl
theorem b_nil : evB c c' [] ρ = Mo.pure (.nx ρ) := rfl
theorem b_cons {s : MS} {r : List MS} : evB c c' (s :: r) ρ = (evS c c' s ρ).bind fun | .nx ρ' => evB c c' r ρ' | .rt d => .pure (.rt d) := rfl
end
section
variable {η : Hv} {ρ : Rho} {R : D → Hv → Prop}
theorem wp_loc {i : Nat} {d : D} (h : ρ[i]? = some (some d)) : Wp (locM ρ i) η R = R d η := by
  unfold locM
  rw [h]
  rfl
theorem wp_tru {d : D} {b : Bool} {R : Bool → Hv → Prop} (h : truH d η = some b) : Wp (truM d) η R = R b η := wp_look h
theorem wp_cmp {o : Cm} {x y : D} {b : Bool} {R : Bool → Hv → Prop} (h : cmpH o x y η = some b) : Wp (cmpM o x y) η R = R b η := wp_look h
theorem wp_idx {x y d : D} (h : idxH x y η = some d) : Wp (idxM x y) η R = R d η := wp_look h
theorem wp_if {α : Type} {b : Bool} {p q : Mo α} {R : α → Hv → Prop} : Wp (if b = true then p else q) η R = if b = true then Wp p η R else Wp q η R := by
  cases b <;> rfl
end
/-- a def's run -/
theorem wp_call {P : PrM} {n : Nat} {f : String} {fd : FD} {ds : List D} {η : Hv} {R : D → Hv → Prop} (h : P f = some fd) (hl : ds.length = fd.ar) :
    Wp (callN P (n + 1) f ds) η R = Wp (evB (callN P n) (calls P n).2 fd.body (ds.map some ++ List.replicate (fd.ns - fd.ar) none)) η fun fl η' => match fl with
      | .rt d => R d η'
      | .nx _ => R .non η' := by
  have e : callN P (n + 1) f ds = (evB (callN P n) (calls P n).2 fd.body (ds.map some ++ List.replicate (fd.ns - fd.ar) none)).bind fun
      | .rt d => .pure d
      | .nx _ => .pure .non := by
    show runP P (calls P n).1 (calls P n).2 f ds = _
    unfold runP
    rw [h]
    show runF _ _ fd ds = _
    unfold runF
    rw [if_pos hl]
    rfl
  rw [e, wp_bind]
  congr 1
  funext fl η'
  cases fl <;> rfl
section
variable {ρ : Rho} {a : Option D} {d : D} {i : Nat}
theorem l_zero : locM (some d :: ρ) 0 = Mo.pure d := rfl
theorem l_succ : locM (a :: ρ) (i + 1) = locM ρ i := rfl
end
section
variable {η : Hv} {R : D → Hv → Prop} {RB : Bool → Hv → Prop} {i j : Int} {xs ys : List D}
theorem w_add : Wp (binM .add (.int i) (.int j)) η R = R (.int (i + j)) η := rfl
theorem w_sub : Wp (binM .sub (.int i) (.int j)) η R = R (.int (i - j)) η := rfl
theorem w_mod (h : 0 < j) : Wp (binM .mod (.int i) (.int j)) η R = R (.int (i % j)) η := by
  unfold Wp binM
  simp only [h, if_true]
theorem w_fdiv (h : 0 < j) (h2 : j < 1073741824) : Wp (binM .fdiv (.int i) (.int j)) η R = R (.int (i / j)) η := by
  unfold Wp binM
  simp only [h, h2, and_self, if_true]
theorem w_mulR (h : -18446744073709551616 < j) (h2 : j < 18446744073709551616) : Wp (binM .mul (.int i) (.int j)) η R = R (.int (i * j)) η := by
  have e : ((-bigI < i ∧ i < bigI) ∨ (-bigI < j ∧ j < bigI)) ∨ i.natAbs.log2 + j.natAbs.log2 < 134217000 := .inl (.inr ⟨h, h2⟩)
  unfold Wp binM
  simp only [e, if_true]
theorem w_mulL (h : -18446744073709551616 < i) (h2 : i < 18446744073709551616) : Wp (binM .mul (.int i) (.int j)) η R = R (.int (i * j)) η := by
  have e : ((-bigI < i ∧ i < bigI) ∨ (-bigI < j ∧ j < bigI)) ∨ i.natAbs.log2 + j.natAbs.log2 < 134217000 := .inl (.inl ⟨h, h2⟩)
  unfold Wp binM
  simp only [e, if_true]
theorem w_lt : Wp (cmpM .lt (.int i) (.int j)) η RB = RB (decide (i < j)) η := rfl
theorem w_le : Wp (cmpM .le (.int i) (.int j)) η RB = RB (decide (i ≤ j)) η := rfl
theorem w_gt : Wp (cmpM .gt (.int i) (.int j)) η RB = RB (decide (j < i)) η := rfl
theorem w_ge : Wp (cmpM .ge (.int i) (.int j)) η RB = RB (decide (j ≤ i)) η := rfl
theorem w_eqi : Wp (cmpM .eq (.int i) (.int j)) η RB = RB (i == j) η := rfl
theorem w_nei : Wp (cmpM .ne (.int i) (.int j)) η RB = RB (!(i == j)) η := rfl
theorem w_eqb {a b : Bool} : Wp (cmpM .eq (.bl a) (.bl b)) η RB = RB (a == b) η := rfl
theorem w_neb {a b : Bool} : Wp (cmpM .ne (.bl a) (.bl b)) η RB = RB (!(a == b)) η := rfl
theorem w_trub {b : Bool} : Wp (truM (.bl b)) η RB = RB b η := rfl
theorem w_trui : Wp (truM (.int i)) η RB = RB (i != 0) η := rfl
theorem w_gi {R : Int → Hv → Prop} : Wp (getI (.int i)) η R = R i η := rfl
theorem w_lenT (h : xs.length ≤ 16777216) : Wp (bltM .len [.tup xs]) η R = R (.int xs.length) η := by
  have h' : xs.length ≤ lim := h
  unfold Wp bltM lookM
  simp only [lenH, h', if_true]
  rfl
theorem w_lenV (h : xs.length ≤ 16777216) : Wp (bltM .len [.lst xs]) η R = R (.int xs.length) η := by
  have h' : xs.length ≤ lim := h
  unfold Wp bltM lookM
  simp only [lenH, h', if_true]
  rfl
theorem w_lenL {a : Nat} (h : η[a]? = some (.lst xs)) : Wp (bltM .len [.ref a]) η R = R (.int xs.length) η := by
  unfold Wp bltM lookM
  simp only [lenH, h]
  rfl
theorem at_nat {α : Type} {xs : List α} {k : Nat} {d : α} (h : xs[k]? = some d) : atD xs (k : Int) = some d := by
  have hk := (List.getElem?_eq_some_iff.mp h).1
  unfold atD ixD
  rw [if_pos (by omega), if_pos (by omega)]
  exact h
theorem at_int {α : Type} {xs : List α} {k : Int} {d : α} (h0 : 0 ≤ k) (h : xs[k.toNat]? = some d) : atD xs k = some d := by
  have := at_nat h
  rw [Int.toNat_of_nonneg h0] at this
  exact this
theorem w_idxV {d : D} (h : atD xs i = some d) : Wp (idxM (.lst xs) (.int i)) η R = R d η := wp_idx h
theorem w_idxT {d : D} (h : atD xs i = some d) : Wp (idxM (.tup xs) (.int i)) η R = R d η := wp_idx h
theorem w_idxL {a : Nat} {d : D} (q : η[a]? = some (.lst xs)) (h : atD xs i = some d) : Wp (idxM (.ref a) (.int i)) η R = R d η := wp_idx (by unfold idxH; simp only [q]; exact h)
theorem w_tupL {a : Nat} (q : η[a]? = some (.lst xs)) : Wp (bltM .tuple [.ref a]) η R = R (.tup xs) η := by
  unfold Wp bltM lookM
  simp only [seqH, getL, q, Option.map_some]
theorem w_listL {a : Nat} (q : η[a]? = some (.lst xs)) : Wp (bltM .list [.ref a]) η R = R (.ref η.length) (η ++ [.lst xs]) := by
  unfold Wp bltM
  simp only [seqH, getL, q]
  rfl
theorem w_listT : Wp (bltM .list [.tup xs]) η R = R (.ref η.length) (η ++ [.lst xs]) := rfl
theorem w_int : Wp (bltM .int [.int i]) η R = R (.int i) η := rfl
theorem w_intb {b : Bool} : Wp (bltM .int [.bl b]) η R = R (.int (b2D b)) η := rfl
theorem w_isN {d : D} : Wp (cmpM .is d .non) η RB = RB (match d with | .non => true | _ => false) η := rfl
theorem w_isnN {d : D} : Wp (cmpM .isn d .non) η RB = RB (match d with | .non => false | _ => true) η := rfl
theorem w_isB {d : D} {b : Bool} : Wp (cmpM .is d (.bl b)) η RB = RB (match d with | .bl c => c == b | _ => false) η := rfl
theorem w_isnB {d : D} {b : Bool} : Wp (cmpM .isn d (.bl b)) η RB = RB (match d with | .bl c => !(c == b) | _ => true) η := rfl
theorem w_app {a : Nat} {x : D} (q : η[a]? = some (.lst xs)) (h : xs.length < 16777216) : Wp (mthM .append (.ref a) [x]) η R = R .non (η.set a (.lst (xs ++ [x]))) := by
  have h' : xs.length < lim := h
  unfold Wp mthM
  simp only [q, h', if_true]
theorem w_kndL {a : Nat} {m : Mh} {R : Unit → Hv → Prop} (q : η[a]? = some (.lst xs)) (hm : ∀ d h, kndH m d h = (getL h d).map fun _ => ()) : Wp (lookM (kndH m (.ref a))) η R = R () η := wp_look (by rw [hm]; simp only [getL, q, Option.map_some])
theorem w_cat {a b : Nat} (q1 : η[a]? = some (.lst xs)) (q2 : η[b]? = some (.lst ys)) (h : xs.length + ys.length ≤ 16777216) : Wp (binM .add (.ref a) (.ref b)) η R = R (.ref η.length) (η ++ [.lst (xs ++ ys)]) := by
  have h' : xs.length + ys.length ≤ lim := h
  unfold Wp binM
  simp only [q1, q2, h', if_true]
  rfl
theorem w_sub1 {a k : Nat} {v : D} {R : Unit → Hv → Prop} (q : η[a]? = some (.lst xs)) (h : k < xs.length) : Wp (setM (.ref a) (.int k) v) η R = R () (η.set a (.lst (xs.set k v))) := by
  have e : ixD xs.length (k : Int) = some k := by
    unfold ixD
    rw [if_pos (by omega), if_pos (by omega)]
    rfl
  unfold Wp setM
  simp only [q, e]
end
theorem w_mulG {η : Hv} {R : D → Hv → Prop} {i j : Int} (h : i.natAbs.log2 + j.natAbs.log2 < 134217000) : Wp (binM .mul (.int i) (.int j)) η R = R (.int (i * j)) η := by
  have e : ((-bigI < i ∧ i < bigI) ∨ (-bigI < j ∧ j < bigI)) ∨ i.natAbs.log2 + j.natAbs.log2 < 134217000 := .inr h
  unfold Wp binM
  simp only [e, if_true]
theorem rng_ok {i : Int} (h : -4611686018427387904 ≤ i) (h2 : i < 4611686018427387904) : rngOk i = true := decide_eq_true ⟨h, h2⟩
/-- the numbers of a range -/
def rngL (lo : Int) (n : Nat) : List D := (List.range n).map fun (i : Nat) => D.int (lo + (i : Int))
theorem rngL_len {lo : Int} {n : Nat} : (rngL lo n).length = n := by simp [rngL]
theorem rngL_at {lo : Int} {n i : Nat} {d : D} (h : (rngL lo n)[i]? = some d) : i < n ∧ d = .int (lo + i) := by
  have hi := (List.getElem?_eq_some_iff.mp h).1
  rw [rngL_len] at hi
  unfold rngL at h
  rw [List.getElem?_map, List.getElem?_range hi] at h
  cases h
  exact ⟨hi, rfl⟩
theorem nx_rng {lo hi : Int} {i : Nat} {η : Hv} : nxRng lo hi i η = some (rngL lo (hi - lo).toNat)[i]? := by
  unfold nxRng rngL
  by_cases h : i < (hi - lo).toNat
  · rw [if_pos h, List.getElem?_map, List.getElem?_range h]; rfl
  · rw [if_neg h, List.getElem?_eq_none (by simpa using Nat.le_of_not_lt h)]
theorem nx_tup {xs : List D} {i : Nat} {η : Hv} : nxSeq (.tup xs) i η = some xs[i]? := rfl
theorem nx_lst {xs : List D} {a i : Nat} {η : Hv} (h : η[a]? = some (.lst xs)) : nxSeq (.ref a) i η = some xs[i]? := by
  unfold nxSeq getL
  simp only [h, Option.map_some]
theorem nx_zipT {xs ys : List D} {i : Nat} {η : Hv} : nxZip (.tup xs) (.tup ys) i η = some ((xs.zip ys).map fun p => .tup [p.1, p.2])[i]? := by
  show some (zip2 xs ys i) = _
  unfold zip2
  rw [List.getElem?_map, List.zip, List.getElem?_zipWith]
  generalize xs[i]? = p
  generalize ys[i]? = q
  cases p <;> cases q <;> rfl
theorem sk_tup {xs : List D} {η : Hv} : seqK (.tup xs) η = some () := rfl
theorem sk_lst {xs : List D} {a : Nat} {η : Hv} (h : η[a]? = some (.lst xs)) : seqK (.ref a) η = some () := by
  unfold seqK getL
  simp only [h, Option.map_some]
/-- a comprehension that leaves the heap -/
theorem wp_lcMap {c c' : ClM} {nx : Nxt} {tg : Tgt} {elt : Rho → Mo D} {ρ : Rho} {η : Hv} {Q : List D → Hv → Prop} {g : D → D} (xs : List D) (hl : xs.length ≤ 16777216) (hx : ∀ i, nx i η = some xs[i]?)
    (hs : ∀ d ∈ xs, ∃ ρ1, setT (wipeT ρ tg) tg d = some ρ1 ∧ ∀ R : D → Hv → Prop, R (g d) η → Wp (elt ρ1) η R) (q : Q (xs.map g) η) : Wp (lcN nx tg (evC c c' none) elt ρ WFu 0 []) η Q := by
  refine wp_lc (fun i acc h => h = η ∧ acc = (xs.take i).map g) xs hl ⟨rfl, rfl⟩ (fun i acc h e => by rw [e.1]; exact hx i) (fun i acc h d e hd => ?_) (fun acc h e => by rw [e.1, e.2, List.take_length]; exact q)
  obtain ⟨rfl, rfl⟩ := e
  obtain ⟨ρ1, e1, w⟩ := hs d (List.mem_of_getElem? hd)
  refine ⟨ρ1, e1, ?_⟩
  rw [x_cnone, wp_pure, if_pos rfl]
  refine w _ ⟨rfl, ?_⟩
  rw [List.take_add_one, hd, List.map_append]
  rfl
theorem ints_of : ∀ ns : List Int, intsOf (ns.map D.int) = some ns
  | [] => rfl
  | n :: ns => by
    show (intsOf (ns.map D.int)).map (n :: ·) = _
    rw [ints_of ns]; rfl
theorem w_sorted {η : Hv} {R : D → Hv → Prop} {a : Nat} {ns : List Int} (q : η[a]? = some (.lst (ns.map .int))) : Wp (bltM .sorted [.ref a]) η R = R (.ref η.length) (η ++ [.lst ((sortI ns).map .int)]) := by
  unfold Wp bltM
  simp only [getS, getL, q, ints_of]
  rfl
theorem deepsW_ints {f : Nat → Option D} : ∀ ns : List Int, deepsW f (ns.map D.int) = some (ns.map D.int)
  | [] => rfl
  | n :: ns => by
    show (some (D.int n)).bind (fun y => (deepsW f (ns.map D.int)).map fun ys => y :: ys) = _
    rw [deepsW_ints ns]; rfl
theorem fines_ints : ∀ ns : List Int, D.fines (ns.map D.int) = true
  | [] => rfl
  | n :: ns => by
    show (true && D.fines (ns.map D.int)) = true
    rw [fines_ints ns]; rfl
theorem deps_ints : ∀ ns : List Int, D.deps (ns.map D.int) = 0
  | [] => rfl
  | n :: ns => by
    show max 0 (D.deps (ns.map D.int)) = 0
    rw [deps_ints ns]; rfl
theorem eqvs_ints : ∀ ms ns : List Int, D.eqvs (ms.map D.int) (ns.map D.int) = decide (ms = ns)
  | [], [] => rfl
  | [], n :: ns => rfl
  | m :: ms, [] => rfl
  | m :: ms, n :: ns => by
    show ((m == n) && D.eqvs (ms.map D.int) (ns.map D.int)) = _
    rw [eqvs_ints ms ns]
    by_cases h1 : m = n <;> by_cases h2 : ms = ns <;> simp [h1, h2]
theorem deep_ints {η : Hv} {a : Nat} {ns : List Int} (h : η[a]? = some (.lst (ns.map .int))) : deep η (.ref a) = some (.sq (ns.map .int)) := by
  show deepR η 6 a = _
  unfold deepR
  simp only [h, deepsW_ints, Option.map_some]
theorem shp_ints {ns : List Int} : shp (.sq (ns.map .int)) = true := by
  show (D.fines (ns.map D.int) && decide (D.deps (ns.map D.int) + 1 ≤ 60)) = true
  rw [fines_ints, deps_ints]; rfl
theorem eq_ints {η : Hv} {a b : Nat} {ms ns : List Int} (h1 : η[a]? = some (.lst (ms.map .int))) (h2 : η[b]? = some (.lst (ns.map .int))) : eqH (.ref a) (.ref b) η = some (decide (ms = ns)) := by
  unfold eqH
  rw [deep_ints h1, deep_ints h2]
  show (if (shp _ && shp _) = true then some (D.eqvs _ _) else none) = _
  rw [shp_ints, shp_ints, eqvs_ints]
  rfl
theorem eq_strs {η : Hv} {s t : List Nat} (h1 : s.all (fun c => decide (c < 1114112)) = true) (h2 : t.all (fun c => decide (c < 1114112)) = true) : eqH (.str s) (.str t) η = some (s == t) := by
  show (if ((s.all (fun c => decide (c < 1114112)) && decide (0 ≤ 60)) && (t.all (fun c => decide (c < 1114112)) && decide (0 ≤ 60))) = true then some (s == t) else none) = _
  rw [h1, h2]; rfl
theorem strs_of : ∀ ss : List (List Nat), strsOf (ss.map D.str) = some ss
  | [] => rfl
  | s :: ss => by
    show (strsOf (ss.map D.str)).map (s :: ·) = _
    rw [strs_of ss]; rfl
theorem w_join {η : Hv} {R : D → Hv → Prop} {a : Nat} {sep : List Nat} {ss : List (List Nat)} (q : η[a]? = some (.lst (ss.map .str))) (h : (ss.map List.length).sum + ss.length * sep.length ≤ 16777216) : Wp (mthM .join (.str sep) [.ref a]) η R = R (.str (joinS sep ss)) η := by
  have h' : (ss.map List.length).sum + ss.length * sep.length ≤ lim := h
  unfold Wp mthM lookM
  simp only [seqH, getL, q, Option.bind_some, strs_of, h', if_true]
/-! ### the forms, read from their end -/
section
variable {c c' : ClM} {ρ : Rho} {η : Hv} {R : D → Hv → Prop} {RF : Fl → Hv → Prop} {RL : List D → Hv → Prop} {RN : Nxt → Hv → Prop} {RO : Option Int → Hv → Prop} {RB : Bool → Hv → Prop}
theorem v_loc {i : Nat} : Wp (evE c c' (.loc i) ρ) η R = Wp (locM ρ i) η R := rfl
theorem v_cst {d : D} : Wp (evE c c' (.cst d) ρ) η R = R d η := rfl
theorem v_tup {es : List ME} : Wp (evE c c' (.tup es) ρ) η R = Wp (evEs c c' es ρ) η fun ds η1 => R (.tup ds) η1 := by rw [x_tup, wp_bind]; rfl
theorem v_lst {es : List ME} : Wp (evE c c' (.lst es) ρ) η R = Wp (evEs c c' es ρ) η fun ds η1 => R (.ref η1.length) (η1 ++ [.lst ds]) := by rw [x_lst, wp_bind]; rfl
theorem v_bin {o : Op} {a b : ME} : Wp (evE c c' (.bin o a b) ρ) η R = Wp (evE c c' a ρ) η fun x η1 => Wp (evE c c' b ρ) η1 fun y η2 => Wp (binM o x y) η2 R := by simp only [x_bin, wp_bind]
theorem v_neg {a : ME} : Wp (evE c c' (.neg a) ρ) η R = Wp (evE c c' a ρ) η fun x η1 => Wp (getI x) η1 fun i η2 => R (.int (-i)) η2 := by simp only [x_neg, wp_bind, wp_pure]
theorem v_not {a : ME} : Wp (evE c c' (.not a) ρ) η R = Wp (evE c c' a ρ) η fun x η1 => Wp (truM x) η1 fun b η2 => R (.bl !b) η2 := by simp only [x_not, wp_bind, wp_pure]
theorem v_and {a b : ME} : Wp (evE c c' (.and a b) ρ) η R = Wp (evE c c' a ρ) η fun x η1 => Wp (truM x) η1 fun t η2 => if t = true then Wp (evE c c' b ρ) η2 R else R x η2 := by simp only [x_and, wp_bind, wp_pure, wp_if]
theorem v_or {a b : ME} : Wp (evE c c' (.or a b) ρ) η R = Wp (evE c c' a ρ) η fun x η1 => Wp (truM x) η1 fun t η2 => if t = true then R x η2 else Wp (evE c c' b ρ) η2 R := by simp only [x_or, wp_bind, wp_pure, wp_if]
theorem v_cmp {o : Cm} {a b : ME} : Wp (evE c c' (.cmp o a b) ρ) η R = Wp (evE c c' a ρ) η fun x η1 => Wp (evE c c' b ρ) η1 fun y η2 => Wp (cmpM o x y) η2 fun t η3 => R (.bl t) η3 := by simp only [x_cmp, wp_bind, wp_pure]
theorem v_chn {o p : Cm} {a b d : ME} : Wp (evE c c' (.chn o p a b d) ρ) η R = Wp (evE c c' a ρ) η fun x η1 => Wp (evE c c' b ρ) η1 fun y η2 => Wp (cmpM o x y) η2 fun t η3 => if t = true then Wp (evE c c' d ρ) η3 fun z η4 => Wp (cmpM p y z) η4 fun u η5 => R (.bl u) η5 else R (.bl false) η3 := by simp only [x_chn, wp_bind, wp_pure, wp_if]
theorem v_ife {t a b : ME} : Wp (evE c c' (.ife t a b) ρ) η R = Wp (evE c c' t ρ) η fun x η1 => Wp (truM x) η1 fun v η2 => if v = true then Wp (evE c c' a ρ) η2 R else Wp (evE c c' b ρ) η2 R := by simp only [x_ife, wp_bind, wp_if]
theorem v_idx {a i : ME} : Wp (evE c c' (.idx a i) ρ) η R = Wp (evE c c' a ρ) η fun x η1 => Wp (evE c c' i ρ) η1 fun y η2 => Wp (idxM x y) η2 R := by simp only [x_idx, wp_bind]
theorem v_slc {a : ME} {lo hi : Option ME} : Wp (evE c c' (.slc a lo hi) ρ) η R = Wp (evE c c' a ρ) η fun x η1 => Wp (evO c c' lo ρ) η1 fun l η2 => Wp (evO c c' hi ρ) η2 fun u η3 => Wp (slcM x l u) η3 R := by simp only [x_slc, wp_bind]
theorem v_call {f : String} {es : List ME} : Wp (evE c c' (.call f es) ρ) η R = Wp (evEs c c' es ρ) η fun ds η1 => Wp (c f ds) η1 R := by simp only [x_call, wp_bind]
theorem v_blt {f : Bf} {es : List ME} : Wp (evE c c' (.blt f es) ρ) η R = Wp (evEs c c' es ρ) η fun ds η1 => Wp (bltM f ds) η1 R := by simp only [x_blt, wp_bind]
theorem v_mth {m : Mh} {o : ME} {es : List ME} : Wp (evE c c' (.mth m o es) ρ) η R = Wp (evE c c' o ρ) η fun x η1 => Wp (lookM (kndH m x)) η1 fun _ η2 => Wp (evEs c c' es ρ) η2 fun ds η3 => Wp (mthM m x ds) η3 R := by simp only [x_mth, wp_bind]
theorem v_isi {e : ME} {t : Ty} : Wp (evE c c' (.isi e t) ρ) η R = Wp (evE c c' e ρ) η fun v η1 => Wp (lookM fun h => (tyD v h).map fun k => D.bl (isT t k)) η1 R := by simp only [x_isi, wp_bind]
theorem v_lc {tg : Tgt} {it : ITr} {cond : Option ME} {elt : ME} : Wp (evE c c' (.lc tg it cond elt) ρ) η R = Wp (evI c c' it ρ) η fun nx η1 => Wp (lcN nx tg (evC c c' cond) (evE c c' elt) ρ WFu 0 []) η1 fun acc η2 => R (.ref η2.length) (η2 ++ [.lst acc]) := by simp only [x_lc, wp_bind, wp_alloc]
theorem v_nil : Wp (evEs c c' [] ρ) η RL = RL [] η := rfl
theorem v_cons {e : ME} {es : List ME} : Wp (evEs c c' (e :: es) ρ) η RL = Wp (evE c c' e ρ) η fun d η1 => Wp (evEs c c' es ρ) η1 fun ds η2 => RL (d :: ds) η2 := by simp only [x_cons, wp_bind, wp_pure]
theorem v_onone : Wp (evO c c' none ρ) η RO = RO none η := rfl
theorem v_osome {e : ME} : Wp (evO c c' (some e) ρ) η RO = Wp (evE c c' e ρ) η fun d η1 => Wp (getI d) η1 fun i η2 => RO (some i) η2 := by simp only [x_osome, wp_bind, wp_pure]
theorem v_cnone : Wp (evC c c' none ρ) η RB = RB true η := rfl
theorem v_csome {t : ME} : Wp (evC c c' (some t) ρ) η RB = Wp (evE c c' t ρ) η fun x η1 => Wp (truM x) η1 RB := by simp only [x_csome, wp_bind]
theorem v_seq {e : ME} : Wp (evI c c' (.seq e) ρ) η RN = Wp (evE c c' e ρ) η fun v η1 => Wp (lookM (seqK v)) η1 fun _ η2 => RN (nxSeq v) η2 := by simp only [x_seq, wp_bind, wp_pure]
theorem v_rng {a : ME} : Wp (evI c c' (.rng a) ρ) η RN = Wp (evE c c' a ρ) η fun v η1 => Wp (getI v) η1 fun i η2 => rngOk i = true ∧ RN (nxRng 0 i) η2 := by
  simp only [x_rng, wp_bind, wp_if, wp_pure]
  congr 1; funext v η1; congr 1; funext i η2
  cases rngOk i <;> simp [Wp, badM]
theorem v_rng2 {a b : ME} : Wp (evI c c' (.rng2 a b) ρ) η RN = Wp (evE c c' a ρ) η fun v η1 => Wp (evE c c' b ρ) η1 fun w η2 => Wp (getI v) η2 fun i η3 => Wp (getI w) η3 fun j η4 => (rngOk i && rngOk j) = true ∧ RN (nxRng i j) η4 := by
  simp only [x_rng2, wp_bind, wp_if, wp_pure]
  congr 1; funext v η1; congr 1; funext w η2; congr 1; funext i η3; congr 1; funext j η4
  cases (rngOk i && rngOk j) <;> simp [Wp, badM]
theorem v_enm {a : ME} : Wp (evI c c' (.enm a) ρ) η RN = Wp (evE c c' a ρ) η fun v η1 => Wp (lookM fun h => getR h v) η1 fun _ η2 => RN (nxEnm v) η2 := by simp only [x_enm, wp_bind, wp_pure]
theorem v_zip {a b : ME} : Wp (evI c c' (.zip a b) ρ) η RN = Wp (evE c c' a ρ) η fun v η1 => Wp (evE c c' b ρ) η1 fun w η2 => Wp (lookM (zipK v w)) η2 fun _ η3 => RN (nxZip v w) η3 := by simp only [x_zip, wp_bind, wp_pure]
theorem t_set {i : Nat} {e : ME} : Wp (evS c c' (.set i e) ρ) η RF = Wp (evE c c' e ρ) η fun d η1 => RF (.nx (ρ.set i (some d))) η1 := by simp only [s_set, wp_bind, wp_pure]
theorem t_sub {o i e : ME} : Wp (evS c c' (.sub o i e) ρ) η RF = Wp (evE c c' e ρ) η fun d η1 => Wp (evE c c' o ρ) η1 fun x η2 => Wp (evE c c' i ρ) η2 fun k η3 => Wp (setM x k d) η3 fun _ η4 => RF (.nx ρ) η4 := by simp only [s_sub, wp_bind, wp_pure]
theorem t_exp {e : ME} : Wp (evS c c' (.exp e) ρ) η RF = Wp (evE c c' e ρ) η fun _ η1 => RF (.nx ρ) η1 := by simp only [s_exp, wp_bind, wp_pure]
theorem t_ret {e : ME} : Wp (evS c c' (.ret e) ρ) η RF = Wp (evE c c' e ρ) η fun d η1 => RF (.rt d) η1 := by simp only [s_ret, wp_bind, wp_pure]
theorem t_ife {t : ME} {a b : List MS} : Wp (evS c c' (.ife t a b) ρ) η RF = Wp (evE c c' t ρ) η fun x η1 => Wp (truM x) η1 fun v η2 => if v = true then Wp (evB c c' a ρ) η2 RF else Wp (evB c c' b ρ) η2 RF := by simp only [s_ife, wp_bind, wp_if]
theorem t_for {tg : Tgt} {it : ITr} {body : List MS} : Wp (evS c c' (.for_ tg it body) ρ) η RF = Wp (evI c c' it ρ) η fun nx η1 => Wp (forN nx tg (fun ρ1 => evB c c' body ρ1) WFu 0 ρ) η1 RF := by simp only [s_for, wp_bind]
theorem r_nil : Wp (evB c c' [] ρ) η RF = RF (.nx ρ) η := rfl
theorem r_cons {s : MS} {r : List MS} : Wp (evB c c' (s :: r) ρ) η RF = Wp (evS c c' s ρ) η fun f η1 => match f with
    | .nx ρ' => Wp (evB c c' r ρ') η1 RF
    | .rt d => RF (.rt d) η1 := by
  rw [b_cons, wp_bind]
  congr 1; funext f η1
  cases f <;> rfl
theorem k_zero {d : D} {ρ : Rho} : Wp (locM (some d :: ρ) 0) η R = R d η := rfl
theorem k_succ {a : Option D} {i : Nat} : Wp (locM (a :: ρ) (i + 1)) η R = Wp (locM ρ i) η R := rfl
end
end MI

set_option autoImplicit false
set_option linter.all false
/-! VI: MI without a heap: lists and dicts as values, each slot owned or shared; told sound over MI in ViS. -/
namespace MI
inductive Rv (α : Type) where
  | ok (a : α)
  | ex (c : Nat)
  | bad
/-- a mark that keeps simp out of what it marks (its type hangs on that) -/
abbrev Fx {α : Type} (_ : α) : Type := Unit
def Rv.bind {α β : Type} (m : Rv α) (f : α → Rv β) (_ : Fx f := ()) : Rv β := match m with
  | .ok a => f a
  | .ex c => .ex c
  | .bad => .bad
/-- nothing is raised -/
def safeV {α : Type} (m : Rv α) : Rv α := match m with
  | .ok a => .ok a
  | _ => .bad
def ofV {α : Type} : Option α → Rv α
  | some a => .ok a
  | none => .bad
inductive Sl where
  | no
  | sh (v : D)
  | ow (v : D)
  deriving Inhabited
abbrev Sg := List Sl
def locV (σ : Sg) (i : Nat) : Rv D := match σ[i]? with
  | some (.sh v) => .ok v
  | some (.ow v) => .ok v
  | _ => .bad
mutual
/-- no references within -/
def D.nrf : D → Bool
  | .non => true
  | .bl _ => true
  | .int _ => true
  | .str _ => true
  | .tup xs => D.nrfs xs
  | .exc _ => true
  | .lst xs => D.nrfs xs
  | _ => false
def D.nrfs : List D → Bool
  | [] => true
  | x :: xs => x.nrf && D.nrfs xs
end
mutual
/-- how deep lists lie in lists -/
def D.nst : D → Nat
  | .tup xs => D.nsts xs
  | .sq xs => D.nsts xs + 1
  | _ => 0
def D.nsts : List D → Nat
  | [] => 0
  | x :: xs => max x.nst (D.nsts xs)
end
def shpV (d : D) : Bool := shp d && decide (d.nst ≤ 6)
def cstV (d : D) : Rv D := match d with
  | .tup xs => if D.nrfs xs = true then .ok (.tup xs) else .bad
  | .non => .ok .non
  | .bl b => .ok (.bl b)
  | .int i => .ok (.int i)
  | .str s => .ok (.str s)
  | _ => .bad
def mkDic (kvs : List (D × D)) : D := .dic (kvs.map (·.1)) (kvs.map (·.2))
/-! ### operations -/
def binV (o : Op) (x y : D) : Rv D := match o, x, y with
  | .add, .int i, .int j => .ok (.int (i + j))
  | .add, .int i, .bl b => .ok (.int (i + b2D b))
  | .add, .str a, .str b => if a.length + b.length ≤ lim then .ok (.str (a ++ b)) else .bad
  | .add, .tup a, .tup b => if a.length + b.length ≤ lim then .ok (.tup (a ++ b)) else .bad
  | .add, .sq a, .sq b => if a.length + b.length ≤ lim then .ok (.sq (a ++ b)) else .bad
  | .sub, .int i, .int j => .ok (.int (i - j))
  | .mul, .int i, .int j => if ((-bigI < i ∧ i < bigI) ∨ (-bigI < j ∧ j < bigI)) ∨ i.natAbs.log2 + j.natAbs.log2 < 134217000 then .ok (.int (i * j)) else .bad
  | .mul, .tup a, .int k => if (0 ≤ k ∧ k ≤ 1000) ∧ a.length ≤ 1000 then .ok (.tup (List.replicate k.toNat a).flatten) else .bad
  | .mul, .sq a, .int k => if 0 ≤ k ∧ k < 16777216 ∧ a.length * k.toNat ≤ lim then .ok (.sq (List.replicate k.toNat a).flatten) else .bad
  | .fdiv, .int i, .int j => if 0 < j ∧ j < 1073741824 then .ok (.int (i / j)) else .bad
  | .mod, .int i, .int j => if 0 < j then .ok (.int (i % j)) else .bad
  | .pow, .int i, .int j => if 0 ≤ j ∧ j ≤ 1000000 ∧ i.natAbs < 18446744073709551616 then .ok (.int (i ^ j.toNat)) else .bad
  | _, _, _ => .bad
def tyV (d : D) : Option Tk := match d with
  | .non => some .non
  | .bl _ => some .bl
  | .int _ => some .int
  | .str _ => some .str
  | .tup _ => some .tup
  | .sq _ => some .list
  | _ => none
def truV (d : D) : Rv Bool := match d with
  | .non => .ok false
  | .bl b => .ok b
  | .int i => .ok (i != 0)
  | .str s => if s.length ≤ lim then .ok (!s.isEmpty) else .bad
  | .tup xs => if xs.length ≤ lim then .ok (!xs.isEmpty) else .bad
  | .sq xs => .ok (!xs.isEmpty)
  | _ => .bad
def eqV (x y : D) : Rv Bool := match x, y with
  | .int i, .int j => .ok (i == j)
  | .bl b, .bl c => .ok (b == c)
  | _, _ => if (shpV x && shpV y) = true then .ok (D.eqv x y) else .bad
def getV : D → Option (List D)
  | .sq xs => some xs
  | .lst xs => some xs
  | _ => none
def memV (x : D) (ys : List D) : Rv Bool := if (shpV x && ys.all shpV) = true then .ok (ys.any fun y => D.eqv y x) else .bad
def okKeyV (ks : List D) (k : D) : Bool := keyOk k && ks.all fun c => isFlat c == isFlat k
def inV (x y : D) : Rv Bool := match y with
  | .sq ys => memV x ys
  | .dic ks _ => if okKeyV ks x = true then .ok (ks.any fun c => D.eqv c x) else .bad
  | .tup ys => if (flatD x && ys.all flatD) = true then .ok (ys.any fun y => D.eqv y x) else .bad
  | .str s => match x with
    | .str [c] => .ok (s.any (· == c))
    | _ => .bad
  | _ => .bad
def cmpV (o : Cm) (x y : D) : Rv Bool := match o with
  | .eq => eqV x y
  | .ne => (eqV x y).bind fun b => .ok (!b)
  | .isin => inV x y
  | .nin => (inV x y).bind fun b => .ok (!b)
  | .is => match y with
    | .non => .ok (match x with | .non => true | _ => false)
    | .bl b => .ok (match x with | .bl c => c == b | _ => false)
    | _ => .bad
  | .isn => match y with
    | .non => .ok (match x with | .non => false | _ => true)
    | .bl b => .ok (match x with | .bl c => !(c == b) | _ => true)
    | _ => .bad
  | .lt => match x, y with
    | .int i, .int j => .ok (decide (i < j))
    | _, _ => .bad
  | .le => match x, y with
    | .int i, .int j => .ok (decide (i ≤ j))
    | _, _ => .bad
  | .gt => match x, y with
    | .int i, .int j => .ok (decide (j < i))
    | _, _ => .bad
  | .ge => match x, y with
    | .int i, .int j => .ok (decide (j ≤ i))
    | _, _ => .bad
def idxV (x y : D) : Rv D := match x, y with
  | .tup xs, .int i => ofV (atD xs i)
  | .lst xs, .int i => ofV (atD xs i)
  | .sq xs, .int i => ofV (atD xs i)
  | .str s, .int i => if s.length ≤ lim then ofV ((atD s i).map fun c => .str [c]) else .bad
  | .dic ks vs, k => if okKeyV ks k = true then ofV (dget (ks.zip vs) k) else .bad
  | _, _ => .bad
def slcV (x : D) (lo hi : Option Int) : Rv D := match x with
  | .tup xs => .ok (.tup (mcut xs lo hi))
  | .str s => if s.length ≤ lim then .ok (.str (mcut s lo hi)) else .bad
  | .sq xs => .ok (.sq (mcut xs lo hi))
  | .lst xs => .ok (.sq (mcut xs lo hi))
  | _ => .bad
def lenV (d : D) : Rv D := match d with
  | .str s => if s.length ≤ lim then .ok (.int s.length) else .bad
  | .tup xs => if xs.length ≤ lim then .ok (.int xs.length) else .bad
  | .lst xs => if xs.length ≤ lim then .ok (.int xs.length) else .bad
  | .sq xs => .ok (.int xs.length)
  | .dic ks _ => .ok (.int ks.length)
  | _ => .bad
def seqV (d : D) : Option (List D) := match d with
  | .tup xs => some xs
  | d => getV d
def bltV (f : Bf) (vs : List D) : Rv D := match f, vs with
  | .len, [x] => lenV x
  | .tuple, [x] => ofV ((seqV x).map .tup)
  | .list, [.dic ks _] => .ok (.sq ks)
  | .list, [x] => ofV ((seqV x).map .sq)
  | .int, [.int i] => .ok (.int i)
  | .int, [.bl b] => .ok (.int (b2D b))
  | .min, [.int i, .int j] => .ok (.int (if j < i then j else i))
  | .max, [.int i, .int j] => .ok (.int (if j > i then j else i))
  | .all, [x] => ofV ((getV x).bind fun xs => (boolsOf xs).map fun bs => .bl (bs.all id))
  | .any, [x] => ofV ((getV x).bind fun xs => (boolsOf xs).map fun bs => .bl (bs.any id))
  | .sum, [x] => ofV ((getV x).bind fun xs => (intsOf xs).map fun bs => .int bs.sum)
  | .max, [x] => ofV ((getV x).bind fun xs => (intsOf xs).bind fun | [] => none | i :: r => some (.int (maxI i r)))
  | .min, [x] => ofV ((getV x).bind fun xs => (intsOf xs).bind fun | [] => none | i :: r => some (.int (minI i r)))
  | .sorted, [x] => ofV ((getV x).bind fun xs => match intsOf xs with
    | some ns => some (.sq ((sortI ns).map .int))
    | none => (pairsOf xs).map fun ps => .sq ((sortP ps).map pairI))
  | .str, [.int i] => if i.natAbs.log2 < 1900 then .ok (.str (strI i)) else .bad
  | .repr, [x] => if (repKV x && shpV x && repOk x) = true then .ok (.str (D.rep x)) else .bad
  | _, _ => .bad
def mthV (m : Mh) (o : D) (vs : List D) : Rv D := match m, o, vs with
  | .index, o, [x] => match getV o with
    | some ys => (memV x ys).bind fun b => if b = true then ofV ((idxOf x ys 0).map fun (n : Nat) => .int n) else .bad
    | none => .bad
  | .count, o, [.int k] => ofV ((getV o).bind fun ys => (intsOf ys).map fun ns => .int (ns.count k))
  | .join, .str sep, [x] => ofV ((seqV x).bind fun xs => (strsOf xs).bind fun ss => if (ss.map List.length).sum + ss.length * sep.length ≤ lim then some (.str (joinS sep ss)) else none)
  | .get, .dic ks vs, [k, d] => if okKeyV ks k = true then .ok ((dget (ks.zip vs) k).getD d) else .bad
  | _, _, _ => .bad
def kndV (m : Mh) (d : D) : Rv Unit := match m with
  | .join => match d with | .str _ => .ok () | _ => .bad
  | .get => match d with | .dic _ _ => .ok () | _ => .bad
  | .index => match d with | .sq _ => .ok () | .lst _ => .ok () | _ => .bad
  | .count => match d with | .sq _ => .ok () | .lst _ => .ok () | _ => .bad
  | _ => .bad
/-! ### whose a list is -/
def isH : D → Bool
  | .tup _ => true
  | .sq _ => true
  | .dic _ _ => true
  | _ => false
section
variable (own : String → Nat) (σ : Sg)
mutual
/-- the slots whose lists the value may hold -/
def alA : ME → List Nat
  | .loc i => [i]
  | .tup es => alAs es
  | .lst es => alAs es
  | .dic _ vs => alAs vs
  | .bin _ a b => alE a ++ alE b
  | .and a b => alA a ++ alA b
  | .or a b => alA a ++ alA b
  | .ife _ a b => alA a ++ alA b
  | .idx a _ => alE a
  | .slc a _ _ => alE a
  | .call f es => if own f = 2 then [] else alAs es
  | .blt _ es => alEs es
  | .mth _ o es => alE o ++ alAs es
  | .lc _ it _ elt => alI it ++ alA elt
  | _ => []
/-- the same of what lies in it -/
def alE : ME → List Nat
  | .loc i => match σ[i]? with
    | some (.ow (.tup _)) => [i]
    | _ => []
  | .tup es => alAs es
  | .lst es => alAs es
  | .dic _ vs => alAs vs
  | .bin _ a b => alE a ++ alE b
  | .and a b => alA a ++ alA b
  | .or a b => alA a ++ alA b
  | .ife _ a b => alA a ++ alA b
  | .idx a _ => alE a
  | .slc a _ _ => alE a
  | .call f es => if own f = 2 then [] else alAs es
  | .blt _ es => alEs es
  | .mth _ o es => alE o ++ alAs es
  | .lc _ it _ elt => alI it ++ alA elt
  | _ => []
def alAs : List ME → List Nat
  | [] => []
  | e :: es => alA e ++ alAs es
def alEs : List ME → List Nat
  | [] => []
  | e :: es => alE e ++ alEs es
def alI : ITr → List Nat
  | .seq e => alE e
  | .rng _ => []
  | .rng2 _ _ => []
  | .enm e => alE e
  | .zip a b => alE a ++ alE b
end
def alIt : ITr → List Nat
  | .seq e => alA own σ e
  | .rng _ => []
  | .rng2 _ _ => []
  | .enm e => alA own σ e
  | .zip a b => alA own σ a ++ alA own σ b
def shr1 (σ : Sg) (i : Nat) : Sg := match σ[i]? with
  | some (.ow v) => σ.set i (.sh v)
  | _ => σ
def shr (L : List Nat) (σ : Sg) : Sg := L.foldl shr1 σ
/-- what becomes shared by a use of a value -/
def esc (e : ME) (v : D) : Sg := if isH v = true then shr (alA own σ e) σ else σ
def frsL : ME → Bool
  | .lst _ => true
  | .dic _ _ => true
  | .lc _ _ _ _ => true
  | .bin _ _ _ => true
  | .slc _ _ _ => true
  | .sset _ => true
  | .lrng _ => true
  | .blt f _ => match f with | .list => true | .sorted => true | _ => false
  | .call f _ => own f != 0
  | _ => false
/-- a new list, nobody else's -/
def frs (e : ME) (v : D) : Bool := match v with
  | .sq _ => frsL own e
  | .dic _ _ => frsL own e
  | .tup _ => match e with | .call f _ => own f != 0 | _ => false
  | _ => false
def isOw (i : Nat) : Bool := match σ[i]? with
  | some (.ow _) => true
  | _ => false
end
/-! ### evaluation -/
abbrev ClV := String → List D → Rv D
inductive Fv where
  | nx (σ : Sg)
  | rt (v : D)
def setTV (σ : Sg) : Tgt → D → Option Sg
  | .one i, d => some (σ.set i (.sh d))
  | .two i j, .tup [a, b] => some ((σ.set i (.sh a)).set j (.sh b))
  | _, _ => none
def wipeTV (σ : Sg) : Tgt → Sg
  | .one i => σ.set i .no
  | .two i j => (σ.set j .no).set i .no
def lcV (tg : Tgt) (cond : Sg → Rv Bool) (elt : Sg → Rv D) (σ : Sg) : List D → Rv (List D)
  | [] => .ok []
  | x :: xs => match setTV (wipeTV σ tg) tg x with
    | none => .bad
    | some σ1 => match cond σ1 with
      | .ok true => match elt σ1 with
        | .ok y => (lcV tg cond elt σ xs).bind fun ys => .ok (y :: ys)
        | _ => .bad
      | .ok false => lcV tg cond elt σ xs
      | _ => .bad
/-- what was not there at a turn's beginning is not there behind it -/
def clr : Sg → Sg → Sg
  | .no :: r, _ :: t => .no :: clr r t
  | _ :: r, s :: t => s :: clr r t
  | [], t => t
  | _, [] => []
def forV (tg : Tgt) (body : Sg → Rv Fv) : List D → Sg → Rv Fv
  | [], σ => .ok (.nx σ)
  | x :: xs, σ => match setTV σ tg x with
    | none => .bad
    | some σ1 => (body σ1).bind fun
      | .nx σ2 => forV tg body xs (clr σ σ2)
      | .rt v => .ok (.rt v)
def whlV (c : Sg → Rv Bool) (body : Sg → Rv Fv) : Nat → Sg → Rv Fv
  | 0, _ => .bad
  | n + 1, σ => (c σ).bind fun b => if b = true then (body σ).bind (fun
      | .nx σ2 => whlV c body n (clr σ σ2)
      | .rt v => .ok (.rt v)) else .ok (.nx σ)
def keysV (f : D → Rv D) : List D → Rv (List D)
  | [] => .ok []
  | x :: xs => (f x).bind fun k => (keysV f xs).bind fun ks => .ok (k :: ks)
def getIV : D → Rv Int
  | .int i => .ok i
  | _ => .bad
def small (xs : List D) : Rv (List D) := if xs.length ≤ lim then .ok xs else .bad
def rngV (lo hi : Int) : List D := (List.range (hi - lo).toNat).map fun (i : Nat) => D.int (lo + (i : Int))
def enmV (xs : List D) : List D := (List.range xs.length).zipWith (fun (i : Nat) x => D.tup [.int i, x]) xs
def zipV (xs ys : List D) : List D := xs.zipWith (fun x y => D.tup [x, y]) ys
def itmV (v : D) : Rv (List D) := match v with
  | .tup xs => small xs
  | .sq xs => small xs
  | _ => .bad
def rngB (i : Int) : Rv (List D) := if -16777216 ≤ i ∧ i ≤ 16777216 then .ok (rngV 0 i) else .bad
def rngB2 (i j : Int) : Rv (List D) := if (0 ≤ i ∧ i ≤ 16777216) ∧ -16777216 ≤ j ∧ j ≤ 16777216 then .ok (rngV i j) else .bad
def enmB (v : D) : Rv (List D) := match v with
  | .sq xs => (small xs).bind fun xs => .ok (enmV xs)
  | _ => .bad
def zipB (v w : D) : Rv (List D) := match v, w with
  | .tup xs, .tup ys => (small xs).bind fun xs => .ok (zipV xs ys)
  | .sq xs, .sq ys => (small xs).bind fun xs => .ok (zipV xs ys)
  | _, _ => .bad
def dispV : List D → List D → List (D × D) → Option (List (D × D))
  | [], [], acc => some acc
  | k :: ks, v :: vs, acc => if okKeyV (acc.map (·.1)) k = true then dispV ks vs (dput acc k v) else none
  | _, _, _ => none
def lrngV (ds : List D) : Rv D := match ds with
  | [.int j] => if rgOkB 0 j = true then .ok (.sq (rngD 0 j)) else .bad
  | [.int i, .int j] => if rgOkB i j = true then .ok (.sq (rngD i j)) else .bad
  | _ => .bad
def ssetV (v : D) : Rv D := ofV (((getV v).bind intsOf).bind fun ns => if ns.length < 4000 ∧ (uniq ns).length < 64 then some (.sq ((sortI (uniq ns)).map .int)) else none)
section
variable (c : ClV)
mutual
def evV : ME → Sg → Rv D
  | .loc i, σ => locV σ i
  | .cst d, _ => cstV d
  | .tup es, σ => (evVs es σ).bind fun ds => .ok (.tup ds)
  | .lst es, σ => (evVs es σ).bind fun ds => .ok (.sq ds)
  | .dic ks vs, σ => (evVs ks σ).bind fun ds => (evVs vs σ).bind fun es => (ofV (dispV ds es [])).bind fun kvs => .ok (mkDic kvs)
  | .bin o a b, σ => (evV a σ).bind fun x => (evV b σ).bind fun y => binV o x y
  | .neg a, σ => (evV a σ).bind fun x => (getIV x).bind fun i => .ok (.int (-i))
  | .not a, σ => (evV a σ).bind fun x => (truV x).bind fun b => .ok (.bl !b)
  | .and a b, σ => (evV a σ).bind fun x => (truV x).bind fun t => if t = true then evV b σ else .ok x
  | .or a b, σ => (evV a σ).bind fun x => (truV x).bind fun t => if t = true then .ok x else evV b σ
  | .cmp o a b, σ => (evV a σ).bind fun x => (evV b σ).bind fun y => (cmpV o x y).bind fun t => .ok (.bl t)
  | .chn o p a b d, σ => (evV a σ).bind fun x => (evV b σ).bind fun y => (cmpV o x y).bind fun t => if t = true then (evV d σ).bind fun z => (cmpV p y z).bind fun u => .ok (.bl u) else .ok (.bl false)
  | .ife t a b, σ => (evV t σ).bind fun x => (truV x).bind fun v => if v = true then evV a σ else evV b σ
  | .idx a i, σ => (evV a σ).bind fun x => (evV i σ).bind fun y => idxV x y
  | .slc a lo hi, σ => (evV a σ).bind fun x => (evVo lo σ).bind fun l => (evVo hi σ).bind fun u => slcV x l u
  | .call f es, σ => (evVs es σ).bind fun ds => c f ds
  | .blt f es, σ => (evVs es σ).bind fun ds => bltV f ds
  | .mth m o es, σ => (evV o σ).bind fun x => (kndV m x).bind fun _ => (evVs es σ).bind fun ds => mthV m x ds
  | .isi e t, σ => (evV e σ).bind fun v => (ofV (tyV v)).bind fun k => .ok (.bl (isT t k))
  | .ise e k, σ => (evV e σ).bind fun v => match v with
    | .exc j => .ok (.bl (subC j k))
    | _ => .bad
  | .lc tg it cond elt, σ => (evVi it σ).bind fun xs => (lcV tg (evVc cond) (evV elt) σ xs).bind fun ys => .ok (.sq ys)
  | .mdef mx e d, σ => (evV e σ).bind fun v => (evV d σ).bind fun w => (ofV (getV v)).bind fun xs => (ofV (intsOf xs)).bind fun
      | [] => (getIV w).bind fun i => .ok (.int i)
      | i :: r => .ok (.int (if mx = true then maxI i r else minI i r))
  | .sset e, σ => (evV e σ).bind fun v => ssetV v
  | .lset e, σ => (evV e σ).bind fun v => ofV ((seqV v).bind lsetD)
  | .lrng es, σ => (evVs es σ).bind lrngV
  | _, _ => .bad
def evVs : List ME → Sg → Rv (List D)
  | [], _ => .ok []
  | e :: es, σ => (evV e σ).bind fun d => (evVs es σ).bind fun ds => .ok (d :: ds)
def evVo : Option ME → Sg → Rv (Option Int)
  | none, _ => .ok none
  | some e, σ => (evV e σ).bind fun d => (getIV d).bind fun i => .ok (some i)
def evVc : Option ME → Sg → Rv Bool
  | none, _ => .ok true
  | some t, σ => (evV t σ).bind truV
def evVi : ITr → Sg → Rv (List D)
  | .seq e, σ => (evV e σ).bind itmV
  | .rng a, σ => (evV a σ).bind fun v => (getIV v).bind fun i => rngB i
  | .rng2 a b, σ => (evV a σ).bind fun v => (evV b σ).bind fun w => (getIV v).bind fun i => (getIV w).bind fun j => rngB2 i j
  | .enm e, σ => (evV e σ).bind enmB
  | .zip a b, σ => (evV a σ).bind fun v => (evV b σ).bind fun w => zipB v w
end
def evXV : MT → Sg → Rv Unit
  | .exp e, σ => (evV c e σ).bind fun _ => .ok ()
  | .ife t a b, σ => (evV c t σ).bind fun x => (truV x).bind fun v => if v = true then evXV a σ else evXV b σ
def setsV : List Nat → List D → Sg → Option Sg
  | [], [], σ => some σ
  | i :: is, d :: ds, σ => setsV is ds (σ.set i (.sh d))
  | _, _, _ => none
/-- o[i] = v, an owned o -/
def putV (o i v : D) : Rv D := match o with
  | .sq xs => match i with
    | .int k => (ofV (ixD xs.length k)).bind fun j => .ok (.sq (xs.set j v))
    | _ => .bad
  | .dic ks vs => if (okKeyV ks i && decide (ks.length < lim)) = true then .ok (mkDic (dput (ks.zip vs) i v)) else .bad
  | _ => .bad
/-- what a method does to an owned thing, and answers -/
def mutV (m : Mh) (o : D) (vs : List D) : Rv (D × D) := match m, o, vs with
  | .append, .sq xs, [x] => if xs.length < lim then .ok (.sq (xs ++ [x]), .non) else .bad
  | .pop, .sq xs, [] => match xs.getLast? with
    | some y => .ok (.sq xs.dropLast, y)
    | none => .bad
  | .pop, .sq xs, [.int k] => match (if -4611686018427387904 ≤ k ∧ k < 4611686018427387904 then ixD xs.length k else none) with
    | some j => (match xs[j]? with | some y => .ok (.sq (xs.eraseIdx j), y) | none => .bad)
    | none => .bad
  | .reverse, .sq xs, [] => .ok (.sq xs.reverse, .non)
  | .clear, .sq _, [] => .ok (.sq [], .non)
  | _, _, _ => .bad
def isMut : Mh → Bool
  | .append => true
  | .pop => true
  | .reverse => true
  | .clear => true
  | _ => false
variable (own : String → Nat)
/-- a method of an owned thing -/
def doM (m : Mh) (i : Nat) (ds : List D) (σ : Sg) : Rv (D × Sg) := match σ[i]? with
  | some (.ow o) => (mutV m o ds).bind fun p => .ok (p.2, σ.set i (.ow p.1))
  | _ => .bad
def popOf : ME → Option Nat
  | .mth .pop (.loc j) [] => some j
  | _ => none
/-- parts of a tuple, of which some are taken off an owned list -/
def evPs : List ME → Sg → Rv (List D × Sg)
  | [], σ => .ok ([], σ)
  | e :: es, σ => match popOf e with
    | some j => (doM .pop j [] σ).bind fun p => (evPs es p.2).bind fun q => .ok (p.1 :: q.1, q.2)
    | none => (evV c e σ).bind fun v => (evPs es (esc own σ e v)).bind fun q => .ok (v :: q.1, q.2)
/-- the same of a part of an owned tuple -/
def doP (m : Mh) (i k : Nat) (ds : List D) (σ : Sg) : Rv Sg := match σ[i]? with
  | some (.ow (.tup xs)) => (ofV xs[k]?).bind fun u => (mutV m u ds).bind fun p => .ok (σ.set i (.ow (.tup (xs.set k p.1))))
  | _ => .bad
def putSl (i : Nat) (k v : D) (σ : Sg) : Rv Sg := match σ[i]? with
  | some (.ow o) => (putV o k v).bind fun o' => .ok (σ.set i (.ow o'))
  | _ => .bad
def isOwP (σ : Sg) (i k : Nat) : Bool := match σ[i]? with
  | some (.ow (.tup xs)) => match xs[k]? with
    | some (.sq _) => true
    | _ => false
  | _ => false
def alVs (σ : Sg) : List ME → List D → List Nat
  | e :: es, v :: vs => (if isH v = true then alA own σ e else []) ++ alVs σ es vs
  | _, _ => []
def escs (es : List ME) (vs : List D) (σ : Sg) : Sg := shr (alVs own σ es vs) σ
def isOwL (σ : Sg) (i : Nat) : Bool := match σ[i]? with
  | some (.ow (.sq _)) => true
  | _ => false
def compOk (σ : Sg) : List ME → List D → List Nat → Bool
  | [], [], _ => true
  | e :: es, v :: vs, us => (v.nrf && compOk σ es vs us) || (match e with
    | .loc i => isOw σ i && (match v with | .sq _ => true | .dic _ _ => true | _ => false) && !us.contains i && compOk σ es vs (i :: us)
    | _ => false)
  | _, _, _ => false
def flc : D → Bool
  | .sq xs => D.nrfs xs
  | .dic _ vs => D.nrfs vs
  | .tup xs => xs.all fun | .sq ys => D.nrfs ys | .dic _ vs => D.nrfs vs | d => d.nrf
  | _ => true
def retOk (n : Nat) (σ : Sg) (e : ME) (v : D) : Bool := decide (n = 0) || ((match e with
    | .loc i => v.nrf || isOw σ i
    | .tup es => match v with
      | .tup vs => compOk σ es vs []
      | _ => false
    | e => v.nrf || frs own e v) && (decide (n = 1) || flc v))
noncomputable section
def upkV (σ : Sg) (is : List Nat) (e : ME) (v : D) : Rv Fv := match v with
  | .tup ds => (ofV (setsV is ds (esc own σ e v))).bind fun σ' => .ok (.nx σ')
  | .sq ds => (ofV (setsV is ds (esc own σ e v))).bind fun σ' => .ok (.nx σ')
  | _ => .bad
mutual
def evSV (n : Nat) : MS → Sg → Rv Fv
  | .set i (.loc j), σ => (locV σ j).bind fun v => if isOw σ j = true then .ok (.nx ((σ.set j .no).set i (.ow v))) else .ok (.nx (σ.set i (.sh v)))
  | .set i (.mth .pop (.loc j) es), σ => if isOwL σ j = true then (evVs c es σ).bind fun ds => (doM .pop j ds (escs own es ds σ)).bind fun p => .ok (.nx (p.2.set i (.sh p.1))) else .bad
  | .set i e, σ => (evV c e σ).bind fun v => .ok (.nx ((esc own σ e v).set i (if frs own e v = true then .ow v else .sh v)))
  | .upk is e, σ => (evV c e σ).bind fun v => upkV own σ is e v
  | .par is es, σ => (evVs c es σ).bind fun ds => (ofV (setsV is ds (escs own es ds σ))).bind fun σ' => .ok (.nx σ')
  | .sub (.loc i) k e, σ => if isOw σ i = true then (evV c e σ).bind fun v => (evV c k σ).bind fun kk => (putSl i kk v (esc own σ e v)).bind fun σ' => .ok (.nx σ') else .bad
  | .exp (.mth .append (.loc i) [.tup es]), σ => if isOwL σ i = true then (evPs c own es σ).bind fun q => (doM .append i [.tup q.1] q.2).bind fun p => .ok (.nx p.2) else .bad
  | .exp (.mth m (.loc i) es), σ => if isMut m = true then (if isOwL σ i = true then (evVs c es σ).bind fun ds => (doM m i ds (escs own es ds σ)).bind fun p => .ok (.nx p.2) else .bad) else (evV c (.mth m (.loc i) es) σ).bind fun _ => .ok (.nx σ)
  | .exp (.mth m (.idx (.loc i) (.cst (.int (.ofNat k)))) es), σ => if isMut m = true then (if isOwP σ i k = true then (evVs c es σ).bind fun ds => (doP m i k ds (escs own es ds σ)).bind fun σ' => .ok (.nx σ') else .bad) else (evV c (.mth m (.idx (.loc i) (.cst (.int (.ofNat k)))) es) σ).bind fun _ => .ok (.nx σ)
  | .exp e, σ => (evV c e σ).bind fun _ => .ok (.nx σ)
  | .ret e, σ => (evV c e σ).bind fun v => if retOk own n σ e v = true then .ok (.rt v) else .bad
  | .ife t a b, σ => (evV c t σ).bind fun x => (truV x).bind fun v => if v = true then evBV n a σ else evBV n b σ
  | .for_ tg it body, σ => (evVi c it σ).bind fun xs => forV tg (fun σ1 => evBV n body σ1) xs (shr (alIt own σ it) σ)
  | .whl t body, σ => whlV (fun σ1 => (evV c t σ1).bind truV) (fun σ1 => evBV n body σ1) WFu σ
  | .rse k, _ => .ex k
  | .try_ body hs, σ => match evXV c body σ with
    | .ok _ => .ok (.nx σ)
    | .ex k => evHV n k hs σ
    | .bad => .bad
  | .pas, σ => .ok (.nx σ)
  | _, _ => .bad
def evBV (n : Nat) : List MS → Sg → Rv Fv
  | [], σ => .ok (.nx σ)
  | s :: r, σ => (evSV n s σ).bind fun
    | .nx σ' => evBV n r σ'
    | .rt d => .ok (.rt d)
def evHV (n k : Nat) : List (Nat × Option Nat × List MS) → Sg → Rv Fv
  | [], _ => .ex k
  | (j, sl, b) :: r, σ => if subC k j = true then (safeV (evBV n b (match sl with | some i => σ.set i (.sh (.exc k)) | none => σ))).bind (fun
      | .nx σ' => .ok (.nx (match sl with | some i => σ'.set i .no | none => σ'))
      | .rt d => .ok (.rt d)) else evHV n k r σ
end
end
end
noncomputable section
def runV (c : ClV) (own : String → Nat) (n : Nat) (fd : FD) (ds : List D) : Rv D := if ds.length = fd.ar then (evBV c own n fd.body (ds.map Sl.sh ++ List.replicate (fd.ns - fd.ar) Sl.no)).bind fun
  | .rt d => .ok d
  | .nx _ => .ok .non else .bad
structure VT where
  own : String → Nat
  orc : String → Option (Nat → List D → Rv D)
/-- n calls, one in another -/
def callV (P : PrM) (T : VT) : Nat → ClV
  | 0 => fun _ _ => .bad
  | n + 1 => fun f ds => match T.orc f with
    | some F => F n ds
    | none => match P f with
      | some fd => runV (callV P T n) T.own (T.own f) fd ds
      | none => .bad
end
end MI

set_option autoImplicit false
set_option linter.all false
set_option Elab.async false
set_option maxRecDepth 100000
/-! ViS1: how VI's values lie in MI's heap. -/
namespace MI
/-! ### footprints -/
mutual
def Rd (F : Nat → Prop) (η : Hv) : D → D → Prop
  | .non, d => d = .non
  | .bl b, d => d = .bl b
  | .int i, d => d = .int i
  | .str s, d => d = .str s
  | .tup vs, d => ∃ ds, d = .tup ds ∧ Rds F η vs ds
  | .ref _, _ => False
  | .exc c, d => d = .exc c
  | .lst xs, d => d = .lst xs ∧ D.nrfs xs = true
  | .sq vs, d => ∃ a ds, d = .ref a ∧ F a ∧ η[a]? = some (.lst ds) ∧ Rds F η vs ds
  | .dic ks vs, d => ∃ a ds, d = .ref a ∧ F a ∧ η[a]? = some (.dic (ks.zip ds)) ∧ ks.length = ds.length ∧ D.nrfs ks = true ∧ Rds F η vs ds
def Rds (F : Nat → Prop) (η : Hv) : List D → List D → Prop
  | [], ds => ds = []
  | v :: vs, ds => ∃ d r, ds = d :: r ∧ Rd F η v d ∧ Rds F η vs r
end
/-- objects at which F holds stand on -/
def Kp (F : Nat → Prop) (η η' : Hv) : Prop := ∀ (i : Nat) (o : O), F i → η[i]? = some o → η'[i]? = some o
theorem Ext.kp {F : Nat → Prop} {η η' : Hv} (h : Ext η η') : Kp F η η' := fun i o _ e => h i o e
theorem lt_of {η : Hv} {a : Nat} {o : O} (h : η[a]? = some o) : a < η.length := (List.getElem?_eq_some_iff.mp h).1
section
variable {F F' : Nat → Prop} {η η' : Hv}
mutual
theorem Rd.mono (hF : ∀ a, a < η.length → F a → F' a) (hK : Kp F η η') : ∀ (v d : D), Rd F η v d → Rd F' η' v d
  | .non, _, h => h
  | .bl _, _, h => h
  | .int _, _, h => h
  | .str _, _, h => h
  | .ref _, _, h => h
  | .exc _, _, h => h
  | .lst _, _, h => h
  | .tup vs, _, h => by
    obtain ⟨ds, e, h⟩ := h
    exact ⟨ds, e, Rds.mono hF hK vs ds h⟩
  | .sq vs, _, h => by
    obtain ⟨a, ds, e, h1, h2, h3⟩ := h
    exact ⟨a, ds, e, hF a (lt_of h2) h1, hK _ _ h1 h2, Rds.mono hF hK vs ds h3⟩
  | .dic ks vs, _, h => by
    obtain ⟨a, ds, e, h1, h2, h3, h4, h5⟩ := h
    exact ⟨a, ds, e, hF a (lt_of h2) h1, hK _ _ h1 h2, h3, h4, Rds.mono hF hK vs ds h5⟩
theorem Rds.mono (hF : ∀ a, a < η.length → F a → F' a) (hK : Kp F η η') : ∀ (vs ds : List D), Rds F η vs ds → Rds F' η' vs ds
  | [], _, h => h
  | v :: vs, _, h => by
    obtain ⟨d, r, e, h1, h2⟩ := h
    exact ⟨d, r, e, Rd.mono hF hK v d h1, Rds.mono hF hK vs r h2⟩
end
theorem Rd.ext {v d : D} (h : Rd F η v d) (x : Ext η η') : Rd F η' v d := Rd.mono (fun _ _ h => h) x.kp v d h
theorem Rds.ext {v d : List D} (h : Rds F η v d) (x : Ext η η') : Rds F η' v d := Rds.mono (fun _ _ h => h) x.kp v d h
theorem Rd.wk {v d : D} (h : Rd F η v d) (q : ∀ a, a < η.length → F a → F' a) : Rd F' η v d := Rd.mono q (fun _ _ _ e => e) v d h
theorem Rds.wk {v d : List D} (h : Rds F η v d) (q : ∀ a, a < η.length → F a → F' a) : Rds F' η v d := Rds.mono q (fun _ _ _ e => e) v d h
mutual
theorem Rd.self : ∀ (v : D), v.nrf = true → Rd F η v v
  | .non, _ => rfl
  | .bl _, _ => rfl
  | .int _, _ => rfl
  | .str _, _ => rfl
  | .ref _, h => nomatch h
  | .exc _, _ => rfl
  | .lst _, h => ⟨rfl, h⟩
  | .tup vs, h => ⟨vs, rfl, Rds.self vs h⟩
  | .sq _, h => nomatch h
  | .dic _ _, h => nomatch h
theorem Rds.self : ∀ (vs : List D), D.nrfs vs = true → Rds F η vs vs
  | [], _ => rfl
  | v :: vs, h => by
    rw [D.nrfs, Bool.and_eq_true] at h
    exact ⟨v, vs, rfl, Rd.self v h.1, Rds.self vs h.2⟩
end
mutual
theorem Rd.nrf : ∀ (v d : D), v.nrf = true → Rd F η v d → d = v
  | .non, _, _, h => h
  | .bl _, _, _, h => h
  | .int _, _, _, h => h
  | .str _, _, _, h => h
  | .ref _, _, h, _ => nomatch h
  | .exc _, _, _, h => h
  | .lst _, _, _, h => h.1
  | .tup vs, _, q, h => by
    obtain ⟨ds, e, h⟩ := h
    rw [e, Rds.nrf vs ds q h]
  | .sq _, _, h, _ => nomatch h
  | .dic _ _, _, h, _ => nomatch h
theorem Rds.nrf : ∀ (vs ds : List D), D.nrfs vs = true → Rds F η vs ds → ds = vs
  | [], _, _, h => h
  | v :: vs, _, q, h => by
    rw [D.nrfs, Bool.and_eq_true] at q
    obtain ⟨d, r, e, h1, h2⟩ := h
    rw [e, Rd.nrf v d q.1 h1, Rds.nrf vs r q.2 h2]
end
theorem Rds.len : ∀ {vs ds : List D}, Rds F η vs ds → ds.length = vs.length
  | [], _, h => by rw [show _ = [] from h]
  | v :: vs, _, h => by
    obtain ⟨d, r, e, _, h2⟩ := h
    rw [e, List.length_cons, List.length_cons, Rds.len h2]
theorem Rds.get : ∀ {vs ds : List D} {i : Nat} {v : D}, Rds F η vs ds → vs[i]? = some v → ∃ d, ds[i]? = some d ∧ Rd F η v d
  | [], _, _, _, _, e => by simp at e
  | x :: xs, _, 0, v, h, e => by
    obtain ⟨d, r, rfl, h1, _⟩ := h
    simp at e; subst e
    exact ⟨d, rfl, h1⟩
  | x :: xs, _, i + 1, v, h, e => by
    obtain ⟨d, r, rfl, _, h2⟩ := h
    obtain ⟨w, q, k⟩ := Rds.get (i := i) h2 (by simpa using e)
    exact ⟨w, by simpa using q, k⟩
theorem Rds.append : ∀ {vs ws ds es : List D}, Rds F η vs ds → Rds F η ws es → Rds F η (vs ++ ws) (ds ++ es)
  | [], _, _, _, h, q => by rw [show _ = [] from h]; exact q
  | x :: xs, _, _, _, h, q => by
    obtain ⟨d, r, rfl, h1, h2⟩ := h
    exact ⟨d, r ++ _, rfl, h1, Rds.append h2 q⟩
theorem Rds.one {v d : D} (h : Rd F η v d) : Rds F η [v] [d] := ⟨d, [], rfl, h, rfl⟩
theorem Rds.take : ∀ {vs ds : List D} (n : Nat), Rds F η vs ds → Rds F η (vs.take n) (ds.take n)
  | _, _, 0, _ => by simp; exact rfl
  | [], _, n + 1, h => by rw [show _ = [] from h]; exact rfl
  | x :: xs, _, n + 1, h => by
    obtain ⟨d, r, rfl, h1, h2⟩ := h
    exact ⟨d, r.take n, rfl, h1, Rds.take n h2⟩
theorem Rds.drop : ∀ {vs ds : List D} (n : Nat), Rds F η vs ds → Rds F η (vs.drop n) (ds.drop n)
  | _, _, 0, h => h
  | [], _, n + 1, h => by rw [show _ = [] from h]; exact rfl
  | x :: xs, _, n + 1, h => by
    obtain ⟨d, r, rfl, h1, h2⟩ := h
    exact Rds.drop n h2
theorem Rds.set : ∀ {vs ds : List D} (i : Nat) {v d : D}, Rds F η vs ds → Rd F η v d → Rds F η (vs.set i v) (ds.set i d)
  | [], _, _, _, _, h, _ => by rw [show _ = [] from h]; exact rfl
  | x :: xs, _, 0, _, w, h, q => by
    obtain ⟨d, r, rfl, h1, h2⟩ := h
    exact ⟨w, r, rfl, q, h2⟩
  | x :: xs, _, i + 1, _, w, h, q => by
    obtain ⟨d, r, rfl, h1, h2⟩ := h
    exact ⟨d, r.set i w, rfl, h1, Rds.set i h2 q⟩
theorem Rds.dropLast {vs ds : List D} (h : Rds F η vs ds) : Rds F η vs.dropLast ds.dropLast := by
  rw [List.dropLast_eq_take, List.dropLast_eq_take, h.len]
  exact Rds.take _ h
theorem Rds.reverse : ∀ {vs ds : List D}, Rds F η vs ds → Rds F η vs.reverse ds.reverse
  | [], _, h => by rw [show _ = [] from h]; exact rfl
  | x :: xs, _, h => by
    obtain ⟨d, r, rfl, h1, h2⟩ := h
    rw [List.reverse_cons, List.reverse_cons]
    exact Rds.append (Rds.reverse h2) (Rds.one h1)
theorem Rds.erase : ∀ {vs ds : List D} (i : Nat), Rds F η vs ds → Rds F η (vs.eraseIdx i) (ds.eraseIdx i)
  | [], _, _, h => by rw [show _ = [] from h]; exact rfl
  | x :: xs, _, 0, h => by
    obtain ⟨d, r, rfl, h1, h2⟩ := h
    exact h2
  | x :: xs, _, i + 1, h => by
    obtain ⟨d, r, rfl, h1, h2⟩ := h
    exact ⟨d, r.eraseIdx i, rfl, h1, Rds.erase i h2⟩
theorem Rds.getLast {vs ds : List D} {v : D} (h : Rds F η vs ds) (e : vs.getLast? = some v) : ∃ d, ds.getLast? = some d ∧ Rd F η v d := by
  rw [List.getLast?_eq_getElem?] at e ⊢
  rw [h.len]
  exact h.get e
theorem Rds.isEmpty {vs ds : List D} (h : Rds F η vs ds) : ds.isEmpty = vs.isEmpty := by
  have := h.len
  cases ds <;> cases vs <;> first | rfl | simp_all
theorem Rds.rep {vs ds : List D} (h : Rds F η vs ds) : ∀ n : Nat, Rds F η (List.replicate n vs).flatten (List.replicate n ds).flatten
  | 0 => rfl
  | n + 1 => by
    rw [List.replicate_succ, List.replicate_succ, List.flatten_cons, List.flatten_cons]
    exact h.append (h.rep n)
theorem Rds.cut {vs ds : List D} (h : Rds F η vs ds) (lo hi : Option Int) : Rds F η (mcut vs lo hi) (mcut ds lo hi) := by
  unfold mcut
  rw [h.len]
  exact (h.drop _).take _
theorem Rds.atD {vs ds : List D} {i : Int} {v : D} (h : Rds F η vs ds) (e : MI.atD vs i = some v) : ∃ d, MI.atD ds i = some d ∧ Rd F η v d := by
  unfold MI.atD at e ⊢
  rw [h.len]
  cases q : ixD vs.length i with
  | none => rw [q] at e; cases e
  | some j => rw [q] at e; exact h.get e
/-- the roots told apart: F asks of what lies in them -/
def RdT (F : Nat → Prop) (η : Hv) : D → D → Prop
  | .sq vs, d => ∃ a ds, d = .ref a ∧ η[a]? = some (.lst ds) ∧ Rds F η vs ds
  | .dic ks vs, d => ∃ a ds, d = .ref a ∧ η[a]? = some (.dic (ks.zip ds)) ∧ ks.length = ds.length ∧ D.nrfs ks = true ∧ Rds F η vs ds
  | v, d => Rd F η v d
theorem Rd.t {v d : D} (h : Rd F η v d) : RdT F η v d := by
  cases v with
  | sq vs => obtain ⟨a, ds, e, _, h2, h3⟩ := h; exact ⟨a, ds, e, h2, h3⟩
  | dic ks vs => obtain ⟨a, ds, e, _, h2, h3⟩ := h; exact ⟨a, ds, e, h2, h3⟩
  | _ => exact h
theorem RdT.ext {v d : D} (h : RdT F η v d) (x : Ext η η') : RdT F η' v d := by
  cases v with
  | sq vs => obtain ⟨a, ds, e, h2, h3⟩ := h; exact ⟨a, ds, e, x _ _ h2, h3.ext x⟩
  | dic ks vs => obtain ⟨a, ds, e, h2, h3, h4, h5⟩ := h; exact ⟨a, ds, e, x _ _ h2, h3, h4, h5.ext x⟩
  | _ => exact Rd.ext h x
theorem RdT.wk {v d : D} (h : RdT F η v d) (q : ∀ a, a < η.length → F a → F' a) : RdT F' η v d := by
  cases v with
  | sq vs => obtain ⟨a, ds, e, h2, h3⟩ := h; exact ⟨a, ds, e, h2, h3.wk q⟩
  | dic ks vs => obtain ⟨a, ds, e, h2, h3, h4, h5⟩ := h; exact ⟨a, ds, e, h2, h3, h4, h5.wk q⟩
  | _ => exact Rd.wk h q
theorem RdT.tup {vs : List D} {d : D} (h : RdT F η (.tup vs) d) : ∃ ds, d = .tup ds ∧ Rds F η vs ds := h
/-- each owned root once, in order -/
def RdR (F : Nat → Prop) (η : Hv) (R : List Nat) (v d : D) : Prop := match v with
  | .sq vs => ∃ a ds, R = [a] ∧ d = .ref a ∧ η[a]? = some (.lst ds) ∧ Rds F η vs ds
  | .dic ks vs => ∃ a ds, R = [a] ∧ d = .ref a ∧ η[a]? = some (.dic (ks.zip ds)) ∧ ks.length = ds.length ∧ D.nrfs ks = true ∧ Rds F η vs ds
  | v => R = [] ∧ Rd F η v d
def RdRs (F : Nat → Prop) (η : Hv) : List Nat → List D → List D → Prop
  | R, [], ds => R = [] ∧ ds = []
  | R, v :: vs, ds => ∃ R1 R2 d r, R = R1 ++ R2 ∧ ds = d :: r ∧ RdR F η R1 v d ∧ RdRs F η R2 vs r
/-- owned: a list, a dict, or a tuple of such -/
def RdC (F : Nat → Prop) (η : Hv) (R : List Nat) (v d : D) : Prop := match v with
  | .tup vs => ∃ ds, d = .tup ds ∧ RdRs F η R vs ds
  | v => RdR F η R v d
theorem RdC.unf {R : List Nat} {v d : D} (h : ∀ vs, v ≠ .tup vs) : RdC F η R v d = RdR F η R v d := by
  cases v <;> first | rfl | exact absurd rfl (h _)
theorem RdR.rd {R : List Nat} {v d : D} (h : RdR F η R v d) : Rd (fun a => F a ∨ a ∈ R) η v d := by
  cases v with
  | sq vs => obtain ⟨a, ds, rfl, e, h2, h3⟩ := h; exact ⟨a, ds, e, .inr (by simp), h2, h3.wk fun _ _ => .inl⟩
  | dic ks vs => obtain ⟨a, ds, rfl, e, h2, h3, h4, h5⟩ := h; exact ⟨a, ds, e, .inr (by simp), h2, h3, h4, h5.wk fun _ _ => .inl⟩
  | _ => exact Rd.wk h.2 fun _ _ => .inl
theorem RdRs.rd : ∀ {vs ds : List D} {R : List Nat}, RdRs F η R vs ds → Rds (fun a => F a ∨ a ∈ R) η vs ds
  | [], _, _, h => h.2
  | v :: vs, _, R, h => by
    obtain ⟨R1, R2, d, r, rfl, e, h1, h2⟩ := h
    exact ⟨d, r, e, h1.rd.wk fun a _ q => q.imp id fun q => List.mem_append.mpr (.inl q), (RdRs.rd h2).wk fun a _ q => q.imp id fun q => List.mem_append.mpr (.inr q)⟩
theorem RdC.rd {R : List Nat} {v d : D} (h : RdC F η R v d) : Rd (fun a => F a ∨ a ∈ R) η v d := by
  cases v with
  | tup vs => obtain ⟨ds, e, h⟩ := h; exact ⟨ds, e, h.rd⟩
  | _ => rw [RdC.unf (by intro _ z; cases z)] at h; exact h.rd
theorem RdR.mono {R : List Nat} {v d : D} (h : RdR F η R v d) (hF : ∀ a, a < η.length → F a → F' a) (hK : Kp (fun a => F a ∨ a ∈ R) η η') : RdR F' η' R v d := by
  have hK' : Kp F η η' := fun i o h e => hK i o (.inl h) e
  cases v with
  | sq vs => obtain ⟨a, ds, rfl, e, h2, h3⟩ := h; exact ⟨a, ds, rfl, e, hK _ _ (.inr (by simp)) h2, Rds.mono hF hK' _ _ h3⟩
  | dic ks vs => obtain ⟨a, ds, rfl, e, h2, h3, h4, h5⟩ := h; exact ⟨a, ds, rfl, e, hK _ _ (.inr (by simp)) h2, h3, h4, Rds.mono hF hK' _ _ h5⟩
  | _ => exact ⟨h.1, Rd.mono hF hK' _ _ h.2⟩
theorem RdRs.mono : ∀ {vs ds : List D} {R : List Nat}, RdRs F η R vs ds → (∀ a, a < η.length → F a → F' a) → (Kp (fun a => F a ∨ a ∈ R) η η') → RdRs F' η' R vs ds
  | [], _, _, h, _, _ => h
  | v :: vs, _, R, h, hF, hK => by
    obtain ⟨R1, R2, d, r, rfl, e, h1, h2⟩ := h
    exact ⟨R1, R2, d, r, rfl, e, h1.mono hF fun i o q => hK i o (q.imp id fun q => List.mem_append.mpr (.inl q)), RdRs.mono h2 hF fun i o q => hK i o (q.imp id fun q => List.mem_append.mpr (.inr q))⟩
theorem RdC.mono {R : List Nat} {v d : D} (h : RdC F η R v d) (hF : ∀ a, a < η.length → F a → F' a) (hK : Kp (fun a => F a ∨ a ∈ R) η η') : RdC F' η' R v d := by
  cases v with
  | tup vs => obtain ⟨ds, e, h⟩ := h; exact ⟨ds, e, h.mono hF hK⟩
  | _ => rw [RdC.unf (by intro _ z; cases z)] at h ⊢; exact h.mono hF hK
theorem RdC.ext {R : List Nat} {v d : D} (h : RdC F η R v d) (x : Ext η η') : RdC F η' R v d := h.mono (fun _ _ h => h) x.kp
theorem RdC.wk {R : List Nat} {v d : D} (h : RdC F η R v d) (q : ∀ a, a < η.length → F a → F' a) : RdC F' η R v d := h.mono q fun _ _ _ e => e
theorem RdR.lt {R : List Nat} {v d : D} (h : RdR F η R v d) : ∀ a ∈ R, a < η.length := by
  cases v with
  | sq vs => obtain ⟨a, ds, rfl, e, h2, h3⟩ := h; intro b hb; rw [List.mem_singleton.mp hb]; exact lt_of h2
  | dic ks vs => obtain ⟨a, ds, rfl, e, h2, h3⟩ := h; intro b hb; rw [List.mem_singleton.mp hb]; exact lt_of h2
  | _ => rw [h.1]; intro a ha; cases ha
theorem RdRs.lt : ∀ {vs ds : List D} {R : List Nat}, RdRs F η R vs ds → ∀ a ∈ R, a < η.length
  | [], _, _, h => by rw [h.1]; intro a ha; cases ha
  | v :: vs, _, R, h => by
    obtain ⟨R1, R2, d, r, rfl, e, h1, h2⟩ := h
    intro a ha
    rcases List.mem_append.mp ha with q | q
    · exact h1.lt a q
    · exact RdRs.lt h2 a q
theorem RdC.lt {R : List Nat} {v d : D} (h : RdC F η R v d) : ∀ a ∈ R, a < η.length := by
  cases v with
  | tup vs => obtain ⟨ds, e, h⟩ := h; exact h.lt
  | _ => rw [RdC.unf (by intro _ z; cases z)] at h; exact h.lt
/-- a value without references, and one of F's, owns nothing -/
theorem RdC.of_rd {v d : D} (h : Rd F η v d) (q : isH v = false) : RdC F η [] v d := by
  cases v <;> first | (cases q; done) | exact ⟨rfl, h⟩
theorem RdRs.of_rds : ∀ {vs ds : List D}, Rds F η vs ds → D.nrfs vs = true → RdRs F η [] vs ds
  | [], _, h, _ => ⟨rfl, h⟩
  | v :: vs, _, h, q => by
    rw [D.nrfs, Bool.and_eq_true] at q
    obtain ⟨d, r, e, h1, h2⟩ := h
    refine ⟨[], [], d, r, rfl, e, ?_, RdRs.of_rds h2 q.2⟩
    have q1 := q.1
    cases v <;> first | (cases q1; done) | exact ⟨rfl, h1⟩
theorem RdC.of_nrf {v d : D} (h : Rd F η v d) (q : v.nrf = true) : RdC F η [] v d := by
  cases v with
  | tup vs =>
    obtain ⟨ds, e, h⟩ := h
    exact ⟨ds, e, RdRs.of_rds h q⟩
  | sq _ => cases q
  | dic _ _ => cases q
  | _ => exact ⟨rfl, h⟩
end
/-! ### deep reading -/
section
variable {F : Nat → Prop} {η : Hv}
mutual
theorem Rd.deepW : ∀ (v d : D) (n : Nat), v.fine = true → v.nst ≤ n → Rd F η v d → MI.deepW (deepR η n) d = some v
  | .non, _, n, _, _, h => by rw [show _ = D.non from h]; rfl
  | .bl _, _, n, _, _, h => by rw [show _ = _ from h]; rfl
  | .int _, _, n, _, _, h => by rw [show _ = _ from h]; rfl
  | .str _, _, n, _, _, h => by rw [show _ = _ from h]; rfl
  | .ref _, _, n, h, _, _ => nomatch h
  | .exc _, _, n, h, _, _ => nomatch h
  | .lst _, _, n, h, _, _ => nomatch h
  | .dic _ _, _, n, h, _, _ => nomatch h
  | .tup vs, _, n, hf, hn, h => by
    obtain ⟨ds, rfl, h⟩ := h
    rw [D.fine] at hf
    rw [D.nst] at hn
    rw [MI.deepW, Rds.deepsW vs ds n hf hn h]
    rfl
  | .sq vs, _, 0, hf, hn, h => by rw [D.nst] at hn; omega
  | .sq vs, _, n + 1, hf, hn, h => by
    obtain ⟨a, ds, rfl, _, h2, h⟩ := h
    rw [D.fine] at hf
    rw [D.nst] at hn
    show deepR η (n + 1) a = _
    unfold deepR
    simp only [h2]
    rw [Rds.deepsW vs ds n hf (by omega) h]
    rfl
theorem Rds.deepsW : ∀ (vs ds : List D) (n : Nat), D.fines vs = true → D.nsts vs ≤ n → Rds F η vs ds → MI.deepsW (deepR η n) ds = some vs
  | [], _, n, _, _, h => by rw [show _ = [] from h]; rfl
  | v :: vs, _, n, hf, hn, h => by
    obtain ⟨d, r, rfl, h1, h2⟩ := h
    rw [D.fines, Bool.and_eq_true] at hf
    rw [D.nsts] at hn
    rw [MI.deepsW, Rd.deepW v d n hf.1 (by omega) h1, Rds.deepsW vs r n hf.2 (by omega) h2]
    rfl
end
theorem shpV_of {v : D} (h : shpV v = true) : shp v = true ∧ v.fine = true ∧ v.nst ≤ 6 := by
  unfold shpV at h
  rw [Bool.and_eq_true] at h
  refine ⟨h.1, ?_, of_decide_eq_true h.2⟩
  have h1 := h.1
  unfold shp at h1
  rw [Bool.and_eq_true] at h1
  exact h1.1
theorem RdT.deep {v d : D} (hs : shpV v = true) (h : RdT F η v d) : MI.deep η d = some v := by
  have h' : Rd (fun _ => True) η v d := by
    cases v with
    | sq vs => obtain ⟨a, ds, e, h2, h3⟩ := h; exact ⟨a, ds, e, trivial, h2, h3.wk fun _ _ _ => trivial⟩
    | dic ks vs => obtain ⟨a, ds, e, h2, h3, h4, h5⟩ := h; exact ⟨a, ds, e, trivial, h2, h3, h4, h5.wk fun _ _ _ => trivial⟩
    | _ => exact Rd.wk (F := F) h fun _ _ _ => trivial
  obtain ⟨_, h1, h2⟩ := shpV_of hs
  exact Rd.deepW v d 6 h1 h2 h'
theorem Rds.deep {vs ds : List D} (hs : vs.all shpV = true) (h : Rds F η vs ds) : MI.deepsW (deepR η 6) ds = some vs ∧ vs.all shp = true := by
  have k : D.fines vs = true ∧ D.nsts vs ≤ 6 ∧ vs.all shp = true := by
    clear h
    induction vs with
    | nil => exact ⟨rfl, Nat.zero_le _, rfl⟩
    | cons v vs ih =>
      rw [List.all_cons, Bool.and_eq_true] at hs
      obtain ⟨a1, a2, a3⟩ := ih hs.2
      obtain ⟨b1, b2, b3⟩ := shpV_of hs.1
      refine ⟨by rw [D.fines, b2, a1]; rfl, by rw [D.nsts]; omega, by rw [List.all_cons, b1, a3]; rfl⟩
  exact ⟨Rds.deepsW vs ds 6 k.1 k.2.1 h, k.2.2⟩
end
end MI

set_option autoImplicit false
set_option linter.all false
set_option Elab.async false
set_option maxRecDepth 100000
set_option maxHeartbeats 1000000
/-! ViS2: VI's operations over MI's. -/
namespace MI
section
variable {F : Nat → Prop} {η : Hv}
/-- a result: a list or dict is a new one, of old things -/
def Nw (F : Nat → Prop) (η η' : Hv) (v d : D) : Prop := match v with
  | .sq vs => ∃ a ds, d = .ref a ∧ η.length ≤ a ∧ η'[a]? = some (.lst ds) ∧ Rds F η vs ds
  | .dic ks vs => ∃ a ds, d = .ref a ∧ η.length ≤ a ∧ η'[a]? = some (.dic (ks.zip ds)) ∧ ks.length = ds.length ∧ D.nrfs ks = true ∧ Rds F η vs ds
  | v => Rd F η v d
theorem Nw.of {η' : Hv} {v d : D} (h : Rd F η v d) (q : ∀ vs, v ≠ .sq vs) (q2 : ∀ ks vs, v ≠ .dic ks vs) : Nw F η η' v d := by
  cases v <;> first | exact h | exact absurd rfl (q _) | exact absurd rfl (q2 _ _)
def Opd (F : Nat → Prop) (η : Hv) (m : Mo D) (v : D) : Prop := ∃ d η', m η = .ok d η' ∧ Ext η η' ∧ Nw F η η' v d
theorem Opd.new {m : Mo D} {vs ds : List D} (h : m η = allocM (.lst ds) η) (r : Rds F η vs ds) : Opd F η m (.sq vs) :=
  ⟨.ref η.length, η ++ [.lst ds], h.trans rfl, Ext.app, η.length, ds, rfl, Nat.le_refl _, at_new, r⟩
theorem Opd.old {m : Mo D} {v d : D} (h : m η = .ok d η) (r : Rd F η v d) (q : ∀ vs, v ≠ .sq vs) (q2 : ∀ ks vs, v ≠ .dic ks vs) : Opd F η m v :=
  ⟨d, η, h, Ext.refl, Nw.of r q q2⟩
theorem binV_ok {o : Op} {x y v dx dy : D} (h : binV o x y = .ok v) (rx : RdT F η x dx) (ry : RdT F η y dy) : Opd F η (binM o dx dy) v := by
  unfold binV at h
  split at h
  case h_1 => cases h; cases rx; cases ry; exact .old rfl rfl (fun _ z => nomatch z) (fun _ _ z => nomatch z)
  case h_2 => cases h; cases rx; cases ry; exact .old rfl rfl (fun _ z => nomatch z) (fun _ _ z => nomatch z)
  case h_3 =>
    split at h
    · rename_i c
      cases h; cases rx; cases ry
      exact .old (by simp only [binM, c, if_true]) rfl (fun _ z => nomatch z) (fun _ _ z => nomatch z)
    · cases h
  case h_4 =>
    split at h
    · rename_i c
      cases h
      obtain ⟨ds, rfl, r1⟩ := rx.tup
      obtain ⟨es, rfl, r2⟩ := ry.tup
      exact .old (d := .tup (ds ++ es)) (by simp only [binM, r1.len, r2.len, c, if_true]) ⟨_, rfl, r1.append r2⟩ (fun _ z => nomatch z) (fun _ _ z => nomatch z)
    · cases h
  case h_5 =>
    split at h
    · rename_i c
      cases h
      obtain ⟨a, ds, rfl, h1, r1⟩ := rx
      obtain ⟨b, es, rfl, h2, r2⟩ := ry
      exact .new (by simp only [binM, h1, h2, r1.len, r2.len, c, if_true]) (r1.append r2)
    · cases h
  case h_6 => cases h; cases rx; cases ry; exact .old rfl rfl (fun _ z => nomatch z) (fun _ _ z => nomatch z)
  case h_7 =>
    split at h
    · rename_i c
      cases h; cases rx; cases ry
      exact .old (by simp only [binM, c, if_true]) rfl (fun _ z => nomatch z) (fun _ _ z => nomatch z)
    · cases h
  case h_8 =>
    split at h
    · rename_i c
      cases h; cases ry
      obtain ⟨ds, rfl, r1⟩ := rx.tup
      exact .old (d := .tup _) (by simp only [binM]; rw [r1.len, if_pos c]) ⟨_, rfl, r1.rep _⟩ (fun _ z => nomatch z) (fun _ _ z => nomatch z)
    · cases h
  case h_9 =>
    split at h
    · rename_i c
      cases h; cases ry
      obtain ⟨a, ds, rfl, h1, r1⟩ := rx
      exact .new (by simp only [binM, h1]; rw [r1.len, if_pos c]) (r1.rep _)
    · cases h
  case h_10 =>
    split at h
    · rename_i c
      cases h; cases rx; cases ry
      exact .old (by simp only [binM]; rw [if_pos c]) rfl (fun _ z => nomatch z) (fun _ _ z => nomatch z)
    · cases h
  case h_11 =>
    split at h
    · rename_i c
      cases h; cases rx; cases ry
      exact .old (by simp only [binM]; rw [if_pos c]) rfl (fun _ z => nomatch z) (fun _ _ z => nomatch z)
    · cases h
  case h_12 =>
    split at h
    · rename_i c
      cases h; cases rx; cases ry
      exact .old (by simp only [binM]; rw [if_pos c]) rfl (fun _ z => nomatch z) (fun _ _ z => nomatch z)
    · cases h
  case h_13 => cases h
theorem truV_ok {x d : D} {b : Bool} (h : truV x = .ok b) (r : RdT F η x d) : truH d η = some b := by
  unfold truV at h
  split at h
  case h_1 => cases h; cases r; rfl
  case h_2 => cases h; cases r; rfl
  case h_3 => cases h; cases r; rfl
  case h_4 =>
    split at h
    · rename_i c
      cases h; cases r
      simp only [truH, c, if_true]
    · cases h
  case h_5 =>
    split at h
    · rename_i c
      cases h
      obtain ⟨ds, rfl, r1⟩ := r.tup
      simp only [truH, r1.len, c, if_true, r1.isEmpty]
    · cases h
  case h_6 =>
    cases h
    obtain ⟨a, ds, rfl, h1, r1⟩ := r
    simp only [truH, h1, r1.isEmpty]
  case h_7 => cases h
theorem tyV_ok {x d : D} {k : Tk} (h : tyV x = some k) (r : RdT F η x d) : tyD d η = some k := by
  unfold tyV at h
  split at h
  case h_1 => cases h; cases r; rfl
  case h_2 => cases h; cases r; rfl
  case h_3 => cases h; cases r; rfl
  case h_4 => cases h; cases r; rfl
  case h_5 => cases h; obtain ⟨ds, rfl, r1⟩ := r.tup; rfl
  case h_6 => cases h; obtain ⟨a, ds, rfl, h1, r1⟩ := r; simp only [tyD, h1]
  case h_7 => cases h
theorem eqV_ok {x y dx dy : D} {b : Bool} (h : eqV x y = .ok b) (rx : RdT F η x dx) (ry : RdT F η y dy) : eqH dx dy η = some b := by
  unfold eqV at h
  split at h
  case h_1 => cases h; cases rx; cases ry; rfl
  case h_2 => cases h; cases rx; cases ry; rfl
  case h_3 =>
    split at h
    · rename_i c
      cases h
      rw [Bool.and_eq_true] at c
      unfold eqH
      rw [rx.deep c.1, ry.deep c.2]
      show (if (shp x && shp y) = true then some (D.eqv x y) else none) = _
      rw [(shpV_of c.1).1, (shpV_of c.2).1]
      rfl
    · cases h
theorem getV_ok {x d : D} {xs : List D} (h : getV x = some xs) (r : RdT F η x d) : ∃ ds, getL η d = some ds ∧ Rds F η xs ds := by
  unfold getV at h
  split at h
  case h_1 => cases h; obtain ⟨a, ds, rfl, h1, r1⟩ := r; exact ⟨ds, by simp only [getL, h1], r1⟩
  case h_2 =>
    cases h
    obtain ⟨e, q⟩ := (show Rd F η (.lst _) d from r)
    subst e
    exact ⟨_, rfl, Rds.self _ q⟩
  case h_3 => cases h
theorem seqV_ok {x d : D} {xs : List D} (h : seqV x = some xs) (r : RdT F η x d) : ∃ ds, seqH d η = some ds ∧ Rds F η xs ds := by
  unfold seqV at h
  split at h
  case h_1 => cases h; obtain ⟨ds, rfl, r1⟩ := r.tup; exact ⟨ds, rfl, r1⟩
  case h_2 =>
    obtain ⟨ds, h1, h2⟩ := getV_ok h r
    refine ⟨ds, ?_, h2⟩
    unfold seqH
    split
    · cases h1
    · exact h1
theorem memV_ok {x dx : D} {ys ds : List D} {b : Bool} (h : memV x ys = .ok b) (rx : RdT F η x dx) (r : Rds F η ys ds) : memH dx ds η = some b := by
  unfold memV at h
  split at h
  · rename_i c
    cases h
    rw [Bool.and_eq_true] at c
    unfold memH
    obtain ⟨h1, h2⟩ := Rds.deep c.2 r
    rw [rx.deep c.1, h1]
    show (if (shp x && ys.all shp) = true then some _ else none) = _
    rw [(shpV_of c.1).1, h2]
    rfl
  · cases h
theorem keyOk_nrf {k : D} (h : keyOk k = true) : k.nrf = true := by
  have q : ∀ k, keyOk1 k = true → k.nrf = true := fun k h => by cases k <;> first | rfl | cases h
  cases k with
  | tup xs =>
    show D.nrfs xs = true
    have h' : xs.all keyOk1 = true := h
    clear h
    induction xs with
    | nil => rfl
    | cons x xs ih =>
      rw [List.all_cons, Bool.and_eq_true] at h'
      rw [D.nrfs, q x h'.1, ih h'.2]; rfl
  | _ => exact q _ h
theorem okKey_eq {k : D} : ∀ {ks ds : List D}, ks.length = ds.length → okKey (ks.zip ds) k = okKeyV ks k := by
  intro ks ds h
  unfold okKey okKeyV
  congr 1
  induction ks generalizing ds with
  | nil => rfl
  | cons c ks ih =>
    cases ds with
    | nil => cases h
    | cons d ds =>
      rw [List.zip_cons_cons, List.all_cons, List.all_cons, ih (by simpa using h)]
theorem any_zip {p : D → Bool} : ∀ {ks ds : List D}, ks.length = ds.length → ((ks.zip ds).any fun kv => p kv.1) = ks.any p := by
  intro ks ds h
  induction ks generalizing ds with
  | nil => rfl
  | cons c ks ih =>
    cases ds with
    | nil => cases h
    | cons d ds => rw [List.zip_cons_cons, List.any_cons, List.any_cons, ih (by simpa using h)]
theorem dget_ok {k : D} : ∀ {ks vs ds : List D}, ks.length = ds.length → Rds F η vs ds → (∀ v, dget (ks.zip vs) k = some v → ∃ d, dget (ks.zip ds) k = some d ∧ Rd F η v d) ∧ (dget (ks.zip vs) k = none → dget (ks.zip ds) k = none) := by
  intro ks
  induction ks with
  | nil => exact fun _ _ => ⟨fun v h => (nomatch h), fun _ => rfl⟩
  | cons c ks ih =>
    intro vs ds hl r
    cases vs with
    | nil => rw [show ds = [] from r] at hl; cases hl
    | cons v vs =>
      obtain ⟨d, t, rfl, h1, h2⟩ := r
      obtain ⟨i1, i2⟩ := ih (by simpa using hl) h2
      rw [List.zip_cons_cons, List.zip_cons_cons]
      unfold dget at i1 i2 ⊢
      rw [List.find?_cons, List.find?_cons]
      cases e : D.eqv c k with
      | true =>
        simp only [e]
        exact ⟨fun w hw => ⟨d, rfl, by cases hw; exact h1⟩, fun z => by cases z⟩
      | false =>
        simp only [e]
        exact ⟨i1, i2⟩
theorem inV_ok {x y dx dy : D} {b : Bool} (h : inV x y = .ok b) (rx : RdT F η x dx) (ry : RdT F η y dy) : inH dx dy η = some b := by
  unfold inV at h
  split at h
  case h_1 =>
    obtain ⟨a, ds, rfl, h1, r1⟩ := ry
    unfold inH
    simp only [getL, h1]
    exact memV_ok h rx r1
  case h_2 =>
    split at h
    · rename_i ks vs c
      cases h
      obtain ⟨a, ds, rfl, h1, hl, h2, r1⟩ := ry
      have hk : keyOk x = true := by unfold okKeyV at c; rw [Bool.and_eq_true] at c; exact c.1
      have e : dx = x := Rd.nrf x dx (keyOk_nrf hk) (by cases x <;> first | exact rx | cases hk)
      subst e
      unfold inH
      simp only [getL, MI.getD, h1]
      have q := okKey_eq (k := dx) hl
      unfold okKey at q
      rw [q, c, if_pos rfl, any_zip (p := fun c => D.eqv c dx) hl]
    · cases h
  case h_3 =>
    split at h
    · rename_i ys c
      cases h
      obtain ⟨ds, rfl, r1⟩ := ry.tup
      rw [Bool.and_eq_true] at c
      have fl : ∀ z, flatD z = true → z.nrf = true := fun z h => by cases z <;> first | rfl | cases h
      have fls : ∀ zs : List D, zs.all flatD = true → D.nrfs zs = true := fun zs h => by
        induction zs with
        | nil => rfl
        | cons z zs ih =>
          rw [List.all_cons, Bool.and_eq_true] at h
          rw [D.nrfs, fl z h.1, ih h.2]; rfl
      have e1 : dx = x := Rd.nrf x dx (fl x c.1) (by cases x <;> first | exact rx | cases c.1)
      have e2 : ds = ys := Rds.nrf ys ds (fls ys c.2) r1
      subst e1 e2
      unfold inH
      simp only [getL, MI.getD, c.1, c.2, Bool.and_self, if_true]
    · cases h
  case h_4 =>
    split at h
    · cases h; cases rx; cases ry; rfl
    · cases h
  case h_5 => cases h
theorem Rv.bind_ok {α β : Type} {m : Rv α} {f : α → Rv β} {b : β} (h : m.bind f = .ok b) : ∃ a, m = .ok a ∧ f a = .ok b := by
  cases m with
  | ok a => exact ⟨a, rfl, h⟩
  | ex c => cases h
  | bad => cases h
theorem Rv.bind_ex {α β : Type} {m : Rv α} {f : α → Rv β} {c : Nat} (h : m.bind f = .ex c) : m = .ex c ∨ ∃ a, m = .ok a ∧ f a = .ex c := by
  cases m with
  | ok a => exact .inr ⟨a, rfl, h⟩
  | ex k => cases h; exact .inl rfl
  | bad => cases h
theorem ofV_ok {α : Type} {o : Option α} {a : α} (h : ofV o = .ok a) : o = some a := by
  cases o with
  | none => cases h
  | some b => cases h; rfl
theorem ofV_ex {α : Type} {o : Option α} {c : Nat} (h : ofV o = .ex c) : False := by
  cases o <;> cases h
theorem cmpV_ok {o : Cm} {x y dx dy : D} {b : Bool} (h : cmpV o x y = .ok b) (rx : RdT F η x dx) (ry : RdT F η y dy) : cmpH o dx dy η = some b := by
  cases o with
  | eq => exact eqV_ok h rx ry
  | ne =>
    obtain ⟨c, h1, h2⟩ := Rv.bind_ok h
    cases h2
    show (eqH dx dy η).map _ = _
    rw [eqV_ok h1 rx ry]; rfl
  | isin => exact inV_ok h rx ry
  | nin =>
    obtain ⟨c, h1, h2⟩ := Rv.bind_ok h
    cases h2
    show (inH dx dy η).map _ = _
    rw [inV_ok h1 rx ry]; rfl
  | is =>
    unfold cmpV at h
    simp only at h
    split at h
    · cases ry; cases h
      show some _ = _
      cases x <;> first | exact rx.elim | (cases rx; rfl) | (obtain ⟨_, rfl, _⟩ := rx; rfl) | (obtain ⟨_, _, rfl, _⟩ := rx; rfl) | (obtain ⟨rfl, _⟩ := rx; rfl)
    · cases ry; cases h
      show some _ = _
      cases x <;> first | exact rx.elim | (cases rx; rfl) | (obtain ⟨_, rfl, _⟩ := rx; rfl) | (obtain ⟨_, _, rfl, _⟩ := rx; rfl) | (obtain ⟨rfl, _⟩ := rx; rfl)
    · cases h
  | isn =>
    unfold cmpV at h
    simp only at h
    split at h
    · cases ry; cases h
      show some _ = _
      cases x <;> first | exact rx.elim | (cases rx; rfl) | (obtain ⟨_, rfl, _⟩ := rx; rfl) | (obtain ⟨_, _, rfl, _⟩ := rx; rfl) | (obtain ⟨rfl, _⟩ := rx; rfl)
    · cases ry; cases h
      show some _ = _
      cases x <;> first | exact rx.elim | (cases rx; rfl) | (obtain ⟨_, rfl, _⟩ := rx; rfl) | (obtain ⟨_, _, rfl, _⟩ := rx; rfl) | (obtain ⟨rfl, _⟩ := rx; rfl)
    · cases h
  | lt => unfold cmpV at h; simp only at h; split at h <;> first | (cases h; cases rx; cases ry; rfl) | cases h
  | le => unfold cmpV at h; simp only at h; split at h <;> first | (cases h; cases rx; cases ry; rfl) | cases h
  | gt => unfold cmpV at h; simp only at h; split at h <;> first | (cases h; cases rx; cases ry; rfl) | cases h
  | ge => unfold cmpV at h; simp only at h; split at h <;> first | (cases h; cases rx; cases ry; rfl) | cases h
theorem cmpV_ex {o : Cm} {x y : D} {c : Nat} (h : cmpV o x y = .ex c) : False := by
  have he : ∀ x y : D, eqV x y = .ex c → False := fun x y h => by unfold eqV at h; split at h <;> first | cases h | (split at h <;> cases h)
  have hm : ∀ (x : D) ys, memV x ys = .ex c → False := fun x y h => by unfold memV at h; split at h <;> cases h
  have hi : ∀ x y : D, inV x y = .ex c → False := fun x y h => by
    unfold inV at h
    split at h
    · exact hm _ _ h
    · split at h <;> cases h
    · split at h <;> cases h
    · split at h <;> cases h
    · cases h
  cases o with
  | eq => exact he _ _ h
  | ne => rcases Rv.bind_ex h with h | ⟨_, _, h⟩; exact he _ _ h; cases h
  | isin => exact hi _ _ h
  | nin => rcases Rv.bind_ex h with h | ⟨_, _, h⟩; exact hi _ _ h; cases h
  | is => unfold cmpV at h; simp only at h; split at h <;> cases h
  | isn => unfold cmpV at h; simp only at h; split at h <;> cases h
  | lt => unfold cmpV at h; simp only at h; split at h <;> cases h
  | le => unfold cmpV at h; simp only at h; split at h <;> cases h
  | gt => unfold cmpV at h; simp only at h; split at h <;> cases h
  | ge => unfold cmpV at h; simp only at h; split at h <;> cases h
theorem idxV_ok {x y v dx dy : D} (h : idxV x y = .ok v) (rx : RdT F η x dx) (ry : RdT F η y dy) : ∃ d, idxH dx dy η = some d ∧ Rd F η v d := by
  unfold idxV at h
  split at h
  case h_1 =>
    cases ry
    obtain ⟨ds, rfl, r1⟩ := rx.tup
    exact r1.atD (ofV_ok h)
  case h_2 =>
    cases ry
    obtain ⟨e, q⟩ := (show Rd F η (.lst _) dx from rx)
    subst e
    exact (Rds.self _ q).atD (ofV_ok h)
  case h_3 =>
    cases ry
    obtain ⟨a, ds, rfl, h1, r1⟩ := rx
    obtain ⟨d, h2, h3⟩ := r1.atD (ofV_ok h)
    exact ⟨d, by simp only [idxH, h1]; exact h2, h3⟩
  case h_4 =>
    split at h
    · rename_i s i c
      cases ry; cases rx
      have e := ofV_ok h
      refine ⟨v, by simp only [idxH, c, if_true]; exact e, ?_⟩
      cases q : MI.atD s i with
      | none => rw [q] at e; cases e
      | some k => rw [q] at e; cases e; rfl
    · cases h
  case h_5 =>
    split at h
    · rename_i c
      obtain ⟨a, ds, rfl, h1, hl, h2, r1⟩ := rx
      have hk : keyOk y = true := by unfold okKeyV at c; rw [Bool.and_eq_true] at c; exact c.1
      have e : dy = y := Rd.nrf y dy (keyOk_nrf hk) (by cases y <;> first | exact ry | cases hk)
      subst e
      obtain ⟨d, h3, h4⟩ := (dget_ok hl r1).1 _ (ofV_ok h)
      exact ⟨d, by simp only [idxH, h1, okKey_eq hl, c, if_true]; exact h3, h4⟩
    · cases h
  case h_6 => cases h
theorem idxV_ex {x y : D} {c : Nat} (h : idxV x y = .ex c) : False := by
  unfold idxV at h
  split at h <;> first | exact ofV_ex h | cases h | (split at h <;> first | exact ofV_ex h | cases h)
theorem binV_ex {o : Op} {x y : D} {c : Nat} (h : binV o x y = .ex c) : False := by
  unfold binV at h
  split at h <;> first | cases h | (split at h <;> cases h)
theorem truV_ex {x : D} {c : Nat} (h : truV x = .ex c) : False := by
  unfold truV at h
  split at h <;> first | cases h | (split at h <;> cases h)
theorem slcV_ok {x v dx : D} {lo hi : Option Int} (h : slcV x lo hi = .ok v) (rx : RdT F η x dx) : Opd F η (slcM dx lo hi) v := by
  unfold slcV at h
  split at h
  case h_1 =>
    cases h
    obtain ⟨ds, rfl, r1⟩ := rx.tup
    exact .old rfl ⟨_, rfl, r1.cut lo hi⟩ (fun _ z => nomatch z) (fun _ _ z => nomatch z)
  case h_2 =>
    split at h
    · rename_i c
      cases h; cases rx
      exact .old (by simp only [slcM, c, if_true]) rfl (fun _ z => nomatch z) (fun _ _ z => nomatch z)
    · cases h
  case h_3 =>
    cases h
    obtain ⟨a, ds, rfl, h1, r1⟩ := rx
    exact .new (by simp only [slcM, h1]) (r1.cut lo hi)
  case h_4 =>
    cases h
    obtain ⟨e, q⟩ := (show Rd F η (.lst _) dx from rx)
    subst e
    exact .new rfl ((Rds.self _ q).cut lo hi)
  case h_5 => cases h
theorem slcV_ex {x : D} {lo hi : Option Int} {c : Nat} (h : slcV x lo hi = .ex c) : False := by
  unfold slcV at h
  split at h <;> first | cases h | (split at h <;> cases h)
def RdTs (F : Nat → Prop) (η : Hv) : List D → List D → Prop
  | [], ds => ds = []
  | v :: vs, ds => ∃ d r, ds = d :: r ∧ RdT F η v d ∧ RdTs F η vs r
theorem ints_rd : ∀ {xs ds : List D} {ns : List Int}, intsOf xs = some ns → Rds F η xs ds → intsOf ds = some ns
  | [], _, ns, h, r => by rw [show _ = [] from r]; exact h
  | x :: xs, _, ns, h, r => by
    obtain ⟨d, t, rfl, h1, h2⟩ := r
    cases x <;> first | (cases h; done) | skip
    cases h1
    unfold intsOf at h ⊢
    cases q : intsOf xs with
    | none => rw [q] at h; cases h
    | some ms => rw [q] at h; rw [ints_rd q h2]; exact h
theorem bools_rd : ∀ {xs ds : List D} {ns : List Bool}, boolsOf xs = some ns → Rds F η xs ds → boolsOf ds = some ns
  | [], _, ns, h, r => by rw [show _ = [] from r]; exact h
  | x :: xs, _, ns, h, r => by
    obtain ⟨d, t, rfl, h1, h2⟩ := r
    cases x <;> first | (cases h; done) | skip
    cases h1
    unfold boolsOf at h ⊢
    cases q : boolsOf xs with
    | none => rw [q] at h; cases h
    | some ms => rw [q] at h; rw [bools_rd q h2]; exact h
theorem strs_rd : ∀ {xs ds : List D} {ns : List (List Nat)}, strsOf xs = some ns → Rds F η xs ds → strsOf ds = some ns
  | [], _, ns, h, r => by rw [show _ = [] from r]; exact h
  | x :: xs, _, ns, h, r => by
    obtain ⟨d, t, rfl, h1, h2⟩ := r
    cases x <;> first | (cases h; done) | skip
    cases h1
    unfold strsOf at h ⊢
    cases q : strsOf xs with
    | none => rw [q] at h; cases h
    | some ms => rw [q] at h; rw [strs_rd q h2]; exact h
theorem lenV_ok {x v d : D} (h : lenV x = .ok v) (r : RdT F η x d) : ((lenH d η).map fun (n : Nat) => .int n) = some v ∧ ∃ n : Int, v = .int n := by
  unfold lenV at h
  split at h
  case h_1 => split at h <;> first | (rename_i c; cases h; cases r; exact ⟨by simp only [lenH, c, if_true, Option.map_some], _, rfl⟩) | cases h
  case h_2 =>
    split at h
    · rename_i c; cases h; obtain ⟨ds, rfl, r1⟩ := r.tup
      exact ⟨by simp only [lenH, r1.len, c, if_true, Option.map_some], _, rfl⟩
    · cases h
  case h_3 =>
    split at h
    · rename_i c; cases h
      obtain ⟨e, q⟩ := (show Rd F η (.lst _) d from r)
      subst e
      exact ⟨by simp only [lenH, c, if_true, Option.map_some], _, rfl⟩
    · cases h
  case h_4 => cases h; obtain ⟨a, ds, rfl, h1, r1⟩ := r; exact ⟨by simp only [lenH, h1, Option.map_some, r1.len], _, rfl⟩
  case h_5 => cases h; obtain ⟨a, ds, rfl, h1, hl, h2, r1⟩ := r; exact ⟨by simp only [lenH, h1, Option.map_some, List.length_zip, ← hl, Nat.min_self], _, rfl⟩
  case h_6 => cases h
theorem lenV_ex {x : D} {c : Nat} (h : lenV x = .ex c) : False := by
  unfold lenV at h
  split at h <;> first | cases h | (split at h <;> cases h)
end
end MI

set_option autoImplicit false
set_option linter.all false
set_option Elab.async false
set_option maxRecDepth 100000
set_option maxHeartbeats 1000000
/-! ViS3: built-in functions, methods, dicts. -/
namespace MI
section
variable {F : Nat → Prop} {η : Hv}
theorem RdTs.one {x : D} {ds : List D} (h : RdTs F η [x] ds) : ∃ d, ds = [d] ∧ RdT F η x d := by
  obtain ⟨d, r, e, h1, h2⟩ := h
  rw [show r = [] from h2] at e
  exact ⟨d, e, h1⟩
theorem RdTs.two {x y : D} {ds : List D} (h : RdTs F η [x, y] ds) : ∃ d e, ds = [d, e] ∧ RdT F η x d ∧ RdT F η y e := by
  obtain ⟨d, r, rfl, h1, h2⟩ := h
  obtain ⟨e, rfl, h3⟩ := h2.one
  exact ⟨d, e, rfl, h1, h3⟩
theorem Rds.ts : ∀ {vs ds : List D}, Rds F η vs ds → RdTs F η vs ds
  | [], _, h => h
  | v :: vs, _, h => by
    obtain ⟨d, r, e, h1, h2⟩ := h
    exact ⟨d, r, e, h1.t, Rds.ts h2⟩
theorem Opd.look {g : Hv → Option D} {v : D} (h : g η = some v) (q : isH v = false) (n : v.nrf = true) : Opd F η (lookM g) v :=
  .old (d := v) (by simp only [lookM, h]) (Rd.self v n) (fun vs z => by rw [z] at q; cases q) (fun _ _ z => by rw [z] at q; cases q)
theorem zip_fst : ∀ {ks ds : List D}, ks.length = ds.length → (ks.zip ds).map (·.1) = ks := by
  intro ks ds h
  induction ks generalizing ds with
  | nil => rfl
  | cons c ks ih =>
    cases ds with
    | nil => cases h
    | cons d ds => rw [List.zip_cons_cons, List.map_cons, ih (by simpa using h)]
theorem zip_snd : ∀ {ks ds : List D}, ks.length = ds.length → (ks.zip ds).map (·.2) = ds := by
  intro ks ds h
  induction ks generalizing ds with
  | nil => cases ds with | nil => rfl | cons => cases h
  | cons c ks ih =>
    cases ds with
    | nil => cases h
    | cons d ds => rw [List.zip_cons_cons, List.map_cons, ih (by simpa using h)]
theorem pairs_nrf : ∀ ps : List (Int × Int), D.nrfs (ps.map pairI) = true
  | [] => rfl
  | p :: ps => by rw [List.map_cons, D.nrfs, pairs_nrf ps]; rfl
theorem pairs_eq : ∀ {xs : List D} {ps : List (Int × Int)}, pairsOf xs = some ps → xs = ps.map pairI
  | [], ps, h => by cases h; rfl
  | d :: ds, ps, h => by
    unfold pairsOf at h
    split at h
    · rename_i e; cases e
    · rename_i i j xs e
      cases e
      cases q : pairsOf ds with
      | none => rw [q] at h; cases h
      | some qs =>
        rw [q] at h
        cases h
        rw [List.map_cons, ← pairs_eq q]; rfl
    · cases h
theorem bltV_ok {f : Bf} {vs ds : List D} {v : D} (h : bltV f vs = .ok v) (r : RdTs F η vs ds) : Opd F η (bltM f ds) v := by
  unfold bltV at h
  split at h
  case h_1 =>
    obtain ⟨d, rfl, r'⟩ := r.one
    obtain ⟨h1, n, rfl⟩ := lenV_ok h r'
    exact .look h1 rfl rfl
  case h_2 =>
    obtain ⟨d, rfl, r'⟩ := r.one
    have e := ofV_ok h
    rename_i x
    cases q : seqV x with
    | none => rw [q] at e; cases e
    | some xs =>
      rw [q] at e; cases e
      obtain ⟨es, h1, h2⟩ := seqV_ok q r'
      exact .old (d := .tup es) (by simp only [bltM, lookM, h1, Option.map_some]) ⟨_, rfl, h2⟩ (fun _ z => nomatch z) (fun _ _ z => nomatch z)
  case h_3 =>
    obtain ⟨d, rfl, r'⟩ := r.one
    cases h
    obtain ⟨a, es, rfl, h1, hl, h2, h3⟩ := r'
    refine .new (ds := _) (by simp only [bltM, seqH, getL, MI.getD, h1]; rw [zip_fst hl]) (Rds.self _ h2)
  case h_4 =>
    obtain ⟨d, rfl, r'⟩ := r.one
    have e := ofV_ok h
    rename_i x hx
    cases q : seqV x with
    | none => rw [q] at e; cases e
    | some xs =>
      rw [q] at e; cases e
      obtain ⟨es, h1, h2⟩ := seqV_ok q r'
      exact .new (by simp only [bltM, h1]) h2
  case h_5 => cases h; obtain ⟨d, rfl, r'⟩ := r.one; cases r'; exact .old rfl rfl (fun _ z => nomatch z) (fun _ _ z => nomatch z)
  case h_6 => cases h; obtain ⟨d, rfl, r'⟩ := r.one; cases r'; exact .old rfl rfl (fun _ z => nomatch z) (fun _ _ z => nomatch z)
  case h_7 => cases h; obtain ⟨d, e, rfl, r', r2⟩ := r.two; cases r'; cases r2; exact .old rfl rfl (fun _ z => nomatch z) (fun _ _ z => nomatch z)
  case h_8 => cases h; obtain ⟨d, e, rfl, r', r2⟩ := r.two; cases r'; cases r2; exact .old rfl rfl (fun _ z => nomatch z) (fun _ _ z => nomatch z)
  case h_9 =>
    obtain ⟨d, rfl, r'⟩ := r.one
    have e := ofV_ok h
    rename_i x
    cases q : getV x with
    | none => rw [q] at e; cases e
    | some xs =>
      obtain ⟨es, h1, h2⟩ := getV_ok q r'
      rw [q] at e
      cases q2 : boolsOf xs with
      | none => simp only [Option.bind_some, q2] at e; cases e
      | some ns => simp only [Option.bind_some, q2] at e; cases e; exact .look (by simp only [h1, Option.bind_some, bools_rd q2 h2, Option.map_some]) rfl rfl
  case h_10 =>
    obtain ⟨d, rfl, r'⟩ := r.one
    have e := ofV_ok h
    rename_i x
    cases q : getV x with
    | none => rw [q] at e; cases e
    | some xs =>
      obtain ⟨es, h1, h2⟩ := getV_ok q r'
      rw [q] at e
      cases q2 : boolsOf xs with
      | none => simp only [Option.bind_some, q2] at e; cases e
      | some ns => simp only [Option.bind_some, q2] at e; cases e; exact .look (by simp only [h1, Option.bind_some, bools_rd q2 h2, Option.map_some]) rfl rfl
  case h_11 =>
    obtain ⟨d, rfl, r'⟩ := r.one
    have e := ofV_ok h
    rename_i x
    cases q : getV x with
    | none => rw [q] at e; cases e
    | some xs =>
      obtain ⟨es, h1, h2⟩ := getV_ok q r'
      rw [q] at e
      cases q2 : intsOf xs with
      | none => simp only [Option.bind_some, q2] at e; cases e
      | some ns => simp only [Option.bind_some, q2] at e; cases e; exact .look (by simp only [h1, Option.bind_some, ints_rd q2 h2, Option.map_some]) rfl rfl
  case h_12 =>
    obtain ⟨d, rfl, r'⟩ := r.one
    have e := ofV_ok h
    rename_i x
    cases q : getV x with
    | none => rw [q] at e; cases e
    | some xs =>
      obtain ⟨es, h1, h2⟩ := getV_ok q r'
      rw [q] at e
      cases q2 : intsOf xs with
      | none => simp only [Option.bind_some, q2] at e; cases e
      | some ns =>
        simp only [Option.bind_some, q2] at e
        cases ns with
        | nil => cases e
        | cons i ns => cases e; exact .old (d := .int (maxI i ns)) (by simp only [bltM, lookM, h1, Option.bind_some, ints_rd q2 h2]) rfl (fun _ z => nomatch z) (fun _ _ z => nomatch z)
  case h_13 =>
    obtain ⟨d, rfl, r'⟩ := r.one
    have e := ofV_ok h
    rename_i x
    cases q : getV x with
    | none => rw [q] at e; cases e
    | some xs =>
      obtain ⟨es, h1, h2⟩ := getV_ok q r'
      rw [q] at e
      cases q2 : intsOf xs with
      | none => simp only [Option.bind_some, q2] at e; cases e
      | some ns =>
        simp only [Option.bind_some, q2] at e
        cases ns with
        | nil => cases e
        | cons i ns => cases e; exact .old (d := .int (minI i ns)) (by simp only [bltM, lookM, h1, Option.bind_some, ints_rd q2 h2]) rfl (fun _ z => nomatch z) (fun _ _ z => nomatch z)
  case h_14 =>
    obtain ⟨d, rfl, r'⟩ := r.one
    have e := ofV_ok h
    rename_i x
    cases q : getV x with
    | none => rw [q] at e; cases e
    | some xs =>
      obtain ⟨es, h1, h2⟩ := getV_ok q r'
      rw [q] at e
      have hs : getS η d = none := by
        unfold getS
        split
        · rename_i i
          split
          · rename_i e2; unfold getL at h1; simp only [e2] at h1; cases h1
          · rfl
        · rfl
      cases q2 : intsOf xs with
      | none =>
        simp only [Option.bind_some, q2] at e
        cases q3 : pairsOf xs with
        | none => rw [q3] at e; cases e
        | some ps =>
          rw [q3] at e
          cases e
          have hn := pairs_nrf ps
          have he := pairs_eq q3
          have e2 : es = xs := Rds.nrf xs es (by rw [he]; exact hn) h2
          subst e2
          exact .new (by simp only [bltM, hs, h1, q2, q3]) (Rds.self _ (pairs_nrf _))
      | some ns =>
        simp only [Option.bind_some, q2] at e
        cases e
        have hn : D.nrfs ((sortI ns).map D.int) = true := by
          generalize sortI ns = ms
          induction ms with
          | nil => rfl
          | cons m ms ih => exact ih
        exact .new (by simp only [bltM, hs, h1, ints_rd q2 h2]) (Rds.self _ hn)
  case h_15 =>
    split at h
    · rename_i c
      obtain ⟨d, rfl, r'⟩ := r.one
      cases h; cases r'
      exact .old (by simp only [bltM, c, if_true]; rfl) rfl (fun _ z => nomatch z) (fun _ _ z => nomatch z)
    · cases h
  case h_16 =>
    split at h
    · rename_i c
      obtain ⟨d, rfl, r'⟩ := r.one
      cases h
      simp only [Bool.and_eq_true] at c
      obtain ⟨⟨c1, c2⟩, c3⟩ := c
      rename_i x
      have dp := RdT.deep c2 r'
      have kd : repK d = true := by
        cases x <;> first | (cases c1; done) | skip
        · cases r'; rfl
        · obtain ⟨ds, rfl, _⟩ := r'; rfl
        · obtain ⟨a, ds, rfl, _⟩ := r'; rfl
      exact .look (by rw [if_pos kd, dp, Option.bind_some, if_pos c3]) rfl rfl
    · cases h
  case h_17 => cases h
theorem bltV_ex {f : Bf} {vs : List D} {c : Nat} (h : bltV f vs = .ex c) : False := by
  unfold bltV at h
  split at h <;> first | exact ofV_ex h | exact lenV_ex h | cases h | (split at h <;> cases h)
theorem kndV_ok {m : Mh} {o d : D} (h : kndV m o = .ok ()) (ro : RdT F η o d) : kndH m d η = some () := by
  cases m <;> first | (cases h; done) | skip
  · cases o <;> first | (cases h; done) | skip
    · obtain ⟨rfl, _⟩ := (show Rd F η (.lst _) d from ro); rfl
    · obtain ⟨a, ds, rfl, h1, _⟩ := ro; show (getL η _).map _ = _; simp only [getL, h1]; rfl
  · cases o <;> first | (cases h; done) | skip
    · obtain ⟨rfl, _⟩ := (show Rd F η (.lst _) d from ro); rfl
    · obtain ⟨a, ds, rfl, h1, _⟩ := ro; show (getL η _).map _ = _; simp only [getL, h1]; rfl
  · cases o <;> first | (cases h; done) | skip
    cases ro; rfl
  · cases o <;> first | (cases h; done) | skip
    obtain ⟨a, es, rfl, h1, _⟩ := ro
    show (MI.getD η _).map _ = _; simp only [MI.getD, h1]; rfl
theorem kndV_ex {m : Mh} {o : D} {c : Nat} (h : kndV m o = .ex c) : False := by
  unfold kndV at h
  split at h <;> first | cases h | (split at h <;> cases h)
theorem mthV_ex {m : Mh} {o : D} {vs : List D} {c : Nat} (h : mthV m o vs = .ex c) : False := by
  unfold mthV at h
  split at h
  · split at h
    · rcases Rv.bind_ex h with h | ⟨b, _, h⟩
      · unfold memV at h; split at h <;> cases h
      · split at h
        · exact ofV_ex h
        · cases h
    · cases h
  · exact ofV_ex h
  · exact ofV_ex h
  · split at h <;> cases h
  · cases h
theorem map_int_nrf : ∀ ns : List Int, D.nrfs (ns.map D.int) = true
  | [] => rfl
  | n :: ns => map_int_nrf ns
/-- sorted(set(e)) -/
theorem ssetV_ok {x v d : D} (h : ssetV x = .ok v) (r : RdT F η x d) : ∃ d' η', ((bltM .set [d]).bind fun s => bltM .sorted [s]) η = .ok d' η' ∧ Ext η η' ∧ ∀ F', Nw F' η η' v d' := by
  unfold ssetV at h
  have e := ofV_ok h
  cases q : getV x with
  | none => rw [q] at e; cases e
  | some xs =>
    obtain ⟨es, h1, h2⟩ := getV_ok q r
    rw [q] at e
    cases q2 : intsOf xs with
    | none => simp only [Option.bind_some, q2] at e; cases e
    | some ns =>
      simp only [Option.bind_some, q2] at e
      split at e
      · rename_i c
        cases e
        have e1 : bltM .set [d] η = .ok (.ref η.length) (η ++ [.set ((uniq ns).map .int)]) := by
          simp only [bltM, h1, Option.bind_some, ints_rd q2 h2, c.1, if_true]; rfl
        have e2 : bltM .sorted [.ref η.length] (η ++ [.set ((uniq ns).map .int)]) = .ok (.ref (η ++ [O.set ((uniq ns).map .int)]).length) ((η ++ [.set ((uniq ns).map .int)]) ++ [.lst ((sortI (uniq ns)).map .int)]) := by
          simp only [bltM, getS, at_new, ints_of, c.2, if_true]; rfl
        refine ⟨.ref (η ++ [O.set ((uniq ns).map .int)]).length, (η ++ [.set ((uniq ns).map .int)]) ++ [.lst ((sortI (uniq ns)).map .int)], ?_, Ext.app.trans Ext.app, fun F' => ⟨_, _, rfl, by simp, at_new, Rds.self _ (map_int_nrf _)⟩⟩
        show (Mo.bind (bltM .set [d]) _) η = _
        unfold Mo.bind
        rw [e1]
        exact e2
      · cases e
/-- methods: on o, and what is handed in -/
theorem mthV_ok {m : Mh} {o v d : D} {vs ds : List D} (h : mthV m o vs = .ok v) (ro : RdT F η o d) (r : Rds F η vs ds) : kndH m d η = some () ∧ ∃ z η', mthM m d ds η = .ok z η' ∧ Ext η η' ∧ Rd F η' v z := by
  unfold mthV at h
  split at h
  case h_1 =>
    rename_i x
    obtain ⟨d2, rfl, r2⟩ := r.ts.one
    split at h
    · rename_i ys q
      obtain ⟨es, h1, h2⟩ := getV_ok q ro
      refine ⟨by show (getL η d).map _ = _; rw [h1]; rfl, ?_⟩
      obtain ⟨b, h3, h4⟩ := Rv.bind_ok h
      split at h4
      · rename_i hb
        subst hb
        have e := ofV_ok h4
        have hm := memV_ok h3 r2 h2
        unfold memV at h3
        split at h3
        · rename_i c
          rw [Bool.and_eq_true] at c
          have d1 := r2.deep c.1
          have d3 := (Rds.deep c.2 h2).1
          cases q3 : idxOf x ys 0 with
          | none => rw [q3] at e; cases e
          | some n =>
            rw [q3] at e
            cases e
            exact ⟨.int n, η, by simp only [mthM, lookM, h1, Option.bind_some, hm, if_true, d1, d3, q3, Option.map_some], Ext.refl, rfl⟩
        · cases h3
      · cases h4
    · cases h
  case h_2 =>
    obtain ⟨d2, rfl, r2⟩ := r.ts.one
    cases r2
    have e := ofV_ok h
    cases q : getV o with
    | none => rw [q] at e; cases e
    | some xs =>
      obtain ⟨es, h1, h2⟩ := getV_ok q ro
      refine ⟨by show (getL η d).map _ = _; rw [h1]; rfl, ?_⟩
      rw [q] at e
      cases q2 : intsOf xs with
      | none => simp only [Option.bind_some, q2] at e; cases e
      | some ns => simp only [Option.bind_some, q2] at e; cases e; exact ⟨_, η, by simp only [mthM, lookM, h1, Option.bind_some, ints_rd q2 h2, Option.map_some], Ext.refl, rfl⟩
  case h_3 =>
    obtain ⟨d2, rfl, r2⟩ := r.ts.one
    cases ro
    refine ⟨rfl, ?_⟩
    have e := ofV_ok h
    rename_i sep x
    cases q : seqV x with
    | none => rw [q] at e; cases e
    | some xs =>
      obtain ⟨es, h1, h2⟩ := seqV_ok q r2
      rw [q] at e
      cases q2 : strsOf xs with
      | none => simp only [Option.bind_some, q2] at e; cases e
      | some ns =>
        simp only [Option.bind_some, q2] at e
        split at e
        · rename_i c
          cases e
          exact ⟨_, η, by simp only [mthM, lookM, h1, Option.bind_some, strs_rd q2 h2, c, if_true], Ext.refl, rfl⟩
        · cases e
  case h_4 =>
    split at h
    · rename_i ks vs' k dd c
      cases h
      obtain ⟨a, es, rfl, h1, hl, h2, h3⟩ := ro
      obtain ⟨d2, t, rfl, r2, r3⟩ := r
      obtain ⟨d3, t3, rfl, r3, r4⟩ := r3
      rw [show t3 = [] from r4]
      have hk : keyOk k = true := by unfold okKeyV at c; rw [Bool.and_eq_true] at c; exact c.1
      have e : d2 = k := Rd.nrf k d2 (keyOk_nrf hk) r2
      subst e
      refine ⟨by show (MI.getD η _).map _ = _; simp only [MI.getD, h1]; rfl, ?_⟩
      obtain ⟨g1, g2⟩ := dget_ok (k := d2) hl h3
      have key : ∃ z, (dget (ks.zip es) d2).getD d3 = z ∧ Rd F η ((dget (ks.zip vs') d2).getD dd) z := by
        cases q : dget (ks.zip vs') d2 with
        | none => rw [g2 q]; exact ⟨_, rfl, r3⟩
        | some w => obtain ⟨z, e1, e2⟩ := g1 w q; rw [e1]; exact ⟨_, rfl, e2⟩
      obtain ⟨z, e1, e2⟩ := key
      exact ⟨z, η, by simp only [mthM, h1, okKey_eq hl, c, if_true, e1], Ext.refl, e2⟩
    · cases h
  case h_5 => cases h
end
end MI

set_option autoImplicit false
set_option linter.all false
set_option Elab.async false
set_option maxRecDepth 100000
set_option maxHeartbeats 1000000
/-! ViS4: slots, walks, dicts. -/
namespace MI
section
variable {F : Nat → Prop} {η η' : Hv}
theorem dput_ok {k v d : D} : ∀ {ks vs ds : List D}, ks.length = ds.length → Rds F η vs ds → D.nrfs ks = true → k.nrf = true → Rd F η v d →
    ∃ es, dput (ks.zip ds) k d = ((dput (ks.zip vs) k v).map (·.1)).zip es ∧ ((dput (ks.zip vs) k v).map (·.1)).length = es.length ∧ D.nrfs ((dput (ks.zip vs) k v).map (·.1)) = true ∧ Rds F η ((dput (ks.zip vs) k v).map (·.2)) es := by
  intro ks vs ds hl r hn hk rd
  have hv : ks.length = vs.length := by rw [hl, r.len]
  unfold dput
  rw [any_zip (p := fun c => D.eqv c k) hl, any_zip (p := fun c => D.eqv c k) hv]
  cases ks.any fun c => D.eqv c k with
  | true =>
    simp only [if_true]
    clear hv
    induction ks generalizing vs ds with
    | nil => exact ⟨[], rfl, rfl, rfl, rfl⟩
    | cons c ks ih =>
      cases vs with
      | nil => rw [show ds = [] from r] at hl; cases hl
      | cons w vs =>
        obtain ⟨e, t, rfl, h1, h2⟩ := r
        rw [D.nrfs, Bool.and_eq_true] at hn
        obtain ⟨es, g1, g2, g3, g4⟩ := ih (by simpa using hl) h2 hn.2
        rw [List.zip_cons_cons, List.zip_cons_cons]
        simp only [List.map_cons]
        cases D.eqv c k with
        | true =>
          simp only [if_true]
          exact ⟨d :: es, by rw [List.zip_cons_cons, g1], by rw [List.length_cons, List.length_cons, g2], by rw [D.nrfs, hn.1, g3]; rfl, d, es, rfl, rd, g4⟩
        | false =>
          simp only [Bool.false_eq_true, if_false]
          exact ⟨e :: es, by rw [List.zip_cons_cons, g1], by rw [List.length_cons, List.length_cons, g2], by rw [D.nrfs, hn.1, g3]; rfl, e, es, rfl, h1, g4⟩
  | false =>
    simp only [Bool.false_eq_true, if_false]
    refine ⟨ds ++ [d], ?_, ?_, ?_, ?_⟩
    · rw [List.map_append, zip_fst hv]
      show _ = (ks ++ [k]).zip (ds ++ [d])
      rw [List.zip_append hl]; rfl
    · rw [List.map_append, zip_fst hv]; simp [hl]
    · rw [List.map_append, zip_fst hv]
      show D.nrfs (ks ++ [k]) = true
      clear hv hl r
      induction ks with
      | nil => show (k.nrf && true) = true; rw [hk]; rfl
      | cons c ks ih =>
        rw [D.nrfs, Bool.and_eq_true] at hn
        show (c.nrf && D.nrfs (ks ++ [k])) = true
        rw [hn.1, ih hn.2]; rfl
    · rw [List.map_append, zip_snd hv]
      exact r.append (Rds.one rd)
/-! ### slots -/
structure ERel (G : Nat → Prop) (r : Nat → List Nat) (σ : Sg) (ρ : Rho) (η : Hv) : Prop where
  len : ρ.length = σ.length
  sh : ∀ (i : Nat) (v : D), σ[i]? = some (.sh v) → ∃ d, ρ[i]? = some (some d) ∧ Rd G η v d
  ow : ∀ (i : Nat) (v : D), σ[i]? = some (.ow v) → ∃ d, ρ[i]? = some (some d) ∧ RdC G η (r i) v d
variable {G G' : Nat → Prop} {r r' : Nat → List Nat} {σ : Sg} {ρ : Rho}
theorem ERel.ext (h : ERel G r σ ρ η) (x : Ext η η') : ERel G r σ ρ η' := ⟨h.len, fun i v e => let ⟨d, h1, h2⟩ := h.sh i v e; ⟨d, h1, h2.ext x⟩, fun i v e => let ⟨d, h1, h2⟩ := h.ow i v e; ⟨d, h1, h2.ext x⟩⟩
theorem ERel.wk (h : ERel G r σ ρ η) (q : ∀ a, a < η.length → G a → G' a) : ERel G' r σ ρ η := ⟨h.len, fun i v e => let ⟨d, h1, h2⟩ := h.sh i v e; ⟨d, h1, h2.wk q⟩, fun i v e => let ⟨d, h1, h2⟩ := h.ow i v e; ⟨d, h1, h2.wk q⟩⟩
theorem set_lt {α : Type} {l : List α} {i j : Nat} {x y : α} (h : (l.set i x)[j]? = some y) : (j = i ∧ y = x ∧ i < l.length) ∨ (j ≠ i ∧ l[j]? = some y) := by
  by_cases e : j = i
  · subst e
    have hl : j < l.length := by
      rcases Nat.lt_or_ge j l.length with q | q
      · exact q
      · rw [List.getElem?_eq_none (by simpa using q)] at h; cases h
    rw [List.getElem?_set_self hl] at h
    exact .inl ⟨rfl, (Option.some.inj h).symm, hl⟩
  · rw [List.getElem?_set_ne (Ne.symm e)] at h
    exact .inr ⟨e, h⟩
theorem ERel.setSh (h : ERel G r σ ρ η) (i : Nat) {v d : D} (q : Rd G η v d) : ERel G r (σ.set i (.sh v)) (ρ.set i (some d)) η := by
  refine ⟨by simp [h.len], fun j w e => ?_, fun j w e => ?_⟩
  · rcases set_lt e with ⟨rfl, e2, hl⟩ | ⟨hj, e2⟩
    · cases e2
      exact ⟨d, List.getElem?_set_self (by rw [h.len]; exact hl), q⟩
    · obtain ⟨d', h1, h2⟩ := h.sh j w e2
      exact ⟨d', by rw [List.getElem?_set_ne (Ne.symm hj)]; exact h1, h2⟩
  · rcases set_lt e with ⟨rfl, e2, hl⟩ | ⟨hj, e2⟩
    · cases e2
    · obtain ⟨d', h1, h2⟩ := h.ow j w e2
      exact ⟨d', by rw [List.getElem?_set_ne (Ne.symm hj)]; exact h1, h2⟩
theorem ERel.setNo (h : ERel G r σ ρ η) (i : Nat) (o : Option D) : ERel G r (σ.set i .no) (ρ.set i o) η := by
  refine ⟨by simp [h.len], fun j w e => ?_, fun j w e => ?_⟩
  · rcases set_lt e with ⟨rfl, e2, hl⟩ | ⟨hj, e2⟩
    · cases e2
    · obtain ⟨d', h1, h2⟩ := h.sh j w e2
      exact ⟨d', by rw [List.getElem?_set_ne (Ne.symm hj)]; exact h1, h2⟩
  · rcases set_lt e with ⟨rfl, e2, hl⟩ | ⟨hj, e2⟩
    · cases e2
    · obtain ⟨d', h1, h2⟩ := h.ow j w e2
      exact ⟨d', by rw [List.getElem?_set_ne (Ne.symm hj)]; exact h1, h2⟩
theorem ERel.wipe (h : ERel G r σ ρ η) (tg : Tgt) : ERel G r (wipeTV σ tg) (wipeT ρ tg) η := by
  cases tg with
  | one i => exact h.setNo i none
  | two i j => exact (h.setNo j none).setNo i none
theorem setT_ok {tg : Tgt} {x d : D} {σ1 : Sg} (h : ERel G r σ ρ η) (e : setTV σ tg x = some σ1) (q : Rd G η x d) : ∃ ρ1, setT ρ tg d = some ρ1 ∧ ERel G r σ1 ρ1 η := by
  unfold setTV at e
  split at e
  · cases e; exact ⟨_, rfl, h.setSh _ q⟩
  · cases e
    obtain ⟨ds, rfl, d1, t, rfl, h1, d2, t2, rfl, h2, rfl⟩ := q
    exact ⟨_, rfl, (h.setSh _ h1).setSh _ h2⟩
  · cases e
/-- what a slot's reading may hold -/
def Gx (G : Nat → Prop) (r : Nat → List Nat) (L : List Nat) (n : Nat) : Nat → Prop := fun a => G a ∨ (∃ i ∈ L, a ∈ r i) ∨ n ≤ a
theorem Gx.mono {L L' : List Nat} {n n' : Nat} (hL : ∀ i ∈ L, i ∈ L') (hn : n' ≤ n) : ∀ a, Gx G r L n a → Gx G r L' n' a := fun a h => by
  rcases h with h | ⟨i, h1, h2⟩ | h
  · exact .inl h
  · exact .inr (.inl ⟨i, hL i h1, h2⟩)
  · exact .inr (.inr (Nat.le_trans hn h))
theorem loc_rd {i : Nat} {v : D} (h : ERel G r σ ρ η) (e : locV σ i = .ok v) : ∃ d, ρ[i]? = some (some d) ∧ Rd (fun a => G a ∨ (isOw σ i = true ∧ a ∈ r i)) η v d ∧ ((isOw σ i = true ∧ RdC G η (r i) v d) ∨ Rd G η v d) := by
  unfold locV at e
  unfold isOw
  split at e
  · rename_i q
    cases e
    obtain ⟨d, h1, h2⟩ := h.sh i _ q
    exact ⟨d, h1, h2.wk fun _ _ => .inl, .inr h2⟩
  · rename_i q
    cases e
    obtain ⟨d, h1, h2⟩ := h.ow i _ q
    rw [q]
    exact ⟨d, h1, h2.rd.wk fun a _ z => z.imp id fun z => ⟨rfl, z⟩, .inl ⟨rfl, h2⟩⟩
  · cases e
/-- a walk's items -/
def NxR (T F : Nat → Prop) (η : Hv) (nx : Nxt) (xs : List D) : Prop := ∀ η' : Hv, Kp (fun a => T a ∨ F a) η η' → ∀ i, match xs[i]? with
  | none => nx i η' = some none
  | some x => ∃ d, nx i η' = some (some d) ∧ Rd (fun a => F a ∧ a < η.length) η' x d
theorem Rds.none {vs ds : List D} {i : Nat} (h : Rds F η vs ds) (e : vs[i]? = none) : ds[i]? = none := by
  rw [List.getElem?_eq_none_iff] at e ⊢
  rw [h.len]; exact e
theorem nxr_seq {T : Nat → Prop} {nx : Nxt} {xs ds : List D} (r : Rds F η xs ds) (h : ∀ η', Kp (fun a => T a ∨ F a) η η' → ∀ i, nx i η' = some ds[i]?) : NxR T F η nx xs := by
  intro η' hk i
  have r' : Rds (fun a => F a ∧ a < η.length) η' xs ds := Rds.mono (fun _ _ h => h) (fun i o q e => hk i o (.inr q.1) e) xs ds (r.wk fun a h q => ⟨q, h⟩)
  rw [h η' hk i]
  cases e : xs[i]? with
  | none => rw [r'.none e]
  | some x =>
    obtain ⟨d, h1, h2⟩ := r'.get e
    exact ⟨d, by rw [h1], h2⟩
theorem rngV_len {lo hi : Int} : (rngV lo hi).length = (hi - lo).toNat := by simp [rngV]
theorem nxr_rng {T : Nat → Prop} {lo hi : Int} : NxR T F η (nxRng lo hi) (rngV lo hi) := by
  intro η' _ i
  unfold nxRng rngV
  by_cases h : i < (hi - lo).toNat
  · rw [if_pos h, List.getElem?_map, List.getElem?_range h]
    exact ⟨_, rfl, rfl⟩
  · rw [if_neg h, List.getElem?_eq_none (by simpa using Nat.le_of_not_lt h)]
theorem enmV_at {xs : List D} {i : Nat} : (enmV xs)[i]? = xs[i]?.map fun x => .tup [.int i, x] := by
  unfold enmV
  rw [List.getElem?_zipWith]
  by_cases h : i < xs.length
  · rw [List.getElem?_range h, List.getElem?_eq_getElem h]; rfl
  · rw [List.getElem?_eq_none (l := List.range _) (by simpa using Nat.le_of_not_lt h), List.getElem?_eq_none (Nat.le_of_not_lt h)]; rfl
theorem zipV_at {xs ys : List D} {i : Nat} : (zipV xs ys)[i]? = zip2 xs ys i := by
  unfold zipV zip2
  rw [List.getElem?_zipWith]
  cases xs[i]? <;> cases ys[i]? <;> rfl
theorem nxr_enm {T : Nat → Prop} {xs ds : List D} {a : Nat} (hT : T a) (h : η[a]? = some (.lst ds)) (r : Rds F η xs ds) : NxR T F η (nxEnm (.ref a)) (enmV xs) := by
  intro η' hk i
  have r' : Rds (fun a => F a ∧ a < η.length) η' xs ds := Rds.mono (fun _ _ h => h) (fun i o q e => hk i o (.inr q.1) e) xs ds (r.wk fun a h q => ⟨q, h⟩)
  have h' := hk a _ (.inl hT) h
  have e1 : nxEnm (.ref a) i η' = some (ds[i]?.map fun x => .tup [.int i, x]) := by
    unfold nxEnm getR getL
    simp only [h', Option.map_some]
  rw [enmV_at, e1]
  cases e : xs[i]? with
  | none => rw [r'.none e]; rfl
  | some x =>
    obtain ⟨d, h1, h2⟩ := r'.get e
    rw [h1]
    exact ⟨_, rfl, _, rfl, _, _, rfl, rfl, _, _, rfl, h2, rfl⟩
theorem nxr_zip {T : Nat → Prop} {nx : Nxt} {xs ys ds es : List D} (r : Rds F η xs ds) (q : Rds F η ys es) (h : ∀ η', Kp (fun a => T a ∨ F a) η η' → ∀ i, nx i η' = some (zip2 ds es i)) : NxR T F η nx (zipV xs ys) := by
  intro η' hk i
  have r' : Rds (fun a => F a ∧ a < η.length) η' xs ds := Rds.mono (fun _ _ h => h) (fun i o q e => hk i o (.inr q.1) e) xs ds (r.wk fun a h q => ⟨q, h⟩)
  have q' : Rds (fun a => F a ∧ a < η.length) η' ys es := Rds.mono (fun _ _ h => h) (fun i o q e => hk i o (.inr q.1) e) ys es (q.wk fun a h q => ⟨q, h⟩)
  rw [zipV_at, h η' hk i]
  unfold zip2
  cases e : xs[i]? with
  | none => rw [r'.none e]
  | some x =>
    obtain ⟨d, h1, h2⟩ := r'.get e
    rw [h1]
    cases e2 : ys[i]? with
    | none => rw [q'.none e2]
    | some y =>
      obtain ⟨d2, h3, h4⟩ := q'.get e2
      rw [h3]
      exact ⟨_, rfl, _, rfl, _, _, rfl, h2, _, _, rfl, h4, rfl⟩
theorem small_ok {xs ys : List D} (h : small xs = .ok ys) : ys = xs ∧ xs.length ≤ 16777216 := by
  unfold small at h
  split at h
  · rename_i c; cases h; exact ⟨rfl, c⟩
  · cases h
end
end MI

set_option autoImplicit false
set_option linter.all false
set_option Elab.async false
set_option maxRecDepth 100000
set_option maxHeartbeats 1000000
/-! ViS5: expressions: what VI tells, MI does. -/
namespace MI
/-- an answer of a def, by what is promised of its lists -/
def RdO (k : Nat) (A : Nat → Prop) (n : Nat) (η' : Hv) (v d : D) : Prop := match k with
  | 0 => Rd (fun a => A a ∨ n ≤ a) η' v d
  | 1 => ∃ R : List Nat, R.Nodup ∧ (∀ a ∈ R, n ≤ a) ∧ RdC (fun a => (A a ∨ n ≤ a) ∧ a ∉ R) η' R v d
  | _ => ∃ R : List Nat, R.Nodup ∧ (∀ a ∈ R, n ≤ a) ∧ RdC (fun a => n ≤ a ∧ a ∉ R) η' R v d
def SndC (c : ClM) (cv : ClV) (own : String → Nat) : Prop := ∀ (f : String) (vs ds : List D) (η : Hv) (A : Nat → Prop), Rds A η vs ds →
  (∀ v, cv f vs = .ok v → ∃ d η', c f ds η = .ok d η' ∧ Ext η η' ∧ RdO (own f) A η.length η' v d) ∧ (∀ k, cv f vs = .ex k → ∃ η', c f ds η = .ex k η' ∧ Ext η η')
theorem bd {α β : Type} {m : Mo α} {f : α → Mo β} {η η1 : Hv} {a : α} (h : m η = .ok a η1) : (m.bind f) η = f a η1 := by unfold Mo.bind; rw [h]
theorem bx {α β : Type} {m : Mo α} {f : α → Mo β} {η η1 : Hv} {k : Nat} (h : m η = .ex k η1) : (m.bind f) η = .ex k η1 := by unfold Mo.bind; rw [h]
theorem lk {α : Type} {g : Hv → Option α} {η : Hv} {a : α} (h : g η = some a) : lookM g η = .ok a η := by unfold lookM; rw [h]
section
variable (own : String → Nat) (G : Nat → Prop) (r : Nat → List Nat) (σ : Sg) (η : Hv)
def Vl (e : ME) (η' : Hv) (v d : D) : Prop := Rd (Gx G r (alA own σ e) η.length) η' v d ∧ RdT (Gx G r (alE own σ e) η.length) η' v d ∧
  (frs own e v = true → ∃ R : List Nat, R.Nodup ∧ (∀ a ∈ R, η.length ≤ a) ∧ RdC (fun a => Gx G r (alA own σ e) η.length a ∧ a ∉ R) η' R v d)
def EOut (e : ME) (m : Mo D) (x : Rv D) : Prop := (∀ v, x = .ok v → ∃ d η', m η = .ok d η' ∧ Ext η η' ∧ Vl own G r σ η e η' v d) ∧ ∀ k, x = .ex k → ∃ η', m η = .ex k η' ∧ Ext η η'
def LOut (es : List ME) (m : Mo (List D)) (x : Rv (List D)) : Prop := (∀ vs, x = .ok vs → ∃ ds η', m η = .ok ds η' ∧ Ext η η' ∧ Rds (Gx G r (alAs own σ es) η.length) η' vs ds ∧ RdTs (Gx G r (alEs own σ es) η.length) η' vs ds ∧ Rds (Gx G r (alVs own σ es vs) η.length) η' vs ds) ∧ ∀ k, x = .ex k → ∃ η', m η = .ex k η' ∧ Ext η η'
def OOut (m : Mo (Option Int)) (x : Rv (Option Int)) : Prop := (∀ o, x = .ok o → ∃ η', m η = .ok o η' ∧ Ext η η') ∧ ∀ k, x = .ex k → ∃ η', m η = .ex k η' ∧ Ext η η'
def BOut (m : Mo Bool) (x : Rv Bool) : Prop := (∀ o, x = .ok o → ∃ η', m η = .ok o η' ∧ Ext η η') ∧ ∀ k, x = .ex k → ∃ η', m η = .ex k η' ∧ Ext η η'
def IOut (it : ITr) (m : Mo Nxt) (x : Rv (List D)) : Prop := (∀ xs, x = .ok xs → ∃ nx η', m η = .ok nx η' ∧ Ext η η' ∧ xs.length ≤ 16777216 ∧ NxR (Gx G r (alIt own σ it) η.length) (Gx G r (alI own σ it) η.length) η' nx xs) ∧ ∀ k, x = .ex k → ∃ η', m η = .ex k η' ∧ Ext η η'
end
section
variable {own : String → Nat} {G : Nat → Prop} {r : Nat → List Nat} {σ : Sg} {η η1 η' : Hv} {e : ME} {v d : D} {L : List Nat}
theorem Vl.nw (hA : alA own σ e = L) (hE : alE own σ e = L) (x1 : Ext η η1) (x2 : Ext η1 η') (hf : ∀ vs, frs own e (.tup vs) = false) (h : Nw (Gx G r L η.length) η1 η' v d) : Vl own G r σ η e η' v d := by
  unfold Vl
  rw [hA, hE]
  cases v with
  | sq vs =>
    obtain ⟨a, ds, rfl, h1, h2, h3⟩ := h
    have l1 : η.length ≤ a := Nat.le_trans x1.len h1
    refine ⟨⟨a, ds, rfl, .inr (.inr l1), h2, h3.ext x2⟩, ⟨a, ds, rfl, h2, h3.ext x2⟩, fun _ => ⟨[a], (by simp), fun b hb => by rw [List.mem_singleton.mp hb]; exact l1, a, ds, rfl, rfl, h2, (h3.wk fun b hb q => ⟨q, fun z => by rw [List.mem_singleton.mp z] at hb; omega⟩).ext x2⟩⟩
  | dic ks vs =>
    obtain ⟨a, ds, rfl, h1, h2, h3, h4, h5⟩ := h
    have l1 : η.length ≤ a := Nat.le_trans x1.len h1
    refine ⟨⟨a, ds, rfl, .inr (.inr l1), h2, h3, h4, h5.ext x2⟩, ⟨a, ds, rfl, h2, h3, h4, h5.ext x2⟩, fun _ => ⟨[a], (by simp), fun b hb => by rw [List.mem_singleton.mp hb]; exact l1, a, ds, rfl, rfl, h2, h3, h4, (h5.wk fun b hb q => ⟨q, fun z => by rw [List.mem_singleton.mp z] at hb; omega⟩).ext x2⟩⟩
  | tup vs =>
    have h' : Rd (Gx G r L η.length) η1 (.tup vs) d := h
    exact ⟨h'.ext x2, (h'.ext x2).t, fun z => by rw [hf] at z; cases z⟩
  | non => exact ⟨h, h, fun z => by cases z⟩
  | bl _ => exact ⟨h, h, fun z => by cases z⟩
  | int _ => exact ⟨h, h, fun z => by cases z⟩
  | str _ => exact ⟨h, h, fun z => by cases z⟩
  | ref _ => exact ⟨h, h, fun z => by cases z⟩
  | exc _ => exact ⟨h, h, fun z => by cases z⟩
  | lst _ => exact ⟨h, h, fun z => by cases z⟩
theorem Vl.rd (hA : alA own σ e = L) (hE : alE own σ e = L) (hf : frs own e v = false) (h : Rd (Gx G r L η.length) η' v d) : Vl own G r σ η e η' v d := by
  unfold Vl
  rw [hA, hE]
  exact ⟨h, h.t, fun z => by rw [hf] at z; cases z⟩
theorem frs_no (h : frsL own e = false) (h2 : ∀ f es, e ≠ .call f es) : frs own e v = false := by
  cases v <;> first | rfl | exact h | skip
  cases e <;> first | rfl | exact absurd rfl (h2 _ _)
/-- what is owned here is owned there -/
def Sub (σ1 σ : Sg) : Prop := ∀ (i : Nat) (v : D), σ1[i]? = some (.ow v) → σ[i]? = some (.ow v)
theorem sub_sh {σ1 : Sg} (h : Sub σ1 σ) (i : Nat) (x : Sl) (hx : ∀ v, x ≠ .ow v) : Sub (σ1.set i x) σ := fun j v e => by
  rcases set_lt e with ⟨_, e2, _⟩ | ⟨_, e2⟩
  · exact absurd e2.symm (hx v)
  · exact h j v e2
theorem sub_tg {tg : Tgt} {x : D} {σ1 : Sg} (e : setTV (wipeTV σ tg) tg x = some σ1) : Sub σ1 σ := by
  have h0 : Sub σ σ := fun _ _ h => h
  unfold setTV at e
  split at e
  · cases e; exact sub_sh (sub_sh h0 _ _ (by intro _ z; cases z)) _ _ (by intro _ z; cases z)
  · cases e; exact sub_sh (sub_sh (sub_sh (sub_sh h0 _ _ (by intro _ z; cases z)) _ _ (by intro _ z; cases z)) _ _ (by intro _ z; cases z)) _ _ (by intro _ z; cases z)
  · cases e
/-- a comprehension -/
theorem lc_ok {nx : Nxt} {tg : Tgt} {cM : Rho → Mo Bool} {eM : Rho → Mo D} {cV : Sg → Rv Bool} {eV : Sg → Rv D} {ρ : Rho} {T F G' Q : Nat → Prop} {xs : List D} (hx : NxR T F η nx xs) (hF : ∀ a, F a → G' a) (hr : ERel G' r σ ρ η)
    (hc : ∀ σ1 ρ1 η1, Ext η η1 → ERel G' r σ1 ρ1 η1 → BOut η1 (cM ρ1) (cV σ1))
    (he : ∀ σ1 ρ1 η1, Sub σ1 σ → Ext η η1 → ERel G' r σ1 ρ1 η1 → ∀ v, eV σ1 = .ok v → ∃ d η2, eM ρ1 η1 = .ok d η2 ∧ Ext η1 η2 ∧ Rd Q η2 v d) :
    ∀ (n i : Nat) (acc : List D) (η1 : Hv) (rest ys : List D), xs.drop i = rest → lcV tg cV eV σ rest = .ok ys → rest.length < n → acc.length + rest.length ≤ 16777216 → Ext η η1 →
      ∃ ds η2, lcN nx tg cM eM ρ n i acc η1 = .ok (acc ++ ds) η2 ∧ Ext η1 η2 ∧ Rds Q η2 ys ds := by
  intro n
  induction n with
  | zero => intro i acc η1 rest ys _ _ h; omega
  | succ n ih =>
    intro i acc η1 rest ys hd hl hn ha x1
    have hi := hx η1 x1.kp i
    have e0 : xs[i]? = rest[0]? := by rw [← hd, List.getElem?_drop]; rfl
    cases rest with
    | nil =>
      rw [e0] at hi
      cases hl
      refine ⟨[], η1, ?_, Ext.refl, rfl⟩
      have hi' : nx i η1 = some none := hi
      unfold lcN
      simp only [hi', List.append_nil]
    | cons x rest =>
      rw [e0] at hi
      obtain ⟨d, hi, rd⟩ := (show ∃ d, nx i η1 = some (some d) ∧ Rd (fun a => F a ∧ a < η.length) η1 x d from hi)
      have hd2 : xs.drop (i + 1) = rest := by rw [← List.drop_drop, hd]; rfl
      rw [lcV] at hl
      cases es : setTV (wipeTV σ tg) tg x with
      | none => simp only [es] at hl; cases hl
      | some σ1 =>
        simp only [es] at hl
        obtain ⟨ρ1, s1, s2⟩ := setT_ok ((hr.ext x1).wipe tg) es (rd.wk fun a _ q => hF a q.1)
        obtain ⟨oc, ocx⟩ := hc σ1 ρ1 η1 x1 s2
        unfold lcN
        simp only [hi, s1]
        cases ec : cV σ1 with
        | ex k => simp only [ec] at hl; cases hl
        | bad => simp only [ec] at hl; cases hl
        | ok b =>
          obtain ⟨η2, c1, c2⟩ := oc b ec
          have g1 : safeM (cM ρ1) η1 = .ok b η2 := by unfold safeM; rw [c1]
          simp only [ec] at hl
          rw [bd g1]
          cases b with
          | true =>
            simp only at hl
            cases ee : eV σ1 with
            | ex k => simp only [ee] at hl; cases hl
            | bad => simp only [ee] at hl; cases hl
            | ok y =>
              simp only [ee] at hl
              obtain ⟨ys', h1, h2⟩ := Rv.bind_ok hl
              cases h2
              obtain ⟨d2, η3, k1, k2, k3⟩ := he σ1 ρ1 η2 (sub_tg es) (x1.trans c2) (s2.ext c2) y ee
              have g2 : safeM (eM ρ1) η2 = .ok d2 η3 := by unfold safeM; rw [k1]
              rw [if_pos rfl, bd g2]
              rw [List.length_cons] at ha hn
              have hlim : acc.length < lim := by show acc.length < 16777216; omega
              rw [if_pos hlim]
              obtain ⟨ds, η4, m1, m2, m3⟩ := ih (i + 1) (acc ++ [d2]) η3 rest ys' hd2 h1 (by omega) (by rw [List.length_append, List.length_singleton]; omega) ((x1.trans c2).trans k2)
              exact ⟨d2 :: ds, η4, by rw [m1, List.append_assoc]; rfl, (c2.trans k2).trans m2, d2, ds, rfl, k3.ext m2, m3⟩
          | false =>
            simp only at hl
            rw [if_neg Bool.false_ne_true]
            rw [List.length_cons] at ha hn
            obtain ⟨ds, η4, m1, m2, m3⟩ := ih (i + 1) acc η2 rest ys hd2 hl (by omega) (by omega) (x1.trans c2)
            exact ⟨ds, η4, m1, c2.trans m2, m3⟩
theorem lcV_ex {tg : Tgt} {cV : Sg → Rv Bool} {eV : Sg → Rv D} {k : Nat} : ∀ xs : List D, lcV tg cV eV σ xs = .ex k → False
  | [], h => by cases h
  | x :: xs, h => by
    rw [lcV] at h
    split at h
    · cases h
    · split at h
      · split at h
        · rcases Rv.bind_ex h with h | ⟨_, _, h⟩
          · exact lcV_ex xs h
          · cases h
        · cases h
      · exact lcV_ex xs h
      · cases h
theorem lcV_len {tg : Tgt} {cV : Sg → Rv Bool} {eV : Sg → Rv D} : ∀ (xs ys : List D), lcV tg cV eV σ xs = .ok ys → ys.length ≤ xs.length
  | [], ys, h => by cases h; exact Nat.le_refl _
  | x :: xs, ys, h => by
    rw [lcV] at h
    split at h
    · cases h
    · split at h
      · split at h
        · obtain ⟨zs, h1, h2⟩ := Rv.bind_ok h
          cases h2
          have := lcV_len xs zs h1
          simp; omega
        · cases h
      · have := lcV_len xs ys h
        simp; omega
      · cases h
mutual
theorem alA_sub {σ1 : Sg} (h : Sub σ1 σ) : ∀ (e : ME) (i : Nat), i ∈ alA own σ1 e → i ∈ alA own σ e
  | .loc j, i, q => q
  | .tup es, i, q => alAs_sub h es i q
  | .lst es, i, q => alAs_sub h es i q
  | .dic _ vs, i, q => alAs_sub h vs i q
  | .bin _ a b, i, q => List.mem_append.mpr ((List.mem_append.mp q).imp (alE_sub h a i) (alE_sub h b i))
  | .and a b, i, q => List.mem_append.mpr ((List.mem_append.mp q).imp (alA_sub h a i) (alA_sub h b i))
  | .or a b, i, q => List.mem_append.mpr ((List.mem_append.mp q).imp (alA_sub h a i) (alA_sub h b i))
  | .ife _ a b, i, q => List.mem_append.mpr ((List.mem_append.mp q).imp (alA_sub h a i) (alA_sub h b i))
  | .idx a _, i, q => alE_sub h a i q
  | .slc a _ _, i, q => alE_sub h a i q
  | .call f es, i, q => by
    rw [alA] at q ⊢
    split at q
    · cases q
    · rename_i z; rw [if_neg z]; exact alAs_sub h es i q
  | .blt _ es, i, q => alEs_sub h es i q
  | .mth _ o es, i, q => List.mem_append.mpr ((List.mem_append.mp q).imp (alE_sub h o i) (alAs_sub h es i))
  | .lc _ it _ elt, i, q => List.mem_append.mpr ((List.mem_append.mp q).imp (alI_sub h it i) (alA_sub h elt i))
  | .cst _, i, q => by cases q
  | .neg _, i, q => by cases q
  | .not _, i, q => by cases q
  | .cmp _ _ _, i, q => by cases q
  | .chn _ _ _ _ _, i, q => by cases q
  | .own _ _ _, i, q => by cases q
  | .new _ _, i, q => by cases q
  | .fld _ _, i, q => by cases q
  | .isi _ _, i, q => by cases q
  | .ise _ _, i, q => by cases q
  | .skey _ _, i, q => by cases q
  | .mkey _ _ _, i, q => by cases q
  | .mdef _ _ _, i, q => by cases q
  | .sset _, i, q => by cases q
  | .lset _, i, q => by cases q
  | .lrng _, i, q => by cases q
theorem alE_sub {σ1 : Sg} (h : Sub σ1 σ) : ∀ (e : ME) (i : Nat), i ∈ alE own σ1 e → i ∈ alE own σ e
  | .loc j, i, q => by
    rw [alE] at q ⊢
    split at q
    · rename_i e; rw [h _ _ e]; exact q
    · cases q
  | .tup es, i, q => alAs_sub h es i q
  | .lst es, i, q => alAs_sub h es i q
  | .dic _ vs, i, q => alAs_sub h vs i q
  | .bin _ a b, i, q => List.mem_append.mpr ((List.mem_append.mp q).imp (alE_sub h a i) (alE_sub h b i))
  | .and a b, i, q => List.mem_append.mpr ((List.mem_append.mp q).imp (alA_sub h a i) (alA_sub h b i))
  | .or a b, i, q => List.mem_append.mpr ((List.mem_append.mp q).imp (alA_sub h a i) (alA_sub h b i))
  | .ife _ a b, i, q => List.mem_append.mpr ((List.mem_append.mp q).imp (alA_sub h a i) (alA_sub h b i))
  | .idx a _, i, q => alE_sub h a i q
  | .slc a _ _, i, q => alE_sub h a i q
  | .call f es, i, q => by
    rw [alE] at q ⊢
    split at q
    · cases q
    · rename_i z; rw [if_neg z]; exact alAs_sub h es i q
  | .blt _ es, i, q => alEs_sub h es i q
  | .mth _ o es, i, q => List.mem_append.mpr ((List.mem_append.mp q).imp (alE_sub h o i) (alAs_sub h es i))
  | .lc _ it _ elt, i, q => List.mem_append.mpr ((List.mem_append.mp q).imp (alI_sub h it i) (alA_sub h elt i))
  | .cst _, i, q => by cases q
  | .neg _, i, q => by cases q
  | .not _, i, q => by cases q
  | .cmp _ _ _, i, q => by cases q
  | .chn _ _ _ _ _, i, q => by cases q
  | .own _ _ _, i, q => by cases q
  | .new _ _, i, q => by cases q
  | .fld _ _, i, q => by cases q
  | .isi _ _, i, q => by cases q
  | .ise _ _, i, q => by cases q
  | .skey _ _, i, q => by cases q
  | .mkey _ _ _, i, q => by cases q
  | .mdef _ _ _, i, q => by cases q
  | .sset _, i, q => by cases q
  | .lset _, i, q => by cases q
  | .lrng _, i, q => by cases q
theorem alAs_sub {σ1 : Sg} (h : Sub σ1 σ) : ∀ (es : List ME) (i : Nat), i ∈ alAs own σ1 es → i ∈ alAs own σ es
  | [], i, q => by cases q
  | e :: es, i, q => List.mem_append.mpr ((List.mem_append.mp q).imp (alA_sub h e i) (alAs_sub h es i))
theorem alEs_sub {σ1 : Sg} (h : Sub σ1 σ) : ∀ (es : List ME) (i : Nat), i ∈ alEs own σ1 es → i ∈ alEs own σ es
  | [], i, q => by cases q
  | e :: es, i, q => List.mem_append.mpr ((List.mem_append.mp q).imp (alE_sub h e i) (alEs_sub h es i))
theorem alI_sub {σ1 : Sg} (h : Sub σ1 σ) : ∀ (it : ITr) (i : Nat), i ∈ alI own σ1 it → i ∈ alI own σ it
  | .seq e, i, q => alE_sub h e i q
  | .rng _, i, q => by cases q
  | .rng2 _ _, i, q => by cases q
  | .enm e, i, q => alE_sub h e i q
  | .zip a b, i, q => List.mem_append.mpr ((List.mem_append.mp q).imp (alE_sub h a i) (alE_sub h b i))
end
theorem disp_ok {F : Nat → Prop} {η : Hv} : ∀ (ks vs kd ds : List D) (K V E : List D) (kvs : List (D × D)), dispV ks vs (K.zip V) = some kvs → K.length = V.length → Rds F η V E → D.nrfs K = true → Rds (fun _ => True) η ks kd → Rds F η vs ds →
    ∃ E', dispD kd ds (K.zip E) = some ((kvs.map (·.1)).zip E') ∧ (kvs.map (·.1)).length = E'.length ∧ D.nrfs (kvs.map (·.1)) = true ∧ Rds F η (kvs.map (·.2)) E'
  | [], [], kd, ds, K, V, E, kvs, h, hl, r, hn, q1, q2 => by
    cases h
    rw [show kd = [] from q1, show ds = [] from q2]
    have hl2 : K.length = E.length := by rw [hl, r.len]
    exact ⟨E, by rw [zip_fst hl]; rfl, by rw [zip_fst hl]; exact hl2, by rw [zip_fst hl]; exact hn, by rw [zip_snd hl]; exact r⟩
  | [], _ :: _, _, _, _, _, _, _, h, _, _, _, _, _ => by cases h
  | _ :: _, [], _, _, _, _, _, _, h, _, _, _, _, _ => by cases h
  | k :: ks, v :: vs, kd, ds, K, V, E, kvs, h, hl, r, hn, q1, q2 => by
    obtain ⟨k', kd', rfl, p1, p2⟩ := q1
    obtain ⟨d, ds', rfl, p3, p4⟩ := q2
    rw [dispV] at h
    split at h
    · rename_i c
      rw [zip_fst hl] at c
      have hl2 : K.length = E.length := by rw [hl, r.len]
      have hk : keyOk k = true := by unfold okKeyV at c; rw [Bool.and_eq_true] at c; exact c.1
      have e : k' = k := Rd.nrf k k' (keyOk_nrf hk) p1
      subst e
      obtain ⟨E1, g1, g2, g3, g4⟩ := dput_ok (k := k') (v := v) (d := d) hl2 r hn (keyOk_nrf hk) p3
      have hz : ∀ l : List (D × D), (l.map (·.1)).zip (l.map (·.2)) = l := fun l => by
        induction l with
        | nil => rfl
        | cons a l ih => rw [List.map_cons, List.map_cons, List.zip_cons_cons, ih]
      rw [← hz (dput (K.zip V) k' v)] at h
      obtain ⟨E', m1, m2, m3, m4⟩ := disp_ok ks vs kd' ds' _ _ E1 kvs h (by rw [List.length_map, List.length_map]) g4 g3 p2 p4
      refine ⟨E', ?_, m2, m3, m4⟩
      rw [dispD, okKey_eq hl2, if_pos c, g1]
      exact m1
    · cases h
end
end MI

set_option autoImplicit false
set_option linter.all false
set_option Elab.async false
set_option maxRecDepth 100000
set_option maxHeartbeats 4000000
/-! ViS6: expressions by induction. -/
namespace MI
section
variable {c c' : ClM} {cv : ClV} {own : String → Nat}
theorem allStr_nrf : ∀ {xs : List D}, allStr xs = true → D.nrfs xs = true
  | [], _ => rfl
  | x :: xs, h => by
    unfold allStr at h
    rw [List.all_cons, Bool.and_eq_true] at h
    rw [D.nrfs, allStr_nrf h.2]
    have h1 := h.1
    cases x <;> first | rfl | (cases h1; done)
theorem lrngV_inv {xs : List D} {v : D} (h : lrngV xs = .ok v) : (∃ j : Int, xs = [.int j] ∧ rgOkB 0 j = true ∧ v = .sq (rngD 0 j)) ∨ ∃ i j : Int, xs = [.int i, .int j] ∧ rgOkB i j = true ∧ v = .sq (rngD i j) := by
  unfold lrngV at h
  split at h
  · split at h
    · rename_i c; cases h; exact .inl ⟨_, rfl, c, rfl⟩
    · cases h
  · split at h
    · rename_i c; cases h; exact .inr ⟨_, _, rfl, c, rfl⟩
    · cases h
  · cases h
theorem rngD_nrf (i j : Int) : D.nrfs (rngD i j) = true := by
  unfold rngD
  generalize List.range (j - i).toNat = L
  induction L with
  | nil => rfl
  | cons x L ih => exact ih
theorem allInt_nrf : ∀ {xs : List D}, allInt xs = true → D.nrfs xs = true
  | [], _ => rfl
  | x :: xs, h => by
    unfold allInt at h
    rw [List.all_cons, Bool.and_eq_true] at h
    rw [D.nrfs, allInt_nrf h.2]
    have h1 := h.1
    cases x <;> first | rfl | (cases h1; done)
theorem flat_any {F F' : Nat → Prop} {η : Hv} {v d : D} (h : isH v = false) (q : Rd F η v d) : Rd F' η v d := by
  cases v <;> first | (cases h; done) | exact q
theorem RdTs.wk {F F' : Nat → Prop} {η : Hv} : ∀ {vs ds : List D}, RdTs F η vs ds → (∀ a, a < η.length → F a → F' a) → RdTs F' η vs ds
  | [], _, h, _ => h
  | v :: vs, _, h, q => by
    obtain ⟨d, r, e, h1, h2⟩ := h
    exact ⟨d, r, e, h1.wk q, RdTs.wk h2 q⟩
theorem rl {L L' : List Nat} (h : ∀ i ∈ L, i ∈ L') {G : Nat → Prop} {r : Nat → List Nat} {n n' : Nat} {η : Hv} (hn : n' ≤ n) : ∀ a, a < η.length → Gx G r L n a → Gx G r L' n' a := fun a _ => Gx.mono h hn a
theorem inl {α : Type} {a b : List α} : ∀ i ∈ a, i ∈ a ++ b := fun i h => List.mem_append.mpr (.inl h)
theorem inr {α : Type} {a b : List α} : ∀ i ∈ b, i ∈ a ++ b := fun i h => List.mem_append.mpr (.inr h)
theorem idm {α : Type} {a : List α} : ∀ i ∈ a, i ∈ a := fun i h => h
/-- a value that owns nothing, answered as it is -/
theorem Vl.flat {G : Nat → Prop} {r : Nat → List Nat} {σ : Sg} {η η' : Hv} {e : ME} {v d : D} (h1 : isH v = false) (h2 : ∀ F, Rd F η' v d) : Vl own G r σ η e η' v d :=
  ⟨h2 _, (h2 _).t, fun z => by cases v <;> first | (cases h1; done) | (cases z; done)⟩
mutual
theorem evV_ok (hc : SndC c cv own) : ∀ (e : ME) (σ : Sg) (ρ : Rho) (η : Hv) (G : Nat → Prop) (r : Nat → List Nat), ERel G r σ ρ η → EOut own G r σ η e (evE c c' e ρ) (evV cv e σ)
  | .loc i, σ, ρ, η, G, r, h => by
    refine ⟨fun v hv => ?_, fun k hk => ?_⟩
    · rw [evV] at hv
      obtain ⟨d, h1, h2, h3⟩ := loc_rd h hv
      refine ⟨d, η, by rw [x_loc]; unfold locM; rw [h1]; rfl, Ext.refl, h2.wk fun a _ q => ?_, ?_, fun z => ?_⟩
      · rcases q with q | ⟨_, q⟩
        · exact .inl q
        · exact .inr (.inl ⟨i, by simp [alA], q⟩)
      · rcases h3 with ⟨ho, h3⟩ | h3
        · cases v with
          | sq vs => obtain ⟨a, ds, _, rfl, q1, q2⟩ := h3; exact ⟨a, ds, rfl, q1, q2.wk fun _ _ q => .inl q⟩
          | dic ks vs => obtain ⟨a, ds, _, rfl, q1, q2, q3, q4⟩ := h3; exact ⟨a, ds, rfl, q1, q2, q3, q4.wk fun _ _ q => .inl q⟩
          | tup vs =>
            have hl : alE own σ (.loc i) = [i] := by
              unfold isOw at ho
              rw [locV] at hv
              rw [alE]
              split at hv
              · rename_i q; rw [q] at ho; cases ho
              · rename_i q; cases hv; rw [q]
              · cases hv
            rw [hl]
            exact (RdC.rd h3).wk fun a _ q => q.imp id fun q => .inl ⟨i, by simp, q⟩
          | _ =>
            refine (RdC.rd h3).wk (F' := Gx G r (alE own σ (.loc i)) η.length) fun a _ q => ?_
            rcases q with q | q
            · exact .inl q
            · rw [(show r i = [] from h3.1)] at q; cases q
        · exact (h3.wk fun _ _ q => .inl q).t
      · exfalso
        rw [frs_no (e := .loc i) rfl (by intro _ _ z; cases z)] at z; cases z
    · rw [evV] at hk
      unfold locV at hk
      split at hk <;> cases hk
  | .cst d0, σ, ρ, η, G, r, h => by
    refine ⟨fun v hv => ?_, fun k hk => ?_⟩
    · rw [evV] at hv
      have hn : v = d0 ∧ v.nrf = true := by
        unfold cstV at hv
        split at hv
        · split at hv
          · rename_i q; cases hv; exact ⟨rfl, q⟩
          · cases hv
        all_goals (cases hv; try exact ⟨rfl, rfl⟩)
      obtain ⟨rfl, hn⟩ := hn
      exact ⟨v, η, rfl, Ext.refl, .rd (L := []) rfl rfl (frs_no rfl (fun _ _ z => nomatch z)) (Rd.self v hn)⟩
    · rw [evV] at hk
      unfold cstV at hk
      split at hk <;> first | cases hk | (split at hk <;> cases hk)
  | .tup es, σ, ρ, η, G, r, h => by
    obtain ⟨o1, o2⟩ := evVs_ok hc es σ ρ η G r h
    refine ⟨fun v hv => ?_, fun k hk => ?_⟩
    · rw [evV] at hv
      obtain ⟨vs, h1, h2⟩ := Rv.bind_ok hv
      cases h2
      obtain ⟨ds, η1, e1, x1, r1, _⟩ := o1 vs h1
      exact ⟨.tup ds, η1, by rw [x_tup, bd e1]; rfl, x1, .rd (L := alAs own σ es) rfl rfl (frs_no rfl (fun _ _ z => nomatch z)) ⟨ds, rfl, r1⟩⟩
    · rw [evV] at hk
      rcases Rv.bind_ex hk with hk | ⟨_, _, hk⟩
      · obtain ⟨η1, e1, x1⟩ := o2 k hk
        exact ⟨η1, by rw [x_tup, bx e1], x1⟩
      · cases hk
  | .lst es, σ, ρ, η, G, r, h => by
    obtain ⟨o1, o2⟩ := evVs_ok hc es σ ρ η G r h
    refine ⟨fun v hv => ?_, fun k hk => ?_⟩
    · rw [evV] at hv
      obtain ⟨vs, h1, h2⟩ := Rv.bind_ok hv
      cases h2
      obtain ⟨ds, η1, e1, x1, r1, _⟩ := o1 vs h1
      exact ⟨.ref η1.length, η1 ++ [.lst ds], by rw [x_lst, bd e1]; rfl, x1.trans Ext.app, .nw (L := alAs own σ es) (η1 := η1) rfl rfl x1 Ext.app (fun _ => rfl) ⟨_, ds, rfl, Nat.le_refl _, at_new, r1⟩⟩
    · rw [evV] at hk
      rcases Rv.bind_ex hk with hk | ⟨_, _, hk⟩
      · obtain ⟨η1, e1, x1⟩ := o2 k hk
        exact ⟨η1, by rw [x_lst, bx e1], x1⟩
      · cases hk
  | .dic ks vs, σ, ρ, η, G, r, h => by
    obtain ⟨o1, o2⟩ := evVs_ok hc ks σ ρ η G r h
    refine ⟨fun v hv => ?_, fun k hk => ?_⟩
    · rw [evV] at hv
      obtain ⟨kv, h1, hv⟩ := Rv.bind_ok hv
      obtain ⟨kd, η1, e1, x1, r1, _⟩ := o1 kv h1
      obtain ⟨p1, p2⟩ := evVs_ok hc vs σ ρ η1 G r (h.ext x1)
      obtain ⟨vv, h2, hv⟩ := Rv.bind_ok hv
      obtain ⟨dd, η2, e2, x2, r2, _⟩ := p1 vv h2
      obtain ⟨kvs, h3, hv⟩ := Rv.bind_ok hv
      cases hv
      obtain ⟨E, m1, m2, m3, m4⟩ := disp_ok (F := Gx G r (alAs own σ vs) η.length) (η := η2) kv vv kd dd [] [] [] kvs (ofV_ok h3) rfl rfl rfl ((r1.ext x2).wk fun _ _ _ => trivial) (r2.wk (rl idm x1.len))
      refine ⟨.ref η2.length, η2 ++ [.dic ((kvs.map (·.1)).zip E)], ?_, (x1.trans x2).trans Ext.app, .nw (L := alAs own σ vs) (η1 := η2) rfl rfl (x1.trans x2) Ext.app (fun _ => rfl) ⟨_, E, rfl, Nat.le_refl _, at_new, m2, m3, m4⟩⟩
      show ((evEs c c' ks ρ).bind fun ds => (evEs c c' vs ρ).bind fun es => (ofO (dispD ds es [])).bind fun kvs => allocM (.dic kvs)) η = _
      rw [bd e1, bd e2]
      have m1' : dispD kd dd [] = some ((kvs.map (·.1)).zip E) := m1
      rw [m1']
      rfl
    · rw [evV] at hk
      rcases Rv.bind_ex hk with hk | ⟨kv, h1, hk⟩
      · obtain ⟨η1, e1, x1⟩ := o2 k hk
        exact ⟨η1, bx e1, x1⟩
      · obtain ⟨kd, η1, e1, x1, r1, _⟩ := o1 kv h1
        obtain ⟨p1, p2⟩ := evVs_ok hc vs σ ρ η1 G r (h.ext x1)
        rcases Rv.bind_ex hk with hk | ⟨vv, h2, hk⟩
        · obtain ⟨η2, e2, x2⟩ := p2 k hk
          exact ⟨η2, (bd e1).trans (bx e2), x1.trans x2⟩
        · rcases Rv.bind_ex hk with hk | ⟨_, _, hk⟩
          · exact (ofV_ex hk).elim
          · cases hk
  | .bin o a b, σ, ρ, η, G, r, h => by
    obtain ⟨o1, o2⟩ := evV_ok hc a σ ρ η G r h
    refine ⟨fun v hv => ?_, fun k hk => ?_⟩
    · rw [evV] at hv
      obtain ⟨x, h1, hv⟩ := Rv.bind_ok hv
      obtain ⟨d1, η1, e1, x1, _, r1, _⟩ := o1 x h1
      obtain ⟨p1, p2⟩ := evV_ok hc b σ ρ η1 G r (h.ext x1)
      obtain ⟨y, h2, hv⟩ := Rv.bind_ok hv
      obtain ⟨d2, η2, e2, x2, _, r2, _⟩ := p1 y h2
      obtain ⟨d, η', e3, x3, nw⟩ := binV_ok (F := Gx G r (alE own σ a ++ alE own σ b) η.length) hv ((r1.ext x2).wk (rl inl (Nat.le_refl _))) (r2.wk (rl inr x1.len))
      exact ⟨d, η', by rw [x_bin, bd e1, bd e2]; exact e3, (x1.trans x2).trans x3, .nw (L := alE own σ a ++ alE own σ b) rfl rfl (x1.trans x2) x3 (fun _ => rfl) nw⟩
    · rw [evV] at hk
      rcases Rv.bind_ex hk with hk | ⟨x, h1, hk⟩
      · obtain ⟨η1, e1, x1⟩ := o2 k hk
        exact ⟨η1, by rw [x_bin, bx e1], x1⟩
      · obtain ⟨d1, η1, e1, x1, _⟩ := o1 x h1
        obtain ⟨p1, p2⟩ := evV_ok hc b σ ρ η1 G r (h.ext x1)
        rcases Rv.bind_ex hk with hk | ⟨y, h2, hk⟩
        · obtain ⟨η2, e2, x2⟩ := p2 k hk
          exact ⟨η2, by rw [x_bin, bd e1, bx e2], x1.trans x2⟩
        · exact (binV_ex hk).elim
  | .neg a, σ, ρ, η, G, r, h => by
    obtain ⟨o1, o2⟩ := evV_ok hc a σ ρ η G r h
    refine ⟨fun v hv => ?_, fun k hk => ?_⟩
    · rw [evV] at hv
      obtain ⟨x, h1, hv⟩ := Rv.bind_ok hv
      obtain ⟨d1, η1, e1, x1, _, r1, _⟩ := o1 x h1
      obtain ⟨i, h2, hv⟩ := Rv.bind_ok hv
      cases x <;> first | (cases h2; done) | skip
      cases h2; cases hv; cases r1
      exact ⟨_, η1, by rw [x_neg, bd e1]; rfl, x1, .flat rfl fun _ => rfl⟩
    · rw [evV] at hk
      rcases Rv.bind_ex hk with hk | ⟨x, h1, hk⟩
      · obtain ⟨η1, e1, x1⟩ := o2 k hk
        exact ⟨η1, by rw [x_neg, bx e1], x1⟩
      · rcases Rv.bind_ex hk with hk | ⟨_, _, hk⟩
        · cases x <;> cases hk
        · cases hk
  | .not a, σ, ρ, η, G, r, h => by
    obtain ⟨o1, o2⟩ := evV_ok hc a σ ρ η G r h
    refine ⟨fun v hv => ?_, fun k hk => ?_⟩
    · rw [evV] at hv
      obtain ⟨x, h1, hv⟩ := Rv.bind_ok hv
      obtain ⟨d1, η1, e1, x1, _, r1, _⟩ := o1 x h1
      obtain ⟨b, h2, hv⟩ := Rv.bind_ok hv
      cases hv
      have t := truV_ok h2 r1
      exact ⟨_, η1, by rw [x_not, bd ((bd e1).trans (lk t))]; rfl, x1, .flat rfl fun _ => rfl⟩
    · rw [evV] at hk
      rcases Rv.bind_ex hk with hk | ⟨x, h1, hk⟩
      · obtain ⟨η1, e1, x1⟩ := o2 k hk
        exact ⟨η1, by rw [x_not, bx (bx e1)], x1⟩
      · rcases Rv.bind_ex hk with hk | ⟨_, _, hk⟩
        · exact (truV_ex hk).elim
        · cases hk
  | .and a b, σ, ρ, η, G, r, h => by
    obtain ⟨o1, o2⟩ := evV_ok hc a σ ρ η G r h
    refine ⟨fun v hv => ?_, fun k hk => ?_⟩
    · rw [evV] at hv
      obtain ⟨x, h1, hv⟩ := Rv.bind_ok hv
      obtain ⟨d1, η1, e1, x1, q1, r1, _⟩ := o1 x h1
      obtain ⟨t, h2, hv⟩ := Rv.bind_ok hv
      have tt := truV_ok h2 r1
      have e2 := (bd (f := fun t => if t = true then evE c c' b ρ else Mo.pure d1) (lk tt))
      cases t with
      | true =>
        rw [if_pos rfl] at hv
        obtain ⟨d2, η2, e3, x2, q2, _, _⟩ := (evV_ok hc b σ ρ η1 G r (h.ext x1)).1 v hv
        exact ⟨d2, η2, by rw [x_and, bd e1]; exact e2.trans (by rw [if_pos rfl]; exact e3), x1.trans x2, .rd (L := alA own σ a ++ alA own σ b) rfl rfl (frs_no rfl (fun _ _ z => nomatch z)) (q2.wk (rl inr x1.len))⟩
      | false =>
        rw [if_neg Bool.false_ne_true] at hv
        cases hv
        exact ⟨d1, η1, by rw [x_and, bd e1]; exact e2.trans (by rw [if_neg Bool.false_ne_true]; rfl), x1, .rd (L := alA own σ a ++ alA own σ b) rfl rfl (frs_no rfl (fun _ _ z => nomatch z)) (q1.wk (rl inl (Nat.le_refl _)))⟩
    · rw [evV] at hk
      rcases Rv.bind_ex hk with hk | ⟨x, h1, hk⟩
      · obtain ⟨η1, e1, x1⟩ := o2 k hk
        exact ⟨η1, by rw [x_and, bx e1], x1⟩
      · obtain ⟨d1, η1, e1, x1, q1, r1, _⟩ := o1 x h1
        rcases Rv.bind_ex hk with hk | ⟨t, h2, hk⟩
        · exact (truV_ex hk).elim
        · have tt := truV_ok h2 r1
          have e2 := (bd (f := fun t => if t = true then evE c c' b ρ else Mo.pure d1) (lk tt))
          cases t with
          | true =>
            rw [if_pos rfl] at hk
            obtain ⟨η2, e3, x2⟩ := (evV_ok hc b σ ρ η1 G r (h.ext x1)).2 k hk
            exact ⟨η2, by rw [x_and, bd e1]; exact e2.trans (by rw [if_pos rfl]; exact e3), x1.trans x2⟩
          | false => rw [if_neg Bool.false_ne_true] at hk; cases hk
  | .or a b, σ, ρ, η, G, r, h => by
    obtain ⟨o1, o2⟩ := evV_ok hc a σ ρ η G r h
    refine ⟨fun v hv => ?_, fun k hk => ?_⟩
    · rw [evV] at hv
      obtain ⟨x, h1, hv⟩ := Rv.bind_ok hv
      obtain ⟨d1, η1, e1, x1, q1, r1, _⟩ := o1 x h1
      obtain ⟨t, h2, hv⟩ := Rv.bind_ok hv
      have tt := truV_ok h2 r1
      have e2 := (bd (f := fun t => if t = true then Mo.pure d1 else evE c c' b ρ) (lk tt))
      cases t with
      | false =>
        rw [if_neg Bool.false_ne_true] at hv
        obtain ⟨d2, η2, e3, x2, q2, _, _⟩ := (evV_ok hc b σ ρ η1 G r (h.ext x1)).1 v hv
        exact ⟨d2, η2, by rw [x_or, bd e1]; exact e2.trans (by rw [if_neg Bool.false_ne_true]; exact e3), x1.trans x2, .rd (L := alA own σ a ++ alA own σ b) rfl rfl (frs_no rfl (fun _ _ z => nomatch z)) (q2.wk (rl inr x1.len))⟩
      | true =>
        rw [if_pos rfl] at hv
        cases hv
        exact ⟨d1, η1, by rw [x_or, bd e1]; exact e2.trans (by rw [if_pos rfl]; rfl), x1, .rd (L := alA own σ a ++ alA own σ b) rfl rfl (frs_no rfl (fun _ _ z => nomatch z)) (q1.wk (rl inl (Nat.le_refl _)))⟩
    · rw [evV] at hk
      rcases Rv.bind_ex hk with hk | ⟨x, h1, hk⟩
      · obtain ⟨η1, e1, x1⟩ := o2 k hk
        exact ⟨η1, by rw [x_or, bx e1], x1⟩
      · obtain ⟨d1, η1, e1, x1, q1, r1, _⟩ := o1 x h1
        rcases Rv.bind_ex hk with hk | ⟨t, h2, hk⟩
        · exact (truV_ex hk).elim
        · have tt := truV_ok h2 r1
          have e2 := (bd (f := fun t => if t = true then Mo.pure d1 else evE c c' b ρ) (lk tt))
          cases t with
          | false =>
            rw [if_neg Bool.false_ne_true] at hk
            obtain ⟨η2, e3, x2⟩ := (evV_ok hc b σ ρ η1 G r (h.ext x1)).2 k hk
            exact ⟨η2, by rw [x_or, bd e1]; exact e2.trans (by rw [if_neg Bool.false_ne_true]; exact e3), x1.trans x2⟩
          | true => rw [if_pos rfl] at hk; cases hk
  | .cmp o a b, σ, ρ, η, G, r, h => by
    obtain ⟨o1, o2⟩ := evV_ok hc a σ ρ η G r h
    refine ⟨fun v hv => ?_, fun k hk => ?_⟩
    · rw [evV] at hv
      obtain ⟨x, h1, hv⟩ := Rv.bind_ok hv
      obtain ⟨d1, η1, e1, x1, _, r1, _⟩ := o1 x h1
      obtain ⟨p1, p2⟩ := evV_ok hc b σ ρ η1 G r (h.ext x1)
      obtain ⟨y, h2, hv⟩ := Rv.bind_ok hv
      obtain ⟨d2, η2, e2, x2, _, r2, _⟩ := p1 y h2
      obtain ⟨t, h3, hv⟩ := Rv.bind_ok hv
      cases hv
      have t := cmpV_ok (F := fun _ => True) h3 ((r1.ext x2).wk fun _ _ _ => trivial) (r2.wk fun _ _ _ => trivial)
      exact ⟨_, η2, by rw [x_cmp, bd e1, bd e2, bd (show cmpM o d1 d2 η2 = _ from lk t)]; rfl, x1.trans x2, .flat rfl fun _ => rfl⟩
    · rw [evV] at hk
      rcases Rv.bind_ex hk with hk | ⟨x, h1, hk⟩
      · obtain ⟨η1, e1, x1⟩ := o2 k hk
        exact ⟨η1, by rw [x_cmp, bx e1], x1⟩
      · obtain ⟨d1, η1, e1, x1, _⟩ := o1 x h1
        obtain ⟨p1, p2⟩ := evV_ok hc b σ ρ η1 G r (h.ext x1)
        rcases Rv.bind_ex hk with hk | ⟨y, h2, hk⟩
        · obtain ⟨η2, e2, x2⟩ := p2 k hk
          exact ⟨η2, by rw [x_cmp, bd e1, bx e2], x1.trans x2⟩
        · rcases Rv.bind_ex hk with hk | ⟨_, _, hk⟩
          · exact (cmpV_ex hk).elim
          · cases hk
  | .chn o p a b z, σ, ρ, η, G, r, h => by
    obtain ⟨o1, o2⟩ := evV_ok hc a σ ρ η G r h
    refine ⟨fun v hv => ?_, fun k hk => ?_⟩
    · rw [evV] at hv
      obtain ⟨x, h1, hv⟩ := Rv.bind_ok hv
      obtain ⟨d1, η1, e1, x1, _, r1, _⟩ := o1 x h1
      obtain ⟨p1, p2⟩ := evV_ok hc b σ ρ η1 G r (h.ext x1)
      obtain ⟨y, h2, hv⟩ := Rv.bind_ok hv
      obtain ⟨d2, η2, e2, x2, _, r2, _⟩ := p1 y h2
      obtain ⟨t, h3, hv⟩ := Rv.bind_ok hv
      have t1 := cmpV_ok (F := fun _ => True) h3 ((r1.ext x2).wk fun _ _ _ => trivial) (r2.wk fun _ _ _ => trivial)
      have e3 := bd (f := fun t => if t = true then (evE c c' z ρ).bind fun w => (cmpM p d2 w).bind fun u => Mo.pure (D.bl u) else Mo.pure (.bl false)) (show cmpM o d1 d2 η2 = _ from lk t1)
      cases t with
      | true =>
        rw [if_pos rfl] at hv
        obtain ⟨w, h4, hv⟩ := Rv.bind_ok hv
        obtain ⟨d3, η3, e4, x3, _, r3, _⟩ := (evV_ok hc z σ ρ η2 G r ((h.ext x1).ext x2)).1 w h4
        obtain ⟨u, h5, hv⟩ := Rv.bind_ok hv
        cases hv
        have t2 := cmpV_ok (F := fun _ => True) h5 ((r2.ext x3).wk fun _ _ _ => trivial) (r3.wk fun _ _ _ => trivial)
        exact ⟨_, η3, by rw [x_chn, bd e1, bd e2]; exact e3.trans (by rw [if_pos rfl, bd e4, bd (show cmpM p d2 d3 η3 = _ from lk t2)]; rfl), (x1.trans x2).trans x3, .flat rfl fun _ => rfl⟩
      | false =>
        rw [if_neg Bool.false_ne_true] at hv
        cases hv
        exact ⟨_, η2, by rw [x_chn, bd e1, bd e2]; exact e3.trans (by rw [if_neg Bool.false_ne_true]; rfl), x1.trans x2, .flat rfl fun _ => rfl⟩
    · rw [evV] at hk
      rcases Rv.bind_ex hk with hk | ⟨x, h1, hk⟩
      · obtain ⟨η1, e1, x1⟩ := o2 k hk
        exact ⟨η1, by rw [x_chn, bx e1], x1⟩
      · obtain ⟨d1, η1, e1, x1, _, r1, _⟩ := o1 x h1
        obtain ⟨p1, p2⟩ := evV_ok hc b σ ρ η1 G r (h.ext x1)
        rcases Rv.bind_ex hk with hk | ⟨y, h2, hk⟩
        · obtain ⟨η2, e2, x2⟩ := p2 k hk
          exact ⟨η2, by rw [x_chn, bd e1, bx e2], x1.trans x2⟩
        · obtain ⟨d2, η2, e2, x2, _, r2, _⟩ := p1 y h2
          rcases Rv.bind_ex hk with hk | ⟨t, h3, hk⟩
          · exact (cmpV_ex hk).elim
          · have t1 := cmpV_ok (F := fun _ => True) h3 ((r1.ext x2).wk fun _ _ _ => trivial) (r2.wk fun _ _ _ => trivial)
            have e3 := bd (f := fun t => if t = true then (evE c c' z ρ).bind fun w => (cmpM p d2 w).bind fun u => Mo.pure (D.bl u) else Mo.pure (.bl false)) (show cmpM o d1 d2 η2 = _ from lk t1)
            cases t with
            | true =>
              rw [if_pos rfl] at hk
              rcases Rv.bind_ex hk with hk | ⟨w, h4, hk⟩
              · obtain ⟨η3, e4, x3⟩ := (evV_ok hc z σ ρ η2 G r ((h.ext x1).ext x2)).2 k hk
                exact ⟨η3, by rw [x_chn, bd e1, bd e2]; exact e3.trans (by rw [if_pos rfl, bx e4]), (x1.trans x2).trans x3⟩
              · rcases Rv.bind_ex hk with hk | ⟨_, _, hk⟩
                · exact (cmpV_ex hk).elim
                · cases hk
            | false => rw [if_neg Bool.false_ne_true] at hk; cases hk
  | .ife t a b, σ, ρ, η, G, r, h => by
    obtain ⟨o1, o2⟩ := evV_ok hc t σ ρ η G r h
    refine ⟨fun v hv => ?_, fun k hk => ?_⟩
    · rw [evV] at hv
      obtain ⟨x, h1, hv⟩ := Rv.bind_ok hv
      obtain ⟨d1, η1, e1, x1, q1, r1, _⟩ := o1 x h1
      obtain ⟨t', h2, hv⟩ := Rv.bind_ok hv
      have e2 := bd (f := fun v => if v = true then evE c c' a ρ else evE c c' b ρ) (show ((evE c c' t ρ).bind truM) η = .ok t' η1 by rw [bd e1]; exact lk (truV_ok h2 r1))
      cases t' with
      | true =>
        rw [if_pos rfl] at hv
        obtain ⟨d2, η2, e3, x2, q2, _, _⟩ := (evV_ok hc a σ ρ η1 G r (h.ext x1)).1 v hv
        exact ⟨d2, η2, by rw [x_ife]; exact e2.trans (by rw [if_pos rfl]; exact e3), x1.trans x2, .rd (L := alA own σ a ++ alA own σ b) rfl rfl (frs_no rfl (fun _ _ z => nomatch z)) (q2.wk (rl inl x1.len))⟩
      | false =>
        rw [if_neg Bool.false_ne_true] at hv
        obtain ⟨d2, η2, e3, x2, q2, _, _⟩ := (evV_ok hc b σ ρ η1 G r (h.ext x1)).1 v hv
        exact ⟨d2, η2, by rw [x_ife]; exact e2.trans (by rw [if_neg Bool.false_ne_true]; exact e3), x1.trans x2, .rd (L := alA own σ a ++ alA own σ b) rfl rfl (frs_no rfl (fun _ _ z => nomatch z)) (q2.wk (rl inr x1.len))⟩
    · rw [evV] at hk
      rcases Rv.bind_ex hk with hk | ⟨x, h1, hk⟩
      · obtain ⟨η1, e1, x1⟩ := o2 k hk
        exact ⟨η1, by rw [x_ife, bx (bx e1)], x1⟩
      · obtain ⟨d1, η1, e1, x1, q1, r1, _⟩ := o1 x h1
        rcases Rv.bind_ex hk with hk | ⟨t', h2, hk⟩
        · exact (truV_ex hk).elim
        · have e2 := bd (f := fun v => if v = true then evE c c' a ρ else evE c c' b ρ) (show ((evE c c' t ρ).bind truM) η = .ok t' η1 by rw [bd e1]; exact lk (truV_ok h2 r1))
          cases t' with
          | true =>
            rw [if_pos rfl] at hk
            obtain ⟨η2, e3, x2⟩ := (evV_ok hc a σ ρ η1 G r (h.ext x1)).2 k hk
            exact ⟨η2, by rw [x_ife]; exact e2.trans (by rw [if_pos rfl]; exact e3), x1.trans x2⟩
          | false =>
            rw [if_neg Bool.false_ne_true] at hk
            obtain ⟨η2, e3, x2⟩ := (evV_ok hc b σ ρ η1 G r (h.ext x1)).2 k hk
            exact ⟨η2, by rw [x_ife]; exact e2.trans (by rw [if_neg Bool.false_ne_true]; exact e3), x1.trans x2⟩
  | .idx a i, σ, ρ, η, G, r, h => by
    obtain ⟨o1, o2⟩ := evV_ok hc a σ ρ η G r h
    refine ⟨fun v hv => ?_, fun k hk => ?_⟩
    · rw [evV] at hv
      obtain ⟨x, h1, hv⟩ := Rv.bind_ok hv
      obtain ⟨d1, η1, e1, x1, _, r1, _⟩ := o1 x h1
      obtain ⟨p1, p2⟩ := evV_ok hc i σ ρ η1 G r (h.ext x1)
      obtain ⟨y, h2, hv⟩ := Rv.bind_ok hv
      obtain ⟨d2, η2, e2, x2, _, r2, _⟩ := p1 y h2
      have r2' : RdT (Gx G r (alE own σ a) η.length) η2 y d2 := by
        unfold idxV at hv
        split at hv
        case h_5 =>
          split at hv
          · rename_i c
            have hk : keyOk y = true := by unfold okKeyV at c; rw [Bool.and_eq_true] at c; exact c.1
            have hn := keyOk_nrf hk
            have e : d2 = y := Rd.nrf (F := Gx G r (alE own σ i) η1.length) (η := η2) y d2 hn (by cases y <;> first | exact r2 | cases hk)
            subst e
            exact (Rd.self _ hn).t
          · cases hv
        case h_6 => cases hv
        all_goals exact (show d2 = _ from r2)
      obtain ⟨d, h3, r3⟩ := idxV_ok hv (r1.ext x2) r2'
      exact ⟨d, η2, by rw [x_idx, bd e1, bd e2]; exact lk h3, x1.trans x2, .rd (L := alE own σ a) rfl rfl (frs_no rfl (fun _ _ z => nomatch z)) r3⟩
    · rw [evV] at hk
      rcases Rv.bind_ex hk with hk | ⟨x, h1, hk⟩
      · obtain ⟨η1, e1, x1⟩ := o2 k hk
        exact ⟨η1, by rw [x_idx, bx e1], x1⟩
      · obtain ⟨d1, η1, e1, x1, _⟩ := o1 x h1
        obtain ⟨p1, p2⟩ := evV_ok hc i σ ρ η1 G r (h.ext x1)
        rcases Rv.bind_ex hk with hk | ⟨y, h2, hk⟩
        · obtain ⟨η2, e2, x2⟩ := p2 k hk
          exact ⟨η2, by rw [x_idx, bd e1, bx e2], x1.trans x2⟩
        · exact (idxV_ex hk).elim
  | .slc a lo hi, σ, ρ, η, G, r, h => by
    obtain ⟨o1, o2⟩ := evV_ok hc a σ ρ η G r h
    refine ⟨fun v hv => ?_, fun k hk => ?_⟩
    · rw [evV] at hv
      obtain ⟨x, h1, hv⟩ := Rv.bind_ok hv
      obtain ⟨d1, η1, e1, x1, _, r1, _⟩ := o1 x h1
      obtain ⟨p1, p2⟩ := evVo_ok hc lo σ ρ η1 G r (h.ext x1)
      obtain ⟨l, h2, hv⟩ := Rv.bind_ok hv
      obtain ⟨η2, e2, x2⟩ := p1 l h2
      obtain ⟨q1, q2⟩ := evVo_ok hc hi σ ρ η2 G r ((h.ext x1).ext x2)
      obtain ⟨u, h3, hv⟩ := Rv.bind_ok hv
      obtain ⟨η3, e3, x3⟩ := q1 u h3
      obtain ⟨d, η', e4, x4, nw⟩ := slcV_ok hv ((r1.ext x2).ext x3)
      exact ⟨d, η', by rw [x_slc, bd e1, bd e2, bd e3]; exact e4, ((x1.trans x2).trans x3).trans x4, .nw (L := alE own σ a) rfl rfl ((x1.trans x2).trans x3) x4 (fun _ => rfl) nw⟩
    · rw [evV] at hk
      rcases Rv.bind_ex hk with hk | ⟨x, h1, hk⟩
      · obtain ⟨η1, e1, x1⟩ := o2 k hk
        exact ⟨η1, by rw [x_slc, bx e1], x1⟩
      · obtain ⟨d1, η1, e1, x1, _⟩ := o1 x h1
        obtain ⟨p1, p2⟩ := evVo_ok hc lo σ ρ η1 G r (h.ext x1)
        rcases Rv.bind_ex hk with hk | ⟨l, h2, hk⟩
        · obtain ⟨η2, e2, x2⟩ := p2 k hk
          exact ⟨η2, by rw [x_slc, bd e1, bx e2], x1.trans x2⟩
        · obtain ⟨η2, e2, x2⟩ := p1 l h2
          obtain ⟨q1, q2⟩ := evVo_ok hc hi σ ρ η2 G r ((h.ext x1).ext x2)
          rcases Rv.bind_ex hk with hk | ⟨u, h3, hk⟩
          · obtain ⟨η3, e3, x3⟩ := q2 k hk
            exact ⟨η3, by rw [x_slc, bd e1, bd e2, bx e3], (x1.trans x2).trans x3⟩
          · exact (slcV_ex hk).elim
  | .call f es, σ, ρ, η, G, r, h => by
    obtain ⟨o1, o2⟩ := evVs_ok hc es σ ρ η G r h
    refine ⟨fun v hv => ?_, fun k hk => ?_⟩
    · rw [evV] at hv
      obtain ⟨vs, h1, hv⟩ := Rv.bind_ok hv
      obtain ⟨ds, η1, e1, x1, r1, _⟩ := o1 vs h1
      obtain ⟨d, η', e2, x2, ro⟩ := (hc f vs ds η1 _ r1).1 v hv
      refine ⟨d, η', by rw [x_call, bd e1]; exact e2, x1.trans x2, ?_⟩
      have hE : alE own σ (.call f es) = alA own σ (.call f es) := rfl
      have hL : ∀ a, (own f = 2 → False) → Gx G r (alAs own σ es) η.length a → Gx G r (alA own σ (.call f es)) η.length a := fun a z q => by
        have : alA own σ (.call f es) = alAs own σ es := by rw [alA, if_neg z]
        rw [this]; exact q
      have key : Rd (Gx G r (alA own σ (.call f es)) η.length) η' v d ∧ (own f ≠ 0 → ∃ R : List Nat, R.Nodup ∧ (∀ a ∈ R, η.length ≤ a) ∧ RdC (fun a => Gx G r (alA own σ (.call f es)) η.length a ∧ a ∉ R) η' R v d) := by
        unfold RdO at ro
        split at ro
        · rename_i z
          exact ⟨ro.wk fun a _ q => by
            rcases q with q | q
            · exact hL a (by omega) q
            · exact .inr (.inr (Nat.le_trans x1.len q)), fun y => absurd z y⟩
        · rename_i z
          obtain ⟨R, n1, n2, n3⟩ := ro
          refine ⟨n3.rd.wk fun a _ q => ?_, fun _ => ⟨R, n1, fun a ha => Nat.le_trans x1.len (n2 a ha), n3.wk fun a _ q => ⟨?_, q.2⟩⟩⟩
          · rcases q with ⟨q | q, _⟩ | q
            · exact hL a (by omega) q
            · exact .inr (.inr (Nat.le_trans x1.len q))
            · exact .inr (.inr (Nat.le_trans x1.len (n2 a q)))
          · rcases q.1 with q | q
            · exact hL a (by omega) q
            · exact .inr (.inr (Nat.le_trans x1.len q))
        · obtain ⟨R, n1, n2, n3⟩ := ro
          refine ⟨n3.rd.wk fun a _ q => ?_, fun _ => ⟨R, n1, fun a ha => Nat.le_trans x1.len (n2 a ha), n3.wk fun a _ q => ⟨.inr (.inr (Nat.le_trans x1.len q.1)), q.2⟩⟩⟩
          rcases q with ⟨q, _⟩ | q
          · exact .inr (.inr (Nat.le_trans x1.len q))
          · exact .inr (.inr (Nat.le_trans x1.len (n2 a q)))
      refine ⟨key.1, by rw [hE]; exact key.1.t, fun z => key.2 fun y => ?_⟩
      have : frs own (.call f es) v = false := by
        have y' : (own f != 0) = false := by simp [y]
        cases v <;> first | rfl | exact y'
      rw [this] at z; cases z
    · rw [evV] at hk
      rcases Rv.bind_ex hk with hk | ⟨vs, h1, hk⟩
      · obtain ⟨η1, e1, x1⟩ := o2 k hk
        exact ⟨η1, by rw [x_call, bx e1], x1⟩
      · obtain ⟨ds, η1, e1, x1, r1, _⟩ := o1 vs h1
        obtain ⟨η2, e2, x2⟩ := (hc f vs ds η1 _ r1).2 k hk
        exact ⟨η2, by rw [x_call, bd e1]; exact e2, x1.trans x2⟩
  | .blt f es, σ, ρ, η, G, r, h => by
    obtain ⟨o1, o2⟩ := evVs_ok hc es σ ρ η G r h
    refine ⟨fun v hv => ?_, fun k hk => ?_⟩
    · rw [evV] at hv
      obtain ⟨vs, h1, hv⟩ := Rv.bind_ok hv
      obtain ⟨ds, η1, e1, x1, _, r1, _⟩ := o1 vs h1
      obtain ⟨d, η', e2, x2, nw⟩ := bltV_ok hv r1
      exact ⟨d, η', by rw [x_blt, bd e1]; exact e2, x1.trans x2, .nw (L := alEs own σ es) rfl rfl x1 x2 (fun _ => rfl) nw⟩
    · rw [evV] at hk
      rcases Rv.bind_ex hk with hk | ⟨vs, h1, hk⟩
      · obtain ⟨η1, e1, x1⟩ := o2 k hk
        exact ⟨η1, by rw [x_blt, bx e1], x1⟩
      · exact (bltV_ex hk).elim
  | .mth m o es, σ, ρ, η, G, r, h => by
    obtain ⟨o1, o2⟩ := evV_ok hc o σ ρ η G r h
    refine ⟨fun v hv => ?_, fun k hk => ?_⟩
    · rw [evV] at hv
      obtain ⟨x, h1, hv⟩ := Rv.bind_ok hv
      obtain ⟨d1, η1, e1, x1, _, r1, _⟩ := o1 x h1
      obtain ⟨⟨⟩, h0, hv⟩ := Rv.bind_ok hv
      have k1 : kndH m d1 η1 = some () := kndV_ok h0 r1
      obtain ⟨p1, p2⟩ := evVs_ok hc es σ ρ η1 G r (h.ext x1)
      obtain ⟨vs, h2, hv⟩ := Rv.bind_ok hv
      obtain ⟨ds, η2, e2, x2, r2, _⟩ := p1 vs h2
      obtain ⟨k2, d, η', e3, x3, r3⟩ := mthV_ok (F := Gx G r (alE own σ o ++ alAs own σ es) η.length) hv ((r1.ext x2).wk (rl inl (Nat.le_refl _))) (r2.wk (rl inr x1.len))
      exact ⟨d, η', by rw [x_mth, bd e1, bd (lk k1), bd e2]; exact e3, (x1.trans x2).trans x3, .rd (L := alE own σ o ++ alAs own σ es) rfl rfl (frs_no rfl (fun _ _ z => nomatch z)) r3⟩
    · rw [evV] at hk
      rcases Rv.bind_ex hk with hk | ⟨x, h1, hk⟩
      · obtain ⟨η1, e1, x1⟩ := o2 k hk
        exact ⟨η1, by rw [x_mth, bx e1], x1⟩
      · obtain ⟨d1, η1, e1, x1, _, r1, _⟩ := o1 x h1
        rcases Rv.bind_ex hk with hk | ⟨⟨⟩, h0, hk⟩
        · exact (kndV_ex hk).elim
        have k1 : kndH m d1 η1 = some () := kndV_ok h0 r1
        obtain ⟨p1, p2⟩ := evVs_ok hc es σ ρ η1 G r (h.ext x1)
        rcases Rv.bind_ex hk with hk | ⟨vs, h2, hk⟩
        · obtain ⟨η2, e2, x2⟩ := p2 k hk
          exact ⟨η2, by rw [x_mth, bd e1, bd (lk k1), bx e2], x1.trans x2⟩
        · exact (mthV_ex hk).elim
  | .isi e t, σ, ρ, η, G, r, h => by
    obtain ⟨o1, o2⟩ := evV_ok hc e σ ρ η G r h
    refine ⟨fun v hv => ?_, fun k hk => ?_⟩
    · rw [evV] at hv
      obtain ⟨x, h1, hv⟩ := Rv.bind_ok hv
      obtain ⟨d1, η1, e1, x1, _, r1, _⟩ := o1 x h1
      obtain ⟨b, h2, hv⟩ := Rv.bind_ok hv
      cases hv
      exact ⟨_, η1, by rw [x_isi, bd e1]; exact lk (by rw [tyV_ok (ofV_ok h2) r1]; rfl), x1, .flat rfl fun _ => rfl⟩
    · rw [evV] at hk
      rcases Rv.bind_ex hk with hk | ⟨x, h1, hk⟩
      · obtain ⟨η1, e1, x1⟩ := o2 k hk
        exact ⟨η1, by rw [x_isi, bx e1], x1⟩
      · rcases Rv.bind_ex hk with hk | ⟨_, _, hk⟩
        · exact (ofV_ex hk).elim
        · cases hk
  | .ise e j, σ, ρ, η, G, r, h => by
    obtain ⟨o1, o2⟩ := evV_ok hc e σ ρ η G r h
    refine ⟨fun v hv => ?_, fun k hk => ?_⟩
    · rw [evV] at hv
      obtain ⟨x, h1, hv⟩ := Rv.bind_ok hv
      obtain ⟨d1, η1, e1, x1, _, r1, _⟩ := o1 x h1
      split at hv
      · cases hv; cases r1
        exact ⟨_, η1, bd e1, x1, .flat rfl fun _ => rfl⟩
      · cases hv
    · rw [evV] at hk
      rcases Rv.bind_ex hk with hk | ⟨x, h1, hk⟩
      · obtain ⟨η1, e1, x1⟩ := o2 k hk
        exact ⟨η1, bx e1, x1⟩
      · split at hk <;> cases hk
  | .lc tg it cond elt, σ, ρ, η, G, r, h => by
    obtain ⟨o1, o2⟩ := evVi_ok hc it σ ρ η G r h
    refine ⟨fun v hv => ?_, fun k hk => ?_⟩
    · rw [evV] at hv
      obtain ⟨xs, h1, hv⟩ := Rv.bind_ok hv
      obtain ⟨nx, η1, e1, x1, hl, nr⟩ := o1 xs h1
      obtain ⟨ys, h2, hv⟩ := Rv.bind_ok hv
      cases hv
      have hn := wfu_ge
      obtain ⟨ds, η2, e2, x2, r2⟩ := lc_ok (G' := Gx G r (alI own σ it) η.length) (Q := Gx G r (alI own σ it ++ alA own σ elt) η.length) nr (fun _ q => q) ((h.ext x1).wk fun _ _ q => .inl q)
        (fun σ1 ρ1 η3 x3 h3 => evVc_ok hc cond σ1 ρ1 η3 _ r h3)
        (fun σ1 ρ1 η3 sb x3 h3 v hv => by
          obtain ⟨d, η4, e4, x4, r4, _⟩ := (evV_ok hc elt σ1 ρ1 η3 _ r h3).1 v hv
          refine ⟨d, η4, e4, x4, r4.wk fun a _ q => ?_⟩
          rcases q with q | ⟨i, q1, q2⟩ | q
          · exact Gx.mono inl (Nat.le_refl _) a q
          · exact .inr (.inl ⟨i, List.mem_append.mpr (.inr (alA_sub sb elt i q1)), q2⟩)
          · exact .inr (.inr (Nat.le_trans (x1.trans x3).len q)))
        WFu 0 [] η1 xs ys rfl h2 (by omega) (by simpa using hl) Ext.refl
      exact ⟨.ref η2.length, η2 ++ [.lst ds], by rw [x_lc, bd e1, bd e2]; rfl, (x1.trans x2).trans Ext.app, .nw (L := alI own σ it ++ alA own σ elt) (η1 := η2) rfl rfl (x1.trans x2) Ext.app (fun _ => rfl) ⟨_, ds, rfl, Nat.le_refl _, at_new, r2⟩⟩
    · rw [evV] at hk
      rcases Rv.bind_ex hk with hk | ⟨x, h1, hk⟩
      · obtain ⟨η1, e1, x1⟩ := o2 k hk
        exact ⟨η1, by rw [x_lc, bx e1], x1⟩
      · rcases Rv.bind_ex hk with hk | ⟨_, _, hk⟩
        · exact (lcV_ex _ hk).elim
        · cases hk
  | .mdef mx e d0, σ, ρ, η, G, r, h => by
    obtain ⟨o1, o2⟩ := evV_ok hc e σ ρ η G r h
    refine ⟨fun v hv => ?_, fun k hk => ?_⟩
    · rw [evV] at hv
      obtain ⟨x, h1, hv⟩ := Rv.bind_ok hv
      obtain ⟨d1, η1, e1, x1, _, r1, _⟩ := o1 x h1
      obtain ⟨p1, p2⟩ := evV_ok hc d0 σ ρ η1 G r (h.ext x1)
      obtain ⟨w, h2, hv⟩ := Rv.bind_ok hv
      obtain ⟨d2, η2, e2, x2, _, r2, _⟩ := p1 w h2
      obtain ⟨xs, h3, hv⟩ := Rv.bind_ok hv
      obtain ⟨ns, h4, hv⟩ := Rv.bind_ok hv
      obtain ⟨es, g1, g2⟩ := getV_ok (ofV_ok h3) (r1.ext x2)
      have g3 := ints_rd (ofV_ok h4) g2
      have e3 : evE c c' (.mdef mx e d0) ρ η = (lookM fun h => (getL h d1).bind fun xs => (intsOf xs).map fun | [] => d2 | i :: r => D.int (if mx = true then maxI i r else minI i r)) η2 := by
        show ((evE c c' e ρ).bind fun v => (evE c c' d0 ρ).bind fun w => lookM fun h => (getL h v).bind fun xs => (intsOf xs).map fun | [] => w | i :: r => D.int (if mx = true then maxI i r else minI i r)) η = _
        rw [bd e1, bd e2]
      cases ns with
      | nil =>
        obtain ⟨i, h5, hv⟩ := Rv.bind_ok hv
        cases w <;> first | (cases h5; done) | skip
        cases h5; cases hv; cases r2
        exact ⟨_, η2, e3.trans (lk (by rw [g1, Option.bind_some, g3, Option.map_some])), x1.trans x2, .flat rfl fun _ => rfl⟩
      | cons i ns =>
        cases hv
        exact ⟨_, η2, e3.trans (lk (by rw [g1, Option.bind_some, g3, Option.map_some])), x1.trans x2, .flat rfl fun _ => rfl⟩
    · rw [evV] at hk
      rcases Rv.bind_ex hk with hk | ⟨x, h1, hk⟩
      · obtain ⟨η1, e1, x1⟩ := o2 k hk
        exact ⟨η1, bx e1, x1⟩
      · obtain ⟨d1, η1, e1, x1, _⟩ := o1 x h1
        obtain ⟨p1, p2⟩ := evV_ok hc d0 σ ρ η1 G r (h.ext x1)
        rcases Rv.bind_ex hk with hk | ⟨y, h2, hk⟩
        · obtain ⟨η2, e2, x2⟩ := p2 k hk
          exact ⟨η2, (bd e1).trans (bx e2), x1.trans x2⟩
        · rcases Rv.bind_ex hk with hk | ⟨_, _, hk⟩
          · exact (ofV_ex hk).elim
          · rcases Rv.bind_ex hk with hk | ⟨ns, _, hk⟩
            · exact (ofV_ex hk).elim
            · cases ns with
              | nil =>
                rcases Rv.bind_ex hk with hk | ⟨_, _, hk⟩
                · cases y <;> cases hk
                · cases hk
              | cons => cases hk
  | .sset e, σ, ρ, η, G, r, h => by
    obtain ⟨o1, o2⟩ := evV_ok hc e σ ρ η G r h
    refine ⟨fun v hv => ?_, fun k hk => ?_⟩
    · rw [evV] at hv
      obtain ⟨x, h1, hv⟩ := Rv.bind_ok hv
      obtain ⟨d1, η1, e1, x1, _, r1, _⟩ := o1 x h1
      obtain ⟨d, η', e2, x2, nw⟩ := ssetV_ok hv r1
      exact ⟨d, η', by show ((evE c c' e ρ).bind fun v => (bltM .set [v]).bind fun s => bltM .sorted [s]) η = _; rw [bd e1]; exact e2, x1.trans x2, .nw (L := []) rfl rfl x1 x2 (fun _ => rfl) (nw _)⟩
    · rw [evV] at hk
      rcases Rv.bind_ex hk with hk | ⟨x, h1, hk⟩
      · obtain ⟨η1, e1, x1⟩ := o2 k hk
        exact ⟨η1, bx e1, x1⟩
      · exact (ofV_ex hk).elim
  | .lrng es, σ, ρ, η, G, r, h => by
    obtain ⟨o1, o2⟩ := evVs_ok hc es σ ρ η G r h
    refine ⟨fun v hv => ?_, fun k hk => ?_⟩
    · rw [evV] at hv
      obtain ⟨xs, h1, hv⟩ := Rv.bind_ok hv
      obtain ⟨ds, η1, e1, x1, q1, _⟩ := o1 xs h1
      have key : ∀ i j : Int, lrngM ds η1 = allocM (.lst (rngD i j)) η1 → v = .sq (rngD i j) → ∃ d η', evE c c' (.lrng es) ρ η = .ok d η' ∧ Ext η η' ∧ Vl own G r σ η (.lrng es) η' v d := fun i j hl hvv => by
        subst hvv
        refine ⟨.ref η1.length, η1 ++ [.lst (rngD i j)], ?_, x1.trans Ext.app, ?_⟩
        · show ((evEs c c' es ρ).bind lrngM) η = _
          rw [bd e1, hl]; rfl
        · exact .nw (L := []) rfl rfl x1 Ext.app (fun _ => rfl) ⟨η1.length, rngD i j, rfl, Nat.le_refl _, at_new, Rds.self _ (rngD_nrf i j)⟩
      rcases lrngV_inv hv with ⟨j, rfl, c0, rfl⟩ | ⟨i, j, rfl, c0, rfl⟩
      · obtain ⟨d, t, rfl, z1, z2⟩ := q1
        cases z1
        cases (show t = [] from z2)
        exact key 0 j (by simp only [lrngM, c0, if_true]) rfl
      · obtain ⟨d, t, rfl, z1, d2, t2, rfl, z2, z3⟩ := q1
        cases z1
        cases z2
        cases (show t2 = [] from z3)
        exact key i j (by simp only [lrngM, c0, if_true]) rfl
    · rw [evV] at hk
      rcases Rv.bind_ex hk with hk | ⟨x, h1, hk⟩
      · obtain ⟨η1, e1, x1⟩ := o2 k hk
        exact ⟨η1, by show ((evEs c c' es ρ).bind lrngM) η = _; rw [bx e1], x1⟩
      · unfold lrngV at hk
        split at hk <;> first | cases hk | (split at hk <;> cases hk)
  | .lset e, σ, ρ, η, G, r, h => by
    obtain ⟨o1, o2⟩ := evV_ok hc e σ ρ η G r h
    refine ⟨fun v hv => ?_, fun k hk => ?_⟩
    · rw [evV] at hv
      obtain ⟨x, h1, hv⟩ := Rv.bind_ok hv
      obtain ⟨d1, η1, e1, x1, _, r1, _⟩ := o1 x h1
      cases q : seqV x with
      | none => rw [q] at hv; exact absurd (ofV_ok hv) (by simp)
      | some xs =>
        rw [q] at hv
        obtain ⟨ds, g1, g2⟩ := seqV_ok q r1
        have hv' := ofV_ok hv
        have hn : D.nrfs xs = true ∧ ∃ n : Int, v = .int n := by
          simp only [Option.bind_some, lsetD] at hv'
          split at hv'
          · rename_i c0
            refine ⟨?_, _, (Option.some.inj hv').symm⟩
            exact (Bool.or_eq_true _ _ ▸ c0.1).elim allStr_nrf allInt_nrf
          · cases hv'
        obtain ⟨hn, n, rfl⟩ := hn
        have := Rds.nrf xs ds hn g2
        subst this
        exact ⟨.int n, η1, by show ((evE c c' e ρ).bind fun v => lookM fun h => (seqH v h).bind lsetD) η = _; rw [bd e1]; exact lk (by rw [g1]; exact hv'), x1, .flat rfl fun _ => rfl⟩
    · rw [evV] at hk
      rcases Rv.bind_ex hk with hk | ⟨x, h1, hk⟩
      · obtain ⟨η1, e1, x1⟩ := o2 k hk
        exact ⟨η1, bx e1, x1⟩
      · exact (ofV_ex hk).elim
  | .own _ _ _, σ, ρ, η, G, r, h => ⟨fun v hv => (nomatch (show (Rv.bad : Rv D) = .ok v from hv)), fun k hk => (nomatch (show (Rv.bad : Rv D) = .ex k from hk))⟩
  | .new _ _, σ, ρ, η, G, r, h => ⟨fun v hv => (nomatch (show (Rv.bad : Rv D) = .ok v from hv)), fun k hk => (nomatch (show (Rv.bad : Rv D) = .ex k from hk))⟩
  | .fld _ _, σ, ρ, η, G, r, h => ⟨fun v hv => (nomatch (show (Rv.bad : Rv D) = .ok v from hv)), fun k hk => (nomatch (show (Rv.bad : Rv D) = .ex k from hk))⟩
  | .skey _ _, σ, ρ, η, G, r, h => ⟨fun v hv => (nomatch (show (Rv.bad : Rv D) = .ok v from hv)), fun k hk => (nomatch (show (Rv.bad : Rv D) = .ex k from hk))⟩
  | .mkey _ _ _, σ, ρ, η, G, r, h => ⟨fun v hv => (nomatch (show (Rv.bad : Rv D) = .ok v from hv)), fun k hk => (nomatch (show (Rv.bad : Rv D) = .ex k from hk))⟩
theorem evVs_ok (hc : SndC c cv own) : ∀ (es : List ME) (σ : Sg) (ρ : Rho) (η : Hv) (G : Nat → Prop) (r : Nat → List Nat), ERel G r σ ρ η → LOut own G r σ η es (evEs c c' es ρ) (evVs cv es σ)
  | [], σ, ρ, η, G, r, h => ⟨fun vs hv => by rw [evVs] at hv; cases hv; exact ⟨[], η, rfl, Ext.refl, rfl, rfl, rfl⟩, fun k hk => by rw [evVs] at hk; cases hk⟩
  | e :: es, σ, ρ, η, G, r, h => by
    obtain ⟨o1, o2⟩ := evV_ok hc e σ ρ η G r h
    refine ⟨fun vs hv => ?_, fun k hk => ?_⟩
    · rw [evVs] at hv
      obtain ⟨x, h1, hv⟩ := Rv.bind_ok hv
      obtain ⟨d1, η1, e1, x1, q1, r1, _⟩ := o1 x h1
      obtain ⟨p1, p2⟩ := evVs_ok hc es σ ρ η1 G r (h.ext x1)
      obtain ⟨ws, h2, hv⟩ := Rv.bind_ok hv
      obtain ⟨ds, η2, e2, x2, q2, r2, u2⟩ := p1 ws h2
      cases hv
      refine ⟨d1 :: ds, η2, by rw [x_cons, bd e1, bd e2]; rfl, x1.trans x2, ⟨d1, ds, rfl, (q1.ext x2).wk (rl inl (Nat.le_refl _)), q2.wk (rl inr x1.len)⟩, ⟨d1, ds, rfl, (r1.ext x2).wk (rl inl (Nat.le_refl _)), r2.wk (rl inr x1.len)⟩, ⟨d1, ds, rfl, ?_, u2.wk (rl inr x1.len)⟩⟩
      cases ih : isH x with
      | true => exact (q1.ext x2).wk (rl (fun i z => List.mem_append.mpr (.inl (by rw [if_pos ih]; exact z))) (Nat.le_refl _))
      | false => exact flat_any ih (q1.ext x2)
    · rw [evVs] at hk
      rcases Rv.bind_ex hk with hk | ⟨x, h1, hk⟩
      · obtain ⟨η1, e1, x1⟩ := o2 k hk
        exact ⟨η1, by rw [x_cons, bx e1], x1⟩
      · obtain ⟨d1, η1, e1, x1, _⟩ := o1 x h1
        obtain ⟨p1, p2⟩ := evVs_ok hc es σ ρ η1 G r (h.ext x1)
        rcases Rv.bind_ex hk with hk | ⟨y, h2, hk⟩
        · obtain ⟨η2, e2, x2⟩ := p2 k hk
          exact ⟨η2, by rw [x_cons, bd e1, bx e2], x1.trans x2⟩
        · cases hk
theorem evVo_ok (hc : SndC c cv own) : ∀ (o : Option ME) (σ : Sg) (ρ : Rho) (η : Hv) (G : Nat → Prop) (r : Nat → List Nat), ERel G r σ ρ η → OOut η (evO c c' o ρ) (evVo cv o σ)
  | none, σ, ρ, η, G, r, h => ⟨fun o hv => by rw [evVo] at hv; cases hv; exact ⟨η, rfl, Ext.refl⟩, fun k hk => by rw [evVo] at hk; cases hk⟩
  | some e, σ, ρ, η, G, r, h => by
    obtain ⟨o1, o2⟩ := evV_ok hc e σ ρ η G r h
    refine ⟨fun vs hv => ?_, fun k hk => ?_⟩
    · rw [evVo] at hv
      obtain ⟨x, h1, hv⟩ := Rv.bind_ok hv
      obtain ⟨d1, η1, e1, x1, q1, r1, _⟩ := o1 x h1
      obtain ⟨i, h2, hv⟩ := Rv.bind_ok hv
      cases x <;> first | (cases h2; done) | skip
      cases h2; cases hv; cases r1
      exact ⟨η1, by rw [x_osome, bd e1]; rfl, x1⟩
    · rw [evVo] at hk
      rcases Rv.bind_ex hk with hk | ⟨x, h1, hk⟩
      · obtain ⟨η1, e1, x1⟩ := o2 k hk
        exact ⟨η1, by rw [x_osome, bx e1], x1⟩
      · rcases Rv.bind_ex hk with hk | ⟨_, _, hk⟩
        · cases x <;> cases hk
        · cases hk
theorem evVc_ok (hc : SndC c cv own) : ∀ (o : Option ME) (σ : Sg) (ρ : Rho) (η : Hv) (G : Nat → Prop) (r : Nat → List Nat), ERel G r σ ρ η → BOut η (evC c c' o ρ) (evVc cv o σ)
  | none, σ, ρ, η, G, r, h => ⟨fun o hv => by rw [evVc] at hv; cases hv; exact ⟨η, rfl, Ext.refl⟩, fun k hk => by rw [evVc] at hk; cases hk⟩
  | some e, σ, ρ, η, G, r, h => by
    obtain ⟨o1, o2⟩ := evV_ok hc e σ ρ η G r h
    refine ⟨fun vs hv => ?_, fun k hk => ?_⟩
    · rw [evVc] at hv
      obtain ⟨x, h1, hv⟩ := Rv.bind_ok hv
      obtain ⟨d1, η1, e1, x1, q1, r1, _⟩ := o1 x h1
      exact ⟨η1, by rw [x_csome, bd e1]; exact lk (truV_ok hv r1), x1⟩
    · rw [evVc] at hk
      rcases Rv.bind_ex hk with hk | ⟨x, h1, hk⟩
      · obtain ⟨η1, e1, x1⟩ := o2 k hk
        exact ⟨η1, by rw [x_csome, bx e1], x1⟩
      · exact (truV_ex hk).elim
theorem evVi_ok (hc : SndC c cv own) : ∀ (it : ITr) (σ : Sg) (ρ : Rho) (η : Hv) (G : Nat → Prop) (r : Nat → List Nat), ERel G r σ ρ η → IOut own G r σ η it (evI c c' it ρ) (evVi cv it σ)
  | .seq e, σ, ρ, η, G, r, h => by
    obtain ⟨o1, o2⟩ := evV_ok hc e σ ρ η G r h
    refine ⟨fun xs hv => ?_, fun k hk => ?_⟩
    · rw [evVi] at hv
      obtain ⟨x, h1, hv⟩ := Rv.bind_ok hv
      obtain ⟨d1, η1, e1, x1, q1, r1, _⟩ := o1 x h1
      unfold itmV at hv
      split at hv
      · obtain ⟨rfl, hl⟩ := small_ok hv
        obtain ⟨ds, rfl, r1'⟩ := r1.tup
        exact ⟨nxSeq (.tup ds), η1, by rw [x_seq, bd e1, bd (lk (a := ()) rfl)]; rfl, x1, hl, nxr_seq r1' fun _ _ _ => rfl⟩
      · obtain ⟨rfl, hl⟩ := small_ok hv
        obtain ⟨a, ds, rfl, h2, r1'⟩ := r1
        obtain ⟨a', ds', ea, hT, _⟩ := q1
        cases ea
        refine ⟨nxSeq (.ref a), η1, by rw [x_seq, bd e1, bd (lk (a := ()) (by simp only [seqK, getL, h2, Option.map_some]))]; rfl, x1, hl, nxr_seq r1' fun η' hk i => ?_⟩
        have := hk a _ (.inl hT) h2
        simp only [nxSeq, getL, this, Option.map_some]
      · cases hv
    · rw [evVi] at hk
      rcases Rv.bind_ex hk with hk | ⟨x, h1, hk⟩
      · obtain ⟨η1, e1, x1⟩ := o2 k hk
        exact ⟨η1, by rw [x_seq, bx e1], x1⟩
      · unfold itmV at hk; split at hk <;> first | cases hk | (unfold small at hk; split at hk <;> cases hk)
  | .rng e, σ, ρ, η, G, r, h => by
    obtain ⟨o1, o2⟩ := evV_ok hc e σ ρ η G r h
    refine ⟨fun xs hv => ?_, fun k hk => ?_⟩
    · rw [evVi] at hv
      obtain ⟨x, h1, hv⟩ := Rv.bind_ok hv
      obtain ⟨d1, η1, e1, x1, q1, r1, _⟩ := o1 x h1
      obtain ⟨i, h2, hw⟩ := Rv.bind_ok hv
      cases x <;> first | (cases h2; done) | skip
      cases h2; cases r1
      simp only [rngB, rngB2] at hw
      split at hw
      · rename_i c0
        cases hw
        refine ⟨nxRng 0 i, η1, ?_, x1, by rw [rngV_len]; omega, nxr_rng⟩
        rw [x_rng, bd e1]
        show (if rngOk i = true then Mo.pure (nxRng 0 i) else badM) η1 = _
        rw [rng_ok (by omega) (by omega), if_pos rfl]
        rfl
      · cases hw
    · rw [evVi] at hk
      rcases Rv.bind_ex hk with hk | ⟨x, h1, hk⟩
      · obtain ⟨η1, e1, x1⟩ := o2 k hk
        exact ⟨η1, by rw [x_rng, bx e1], x1⟩
      · rcases Rv.bind_ex hk with hk | ⟨_, _, hk⟩
        · cases x <;> cases hk
        · unfold rngB at hk; split at hk <;> cases hk
  | .rng2 a b, σ, ρ, η, G, r, h => by
    obtain ⟨o1, o2⟩ := evV_ok hc a σ ρ η G r h
    refine ⟨fun xs hv => ?_, fun k hk => ?_⟩
    · rw [evVi] at hv
      obtain ⟨x, h1, hv⟩ := Rv.bind_ok hv
      obtain ⟨d1, η1, e1, x1, _, r1, _⟩ := o1 x h1
      obtain ⟨p1, p2⟩ := evV_ok hc b σ ρ η1 G r (h.ext x1)
      obtain ⟨y, h2, hv⟩ := Rv.bind_ok hv
      obtain ⟨d2, η2, e2, x2, _, r2, _⟩ := p1 y h2
      obtain ⟨i, h3, hu⟩ := Rv.bind_ok hv
      obtain ⟨j, h4, hw⟩ := Rv.bind_ok hu
      cases x <;> first | (cases h3; done) | skip
      cases y <;> first | (cases h4; done) | skip
      cases h3; cases h4; cases r1; cases r2
      simp only [rngB, rngB2] at hw
      split at hw
      · rename_i c0
        cases hw
        refine ⟨nxRng i j, η2, ?_, x1.trans x2, by rw [rngV_len]; omega, nxr_rng⟩
        rw [x_rng2, bd e1, bd e2]
        show (if (rngOk i && rngOk j) = true then Mo.pure (nxRng i j) else badM) η2 = _
        rw [rng_ok (by omega) (by omega), rng_ok (by omega) (by omega)]
        rfl
      · cases hw
    · rw [evVi] at hk
      rcases Rv.bind_ex hk with hk | ⟨x, h1, hk⟩
      · obtain ⟨η1, e1, x1⟩ := o2 k hk
        exact ⟨η1, by rw [x_rng2, bx e1], x1⟩
      · obtain ⟨d1, η1, e1, x1, _⟩ := o1 x h1
        obtain ⟨p1, p2⟩ := evV_ok hc b σ ρ η1 G r (h.ext x1)
        rcases Rv.bind_ex hk with hk | ⟨y, h2, hk⟩
        · obtain ⟨η2, e2, x2⟩ := p2 k hk
          exact ⟨η2, by rw [x_rng2, bd e1, bx e2], x1.trans x2⟩
        · rcases Rv.bind_ex hk with hk | ⟨_, _, hk⟩
          · cases x <;> cases hk
          · rcases Rv.bind_ex hk with hk | ⟨_, _, hk⟩
            · cases y <;> cases hk
            · unfold rngB2 at hk; split at hk <;> cases hk
  | .enm e, σ, ρ, η, G, r, h => by
    obtain ⟨o1, o2⟩ := evV_ok hc e σ ρ η G r h
    refine ⟨fun xs hv => ?_, fun k hk => ?_⟩
    · rw [evVi] at hv
      obtain ⟨x, h1, hv⟩ := Rv.bind_ok hv
      obtain ⟨d1, η1, e1, x1, q1, r1, _⟩ := o1 x h1
      unfold enmB at hv
      split at hv
      · obtain ⟨ys, h2, hw⟩ := Rv.bind_ok hv
        obtain ⟨rfl, hl⟩ := small_ok h2
        cases hw
        obtain ⟨a, ds, rfl, h2, r1'⟩ := r1
        obtain ⟨a', ds', ea, hT, _⟩ := q1
        cases ea
        exact ⟨nxEnm (.ref a), η1, by rw [x_enm, bd e1, bd (lk (a := ds) (by simp only [getR, getL, h2]))]; rfl, x1, by unfold enmV; rw [List.length_zipWith]; omega, nxr_enm hT h2 r1'⟩
      · cases hv
    · rw [evVi] at hk
      rcases Rv.bind_ex hk with hk | ⟨x, h1, hk⟩
      · obtain ⟨η1, e1, x1⟩ := o2 k hk
        exact ⟨η1, by rw [x_enm, bx e1], x1⟩
      · unfold enmB at hk
        split at hk
        · rcases Rv.bind_ex hk with hk | ⟨_, _, hk⟩
          · unfold small at hk; split at hk <;> cases hk
          · cases hk
        · cases hk
  | .zip a b, σ, ρ, η, G, r, h => by
    obtain ⟨o1, o2⟩ := evV_ok hc a σ ρ η G r h
    refine ⟨fun xs hv => ?_, fun k hk => ?_⟩
    · rw [evVi] at hv
      obtain ⟨x, h1, hv⟩ := Rv.bind_ok hv
      obtain ⟨d1, η1, e1, x1, q1, r1, _⟩ := o1 x h1
      obtain ⟨p1, p2⟩ := evV_ok hc b σ ρ η1 G r (h.ext x1)
      obtain ⟨y, h2, hv⟩ := Rv.bind_ok hv
      obtain ⟨d2, η2, e2, x2, q2, r2, _⟩ := p1 y h2
      have r1' : RdT (Gx G r (alE own σ a ++ alE own σ b) η.length) η2 x d1 := (r1.ext x2).wk (rl inl (Nat.le_refl _))
      have r2' : RdT (Gx G r (alE own σ a ++ alE own σ b) η.length) η2 y d2 := r2.wk (rl inr x1.len)
      have q1' : Rd (Gx G r (alA own σ a ++ alA own σ b) η.length) η2 x d1 := (q1.ext x2).wk (rl inl (Nat.le_refl _))
      have q2' : Rd (Gx G r (alA own σ a ++ alA own σ b) η.length) η2 y d2 := q2.wk (rl inr x1.len)
      unfold zipB at hv
      split at hv
      · obtain ⟨ys, h3, hw⟩ := Rv.bind_ok hv
        obtain ⟨rfl, hl⟩ := small_ok h3
        cases hw
        obtain ⟨ds, rfl, s1⟩ := r1'.tup
        obtain ⟨es, rfl, s2⟩ := r2'.tup
        exact ⟨nxZip (.tup ds) (.tup es), η2, by rw [x_zip, bd e1, bd e2, bd (lk (a := ()) rfl)]; rfl, x1.trans x2, by unfold zipV; rw [List.length_zipWith]; omega, nxr_zip s1 s2 fun _ _ _ => rfl⟩
      · obtain ⟨ys, h3, hw⟩ := Rv.bind_ok hv
        obtain ⟨rfl, hl⟩ := small_ok h3
        cases hw
        obtain ⟨u, ds, rfl, g1, s1⟩ := r1'
        obtain ⟨w, es, rfl, g2, s2⟩ := r2'
        obtain ⟨_, _, ea, t1, _⟩ := q1'
        obtain ⟨_, _, eb, t2, _⟩ := q2'
        cases ea; cases eb
        refine ⟨nxZip (.ref u) (.ref w), η2, by rw [x_zip, bd e1, bd e2, bd (lk (a := ()) (by simp only [zipK, getL, g1, g2, Option.bind_some, Option.map_some]))]; rfl, x1.trans x2, by unfold zipV; rw [List.length_zipWith]; omega, nxr_zip s1 s2 fun η' hk i => ?_⟩
        have k1 := hk u _ (.inl t1) g1
        have k2 := hk w _ (.inl t2) g2
        simp only [nxZip, getL, k1, k2, Option.bind_some, Option.map_some]
      · cases hv
    · rw [evVi] at hk
      rcases Rv.bind_ex hk with hk | ⟨x, h1, hk⟩
      · obtain ⟨η1, e1, x1⟩ := o2 k hk
        exact ⟨η1, by rw [x_zip, bx e1], x1⟩
      · obtain ⟨d1, η1, e1, x1, _⟩ := o1 x h1
        obtain ⟨p1, p2⟩ := evV_ok hc b σ ρ η1 G r (h.ext x1)
        rcases Rv.bind_ex hk with hk | ⟨y, h2, hk⟩
        · obtain ⟨η2, e2, x2⟩ := p2 k hk
          exact ⟨η2, by rw [x_zip, bd e1, bx e2], x1.trans x2⟩
        · unfold zipB at hk
          split at hk
          · rcases Rv.bind_ex hk with hk | ⟨_, _, hk⟩
            · unfold small at hk; split at hk <;> cases hk
            · cases hk
          · rcases Rv.bind_ex hk with hk | ⟨_, _, hk⟩
            · unfold small at hk; split at hk <;> cases hk
            · cases hk
          · cases hk
end
end
end MI

set_option autoImplicit false
set_option linter.all false
set_option Elab.async false
set_option maxRecDepth 100000
set_option maxHeartbeats 1000000
/-! ViS7: the slots' order between statements. -/
namespace MI
/-- what a def's values may hold, beside what it owns -/
def Gd (A : Nat → Prop) (B : Nat) (r : Nat → List Nat) : Nat → Prop := fun a => (A a ∨ B ≤ a) ∧ ∀ i, a ∉ r i
structure SInv (A : Nat → Prop) (B : Nat) (σ : Sg) (ρ : Rho) (η : Hv) (r : Nat → List Nat) : Prop where
  er : ERel (Gd A B r) r σ ρ η
  dis : ∀ i j a, a ∈ r i → a ∈ r j → i = j
  nd : ∀ i, (r i).Nodup
  ge : ∀ i, ∀ a ∈ r i, B ≤ a
  ow : ∀ i, isOw σ i = false → r i = []
  le : B ≤ η.length
/-- what is not owned stands -/
def Fr (r : Nat → List Nat) (η η' : Hv) : Prop := (∀ a o, (∀ i, a ∉ r i) → η[a]? = some o → η'[a]? = some o) ∧ η.length ≤ η'.length
def Rn (r : Nat → List Nat) (η : Hv) (r' : Nat → List Nat) : Prop := ∀ i a, a ∈ r' i → (∃ j, a ∈ r j) ∨ η.length ≤ a
section
variable {A : Nat → Prop} {B : Nat} {σ σ' : Sg} {ρ : Rho} {η η' η1 η2 : Hv} {r r1 r2 : Nat → List Nat} {v d : D} {i : Nat}
theorem Fr.refl : Fr r η η := ⟨fun _ _ _ h => h, Nat.le_refl _⟩
theorem Rn.refl : Rn r η r := fun i a h => .inl ⟨i, h⟩
theorem Fr.of_ext (h : Ext η η') : Fr r η η' := ⟨fun a o _ e => h a o e, h.len⟩
theorem Fr.trans (h : Fr r η η1) (q : Rn r η r1) (h2 : Fr r1 η1 η2) : Fr r η η2 := ⟨fun a o n e => h2.1 a o (fun i z => by
  rcases q i a z with ⟨j, z⟩ | z
  · exact n j z
  · have := lt_of e; omega) (h.1 a o n e), Nat.le_trans h.2 h2.2⟩
theorem Rn.trans (h : Fr r η η1) (q : Rn r η r1) (q2 : Rn r1 η1 r2) : Rn r η r2 := fun i a z => by
  rcases q2 i a z with ⟨j, z⟩ | z
  · exact q j a z
  · exact .inr (Nat.le_trans h.2 z)
theorem Rn.len (q : Rn r η1 r1) (h : η.length ≤ η1.length) : Rn r η r1 := fun i a z => (q i a z).imp id fun z => Nat.le_trans h z
theorem Fr.pre (h : Ext η η1) (q : Fr r η1 η2) : Fr r η η2 := ⟨fun a o n e => q.1 a o n (h a o e), Nat.le_trans h.len q.2⟩
theorem isOw_of (h : σ[i]? = some (.ow v)) : isOw σ i = true := by unfold isOw; rw [h]
theorem ow_of (h : isOw σ i = true) : ∃ v, σ[i]? = some (.ow v) := by
  unfold isOw at h
  split at h
  · rename_i v e; exact ⟨v, e⟩
  · cases h
theorem SInv.ext (h : SInv A B σ ρ η r) (x : Ext η η') : SInv A B σ ρ η' r := ⟨h.er.ext x, h.dis, h.nd, h.ge, h.ow, Nat.le_trans h.le x.len⟩
theorem SInv.lt (h : SInv A B σ ρ η r) (i a : Nat) (q : a ∈ r i) : a < η.length := by
  cases e : isOw σ i with
  | false => rw [h.ow i e] at q; cases q
  | true =>
    obtain ⟨v, e⟩ := ow_of e
    obtain ⟨d, h1, h2⟩ := h.er.ow i v e
    exact h2.lt a q
/-- less is told of the slots -/
theorem SInv.weak {ρ' : Rho} (h : SInv A B σ ρ η r) (hl : ρ'.length = σ'.length) (q : ∀ i : Nat, (σ'[i]? = σ[i]? ∧ ρ'[i]? = ρ[i]?) ∨ σ'[i]? = some Sl.no ∨ ∃ v, σ[i]? = some (Sl.ow v) ∧ σ'[i]? = some (Sl.sh v) ∧ ρ'[i]? = ρ[i]?) :
    SInv A B σ' ρ' η (fun i => if isOw σ' i = true then r i else []) ∧ (∀ i, isOw σ' i = true → isOw σ i = true) := by
  have hs : ∀ i, isOw σ' i = true → isOw σ i = true ∧ σ'[i]? = σ[i]? ∧ ρ'[i]? = ρ[i]? := fun i e => by
    obtain ⟨v, e2⟩ := ow_of e
    rcases q i with ⟨q, q2⟩ | q | ⟨w, q1, q2, _⟩
    · rw [q] at e2; exact ⟨isOw_of e2, q, q2⟩
    · rw [q] at e2; cases e2
    · rw [q2] at e2; cases e2
  have sub : ∀ i a, a ∈ (if isOw σ' i = true then r i else []) → a ∈ r i := fun i a z => by
    split at z
    · exact z
    · cases z
  have gd : ∀ a, Gd A B r a → Gd A B (fun i => if isOw σ' i = true then r i else []) a := fun a z => ⟨z.1, fun i y => z.2 i (sub i a y)⟩
  refine ⟨⟨⟨hl, fun i v e => ?_, fun i v e => ?_⟩, fun i j a x y => h.dis i j a (sub i a x) (sub j a y), fun i => ?_, fun i a x => h.ge i a (sub i a x), fun i e => ?_, h.le⟩, fun i e => (hs i e).1⟩
  · rcases q i with ⟨q, q2⟩ | q | ⟨w, q1, q2, q3⟩
    · rw [q] at e
      obtain ⟨d, h1, h2⟩ := h.er.sh i v e
      exact ⟨d, by rw [q2]; exact h1, h2.wk fun a _ z => gd a z⟩
    · rw [q] at e; cases e
    · rw [q2] at e; cases e
      obtain ⟨d, h1, h2⟩ := h.er.ow i _ q1
      refine ⟨d, by rw [q3]; exact h1, h2.rd.wk fun a _ z => ?_⟩
      rcases z with z | z
      · exact gd a z
      · refine ⟨.inr (h.ge i a z), fun j y => ?_⟩
        have e := h.dis i j a z (sub j a y)
        subst e
        have : isOw σ' i = false := by unfold isOw; rw [q2]
        simp only [this, Bool.false_eq_true, if_false] at y
        cases y
  · have e2 := isOw_of e
    obtain ⟨_, q1, q2⟩ := hs i e2
    rw [q1] at e
    obtain ⟨d, h1, h2⟩ := h.er.ow i v e
    exact ⟨d, by rw [q2]; exact h1, by simp only [e2, if_true]; exact h2.wk fun a _ z => gd a z⟩
  · show List.Nodup (if isOw σ' i = true then r i else [])
    split
    · exact h.nd i
    · exact List.nodup_nil
  · simp only [e, Bool.false_eq_true, if_false]
theorem Rn.weak : Rn r η (fun i => if isOw σ' i = true then r i else []) := fun i a z => by
  simp only at z
  split at z
  · exact .inl ⟨i, z⟩
  · cases z
theorem shr1_at (j i : Nat) : (shr1 σ j)[i]? = σ[i]? ∨ ∃ v, σ[i]? = some (.ow v) ∧ (shr1 σ j)[i]? = some (.sh v) ∧ i = j := by
  unfold shr1
  split
  · rename_i v e
    by_cases q : i = j
    · subst q
      exact .inr ⟨v, e, List.getElem?_set_self (List.getElem?_eq_some_iff.mp e).1, rfl⟩
    · exact .inl (by rw [List.getElem?_set_ne (Ne.symm q)])
  · exact .inl rfl
theorem shr1_len (j : Nat) : (shr1 σ j).length = σ.length := by
  unfold shr1
  split
  · simp
  · rfl
theorem shr1_no (j : Nat) : isOw (shr1 σ j) j = false := by
  unfold shr1
  split
  · rename_i v e
    unfold isOw
    rw [List.getElem?_set_self (List.getElem?_eq_some_iff.mp e).1]
  · rename_i q
    cases e : isOw σ j with
    | false => rfl
    | true => obtain ⟨v, e⟩ := ow_of e; exact absurd e (q v)
theorem shr_at : ∀ (L : List Nat) (σ : Sg) (i : Nat), (shr L σ)[i]? = σ[i]? ∨ ∃ v, σ[i]? = some (.ow v) ∧ (shr L σ)[i]? = some (.sh v)
  | [], σ, i => .inl rfl
  | j :: L, σ, i => by
    show (shr L (shr1 σ j))[i]? = _ ∨ ∃ v, _ ∧ (shr L (shr1 σ j))[i]? = _
    rcases shr_at L (shr1 σ j) i with h | ⟨v, h1, h2⟩ <;> rcases shr1_at (σ := σ) j i with q | ⟨w, q1, q2, _⟩
    · exact .inl (h.trans q)
    · exact .inr ⟨w, q1, h.trans q2⟩
    · exact .inr ⟨v, q.symm.trans h1, h2⟩
    · rw [q2] at h1; cases h1
theorem shr_len : ∀ (L : List Nat) (σ : Sg), (shr L σ).length = σ.length
  | [], σ => rfl
  | j :: L, σ => by
    show (shr L (shr1 σ j)).length = _
    rw [shr_len L, shr1_len]
theorem shr_no : ∀ (L : List Nat) (σ : Sg) (i : Nat), i ∈ L → isOw (shr L σ) i = false
  | [], σ, i, h => by cases h
  | j :: L, σ, i, h => by
    show isOw (shr L (shr1 σ j)) i = false
    rcases List.mem_cons.mp h with rfl | h
    · have h0 := shr1_no (σ := σ) i
      cases e : isOw (shr L (shr1 σ i)) i with
      | false => rfl
      | true =>
        obtain ⟨v, e⟩ := ow_of e
        rcases shr_at L (shr1 σ i) i with q | ⟨w, q1, q2⟩
        · rw [q] at e; rw [isOw_of e] at h0; cases h0
        · rw [q2] at e; cases e
    · exact shr_no L _ i h
abbrev rEs (L : List Nat) (σ : Sg) (r : Nat → List Nat) : Nat → List Nat := fun i => if isOw (shr L σ) i = true then r i else []
/-- some slots become shared -/
theorem SInv.shr (h : SInv A B σ ρ η r) (L : List Nat) : SInv A B (MI.shr L σ) ρ η (rEs L σ r) :=
  (h.weak (σ' := MI.shr L σ) (by rw [shr_len]; exact h.er.len) fun i => (shr_at L σ i).elim (fun q => .inl ⟨q, rfl⟩) fun ⟨v, q1, q2⟩ => .inr (.inr ⟨v, q1, q2, rfl⟩)).1
theorem gx_gd (h : SInv A B σ ρ η r) {L : List Nat} {a : Nat} (q : Gx (Gd A B r) r L η.length a) : Gd A B (rEs L σ r) a := by
  have sub : ∀ i, a ∈ rEs L σ r i → a ∈ r i ∧ isOw (MI.shr L σ) i = true := fun i z => by
    unfold rEs at z
    split at z
    · exact ⟨z, by assumption⟩
    · cases z
  rcases q with q | ⟨i, hi, q⟩ | q
  · exact ⟨q.1, fun j z => q.2 j (sub j z).1⟩
  · refine ⟨.inr (h.ge i a q), fun j z => ?_⟩
    obtain ⟨z1, z2⟩ := sub j z
    have e := h.dis i j a q z1
    subst e
    rw [shr_no L σ i hi] at z2; cases z2
  · refine ⟨.inr (Nat.le_trans h.le q), fun j z => ?_⟩
    have := h.lt j a (sub j z).1
    omega
/-- a slot that is shared is set -/
theorem SInv.setSh (h : SInv A B σ ρ η r) (i : Nat) (q : Rd (Gd A B r) η v d) : ∃ r', SInv A B (σ.set i (.sh v)) (ρ.set i (some d)) η r' ∧ Rn r η r' := by
  have w := h.weak (σ' := σ.set i .no) (ρ' := ρ.set i none) (by simp [h.er.len]) fun j => by
    by_cases e : j = i
    · subst e
      by_cases hl : j < σ.length
      · exact .inr (.inl (List.getElem?_set_self hl))
      · exact .inl ⟨by rw [List.getElem?_eq_none (by simpa using hl), List.getElem?_eq_none (by simpa using hl)], by rw [List.getElem?_eq_none (by simpa [h.er.len] using hl), List.getElem?_eq_none (by simpa [h.er.len] using hl)]⟩
    · exact .inl ⟨List.getElem?_set_ne (Ne.symm e), List.getElem?_set_ne (Ne.symm e)⟩
  have gd : ∀ a, Gd A B r a → Gd A B (fun j => if isOw (σ.set i .no) j = true then r j else []) a := fun a z => ⟨z.1, fun j y => z.2 j (by
    simp only at y
    split at y
    · exact y
    · cases y)⟩
  refine ⟨_, ?_, Rn.weak (σ' := σ.set i .no)⟩
  have e1 := w.1.er.setSh i (q.wk fun a _ z => gd a z)
  rw [List.set_set, List.set_set] at e1
  refine ⟨e1, w.1.dis, w.1.nd, w.1.ge, fun j e => w.1.ow j ?_, w.1.le⟩
  by_cases hj : j = i
  · subst hj
    unfold isOw
    by_cases hl : j < σ.length
    · rw [List.getElem?_set_self hl]
    · rw [List.getElem?_eq_none (by simpa using hl)]
  · unfold isOw at e ⊢
    rw [List.getElem?_set_ne (Ne.symm hj)] at e ⊢
    exact e
theorem SInv.setNo (h : SInv A B σ ρ η r) (i : Nat) (o : Option D) : ∃ r', SInv A B (σ.set i .no) (ρ.set i o) η r' ∧ Rn r η r' :=
  ⟨_, (h.weak (σ' := σ.set i .no) (ρ' := ρ.set i o) (by simp [h.er.len]) fun j => by
    by_cases e : j = i
    · subst e
      by_cases hl : j < σ.length
      · exact .inr (.inl (List.getElem?_set_self hl))
      · exact .inl ⟨by rw [List.getElem?_eq_none (by simpa using hl), List.getElem?_eq_none (by simpa using hl)], by rw [List.getElem?_eq_none (by simpa [h.er.len] using hl), List.getElem?_eq_none (by simpa [h.er.len] using hl)]⟩
    · exact .inl ⟨List.getElem?_set_ne (Ne.symm e), List.getElem?_set_ne (Ne.symm e)⟩).1, Rn.weak⟩
/-- an owned thing is set: its roots are beyond what stood, or were another slot's that is told no more -/
theorem SInv.setOw (h : SInv A B σ ρ η r) (i : Nat) {R : List Nat} (x : Ext η η1) (hn : R.Nodup) (hR : ∀ a ∈ R, η.length ≤ a) (q : RdC (fun a => Gd A B r a ∧ a ∉ R) η1 R v d) : ∃ r', SInv A B (σ.set i (.ow v)) (ρ.set i (some d)) η1 r' ∧ Rn r η r' := by
  obtain ⟨r0, h0, n0⟩ := h.setNo i none
  have q0 : ∀ j a, a ∈ r0 j → a < η.length := fun j a z => h0.lt j a z
  have hr0 : ∀ a, Gd A B r a → a < η1.length → Gd A B r0 a := fun a z _ => ⟨z.1, fun j y => by
    rcases n0 j a y with ⟨k, y2⟩ | y2
    · exact z.2 k y2
    · have := q0 j a y; omega⟩
  have own0 : isOw (σ.set i .no) i = false := by
    unfold isOw
    by_cases hl : i < σ.length
    · rw [List.getElem?_set_self hl]
    · rw [List.getElem?_eq_none (by simpa using hl)]
  have ri : r0 i = [] := h0.ow i own0
  by_cases hl : i < σ.length
  rotate_left
  · have e1 : σ.set i (.ow v) = σ.set i .no := by rw [List.set_eq_of_length_le (by omega), List.set_eq_of_length_le (by omega)]
    have e2 : ρ.set i (some d) = ρ.set i none := by rw [List.set_eq_of_length_le (by rw [h.er.len]; omega), List.set_eq_of_length_le (by rw [h.er.len]; omega)]
    rw [e1, e2]
    exact ⟨r0, h0.ext x, n0⟩
  refine ⟨fun j => if j = i then R else r0 j, ⟨⟨by simp [h.er.len], fun j w e => ?_, fun j w e => ?_⟩, fun j k a y z => ?_, fun j => ?_, fun j a y => ?_, fun j e => ?_, Nat.le_trans h.le x.len⟩, fun j a y => ?_⟩
  · rcases set_lt e with ⟨_, e2, _⟩ | ⟨hj, e2⟩
    · cases e2
    · obtain ⟨d', h1, h2⟩ := h0.er.sh j w (by rw [List.getElem?_set_ne (Ne.symm hj)]; exact e2)
      rw [List.getElem?_set_ne (Ne.symm hj)] at h1 ⊢
      refine ⟨d', h1, (h2.wk fun a ha z => ?_).ext x⟩
      refine ⟨z.1, fun k y => ?_⟩
      try simp only at y
      split at y
      · have := hR a y; omega
      · exact z.2 k y
  · rcases set_lt e with ⟨e1, e2, _⟩ | ⟨hj, e2⟩
    · subst e1; cases e2
      refine ⟨d, List.getElem?_set_self (by rw [h.er.len]; exact hl), ?_⟩
      simp only [if_true]
      refine q.wk fun a ha z => ⟨z.1.1, fun k y => ?_⟩
      try simp only at y
      split at y
      · exact z.2 y
      · exact (hr0 a z.1 ha).2 k y
    · obtain ⟨d', h1, h2⟩ := h0.er.ow j w (by rw [List.getElem?_set_ne (Ne.symm hj)]; exact e2)
      rw [List.getElem?_set_ne (Ne.symm hj)] at h1 ⊢
      refine ⟨d', h1, ?_⟩
      simp only [if_neg hj]
      refine (h2.wk fun a ha z => ⟨z.1, fun k y => ?_⟩).ext x
      try simp only at y
      split at y
      · have := hR a y; omega
      · exact z.2 k y
  · try simp only at y z
    split at y <;> split at z
    · rename_i e1 e2; rw [e1, e2]
    · have := hR a y; have := q0 _ a z; omega
    · have := hR a z; have := q0 _ a y; omega
    · exact h0.dis j k a y z
  · show List.Nodup (if j = i then R else r0 j)
    split
    · exact hn
    · exact h0.nd j
  · try simp only at y
    split at y
    · exact Nat.le_trans h.le (hR a y)
    · exact h0.ge j a y
  · have hj : j ≠ i := fun z => by
      subst z
      unfold isOw at e
      rw [List.getElem?_set_self hl] at e
      cases e
    simp only [if_neg hj]
    refine h0.ow j ?_
    unfold isOw at e ⊢
    rw [List.getElem?_set_ne (Ne.symm hj)] at e ⊢
    exact e
  · try simp only at y
    split at y
    · exact .inr (hR a y)
    · exact n0 j a y
/-- an owned thing goes over to another slot -/
theorem SInv.move (h : SInv A B σ ρ η r) (i j : Nat) (e : σ[j]? = some (.ow v)) (hd : ρ[j]? = some (some d)) : ∃ r', SInv A B ((σ.set j .no).set i (.ow v)) (ρ.set i (some d)) η r' ∧ Rn r η r' := by
  obtain ⟨d0, g1, g2⟩ := h.er.ow j v e
  rw [hd] at g1
  cases g1
  have hjl : j < σ.length := (List.getElem?_eq_some_iff.mp e).1
  by_cases hl : i < σ.length
  rotate_left
  · have e1 : (σ.set j .no).set i (.ow v) = σ.set j .no := List.set_eq_of_length_le (by simp; omega)
    have e2 : ρ.set i (some d) = ρ := List.set_eq_of_length_le (by rw [h.er.len]; omega)
    rw [e1, e2]
    refine ⟨_, (h.weak (σ' := σ.set j .no) (ρ' := ρ) (by simp [h.er.len]) fun k => ?_).1, Rn.weak⟩
    by_cases e : k = j
    · subst e; exact .inr (.inl (List.getElem?_set_self hjl))
    · exact .inl ⟨List.getElem?_set_ne (Ne.symm e), rfl⟩
  refine ⟨fun k => if k = i then r j else if k = j then [] else r k, ⟨⟨by simp [h.er.len], fun k w e => ?_, fun k w e => ?_⟩, fun k l a y z => ?_, fun k => ?_, fun k a y => ?_, fun k e => ?_, h.le⟩, fun k a y => ?_⟩
  · have gd : ∀ a, Gd A B r a → Gd A B (fun k => if k = i then r j else if k = j then [] else r k) a := fun a z => ⟨z.1, fun k y => by
      try simp only at y
      split at y
      · exact z.2 j y
      · split at y
        · cases y
        · exact z.2 k y⟩
    rcases set_lt e with ⟨_, e2, _⟩ | ⟨hk, e2⟩
    · cases e2
    · rcases set_lt e2 with ⟨_, e3, _⟩ | ⟨hk2, e3⟩
      · cases e3
      · obtain ⟨d', h1, h2⟩ := h.er.sh k w e3
        exact ⟨d', by rw [List.getElem?_set_ne (Ne.symm hk)]; exact h1, h2.wk fun a _ z => gd a z⟩
  · have gd : ∀ a, Gd A B r a → Gd A B (fun k => if k = i then r j else if k = j then [] else r k) a := fun a z => ⟨z.1, fun k y => by
      try simp only at y
      split at y
      · exact z.2 j y
      · split at y
        · cases y
        · exact z.2 k y⟩
    rcases set_lt e with ⟨e1, e2, _⟩ | ⟨hk, e2⟩
    · cases e2
      subst e1
      refine ⟨d, List.getElem?_set_self (by rw [h.er.len]; exact hl), ?_⟩
      simp only [if_true]
      exact g2.wk fun a _ z => gd a z
    · rcases set_lt e2 with ⟨_, e3, _⟩ | ⟨hk2, e3⟩
      · cases e3
      · obtain ⟨d', h1, h2⟩ := h.er.ow k w e3
        refine ⟨d', by rw [List.getElem?_set_ne (Ne.symm hk)]; exact h1, ?_⟩
        simp only [if_neg hk, if_neg hk2]
        exact h2.wk fun a _ z => gd a z
  · have tr : ∀ m, a ∈ (if m = i then r j else if m = j then [] else r m) → (m = i ∧ a ∈ r j) ∨ (m ≠ i ∧ m ≠ j ∧ a ∈ r m) := fun m y => by
      split at y
      · exact .inl ⟨by assumption, y⟩
      · split at y
        · cases y
        · exact .inr ⟨by assumption, by assumption, y⟩
    rcases tr k y with ⟨e1, y1⟩ | ⟨e1, e2, y1⟩ <;> rcases tr l z with ⟨f1, z1⟩ | ⟨f1, f2, z1⟩
    · rw [e1, f1]
    · exact absurd (h.dis j l a y1 z1).symm f2
    · exact absurd (h.dis k j a y1 z1) e2
    · exact h.dis k l a y1 z1
  · show List.Nodup (if k = i then r j else if k = j then [] else r k)
    split
    · exact h.nd j
    · split
      · exact List.nodup_nil
      · exact h.nd k
  · try simp only at y
    split at y
    · exact h.ge j a y
    · split at y
      · cases y
      · exact h.ge k a y
  · have hk : k ≠ i := fun z => by
      subst z
      unfold isOw at e
      rw [List.getElem?_set_self (by simpa using hl)] at e
      cases e
    simp only [if_neg hk]
    split
    · rfl
    · rename_i hk2
      refine h.ow k ?_
      unfold isOw at e ⊢
      rw [List.getElem?_set_ne (Ne.symm hk), List.getElem?_set_ne (Ne.symm hk2)] at e
      exact e
  · try simp only at y
    split at y
    · exact .inl ⟨j, y⟩
    · split at y
      · cases y
      · exact .inl ⟨k, y⟩
/-- what is owned is written -/
theorem SInv.write (h : SInv A B σ ρ η r) {a : Nat} {o : O} {w : D} (e : σ[i]? = some (.ow v)) (ha : a ∈ r i) (hd : ρ[i]? = some (some d)) (q : RdC (Gd A B r) (η.set a o) (r i) w d) : SInv A B (σ.set i (.ow w)) ρ (η.set a o) r ∧ Fr r η (η.set a o) := by
  have kp : ∀ F : Nat → Prop, ¬ F a → Kp F η (η.set a o) := fun F n k u z y => by
    rw [List.getElem?_set_ne (fun x => n (by rw [x]; exact z))]
    exact y
  have na : ¬ Gd A B r a := fun z => z.2 i ha
  refine ⟨⟨⟨by simp [h.er.len], fun j x e2 => ?_, fun j x e2 => ?_⟩, h.dis, h.nd, h.ge, fun j e2 => ?_, by simpa using h.le⟩, fun b u n y => ?_, by simp⟩
  · rcases set_lt e2 with ⟨_, e3, _⟩ | ⟨hj, e3⟩
    · cases e3
    · obtain ⟨d', h1, h2⟩ := h.er.sh j x e3
      exact ⟨d', h1, Rd.mono (fun _ _ z => z) (kp _ na) _ _ h2⟩
  · rcases set_lt e2 with ⟨e1, e3, _⟩ | ⟨hj, e3⟩
    · cases e3; subst e1
      exact ⟨d, hd, q⟩
    · obtain ⟨d', h1, h2⟩ := h.er.ow j x e3
      refine ⟨d', h1, h2.mono (fun _ _ z => z) (kp _ fun z => ?_)⟩
      rcases z with z | z
      · exact na z
      · exact hj (h.dis j i a z ha)
  · have hj : j ≠ i := fun z => by
      subst z
      unfold isOw at e2
      rw [List.getElem?_set_self (List.getElem?_eq_some_iff.mp e).1] at e2
      cases e2
    refine h.ow j ?_
    unfold isOw at e2 ⊢
    rw [List.getElem?_set_ne (Ne.symm hj)] at e2
    exact e2
  · rw [List.getElem?_set_ne (fun z => n i (by rw [← z]; exact ha))]
    exact y
end
end MI

set_option autoImplicit false
set_option linter.all false
set_option Elab.async false
set_option maxRecDepth 100000
set_option maxHeartbeats 2000000
/-! ViS8: statements: what VI tells, MI does. -/
namespace MI
section
variable {A : Nat → Prop} {B : Nat} {σ σ' : Sg} {ρ : Rho} {η η' η1 η2 : Hv} {r r1 r2 : Nat → List Nat} {v d : D} {i : Nat} {F : Nat → Prop}
theorem gd_rn {a : Nat} (h : Gd A B r a) (hl : a < η.length) (q : Rn r η r1) : Gd A B r1 a := ⟨h.1, fun j y => by
  rcases q j a y with ⟨k, z⟩ | z
  · exact h.2 k z
  · omega⟩
theorem Rd.fr (h : Rd (Gd A B r) η v d) (f : Fr r η η') (q : Rn r η r1) : Rd (Gd A B r1) η' v d := Rd.mono (fun a hl z => gd_rn z hl q) (fun a o z e => f.1 a o z.2 e) v d h
theorem Rds.fr {vs ds : List D} (h : Rds (Gd A B r) η vs ds) (f : Fr r η η') (q : Rn r η r1) : Rds (Gd A B r1) η' vs ds := Rds.mono (fun a hl z => gd_rn z hl q) (fun a o z e => f.1 a o z.2 e) vs ds h
theorem Rds.rn {vs ds : List D} (h : Rds (Gd A B r) η vs ds) (q : Rn r η r1) : Rds (Gd A B r1) η vs ds := h.wk fun a hl z => gd_rn z hl q
theorem Rd.rn (h : Rd (Gd A B r) η v d) (q : Rn r η r1) : Rd (Gd A B r1) η v d := h.wk fun a hl z => gd_rn z hl q
/-- a method of an owned thing -/
theorem mut_ok {m : Mh} {o o' w : D} {a : Nat} {vs ds : List D} (h : mutV m o vs = .ok (o', w)) (hF : ¬ F a) (r0 : RdR F η [a] o d) (rs : Rds F η vs ds) :
    (∀ h2, getL h2 d = getL η d → kndH m d h2 = some ()) ∧ ∃ z u, mthM m d ds η = .ok z (η.set a u) ∧ RdR F (η.set a u) [a] o' d ∧ Rd F (η.set a u) w z ∧ (∃ ys, o = .sq ys) := by
  have kp : ∀ u, Kp F η (η.set a u) := fun u k y z e => by
    rw [List.getElem?_set_ne (fun x => hF (by rw [x]; exact z))]
    exact e
  unfold mutV at h
  split at h
  case h_1 =>
    rename_i xs x
    split at h
    · rename_i c
      cases h
      obtain ⟨b, es, e1, rfl, h1, h2⟩ := r0
      cases e1
      obtain ⟨d2, t, rfl, g1, g2⟩ := rs
      rw [show t = [] from g2]
      refine ⟨fun h2 e => by show (getL h2 _).map _ = _; rw [e]; simp only [getL, h1]; rfl, .non, .lst (es ++ [d2]), by simp only [mthM, h1, h2.len, c, if_true], ⟨a, es ++ [d2], rfl, rfl, List.getElem?_set_self (lt_of h1), ?_⟩, rfl, _, rfl⟩
      exact Rds.mono (fun _ _ z => z) (kp _) _ _ (h2.append (Rds.one g1))
    · cases h
  case h_2 =>
    split at h
    · rename_i y c
      cases h
      obtain ⟨b, es, e1, rfl, h1, h2⟩ := r0
      cases e1
      rw [show ds = [] from rs]
      obtain ⟨z, g1, g2⟩ := h2.getLast c
      refine ⟨fun h2 e => by show (getL h2 _).map _ = _; rw [e]; simp only [getL, h1]; rfl, z, .lst es.dropLast, by simp only [mthM, h1, g1], ⟨a, _, rfl, rfl, List.getElem?_set_self (lt_of h1), ?_⟩, Rd.mono (fun _ _ z => z) (kp _) _ _ g2, _, rfl⟩
      exact Rds.mono (fun _ _ z => z) (kp _) _ _ h2.dropLast
    · cases h
  case h_3 =>
    rename_i xs k
    split at h
    · rename_i j c
      split at h
      · rename_i y c2
        cases h
        obtain ⟨b, es, e1, rfl, h1, h2⟩ := r0
        cases e1
        obtain ⟨d2, t, rfl, g1, g2⟩ := rs
        rw [show t = [] from g2]
        cases g1
        obtain ⟨z, g1, g3⟩ := h2.get c2
        rw [← h2.len] at c
        refine ⟨fun h2 e => by show (getL h2 _).map _ = _; rw [e]; simp only [getL, h1]; rfl, z, .lst (es.eraseIdx j), by simp only [mthM, h1, c, g1], ⟨a, _, rfl, rfl, List.getElem?_set_self (lt_of h1), ?_⟩, Rd.mono (fun _ _ z => z) (kp _) _ _ g3, _, rfl⟩
        exact Rds.mono (fun _ _ z => z) (kp _) _ _ (h2.erase j)
      · cases h
    · cases h
  case h_4 =>
    cases h
    obtain ⟨b, es, e1, rfl, h1, h2⟩ := r0
    cases e1
    rw [show ds = [] from rs]
    refine ⟨fun h2 e => by show (getL h2 _).map _ = _; rw [e]; simp only [getL, h1]; rfl, .non, .lst es.reverse, by simp only [mthM, h1], ⟨a, _, rfl, rfl, List.getElem?_set_self (lt_of h1), ?_⟩, rfl, _, rfl⟩
    exact Rds.mono (fun _ _ z => z) (kp _) _ _ h2.reverse
  case h_5 =>
    cases h
    obtain ⟨b, es, e1, rfl, h1, h2⟩ := r0
    cases e1
    rw [show ds = [] from rs]
    exact ⟨fun h2 e => by show (getL h2 _).map _ = _; rw [e]; simp only [getL, h1]; rfl, .non, .lst [], by simp only [mthM, h1], ⟨a, [], rfl, rfl, List.getElem?_set_self (lt_of h1), rfl⟩, rfl, _, rfl⟩
  case h_6 => cases h
theorem mutV_ex {m : Mh} {o : D} {vs : List D} {k : Nat} (h : mutV m o vs = .ex k) : False := by
  unfold mutV at h
  split at h <;> first | cases h | (split at h <;> first | cases h | (split at h <;> cases h))
/-- o[i] = v of an owned thing -/
theorem put_ok {o k w o' dk dw : D} {a : Nat} (h : putV o k w = .ok o') (hF : ¬ F a) (r0 : RdR F η [a] o d) (rk : Rd F η k dk) (rw0 : Rd F η w dw) : ∃ u, setM d dk dw η = .ok () (η.set a u) ∧ RdR F (η.set a u) [a] o' d := by
  have kp : ∀ u, Kp F η (η.set a u) := fun u k y z e => by
    rw [List.getElem?_set_ne (fun x => hF (by rw [x]; exact z))]
    exact e
  unfold putV at h
  split at h
  · rename_i xs
    split at h
    · obtain ⟨j, h1, h2⟩ := Rv.bind_ok h
      cases h2
      cases rk
      have h1 := ofV_ok h1
      obtain ⟨b, es, e1, rfl, g1, g2⟩ := r0
      cases e1
      rw [← g2.len] at h1
      refine ⟨.lst (es.set j dw), by simp only [setM, g1, h1], a, _, rfl, rfl, List.getElem?_set_self (lt_of g1), ?_⟩
      exact Rds.mono (fun _ _ z => z) (kp _) _ _ (g2.set j rw0)
    · cases h
  · rename_i ks vs
    split at h
    · rename_i c
      cases h
      rw [Bool.and_eq_true] at c
      obtain ⟨b, es, e1, rfl, g1, hl, g3, g2⟩ := r0
      cases e1
      have hk : keyOk k = true := by have := c.1; unfold okKeyV at this; rw [Bool.and_eq_true] at this; exact this.1
      have e : dk = k := Rd.nrf k dk (keyOk_nrf hk) rk
      subst e
      obtain ⟨es', m1, m2, m3, m4⟩ := dput_ok (k := dk) hl g2 g3 (keyOk_nrf hk) rw0
      have c2 : decide ((ks.zip es).length < lim) = true := by
        rw [List.length_zip, ← hl, Nat.min_self]
        exact c.2
      refine ⟨.dic (dput (ks.zip es) dk dw), by simp only [setM, g1, okKey_eq hl, c.1, c2, Bool.and_self, if_true], a, es', rfl, rfl, ?_, m2, m3, Rds.mono (fun _ _ z => z) (kp _) _ _ m4⟩
      rw [List.getElem?_set_self (lt_of g1), m1]
    · cases h
  · cases h
theorem putV_ex {o k w : D} {c : Nat} (h : putV o k w = .ex c) : False := by
  unfold putV at h
  split at h
  · split at h
    · rcases Rv.bind_ex h with h | ⟨_, _, h⟩
      · exact ofV_ex h
      · cases h
    · cases h
  · split at h <;> cases h
  · cases h
/-- the root of an owned list -/
theorem sq_root {R : List Nat} {xs : List D} (h : RdC F η R (.sq xs) d) : ∃ a ds, R = [a] ∧ d = .ref a ∧ η[a]? = some (.lst ds) ∧ Rds F η xs ds := h
theorem RdRs.at : ∀ {vs ds : List D} {R : List Nat} {k : Nat} {u : D}, RdRs F η R vs ds → vs[k]? = some u → ∃ R0 d, (∀ a ∈ R0, a ∈ R) ∧ ds[k]? = some d ∧ RdR F η R0 u d
  | [], _, _, _, _, _, e => by simp at e
  | v :: vs, _, _, 0, u, h, e => by
    obtain ⟨R1, R2, d, t, rfl, rfl, h1, h2⟩ := h
    simp at e; subst e
    exact ⟨R1, d, fun a z => List.mem_append.mpr (.inl z), rfl, h1⟩
  | v :: vs, _, _, k + 1, u, h, e => by
    obtain ⟨R1, R2, d, t, rfl, rfl, h1, h2⟩ := h
    obtain ⟨R0, d', g1, g2, g3⟩ := RdRs.at (k := k) h2 (by simpa using e)
    exact ⟨R0, d', fun a z => List.mem_append.mpr (.inr (g1 a z)), by simpa using g2, g3⟩
theorem RdR.one {a : Nat} {u : D} {R : List Nat} (hu : ∃ ys, u = .sq ys) (h : RdR F η R u d) : ∃ a, R = [a] := by
  obtain ⟨ys, rfl⟩ := hu
  obtain ⟨a, _, e, _⟩ := h
  exact ⟨a, e⟩
/-- a part of an owned tuple is written -/
theorem RdRs.write {o : O} {a : Nat} (hF : ¬ F a) : ∀ {vs ds : List D} {R : List Nat} {k : Nat} {u u' e : D}, RdRs F η R vs ds → R.Nodup → vs[k]? = some u → ds[k]? = some e → RdR F η [a] u e → (∃ ys, u = .sq ys) → RdR F (η.set a o) [a] u' e →
    RdRs F (η.set a o) R (vs.set k u') ds
  | [], _, _, _, _, _, _, _, _, e, _, _, _, _ => by simp at e
  | v :: vs, _, _, 0, u, u', e, h, hn, e1, e2, h3, hq, h4 => by
    obtain ⟨R1, R2, d, t, rfl, rfl, h1, h2⟩ := h
    simp at e1 e2; subst e1 e2
    obtain ⟨ys, rfl⟩ := hq
    obtain ⟨a1, ds1, q1, q2, _⟩ := h1
    obtain ⟨a2, ds2, q3, q4, _⟩ := h3
    cases q3
    subst q1
    rw [q4] at q2
    cases q2
    refine ⟨[a], R2, d, t, rfl, rfl, h4, h2.mono (fun _ _ z => z) fun i o2 z y => ?_⟩
    rw [List.getElem?_set_ne ?_]
    · exact y
    · intro x
      subst x
      rcases z with z | z
      · exact hF z
      · rw [List.cons_append, List.nil_append, List.nodup_cons] at hn; exact hn.1 z
  | v :: vs, _, _, k + 1, u, u', e, h, hn, e1, e2, h3, hq, h4 => by
    obtain ⟨R1, R2, d, t, rfl, rfl, h1, h2⟩ := h
    have hn2 := (List.nodup_append.mp hn)
    have hk : vs[k]? = some u := by simpa using e1
    have hk2 : t[k]? = some e := by simpa using e2
    refine ⟨R1, R2, d, t, rfl, rfl, h1.mono (fun _ _ z => z) fun i o2 z y => ?_, RdRs.write hF h2 hn2.2.1 hk hk2 h3 hq h4⟩
    rw [List.getElem?_set_ne ?_]
    · exact y
    · intro x
      subst x
      rcases z with z | z
      · exact hF z
      · obtain ⟨R0, d', g1, g2, g3⟩ := h2.at hk
        rw [hk2] at g2
        cases g2
        obtain ⟨ys, rfl⟩ := hq
        obtain ⟨a1, ds1, q1, q2, _⟩ := g3
        obtain ⟨a2, ds2, q3, q4, _⟩ := h3
        cases q3
        rw [q4] at q2
        cases q2
        exact hn2.2.2 a z a (g1 a (by rw [q1]; simp)) rfl
end
/-! ### outcomes -/
section
variable (A : Nat → Prop) (B : Nat) (n : Nat) (r : Nat → List Nat) (η : Hv)
structure FOut (m : Mo Fl) (x : Rv Fv) : Prop where
  nx : ∀ σ', x = .ok (.nx σ') → ∃ ρ' η' r', m η = .ok (.nx ρ') η' ∧ SInv A B σ' ρ' η' r' ∧ Fr r η η' ∧ Rn r η r'
  rt : ∀ v, x = .ok (.rt v) → ∃ d η', m η = .ok (.rt d) η' ∧ Fr r η η' ∧ RdO n A B η' v d
  ex : ∀ k, x = .ex k → ∃ η', m η = .ex k η' ∧ Fr r η η'
end
section
variable {A : Nat → Prop} {B : Nat} {n : Nat} {σ σ' : Sg} {ρ : Rho} {η η' η1 η2 : Hv} {r r1 r2 : Nat → List Nat} {v d : D} {i : Nat} {F : Nat → Prop}
variable {c c' : ClM} {cv : ClV} {own : String → Nat}
theorem FOut.bad {m : Mo Fl} : FOut A B n r η m .bad := ⟨fun _ z => (nomatch z), fun _ z => (nomatch z), fun _ z => (nomatch z)⟩
theorem FOut.done {m : Mo Fl} {ρ' : Rho} {r' : Nat → List Nat} (h : m η = .ok (.nx ρ') η') (s : SInv A B σ' ρ' η' r') (f : Fr r η η') (q : Rn r η r') : FOut A B n r η m (.ok (.nx σ')) :=
  ⟨fun σ2 z => by cases z; exact ⟨ρ', η', r', h, s, f, q⟩, fun _ z => (by cases z), fun _ z => (by cases z)⟩
theorem FOut.raise {m : Mo Fl} {k : Nat} (h : m η = .ex k η') (f : Fr r η η') : FOut A B n r η m (.ex k) :=
  ⟨fun _ z => (by cases z), fun _ z => (by cases z), fun j z => by cases z; exact ⟨η', h, f⟩⟩
/-- after an expression -/
theorem FOut.bindE {α β : Type} {m : Mo β} {x : Rv α} {f : β → Mo Fl} {g : α → Rv Fv} {P : α → β → Hv → Prop} (hx : (∀ v, x = .ok v → ∃ d η', m η = .ok d η' ∧ Ext η η' ∧ P v d η') ∧ ∀ k, x = .ex k → ∃ η', m η = .ex k η' ∧ Ext η η')
    (q : ∀ v d η1, x = .ok v → Ext η η1 → P v d η1 → FOut A B n r η (fun _ => f d η1) (g v)) : FOut A B n r η (m.bind f) (x.bind g) := by
  cases e : x with
  | ok v =>
    obtain ⟨d, η1, e1, x1, p⟩ := hx.1 v e
    obtain ⟨a, b, c⟩ := q v d η1 e x1 p
    refine ⟨fun σ2 z => ?_, fun w z => ?_, fun k z => ?_⟩
    · obtain ⟨ρ', η', r', h1, h2, h3, h4⟩ := a σ2 z
      exact ⟨ρ', η', r', (bd e1).trans h1, h2, h3, h4⟩
    · obtain ⟨d', η', h1, h2, h3⟩ := b w z
      exact ⟨d', η', (bd e1).trans h1, h2, h3⟩
    · obtain ⟨η', h1, h2⟩ := c k z
      exact ⟨η', (bd e1).trans h1, h2⟩
  | ex k =>
    obtain ⟨η1, e1, x1⟩ := hx.2 k e
    exact FOut.raise (bx e1) (Fr.of_ext x1)
  | bad => exact FOut.bad
theorem FOut.pureB {α : Type} {x : Rv α} {m : Mo Fl} {g : α → Rv Fv} (hx : ∀ k, x = .ex k → False) (q : ∀ a, x = .ok a → FOut A B n r η m (g a)) : FOut A B n r η m (x.bind g) := by
  cases e : x with
  | ok a => exact q a e
  | ex k => exact (hx k e).elim
  | bad => exact FOut.bad
theorem esc_rd (h : SInv A B σ ρ η r) {e : ME} (x : Ext η η1) (q : Rd (Gx (Gd A B r) r (alA own σ e) η.length) η1 v d) : ∃ r', SInv A B (esc own σ e v) ρ η1 r' ∧ Rn r η r' ∧ Rd (Gd A B r') η1 v d ∧ (∀ a, Gx (Gd A B r) r (alA own σ e) η.length a → isH v = true → Gd A B r' a) ∧ (∀ a, Gd A B r a → Gd A B r' a) := by
  unfold esc
  cases e2 : isH v with
  | true =>
    rw [if_pos rfl]
    exact ⟨_, (h.shr _).ext x, Rn.weak, q.wk fun a _ z => gx_gd h z, fun a z _ => gx_gd h z, fun a z => gx_gd h (.inl z)⟩
  | false =>
    rw [if_neg Bool.false_ne_true]
    exact ⟨r, h.ext x, Rn.refl, flat_any e2 q, fun _ _ z => (by cases z), fun _ z => z⟩
theorem esc_at (e : ME) (i : Nat) : (esc own σ e v)[i]? = σ[i]? ∨ ∃ w, σ[i]? = some (.ow w) ∧ (esc own σ e v)[i]? = some (.sh w) := by
  unfold esc
  split
  · exact shr_at _ _ _
  · exact .inl rfl
theorem setsV_ok : ∀ (is : List Nat) (vs ds : List D) (σ : Sg) (ρ : Rho) (r : Nat → List Nat), SInv A B σ ρ η r → setsV is vs σ = some σ' → Rds (Gd A B r) η vs ds → ∃ ρ' r', setsL is ds ρ = some ρ' ∧ SInv A B σ' ρ' η r' ∧ Rn r η r'
  | [], [], ds, σ, ρ, r, h, e, q => by
    cases e
    rw [show ds = [] from q]
    exact ⟨ρ, r, rfl, h, Rn.refl⟩
  | [], _ :: _, _, _, _, _, _, e, _ => by cases e
  | _ :: _, [], _, _, _, _, _, e, _ => by cases e
  | i :: is, v :: vs, _, σ, ρ, r, h, e, q => by
    obtain ⟨d, t, rfl, q1, q2⟩ := q
    obtain ⟨r1, s1, n1⟩ := h.setSh i q1
    obtain ⟨ρ', r', e', s2, n2⟩ := setsV_ok is vs t _ _ r1 s1 e (q2.rn n1)
    exact ⟨ρ', r', e', s2, Rn.trans Fr.refl n1 n2⟩
/-- a method of an owned slot -/
theorem doM_ok {m : Mh} {vs ds : List D} {p : D × Sg} (h : SInv A B σ ρ η r) (e : doM m i vs σ = .ok p) (q : Rds (Gd A B r) η vs ds) :
    ∃ d z η', ρ[i]? = some (some d) ∧ (∃ ys, σ[i]? = some (.ow (.sq ys))) ∧ mthM m d ds η = .ok z η' ∧ SInv A B p.2 ρ η' r ∧ Fr r η η' ∧ Rd (Gd A B r) η' p.1 z := by
  unfold doM at e
  split at e
  · rename_i o ho
    obtain ⟨⟨o', w⟩, e1, e2⟩ := Rv.bind_ok e
    cases e2
    obtain ⟨d, h1, h2⟩ := h.er.ow i o ho
    have hs : ∃ ys, o = .sq ys := by
      unfold mutV at e1
      split at e1 <;> first | exact ⟨_, rfl⟩ | cases e1
    obtain ⟨ys, rfl⟩ := hs
    obtain ⟨a, es, ra, _⟩ := sq_root h2
    have ha : a ∈ r i := by rw [ra]; simp
    have hF : ¬ Gd A B r a := fun z => z.2 i ha
    have h2' : RdR (Gd A B r) η [a] (.sq ys) d := by rw [← ra]; exact h2
    obtain ⟨k1, z, u, m1, m2, m3, _⟩ := mut_ok e1 hF h2' q
    have hc : RdC (Gd A B r) (η.set a u) (r i) o' d := by
      rw [ra]
      cases o' with
      | tup => exact absurd m2.1 (by simp)
      | _ => exact m2
    obtain ⟨s1, f1⟩ := h.write ho ha h1 hc
    exact ⟨d, z, _, h1, ⟨ys, ho⟩, m1, s1, f1, m3⟩
  · cases e
theorem doM_ex {m : Mh} {vs : List D} {k : Nat} (e : doM m i vs σ = .ex k) : False := by
  unfold doM at e
  split at e
  · rcases Rv.bind_ex e with e | ⟨_, _, e⟩
    · exact mutV_ex e
    · cases e
  · cases e
theorem knd_sq {m : Mh} (hm : isMut m = true) {ys : List D} (h : SInv A B σ ρ η r) (e : σ[i]? = some (.ow (.sq ys))) : ∃ d, ρ[i]? = some (some d) ∧ kndH m d η = some () := by
  obtain ⟨d, h1, h2⟩ := h.er.ow i _ e
  obtain ⟨a, es, _, rfl, h3, _⟩ := sq_root h2
  refine ⟨_, h1, ?_⟩
  cases m <;> first | (cases hm; done) | (show (getL η _).map _ = _; simp only [getL, h3]; rfl)
theorem escs_ok (h : SInv A B σ ρ η r) {es : List ME} {vs ds : List D} (x : Ext η η1) (q : Rds (Gx (Gd A B r) r (alVs own σ es vs) η.length) η1 vs ds) : ∃ r', SInv A B (escs own es vs σ) ρ η1 r' ∧ Rn r η r' ∧ Rds (Gd A B r') η1 vs ds :=
  ⟨_, (h.shr _).ext x, Rn.weak, q.wk fun a _ z => gx_gd h z⟩
theorem x_loc' {i : Nat} {d : D} (h : ρ[i]? = some (some d)) : evE c c' (.loc i) ρ η = .ok d η := by
  rw [x_loc]; unfold locM; rw [h]; rfl
/-- parts of a tuple, some taken off owned lists -/
theorem evPs_ok (hc : SndC c cv own) : ∀ (es : List ME) (σ : Sg) (η : Hv) (r : Nat → List Nat), SInv A B σ ρ η r →
    (∀ vs σ', evPs cv own es σ = .ok (vs, σ') → ∃ ds η' r', evEs c c' es ρ η = .ok ds η' ∧ SInv A B σ' ρ η' r' ∧ Fr r η η' ∧ Rn r η r' ∧ Rds (Gd A B r') η' vs ds) ∧ ∀ k, evPs cv own es σ = .ex k → ∃ η', evEs c c' es ρ η = .ex k η' ∧ Fr r η η'
  | [], σ, η, r, h => ⟨fun vs σ' e => by rw [evPs] at e; cases e; exact ⟨[], η, r, rfl, h, Fr.refl, Rn.refl, rfl⟩, fun k e => by rw [evPs] at e; cases e⟩
  | e :: es, σ, η, r, h => by
    have gen : ∀ (e : ME), (∀ vs σ', ((evV cv e σ).bind fun v => (evPs cv own es (esc own σ e v)).bind fun q => .ok (v :: q.1, q.2)) = .ok (vs, σ') → ∃ ds η' r', evEs c c' (e :: es) ρ η = .ok ds η' ∧ SInv A B σ' ρ η' r' ∧ Fr r η η' ∧ Rn r η r' ∧ Rds (Gd A B r') η' vs ds) ∧
        ∀ k, ((evV cv e σ).bind fun v => (evPs cv own es (esc own σ e v)).bind fun q => (.ok (v :: q.1, q.2) : Rv (List D × Sg))) = .ex k → ∃ η', evEs c c' (e :: es) ρ η = .ex k η' ∧ Fr r η η' := fun e => by
      obtain ⟨o1, o2⟩ := evV_ok (c' := c') hc e σ ρ η (Gd A B r) r h.er
      refine ⟨fun vs σ' e0 => ?_, fun k e0 => ?_⟩
      · obtain ⟨v, h1, e1⟩ := Rv.bind_ok e0
        obtain ⟨d1, η1, g1, x1, q1, _, _⟩ := o1 v h1
        obtain ⟨r1, s1, n1, q2, _, _⟩ := esc_rd h x1 q1
        obtain ⟨⟨ws, σ2⟩, h2, e2⟩ := Rv.bind_ok e1
        cases e2
        obtain ⟨ds, η2, r2, g2, s2, f2, n2, q3⟩ := (evPs_ok hc es _ η1 r1 s1).1 ws σ2 h2
        refine ⟨d1 :: ds, η2, r2, by rw [x_cons, bd g1, bd g2]; rfl, s2, ?_, ?_, d1, ds, rfl, q2.fr f2 n2, q3⟩
        · exact Fr.trans (Fr.of_ext x1) n1 f2
        · exact Rn.trans (Fr.of_ext x1) n1 n2
      · rcases Rv.bind_ex e0 with e1 | ⟨v, h1, e1⟩
        · obtain ⟨η1, g1, x1⟩ := o2 k e1
          exact ⟨η1, by rw [x_cons, bx g1], Fr.of_ext x1⟩
        · obtain ⟨d1, η1, g1, x1, q1, _, _⟩ := o1 v h1
          obtain ⟨r1, s1, n1, q2, _, _⟩ := esc_rd h x1 q1
          rcases Rv.bind_ex e1 with e2 | ⟨_, _, e2⟩
          · obtain ⟨η2, g2, f2⟩ := (evPs_ok hc es _ η1 r1 s1).2 k e2
            exact ⟨η2, by rw [x_cons, bd g1, bx g2], Fr.trans (Fr.of_ext x1) n1 f2⟩
          · cases e2
    rw [evPs]
    cases hp : popOf e with
    | none => exact gen e
    | some j =>
      have he : e = .mth .pop (.loc j) [] := by
        unfold popOf at hp
        split at hp
        · cases hp; rfl
        · cases hp
      subst he
      have key : ∀ p, doM .pop j [] σ = .ok p → ∃ z η1, evE c c' (.mth .pop (.loc j) []) ρ η = .ok z η1 ∧ SInv A B p.2 ρ η1 r ∧ Fr r η η1 ∧ Rd (Gd A B r) η1 p.1 z := fun p hp => by
        obtain ⟨d, z, η1, g1, ⟨ys, g2⟩, g3, g4, g5, g6⟩ := doM_ok (ds := []) h hp rfl
        obtain ⟨d', g7, g8⟩ := knd_sq (m := .pop) rfl h g2
        rw [g1] at g7
        cases g7
        refine ⟨z, η1, ?_, g4, g5, g6⟩
        rw [x_mth, bd (x_loc' g1), bd (lk g8)]
        exact g3
      refine ⟨fun vs σ' e => ?_, fun k e => ?_⟩
      · obtain ⟨p, h1, e1⟩ := Rv.bind_ok e
        obtain ⟨z, η1, g1, s1, f1, q1⟩ := key p h1
        obtain ⟨⟨ws, σ2⟩, h2, e2⟩ := Rv.bind_ok e1
        cases e2
        obtain ⟨ds, η2, r2, g2, s2, f2, n2, q3⟩ := (evPs_ok hc es _ η1 r s1).1 ws σ2 h2
        exact ⟨z :: ds, η2, r2, by rw [x_cons, bd g1, bd g2]; rfl, s2, Fr.trans f1 Rn.refl f2, Rn.trans f1 Rn.refl n2, z, ds, rfl, q1.fr f2 n2, q3⟩
      · rcases Rv.bind_ex e with e1 | ⟨p, h1, e1⟩
        · exact (doM_ex e1).elim
        · obtain ⟨z, η1, g1, s1, f1, q1⟩ := key p h1
          rcases Rv.bind_ex e1 with e2 | ⟨_, _, e2⟩
          · obtain ⟨η2, g2, f2⟩ := (evPs_ok hc es _ η1 r s1).2 k e2
            exact ⟨η2, by rw [x_cons, bd g1, bx g2], Fr.trans f1 Rn.refl f2⟩
          · cases e2
end
end MI

set_option autoImplicit false
set_option linter.all false
set_option Elab.async false
set_option maxRecDepth 100000
set_option maxHeartbeats 2000000
/-! ViS9: statements by induction. -/
namespace MI
section
variable {A : Nat → Prop} {B : Nat} {n : Nat} {σ σ' : Sg} {ρ : Rho} {η η' η1 η2 : Hv} {r r1 r2 : Nat → List Nat} {v d : D} {i : Nat} {F : Nat → Prop}
variable {c c' : ClM} {cv : ClV} {own : String → Nat}
theorem FOut.trans {m m' : Mo Fl} {x : Rv Fv} (f : Fr r η η1) (q : Rn r η r1) (e : m η = m' η1) (h : FOut A B n r1 η1 m' x) : FOut A B n r η m x := by
  obtain ⟨a, b, c⟩ := h
  refine ⟨fun σ2 z => ?_, fun w z => ?_, fun k z => ?_⟩
  · obtain ⟨ρ', η', r', h1, h2, h3, h4⟩ := a σ2 z
    exact ⟨ρ', η', r', e.trans h1, h2, f.trans q h3, Rn.trans f q h4⟩
  · obtain ⟨d', η', h1, h2, h3⟩ := b w z
    exact ⟨d', η', e.trans h1, f.trans q h2, h3⟩
  · obtain ⟨η', h1, h2⟩ := c k z
    exact ⟨η', e.trans h1, f.trans q h2⟩
theorem FOut.bindS {m : Mo Fl} {x : Rv Fv} {f : Fl → Mo Fl} {g : Fv → Rv Fv} (h : FOut A B n r η m x) (hf : ∀ d, f (.rt d) = Mo.pure (.rt d)) (hg : ∀ v, g (.rt v) = .ok (.rt v))
    (q : ∀ σ' ρ' η' r', Fr r η η' → Rn r η r' → SInv A B σ' ρ' η' r' → FOut A B n r' η' (f (.nx ρ')) (g (.nx σ'))) : FOut A B n r η (m.bind f) (x.bind g) := by
  cases x with
  | bad => exact FOut.bad
  | ex k =>
    obtain ⟨η', h1, h2⟩ := h.ex k rfl
    exact FOut.raise (bx h1) h2
  | ok fl =>
    cases fl with
    | nx σ' =>
      obtain ⟨ρ', η', r', h1, h2, h3, h4⟩ := h.nx σ' rfl
      exact FOut.trans h3 h4 (bd h1) (q σ' ρ' η' r' h3 h4 h2)
    | rt v =>
      obtain ⟨d, η', h1, h2, h3⟩ := h.rt v rfl
      refine ⟨fun σ2 z => ?_, fun w z => ?_, fun k z => ?_⟩
      · rw [show (Rv.ok (Fv.rt v)).bind g = g (.rt v) from rfl, hg] at z; cases z
      · rw [show (Rv.ok (Fv.rt v)).bind g = g (.rt v) from rfl, hg] at z; cases z
        exact ⟨d, η', (bd h1).trans (by rw [hf]; rfl), h2, h3⟩
      · rw [show (Rv.ok (Fv.rt v)).bind g = g (.rt v) from rfl, hg] at z; cases z
theorem clr_at : ∀ (s t : Sg) (i : Nat), (clr s t)[i]? = t[i]? ∨ (clr s t)[i]? = some .no
  | [], t, i => .inl (by cases t <;> rfl)
  | .no :: s, [], i => .inl rfl
  | .sh _ :: s, [], i => .inl rfl
  | .ow _ :: s, [], i => .inl rfl
  | .no :: s, x :: t, 0 => .inr rfl
  | .sh _ :: s, x :: t, 0 => .inl rfl
  | .ow _ :: s, x :: t, 0 => .inl rfl
  | .no :: s, x :: t, i + 1 => by
    show (clr s t)[i]? = t[i]? ∨ (clr s t)[i]? = _
    exact clr_at s t i
  | .sh _ :: s, x :: t, i + 1 => by
    show (clr s t)[i]? = t[i]? ∨ (clr s t)[i]? = _
    exact clr_at s t i
  | .ow _ :: s, x :: t, i + 1 => by
    show (clr s t)[i]? = t[i]? ∨ (clr s t)[i]? = _
    exact clr_at s t i
theorem clr_len : ∀ (s t : Sg), (clr s t).length = t.length
  | [], t => by cases t <;> rfl
  | .no :: s, [] => rfl
  | .sh _ :: s, [] => rfl
  | .ow _ :: s, [] => rfl
  | .no :: s, x :: t => by show (clr s t).length + 1 = t.length + 1; rw [clr_len s t]
  | .sh _ :: s, x :: t => by show (clr s t).length + 1 = t.length + 1; rw [clr_len s t]
  | .ow _ :: s, x :: t => by show (clr s t).length + 1 = t.length + 1; rw [clr_len s t]
theorem SInv.clr (h : SInv A B σ ρ η r) (s : Sg) : ∃ r', SInv A B (MI.clr s σ) ρ η r' ∧ Rn r η r' :=
  ⟨_, (h.weak (σ' := MI.clr s σ) (by rw [clr_len]; exact h.er.len) fun i => (clr_at s σ i).elim (fun q => .inl ⟨q, rfl⟩) fun q => .inr (.inl q)).1, Rn.weak⟩
theorem setT_inv {tg : Tgt} {x : D} {σ1 : Sg} (h : SInv A B σ ρ η r) (e : setTV σ tg x = some σ1) (q : Rd (Gd A B r) η x d) : ∃ ρ1 r1, setT ρ tg d = some ρ1 ∧ SInv A B σ1 ρ1 η r1 ∧ Rn r η r1 := by
  unfold setTV at e
  split at e
  · cases e
    obtain ⟨r1, s1, n1⟩ := h.setSh _ q
    exact ⟨_, r1, rfl, s1, n1⟩
  · cases e
    obtain ⟨ds, rfl, d1, t, rfl, h1, d2, t2, rfl, h2, rfl⟩ := q
    obtain ⟨r1, s1, n1⟩ := h.setSh _ h1
    obtain ⟨r2, s2, n2⟩ := s1.setSh _ (h2.rn n1)
    exact ⟨_, r2, rfl, s2, Rn.trans Fr.refl n1 n2⟩
  · cases e
theorem forN_s {nx : Nxt} {tg : Tgt} {body : Rho → Mo Fl} {n i : Nat} : forN nx tg body (n + 1) i ρ = fun h => match nx i h with
    | none => .bad
    | some none => .ok (.nx ρ) h
    | some (some d) => match setT ρ tg d with
      | none => .bad
      | some ρ1 => ((body ρ1).bind fun | .nx ρ' => forN nx tg body n (i + 1) ρ' | .rt v => .pure (.rt v)) h := rfl
theorem forV_ok {nx : Nxt} {tg : Tgt} {bM : Rho → Mo Fl} {bV : Sg → Rv Fv} {T F : Nat → Prop} {η0 : Hv} {xs : List D} (hx : NxR T F η0 nx xs)
    (hb : ∀ σ ρ η r, SInv A B σ ρ η r → FOut A B n r η (bM ρ) (bV σ)) :
    ∀ (rest : List D) (fuel i : Nat) (σ : Sg) (ρ : Rho) (η : Hv) (r : Nat → List Nat), xs.drop i = rest → rest.length < fuel → η0.length ≤ η.length → (∀ a, T a ∨ F a → a < η0.length → Gd A B r a) → Kp (fun a => T a ∨ F a) η0 η → SInv A B σ ρ η r →
      FOut A B n r η (forN nx tg bM fuel i ρ) (forV tg bV rest σ)
  | [], fuel, i, σ, ρ, η, r, hd, hf, hl, hS, hK, h => by
    have e0 : xs[i]? = none := by
      have : xs[i]? = (xs.drop i)[0]? := by rw [List.getElem?_drop]; rfl
      rw [this, hd]; rfl
    have hi := hx η hK i
    rw [e0] at hi
    have hi' : nx i η = some none := hi
    cases fuel with
    | zero => simp at hf
    | succ fuel => exact FOut.done (by unfold forN; rw [hi']) h Fr.refl Rn.refl
  | x :: rest, fuel, i, σ, ρ, η, r, hd, hf, hl, hS, hK, h => by
    have e0 : xs[i]? = some x := by
      have : xs[i]? = (xs.drop i)[0]? := by rw [List.getElem?_drop]; rfl
      rw [this, hd]; rfl
    have hi := hx η hK i
    rw [e0] at hi
    obtain ⟨d, hi', rd⟩ := (show ∃ d, nx i η = some (some d) ∧ Rd (fun a => F a ∧ a < η0.length) η x d from hi)
    cases fuel with
    | zero => simp at hf
    | succ fuel =>
      rw [forV]
      cases es : setTV σ tg x with
      | none => exact FOut.bad
      | some σ1 =>
        obtain ⟨ρ1, r1, s1, s2, n1⟩ := setT_inv h es (rd.wk fun a _ z => hS a (.inr z.1) z.2)
        have ef : forN nx tg bM (fuel + 1) i ρ η = ((bM ρ1).bind fun | .nx ρ' => forN nx tg bM fuel (i + 1) ρ' | .rt v => Mo.pure (.rt v)) η := by
          rw [forN_s]; simp only [hi', s1]
        refine FOut.trans Fr.refl n1 ef (FOut.bindS (hb σ1 ρ1 η r1 s2) (fun _ => rfl) (fun _ => rfl) fun σ2 ρ2 η2 r2 f2 n2 h2 => ?_)
        obtain ⟨r3, s3, n3⟩ := h2.clr σ
        have hd2 : xs.drop (i + 1) = rest := by rw [← List.drop_drop, hd]; rfl
        rw [List.length_cons] at hf
        have fr : Fr r η η2 := Fr.trans Fr.refl n1 f2
        have rn : Rn r η r3 := Rn.trans fr (Rn.trans Fr.refl n1 n2) n3
        refine FOut.trans Fr.refl n3 rfl (forV_ok hx hb rest fuel (i + 1) (MI.clr σ σ2) ρ2 η2 r3 hd2 (by omega) (Nat.le_trans hl f2.2) (fun a z q => gd_rn (hS a z q) (by omega) rn) (fun a o z e => ?_) s3)
        exact fr.1 a o (hS a z (lt_of e)).2 (hK a o z e)
theorem whlV_ok {tM : Rho → Mo Bool} {tV : Sg → Rv Bool} {bM : Rho → Mo Fl} {bV : Sg → Rv Fv} (ht : ∀ σ ρ η r, SInv A B σ ρ η r → BOut η (tM ρ) (tV σ)) (hb : ∀ σ ρ η r, SInv A B σ ρ η r → FOut A B n r η (bM ρ) (bV σ)) :
    ∀ (fuel : Nat) (σ : Sg) (ρ : Rho) (η : Hv) (r : Nat → List Nat), SInv A B σ ρ η r → FOut A B n r η (whlN tM bM fuel ρ) (whlV tV bV fuel σ)
  | 0, σ, ρ, η, r, h => FOut.bad
  | fuel + 1, σ, ρ, η, r, h => by
    rw [whlN, whlV]
    obtain ⟨t1, t2⟩ := ht σ ρ η r h
    refine FOut.bindE (P := fun v d _ => v = d) ⟨fun v hv => ?_, t2⟩ fun v d η1 hv x1 e => ?_
    · obtain ⟨η', a, b⟩ := t1 v hv
      exact ⟨v, η', a, b, rfl⟩
    · subst e
      cases v with
      | false =>
        rw [if_neg Bool.false_ne_true, if_neg Bool.false_ne_true]
        exact FOut.done rfl (h.ext x1) (Fr.of_ext x1) Rn.refl
      | true =>
        rw [if_pos rfl, if_pos rfl]
        refine FOut.trans (Fr.of_ext x1) Rn.refl rfl (FOut.bindS (hb σ ρ η1 r (h.ext x1)) (fun _ => rfl) (fun _ => rfl) fun σ2 ρ2 η2 r2 f2 n2 h2 => ?_)
        obtain ⟨r3, s3, n3⟩ := h2.clr σ
        exact FOut.trans Fr.refl n3 rfl (whlV_ok ht hb fuel _ ρ2 η2 r3 s3)
theorem evXV_ok (hc : SndC c cv own) : ∀ (b : MT) (σ : Sg) (ρ : Rho) (η : Hv) (G : Nat → Prop) (r : Nat → List Nat), ERel G r σ ρ η →
    (evXV cv b σ = .ok () → ∃ η', evX c c' b ρ η = .ok () η' ∧ Ext η η') ∧ ∀ k, evXV cv b σ = .ex k → ∃ η', evX c c' b ρ η = .ex k η' ∧ Ext η η'
  | .exp e, σ, ρ, η, G, r, h => by
    obtain ⟨o1, o2⟩ := evV_ok (c' := c') hc e σ ρ η G r h
    refine ⟨fun hv => ?_, fun k hk => ?_⟩
    · rw [evXV] at hv
      obtain ⟨x, h1, hv⟩ := Rv.bind_ok hv
      obtain ⟨d1, η1, e1, x1, _⟩ := o1 x h1
      exact ⟨η1, by rw [evX, bd e1]; rfl, x1⟩
    · rw [evXV] at hk
      rcases Rv.bind_ex hk with hk | ⟨_, _, hk⟩
      · obtain ⟨η1, e1, x1⟩ := o2 k hk
        exact ⟨η1, by rw [evX, bx e1], x1⟩
      · cases hk
  | .ife t a b, σ, ρ, η, G, r, h => by
    obtain ⟨o1, o2⟩ := evV_ok (c' := c') hc t σ ρ η G r h
    refine ⟨fun hv => ?_, fun k hk => ?_⟩
    · rw [evXV] at hv
      obtain ⟨x, h1, hv⟩ := Rv.bind_ok hv
      obtain ⟨d1, η1, e1, x1, _, r1, _⟩ := o1 x h1
      obtain ⟨t', h2, hv⟩ := Rv.bind_ok hv
      have e2 : evT c c' t ρ η = .ok t' η1 := by show ((evE c c' t ρ).bind truM) η = _; rw [bd e1]; exact lk (truV_ok h2 r1)
      cases t' with
      | true =>
        rw [if_pos rfl] at hv
        obtain ⟨η2, e3, x2⟩ := (evXV_ok hc a σ ρ η1 G r (h.ext x1)).1 hv
        exact ⟨η2, by rw [evX, bd e2, if_pos rfl]; exact e3, x1.trans x2⟩
      | false =>
        rw [if_neg Bool.false_ne_true] at hv
        obtain ⟨η2, e3, x2⟩ := (evXV_ok hc b σ ρ η1 G r (h.ext x1)).1 hv
        exact ⟨η2, by rw [evX, bd e2, if_neg Bool.false_ne_true]; exact e3, x1.trans x2⟩
    · rw [evXV] at hk
      rcases Rv.bind_ex hk with hk | ⟨x, h1, hk⟩
      · obtain ⟨η1, e1, x1⟩ := o2 k hk
        exact ⟨η1, by rw [evX]; exact bx (by show ((evE c c' t ρ).bind truM) η = _; rw [bx e1]), x1⟩
      · obtain ⟨d1, η1, e1, x1, _, r1, _⟩ := o1 x h1
        rcases Rv.bind_ex hk with hk | ⟨t', h2, hk⟩
        · exact (truV_ex hk).elim
        · have e2 : evT c c' t ρ η = .ok t' η1 := by show ((evE c c' t ρ).bind truM) η = _; rw [bd e1]; exact lk (truV_ok h2 r1)
          cases t' with
          | true =>
            rw [if_pos rfl] at hk
            obtain ⟨η2, e3, x2⟩ := (evXV_ok hc a σ ρ η1 G r (h.ext x1)).2 k hk
            exact ⟨η2, by rw [evX, bd e2, if_pos rfl]; exact e3, x1.trans x2⟩
          | false =>
            rw [if_neg Bool.false_ne_true] at hk
            obtain ⟨η2, e3, x2⟩ := (evXV_ok hc b σ ρ η1 G r (h.ext x1)).2 k hk
            exact ⟨η2, by rw [evX, bd e2, if_neg Bool.false_ne_true]; exact e3, x1.trans x2⟩
/-! ### single statements -/
theorem evE_out (hc : SndC c cv own) (e : ME) (h : SInv A B σ ρ η r) : (∀ v, evV cv e σ = .ok v → ∃ d η', evE c c' e ρ η = .ok d η' ∧ Ext η η' ∧ Vl own (Gd A B r) r σ η e η' v d) ∧ ∀ k, evV cv e σ = .ex k → ∃ η', evE c c' e ρ η = .ex k η' ∧ Ext η η' := evV_ok hc e σ ρ η (Gd A B r) r h.er
theorem st_set (hc : SndC c cv own) (i : Nat) (e : ME) (h : SInv A B σ ρ η r) : FOut A B n r η (evS c c' (.set i e) ρ) ((evV cv e σ).bind fun v => .ok (.nx ((esc own σ e v).set i (if frs own e v = true then .ow v else .sh v)))) := by
  rw [s_set]
  refine FOut.bindE (P := fun v d η' => Vl own (Gd A B r) r σ η e η' v d) (evE_out hc e h) fun v d η1 hv x1 ⟨q1, q2, q3⟩ => ?_
  cases ef : frs own e v with
  | false =>
    rw [if_neg Bool.false_ne_true]
    obtain ⟨r1, s1, n1, rd, gx, gd⟩ := esc_rd (own := own) h x1 q1
    obtain ⟨r2, s2, n2⟩ := s1.setSh i rd
    exact FOut.done rfl s2 (Fr.of_ext x1) (Rn.trans (Fr.of_ext x1) n1 n2)
  | true =>
    rw [if_pos rfl]
    obtain ⟨R, h1, h2, h3⟩ := q3 ef
    have hH : isH v = true := by
      cases v <;> first | rfl | (cases ef; done)
    unfold esc
    rw [if_pos hH]
    obtain ⟨r2, s2, n2⟩ := (h.shr (alA own σ e)).setOw i x1 h1 h2 (h3.wk fun a _ z => ⟨gx_gd h z.1, z.2⟩)
    exact FOut.done rfl s2 (Fr.of_ext x1) (Rn.trans Fr.refl Rn.weak n2)
theorem st_mv (hc : SndC c cv own) (i j : Nat) (h : SInv A B σ ρ η r) : FOut A B n r η (evS c c' (.set i (.loc j)) ρ) ((locV σ j).bind fun v => if isOw σ j = true then .ok (.nx ((σ.set j .no).set i (.ow v))) else .ok (.nx (σ.set i (.sh v)))) := by
  rw [s_set]
  refine FOut.bindE (P := fun v d η' => η' = η ∧ ρ[j]? = some (some d) ∧ ((isOw σ j = true ∧ RdC (Gd A B r) η (r j) v d) ∨ Rd (Gd A B r) η v d)) ⟨fun v hv => ?_, fun k hk => ?_⟩ fun v d η1 hv x1 ⟨e1, e2, e3⟩ => ?_
  · obtain ⟨d, h1, _, h3⟩ := loc_rd h.er hv
    exact ⟨d, η, x_loc' h1, Ext.refl, rfl, h1, h3⟩
  · unfold locV at hk
    split at hk <;> cases hk
  · subst e1
    cases eo : isOw σ j with
    | true =>
      rw [if_pos rfl]
      obtain ⟨w, ew⟩ := ow_of eo
      unfold locV at hv
      rw [ew] at hv
      cases hv
      obtain ⟨r2, s2, n2⟩ := h.move i j ew e2
      exact FOut.done rfl s2 Fr.refl n2
    | false =>
      rw [if_neg Bool.false_ne_true]
      rcases e3 with ⟨e3, _⟩ | e3
      · rw [eo] at e3; cases e3
      · obtain ⟨r2, s2, n2⟩ := h.setSh i e3
        exact FOut.done rfl s2 Fr.refl n2
theorem evEs_out (hc : SndC c cv own) (es : List ME) (h : SInv A B σ ρ η r) : (∀ vs, evVs cv es σ = .ok vs → ∃ ds η', evEs c c' es ρ η = .ok ds η' ∧ Ext η η' ∧ Rds (Gx (Gd A B r) r (alVs own σ es vs) η.length) η' vs ds) ∧ ∀ k, evVs cv es σ = .ex k → ∃ η', evEs c c' es ρ η = .ex k η' ∧ Ext η η' := by
  obtain ⟨o1, o2⟩ := evVs_ok (c' := c') hc es σ ρ η (Gd A B r) r h.er
  refine ⟨fun vs hv => ?_, o2⟩
  obtain ⟨ds, η', e1, x1, _, _, q⟩ := o1 vs hv
  exact ⟨ds, η', e1, x1, q⟩
theorem shr_ow {L : List Nat} {w : D} (e : (shr L σ)[i]? = some (.ow w)) : σ[i]? = some (.ow w) := by
  rcases shr_at L σ i with q | ⟨x, q1, q2⟩
  · rw [q] at e; exact e
  · rw [q2] at e; cases e
/-- a method of an owned slot, its arguments ahead -/
theorem mth_ok (hc : SndC c cv own) {m : Mh} (hm : isMut m = true) (i : Nat) (es : List ME) (h : SInv A B σ ρ η r) :
    (∀ p, ((evVs cv es σ).bind fun ds => doM m i ds (escs own es ds σ)) = .ok p → ∃ z η' r', evE c c' (.mth m (.loc i) es) ρ η = .ok z η' ∧ SInv A B p.2 ρ η' r' ∧ Fr r η η' ∧ Rn r η r' ∧ Rd (Gd A B r') η' p.1 z) ∧
    ∀ k, ((evVs cv es σ).bind fun ds => doM m i ds (escs own es ds σ)) = .ex k → evVs cv es σ = .ex k := by
  refine ⟨fun p hp => ?_, fun k hk => ?_⟩
  · obtain ⟨vs, h1, h2⟩ := Rv.bind_ok hp
    obtain ⟨ds, η1, e1, x1, q⟩ := (evEs_out (c' := c') hc es h).1 vs h1
    obtain ⟨r1, s1, n1, q1⟩ := escs_ok h x1 q
    obtain ⟨d, z, η2, g1, ⟨ys, g2⟩, g3, g4, g5, g6⟩ := doM_ok s1 h2 q1
    obtain ⟨d', g7, g8⟩ := knd_sq hm h (shr_ow g2)
    rw [g1] at g7
    cases g7
    refine ⟨z, η2, r1, by rw [x_mth, bd (x_loc' g1), bd (lk g8), bd e1]; exact g3, g4, Fr.trans (Fr.of_ext x1) n1 g5, n1, g6⟩
  · rcases Rv.bind_ex hk with hk | ⟨_, _, hk⟩
    · exact hk
    · exact (doM_ex hk).elim
end
end MI

set_option autoImplicit false
set_option linter.all false
set_option Elab.async false
set_option maxRecDepth 100000
set_option maxHeartbeats 2000000
/-! ViS10: all statements, defs. -/
namespace MI
section
variable {A : Nat → Prop} {B : Nat} {n : Nat} {σ σ' : Sg} {ρ : Rho} {η η' η1 η2 : Hv} {r r1 r2 : Nat → List Nat} {v d : D} {i : Nat} {F : Nat → Prop}
variable {c c' : ClM} {cv : ClV} {own : String → Nat}
theorem owL_of (h : isOwL σ i = true) : ∃ ys, σ[i]? = some (.ow (.sq ys)) := by
  unfold isOwL at h
  split at h
  · rename_i ys e; exact ⟨ys, e⟩
  · cases h
theorem st_pop (hc : SndC c cv own) (i j : Nat) (es : List ME) (h : SInv A B σ ρ η r) (hj : isOwL σ j = true) : FOut A B n r η (evS c c' (.set i (.mth .pop (.loc j) es)) ρ) ((evVs cv es σ).bind fun ds => (doM .pop j ds (escs own es ds σ)).bind fun p => .ok (.nx (p.2.set i (.sh p.1)))) := by
  obtain ⟨ys, hy⟩ := owL_of hj
  obtain ⟨d0, g7, g8⟩ := knd_sq (m := .pop) rfl h hy
  obtain ⟨k1, k2⟩ := mth_ok (c' := c') hc (m := .pop) rfl j es h
  refine ⟨fun σ2 z => ?_, fun v z => ?_, fun k z => ?_⟩
  · obtain ⟨vs, h1, z1⟩ := Rv.bind_ok z
    obtain ⟨p, h2, z2⟩ := Rv.bind_ok z1
    cases z2
    obtain ⟨w, η', r', e1, s1, f1, n1, q1⟩ := k1 p (by rw [h1]; exact h2)
    obtain ⟨r2, s2, n2⟩ := s1.setSh i q1
    exact ⟨_, η', r2, by rw [s_set, bd e1]; rfl, s2, f1, Rn.trans f1 n1 n2⟩
  · obtain ⟨vs, h1, z1⟩ := Rv.bind_ok z
    obtain ⟨p, h2, z2⟩ := Rv.bind_ok z1
    cases z2
  · rcases Rv.bind_ex z with z1 | ⟨vs, h1, z1⟩
    · obtain ⟨η1, e1, x1⟩ := (evEs_out (c' := c') hc es h).2 k z1
      exact ⟨η1, by rw [s_set, x_mth]; exact bx (by rw [bd (x_loc' g7), bd (lk g8), bx e1]), Fr.of_ext x1⟩
    · rcases Rv.bind_ex z1 with z2 | ⟨_, _, z2⟩
      · exact (doM_ex z2).elim
      · cases z2
theorem st_mth (hc : SndC c cv own) {m : Mh} (hm : isMut m = true) (i : Nat) (es : List ME) (h : SInv A B σ ρ η r) (hj : isOwL σ i = true) : FOut A B n r η (evS c c' (.exp (.mth m (.loc i) es)) ρ) ((evVs cv es σ).bind fun ds => (doM m i ds (escs own es ds σ)).bind fun p => .ok (.nx p.2)) := by
  obtain ⟨ys, hy⟩ := owL_of hj
  obtain ⟨d0, g7, g8⟩ := knd_sq (m := m) hm h hy
  obtain ⟨k1, k2⟩ := mth_ok (c' := c') hc (m := m) hm i es h
  refine ⟨fun σ2 z => ?_, fun v z => ?_, fun k z => ?_⟩
  · obtain ⟨vs, h1, z1⟩ := Rv.bind_ok z
    obtain ⟨p, h2, z2⟩ := Rv.bind_ok z1
    cases z2
    obtain ⟨w, η', r', e1, s1, f1, n1, q1⟩ := k1 p (by rw [h1]; exact h2)
    exact ⟨_, η', r', by rw [s_exp, bd e1]; rfl, s1, f1, n1⟩
  · obtain ⟨vs, h1, z1⟩ := Rv.bind_ok z
    obtain ⟨p, h2, z2⟩ := Rv.bind_ok z1
    cases z2
  · rcases Rv.bind_ex z with z1 | ⟨vs, h1, z1⟩
    · obtain ⟨η1, e1, x1⟩ := (evEs_out (c' := c') hc es h).2 k z1
      exact ⟨η1, by rw [s_exp, x_mth]; exact bx (by rw [bd (x_loc' g7), bd (lk g8), bx e1]), Fr.of_ext x1⟩
    · rcases Rv.bind_ex z1 with z2 | ⟨_, _, z2⟩
      · exact (doM_ex z2).elim
      · cases z2
theorem st_app (hc : SndC c cv own) (i : Nat) (es : List ME) (h : SInv A B σ ρ η r) (hj : isOwL σ i = true) : FOut A B n r η (evS c c' (.exp (.mth .append (.loc i) [.tup es])) ρ) ((evPs cv own es σ).bind fun q => (doM .append i [.tup q.1] q.2).bind fun p => .ok (.nx p.2)) := by
  obtain ⟨ys, hy⟩ := owL_of hj
  obtain ⟨d0, g7, g8⟩ := knd_sq (m := .append) rfl h hy
  obtain ⟨k1, k2⟩ := evPs_ok (c' := c') hc es σ η r h
  refine ⟨fun σ2 z => ?_, fun v z => ?_, fun k z => ?_⟩
  · obtain ⟨⟨vs, σ1⟩, h1, z1⟩ := Rv.bind_ok z
    obtain ⟨p, h2, z2⟩ := Rv.bind_ok z1
    cases z2
    obtain ⟨ds, η1, r1, e1, s1, f1, n1, q1⟩ := k1 vs σ1 h1
    obtain ⟨d, w, η2, g1, ⟨zs, g2⟩, g3, g4, g5, g6⟩ := doM_ok (vs := [.tup vs]) (ds := [.tup ds]) s1 h2 (Rds.one ⟨ds, rfl, q1⟩)
    rw [g7] at g1
    cases g1
    refine ⟨_, η2, r1, ?_, g4, Fr.trans f1 n1 g5, n1⟩
    rw [s_exp, x_mth]
    have : (((evE c c' (.loc i) ρ).bind fun x => (lookM (kndH .append x)).bind fun _ => (evEs c c' [.tup es] ρ).bind fun ds => mthM .append x ds)) η = .ok w η2 := by
      rw [bd (x_loc' g7), bd (lk g8), x_cons, x_tup]
      have e2 : ((evEs c c' es ρ).bind fun ds => Mo.pure (D.tup ds)) η = .ok (.tup ds) η1 := by rw [bd e1]; rfl
      have e3 : (((evEs c c' es ρ).bind fun ds => Mo.pure (D.tup ds)).bind fun d => (evEs c c' [] ρ).bind fun ds => Mo.pure (d :: ds)) η = .ok [.tup ds] η1 := by rw [bd e2]; rfl
      rw [bd e3]
      exact g3
    rw [bd this]
    rfl
  · obtain ⟨vs, h1, z1⟩ := Rv.bind_ok z
    obtain ⟨p, h2, z2⟩ := Rv.bind_ok z1
    cases z2
  · rcases Rv.bind_ex z with z1 | ⟨vs, h1, z1⟩
    · obtain ⟨η1, e1, x1⟩ := k2 k z1
      refine ⟨η1, ?_, x1⟩
      rw [s_exp, x_mth]
      refine bx ?_
      rw [bd (x_loc' g7), bd (lk g8), x_cons, x_tup]
      exact bx (bx (bx e1))
    · rcases Rv.bind_ex z1 with z2 | ⟨_, _, z2⟩
      · exact (doM_ex z2).elim
      · cases z2
theorem st_path (hc : SndC c cv own) {m : Mh} (hm : isMut m = true) (i k : Nat) (es : List ME) (h : SInv A B σ ρ η r) (hj : isOwP σ i k = true) : FOut A B n r η (evS c c' (.exp (.mth m (.idx (.loc i) (.cst (.int (.ofNat k)))) es)) ρ) ((evVs cv es σ).bind fun ds => (doP m i k ds (escs own es ds σ)).bind fun σ' => .ok (.nx σ')) := by
  have hh : ∃ xs ys, σ[i]? = some (.ow (.tup xs)) ∧ xs[k]? = some (.sq ys) := by
    unfold isOwP at hj
    split at hj
    · rename_i xs e
      split at hj
      · rename_i ys e2; exact ⟨xs, ys, e, e2⟩
      · cases hj
    · cases hj
  obtain ⟨xs, ys, hx, hk⟩ := hh
  obtain ⟨d0, g1, g2⟩ := h.er.ow i _ hx
  obtain ⟨ds0, rfl, g3⟩ := g2
  obtain ⟨R0, dk, g4, g5, g6⟩ := g3.at hk
  obtain ⟨a, es0, rfl, rfl, g7, g8⟩ := g6
  have ei : evE c c' (.idx (.loc i) (.cst (.int (.ofNat k)))) ρ η = .ok (.ref a) η := by
    rw [x_idx, bd (x_loc' g1), x_cst]
    show idxM (.tup ds0) (.int (k : Int)) η = _
    refine lk ?_
    show MI.atD ds0 (k : Int) = _
    unfold MI.atD ixD
    rw [if_pos (by omega)]
    rw [if_pos (by have := (List.getElem?_eq_some_iff.mp g5).1; omega)]
    exact g5
  have ek : kndH m (.ref a) η = some () := by
    cases m <;> first | (cases hm; done) | (show (getL η _).map _ = _; simp only [getL, g7]; rfl)
  refine ⟨fun σ2 z => ?_, fun v z => ?_, fun j z => ?_⟩
  · obtain ⟨vs, h1, z1⟩ := Rv.bind_ok z
    obtain ⟨σ3, h2, z2⟩ := Rv.bind_ok z1
    cases z2
    obtain ⟨ds, η1, e1, x1, q⟩ := (evEs_out (c' := c') hc es h).1 vs h1
    obtain ⟨r1, s1, n1, q1⟩ := escs_ok h x1 q
    unfold doP at h2
    split at h2
    · rename_i ws ho
      have ho' := shr_ow ho
      rw [hx] at ho'
      cases ho'
      obtain ⟨u, h3, h4⟩ := Rv.bind_ok h2
      obtain ⟨⟨o', w⟩, h5, h6⟩ := Rv.bind_ok h4
      cases h6
      have h3' := ofV_ok h3
      rw [hk] at h3'
      cases h3'
      obtain ⟨d1, p1, p2⟩ := s1.er.ow i _ ho
      rw [g1] at p1
      cases p1
      obtain ⟨ds1, e2, p3⟩ := p2
      cases e2
      obtain ⟨R1, dk', p4, p5, p6⟩ := p3.at hk
      rw [g5] at p5
      cases p5
      obtain ⟨a', es1, eR, ea, p7, p8⟩ := p6
      cases ea
      have ha : a ∈ r1 i := p4 a (by rw [eR]; simp)
      have hF : ¬ Gd A B r1 a := fun z => z.2 i ha
      have pr : RdR (Gd A B r1) η1 [a] (.sq ys) (.ref a) := ⟨a, es1, rfl, rfl, p7, p8⟩
      obtain ⟨_, w', u, m1, m2, m3, m4⟩ := mut_ok h5 hF pr q1
      have hw : RdC (Gd A B r1) (η1.set a u) (r1 i) (.tup (xs.set k o')) (.tup ds0) := ⟨ds0, rfl, p3.write hF (s1.nd i) hk g5 pr ⟨ys, rfl⟩ m2⟩
      obtain ⟨s2, f2⟩ := s1.write ho ha g1 hw
      refine ⟨_, _, r1, ?_, s2, Fr.trans (Fr.of_ext x1) n1 f2, n1⟩
      rw [s_exp, x_mth]
      have : ((evE c c' (.idx (.loc i) (.cst (.int (.ofNat k)))) ρ).bind fun x => (lookM (kndH m x)).bind fun _ => (evEs c c' es ρ).bind fun ds => mthM m x ds) η = .ok w' (η1.set a u) := by
        rw [bd ei, bd (lk ek), bd e1]; exact m1
      rw [bd this]; rfl
    · cases h2
  · obtain ⟨vs, h1, z1⟩ := Rv.bind_ok z
    obtain ⟨p, h2, z2⟩ := Rv.bind_ok z1
    cases z2
  · rcases Rv.bind_ex z with z1 | ⟨vs, h1, z1⟩
    · obtain ⟨η1, e1, x1⟩ := (evEs_out (c' := c') hc es h).2 j z1
      exact ⟨η1, by rw [s_exp, x_mth]; exact bx (by rw [bd ei, bd (lk ek), bx e1]), Fr.of_ext x1⟩
    · rcases Rv.bind_ex z1 with z2 | ⟨_, _, z2⟩
      · unfold doP at z2
        split at z2
        · rcases Rv.bind_ex z2 with z3 | ⟨_, _, z3⟩
          · exact (ofV_ex z3).elim
          · rcases Rv.bind_ex z3 with z4 | ⟨_, _, z4⟩
            · exact (mutV_ex z4).elim
            · cases z4
        · cases z2
      · cases z2
theorem st_exp (hc : SndC c cv own) (e : ME) (h : SInv A B σ ρ η r) : FOut A B n r η (evS c c' (.exp e) ρ) ((evV cv e σ).bind fun _ => .ok (.nx σ)) := by
  rw [s_exp]
  exact FOut.bindE (P := fun v d η' => Vl own (Gd A B r) r σ η e η' v d) (evE_out hc e h) fun v d η1 hv x1 _ => FOut.done rfl (h.ext x1) (Fr.of_ext x1) Rn.refl
theorem st_upk (hc : SndC c cv own) (is : List Nat) (e : ME) (h : SInv A B σ ρ η r) : FOut A B n r η (evS c c' (.upk is e) ρ) ((evV cv e σ).bind fun v => upkV own σ is e v) := by
  show FOut A B n r η ((evE c c' e ρ).bind fun d => (upkM d).bind fun ds => (ofO (setsL is ds ρ)).bind fun ρ' => Mo.pure (.nx ρ')) _
  refine FOut.bindE (P := fun v d η' => Vl own (Gd A B r) r σ η e η' v d) (evE_out hc e h) fun v d η1 hv x1 ⟨q1, _, _⟩ => ?_
  obtain ⟨r1, s1, n1, rd, _, _⟩ := esc_rd (own := own) h x1 q1
  cases v with
  | tup vs =>
    obtain ⟨ds, rfl, rd⟩ := rd
    unfold upkV
    simp only
    cases es : setsV is vs (esc own σ e (.tup vs)) with
    | none => exact FOut.bad
    | some σ' =>
      obtain ⟨ρ', r2, g1, s2, n2⟩ := setsV_ok is vs ds _ ρ r1 s1 es rd
      exact FOut.done (by simp only [upkM, Mo.bind, Mo.pure, g1]; rfl) s2 (Fr.of_ext x1) (Rn.trans (Fr.of_ext x1) n1 n2)
  | sq vs =>
    obtain ⟨a, ds, rfl, _, ha, rd⟩ := rd
    unfold upkV
    simp only
    cases es : setsV is vs (esc own σ e (.sq vs)) with
    | none => exact FOut.bad
    | some σ' =>
      obtain ⟨ρ', r2, g1, s2, n2⟩ := setsV_ok is vs ds _ ρ r1 s1 es rd
      exact FOut.done (by simp only [upkM, Mo.bind, lookM, getR, getL, ha, g1]; rfl) s2 (Fr.of_ext x1) (Rn.trans (Fr.of_ext x1) n1 n2)
  | _ => exact FOut.bad
theorem st_par (hc : SndC c cv own) (is : List Nat) (es : List ME) (h : SInv A B σ ρ η r) : FOut A B n r η (evS c c' (.par is es) ρ) ((evVs cv es σ).bind fun ds => (ofV (setsV is ds (escs own es ds σ))).bind fun σ' => .ok (.nx σ')) := by
  show FOut A B n r η ((evEs c c' es ρ).bind fun ds => (ofO (setsL is ds ρ)).bind fun ρ' => Mo.pure (.nx ρ')) _
  obtain ⟨o1, o2⟩ := evEs_out (c' := c') hc es h
  refine ⟨fun σ2 z => ?_, fun v z => ?_, fun k z => ?_⟩
  · obtain ⟨vs, h1, z1⟩ := Rv.bind_ok z
    obtain ⟨σ', h2, z2⟩ := Rv.bind_ok z1
    cases z2
    obtain ⟨ds, η1, e1, x1, q⟩ := o1 vs h1
    obtain ⟨r1, s1, n1, q1⟩ := escs_ok h x1 q
    obtain ⟨ρ', r2, g1, s2, n2⟩ := setsV_ok is vs ds _ ρ r1 s1 (ofV_ok h2) q1
    exact ⟨ρ', η1, r2, by rw [bd e1, g1]; rfl, s2, Fr.of_ext x1, Rn.trans (Fr.of_ext x1) n1 n2⟩
  · obtain ⟨vs, h1, z1⟩ := Rv.bind_ok z
    obtain ⟨p, h2, z2⟩ := Rv.bind_ok z1
    cases z2
  · rcases Rv.bind_ex z with z1 | ⟨vs, h1, z1⟩
    · obtain ⟨η1, e1, x1⟩ := o2 k z1
      exact ⟨η1, bx e1, Fr.of_ext x1⟩
    · rcases Rv.bind_ex z1 with z2 | ⟨_, _, z2⟩
      · exact (ofV_ex z2).elim
      · cases z2
theorem st_sub (hc : SndC c cv own) (i : Nat) (k e : ME) (h : SInv A B σ ρ η r) (hi : isOw σ i = true) : FOut A B n r η (evS c c' (.sub (.loc i) k e) ρ) ((evV cv e σ).bind fun v => (evV cv k σ).bind fun kk => (putSl i kk v (esc own σ e v)).bind fun σ' => .ok (.nx σ')) := by
  obtain ⟨w0, hw0⟩ := ow_of hi
  obtain ⟨d0, g1, _⟩ := h.er.ow i _ hw0
  obtain ⟨o1, o2⟩ := evE_out (c' := c') hc e h
  refine ⟨fun σ2 z => ?_, fun v z => ?_, fun j z => ?_⟩
  · obtain ⟨v, h1, z1⟩ := Rv.bind_ok z
    obtain ⟨kk, h2, z2⟩ := Rv.bind_ok z1
    obtain ⟨σ3, h3, z3⟩ := Rv.bind_ok z2
    cases z3
    obtain ⟨d, η1, e1, x1, q1, _, _⟩ := o1 v h1
    obtain ⟨dk, η2, e2, x2, q2, _, _⟩ := (evE_out (c' := c') hc k (h.ext x1)).1 kk h2
    obtain ⟨r1, s1, n1, rd, _, _⟩ := esc_rd (own := own) h x1 q1
    have s1' := s1.ext x2
    unfold putSl at h3
    split at h3
    · rename_i o ho
      obtain ⟨o', h4, h5⟩ := Rv.bind_ok h3
      cases h5
      obtain ⟨d1, p1, p2⟩ := s1'.er.ow i _ ho
      rw [g1] at p1
      cases p1
      have hk : kk.nrf = true := by
        unfold putV at h4
        split at h4
        · split at h4
          · rfl
          · cases h4
        · split at h4
          · rename_i c0
            rw [Bool.and_eq_true] at c0
            have hk : keyOk kk = true := by have := c0.1; unfold okKeyV at this; rw [Bool.and_eq_true] at this; exact this.1
            exact keyOk_nrf hk
          · cases h4
        · cases h4
      have ek : dk = kk := Rd.nrf kk dk hk q2
      subst ek
      have ho' : ∃ a, r1 i = [a] ∧ RdR (Gd A B r1) η2 [a] o d0 := by
        cases o with
        | sq ys => obtain ⟨a, es, e0, q⟩ := p2; exact ⟨a, e0, a, es, rfl, q⟩
        | dic ks vs => obtain ⟨a, es, e0, q⟩ := p2; exact ⟨a, e0, a, es, rfl, q⟩
        | _ => unfold putV at h4; cases h4
      obtain ⟨a, er, pr⟩ := ho'
      have ha : a ∈ r1 i := by rw [er]; simp
      have hF : ¬ Gd A B r1 a := fun z => z.2 i ha
      obtain ⟨u, m1, m2⟩ := put_ok h4 hF pr (Rd.self dk hk) (rd.ext x2)
      have hw : RdC (Gd A B r1) (η2.set a u) (r1 i) o' d0 := by
        rw [er]
        cases o' with
        | tup => exact absurd m2.1 (by simp)
        | _ => exact m2
      obtain ⟨s2, f2⟩ := s1'.write ho ha g1 hw
      refine ⟨_, _, r1, ?_, s2, Fr.trans (Fr.of_ext (x1.trans x2)) n1 f2, n1⟩
      rw [s_sub, bd e1, bd (x_loc' g1), bd e2, bd m1]; rfl
    · cases h3
  · obtain ⟨_, h1, z1⟩ := Rv.bind_ok z
    obtain ⟨_, h2, z2⟩ := Rv.bind_ok z1
    obtain ⟨_, h3, z3⟩ := Rv.bind_ok z2
    cases z3
  · rcases Rv.bind_ex z with z1 | ⟨v, h1, z1⟩
    · obtain ⟨η1, e1, x1⟩ := o2 j z1
      exact ⟨η1, by rw [s_sub, bx e1], Fr.of_ext x1⟩
    · obtain ⟨d, η1, e1, x1, q1, _, _⟩ := o1 v h1
      rcases Rv.bind_ex z1 with z2 | ⟨kk, h2, z2⟩
      · obtain ⟨η2, e2, x2⟩ := (evE_out (c' := c') hc k (h.ext x1)).2 j z2
        exact ⟨η2, by rw [s_sub, bd e1, bd (x_loc' g1), bx e2], Fr.of_ext (x1.trans x2)⟩
      · rcases Rv.bind_ex z2 with z3 | ⟨_, _, z3⟩
        · unfold putSl at z3
          split at z3
          · rcases Rv.bind_ex z3 with z4 | ⟨_, _, z4⟩
            · exact (putV_ex z4).elim
            · cases z4
          · cases z3
        · cases z3
/-! ### answers -/
theorem RdR.flat {R : List Nat} (hf : flc v = true) (ht : ∀ vs, v ≠ .tup vs) (h : RdR F η R v d) : ∀ F', RdR F' η R v d := fun F' => by
  cases v with
  | sq vs => obtain ⟨a, ds, e, e2, q1, q2⟩ := h; exact ⟨a, ds, e, e2, q1, by rw [Rds.nrf vs ds hf q2]; exact Rds.self _ hf⟩
  | dic ks vs => obtain ⟨a, ds, e, e2, q1, q2, q3, q4⟩ := h; exact ⟨a, ds, e, e2, q1, q2, q3, by rw [Rds.nrf vs ds hf q4]; exact Rds.self _ hf⟩
  | tup vs => exact absurd rfl (ht vs)
  | _ => exact h
theorem RdRs.flat : ∀ {vs ds : List D} {R : List Nat}, (vs.all fun | .sq ys => D.nrfs ys | .dic _ vs => D.nrfs vs | d => d.nrf) = true → RdRs F η R vs ds → ∀ F', RdRs F' η R vs ds
  | [], _, _, _, h, _ => h
  | v :: vs, _, R, hf, h, F' => by
    obtain ⟨R1, R2, d, t, e1, e2, h1, h2⟩ := h
    rw [List.all_cons, Bool.and_eq_true] at hf
    refine ⟨R1, R2, d, t, e1, e2, ?_, RdRs.flat hf.2 h2 F'⟩
    have hf1 := hf.1
    cases v with
    | sq vs => obtain ⟨a, ds, e, e2, q1, q2⟩ := h1; exact ⟨a, ds, e, e2, q1, by rw [Rds.nrf vs ds hf1 q2]; exact Rds.self _ hf1⟩
    | dic ks vs => obtain ⟨a, ds, e, e2, q1, q2, q3, q4⟩ := h1; exact ⟨a, ds, e, e2, q1, q2, q3, by rw [Rds.nrf vs ds hf1 q4]; exact Rds.self _ hf1⟩
    | tup vs => exact ⟨h1.1, by rw [Rd.nrf _ _ hf1 h1.2]; exact Rd.self _ hf1⟩
    | _ => exact h1
theorem RdC.flat {R : List Nat} (hf : flc v = true) (h : RdC F η R v d) : ∀ F', RdC F' η R v d := fun F' => by
  cases v with
  | tup vs => obtain ⟨ds, e, h⟩ := h; exact ⟨ds, e, h.flat hf F'⟩
  | _ => rw [RdC.unf (by intro _ z; cases z)] at h ⊢; exact RdR.flat hf (by intro _ z; cases z) h F'
theorem compOk_c {e : ME} {es : List ME} {vs : List D} {us : List Nat} : compOk σ (e :: es) (v :: vs) us = ((v.nrf && compOk σ es vs us) || (match e with
    | .loc i => isOw σ i && (match v with | .sq _ => true | .dic _ _ => true | _ => false) && !us.contains i && compOk σ es vs (i :: us)
    | _ => false)) := rfl
theorem comp_ok (hc : SndC c cv own) : ∀ (es : List ME) (vs : List D) (us : List Nat) (η : Hv), SInv A B σ ρ η r → compOk σ es vs us = true → evVs cv es σ = .ok vs →
    ∃ ds η' R, evEs c c' es ρ η = .ok ds η' ∧ Ext η η' ∧ RdRs (Gd A B r) η' R vs ds ∧ R.Nodup ∧ ∀ a ∈ R, ∃ i, i ∉ us ∧ a ∈ r i
  | [], vs, us, η, h, hk, e => by
    rw [evVs] at e
    cases e
    exact ⟨[], η, [], rfl, Ext.refl, ⟨rfl, rfl⟩, List.nodup_nil, fun a z => by cases z⟩
  | e :: es, [], us, η, h, hk, e0 => by cases (show false = true from hk)
  | e :: es, v :: vs, us, η, h, hk, e0 => by
    rw [evVs] at e0
    obtain ⟨w, h1, e1⟩ := Rv.bind_ok e0
    obtain ⟨ws, h2, e2⟩ := Rv.bind_ok e1
    cases e2
    obtain ⟨d1, η1, g1, x1, q1, q2', q3'⟩ := (evE_out (c' := c') hc e h).1 v h1
    rw [compOk_c, Bool.or_eq_true] at hk
    rcases hk with hk | hk
    · rw [Bool.and_eq_true] at hk
      obtain ⟨ds, η2, R, g2, x2, m1, m2, m3⟩ := comp_ok hc es vs us η1 (h.ext x1) hk.2 h2
      refine ⟨d1 :: ds, η2, R, by rw [x_cons, bd g1, bd g2]; rfl, x1.trans x2, ⟨[], R, d1, ds, rfl, rfl, ?_, m1⟩, m2, m3⟩
      have ed := Rd.nrf v d1 hk.1 q1
      subst ed
      have hn := hk.1
      cases d1 <;> first | (cases hn; done) | exact ⟨rfl, Rd.self _ hn⟩
    · cases e <;> first | (cases hk; done) | skip
      · rename_i i
        simp only [Bool.and_eq_true] at hk
        obtain ⟨⟨⟨k1, k2⟩, k3⟩, k4⟩ := hk
        obtain ⟨w0, hw0⟩ := ow_of k1
        obtain ⟨d0, p1, p2⟩ := h.er.ow i _ hw0
        rw [evV, locV, hw0] at h1
        cases h1
        rw [x_loc' p1] at g1
        cases g1
        obtain ⟨ds, η2, R, g2, x2, m1, m2, m3⟩ := comp_ok hc es vs (i :: us) η h k4 h2
        have pr : RdR (Gd A B r) η2 (r i) v d1 := by
          have p3 := p2.ext x2
          rw [RdC.unf (fun vs z => by subst z; cases k2)] at p3
          exact p3
        refine ⟨d1 :: ds, η2, r i ++ R, by rw [x_cons, bd (x_loc' p1), bd g2]; rfl, x2, ⟨r i, R, d1, ds, rfl, rfl, pr, m1⟩, ?_, fun a z => ?_⟩
        · rw [List.nodup_append]
          refine ⟨h.nd i, m2, fun a ha b hb e => ?_⟩
          subst e
          obtain ⟨j, hj, ja⟩ := m3 a hb
          exact hj (by rw [← h.dis i j a ha ja]; simp)
        · rcases List.mem_append.mp z with z | z
          · refine ⟨i, fun q => ?_, z⟩
            rw [Bool.not_eq_true'] at k3
            rw [List.contains_iff_mem.mpr q] at k3
            cases k3
          · obtain ⟨j, hj, ja⟩ := m3 a z
            exact ⟨j, fun q => hj (List.mem_cons_of_mem _ q), ja⟩
theorem st_ret (hc : SndC c cv own) (e : ME) (h : SInv A B σ ρ η r) : FOut A B n r η (evS c c' (.ret e) ρ) ((evV cv e σ).bind fun v => if retOk own n σ e v = true then .ok (.rt v) else .bad) := by
  rw [s_ret]
  obtain ⟨o1, o2⟩ := evE_out (c' := c') hc e h
  refine ⟨fun σ2 z => ?_, fun v z => ?_, fun k z => ?_⟩
  · obtain ⟨v, h1, z1⟩ := Rv.bind_ok z
    split at z1 <;> cases z1
  · obtain ⟨w, h1, z1⟩ := Rv.bind_ok z
    split at z1
    rotate_left
    · cases z1
    rename_i hr
    cases z1
    obtain ⟨d, η1, e1, x1, q1, q2, q3⟩ := o1 v h1
    refine ⟨d, η1, by rw [bd e1]; rfl, Fr.of_ext x1, ?_⟩
    have gx : ∀ a, Gx (Gd A B r) r (alA own σ e) η.length a → A a ∨ B ≤ a := fun a z => by
      rcases z with z | ⟨i, _, z⟩ | z
      · exact z.1
      · exact .inr (h.ge i a z)
      · exact .inr (Nat.le_trans h.le z)
    unfold retOk at hr
    rw [Bool.or_eq_true] at hr
    rcases hr with hr | hr
    · have : n = 0 := of_decide_eq_true hr
      subst this
      exact q1.wk fun a _ z => gx a z
    · rw [Bool.and_eq_true] at hr
      have key : ∃ R : List Nat, R.Nodup ∧ (∀ a ∈ R, B ≤ a) ∧ RdC (fun a => (A a ∨ B ≤ a) ∧ a ∉ R) η1 R v d := by
        have nr : v.nrf = true → ∃ R : List Nat, R.Nodup ∧ (∀ a ∈ R, B ≤ a) ∧ RdC (fun a => (A a ∨ B ≤ a) ∧ a ∉ R) η1 R v d := fun hn =>
          ⟨[], List.nodup_nil, fun a z => (by cases z), RdC.of_nrf (by rw [Rd.nrf v d hn q1]; exact Rd.self v hn) hn⟩
        have fr : frs own e v = true → ∃ R : List Nat, R.Nodup ∧ (∀ a ∈ R, B ≤ a) ∧ RdC (fun a => (A a ∨ B ≤ a) ∧ a ∉ R) η1 R v d := fun hn => by
          obtain ⟨R, m1, m2, m3⟩ := q3 hn
          exact ⟨R, m1, fun a z => Nat.le_trans h.le (m2 a z), m3.wk fun a _ z => ⟨gx a z.1, z.2⟩⟩
        have hr1 := hr.1
        split at hr1
        · rename_i i
          rw [Bool.or_eq_true] at hr1
          rcases hr1 with z | z
          · exact nr z
          · obtain ⟨w0, hw0⟩ := ow_of z
            obtain ⟨d0, p1, p2⟩ := h.er.ow i _ hw0
            rw [evV, locV, hw0] at h1
            cases h1
            rw [x_loc' p1] at e1
            cases e1
            exact ⟨r i, h.nd i, h.ge i, p2.wk fun a _ z => ⟨z.1, z.2 i⟩⟩
        · rename_i es
          split at hr1
          · rename_i vs
            rw [evV] at h1
            obtain ⟨vs', h2, h3⟩ := Rv.bind_ok h1
            cases h3
            obtain ⟨ds, η2, R, g2, x2, m1, m2, m3⟩ := comp_ok (c' := c') hc es vs [] η h hr1 h2
            rw [x_tup, bd g2] at e1
            cases e1
            exact ⟨R, m2, fun a z => by obtain ⟨j, _, ja⟩ := m3 a z; exact h.ge j a ja, ds, rfl, m1.mono (fun a _ z => ⟨z.1, fun y => by obtain ⟨j, _, ja⟩ := m3 a y; exact z.2 j ja⟩) fun _ _ _ e => e⟩
          · cases hr1
        · rw [Bool.or_eq_true] at hr1
          exact hr1.elim nr fr
      obtain ⟨R, m1, m2, m3⟩ := key
      rcases n with _ | _ | n
      · exact m3.rd.wk fun a _ z => by
          rcases z with z | z
          · exact z.1
          · exact .inr (m2 a z)
      · exact ⟨R, m1, m2, m3⟩
      · have hf : flc v = true := by
          have h2 := hr.2
          rw [Bool.or_eq_true] at h2
          rcases h2 with h2 | h2
          · have := of_decide_eq_true h2; omega
          · exact h2
        exact ⟨R, m1, m2, m3.flat hf _⟩
  · rcases Rv.bind_ex z with z1 | ⟨vs, h1, z1⟩
    · obtain ⟨η1, e1, x1⟩ := o2 k z1
      exact ⟨η1, bx e1, Fr.of_ext x1⟩
    · split at z1 <;> cases z1
end
end MI

set_option autoImplicit false
set_option linter.all false
set_option Elab.async false
set_option maxRecDepth 100000
set_option maxHeartbeats 2000000
/-! ViS11: blocks, defs, a law. -/
namespace MI
section
variable {A : Nat → Prop} {B : Nat} {n : Nat} {c c' : ClM} {cv : ClV} {own : String → Nat}
theorem FOut.safe {r : Nat → List Nat} {η : Hv} {m : Mo Fl} {x : Rv Fv} (h : FOut A B n r η m x) : FOut A B n r η (safeM m) (safeV x) := by
  cases x with
  | bad => exact FOut.bad
  | ex k => exact FOut.bad
  | ok fl =>
    refine ⟨fun σ' e => ?_, fun v e => ?_, fun k e => nomatch e⟩
    · obtain ⟨ρ', η', r', h1, h2⟩ := h.nx σ' e
      exact ⟨ρ', η', r', by unfold safeM; rw [h1], h2⟩
    · obtain ⟨d, η', h1, h2⟩ := h.rt v e
      exact ⟨d, η', by unfold safeM; rw [h1], h2⟩
theorem alE_alA {σ : Sg} (e : ME) (i : Nat) (h : i ∈ alE own σ e) : i ∈ alA own σ e := by
  cases e <;> first | exact h | skip
  rw [alE] at h
  split at h
  · exact h
  · cases h
theorem alI_alIt {σ : Sg} (it : ITr) (i : Nat) (h : i ∈ alI own σ it) : i ∈ alIt own σ it := by
  cases it with
  | seq e => exact alE_alA e i h
  | rng _ => cases h
  | rng2 _ _ => cases h
  | enm e => exact alE_alA e i h
  | zip a b => exact List.mem_append.mpr ((List.mem_append.mp h).imp (alE_alA a i) (alE_alA b i))
theorem st_for (hc : SndC c cv own) (tg : Tgt) (it : ITr) {bM : Rho → Mo Fl} {bV : Sg → Rv Fv} (hb : ∀ σ ρ η r, SInv A B σ ρ η r → FOut A B n r η (bM ρ) (bV σ)) {σ : Sg} {ρ : Rho} {η : Hv} {r : Nat → List Nat} (h : SInv A B σ ρ η r) :
    FOut A B n r η ((evI c c' it ρ).bind fun nx => forN nx tg bM WFu 0 ρ) ((evVi cv it σ).bind fun xs => forV tg bV xs (shr (alIt own σ it) σ)) := by
  refine FOut.bindE (P := fun xs nx η' => xs.length ≤ 16777216 ∧ NxR (Gx (Gd A B r) r (alIt own σ it) η.length) (Gx (Gd A B r) r (alI own σ it) η.length) η' nx xs) (evVi_ok hc it σ ρ η (Gd A B r) r h.er) fun xs nx η1 hv x1 ⟨hl, hx⟩ => ?_
  refine FOut.trans (Fr.of_ext x1) (Rn.weak (σ' := shr (alIt own σ it) σ)) rfl (forV_ok hx hb xs WFu 0 _ ρ η1 (rEs (alIt own σ it) σ r) rfl (by have := wfu_ge; omega) (Nat.le_refl _) (fun a z q => ?_) (fun _ _ _ e => e) ((h.shr _).ext x1))
  rcases z with z | z
  · exact gx_gd h z
  · refine gx_gd h ?_
    rcases z with z | ⟨i, z1, z2⟩ | z
    · exact .inl z
    · exact .inr (.inl ⟨i, alI_alIt it i z1, z2⟩)
    · exact .inr (.inr z)
mutual
theorem evSV_ok (hc : SndC c cv own) : ∀ (s : MS) (σ : Sg) (ρ : Rho) (η : Hv) (r : Nat → List Nat), SInv A B σ ρ η r → FOut A B n r η (evS c c' s ρ) (evSV cv own n s σ)
  | .set i e, σ, ρ, η, r, h => by
    unfold evSV
    split <;> rename_i he <;> first | (cases he; done) | skip
    · cases he; exact st_mv hc _ _ h
    · cases he
      split
      · rename_i hj; exact st_pop hc _ _ _ h hj
      · exact FOut.bad
    · cases he; exact st_set hc _ _ h
    all_goals (first | (cases he; done) | exact FOut.bad)
  | .upk is e, σ, ρ, η, r, h => st_upk hc is e h
  | .par is es, σ, ρ, η, r, h => st_par hc is es h
  | .sub o k e, σ, ρ, η, r, h => by
    cases o <;> first | exact FOut.bad | skip
    rename_i i
    show FOut A B n r η _ (if isOw σ i = true then _ else _)
    split
    · rename_i hi; exact st_sub hc i k e h hi
    · exact FOut.bad
  | .fld o x e, σ, ρ, η, r, h => FOut.bad
  | .exp e, σ, ρ, η, r, h => by
    unfold evSV
    split <;> rename_i he <;> first | (cases he; done) | skip
    · cases he
      split
      · rename_i hj; exact st_app hc _ _ h hj
      · exact FOut.bad
    · cases he
      split
      · rename_i hm
        split
        · rename_i hj; exact st_mth hc hm _ _ h hj
        · exact FOut.bad
      · exact st_exp hc _ h
    · cases he
      split
      · rename_i hm
        split
        · rename_i hj; exact st_path hc hm _ _ _ h hj
        · exact FOut.bad
      · exact st_exp hc _ h
    · cases he; exact st_exp hc _ h
    all_goals (first | (cases he; done) | exact FOut.bad)
  | .ret e, σ, ρ, η, r, h => st_ret hc e h
  | .ife t a b, σ, ρ, η, r, h => by
    show FOut A B n r η (((evE c c' t ρ).bind truM).bind fun v => if v = true then evB c c' a ρ else evB c c' b ρ) ((evV cv t σ).bind fun x => (truV x).bind fun v => if v = true then evBV cv own n a σ else evBV cv own n b σ)
    have hb := evVc_ok (c' := c') hc (some t) σ ρ η (Gd A B r) r h.er
    have e : ((evV cv t σ).bind fun x => (truV x).bind fun v => if v = true then evBV cv own n a σ else evBV cv own n b σ) = (evVc cv (some t) σ).bind fun v => if v = true then evBV cv own n a σ else evBV cv own n b σ := by
      rw [evVc]
      cases evV cv t σ <;> rfl
    rw [e]
    refine FOut.bindE (m := evC c c' (some t) ρ) (P := fun v d _ => v = d) ⟨fun v hv => ?_, hb.2⟩ fun v d η1 hv x1 e => ?_
    · obtain ⟨η', a, b⟩ := hb.1 v hv
      exact ⟨v, η', a, b, rfl⟩
    · subst e
      cases v with
      | true =>
        rw [if_pos rfl, if_pos rfl]
        exact FOut.trans (Fr.of_ext x1) Rn.refl rfl (evBV_ok hc a σ ρ η1 r (h.ext x1))
      | false =>
        rw [if_neg Bool.false_ne_true, if_neg Bool.false_ne_true]
        exact FOut.trans (Fr.of_ext x1) Rn.refl rfl (evBV_ok hc b σ ρ η1 r (h.ext x1))
  | .for_ tg it body, σ, ρ, η, r, h => st_for hc tg it (fun σ ρ η r h => evBV_ok hc body σ ρ η r h) h
  | .whl t body, σ, ρ, η, r, h => whlV_ok (fun σ ρ η r h => evVc_ok (c' := c') hc (some t) σ ρ η (Gd A B r) r h.er) (fun σ ρ η r h => evBV_ok hc body σ ρ η r h) WFu σ ρ η r h
  | .rse k, σ, ρ, η, r, h => FOut.raise rfl Fr.refl
  | .nev, σ, ρ, η, r, h => FOut.bad
  | .try_ body hs, σ, ρ, η, r, h => by
    obtain ⟨k1, k2⟩ := evXV_ok (c' := c') hc body σ ρ η (Gd A B r) r h.er
    show FOut A B n r η (fun h => match evX c c' body ρ h with
      | .ok _ h' => .ok (.nx ρ) h'
      | .ex k h' => evH c c' k hs ρ h'
      | .bad => .bad) (match evXV cv body σ with
      | .ok _ => .ok (.nx σ)
      | .ex k => evHV cv own n k hs σ
      | .bad => .bad)
    cases e : evXV cv body σ with
    | ok u =>
      obtain ⟨η1, e1, x1⟩ := k1 e
      exact FOut.done (by simp only [e1]) (h.ext x1) (Fr.of_ext x1) Rn.refl
    | ex k =>
      obtain ⟨η1, e1, x1⟩ := k2 k e
      exact FOut.trans (Fr.of_ext x1) Rn.refl (by simp only [e1]) (evHV_ok hc k hs σ ρ η1 r (h.ext x1))
    | bad => exact FOut.bad
  | .pas, σ, ρ, η, r, h => FOut.done rfl h Fr.refl Rn.refl
theorem evBV_ok (hc : SndC c cv own) : ∀ (b : List MS) (σ : Sg) (ρ : Rho) (η : Hv) (r : Nat → List Nat), SInv A B σ ρ η r → FOut A B n r η (evB c c' b ρ) (evBV cv own n b σ)
  | [], σ, ρ, η, r, h => FOut.done rfl h Fr.refl Rn.refl
  | s :: b, σ, ρ, η, r, h => FOut.bindS (evSV_ok hc s σ ρ η r h) (fun _ => rfl) (fun _ => rfl) fun σ' ρ' η' r' _ _ h' => evBV_ok hc b σ' ρ' η' r' h'
theorem evHV_ok (hc : SndC c cv own) (k : Nat) : ∀ (hs : List (Nat × Option Nat × List MS)) (σ : Sg) (ρ : Rho) (η : Hv) (r : Nat → List Nat), SInv A B σ ρ η r → FOut A B n r η (evH c c' k hs ρ) (evHV cv own n k hs σ)
  | [], σ, ρ, η, r, h => FOut.raise rfl Fr.refl
  | (j, none, b) :: hs, σ, ρ, η, r, h => by
    rw [evH, evHV]
    cases e : subC k j with
    | true =>
      rw [if_pos rfl, if_pos rfl]
      exact FOut.bindS (FOut.safe (evBV_ok hc b σ ρ η r h)) (fun _ => rfl) (fun _ => rfl) fun σ' ρ' η' r' _ _ h' => FOut.done rfl h' Fr.refl Rn.refl
    | false =>
      rw [if_neg Bool.false_ne_true, if_neg Bool.false_ne_true]
      exact evHV_ok hc k hs σ ρ η r h
  | (j, some i, b) :: hs, σ, ρ, η, r, h => by
    rw [evH, evHV]
    cases e : subC k j with
    | true =>
      rw [if_pos rfl, if_pos rfl]
      obtain ⟨r1, s1, n1⟩ := h.setSh i (show Rd (Gd A B r) η (.exc k) (.exc k) from rfl)
      refine FOut.trans Fr.refl n1 rfl (FOut.bindS (FOut.safe (evBV_ok hc b _ _ η r1 s1)) (fun _ => rfl) (fun _ => rfl) fun σ' ρ' η' r' _ _ h' => ?_)
      obtain ⟨r2, s2, n2⟩ := h'.setNo i none
      exact FOut.done rfl s2 Fr.refl n2
    | false =>
      rw [if_neg Bool.false_ne_true, if_neg Bool.false_ne_true]
      exact evHV_ok hc k hs σ ρ η r h
end
end
/-! ### defs -/
def OrcOk (P : PrM) (T : VT) : Prop := ∀ f F, T.orc f = some F → ∀ (n : Nat) (vs ds : List D) (η : Hv) (A : Nat → Prop), Rds A η vs ds →
  (∀ v, F n vs = .ok v → ∃ d η', callN P (n + 1) f ds η = .ok d η' ∧ Ext η η' ∧ RdO (T.own f) A η.length η' v d) ∧ (∀ k, F n vs = .ex k → ∃ η', callN P (n + 1) f ds η = .ex k η' ∧ Ext η η')
theorem start_inv {A : Nat → Prop} {η : Hv} {vs ds : List D} (h : Rds A η vs ds) (m : Nat) : SInv A η.length (vs.map Sl.sh ++ List.replicate m Sl.no) (ds.map some ++ List.replicate m none) η (fun _ => []) := by
  refine ⟨⟨by simp [h.len], fun i v e => ?_, fun i v e => ?_⟩, fun _ _ _ z => (by cases z), fun _ => List.nodup_nil, fun _ _ z => (by cases z), fun _ _ => rfl, Nat.le_refl _⟩
  · by_cases hi : i < vs.length
    · rw [List.getElem?_append_left (by simpa using hi), List.getElem?_map] at e
      cases q : vs[i]? with
      | none => rw [q] at e; cases e
      | some w =>
        rw [q] at e
        cases e
        obtain ⟨d, h1, h2⟩ := h.get q
        exact ⟨d, by rw [List.getElem?_append_left (by simpa [h.len] using hi), List.getElem?_map, h1]; rfl, h2.wk fun a _ z => ⟨.inl z, fun _ y => by cases y⟩⟩
    · rw [List.getElem?_append_right (by simpa using Nat.le_of_not_lt hi), List.getElem?_replicate] at e
      split at e <;> cases e
  · by_cases hi : i < vs.length
    · rw [List.getElem?_append_left (by simpa using hi), List.getElem?_map] at e
      cases q : vs[i]? with
      | none => rw [q] at e; cases e
      | some w => rw [q] at e; cases e
    · rw [List.getElem?_append_right (by simpa using Nat.le_of_not_lt hi), List.getElem?_replicate] at e
      split at e <;> cases e
theorem fr_ext {η η' : Hv} (h : Fr (fun _ => []) η η') : Ext η η' := fun i o e => h.1 i o (fun _ z => by cases z) e
theorem RdO.non {k : Nat} {A : Nat → Prop} {n : Nat} {η : Hv} : RdO k A n η .non .non := by
  rcases k with _ | _ | k
  · exact rfl
  · exact ⟨[], List.nodup_nil, fun a z => (by cases z), rfl, rfl⟩
  · exact ⟨[], List.nodup_nil, fun a z => (by cases z), rfl, rfl⟩
theorem call_ok {P : PrM} {T : VT} (hO : OrcOk P T) : ∀ n, SndC (callN P n) (callV P T n) T.own
  | 0 => fun f vs ds η A _ => ⟨fun v e => (by cases e), fun k e => (by cases e)⟩
  | n + 1 => fun f vs ds η A h => by
    cases ho : T.orc f with
    | some F =>
      have e : callV P T (n + 1) f vs = F n vs := by
        show (match T.orc f with | some F => F n vs | none => _) = _
        rw [ho]
      rw [e]
      exact hO f F ho n vs ds η A h
    | none =>
      cases hp : P f with
      | none =>
        have e : callV P T (n + 1) f vs = .bad := by
          show (match T.orc f with | some F => F n vs | none => match P f with | some fd => runV (callV P T n) T.own (T.own f) fd vs | none => .bad) = _
          rw [ho, hp]
        rw [e]
        exact ⟨fun v e => (by cases e), fun k e => (by cases e)⟩
      | some fd =>
        have e : callV P T (n + 1) f vs = runV (callV P T n) T.own (T.own f) fd vs := by
          show (match T.orc f with | some F => F n vs | none => match P f with | some fd => runV (callV P T n) T.own (T.own f) fd vs | none => .bad) = _
          rw [ho, hp]
        have e2 : callN P (n + 1) f ds = runF (callN P n) (calls P n).2 fd ds := by
          show runP P (calls P n).1 (calls P n).2 f ds = _
          unfold runP
          rw [hp]; rfl
        rw [e, e2]
        unfold runV runF
        rw [h.len]
        split
        · have s := start_inv h (fd.ns - fd.ar)
          obtain ⟨o1, o2, o3⟩ := evBV_ok (n := T.own f) (c' := (calls P n).2) (call_ok hO n) fd.body _ _ η _ s
          refine ⟨fun v z => ?_, fun k z => ?_⟩
          · obtain ⟨fl, h1, h2⟩ := Rv.bind_ok z
            cases fl with
            | nx σ' =>
              cases h2
              obtain ⟨ρ', η', r', g1, g2, g3, g4⟩ := o1 σ' h1
              exact ⟨.non, η', by rw [bd g1]; rfl, fr_ext g3, RdO.non⟩
            | rt w =>
              cases h2
              obtain ⟨d, η', g1, g3, g4⟩ := o2 v h1
              exact ⟨d, η', by rw [bd g1]; rfl, fr_ext g3, g4⟩
          · rcases Rv.bind_ex z with z1 | ⟨fl, h1, h2⟩
            · obtain ⟨η', g1, g3⟩ := o3 k z1
              exact ⟨η', bx g1, fr_ext g3⟩
            · cases fl <;> cases h2
        · exact ⟨fun v e => (by cases e), fun k e => (by cases e)⟩
theorem ints_nrf : ∀ ns : List Int, D.nrfs (ns.map D.int) = true
  | [] => rfl
  | n :: ns => ints_nrf ns
/-- a law by VI -/
theorem law_vi {P : PrM} {T : VT} (hO : OrcOk P T) (n : Nat) (law : String) (ho : T.own law = 0) (ns : List Int) (h : callV P T n law [.lst (ns.map .int)] = .ok (.bl true)) : ∃ η', callN P n law [.lst (ns.map .int)] [] = .ok (.bl true) η' := by
  obtain ⟨d, η', e1, _, e2⟩ := (call_ok hO n law [.lst (ns.map .int)] [.lst (ns.map .int)] [] (fun _ => True) ⟨_, [], rfl, ⟨rfl, ints_nrf ns⟩, rfl⟩).1 _ h
  rw [ho] at e2
  have e3 : d = .bl true := e2
  subst e3
  exact ⟨η', e1⟩
end MI

set_option autoImplicit false
set_option linter.all false
set_option Elab.async false
set_option maxRecDepth 100000
/-! VP: reasoning about VI's runs, each behind a bind. -/
namespace MI
section
variable {α β : Type}
theorem bo (m : Rv α) : m.bind Rv.ok = m := by cases m <;> rfl
theorem bb {γ : Type} {m : Rv α} {f : α → Rv β} {g : β → Rv γ} : (m.bind f).bind g = m.bind fun a => (f a).bind g := by cases m <;> rfl
/-- if, its arms left alone -/
def ifV (b : Bool) (x y : α) (_ : Fx x := ()) (_ : Fx y := ()) : α := if b = true then x else y
/-- bind without the mark -/
def Rv.bd (m : Rv α) (f : α → Rv β) : Rv β := m.bind f
theorem bdo {m : Rv α} {f : α → Rv β} {w : Fx f} : m.bind f w = m.bd f := rfl
theorem bbd {γ : Type} {m : Rv α} {f : α → Rv β} {g : β → Rv γ} : (m.bd f).bd g = m.bd fun a => (f a).bd g := bb
theorem ifo {b : Bool} {x y : α} {w : Fx x} {w' : Fx y} : ifV b x y w w' = if b = true then x else y := rfl
theorem ite_d {b : Bool} {x y : Rv α} {k : α → Rv β} : (if b = true then x else y).bd k = if b = true then x.bd k else y.bd k := by cases b <;> rfl
theorem ifV_t {x y : α} : ifV true x y = x := rfl
theorem ifV_f {x y : α} : ifV false x y = y := rfl
theorem b_ok {a : α} {k : α → Rv β} : (Rv.ok a).bind k = k a := rfl
theorem b_ex {c : Nat} {k : α → Rv β} : (Rv.ex c).bind k = .ex c := rfl
theorem b_bad {k : α → Rv β} : (Rv.bad).bind k = .bad := rfl
end
section
variable {β : Type} {c : ClV} {σ : Sg} {own : String → Nat} {n : Nat}
variable {k : D → Rv β} {ks : List D → Rv β} {ko : Option Int → Rv β} {kb : Bool → Rv β} {kf : Fv → Rv β} {ku : Unit → Rv β}
/-! ### slots -/
theorem l0s {v : D} {s : Sg} : (locV (.sh v :: s) 0).bind k = k v := rfl
theorem l0o {v : D} {s : Sg} : (locV (.ow v :: s) 0).bind k = k v := rfl
theorem lS {x : Sl} {s : Sg} {i : Nat} : (locV (x :: s) (i + 1)).bind k = (locV s i).bind k := rfl
/-! ### expressions -/
theorem e_loc {i : Nat} : (evV c (.loc i) σ).bind k = (locV σ i).bind k := rfl
theorem e_int {i : Int} : (evV c (.cst (.int i)) σ).bind k = k (.int i) := rfl
theorem e_str {i : List Nat} : (evV c (.cst (.str i)) σ).bind k = k (.str i) := rfl
theorem e_bl {i : Bool} : (evV c (.cst (.bl i)) σ).bind k = k (.bl i) := rfl
theorem e_non : (evV c (.cst .non) σ).bind k = k .non := rfl
theorem e_ctup {xs : List D} : (evV c (.cst (.tup xs)) σ).bind k = (if D.nrfs xs = true then Rv.ok (D.tup xs) else .bad).bind k := rfl
theorem e_tup {es : List ME} : (evV c (.tup es) σ).bind k = (evVs c es σ).bind fun ds => k (.tup ds) := by
  show ((evVs c es σ).bind fun ds => .ok (.tup ds)).bind k = _
  rw [bb]; rfl
theorem e_lst {es : List ME} : (evV c (.lst es) σ).bind k = (evVs c es σ).bind fun ds => k (.sq ds) := by
  show ((evVs c es σ).bind fun ds => .ok (.sq ds)).bind k = _
  rw [bb]; rfl
theorem e_dnil : (evV c (.dic [] []) σ).bind k = k (.dic [] []) := rfl
theorem e_bin {o : Op} {a b : ME} : (evV c (.bin o a b) σ).bind k = (evV c a σ).bind fun x => (evV c b σ).bind fun y => (binV o x y).bind k := by
  show ((evV c a σ).bind fun x => (evV c b σ).bind fun y => binV o x y).bind k = _
  simp only [ifo, bdo, bbd, ite_d]
theorem e_neg {a : ME} : (evV c (.neg a) σ).bind k = (evV c a σ).bind fun x => (getIV x).bind fun i => k (.int (-i)) := by
  show ((evV c a σ).bind fun x => (getIV x).bind fun i => Rv.ok (D.int (-i))).bind k = _
  simp only [ifo, bdo, bbd, ite_d]; rfl
theorem e_not {a : ME} : (evV c (.not a) σ).bind k = (evV c a σ).bind fun x => (truV x).bind fun b => k (.bl !b) := by
  show ((evV c a σ).bind fun x => (truV x).bind fun b => Rv.ok (D.bl !b)).bind k = _
  simp only [ifo, bdo, bbd, ite_d]; rfl
theorem ite_b {α : Type} {b : Bool} {x y : Rv α} {k : α → Rv β} : (if b = true then x else y).bind k = ifV b (x.bind k) (y.bind k) := by cases b <;> rfl
theorem e_and {a b : ME} : (evV c (.and a b) σ).bind k = (evV c a σ).bind fun x => (truV x).bind fun t => ifV t ((evV c b σ).bind k) (k x) := by
  show ((evV c a σ).bind fun x => (truV x).bind fun t => if t = true then evV c b σ else Rv.ok x).bind k = _
  simp only [ifo, bdo, bbd, ite_d]; rfl
theorem e_or {a b : ME} : (evV c (.or a b) σ).bind k = (evV c a σ).bind fun x => (truV x).bind fun t => ifV t (k x) ((evV c b σ).bind k) := by
  show ((evV c a σ).bind fun x => (truV x).bind fun t => if t = true then Rv.ok x else evV c b σ).bind k = _
  simp only [ifo, bdo, bbd, ite_d]; rfl
theorem e_cmp {o : Cm} {a b : ME} : (evV c (.cmp o a b) σ).bind k = (evV c a σ).bind fun x => (evV c b σ).bind fun y => (cmpV o x y).bind fun t => k (.bl t) := by
  show ((evV c a σ).bind fun x => (evV c b σ).bind fun y => (cmpV o x y).bind fun t => Rv.ok (D.bl t)).bind k = _
  simp only [ifo, bdo, bbd, ite_d]; rfl
theorem e_chn {o p : Cm} {a b d : ME} : (evV c (.chn o p a b d) σ).bind k = (evV c a σ).bind fun x => (evV c b σ).bind fun y => (cmpV o x y).bind fun t => ifV t ((evV c d σ).bind fun z => (cmpV p y z).bind fun u => k (.bl u)) (k (.bl false)) := by
  show ((evV c a σ).bind fun x => (evV c b σ).bind fun y => (cmpV o x y).bind fun t => if t = true then (evV c d σ).bind fun z => (cmpV p y z).bind fun u => Rv.ok (D.bl u) else Rv.ok (D.bl false)).bind k = _
  simp only [ifo, bdo, bbd, ite_d]; rfl
theorem e_ife {t a b : ME} : (evV c (.ife t a b) σ).bind k = (evV c t σ).bind fun x => (truV x).bind fun v => ifV v ((evV c a σ).bind k) ((evV c b σ).bind k) := by
  show ((evV c t σ).bind fun x => (truV x).bind fun v => if v = true then evV c a σ else evV c b σ).bind k = _
  simp only [ifo, bdo, bbd, ite_d]
theorem e_idx {a i : ME} : (evV c (.idx a i) σ).bind k = (evV c a σ).bind fun x => (evV c i σ).bind fun y => (idxV x y).bind k := by
  show ((evV c a σ).bind fun x => (evV c i σ).bind fun y => idxV x y).bind k = _
  simp only [ifo, bdo, bbd, ite_d]
theorem e_slc {a : ME} {lo hi : Option ME} : (evV c (.slc a lo hi) σ).bind k = (evV c a σ).bind fun x => (evVo c lo σ).bind fun l => (evVo c hi σ).bind fun u => (slcV x l u).bind k := by
  show ((evV c a σ).bind fun x => (evVo c lo σ).bind fun l => (evVo c hi σ).bind fun u => slcV x l u).bind k = _
  simp only [ifo, bdo, bbd, ite_d]
theorem e_call {f : String} {es : List ME} : (evV c (.call f es) σ).bind k = (evVs c es σ).bind fun ds => (c f ds).bind k := by
  show ((evVs c es σ).bind fun ds => c f ds).bind k = _
  simp only [ifo, bdo, bbd, ite_d]
theorem e_blt {f : Bf} {es : List ME} : (evV c (.blt f es) σ).bind k = (evVs c es σ).bind fun ds => (bltV f ds).bind k := by
  show ((evVs c es σ).bind fun ds => bltV f ds).bind k = _
  simp only [ifo, bdo, bbd, ite_d]
theorem e_mth {m : Mh} {o : ME} {es : List ME} : (evV c (.mth m o es) σ).bind k = (evV c o σ).bind fun x => (kndV m x).bind fun _ => (evVs c es σ).bind fun ds => (mthV m x ds).bind k := by
  show ((evV c o σ).bind fun x => (kndV m x).bind fun _ => (evVs c es σ).bind fun ds => mthV m x ds).bind k = _
  simp only [ifo, bdo, bbd, ite_d]
theorem e_isi {e : ME} {t : Ty} : (evV c (.isi e t) σ).bind k = (evV c e σ).bind fun v => (ofV (tyV v)).bind fun q => k (.bl (isT t q)) := by
  show ((evV c e σ).bind fun v => (ofV (tyV v)).bind fun q => Rv.ok (D.bl (isT t q))).bind k = _
  simp only [ifo, bdo, bbd, ite_d]; rfl
theorem e_lc {tg : Tgt} {it : ITr} {cond : Option ME} {elt : ME} : (evV c (.lc tg it cond elt) σ).bind k = (evVi c it σ).bind fun xs => (lcV tg (evVc c cond) (evV c elt) σ xs).bind fun ys => k (.sq ys) := by
  show ((evVi c it σ).bind fun xs => (lcV tg (evVc c cond) (evV c elt) σ xs).bind fun ys => Rv.ok (D.sq ys)).bind k = _
  simp only [ifo, bdo, bbd, ite_d]; rfl
theorem e_sset {e : ME} : (evV c (.sset e) σ).bind k = (evV c e σ).bind fun v => (ssetV v).bind k := by
  show ((evV c e σ).bind fun v => ssetV v).bind k = _
  simp only [ifo, bdo, bbd, ite_d]
theorem a_nil : (evVs c [] σ).bind ks = ks [] := rfl
theorem a_cons {e : ME} {es : List ME} : (evVs c (e :: es) σ).bind ks = (evV c e σ).bind fun d => (evVs c es σ).bind fun ds => ks (d :: ds) := by
  show ((evV c e σ).bind fun d => (evVs c es σ).bind fun ds => Rv.ok (d :: ds)).bind ks = _
  simp only [ifo, bdo, bbd, ite_d]; rfl
theorem o_none : (evVo c none σ).bind ko = ko none := rfl
theorem o_some {e : ME} : (evVo c (some e) σ).bind ko = (evV c e σ).bind fun d => (getIV d).bind fun i => ko (some i) := by
  show ((evV c e σ).bind fun d => (getIV d).bind fun i => Rv.ok (some i)).bind ko = _
  simp only [ifo, bdo, bbd, ite_d]; rfl
theorem c_none : (evVc c none σ).bind kb = kb true := rfl
theorem c_some {t : ME} : (evVc c (some t) σ).bind kb = (evV c t σ).bind fun x => (truV x).bind kb := by
  show ((evV c t σ).bind truV).bind kb = _
  simp only [ifo, bdo, bbd, ite_d]
theorem i_seqT {e : ME} : (evVi c (.seq e) σ).bind ks = (evV c e σ).bind fun v => (itmV v).bind ks := by
  show ((evV c e σ).bind itmV).bind ks = _
  simp only [ifo, bdo, bbd, ite_d]
theorem i_rng {a : ME} : (evVi c (.rng a) σ).bind ks = (evV c a σ).bind fun v => (getIV v).bind fun i => (rngB i).bind ks := by
  show ((evV c a σ).bind fun v => (getIV v).bind fun i => rngB i).bind ks = _
  simp only [ifo, bdo, bbd, ite_d]
theorem i_rng2 {a b : ME} : (evVi c (.rng2 a b) σ).bind ks = (evV c a σ).bind fun v => (evV c b σ).bind fun w => (getIV v).bind fun i => (getIV w).bind fun j => (rngB2 i j).bind ks := by
  show ((evV c a σ).bind fun v => (evV c b σ).bind fun w => (getIV v).bind fun i => (getIV w).bind fun j => rngB2 i j).bind ks = _
  simp only [ifo, bdo, bbd, ite_d]
theorem i_enm {a : ME} : (evVi c (.enm a) σ).bind ks = (evV c a σ).bind fun v => (enmB v).bind ks := by
  show ((evV c a σ).bind enmB).bind ks = _
  simp only [ifo, bdo, bbd, ite_d]
theorem i_zip {a b : ME} : (evVi c (.zip a b) σ).bind ks = (evV c a σ).bind fun v => (evV c b σ).bind fun w => (zipB v w).bind ks := by
  show ((evV c a σ).bind fun v => (evV c b σ).bind fun w => zipB v w).bind ks = _
  simp only [ifo, bdo, bbd, ite_d]
/-! ### statements -/
def asg (own : String → Nat) (σ : Sg) (i : Nat) (e : ME) (v : D) : Sg := (esc own σ e v).set i (if frs own e v = true then .ow v else .sh v)
theorem u_set0 {i : Nat} {z : Int} : (evSV c own n (.set i (.cst (.int z))) σ).bind kf = (evV c (.cst (.int z)) σ).bind fun v => kf (.nx (asg own σ i (.cst (.int z)) v)) := by
  show ((evV c (.cst (.int z)) σ).bind fun v => Rv.ok (Fv.nx (asg own σ i (.cst (.int z)) v))).bind kf = _
  rw [bb]; rfl
theorem u_set1 {i : Nat} {z : List Nat} : (evSV c own n (.set i (.cst (.str z))) σ).bind kf = (evV c (.cst (.str z)) σ).bind fun v => kf (.nx (asg own σ i (.cst (.str z)) v)) := by
  show ((evV c (.cst (.str z)) σ).bind fun v => Rv.ok (Fv.nx (asg own σ i (.cst (.str z)) v))).bind kf = _
  rw [bb]; rfl
theorem u_set2 {i : Nat} {z : Bool} : (evSV c own n (.set i (.cst (.bl z))) σ).bind kf = (evV c (.cst (.bl z)) σ).bind fun v => kf (.nx (asg own σ i (.cst (.bl z)) v)) := by
  show ((evV c (.cst (.bl z)) σ).bind fun v => Rv.ok (Fv.nx (asg own σ i (.cst (.bl z)) v))).bind kf = _
  rw [bb]; rfl
theorem u_set3 {i : Nat}  : (evSV c own n (.set i (.cst .non)) σ).bind kf = (evV c (.cst .non) σ).bind fun v => kf (.nx (asg own σ i (.cst .non) v)) := by
  show ((evV c (.cst .non) σ).bind fun v => Rv.ok (Fv.nx (asg own σ i (.cst .non) v))).bind kf = _
  rw [bb]; rfl
theorem u_set4 {i : Nat} {z : List D} : (evSV c own n (.set i (.cst (.tup z))) σ).bind kf = (evV c (.cst (.tup z)) σ).bind fun v => kf (.nx (asg own σ i (.cst (.tup z)) v)) := by
  show ((evV c (.cst (.tup z)) σ).bind fun v => Rv.ok (Fv.nx (asg own σ i (.cst (.tup z)) v))).bind kf = _
  rw [bb]; rfl
theorem u_set5 {i : Nat} {es : List ME} : (evSV c own n (.set i (.tup es)) σ).bind kf = (evV c (.tup es) σ).bind fun v => kf (.nx (asg own σ i (.tup es) v)) := by
  show ((evV c (.tup es) σ).bind fun v => Rv.ok (Fv.nx (asg own σ i (.tup es) v))).bind kf = _
  rw [bb]; rfl
theorem u_set6 {i : Nat} {es : List ME} : (evSV c own n (.set i (.lst es)) σ).bind kf = (evV c (.lst es) σ).bind fun v => kf (.nx (asg own σ i (.lst es) v)) := by
  show ((evV c (.lst es) σ).bind fun v => Rv.ok (Fv.nx (asg own σ i (.lst es) v))).bind kf = _
  rw [bb]; rfl
theorem u_set7 {i : Nat} {ks vs : List ME} : (evSV c own n (.set i (.dic ks vs)) σ).bind kf = (evV c (.dic ks vs) σ).bind fun v => kf (.nx (asg own σ i (.dic ks vs) v)) := by
  show ((evV c (.dic ks vs) σ).bind fun v => Rv.ok (Fv.nx (asg own σ i (.dic ks vs) v))).bind kf = _
  rw [bb]; rfl
theorem u_set8 {i : Nat} {o : Op} {a b : ME} : (evSV c own n (.set i (.bin o a b)) σ).bind kf = (evV c (.bin o a b) σ).bind fun v => kf (.nx (asg own σ i (.bin o a b) v)) := by
  show ((evV c (.bin o a b) σ).bind fun v => Rv.ok (Fv.nx (asg own σ i (.bin o a b) v))).bind kf = _
  rw [bb]; rfl
theorem u_set9 {i : Nat} {a : ME} : (evSV c own n (.set i (.neg a)) σ).bind kf = (evV c (.neg a) σ).bind fun v => kf (.nx (asg own σ i (.neg a) v)) := by
  show ((evV c (.neg a) σ).bind fun v => Rv.ok (Fv.nx (asg own σ i (.neg a) v))).bind kf = _
  rw [bb]; rfl
theorem u_set10 {i : Nat} {a : ME} : (evSV c own n (.set i (.not a)) σ).bind kf = (evV c (.not a) σ).bind fun v => kf (.nx (asg own σ i (.not a) v)) := by
  show ((evV c (.not a) σ).bind fun v => Rv.ok (Fv.nx (asg own σ i (.not a) v))).bind kf = _
  rw [bb]; rfl
theorem u_set11 {i : Nat} {a b : ME} : (evSV c own n (.set i (.and a b)) σ).bind kf = (evV c (.and a b) σ).bind fun v => kf (.nx (asg own σ i (.and a b) v)) := by
  show ((evV c (.and a b) σ).bind fun v => Rv.ok (Fv.nx (asg own σ i (.and a b) v))).bind kf = _
  rw [bb]; rfl
theorem u_set12 {i : Nat} {a b : ME} : (evSV c own n (.set i (.or a b)) σ).bind kf = (evV c (.or a b) σ).bind fun v => kf (.nx (asg own σ i (.or a b) v)) := by
  show ((evV c (.or a b) σ).bind fun v => Rv.ok (Fv.nx (asg own σ i (.or a b) v))).bind kf = _
  rw [bb]; rfl
theorem u_set13 {i : Nat} {o : Cm} {a b : ME} : (evSV c own n (.set i (.cmp o a b)) σ).bind kf = (evV c (.cmp o a b) σ).bind fun v => kf (.nx (asg own σ i (.cmp o a b) v)) := by
  show ((evV c (.cmp o a b) σ).bind fun v => Rv.ok (Fv.nx (asg own σ i (.cmp o a b) v))).bind kf = _
  rw [bb]; rfl
theorem u_set14 {i : Nat} {o p : Cm} {a b d : ME} : (evSV c own n (.set i (.chn o p a b d)) σ).bind kf = (evV c (.chn o p a b d) σ).bind fun v => kf (.nx (asg own σ i (.chn o p a b d) v)) := by
  show ((evV c (.chn o p a b d) σ).bind fun v => Rv.ok (Fv.nx (asg own σ i (.chn o p a b d) v))).bind kf = _
  rw [bb]; rfl
theorem u_set15 {i : Nat} {t a b : ME} : (evSV c own n (.set i (.ife t a b)) σ).bind kf = (evV c (.ife t a b) σ).bind fun v => kf (.nx (asg own σ i (.ife t a b) v)) := by
  show ((evV c (.ife t a b) σ).bind fun v => Rv.ok (Fv.nx (asg own σ i (.ife t a b) v))).bind kf = _
  rw [bb]; rfl
theorem u_set16 {i : Nat} {a b : ME} : (evSV c own n (.set i (.idx a b)) σ).bind kf = (evV c (.idx a b) σ).bind fun v => kf (.nx (asg own σ i (.idx a b) v)) := by
  show ((evV c (.idx a b) σ).bind fun v => Rv.ok (Fv.nx (asg own σ i (.idx a b) v))).bind kf = _
  rw [bb]; rfl
theorem u_set17 {i : Nat} {a : ME} {lo hi : Option ME} : (evSV c own n (.set i (.slc a lo hi)) σ).bind kf = (evV c (.slc a lo hi) σ).bind fun v => kf (.nx (asg own σ i (.slc a lo hi) v)) := by
  show ((evV c (.slc a lo hi) σ).bind fun v => Rv.ok (Fv.nx (asg own σ i (.slc a lo hi) v))).bind kf = _
  rw [bb]; rfl
theorem u_set18 {i : Nat} {f : String} {es : List ME} : (evSV c own n (.set i (.call f es)) σ).bind kf = (evV c (.call f es) σ).bind fun v => kf (.nx (asg own σ i (.call f es) v)) := by
  show ((evV c (.call f es) σ).bind fun v => Rv.ok (Fv.nx (asg own σ i (.call f es) v))).bind kf = _
  rw [bb]; rfl
theorem u_set19 {i : Nat} {f : Bf} {es : List ME} : (evSV c own n (.set i (.blt f es)) σ).bind kf = (evV c (.blt f es) σ).bind fun v => kf (.nx (asg own σ i (.blt f es) v)) := by
  show ((evV c (.blt f es) σ).bind fun v => Rv.ok (Fv.nx (asg own σ i (.blt f es) v))).bind kf = _
  rw [bb]; rfl
theorem u_set20 {i : Nat} {e : ME} {t : Ty} : (evSV c own n (.set i (.isi e t)) σ).bind kf = (evV c (.isi e t) σ).bind fun v => kf (.nx (asg own σ i (.isi e t) v)) := by
  show ((evV c (.isi e t) σ).bind fun v => Rv.ok (Fv.nx (asg own σ i (.isi e t) v))).bind kf = _
  rw [bb]; rfl
theorem u_set21 {i : Nat} {e : ME} {t : Nat} : (evSV c own n (.set i (.ise e t)) σ).bind kf = (evV c (.ise e t) σ).bind fun v => kf (.nx (asg own σ i (.ise e t) v)) := by
  show ((evV c (.ise e t) σ).bind fun v => Rv.ok (Fv.nx (asg own σ i (.ise e t) v))).bind kf = _
  rw [bb]; rfl
theorem u_set22 {i : Nat} {tg : Tgt} {it : ITr} {cond : Option ME} {elt : ME} : (evSV c own n (.set i (.lc tg it cond elt)) σ).bind kf = (evV c (.lc tg it cond elt) σ).bind fun v => kf (.nx (asg own σ i (.lc tg it cond elt) v)) := by
  show ((evV c (.lc tg it cond elt) σ).bind fun v => Rv.ok (Fv.nx (asg own σ i (.lc tg it cond elt) v))).bind kf = _
  rw [bb]; rfl
theorem u_set23 {i : Nat} {mx : Bool} {e d : ME} : (evSV c own n (.set i (.mdef mx e d)) σ).bind kf = (evV c (.mdef mx e d) σ).bind fun v => kf (.nx (asg own σ i (.mdef mx e d) v)) := by
  show ((evV c (.mdef mx e d) σ).bind fun v => Rv.ok (Fv.nx (asg own σ i (.mdef mx e d) v))).bind kf = _
  rw [bb]; rfl
theorem u_set24 {i : Nat} {e : ME} : (evSV c own n (.set i (.sset e)) σ).bind kf = (evV c (.sset e) σ).bind fun v => kf (.nx (asg own σ i (.sset e) v)) := by
  show ((evV c (.sset e) σ).bind fun v => Rv.ok (Fv.nx (asg own σ i (.sset e) v))).bind kf = _
  rw [bb]; rfl
theorem u_set25 {i : Nat} {e : ME} : (evSV c own n (.set i (.lset e)) σ).bind kf = (evV c (.lset e) σ).bind fun v => kf (.nx (asg own σ i (.lset e) v)) := by
  show ((evV c (.lset e) σ).bind fun v => Rv.ok (Fv.nx (asg own σ i (.lset e) v))).bind kf = _
  rw [bb]; rfl
theorem u_set26 {i : Nat} {a : ME} {es : List ME} : (evSV c own n (.set i (.mth .index a es)) σ).bind kf = (evV c (.mth .index a es) σ).bind fun v => kf (.nx (asg own σ i (.mth .index a es) v)) := by
  show ((evV c (.mth .index a es) σ).bind fun v => Rv.ok (Fv.nx (asg own σ i (.mth .index a es) v))).bind kf = _
  rw [bb]; rfl
theorem u_set27 {i : Nat} {a : ME} {es : List ME} : (evSV c own n (.set i (.mth .count a es)) σ).bind kf = (evV c (.mth .count a es) σ).bind fun v => kf (.nx (asg own σ i (.mth .count a es) v)) := by
  show ((evV c (.mth .count a es) σ).bind fun v => Rv.ok (Fv.nx (asg own σ i (.mth .count a es) v))).bind kf = _
  rw [bb]; rfl
theorem u_set28 {i : Nat} {a : ME} {es : List ME} : (evSV c own n (.set i (.mth .join a es)) σ).bind kf = (evV c (.mth .join a es) σ).bind fun v => kf (.nx (asg own σ i (.mth .join a es) v)) := by
  show ((evV c (.mth .join a es) σ).bind fun v => Rv.ok (Fv.nx (asg own σ i (.mth .join a es) v))).bind kf = _
  rw [bb]; rfl
theorem u_set29 {i : Nat} {a : ME} {es : List ME} : (evSV c own n (.set i (.mth .get a es)) σ).bind kf = (evV c (.mth .get a es) σ).bind fun v => kf (.nx (asg own σ i (.mth .get a es) v)) := by
  show ((evV c (.mth .get a es) σ).bind fun v => Rv.ok (Fv.nx (asg own σ i (.mth .get a es) v))).bind kf = _
  rw [bb]; rfl
section
variable {i : Nat} {e : ME}
theorem asg_int {z : Int} : asg own σ i e (.int z) = σ.set i (.sh (.int z)) := rfl
theorem asg_bl {z : Bool} : asg own σ i e (.bl z) = σ.set i (.sh (.bl z)) := rfl
theorem asg_str {z : List Nat} : asg own σ i e (.str z) = σ.set i (.sh (.str z)) := rfl
theorem asg_non : asg own σ i e .non = σ.set i (.sh .non) := rfl
theorem asg_exc {z : Nat} : asg own σ i e (.exc z) = σ.set i (.sh (.exc z)) := rfl
theorem asg_sq {xs : List D} : asg own σ i e (.sq xs) = (shr (alA own σ e) σ).set i (if frsL own e = true then .ow (.sq xs) else .sh (.sq xs)) := rfl
theorem asg_dic {xs ys : List D} : asg own σ i e (.dic xs ys) = (shr (alA own σ e) σ).set i (if frsL own e = true then .ow (.dic xs ys) else .sh (.dic xs ys)) := rfl
theorem asg_tup {xs : List D} : asg own σ i e (.tup xs) = (shr (alA own σ e) σ).set i (if frs own e (.tup xs) = true then .ow (.tup xs) else .sh (.tup xs)) := rfl
end
def mv (σ : Sg) (i j : Nat) (v : D) : Sg := if isOw σ j = true then (σ.set j .no).set i (.ow v) else σ.set i (.sh v)
theorem u_mv {i j : Nat} : (evSV c own n (.set i (.loc j)) σ).bind kf = (locV σ j).bind fun v => kf (.nx (mv σ i j v)) := by
  show ((locV σ j).bind fun v => if isOw σ j = true then Rv.ok (Fv.nx ((σ.set j .no).set i (.ow v))) else Rv.ok (.nx (σ.set i (.sh v)))).bind kf = _
  rw [bb, bdo, bdo]
  congr 1
  funext v
  unfold mv
  split <;> rfl
theorem u_pop {i j : Nat} {es : List ME} : (evSV c own n (.set i (.mth .pop (.loc j) es)) σ).bind kf = ifV (isOwL σ j) ((evVs c es σ).bind fun ds => (doM .pop j ds (escs own es ds σ)).bind fun p => kf (.nx (p.2.set i (.sh p.1)))) .bad := by
  show (if isOwL σ j = true then (evVs c es σ).bind fun ds => (doM .pop j ds (escs own es ds σ)).bind fun p => Rv.ok (Fv.nx (p.2.set i (.sh p.1))) else .bad).bind kf = _
  rw [ite_b]
  simp only [ifo, bdo, bbd, ite_d]
  rfl
theorem u_upk {is : List Nat} {e : ME} : (evSV c own n (.upk is e) σ).bind kf = (evV c e σ).bind fun v => (upkV own σ is e v).bind kf := by
  show ((evV c e σ).bind fun v => upkV own σ is e v).bind kf = _
  rw [bb]
theorem u_par {is : List Nat} {es : List ME} : (evSV c own n (.par is es) σ).bind kf = (evVs c es σ).bind fun ds => (ofV (setsV is ds (escs own es ds σ))).bind fun σ' => kf (.nx σ') := by
  show ((evVs c es σ).bind fun ds => (ofV (setsV is ds (escs own es ds σ))).bind fun σ' => Rv.ok (Fv.nx σ')).bind kf = _
  simp only [ifo, bdo, bbd, ite_d]; rfl
theorem u_sub {i : Nat} {a e : ME} : (evSV c own n (.sub (.loc i) a e) σ).bind kf = ifV (isOw σ i) ((evV c e σ).bind fun v => (evV c a σ).bind fun kk => (putSl i kk v (esc own σ e v)).bind fun σ' => kf (.nx σ')) .bad := by
  show (if isOw σ i = true then (evV c e σ).bind fun v => (evV c a σ).bind fun kk => (putSl i kk v (esc own σ e v)).bind fun σ' => Rv.ok (Fv.nx σ') else .bad).bind kf = _
  rw [ite_b]
  simp only [ifo, bdo, bbd, ite_d]
  rfl
theorem u_appT {i : Nat} {es : List ME} : (evSV c own n (.exp (.mth .append (.loc i) [.tup es])) σ).bind kf = ifV (isOwL σ i) ((evPs c own es σ).bind fun q => (doM .append i [.tup q.1] q.2).bind fun p => kf (.nx p.2)) .bad := by
  show (if isOwL σ i = true then (evPs c own es σ).bind fun q => (doM .append i [.tup q.1] q.2).bind fun p => Rv.ok (Fv.nx p.2) else .bad).bind kf = _
  rw [ite_b]
  simp only [ifo, bdo, bbd, ite_d]
  rfl
def appV (c : ClV) (own : String → Nat) (m : Mh) (i : Nat) (es : List ME) (σ : Sg) : Rv Sg := if isOwL σ i = true then (evVs c es σ).bind fun ds => (doM m i ds (escs own es ds σ)).bind fun p => .ok p.2 else .bad

theorem u_app0 {i : Nat} {z : Int} : (evSV c own n (.exp (.mth .append (.loc i) [.cst (.int z)])) σ).bind kf = (appV c own .append i [.cst (.int z)] σ).bind fun σ' => kf (.nx σ') := by
  show (if isOwL σ i = true then (evVs c [.cst (.int z)] σ).bind fun ds => (doM .append i ds (escs own [.cst (.int z)] ds σ)).bind fun p => Rv.ok (Fv.nx p.2) else .bad).bind kf = _
  unfold appV
  rw [ite_b, ite_b]
  simp only [ifo, bdo, bbd, ite_d]
  rfl
theorem u_app1 {i : Nat} {z : List Nat} : (evSV c own n (.exp (.mth .append (.loc i) [.cst (.str z)])) σ).bind kf = (appV c own .append i [.cst (.str z)] σ).bind fun σ' => kf (.nx σ') := by
  show (if isOwL σ i = true then (evVs c [.cst (.str z)] σ).bind fun ds => (doM .append i ds (escs own [.cst (.str z)] ds σ)).bind fun p => Rv.ok (Fv.nx p.2) else .bad).bind kf = _
  unfold appV
  rw [ite_b, ite_b]
  simp only [ifo, bdo, bbd, ite_d]
  rfl
theorem u_app2 {i : Nat} {z : Bool} : (evSV c own n (.exp (.mth .append (.loc i) [.cst (.bl z)])) σ).bind kf = (appV c own .append i [.cst (.bl z)] σ).bind fun σ' => kf (.nx σ') := by
  show (if isOwL σ i = true then (evVs c [.cst (.bl z)] σ).bind fun ds => (doM .append i ds (escs own [.cst (.bl z)] ds σ)).bind fun p => Rv.ok (Fv.nx p.2) else .bad).bind kf = _
  unfold appV
  rw [ite_b, ite_b]
  simp only [ifo, bdo, bbd, ite_d]
  rfl
theorem u_app3 {i : Nat}  : (evSV c own n (.exp (.mth .append (.loc i) [.cst .non])) σ).bind kf = (appV c own .append i [.cst .non] σ).bind fun σ' => kf (.nx σ') := by
  show (if isOwL σ i = true then (evVs c [.cst .non] σ).bind fun ds => (doM .append i ds (escs own [.cst .non] ds σ)).bind fun p => Rv.ok (Fv.nx p.2) else .bad).bind kf = _
  unfold appV
  rw [ite_b, ite_b]
  simp only [ifo, bdo, bbd, ite_d]
  rfl
theorem u_app4 {i : Nat} {z : List D} : (evSV c own n (.exp (.mth .append (.loc i) [.cst (.tup z)])) σ).bind kf = (appV c own .append i [.cst (.tup z)] σ).bind fun σ' => kf (.nx σ') := by
  show (if isOwL σ i = true then (evVs c [.cst (.tup z)] σ).bind fun ds => (doM .append i ds (escs own [.cst (.tup z)] ds σ)).bind fun p => Rv.ok (Fv.nx p.2) else .bad).bind kf = _
  unfold appV
  rw [ite_b, ite_b]
  simp only [ifo, bdo, bbd, ite_d]
  rfl
theorem u_app5 {i : Nat} {es : List ME} : (evSV c own n (.exp (.mth .append (.loc i) [.lst es])) σ).bind kf = (appV c own .append i [.lst es] σ).bind fun σ' => kf (.nx σ') := by
  show (if isOwL σ i = true then (evVs c [.lst es] σ).bind fun ds => (doM .append i ds (escs own [.lst es] ds σ)).bind fun p => Rv.ok (Fv.nx p.2) else .bad).bind kf = _
  unfold appV
  rw [ite_b, ite_b]
  simp only [ifo, bdo, bbd, ite_d]
  rfl
theorem u_app6 {i : Nat} {ks vs : List ME} : (evSV c own n (.exp (.mth .append (.loc i) [.dic ks vs])) σ).bind kf = (appV c own .append i [.dic ks vs] σ).bind fun σ' => kf (.nx σ') := by
  show (if isOwL σ i = true then (evVs c [.dic ks vs] σ).bind fun ds => (doM .append i ds (escs own [.dic ks vs] ds σ)).bind fun p => Rv.ok (Fv.nx p.2) else .bad).bind kf = _
  unfold appV
  rw [ite_b, ite_b]
  simp only [ifo, bdo, bbd, ite_d]
  rfl
theorem u_app7 {i : Nat} {o : Op} {a b : ME} : (evSV c own n (.exp (.mth .append (.loc i) [.bin o a b])) σ).bind kf = (appV c own .append i [.bin o a b] σ).bind fun σ' => kf (.nx σ') := by
  show (if isOwL σ i = true then (evVs c [.bin o a b] σ).bind fun ds => (doM .append i ds (escs own [.bin o a b] ds σ)).bind fun p => Rv.ok (Fv.nx p.2) else .bad).bind kf = _
  unfold appV
  rw [ite_b, ite_b]
  simp only [ifo, bdo, bbd, ite_d]
  rfl
theorem u_app8 {i : Nat} {a : ME} : (evSV c own n (.exp (.mth .append (.loc i) [.neg a])) σ).bind kf = (appV c own .append i [.neg a] σ).bind fun σ' => kf (.nx σ') := by
  show (if isOwL σ i = true then (evVs c [.neg a] σ).bind fun ds => (doM .append i ds (escs own [.neg a] ds σ)).bind fun p => Rv.ok (Fv.nx p.2) else .bad).bind kf = _
  unfold appV
  rw [ite_b, ite_b]
  simp only [ifo, bdo, bbd, ite_d]
  rfl
theorem u_app9 {i : Nat} {a : ME} : (evSV c own n (.exp (.mth .append (.loc i) [.not a])) σ).bind kf = (appV c own .append i [.not a] σ).bind fun σ' => kf (.nx σ') := by
  show (if isOwL σ i = true then (evVs c [.not a] σ).bind fun ds => (doM .append i ds (escs own [.not a] ds σ)).bind fun p => Rv.ok (Fv.nx p.2) else .bad).bind kf = _
  unfold appV
  rw [ite_b, ite_b]
  simp only [ifo, bdo, bbd, ite_d]
  rfl
theorem u_app10 {i : Nat} {a b : ME} : (evSV c own n (.exp (.mth .append (.loc i) [.and a b])) σ).bind kf = (appV c own .append i [.and a b] σ).bind fun σ' => kf (.nx σ') := by
  show (if isOwL σ i = true then (evVs c [.and a b] σ).bind fun ds => (doM .append i ds (escs own [.and a b] ds σ)).bind fun p => Rv.ok (Fv.nx p.2) else .bad).bind kf = _
  unfold appV
  rw [ite_b, ite_b]
  simp only [ifo, bdo, bbd, ite_d]
  rfl
theorem u_app11 {i : Nat} {a b : ME} : (evSV c own n (.exp (.mth .append (.loc i) [.or a b])) σ).bind kf = (appV c own .append i [.or a b] σ).bind fun σ' => kf (.nx σ') := by
  show (if isOwL σ i = true then (evVs c [.or a b] σ).bind fun ds => (doM .append i ds (escs own [.or a b] ds σ)).bind fun p => Rv.ok (Fv.nx p.2) else .bad).bind kf = _
  unfold appV
  rw [ite_b, ite_b]
  simp only [ifo, bdo, bbd, ite_d]
  rfl
theorem u_app12 {i : Nat} {o : Cm} {a b : ME} : (evSV c own n (.exp (.mth .append (.loc i) [.cmp o a b])) σ).bind kf = (appV c own .append i [.cmp o a b] σ).bind fun σ' => kf (.nx σ') := by
  show (if isOwL σ i = true then (evVs c [.cmp o a b] σ).bind fun ds => (doM .append i ds (escs own [.cmp o a b] ds σ)).bind fun p => Rv.ok (Fv.nx p.2) else .bad).bind kf = _
  unfold appV
  rw [ite_b, ite_b]
  simp only [ifo, bdo, bbd, ite_d]
  rfl
theorem u_app13 {i : Nat} {o p : Cm} {a b d : ME} : (evSV c own n (.exp (.mth .append (.loc i) [.chn o p a b d])) σ).bind kf = (appV c own .append i [.chn o p a b d] σ).bind fun σ' => kf (.nx σ') := by
  show (if isOwL σ i = true then (evVs c [.chn o p a b d] σ).bind fun ds => (doM .append i ds (escs own [.chn o p a b d] ds σ)).bind fun p => Rv.ok (Fv.nx p.2) else .bad).bind kf = _
  unfold appV
  rw [ite_b, ite_b]
  simp only [ifo, bdo, bbd, ite_d]
  rfl
theorem u_app14 {i : Nat} {t a b : ME} : (evSV c own n (.exp (.mth .append (.loc i) [.ife t a b])) σ).bind kf = (appV c own .append i [.ife t a b] σ).bind fun σ' => kf (.nx σ') := by
  show (if isOwL σ i = true then (evVs c [.ife t a b] σ).bind fun ds => (doM .append i ds (escs own [.ife t a b] ds σ)).bind fun p => Rv.ok (Fv.nx p.2) else .bad).bind kf = _
  unfold appV
  rw [ite_b, ite_b]
  simp only [ifo, bdo, bbd, ite_d]
  rfl
theorem u_app15 {i : Nat} {a b : ME} : (evSV c own n (.exp (.mth .append (.loc i) [.idx a b])) σ).bind kf = (appV c own .append i [.idx a b] σ).bind fun σ' => kf (.nx σ') := by
  show (if isOwL σ i = true then (evVs c [.idx a b] σ).bind fun ds => (doM .append i ds (escs own [.idx a b] ds σ)).bind fun p => Rv.ok (Fv.nx p.2) else .bad).bind kf = _
  unfold appV
  rw [ite_b, ite_b]
  simp only [ifo, bdo, bbd, ite_d]
  rfl
theorem u_app16 {i : Nat} {a : ME} {lo hi : Option ME} : (evSV c own n (.exp (.mth .append (.loc i) [.slc a lo hi])) σ).bind kf = (appV c own .append i [.slc a lo hi] σ).bind fun σ' => kf (.nx σ') := by
  show (if isOwL σ i = true then (evVs c [.slc a lo hi] σ).bind fun ds => (doM .append i ds (escs own [.slc a lo hi] ds σ)).bind fun p => Rv.ok (Fv.nx p.2) else .bad).bind kf = _
  unfold appV
  rw [ite_b, ite_b]
  simp only [ifo, bdo, bbd, ite_d]
  rfl
theorem u_app17 {i : Nat} {f : String} {es : List ME} : (evSV c own n (.exp (.mth .append (.loc i) [.call f es])) σ).bind kf = (appV c own .append i [.call f es] σ).bind fun σ' => kf (.nx σ') := by
  show (if isOwL σ i = true then (evVs c [.call f es] σ).bind fun ds => (doM .append i ds (escs own [.call f es] ds σ)).bind fun p => Rv.ok (Fv.nx p.2) else .bad).bind kf = _
  unfold appV
  rw [ite_b, ite_b]
  simp only [ifo, bdo, bbd, ite_d]
  rfl
theorem u_app18 {i : Nat} {f : Bf} {es : List ME} : (evSV c own n (.exp (.mth .append (.loc i) [.blt f es])) σ).bind kf = (appV c own .append i [.blt f es] σ).bind fun σ' => kf (.nx σ') := by
  show (if isOwL σ i = true then (evVs c [.blt f es] σ).bind fun ds => (doM .append i ds (escs own [.blt f es] ds σ)).bind fun p => Rv.ok (Fv.nx p.2) else .bad).bind kf = _
  unfold appV
  rw [ite_b, ite_b]
  simp only [ifo, bdo, bbd, ite_d]
  rfl
theorem u_app19 {i : Nat} {e : ME} {t : Ty} : (evSV c own n (.exp (.mth .append (.loc i) [.isi e t])) σ).bind kf = (appV c own .append i [.isi e t] σ).bind fun σ' => kf (.nx σ') := by
  show (if isOwL σ i = true then (evVs c [.isi e t] σ).bind fun ds => (doM .append i ds (escs own [.isi e t] ds σ)).bind fun p => Rv.ok (Fv.nx p.2) else .bad).bind kf = _
  unfold appV
  rw [ite_b, ite_b]
  simp only [ifo, bdo, bbd, ite_d]
  rfl
theorem u_app20 {i : Nat} {e : ME} {t : Nat} : (evSV c own n (.exp (.mth .append (.loc i) [.ise e t])) σ).bind kf = (appV c own .append i [.ise e t] σ).bind fun σ' => kf (.nx σ') := by
  show (if isOwL σ i = true then (evVs c [.ise e t] σ).bind fun ds => (doM .append i ds (escs own [.ise e t] ds σ)).bind fun p => Rv.ok (Fv.nx p.2) else .bad).bind kf = _
  unfold appV
  rw [ite_b, ite_b]
  simp only [ifo, bdo, bbd, ite_d]
  rfl
theorem u_app21 {i : Nat} {tg : Tgt} {it : ITr} {cond : Option ME} {elt : ME} : (evSV c own n (.exp (.mth .append (.loc i) [.lc tg it cond elt])) σ).bind kf = (appV c own .append i [.lc tg it cond elt] σ).bind fun σ' => kf (.nx σ') := by
  show (if isOwL σ i = true then (evVs c [.lc tg it cond elt] σ).bind fun ds => (doM .append i ds (escs own [.lc tg it cond elt] ds σ)).bind fun p => Rv.ok (Fv.nx p.2) else .bad).bind kf = _
  unfold appV
  rw [ite_b, ite_b]
  simp only [ifo, bdo, bbd, ite_d]
  rfl
theorem u_app22 {i : Nat} {mx : Bool} {e d : ME} : (evSV c own n (.exp (.mth .append (.loc i) [.mdef mx e d])) σ).bind kf = (appV c own .append i [.mdef mx e d] σ).bind fun σ' => kf (.nx σ') := by
  show (if isOwL σ i = true then (evVs c [.mdef mx e d] σ).bind fun ds => (doM .append i ds (escs own [.mdef mx e d] ds σ)).bind fun p => Rv.ok (Fv.nx p.2) else .bad).bind kf = _
  unfold appV
  rw [ite_b, ite_b]
  simp only [ifo, bdo, bbd, ite_d]
  rfl
theorem u_app23 {i : Nat} {e : ME} : (evSV c own n (.exp (.mth .append (.loc i) [.sset e])) σ).bind kf = (appV c own .append i [.sset e] σ).bind fun σ' => kf (.nx σ') := by
  show (if isOwL σ i = true then (evVs c [.sset e] σ).bind fun ds => (doM .append i ds (escs own [.sset e] ds σ)).bind fun p => Rv.ok (Fv.nx p.2) else .bad).bind kf = _
  unfold appV
  rw [ite_b, ite_b]
  simp only [ifo, bdo, bbd, ite_d]
  rfl
theorem u_app24 {i : Nat} {e : ME} : (evSV c own n (.exp (.mth .append (.loc i) [.lset e])) σ).bind kf = (appV c own .append i [.lset e] σ).bind fun σ' => kf (.nx σ') := by
  show (if isOwL σ i = true then (evVs c [.lset e] σ).bind fun ds => (doM .append i ds (escs own [.lset e] ds σ)).bind fun p => Rv.ok (Fv.nx p.2) else .bad).bind kf = _
  unfold appV
  rw [ite_b, ite_b]
  simp only [ifo, bdo, bbd, ite_d]
  rfl
theorem u_app25 {i : Nat} {a : ME} {es : List ME} : (evSV c own n (.exp (.mth .append (.loc i) [.mth .index a es])) σ).bind kf = (appV c own .append i [.mth .index a es] σ).bind fun σ' => kf (.nx σ') := by
  show (if isOwL σ i = true then (evVs c [.mth .index a es] σ).bind fun ds => (doM .append i ds (escs own [.mth .index a es] ds σ)).bind fun p => Rv.ok (Fv.nx p.2) else .bad).bind kf = _
  unfold appV
  rw [ite_b, ite_b]
  simp only [ifo, bdo, bbd, ite_d]
  rfl
theorem u_app26 {i : Nat} {a : ME} {es : List ME} : (evSV c own n (.exp (.mth .append (.loc i) [.mth .count a es])) σ).bind kf = (appV c own .append i [.mth .count a es] σ).bind fun σ' => kf (.nx σ') := by
  show (if isOwL σ i = true then (evVs c [.mth .count a es] σ).bind fun ds => (doM .append i ds (escs own [.mth .count a es] ds σ)).bind fun p => Rv.ok (Fv.nx p.2) else .bad).bind kf = _
  unfold appV
  rw [ite_b, ite_b]
  simp only [ifo, bdo, bbd, ite_d]
  rfl
theorem u_app27 {i : Nat} {a : ME} {es : List ME} : (evSV c own n (.exp (.mth .append (.loc i) [.mth .join a es])) σ).bind kf = (appV c own .append i [.mth .join a es] σ).bind fun σ' => kf (.nx σ') := by
  show (if isOwL σ i = true then (evVs c [.mth .join a es] σ).bind fun ds => (doM .append i ds (escs own [.mth .join a es] ds σ)).bind fun p => Rv.ok (Fv.nx p.2) else .bad).bind kf = _
  unfold appV
  rw [ite_b, ite_b]
  simp only [ifo, bdo, bbd, ite_d]
  rfl
theorem u_app28 {i : Nat} {a : ME} {es : List ME} : (evSV c own n (.exp (.mth .append (.loc i) [.mth .get a es])) σ).bind kf = (appV c own .append i [.mth .get a es] σ).bind fun σ' => kf (.nx σ') := by
  show (if isOwL σ i = true then (evVs c [.mth .get a es] σ).bind fun ds => (doM .append i ds (escs own [.mth .get a es] ds σ)).bind fun p => Rv.ok (Fv.nx p.2) else .bad).bind kf = _
  unfold appV
  rw [ite_b, ite_b]
  simp only [ifo, bdo, bbd, ite_d]
  rfl
theorem u_app29 {i : Nat} {j : Nat} : (evSV c own n (.exp (.mth .append (.loc i) [.loc j])) σ).bind kf = (appV c own .append i [.loc j] σ).bind fun σ' => kf (.nx σ') := by
  show (if isOwL σ i = true then (evVs c [.loc j] σ).bind fun ds => (doM .append i ds (escs own [.loc j] ds σ)).bind fun p => Rv.ok (Fv.nx p.2) else .bad).bind kf = _
  unfold appV
  rw [ite_b, ite_b]
  simp only [ifo, bdo, bbd, ite_d]
  rfl
theorem u_rev {i : Nat} : (evSV c own n (.exp (.mth .reverse (.loc i) [])) σ).bind kf = (appV c own .reverse i [] σ).bind fun σ' => kf (.nx σ') := by
  show (if isOwL σ i = true then (evVs c [] σ).bind fun ds => (doM .reverse i ds (escs own [] ds σ)).bind fun p => Rv.ok (Fv.nx p.2) else .bad).bind kf = _
  unfold appV
  rw [ite_b, ite_b]
  simp only [ifo, bdo, bbd, ite_d]
  rfl
theorem u_clr {i : Nat} : (evSV c own n (.exp (.mth .clear (.loc i) [])) σ).bind kf = (appV c own .clear i [] σ).bind fun σ' => kf (.nx σ') := by
  show (if isOwL σ i = true then (evVs c [] σ).bind fun ds => (doM .clear i ds (escs own [] ds σ)).bind fun p => Rv.ok (Fv.nx p.2) else .bad).bind kf = _
  unfold appV
  rw [ite_b, ite_b]
  simp only [ifo, bdo, bbd, ite_d]
  rfl
theorem u_expc {f : String} {es : List ME} : (evSV c own n (.exp (.call f es)) σ).bind kf = (evV c (.call f es) σ).bind fun _ => kf (.nx σ) := by
  show ((evV c (.call f es) σ).bind fun _ => Rv.ok (Fv.nx σ)).bind kf = _
  rw [bb]; rfl
theorem u_ret {e : ME} : (evSV c own n (.ret e) σ).bind kf = (evV c e σ).bind fun v => ifV (retOk own n σ e v) (kf (.rt v)) .bad := by
  show ((evV c e σ).bind fun v => if retOk own n σ e v = true then Rv.ok (Fv.rt v) else .bad).bind kf = _
  rw [bb, bdo, bdo]
  congr 1
  funext v
  exact ite_b
theorem ret0 {e : ME} {v : D} : retOk own 0 σ e v = true := rfl
theorem u_ife {t : ME} {a b : List MS} : (evSV c own n (.ife t a b) σ).bind kf = (evV c t σ).bind fun x => (truV x).bind fun v => ifV v ((evBV c own n a σ).bind kf) ((evBV c own n b σ).bind kf) := by
  show ((evV c t σ).bind fun x => (truV x).bind fun v => if v = true then evBV c own n a σ else evBV c own n b σ).bind kf = _
  simp only [ifo, bdo, bbd, ite_d]
noncomputable def bdy (c : ClV) (own : String → Nat) (n : Nat) (body : List MS) : Sg → Rv Fv := fun σ1 => evBV c own n body σ1
def tst (c : ClV) (t : ME) : Sg → Rv Bool := fun σ1 => (evV c t σ1).bind truV
theorem d_bdy {body : List MS} : (bdy c own n body σ).bind kf = (evBV c own n body σ).bind kf := rfl
theorem d_tst {t : ME} : (tst c t σ).bind kb = (evV c t σ).bind fun x => (truV x).bind kb := by
  show ((evV c t σ).bind truV).bind kb = _
  rw [bb]
theorem u_for {tg : Tgt} {it : ITr} {body : List MS} : (evSV c own n (.for_ tg it body) σ).bind kf = (evVi c it σ).bind fun xs => (forV tg (bdy c own n body) xs (shr (alIt own σ it) σ)).bind kf := by
  show ((evVi c it σ).bind fun xs => forV tg (bdy c own n body) xs (shr (alIt own σ it) σ)).bind kf = _
  rw [bb]
theorem u_whl {t : ME} {body : List MS} : (evSV c own n (.whl t body) σ).bind kf = (whlV (tst c t) (bdy c own n body) WFu σ).bind kf := rfl
theorem u_rse {z : Nat} : (evSV c own n (.rse z) σ).bind kf = .ex z := rfl
theorem u_pas : (evSV c own n .pas σ).bind kf = kf (.nx σ) := rfl
noncomputable def kB (c : ClV) (own : String → Nat) (n : Nat) (r : List MS) (kf : Fv → Rv β) : Fv → Rv β
  | .nx σ' => (evBV c own n r σ').bind kf
  | .rt d => kf (.rt d)
theorem kB_nx {r : List MS} : kB c own n r kf (.nx σ) = (evBV c own n r σ).bind kf := rfl
theorem kB_rt {r : List MS} {d : D} : kB c own n r kf (.rt d) = kf (.rt d) := rfl
theorem r_n : (evBV c own n [] σ).bind kf = kf (.nx σ) := rfl
theorem r_c {s : MS} {r : List MS} : (evBV c own n (s :: r) σ).bind kf = (evSV c own n s σ).bind (kB c own n r kf) := by
  show ((evSV c own n s σ).bind fun | .nx σ' => evBV c own n r σ' | .rt d => Rv.ok (.rt d)).bind kf = _
  rw [bb, bdo, bdo]
  congr 1
  funext f
  cases f <;> rfl

end
end MI

set_option autoImplicit false
set_option linter.all false
set_option Elab.async false
set_option maxRecDepth 100000
/-! VP2: operations, slots, defs, walks. -/
namespace MI
section
variable {β : Type} {k : D → Rv β} {kb : Bool → Rv β} {ki : Int → Rv β} {ks : List D → Rv β} {kp : D × Sg → Rv β} {kg : Sg → Rv β} {kt : Tk → Rv β} {i j : Int} {xs ys : List D}
theorem q_add : (binV .add (.int i) (.int j)).bind k = k (.int (i + j)) := rfl
theorem q_addb {b : Bool} : (binV .add (.int i) (.bl b)).bind k = k (.int (i + b2D b)) := rfl
theorem q_sub : (binV .sub (.int i) (.int j)).bind k = k (.int (i - j)) := rfl
theorem q_mod (h : 0 < j) : (binV .mod (.int i) (.int j)).bind k = k (.int (i % j)) := by
  unfold binV; simp only [h, if_true]; rfl
theorem q_fdiv (h : 0 < j ∧ j < 1073741824) : (binV .fdiv (.int i) (.int j)).bind k = k (.int (i / j)) := by
  unfold binV; simp only [h, and_self, if_true]; rfl
theorem q_mulR (h : -18446744073709551616 < j ∧ j < 18446744073709551616) : (binV .mul (.int i) (.int j)).bind k = k (.int (i * j)) := by
  unfold binV; simp only; rw [if_pos (.inl (.inr h))]; rfl
theorem q_mulL (h : -18446744073709551616 < i ∧ i < 18446744073709551616) : (binV .mul (.int i) (.int j)).bind k = k (.int (i * j)) := by
  unfold binV; simp only; rw [if_pos (.inl (.inl h))]; rfl
theorem q_mulG (h : i.natAbs.log2 + j.natAbs.log2 < 134217000) : (binV .mul (.int i) (.int j)).bind k = k (.int (i * j)) := by
  unfold binV; simp only; rw [if_pos (.inr h)]; rfl
theorem q_pow (h : (0 ≤ j ∧ j ≤ 1000000) ∧ i.natAbs < 18446744073709551616) : (binV .pow (.int i) (.int j)).bind k = k (.int (i ^ j.toNat)) := by
  unfold binV; simp only; rw [if_pos ⟨h.1.1, h.1.2, h.2⟩]; rfl
theorem q_cat (h : xs.length + ys.length ≤ 16777216) : (binV .add (.sq xs) (.sq ys)).bind k = k (.sq (xs ++ ys)) := by
  have h' : xs.length + ys.length ≤ lim := h
  unfold binV; simp only [h', if_true]; rfl
theorem q_catT (h : xs.length + ys.length ≤ 16777216) : (binV .add (.tup xs) (.tup ys)).bind k = k (.tup (xs ++ ys)) := by
  have h' : xs.length + ys.length ≤ lim := h
  unfold binV; simp only [h', if_true]; rfl
theorem q_catS {a b : List Nat} (h : a.length + b.length ≤ 16777216) : (binV .add (.str a) (.str b)).bind k = k (.str (a ++ b)) := by
  have h' : a.length + b.length ≤ lim := h
  unfold binV; simp only [h', if_true]; rfl
/-! comparisons -/
theorem q_lt : (cmpV .lt (.int i) (.int j)).bind kb = kb (decide (i < j)) := rfl
theorem q_le : (cmpV .le (.int i) (.int j)).bind kb = kb (decide (i ≤ j)) := rfl
theorem q_gt : (cmpV .gt (.int i) (.int j)).bind kb = kb (decide (j < i)) := rfl
theorem q_ge : (cmpV .ge (.int i) (.int j)).bind kb = kb (decide (j ≤ i)) := rfl
theorem q_eqi : (cmpV .eq (.int i) (.int j)).bind kb = kb (i == j) := rfl
theorem q_nei : (cmpV .ne (.int i) (.int j)).bind kb = kb (!(i == j)) := rfl
theorem q_eqb {b c : Bool} : (cmpV .eq (.bl b) (.bl c)).bind kb = kb (b == c) := rfl
theorem q_neb {b c : Bool} : (cmpV .ne (.bl b) (.bl c)).bind kb = kb (!(b == c)) := rfl
theorem q_eqG {x y : D} (h : shpV x = true ∧ shpV y = true) : (cmpV .eq x y).bind kb = kb (D.eqv x y) := by
  show (eqV x y).bind kb = _
  unfold eqV
  split
  · rfl
  · rfl
  · rw [h.1, h.2]; rfl
theorem q_neG {x y : D} (h : shpV x = true ∧ shpV y = true) : (cmpV .ne x y).bind kb = kb (!D.eqv x y) := by
  show ((eqV x y).bind fun b => Rv.ok (!b)).bind kb = _
  rw [bb]
  exact q_eqG (kb := fun b => kb (!b)) h
def strOk (a : List Nat) : Bool := a.all fun c => decide (c < 1114112)
theorem shp_str {a : List Nat} (h : strOk a = true) : shpV (.str a) = true := by
  show ((D.fine (.str a) && decide (0 ≤ 60)) && decide (0 ≤ 6)) = true
  rw [D.fine, show (a.all fun c => decide (c < 1114112)) = true from h]; rfl
theorem q_eqs {a b : List Nat} (h : strOk a = true) (h2 : strOk b = true) : (cmpV .eq (.str a) (.str b)).bind kb = kb (a == b) := q_eqG ⟨shp_str h, shp_str h2⟩
theorem q_nes {a b : List Nat} (h : strOk a = true) (h2 : strOk b = true) : (cmpV .ne (.str a) (.str b)).bind kb = kb (!(a == b)) := q_neG ⟨shp_str h, shp_str h2⟩
theorem q_est {a : List Nat} (h : strOk a = true) : (cmpV .eq (.str a) (.str a)).bind kb = kb true := by rw [q_eqs h h, beq_self_eq_true]
theorem q_esf {a b : List Nat} (h : strOk a = true) (h2 : strOk b = true) (h3 : (a == b) = false) : (cmpV .eq (.str a) (.str b)).bind kb = kb false := by rw [q_eqs h h2, h3]
theorem q_nst {a : List Nat} (h : strOk a = true) : (cmpV .ne (.str a) (.str a)).bind kb = kb false := by rw [q_nes h h, beq_self_eq_true]; rfl
theorem q_nsf {a b : List Nat} (h : strOk a = true) (h2 : strOk b = true) (h3 : (a == b) = false) : (cmpV .ne (.str a) (.str b)).bind kb = kb true := by rw [q_nes h h2, h3]; rfl
theorem is_nn : (cmpV .is .non .non).bind kb = kb true := rfl
theorem is_bn {b : Bool} : (cmpV .is (.bl b) .non).bind kb = kb false := rfl
theorem is_in : (cmpV .is (.int i) .non).bind kb = kb false := rfl
theorem is_tn : (cmpV .is (.tup xs) .non).bind kb = kb false := rfl
theorem is_sn : (cmpV .is (.sq xs) .non).bind kb = kb false := rfl
theorem is_nb {b : Bool} : (cmpV .is .non (.bl b)).bind kb = kb false := rfl
theorem is_bb {b c : Bool} : (cmpV .is (.bl c) (.bl b)).bind kb = kb (c == b) := rfl
theorem is_tb {b : Bool} : (cmpV .is (.tup xs) (.bl b)).bind kb = kb false := rfl
theorem isn_nn : (cmpV .isn .non .non).bind kb = kb false := rfl
theorem isn_bn {b : Bool} : (cmpV .isn (.bl b) .non).bind kb = kb true := rfl
theorem isn_in : (cmpV .isn (.int i) .non).bind kb = kb true := rfl
theorem isn_tn : (cmpV .isn (.tup xs) .non).bind kb = kb true := rfl
theorem isn_sn : (cmpV .isn (.sq xs) .non).bind kb = kb true := rfl
theorem isn_nb {b : Bool} : (cmpV .isn .non (.bl b)).bind kb = kb true := rfl
theorem isn_bb {b c : Bool} : (cmpV .isn (.bl c) (.bl b)).bind kb = kb (!(c == b)) := rfl
/-! truth -/
theorem t_b {b : Bool} : (truV (.bl b)).bind kb = kb b := rfl
theorem t_n : (truV .non).bind kb = kb false := rfl
theorem t_i : (truV (.int i)).bind kb = kb (i != 0) := rfl
theorem t_q : (truV (.sq xs)).bind kb = kb (!xs.isEmpty) := rfl
theorem t_t (h : xs.length ≤ 16777216) : (truV (.tup xs)).bind kb = kb (!xs.isEmpty) := by
  have h' : xs.length ≤ lim := h
  unfold truV; simp only [h', if_true]; rfl
/-! subscripts -/
theorem x_t : (idxV (.tup xs) (.int i)).bind k = (ofV (atD xs i)).bind k := rfl
theorem x_q : (idxV (.sq xs) (.int i)).bind k = (ofV (atD xs i)).bind k := rfl
theorem x_s : (idxV (.lst xs) (.int i)).bind k = (ofV (atD xs i)).bind k := rfl
theorem x_o {α : Type} {a : α} {k : α → Rv β} : (ofV (some a)).bind k = k a := rfl
theorem at_0 {a : D} : atD (a :: xs) 0 = some a := by unfold atD ixD; simp
theorem at_1 {a b : D} : atD (a :: b :: xs) 1 = some b := by
  unfold atD ixD
  rw [if_pos (by decide), if_pos (by simp; omega)]
  rfl
theorem at_2 {a b c : D} : atD (a :: b :: c :: xs) 2 = some c := by
  unfold atD ixD
  rw [if_pos (by decide), if_pos (by simp; omega)]
  rfl
theorem at_3 {a b c d : D} : atD (a :: b :: c :: d :: xs) 3 = some d := by
  unfold atD ixD
  rw [if_pos (by decide), if_pos (by simp; omega)]
  rfl
theorem at_n {n : Nat} {d : D} (h : xs[n]? = some d) : atD xs (n : Int) = some d := by
  have := (List.getElem?_eq_some_iff.mp h).1
  unfold atD ixD
  rw [if_pos (by omega), if_pos (by omega)]
  exact h
theorem at_i {d : D} (h0 : 0 ≤ i) (h : xs[i.toNat]? = some d) : atD xs i = some d := by
  have := (List.getElem?_eq_some_iff.mp h).1
  unfold atD ixD
  rw [if_pos (by omega), if_pos (by omega)]
  exact h
theorem sl_t {lo hi : Option Int} : (slcV (.tup xs) lo hi).bind k = k (.tup (mcut xs lo hi)) := rfl
theorem sl_q {lo hi : Option Int} : (slcV (.sq xs) lo hi).bind k = k (.sq (mcut xs lo hi)) := rfl
theorem sl_l {lo hi : Option Int} : (slcV (.lst xs) lo hi).bind k = k (.sq (mcut xs lo hi)) := rfl
/-! built-in functions -/
theorem n_q : (bltV .len [.sq xs]).bind k = k (.int xs.length) := rfl
theorem n_t (h : xs.length ≤ 16777216) : (bltV .len [.tup xs]).bind k = k (.int xs.length) := by
  have h' : xs.length ≤ lim := h
  show (lenV (.tup xs)).bind k = _
  unfold lenV; simp only [h', if_true]; rfl
theorem n_l (h : xs.length ≤ 16777216) : (bltV .len [.lst xs]).bind k = k (.int xs.length) := by
  have h' : xs.length ≤ lim := h
  show (lenV (.lst xs)).bind k = _
  unfold lenV; simp only [h', if_true]; rfl
theorem n_s {a : List Nat} (h : a.length ≤ 16777216) : (bltV .len [.str a]).bind k = k (.int a.length) := by
  have h' : a.length ≤ lim := h
  show (lenV (.str a)).bind k = _
  unfold lenV; simp only [h', if_true]; rfl
theorem f_tq : (bltV .tuple [.sq xs]).bind k = k (.tup xs) := rfl
theorem f_tt : (bltV .tuple [.tup xs]).bind k = k (.tup xs) := rfl
theorem f_lt : (bltV .list [.tup xs]).bind k = k (.sq xs) := rfl
theorem f_lq : (bltV .list [.sq xs]).bind k = k (.sq xs) := rfl
theorem f_ll : (bltV .list [.lst xs]).bind k = k (.sq xs) := rfl
theorem f_ld : (bltV .list [.dic xs ys]).bind k = k (.sq xs) := rfl
theorem f_ii : (bltV .int [.int i]).bind k = k (.int i) := rfl
theorem f_ib {b : Bool} : (bltV .int [.bl b]).bind k = k (.int (b2D b)) := rfl
theorem f_min : (bltV .min [.int i, .int j]).bind k = k (.int (if j < i then j else i)) := rfl
theorem f_max : (bltV .max [.int i, .int j]).bind k = k (.int (if j > i then j else i)) := rfl
theorem bools_map : ∀ bs : List Bool, boolsOf (bs.map D.bl) = some bs
  | [] => rfl
  | b :: bs => by
    show (boolsOf (bs.map D.bl)).map (b :: ·) = _
    rw [bools_map bs]; rfl
theorem f_all {bs : List Bool} : (bltV .all [.sq (bs.map .bl)]).bind k = k (.bl (bs.all id)) := by
  show (ofV ((getV (.sq (bs.map D.bl))).bind fun xs => (boolsOf xs).map fun bs => D.bl (bs.all id))).bind k = _
  simp only [getV, Option.bind_some, bools_map]; rfl
theorem f_any {bs : List Bool} : (bltV .any [.sq (bs.map .bl)]).bind k = k (.bl (bs.any id)) := by
  show (ofV ((getV (.sq (bs.map D.bl))).bind fun xs => (boolsOf xs).map fun bs => D.bl (bs.any id))).bind k = _
  simp only [getV, Option.bind_some, bools_map]; rfl
theorem f_srt {ns : List Int} : (bltV .sorted [.sq (ns.map .int)]).bind k = k (.sq ((sortI ns).map .int)) := by
  show (ofV ((getV (.sq (ns.map D.int))).bind fun xs => match intsOf xs with
    | some ns => some (D.sq ((sortI ns).map .int))
    | none => (pairsOf xs).map fun ps => .sq ((sortP ps).map pairI))).bind k = _
  simp only [getV, Option.bind_some, ints_of]; rfl
theorem f_sset {ns : List Int} (h : ns.length < 4000 ∧ (uniq ns).length < 64) : (ssetV (.sq (ns.map .int))).bind k = k (.sq ((sortI (uniq ns)).map .int)) := by
  unfold ssetV
  simp only [getV, Option.bind_some, ints_of, h, and_self, if_true]; rfl
/-! kinds -/
theorem y_n : (ofV (tyV .non)).bind kt = kt .non := rfl
theorem y_b {b : Bool} : (ofV (tyV (.bl b))).bind kt = kt .bl := rfl
theorem y_i : (ofV (tyV (.int i))).bind kt = kt .int := rfl
theorem y_s {a : List Nat} : (ofV (tyV (.str a))).bind kt = kt .str := rfl
theorem y_t : (ofV (tyV (.tup xs))).bind kt = kt .tup := rfl
theorem y_q : (ofV (tyV (.sq xs))).bind kt = kt .list := rfl
theorem g_i : (getIV (.int i)).bind ki = ki i := rfl
/-! walks' items -/
theorem it_q (h : xs.length ≤ 16777216) : (itmV (.sq xs)).bind ks = ks xs := by
  have h' : xs.length ≤ lim := h
  unfold itmV small; simp only [h', if_true]; rfl
theorem it_t (h : xs.length ≤ 16777216) : (itmV (.tup xs)).bind ks = ks xs := by
  have h' : xs.length ≤ lim := h
  unfold itmV small; simp only [h', if_true]; rfl
theorem it_r (h : -16777216 ≤ i ∧ i ≤ 16777216) : (rngB i).bind ks = ks (rngV 0 i) := by
  unfold rngB; rw [if_pos h]; rfl
theorem it_r2 (h : (0 ≤ i ∧ i ≤ 16777216) ∧ -16777216 ≤ j ∧ j ≤ 16777216) : (rngB2 i j).bind ks = ks (rngV i j) := by
  unfold rngB2; rw [if_pos h]; rfl
theorem it_e (h : xs.length ≤ 16777216) : (enmB (.sq xs)).bind ks = ks (enmV xs) := by
  have h' : xs.length ≤ lim := h
  unfold enmB small; simp only [h', if_true]; rfl
theorem it_zq (h : xs.length ≤ 16777216) : (zipB (.sq xs) (.sq ys)).bind ks = ks (zipV xs ys) := by
  have h' : xs.length ≤ lim := h
  unfold zipB small; simp only [h', if_true]; rfl
theorem it_zt (h : xs.length ≤ 16777216) : (zipB (.tup xs) (.tup ys)).bind ks = ks (zipV xs ys) := by
  have h' : xs.length ≤ lim := h
  unfold zipB small; simp only [h', if_true]; rfl
/-! slots -/
variable {s : Sg} {v : D} {x : Sl} {m : Nat}
theorem mv_d {σ : Sg} {i j : Nat} : mv σ i j v = ifV (isOw σ j) ((σ.set j .no).set i (.ow v)) (σ.set i (.sh v)) := rfl
theorem ow_0n : isOw (.no :: s) 0 = false := rfl
theorem ow_0s : isOw (.sh v :: s) 0 = false := rfl
theorem ow_0o : isOw (.ow v :: s) 0 = true := rfl
theorem ow_S : isOw (x :: s) (m + 1) = isOw s m := rfl
theorem oL_0 : isOwL (.ow (.sq xs) :: s) 0 = true := rfl
theorem oL_S : isOwL (x :: s) (m + 1) = isOwL s m := rfl
theorem sh_n {σ : Sg} : shr [] σ = σ := rfl
theorem sh_c {σ : Sg} {L : List Nat} : shr (m :: L) σ = shr L (shr1 σ m) := rfl
theorem sh_0n : shr1 (.no :: s) 0 = .no :: s := rfl
theorem sh_0s : shr1 (.sh v :: s) 0 = .sh v :: s := rfl
theorem sh_0o : shr1 (.ow v :: s) 0 = .sh v :: s := rfl
theorem sh_S : shr1 (x :: s) (m + 1) = x :: shr1 s m := by
  unfold shr1
  rw [List.getElem?_cons_succ]
  cases e : s[m]? with
  | none => rfl
  | some y => cases y <;> rfl
theorem dM_S {mh : Mh} {ds : List D} : (doM mh (m + 1) ds (x :: s)).bind kp = (doM mh m ds s).bind fun p => kp (p.1, x :: p.2) := by
  unfold doM
  rw [List.getElem?_cons_succ]
  cases e : s[m]? with
  | none => rfl
  | some y => cases y with
    | ow v => simp only [ifo, bdo, bbd, ite_d]; rfl
    | _ => rfl
theorem dM_a {a : D} (h : xs.length < 16777216) : (doM .append 0 [a] (.ow (.sq xs) :: s)).bind kp = kp (.non, .ow (.sq (xs ++ [a])) :: s) := by
  have h' : xs.length < lim := h
  unfold doM
  simp only [List.getElem?_cons_zero]
  show ((mutV .append (.sq xs) [a]).bind _).bind kp = _
  unfold mutV
  simp only [h', if_true]
  rfl
theorem dM_p {a : D} (h : xs.getLast? = some a) : (doM .pop 0 [] (.ow (.sq xs) :: s)).bind kp = kp (a, .ow (.sq xs.dropLast) :: s) := by
  unfold doM
  simp only [List.getElem?_cons_zero]
  show ((mutV .pop (.sq xs) []).bind _).bind kp = _
  unfold mutV
  simp only [h]
  rfl
theorem dM_pc {a : D} : (doM .pop 0 [] (.ow (.sq (xs ++ [a])) :: s)).bind kp = kp (a, .ow (.sq xs) :: s) := by
  rw [dM_p (a := a) (by simp)]
  simp
theorem dM_r : (doM .reverse 0 [] (.ow (.sq xs) :: s)).bind kp = kp (.non, .ow (.sq xs.reverse) :: s) := rfl
theorem dM_c : (doM .clear 0 [] (.ow (.sq xs) :: s)).bind kp = kp (.non, .ow (.sq []) :: s) := rfl
theorem ap_d {c : ClV} {own : String → Nat} {mh : Mh} {i : Nat} {es : List ME} {σ : Sg} : (appV c own mh i es σ).bind kg = ifV (isOwL σ i) ((evVs c es σ).bind fun ds => (doM mh i ds (escs own es ds σ)).bind fun p => kg p.2) .bad := by
  unfold appV
  rw [ite_b]
  simp only [ifo, bdo, bbd, ite_d]
  rfl
theorem pS_0q {j : Int} (h : 0 ≤ j ∧ j < xs.length) : (putSl 0 (.int j) v (.ow (.sq xs) :: s)).bind kg = kg (.ow (.sq (xs.set j.toNat v)) :: s) := by
  unfold putSl
  simp only [List.getElem?_cons_zero, putV]
  have e : ixD xs.length j = some j.toNat := by
    unfold ixD
    rw [if_pos h.1, if_pos h.2]
  rw [e]; rfl
theorem pS_S {a : D} : (putSl (m + 1) a v (x :: s)).bind kg = (putSl m a v s).bind fun s' => kg (x :: s') := by
  unfold putSl
  rw [List.getElem?_cons_succ]
  cases e : s[m]? with
  | none => rfl
  | some y => cases y with
    | ow v => simp only [ifo, bdo, bbd, ite_d]; rfl
    | _ => rfl
theorem cl_n {t : Sg} {y : Sl} : clr (.no :: s) (y :: t) = .no :: clr s t := rfl
theorem cl_s {t : Sg} {y : Sl} : clr (.sh v :: s) (y :: t) = y :: clr s t := rfl
theorem cl_o {t : Sg} {y : Sl} : clr (.ow v :: s) (y :: t) = y :: clr s t := rfl
theorem cl_0 : clr [] [] = [] := rfl
end
/-! ### defs -/
structure Def (P : PrM) (T : VT) (f : String) (fd : FD) (o : Nat) : Prop where
  orc : T.orc f = none
  fd : P f = some fd
  own : T.own f = o
def fin {β : Type} (k : D → Rv β) : Fv → Rv β
  | .rt d => k d
  | .nx _ => k .non
theorem fin_rt {β : Type} {k : D → Rv β} {d : D} : fin k (.rt d) = k d := rfl
theorem fin_nx {β : Type} {k : D → Rv β} {σ : Sg} : fin k (.nx σ) = k .non := rfl
theorem run {P : PrM} {T : VT} {f : String} {fd : FD} {o : Nat} (h : Def P T f fd o) {β : Type} {k : D → Rv β} {n : Nat} {ds : List D} (hl : ds.length = fd.ar) :
    (callV P T (n + 1) f ds).bind k = (evBV (callV P T n) T.own o fd.body (ds.map Sl.sh ++ List.replicate (fd.ns - fd.ar) Sl.no)).bind (fin k) := by
  have e : callV P T (n + 1) f ds = runV (callV P T n) T.own (T.own f) fd ds := by
    show (match T.orc f with | some F => F n ds | none => match P f with | some fd => runV (callV P T n) T.own (T.own f) fd ds | none => .bad) = _
    rw [h.orc, h.fd]
  rw [e, h.own]
  unfold runV
  rw [if_pos hl, bb, bdo, bdo]
  congr 1
  funext fl
  cases fl <;> rfl
theorem run1 {P : PrM} {T : VT} {f : String} {fd : FD} {o : Nat} (h : Def P T f fd o) {n : Nat} {ds : List D} (hl : ds.length = fd.ar) :
    callV P T (n + 1) f ds = (evBV (callV P T n) T.own o fd.body (ds.map Sl.sh ++ List.replicate (fd.ns - fd.ar) Sl.no)).bind (fin Rv.ok) := by
  rw [← bo (callV P T (n + 1) f ds), run h hl]
/-! ### walks -/
def kT (σ : Sg) : Fv → Rv Fv
  | .nx σ2 => .ok (.nx (clr σ σ2))
  | .rt v => .ok (.rt v)
theorem kT_nx {σ σ2 : Sg} : kT σ (.nx σ2) = .ok (.nx (clr σ σ2)) := rfl
theorem kT_rt {σ : Sg} {v : D} : kT σ (.rt v) = .ok (.rt v) := rfl
def turn (tg : Tgt) (body : Sg → Rv Fv) (σ : Sg) (x : D) : Rv Fv := match setTV σ tg x with
  | none => .bad
  | some σ1 => (body σ1).bind (kT σ)
theorem turn1 {i : Nat} {body : Sg → Rv Fv} {σ : Sg} {x : D} : turn (.one i) body σ x = (body (σ.set i (.sh x))).bind (kT σ) := rfl
theorem turn2 {i j : Nat} {body : Sg → Rv Fv} {σ : Sg} {x y : D} : turn (.two i j) body σ (.tup [x, y]) = (body ((σ.set i (.sh x)).set j (.sh y))).bind (kT σ) := rfl
theorem for_c {tg : Tgt} {body : Sg → Rv Fv} {x : D} {xs : List D} {σ : Sg} : forV tg body (x :: xs) σ = (turn tg body σ x).bind fun
    | .nx σ2 => forV tg body xs σ2
    | .rt v => .ok (.rt v) := by
  rw [forV]
  unfold turn
  cases e : setTV σ tg x with
  | none => rfl
  | some σ1 =>
    simp only
    rw [bb, bdo, bdo]
    congr 1
    funext f
    cases f <;> rfl
/-- by the turn's number -/
theorem for_i {tg : Tgt} {body : Sg → Rv Fv} (E : Nat → Sg) : ∀ (xs : List D) (i : Nat), (∀ j d, xs[j]? = some d → turn tg body (E (i + j)) d = .ok (.nx (E (i + j + 1)))) → forV tg body xs (E i) = .ok (.nx (E (i + xs.length)))
  | [], i, _ => rfl
  | x :: xs, i, h => by
    have h0 := h 0 x rfl
    rw [for_c, show E i = E (i + 0) from rfl, h0]
    show forV tg body xs (E (i + 0 + 1)) = _
    have e : i + 0 + 1 = i + 1 := by omega
    rw [e, for_i E xs (i + 1) (fun j d hd => by
      have := h (j + 1) d (by simpa using hd)
      have e1 : i + (j + 1) = i + 1 + j := by omega
      rw [e1] at this
      exact this)]
    rw [List.length_cons]
    have e2 : i + 1 + xs.length = i + (xs.length + 1) := by omega
    rw [e2]
theorem for_I {tg : Tgt} {body : Sg → Rv Fv} (E : Nat → Sg) (xs : List D) (h : ∀ j d, xs[j]? = some d → turn tg body (E j) d = .ok (.nx (E (j + 1)))) : forV tg body xs (E 0) = .ok (.nx (E xs.length)) := by
  have := for_i (tg := tg) (body := body) E xs 0 (fun j d hd => by rw [Nat.zero_add]; exact h j d hd)
  rw [Nat.zero_add] at this
  exact this
/-- over a range -/
theorem for_r {tg : Tgt} {body : Sg → Rv Fv} (E : Nat → Sg) {lo hi : Int} {m : Nat} (hm : (hi - lo).toNat = m) (h : ∀ j, j < m → turn tg body (E j) (.int (lo + j)) = .ok (.nx (E (j + 1)))) : forV tg body (rngV lo hi) (E 0) = .ok (.nx (E m)) := by
  have e := for_I (tg := tg) (body := body) E (rngV lo hi) fun j d hd => by
    have hj := (List.getElem?_eq_some_iff.mp hd).1
    rw [rngV_len, hm] at hj
    unfold rngV at hd
    rw [List.getElem?_map, List.getElem?_range (by omega)] at hd
    cases hd
    exact h j hj
  rw [rngV_len, hm] at e
  exact e
/-- typed, by a fold -/
theorem for_f {tg : Tgt} {body : Sg → Rv Fv} {S X : Type} (E : S → Sg) (f : X → D) (step : S → X → S) (I : S → Prop) : ∀ (xs : List X) (s : S), I s → (∀ s x, x ∈ xs → I s → I (step s x) ∧ turn tg body (E s) (f x) = .ok (.nx (E (step s x)))) →
    forV tg body (xs.map f) (E s) = .ok (.nx (E (xs.foldl step s))) ∧ I (xs.foldl step s)
  | [], s, hs, _ => ⟨rfl, hs⟩
  | x :: xs, s, hs, h => by
    obtain ⟨h1, h2⟩ := h s x (by simp) hs
    rw [List.map_cons, for_c, h2, List.foldl_cons]
    exact for_f E f step I xs (step s x) h1 fun s y hy => h s y (List.mem_cons_of_mem _ hy)
/-- till one ends it -/
theorem for_s {tg : Tgt} {body : Sg → Rv Fv} {X : Type} {σ : Sg} (f : X → D) (q : X → Option (Rv Fv)) : ∀ (xs : List X), (∀ x r, x ∈ xs → q x = some r → (∃ v, r = .ok (.rt v)) ∨ ∃ c, r = .ex c) → (∀ x, x ∈ xs → turn tg body σ (f x) = (q x).getD (.ok (.nx σ))) →
    forV tg body (xs.map f) σ = (xs.findSome? q).getD (.ok (.nx σ))
  | [], _, _ => rfl
  | x :: xs, h1, h2 => by
    rw [List.map_cons, for_c, h2 x (by simp), List.findSome?_cons]
    cases e : q x with
    | none => exact for_s f q xs (fun y r hy => h1 y r (List.mem_cons_of_mem _ hy)) fun y hy => h2 y (List.mem_cons_of_mem _ hy)
    | some r =>
      rcases h1 x r (by simp) e with ⟨v, rfl⟩ | ⟨c, rfl⟩ <;> rfl
/-- a comprehension -/
theorem lc_f {tg : Tgt} {cV : Sg → Rv Bool} {eV : Sg → Rv D} {σ : Sg} {X : Type} (f g : X → D) (p : X → Bool) : ∀ (xs : List X), (∀ x, x ∈ xs → ∃ σ1, setTV (wipeTV σ tg) tg (f x) = some σ1 ∧ (cV σ1).bind Rv.ok = .ok (p x) ∧ (p x = true → (eV σ1).bind Rv.ok = .ok (g x))) →
    lcV tg cV eV σ (xs.map f) = .ok ((xs.filter p).map g)
  | [], _ => rfl
  | x :: xs, h => by
    obtain ⟨σ1, h1, h2, h3⟩ := h x (by simp)
    rw [bo] at h2
    have ih := lc_f f g p xs fun y hy => h y (List.mem_cons_of_mem _ hy)
    rw [List.map_cons, lcV, h1]
    simp only [h2]
    cases hp : p x with
    | true =>
      have h3 := h3 hp
      rw [bo] at h3
      simp only [h3, ih, List.filter_cons, hp, if_true]
      rfl
    | false =>
      simp only [ih, List.filter_cons, hp, Bool.false_eq_true, if_false]
theorem lc_m {tg : Tgt} {c : ClV} {eV : Sg → Rv D} {σ : Sg} {X : Type} (f g : X → D) (xs : List X) (h : ∀ x, x ∈ xs → ∃ σ1, setTV (wipeTV σ tg) tg (f x) = some σ1 ∧ (eV σ1).bind Rv.ok = .ok (g x)) :
    lcV tg (evVc c none) eV σ (xs.map f) = .ok (xs.map g) := by
  have := lc_f (tg := tg) (cV := evVc c none) (eV := eV) (σ := σ) f g (fun _ => true) xs fun x hx => by
    obtain ⟨σ1, h1, h2⟩ := h x hx
    exact ⟨σ1, h1, rfl, fun _ => h2⟩
  rw [this, List.filter_eq_self.mpr (fun _ _ => rfl)]
theorem rng_map {lo hi : Int} : rngV lo hi = (List.range (hi - lo).toNat).map fun (i : Nat) => D.int (lo + (i : Int)) := rfl
end MI

set_option autoImplicit false
set_option linter.all false
set_option Elab.async false
set_option maxRecDepth 100000
/-! VP3: popping parts, while. -/
namespace MI
section
variable {β : Type} {c : ClV} {σ : Sg} {own : String → Nat} {n : Nat} {kq : List D × Sg → Rv β} {es : List ME}
theorem p_n : (evPs c own [] σ).bind kq = kq ([], σ) := rfl
theorem p_pop {j : Nat} : (evPs c own (.mth .pop (.loc j) [] :: es) σ).bind kq = (doM .pop j [] σ).bind fun p => (evPs c own es p.2).bind fun q => kq (p.1 :: q.1, q.2) := by
  show ((doM .pop j [] σ).bind fun p => (evPs c own es p.2).bind fun q => Rv.ok (p.1 :: q.1, q.2)).bind kq = _
  simp only [ifo, bdo, bbd, ite_d]; rfl
theorem p_cst {d : D} : (evPs c own (.cst d :: es) σ).bind kq = (evV c (.cst d) σ).bind fun v => (evPs c own es (esc own σ (.cst d) v)).bind fun q => kq (v :: q.1, q.2) := by
  show ((evV c (.cst d) σ).bind fun v => (evPs c own es (esc own σ (.cst d) v)).bind fun q => Rv.ok (v :: q.1, q.2)).bind kq = _
  simp only [ifo, bdo, bbd, ite_d]; rfl
theorem p_loc {i : Nat} : (evPs c own (.loc i :: es) σ).bind kq = (evV c (.loc i) σ).bind fun v => (evPs c own es (esc own σ (.loc i) v)).bind fun q => kq (v :: q.1, q.2) := by
  show ((evV c (.loc i) σ).bind fun v => (evPs c own es (esc own σ (.loc i) v)).bind fun q => Rv.ok (v :: q.1, q.2)).bind kq = _
  simp only [ifo, bdo, bbd, ite_d]; rfl
theorem p_idx {a b : ME} : (evPs c own (.idx a b :: es) σ).bind kq = (evV c (.idx a b) σ).bind fun v => (evPs c own es (esc own σ (.idx a b) v)).bind fun q => kq (v :: q.1, q.2) := by
  show ((evV c (.idx a b) σ).bind fun v => (evPs c own es (esc own σ (.idx a b) v)).bind fun q => Rv.ok (v :: q.1, q.2)).bind kq = _
  simp only [ifo, bdo, bbd, ite_d]; rfl
theorem p_call {f : String} {xs : List ME} : (evPs c own (.call f xs :: es) σ).bind kq = (evV c (.call f xs) σ).bind fun v => (evPs c own es (esc own σ (.call f xs) v)).bind fun q => kq (v :: q.1, q.2) := by
  show ((evV c (.call f xs) σ).bind fun v => (evPs c own es (esc own σ (.call f xs) v)).bind fun q => Rv.ok (v :: q.1, q.2)).bind kq = _
  simp only [ifo, bdo, bbd, ite_d]; rfl
theorem p_bin {o : Op} {a b : ME} : (evPs c own (.bin o a b :: es) σ).bind kq = (evV c (.bin o a b) σ).bind fun v => (evPs c own es (esc own σ (.bin o a b) v)).bind fun q => kq (v :: q.1, q.2) := by
  show ((evV c (.bin o a b) σ).bind fun v => (evPs c own es (esc own σ (.bin o a b) v)).bind fun q => Rv.ok (v :: q.1, q.2)).bind kq = _
  simp only [ifo, bdo, bbd, ite_d]; rfl
theorem p_tup {xs : List ME} : (evPs c own (.tup xs :: es) σ).bind kq = (evV c (.tup xs) σ).bind fun v => (evPs c own es (esc own σ (.tup xs) v)).bind fun q => kq (v :: q.1, q.2) := by
  show ((evV c (.tup xs) σ).bind fun v => (evPs c own es (esc own σ (.tup xs) v)).bind fun q => Rv.ok (v :: q.1, q.2)).bind kq = _
  simp only [ifo, bdo, bbd, ite_d]; rfl
theorem p_cmp {o : Cm} {a b : ME} : (evPs c own (.cmp o a b :: es) σ).bind kq = (evV c (.cmp o a b) σ).bind fun v => (evPs c own es (esc own σ (.cmp o a b) v)).bind fun q => kq (v :: q.1, q.2) := by
  show ((evV c (.cmp o a b) σ).bind fun v => (evPs c own es (esc own σ (.cmp o a b) v)).bind fun q => Rv.ok (v :: q.1, q.2)).bind kq = _
  simp only [ifo, bdo, bbd, ite_d]; rfl
theorem es_s {e : ME} {z : List Nat} : esc own σ e (.str z) = σ := rfl
theorem es_i {e : ME} {z : Int} : esc own σ e (.int z) = σ := rfl
theorem es_b {e : ME} {z : Bool} : esc own σ e (.bl z) = σ := rfl
theorem es_n {e : ME} : esc own σ e .non = σ := rfl
theorem es_t {e : ME} {z : List D} : esc own σ e (.tup z) = shr (alA own σ e) σ := rfl
theorem es_q {e : ME} {z : List D} : esc own σ e (.sq z) = shr (alA own σ e) σ := rfl
theorem ih_t {z : List D} : isH (.tup z) = true := rfl
theorem ih_q {z : List D} : isH (.sq z) = true := rfl
theorem ih_d {y z : List D} : isH (.dic y z) = true := rfl
theorem ih_i {z : Int} : isH (.int z) = false := rfl
theorem ih_b {z : Bool} : isH (.bl z) = false := rfl
theorem ih_s {z : List Nat} : isH (.str z) = false := rfl
theorem ih_n : isH .non = false := rfl
/-- a while by a measure -/
theorem whl_m {tV : Sg → Rv Bool} {bV : Sg → Rv Fv} {S : Type} (E : S → Sg) (cond : S → Bool) (step : S → S) (mea : S → Nat) (I : S → Prop) (ht : ∀ s, I s → (tV (E s)).bind Rv.ok = .ok (cond s))
    (hb : ∀ s, I s → cond s = true → I (step s) ∧ mea (step s) < mea s ∧ (bV (E s)).bind (kT (E s)) = .ok (.nx (E (step s)))) :
    ∀ (n : Nat) (s : S), I s → mea s < n → ∃ s', I s' ∧ cond s' = false ∧ whlV tV bV n (E s) = .ok (.nx (E s'))
  | 0, s, _, h => by omega
  | n + 1, s, hs, h => by
    have h1 := ht s hs
    rw [bo] at h1
    rw [whlV, h1]
    show ∃ s', I s' ∧ cond s' = false ∧ (if cond s = true then _ else _) = _
    cases hc : cond s with
    | false => exact ⟨s, hs, hc, rfl⟩
    | true =>
      obtain ⟨h2, h3, h4⟩ := hb s hs hc
      obtain ⟨s', g1, g2, g3⟩ := whl_m E cond step mea I ht hb n (step s) h2 (by omega)
      refine ⟨s', g1, g2, ?_⟩
      rw [if_pos rfl]
      rw [← g3]
      have e : ((bV (E s)).bind fun | .nx σ2 => whlV tV bV n (clr (E s) σ2) | .rt v => .ok (.rt v)) = ((bV (E s)).bind (kT (E s))).bind fun | .nx σ2 => whlV tV bV n σ2 | .rt v => .ok (.rt v) := by
        rw [bb, bdo, bdo]
        congr 1
        funext f
        cases f <;> rfl
      refine Eq.trans e ?_
      rw [h4]
      rfl
theorem wfu_lt {m : Nat} (h : m < 1099511627776) : m < WFu := by have := wfu_ge; omega
end
/-- a body in two parts -/
theorem rest_k {β : Type} {c : ClV} {own : String → Nat} {n : Nat} {b : List MS} {kf : Fv → Rv β} : ∀ (a : List MS) (σ : Sg), (evBV c own n (a ++ b) σ).bind kf = (evBV c own n a σ).bind (kB c own n b kf)
  | [], σ => rfl
  | s :: a, σ => by
    rw [List.cons_append, r_c, r_c, bdo, bdo]
    congr 1
    funext f
    cases f with
    | nx σ' => exact rest_k a σ'
    | rt d => rfl
theorem rest_n {β : Type} {c : ClV} {own : String → Nat} {n : Nat} {b : List MS} {kf : Fv → Rv β} {σ : Sg} : kB c own n b kf (.nx σ) = (evBV c own n b σ).bind kf := rfl
end MI

set_option autoImplicit false
set_option linter.all false
set_option Elab.async false
set_option maxRecDepth 100000
/-! VP4: refusals: try, isinstance of what is caught. -/
namespace MI
section
variable {β : Type} {c : ClV} {σ : Sg} {own : String → Nat} {n : Nat} {k : D → Rv β} {kf : Fv → Rv β} {ku : Unit → Rv β}
/-- what becomes of a try -/
def tryV (σ : Sg) (x : Rv Unit) (h : Nat → Rv Fv) (_ : Fx h := ()) : Rv Fv := match x with
  | .ok _ => .ok (.nx σ)
  | .ex k => h k
  | .bad => .bad
noncomputable def hdV (c : ClV) (own : String → Nat) (n : Nat) (hs : List (Nat × Option Nat × List MS)) (σ : Sg) : Nat → Rv Fv := fun k => evHV c own n k hs σ
theorem u_try {b : MT} {hs : List (Nat × Option Nat × List MS)} : (evSV c own n (.try_ b hs) σ).bind kf = (tryV σ ((evXV c b σ).bind Rv.ok) (hdV c own n hs σ)).bind kf := by
  rw [bo]
  rfl
theorem tr_ok {u : Unit} {h : Nat → Rv Fv} {w : Fx h} : (tryV σ (.ok u) h w).bind kf = kf (.nx σ) := rfl
theorem tr_ex {z : Nat} {h : Nat → Rv Fv} {w : Fx h} : (tryV σ (.ex z) h w).bind kf = (h z).bind kf := rfl
theorem hd_d {z : Nat} {hs : List (Nat × Option Nat × List MS)} : (hdV c own n hs σ z).bind kf = (evHV c own n z hs σ).bind kf := rfl
theorem xx_e {e : ME} : (evXV c (.exp e) σ).bind ku = (evV c e σ).bind fun _ => ku () := by
  show ((evV c e σ).bind fun _ => Rv.ok ()).bind ku = _
  rw [bb]; rfl
theorem xx_i {t : ME} {a b : MT} : (evXV c (.ife t a b) σ).bind ku = (evV c t σ).bind fun x => (truV x).bind fun v => ifV v ((evXV c a σ).bind ku) ((evXV c b σ).bind ku) := by
  show ((evV c t σ).bind fun x => (truV x).bind fun v => if v = true then evXV c a σ else evXV c b σ).bind ku = _
  simp only [ifo, bdo, bbd, ite_d]
/-- behind an except suite -/
def hdK (i : Option Nat) (kf : Fv → Rv β) : Fv → Rv β
  | .nx σ => kf (.nx (match i with | some i => σ.set i .no | none => σ))
  | .rt d => kf (.rt d)
theorem hk_rt {i : Option Nat} {d : D} : hdK i kf (.rt d) = kf (.rt d) := rfl
theorem hk_nx {i : Nat} : hdK (some i) kf (.nx σ) = kf (.nx (σ.set i .no)) := rfl
theorem hv_n {z : Nat} : (evHV c own n z [] σ).bind kf = .ex z := rfl
theorem hv_t {z j i : Nat} {b : List MS} {r : List (Nat × Option Nat × List MS)} (h : subC z j = true) : (evHV c own n z ((j, some i, b) :: r) σ).bind kf = (safeV ((evBV c own n b (σ.set i (.sh (.exc z)))).bind Rv.ok)).bind (hdK (some i) kf) := by
  show (if subC z j = true then (safeV (evBV c own n b (σ.set i (.sh (.exc z))))).bind (fun | .nx σ' => Rv.ok (.nx (σ'.set i .no)) | .rt d => Rv.ok (.rt d)) else evHV c own n z r σ).bind kf = _
  rw [if_pos h, bo, bb, bdo, bdo]
  congr 1
  funext f
  cases f <;> rfl
theorem hv_f {z j : Nat} {o : Option Nat} {b : List MS} {r : List (Nat × Option Nat × List MS)} (h : subC z j = false) : (evHV c own n z ((j, o, b) :: r) σ).bind kf = (evHV c own n z r σ).bind kf := by
  show (if subC z j = true then _ else evHV c own n z r σ).bind kf = _
  rw [if_neg (by rw [h]; exact Bool.false_ne_true)]
theorem sf_ok {α : Type} {a : α} {k : α → Rv β} : (safeV (Rv.ok a)).bind k = k a := rfl
/-- isinstance of what is caught -/
def iseK (v : D) (j : Nat) : Rv D := match v with
  | .exc i => .ok (.bl (subC i j))
  | _ => .bad
theorem e_ise {e : ME} {j : Nat} : (evV c (.ise e j) σ).bind k = (evV c e σ).bind fun v => (iseK v j).bind k := by
  show ((evV c e σ).bind fun v => match v with
    | .exc i => Rv.ok (D.bl (subC i j))
    | _ => .bad).bind k = _
  rw [bb, bdo, bdo]
  congr 1
theorem ik_e {i j : Nat} : (iseK (.exc i) j).bind k = k (.bl (subC i j)) := rfl
theorem q_mulT {xs : List D} {j : Int} (h : (0 ≤ j ∧ j ≤ 1000) ∧ xs.length ≤ 1000) : (binV .mul (.tup xs) (.int j)).bind k = k (.tup (List.replicate j.toNat xs).flatten) := by
  unfold binV
  simp only
  rw [if_pos h]
  rfl
theorem q_mulQ {xs : List D} {j : Int} (h : 0 ≤ j ∧ j < 16777216 ∧ xs.length * j.toNat ≤ 16777216) : (binV .mul (.sq xs) (.int j)).bind k = k (.sq (List.replicate j.toNat xs).flatten) := by
  unfold binV lim
  simp only
  rw [if_pos h]
  rfl
theorem kd_i {ku : Unit → Rv β} {xs : List D} : (kndV .index (.sq xs)).bind ku = ku () := rfl
theorem kd_c {ku : Unit → Rv β} {xs : List D} : (kndV .count (.sq xs)).bind ku = ku () := rfl
theorem kd_j {ku : Unit → Rv β} {s : List Nat} : (kndV .join (.str s)).bind ku = ku () := rfl
theorem kd_g {ku : Unit → Rv β} {xs ys : List D} : (kndV .get (.dic xs ys)).bind ku = ku () := rfl
theorem up_t {own : String → Nat} {σ : Sg} {is : List Nat} {e : ME} {ds : List D} {kf : Fv → Rv β} : (upkV own σ is e (.tup ds)).bind kf = (ofV (setsV is ds (esc own σ e (.tup ds)))).bind fun σ' => kf (.nx σ') := by
  show ((ofV (setsV is ds (esc own σ e (.tup ds)))).bind fun σ' => Rv.ok (Fv.nx σ')).bind kf = _
  rw [bb]; rfl
theorem up_q {own : String → Nat} {σ : Sg} {is : List Nat} {e : ME} {ds : List D} {kf : Fv → Rv β} : (upkV own σ is e (.sq ds)).bind kf = (ofV (setsV is ds (esc own σ e (.sq ds)))).bind fun σ' => kf (.nx σ') := by
  show ((ofV (setsV is ds (esc own σ e (.sq ds)))).bind fun σ' => Rv.ok (Fv.nx σ')).bind kf = _
  rw [bb]; rfl
theorem sv_c {i : Nat} {is : List Nat} {d : D} {ds : List D} {σ : Sg} : setsV (i :: is) (d :: ds) σ = setsV is ds (σ.set i (.sh d)) := rfl
theorem sv_n {σ : Sg} : setsV [] [] σ = some σ := rfl
theorem q_esd {a b : List Nat} (h : strOk a = true) (h2 : strOk b = true) : (cmpV .eq (.str a) (.str b)).bind (fun t => k (.bl t)) = k (.bl (a == b)) := q_eqs h h2
theorem e_lrng {es : List ME} : (evV c (.lrng es) σ).bind k = (evVs c es σ).bind fun ds => (lrngV ds).bind k := by
  show ((evVs c es σ).bind fun ds => lrngV ds).bind k = _
  simp only [ifo, bdo, bbd, ite_d]
theorem lr_1 {j : Int} (h : -16777216 ≤ j ∧ j ≤ 16777216) : (lrngV [.int j]).bind k = k (.sq (rngV 0 j)) := by
  have e : rgOkB 0 j = true := decide_eq_true (by omega)
  unfold lrngV
  simp only [e, if_true]; rfl
theorem lr_2 {i j : Int} (h : (-16777216 ≤ j ∧ j ≤ 16777216) ∧ 0 ≤ i ∧ i ≤ 16777216) : (lrngV [.int i, .int j]).bind k = k (.sq (rngV i j)) := by
  have e : rgOkB i j = true := decide_eq_true (by omega)
  unfold lrngV
  simp only [e, if_true]; rfl
theorem u_set30 {i : Nat} {es : List ME} : (evSV c own n (.set i (.lrng es)) σ).bind kf = (evV c (.lrng es) σ).bind fun v => kf (.nx (asg own σ i (.lrng es) v)) := by
  show ((evV c (.lrng es) σ).bind fun v => Rv.ok (Fv.nx (asg own σ i (.lrng es) v))).bind kf = _
  rw [bb]; rfl
theorem f_srtP {ps : List (Int × Int)} (h : (intsOf (ps.map pairI)) = none) : (bltV .sorted [.sq (ps.map pairI)]).bind k = k (.sq ((sortP ps).map pairI)) := by
  have e : pairsOf (ps.map pairI) = some ps := by
    clear h
    induction ps with
    | nil => rfl
    | cons p ps ih => rw [List.map_cons]; show (pairsOf (ps.map pairI)).map _ = _; rw [ih]; rfl
  show (ofV ((getV (.sq (ps.map pairI))).bind fun xs => match intsOf xs with
    | some ns => some (D.sq ((sortI ns).map .int))
    | none => (pairsOf xs).map fun ps => .sq ((sortP ps).map pairI))).bind k = _
  simp only [getV, Option.bind_some, h, e, Option.map_some]; rfl
theorem f_rep {x : D} (h : (repKV x && shpV x && repOk x) = true) : (bltV .repr [x]).bind k = k (.str (D.rep x)) := by
  show (if (repKV x && shpV x && repOk x) = true then Rv.ok (.str (D.rep x)) else .bad).bind k = _
  rw [if_pos h]; rfl
end
end MI

set_option autoImplicit false
set_option linter.all false
set_option Elab.async false
set_option maxRecDepth 100000
/-! VW: the rules of a run, in one. -/
namespace MI
theorem WD0 : type_of% @ifV_t ∧
  type_of% @ifV_f ∧
  type_of% @b_ok ∧
  type_of% @b_ex ∧
  type_of% @b_bad ∧
  type_of% @l0s ∧
  type_of% @l0o ∧
  type_of% @lS ∧
  type_of% @e_loc ∧
  type_of% @e_int ∧
  type_of% @e_str ∧
  type_of% @e_bl ∧
  type_of% @e_non ∧
  type_of% @e_ctup ∧
  type_of% @e_tup ∧
  type_of% @e_lst ∧
  type_of% @e_dnil ∧
  type_of% @e_bin ∧
  type_of% @e_neg ∧
  type_of% @e_not ∧
  type_of% @e_and ∧
  type_of% @e_or ∧
  type_of% @e_cmp ∧
  type_of% @e_chn ∧
  type_of% @e_ife ∧
  type_of% @e_idx ∧
  type_of% @e_slc ∧
  type_of% @e_call ∧
  type_of% @e_blt ∧
  type_of% @e_mth ∧
  type_of% @e_isi ∧
  type_of% @e_lc ∧
  type_of% @e_sset ∧
  type_of% @a_nil ∧
  type_of% @a_cons ∧
  type_of% @o_none ∧
  type_of% @o_some ∧
  type_of% @c_none ∧
  type_of% @c_some ∧
  type_of% @i_seqT ∧
  type_of% @i_rng ∧
  type_of% @i_rng2 ∧
  type_of% @i_enm ∧
  type_of% @i_zip ∧
  type_of% @u_set0 ∧
  type_of% @u_set1 ∧
  type_of% @u_set2 ∧
  type_of% @u_set3 ∧
  type_of% @u_set4 ∧
  type_of% @u_set5 ∧
  type_of% @u_set6 ∧
  type_of% @u_set7 ∧
  type_of% @u_set8 ∧
  type_of% @u_set9 ∧
  type_of% @u_set10 ∧
  type_of% @u_set11 ∧
  type_of% @u_set12 ∧
  type_of% @u_set13 ∧
  type_of% @u_set14 ∧
  type_of% @u_set15 :=
  ⟨@ifV_t, @ifV_f, @b_ok, @b_ex, @b_bad, @l0s, @l0o, @lS, @e_loc, @e_int, @e_str, @e_bl, @e_non, @e_ctup, @e_tup, @e_lst, @e_dnil, @e_bin, @e_neg, @e_not, @e_and, @e_or, @e_cmp, @e_chn, @e_ife, @e_idx, @e_slc, @e_call, @e_blt, @e_mth, @e_isi, @e_lc, @e_sset, @a_nil, @a_cons, @o_none, @o_some, @c_none, @c_some, @i_seqT, @i_rng, @i_rng2, @i_enm, @i_zip, @u_set0, @u_set1, @u_set2, @u_set3, @u_set4, @u_set5, @u_set6, @u_set7, @u_set8, @u_set9, @u_set10, @u_set11, @u_set12, @u_set13, @u_set14, @u_set15⟩
theorem WD1 : type_of% @u_set16 ∧
  type_of% @u_set17 ∧
  type_of% @u_set18 ∧
  type_of% @u_set19 ∧
  type_of% @u_set20 ∧
  type_of% @u_set21 ∧
  type_of% @u_set22 ∧
  type_of% @u_set23 ∧
  type_of% @u_set24 ∧
  type_of% @u_set25 ∧
  type_of% @u_set26 ∧
  type_of% @u_set27 ∧
  type_of% @u_set28 ∧
  type_of% @u_set29 ∧
  type_of% @asg_int ∧
  type_of% @asg_bl ∧
  type_of% @asg_str ∧
  type_of% @asg_non ∧
  type_of% @asg_exc ∧
  type_of% @asg_sq ∧
  type_of% @asg_dic ∧
  type_of% @asg_tup ∧
  type_of% @u_mv ∧
  type_of% @u_pop ∧
  type_of% @u_upk ∧
  type_of% @u_par ∧
  type_of% @u_sub ∧
  type_of% @u_appT ∧
  type_of% @u_app0 ∧
  type_of% @u_app1 ∧
  type_of% @u_app2 ∧
  type_of% @u_app3 ∧
  type_of% @u_app4 ∧
  type_of% @u_app5 ∧
  type_of% @u_app6 ∧
  type_of% @u_app7 ∧
  type_of% @u_app8 ∧
  type_of% @u_app9 ∧
  type_of% @u_app10 ∧
  type_of% @u_app11 ∧
  type_of% @u_app12 ∧
  type_of% @u_app13 ∧
  type_of% @u_app14 ∧
  type_of% @u_app15 ∧
  type_of% @u_app16 ∧
  type_of% @u_app17 ∧
  type_of% @u_app18 ∧
  type_of% @u_app19 ∧
  type_of% @u_app20 ∧
  type_of% @u_app21 ∧
  type_of% @u_app22 ∧
  type_of% @u_app23 ∧
  type_of% @u_app24 ∧
  type_of% @u_app25 ∧
  type_of% @u_app26 ∧
  type_of% @u_app27 ∧
  type_of% @u_app28 ∧
  type_of% @u_app29 ∧
  type_of% @u_rev ∧
  type_of% @u_clr :=
  ⟨@u_set16, @u_set17, @u_set18, @u_set19, @u_set20, @u_set21, @u_set22, @u_set23, @u_set24, @u_set25, @u_set26, @u_set27, @u_set28, @u_set29, @asg_int, @asg_bl, @asg_str, @asg_non, @asg_exc, @asg_sq, @asg_dic, @asg_tup, @u_mv, @u_pop, @u_upk, @u_par, @u_sub, @u_appT, @u_app0, @u_app1, @u_app2, @u_app3, @u_app4, @u_app5, @u_app6, @u_app7, @u_app8, @u_app9, @u_app10, @u_app11, @u_app12, @u_app13, @u_app14, @u_app15, @u_app16, @u_app17, @u_app18, @u_app19, @u_app20, @u_app21, @u_app22, @u_app23, @u_app24, @u_app25, @u_app26, @u_app27, @u_app28, @u_app29, @u_rev, @u_clr⟩
theorem WD2 : type_of% @u_expc ∧
  type_of% @u_ret ∧
  type_of% @ret0 ∧
  type_of% @u_ife ∧
  type_of% @d_bdy ∧
  type_of% @d_tst ∧
  type_of% @u_for ∧
  type_of% @u_whl ∧
  type_of% @u_rse ∧
  type_of% @u_pas ∧
  type_of% @kB_nx ∧
  type_of% @kB_rt ∧
  type_of% @r_n ∧
  type_of% @r_c ∧
  type_of% @q_add ∧
  type_of% @q_addb ∧
  type_of% @q_sub ∧
  type_of% @q_mod ∧
  type_of% @q_fdiv ∧
  type_of% @q_mulR ∧
  type_of% @q_mulL ∧
  type_of% @q_cat ∧
  type_of% @q_catT ∧
  type_of% @q_catS ∧
  type_of% @q_lt ∧
  type_of% @q_le ∧
  type_of% @q_gt ∧
  type_of% @q_ge ∧
  type_of% @q_eqi ∧
  type_of% @q_nei ∧
  type_of% @q_eqb ∧
  type_of% @q_neb ∧
  type_of% @q_est ∧
  type_of% @q_esf ∧
  type_of% @q_nst ∧
  type_of% @q_nsf ∧
  type_of% @is_nn ∧
  type_of% @is_bn ∧
  type_of% @is_in ∧
  type_of% @is_tn ∧
  type_of% @is_sn ∧
  type_of% @is_nb ∧
  type_of% @is_bb ∧
  type_of% @is_tb ∧
  type_of% @isn_nn ∧
  type_of% @isn_bn ∧
  type_of% @isn_in ∧
  type_of% @isn_tn ∧
  type_of% @isn_sn ∧
  type_of% @isn_nb ∧
  type_of% @isn_bb ∧
  type_of% @t_b ∧
  type_of% @t_n ∧
  type_of% @t_i ∧
  type_of% @t_q ∧
  type_of% @t_t ∧
  type_of% @x_t ∧
  type_of% @x_q ∧
  type_of% @x_s ∧
  type_of% @x_o :=
  ⟨@u_expc, @u_ret, @ret0, @u_ife, @d_bdy, @d_tst, @u_for, @u_whl, @u_rse, @u_pas, @kB_nx, @kB_rt, @r_n, @r_c, @q_add, @q_addb, @q_sub, @q_mod, @q_fdiv, @q_mulR, @q_mulL, @q_cat, @q_catT, @q_catS, @q_lt, @q_le, @q_gt, @q_ge, @q_eqi, @q_nei, @q_eqb, @q_neb, @q_est, @q_esf, @q_nst, @q_nsf, @is_nn, @is_bn, @is_in, @is_tn, @is_sn, @is_nb, @is_bb, @is_tb, @isn_nn, @isn_bn, @isn_in, @isn_tn, @isn_sn, @isn_nb, @isn_bb, @t_b, @t_n, @t_i, @t_q, @t_t, @x_t, @x_q, @x_s, @x_o⟩
theorem WD3 : type_of% @sl_t ∧
  type_of% @sl_q ∧
  type_of% @sl_l ∧
  type_of% @n_q ∧
  type_of% @n_t ∧
  type_of% @n_l ∧
  type_of% @n_s ∧
  type_of% @f_tq ∧
  type_of% @f_tt ∧
  type_of% @f_lt ∧
  type_of% @f_lq ∧
  type_of% @f_ll ∧
  type_of% @f_ld ∧
  type_of% @f_ii ∧
  type_of% @f_ib ∧
  type_of% @f_min ∧
  type_of% @f_max ∧
  type_of% @f_all ∧
  type_of% @f_any ∧
  type_of% @f_srt ∧
  type_of% @f_sset ∧
  type_of% @y_n ∧
  type_of% @y_b ∧
  type_of% @y_i ∧
  type_of% @y_s ∧
  type_of% @y_t ∧
  type_of% @y_q ∧
  type_of% @g_i ∧
  type_of% @it_q ∧
  type_of% @it_t ∧
  type_of% @it_r ∧
  type_of% @it_r2 ∧
  type_of% @it_e ∧
  type_of% @it_zq ∧
  type_of% @it_zt ∧
  type_of% @mv_d ∧
  type_of% @ow_0n ∧
  type_of% @ow_0s ∧
  type_of% @ow_0o ∧
  type_of% @ow_S ∧
  type_of% @oL_0 ∧
  type_of% @oL_S ∧
  type_of% @sh_n ∧
  type_of% @sh_c ∧
  type_of% @sh_0n ∧
  type_of% @sh_0s ∧
  type_of% @sh_0o ∧
  type_of% @sh_S ∧
  type_of% @dM_S ∧
  type_of% @dM_a ∧
  type_of% @dM_pc ∧
  type_of% @dM_r ∧
  type_of% @dM_c ∧
  type_of% @ap_d ∧
  type_of% @pS_0q ∧
  type_of% @pS_S ∧
  type_of% @cl_n ∧
  type_of% @cl_s ∧
  type_of% @cl_o ∧
  type_of% @cl_0 :=
  ⟨@sl_t, @sl_q, @sl_l, @n_q, @n_t, @n_l, @n_s, @f_tq, @f_tt, @f_lt, @f_lq, @f_ll, @f_ld, @f_ii, @f_ib, @f_min, @f_max, @f_all, @f_any, @f_srt, @f_sset, @y_n, @y_b, @y_i, @y_s, @y_t, @y_q, @g_i, @it_q, @it_t, @it_r, @it_r2, @it_e, @it_zq, @it_zt, @mv_d, @ow_0n, @ow_0s, @ow_0o, @ow_S, @oL_0, @oL_S, @sh_n, @sh_c, @sh_0n, @sh_0s, @sh_0o, @sh_S, @dM_S, @dM_a, @dM_pc, @dM_r, @dM_c, @ap_d, @pS_0q, @pS_S, @cl_n, @cl_s, @cl_o, @cl_0⟩
theorem WD4 : type_of% @fin_rt ∧
  type_of% @fin_nx ∧
  type_of% @kT_nx ∧
  type_of% @kT_rt ∧
  type_of% @p_n ∧
  type_of% @p_pop ∧
  type_of% @p_cst ∧
  type_of% @p_loc ∧
  type_of% @p_idx ∧
  type_of% @p_call ∧
  type_of% @p_bin ∧
  type_of% @p_tup ∧
  type_of% @p_cmp ∧
  type_of% @u_try ∧
  type_of% @tr_ok ∧
  type_of% @tr_ex ∧
  type_of% @hd_d ∧
  type_of% @xx_e ∧
  type_of% @xx_i ∧
  type_of% @hk_rt ∧
  type_of% @hk_nx ∧
  type_of% @hv_n ∧
  type_of% @hv_t ∧
  type_of% @hv_f ∧
  type_of% @sf_ok ∧
  type_of% @e_ise ∧
  type_of% @ik_e ∧
  type_of% @q_mulT ∧
  type_of% @kd_i ∧
  type_of% @kd_c ∧
  type_of% @kd_j ∧
  type_of% @kd_g ∧
  type_of% @up_t ∧
  type_of% @up_q ∧
  type_of% @sv_c ∧
  type_of% @sv_n ∧
  type_of% @e_lrng ∧
  type_of% @lr_1 ∧
  type_of% @lr_2 ∧
  type_of% @u_set30 ∧
  type_of% @f_srtP :=
  ⟨@fin_rt, @fin_nx, @kT_nx, @kT_rt, @p_n, @p_pop, @p_cst, @p_loc, @p_idx, @p_call, @p_bin, @p_tup, @p_cmp, @u_try, @tr_ok, @tr_ex, @hd_d, @xx_e, @xx_i, @hk_rt, @hk_nx, @hv_n, @hv_t, @hv_f, @sf_ok, @e_ise, @ik_e, @q_mulT, @kd_i, @kd_c, @kd_j, @kd_g, @up_t, @up_q, @sv_c, @sv_n, @e_lrng, @lr_1, @lr_2, @u_set30, @f_srtP⟩
theorem WD : type_of% @WD0 ∧
  type_of% @WD1 ∧
  type_of% @WD2 ∧
  type_of% @WD3 ∧
  type_of% @WD4 :=
  ⟨@WD0, @WD1, @WD2, @WD3, @WD4⟩
theorem WP : type_of% @es_s ∧
  type_of% @es_i ∧
  type_of% @es_b ∧
  type_of% @es_n ∧
  type_of% @es_t ∧
  type_of% @es_q ∧
  type_of% @ih_t ∧
  type_of% @ih_q ∧
  type_of% @ih_d ∧
  type_of% @ih_i ∧
  type_of% @ih_b ∧
  type_of% @ih_s ∧
  type_of% @ih_n ∧
  type_of% @at_0 ∧
  type_of% @at_1 ∧
  type_of% @at_2 ∧
  type_of% @at_3 :=
  ⟨@es_s, @es_i, @es_b, @es_n, @es_t, @es_q, @ih_t, @ih_q, @ih_d, @ih_i, @ih_b, @ih_s, @ih_n, @at_0, @at_1, @at_2, @at_3⟩
end MI

set_option autoImplicit false
set_option linter.all false
set_option Elab.async false
set_option maxRecDepth 10000
set_option maxHeartbeats 400000
namespace Law
open MI
def d_truth_of : FD := { ar := 2, ns := 5, body := [(.set 2 (.idx (.loc 0) (.cst (.int 0)))), (.ife (.cmp .eq (.loc 2) (.cst (.str [105, 115]))) [(.ret (.idx (.loc 0) (.cst (.int 1))))] []), (.ife (.cmp .eq (.loc 2) (.cst (.str [97, 116]))) [(.ret (.idx (.loc 1) (.idx (.loc 0) (.cst (.int 1)))))] []), (.set 3 (.call "truth_of" [(.idx (.loc 0) (.cst (.int 1))), (.loc 1)])), (.ife (.cmp .eq (.loc 2) (.cst (.str [110, 111, 116]))) [(.ret (.not (.loc 3)))] []), (.set 4 (.call "truth_of" [(.idx (.loc 0) (.cst (.int 2))), (.loc 1)])), (.ife (.cmp .eq (.loc 2) (.cst (.str [97, 110, 100]))) [(.ret (.and (.loc 3) (.loc 4)))] []), (.ife (.cmp .eq (.loc 2) (.cst (.str [111, 114]))) [(.ret (.or (.loc 3) (.loc 4)))] []), (.ret (.cmp .ne (.loc 3) (.loc 4)))] }
def d_places_below : FD := { ar := 1, ns := 2, body := [(.ife (.cmp .eq (.idx (.loc 0) (.cst (.int 0))) (.cst (.str [105, 115]))) [(.ret (.lst []))] []), (.ife (.cmp .eq (.idx (.loc 0) (.cst (.int 0))) (.cst (.str [97, 116]))) [(.ret (.lst [(.idx (.loc 0) (.cst (.int 1)))]))] []), (.set 1 (.call "places_below" [(.idx (.loc 0) (.cst (.int 1)))])), (.ife (.cmp .ne (.idx (.loc 0) (.cst (.int 0))) (.cst (.str [110, 111, 116]))) [(.set 1 (.bin .add (.loc 1) (.call "places_below" [(.idx (.loc 0) (.cst (.int 2)))])))] []), (.ret (.sset (.loc 1)))] }
def d_places_in : FD := { ar := 1, ns := 1, body := [(.ret (.call "places_below" [(.loc 0)]))] }
def d_need_places : FD := { ar := 2, ns := 3, body := [(.for_ (.one 2) (.seq (.call "places_below" [(.loc 0)])) [(.ife (.cmp .ge (.loc 2) (.loc 1)) [(.rse 1)] [])])] }
def d_value : FD := { ar := 2, ns := 2, body := [(.exp (.call "need_places" [(.loc 0), (.blt .len [(.loc 1)])])), (.ret (.call "truth_of" [(.loc 0), (.loc 1)]))] }
def d_with_forms : FD := { ar := 2, ns := 3, body := [(.ife (.cmp .eq (.idx (.loc 0) (.cst (.int 0))) (.cst (.str [105, 115]))) [(.ret (.loc 0))] []), (.ife (.cmp .eq (.idx (.loc 0) (.cst (.int 0))) (.cst (.str [97, 116]))) [(.ret (.idx (.loc 1) (.idx (.loc 0) (.cst (.int 1)))))] []), (.set 2 (.call "with_forms" [(.idx (.loc 0) (.cst (.int 1))), (.loc 1)])), (.ife (.cmp .eq (.idx (.loc 0) (.cst (.int 0))) (.cst (.str [110, 111, 116]))) [(.ret (.tup [(.cst (.str [110, 111, 116])), (.loc 2)]))] []), (.ret (.tup [(.idx (.loc 0) (.cst (.int 0))), (.loc 2), (.call "with_forms" [(.idx (.loc 0) (.cst (.int 2))), (.loc 1)])]))] }
def d_put_in : FD := { ar := 2, ns := 2, body := [(.exp (.call "need_places" [(.loc 0), (.blt .len [(.loc 1)])])), (.ret (.call "with_forms" [(.loc 0), (.loc 1)]))] }
/-! ### forms -/
inductive Fm where
  | is (b : Bool)
  | at (n : Nat)
  | no (f : Fm)
  | op (o : Fin 3) (f g : Fm)
  deriving DecidableEq
def opS : Fin 3 → List Nat
  | 0 => [97, 110, 100]
  | 1 => [111, 114]
  | 2 => [111, 100, 100]
def Fm.toD : Fm → D
  | .is b => .tup [.str [105, 115], .bl b]
  | .at n => .tup [.str [97, 116], .int n]
  | .no f => .tup [.str [110, 111, 116], f.toD]
  | .op o f g => .tup [.str (opS o), f.toD, g.toD]
def Fm.tall : Fm → Nat
  | .is _ => 1
  | .at _ => 1
  | .no f => f.tall + 1
  | .op _ f g => max f.tall g.tall + 1
def Fm.big : Fm → Nat
  | .is _ => 1
  | .at _ => 1
  | .no f => f.big + 1
  | .op _ f g => f.big + g.big + 1
/-- places below -/
def Fm.low (m : Nat) : Fm → Bool
  | .is _ => true
  | .at n => decide (n < m)
  | .no f => f.low m
  | .op _ f g => f.low m && g.low m
def bop : Fin 3 → Bool → Bool → Bool
  | 0, a, b => a && b
  | 1, a, b => a || b
  | 2, a, b => a != b
def Fm.val (r : Nat → Bool) : Fm → Bool
  | .is b => b
  | .at n => r n
  | .no f => !f.val r
  | .op o f g => bop o (f.val r) (g.val r)
abbrev rowD (r : List Bool) : D := .tup (r.map .bl)
def rowF (r : List Bool) : Nat → Bool := fun i => r.getD i false
theorem row_at {r : List Bool} {n : Nat} (h : n < r.length) : atD (r.map D.bl) (n : Int) = some (.bl (rowF r n)) := by
  refine at_n ?_
  rw [List.getElem?_map, List.getElem?_eq_getElem h]
  simp [rowF, List.getD_eq_getElem?_getD, List.getElem?_eq_getElem h]
section
variable {P : PrM} {T : VT}
theorem truth_of_ok (h : Def P T "truth_of" d_truth_of 0) (r : List Bool) : ∀ (f : Fm) (n : Nat), f.tall ≤ n → f.low r.length = true → callV P T n "truth_of" [f.toD, rowD r] = .ok (.bl (f.val (rowF r)))
  | .is b, 0, hn, _ => by simp [Fm.tall] at hn
  | .at b, 0, hn, _ => by simp [Fm.tall] at hn
  | .no b, 0, hn, _ => by simp [Fm.tall] at hn
  | .op _ _ _, 0, hn, _ => by simp [Fm.tall] at hn
  | .is b, n + 1, _, _ => by
    rw [run1 h rfl]
    simp -dsimp (disch := first | decide | assumption | omega | ((try simp only [List.length_map, List.length_append, List.length_cons, List.length_nil, List.length_range, rngV_len]); omega)) only [d_truth_of, Fm.toD, rowD, ↓WD, WP, List.map_cons, List.map_nil, List.cons_append, List.nil_append, List.replicate_succ, List.replicate_zero, List.set_cons_zero, List.set_cons_succ, Nat.sub_self, List.append_nil, alA, alE, alAs, alEs, alI, alIt, alVs, escs, frsL, frs, isT, subC, wipeTV, List.getElem?_cons_zero, List.getElem?_cons_succ, Nat.reduceSub, List.length_append, List.length_cons, List.length_nil, Nat.zero_add, Int.cast_ofNat_Int, Int.lt_irrefl, decide_false, decide_true, Int.reduceLT, Int.reduceLE, Int.reduceSub, Int.reduceAdd, Int.reduceNeg, Bool.not_true, Bool.not_false, beq_self_eq_true, bne_self_eq_false, if_true, if_false, Nat.reduceEqDiff, reduceIte, Nat.reduceBNe, Nat.reduceBEq, Int.reduceBEq, Int.reduceBNe, Bool.or_true, Bool.true_or, Bool.or_false, Bool.false_or, Bool.false_eq_true]
    rfl
  | .at i, n + 1, _, hl => by
    have hi : i < r.length := by simpa [Fm.low] using hl
    rw [run1 h rfl]
    simp -dsimp (disch := first | decide | assumption | omega | ((try simp only [List.length_map, List.length_append, List.length_cons, List.length_nil, List.length_range, rngV_len]); omega)) only [d_truth_of, Fm.toD, rowD, row_at hi, ↓WD, WP, List.map_cons, List.map_nil, List.cons_append, List.nil_append, List.replicate_succ, List.replicate_zero, List.set_cons_zero, List.set_cons_succ, Nat.sub_self, List.append_nil, alA, alE, alAs, alEs, alI, alIt, alVs, escs, frsL, frs, isT, subC, wipeTV, List.getElem?_cons_zero, List.getElem?_cons_succ, Nat.reduceSub, List.length_append, List.length_cons, List.length_nil, Nat.zero_add, Int.cast_ofNat_Int, Int.lt_irrefl, decide_false, decide_true, Int.reduceLT, Int.reduceLE, Int.reduceSub, Int.reduceAdd, Int.reduceNeg, Bool.not_true, Bool.not_false, beq_self_eq_true, bne_self_eq_false, if_true, if_false, Nat.reduceEqDiff, reduceIte, Nat.reduceBNe, Nat.reduceBEq, Int.reduceBEq, Int.reduceBNe, Bool.or_true, Bool.true_or, Bool.or_false, Bool.false_or, Bool.false_eq_true]
    rfl
  | .no f, n + 1, hn, hl => by
    have ih := truth_of_ok h r f n (by simp [Fm.tall] at hn; omega) hl
    rw [run1 h rfl]
    simp -dsimp (disch := first | decide | assumption | omega | ((try simp only [List.length_map, List.length_append, List.length_cons, List.length_nil, List.length_range, rngV_len]); omega)) only [d_truth_of, Fm.toD, ih, ↓WD, WP, List.map_cons, List.map_nil, List.cons_append, List.nil_append, List.replicate_succ, List.replicate_zero, List.set_cons_zero, List.set_cons_succ, Nat.sub_self, List.append_nil, alA, alE, alAs, alEs, alI, alIt, alVs, escs, frsL, frs, isT, subC, wipeTV, List.getElem?_cons_zero, List.getElem?_cons_succ, Nat.reduceSub, List.length_append, List.length_cons, List.length_nil, Nat.zero_add, Int.cast_ofNat_Int, Int.lt_irrefl, decide_false, decide_true, Int.reduceLT, Int.reduceLE, Int.reduceSub, Int.reduceAdd, Int.reduceNeg, Bool.not_true, Bool.not_false, beq_self_eq_true, bne_self_eq_false, if_true, if_false, Nat.reduceEqDiff, reduceIte, Nat.reduceBNe, Nat.reduceBEq, Int.reduceBEq, Int.reduceBNe, Bool.or_true, Bool.true_or, Bool.or_false, Bool.false_or, Bool.false_eq_true]
    rfl
  | .op o f g, n + 1, hn, hl => by
    rw [Fm.low, Bool.and_eq_true] at hl
    have ih := truth_of_ok h r f n (by simp [Fm.tall] at hn; omega) hl.1
    have ih2 := truth_of_ok h r g n (by simp [Fm.tall] at hn; omega) hl.2
    rw [run1 h rfl]
    match o with
    | 0 =>
      rw [Fm.val]
      cases e : f.val (rowF r)
      · simp -dsimp (disch := first | decide | assumption | omega | ((try simp only [List.length_map, List.length_append, List.length_cons, List.length_nil, List.length_range, rngV_len]); omega)) only [d_truth_of, Fm.toD, opS, ih, ih2, e, ↓WD, WP, List.map_cons, List.map_nil, List.cons_append, List.nil_append, List.replicate_succ, List.replicate_zero, List.set_cons_zero, List.set_cons_succ, Nat.sub_self, List.append_nil, alA, alE, alAs, alEs, alI, alIt, alVs, escs, frsL, frs, isT, subC, wipeTV, List.getElem?_cons_zero, List.getElem?_cons_succ, Nat.reduceSub, List.length_append, List.length_cons, List.length_nil, Nat.zero_add, Int.cast_ofNat_Int, Int.lt_irrefl, decide_false, decide_true, Int.reduceLT, Int.reduceLE, Int.reduceSub, Int.reduceAdd, Int.reduceNeg, Bool.not_true, Bool.not_false, beq_self_eq_true, bne_self_eq_false, if_true, if_false, Nat.reduceEqDiff, reduceIte, Nat.reduceBNe, Nat.reduceBEq, Int.reduceBEq, Int.reduceBNe, Bool.or_true, Bool.true_or, Bool.or_false, Bool.false_or, Bool.false_eq_true]
        rfl
      · simp -dsimp (disch := first | decide | assumption | omega | ((try simp only [List.length_map, List.length_append, List.length_cons, List.length_nil, List.length_range, rngV_len]); omega)) only [d_truth_of, Fm.toD, opS, ih, ih2, e, ↓WD, WP, List.map_cons, List.map_nil, List.cons_append, List.nil_append, List.replicate_succ, List.replicate_zero, List.set_cons_zero, List.set_cons_succ, Nat.sub_self, List.append_nil, alA, alE, alAs, alEs, alI, alIt, alVs, escs, frsL, frs, isT, subC, wipeTV, List.getElem?_cons_zero, List.getElem?_cons_succ, Nat.reduceSub, List.length_append, List.length_cons, List.length_nil, Nat.zero_add, Int.cast_ofNat_Int, Int.lt_irrefl, decide_false, decide_true, Int.reduceLT, Int.reduceLE, Int.reduceSub, Int.reduceAdd, Int.reduceNeg, Bool.not_true, Bool.not_false, beq_self_eq_true, bne_self_eq_false, if_true, if_false, Nat.reduceEqDiff, reduceIte, Nat.reduceBNe, Nat.reduceBEq, Int.reduceBEq, Int.reduceBNe, Bool.or_true, Bool.true_or, Bool.or_false, Bool.false_or, Bool.false_eq_true]
        rfl
    | 1 =>
      rw [Fm.val]
      cases e : f.val (rowF r)
      · simp -dsimp (disch := first | decide | assumption | omega | ((try simp only [List.length_map, List.length_append, List.length_cons, List.length_nil, List.length_range, rngV_len]); omega)) only [d_truth_of, Fm.toD, opS, ih, ih2, e, ↓WD, WP, List.map_cons, List.map_nil, List.cons_append, List.nil_append, List.replicate_succ, List.replicate_zero, List.set_cons_zero, List.set_cons_succ, Nat.sub_self, List.append_nil, alA, alE, alAs, alEs, alI, alIt, alVs, escs, frsL, frs, isT, subC, wipeTV, List.getElem?_cons_zero, List.getElem?_cons_succ, Nat.reduceSub, List.length_append, List.length_cons, List.length_nil, Nat.zero_add, Int.cast_ofNat_Int, Int.lt_irrefl, decide_false, decide_true, Int.reduceLT, Int.reduceLE, Int.reduceSub, Int.reduceAdd, Int.reduceNeg, Bool.not_true, Bool.not_false, beq_self_eq_true, bne_self_eq_false, if_true, if_false, Nat.reduceEqDiff, reduceIte, Nat.reduceBNe, Nat.reduceBEq, Int.reduceBEq, Int.reduceBNe, Bool.or_true, Bool.true_or, Bool.or_false, Bool.false_or, Bool.false_eq_true]
        rfl
      · simp -dsimp (disch := first | decide | assumption | omega | ((try simp only [List.length_map, List.length_append, List.length_cons, List.length_nil, List.length_range, rngV_len]); omega)) only [d_truth_of, Fm.toD, opS, ih, ih2, e, ↓WD, WP, List.map_cons, List.map_nil, List.cons_append, List.nil_append, List.replicate_succ, List.replicate_zero, List.set_cons_zero, List.set_cons_succ, Nat.sub_self, List.append_nil, alA, alE, alAs, alEs, alI, alIt, alVs, escs, frsL, frs, isT, subC, wipeTV, List.getElem?_cons_zero, List.getElem?_cons_succ, Nat.reduceSub, List.length_append, List.length_cons, List.length_nil, Nat.zero_add, Int.cast_ofNat_Int, Int.lt_irrefl, decide_false, decide_true, Int.reduceLT, Int.reduceLE, Int.reduceSub, Int.reduceAdd, Int.reduceNeg, Bool.not_true, Bool.not_false, beq_self_eq_true, bne_self_eq_false, if_true, if_false, Nat.reduceEqDiff, reduceIte, Nat.reduceBNe, Nat.reduceBEq, Int.reduceBEq, Int.reduceBNe, Bool.or_true, Bool.true_or, Bool.or_false, Bool.false_or, Bool.false_eq_true]
        rfl
    | 2 =>
      simp -dsimp (disch := first | decide | assumption | omega | ((try simp only [List.length_map, List.length_append, List.length_cons, List.length_nil, List.length_range, rngV_len]); omega)) only [d_truth_of, Fm.toD, opS, ih, ih2, ↓WD, WP, List.map_cons, List.map_nil, List.cons_append, List.nil_append, List.replicate_succ, List.replicate_zero, List.set_cons_zero, List.set_cons_succ, Nat.sub_self, List.append_nil, alA, alE, alAs, alEs, alI, alIt, alVs, escs, frsL, frs, isT, subC, wipeTV, List.getElem?_cons_zero, List.getElem?_cons_succ, Nat.reduceSub, List.length_append, List.length_cons, List.length_nil, Nat.zero_add, Int.cast_ofNat_Int, Int.lt_irrefl, decide_false, decide_true, Int.reduceLT, Int.reduceLE, Int.reduceSub, Int.reduceAdd, Int.reduceNeg, Bool.not_true, Bool.not_false, beq_self_eq_true, bne_self_eq_false, if_true, if_false, Nat.reduceEqDiff, reduceIte, Nat.reduceBNe, Nat.reduceBEq, Int.reduceBEq, Int.reduceBNe, Bool.or_true, Bool.true_or, Bool.or_false, Bool.false_or, Bool.false_eq_true]
      rfl
/-! ### places -/
theorem few_ints : ∀ (m : Nat) (l : List Int), l.Nodup → (∀ x ∈ l, 0 ≤ x ∧ x < m) → l.length ≤ m
  | 0, l, _, h => by
    cases l with
    | nil => exact Nat.le_refl _
    | cons a l => have := h a (by simp); omega
  | m + 1, l, hn, h => by
    by_cases e : (m : Int) ∈ l
    · have h1 := few_ints m (l.erase m) (hn.erase _) fun x hx => by
        have h2 := h x (List.mem_of_mem_erase hx)
        have h3 : x ≠ m := fun z => by rw [z] at hx; exact hn.not_mem_erase hx
        omega
      rw [List.length_erase_of_mem e] at h1
      omega
    · have h1 := few_ints m l hn fun x hx => by
        have h2 := h x hx
        have h3 : x ≠ m := fun z => e (by rw [← z]; exact hx)
        omega
      omega
theorem uniq_go : ∀ (xs acc : List Int), acc.Nodup → (xs.foldl (fun acc x => if x ∈ acc then acc else acc ++ [x]) acc).Nodup ∧ ∀ k, k ∈ xs.foldl (fun acc x => if x ∈ acc then acc else acc ++ [x]) acc ↔ k ∈ acc ∨ k ∈ xs
  | [], acc, h => ⟨h, fun k => by simp⟩
  | x :: xs, acc, h => by
    rw [List.foldl_cons]
    by_cases hx : x ∈ acc
    · rw [if_pos hx]
      obtain ⟨h1, h2⟩ := uniq_go xs acc h
      refine ⟨h1, fun k => ?_⟩
      rw [h2, List.mem_cons]
      constructor
      · rintro (z | z)
        · exact .inl z
        · exact .inr (.inr z)
      · rintro (z | z | z)
        · exact .inl z
        · exact .inl (by rw [z]; exact hx)
        · exact .inr z
    · rw [if_neg hx]
      have hn : (acc ++ [x]).Nodup := by
        rw [List.nodup_append]
        refine ⟨h, by simp, fun a ha b hb e => hx ?_⟩
        rw [List.mem_singleton.mp hb] at e
        rw [← e]; exact ha
      obtain ⟨h1, h2⟩ := uniq_go xs (acc ++ [x]) hn
      refine ⟨h1, fun k => ?_⟩
      rw [h2, List.mem_append, List.mem_singleton, List.mem_cons, or_assoc]
theorem uniq_nd (xs : List Int) : (uniq xs).Nodup := (uniq_go xs [] List.nodup_nil).1
theorem mem_uniq {xs : List Int} {k : Int} : k ∈ uniq xs ↔ k ∈ xs := by
  show k ∈ xs.foldl (fun acc x => if x ∈ acc then acc else acc ++ [x]) [] ↔ _
  rw [(uniq_go xs [] List.nodup_nil).2 k]
  simp
theorem mem_sortI {xs : List Int} {k : Int} : k ∈ sortI xs ↔ k ∈ xs := (List.mergeSort_perm _ _).mem_iff
theorem sortI_len (xs : List Int) : (sortI xs).length = xs.length := (List.mergeSort_perm _ _).length_eq
theorem sortI_le (xs : List Int) : (sortI xs).Pairwise (· ≤ ·) := by
  have s1 : (sortI xs).Pairwise (fun a b => leI a b = true) := List.pairwise_mergeSort (fun a b c h1 h2 => by unfold leI at *; simp at *; omega) (fun a b => by unfold leI; simp; omega) _
  exact s1.imp fun h => by unfold leI at h; simpa using h
/-- rising, each once: told by its members -/
theorem rise_eq {a b : List Int} (ha : a.Pairwise (· < ·)) (hb : b.Pairwise (· < ·)) (h : ∀ k, k ∈ a ↔ k ∈ b) : a = b := by
  have na : a.Nodup := ha.imp fun z => Int.ne_of_lt z
  have nb : b.Nodup := hb.imp fun z => Int.ne_of_lt z
  exact List.Perm.eq_of_pairwise (fun a b _ _ h1 h2 => by omega) ha hb ((List.perm_ext_iff_of_nodup na nb).mpr h)
theorem sortU_lt (xs : List Int) : (sortI (uniq xs)).Pairwise (· < ·) := by
  have h1 := sortI_le (uniq xs)
  have h2 : (sortI (uniq xs)).Nodup := (List.mergeSort_perm _ _).nodup_iff.mpr (uniq_nd xs)
  exact (h1.and h2).imp fun ⟨a, b⟩ => by omega
def Fm.pl : Fm → List Int
  | .is _ => []
  | .at n => [(n : Int)]
  | .no f => sortI (uniq f.pl)
  | .op _ f g => sortI (uniq (f.pl ++ g.pl))
def Fm.has (k : Int) : Fm → Prop
  | .is _ => False
  | .at n => k = n
  | .no f => f.has k
  | .op _ f g => f.has k ∨ g.has k
theorem pl_mem (k : Int) : ∀ f : Fm, k ∈ f.pl ↔ f.has k
  | .is _ => by simp [Fm.pl, Fm.has]
  | .at n => by simp [Fm.pl, Fm.has]
  | .no f => by rw [Fm.pl, mem_sortI, mem_uniq, pl_mem k f, Fm.has]
  | .op _ f g => by rw [Fm.pl, mem_sortI, mem_uniq, List.mem_append, pl_mem k f, pl_mem k g, Fm.has]
theorem pl_lt : ∀ f : Fm, f.pl.Pairwise (· < ·)
  | .is _ => .nil
  | .at n => List.pairwise_singleton _ _
  | .no f => sortU_lt _
  | .op _ f g => sortU_lt _
theorem low_has {m : Nat} {k : Int} : ∀ f : Fm, f.low m = true → f.has k → 0 ≤ k ∧ k < m
  | .is _, _, h => h.elim
  | .at n, h, e => by
    have : n < m := by simpa [Fm.low] using h
    have e : k = n := e
    omega
  | .no f, h, e => low_has f h e
  | .op _ f g, h, e => by
    rw [Fm.low, Bool.and_eq_true] at h
    exact e.elim (low_has f h.1) (low_has g h.2)
theorem has_low {m : Nat} : ∀ f : Fm, (∀ k, f.has k → k < m) → f.low m = true
  | .is _, _ => rfl
  | .at n, h => by have := h n rfl; simp [Fm.low]; omega
  | .no f, h => has_low f h
  | .op _ f g, h => by rw [Fm.low, has_low f fun k q => h k (.inl q), has_low g fun k q => h k (.inr q)]; rfl
theorem pl_len {m : Nat} {f : Fm} (h : f.low m = true) : f.pl.length ≤ m :=
  few_ints m f.pl ((pl_lt f).imp fun z => Int.ne_of_lt z) fun x hx => low_has f h ((pl_mem x f).mp hx)
theorem uniq_len {m : Nat} {xs : List Int} (h : ∀ x ∈ xs, 0 ≤ x ∧ x < m) : (uniq xs).length ≤ m := few_ints m _ (uniq_nd xs) fun x hx => h x (mem_uniq.mp hx)
def intsD (ns : List Int) : D := .sq (ns.map .int)
theorem flc_ints (ns : List Int) : flc (.sq (ns.map D.int)) = true := map_int_nrf ns
theorem places_below_ok (h : Def P T "places_below" d_places_below 2) : ∀ (f : Fm) (n : Nat), f.tall ≤ n → f.low 60 = true → callV P T n "places_below" [f.toD] = .ok (intsD f.pl)
  | .is b, 0, hn, _ => by simp [Fm.tall] at hn
  | .at b, 0, hn, _ => by simp [Fm.tall] at hn
  | .no b, 0, hn, _ => by simp [Fm.tall] at hn
  | .op _ _ _, 0, hn, _ => by simp [Fm.tall] at hn
  | .is b, n + 1, _, _ => by
    rw [run1 h rfl]
    simp -dsimp (disch := first | decide | assumption | omega | ((try simp only [List.length_map, List.length_append, List.length_cons, List.length_nil, List.length_range, rngV_len]); omega)) only [d_places_below, Fm.toD, ↓WD, WP, List.map_cons, List.map_nil, List.cons_append, List.nil_append, List.replicate_succ, List.replicate_zero, List.set_cons_zero, List.set_cons_succ, Nat.sub_self, List.append_nil, alA, alE, alAs, alEs, alI, alIt, alVs, escs, frsL, frs, isT, subC, wipeTV, List.getElem?_cons_zero, List.getElem?_cons_succ, Nat.reduceSub, List.length_append, List.length_cons, List.length_nil, Nat.zero_add, Int.cast_ofNat_Int, Int.lt_irrefl, decide_false, decide_true, Int.reduceLT, Int.reduceLE, Int.reduceSub, Int.reduceAdd, Int.reduceNeg, Bool.not_true, Bool.not_false, beq_self_eq_true, bne_self_eq_false, if_true, if_false, Nat.reduceEqDiff, reduceIte, Nat.reduceBNe, Nat.reduceBEq, Int.reduceBEq, Int.reduceBNe, Bool.or_true, Bool.true_or, Bool.or_false, Bool.false_or, Bool.false_eq_true]
    rfl
  | .at i, n + 1, _, hl => by
    rw [run1 h rfl]
    simp -dsimp (disch := first | decide | assumption | omega | ((try simp only [List.length_map, List.length_append, List.length_cons, List.length_nil, List.length_range, rngV_len]); omega)) only [d_places_below, Fm.toD, ↓WD, WP, List.map_cons, List.map_nil, List.cons_append, List.nil_append, List.replicate_succ, List.replicate_zero, List.set_cons_zero, List.set_cons_succ, Nat.sub_self, List.append_nil, alA, alE, alAs, alEs, alI, alIt, alVs, escs, frsL, frs, isT, subC, wipeTV, List.getElem?_cons_zero, List.getElem?_cons_succ, Nat.reduceSub, List.length_append, List.length_cons, List.length_nil, Nat.zero_add, Int.cast_ofNat_Int, Int.lt_irrefl, decide_false, decide_true, Int.reduceLT, Int.reduceLE, Int.reduceSub, Int.reduceAdd, Int.reduceNeg, Bool.not_true, Bool.not_false, beq_self_eq_true, bne_self_eq_false, if_true, if_false, Nat.reduceEqDiff, reduceIte, Nat.reduceBNe, Nat.reduceBEq, Int.reduceBEq, Int.reduceBNe, Bool.or_true, Bool.true_or, Bool.or_false, Bool.false_or, Bool.false_eq_true]
    rfl
  | .no f, n + 1, hn, hl => by
    have ih := places_below_ok h f n (by simp [Fm.tall] at hn; omega) hl
    have l1 := pl_len (f := f) (m := 60) hl
    have l2 := uniq_len (m := 60) (xs := f.pl) fun x hx => low_has f hl ((pl_mem x f).mp hx)
    rw [run1 h rfl]
    simp -dsimp (disch := first | decide | assumption | omega | ((try simp only [List.length_map, List.length_append, List.length_cons, List.length_nil, List.length_range, rngV_len]); omega)) only [d_places_below, Fm.toD, ih, intsD, h.own, ↓WD, WP, List.map_cons, List.map_nil, List.cons_append, List.nil_append, List.replicate_succ, List.replicate_zero, List.set_cons_zero, List.set_cons_succ, Nat.sub_self, List.append_nil, alA, alE, alAs, alEs, alI, alIt, alVs, escs, frsL, frs, isT, subC, wipeTV, List.getElem?_cons_zero, List.getElem?_cons_succ, Nat.reduceSub, List.length_append, List.length_cons, List.length_nil, Nat.zero_add, Int.cast_ofNat_Int, Int.lt_irrefl, decide_false, decide_true, Int.reduceLT, Int.reduceLE, Int.reduceSub, Int.reduceAdd, Int.reduceNeg, Bool.not_true, Bool.not_false, beq_self_eq_true, bne_self_eq_false, if_true, if_false, Nat.reduceEqDiff, reduceIte, Nat.reduceBNe, Nat.reduceBEq, Int.reduceBEq, Int.reduceBNe, Bool.or_true, Bool.true_or, Bool.or_false, Bool.false_or, Bool.false_eq_true]
    simp -dsimp (disch := first | decide | assumption | omega | ((try simp only [List.length_map, List.length_append, List.length_cons, List.length_nil, List.length_range, rngV_len]); omega)) only [f_sset, retOk, flc_ints, ↓WD, WP, List.map_cons, List.map_nil, List.cons_append, List.nil_append, List.replicate_succ, List.replicate_zero, List.set_cons_zero, List.set_cons_succ, Nat.sub_self, List.append_nil, alA, alE, alAs, alEs, alI, alIt, alVs, escs, frsL, frs, isT, subC, wipeTV, List.getElem?_cons_zero, List.getElem?_cons_succ, Nat.reduceSub, List.length_append, List.length_cons, List.length_nil, Nat.zero_add, Int.cast_ofNat_Int, Int.lt_irrefl, decide_false, decide_true, Int.reduceLT, Int.reduceLE, Int.reduceSub, Int.reduceAdd, Int.reduceNeg, Bool.not_true, Bool.not_false, beq_self_eq_true, bne_self_eq_false, if_true, if_false, Nat.reduceEqDiff, reduceIte, Nat.reduceBNe, Nat.reduceBEq, Int.reduceBEq, Int.reduceBNe, Bool.or_true, Bool.true_or, Bool.or_false, Bool.false_or, Bool.false_eq_true]
    rfl
  | .op o f g, n + 1, hn, hl => by
    rw [Fm.low, Bool.and_eq_true] at hl
    have ih := places_below_ok h f n (by simp [Fm.tall] at hn; omega) hl.1
    have ih2 := places_below_ok h g n (by simp [Fm.tall] at hn; omega) hl.2
    have l1 := pl_len (f := f) (m := 60) hl.1
    have l2 := pl_len (f := g) (m := 60) hl.2
    have l3 := uniq_len (m := 60) (xs := f.pl ++ g.pl) fun x hx => (List.mem_append.mp hx).elim (fun z => low_has f hl.1 ((pl_mem x f).mp z)) fun z => low_has g hl.2 ((pl_mem x g).mp z)
    rw [run1 h rfl]
    match o with
    | 0 | 1 | 2 =>
      simp -dsimp (disch := first | decide | assumption | omega | ((try simp only [List.length_map, List.length_append, List.length_cons, List.length_nil, List.length_range, rngV_len]); omega)) only [d_places_below, Fm.toD, opS, ih, ih2, intsD, h.own, ↓WD, WP, List.map_cons, List.map_nil, List.cons_append, List.nil_append, List.replicate_succ, List.replicate_zero, List.set_cons_zero, List.set_cons_succ, Nat.sub_self, List.append_nil, alA, alE, alAs, alEs, alI, alIt, alVs, escs, frsL, frs, isT, subC, wipeTV, List.getElem?_cons_zero, List.getElem?_cons_succ, Nat.reduceSub, List.length_append, List.length_cons, List.length_nil, Nat.zero_add, Int.cast_ofNat_Int, Int.lt_irrefl, decide_false, decide_true, Int.reduceLT, Int.reduceLE, Int.reduceSub, Int.reduceAdd, Int.reduceNeg, Bool.not_true, Bool.not_false, beq_self_eq_true, bne_self_eq_false, if_true, if_false, Nat.reduceEqDiff, reduceIte, Nat.reduceBNe, Nat.reduceBEq, Int.reduceBEq, Int.reduceBNe, Bool.or_true, Bool.true_or, Bool.or_false, Bool.false_or, Bool.false_eq_true]
      simp -dsimp (disch := first | decide | assumption | omega | ((try simp only [List.length_map, List.length_append, List.length_cons, List.length_nil, List.length_range, rngV_len]); omega)) only [← List.map_append, f_sset, retOk, flc_ints, ↓WD, WP, List.map_cons, List.map_nil, List.cons_append, List.nil_append, List.replicate_succ, List.replicate_zero, List.set_cons_zero, List.set_cons_succ, Nat.sub_self, List.append_nil, alA, alE, alAs, alEs, alI, alIt, alVs, escs, frsL, frs, isT, subC, wipeTV, List.getElem?_cons_zero, List.getElem?_cons_succ, Nat.reduceSub, List.length_append, List.length_cons, List.length_nil, Nat.zero_add, Int.cast_ofNat_Int, Int.lt_irrefl, decide_false, decide_true, Int.reduceLT, Int.reduceLE, Int.reduceSub, Int.reduceAdd, Int.reduceNeg, Bool.not_true, Bool.not_false, beq_self_eq_true, bne_self_eq_false, if_true, if_false, Nat.reduceEqDiff, reduceIte, Nat.reduceBNe, Nat.reduceBEq, Int.reduceBEq, Int.reduceBNe, Bool.or_true, Bool.true_or, Bool.or_false, Bool.false_or, Bool.false_eq_true]
      rfl
/-- need_places: the first place from many on is refused -/
theorem findSome_none {X : Type} {q : X → Option (Rv Fv)} : ∀ {xs : List X}, (∀ x ∈ xs, q x = none) → xs.findSome? q = none
  | [], _ => rfl
  | x :: xs, h => by rw [List.findSome?_cons, h x (by simp)]; exact findSome_none fun y hy => h y (List.mem_cons_of_mem _ hy)
theorem findSome_ex {X : Type} {q : X → Option (Rv Fv)} {r : Rv Fv} : ∀ {xs : List X}, (∀ x ∈ xs, q x = none ∨ q x = some r) → (∃ x ∈ xs, q x = some r) → xs.findSome? q = some r
  | [], _, h => by obtain ⟨x, hx, _⟩ := h; cases hx
  | x :: xs, h, ⟨y, hy, e⟩ => by
    rw [List.findSome?_cons]
    rcases h x (by simp) with z | z
    · rw [z]
      refine findSome_ex (fun w hw => h w (List.mem_cons_of_mem _ hw)) ?_
      rcases List.mem_cons.mp hy with q | q
      · subst q; rw [z] at e; cases e
      · exact ⟨y, q, e⟩
    · rw [z]
theorem need_places_ok (h : Def P T "need_places" d_need_places 0) (h2 : Def P T "places_below" d_places_below 2) (f : Fm) (m n : Nat) (hn : f.tall ≤ n) (hl : f.low 60 = true) (hm : f.low m = true) :
    callV P T (n + 1) "need_places" [f.toD, .int m] = .ok .non := by
  have ih := places_below_ok h2 f n hn hl
  have len := pl_len (f := f) hl
  rw [run1 h rfl]
  simp -dsimp (disch := first | decide | assumption | omega | ((try simp only [List.length_map, List.length_append, List.length_cons, List.length_nil, List.length_range, rngV_len]); omega)) only [d_need_places, ih, intsD, h2.own, ↓WD, WP, List.map_cons, List.map_nil, List.cons_append, List.nil_append, List.replicate_succ, List.replicate_zero, List.set_cons_zero, List.set_cons_succ, Nat.sub_self, List.append_nil, alA, alE, alAs, alEs, alI, alIt, alVs, escs, frsL, frs, isT, subC, wipeTV, List.getElem?_cons_zero, List.getElem?_cons_succ, Nat.reduceSub, List.length_append, List.length_cons, List.length_nil, Nat.zero_add, Int.cast_ofNat_Int, Int.lt_irrefl, decide_false, decide_true, Int.reduceLT, Int.reduceLE, Int.reduceSub, Int.reduceAdd, Int.reduceNeg, Bool.not_true, Bool.not_false, beq_self_eq_true, bne_self_eq_false, if_true, if_false, Nat.reduceEqDiff, reduceIte, Nat.reduceBNe, Nat.reduceBEq, Int.reduceBEq, Int.reduceBNe, Bool.or_true, Bool.true_or, Bool.or_false, Bool.false_or, Bool.false_eq_true]
  rw [for_s (σ := [.sh f.toD, .sh (.int m), .no]) D.int (fun _ => none) f.pl (fun _ _ _ z => by cases z) fun x hx => ?_]
  · rw [findSome_none fun _ _ => rfl]
    rfl
  · have := low_has f hm ((pl_mem x f).mp hx)
    rw [turn1]
    simp -dsimp (disch := first | decide | assumption | omega | ((try simp only [List.length_map, List.length_append, List.length_cons, List.length_nil, List.length_range, rngV_len]); omega)) only [decide_eq_false (show ¬ ((m : Int) ≤ x) by omega), ↓WD, WP, List.map_cons, List.map_nil, List.cons_append, List.nil_append, List.replicate_succ, List.replicate_zero, List.set_cons_zero, List.set_cons_succ, Nat.sub_self, List.append_nil, alA, alE, alAs, alEs, alI, alIt, alVs, escs, frsL, frs, isT, subC, wipeTV, List.getElem?_cons_zero, List.getElem?_cons_succ, Nat.reduceSub, List.length_append, List.length_cons, List.length_nil, Nat.zero_add, Int.cast_ofNat_Int, Int.lt_irrefl, decide_false, decide_true, Int.reduceLT, Int.reduceLE, Int.reduceSub, Int.reduceAdd, Int.reduceNeg, Bool.not_true, Bool.not_false, beq_self_eq_true, bne_self_eq_false, if_true, if_false, Nat.reduceEqDiff, reduceIte, Nat.reduceBNe, Nat.reduceBEq, Int.reduceBEq, Int.reduceBNe, Bool.or_true, Bool.true_or, Bool.or_false, Bool.false_or, Bool.false_eq_true]
    rfl
structure FormsM (P : PrM) (T : VT) : Prop where
  truth : Def P T "truth_of" d_truth_of 0
  below : Def P T "places_below" d_places_below 2
  need : Def P T "need_places" d_need_places 0
  value : Def P T "value" d_value 0
theorem low_mono {a b : Nat} (h : a ≤ b) : ∀ f : Fm, f.low a = true → f.low b = true
  | .is _, _ => rfl
  | .at n, q => by simp [Fm.low] at q ⊢; omega
  | .no f, q => low_mono h f q
  | .op _ f g, q => by
    rw [Fm.low, Bool.and_eq_true] at q ⊢
    exact ⟨low_mono h f q.1, low_mono h g q.2⟩
theorem value_ok (M : FormsM P T) (f : Fm) (r : List Bool) (n : Nat) (hn : f.tall ≤ n) (hr : r.length ≤ 60) (hl : f.low r.length = true) : callV P T (n + 2) "value" [f.toD, rowD r] = .ok (.bl (f.val (rowF r))) := by
  have h1 := need_places_ok M.need M.below f r.length n hn (low_mono hr f hl) hl
  have h2 := truth_of_ok M.truth r f (n + 1) (by omega) hl
  rw [run1 M.value rfl]
  simp -dsimp (disch := first | decide | assumption | omega | ((try simp only [List.length_map, List.length_append, List.length_cons, List.length_nil, List.length_range, rngV_len]); omega)) only [d_value, rowD, ↓WD, WP, List.map_cons, List.map_nil, List.cons_append, List.nil_append, List.replicate_succ, List.replicate_zero, List.set_cons_zero, List.set_cons_succ, Nat.sub_self, List.append_nil, alA, alE, alAs, alEs, alI, alIt, alVs, escs, frsL, frs, isT, subC, wipeTV, List.getElem?_cons_zero, List.getElem?_cons_succ, Nat.reduceSub, List.length_append, List.length_cons, List.length_nil, Nat.zero_add, Int.cast_ofNat_Int, Int.lt_irrefl, decide_false, decide_true, Int.reduceLT, Int.reduceLE, Int.reduceSub, Int.reduceAdd, Int.reduceNeg, Bool.not_true, Bool.not_false, beq_self_eq_true, bne_self_eq_false, if_true, if_false, Nat.reduceEqDiff, reduceIte, Nat.reduceBNe, Nat.reduceBEq, Int.reduceBEq, Int.reduceBNe, Bool.or_true, Bool.true_or, Bool.or_false, Bool.false_or, Bool.false_eq_true]
  simp -dsimp (disch := first | decide | assumption | omega | ((try simp only [List.length_map, List.length_append, List.length_cons, List.length_nil, List.length_range, rngV_len]); omega)) only [List.length_map, h1, h2, rowD, ↓WD, WP, List.map_cons, List.map_nil, List.cons_append, List.nil_append, List.replicate_succ, List.replicate_zero, List.set_cons_zero, List.set_cons_succ, Nat.sub_self, List.append_nil, alA, alE, alAs, alEs, alI, alIt, alVs, escs, frsL, frs, isT, subC, wipeTV, List.getElem?_cons_zero, List.getElem?_cons_succ, Nat.reduceSub, List.length_append, List.length_cons, List.length_nil, Nat.zero_add, Int.cast_ofNat_Int, Int.lt_irrefl, decide_false, decide_true, Int.reduceLT, Int.reduceLE, Int.reduceSub, Int.reduceAdd, Int.reduceNeg, Bool.not_true, Bool.not_false, beq_self_eq_true, bne_self_eq_false, if_true, if_false, Nat.reduceEqDiff, reduceIte, Nat.reduceBNe, Nat.reduceBEq, Int.reduceBEq, Int.reduceBNe, Bool.or_true, Bool.true_or, Bool.or_false, Bool.false_or, Bool.false_eq_true]
end
end Law

set_option autoImplicit false
set_option linter.all false
set_option Elab.async false
set_option maxRecDepth 10000
set_option maxHeartbeats 400000
namespace Law
open MI
def d_many_rows : FD := { ar := 1, ns := 3, body := [(.set 1 (.cst (.int 1))), (.for_ (.one 2) (.rng (.loc 0)) [(.set 1 (.bin .add (.loc 1) (.loc 1)))]), (.ret (.loc 1))] }
def d_row_of : FD := { ar := 2, ns := 4, body := [(.ife (.not (.chn .le .lt (.cst (.int 0)) (.loc 0) (.call "many_rows" [(.loc 1)]))) [(.rse 4)] []), (.set 2 (.lst [])), (.for_ (.one 3) (.rng (.loc 1)) [(.set 2 (.bin .add (.lst [(.cmp .eq (.bin .mod (.loc 0) (.cst (.int 2))) (.cst (.int 1)))]) (.loc 2))), (.set 0 (.bin .fdiv (.loc 0) (.cst (.int 2))))]), (.ret (.blt .tuple [(.loc 2)]))] }
def d_number_of : FD := { ar := 1, ns := 3, body := [(.set 1 (.cst (.int 0))), (.for_ (.one 2) (.seq (.loc 0)) [(.set 1 (.bin .add (.bin .add (.loc 1) (.loc 1)) (.blt .int [(.loc 2)])))]), (.ret (.loc 1))] }
def d__law_count : FD := { ar := 1, ns := 3, body := [(.set 1 (.cst (.int 1))), (.for_ (.one 2) (.rng (.loc 0)) [(.set 1 (.bin .mul (.cst (.int 2)) (.loc 1)))]), (.ret (.loc 1))] }
def d__law_sum : FD := { ar := 1, ns := 3, body := [(.set 1 (.cst (.int 0))), (.for_ (.one 2) (.rng (.blt .len [(.loc 0)])) [(.ife (.idx (.loc 0) (.loc 2)) [(.set 1 (.bin .add (.loc 1) (.call "_law_count" [(.bin .sub (.bin .sub (.blt .len [(.loc 0)]) (.cst (.int 1))) (.loc 2))])))] [])]), (.ret (.loc 1))] }
def d__law_whole : FD := { ar := 1, ns := 1, body := [(.ret (.and (.isi (.loc 0) .int) (.not (.isi (.loc 0) .bool))))] }
def d__law_class : FD := { ar := 1, ns := 2, body := [(.set 1 (.lst [])), (.ife (.ise (.loc 0) 1) [(.exp (.mth .append (.loc 1) [(.cst (.str [112, 108, 97, 99, 101]))]))] []), (.ife (.ise (.loc 0) 2) [(.exp (.mth .append (.loc 1) [(.cst (.str [110, 97, 109, 101]))]))] []), (.ife (.ise (.loc 0) 3) [(.exp (.mth .append (.loc 1) [(.cst (.str [116, 101, 120, 116]))]))] []), (.ife (.ise (.loc 0) 4) [(.exp (.mth .append (.loc 1) [(.cst (.str [114, 111, 119]))]))] []), (.ife (.ise (.loc 0) 5) [(.exp (.mth .append (.loc 1) [(.cst (.str [116, 97, 98, 108, 101]))]))] []), (.ife (.ise (.loc 0) 6) [(.exp (.mth .append (.loc 1) [(.cst (.str [115, 105, 122, 101, 115]))]))] []), (.ife (.or (.ise (.loc 0) 7) (.or (.ise (.loc 0) 8) (.ise (.loc 0) 9))) [(.exp (.mth .append (.loc 1) [(.cst (.str [111, 116, 104, 101, 114]))]))] []), (.ife (.and (.cmp .eq (.blt .len [(.loc 1)]) (.cst (.int 1))) (.ise (.loc 0) 10)) [(.ret (.idx (.loc 1) (.cst (.int 0))))] []), (.ret (.cst (.str [111, 116, 104, 101, 114])))] }
def d__law_row_of : FD := { ar := 2, ns := 4, body := [(.set 2 (.lst [])), (.for_ (.one 3) (.rng (.loc 1)) [(.exp (.mth .append (.loc 2) [(.cmp .eq (.bin .mod (.bin .fdiv (.loc 0) (.call "_law_count" [(.bin .sub (.bin .sub (.loc 1) (.cst (.int 1))) (.loc 3))])) (.cst (.int 2))) (.cst (.int 1)))]))]), (.ret (.blt .tuple [(.loc 2)]))] }
/-! ### rows and numbers -/
def bitAt (n k : Nat) : Bool := n / 2 ^ k % 2 == 1
def bits : Nat → Nat → List Bool
  | 0, _ => []
  | k + 1, n => bitAt n k :: bits k n
def numB (r : List Bool) : Nat := r.foldl (fun a b => a + a + b.toNat) 0
theorem bits_len : ∀ (k n : Nat), (bits k n).length = k
  | 0, _ => rfl
  | k + 1, n => by rw [bits, List.length_cons, bits_len k n]
theorem num_go : ∀ (r : List Bool) (a : Nat), r.foldl (fun a b => a + a + b.toNat) a = a * 2 ^ r.length + numB r
  | [], a => by simp [numB]
  | b :: r, a => by
    have e : numB (b :: r) = r.foldl (fun a b => a + a + b.toNat) (0 + 0 + b.toNat) := rfl
    rw [List.foldl_cons, num_go r, e, num_go r, List.length_cons, Nat.pow_succ]
    simp only [Nat.add_mul, Nat.mul_add, Nat.zero_mul, Nat.zero_add]
    have : a * (2 ^ r.length * 2) = a * 2 ^ r.length + a * 2 ^ r.length := by rw [← Nat.mul_assoc, Nat.mul_comm, Nat.two_mul]
    omega
theorem num_cons (b : Bool) (r : List Bool) : numB (b :: r) = b.toNat * 2 ^ r.length + numB r := by
  rw [numB, List.foldl_cons, num_go]
  simp
theorem num_snoc (r : List Bool) (b : Bool) : numB (r ++ [b]) = numB r + numB r + b.toNat := by
  rw [numB, List.foldl_append]; rfl
theorem num_lt : ∀ r : List Bool, numB r < 2 ^ r.length
  | [] => by simp [numB]
  | b :: r => by
    rw [num_cons, List.length_cons, Nat.pow_succ]
    have := num_lt r
    cases b <;> simp <;> omega
theorem bit_toNat (n k : Nat) : (bitAt n k).toNat = n / 2 ^ k % 2 := by
  unfold bitAt
  rcases Nat.mod_two_eq_zero_or_one (n / 2 ^ k) with e | e <;> rw [e] <;> rfl
theorem num_bits : ∀ (k n : Nat), numB (bits k n) = n % 2 ^ k
  | 0, n => by simp [bits, numB, Nat.mod_one]
  | k + 1, n => by
    rw [bits, num_cons, bits_len, num_bits k n, bit_toNat, Nat.pow_succ, Nat.mod_mul, Nat.mul_comm, Nat.add_comm]
theorem bit_num : ∀ (r : List Bool) (a : Nat), bits r.length (a * 2 ^ r.length + numB r) = r
  | [], a => rfl
  | b :: r, a => by
    have h := num_lt r
    have e : a * 2 ^ (r.length + 1) + numB (b :: r) = (a * 2 + b.toNat) * 2 ^ r.length + numB r := by
      rw [num_cons, Nat.pow_succ, Nat.add_mul, Nat.mul_assoc, Nat.mul_comm 2]
      omega
    rw [List.length_cons, bits, e, bit_num r]
    congr 1
    unfold bitAt
    rw [Nat.add_comm, Nat.add_mul_div_right _ _ (Nat.two_pow_pos _), Nat.div_eq_of_lt h]
    cases b <;> simp <;> omega
theorem bits_num (r : List Bool) : bits r.length (numB r) = r := by
  have := bit_num r 0
  rw [Nat.zero_mul, Nat.zero_add] at this
  exact this
theorem bls_fine : ∀ r : List Bool, D.fines (r.map .bl) = true ∧ D.deps (r.map .bl) = 0 ∧ D.nsts (r.map .bl) = 0
  | [] => ⟨rfl, rfl, rfl⟩
  | b :: r => by
    obtain ⟨h1, h2, h3⟩ := bls_fine r
    exact ⟨by rw [List.map_cons, D.fines, h1]; rfl, by rw [List.map_cons, D.deps, h2]; rfl, by rw [List.map_cons, D.nsts, h3]; rfl⟩
theorem row_shp (r : List Bool) : shpV (rowD r) = true := by
  obtain ⟨h1, h2, h3⟩ := bls_fine r
  unfold shpV shp
  rw [D.fine, D.dep, D.nst, h1, h2, h3]; rfl
theorem bls_eqv : ∀ a b : List Bool, D.eqvs (a.map .bl) (b.map .bl) = (a == b)
  | [], [] => rfl
  | [], _ :: _ => rfl
  | _ :: _, [] => rfl
  | x :: a, y :: b => by
    rw [List.map_cons, List.map_cons, D.eqvs, bls_eqv a b, D.eqv]
    rfl
theorem row_eq {β : Type} {kb : Bool → Rv β} {a b : List Bool} : (cmpV .eq (.tup (a.map .bl)) (.tup (b.map .bl))).bind kb = kb (a == b) := by
  rw [q_eqG ⟨row_shp a, row_shp b⟩, D.eqv, bls_eqv]
theorem row_ne {β : Type} {kb : Bool → Rv β} {a b : List Bool} : (cmpV .ne (.tup (a.map .bl)) (.tup (b.map .bl))).bind kb = kb (!(a == b)) := by
  rw [q_neG ⟨row_shp a, row_shp b⟩, D.eqv, bls_eqv]
theorem lc_isb {c : ClV} {σ : Sg} {i : Nat} (r : List Bool) (h : i < σ.length) : lcV (.one i) (evVc c none) (evV c (.isi (.loc i) .bool)) σ (r.map .bl) = .ok ((r.map fun _ => true).map .bl) := by
  rw [List.map_map]
  refine lc_m D.bl _ r fun x _ => ⟨(σ.set i .no).set i (.sh (.bl x)), rfl, ?_⟩
  rw [e_isi, e_loc]
  have e : locV ((σ.set i .no).set i (.sh (.bl x))) i = .ok (.bl x) := by
    unfold locV
    rw [List.getElem?_set_self (by simpa using h)]
  rw [e]
  rfl
theorem all_tt (r : List Bool) : (r.map fun _ => true).all id = true := by simp
section
variable {P : PrM} {T : VT}
theorem many_rows_ok (h : Def P T "many_rows" d_many_rows 0) (m : Nat) (hm : m ≤ 60) (n : Nat) : callV P T (n + 1) "many_rows" [.int m] = .ok (.int ((2 ^ m : Nat) : Int)) := by
  rw [run1 h rfl]
  simp -dsimp (disch := first | decide | assumption | omega | ((try simp only [List.length_map, List.length_append, List.length_cons, List.length_nil, List.length_range, rngV_len]); omega)) only [d_many_rows, ↓WD, WP, List.map_cons, List.map_nil, List.cons_append, List.nil_append, List.replicate_succ, List.replicate_zero, List.set_cons_zero, List.set_cons_succ, Nat.sub_self, List.append_nil, alA, alE, alAs, alEs, alI, alIt, alVs, escs, frsL, frs, isT, subC, wipeTV, List.getElem?_cons_zero, List.getElem?_cons_succ, Nat.reduceSub, List.length_append, List.length_cons, List.length_nil, Nat.zero_add, Int.cast_ofNat_Int, Int.lt_irrefl, decide_false, decide_true, Int.reduceLT, Int.reduceLE, Int.reduceSub, Int.reduceAdd, Int.reduceNeg, Bool.not_true, Bool.not_false, beq_self_eq_true, bne_self_eq_false, if_true, if_false, Nat.reduceEqDiff, reduceIte, Nat.reduceBNe, Nat.reduceBEq, Int.reduceBEq, Int.reduceBNe, Bool.or_true, Bool.true_or, Bool.or_false, Bool.false_or, Bool.false_eq_true]
  rw [show [Sl.sh (D.int (m : Int)), Sl.sh (D.int 1), Sl.no] = [Sl.sh (D.int (m : Int)), Sl.sh (D.int ((2 ^ 0 : Nat) : Int)), Sl.no] from rfl]
  rw [for_r (m := m) (fun j => [.sh (.int (m : Int)), .sh (.int ((2 ^ j : Nat) : Int)), .no]) (by omega) fun j hj => ?_]
  · rfl
  · rw [turn1]
    simp -dsimp (disch := first | decide | assumption | omega | ((try simp only [List.length_map, List.length_append, List.length_cons, List.length_nil, List.length_range, rngV_len]); omega)) only [↓WD, WP, List.map_cons, List.map_nil, List.cons_append, List.nil_append, List.replicate_succ, List.replicate_zero, List.set_cons_zero, List.set_cons_succ, Nat.sub_self, List.append_nil, alA, alE, alAs, alEs, alI, alIt, alVs, escs, frsL, frs, isT, subC, wipeTV, List.getElem?_cons_zero, List.getElem?_cons_succ, Nat.reduceSub, List.length_append, List.length_cons, List.length_nil, Nat.zero_add, Int.cast_ofNat_Int, Int.lt_irrefl, decide_false, decide_true, Int.reduceLT, Int.reduceLE, Int.reduceSub, Int.reduceAdd, Int.reduceNeg, Bool.not_true, Bool.not_false, beq_self_eq_true, bne_self_eq_false, if_true, if_false, Nat.reduceEqDiff, reduceIte, Nat.reduceBNe, Nat.reduceBEq, Int.reduceBEq, Int.reduceBNe, Bool.or_true, Bool.true_or, Bool.or_false, Bool.false_or, Bool.false_eq_true]
    rw [show ((2 ^ (j + 1) : Nat) : Int) = ((2 ^ j : Nat) : Int) + ((2 ^ j : Nat) : Int) by rw [Nat.pow_succ]; omega]
theorem count_ok (h : Def P T "_law_count" d__law_count 0) (m : Nat) (hm : m ≤ 60) (n : Nat) : callV P T (n + 1) "_law_count" [.int m] = .ok (.int ((2 ^ m : Nat) : Int)) := by
  rw [run1 h rfl]
  simp -dsimp (disch := first | decide | assumption | omega | ((try simp only [List.length_map, List.length_append, List.length_cons, List.length_nil, List.length_range, rngV_len]); omega)) only [d__law_count, ↓WD, WP, List.map_cons, List.map_nil, List.cons_append, List.nil_append, List.replicate_succ, List.replicate_zero, List.set_cons_zero, List.set_cons_succ, Nat.sub_self, List.append_nil, alA, alE, alAs, alEs, alI, alIt, alVs, escs, frsL, frs, isT, subC, wipeTV, List.getElem?_cons_zero, List.getElem?_cons_succ, Nat.reduceSub, List.length_append, List.length_cons, List.length_nil, Nat.zero_add, Int.cast_ofNat_Int, Int.lt_irrefl, decide_false, decide_true, Int.reduceLT, Int.reduceLE, Int.reduceSub, Int.reduceAdd, Int.reduceNeg, Bool.not_true, Bool.not_false, beq_self_eq_true, bne_self_eq_false, if_true, if_false, Nat.reduceEqDiff, reduceIte, Nat.reduceBNe, Nat.reduceBEq, Int.reduceBEq, Int.reduceBNe, Bool.or_true, Bool.true_or, Bool.or_false, Bool.false_or, Bool.false_eq_true]
  rw [show [Sl.sh (D.int (m : Int)), Sl.sh (D.int 1), Sl.no] = [Sl.sh (D.int (m : Int)), Sl.sh (D.int ((2 ^ 0 : Nat) : Int)), Sl.no] from rfl]
  rw [for_r (m := m) (fun j => [.sh (.int (m : Int)), .sh (.int ((2 ^ j : Nat) : Int)), .no]) (by omega) fun j hj => ?_]
  · rfl
  · rw [turn1]
    simp -dsimp (disch := first | decide | assumption | omega | ((try simp only [List.length_map, List.length_append, List.length_cons, List.length_nil, List.length_range, rngV_len]); omega)) only [↓WD, WP, List.map_cons, List.map_nil, List.cons_append, List.nil_append, List.replicate_succ, List.replicate_zero, List.set_cons_zero, List.set_cons_succ, Nat.sub_self, List.append_nil, alA, alE, alAs, alEs, alI, alIt, alVs, escs, frsL, frs, isT, subC, wipeTV, List.getElem?_cons_zero, List.getElem?_cons_succ, Nat.reduceSub, List.length_append, List.length_cons, List.length_nil, Nat.zero_add, Int.cast_ofNat_Int, Int.lt_irrefl, decide_false, decide_true, Int.reduceLT, Int.reduceLE, Int.reduceSub, Int.reduceAdd, Int.reduceNeg, Bool.not_true, Bool.not_false, beq_self_eq_true, bne_self_eq_false, if_true, if_false, Nat.reduceEqDiff, reduceIte, Nat.reduceBNe, Nat.reduceBEq, Int.reduceBEq, Int.reduceBNe, Bool.or_true, Bool.true_or, Bool.or_false, Bool.false_or, Bool.false_eq_true]
    rw [show ((2 ^ (j + 1) : Nat) : Int) = 2 * ((2 ^ j : Nat) : Int) by rw [Nat.pow_succ]; omega]
theorem row_of_no (h : Def P T "row_of" d_row_of 0) (h2 : Def P T "many_rows" d_many_rows 0) (z : Int) (m : Nat) (hm : m ≤ 60) (hz : ¬ (0 ≤ z ∧ z < (2 ^ m : Nat))) (n : Nat) : callV P T (n + 2) "row_of" [.int z, .int m] = .ex 4 := by
  have e := many_rows_ok h2 m hm n
  rw [run1 h rfl]
  by_cases c : 0 ≤ z
  · have c2 : ¬ (z < ((2 ^ m : Nat) : Int)) := fun x => hz ⟨c, x⟩
    simp -dsimp (disch := first | decide | assumption | omega | ((try simp only [List.length_map, List.length_append, List.length_cons, List.length_nil, List.length_range, rngV_len]); omega)) only [d_row_of, e, decide_eq_true c, decide_eq_false c2, ↓WD, WP, List.map_cons, List.map_nil, List.cons_append, List.nil_append, List.replicate_succ, List.replicate_zero, List.set_cons_zero, List.set_cons_succ, Nat.sub_self, List.append_nil, alA, alE, alAs, alEs, alI, alIt, alVs, escs, frsL, frs, isT, subC, wipeTV, List.getElem?_cons_zero, List.getElem?_cons_succ, Nat.reduceSub, List.length_append, List.length_cons, List.length_nil, Nat.zero_add, Int.cast_ofNat_Int, Int.lt_irrefl, decide_false, decide_true, Int.reduceLT, Int.reduceLE, Int.reduceSub, Int.reduceAdd, Int.reduceNeg, Bool.not_true, Bool.not_false, beq_self_eq_true, bne_self_eq_false, if_true, if_false, Nat.reduceEqDiff, reduceIte, Nat.reduceBNe, Nat.reduceBEq, Int.reduceBEq, Int.reduceBNe, Bool.or_true, Bool.true_or, Bool.or_false, Bool.false_or, Bool.false_eq_true]
  · simp -dsimp (disch := first | decide | assumption | omega | ((try simp only [List.length_map, List.length_append, List.length_cons, List.length_nil, List.length_range, rngV_len]); omega)) only [d_row_of, e, decide_eq_false c, ↓WD, WP, List.map_cons, List.map_nil, List.cons_append, List.nil_append, List.replicate_succ, List.replicate_zero, List.set_cons_zero, List.set_cons_succ, Nat.sub_self, List.append_nil, alA, alE, alAs, alEs, alI, alIt, alVs, escs, frsL, frs, isT, subC, wipeTV, List.getElem?_cons_zero, List.getElem?_cons_succ, Nat.reduceSub, List.length_append, List.length_cons, List.length_nil, Nat.zero_add, Int.cast_ofNat_Int, Int.lt_irrefl, decide_false, decide_true, Int.reduceLT, Int.reduceLE, Int.reduceSub, Int.reduceAdd, Int.reduceNeg, Bool.not_true, Bool.not_false, beq_self_eq_true, bne_self_eq_false, if_true, if_false, Nat.reduceEqDiff, reduceIte, Nat.reduceBNe, Nat.reduceBEq, Int.reduceBEq, Int.reduceBNe, Bool.or_true, Bool.true_or, Bool.or_false, Bool.false_or, Bool.false_eq_true]
theorem row_of_ok (h : Def P T "row_of" d_row_of 0) (h2 : Def P T "many_rows" d_many_rows 0) (z m : Nat) (hm : m ≤ 60) (hz : z < 2 ^ m) (n : Nat) : callV P T (n + 2) "row_of" [.int z, .int m] = .ok (rowD (bits m z)) := by
  have e := many_rows_ok h2 m hm n
  have c2 : (z : Int) < ((2 ^ m : Nat) : Int) := by omega
  have c1 : (0 : Int) ≤ z := by omega
  rw [run1 h rfl]
  simp -dsimp (disch := first | decide | assumption | omega | ((try simp only [List.length_map, List.length_append, List.length_cons, List.length_nil, List.length_range, rngV_len]); omega)) only [d_row_of, e, decide_eq_true c1, decide_eq_true c2, ↓WD, WP, List.map_cons, List.map_nil, List.cons_append, List.nil_append, List.replicate_succ, List.replicate_zero, List.set_cons_zero, List.set_cons_succ, Nat.sub_self, List.append_nil, alA, alE, alAs, alEs, alI, alIt, alVs, escs, frsL, frs, isT, subC, wipeTV, List.getElem?_cons_zero, List.getElem?_cons_succ, Nat.reduceSub, List.length_append, List.length_cons, List.length_nil, Nat.zero_add, Int.cast_ofNat_Int, Int.lt_irrefl, decide_false, decide_true, Int.reduceLT, Int.reduceLE, Int.reduceSub, Int.reduceAdd, Int.reduceNeg, Bool.not_true, Bool.not_false, beq_self_eq_true, bne_self_eq_false, if_true, if_false, Nat.reduceEqDiff, reduceIte, Nat.reduceBNe, Nat.reduceBEq, Int.reduceBEq, Int.reduceBNe, Bool.or_true, Bool.true_or, Bool.or_false, Bool.false_or, Bool.false_eq_true]
  rw [show [Sl.sh (D.int (z : Int)), Sl.sh (D.int m), Sl.ow (D.sq []), Sl.no] = [Sl.sh (D.int ((z / 2 ^ 0 : Nat) : Int)), Sl.sh (D.int m), Sl.ow (D.sq ((bits 0 z).map .bl)), Sl.no] by simp [bits]]
  rw [for_r (m := m) (fun j => [.sh (.int ((z / 2 ^ j : Nat) : Int)), .sh (.int m), .ow (.sq ((bits j z).map .bl)), .no]) (by omega) fun j hj => ?_]
  · simp -dsimp (disch := first | decide | assumption | omega | ((try simp only [List.length_map, List.length_append, List.length_cons, List.length_nil, List.length_range, rngV_len]); omega)) only [↓WD, WP, List.map_cons, List.map_nil, List.cons_append, List.nil_append, List.replicate_succ, List.replicate_zero, List.set_cons_zero, List.set_cons_succ, Nat.sub_self, List.append_nil, alA, alE, alAs, alEs, alI, alIt, alVs, escs, frsL, frs, isT, subC, wipeTV, List.getElem?_cons_zero, List.getElem?_cons_succ, Nat.reduceSub, List.length_append, List.length_cons, List.length_nil, Nat.zero_add, Int.cast_ofNat_Int, Int.lt_irrefl, decide_false, decide_true, Int.reduceLT, Int.reduceLE, Int.reduceSub, Int.reduceAdd, Int.reduceNeg, Bool.not_true, Bool.not_false, beq_self_eq_true, bne_self_eq_false, if_true, if_false, Nat.reduceEqDiff, reduceIte, Nat.reduceBNe, Nat.reduceBEq, Int.reduceBEq, Int.reduceBNe, Bool.or_true, Bool.true_or, Bool.or_false, Bool.false_or, Bool.false_eq_true]
  · have hl := bits_len j z
    have e1 : (((z / 2 ^ j : Nat) : Int) % 2 == 1) = bitAt z j := by
      unfold bitAt
      rcases Nat.mod_two_eq_zero_or_one (z / 2 ^ j) with q | q
      · rw [show (((z / 2 ^ j : Nat) : Int) % 2) = 0 by omega, q]; rfl
      · rw [show (((z / 2 ^ j : Nat) : Int) % 2) = 1 by omega, q]; rfl
    have e2 : ((z / 2 ^ (j + 1) : Nat) : Int) = ((z / 2 ^ j : Nat) : Int) / 2 := by
      rw [Nat.pow_succ, ← Nat.div_div_eq_div_mul]; omega
    rw [turn1, e2]
    generalize ((z / 2 ^ j : Nat) : Int) = u at *
    simp -dsimp (disch := first | decide | assumption | omega | ((try simp only [List.length_map, List.length_append, List.length_cons, List.length_nil, List.length_range, rngV_len]); omega)) only [e1, bits, ↓WD, WP, List.map_cons, List.map_nil, List.cons_append, List.nil_append, List.replicate_succ, List.replicate_zero, List.set_cons_zero, List.set_cons_succ, Nat.sub_self, List.append_nil, alA, alE, alAs, alEs, alI, alIt, alVs, escs, frsL, frs, isT, subC, wipeTV, List.getElem?_cons_zero, List.getElem?_cons_succ, Nat.reduceSub, List.length_append, List.length_cons, List.length_nil, Nat.zero_add, Int.cast_ofNat_Int, Int.lt_irrefl, decide_false, decide_true, Int.reduceLT, Int.reduceLE, Int.reduceSub, Int.reduceAdd, Int.reduceNeg, Bool.not_true, Bool.not_false, beq_self_eq_true, bne_self_eq_false, if_true, if_false, Nat.reduceEqDiff, reduceIte, Nat.reduceBNe, Nat.reduceBEq, Int.reduceBEq, Int.reduceBNe, Bool.or_true, Bool.true_or, Bool.or_false, Bool.false_or, Bool.false_eq_true]
theorem number_of_ok (h : Def P T "number_of" d_number_of 0) (r : List Bool) (hr : r.length ≤ 60) (n : Nat) : callV P T (n + 1) "number_of" [rowD r] = .ok (.int (numB r)) := by
  rw [run1 h rfl]
  simp -dsimp (disch := first | decide | assumption | omega | ((try simp only [List.length_map, List.length_append, List.length_cons, List.length_nil, List.length_range, rngV_len]); omega)) only [d_number_of, rowD, ↓WD, WP, List.map_cons, List.map_nil, List.cons_append, List.nil_append, List.replicate_succ, List.replicate_zero, List.set_cons_zero, List.set_cons_succ, Nat.sub_self, List.append_nil, alA, alE, alAs, alEs, alI, alIt, alVs, escs, frsL, frs, isT, subC, wipeTV, List.getElem?_cons_zero, List.getElem?_cons_succ, Nat.reduceSub, List.length_append, List.length_cons, List.length_nil, Nat.zero_add, Int.cast_ofNat_Int, Int.lt_irrefl, decide_false, decide_true, Int.reduceLT, Int.reduceLE, Int.reduceSub, Int.reduceAdd, Int.reduceNeg, Bool.not_true, Bool.not_false, beq_self_eq_true, bne_self_eq_false, if_true, if_false, Nat.reduceEqDiff, reduceIte, Nat.reduceBNe, Nat.reduceBEq, Int.reduceBEq, Int.reduceBNe, Bool.or_true, Bool.true_or, Bool.or_false, Bool.false_or, Bool.false_eq_true]
  have key := (for_f (tg := .one 2) (body := bdy (callV P T n) T.own 0 [MS.set 1 (ME.bin Op.add (ME.bin Op.add (ME.loc 1) (ME.loc 1)) (ME.blt Bf.int [ME.loc 2]))]) (fun s : Nat => [.sh (.tup (r.map .bl)), .sh (.int s), .no]) D.bl (fun s b => s + s + b.toNat) (fun _ => True) r 0 trivial fun s b _ _ => ⟨trivial, by
    rw [turn1]
    cases b <;> simp -dsimp (disch := first | decide | assumption | omega | ((try simp only [List.length_map, List.length_append, List.length_cons, List.length_nil, List.length_range, rngV_len]); omega)) only [b2D, ↓WD, WP, List.map_cons, List.map_nil, List.cons_append, List.nil_append, List.replicate_succ, List.replicate_zero, List.set_cons_zero, List.set_cons_succ, Nat.sub_self, List.append_nil, alA, alE, alAs, alEs, alI, alIt, alVs, escs, frsL, frs, isT, subC, wipeTV, List.getElem?_cons_zero, List.getElem?_cons_succ, Nat.reduceSub, List.length_append, List.length_cons, List.length_nil, Nat.zero_add, Int.cast_ofNat_Int, Int.lt_irrefl, decide_false, decide_true, Int.reduceLT, Int.reduceLE, Int.reduceSub, Int.reduceAdd, Int.reduceNeg, Bool.not_true, Bool.not_false, beq_self_eq_true, bne_self_eq_false, if_true, if_false, Nat.reduceEqDiff, reduceIte, Nat.reduceBNe, Nat.reduceBEq, Int.reduceBEq, Int.reduceBNe, Bool.or_true, Bool.true_or, Bool.or_false, Bool.false_or, Bool.false_eq_true] <;> simp⟩).1
  rw [show [Sl.sh (D.tup (r.map D.bl)), Sl.sh (D.int 0), Sl.no] = [Sl.sh (D.tup (r.map D.bl)), Sl.sh (D.int ((0 : Nat) : Int)), Sl.no] from rfl, key]
  rfl
theorem num_take (r : List Bool) (j : Nat) (hj : j < r.length) : numB (r.take (j + 1)) = numB (r.take j) + numB (r.take j) + (r[j]).toNat := by
  rw [List.take_succ, List.getElem?_eq_getElem hj, Option.toList_some, num_snoc]
theorem sum_ok (h : Def P T "_law_sum" d__law_sum 0) (h2 : Def P T "_law_count" d__law_count 0) (r : List Bool) (hr : r.length ≤ 60) (n : Nat) : callV P T (n + 2) "_law_sum" [rowD r] = .ok (.int (numB r)) := by
  rw [run1 h rfl]
  simp -dsimp (disch := first | decide | assumption | omega | ((try simp only [List.length_map, List.length_append, List.length_cons, List.length_nil, List.length_range, rngV_len]); omega)) only [d__law_sum, rowD, List.length_map, ↓WD, WP, List.map_cons, List.map_nil, List.cons_append, List.nil_append, List.replicate_succ, List.replicate_zero, List.set_cons_zero, List.set_cons_succ, Nat.sub_self, List.append_nil, alA, alE, alAs, alEs, alI, alIt, alVs, escs, frsL, frs, isT, subC, wipeTV, List.getElem?_cons_zero, List.getElem?_cons_succ, Nat.reduceSub, List.length_append, List.length_cons, List.length_nil, Nat.zero_add, Int.cast_ofNat_Int, Int.lt_irrefl, decide_false, decide_true, Int.reduceLT, Int.reduceLE, Int.reduceSub, Int.reduceAdd, Int.reduceNeg, Bool.not_true, Bool.not_false, beq_self_eq_true, bne_self_eq_false, if_true, if_false, Nat.reduceEqDiff, reduceIte, Nat.reduceBNe, Nat.reduceBEq, Int.reduceBEq, Int.reduceBNe, Bool.or_true, Bool.true_or, Bool.or_false, Bool.false_or, Bool.false_eq_true]
  rw [show [Sl.sh (D.tup (r.map D.bl)), Sl.sh (D.int 0), Sl.no] = [Sl.sh (D.tup (r.map D.bl)), Sl.sh (D.int ((numB (r.take 0) * 2 ^ (r.length - 0) : Nat) : Int)), Sl.no] by simp [numB]]
  rw [for_r (m := r.length) (fun j => [.sh (.tup (r.map .bl)), .sh (.int ((numB (r.take j) * 2 ^ (r.length - j) : Nat) : Int)), .no]) (by omega) fun j hj => ?_]
  · simp [fin, kB]
    rfl
  · have e := count_ok h2 (r.length - 1 - j) (by omega) n
    have e0 : (((r.length - 1 - j : Nat) : Nat) : Int) = (r.length : Int) - 1 - j := by omega
    rw [e0] at e
    have e1 := row_at (r := r) (n := j) hj
    have e2 : rowF r j = r[j] := by simp [rowF, List.getD_eq_getElem?_getD, List.getElem?_eq_getElem hj]
    rw [e2] at e1
    have e3 : r.length - j = r.length - 1 - j + 1 := by omega
    have e4 := num_take r j hj
    have e5 : r.length - (j + 1) = r.length - 1 - j := by omega
    rw [turn1, e3, e4, e5, Nat.pow_succ]
    generalize r[j] = b at *
    generalize numB (r.take j) = a at *
    generalize 2 ^ (r.length - 1 - j) = p at *
    have e6 : a * (p * 2) = a * p + a * p := by rw [← Nat.mul_assoc]; omega
    rw [e6]
    cases b with
    | true =>
      rw [show (a + a + true.toNat) * p = a * p + a * p + p by simp [Nat.add_mul]]
      generalize a * p + a * p = u at *
      simp -dsimp (disch := first | decide | assumption | omega | ((try simp only [List.length_map, List.length_append, List.length_cons, List.length_nil, List.length_range, rngV_len]); omega)) only [Int.zero_add, e, e1, List.length_map, h2.own, ↓WD, WP, List.map_cons, List.map_nil, List.cons_append, List.nil_append, List.replicate_succ, List.replicate_zero, List.set_cons_zero, List.set_cons_succ, Nat.sub_self, List.append_nil, alA, alE, alAs, alEs, alI, alIt, alVs, escs, frsL, frs, isT, subC, wipeTV, List.getElem?_cons_zero, List.getElem?_cons_succ, Nat.reduceSub, List.length_append, List.length_cons, List.length_nil, Nat.zero_add, Int.cast_ofNat_Int, Int.lt_irrefl, decide_false, decide_true, Int.reduceLT, Int.reduceLE, Int.reduceSub, Int.reduceAdd, Int.reduceNeg, Bool.not_true, Bool.not_false, beq_self_eq_true, bne_self_eq_false, if_true, if_false, Nat.reduceEqDiff, reduceIte, Nat.reduceBNe, Nat.reduceBEq, Int.reduceBEq, Int.reduceBNe, Bool.or_true, Bool.true_or, Bool.or_false, Bool.false_or, Bool.false_eq_true]
      rfl
    | false =>
      rw [show (a + a + false.toNat) * p = a * p + a * p by simp [Nat.add_mul]]
      generalize a * p + a * p = u at *
      simp -dsimp (disch := first | decide | assumption | omega | ((try simp only [List.length_map, List.length_append, List.length_cons, List.length_nil, List.length_range, rngV_len]); omega)) only [Int.zero_add, e1, List.length_map, ↓WD, WP, List.map_cons, List.map_nil, List.cons_append, List.nil_append, List.replicate_succ, List.replicate_zero, List.set_cons_zero, List.set_cons_succ, Nat.sub_self, List.append_nil, alA, alE, alAs, alEs, alI, alIt, alVs, escs, frsL, frs, isT, subC, wipeTV, List.getElem?_cons_zero, List.getElem?_cons_succ, Nat.reduceSub, List.length_append, List.length_cons, List.length_nil, Nat.zero_add, Int.cast_ofNat_Int, Int.lt_irrefl, decide_false, decide_true, Int.reduceLT, Int.reduceLE, Int.reduceSub, Int.reduceAdd, Int.reduceNeg, Bool.not_true, Bool.not_false, beq_self_eq_true, bne_self_eq_false, if_true, if_false, Nat.reduceEqDiff, reduceIte, Nat.reduceBNe, Nat.reduceBEq, Int.reduceBEq, Int.reduceBNe, Bool.or_true, Bool.true_or, Bool.or_false, Bool.false_or, Bool.false_eq_true]
theorem whole_ok (h : Def P T "_law_whole" d__law_whole 0) (z : Int) (n : Nat) : callV P T (n + 1) "_law_whole" [.int z] = .ok (.bl true) := by
  rw [run1 h rfl]
  simp -dsimp (disch := first | decide | assumption | omega | ((try simp only [List.length_map, List.length_append, List.length_cons, List.length_nil, List.length_range, rngV_len]); omega)) only [d__law_whole, ↓WD, WP, List.map_cons, List.map_nil, List.cons_append, List.nil_append, List.replicate_succ, List.replicate_zero, List.set_cons_zero, List.set_cons_succ, Nat.sub_self, List.append_nil, alA, alE, alAs, alEs, alI, alIt, alVs, escs, frsL, frs, isT, subC, wipeTV, List.getElem?_cons_zero, List.getElem?_cons_succ, Nat.reduceSub, List.length_append, List.length_cons, List.length_nil, Nat.zero_add, Int.cast_ofNat_Int, Int.lt_irrefl, decide_false, decide_true, Int.reduceLT, Int.reduceLE, Int.reduceSub, Int.reduceAdd, Int.reduceNeg, Bool.not_true, Bool.not_false, beq_self_eq_true, bne_self_eq_false, if_true, if_false, Nat.reduceEqDiff, reduceIte, Nat.reduceBNe, Nat.reduceBEq, Int.reduceBEq, Int.reduceBNe, Bool.or_true, Bool.true_or, Bool.or_false, Bool.false_or, Bool.false_eq_true]
/-- the word of a refusal -/
def clsS : Nat → List Nat
  | 1 => [112, 108, 97, 99, 101]
  | 2 => [110, 97, 109, 101]
  | 3 => [116, 101, 120, 116]
  | 4 => [114, 111, 119]
  | 5 => [116, 97, 98, 108, 101]
  | 6 => [115, 105, 122, 101, 115]
  | _ => [111, 116, 104, 101, 114]
theorem class_ok (h : Def P T "_law_class" d__law_class 0) (z : Nat) (hz : z < 10) (n : Nat) : callV P T (n + 1) "_law_class" [.exc z] = .ok (.str (clsS z)) := by
  have : z = 0 ∨ z = 1 ∨ z = 2 ∨ z = 3 ∨ z = 4 ∨ z = 5 ∨ z = 6 ∨ z = 7 ∨ z = 8 ∨ z = 9 := by omega
  rw [run1 h rfl]
  rcases this with e | e | e | e | e | e | e | e | e | e <;> subst e <;> simp -dsimp (disch := first | decide | assumption | omega | ((try simp only [List.length_map, List.length_append, List.length_cons, List.length_nil, List.length_range, rngV_len]); omega)) only [d__law_class, ↓WD, WP, List.map_cons, List.map_nil, List.cons_append, List.nil_append, List.replicate_succ, List.replicate_zero, List.set_cons_zero, List.set_cons_succ, Nat.sub_self, List.append_nil, alA, alE, alAs, alEs, alI, alIt, alVs, escs, frsL, frs, isT, subC, wipeTV, List.getElem?_cons_zero, List.getElem?_cons_succ, Nat.reduceSub, List.length_append, List.length_cons, List.length_nil, Nat.zero_add, Int.cast_ofNat_Int, Int.lt_irrefl, decide_false, decide_true, Int.reduceLT, Int.reduceLE, Int.reduceSub, Int.reduceAdd, Int.reduceNeg, Bool.not_true, Bool.not_false, beq_self_eq_true, bne_self_eq_false, if_true, if_false, Nat.reduceEqDiff, reduceIte, Nat.reduceBNe, Nat.reduceBEq, Int.reduceBEq, Int.reduceBNe, Bool.or_true, Bool.true_or, Bool.or_false, Bool.false_or, Bool.false_eq_true] <;> rfl
theorem bits_at : ∀ (m z j : Nat), j < m → (bits m z)[j]? = some (bitAt z (m - 1 - j))
  | 0, z, j, h => by omega
  | m + 1, z, 0, h => rfl
  | m + 1, z, j + 1, h => by
    rw [bits, List.getElem?_cons_succ, bits_at m z j (by omega)]
    congr 2
    omega
theorem bits_take (m z j : Nat) (h : j < m) : (bits m z).take (j + 1) = (bits m z).take j ++ [bitAt z (m - 1 - j)] := by
  rw [List.take_succ, bits_at m z j h]; rfl
theorem bit_int (z k : Nat) : (((z : Int) / ((2 ^ k : Nat) : Int)) % 2 == 1) = bitAt z k := by
  unfold bitAt
  rw [← Int.natCast_ediv]
  rcases Nat.mod_two_eq_zero_or_one (z / 2 ^ k) with q | q
  · rw [show (((z / 2 ^ k : Nat) : Int) % 2) = 0 by omega, q]; rfl
  · rw [show (((z / 2 ^ k : Nat) : Int) % 2) = 1 by omega, q]; rfl
theorem lrow_of_ok (h : Def P T "_law_row_of" d__law_row_of 0) (h2 : Def P T "_law_count" d__law_count 0) (z m : Nat) (hm : m ≤ 29) (n : Nat) : callV P T (n + 2) "_law_row_of" [.int z, .int m] = .ok (rowD (bits m z)) := by
  rw [run1 h rfl]
  simp -dsimp (disch := first | decide | assumption | omega | ((try simp only [List.length_map, List.length_append, List.length_cons, List.length_nil, List.length_range, rngV_len]); omega)) only [d__law_row_of, ↓WD, WP, List.map_cons, List.map_nil, List.cons_append, List.nil_append, List.replicate_succ, List.replicate_zero, List.set_cons_zero, List.set_cons_succ, Nat.sub_self, List.append_nil, alA, alE, alAs, alEs, alI, alIt, alVs, escs, frsL, frs, isT, subC, wipeTV, List.getElem?_cons_zero, List.getElem?_cons_succ, Nat.reduceSub, List.length_append, List.length_cons, List.length_nil, Nat.zero_add, Int.cast_ofNat_Int, Int.lt_irrefl, decide_false, decide_true, Int.reduceLT, Int.reduceLE, Int.reduceSub, Int.reduceAdd, Int.reduceNeg, Bool.not_true, Bool.not_false, beq_self_eq_true, bne_self_eq_false, if_true, if_false, Nat.reduceEqDiff, reduceIte, Nat.reduceBNe, Nat.reduceBEq, Int.reduceBEq, Int.reduceBNe, Bool.or_true, Bool.true_or, Bool.or_false, Bool.false_or, Bool.false_eq_true]
  rw [show [Sl.sh (D.int (z : Int)), Sl.sh (D.int m), Sl.ow (D.sq []), Sl.no] = [Sl.sh (D.int z), Sl.sh (D.int m), Sl.ow (D.sq (((bits m z).take 0).map .bl)), Sl.no] by simp]
  rw [for_r (m := m) (fun j => [.sh (.int z), .sh (.int m), .ow (.sq (((bits m z).take j).map .bl)), .no]) (by omega) fun j hj => ?_]
  · have e : (bits m z).take m = bits m z := List.take_of_length_le (by rw [bits_len]; omega)
    simp -dsimp (disch := first | decide | assumption | omega | ((try simp only [List.length_map, List.length_append, List.length_cons, List.length_nil, List.length_range, rngV_len]); omega)) only [e, ↓WD, WP, List.map_cons, List.map_nil, List.cons_append, List.nil_append, List.replicate_succ, List.replicate_zero, List.set_cons_zero, List.set_cons_succ, Nat.sub_self, List.append_nil, alA, alE, alAs, alEs, alI, alIt, alVs, escs, frsL, frs, isT, subC, wipeTV, List.getElem?_cons_zero, List.getElem?_cons_succ, Nat.reduceSub, List.length_append, List.length_cons, List.length_nil, Nat.zero_add, Int.cast_ofNat_Int, Int.lt_irrefl, decide_false, decide_true, Int.reduceLT, Int.reduceLE, Int.reduceSub, Int.reduceAdd, Int.reduceNeg, Bool.not_true, Bool.not_false, beq_self_eq_true, bne_self_eq_false, if_true, if_false, Nat.reduceEqDiff, reduceIte, Nat.reduceBNe, Nat.reduceBEq, Int.reduceBEq, Int.reduceBNe, Bool.or_true, Bool.true_or, Bool.or_false, Bool.false_or, Bool.false_eq_true]
  · have e := count_ok h2 (m - 1 - j) (by omega) n
    have e0 : (((m - 1 - j : Nat) : Nat) : Int) = (m : Int) - 1 - j := by omega
    rw [e0] at e
    have e1 := bit_int z (m - 1 - j)
    have hl : ((bits m z).take j).length ≤ 60 := by rw [List.length_take]; omega
    have p1 : 0 < 2 ^ (m - 1 - j) := Nat.two_pow_pos _
    have p2 : 2 ^ (m - 1 - j) ≤ 2 ^ 29 := Nat.pow_le_pow_right (by omega) (by omega)
    have q : 0 < ((2 ^ (m - 1 - j) : Nat) : Int) ∧ ((2 ^ (m - 1 - j) : Nat) : Int) < 1073741824 := by omega
    rw [turn1, bits_take m z j hj, List.map_append, List.map_cons, List.map_nil]
    generalize ((2 ^ (m - 1 - j) : Nat) : Int) = p at *
    generalize (bits m z).take j = L at *
    simp -dsimp (disch := first | decide | assumption | omega | ((try simp only [List.length_map, List.length_append, List.length_cons, List.length_nil, List.length_range, rngV_len]); omega)) only [Int.zero_add, e, e1, q, h2.own, ↓WD, WP, List.map_cons, List.map_nil, List.cons_append, List.nil_append, List.replicate_succ, List.replicate_zero, List.set_cons_zero, List.set_cons_succ, Nat.sub_self, List.append_nil, alA, alE, alAs, alEs, alI, alIt, alVs, escs, frsL, frs, isT, subC, wipeTV, List.getElem?_cons_zero, List.getElem?_cons_succ, Nat.reduceSub, List.length_append, List.length_cons, List.length_nil, Nat.zero_add, Int.cast_ofNat_Int, Int.lt_irrefl, decide_false, decide_true, Int.reduceLT, Int.reduceLE, Int.reduceSub, Int.reduceAdd, Int.reduceNeg, Bool.not_true, Bool.not_false, beq_self_eq_true, bne_self_eq_false, if_true, if_false, Nat.reduceEqDiff, reduceIte, Nat.reduceBNe, Nat.reduceBEq, Int.reduceBEq, Int.reduceBNe, Bool.or_true, Bool.true_or, Bool.or_false, Bool.false_or, Bool.false_eq_true]
end
end Law

set_option autoImplicit false
set_option linter.all false
set_option Elab.async false
set_option maxRecDepth 10000
set_option maxHeartbeats 400000
set_option pp.maxSteps 1500
namespace Law
open MI
/-! texts of things: how long, of which signs -/
theorem strI_ok (i : Int) : strOk (strI i) = true := by
  unfold strOk strI
  rw [List.all_eq_true]
  intro c hc
  obtain ⟨x, _, rfl⟩ := List.mem_map.mp hc
  have := x.valid
  have h : x.toNat < 1114112 := by
    rcases this with h | h
    · have : x.val.toNat < 55296 := h
      show x.val.toNat < _
      omega
    · have : x.val.toNat < 1114112 := h.2
      exact this
  exact decide_eq_true h
theorem strOk_app {a b : List Nat} (h : strOk a = true) (q : strOk b = true) : strOk (a ++ b) = true := by
  unfold strOk at *
  rw [List.all_append, h, q]; rfl
theorem strOk_cons {a : Nat} {b : List Nat} (h : a < 1114112) (q : strOk b = true) : strOk (a :: b) = true := by
  unfold strOk at *
  rw [List.all_cons, q, decide_eq_true h]; rfl
mutual
theorem rep_ok : ∀ d : D, okRep d = true → strOk (D.rep d) = true
  | .non, _ => rfl
  | .bl b, _ => by cases b <;> rfl
  | .int i, _ => strI_ok i
  | .str s, h => by
    refine strOk_app (strOk_cons (by decide) ?_) rfl
    unfold strOk
    rw [List.all_eq_true]
    intro c hc
    have := List.all_eq_true.mp (show s.all plainC = true from h) c hc
    unfold plainC at this
    simp only [Bool.and_eq_true, decide_eq_true_eq] at this
    exact decide_eq_true (by omega)
  | .tup xs, h => by
    refine strOk_app (strOk_cons (by decide) (reps_ok xs h)) ?_
    split <;> rfl
  | .sq xs, h => strOk_app (strOk_cons (by decide) (reps_ok xs h)) rfl
  | .ref _, h => by cases h
  | .exc _, h => by cases h
  | .lst _, h => by cases h
  | .dic _ _, h => by cases h
theorem reps_ok : ∀ ds : List D, okReps ds = true → strOk (joinS [44, 32] (D.reps ds)) = true
  | [], _ => rfl
  | [d], h => by
    rw [okReps, Bool.and_eq_true] at h
    exact rep_ok d h.1
  | d :: e :: r, h => by
    rw [okReps, Bool.and_eq_true] at h
    exact strOk_app (strOk_app (rep_ok d h.1) rfl) (reps_ok (e :: r) h.2)
end
theorem join_len (B : Nat) : ∀ ds : List D, (∀ x ∈ ds, (D.rep x).length ≤ B) → (joinS [44, 32] (D.reps ds)).length ≤ ds.length * (B + 2)
  | [], _ => Nat.zero_le _
  | [d], h => by
    have := h d (by simp)
    show (D.rep d).length ≤ _
    simp; omega
  | d :: e :: r, h => by
    have h1 := h d (by simp)
    have h2 := join_len B (e :: r) fun x hx => h x (List.mem_cons_of_mem _ hx)
    have e1 : joinS [44, 32] (D.reps (d :: e :: r)) = D.rep d ++ [44, 32] ++ joinS [44, 32] (D.reps (e :: r)) := rfl
    rw [e1, List.length_append, List.length_append]
    simp only [List.length_cons, List.length_nil] at h2 ⊢
    have e2 : (r.length + 1 + 1) * (B + 2) = (r.length + 1) * (B + 2) + (B + 2) := by rw [Nat.add_mul, Nat.one_mul]
    omega
/-- a thing of which a text is made: how deep, how long -/
structure Rp (d k B : Nat) (v : D) : Prop where
  fine : v.fine = true
  dep : v.dep ≤ d
  nst : v.nst ≤ k
  ok : okRep v = true
  len : (D.rep v).length ≤ B
theorem Rp.mono {d k B d' k' B' : Nat} {v : D} (h : Rp d k B v) (h1 : d ≤ d') (h2 : k ≤ k') (h3 : B ≤ B') : Rp d' k' B' v := ⟨h.fine, by have := h.dep; omega, by have := h.nst; omega, h.ok, by have := h.len; omega⟩
theorem Rp.bl (b : Bool) : Rp 0 0 5 (.bl b) := ⟨rfl, Nat.le_refl _, Nat.le_refl _, rfl, by cases b <;> decide⟩
theorem Rp.non : Rp 0 0 4 .non := ⟨rfl, Nat.le_refl _, Nat.le_refl _, rfl, by decide⟩
theorem nat_len (k n : Nat) (h : n < 10 ^ (k + 1)) : (Nat.repr n).toList.length ≤ k + 1 := by
  have e : (Nat.repr n).toList = Nat.toDigits 10 n := by simp [Nat.repr]
  rw [e]
  exact (Nat.length_toDigits_le_iff (b := 10) (by decide) (by omega)).mpr h
theorem Rp.nat (n : Nat) (h : n < 10 ^ 9) : Rp 0 0 9 (.int n) := by
  refine ⟨rfl, Nat.le_refl _, Nat.le_refl _, ?_, ?_⟩
  · refine decide_eq_true ?_
    have : n.log2 ≤ 31 := by
      by_cases c : n = 0
      · subst c; decide
      · have := (Nat.log2_lt c (k := 32)).mpr (by omega)
        omega
    show n.log2 < 1900
    omega
  · show ((toString ((n : Nat) : Int)).toList.map Char.toNat).length ≤ 9
    rw [List.length_map]
    exact nat_len 8 n h
theorem fines_of {ds : List D} (h : ∀ x ∈ ds, x.fine = true) : D.fines ds = true := by
  induction ds with
  | nil => rfl
  | cons d ds ih => rw [D.fines, h d (by simp), ih fun x hx => h x (List.mem_cons_of_mem _ hx)]; rfl
theorem deps_of {ds : List D} {d : Nat} (h : ∀ x ∈ ds, x.dep ≤ d) : D.deps ds ≤ d := by
  induction ds with
  | nil => exact Nat.zero_le _
  | cons e ds ih =>
    have h1 := h e (by simp)
    have h2 := ih fun x hx => h x (List.mem_cons_of_mem _ hx)
    rw [D.deps]; omega
theorem nsts_of {ds : List D} {d : Nat} (h : ∀ x ∈ ds, x.nst ≤ d) : D.nsts ds ≤ d := by
  induction ds with
  | nil => exact Nat.zero_le _
  | cons e ds ih =>
    have h1 := h e (by simp)
    have h2 := ih fun x hx => h x (List.mem_cons_of_mem _ hx)
    rw [D.nsts]; omega
theorem okReps_of {ds : List D} (h : ∀ x ∈ ds, okRep x = true) : okReps ds = true := by
  induction ds with
  | nil => rfl
  | cons d ds ih => rw [okReps, h d (by simp), ih fun x hx => h x (List.mem_cons_of_mem _ hx)]; rfl
theorem Rp.tup {d k B L : Nat} {xs : List D} (h : ∀ x ∈ xs, Rp d k B x) (hl : xs.length ≤ L) : Rp (d + 1) k (L * (B + 2) + 3) (.tup xs) := by
  refine ⟨fines_of fun x hx => (h x hx).fine, ?_, nsts_of fun x hx => (h x hx).nst, okReps_of fun x hx => (h x hx).ok, ?_⟩
  · have := deps_of fun x hx => (h x hx).dep
    rw [D.dep]; omega
  · have h1 := join_len B xs fun x hx => (h x hx).len
    have h2 : xs.length * (B + 2) ≤ L * (B + 2) := Nat.mul_le_mul_right _ hl
    rw [D.rep, List.length_append, List.length_cons]
    split <;> simp only [List.length_cons, List.length_nil] <;> omega
theorem Rp.sq {d k B L : Nat} {xs : List D} (h : ∀ x ∈ xs, Rp d k B x) (hl : xs.length ≤ L) : Rp (d + 1) (k + 1) (L * (B + 2) + 2) (.sq xs) := by
  refine ⟨fines_of fun x hx => (h x hx).fine, ?_, ?_, okReps_of fun x hx => (h x hx).ok, ?_⟩
  · have := deps_of fun x hx => (h x hx).dep
    rw [D.dep]; omega
  · have := nsts_of fun x hx => (h x hx).nst
    rw [D.nst]; omega
  · have h1 := join_len B xs fun x hx => (h x hx).len
    have h2 : xs.length * (B + 2) ≤ L * (B + 2) := Nat.mul_le_mul_right _ hl
    rw [D.rep, List.length_append, List.length_cons]
    simp only [List.length_cons, List.length_nil]; omega
theorem Rp.row (r : List Bool) {L : Nat} (hl : r.length ≤ L) : Rp 1 0 (L * 7 + 3) (rowD r) := Rp.tup (L := L) (fun x hx => by
  obtain ⟨b, _, rfl⟩ := List.mem_map.mp hx
  exact Rp.bl b) (by rw [List.length_map]; exact hl)
theorem Rp.go {d k B : Nat} {v : D} (h : Rp d k B v) (hk : repKV v = true) (h1 : d ≤ 60) (h2 : k ≤ 6) (h3 : B ≤ 16777216) : (repKV v && shpV v && repOk v) = true := by
  have s : shp v = true := by
    unfold shp
    rw [h.fine, decide_eq_true (by have := h.dep; omega)]; rfl
  have e : shpV v = true := by
    unfold shpV
    rw [s, decide_eq_true (by have := h.nst; omega)]; rfl
  have q : repOk v = true := by
    unfold repOk
    rw [s, h.ok, decide_eq_true (by have := h.len; show _ ≤ 16777216; omega)]; rfl
  rw [hk, e, q]; rfl
theorem Rp.str {d k B : Nat} {v : D} (h : Rp d k B v) : strOk (D.rep v) = true := rep_ok v h.ok
theorem Rp.shp {d k B : Nat} {v : D} (h : Rp d k B v) (h1 : d ≤ 60) (h2 : k ≤ 6) : shpV v = true := by
  unfold shpV MI.shp
  rw [h.fine, decide_eq_true (by have := h.dep; omega), decide_eq_true (by have := h.nst; omega)]; rfl
mutual
theorem eqv_self : ∀ d : D, d.fine = true → D.eqv d d = true
  | .non, _ => rfl
  | .bl b, _ => by simp [D.eqv]
  | .int i, _ => by simp [D.eqv]
  | .str s, _ => by simp [D.eqv]
  | .tup xs, h => by rw [D.fine] at h; rw [D.eqv]; exact eqvs_self xs h
  | .sq xs, h => by rw [D.fine] at h; rw [D.eqv]; exact eqvs_self xs h
  | .lst _, h => by simp [D.fine] at h
  | .ref _, h => by simp [D.fine] at h
  | .exc _, h => by simp [D.fine] at h
  | .dic _ _, h => by simp [D.fine] at h
theorem eqvs_self : ∀ xs : List D, D.fines xs = true → D.eqvs xs xs = true
  | [], _ => rfl
  | x :: xs, h => by
    rw [D.fines, Bool.and_eq_true] at h
    rw [D.eqvs, eqv_self x h.1, eqvs_self xs h.2]; rfl
end
theorem Rp.eqs {d k B : Nat} {v : D} (h : Rp d k B v) (h1 : d ≤ 60) (h2 : k ≤ 6) {β : Type} {kb : Bool → Rv β} : (cmpV .eq v v).bind kb = kb true := by
  rw [q_eqG ⟨h.shp h1 h2, h.shp h1 h2⟩, eqv_self v h.fine]
theorem Rp.nes {d k B : Nat} {v : D} (h : Rp d k B v) (h1 : d ≤ 60) (h2 : k ≤ 6) {β : Type} {kb : Bool → Rv β} : (cmpV .ne v v).bind kb = kb false := by
  rw [q_neG ⟨h.shp h1 h2, h.shp h1 h2⟩, eqv_self v h.fine]; rfl
end Law

set_option autoImplicit false
set_option linter.all false
set_option Elab.async false
set_option maxRecDepth 10000
set_option maxHeartbeats 400000
set_option pp.maxSteps 1500
namespace Law
open MI
/-! ### lists of numbers -/
theorem inc_ext : ∀ (a b : List Int), a.Pairwise (· < ·) → b.Pairwise (· < ·) → (∀ x, x ∈ a ↔ x ∈ b) → a = b
  | [], [], _, _, _ => rfl
  | [], y :: b, _, _, h => by have := (h y).mpr (by simp); cases this
  | x :: a, [], _, _, h => by have := (h x).mp (by simp); cases this
  | x :: a, y :: b, ha, hb, h => by
    have ha' := List.pairwise_cons.mp ha
    have hb' := List.pairwise_cons.mp hb
    have e : x = y := by
      have h1 := (h x).mp (by simp)
      have h2 := (h y).mpr (by simp)
      rcases List.mem_cons.mp h1 with e | e
      · exact e
      · rcases List.mem_cons.mp h2 with e2 | e2
        · exact e2.symm
        · have := hb'.1 x e; have := ha'.1 y e2; omega
    subst e
    rw [inc_ext a b ha'.2 hb'.2 fun z => ?_]
    constructor
    · intro hz
      rcases List.mem_cons.mp ((h z).mp (List.mem_cons_of_mem _ hz)) with e | e
      · have := ha'.1 z hz; omega
      · exact e
    · intro hz
      rcases List.mem_cons.mp ((h z).mpr (List.mem_cons_of_mem _ hz)) with e | e
      · have := hb'.1 z hz; omega
      · exact e
theorem ints_shp : ∀ L : List Int, (L.map D.int).all shpV = true
  | [] => rfl
  | x :: L => by rw [List.map_cons, List.all_cons, ints_shp L]; rfl
theorem any_int (x : Int) : ∀ L : List Int, (L.map D.int).any (fun y => D.eqv y (.int x)) = decide (x ∈ L)
  | [] => by simp
  | y :: L => by
    rw [List.map_cons, List.any_cons, any_int x L, D.eqv]
    simp only [List.mem_cons]
    by_cases e : y = x
    · subst e; simp
    · have e2 : ¬ x = y := fun z => e z.symm
      simp [e, e2]
theorem in_ints {β : Type} {kb : Bool → Rv β} {x : Int} {L : List Int} : (cmpV .isin (.int x) (.sq (L.map .int))).bind kb = kb (decide (x ∈ L)) := by
  show (memV (.int x) (L.map .int)).bind kb = _
  unfold memV
  rw [ints_shp L, any_int]
  rfl
theorem nin_ints {β : Type} {kb : Bool → Rv β} {x : Int} {L : List Int} : (cmpV .nin (.int x) (.sq (L.map .int))).bind kb = kb (!decide (x ∈ L)) := by
  show ((cmpV .isin (.int x) (.sq (L.map .int))).bind fun b => Rv.ok (!b)).bind kb = _
  rw [in_ints]; rfl
theorem rng_inc (m : Nat) : ((List.range m).map fun (i : Nat) => (i : Int)).Pairwise (· < ·) := by
  rw [List.pairwise_map]
  exact List.pairwise_lt_range.imp fun h => by omega
theorem ints_nil : ([] : List D) = ([] : List Int).map D.int := rfl
section
variable {P : PrM} {T : VT}
theorem places_in_ok (h : Def P T "places_in" d_places_in 2) (h2 : Def P T "places_below" d_places_below 2) (f : Fm) (n : Nat) (hn : f.tall ≤ n) (hl : f.low 60 = true) : callV P T (n + 1) "places_in" [f.toD] = .ok (intsD f.pl) := by
  have ih := places_below_ok h2 f n hn hl
  rw [run1 h rfl]
  simp -dsimp (disch := first | decide | assumption | omega | ((try simp only [List.length_map, List.length_append, List.length_cons, List.length_nil, List.length_range, rngV_len]); omega)) only [d_places_in, ih, intsD, h2.own, ↓WD, WP, List.map_cons, List.map_nil, List.cons_append, List.nil_append, List.replicate_succ, List.replicate_zero, List.set_cons_zero, List.set_cons_succ, Nat.sub_self, List.append_nil, alA, alE, alAs, alEs, alI, alIt, alVs, escs, frsL, frs, isT, subC, wipeTV, List.getElem?_cons_zero, List.getElem?_cons_succ, Nat.reduceSub, List.length_append, List.length_cons, List.length_nil, Nat.zero_add, Int.cast_ofNat_Int, Int.lt_irrefl, decide_false, decide_true, Int.reduceLT, Int.reduceLE, Int.reduceSub, Int.reduceAdd, Int.reduceNeg, Bool.not_true, Bool.not_false, beq_self_eq_true, bne_self_eq_false, if_true, if_false, Nat.reduceEqDiff, reduceIte, Nat.reduceBNe, Nat.reduceBEq, Int.reduceBEq, Int.reduceBNe, Bool.or_true, Bool.true_or, Bool.or_false, Bool.false_or, Bool.false_eq_true]
  simp -dsimp (disch := first | decide | assumption | omega | ((try simp only [List.length_map, List.length_append, List.length_cons, List.length_nil, List.length_range, rngV_len]); omega)) only [retOk, flc_ints, h2.own, ↓WD, WP, List.map_cons, List.map_nil, List.cons_append, List.nil_append, List.replicate_succ, List.replicate_zero, List.set_cons_zero, List.set_cons_succ, Nat.sub_self, List.append_nil, alA, alE, alAs, alEs, alI, alIt, alVs, escs, frsL, frs, isT, subC, wipeTV, List.getElem?_cons_zero, List.getElem?_cons_succ, Nat.reduceSub, List.length_append, List.length_cons, List.length_nil, Nat.zero_add, Int.cast_ofNat_Int, Int.lt_irrefl, decide_false, decide_true, Int.reduceLT, Int.reduceLE, Int.reduceSub, Int.reduceAdd, Int.reduceNeg, Bool.not_true, Bool.not_false, beq_self_eq_true, bne_self_eq_false, if_true, if_false, Nat.reduceEqDiff, reduceIte, Nat.reduceBNe, Nat.reduceBEq, Int.reduceBEq, Int.reduceBNe, Bool.or_true, Bool.true_or, Bool.or_false, Bool.false_or, Bool.false_eq_true]
  rfl
theorem need_places_no (h : Def P T "need_places" d_need_places 0) (h2 : Def P T "places_below" d_places_below 2) (f : Fm) (m n : Nat) (hn : f.tall ≤ n) (hl : f.low 60 = true) (hm : f.low m = false) :
    callV P T (n + 1) "need_places" [f.toD, .int m] = .ex 1 := by
  have ih := places_below_ok h2 f n hn hl
  have len := pl_len (f := f) hl
  rw [run1 h rfl]
  simp -dsimp (disch := first | decide | assumption | omega | ((try simp only [List.length_map, List.length_append, List.length_cons, List.length_nil, List.length_range, rngV_len]); omega)) only [d_need_places, ih, intsD, h2.own, ↓WD, WP, List.map_cons, List.map_nil, List.cons_append, List.nil_append, List.replicate_succ, List.replicate_zero, List.set_cons_zero, List.set_cons_succ, Nat.sub_self, List.append_nil, alA, alE, alAs, alEs, alI, alIt, alVs, escs, frsL, frs, isT, subC, wipeTV, List.getElem?_cons_zero, List.getElem?_cons_succ, Nat.reduceSub, List.length_append, List.length_cons, List.length_nil, Nat.zero_add, Int.cast_ofNat_Int, Int.lt_irrefl, decide_false, decide_true, Int.reduceLT, Int.reduceLE, Int.reduceSub, Int.reduceAdd, Int.reduceNeg, Bool.not_true, Bool.not_false, beq_self_eq_true, bne_self_eq_false, if_true, if_false, Nat.reduceEqDiff, reduceIte, Nat.reduceBNe, Nat.reduceBEq, Int.reduceBEq, Int.reduceBNe, Bool.or_true, Bool.true_or, Bool.or_false, Bool.false_or, Bool.false_eq_true]
  rw [for_s (σ := [.sh f.toD, .sh (.int m), .no]) D.int (fun x => if (m : Int) ≤ x then some (.ex 1) else none) f.pl (fun x r _ z => by split at z <;> cases z; exact .inr ⟨1, rfl⟩) fun x hx => ?_]
  · rw [findSome_ex (r := .ex 1) (fun x _ => by by_cases c : (m : Int) ≤ x <;> simp [c]) ?_]
    · rfl
    · have : ¬ (∀ k, f.has k → k < m) := fun z => by rw [has_low f z] at hm; cases hm
      obtain ⟨k, hk⟩ := Classical.not_forall.mp this
      have hk2 : f.has k ∧ ¬ k < m := by
        by_cases c : f.has k
        · exact ⟨c, fun z => hk fun _ => z⟩
        · exact absurd (fun z => absurd z c) hk
      exact ⟨k, (pl_mem k f).mpr hk2.1, if_pos (by omega)⟩
  · rw [turn1]
    by_cases c : (m : Int) ≤ x
    · simp -dsimp (disch := first | decide | assumption | omega | ((try simp only [List.length_map, List.length_append, List.length_cons, List.length_nil, List.length_range, rngV_len]); omega)) only [decide_eq_true c, ↓WD, WP, List.map_cons, List.map_nil, List.cons_append, List.nil_append, List.replicate_succ, List.replicate_zero, List.set_cons_zero, List.set_cons_succ, Nat.sub_self, List.append_nil, alA, alE, alAs, alEs, alI, alIt, alVs, escs, frsL, frs, isT, subC, wipeTV, List.getElem?_cons_zero, List.getElem?_cons_succ, Nat.reduceSub, List.length_append, List.length_cons, List.length_nil, Nat.zero_add, Int.cast_ofNat_Int, Int.lt_irrefl, decide_false, decide_true, Int.reduceLT, Int.reduceLE, Int.reduceSub, Int.reduceAdd, Int.reduceNeg, Bool.not_true, Bool.not_false, beq_self_eq_true, bne_self_eq_false, if_true, if_false, Nat.reduceEqDiff, reduceIte, Nat.reduceBNe, Nat.reduceBEq, Int.reduceBEq, Int.reduceBNe, Bool.or_true, Bool.true_or, Bool.or_false, Bool.false_or, Bool.false_eq_true]
      simp [c]
    · simp -dsimp (disch := first | decide | assumption | omega | ((try simp only [List.length_map, List.length_append, List.length_cons, List.length_nil, List.length_range, rngV_len]); omega)) only [decide_eq_false c, ↓WD, WP, List.map_cons, List.map_nil, List.cons_append, List.nil_append, List.replicate_succ, List.replicate_zero, List.set_cons_zero, List.set_cons_succ, Nat.sub_self, List.append_nil, alA, alE, alAs, alEs, alI, alIt, alVs, escs, frsL, frs, isT, subC, wipeTV, List.getElem?_cons_zero, List.getElem?_cons_succ, Nat.reduceSub, List.length_append, List.length_cons, List.length_nil, Nat.zero_add, Int.cast_ofNat_Int, Int.lt_irrefl, decide_false, decide_true, Int.reduceLT, Int.reduceLE, Int.reduceSub, Int.reduceAdd, Int.reduceNeg, Bool.not_true, Bool.not_false, beq_self_eq_true, bne_self_eq_false, if_true, if_false, Nat.reduceEqDiff, reduceIte, Nat.reduceBNe, Nat.reduceBEq, Int.reduceBEq, Int.reduceBNe, Bool.or_true, Bool.true_or, Bool.or_false, Bool.false_or, Bool.false_eq_true]
      simp [c]
theorem value_no (M : FormsM P T) (f : Fm) (r : List Bool) (n : Nat) (hn : f.tall ≤ n) (hr : r.length ≤ 60) (hf : f.low 60 = true) (hl : f.low r.length = false) : callV P T (n + 2) "value" [f.toD, rowD r] = .ex 1 := by
  have h1 := need_places_no M.need M.below f r.length n hn hf hl
  rw [run1 M.value rfl]
  simp -dsimp (disch := first | decide | assumption | omega | ((try simp only [List.length_map, List.length_append, List.length_cons, List.length_nil, List.length_range, rngV_len]); omega)) only [d_value, rowD, List.length_map, h1, ↓WD, WP, List.map_cons, List.map_nil, List.cons_append, List.nil_append, List.replicate_succ, List.replicate_zero, List.set_cons_zero, List.set_cons_succ, Nat.sub_self, List.append_nil, alA, alE, alAs, alEs, alI, alIt, alVs, escs, frsL, frs, isT, subC, wipeTV, List.getElem?_cons_zero, List.getElem?_cons_succ, Nat.reduceSub, List.length_append, List.length_cons, List.length_nil, Nat.zero_add, Int.cast_ofNat_Int, Int.lt_irrefl, decide_false, decide_true, Int.reduceLT, Int.reduceLE, Int.reduceSub, Int.reduceAdd, Int.reduceNeg, Bool.not_true, Bool.not_false, beq_self_eq_true, bne_self_eq_false, if_true, if_false, Nat.reduceEqDiff, reduceIte, Nat.reduceBNe, Nat.reduceBEq, Int.reduceBEq, Int.reduceBNe, Bool.or_true, Bool.true_or, Bool.or_false, Bool.false_or, Bool.false_eq_true]
end
end Law

set_option autoImplicit false
set_option linter.all false
set_option Elab.async false
set_option maxRecDepth 10000
set_option maxHeartbeats 400000
namespace Law
open MI
def d__law_cell_at : FD := { ar := 2, ns := 2, body := [(.ife (.cmp .lt (.loc 1) (.blt .len [(.loc 0)])) [(.ret (.idx (.loc 0) (.loc 1)))] []), (.ret (.cst (.int 0)))] }
def d__law_mixed : FD := { ar := 3, ns := 5, body := [(.set 3 (.lst [(.cst (.int 99991)), (.cst (.int 99989)), (.cst (.int 99971)), (.cst (.int 99961)), (.cst (.int 99929)), (.cst (.int 99923)), (.cst (.int 99907)), (.cst (.int 99901)), (.cst (.int 99881)), (.cst (.int 99877)), (.cst (.int 99871))])), (.set 4 (.bin .mod (.bin .mul (.bin .add (.loc 0) (.bin .mul (.cst (.int 7)) (.loc 1))) (.cst (.int 48271))) (.idx (.loc 3) (.bin .mod (.loc 1) (.cst (.int 11)))))), (.ret (.bin .mod (.bin .mod (.bin .add (.bin .add (.bin .mul (.bin .mul (.loc 4) (.loc 4)) (.cst (.int 7))) (.loc 4)) (.loc 1)) (.cst (.int 1000003))) (.loc 2)))] }
def d__law_leaf : FD := { ar := 2, ns := 2, body := [(.ife (.or (.cmp .eq (.loc 1) (.cst (.int 0))) (.cmp .eq (.bin .mod (.loc 0) (.cst (.int 9))) (.cst (.int 8)))) [(.ret (.tup [(.cst (.str [105, 115])), (.cmp .eq (.bin .mod (.bin .fdiv (.loc 0) (.cst (.int 9))) (.cst (.int 2))) (.cst (.int 1)))]))] []), (.ret (.tup [(.cst (.str [97, 116])), (.call "_law_mixed" [(.bin .fdiv (.loc 0) (.cst (.int 8))), (.cst (.int 1)), (.loc 1)])]))] }
def d__law_deep : FD := { ar := 3, ns := 6, body := [(.set 3 (.call "_law_leaf" [(.loc 0), (.loc 1)])), (.for_ (.one 4) (.rng (.loc 2)) [(.set 5 (.call "_law_mixed" [(.loc 0), (.loc 4), (.cst (.int 5))])), (.ife (.or (.cmp .lt (.loc 5) (.cst (.int 2))) (.cmp .eq (.bin .mod (.loc 0) (.cst (.int 4))) (.cst (.int 1)))) [(.set 3 (.tup [(.cst (.str [110, 111, 116])), (.loc 3)]))] [(.ife (.cmp .eq (.loc 5) (.cst (.int 2))) [(.set 3 (.tup [(.cst (.str [97, 110, 100])), (.loc 3), (.call "_law_leaf" [(.bin .add (.loc 0) (.bin .mul (.cst (.int 8)) (.loc 4))), (.loc 1)])]))] [(.set 3 (.tup [(.idx (.lst [(.cst (.str [111, 114])), (.cst (.str [111, 100, 100]))]) (.bin .sub (.loc 5) (.cst (.int 3)))), (.call "_law_leaf" [(.bin .add (.loc 0) (.bin .mul (.cst (.int 8)) (.loc 4))), (.loc 1)]), (.loc 3)]))])])]), (.ret (.loc 3))] }
def d__law_form_by : FD := { ar := 2, ns := 6, body := [(.ife (.and (.cmp .gt (.blt .len [(.loc 0)]) (.cst (.int 0))) (.cmp .eq (.bin .mod (.idx (.loc 0) (.cst (.int 0))) (.cst (.int 16))) (.cst (.int 5)))) [(.ret (.call "_law_deep" [(.bin .fdiv (.idx (.loc 0) (.cst (.int 0))) (.cst (.int 16))), (.loc 1), (.bin .add (.cst (.int 4)) (.bin .mod (.bin .fdiv (.idx (.loc 0) (.cst (.int 0))) (.cst (.int 16))) (.cst (.int 55))))]))] []), (.set 2 (.lst [])), (.for_ (.one 3) (.seq (.loc 0)) [(.set 4 (.bin .mod (.loc 3) (.cst (.int 8)))), (.ife (.and (.cmp .eq (.loc 4) (.cst (.int 4))) (.cmp .gt (.blt .len [(.loc 2)]) (.cst (.int 0)))) [(.exp (.mth .append (.loc 2) [(.tup [(.cst (.str [110, 111, 116])), (.mth .pop (.loc 2) [])])]))] [(.ife (.and (.cmp .gt (.loc 4) (.cst (.int 4))) (.cmp .gt (.blt .len [(.loc 2)]) (.cst (.int 1)))) [(.set 5 (.mth .pop (.loc 2) [])), (.exp (.mth .append (.loc 2) [(.tup [(.idx (.lst [(.cst (.str [97, 110, 100])), (.cst (.str [111, 114])), (.cst (.str [111, 100, 100]))]) (.bin .sub (.loc 4) (.cst (.int 5)))), (.mth .pop (.loc 2) []), (.loc 5)])]))] [(.exp (.mth .append (.loc 2) [(.call "_law_leaf" [(.loc 3), (.loc 1)])]))])])]), (.ife (.cmp .eq (.blt .len [(.loc 2)]) (.cst (.int 0))) [(.ret (.tup [(.cst (.str [105, 115])), (.cst (.bl false))]))] []), (.whl (.cmp .gt (.blt .len [(.loc 2)]) (.cst (.int 1))) [(.set 5 (.mth .pop (.loc 2) [])), (.exp (.mth .append (.loc 2) [(.tup [(.idx (.lst [(.cst (.str [97, 110, 100])), (.cst (.str [111, 114])), (.cst (.str [111, 100, 100]))]) (.bin .mod (.blt .len [(.loc 2)]) (.cst (.int 3)))), (.mth .pop (.loc 2) []), (.loc 5)])]))]), (.ret (.idx (.loc 2) (.cst (.int 0))))] }
def d__law_truth : FD := { ar := 2, ns := 3, body := [(.ife (.cmp .eq (.idx (.loc 0) (.cst (.int 0))) (.cst (.str [105, 115]))) [(.ret (.idx (.loc 0) (.cst (.int 1))))] []), (.ife (.cmp .eq (.idx (.loc 0) (.cst (.int 0))) (.cst (.str [97, 116]))) [(.ret (.idx (.loc 1) (.idx (.loc 0) (.cst (.int 1)))))] []), (.ife (.cmp .eq (.idx (.loc 0) (.cst (.int 0))) (.cst (.str [110, 111, 116]))) [(.ret (.cmp .is (.call "_law_truth" [(.idx (.loc 0) (.cst (.int 1))), (.loc 1)]) (.cst (.bl false))))] []), (.set 2 (.lst [(.call "_law_truth" [(.idx (.loc 0) (.cst (.int 1))), (.loc 1)]), (.call "_law_truth" [(.idx (.loc 0) (.cst (.int 2))), (.loc 1)])])), (.ife (.cmp .eq (.idx (.loc 0) (.cst (.int 0))) (.cst (.str [97, 110, 100]))) [(.ret (.cmp .eq (.loc 2) (.lst [(.cst (.bl true)), (.cst (.bl true))])))] []), (.ife (.cmp .eq (.idx (.loc 0) (.cst (.int 0))) (.cst (.str [111, 114]))) [(.ret (.cmp .ne (.loc 2) (.lst [(.cst (.bl false)), (.cst (.bl false))])))] []), (.ret (.cmp .ne (.idx (.loc 2) (.cst (.int 0))) (.idx (.loc 2) (.cst (.int 1)))))] }
def d__law_row : FD := { ar := 2, ns := 3, body := [(.ret (.blt .tuple [(.lc (.one 2) (.rng (.loc 1)) none (.cmp .eq (.call "_law_mixed" [(.loc 0), (.loc 2), (.cst (.int 2))]) (.cst (.int 1))))]))] }
section
variable {P : PrM} {T : VT}
def cellN (ns : List Int) (k : Int) : Int := if k < ns.length then ns.getD k.toNat 0 else 0
abbrev scr (ns : List Int) : D := .lst (ns.map .int)
theorem cell_ok (h : Def P T "_law_cell_at" d__law_cell_at 0) (ns : List Int) (hl : ns.length ≤ 63) (k : Int) (hk : 0 ≤ k) (n : Nat) : callV P T (n + 1) "_law_cell_at" [scr ns, .int k] = .ok (.int (cellN ns k)) := by
  rw [run1 h rfl]
  by_cases c : k < ns.length
  · have h2 : k.toNat < ns.length := by omega
    have e : atD (ns.map D.int) k = some (.int (cellN ns k)) := at_i hk (by rw [List.getElem?_map, List.getElem?_eq_getElem h2]; simp [cellN, c, List.getD_eq_getElem?_getD, List.getElem?_eq_getElem h2])
    simp -dsimp (disch := first | decide | assumption | omega | ((try simp only [List.length_map, List.length_append, List.length_cons, List.length_nil, List.length_range, rngV_len]); omega)) only [d__law_cell_at, List.length_map, decide_eq_true c, e, ↓WD, WP, List.map_cons, List.map_nil, List.cons_append, List.nil_append, List.replicate_succ, List.replicate_zero, List.set_cons_zero, List.set_cons_succ, Nat.sub_self, List.append_nil, alA, alE, alAs, alEs, alI, alIt, alVs, escs, frsL, frs, isT, subC, wipeTV, List.getElem?_cons_zero, List.getElem?_cons_succ, Nat.reduceSub, List.length_append, List.length_cons, List.length_nil, Nat.zero_add, Int.cast_ofNat_Int, Int.lt_irrefl, decide_false, decide_true, Int.reduceLT, Int.reduceLE, Int.reduceSub, Int.reduceAdd, Int.reduceNeg, Bool.not_true, Bool.not_false, beq_self_eq_true, bne_self_eq_false, if_true, if_false, Nat.reduceEqDiff, reduceIte, Nat.reduceBNe, Nat.reduceBEq, Int.reduceBEq, Int.reduceBNe, Bool.or_true, Bool.true_or, Bool.or_false, Bool.false_or, Bool.false_eq_true]
  · simp -dsimp (disch := first | decide | assumption | omega | ((try simp only [List.length_map, List.length_append, List.length_cons, List.length_nil, List.length_range, rngV_len]); omega)) only [d__law_cell_at, List.length_map, decide_eq_false c, ↓WD, WP, List.map_cons, List.map_nil, List.cons_append, List.nil_append, List.replicate_succ, List.replicate_zero, List.set_cons_zero, List.set_cons_succ, Nat.sub_self, List.append_nil, alA, alE, alAs, alEs, alI, alIt, alVs, escs, frsL, frs, isT, subC, wipeTV, List.getElem?_cons_zero, List.getElem?_cons_succ, Nat.reduceSub, List.length_append, List.length_cons, List.length_nil, Nat.zero_add, Int.cast_ofNat_Int, Int.lt_irrefl, decide_false, decide_true, Int.reduceLT, Int.reduceLE, Int.reduceSub, Int.reduceAdd, Int.reduceNeg, Bool.not_true, Bool.not_false, beq_self_eq_true, bne_self_eq_false, if_true, if_false, Nat.reduceEqDiff, reduceIte, Nat.reduceBNe, Nat.reduceBEq, Int.reduceBEq, Int.reduceBNe, Bool.or_true, Bool.true_or, Bool.or_false, Bool.false_or, Bool.false_eq_true]
    simp [cellN, c]
def P11 : List Int := [99991, 99989, 99971, 99961, 99929, 99923, 99907, 99901, 99881, 99877, 99871]
def madeN (cell k : Int) : Int := (cell + 7 * k) * 48271 % P11.getD (k % 11).toNat 1
def mixN (cell k many : Int) : Int := (madeN cell k * madeN cell k * 7 + madeN cell k + k) % 1000003 % many
theorem mix_lt {cell k many : Int} (h : 0 < many) : 0 ≤ mixN cell k many ∧ mixN cell k many < many := ⟨Int.emod_nonneg _ (by omega), Int.emod_lt_of_pos _ h⟩
theorem p11 (k : Int) : ∃ p : Int, atD (P11.map D.int) (k % 11) = some (.int p) ∧ P11.getD (k % 11).toNat 1 = p ∧ 0 < p ∧ p < 100000 := by
  have h0 := Int.emod_nonneg k (b := 11) (by decide)
  have h1 := Int.emod_lt_of_pos k (b := 11) (by decide)
  generalize k % 11 = r at h0 h1
  have : r = 0 ∨ r = 1 ∨ r = 2 ∨ r = 3 ∨ r = 4 ∨ r = 5 ∨ r = 6 ∨ r = 7 ∨ r = 8 ∨ r = 9 ∨ r = 10 := by omega
  rcases this with e | e | e | e | e | e | e | e | e | e | e <;> subst e <;> exact ⟨_, rfl, rfl, by decide, by decide⟩
theorem mixed_ok (h : Def P T "_law_mixed" d__law_mixed 0) (cell k many : Int) (hk : 0 ≤ k ∧ k < 1000000) (hm : 0 < many) (n : Nat) : callV P T (n + 1) "_law_mixed" [.int cell, .int k, .int many] = .ok (.int (mixN cell k many)) := by
  obtain ⟨p, h1, h2, h3, h4⟩ := p11 k
  have h0 := Int.emod_nonneg ((cell + 7 * k) * 48271) (b := p) (by omega)
  have h5 := Int.emod_lt_of_pos ((cell + 7 * k) * 48271) h3
  have e : (cell + 7 * k) * 48271 % p = madeN cell k := by unfold madeN; rw [h2]
  rw [e] at h0 h5
  have h6 : 0 ≤ madeN cell k * madeN cell k := Int.mul_nonneg h0 h0
  rw [run1 h rfl]
  simp -dsimp (disch := first | decide | assumption | omega | ((try simp only [List.length_map, List.length_append, List.length_cons, List.length_nil, List.length_range, rngV_len]); omega)) only [d__law_mixed, ↓WD, WP, List.map_cons, List.map_nil, List.cons_append, List.nil_append, List.replicate_succ, List.replicate_zero, List.set_cons_zero, List.set_cons_succ, Nat.sub_self, List.append_nil, alA, alE, alAs, alEs, alI, alIt, alVs, escs, frsL, frs, isT, subC, wipeTV, List.getElem?_cons_zero, List.getElem?_cons_succ, Nat.reduceSub, List.length_append, List.length_cons, List.length_nil, Nat.zero_add, Int.cast_ofNat_Int, Int.lt_irrefl, decide_false, decide_true, Int.reduceLT, Int.reduceLE, Int.reduceSub, Int.reduceAdd, Int.reduceNeg, Bool.not_true, Bool.not_false, beq_self_eq_true, bne_self_eq_false, if_true, if_false, Nat.reduceEqDiff, reduceIte, Nat.reduceBNe, Nat.reduceBEq, Int.reduceBEq, Int.reduceBNe, Bool.or_true, Bool.true_or, Bool.or_false, Bool.false_or, Bool.false_eq_true]
  simp -dsimp (disch := first | decide | assumption | omega | ((try simp only [List.length_map, List.length_append, List.length_cons, List.length_nil, List.length_range, rngV_len]); omega)) only [show atD [D.int 99991, .int 99989, .int 99971, .int 99961, .int 99929, .int 99923, .int 99907, .int 99901, .int 99881, .int 99877, .int 99871] (k % 11) = some (.int p) from h1, e, ↓WD, WP, List.map_cons, List.map_nil, List.cons_append, List.nil_append, List.replicate_succ, List.replicate_zero, List.set_cons_zero, List.set_cons_succ, Nat.sub_self, List.append_nil, alA, alE, alAs, alEs, alI, alIt, alVs, escs, frsL, frs, isT, subC, wipeTV, List.getElem?_cons_zero, List.getElem?_cons_succ, Nat.reduceSub, List.length_append, List.length_cons, List.length_nil, Nat.zero_add, Int.cast_ofNat_Int, Int.lt_irrefl, decide_false, decide_true, Int.reduceLT, Int.reduceLE, Int.reduceSub, Int.reduceAdd, Int.reduceNeg, Bool.not_true, Bool.not_false, beq_self_eq_true, bne_self_eq_false, if_true, if_false, Nat.reduceEqDiff, reduceIte, Nat.reduceBNe, Nat.reduceBEq, Int.reduceBEq, Int.reduceBNe, Bool.or_true, Bool.true_or, Bool.or_false, Bool.false_or, Bool.false_eq_true]
  rfl
def leafF (cell many : Int) : Fm := if many = 0 ∨ cell % 9 = 8 then .is (cell / 9 % 2 == 1) else .at (mixN (cell / 8) 1 many).toNat
theorem leaf_ok (h : Def P T "_law_leaf" d__law_leaf 0) (h2 : Def P T "_law_mixed" d__law_mixed 0) (cell many : Int) (hm : 0 ≤ many) (n : Nat) : callV P T (n + 2) "_law_leaf" [.int cell, .int many] = .ok (leafF cell many).toD := by
  rw [run1 h rfl]
  unfold leafF
  by_cases c1 : many = 0
  · subst c1
    simp -dsimp (disch := first | decide | assumption | omega | ((try simp only [List.length_map, List.length_append, List.length_cons, List.length_nil, List.length_range, rngV_len]); omega)) only [d__law_leaf, ↓WD, WP, List.map_cons, List.map_nil, List.cons_append, List.nil_append, List.replicate_succ, List.replicate_zero, List.set_cons_zero, List.set_cons_succ, Nat.sub_self, List.append_nil, alA, alE, alAs, alEs, alI, alIt, alVs, escs, frsL, frs, isT, subC, wipeTV, List.getElem?_cons_zero, List.getElem?_cons_succ, Nat.reduceSub, List.length_append, List.length_cons, List.length_nil, Nat.zero_add, Int.cast_ofNat_Int, Int.lt_irrefl, decide_false, decide_true, Int.reduceLT, Int.reduceLE, Int.reduceSub, Int.reduceAdd, Int.reduceNeg, Bool.not_true, Bool.not_false, beq_self_eq_true, bne_self_eq_false, if_true, if_false, Nat.reduceEqDiff, reduceIte, Nat.reduceBNe, Nat.reduceBEq, Int.reduceBEq, Int.reduceBNe, Bool.or_true, Bool.true_or, Bool.or_false, Bool.false_or, Bool.false_eq_true]
    simp [Fm.toD]
  · have f1 : (many == 0) = false := by simpa using c1
    by_cases c2 : cell % 9 = 8
    · simp -dsimp (disch := first | decide | assumption | omega | ((try simp only [List.length_map, List.length_append, List.length_cons, List.length_nil, List.length_range, rngV_len]); omega)) only [d__law_leaf, f1, c2, ↓WD, WP, List.map_cons, List.map_nil, List.cons_append, List.nil_append, List.replicate_succ, List.replicate_zero, List.set_cons_zero, List.set_cons_succ, Nat.sub_self, List.append_nil, alA, alE, alAs, alEs, alI, alIt, alVs, escs, frsL, frs, isT, subC, wipeTV, List.getElem?_cons_zero, List.getElem?_cons_succ, Nat.reduceSub, List.length_append, List.length_cons, List.length_nil, Nat.zero_add, Int.cast_ofNat_Int, Int.lt_irrefl, decide_false, decide_true, Int.reduceLT, Int.reduceLE, Int.reduceSub, Int.reduceAdd, Int.reduceNeg, Bool.not_true, Bool.not_false, beq_self_eq_true, bne_self_eq_false, if_true, if_false, Nat.reduceEqDiff, reduceIte, Nat.reduceBNe, Nat.reduceBEq, Int.reduceBEq, Int.reduceBNe, Bool.or_true, Bool.true_or, Bool.or_false, Bool.false_or, Bool.false_eq_true]
      simp [Fm.toD]
    · have f2 : (cell % 9 == 8) = false := by simpa using c2
      have e := mixed_ok h2 (cell / 8) 1 many ⟨by decide, by decide⟩ (by omega) n
      have := (mix_lt (cell := cell / 8) (k := 1) (many := many) (by omega)).1
      simp -dsimp (disch := first | decide | assumption | omega | ((try simp only [List.length_map, List.length_append, List.length_cons, List.length_nil, List.length_range, rngV_len]); omega)) only [d__law_leaf, f1, f2, e, ↓WD, WP, List.map_cons, List.map_nil, List.cons_append, List.nil_append, List.replicate_succ, List.replicate_zero, List.set_cons_zero, List.set_cons_succ, Nat.sub_self, List.append_nil, alA, alE, alAs, alEs, alI, alIt, alVs, escs, frsL, frs, isT, subC, wipeTV, List.getElem?_cons_zero, List.getElem?_cons_succ, Nat.reduceSub, List.length_append, List.length_cons, List.length_nil, Nat.zero_add, Int.cast_ofNat_Int, Int.lt_irrefl, decide_false, decide_true, Int.reduceLT, Int.reduceLE, Int.reduceSub, Int.reduceAdd, Int.reduceNeg, Bool.not_true, Bool.not_false, beq_self_eq_true, bne_self_eq_false, if_true, if_false, Nat.reduceEqDiff, reduceIte, Nat.reduceBNe, Nat.reduceBEq, Int.reduceBEq, Int.reduceBNe, Bool.or_true, Bool.true_or, Bool.or_false, Bool.false_or, Bool.false_eq_true]
      simp [c1, c2, Fm.toD, Int.toNat_of_nonneg this]
theorem leaf_low {cell : Int} {m : Nat} : (leafF cell m).low m = true := by
  unfold leafF
  split
  · rfl
  · rename_i c
    have h : (0 : Int) < m := by omega
    have := mix_lt (cell := cell / 8) (k := 1) h
    simp [Fm.low]; omega
theorem leaf_tall {cell many : Int} : (leafF cell many).tall = 1 := by
  unfold leafF; split <;> rfl
theorem leaf_big {cell many : Int} : (leafF cell many).big = 1 := by
  unfold leafF; split <;> rfl
theorem asg_Fc {own : String → Nat} {σ : Sg} {i : Nat} {f : String} {es : List ME} {F : Fm} : asg own σ i (.call f es) F.toD = (shr (alA own σ (.call f es)) σ).set i (if (own f != 0) = true then .ow F.toD else .sh F.toD) := by
  cases F <;> rfl
theorem es_F {own : String → Nat} {σ : Sg} {e : ME} {F : Fm} : esc own σ e F.toD = shr (alA own σ e) σ := by
  cases F <;> rfl
theorem ih_F {F : Fm} : isH F.toD = true := by cases F <;> rfl
/-- one of the words -/
theorem word_at (i : Int) (h : 0 ≤ i ∧ i < 3) : ∃ o : Fin 3, atD [D.str [97, 110, 100], .str [111, 114], .str [111, 100, 100]] i = some (.str (opS o)) := by
  have : i = 0 ∨ i = 1 ∨ i = 2 := by omega
  rcases this with e | e | e <;> subst e
  · exact ⟨0, rfl⟩
  · exact ⟨1, rfl⟩
  · exact ⟨2, rfl⟩
def deepS (cell many : Int) (F : Fm) (k : Nat) : Fm :=
  if mixN cell k 5 < 2 ∨ cell % 4 = 1 then .no F else if mixN cell k 5 = 2 then .op 0 F (leafF (cell + 8 * k) many) else .op (if mixN cell k 5 = 3 then 1 else 2) (leafF (cell + 8 * k) many) F
def deepF (cell many : Int) : Nat → Fm
  | 0 => leafF cell many
  | k + 1 => deepS cell many (deepF cell many k) k
theorem deep_low {cell : Int} {m : Nat} : ∀ k, (deepF cell m k).low m = true
  | 0 => leaf_low
  | k + 1 => by
    have ih := deep_low (cell := cell) (m := m) k
    have l := leaf_low (cell := cell + 8 * k) (m := m)
    unfold deepF deepS
    split
    · exact ih
    · split
      · rw [Fm.low, ih, l]; rfl
      · rw [Fm.low, ih, l]; rfl
theorem deep_tall {cell many : Int} : ∀ k, (deepF cell many k).tall ≤ k + 1
  | 0 => by rw [deepF, leaf_tall]; omega
  | k + 1 => by
    have ih := deep_tall (cell := cell) (many := many) k
    have l := leaf_tall (cell := cell + 8 * k) (many := many)
    unfold deepF deepS
    split
    · rw [Fm.tall]; omega
    · split
      · rw [Fm.tall, l]; omega
      · rw [Fm.tall, l]; omega
structure LFormM (P : PrM) (T : VT) : Prop where
  cell : Def P T "_law_cell_at" d__law_cell_at 0
  mixed : Def P T "_law_mixed" d__law_mixed 0
  leaf : Def P T "_law_leaf" d__law_leaf 0
  deep : Def P T "_law_deep" d__law_deep 0
  by_ : Def P T "_law_form_by" d__law_form_by 0
  truth : Def P T "_law_truth" d__law_truth 0
  row : Def P T "_law_row" d__law_row 0
theorem deep_ok (M : LFormM P T) (cell many : Int) (hm : 0 ≤ many) (t : Nat) (ht : t ≤ 1000) (n : Nat) : callV P T (n + 3) "_law_deep" [.int cell, .int many, .int t] = .ok (deepF cell many t).toD := by
  have e0 := leaf_ok M.leaf M.mixed cell many hm n
  rw [run1 M.deep rfl]
  simp -dsimp (disch := first | decide | assumption | omega | ((try simp only [List.length_map, List.length_append, List.length_cons, List.length_nil, List.length_range, rngV_len]); omega)) only [d__law_deep, e0, asg_Fc, M.leaf.own, ↓WD, WP, List.map_cons, List.map_nil, List.cons_append, List.nil_append, List.replicate_succ, List.replicate_zero, List.set_cons_zero, List.set_cons_succ, Nat.sub_self, List.append_nil, alA, alE, alAs, alEs, alI, alIt, alVs, escs, frsL, frs, isT, subC, wipeTV, List.getElem?_cons_zero, List.getElem?_cons_succ, Nat.reduceSub, List.length_append, List.length_cons, List.length_nil, Nat.zero_add, Int.cast_ofNat_Int, Int.lt_irrefl, decide_false, decide_true, Int.reduceLT, Int.reduceLE, Int.reduceSub, Int.reduceAdd, Int.reduceNeg, Bool.not_true, Bool.not_false, beq_self_eq_true, bne_self_eq_false, if_true, if_false, Nat.reduceEqDiff, reduceIte, Nat.reduceBNe, Nat.reduceBEq, Int.reduceBEq, Int.reduceBNe, Bool.or_true, Bool.true_or, Bool.or_false, Bool.false_or, Bool.false_eq_true]
  rw [show (leafF cell many) = deepF cell many 0 from rfl]
  rw [for_r (m := t) (fun j => [.sh (.int cell), .sh (.int many), .sh (.int t), .sh (deepF cell many j).toD, .no, .no]) (by omega) fun j hj => ?_]
  · simp -dsimp (disch := first | decide | assumption | omega | ((try simp only [List.length_map, List.length_append, List.length_cons, List.length_nil, List.length_range, rngV_len]); omega)) only [↓WD, WP, List.map_cons, List.map_nil, List.cons_append, List.nil_append, List.replicate_succ, List.replicate_zero, List.set_cons_zero, List.set_cons_succ, Nat.sub_self, List.append_nil, alA, alE, alAs, alEs, alI, alIt, alVs, escs, frsL, frs, isT, subC, wipeTV, List.getElem?_cons_zero, List.getElem?_cons_succ, Nat.reduceSub, List.length_append, List.length_cons, List.length_nil, Nat.zero_add, Int.cast_ofNat_Int, Int.lt_irrefl, decide_false, decide_true, Int.reduceLT, Int.reduceLE, Int.reduceSub, Int.reduceAdd, Int.reduceNeg, Bool.not_true, Bool.not_false, beq_self_eq_true, bne_self_eq_false, if_true, if_false, Nat.reduceEqDiff, reduceIte, Nat.reduceBNe, Nat.reduceBEq, Int.reduceBEq, Int.reduceBNe, Bool.or_true, Bool.true_or, Bool.or_false, Bool.false_or, Bool.false_eq_true]
  · have e1 := mixed_ok M.mixed cell j 5 ⟨by omega, by omega⟩ (by decide) (n + 1)
    have e2 := leaf_ok M.leaf M.mixed (cell + 8 * j) many hm n
    have b := mix_lt (cell := cell) (k := j) (many := 5) (by decide)
    rw [turn1, show (0 : Int) + j = j by omega]
    show _ = Rv.ok (Fv.nx [_, _, _, .sh (deepS cell many (deepF cell many j) j).toD, _, _])
    generalize deepF cell many j = F
    unfold deepS
    generalize mixN cell j 5 = w at *
    by_cases c1 : w < 2
    · simp -dsimp (disch := first | decide | assumption | omega | ((try simp only [List.length_map, List.length_append, List.length_cons, List.length_nil, List.length_range, rngV_len]); omega)) only [e1, decide_eq_true c1, ↓WD, WP, List.map_cons, List.map_nil, List.cons_append, List.nil_append, List.replicate_succ, List.replicate_zero, List.set_cons_zero, List.set_cons_succ, Nat.sub_self, List.append_nil, alA, alE, alAs, alEs, alI, alIt, alVs, escs, frsL, frs, isT, subC, wipeTV, List.getElem?_cons_zero, List.getElem?_cons_succ, Nat.reduceSub, List.length_append, List.length_cons, List.length_nil, Nat.zero_add, Int.cast_ofNat_Int, Int.lt_irrefl, decide_false, decide_true, Int.reduceLT, Int.reduceLE, Int.reduceSub, Int.reduceAdd, Int.reduceNeg, Bool.not_true, Bool.not_false, beq_self_eq_true, bne_self_eq_false, if_true, if_false, Nat.reduceEqDiff, reduceIte, Nat.reduceBNe, Nat.reduceBEq, Int.reduceBEq, Int.reduceBNe, Bool.or_true, Bool.true_or, Bool.or_false, Bool.false_or, Bool.false_eq_true]
      simp [c1, Fm.toD]
    · by_cases c2 : cell % 4 = 1
      · simp -dsimp (disch := first | decide | assumption | omega | ((try simp only [List.length_map, List.length_append, List.length_cons, List.length_nil, List.length_range, rngV_len]); omega)) only [e1, decide_eq_false c1, c2, ↓WD, WP, List.map_cons, List.map_nil, List.cons_append, List.nil_append, List.replicate_succ, List.replicate_zero, List.set_cons_zero, List.set_cons_succ, Nat.sub_self, List.append_nil, alA, alE, alAs, alEs, alI, alIt, alVs, escs, frsL, frs, isT, subC, wipeTV, List.getElem?_cons_zero, List.getElem?_cons_succ, Nat.reduceSub, List.length_append, List.length_cons, List.length_nil, Nat.zero_add, Int.cast_ofNat_Int, Int.lt_irrefl, decide_false, decide_true, Int.reduceLT, Int.reduceLE, Int.reduceSub, Int.reduceAdd, Int.reduceNeg, Bool.not_true, Bool.not_false, beq_self_eq_true, bne_self_eq_false, if_true, if_false, Nat.reduceEqDiff, reduceIte, Nat.reduceBNe, Nat.reduceBEq, Int.reduceBEq, Int.reduceBNe, Bool.or_true, Bool.true_or, Bool.or_false, Bool.false_or, Bool.false_eq_true]
        simp [c2, Fm.toD]
      · have f2 : (cell % 4 == 1) = false := by simpa using c2
        by_cases c3 : w = 2
        · subst c3
          simp -dsimp (disch := first | decide | assumption | omega | ((try simp only [List.length_map, List.length_append, List.length_cons, List.length_nil, List.length_range, rngV_len]); omega)) only [e1, e2, decide_eq_false c1, f2, M.leaf.own, ↓WD, WP, List.map_cons, List.map_nil, List.cons_append, List.nil_append, List.replicate_succ, List.replicate_zero, List.set_cons_zero, List.set_cons_succ, Nat.sub_self, List.append_nil, alA, alE, alAs, alEs, alI, alIt, alVs, escs, frsL, frs, isT, subC, wipeTV, List.getElem?_cons_zero, List.getElem?_cons_succ, Nat.reduceSub, List.length_append, List.length_cons, List.length_nil, Nat.zero_add, Int.cast_ofNat_Int, Int.lt_irrefl, decide_false, decide_true, Int.reduceLT, Int.reduceLE, Int.reduceSub, Int.reduceAdd, Int.reduceNeg, Bool.not_true, Bool.not_false, beq_self_eq_true, bne_self_eq_false, if_true, if_false, Nat.reduceEqDiff, reduceIte, Nat.reduceBNe, Nat.reduceBEq, Int.reduceBEq, Int.reduceBNe, Bool.or_true, Bool.true_or, Bool.or_false, Bool.false_or, Bool.false_eq_true]
          simp [c2, Fm.toD, opS]
        · have f3 : (w == 2) = false := by simpa using c3
          have : w = 3 ∨ w = 4 := by omega
          rcases this with e | e <;> subst e
          · simp -dsimp (disch := first | decide | assumption | omega | ((try simp only [List.length_map, List.length_append, List.length_cons, List.length_nil, List.length_range, rngV_len]); omega)) only [e1, e2, f2, f3, M.leaf.own, ↓WD, WP, List.map_cons, List.map_nil, List.cons_append, List.nil_append, List.replicate_succ, List.replicate_zero, List.set_cons_zero, List.set_cons_succ, Nat.sub_self, List.append_nil, alA, alE, alAs, alEs, alI, alIt, alVs, escs, frsL, frs, isT, subC, wipeTV, List.getElem?_cons_zero, List.getElem?_cons_succ, Nat.reduceSub, List.length_append, List.length_cons, List.length_nil, Nat.zero_add, Int.cast_ofNat_Int, Int.lt_irrefl, decide_false, decide_true, Int.reduceLT, Int.reduceLE, Int.reduceSub, Int.reduceAdd, Int.reduceNeg, Bool.not_true, Bool.not_false, beq_self_eq_true, bne_self_eq_false, if_true, if_false, Nat.reduceEqDiff, reduceIte, Nat.reduceBNe, Nat.reduceBEq, Int.reduceBEq, Int.reduceBNe, Bool.or_true, Bool.true_or, Bool.or_false, Bool.false_or, Bool.false_eq_true]
            simp [c2, Fm.toD, opS]
          · simp -dsimp (disch := first | decide | assumption | omega | ((try simp only [List.length_map, List.length_append, List.length_cons, List.length_nil, List.length_range, rngV_len]); omega)) only [e1, e2, f2, f3, M.leaf.own, ↓WD, WP, List.map_cons, List.map_nil, List.cons_append, List.nil_append, List.replicate_succ, List.replicate_zero, List.set_cons_zero, List.set_cons_succ, Nat.sub_self, List.append_nil, alA, alE, alAs, alEs, alI, alIt, alVs, escs, frsL, frs, isT, subC, wipeTV, List.getElem?_cons_zero, List.getElem?_cons_succ, Nat.reduceSub, List.length_append, List.length_cons, List.length_nil, Nat.zero_add, Int.cast_ofNat_Int, Int.lt_irrefl, decide_false, decide_true, Int.reduceLT, Int.reduceLE, Int.reduceSub, Int.reduceAdd, Int.reduceNeg, Bool.not_true, Bool.not_false, beq_self_eq_true, bne_self_eq_false, if_true, if_false, Nat.reduceEqDiff, reduceIte, Nat.reduceBNe, Nat.reduceBEq, Int.reduceBEq, Int.reduceBNe, Bool.or_true, Bool.true_or, Bool.or_false, Bool.false_or, Bool.false_eq_true]
            simp [c2, Fm.toD, opS]
end
end Law

set_option autoImplicit false
set_option linter.all false
set_option Elab.async false
set_option maxRecDepth 10000
set_option maxHeartbeats 400000
set_option pp.maxSteps 1500
namespace Law
open MI
def d_need_places_v3 : FD := { ar := 1, ns := 5, body := [(.set 1 (.bin .add (.idx (.loc 0) (.cst (.int 0))) (.blt .len [(.idx (.loc 0) (.cst (.int 1)))]))), (.for_ (.one 2) (.seq (.bin .add (.lc (.one 4) (.seq (.idx (.loc 0) (.cst (.int 1)))) none (.idx (.loc 4) (.cst (.int 1)))) (.blt .list [(.idx (.loc 0) (.cst (.int 2)))]))) [(.for_ (.one 3) (.seq (.call "places_in" [(.loc 2)])) [(.ife (.cmp .ge (.loc 3) (.loc 1)) [(.rse 1)] [])])])] }
def d_need_size : FD := { ar := 2, ns := 2, body := [(.ife (.cmp .ne (.blt .len [(.loc 0)]) (.loc 1)) [(.rse 6)] [])] }
def d_begun : FD := { ar := 1, ns := 2, body := [(.ret (.blt .tuple [(.lc (.one 1) (.seq (.idx (.loc 0) (.cst (.int 1)))) none (.idx (.loc 1) (.cst (.int 0))))]))] }
def d_moved : FD := { ar := 3, ns := 7, body := [(.set 3 (.bin .add (.loc 2) (.loc 1))), (.set 4 (.blt .tuple [(.lc (.one 5) (.seq (.idx (.loc 0) (.cst (.int 2)))) none (.call "value" [(.loc 5), (.loc 3)]))])), (.ret (.tup [(.loc 4), (.blt .tuple [(.lc (.one 6) (.seq (.idx (.loc 0) (.cst (.int 1)))) none (.call "value" [(.idx (.loc 6) (.cst (.int 1))), (.loc 3)]))])]))] }
def d__law_mixed_v3 : FD := { ar := 2, ns := 3, body := [(.set 2 (.bin .mod (.bin .mul (.bin .add (.loc 0) (.bin .mul (.cst (.int 7919)) (.loc 1))) (.cst (.int 48271))) (.cst (.int 2147483647)))), (.ret (.bin .mod (.bin .add (.bin .add (.bin .mul (.loc 2) (.loc 2)) (.bin .mul (.cst (.int 7)) (.loc 2))) (.loc 1)) (.cst (.int 2147483629))))] }
def d__law_row_v2 : FD := { ar := 2, ns := 4, body := [(.set 2 (.lst [])), (.for_ (.one 3) (.rng (.loc 1)) [(.exp (.mth .append (.loc 2) [(.cmp .eq (.bin .mod (.loc 0) (.cst (.int 2))) (.cst (.int 1)))])), (.set 0 (.bin .fdiv (.loc 0) (.cst (.int 2))))]), (.exp (.mth .reverse (.loc 2) [])), (.ret (.blt .tuple [(.loc 2)]))] }
def d__law_form : FD := { ar := 3, ns := 6, body := [(.set 3 (.bin .mod (.loc 0) (.cst (.int 7)))), (.set 4 (.bin .fdiv (.loc 0) (.cst (.int 7)))), (.ife (.or (.cmp .eq (.loc 3) (.cst (.int 0))) (.and (.cmp .eq (.loc 1) (.cst (.int 0))) (.or (.cmp .eq (.loc 2) (.cst (.int 0))) (.cmp .eq (.loc 3) (.cst (.int 1)))))) [(.ret (.tup [(.cst (.str [105, 115])), (.cmp .eq (.bin .mod (.loc 4) (.cst (.int 2))) (.cst (.int 1)))]))] []), (.ife (.or (.cmp .eq (.loc 2) (.cst (.int 0))) (.cmp .eq (.loc 3) (.cst (.int 1)))) [(.ret (.tup [(.cst (.str [97, 116])), (.bin .mod (.loc 4) (.loc 1))]))] []), (.set 5 (.call "_law_form" [(.call "_law_mixed_v3" [(.loc 4), (.cst (.int 1))]), (.loc 1), (.bin .sub (.loc 2) (.cst (.int 1)))])), (.ife (.cmp .eq (.loc 3) (.cst (.int 2))) [(.ret (.tup [(.cst (.str [110, 111, 116])), (.loc 5)]))] []), (.ret (.tup [(.idx (.lst [(.cst (.str [97, 110, 100])), (.cst (.str [111, 114])), (.cst (.str [111, 100, 100])), (.cst (.str [111, 100, 100]))]) (.bin .sub (.loc 3) (.cst (.int 3)))), (.loc 5), (.call "_law_form" [(.call "_law_mixed_v3" [(.loc 4), (.cst (.int 2))]), (.loc 1), (.bin .sub (.loc 2) (.cst (.int 1)))])]))] }
def d__law_value_v3 : FD := { ar := 2, ns := 5, body := [(.set 2 (.idx (.loc 0) (.cst (.int 0)))), (.ife (.cmp .eq (.loc 2) (.cst (.str [105, 115]))) [(.ret (.idx (.loc 0) (.cst (.int 1))))] []), (.ife (.cmp .eq (.loc 2) (.cst (.str [97, 116]))) [(.ret (.idx (.loc 1) (.idx (.loc 0) (.cst (.int 1)))))] []), (.set 3 (.call "_law_value_v3" [(.idx (.loc 0) (.cst (.int 1))), (.loc 1)])), (.ife (.cmp .eq (.loc 2) (.cst (.str [110, 111, 116]))) [(.ret (.not (.loc 3)))] []), (.set 4 (.call "_law_value_v3" [(.idx (.loc 0) (.cst (.int 2))), (.loc 1)])), (.ife (.cmp .eq (.loc 2) (.cst (.str [97, 110, 100]))) [(.ret (.and (.loc 3) (.loc 4)))] []), (.ife (.cmp .eq (.loc 2) (.cst (.str [111, 114]))) [(.ret (.or (.loc 3) (.loc 4)))] []), (.ret (.cmp .ne (.loc 3) (.loc 4)))] }
def d__law_counting : FD := { ar := 3, ns := 5, body := [(.set 3 (.tup [(.cst (.str [105, 115])), (.cst (.bl true))])), (.ife (.cmp .gt (.loc 0) (.cst (.int 0))) [(.set 3 (.tup [(.cst (.str [97, 116])), (.cst (.int 0))]))] []), (.for_ (.one 4) (.rng2 (.bin .add (.loc 2) (.cst (.int 1))) (.loc 1)) [(.set 3 (.tup [(.cst (.str [97, 110, 100])), (.loc 3), (.tup [(.cst (.str [97, 116])), (.bin .add (.loc 0) (.loc 4))])]))]), (.ret (.tup [(.cst (.str [111, 100, 100])), (.tup [(.cst (.str [97, 116])), (.bin .add (.loc 0) (.loc 2))]), (.loc 3)]))] }
def d__law_taller : FD := { ar := 3, ns := 4, body := [(.for_ (.one 3) (.rng (.loc 1)) [(.ife (.or (.cmp .lt (.bin .mod (.loc 3) (.cst (.int 3))) (.cst (.int 2))) (.cmp .eq (.loc 2) (.cst (.int 0)))) [(.set 0 (.tup [(.cst (.str [110, 111, 116])), (.loc 0)]))] [(.set 0 (.tup [(.idx (.lst [(.cst (.str [111, 100, 100])), (.cst (.str [97, 110, 100]))]) (.bin .mod (.loc 3) (.cst (.int 2)))), (.loc 0), (.tup [(.cst (.str [111, 114])), (.tup [(.cst (.str [97, 116])), (.bin .mod (.loc 3) (.loc 2))]), (.tup [(.cst (.str [105, 115])), (.cmp .eq (.bin .mod (.loc 3) (.cst (.int 2))) (.cst (.int 1)))])])]))])]), (.ret (.loc 0))] }
def d__law_circuit : FD := { ar := 1, ns := 12, body := [(.set 1 (.call "_law_cell_at" [(.loc 0), (.cst (.int 0))])), (.set 2 (.bin .mod (.loc 1) (.cst (.int 4)))), (.set 3 (.bin .mod (.bin .fdiv (.loc 1) (.cst (.int 4))) (.cst (.int 5)))), (.set 4 (.bin .mod (.bin .fdiv (.loc 1) (.cst (.int 140))) (.cst (.int 4)))), (.ife (.cmp .gt (.bin .add (.loc 2) (.loc 3)) (.cst (.int 5))) [(.set 4 (.bin .mod (.loc 4) (.cst (.int 2))))] []), (.set 5 (.lst [])), (.for_ (.one 6) (.rng (.loc 3)) [(.set 9 (.call "_law_mixed_v3" [(.call "_law_cell_at" [(.loc 0), (.bin .add (.cst (.int 2)) (.loc 6))]), (.loc 6)])), (.set 10 (.call "_law_form" [(.bin .fdiv (.loc 9) (.cst (.int 2))), (.bin .add (.loc 2) (.loc 3)), (.loc 4)])), (.ife (.cmp .eq (.bin .mod (.call "_law_cell_at" [(.loc 0), (.cst (.int 1))]) (.cst (.int 3))) (.cst (.int 1))) [(.set 10 (.call "_law_counting" [(.loc 2), (.loc 3), (.loc 6)]))] []), (.exp (.mth .append (.loc 5) [(.tup [(.cmp .eq (.bin .mod (.loc 9) (.cst (.int 2))) (.cst (.int 1))), (.loc 10)])]))]), (.set 7 (.lst [])), (.for_ (.one 6) (.rng (.bin .mod (.bin .fdiv (.loc 1) (.cst (.int 20))) (.cst (.int 7)))) [(.exp (.mth .append (.loc 7) [(.call "_law_form" [(.call "_law_mixed_v3" [(.call "_law_cell_at" [(.loc 0), (.bin .add (.cst (.int 6)) (.loc 6))]), (.bin .add (.cst (.int 9)) (.loc 6))]), (.bin .add (.loc 2) (.loc 3)), (.loc 4)])]))]), (.set 8 (.bin .fdiv (.call "_law_cell_at" [(.loc 0), (.cst (.int 1))]) (.cst (.int 3)))), (.ife (.and (.cmp .eq (.bin .mod (.loc 8) (.cst (.int 4))) (.cst (.int 1))) (.and (.cmp .lt (.bin .add (.loc 2) (.loc 3)) (.cst (.int 5))) (.cmp .ne (.loc 7) (.lst [])))) [(.sub (.loc 7) (.bin .mod (.bin .fdiv (.loc 8) (.cst (.int 4))) (.blt .len [(.loc 7)])) (.call "_law_taller" [(.idx (.loc 7) (.bin .mod (.bin .fdiv (.loc 8) (.cst (.int 4))) (.blt .len [(.loc 7)]))), (.bin .mod (.bin .fdiv (.loc 8) (.cst (.int 28))) (.cst (.int 50))), (.bin .add (.loc 2) (.loc 3))]))] []), (.ife (.and (.cmp .eq (.bin .mod (.loc 8) (.cst (.int 4))) (.cst (.int 2))) (.and (.cmp .lt (.bin .add (.loc 2) (.loc 3)) (.cst (.int 5))) (.cmp .gt (.loc 3) (.cst (.int 0))))) [(.upk [11, 10] (.idx (.loc 5) (.bin .mod (.bin .fdiv (.loc 8) (.cst (.int 4))) (.loc 3)))), (.sub (.loc 5) (.bin .mod (.bin .fdiv (.loc 8) (.cst (.int 4))) (.loc 3)) (.tup [(.loc 11), (.call "_law_taller" [(.loc 10), (.bin .mod (.bin .fdiv (.loc 8) (.cst (.int 28))) (.cst (.int 50))), (.bin .add (.loc 2) (.loc 3))])]))] []), (.ret (.tup [(.loc 2), (.blt .tuple [(.loc 5)]), (.blt .tuple [(.loc 7)])]))] }
/-! ### circuits -/
structure Circ where
  many : Nat
  cells : List (Bool × Fm)
  outs : List Fm
def cellD (p : Bool × Fm) : D := .tup [.bl p.1, p.2.toD]
def Circ.toD (C : Circ) : D := .tup [.int C.many, .tup (C.cells.map cellD), .tup (C.outs.map Fm.toD)]
structure Circ.Ok (C : Circ) : Prop where
  many : C.many ≤ 3
  cells : C.cells.length ≤ 4
  outs : C.outs.length ≤ 6
  lowC : ∀ p ∈ C.cells, p.2.low (C.many + C.cells.length) = true
  lowO : ∀ f ∈ C.outs, f.low (C.many + C.cells.length) = true
  tallC : ∀ p ∈ C.cells, p.2.tall ≤ 60
  tallO : ∀ f ∈ C.outs, f.tall ≤ 60
def Circ.step (C : Circ) (r : List Bool) : List Bool × List Bool := (C.outs.map fun f => f.val (rowF r), C.cells.map fun p => p.2.val (rowF r))
def stepD (p : List Bool × List Bool) : D := .tup [rowD p.1, rowD p.2]
section
variable {P : PrM} {T : VT}
structure CircM (P : PrM) (T : VT) : Prop extends FormsM P T where
  in_ : Def P T "places_in" d_places_in 2
  needC : Def P T "need_places_v3" d_need_places_v3 0
  size : Def P T "need_size" d_need_size 0
  begun : Def P T "begun" d_begun 0
  moved : Def P T "moved" d_moved 0
theorem need_size_ok (M : CircM P T) (r : List Bool) (m : Nat) (hr : r.length = m) (hm : m ≤ 1000) (n : Nat) : callV P T (n + 1) "need_size" [rowD r, .int m] = .ok .non := by
  have e : ((((r.map D.bl).length : Nat) : Int) == (m : Int)) = true := by rw [List.length_map, hr]; exact beq_self_eq_true _
  rw [run1 M.size rfl]
  unfold rowD
  have l : (r.map D.bl).length ≤ 16777216 := by rw [List.length_map]; omega
  generalize r.map D.bl = L at *
  simp -dsimp (disch := first | decide | assumption | omega | ((try simp only [List.length_map, List.length_append, List.length_cons, List.length_nil, List.length_range, rngV_len]); omega)) only [d_need_size, e, ↓WD, WP, List.map_cons, List.map_nil, List.cons_append, List.nil_append, List.replicate_succ, List.replicate_zero, List.set_cons_zero, List.set_cons_succ, Nat.sub_self, List.append_nil, alA, alE, alAs, alEs, alI, alIt, alVs, escs, frsL, frs, isT, subC, wipeTV, List.getElem?_cons_zero, List.getElem?_cons_succ, Nat.reduceSub, List.length_append, List.length_cons, List.length_nil, Nat.zero_add, Int.cast_ofNat_Int, Int.lt_irrefl, decide_false, decide_true, Int.reduceLT, Int.reduceLE, Int.reduceSub, Int.reduceAdd, Int.reduceNeg, Bool.not_true, Bool.not_false, beq_self_eq_true, bne_self_eq_false, if_true, if_false, Nat.reduceEqDiff, reduceIte, Nat.reduceBNe, Nat.reduceBEq, Int.reduceBEq, Int.reduceBNe, Bool.or_true, Bool.true_or, Bool.or_false, Bool.false_or, Bool.false_eq_true]
theorem need_size_no (M : CircM P T) (r : List Bool) (m : Nat) (hr : r.length ≠ m) (hm : r.length ≤ 1000) (n : Nat) : callV P T (n + 1) "need_size" [rowD r, .int m] = .ex 6 := by
  have e : ((((r.map D.bl).length : Nat) : Int) == (m : Int)) = false := by rw [List.length_map, beq_eq_false_iff_ne]; omega
  rw [run1 M.size rfl]
  unfold rowD
  have l : (r.map D.bl).length ≤ 16777216 := by rw [List.length_map]; omega
  generalize r.map D.bl = L at *
  simp -dsimp (disch := first | decide | assumption | omega | ((try simp only [List.length_map, List.length_append, List.length_cons, List.length_nil, List.length_range, rngV_len]); omega)) only [d_need_size, e, ↓WD, WP, List.map_cons, List.map_nil, List.cons_append, List.nil_append, List.replicate_succ, List.replicate_zero, List.set_cons_zero, List.set_cons_succ, Nat.sub_self, List.append_nil, alA, alE, alAs, alEs, alI, alIt, alVs, escs, frsL, frs, isT, subC, wipeTV, List.getElem?_cons_zero, List.getElem?_cons_succ, Nat.reduceSub, List.length_append, List.length_cons, List.length_nil, Nat.zero_add, Int.cast_ofNat_Int, Int.lt_irrefl, decide_false, decide_true, Int.reduceLT, Int.reduceLE, Int.reduceSub, Int.reduceAdd, Int.reduceNeg, Bool.not_true, Bool.not_false, beq_self_eq_true, bne_self_eq_false, if_true, if_false, Nat.reduceEqDiff, reduceIte, Nat.reduceBNe, Nat.reduceBEq, Int.reduceBEq, Int.reduceBNe, Bool.or_true, Bool.true_or, Bool.or_false, Bool.false_or, Bool.false_eq_true]
theorem inner_ok (f : Fm) (m : Nat) (hl : f.low m = true) (n : Nat) (a0 a1 : D) (c : ClV) (own : String → Nat) :
    forV (.one 3) (bdy c own 0 [(.ife (.cmp .ge (.loc 3) (.loc 1)) [(.rse 1)] [])]) (f.pl.map .int) [.sh a0, .sh (.int m), .sh a1, .no, .no] = .ok (.nx [.sh a0, .sh (.int m), .sh a1, .no, .no]) := by
  rw [for_s (σ := [.sh a0, .sh (.int m), .sh a1, .no, .no]) D.int (fun _ => none) f.pl (fun _ _ _ z => by cases z) fun x hx => ?_]
  · rw [findSome_none fun _ _ => rfl]; rfl
  · have := low_has f hl ((pl_mem x f).mp hx)
    rw [turn1]
    simp -dsimp (disch := first | decide | assumption | omega | ((try simp only [List.length_map, List.length_append, List.length_cons, List.length_nil, List.length_range, rngV_len]); omega)) only [decide_eq_false (show ¬ ((m : Int) ≤ x) by omega), ↓WD, WP, List.map_cons, List.map_nil, List.cons_append, List.nil_append, List.replicate_succ, List.replicate_zero, List.set_cons_zero, List.set_cons_succ, Nat.sub_self, List.append_nil, alA, alE, alAs, alEs, alI, alIt, alVs, escs, frsL, frs, isT, subC, wipeTV, List.getElem?_cons_zero, List.getElem?_cons_succ, Nat.reduceSub, List.length_append, List.length_cons, List.length_nil, Nat.zero_add, Int.cast_ofNat_Int, Int.lt_irrefl, decide_false, decide_true, Int.reduceLT, Int.reduceLE, Int.reduceSub, Int.reduceAdd, Int.reduceNeg, Bool.not_true, Bool.not_false, beq_self_eq_true, bne_self_eq_false, if_true, if_false, Nat.reduceEqDiff, reduceIte, Nat.reduceBNe, Nat.reduceBEq, Int.reduceBEq, Int.reduceBNe, Bool.or_true, Bool.true_or, Bool.or_false, Bool.false_or, Bool.false_eq_true]
    rfl
theorem len_cells (C : Circ) : (C.cells.map cellD).length = C.cells.length := List.length_map _
theorem len_outs (C : Circ) : (C.outs.map Fm.toD).length = C.outs.length := List.length_map _
theorem need_placesC_ok (M : CircM P T) (C : Circ) (h : C.Ok) (n : Nat) : callV P T (n + 63) "need_places_v3" [C.toD] = .ok .non := by
  have l1 := len_cells C
  have l2 := len_outs C
  have b1 := h.cells
  have b2 := h.outs
  have b3 := h.many
  have lc1 : lcV (.one 4) (evVc (callV P T (n + 62)) none) (evV (callV P T (n + 62)) (.idx (.loc 4) (.cst (.int 1)))) [.sh C.toD, .sh (.int ((C.many : Int) + (C.cells.length : Nat))), .no, .no, .no] (C.cells.map cellD) = .ok ((C.cells.map (·.2)).map Fm.toD) := by
    rw [List.map_map]
    refine lc_m cellD (fun p => p.2.toD) C.cells fun p hp => ⟨_, rfl, ?_⟩
    simp only [cellD]
    generalize p.2.toD = pD
    simp -dsimp (disch := first | decide | assumption | omega | ((try simp only [List.length_map, List.length_append, List.length_cons, List.length_nil, List.length_range, rngV_len]); omega)) only [↓WD, WP, List.map_cons, List.map_nil, List.cons_append, List.nil_append, List.replicate_succ, List.replicate_zero, List.set_cons_zero, List.set_cons_succ, Nat.sub_self, List.append_nil, alA, alE, alAs, alEs, alI, alIt, alVs, escs, frsL, frs, isT, subC, wipeTV, List.getElem?_cons_zero, List.getElem?_cons_succ, Nat.reduceSub, List.length_append, List.length_cons, List.length_nil, Nat.zero_add, Int.cast_ofNat_Int, Int.lt_irrefl, decide_false, decide_true, Int.reduceLT, Int.reduceLE, Int.reduceSub, Int.reduceAdd, Int.reduceNeg, Bool.not_true, Bool.not_false, beq_self_eq_true, bne_self_eq_false, if_true, if_false, Nat.reduceEqDiff, reduceIte, Nat.reduceBNe, Nat.reduceBEq, Int.reduceBEq, Int.reduceBNe, Bool.or_true, Bool.true_or, Bool.or_false, Bool.false_or, Bool.false_eq_true]
  have lp : forV (.one 2) (bdy (callV P T (n + 62)) T.own 0 [(.for_ (.one 3) (.seq (.call "places_in" [(.loc 2)])) [(.ife (.cmp .ge (.loc 3) (.loc 1)) [(.rse 1)] [])])]) (((C.cells.map (·.2)) ++ C.outs).map Fm.toD) [.sh C.toD, .sh (.int ((C.many : Int) + (C.cells.length : Nat))), .no, .no, .no] = .ok (.nx [.sh C.toD, .sh (.int ((C.many : Int) + (C.cells.length : Nat))), .no, .no, .no]) := by
    rw [for_s (σ := [.sh C.toD, .sh (.int ((C.many : Int) + (C.cells.length : Nat))), .no, .no, .no]) Fm.toD (fun _ => none) _ (fun _ _ _ z => by cases z) fun F hF => ?_]
    · rw [findSome_none fun _ _ => rfl]; rfl
    · have lo : F.low (C.many + C.cells.length) = true ∧ F.tall ≤ 60 := by
        rcases List.mem_append.mp hF with z | z
        · obtain ⟨p, hp, rfl⟩ := List.mem_map.mp z
          exact ⟨h.lowC p hp, h.tallC p hp⟩
        · exact ⟨h.lowO F z, h.tallO F z⟩
      have e0 := places_in_ok M.in_ M.below F (n + 61) (by omega) (low_mono (by omega) F lo.1)
      have len := pl_len (f := F) lo.1
      have ok := inner_ok F (C.many + C.cells.length) lo.1 n C.toD F.toD (callV P T (n + 62)) T.own
      rw [show (((C.many + C.cells.length : Nat)) : Int) = (C.many : Int) + (C.cells.length : Nat) by omega] at ok
      simp only [intsD] at e0
      rw [turn1]
      generalize F.toD = fD at *
      generalize C.toD = cD at *
      simp -dsimp (disch := first | decide | assumption | omega | ((try simp only [List.length_map, List.length_append, List.length_cons, List.length_nil, List.length_range, rngV_len]); omega)) only [e0, List.length_map, ok, M.in_.own, ↓WD, WP, List.map_cons, List.map_nil, List.cons_append, List.nil_append, List.replicate_succ, List.replicate_zero, List.set_cons_zero, List.set_cons_succ, Nat.sub_self, List.append_nil, alA, alE, alAs, alEs, alI, alIt, alVs, escs, frsL, frs, isT, subC, wipeTV, List.getElem?_cons_zero, List.getElem?_cons_succ, Nat.reduceSub, List.length_append, List.length_cons, List.length_nil, Nat.zero_add, Int.cast_ofNat_Int, Int.lt_irrefl, decide_false, decide_true, Int.reduceLT, Int.reduceLE, Int.reduceSub, Int.reduceAdd, Int.reduceNeg, Bool.not_true, Bool.not_false, beq_self_eq_true, bne_self_eq_false, if_true, if_false, Nat.reduceEqDiff, reduceIte, Nat.reduceBNe, Nat.reduceBEq, Int.reduceBEq, Int.reduceBNe, Bool.or_true, Bool.true_or, Bool.or_false, Bool.false_or, Bool.false_eq_true]
      rfl
  rw [run1 M.needC rfl]
  rw [List.map_append] at lp
  have l3 : ((C.cells.map (·.2)).map Fm.toD).length = C.cells.length := by simp
  unfold Circ.toD at *
  generalize C.cells.map cellD = CD at *
  generalize C.outs.map Fm.toD = OD at *
  generalize (C.cells.map (·.2)).map Fm.toD = FD2 at *
  generalize C.cells.length = k at *
  generalize C.outs.length = o at *
  simp -dsimp (disch := first | decide | assumption | omega | ((try simp only [List.length_map, List.length_append, List.length_cons, List.length_nil, List.length_range, rngV_len]); omega)) only [d_need_places_v3, l1, lc1, lp, M.in_.own, ↓WD, WP, List.map_cons, List.map_nil, List.cons_append, List.nil_append, List.replicate_succ, List.replicate_zero, List.set_cons_zero, List.set_cons_succ, Nat.sub_self, List.append_nil, alA, alE, alAs, alEs, alI, alIt, alVs, escs, frsL, frs, isT, subC, wipeTV, List.getElem?_cons_zero, List.getElem?_cons_succ, Nat.reduceSub, List.length_append, List.length_cons, List.length_nil, Nat.zero_add, Int.cast_ofNat_Int, Int.lt_irrefl, decide_false, decide_true, Int.reduceLT, Int.reduceLE, Int.reduceSub, Int.reduceAdd, Int.reduceNeg, Bool.not_true, Bool.not_false, beq_self_eq_true, bne_self_eq_false, if_true, if_false, Nat.reduceEqDiff, reduceIte, Nat.reduceBNe, Nat.reduceBEq, Int.reduceBEq, Int.reduceBNe, Bool.or_true, Bool.true_or, Bool.or_false, Bool.false_or, Bool.false_eq_true]
theorem begun_ok (M : CircM P T) (C : Circ) (h : C.Ok) (n : Nat) : callV P T (n + 1) "begun" [C.toD] = .ok (rowD (C.cells.map (·.1))) := by
  have l1 := len_cells C
  have b1 := h.cells
  have lc1 : lcV (.one 1) (evVc (callV P T n) none) (evV (callV P T n) (.idx (.loc 1) (.cst (.int 0)))) [.sh C.toD, .no] (C.cells.map cellD) = .ok ((C.cells.map (·.1)).map D.bl) := by
    rw [List.map_map]
    refine lc_m cellD (fun p => .bl p.1) C.cells fun p hp => ⟨_, rfl, ?_⟩
    simp only [cellD]
    generalize p.2.toD = pD
    simp -dsimp (disch := first | decide | assumption | omega | ((try simp only [List.length_map, List.length_append, List.length_cons, List.length_nil, List.length_range, rngV_len]); omega)) only [↓WD, WP, List.map_cons, List.map_nil, List.cons_append, List.nil_append, List.replicate_succ, List.replicate_zero, List.set_cons_zero, List.set_cons_succ, Nat.sub_self, List.append_nil, alA, alE, alAs, alEs, alI, alIt, alVs, escs, frsL, frs, isT, subC, wipeTV, List.getElem?_cons_zero, List.getElem?_cons_succ, Nat.reduceSub, List.length_append, List.length_cons, List.length_nil, Nat.zero_add, Int.cast_ofNat_Int, Int.lt_irrefl, decide_false, decide_true, Int.reduceLT, Int.reduceLE, Int.reduceSub, Int.reduceAdd, Int.reduceNeg, Bool.not_true, Bool.not_false, beq_self_eq_true, bne_self_eq_false, if_true, if_false, Nat.reduceEqDiff, reduceIte, Nat.reduceBNe, Nat.reduceBEq, Int.reduceBEq, Int.reduceBNe, Bool.or_true, Bool.true_or, Bool.or_false, Bool.false_or, Bool.false_eq_true]
  rw [run1 M.begun rfl]
  unfold Circ.toD at *
  generalize C.cells.map cellD = CD at *
  generalize C.outs.map Fm.toD = OD at *
  simp -dsimp (disch := first | decide | assumption | omega | ((try simp only [List.length_map, List.length_append, List.length_cons, List.length_nil, List.length_range, rngV_len]); omega)) only [d_begun, lc1, ↓WD, WP, List.map_cons, List.map_nil, List.cons_append, List.nil_append, List.replicate_succ, List.replicate_zero, List.set_cons_zero, List.set_cons_succ, Nat.sub_self, List.append_nil, alA, alE, alAs, alEs, alI, alIt, alVs, escs, frsL, frs, isT, subC, wipeTV, List.getElem?_cons_zero, List.getElem?_cons_succ, Nat.reduceSub, List.length_append, List.length_cons, List.length_nil, Nat.zero_add, Int.cast_ofNat_Int, Int.lt_irrefl, decide_false, decide_true, Int.reduceLT, Int.reduceLE, Int.reduceSub, Int.reduceAdd, Int.reduceNeg, Bool.not_true, Bool.not_false, beq_self_eq_true, bne_self_eq_false, if_true, if_false, Nat.reduceEqDiff, reduceIte, Nat.reduceBNe, Nat.reduceBEq, Int.reduceBEq, Int.reduceBNe, Bool.or_true, Bool.true_or, Bool.or_false, Bool.false_or, Bool.false_eq_true]
theorem moved_ok (M : CircM P T) (C : Circ) (h : C.Ok) (st r : List Bool) (hs : st.length = C.cells.length) (hr : r.length = C.many) (n : Nat) : callV P T (n + 63) "moved" [C.toD, rowD st, rowD r] = .ok (stepD (C.step (r ++ st))) := by
  have l1 := len_cells C
  have l2 := len_outs C
  have b1 := h.cells
  have b2 := h.outs
  have b3 := h.many
  have hl : (r ++ st).length = C.many + C.cells.length := by rw [List.length_append, hr, hs]
  have val := fun (F : Fm) (lo : F.low (C.many + C.cells.length) = true) (ta : F.tall ≤ 60) => value_ok M.toFormsM F (r ++ st) (n + 60) (by omega) (by omega) (by rw [hl]; exact lo)
  have lc1 : ∀ x y z w : Sl, lcV (.one 5) (evVc (callV P T (n + 62)) none) (evV (callV P T (n + 62)) (.call "value" [(.loc 5), (.loc 3)])) [x, y, z, .sh (rowD (r ++ st)), w, .no, .no] (C.outs.map Fm.toD) = .ok ((C.step (r ++ st)).1.map D.bl) := fun x y z w => by
    unfold Circ.step
    rw [List.map_map]
    refine lc_m Fm.toD (fun f => .bl (f.val (rowF (r ++ st)))) C.outs fun F hF => ⟨_, rfl, ?_⟩
    have v := val F (h.lowO F hF) (h.tallO F hF)
    generalize F.toD = fD at *
    generalize r ++ st = R at *
    simp -dsimp (disch := first | decide | assumption | omega | ((try simp only [List.length_map, List.length_append, List.length_cons, List.length_nil, List.length_range, rngV_len]); omega)) only [v, M.value.own, ↓WD, WP, List.map_cons, List.map_nil, List.cons_append, List.nil_append, List.replicate_succ, List.replicate_zero, List.set_cons_zero, List.set_cons_succ, Nat.sub_self, List.append_nil, alA, alE, alAs, alEs, alI, alIt, alVs, escs, frsL, frs, isT, subC, wipeTV, List.getElem?_cons_zero, List.getElem?_cons_succ, Nat.reduceSub, List.length_append, List.length_cons, List.length_nil, Nat.zero_add, Int.cast_ofNat_Int, Int.lt_irrefl, decide_false, decide_true, Int.reduceLT, Int.reduceLE, Int.reduceSub, Int.reduceAdd, Int.reduceNeg, Bool.not_true, Bool.not_false, beq_self_eq_true, bne_self_eq_false, if_true, if_false, Nat.reduceEqDiff, reduceIte, Nat.reduceBNe, Nat.reduceBEq, Int.reduceBEq, Int.reduceBNe, Bool.or_true, Bool.true_or, Bool.or_false, Bool.false_or, Bool.false_eq_true]
  have lc2 : ∀ x y z w : Sl, lcV (.one 6) (evVc (callV P T (n + 62)) none) (evV (callV P T (n + 62)) (.call "value" [(.idx (.loc 6) (.cst (.int 1))), (.loc 3)])) [x, y, z, .sh (rowD (r ++ st)), w, .no, .no] (C.cells.map cellD) = .ok ((C.step (r ++ st)).2.map D.bl) := fun x y z w => by
    unfold Circ.step
    rw [List.map_map]
    refine lc_m cellD (fun p => .bl (p.2.val (rowF (r ++ st)))) C.cells fun p hp => ⟨_, rfl, ?_⟩
    have v := val p.2 (h.lowC p hp) (h.tallC p hp)
    simp only [cellD]
    generalize p.2.toD = fD at *
    generalize r ++ st = R at *
    simp -dsimp (disch := first | decide | assumption | omega | ((try simp only [List.length_map, List.length_append, List.length_cons, List.length_nil, List.length_range, rngV_len]); omega)) only [v, M.value.own, ↓WD, WP, List.map_cons, List.map_nil, List.cons_append, List.nil_append, List.replicate_succ, List.replicate_zero, List.set_cons_zero, List.set_cons_succ, Nat.sub_self, List.append_nil, alA, alE, alAs, alEs, alI, alIt, alVs, escs, frsL, frs, isT, subC, wipeTV, List.getElem?_cons_zero, List.getElem?_cons_succ, Nat.reduceSub, List.length_append, List.length_cons, List.length_nil, Nat.zero_add, Int.cast_ofNat_Int, Int.lt_irrefl, decide_false, decide_true, Int.reduceLT, Int.reduceLE, Int.reduceSub, Int.reduceAdd, Int.reduceNeg, Bool.not_true, Bool.not_false, beq_self_eq_true, bne_self_eq_false, if_true, if_false, Nat.reduceEqDiff, reduceIte, Nat.reduceBNe, Nat.reduceBEq, Int.reduceBEq, Int.reduceBNe, Bool.or_true, Bool.true_or, Bool.or_false, Bool.false_or, Bool.false_eq_true]
  have ca : (r.map D.bl) ++ (st.map D.bl) = (r ++ st).map D.bl := by rw [List.map_append]
  have la : (r.map D.bl).length = C.many := by rw [List.length_map, hr]
  have lb : (st.map D.bl).length = C.cells.length := by rw [List.length_map, hs]
  rw [run1 M.moved rfl]
  unfold Circ.toD stepD rowD at *
  generalize C.step (r ++ st) = S at *
  generalize r ++ st = R at *
  generalize C.cells.map cellD = CD at *
  generalize C.outs.map Fm.toD = OD at *
  generalize r.map D.bl = A at *
  generalize st.map D.bl = B at *
  generalize C.cells.length = k at *
  generalize C.outs.length = o at *
  simp -dsimp (disch := first | decide | assumption | omega | ((try simp only [List.length_map, List.length_append, List.length_cons, List.length_nil, List.length_range, rngV_len]); omega)) only [d_moved, ca, lc1, lc2, M.value.own, ↓WD, WP, List.map_cons, List.map_nil, List.cons_append, List.nil_append, List.replicate_succ, List.replicate_zero, List.set_cons_zero, List.set_cons_succ, Nat.sub_self, List.append_nil, alA, alE, alAs, alEs, alI, alIt, alVs, escs, frsL, frs, isT, subC, wipeTV, List.getElem?_cons_zero, List.getElem?_cons_succ, Nat.reduceSub, List.length_append, List.length_cons, List.length_nil, Nat.zero_add, Int.cast_ofNat_Int, Int.lt_irrefl, decide_false, decide_true, Int.reduceLT, Int.reduceLE, Int.reduceSub, Int.reduceAdd, Int.reduceNeg, Bool.not_true, Bool.not_false, beq_self_eq_true, bne_self_eq_false, if_true, if_false, Nat.reduceEqDiff, reduceIte, Nat.reduceBNe, Nat.reduceBEq, Int.reduceBEq, Int.reduceBNe, Bool.or_true, Bool.true_or, Bool.or_false, Bool.false_or, Bool.false_eq_true]
end
end Law

set_option autoImplicit false
set_option linter.all false
set_option Elab.async false
set_option maxRecDepth 10000
set_option maxHeartbeats 400000
set_option pp.maxSteps 1500
namespace Law
open MI
/-! ### what a law draws -/
def mixM (c k : Int) : Int := (((c + 7919 * k) * 48271 % 2147483647) * ((c + 7919 * k) * 48271 % 2147483647) + 7 * ((c + 7919 * k) * 48271 % 2147483647) + k) % 2147483629
def lbit (c : Int) (j : Nat) : Bool := c / 2 ^ j % 2 == 1
def lrow (c : Int) (m : Nat) : List Bool := ((List.range m).map (lbit c)).reverse
theorem lrow_len (c : Int) (m : Nat) : (lrow c m).length = m := by simp [lrow]
def o3 (k : Int) : Fin 3 := if k = 0 then 0 else if k = 1 then 1 else 2
def fmC (p : Nat) : Nat → Int → Fm
  | 0, c => if c % 7 = 0 ∨ p = 0 then .is (c / 7 % 2 == 1) else .at (c / 7 % p).toNat
  | d + 1, c => if c % 7 = 0 ∨ (p = 0 ∧ c % 7 = 1) then .is (c / 7 % 2 == 1) else if c % 7 = 1 then .at (c / 7 % p).toNat else
      if c % 7 = 2 then .no (fmC p d (mixM (c / 7) 1)) else .op (o3 (c % 7 - 3)) (fmC p d (mixM (c / 7) 1)) (fmC p d (mixM (c / 7) 2))
theorem at_low {p : Nat} {l : Int} (h : p ≠ 0) : (Fm.at (l % p).toNat).low p = true := by
  have h0 := Int.emod_nonneg l (b := (p : Int)) (by omega)
  have h1 := Int.emod_lt_of_pos l (b := (p : Int)) (by omega)
  simp only [Fm.low, decide_eq_true_eq]; omega
theorem fmC_low (p : Nat) : ∀ (d : Nat) (c : Int), (fmC p d c).low p = true
  | 0, c => by
    unfold fmC
    split
    · rfl
    · rename_i h; exact at_low (fun z => h (.inr z))
  | d + 1, c => by
    unfold fmC
    split
    · rfl
    · rename_i h
      split
      · rename_i h1; exact at_low (fun z => h (.inr ⟨z, h1⟩))
      · split
        · exact fmC_low p d _
        · rw [Fm.low, fmC_low p d, fmC_low p d]; rfl
theorem fmC_tall (p : Nat) : ∀ (d : Nat) (c : Int), (fmC p d c).tall ≤ d + 1
  | 0, c => by unfold fmC; split <;> exact Nat.le_refl _
  | d + 1, c => by
    have h1 := fmC_tall p d (mixM (c / 7) 1)
    have h2 := fmC_tall p d (mixM (c / 7) 2)
    unfold fmC
    split
    · simp [Fm.tall]
    · split
      · simp [Fm.tall]
      · split <;> simp only [Fm.tall] <;> omega
def cnG (many k : Nat) : Nat → Fm
  | 0 => if 0 < many then .at 0 else .is true
  | j + 1 => .op 0 (cnG many k j) (.at (many + (k + 1 + j)))
def cnF (many size k : Nat) : Fm := .op 2 (.at (many + k)) (cnG many k (size - (k + 1)))
theorem cnG_low (many size k : Nat) (h : 0 < size) : ∀ j, j + k + 1 ≤ size → (cnG many k j).low (many + size) = true
  | 0, _ => by unfold cnG; split <;> simp [Fm.low]; omega
  | j + 1, hj => by rw [cnG, Fm.low, cnG_low many size k h j (by omega)]; simp [Fm.low]; omega
theorem cnF_low (many size k : Nat) (h : k < size) : (cnF many size k).low (many + size) = true := by
  rw [cnF, Fm.low, cnG_low many size k (by omega) _ (by omega)]; simp [Fm.low]; omega
theorem cnG_tall (many k : Nat) : ∀ j, (cnG many k j).tall ≤ j + 1
  | 0 => by unfold cnG; split <;> exact Nat.le_refl _
  | j + 1 => by have := cnG_tall many k j; rw [cnG, Fm.tall]; simp only [Fm.tall]; omega
theorem cnF_tall (many size k : Nat) : (cnF many size k).tall ≤ size + 2 := by
  have := cnG_tall many k (size - (k + 1))
  rw [cnF, Fm.tall]; simp only [Fm.tall]; omega
def tlF (F : Fm) (p : Nat) : Nat → Fm
  | 0 => F
  | k + 1 => if k % 3 < 2 ∨ p = 0 then .no (tlF F p k) else .op (if k % 2 = 0 then 2 else 0) (tlF F p k) (.op 1 (.at (k % p)) (.is (k % 2 == 1)))
theorem tlF_low (F : Fm) (p : Nat) (h : F.low p = true) : ∀ k, (tlF F p k).low p = true
  | 0 => h
  | k + 1 => by
    have ih := tlF_low F p h k
    unfold tlF
    split
    · exact ih
    · rename_i z
      have hp : p ≠ 0 := fun e => z (.inr e)
      rw [Fm.low, ih]
      simp only [Fm.low, Bool.true_and, Bool.and_true, decide_eq_true_eq]
      exact Nat.mod_lt _ (by omega)
theorem tlF_tall (F : Fm) (p : Nat) : ∀ k, (tlF F p k).tall ≤ F.tall + k + 2
  | 0 => by rw [tlF]; omega
  | k + 1 => by
    have ih := tlF_tall F p k
    unfold tlF
    split <;> simp only [Fm.tall] <;> omega
/-! ### forms as things -/
theorem fm_fine : ∀ F : Fm, F.toD.fine = true
  | .is _ => by decide +revert
  | .at _ => by simp [Fm.toD, D.fine, D.fines]
  | .no f => by rw [Fm.toD, D.fine, D.fines, D.fines, fm_fine f]; rfl
  | .op o f g => by rw [Fm.toD, D.fine, D.fines, D.fines, D.fines, fm_fine f, fm_fine g]; match o with | 0 | 1 | 2 => rfl
theorem fm_dep : ∀ F : Fm, F.toD.dep = F.tall
  | .is _ => rfl
  | .at _ => rfl
  | .no f => by rw [Fm.toD, D.dep, D.deps, D.deps, fm_dep f, Fm.tall]; simp [D.dep, D.deps]
  | .op o f g => by rw [Fm.toD, D.dep, D.deps, D.deps, D.deps, fm_dep f, fm_dep g, Fm.tall]; simp [D.dep, D.deps]
theorem fm_nst : ∀ F : Fm, F.toD.nst = 0
  | .is _ => rfl
  | .at _ => rfl
  | .no f => by rw [Fm.toD, D.nst, D.nsts, D.nsts, fm_nst f]; rfl
  | .op o f g => by rw [Fm.toD, D.nst, D.nsts, D.nsts, D.nsts, fm_nst f, fm_nst g]; rfl
theorem fms_shp (L : List Fm) (h : ∀ F ∈ L, F.tall ≤ 50) : shpV (.sq (L.map Fm.toD)) = true := by
  have a1 : D.fines (L.map Fm.toD) = true := fines_of fun x hx => by obtain ⟨F, _, rfl⟩ := List.mem_map.mp hx; exact fm_fine F
  have a2 : D.deps (L.map Fm.toD) ≤ 50 := deps_of fun x hx => by obtain ⟨F, hF, rfl⟩ := List.mem_map.mp hx; rw [fm_dep]; exact h F hF
  have a3 : D.nsts (L.map Fm.toD) ≤ 0 := nsts_of fun x hx => by obtain ⟨F, hF, rfl⟩ := List.mem_map.mp hx; rw [fm_nst]; exact Nat.le_refl _
  unfold shpV shp
  rw [D.fine, D.dep, D.nst, a1, decide_eq_true (by omega), decide_eq_true (by omega)]; rfl
theorem fms_ne {β : Type} {kb : Bool → Rv β} (L : List Fm) (h : ∀ F ∈ L, F.tall ≤ 50) : (cmpV .ne (.sq (L.map Fm.toD)) (.sq [])).bind kb = kb (!L.isEmpty) := by
  rw [q_neG ⟨fms_shp L h, rfl⟩]
  cases L <;> rfl
section
variable {P : PrM} {T : VT}
structure LCircM (P : PrM) (T : VT) : Prop where
  cell : Def P T "_law_cell_at" d__law_cell_at 0
  mixed : Def P T "_law_mixed_v3" d__law_mixed_v3 0
  row : Def P T "_law_row_v2" d__law_row_v2 0
  form : Def P T "_law_form" d__law_form 0
  cnt : Def P T "_law_counting" d__law_counting 0
  tall : Def P T "_law_taller" d__law_taller 0
  circ : Def P T "_law_circuit" d__law_circuit 0
theorem mixed3_ok (h : Def P T "_law_mixed_v3" d__law_mixed_v3 0) (c k : Int) (hk : 0 ≤ k ∧ k < 1000000) (n : Nat) : callV P T (n + 1) "_law_mixed_v3" [.int c, .int k] = .ok (.int (mixM c k)) := by
  have h0 := Int.emod_nonneg ((c + 7919 * k) * 48271) (b := 2147483647) (by decide)
  have h1 := Int.emod_lt_of_pos ((c + 7919 * k) * 48271) (b := 2147483647) (by decide)
  rw [run1 h rfl]
  unfold mixM
  generalize hx : (c + 7919 * k) * 48271 % 2147483647 = x at *
  have b : -18446744073709551616 < x ∧ x < 18446744073709551616 := by omega
  simp -dsimp (disch := first | decide | assumption | omega | ((try simp only [List.length_map, List.length_append, List.length_cons, List.length_nil, List.length_range, rngV_len]); omega)) only [d__law_mixed_v3, hx, q_mulL b, ↓WD, WP, List.map_cons, List.map_nil, List.cons_append, List.nil_append, List.replicate_succ, List.replicate_zero, List.set_cons_zero, List.set_cons_succ, Nat.sub_self, List.append_nil, alA, alE, alAs, alEs, alI, alIt, alVs, escs, frsL, frs, isT, subC, wipeTV, List.getElem?_cons_zero, List.getElem?_cons_succ, Nat.reduceSub, List.length_append, List.length_cons, List.length_nil, Nat.zero_add, Int.cast_ofNat_Int, Int.lt_irrefl, decide_false, decide_true, Int.reduceLT, Int.reduceLE, Int.reduceSub, Int.reduceAdd, Int.reduceNeg, Bool.not_true, Bool.not_false, beq_self_eq_true, bne_self_eq_false, if_true, if_false, Nat.reduceEqDiff, reduceIte, Nat.reduceBNe, Nat.reduceBEq, Int.reduceBEq, Int.reduceBNe, Bool.or_true, Bool.true_or, Bool.or_false, Bool.false_or, Bool.false_eq_true]
theorem lrow_ok (h : Def P T "_law_row_v2" d__law_row_v2 0) (c : Int) (m : Nat) (hm : m ≤ 1000) (n : Nat) : callV P T (n + 1) "_law_row_v2" [.int c, .int m] = .ok (rowD (lrow c m)) := by
  have lp := for_r (tg := .one 3) (body := bdy (callV P T n) T.own 0 [(.exp (.mth .append (.loc 2) [(.cmp .eq (.bin .mod (.loc 0) (.cst (.int 2))) (.cst (.int 1)))])), (.set 0 (.bin .fdiv (.loc 0) (.cst (.int 2))))]) (lo := 0) (hi := (m : Int)) (m := m) (fun j => [.sh (.int (c / 2 ^ j)), .sh (.int m), .ow (.sq (((List.range j).map (lbit c)).map .bl)), .no]) (by omega) fun j hj => by
    have e1 : c / 2 ^ (j + 1) = c / 2 ^ j / 2 := by rw [Int.pow_succ, Int.ediv_ediv_of_nonneg (Int.le_of_lt (Int.pow_pos (by decide)))]
    have e2 : ((List.range (j + 1)).map (lbit c)).map D.bl = ((List.range j).map (lbit c)).map D.bl ++ [.bl (c / 2 ^ j % 2 == 1)] := by simp [List.range_succ, lbit]
    have l : (((List.range j).map (lbit c)).map D.bl).length = j := by simp
    rw [turn1, e1, e2]
    generalize ((List.range j).map (lbit c)).map D.bl = L at *
    generalize c / 2 ^ j = z at *
    simp -dsimp (disch := first | decide | assumption | omega | ((try simp only [List.length_map, List.length_append, List.length_cons, List.length_nil, List.length_range, rngV_len]); omega)) only [↓WD, WP, List.map_cons, List.map_nil, List.cons_append, List.nil_append, List.replicate_succ, List.replicate_zero, List.set_cons_zero, List.set_cons_succ, Nat.sub_self, List.append_nil, alA, alE, alAs, alEs, alI, alIt, alVs, escs, frsL, frs, isT, subC, wipeTV, List.getElem?_cons_zero, List.getElem?_cons_succ, Nat.reduceSub, List.length_append, List.length_cons, List.length_nil, Nat.zero_add, Int.cast_ofNat_Int, Int.lt_irrefl, decide_false, decide_true, Int.reduceLT, Int.reduceLE, Int.reduceSub, Int.reduceAdd, Int.reduceNeg, Bool.not_true, Bool.not_false, beq_self_eq_true, bne_self_eq_false, if_true, if_false, Nat.reduceEqDiff, reduceIte, Nat.reduceBNe, Nat.reduceBEq, Int.reduceBEq, Int.reduceBNe, Bool.or_true, Bool.true_or, Bool.or_false, Bool.false_or, Bool.false_eq_true]
  rw [show c / 2 ^ 0 = c by simp] at lp
  have e3 : (((List.range m).map (lbit c)).map D.bl).reverse = (lrow c m).map D.bl := by simp [lrow]
  have l : (((List.range m).map (lbit c)).map D.bl).length = m := by simp
  rw [run1 h rfl]
  unfold rowD
  simp only [List.range_zero, List.map_nil] at lp
  simp -dsimp (disch := first | decide | assumption | omega | ((try simp only [List.length_map, List.length_append, List.length_cons, List.length_nil, List.length_range, rngV_len]); omega)) only [d__law_row_v2, lp, ↓WD, WP, List.map_cons, List.map_nil, List.cons_append, List.nil_append, List.replicate_succ, List.replicate_zero, List.set_cons_zero, List.set_cons_succ, Nat.sub_self, List.append_nil, alA, alE, alAs, alEs, alI, alIt, alVs, escs, frsL, frs, isT, subC, wipeTV, List.getElem?_cons_zero, List.getElem?_cons_succ, Nat.reduceSub, List.length_append, List.length_cons, List.length_nil, Nat.zero_add, Int.cast_ofNat_Int, Int.lt_irrefl, decide_false, decide_true, Int.reduceLT, Int.reduceLE, Int.reduceSub, Int.reduceAdd, Int.reduceNeg, Bool.not_true, Bool.not_false, beq_self_eq_true, bne_self_eq_false, if_true, if_false, Nat.reduceEqDiff, reduceIte, Nat.reduceBNe, Nat.reduceBEq, Int.reduceBEq, Int.reduceBNe, Bool.or_true, Bool.true_or, Bool.or_false, Bool.false_or, Bool.false_eq_true]
  rw [e3]
theorem w4_at (k : Int) (h : 0 ≤ k ∧ k < 4) : atD [D.str [97, 110, 100], .str [111, 114], .str [111, 100, 100], .str [111, 100, 100]] k = some (.str (opS (o3 k))) := by
  unfold o3
  have : k = 0 ∨ k = 1 ∨ k = 2 ∨ k = 3 := by omega
  rcases this with e | e | e | e <;> subst e <;> rfl
theorem form3_ok (M : LCircM P T) (p : Nat) : ∀ (d : Nat) (c : Int) (n : Nat), callV P T (n + d + 2) "_law_form" [.int c, .int p, .int d] = .ok (fmC p d c).toD
  | 0, c, n => by
    have h0 := Int.emod_nonneg c (b := 7) (by decide)
    have h1 := Int.emod_lt_of_pos c (b := 7) (by decide)
    rw [show n + 0 + 2 = n + 1 + 1 from rfl, run1 M.form rfl]
    unfold fmC
    by_cases c7 : c % 7 = 0
    · rw [if_pos (.inl c7), Fm.toD]
      simp -dsimp (disch := first | decide | assumption | omega | ((try simp only [List.length_map, List.length_append, List.length_cons, List.length_nil, List.length_range, rngV_len]); omega)) only [d__law_form, c7, ↓WD, WP, List.map_cons, List.map_nil, List.cons_append, List.nil_append, List.replicate_succ, List.replicate_zero, List.set_cons_zero, List.set_cons_succ, Nat.sub_self, List.append_nil, alA, alE, alAs, alEs, alI, alIt, alVs, escs, frsL, frs, isT, subC, wipeTV, List.getElem?_cons_zero, List.getElem?_cons_succ, Nat.reduceSub, List.length_append, List.length_cons, List.length_nil, Nat.zero_add, Int.cast_ofNat_Int, Int.lt_irrefl, decide_false, decide_true, Int.reduceLT, Int.reduceLE, Int.reduceSub, Int.reduceAdd, Int.reduceNeg, Bool.not_true, Bool.not_false, beq_self_eq_true, bne_self_eq_false, if_true, if_false, Nat.reduceEqDiff, reduceIte, Nat.reduceBNe, Nat.reduceBEq, Int.reduceBEq, Int.reduceBNe, Bool.or_true, Bool.true_or, Bool.or_false, Bool.false_or, Bool.false_eq_true]
    · have f7 : (c % 7 == 0) = false := by simpa using c7
      by_cases hp : p = 0
      · subst hp
        rw [if_pos (.inr rfl), Fm.toD]
        simp -dsimp (disch := first | decide | assumption | omega | ((try simp only [List.length_map, List.length_append, List.length_cons, List.length_nil, List.length_range, rngV_len]); omega)) only [d__law_form, f7, Int.cast_ofNat_Int, ↓WD, WP, List.map_cons, List.map_nil, List.cons_append, List.nil_append, List.replicate_succ, List.replicate_zero, List.set_cons_zero, List.set_cons_succ, Nat.sub_self, List.append_nil, alA, alE, alAs, alEs, alI, alIt, alVs, escs, frsL, frs, isT, subC, wipeTV, List.getElem?_cons_zero, List.getElem?_cons_succ, Nat.reduceSub, List.length_append, List.length_cons, List.length_nil, Nat.zero_add, Int.cast_ofNat_Int, Int.lt_irrefl, decide_false, decide_true, Int.reduceLT, Int.reduceLE, Int.reduceSub, Int.reduceAdd, Int.reduceNeg, Bool.not_true, Bool.not_false, beq_self_eq_true, bne_self_eq_false, if_true, if_false, Nat.reduceEqDiff, reduceIte, Nat.reduceBNe, Nat.reduceBEq, Int.reduceBEq, Int.reduceBNe, Bool.or_true, Bool.true_or, Bool.or_false, Bool.false_or, Bool.false_eq_true]
      · have fp : ((p : Int) == 0) = false := by rw [beq_eq_false_iff_ne]; omega
        have pp : (0 : Int) < p := by omega
        have l0 := Int.emod_nonneg (c / 7) (b := (p : Int)) (by omega)
        rw [if_neg (by rintro (z | z); exact c7 z; exact hp z), Fm.toD]
        simp -dsimp (disch := first | decide | assumption | omega | ((try simp only [List.length_map, List.length_append, List.length_cons, List.length_nil, List.length_range, rngV_len]); omega)) only [d__law_form, f7, fp, Int.cast_ofNat_Int, ↓WD, WP, List.map_cons, List.map_nil, List.cons_append, List.nil_append, List.replicate_succ, List.replicate_zero, List.set_cons_zero, List.set_cons_succ, Nat.sub_self, List.append_nil, alA, alE, alAs, alEs, alI, alIt, alVs, escs, frsL, frs, isT, subC, wipeTV, List.getElem?_cons_zero, List.getElem?_cons_succ, Nat.reduceSub, List.length_append, List.length_cons, List.length_nil, Nat.zero_add, Int.cast_ofNat_Int, Int.lt_irrefl, decide_false, decide_true, Int.reduceLT, Int.reduceLE, Int.reduceSub, Int.reduceAdd, Int.reduceNeg, Bool.not_true, Bool.not_false, beq_self_eq_true, bne_self_eq_false, if_true, if_false, Nat.reduceEqDiff, reduceIte, Nat.reduceBNe, Nat.reduceBEq, Int.reduceBEq, Int.reduceBNe, Bool.or_true, Bool.true_or, Bool.or_false, Bool.false_or, Bool.false_eq_true]
        rw [Int.toNat_of_nonneg l0]
  | d + 1, c, n => by
    have h0 := Int.emod_nonneg c (b := 7) (by decide)
    have h1 := Int.emod_lt_of_pos c (b := 7) (by decide)
    have i1 := form3_ok M p d (mixM (c / 7) 1) n
    have i2 := form3_ok M p d (mixM (c / 7) 2) n
    have m1 := mixed3_ok M.mixed (c / 7) 1 (by decide) (n + d + 1)
    have m2 := mixed3_ok M.mixed (c / 7) 2 (by decide) (n + d + 1)
    have ed : (((d + 1 : Nat) : Int) == 0) = false := by rw [beq_eq_false_iff_ne]; omega
    have es : ((d + 1 : Nat) : Int) - 1 = d := by omega
    have aF := fun {σ : Sg} {i : Nat} {f' : String} {es : List ME} => asg_Fc (own := T.own) (σ := σ) (i := i) (f := f') (es := es) (F := fmC p d (mixM (c / 7) 1))
    rw [show n + (d + 1) + 2 = n + d + 2 + 1 by omega, run1 M.form rfl]
    unfold fmC
    by_cases c7 : c % 7 = 0
    · rw [if_pos (.inl c7), Fm.toD]
      simp -dsimp (disch := first | decide | assumption | omega | ((try simp only [List.length_map, List.length_append, List.length_cons, List.length_nil, List.length_range, rngV_len]); omega)) only [d__law_form, c7, ↓WD, WP, List.map_cons, List.map_nil, List.cons_append, List.nil_append, List.replicate_succ, List.replicate_zero, List.set_cons_zero, List.set_cons_succ, Nat.sub_self, List.append_nil, alA, alE, alAs, alEs, alI, alIt, alVs, escs, frsL, frs, isT, subC, wipeTV, List.getElem?_cons_zero, List.getElem?_cons_succ, Nat.reduceSub, List.length_append, List.length_cons, List.length_nil, Nat.zero_add, Int.cast_ofNat_Int, Int.lt_irrefl, decide_false, decide_true, Int.reduceLT, Int.reduceLE, Int.reduceSub, Int.reduceAdd, Int.reduceNeg, Bool.not_true, Bool.not_false, beq_self_eq_true, bne_self_eq_false, if_true, if_false, Nat.reduceEqDiff, reduceIte, Nat.reduceBNe, Nat.reduceBEq, Int.reduceBEq, Int.reduceBNe, Bool.or_true, Bool.true_or, Bool.or_false, Bool.false_or, Bool.false_eq_true]
    · have f7 : (c % 7 == 0) = false := by simpa using c7
      by_cases c1 : c % 7 = 1
      · by_cases hp : p = 0
        · subst hp
          rw [if_pos (.inr ⟨rfl, c1⟩), Fm.toD]
          simp -dsimp (disch := first | decide | assumption | omega | ((try simp only [List.length_map, List.length_append, List.length_cons, List.length_nil, List.length_range, rngV_len]); omega)) only [d__law_form, c1, ed, Int.cast_ofNat_Int, ↓WD, WP, List.map_cons, List.map_nil, List.cons_append, List.nil_append, List.replicate_succ, List.replicate_zero, List.set_cons_zero, List.set_cons_succ, Nat.sub_self, List.append_nil, alA, alE, alAs, alEs, alI, alIt, alVs, escs, frsL, frs, isT, subC, wipeTV, List.getElem?_cons_zero, List.getElem?_cons_succ, Nat.reduceSub, List.length_append, List.length_cons, List.length_nil, Nat.zero_add, Int.cast_ofNat_Int, Int.lt_irrefl, decide_false, decide_true, Int.reduceLT, Int.reduceLE, Int.reduceSub, Int.reduceAdd, Int.reduceNeg, Bool.not_true, Bool.not_false, beq_self_eq_true, bne_self_eq_false, if_true, if_false, Nat.reduceEqDiff, reduceIte, Nat.reduceBNe, Nat.reduceBEq, Int.reduceBEq, Int.reduceBNe, Bool.or_true, Bool.true_or, Bool.or_false, Bool.false_or, Bool.false_eq_true]
        · have fp : ((p : Int) == 0) = false := by rw [beq_eq_false_iff_ne]; omega
          have pp : (0 : Int) < p := by omega
          have l0 := Int.emod_nonneg (c / 7) (b := (p : Int)) (by omega)
          rw [if_neg (by rintro (z | z); exact c7 z; exact hp z.1), if_pos c1, Fm.toD]
          simp -dsimp (disch := first | decide | assumption | omega | ((try simp only [List.length_map, List.length_append, List.length_cons, List.length_nil, List.length_range, rngV_len]); omega)) only [d__law_form, c1, fp, ed, ↓WD, WP, List.map_cons, List.map_nil, List.cons_append, List.nil_append, List.replicate_succ, List.replicate_zero, List.set_cons_zero, List.set_cons_succ, Nat.sub_self, List.append_nil, alA, alE, alAs, alEs, alI, alIt, alVs, escs, frsL, frs, isT, subC, wipeTV, List.getElem?_cons_zero, List.getElem?_cons_succ, Nat.reduceSub, List.length_append, List.length_cons, List.length_nil, Nat.zero_add, Int.cast_ofNat_Int, Int.lt_irrefl, decide_false, decide_true, Int.reduceLT, Int.reduceLE, Int.reduceSub, Int.reduceAdd, Int.reduceNeg, Bool.not_true, Bool.not_false, beq_self_eq_true, bne_self_eq_false, if_true, if_false, Nat.reduceEqDiff, reduceIte, Nat.reduceBNe, Nat.reduceBEq, Int.reduceBEq, Int.reduceBNe, Bool.or_true, Bool.true_or, Bool.or_false, Bool.false_or, Bool.false_eq_true]
          rw [Int.toNat_of_nonneg l0]
      · have f1 : (c % 7 == 1) = false := by simpa using c1
        rw [if_neg (by rintro (z | z); exact c7 z; exact c1 z.2), if_neg c1]
        by_cases c2 : c % 7 = 2
        · rw [if_pos c2, Fm.toD]
          generalize (fmC p d (mixM (c / 7) 1)).toD = A at *
          cases hp : ((p : Int) == 0) with
          | true => simp -dsimp (disch := first | decide | assumption | omega | ((try simp only [List.length_map, List.length_append, List.length_cons, List.length_nil, List.length_range, rngV_len]); omega)) only [d__law_form, c2, hp, ed, es, m1, i1, aF, M.mixed.own, M.form.own, ↓WD, WP, List.map_cons, List.map_nil, List.cons_append, List.nil_append, List.replicate_succ, List.replicate_zero, List.set_cons_zero, List.set_cons_succ, Nat.sub_self, List.append_nil, alA, alE, alAs, alEs, alI, alIt, alVs, escs, frsL, frs, isT, subC, wipeTV, List.getElem?_cons_zero, List.getElem?_cons_succ, Nat.reduceSub, List.length_append, List.length_cons, List.length_nil, Nat.zero_add, Int.cast_ofNat_Int, Int.lt_irrefl, decide_false, decide_true, Int.reduceLT, Int.reduceLE, Int.reduceSub, Int.reduceAdd, Int.reduceNeg, Bool.not_true, Bool.not_false, beq_self_eq_true, bne_self_eq_false, if_true, if_false, Nat.reduceEqDiff, reduceIte, Nat.reduceBNe, Nat.reduceBEq, Int.reduceBEq, Int.reduceBNe, Bool.or_true, Bool.true_or, Bool.or_false, Bool.false_or, Bool.false_eq_true]
          | false => simp -dsimp (disch := first | decide | assumption | omega | ((try simp only [List.length_map, List.length_append, List.length_cons, List.length_nil, List.length_range, rngV_len]); omega)) only [d__law_form, c2, hp, ed, es, m1, i1, aF, M.mixed.own, M.form.own, ↓WD, WP, List.map_cons, List.map_nil, List.cons_append, List.nil_append, List.replicate_succ, List.replicate_zero, List.set_cons_zero, List.set_cons_succ, Nat.sub_self, List.append_nil, alA, alE, alAs, alEs, alI, alIt, alVs, escs, frsL, frs, isT, subC, wipeTV, List.getElem?_cons_zero, List.getElem?_cons_succ, Nat.reduceSub, List.length_append, List.length_cons, List.length_nil, Nat.zero_add, Int.cast_ofNat_Int, Int.lt_irrefl, decide_false, decide_true, Int.reduceLT, Int.reduceLE, Int.reduceSub, Int.reduceAdd, Int.reduceNeg, Bool.not_true, Bool.not_false, beq_self_eq_true, bne_self_eq_false, if_true, if_false, Nat.reduceEqDiff, reduceIte, Nat.reduceBNe, Nat.reduceBEq, Int.reduceBEq, Int.reduceBNe, Bool.or_true, Bool.true_or, Bool.or_false, Bool.false_or, Bool.false_eq_true]
        · have f2 : (c % 7 == 2) = false := by simpa using c2
          have wd := w4_at (c % 7 - 3) ⟨by omega, by omega⟩
          rw [if_neg c2, Fm.toD]
          generalize (fmC p d (mixM (c / 7) 1)).toD = A at *
          generalize (fmC p d (mixM (c / 7) 2)).toD = B at *
          generalize o3 (c % 7 - 3) = o at *
          generalize hz : c % 7 = z at *
          cases hp : ((p : Int) == 0) with
          | true => simp -dsimp (disch := first | decide | assumption | omega | ((try simp only [List.length_map, List.length_append, List.length_cons, List.length_nil, List.length_range, rngV_len]); omega)) only [d__law_form, hz, f7, f1, f2, hp, ed, es, m1, i1, m2, i2, aF, wd, M.mixed.own, M.form.own, ↓WD, WP, List.map_cons, List.map_nil, List.cons_append, List.nil_append, List.replicate_succ, List.replicate_zero, List.set_cons_zero, List.set_cons_succ, Nat.sub_self, List.append_nil, alA, alE, alAs, alEs, alI, alIt, alVs, escs, frsL, frs, isT, subC, wipeTV, List.getElem?_cons_zero, List.getElem?_cons_succ, Nat.reduceSub, List.length_append, List.length_cons, List.length_nil, Nat.zero_add, Int.cast_ofNat_Int, Int.lt_irrefl, decide_false, decide_true, Int.reduceLT, Int.reduceLE, Int.reduceSub, Int.reduceAdd, Int.reduceNeg, Bool.not_true, Bool.not_false, beq_self_eq_true, bne_self_eq_false, if_true, if_false, Nat.reduceEqDiff, reduceIte, Nat.reduceBNe, Nat.reduceBEq, Int.reduceBEq, Int.reduceBNe, Bool.or_true, Bool.true_or, Bool.or_false, Bool.false_or, Bool.false_eq_true]
          | false => simp -dsimp (disch := first | decide | assumption | omega | ((try simp only [List.length_map, List.length_append, List.length_cons, List.length_nil, List.length_range, rngV_len]); omega)) only [d__law_form, hz, f7, f1, f2, hp, ed, es, m1, i1, m2, i2, aF, wd, M.mixed.own, M.form.own, ↓WD, WP, List.map_cons, List.map_nil, List.cons_append, List.nil_append, List.replicate_succ, List.replicate_zero, List.set_cons_zero, List.set_cons_succ, Nat.sub_self, List.append_nil, alA, alE, alAs, alEs, alI, alIt, alVs, escs, frsL, frs, isT, subC, wipeTV, List.getElem?_cons_zero, List.getElem?_cons_succ, Nat.reduceSub, List.length_append, List.length_cons, List.length_nil, Nat.zero_add, Int.cast_ofNat_Int, Int.lt_irrefl, decide_false, decide_true, Int.reduceLT, Int.reduceLE, Int.reduceSub, Int.reduceAdd, Int.reduceNeg, Bool.not_true, Bool.not_false, beq_self_eq_true, bne_self_eq_false, if_true, if_false, Nat.reduceEqDiff, reduceIte, Nat.reduceBNe, Nat.reduceBEq, Int.reduceBEq, Int.reduceBNe, Bool.or_true, Bool.true_or, Bool.or_false, Bool.false_or, Bool.false_eq_true]
theorem count_okF (M : LCircM P T) (many size k : Nat) (hk : k < size) (hs : size ≤ 100) (n : Nat) : callV P T (n + 1) "_law_counting" [.int many, .int size, .int k] = .ok (cnF many size k).toD := by
  have lp := for_r (tg := .one 4) (body := bdy (callV P T n) T.own 0 [(.set 3 (.tup [(.cst (.str [97, 110, 100])), (.loc 3), (.tup [(.cst (.str [97, 116])), (.bin .add (.loc 0) (.loc 4))])]))]) (lo := ((k : Int) + 1)) (hi := (size : Int)) (m := size - (k + 1)) (fun j => [.sh (.int many), .sh (.int size), .sh (.int k), .sh (cnG many k j).toD, .no]) (by omega) fun j hj => by
    rw [turn1, cnG, Fm.toD, Fm.toD]
    rw [show (((many + (k + 1 + j) : Nat)) : Int) = (many : Int) + ((k : Int) + 1 + j) by omega]
    generalize (cnG many k j).toD = A at *
    simp -dsimp (disch := first | decide | assumption | omega | ((try simp only [List.length_map, List.length_append, List.length_cons, List.length_nil, List.length_range, rngV_len]); omega)) only [↓WD, WP, List.map_cons, List.map_nil, List.cons_append, List.nil_append, List.replicate_succ, List.replicate_zero, List.set_cons_zero, List.set_cons_succ, Nat.sub_self, List.append_nil, alA, alE, alAs, alEs, alI, alIt, alVs, escs, frsL, frs, isT, subC, wipeTV, List.getElem?_cons_zero, List.getElem?_cons_succ, Nat.reduceSub, List.length_append, List.length_cons, List.length_nil, Nat.zero_add, Int.cast_ofNat_Int, Int.lt_irrefl, decide_false, decide_true, Int.reduceLT, Int.reduceLE, Int.reduceSub, Int.reduceAdd, Int.reduceNeg, Bool.not_true, Bool.not_false, beq_self_eq_true, bne_self_eq_false, if_true, if_false, Nat.reduceEqDiff, reduceIte, Nat.reduceBNe, Nat.reduceBEq, Int.reduceBEq, Int.reduceBNe, Bool.or_true, Bool.true_or, Bool.or_false, Bool.false_or, Bool.false_eq_true]
    rfl
  rw [run1 M.cnt rfl]
  rw [cnF, Fm.toD, Fm.toD, show ((many + k : Nat) : Int) = (many : Int) + k by omega]
  by_cases hm : 0 < many
  · rw [show cnG many k 0 = .at 0 by rw [cnG, if_pos hm]] at lp
    simp only [Fm.toD] at lp
    generalize (cnG many k (size - (k + 1))).toD = A at *
    simp -dsimp (disch := first | decide | assumption | omega | ((try simp only [List.length_map, List.length_append, List.length_cons, List.length_nil, List.length_range, rngV_len]); omega)) only [d__law_counting, decide_eq_true (show (0 : Int) < many by omega), Int.cast_ofNat_Int, lp, ↓WD, WP, List.map_cons, List.map_nil, List.cons_append, List.nil_append, List.replicate_succ, List.replicate_zero, List.set_cons_zero, List.set_cons_succ, Nat.sub_self, List.append_nil, alA, alE, alAs, alEs, alI, alIt, alVs, escs, frsL, frs, isT, subC, wipeTV, List.getElem?_cons_zero, List.getElem?_cons_succ, Nat.reduceSub, List.length_append, List.length_cons, List.length_nil, Nat.zero_add, Int.cast_ofNat_Int, Int.lt_irrefl, decide_false, decide_true, Int.reduceLT, Int.reduceLE, Int.reduceSub, Int.reduceAdd, Int.reduceNeg, Bool.not_true, Bool.not_false, beq_self_eq_true, bne_self_eq_false, if_true, if_false, Nat.reduceEqDiff, reduceIte, Nat.reduceBNe, Nat.reduceBEq, Int.reduceBEq, Int.reduceBNe, Bool.or_true, Bool.true_or, Bool.or_false, Bool.false_or, Bool.false_eq_true]
    simp only [Int.cast_ofNat_Int] at lp
    try simp -dsimp (disch := first | decide | assumption | omega | ((try simp only [List.length_map, List.length_append, List.length_cons, List.length_nil, List.length_range, rngV_len]); omega)) only [lp, ↓WD, WP, List.map_cons, List.map_nil, List.cons_append, List.nil_append, List.replicate_succ, List.replicate_zero, List.set_cons_zero, List.set_cons_succ, Nat.sub_self, List.append_nil, alA, alE, alAs, alEs, alI, alIt, alVs, escs, frsL, frs, isT, subC, wipeTV, List.getElem?_cons_zero, List.getElem?_cons_succ, Nat.reduceSub, List.length_append, List.length_cons, List.length_nil, Nat.zero_add, Int.cast_ofNat_Int, Int.lt_irrefl, decide_false, decide_true, Int.reduceLT, Int.reduceLE, Int.reduceSub, Int.reduceAdd, Int.reduceNeg, Bool.not_true, Bool.not_false, beq_self_eq_true, bne_self_eq_false, if_true, if_false, Nat.reduceEqDiff, reduceIte, Nat.reduceBNe, Nat.reduceBEq, Int.reduceBEq, Int.reduceBNe, Bool.or_true, Bool.true_or, Bool.or_false, Bool.false_or, Bool.false_eq_true]
    try rfl
  · rw [show cnG many k 0 = .is true by rw [cnG, if_neg hm]] at lp
    simp only [Fm.toD] at lp
    generalize (cnG many k (size - (k + 1))).toD = A at *
    simp -dsimp (disch := first | decide | assumption | omega | ((try simp only [List.length_map, List.length_append, List.length_cons, List.length_nil, List.length_range, rngV_len]); omega)) only [d__law_counting, decide_eq_false (show ¬ (0 : Int) < many by omega), lp, ↓WD, WP, List.map_cons, List.map_nil, List.cons_append, List.nil_append, List.replicate_succ, List.replicate_zero, List.set_cons_zero, List.set_cons_succ, Nat.sub_self, List.append_nil, alA, alE, alAs, alEs, alI, alIt, alVs, escs, frsL, frs, isT, subC, wipeTV, List.getElem?_cons_zero, List.getElem?_cons_succ, Nat.reduceSub, List.length_append, List.length_cons, List.length_nil, Nat.zero_add, Int.cast_ofNat_Int, Int.lt_irrefl, decide_false, decide_true, Int.reduceLT, Int.reduceLE, Int.reduceSub, Int.reduceAdd, Int.reduceNeg, Bool.not_true, Bool.not_false, beq_self_eq_true, bne_self_eq_false, if_true, if_false, Nat.reduceEqDiff, reduceIte, Nat.reduceBNe, Nat.reduceBEq, Int.reduceBEq, Int.reduceBNe, Bool.or_true, Bool.true_or, Bool.or_false, Bool.false_or, Bool.false_eq_true]
    try rfl
theorem taller_ok (M : LCircM P T) (F : Fm) (p m : Nat) (hm : m ≤ 1000) (n : Nat) : callV P T (n + 1) "_law_taller" [F.toD, .int m, .int p] = .ok (tlF F p m).toD := by
  have lp := for_r (tg := .one 3) (body := bdy (callV P T n) T.own 0 [(.ife (.or (.cmp .lt (.bin .mod (.loc 3) (.cst (.int 3))) (.cst (.int 2))) (.cmp .eq (.loc 2) (.cst (.int 0)))) [(.set 0 (.tup [(.cst (.str [110, 111, 116])), (.loc 0)]))] [(.set 0 (.tup [(.idx (.lst [(.cst (.str [111, 100, 100])), (.cst (.str [97, 110, 100]))]) (.bin .mod (.loc 3) (.cst (.int 2)))), (.loc 0), (.tup [(.cst (.str [111, 114])), (.tup [(.cst (.str [97, 116])), (.bin .mod (.loc 3) (.loc 2))]), (.tup [(.cst (.str [105, 115])), (.cmp .eq (.bin .mod (.loc 3) (.cst (.int 2))) (.cst (.int 1)))])])]))])]) (lo := 0) (hi := (m : Int)) (m := m) (fun j => [.sh (tlF F p j).toD, .sh (.int m), .sh (.int p), .no]) (by omega) fun j hj => by
    rw [turn1, show (0 : Int) + j = j by omega, tlF]
    by_cases c : j % 3 < 2
    · rw [if_pos (.inl c), Fm.toD]
      generalize (tlF F p j).toD = A at *
      simp -dsimp (disch := first | decide | assumption | omega | ((try simp only [List.length_map, List.length_append, List.length_cons, List.length_nil, List.length_range, rngV_len]); omega)) only [decide_eq_true (show (j : Int) % 3 < 2 by omega), ↓WD, WP, List.map_cons, List.map_nil, List.cons_append, List.nil_append, List.replicate_succ, List.replicate_zero, List.set_cons_zero, List.set_cons_succ, Nat.sub_self, List.append_nil, alA, alE, alAs, alEs, alI, alIt, alVs, escs, frsL, frs, isT, subC, wipeTV, List.getElem?_cons_zero, List.getElem?_cons_succ, Nat.reduceSub, List.length_append, List.length_cons, List.length_nil, Nat.zero_add, Int.cast_ofNat_Int, Int.lt_irrefl, decide_false, decide_true, Int.reduceLT, Int.reduceLE, Int.reduceSub, Int.reduceAdd, Int.reduceNeg, Bool.not_true, Bool.not_false, beq_self_eq_true, bne_self_eq_false, if_true, if_false, Nat.reduceEqDiff, reduceIte, Nat.reduceBNe, Nat.reduceBEq, Int.reduceBEq, Int.reduceBNe, Bool.or_true, Bool.true_or, Bool.or_false, Bool.false_or, Bool.false_eq_true]
    · have d : decide ((j : Int) % 3 < 2) = false := decide_eq_false (by omega)
      by_cases hp : p = 0
      · subst hp
        rw [if_pos (.inr rfl), Fm.toD]
        generalize (tlF F 0 j).toD = A at *
        simp -dsimp (disch := first | decide | assumption | omega | ((try simp only [List.length_map, List.length_append, List.length_cons, List.length_nil, List.length_range, rngV_len]); omega)) only [d, Int.cast_ofNat_Int, ↓WD, WP, List.map_cons, List.map_nil, List.cons_append, List.nil_append, List.replicate_succ, List.replicate_zero, List.set_cons_zero, List.set_cons_succ, Nat.sub_self, List.append_nil, alA, alE, alAs, alEs, alI, alIt, alVs, escs, frsL, frs, isT, subC, wipeTV, List.getElem?_cons_zero, List.getElem?_cons_succ, Nat.reduceSub, List.length_append, List.length_cons, List.length_nil, Nat.zero_add, Int.cast_ofNat_Int, Int.lt_irrefl, decide_false, decide_true, Int.reduceLT, Int.reduceLE, Int.reduceSub, Int.reduceAdd, Int.reduceNeg, Bool.not_true, Bool.not_false, beq_self_eq_true, bne_self_eq_false, if_true, if_false, Nat.reduceEqDiff, reduceIte, Nat.reduceBNe, Nat.reduceBEq, Int.reduceBEq, Int.reduceBNe, Bool.or_true, Bool.true_or, Bool.or_false, Bool.false_or, Bool.false_eq_true]
      · have fp : ((p : Int) == 0) = false := by rw [beq_eq_false_iff_ne]; omega
        have pp : (0 : Int) < p := by omega
        rw [if_neg (by rintro (z | z); exact c z; exact hp z)]
        simp only [Fm.toD]
        rw [show (((j % p : Nat)) : Int) = (j : Int) % p by simp]
        generalize (tlF F p j).toD = A at *
        have j2 : j % 2 = 0 ∨ j % 2 = 1 := by omega
        rcases j2 with e | e
        · have ei : (j : Int) % 2 = 0 := by omega
          rw [e]
          simp -dsimp (disch := first | decide | assumption | omega | ((try simp only [List.length_map, List.length_append, List.length_cons, List.length_nil, List.length_range, rngV_len]); omega)) only [d, fp, ei, opS, ↓WD, WP, List.map_cons, List.map_nil, List.cons_append, List.nil_append, List.replicate_succ, List.replicate_zero, List.set_cons_zero, List.set_cons_succ, Nat.sub_self, List.append_nil, alA, alE, alAs, alEs, alI, alIt, alVs, escs, frsL, frs, isT, subC, wipeTV, List.getElem?_cons_zero, List.getElem?_cons_succ, Nat.reduceSub, List.length_append, List.length_cons, List.length_nil, Nat.zero_add, Int.cast_ofNat_Int, Int.lt_irrefl, decide_false, decide_true, Int.reduceLT, Int.reduceLE, Int.reduceSub, Int.reduceAdd, Int.reduceNeg, Bool.not_true, Bool.not_false, beq_self_eq_true, bne_self_eq_false, if_true, if_false, Nat.reduceEqDiff, reduceIte, Nat.reduceBNe, Nat.reduceBEq, Int.reduceBEq, Int.reduceBNe, Bool.or_true, Bool.true_or, Bool.or_false, Bool.false_or, Bool.false_eq_true]
        · have ei : (j : Int) % 2 = 1 := by omega
          rw [e]
          simp -dsimp (disch := first | decide | assumption | omega | ((try simp only [List.length_map, List.length_append, List.length_cons, List.length_nil, List.length_range, rngV_len]); omega)) only [d, fp, ei, opS, ↓WD, WP, List.map_cons, List.map_nil, List.cons_append, List.nil_append, List.replicate_succ, List.replicate_zero, List.set_cons_zero, List.set_cons_succ, Nat.sub_self, List.append_nil, alA, alE, alAs, alEs, alI, alIt, alVs, escs, frsL, frs, isT, subC, wipeTV, List.getElem?_cons_zero, List.getElem?_cons_succ, Nat.reduceSub, List.length_append, List.length_cons, List.length_nil, Nat.zero_add, Int.cast_ofNat_Int, Int.lt_irrefl, decide_false, decide_true, Int.reduceLT, Int.reduceLE, Int.reduceSub, Int.reduceAdd, Int.reduceNeg, Bool.not_true, Bool.not_false, beq_self_eq_true, bne_self_eq_false, if_true, if_false, Nat.reduceEqDiff, reduceIte, Nat.reduceBNe, Nat.reduceBEq, Int.reduceBEq, Int.reduceBNe, Bool.or_true, Bool.true_or, Bool.or_false, Bool.false_or, Bool.false_eq_true]
  rw [show tlF F p 0 = F from rfl] at lp
  rw [run1 M.tall rfl]
  simp -dsimp (disch := first | decide | assumption | omega | ((try simp only [List.length_map, List.length_append, List.length_cons, List.length_nil, List.length_range, rngV_len]); omega)) only [d__law_taller, lp, ↓WD, WP, List.map_cons, List.map_nil, List.cons_append, List.nil_append, List.replicate_succ, List.replicate_zero, List.set_cons_zero, List.set_cons_succ, Nat.sub_self, List.append_nil, alA, alE, alAs, alEs, alI, alIt, alVs, escs, frsL, frs, isT, subC, wipeTV, List.getElem?_cons_zero, List.getElem?_cons_succ, Nat.reduceSub, List.length_append, List.length_cons, List.length_nil, Nat.zero_add, Int.cast_ofNat_Int, Int.lt_irrefl, decide_false, decide_true, Int.reduceLT, Int.reduceLE, Int.reduceSub, Int.reduceAdd, Int.reduceNeg, Bool.not_true, Bool.not_false, beq_self_eq_true, bne_self_eq_false, if_true, if_false, Nat.reduceEqDiff, reduceIte, Nat.reduceBNe, Nat.reduceBEq, Int.reduceBEq, Int.reduceBNe, Bool.or_true, Bool.true_or, Bool.or_false, Bool.false_or, Bool.false_eq_true]
/-! ### the circuit of a script -/
def dpN (c : Int) : Nat := (if (c % 4 + c / 4 % 5 > 5) then c / 140 % 4 % 2 else c / 140 % 4).toNat
def cl0 (ns : List Int) (m z d : Nat) (k : Nat) : Bool × Fm := (mixM (cellN ns (2 + k)) k % 2 == 1, if cellN ns 1 % 3 = 1 then cnF m z k else fmC (m + z) d (mixM (cellN ns (2 + k)) k / 2))
def ou0 (ns : List Int) (m z d : Nat) (k : Nat) : Fm := fmC (m + z) d (mixM (cellN ns (6 + k)) (9 + k))
theorem cl0_low (ns : List Int) (m z d k : Nat) (h : k < z) : (cl0 ns m z d k).2.low (m + z) = true := by
  unfold cl0
  split
  · exact cnF_low m z k h
  · exact fmC_low _ _ _
theorem cl0_tall (ns : List Int) (m z d k : Nat) (h : z ≤ 4) (hd : d ≤ 3) : (cl0 ns m z d k).2.tall ≤ 6 := by
  unfold cl0
  split
  · have := cnF_tall m z k; simp only; omega
  · have := fmC_tall (m + z) d (mixM (cellN ns (2 + k)) k / 2); simp only; omega
theorem ex_and {β : Type} {a b c : ME} {cv : ClV} {σ : Sg} {k : D → Rv β} : True := trivial
theorem circuit_ok (M : LCircM P T) (ns : List Int) (hl : ns.length ≤ 63) (n : Nat) : ∃ C : Circ, C.Ok ∧ (C.many : Int) = cellN ns 0 % 4 ∧ (C.cells.length : Int) = cellN ns 0 / 4 % 5 ∧ callV P T (n + 10) "_law_circuit" [scr ns] = .ok C.toD := by
  have e0 := cell_ok (P := P) M.cell ns (by omega) 0 (by omega) (n + 8)
  have e1 := cell_ok (P := P) M.cell ns (by omega) 1 (by omega) (n + 8)
  have ec := fun (k : Nat) => cell_ok (P := P) M.cell ns (by omega) (2 + k) (by omega) (n + 8)
  have eo := fun (k : Nat) => cell_ok (P := P) M.cell ns (by omega) (6 + k) (by omega) (n + 8)
  generalize hc0 : cellN ns 0 = c at *
  have m0 := Int.emod_nonneg c (b := 4) (by decide)
  have m1 := Int.emod_lt_of_pos c (b := 4) (by decide)
  have z0 := Int.emod_nonneg (c / 4) (b := 5) (by decide)
  have z1 := Int.emod_lt_of_pos (c / 4) (b := 5) (by decide)
  have o0 := Int.emod_nonneg (c / 20) (b := 7) (by decide)
  have o1 := Int.emod_lt_of_pos (c / 20) (b := 7) (by decide)
  have d0 := Int.emod_nonneg (c / 140) (b := 4) (by decide)
  have d1 := Int.emod_lt_of_pos (c / 140) (b := 4) (by decide)
  have g0 := Int.emod_nonneg (c / 140 % 4) (b := 2) (by decide)
  have g1 := Int.emod_lt_of_pos (c / 140 % 4) (b := 2) (by decide)
  obtain ⟨m, hm⟩ := Int.eq_ofNat_of_zero_le m0
  obtain ⟨z, hz⟩ := Int.eq_ofNat_of_zero_le z0
  obtain ⟨o, ho⟩ := Int.eq_ofNat_of_zero_le o0
  -- the cells, the answers
  have body : ∀ d : Nat, d ≤ 3 → ∃ C : Circ, C.Ok ∧ C.many = m ∧ C.cells.length = z ∧ (evBV (callV P T (n + 9)) T.own 0 (d__law_circuit.body.drop 5) [.sh (scr ns), .sh (.int c), .sh (.int m), .sh (.int z), .sh (.int d), .no, .no, .no, .no, .no, .no, .no]).bind (fin Rv.ok) = .ok C.toD := by
    intro d hd
    have cs := for_r (tg := .one 6) (body := bdy (callV P T (n + 9)) T.own 0 [(.set 9 (.call "_law_mixed_v3" [(.call "_law_cell_at" [(.loc 0), (.bin .add (.cst (.int 2)) (.loc 6))]), (.loc 6)])), (.set 10 (.call "_law_form" [(.bin .fdiv (.loc 9) (.cst (.int 2))), (.bin .add (.loc 2) (.loc 3)), (.loc 4)])), (.ife (.cmp .eq (.bin .mod (.call "_law_cell_at" [(.loc 0), (.cst (.int 1))]) (.cst (.int 3))) (.cst (.int 1))) [(.set 10 (.call "_law_counting" [(.loc 2), (.loc 3), (.loc 6)]))] []), (.exp (.mth .append (.loc 5) [(.tup [(.cmp .eq (.bin .mod (.loc 9) (.cst (.int 2))) (.cst (.int 1))), (.loc 10)])]))]) (lo := 0) (hi := (z : Int)) (m := z)
        (fun j => [.sh (scr ns), .sh (.int c), .sh (.int m), .sh (.int z), .sh (.int d), .ow (.sq (((List.range j).map (cl0 ns m z d)).map cellD)), .no, .no, .no, .no, .no, .no]) (by omega) fun j hj => by
      have x1 := mixed3_ok M.mixed (cellN ns (2 + j)) j (by omega) (n + 8)
      have x2 := form3_ok M (m + z) d (mixM (cellN ns (2 + j)) j / 2) (n + 7 - d)
      rw [show n + 7 - d + d + 2 = n + 9 by omega, show ((m + z : Nat) : Int) = (m : Int) + z by omega] at x2
      have x3 := count_okF M m z j hj (by omega) (n + 8)
      have y := ec j
      have es : ((List.range (j + 1)).map (cl0 ns m z d)).map cellD = ((List.range j).map (cl0 ns m z d)).map cellD ++ [cellD (cl0 ns m z d j)] := by simp [List.range_succ]
      have l : (((List.range j).map (cl0 ns m z d)).map cellD).length = j := by simp
      have aF := fun {σ : Sg} {i : Nat} {f' : String} {es : List ME} => asg_Fc (own := T.own) (σ := σ) (i := i) (f := f') (es := es) (F := fmC (m + z) d (mixM (cellN ns (2 + j)) j / 2))
      have aG := fun {σ : Sg} {i : Nat} {f' : String} {es : List ME} => asg_Fc (own := T.own) (σ := σ) (i := i) (f := f') (es := es) (F := cnF m z j)
      have eF := fun {σ : Sg} {e : ME} => es_F (own := T.own) (σ := σ) (e := e) (F := fmC (m + z) d (mixM (cellN ns (2 + j)) j / 2))
      have eG := fun {σ : Sg} {e : ME} => es_F (own := T.own) (σ := σ) (e := e) (F := cnF m z j)
      rw [turn1, show (0 : Int) + j = j by omega, es]
      generalize ((List.range j).map (cl0 ns m z d)).map cellD = L at *
      unfold cl0 cellD
      by_cases c1 : cellN ns 1 % 3 = 1
      · rw [if_pos c1]
        generalize (fmC (m + z) d (mixM (cellN ns (2 + j)) j / 2)).toD = A at *
        generalize (cnF m z j).toD = B at *
        simp -dsimp (disch := first | decide | assumption | omega | ((try simp only [List.length_map, List.length_append, List.length_cons, List.length_nil, List.length_range, rngV_len]); omega)) only [y, x1, x2, aF, e1, c1, x3, aG, eG, M.cell.own, M.mixed.own, M.form.own, M.cnt.own, ↓WD, WP, List.map_cons, List.map_nil, List.cons_append, List.nil_append, List.replicate_succ, List.replicate_zero, List.set_cons_zero, List.set_cons_succ, Nat.sub_self, List.append_nil, alA, alE, alAs, alEs, alI, alIt, alVs, escs, frsL, frs, isT, subC, wipeTV, List.getElem?_cons_zero, List.getElem?_cons_succ, Nat.reduceSub, List.length_append, List.length_cons, List.length_nil, Nat.zero_add, Int.cast_ofNat_Int, Int.lt_irrefl, decide_false, decide_true, Int.reduceLT, Int.reduceLE, Int.reduceSub, Int.reduceAdd, Int.reduceNeg, Bool.not_true, Bool.not_false, beq_self_eq_true, bne_self_eq_false, if_true, if_false, Nat.reduceEqDiff, reduceIte, Nat.reduceBNe, Nat.reduceBEq, Int.reduceBEq, Int.reduceBNe, Bool.or_true, Bool.true_or, Bool.or_false, Bool.false_or, Bool.false_eq_true]
      · have f1 : (cellN ns 1 % 3 == 1) = false := by simpa using c1
        rw [if_neg c1]
        generalize (fmC (m + z) d (mixM (cellN ns (2 + j)) j / 2)).toD = A at *
        simp -dsimp (disch := first | decide | assumption | omega | ((try simp only [List.length_map, List.length_append, List.length_cons, List.length_nil, List.length_range, rngV_len]); omega)) only [y, x1, x2, aF, e1, f1, eF, M.cell.own, M.mixed.own, M.form.own, ↓WD, WP, List.map_cons, List.map_nil, List.cons_append, List.nil_append, List.replicate_succ, List.replicate_zero, List.set_cons_zero, List.set_cons_succ, Nat.sub_self, List.append_nil, alA, alE, alAs, alEs, alI, alIt, alVs, escs, frsL, frs, isT, subC, wipeTV, List.getElem?_cons_zero, List.getElem?_cons_succ, Nat.reduceSub, List.length_append, List.length_cons, List.length_nil, Nat.zero_add, Int.cast_ofNat_Int, Int.lt_irrefl, decide_false, decide_true, Int.reduceLT, Int.reduceLE, Int.reduceSub, Int.reduceAdd, Int.reduceNeg, Bool.not_true, Bool.not_false, beq_self_eq_true, bne_self_eq_false, if_true, if_false, Nat.reduceEqDiff, reduceIte, Nat.reduceBNe, Nat.reduceBEq, Int.reduceBEq, Int.reduceBNe, Bool.or_true, Bool.true_or, Bool.or_false, Bool.false_or, Bool.false_eq_true]
    have os := fun X : D => for_r (tg := .one 6) (body := bdy (callV P T (n + 9)) T.own 0 [(.exp (.mth .append (.loc 7) [(.call "_law_form" [(.call "_law_mixed_v3" [(.call "_law_cell_at" [(.loc 0), (.bin .add (.cst (.int 6)) (.loc 6))]), (.bin .add (.cst (.int 9)) (.loc 6))]), (.bin .add (.loc 2) (.loc 3)), (.loc 4)])]))]) (lo := 0) (hi := (o : Int)) (m := o)
        (fun j => [.sh (scr ns), .sh (.int c), .sh (.int m), .sh (.int z), .sh (.int d), .ow X, .no, .ow (.sq (((List.range j).map (ou0 ns m z d)).map Fm.toD)), .no, .no, .no, .no]) (by omega) fun j hj => by
      have x1 := mixed3_ok M.mixed (cellN ns (6 + j)) (9 + j) (by omega) (n + 8)
      have x2 := form3_ok M (m + z) d (mixM (cellN ns (6 + j)) (9 + j)) (n + 7 - d)
      rw [show n + 7 - d + d + 2 = n + 9 by omega, show ((m + z : Nat) : Int) = (m : Int) + z by omega] at x2
      have y := eo j
      have es : ((List.range (j + 1)).map (ou0 ns m z d)).map Fm.toD = ((List.range j).map (ou0 ns m z d)).map Fm.toD ++ [(ou0 ns m z d j).toD] := by simp [List.range_succ]
      have l : (((List.range j).map (ou0 ns m z d)).map Fm.toD).length = j := by simp
      have ih := fun {F : Fm} => ih_F (F := F)
      rw [turn1, show (0 : Int) + j = j by omega, es]
      generalize ((List.range j).map (ou0 ns m z d)).map Fm.toD = L at *
      unfold ou0
      simp -dsimp (disch := first | decide | assumption | omega | ((try simp only [List.length_map, List.length_append, List.length_cons, List.length_nil, List.length_range, rngV_len]); omega)) only [y, x1, x2, ih, M.cell.own, M.mixed.own, M.form.own, ↓WD, WP, List.map_cons, List.map_nil, List.cons_append, List.nil_append, List.replicate_succ, List.replicate_zero, List.set_cons_zero, List.set_cons_succ, Nat.sub_self, List.append_nil, alA, alE, alAs, alEs, alI, alIt, alVs, escs, frsL, frs, isT, subC, wipeTV, List.getElem?_cons_zero, List.getElem?_cons_succ, Nat.reduceSub, List.length_append, List.length_cons, List.length_nil, Nat.zero_add, Int.cast_ofNat_Int, Int.lt_irrefl, decide_false, decide_true, Int.reduceLT, Int.reduceLE, Int.reduceSub, Int.reduceAdd, Int.reduceNeg, Bool.not_true, Bool.not_false, beq_self_eq_true, bne_self_eq_false, if_true, if_false, Nat.reduceEqDiff, reduceIte, Nat.reduceBNe, Nat.reduceBEq, Int.reduceBEq, Int.reduceBNe, Bool.or_true, Bool.true_or, Bool.or_false, Bool.false_or, Bool.false_eq_true]
    -- the taller ones
    have lC : ∀ p ∈ (List.range z).map (cl0 ns m z d), p.2.low (m + z) = true ∧ p.2.tall ≤ 6 := fun p hp => by
      obtain ⟨k, hk, rfl⟩ := List.mem_map.mp hp
      exact ⟨cl0_low ns m z d k (List.mem_range.mp hk), cl0_tall ns m z d k (by omega) hd⟩
    have lO : ∀ F ∈ (List.range o).map (ou0 ns m z d), F.low (m + z) = true ∧ F.tall ≤ 6 := fun F hF => by
      obtain ⟨k, hk, rfl⟩ := List.mem_map.mp hF
      exact ⟨fmC_low _ _ _, by have := fmC_tall (m + z) d (mixM (cellN ns (6 + k)) (9 + k)); unfold ou0; omega⟩
    have zl : ((List.range z).map (cl0 ns m z d)).length = z := by simp
    have ol : ((List.range o).map (ou0 ns m z d)).length = o := by simp
    have os := os (.sq (((List.range z).map (cl0 ns m z d)).map cellD))
    generalize hCs : (List.range z).map (cl0 ns m z d) = CS at *
    generalize hOs : (List.range o).map (ou0 ns m z d) = OS at *
    generalize hb : cellN ns 1 = b at *
    have t0 := Int.emod_nonneg (b / 3 / 28) (b := 50) (by decide)
    have t1 := Int.emod_lt_of_pos (b / 3 / 28) (b := 50) (by decide)
    obtain ⟨t, ht⟩ := Int.eq_ofNat_of_zero_le t0
    -- behind the answers' change
    have dB : ∀ (OS2 : List Fm), OS2.length = o → (∀ F ∈ OS2, F.low (m + z) = true ∧ F.tall ≤ 60) → ∃ C : Circ, C.Ok ∧ C.many = m ∧ C.cells.length = z ∧ (evBV (callV P T (n + 9)) T.own 0 (d__law_circuit.body.drop 11) [.sh (scr ns), .sh (.int c), .sh (.int m), .sh (.int z), .sh (.int d), .ow (.sq (CS.map cellD)), .no, .ow (.sq (OS2.map Fm.toD)), .sh (.int (b / 3)), .no, .no, .no]).bind (fin Rv.ok) = .ok C.toD := by
      intro OS2 hol hos
      have fin1 : ∀ (CS2 : List (Bool × Fm)) (x y : Sl), CS2.length = z → (∀ p ∈ CS2, p.2.low (m + z) = true ∧ p.2.tall ≤ 60) → ∃ C : Circ, C.Ok ∧ C.many = m ∧ C.cells.length = z ∧ (evBV (callV P T (n + 9)) T.own 0 (d__law_circuit.body.drop 12) [.sh (scr ns), .sh (.int c), .sh (.int m), .sh (.int z), .sh (.int d), .ow (.sq (CS2.map cellD)), .no, .ow (.sq (OS2.map Fm.toD)), .sh (.int (b / 3)), .no, x, y]).bind (fin Rv.ok) = .ok C.toD := by
        intro CS2 x y hcl hcs
        refine ⟨⟨m, CS2, OS2⟩, ⟨by show m ≤ 3; omega, by show CS2.length ≤ 4; omega, by show OS2.length ≤ 6; omega, fun p hp => by show p.2.low (m + CS2.length) = true; rw [hcl]; exact (hcs p hp).1, fun F hF => by show F.low (m + CS2.length) = true; rw [hcl]; exact (hos F hF).1, fun p hp => (hcs p hp).2, fun F hF => (hos F hF).2⟩, rfl, hcl, ?_⟩
        unfold Circ.toD
        simp only
        generalize CS2.map cellD = A
        generalize OS2.map Fm.toD = B
        simp -dsimp (disch := first | decide | assumption | omega | ((try simp only [List.length_map, List.length_append, List.length_cons, List.length_nil, List.length_range, rngV_len]); omega)) only [d__law_circuit, List.drop_succ_cons, List.drop_zero, ↓WD, WP, List.map_cons, List.map_nil, List.cons_append, List.nil_append, List.replicate_succ, List.replicate_zero, List.set_cons_zero, List.set_cons_succ, Nat.sub_self, List.append_nil, alA, alE, alAs, alEs, alI, alIt, alVs, escs, frsL, frs, isT, subC, wipeTV, List.getElem?_cons_zero, List.getElem?_cons_succ, Nat.reduceSub, List.length_append, List.length_cons, List.length_nil, Nat.zero_add, Int.cast_ofNat_Int, Int.lt_irrefl, decide_false, decide_true, Int.reduceLT, Int.reduceLE, Int.reduceSub, Int.reduceAdd, Int.reduceNeg, Bool.not_true, Bool.not_false, beq_self_eq_true, bne_self_eq_false, if_true, if_false, Nat.reduceEqDiff, reduceIte, Nat.reduceBNe, Nat.reduceBEq, Int.reduceBEq, Int.reduceBNe, Bool.or_true, Bool.true_or, Bool.or_false, Bool.false_or, Bool.false_eq_true]
      rw [show d__law_circuit.body.drop 11 = (d__law_circuit.body.drop 11).take 1 ++ d__law_circuit.body.drop 12 from rfl]
      simp only [rest_k]
      by_cases k1 : b / 3 % 4 = 2 ∧ m + z < 5 ∧ 0 < z
      · have i0 := Int.emod_nonneg (b / 3 / 4) (b := (z : Int)) (by omega)
        have i1 := Int.emod_lt_of_pos (b / 3 / 4) (b := (z : Int)) (by omega)
        obtain ⟨j, hj⟩ := Int.eq_ofNat_of_zero_le i0
        have hjz : j < CS.length := by omega
        have pj := lC CS[j] (List.getElem_mem hjz)
        have at_j : atD (CS.map cellD) (j : Int) = some (cellD CS[j]) := at_n (by rw [List.getElem?_map, List.getElem?_eq_getElem hjz]; rfl)
        have tk := taller_ok M CS[j].2 (m + z) t (by omega) (n + 8)
        rw [show ((m + z : Nat) : Int) = (m : Int) + z by omega] at tk
        have tt := tlF_tall CS[j].2 (m + z) t
        have tl := tlF_low CS[j].2 (m + z) pj.1 t
        have sl : (CS.map cellD).set j (cellD (CS[j].1, tlF CS[j].2 (m + z) t)) = (CS.set j (CS[j].1, tlF CS[j].2 (m + z) t)).map cellD := by rw [List.map_set]
        have F2 := fun x y => fin1 (CS.set j (CS[j].1, tlF CS[j].2 (m + z) t)) x y (by rw [List.length_set]; exact zl) (fun p hp => by
          rcases List.mem_or_eq_of_mem_set hp with q | q
          · have := lC p q; exact ⟨this.1, by omega⟩
          · subst q; exact ⟨tl, by simp only; omega⟩)
        rw [← sl] at F2
        generalize hBd : d__law_circuit.body.drop 12 = Bd at *
        have lcs : (CS.map cellD).length = z := by rw [List.length_map]; exact zl
        have zz : (0 : Int) < z := by omega
        have aT : ∀ {σ : Sg} {e : ME}, esc T.own σ e (.tup [.bl CS[j].1, (tlF CS[j].2 (m + z) t).toD]) = shr (alA T.own σ e) σ := fun {σ e} => es_t
        simp only [cellD] at at_j F2
        generalize (tlF CS[j].2 (m + z) t).toD = TD at *
        generalize CS[j].2.toD = CD at *
        generalize CS[j].1 = cb at *
        generalize CS.map cellD = CL at *
        generalize OS2.map Fm.toD = OL at *
        have run : ∀ {kf : Fv → Rv D}, (evBV (callV P T (n + 9)) T.own 0 ((d__law_circuit.body.drop 11).take 1) [.sh (scr ns), .sh (.int c), .sh (.int m), .sh (.int z), .sh (.int d), .ow (.sq CL), .no, .ow (.sq OL), .sh (.int (b / 3)), .no, .no, .no]).bind kf = kf (.nx [.sh (scr ns), .sh (.int c), .sh (.int m), .sh (.int z), .sh (.int d), .ow (.sq (CL.set j (.tup [.bl cb, TD]))), .no, .ow (.sq OL), .sh (.int (b / 3)), .no, .sh CD, .sh (.bl cb)]) := fun {kf} => by
          have pj : (0 : Int) ≤ j ∧ (j : Int) < CL.length := by omega
          simp -dsimp (disch := first | decide | assumption | omega | ((try simp only [List.length_map, List.length_append, List.length_cons, List.length_nil, List.length_range, rngV_len]); omega)) only [d__law_circuit, List.drop_succ_cons, List.drop_zero, List.take_succ_cons, List.take_zero, k1.1, decide_eq_true (show (m : Int) + z < 5 by omega), decide_eq_true zz, hj, at_j, up_t, sv_c, sv_n, ht, tk, aT, Int.toNat_natCast, M.tall.own, ↓WD, WP, List.map_cons, List.map_nil, List.cons_append, List.nil_append, List.replicate_succ, List.replicate_zero, List.set_cons_zero, List.set_cons_succ, Nat.sub_self, List.append_nil, alA, alE, alAs, alEs, alI, alIt, alVs, escs, frsL, frs, isT, subC, wipeTV, List.getElem?_cons_zero, List.getElem?_cons_succ, Nat.reduceSub, List.length_append, List.length_cons, List.length_nil, Nat.zero_add, Int.cast_ofNat_Int, Int.lt_irrefl, decide_false, decide_true, Int.reduceLT, Int.reduceLE, Int.reduceSub, Int.reduceAdd, Int.reduceNeg, Bool.not_true, Bool.not_false, beq_self_eq_true, bne_self_eq_false, if_true, if_false, Nat.reduceEqDiff, reduceIte, Nat.reduceBNe, Nat.reduceBEq, Int.reduceBEq, Int.reduceBNe, Bool.or_true, Bool.true_or, Bool.or_false, Bool.false_or, Bool.false_eq_true]
        obtain ⟨C, q1, q2, q3, q4⟩ := F2 (.sh CD) (.sh (.bl cb))
        exact ⟨C, q1, q2, q3, by rw [run]; exact q4⟩
      · obtain ⟨C, q1, q2, q3, q4⟩ := fin1 CS .no .no zl fun p hp => by have := lC p hp; exact ⟨this.1, by omega⟩
        refine ⟨C, q1, q2, q3, ?_⟩
        rw [← q4]
        generalize d__law_circuit.body.drop 12 = Bd at *
        generalize CS.map cellD = CL at *
        generalize OS2.map Fm.toD = OL at *
        by_cases k2 : b / 3 % 4 = 2
        · by_cases k3 : m + z < 5
          · have k4 : ¬ (0 : Int) < z := fun w => k1 ⟨k2, k3, by omega⟩
            simp -dsimp (disch := first | decide | assumption | omega | ((try simp only [List.length_map, List.length_append, List.length_cons, List.length_nil, List.length_range, rngV_len]); omega)) only [d__law_circuit, List.drop_succ_cons, List.drop_zero, List.take_succ_cons, List.take_zero, k2, decide_eq_true (show (m : Int) + z < 5 by omega), decide_eq_false k4, ↓WD, WP, List.map_cons, List.map_nil, List.cons_append, List.nil_append, List.replicate_succ, List.replicate_zero, List.set_cons_zero, List.set_cons_succ, Nat.sub_self, List.append_nil, alA, alE, alAs, alEs, alI, alIt, alVs, escs, frsL, frs, isT, subC, wipeTV, List.getElem?_cons_zero, List.getElem?_cons_succ, Nat.reduceSub, List.length_append, List.length_cons, List.length_nil, Nat.zero_add, Int.cast_ofNat_Int, Int.lt_irrefl, decide_false, decide_true, Int.reduceLT, Int.reduceLE, Int.reduceSub, Int.reduceAdd, Int.reduceNeg, Bool.not_true, Bool.not_false, beq_self_eq_true, bne_self_eq_false, if_true, if_false, Nat.reduceEqDiff, reduceIte, Nat.reduceBNe, Nat.reduceBEq, Int.reduceBEq, Int.reduceBNe, Bool.or_true, Bool.true_or, Bool.or_false, Bool.false_or, Bool.false_eq_true]
          · simp -dsimp (disch := first | decide | assumption | omega | ((try simp only [List.length_map, List.length_append, List.length_cons, List.length_nil, List.length_range, rngV_len]); omega)) only [d__law_circuit, List.drop_succ_cons, List.drop_zero, List.take_succ_cons, List.take_zero, k2, decide_eq_false (show ¬ (m : Int) + z < 5 by omega), ↓WD, WP, List.map_cons, List.map_nil, List.cons_append, List.nil_append, List.replicate_succ, List.replicate_zero, List.set_cons_zero, List.set_cons_succ, Nat.sub_self, List.append_nil, alA, alE, alAs, alEs, alI, alIt, alVs, escs, frsL, frs, isT, subC, wipeTV, List.getElem?_cons_zero, List.getElem?_cons_succ, Nat.reduceSub, List.length_append, List.length_cons, List.length_nil, Nat.zero_add, Int.cast_ofNat_Int, Int.lt_irrefl, decide_false, decide_true, Int.reduceLT, Int.reduceLE, Int.reduceSub, Int.reduceAdd, Int.reduceNeg, Bool.not_true, Bool.not_false, beq_self_eq_true, bne_self_eq_false, if_true, if_false, Nat.reduceEqDiff, reduceIte, Nat.reduceBNe, Nat.reduceBEq, Int.reduceBEq, Int.reduceBNe, Bool.or_true, Bool.true_or, Bool.or_false, Bool.false_or, Bool.false_eq_true]
        · have f2 : (b / 3 % 4 == 2) = false := by simpa using k2
          simp -dsimp (disch := first | decide | assumption | omega | ((try simp only [List.length_map, List.length_append, List.length_cons, List.length_nil, List.length_range, rngV_len]); omega)) only [d__law_circuit, List.drop_succ_cons, List.drop_zero, List.take_succ_cons, List.take_zero, f2, ↓WD, WP, List.map_cons, List.map_nil, List.cons_append, List.nil_append, List.replicate_succ, List.replicate_zero, List.set_cons_zero, List.set_cons_succ, Nat.sub_self, List.append_nil, alA, alE, alAs, alEs, alI, alIt, alVs, escs, frsL, frs, isT, subC, wipeTV, List.getElem?_cons_zero, List.getElem?_cons_succ, Nat.reduceSub, List.length_append, List.length_cons, List.length_nil, Nat.zero_add, Int.cast_ofNat_Int, Int.lt_irrefl, decide_false, decide_true, Int.reduceLT, Int.reduceLE, Int.reduceSub, Int.reduceAdd, Int.reduceNeg, Bool.not_true, Bool.not_false, beq_self_eq_true, bne_self_eq_false, if_true, if_false, Nat.reduceEqDiff, reduceIte, Nat.reduceBNe, Nat.reduceBEq, Int.reduceBEq, Int.reduceBNe, Bool.or_true, Bool.true_or, Bool.or_false, Bool.false_or, Bool.false_eq_true]
    have neO := fun {β : Type} {kb : Bool → Rv β} => fms_ne (kb := kb) OS fun F hF => by have := lO F hF; omega
    rw [show d__law_circuit.body.drop 5 = (d__law_circuit.body.drop 5).take 6 ++ d__law_circuit.body.drop 11 from rfl]
    simp only [rest_k]
    by_cases k1 : b / 3 % 4 = 1 ∧ m + z < 5 ∧ OS ≠ []
    · have op : 0 < OS.length := List.length_pos_iff.mpr k1.2.2
      have i0 := Int.emod_nonneg (b / 3 / 4) (b := (OS.length : Int)) (by omega)
      have i1 := Int.emod_lt_of_pos (b / 3 / 4) (b := (OS.length : Int)) (by omega)
      obtain ⟨j, hj⟩ := Int.eq_ofNat_of_zero_le i0
      have hjz : j < OS.length := by omega
      have pj := lO OS[j] (List.getElem_mem hjz)
      have at_j : atD (OS.map Fm.toD) (j : Int) = some OS[j].toD := at_n (by rw [List.getElem?_map, List.getElem?_eq_getElem hjz]; rfl)
      have tk := taller_ok M OS[j] (m + z) t (by omega) (n + 8)
      rw [show ((m + z : Nat) : Int) = (m : Int) + z by omega] at tk
      have tt := tlF_tall OS[j] (m + z) t
      have tl := tlF_low OS[j] (m + z) pj.1 t
      have sl : (OS.map Fm.toD).set j (tlF OS[j] (m + z) t).toD = (OS.set j (tlF OS[j] (m + z) t)).map Fm.toD := by rw [List.map_set]
      obtain ⟨C, q1, q2, q3, q4⟩ := dB (OS.set j (tlF OS[j] (m + z) t)) (by rw [List.length_set]; exact ol) fun F hF => by
        rcases List.mem_or_eq_of_mem_set hF with q | q
        · have := lO F q; exact ⟨this.1, by omega⟩
        · subst q; exact ⟨tl, by omega⟩
      refine ⟨C, q1, q2, q3, ?_⟩
      rw [← q4, ← sl]
      have eO : OS.isEmpty = false := by cases OS with | nil => exact absurd rfl k1.2.2 | cons _ _ => rfl
      have los : (OS.map Fm.toD).length = OS.length := List.length_map _
      have aT : ∀ {σ : Sg} {e : ME}, esc T.own σ e (tlF OS[j] (m + z) t).toD = shr (alA T.own σ e) σ := fun {σ e} => es_F
      generalize d__law_circuit.body.drop 11 = Bd at *
      generalize (tlF OS[j] (m + z) t).toD = TD at *
      generalize OS[j].toD = CD at *
      generalize CS.map cellD = CL at *
      generalize hOL : OS.map Fm.toD = OL at *
      have nl : ([] : List D) = ([] : List Fm).map Fm.toD := rfl
      simp only [List.range_zero, List.map_nil] at cs os
      have pj : (0 : Int) ≤ j ∧ (j : Int) < OL.length := by omega
      have op2 : (0 : Int) < (OS.length : Nat) := by omega
      simp -dsimp (disch := first | decide | assumption | omega | ((try simp only [List.length_map, List.length_append, List.length_cons, List.length_nil, List.length_range, rngV_len]); omega)) only [d__law_circuit, List.drop_succ_cons, List.drop_zero, List.take_succ_cons, List.take_zero, cs, ho, os, e1, ↓neO, eO, k1.1, decide_eq_true (show (m : Int) + z < 5 by omega), los, hj, at_j, ht, tk, aT, Int.toNat_natCast, M.cell.own, M.tall.own, ↓WD, WP, List.map_cons, List.map_nil, List.cons_append, List.nil_append, List.replicate_succ, List.replicate_zero, List.set_cons_zero, List.set_cons_succ, Nat.sub_self, List.append_nil, alA, alE, alAs, alEs, alI, alIt, alVs, escs, frsL, frs, isT, subC, wipeTV, List.getElem?_cons_zero, List.getElem?_cons_succ, Nat.reduceSub, List.length_append, List.length_cons, List.length_nil, Nat.zero_add, Int.cast_ofNat_Int, Int.lt_irrefl, decide_false, decide_true, Int.reduceLT, Int.reduceLE, Int.reduceSub, Int.reduceAdd, Int.reduceNeg, Bool.not_true, Bool.not_false, beq_self_eq_true, bne_self_eq_false, if_true, if_false, Nat.reduceEqDiff, reduceIte, Nat.reduceBNe, Nat.reduceBEq, Int.reduceBEq, Int.reduceBNe, Bool.or_true, Bool.true_or, Bool.or_false, Bool.false_or, Bool.false_eq_true]
    · obtain ⟨C, q1, q2, q3, q4⟩ := dB OS ol fun F hF => by have := lO F hF; exact ⟨this.1, by omega⟩
      refine ⟨C, q1, q2, q3, ?_⟩
      rw [← q4]
      generalize d__law_circuit.body.drop 11 = Bd at *
      generalize CS.map cellD = CL at *
      generalize hOL : OS.map Fm.toD = OL at *
      simp only [List.range_zero, List.map_nil] at cs os
      by_cases k2 : b / 3 % 4 = 1
      · by_cases k3 : m + z < 5
        · have k4 : OS.isEmpty = true := by
            cases OS with
            | nil => rfl
            | cons _ _ => exact absurd ⟨k2, k3, by simp⟩ k1
          simp -dsimp (disch := first | decide | assumption | omega | ((try simp only [List.length_map, List.length_append, List.length_cons, List.length_nil, List.length_range, rngV_len]); omega)) only [d__law_circuit, List.drop_succ_cons, List.drop_zero, List.take_succ_cons, List.take_zero, cs, ho, os, e1, ↓neO, k4, k2, decide_eq_true (show (m : Int) + z < 5 by omega), M.cell.own, ↓WD, WP, List.map_cons, List.map_nil, List.cons_append, List.nil_append, List.replicate_succ, List.replicate_zero, List.set_cons_zero, List.set_cons_succ, Nat.sub_self, List.append_nil, alA, alE, alAs, alEs, alI, alIt, alVs, escs, frsL, frs, isT, subC, wipeTV, List.getElem?_cons_zero, List.getElem?_cons_succ, Nat.reduceSub, List.length_append, List.length_cons, List.length_nil, Nat.zero_add, Int.cast_ofNat_Int, Int.lt_irrefl, decide_false, decide_true, Int.reduceLT, Int.reduceLE, Int.reduceSub, Int.reduceAdd, Int.reduceNeg, Bool.not_true, Bool.not_false, beq_self_eq_true, bne_self_eq_false, if_true, if_false, Nat.reduceEqDiff, reduceIte, Nat.reduceBNe, Nat.reduceBEq, Int.reduceBEq, Int.reduceBNe, Bool.or_true, Bool.true_or, Bool.or_false, Bool.false_or, Bool.false_eq_true]
        · simp -dsimp (disch := first | decide | assumption | omega | ((try simp only [List.length_map, List.length_append, List.length_cons, List.length_nil, List.length_range, rngV_len]); omega)) only [d__law_circuit, List.drop_succ_cons, List.drop_zero, List.take_succ_cons, List.take_zero, cs, ho, os, e1, k2, decide_eq_false (show ¬ (m : Int) + z < 5 by omega), M.cell.own, ↓WD, WP, List.map_cons, List.map_nil, List.cons_append, List.nil_append, List.replicate_succ, List.replicate_zero, List.set_cons_zero, List.set_cons_succ, Nat.sub_self, List.append_nil, alA, alE, alAs, alEs, alI, alIt, alVs, escs, frsL, frs, isT, subC, wipeTV, List.getElem?_cons_zero, List.getElem?_cons_succ, Nat.reduceSub, List.length_append, List.length_cons, List.length_nil, Nat.zero_add, Int.cast_ofNat_Int, Int.lt_irrefl, decide_false, decide_true, Int.reduceLT, Int.reduceLE, Int.reduceSub, Int.reduceAdd, Int.reduceNeg, Bool.not_true, Bool.not_false, beq_self_eq_true, bne_self_eq_false, if_true, if_false, Nat.reduceEqDiff, reduceIte, Nat.reduceBNe, Nat.reduceBEq, Int.reduceBEq, Int.reduceBNe, Bool.or_true, Bool.true_or, Bool.or_false, Bool.false_or, Bool.false_eq_true]
      · have f2 : (b / 3 % 4 == 1) = false := by simpa using k2
        simp -dsimp (disch := first | decide | assumption | omega | ((try simp only [List.length_map, List.length_append, List.length_cons, List.length_nil, List.length_range, rngV_len]); omega)) only [d__law_circuit, List.drop_succ_cons, List.drop_zero, List.take_succ_cons, List.take_zero, cs, ho, os, e1, f2, M.cell.own, ↓WD, WP, List.map_cons, List.map_nil, List.cons_append, List.nil_append, List.replicate_succ, List.replicate_zero, List.set_cons_zero, List.set_cons_succ, Nat.sub_self, List.append_nil, alA, alE, alAs, alEs, alI, alIt, alVs, escs, frsL, frs, isT, subC, wipeTV, List.getElem?_cons_zero, List.getElem?_cons_succ, Nat.reduceSub, List.length_append, List.length_cons, List.length_nil, Nat.zero_add, Int.cast_ofNat_Int, Int.lt_irrefl, decide_false, decide_true, Int.reduceLT, Int.reduceLE, Int.reduceSub, Int.reduceAdd, Int.reduceNeg, Bool.not_true, Bool.not_false, beq_self_eq_true, bne_self_eq_false, if_true, if_false, Nat.reduceEqDiff, reduceIte, Nat.reduceBNe, Nat.reduceBEq, Int.reduceBEq, Int.reduceBNe, Bool.or_true, Bool.true_or, Bool.or_false, Bool.false_or, Bool.false_eq_true]
  rw [run1 M.circ rfl, show d__law_circuit.body = d__law_circuit.body.take 5 ++ d__law_circuit.body.drop 5 from rfl]
  simp only [rest_k]
  by_cases k1 : (5 : Int) < (m : Int) + z
  · obtain ⟨C, q1, q2, q3, q4⟩ := body (c / 140 % 4 % 2).toNat (by omega)
    refine ⟨C, q1, by omega, by omega, ?_⟩
    rw [← q4, Int.toNat_of_nonneg g0]
    generalize d__law_circuit.body.drop 5 = Bd at *
    simp -dsimp (disch := first | decide | assumption | omega | ((try simp only [List.length_map, List.length_append, List.length_cons, List.length_nil, List.length_range, rngV_len]); omega)) only [d__law_circuit, List.take_succ_cons, List.take_zero, e0, hm, hz, decide_eq_true k1, M.cell.own, ↓WD, WP, List.map_cons, List.map_nil, List.cons_append, List.nil_append, List.replicate_succ, List.replicate_zero, List.set_cons_zero, List.set_cons_succ, Nat.sub_self, List.append_nil, alA, alE, alAs, alEs, alI, alIt, alVs, escs, frsL, frs, isT, subC, wipeTV, List.getElem?_cons_zero, List.getElem?_cons_succ, Nat.reduceSub, List.length_append, List.length_cons, List.length_nil, Nat.zero_add, Int.cast_ofNat_Int, Int.lt_irrefl, decide_false, decide_true, Int.reduceLT, Int.reduceLE, Int.reduceSub, Int.reduceAdd, Int.reduceNeg, Bool.not_true, Bool.not_false, beq_self_eq_true, bne_self_eq_false, if_true, if_false, Nat.reduceEqDiff, reduceIte, Nat.reduceBNe, Nat.reduceBEq, Int.reduceBEq, Int.reduceBNe, Bool.or_true, Bool.true_or, Bool.or_false, Bool.false_or, Bool.false_eq_true]
  · obtain ⟨C, q1, q2, q3, q4⟩ := body (c / 140 % 4).toNat (by omega)
    refine ⟨C, q1, by omega, by omega, ?_⟩
    rw [← q4, Int.toNat_of_nonneg d0]
    generalize d__law_circuit.body.drop 5 = Bd at *
    simp -dsimp (disch := first | decide | assumption | omega | ((try simp only [List.length_map, List.length_append, List.length_cons, List.length_nil, List.length_range, rngV_len]); omega)) only [d__law_circuit, List.take_succ_cons, List.take_zero, e0, hm, hz, decide_eq_false k1, M.cell.own, ↓WD, WP, List.map_cons, List.map_nil, List.cons_append, List.nil_append, List.replicate_succ, List.replicate_zero, List.set_cons_zero, List.set_cons_succ, Nat.sub_self, List.append_nil, alA, alE, alAs, alEs, alI, alIt, alVs, escs, frsL, frs, isT, subC, wipeTV, List.getElem?_cons_zero, List.getElem?_cons_succ, Nat.reduceSub, List.length_append, List.length_cons, List.length_nil, Nat.zero_add, Int.cast_ofNat_Int, Int.lt_irrefl, decide_false, decide_true, Int.reduceLT, Int.reduceLE, Int.reduceSub, Int.reduceAdd, Int.reduceNeg, Bool.not_true, Bool.not_false, beq_self_eq_true, bne_self_eq_false, if_true, if_false, Nat.reduceEqDiff, reduceIte, Nat.reduceBNe, Nat.reduceBEq, Int.reduceBEq, Int.reduceBNe, Bool.or_true, Bool.true_or, Bool.or_false, Bool.false_or, Bool.false_eq_true]
end
end Law

set_option autoImplicit false
set_option linter.all false
set_option Elab.async false
set_option maxRecDepth 10000
set_option maxHeartbeats 400000
set_option pp.maxSteps 1500
namespace Law
open MI
def d_stepped : FD := { ar := 3, ns := 3, body := [(.exp (.call "need_places_v3" [(.loc 0)])), (.exp (.call "need_size" [(.loc 2), (.idx (.loc 0) (.cst (.int 0)))])), (.exp (.call "need_size" [(.loc 1), (.blt .len [(.idx (.loc 0) (.cst (.int 1)))])])), (.ret (.call "moved" [(.loc 0), (.loc 1), (.loc 2)]))] }
def d_gone : FD := { ar := 2, ns := 6, body := [(.exp (.call "need_places_v3" [(.loc 0)])), (.for_ (.one 2) (.seq (.loc 1)) [(.exp (.call "need_size" [(.loc 2), (.idx (.loc 0) (.cst (.int 0)))]))]), (.set 3 (.call "begun" [(.loc 0)])), (.set 4 (.lst [])), (.for_ (.one 2) (.seq (.loc 1)) [(.set 5 (.call "moved" [(.loc 0), (.loc 3), (.loc 2)])), (.exp (.mth .append (.loc 4) [(.idx (.loc 5) (.cst (.int 0)))])), (.set 3 (.idx (.loc 5) (.cst (.int 1))))]), (.ret (.loc 4))] }
def d__law_moved : FD := { ar := 3, ns := 7, body := [(.set 3 (.bin .add (.loc 2) (.loc 1))), (.set 4 (.blt .tuple [(.lc (.one 5) (.seq (.idx (.loc 0) (.cst (.int 2)))) none (.call "_law_value_v3" [(.loc 5), (.loc 3)]))])), (.ret (.tup [(.loc 4), (.blt .tuple [(.lc (.one 6) (.seq (.idx (.loc 0) (.cst (.int 1)))) none (.call "_law_value_v3" [(.idx (.loc 6) (.cst (.int 1))), (.loc 3)]))])]))] }
def d__law_played : FD := { ar := 3, ns := 7, body := [(.set 3 (.lst [])), (.set 4 (.call "_law_cell_at" [(.loc 0), (.loc 1)])), (.set 5 (.bin .mod (.loc 4) (.cst (.int 13)))), (.ife (.cmp .eq (.bin .mod (.bin .fdiv (.loc 4) (.cst (.int 13))) (.cst (.int 8))) (.cst (.int 3))) [(.set 5 (.bin .mod (.bin .fdiv (.loc 4) (.cst (.int 104))) (.cst (.int 61))))] []), (.for_ (.one 6) (.rng (.loc 5)) [(.exp (.mth .append (.loc 3) [(.call "_law_row_v2" [(.call "_law_mixed_v3" [(.call "_law_cell_at" [(.loc 0), (.bin .add (.bin .add (.loc 1) (.cst (.int 1))) (.bin .mod (.loc 6) (.cst (.int 12))))]), (.loc 6)]), (.loc 2)])]))]), (.ret (.loc 3))] }
def d__law_gone : FD := { ar := 2, ns := 7, body := [(.set 2 (.blt .tuple [(.lc (.one 6) (.seq (.idx (.loc 0) (.cst (.int 1)))) none (.idx (.loc 6) (.cst (.int 0))))])), (.set 3 (.lst [])), (.for_ (.one 4) (.seq (.loc 1)) [(.set 5 (.call "_law_moved" [(.loc 0), (.loc 2), (.loc 4)])), (.exp (.mth .append (.loc 3) [(.idx (.loc 5) (.cst (.int 0)))])), (.set 2 (.idx (.loc 5) (.cst (.int 1))))]), (.ret (.loc 3))] }
section
variable {P : PrM} {T : VT}
theorem value3_ok (M : Def P T "_law_value_v3" d__law_value_v3 0) (r : List Bool) : ∀ (f : Fm) (n : Nat), f.tall ≤ n → f.low r.length = true → callV P T n "_law_value_v3" [f.toD, rowD r] = .ok (.bl (f.val (rowF r)))
  | .is b, 0, hn, _ => by simp [Fm.tall] at hn
  | .at b, 0, hn, _ => by simp [Fm.tall] at hn
  | .no b, 0, hn, _ => by simp [Fm.tall] at hn
  | .op _ _ _, 0, hn, _ => by simp [Fm.tall] at hn
  | .is b, n + 1, _, _ => by
    rw [run1 M rfl]
    simp -dsimp (disch := first | decide | assumption | omega | ((try simp only [List.length_map, List.length_append, List.length_cons, List.length_nil, List.length_range, rngV_len]); omega)) only [d__law_value_v3, Fm.toD, rowD, ↓WD, WP, List.map_cons, List.map_nil, List.cons_append, List.nil_append, List.replicate_succ, List.replicate_zero, List.set_cons_zero, List.set_cons_succ, Nat.sub_self, List.append_nil, alA, alE, alAs, alEs, alI, alIt, alVs, escs, frsL, frs, isT, subC, wipeTV, List.getElem?_cons_zero, List.getElem?_cons_succ, Nat.reduceSub, List.length_append, List.length_cons, List.length_nil, Nat.zero_add, Int.cast_ofNat_Int, Int.lt_irrefl, decide_false, decide_true, Int.reduceLT, Int.reduceLE, Int.reduceSub, Int.reduceAdd, Int.reduceNeg, Bool.not_true, Bool.not_false, beq_self_eq_true, bne_self_eq_false, if_true, if_false, Nat.reduceEqDiff, reduceIte, Nat.reduceBNe, Nat.reduceBEq, Int.reduceBEq, Int.reduceBNe, Bool.or_true, Bool.true_or, Bool.or_false, Bool.false_or, Bool.false_eq_true]
    rfl
  | .at i, n + 1, _, hl => by
    have hi : i < r.length := by simpa [Fm.low] using hl
    rw [run1 M rfl]
    simp -dsimp (disch := first | decide | assumption | omega | ((try simp only [List.length_map, List.length_append, List.length_cons, List.length_nil, List.length_range, rngV_len]); omega)) only [d__law_value_v3, Fm.toD, rowD, row_at hi, ↓WD, WP, List.map_cons, List.map_nil, List.cons_append, List.nil_append, List.replicate_succ, List.replicate_zero, List.set_cons_zero, List.set_cons_succ, Nat.sub_self, List.append_nil, alA, alE, alAs, alEs, alI, alIt, alVs, escs, frsL, frs, isT, subC, wipeTV, List.getElem?_cons_zero, List.getElem?_cons_succ, Nat.reduceSub, List.length_append, List.length_cons, List.length_nil, Nat.zero_add, Int.cast_ofNat_Int, Int.lt_irrefl, decide_false, decide_true, Int.reduceLT, Int.reduceLE, Int.reduceSub, Int.reduceAdd, Int.reduceNeg, Bool.not_true, Bool.not_false, beq_self_eq_true, bne_self_eq_false, if_true, if_false, Nat.reduceEqDiff, reduceIte, Nat.reduceBNe, Nat.reduceBEq, Int.reduceBEq, Int.reduceBNe, Bool.or_true, Bool.true_or, Bool.or_false, Bool.false_or, Bool.false_eq_true]
    rfl
  | .no f, n + 1, hn, hl => by
    have ih := value3_ok M r f n (by simp [Fm.tall] at hn; omega) hl
    rw [run1 M rfl, Fm.val]
    simp -dsimp (disch := first | decide | assumption | omega | ((try simp only [List.length_map, List.length_append, List.length_cons, List.length_nil, List.length_range, rngV_len]); omega)) only [d__law_value_v3, Fm.toD, ih, M.own, ↓WD, WP, List.map_cons, List.map_nil, List.cons_append, List.nil_append, List.replicate_succ, List.replicate_zero, List.set_cons_zero, List.set_cons_succ, Nat.sub_self, List.append_nil, alA, alE, alAs, alEs, alI, alIt, alVs, escs, frsL, frs, isT, subC, wipeTV, List.getElem?_cons_zero, List.getElem?_cons_succ, Nat.reduceSub, List.length_append, List.length_cons, List.length_nil, Nat.zero_add, Int.cast_ofNat_Int, Int.lt_irrefl, decide_false, decide_true, Int.reduceLT, Int.reduceLE, Int.reduceSub, Int.reduceAdd, Int.reduceNeg, Bool.not_true, Bool.not_false, beq_self_eq_true, bne_self_eq_false, if_true, if_false, Nat.reduceEqDiff, reduceIte, Nat.reduceBNe, Nat.reduceBEq, Int.reduceBEq, Int.reduceBNe, Bool.or_true, Bool.true_or, Bool.or_false, Bool.false_or, Bool.false_eq_true]
  | .op o f g, n + 1, hn, hl => by
    rw [Fm.low, Bool.and_eq_true] at hl
    have ih := value3_ok M r f n (by simp [Fm.tall] at hn; omega) hl.1
    have ih2 := value3_ok M r g n (by simp [Fm.tall] at hn; omega) hl.2
    rw [run1 M rfl, Fm.val]
    generalize f.val (rowF r) = a at *
    generalize g.val (rowF r) = b at *
    match o with
    | 0 | 1 | 2 =>
      cases a <;> simp -dsimp (disch := first | decide | assumption | omega | ((try simp only [List.length_map, List.length_append, List.length_cons, List.length_nil, List.length_range, rngV_len]); omega)) only [d__law_value_v3, Fm.toD, opS, ih, ih2, M.own, ↓WD, WP, List.map_cons, List.map_nil, List.cons_append, List.nil_append, List.replicate_succ, List.replicate_zero, List.set_cons_zero, List.set_cons_succ, Nat.sub_self, List.append_nil, alA, alE, alAs, alEs, alI, alIt, alVs, escs, frsL, frs, isT, subC, wipeTV, List.getElem?_cons_zero, List.getElem?_cons_succ, Nat.reduceSub, List.length_append, List.length_cons, List.length_nil, Nat.zero_add, Int.cast_ofNat_Int, Int.lt_irrefl, decide_false, decide_true, Int.reduceLT, Int.reduceLE, Int.reduceSub, Int.reduceAdd, Int.reduceNeg, Bool.not_true, Bool.not_false, beq_self_eq_true, bne_self_eq_false, if_true, if_false, Nat.reduceEqDiff, reduceIte, Nat.reduceBNe, Nat.reduceBEq, Int.reduceBEq, Int.reduceBNe, Bool.or_true, Bool.true_or, Bool.or_false, Bool.false_or, Bool.false_eq_true] <;> cases b <;> rfl
structure StepM (P : PrM) (T : VT) : Prop extends CircM P T where
  stepped : Def P T "stepped" d_stepped 0
theorem stepped_ok (M : StepM P T) (C : Circ) (h : C.Ok) (st r : List Bool) (hs : st.length = C.cells.length) (hr : r.length = C.many) (n : Nat) : callV P T (n + 64) "stepped" [C.toD, rowD st, rowD r] = .ok (stepD (C.step (r ++ st))) := by
  have a1 := need_placesC_ok M.toCircM C h n
  have a2 := need_size_ok M.toCircM r C.many hr (by have := h.many; omega) (n + 62)
  have a3 := need_size_ok M.toCircM st C.cells.length hs (by have := h.cells; omega) (n + 62)
  have a4 := moved_ok M.toCircM C h st r hs hr n
  have b1 := h.cells
  have l1 := len_cells C
  rw [run1 M.stepped rfl]
  unfold rowD stepD at *
  generalize C.step (r ++ st) = S at *
  unfold Circ.toD at *
  generalize C.cells.map cellD = CD at *
  generalize C.outs.map Fm.toD = OD at *
  generalize r.map D.bl = A at *
  generalize st.map D.bl = B at *
  simp -dsimp (disch := first | decide | assumption | omega | ((try simp only [List.length_map, List.length_append, List.length_cons, List.length_nil, List.length_range, rngV_len]); omega)) only [d_stepped, a1, a2, a3, a4, l1, M.needC.own, M.size.own, M.moved.own, ↓WD, WP, List.map_cons, List.map_nil, List.cons_append, List.nil_append, List.replicate_succ, List.replicate_zero, List.set_cons_zero, List.set_cons_succ, Nat.sub_self, List.append_nil, alA, alE, alAs, alEs, alI, alIt, alVs, escs, frsL, frs, isT, subC, wipeTV, List.getElem?_cons_zero, List.getElem?_cons_succ, Nat.reduceSub, List.length_append, List.length_cons, List.length_nil, Nat.zero_add, Int.cast_ofNat_Int, Int.lt_irrefl, decide_false, decide_true, Int.reduceLT, Int.reduceLE, Int.reduceSub, Int.reduceAdd, Int.reduceNeg, Bool.not_true, Bool.not_false, beq_self_eq_true, bne_self_eq_false, if_true, if_false, Nat.reduceEqDiff, reduceIte, Nat.reduceBNe, Nat.reduceBEq, Int.reduceBEq, Int.reduceBNe, Bool.or_true, Bool.true_or, Bool.or_false, Bool.false_or, Bool.false_eq_true]
theorem lmoved_ok (M : Def P T "_law_moved" d__law_moved 0) (M2 : Def P T "_law_value_v3" d__law_value_v3 0) (C : Circ) (h : C.Ok) (st r : List Bool) (hs : st.length = C.cells.length) (hr : r.length = C.many) (n : Nat) : callV P T (n + 63) "_law_moved" [C.toD, rowD st, rowD r] = .ok (stepD (C.step (r ++ st))) := by
  have l1 := len_cells C
  have l2 := len_outs C
  have b1 := h.cells
  have b2 := h.outs
  have b3 := h.many
  have hl : (r ++ st).length = C.many + C.cells.length := by rw [List.length_append, hr, hs]
  have val := fun (F : Fm) (lo : F.low (C.many + C.cells.length) = true) (ta : F.tall ≤ 60) => value3_ok M2 (r ++ st) F (n + 62) (by omega) (by rw [hl]; exact lo)
  have lc1 : ∀ x y z w : Sl, lcV (.one 5) (evVc (callV P T (n + 62)) none) (evV (callV P T (n + 62)) (.call "_law_value_v3" [(.loc 5), (.loc 3)])) [x, y, z, .sh (rowD (r ++ st)), w, .no, .no] (C.outs.map Fm.toD) = .ok ((C.step (r ++ st)).1.map D.bl) := fun x y z w => by
    unfold Circ.step
    rw [List.map_map]
    refine lc_m Fm.toD (fun f => .bl (f.val (rowF (r ++ st)))) C.outs fun F hF => ⟨_, rfl, ?_⟩
    have v := val F (h.lowO F hF) (h.tallO F hF)
    generalize F.toD = fD at *
    generalize r ++ st = R at *
    simp -dsimp (disch := first | decide | assumption | omega | ((try simp only [List.length_map, List.length_append, List.length_cons, List.length_nil, List.length_range, rngV_len]); omega)) only [v, M2.own, ↓WD, WP, List.map_cons, List.map_nil, List.cons_append, List.nil_append, List.replicate_succ, List.replicate_zero, List.set_cons_zero, List.set_cons_succ, Nat.sub_self, List.append_nil, alA, alE, alAs, alEs, alI, alIt, alVs, escs, frsL, frs, isT, subC, wipeTV, List.getElem?_cons_zero, List.getElem?_cons_succ, Nat.reduceSub, List.length_append, List.length_cons, List.length_nil, Nat.zero_add, Int.cast_ofNat_Int, Int.lt_irrefl, decide_false, decide_true, Int.reduceLT, Int.reduceLE, Int.reduceSub, Int.reduceAdd, Int.reduceNeg, Bool.not_true, Bool.not_false, beq_self_eq_true, bne_self_eq_false, if_true, if_false, Nat.reduceEqDiff, reduceIte, Nat.reduceBNe, Nat.reduceBEq, Int.reduceBEq, Int.reduceBNe, Bool.or_true, Bool.true_or, Bool.or_false, Bool.false_or, Bool.false_eq_true]
  have lc2 : ∀ x y z w : Sl, lcV (.one 6) (evVc (callV P T (n + 62)) none) (evV (callV P T (n + 62)) (.call "_law_value_v3" [(.idx (.loc 6) (.cst (.int 1))), (.loc 3)])) [x, y, z, .sh (rowD (r ++ st)), w, .no, .no] (C.cells.map cellD) = .ok ((C.step (r ++ st)).2.map D.bl) := fun x y z w => by
    unfold Circ.step
    rw [List.map_map]
    refine lc_m cellD (fun p => .bl (p.2.val (rowF (r ++ st)))) C.cells fun p hp => ⟨_, rfl, ?_⟩
    have v := val p.2 (h.lowC p hp) (h.tallC p hp)
    simp only [cellD]
    generalize p.2.toD = fD at *
    generalize r ++ st = R at *
    simp -dsimp (disch := first | decide | assumption | omega | ((try simp only [List.length_map, List.length_append, List.length_cons, List.length_nil, List.length_range, rngV_len]); omega)) only [v, M2.own, ↓WD, WP, List.map_cons, List.map_nil, List.cons_append, List.nil_append, List.replicate_succ, List.replicate_zero, List.set_cons_zero, List.set_cons_succ, Nat.sub_self, List.append_nil, alA, alE, alAs, alEs, alI, alIt, alVs, escs, frsL, frs, isT, subC, wipeTV, List.getElem?_cons_zero, List.getElem?_cons_succ, Nat.reduceSub, List.length_append, List.length_cons, List.length_nil, Nat.zero_add, Int.cast_ofNat_Int, Int.lt_irrefl, decide_false, decide_true, Int.reduceLT, Int.reduceLE, Int.reduceSub, Int.reduceAdd, Int.reduceNeg, Bool.not_true, Bool.not_false, beq_self_eq_true, bne_self_eq_false, if_true, if_false, Nat.reduceEqDiff, reduceIte, Nat.reduceBNe, Nat.reduceBEq, Int.reduceBEq, Int.reduceBNe, Bool.or_true, Bool.true_or, Bool.or_false, Bool.false_or, Bool.false_eq_true]
  have ca : (r.map D.bl) ++ (st.map D.bl) = (r ++ st).map D.bl := by rw [List.map_append]
  have la : (r.map D.bl).length = C.many := by rw [List.length_map, hr]
  have lb : (st.map D.bl).length = C.cells.length := by rw [List.length_map, hs]
  rw [run1 M rfl]
  unfold Circ.toD stepD rowD at *
  generalize C.step (r ++ st) = S at *
  generalize r ++ st = R at *
  generalize C.cells.map cellD = CD at *
  generalize C.outs.map Fm.toD = OD at *
  generalize r.map D.bl = A at *
  generalize st.map D.bl = B at *
  generalize C.cells.length = k at *
  generalize C.outs.length = o at *
  simp -dsimp (disch := first | decide | assumption | omega | ((try simp only [List.length_map, List.length_append, List.length_cons, List.length_nil, List.length_range, rngV_len]); omega)) only [d__law_moved, ca, lc1, lc2, M2.own, ↓WD, WP, List.map_cons, List.map_nil, List.cons_append, List.nil_append, List.replicate_succ, List.replicate_zero, List.set_cons_zero, List.set_cons_succ, Nat.sub_self, List.append_nil, alA, alE, alAs, alEs, alI, alIt, alVs, escs, frsL, frs, isT, subC, wipeTV, List.getElem?_cons_zero, List.getElem?_cons_succ, Nat.reduceSub, List.length_append, List.length_cons, List.length_nil, Nat.zero_add, Int.cast_ofNat_Int, Int.lt_irrefl, decide_false, decide_true, Int.reduceLT, Int.reduceLE, Int.reduceSub, Int.reduceAdd, Int.reduceNeg, Bool.not_true, Bool.not_false, beq_self_eq_true, bne_self_eq_false, if_true, if_false, Nat.reduceEqDiff, reduceIte, Nat.reduceBNe, Nat.reduceBEq, Int.reduceBEq, Int.reduceBNe, Bool.or_true, Bool.true_or, Bool.or_false, Bool.false_or, Bool.false_eq_true]
theorem Rp.step {C : Circ} (h : C.Ok) (r : List Bool) : Rp 2 0 97 (stepD (C.step r)) := by
  have h1 : Rp 1 0 45 (rowD (C.step r).1) := (Rp.row _ (L := 6) (by show (C.outs.map _).length ≤ 6; rw [List.length_map]; exact h.outs))
  have h2 : Rp 1 0 45 (rowD (C.step r).2) := (Rp.row _ (L := 6) (by show (C.cells.map _).length ≤ 6; rw [List.length_map]; have := h.cells; omega))
  have : Rp (1 + 1) 0 (2 * (45 + 2) + 3) (.tup [rowD (C.step r).1, rowD (C.step r).2]) := Rp.tup (L := 2) (fun x hx => by
    rcases List.mem_cons.mp hx with e | hx
    · subst e; exact h1
    · rcases List.mem_cons.mp hx with e | hx
      · subst e; exact h2
      · cases hx) (Nat.le_refl _)
  exact this
/-! ### rows, one behind the other -/
def Circ.run (C : Circ) : List Bool → List (List Bool) → List (List Bool)
  | _, [] => []
  | st, r :: rs => (C.step (r ++ st)).1 :: C.run (C.step (r ++ st)).2 rs
def Circ.st (C : Circ) : List Bool → List (List Bool) → List Bool
  | st, [] => st
  | st, r :: rs => C.st (C.step (r ++ st)).2 rs
theorem step_len2 (C : Circ) (r : List Bool) : (C.step r).2.length = C.cells.length := by simp [Circ.step]
theorem step_len1 (C : Circ) (r : List Bool) : (C.step r).1.length = C.outs.length := by simp [Circ.step]
theorem run_len (C : Circ) : ∀ (rs : List (List Bool)) (st : List Bool), (C.run st rs).length = rs.length
  | [], _ => rfl
  | r :: rs, st => by rw [Circ.run, List.length_cons, List.length_cons, run_len C rs]
theorem run_all (C : Circ) : ∀ (rs : List (List Bool)) (st : List Bool), ∀ x ∈ C.run st rs, x.length = C.outs.length
  | [], _, x, hx => by cases hx
  | r :: rs, st, x, hx => by
    rw [Circ.run] at hx
    rcases List.mem_cons.mp hx with e | e
    · subst e; exact step_len1 C _
    · exact run_all C rs _ x e
theorem run_loop (C : Circ) {body : Sg → Rv Fv} {tg : Tgt} (E : List Bool → List D → Sg) (rows : List (List Bool)) (hb : ∀ st acc r, st.length = C.cells.length → r ∈ rows → acc.length ≤ 1000 → turn tg body (E st acc) (rowD r) = .ok (.nx (E (C.step (r ++ st)).2 (acc ++ [rowD (C.step (r ++ st)).1])))) :
    ∀ (rs : List (List Bool)) (st : List Bool) (acc : List D), st.length = C.cells.length → (∀ r ∈ rs, r ∈ rows) → acc.length + rs.length ≤ 1000 → forV tg body (rs.map rowD) (E st acc) = .ok (.nx (E (C.st st rs) (acc ++ (C.run st rs).map rowD)))
  | [], st, acc, _, _, _ => by simp [forV, Circ.st, Circ.run]
  | r :: rs, st, acc, hs, hr, hl => by
    simp only [List.length_cons] at hl
    rw [List.map_cons, for_c, hb st acc r hs (hr r (by simp)) (by omega)]
    show forV tg body (rs.map rowD) (E (C.step (r ++ st)).2 (acc ++ [rowD (C.step (r ++ st)).1])) = _
    rw [run_loop C E rows hb rs _ _ (step_len2 C _) (fun x hx => hr x (List.mem_cons_of_mem _ hx)) (by rw [List.length_append, List.length_cons, List.length_nil]; omega)]
    rw [Circ.st, Circ.run, List.map_cons, List.append_assoc]; rfl
structure GoneM (P : PrM) (T : VT) : Prop extends CircM P T where
  gone : Def P T "gone" d_gone 2
def Circ.ini (C : Circ) : List Bool := C.cells.map (·.1)
theorem ini_len (C : Circ) : C.ini.length = C.cells.length := List.length_map _
theorem rows_nrf (L : List (List Bool)) : D.nrfs (L.map rowD) = true := by
  induction L with
  | nil => rfl
  | cons r L ih =>
    have e : (rowD r).nrf = true := by
      show D.nrfs (r.map .bl) = true
      induction r with
      | nil => rfl
      | cons b r ih => exact ih
    rw [List.map_cons, D.nrfs, e, ih]; rfl
theorem gone_ok (M : GoneM P T) (C : Circ) (h : C.Ok) (rows : List (List Bool)) (hr : ∀ r ∈ rows, r.length = C.many) (hl : rows.length ≤ 200) (n : Nat) : callV P T (n + 64) "gone" [C.toD, .sq (rows.map rowD)] = .ok (.sq ((C.run C.ini rows).map rowD)) := by
  have a1 := need_placesC_ok M.toCircM C h n
  have a2 := begun_ok M.toCircM C h (n + 62)
  have b1 := h.cells
  have b3 := h.many
  have l1 := len_cells C
  have ll : (rows.map rowD).length ≤ 16777216 := by rw [List.length_map]; omega
  have lp1 : forV (.one 2) (bdy (callV P T (n + 63)) T.own 2 [(.exp (.call "need_size" [(.loc 2), (.idx (.loc 0) (.cst (.int 0)))]))]) (rows.map rowD) [.sh C.toD, .sh (.sq (rows.map rowD)), .no, .no, .no, .no] = .ok (.nx [.sh C.toD, .sh (.sq (rows.map rowD)), .no, .no, .no, .no]) := by
    rw [for_s (σ := [.sh C.toD, .sh (.sq (rows.map rowD)), .no, .no, .no, .no]) rowD (fun _ => none) rows (fun _ _ _ z => by cases z) fun r hm => ?_]
    · rw [findSome_none fun _ _ => rfl]; rfl
    · have s := need_size_ok M.toCircM r C.many (hr r hm) (by omega) (n + 62)
      rw [turn1]
      unfold rowD Circ.toD at *
      generalize C.cells.map cellD = CD at *
      generalize C.outs.map Fm.toD = OD at *
      generalize r.map D.bl = A at *
      simp -dsimp (disch := first | decide | assumption | omega | ((try simp only [List.length_map, List.length_append, List.length_cons, List.length_nil, List.length_range, rngV_len]); omega)) only [s, M.size.own, ↓WD, WP, List.map_cons, List.map_nil, List.cons_append, List.nil_append, List.replicate_succ, List.replicate_zero, List.set_cons_zero, List.set_cons_succ, Nat.sub_self, List.append_nil, alA, alE, alAs, alEs, alI, alIt, alVs, escs, frsL, frs, isT, subC, wipeTV, List.getElem?_cons_zero, List.getElem?_cons_succ, Nat.reduceSub, List.length_append, List.length_cons, List.length_nil, Nat.zero_add, Int.cast_ofNat_Int, Int.lt_irrefl, decide_false, decide_true, Int.reduceLT, Int.reduceLE, Int.reduceSub, Int.reduceAdd, Int.reduceNeg, Bool.not_true, Bool.not_false, beq_self_eq_true, bne_self_eq_false, if_true, if_false, Nat.reduceEqDiff, reduceIte, Nat.reduceBNe, Nat.reduceBEq, Int.reduceBEq, Int.reduceBNe, Bool.or_true, Bool.true_or, Bool.or_false, Bool.false_or, Bool.false_eq_true]
      rfl
  have lp2 := run_loop C (tg := .one 2) (body := bdy (callV P T (n + 63)) T.own 2 [(.set 5 (.call "moved" [(.loc 0), (.loc 3), (.loc 2)])), (.exp (.mth .append (.loc 4) [(.idx (.loc 5) (.cst (.int 0)))])), (.set 3 (.idx (.loc 5) (.cst (.int 1))))])
      (fun st acc => [.sh C.toD, .sh (.sq (rows.map rowD)), .no, .sh (rowD st), .ow (.sq acc), .no]) rows (fun st acc r hs hm ha => by
    have s := moved_ok M.toCircM C h st r hs (hr r hm) n
    rw [turn1]
    unfold stepD rowD at *
    generalize C.step (r ++ st) = S at *
    generalize r.map D.bl = A at *
    generalize st.map D.bl = B at *
    generalize C.toD = cD at *
    simp -dsimp (disch := first | decide | assumption | omega | ((try simp only [List.length_map, List.length_append, List.length_cons, List.length_nil, List.length_range, rngV_len]); omega)) only [s, M.moved.own, ↓WD, WP, List.map_cons, List.map_nil, List.cons_append, List.nil_append, List.replicate_succ, List.replicate_zero, List.set_cons_zero, List.set_cons_succ, Nat.sub_self, List.append_nil, alA, alE, alAs, alEs, alI, alIt, alVs, escs, frsL, frs, isT, subC, wipeTV, List.getElem?_cons_zero, List.getElem?_cons_succ, Nat.reduceSub, List.length_append, List.length_cons, List.length_nil, Nat.zero_add, Int.cast_ofNat_Int, Int.lt_irrefl, decide_false, decide_true, Int.reduceLT, Int.reduceLE, Int.reduceSub, Int.reduceAdd, Int.reduceNeg, Bool.not_true, Bool.not_false, beq_self_eq_true, bne_self_eq_false, if_true, if_false, Nat.reduceEqDiff, reduceIte, Nat.reduceBNe, Nat.reduceBEq, Int.reduceBEq, Int.reduceBNe, Bool.or_true, Bool.true_or, Bool.or_false, Bool.false_or, Bool.false_eq_true]) rows C.ini [] (ini_len C) (fun _ z => z) (by simp only [List.length_nil]; omega)
  have fl : flc (.sq ((C.run C.ini rows).map rowD)) = true := rows_nrf (C.run C.ini rows)
  rw [run1 M.gone rfl]
  rw [show rowD (C.cells.map (·.1)) = rowD C.ini from rfl] at a2
  simp only [List.nil_append] at lp2
  generalize (C.run C.ini rows).map rowD = R at *
  generalize rows.map rowD = L at *
  unfold rowD at *
  generalize (C.st C.ini rows).map D.bl = Z at *
  generalize C.ini.map D.bl = I at *
  generalize C.toD = cD at *
  simp -dsimp (disch := first | decide | assumption | omega | ((try simp only [List.length_map, List.length_append, List.length_cons, List.length_nil, List.length_range, rngV_len]); omega)) only [d_gone, a1, a2, lp1, lp2, M.needC.own, M.begun.own, M.size.own, M.moved.own, ↓WD, WP, List.map_cons, List.map_nil, List.cons_append, List.nil_append, List.replicate_succ, List.replicate_zero, List.set_cons_zero, List.set_cons_succ, Nat.sub_self, List.append_nil, alA, alE, alAs, alEs, alI, alIt, alVs, escs, frsL, frs, isT, subC, wipeTV, List.getElem?_cons_zero, List.getElem?_cons_succ, Nat.reduceSub, List.length_append, List.length_cons, List.length_nil, Nat.zero_add, Int.cast_ofNat_Int, Int.lt_irrefl, decide_false, decide_true, Int.reduceLT, Int.reduceLE, Int.reduceSub, Int.reduceAdd, Int.reduceNeg, Bool.not_true, Bool.not_false, beq_self_eq_true, bne_self_eq_false, if_true, if_false, Nat.reduceEqDiff, reduceIte, Nat.reduceBNe, Nat.reduceBEq, Int.reduceBEq, Int.reduceBNe, Bool.or_true, Bool.true_or, Bool.or_false, Bool.false_or, Bool.false_eq_true]
  simp -dsimp (disch := first | decide | assumption | omega | ((try simp only [List.length_map, List.length_append, List.length_cons, List.length_nil, List.length_range, rngV_len]); omega)) only [retOk, fl, ↓WD, WP, List.map_cons, List.map_nil, List.cons_append, List.nil_append, List.replicate_succ, List.replicate_zero, List.set_cons_zero, List.set_cons_succ, Nat.sub_self, List.append_nil, alA, alE, alAs, alEs, alI, alIt, alVs, escs, frsL, frs, isT, subC, wipeTV, List.getElem?_cons_zero, List.getElem?_cons_succ, Nat.reduceSub, List.length_append, List.length_cons, List.length_nil, Nat.zero_add, Int.cast_ofNat_Int, Int.lt_irrefl, decide_false, decide_true, Int.reduceLT, Int.reduceLE, Int.reduceSub, Int.reduceAdd, Int.reduceNeg, Bool.not_true, Bool.not_false, beq_self_eq_true, bne_self_eq_false, if_true, if_false, Nat.reduceEqDiff, reduceIte, Nat.reduceBNe, Nat.reduceBEq, Int.reduceBEq, Int.reduceBNe, Bool.or_true, Bool.true_or, Bool.or_false, Bool.false_or, Bool.false_eq_true]
  rfl
structure LGoneM (P : PrM) (T : VT) : Prop where
  mov : Def P T "_law_moved" d__law_moved 0
  val : Def P T "_law_value_v3" d__law_value_v3 0
  gone : Def P T "_law_gone" d__law_gone 0
theorem lgone_ok (M : LGoneM P T) (C : Circ) (h : C.Ok) (rows : List (List Bool)) (hr : ∀ r ∈ rows, r.length = C.many) (hl : rows.length ≤ 200) (n : Nat) : callV P T (n + 64) "_law_gone" [C.toD, .sq (rows.map rowD)] = .ok (.sq ((C.run C.ini rows).map rowD)) := by
  have b1 := h.cells
  have l1 := len_cells C
  have ll : (rows.map rowD).length ≤ 16777216 := by rw [List.length_map]; omega
  have lc1 : lcV (.one 6) (evVc (callV P T (n + 63)) none) (evV (callV P T (n + 63)) (.idx (.loc 6) (.cst (.int 0)))) [.sh C.toD, .sh (.sq (rows.map rowD)), .no, .no, .no, .no, .no] (C.cells.map cellD) = .ok (C.ini.map D.bl) := by
    unfold Circ.ini
    rw [List.map_map]
    refine lc_m cellD (fun p => .bl p.1) C.cells fun p hp => ⟨_, rfl, ?_⟩
    simp only [cellD]
    generalize p.2.toD = pD
    simp -dsimp (disch := first | decide | assumption | omega | ((try simp only [List.length_map, List.length_append, List.length_cons, List.length_nil, List.length_range, rngV_len]); omega)) only [↓WD, WP, List.map_cons, List.map_nil, List.cons_append, List.nil_append, List.replicate_succ, List.replicate_zero, List.set_cons_zero, List.set_cons_succ, Nat.sub_self, List.append_nil, alA, alE, alAs, alEs, alI, alIt, alVs, escs, frsL, frs, isT, subC, wipeTV, List.getElem?_cons_zero, List.getElem?_cons_succ, Nat.reduceSub, List.length_append, List.length_cons, List.length_nil, Nat.zero_add, Int.cast_ofNat_Int, Int.lt_irrefl, decide_false, decide_true, Int.reduceLT, Int.reduceLE, Int.reduceSub, Int.reduceAdd, Int.reduceNeg, Bool.not_true, Bool.not_false, beq_self_eq_true, bne_self_eq_false, if_true, if_false, Nat.reduceEqDiff, reduceIte, Nat.reduceBNe, Nat.reduceBEq, Int.reduceBEq, Int.reduceBNe, Bool.or_true, Bool.true_or, Bool.or_false, Bool.false_or, Bool.false_eq_true]
  have lp2 := run_loop C (tg := .one 4) (body := bdy (callV P T (n + 63)) T.own 0 [(.set 5 (.call "_law_moved" [(.loc 0), (.loc 2), (.loc 4)])), (.exp (.mth .append (.loc 3) [(.idx (.loc 5) (.cst (.int 0)))])), (.set 2 (.idx (.loc 5) (.cst (.int 1))))])
      (fun st acc => [.sh C.toD, .sh (.sq (rows.map rowD)), .sh (rowD st), .ow (.sq acc), .no, .no, .no]) rows (fun st acc r hs hm ha => by
    have s := lmoved_ok M.mov M.val C h st r hs (hr r hm) n
    rw [turn1]
    unfold stepD rowD at *
    generalize C.step (r ++ st) = S at *
    generalize r.map D.bl = A at *
    generalize st.map D.bl = B at *
    generalize C.toD = cD at *
    simp -dsimp (disch := first | decide | assumption | omega | ((try simp only [List.length_map, List.length_append, List.length_cons, List.length_nil, List.length_range, rngV_len]); omega)) only [s, M.mov.own, ↓WD, WP, List.map_cons, List.map_nil, List.cons_append, List.nil_append, List.replicate_succ, List.replicate_zero, List.set_cons_zero, List.set_cons_succ, Nat.sub_self, List.append_nil, alA, alE, alAs, alEs, alI, alIt, alVs, escs, frsL, frs, isT, subC, wipeTV, List.getElem?_cons_zero, List.getElem?_cons_succ, Nat.reduceSub, List.length_append, List.length_cons, List.length_nil, Nat.zero_add, Int.cast_ofNat_Int, Int.lt_irrefl, decide_false, decide_true, Int.reduceLT, Int.reduceLE, Int.reduceSub, Int.reduceAdd, Int.reduceNeg, Bool.not_true, Bool.not_false, beq_self_eq_true, bne_self_eq_false, if_true, if_false, Nat.reduceEqDiff, reduceIte, Nat.reduceBNe, Nat.reduceBEq, Int.reduceBEq, Int.reduceBNe, Bool.or_true, Bool.true_or, Bool.or_false, Bool.false_or, Bool.false_eq_true]) rows C.ini [] (ini_len C) (fun _ z => z) (by simp only [List.length_nil]; omega)
  rw [run1 M.gone rfl]
  simp only [List.nil_append] at lp2
  generalize (C.run C.ini rows).map rowD = R at *
  generalize rows.map rowD = L at *
  unfold rowD at *
  generalize (C.st C.ini rows).map D.bl = Z at *
  have li : (C.ini.map D.bl).length ≤ 16777216 := by rw [List.length_map, ini_len]; omega
  generalize C.ini.map D.bl = I at *
  unfold Circ.toD at *
  generalize C.cells.map cellD = CD at *
  generalize C.outs.map Fm.toD = OD at *
  simp -dsimp (disch := first | decide | assumption | omega | ((try simp only [List.length_map, List.length_append, List.length_cons, List.length_nil, List.length_range, rngV_len]); omega)) only [d__law_gone, lc1, lp2, M.mov.own, ↓WD, WP, List.map_cons, List.map_nil, List.cons_append, List.nil_append, List.replicate_succ, List.replicate_zero, List.set_cons_zero, List.set_cons_succ, Nat.sub_self, List.append_nil, alA, alE, alAs, alEs, alI, alIt, alVs, escs, frsL, frs, isT, subC, wipeTV, List.getElem?_cons_zero, List.getElem?_cons_succ, Nat.reduceSub, List.length_append, List.length_cons, List.length_nil, Nat.zero_add, Int.cast_ofNat_Int, Int.lt_irrefl, decide_false, decide_true, Int.reduceLT, Int.reduceLE, Int.reduceSub, Int.reduceAdd, Int.reduceNeg, Bool.not_true, Bool.not_false, beq_self_eq_true, bne_self_eq_false, if_true, if_false, Nat.reduceEqDiff, reduceIte, Nat.reduceBNe, Nat.reduceBEq, Int.reduceBEq, Int.reduceBNe, Bool.or_true, Bool.true_or, Bool.or_false, Bool.false_or, Bool.false_eq_true]
def plRow (ns : List Int) (a m k : Nat) : List Bool := lrow (mixM (cellN ns (a + 1 + k % 12)) k) m
theorem played_ok (M : LCircM P T) (M2 : Def P T "_law_played" d__law_played 0) (ns : List Int) (hl : ns.length ≤ 63) (a m : Nat) (hm : m ≤ 100) (n : Nat) : ∃ rows : List (List Bool), (∀ r ∈ rows, r.length = m) ∧ rows.length ≤ 60 ∧ callV P T (n + 3) "_law_played" [scr ns, .int a, .int m] = .ok (.sq (rows.map rowD)) := by
  have e0 := cell_ok (P := P) M.cell ns (by omega) a (by omega) (n + 1)
  generalize cellN ns a = c at *
  have h0 := Int.emod_nonneg c (b := 13) (by decide)
  have h1 := Int.emod_lt_of_pos c (b := 13) (by decide)
  have k0 := Int.emod_nonneg (c / 104) (b := 61) (by decide)
  have k1 := Int.emod_lt_of_pos (c / 104) (b := 61) (by decide)
  have lp := fun (t : Nat) => for_r (tg := .one 6) (body := bdy (callV P T (n + 2)) T.own 0 [(.exp (.mth .append (.loc 3) [(.call "_law_row_v2" [(.call "_law_mixed_v3" [(.call "_law_cell_at" [(.loc 0), (.bin .add (.bin .add (.loc 1) (.cst (.int 1))) (.bin .mod (.loc 6) (.cst (.int 12))))]), (.loc 6)]), (.loc 2)])]))]) (lo := 0) (hi := ((min t 60 : Nat) : Int)) (m := min t 60)
      (fun j => [.sh (scr ns), .sh (.int a), .sh (.int m), .ow (.sq (((List.range j).map (plRow ns a m)).map rowD)), .sh (.int c), .sh (.int (min t 60 : Nat)), .no]) (by omega) fun j hj => by
    have y := cell_ok (P := P) M.cell ns (by omega) ((a : Int) + 1 + j % 12) (by omega) (n + 1)
    have x := mixed3_ok M.mixed (cellN ns ((a : Int) + 1 + j % 12)) j (by omega) (n + 1)
    have r := lrow_ok M.row (mixM (cellN ns ((a : Int) + 1 + j % 12)) j) m (by omega) (n + 1)
    have es : ((List.range (j + 1)).map (plRow ns a m)).map rowD = ((List.range j).map (plRow ns a m)).map rowD ++ [rowD (plRow ns a m j)] := by simp [List.range_succ]
    have l : (((List.range j).map (plRow ns a m)).map rowD).length = j := by simp
    rw [turn1, show (0 : Int) + j = j by omega, es]
    rw [show lrow (mixM (cellN ns ((a : Int) + 1 + j % 12)) j) m = plRow ns a m j by unfold plRow; rfl] at r
    generalize ((List.range j).map (plRow ns a m)).map rowD = L at *
    unfold rowD at *
    generalize (plRow ns a m j).map D.bl = Z at *
    simp -dsimp (disch := first | decide | assumption | omega | ((try simp only [List.length_map, List.length_append, List.length_cons, List.length_nil, List.length_range, rngV_len]); omega)) only [y, x, r, M.cell.own, M.mixed.own, M.row.own, ↓WD, WP, List.map_cons, List.map_nil, List.cons_append, List.nil_append, List.replicate_succ, List.replicate_zero, List.set_cons_zero, List.set_cons_succ, Nat.sub_self, List.append_nil, alA, alE, alAs, alEs, alI, alIt, alVs, escs, frsL, frs, isT, subC, wipeTV, List.getElem?_cons_zero, List.getElem?_cons_succ, Nat.reduceSub, List.length_append, List.length_cons, List.length_nil, Nat.zero_add, Int.cast_ofNat_Int, Int.lt_irrefl, decide_false, decide_true, Int.reduceLT, Int.reduceLE, Int.reduceSub, Int.reduceAdd, Int.reduceNeg, Bool.not_true, Bool.not_false, beq_self_eq_true, bne_self_eq_false, if_true, if_false, Nat.reduceEqDiff, reduceIte, Nat.reduceBNe, Nat.reduceBEq, Int.reduceBEq, Int.reduceBNe, Bool.or_true, Bool.true_or, Bool.or_false, Bool.false_or, Bool.false_eq_true]
  have all : ∀ t, ∀ r ∈ (List.range t).map (plRow ns a m), r.length = m := fun t r hr => by
    obtain ⟨k, _, rfl⟩ := List.mem_map.mp hr
    exact lrow_len _ _
  by_cases c8 : c / 13 % 8 = 3
  · obtain ⟨t, ht⟩ := Int.eq_ofNat_of_zero_le k0
    have lp := lp t
    rw [show min t 60 = t by omega] at lp
    refine ⟨(List.range t).map (plRow ns a m), all t, by simp; omega, ?_⟩
    rw [run1 M2 rfl]
    generalize ((List.range t).map (plRow ns a m)).map rowD = R at *
    simp only [List.range_zero, List.map_nil] at lp
    simp -dsimp (disch := first | decide | assumption | omega | ((try simp only [List.length_map, List.length_append, List.length_cons, List.length_nil, List.length_range, rngV_len]); omega)) only [d__law_played, e0, c8, ht, lp, M.cell.own, ↓WD, WP, List.map_cons, List.map_nil, List.cons_append, List.nil_append, List.replicate_succ, List.replicate_zero, List.set_cons_zero, List.set_cons_succ, Nat.sub_self, List.append_nil, alA, alE, alAs, alEs, alI, alIt, alVs, escs, frsL, frs, isT, subC, wipeTV, List.getElem?_cons_zero, List.getElem?_cons_succ, Nat.reduceSub, List.length_append, List.length_cons, List.length_nil, Nat.zero_add, Int.cast_ofNat_Int, Int.lt_irrefl, decide_false, decide_true, Int.reduceLT, Int.reduceLE, Int.reduceSub, Int.reduceAdd, Int.reduceNeg, Bool.not_true, Bool.not_false, beq_self_eq_true, bne_self_eq_false, if_true, if_false, Nat.reduceEqDiff, reduceIte, Nat.reduceBNe, Nat.reduceBEq, Int.reduceBEq, Int.reduceBNe, Bool.or_true, Bool.true_or, Bool.or_false, Bool.false_or, Bool.false_eq_true]
  · have f8 : (c / 13 % 8 == 3) = false := by simpa using c8
    obtain ⟨t, ht⟩ := Int.eq_ofNat_of_zero_le h0
    have lp := lp t
    rw [show min t 60 = t by omega] at lp
    refine ⟨(List.range t).map (plRow ns a m), all t, by simp; omega, ?_⟩
    rw [run1 M2 rfl]
    generalize ((List.range t).map (plRow ns a m)).map rowD = R at *
    simp only [List.range_zero, List.map_nil] at lp
    simp -dsimp (disch := first | decide | assumption | omega | ((try simp only [List.length_map, List.length_append, List.length_cons, List.length_nil, List.length_range, rngV_len]); omega)) only [d__law_played, e0, f8, ht, lp, M.cell.own, ↓WD, WP, List.map_cons, List.map_nil, List.cons_append, List.nil_append, List.replicate_succ, List.replicate_zero, List.set_cons_zero, List.set_cons_succ, Nat.sub_self, List.append_nil, alA, alE, alAs, alEs, alI, alIt, alVs, escs, frsL, frs, isT, subC, wipeTV, List.getElem?_cons_zero, List.getElem?_cons_succ, Nat.reduceSub, List.length_append, List.length_cons, List.length_nil, Nat.zero_add, Int.cast_ofNat_Int, Int.lt_irrefl, decide_false, decide_true, Int.reduceLT, Int.reduceLE, Int.reduceSub, Int.reduceAdd, Int.reduceNeg, Bool.not_true, Bool.not_false, beq_self_eq_true, bne_self_eq_false, if_true, if_false, Nat.reduceEqDiff, reduceIte, Nat.reduceBNe, Nat.reduceBEq, Int.reduceBEq, Int.reduceBNe, Bool.or_true, Bool.true_or, Bool.or_false, Bool.false_or, Bool.false_eq_true]
theorem Rp.rows {L : List (List Bool)} {a b : Nat} (h : ∀ r ∈ L, r.length ≤ a) (hl : L.length ≤ b) : Rp 2 1 (b * (a * 7 + 3 + 2) + 2) (.sq (L.map rowD)) := Rp.sq (xs := L.map rowD) (fun x hx => by
  obtain ⟨r, hr, e⟩ := List.mem_map.mp hx
  rw [← e]
  exact Rp.row r (h r hr)) (by rw [List.length_map]; exact hl)
end
end Law

set_option autoImplicit false
set_option linter.all false
set_option Elab.async false
set_option maxRecDepth 10000
set_option maxHeartbeats 400000
set_option pp.maxSteps 1500
namespace Law
open MI
def d_law_v40 : FD := { ar := 1, ns := 7, body := [(.set 1 (.call "_law_circuit" [(.loc 0)])), (.set 2 (.call "_law_played" [(.loc 0), (.cst (.int 14)), (.idx (.loc 1) (.cst (.int 0)))])), (.set 3 (.call "_law_played" [(.loc 0), (.cst (.int 30)), (.idx (.loc 1) (.cst (.int 0)))])), (.set 4 (.blt .list [(.loc 2)])), (.set 5 (.call "gone" [(.loc 1), (.loc 4)])), (.set 6 (.call "_law_gone" [(.loc 1), (.loc 2)])), (.ife (.or (.cmp .ne (.blt .repr [(.call "gone" [(.loc 1), (.loc 3)])]) (.blt .repr [(.call "_law_gone" [(.loc 1), (.loc 3)])])) (.or (.cmp .ne (.blt .repr [(.loc 5)]) (.blt .repr [(.loc 6)])) (.cmp .ne (.loc 4) (.loc 2)))) [(.ret (.cst (.bl false)))] []), (.exp (.mth .clear (.loc 5) [])), (.ret (.cmp .eq (.blt .repr [(.call "gone" [(.loc 1), (.loc 4)])]) (.blt .repr [(.loc 6)])))] }
def P : PrM := fun f => if f = "truth_of" then some d_truth_of else if f = "places_below" then some d_places_below else if f = "places_in" then some d_places_in else if f = "need_places" then some d_need_places else if f = "value" then some d_value else if f = "need_places_v3" then some d_need_places_v3 else if f = "need_size" then some d_need_size else if f = "begun" then some d_begun else if f = "moved" then some d_moved else if f = "gone" then some d_gone else if f = "_law_cell_at" then some d__law_cell_at else if f = "_law_mixed_v3" then some d__law_mixed_v3 else if f = "_law_row_v2" then some d__law_row_v2 else if f = "_law_form" then some d__law_form else if f = "_law_value_v3" then some d__law_value_v3 else if f = "_law_counting" then some d__law_counting else if f = "_law_taller" then some d__law_taller else if f = "_law_circuit" then some d__law_circuit else if f = "_law_moved" then some d__law_moved else if f = "_law_played" then some d__law_played else if f = "_law_gone" then some d__law_gone else if f = "law_v40" then some d_law_v40 else if f = "_law_class" then some d__law_class else if f = "_law_count" then some d__law_count else if f = "_law_deep" then some d__law_deep else if f = "_law_form_by" then some d__law_form_by else if f = "_law_leaf" then some d__law_leaf else if f = "_law_mixed" then some d__law_mixed else if f = "_law_row" then some d__law_row else if f = "_law_row_of" then some d__law_row_of else if f = "_law_sum" then some d__law_sum else if f = "_law_truth" then some d__law_truth else if f = "_law_whole" then some d__law_whole else if f = "many_rows" then some d_many_rows else if f = "number_of" then some d_number_of else if f = "put_in" then some d_put_in else if f = "row_of" then some d_row_of else if f = "stepped" then some d_stepped else if f = "with_forms" then some d_with_forms else none
def ownT : String → Nat := fun f => if f = "places_below" ∨ f = "places_in" ∨ f = "gone" then 2 else 0
def T : VT := ⟨ownT, fun _ => none⟩
theorem goneM : GoneM P T := { below := ⟨rfl, rfl, rfl⟩, need := ⟨rfl, rfl, rfl⟩, truth := ⟨rfl, rfl, rfl⟩, value := ⟨rfl, rfl, rfl⟩, in_ := ⟨rfl, rfl, rfl⟩, needC := ⟨rfl, rfl, rfl⟩, size := ⟨rfl, rfl, rfl⟩, begun := ⟨rfl, rfl, rfl⟩, moved := ⟨rfl, rfl, rfl⟩, gone := ⟨rfl, rfl, rfl⟩ }
theorem lcircM : LCircM P T := ⟨⟨rfl, rfl, rfl⟩, ⟨rfl, rfl, rfl⟩, ⟨rfl, rfl, rfl⟩, ⟨rfl, rfl, rfl⟩, ⟨rfl, rfl, rfl⟩, ⟨rfl, rfl, rfl⟩, ⟨rfl, rfl, rfl⟩⟩
theorem lgonM : LGoneM P T := ⟨⟨rfl, rfl, rfl⟩, ⟨rfl, rfl, rfl⟩, ⟨rfl, rfl, rfl⟩⟩
theorem playM : Def P T "_law_played" d__law_played 0 := ⟨rfl, rfl, rfl⟩
theorem lawM : Def P T "law_v40" d_law_v40 0 := ⟨rfl, rfl, rfl⟩
theorem law_ok (ns : List Int) (hl : ns.length ≤ 63) (n : Nat) : callV P T (n + 100) "law_v40" [.lst (ns.map .int)] = .ok (.bl true) := by
  obtain ⟨C, h, c1, c2, c3⟩ := circuit_ok lcircM ns hl (n + 89)
  have b1 := h.cells
  have b2 := h.outs
  have b3 := h.many
  obtain ⟨A, hA, lA, pA⟩ := played_ok lcircM playM ns hl 14 C.many (by omega) (n + 96)
  obtain ⟨B, hB, lB, pB⟩ := played_ok lcircM playM ns hl 30 C.many (by omega) (n + 96)
  have g1 := gone_ok goneM C h A hA (by omega) (n + 35)
  have g2 := gone_ok goneM C h B hB (by omega) (n + 35)
  have l1 := lgone_ok lgonM C h A hA (by omega) (n + 35)
  have l2 := lgone_ok lgonM C h B hB (by omega) (n + 35)
  have r0 : Rp 2 1 _ (.sq (A.map rowD)) := Rp.rows (a := 3) (b := 60) (fun r hr => by rw [hA r hr]; omega) lA
  have r1 : Rp 2 1 _ (.sq ((C.run C.ini A).map rowD)) := Rp.rows (a := 6) (b := 60) (fun r hr => by rw [run_all C A _ r hr]; omega) (by rw [run_len]; exact lA)
  have r2 : Rp 2 1 _ (.sq ((C.run C.ini B).map rowD)) := Rp.rows (a := 6) (b := 60) (fun r hr => by rw [run_all C B _ r hr]; omega) (by rw [run_len]; exact lB)
  have e0 := fun {β : Type} {kb : Bool → Rv β} => r0.nes (kb := kb) (by decide) (by decide)
  have e1 := fun {β : Type} {k : D → Rv β} => f_rep (k := k) (r1.go rfl (by decide) (by decide) (by decide))
  have e2 := fun {β : Type} {k : D → Rv β} => f_rep (k := k) (r2.go rfl (by decide) (by decide) (by decide))
  have q1 := fun {β : Type} {kb : Bool → Rv β} => q_est (kb := kb) r1.str
  have q2 := fun {β : Type} {kb : Bool → Rv β} => q_nst (kb := kb) r1.str
  have q3 := fun {β : Type} {kb : Bool → Rv β} => q_nst (kb := kb) r2.str
  have lA2 : (A.map rowD).length ≤ 16777216 := by rw [List.length_map]; omega
  rw [show ((14 : Nat) : Int) = 14 from rfl] at pA
  rw [show ((30 : Nat) : Int) = 30 from rfl] at pB
  rw [run1 lawM rfl]
  generalize (C.run C.ini A).map rowD = R1 at *
  generalize (C.run C.ini B).map rowD = R2 at *
  generalize A.map rowD = A at *
  generalize B.map rowD = B at *
  generalize (D.sq R1).rep = S1 at *
  generalize (D.sq R2).rep = S2 at *
  unfold Circ.toD at *
  generalize C.cells.map cellD = CD at *
  generalize C.outs.map Fm.toD = OD at *
  generalize C.many = m at *
  simp -dsimp (disch := first | decide | assumption | omega | ((try simp only [List.length_map, List.length_append, List.length_cons, List.length_nil, List.length_range, rngV_len]); omega)) only [d_law_v40, c3, pA, pB, g1, g2, l1, l2, ↓e0, ↓e1, ↓e2, ↓q1, ↓q2, ↓q3, lcircM.circ.own, goneM.gone.own, lgonM.gone.own, playM.own, ↓WD, WP, List.map_cons, List.map_nil, List.cons_append, List.nil_append, List.replicate_succ, List.replicate_zero, List.set_cons_zero, List.set_cons_succ, Nat.sub_self, List.append_nil, alA, alE, alAs, alEs, alI, alIt, alVs, escs, frsL, frs, isT, subC, wipeTV, List.getElem?_cons_zero, List.getElem?_cons_succ, Nat.reduceSub, List.length_append, List.length_cons, List.length_nil, Nat.zero_add, Int.cast_ofNat_Int, Int.lt_irrefl, decide_false, decide_true, Int.reduceLT, Int.reduceLE, Int.reduceSub, Int.reduceAdd, Int.reduceNeg, Bool.not_true, Bool.not_false, beq_self_eq_true, bne_self_eq_false, if_true, if_false, Nat.reduceEqDiff, reduceIte, Nat.reduceBNe, Nat.reduceBEq, Int.reduceBEq, Int.reduceBNe, Bool.or_true, Bool.true_or, Bool.or_false, Bool.false_or, Bool.false_eq_true]
theorem orc_ok : OrcOk P T := fun _ _ h => by cases h
end Law

set_option maxRecDepth 100000
set_option maxHeartbeats 0
namespace Law
open PySem PySem.Spec PyProof.Rows L2 MI MIS
def top (i : Nat) : Stmt := PySem.Challenge.pw_circuits_k42_gone.main.body.getD i (.Pass ⟨0, 0, 0, 0⟩)
def tab : Tab := ⟨[("_law_cell_at", "_law_cell_at", 2), ("_law_circuit", "_law_circuit", 1), ("_law_counting", "_law_counting", 3), ("_law_form", "_law_form", 3), ("_law_gone", "_law_gone", 2), ("_law_mixed", "_law_mixed_v3", 2), ("_law_moved", "_law_moved", 3), ("_law_played", "_law_played", 3), ("_law_row", "_law_row_v2", 2), ("_law_taller", "_law_taller", 3), ("_law_value", "_law_value_v3", 2), ("begun", "begun", 1), ("gone", "gone", 2), ("moved", "moved", 3), ("need_places_forms", "need_places", 2), ("need_places_wires", "need_places_v3", 1), ("need_size", "need_size", 2), ("places_below", "places_below", 1), ("places_in", "places_in", 1), ("truth_of", "truth_of", 2), ("value", "value", 2)], [], ["len", "list", "range", "repr", "set", "sorted", "tuple"], true, none, [("CircuitError", 0), ("NoPlace", 1), ("UnlikeSizes", 6)], []⟩
abbrev sd_truth_of : Stmt := top 5
theorem cd_truth_of : (scB ["form", "row", "word", "one", "other"] ["form", "row"] (defScope sd_truth_of) && ckD tab ["form", "row", "word", "one", "other"] 90 (defScope sd_truth_of) (defBody sd_truth_of) d_truth_of.body && ((["form", "row"] : List Str).length == 2) && (d_truth_of.ar == 2) && (d_truth_of.ns == (["form", "row", "word", "one", "other"] : List Str).length)) = true := by decide +kernel
theorem pd_truth_of : P "truth_of" = some d_truth_of := by simp [P]
abbrev sd_places_below : Stmt := top 6
theorem cd_places_below : (scB ["form", "found"] ["form"] (defScope sd_places_below) && ckD tab ["form", "found"] 90 (defScope sd_places_below) (defBody sd_places_below) d_places_below.body && ((["form"] : List Str).length == 1) && (d_places_below.ar == 1) && (d_places_below.ns == (["form", "found"] : List Str).length)) = true := by decide +kernel
theorem pd_places_below : P "places_below" = some d_places_below := by simp [P]
abbrev sd_places_in : Stmt := top 7
theorem cd_places_in : (scB ["form"] ["form"] (defScope sd_places_in) && ckD tab ["form"] 90 (defScope sd_places_in) (defBody sd_places_in) d_places_in.body && ((["form"] : List Str).length == 1) && (d_places_in.ar == 1) && (d_places_in.ns == (["form"] : List Str).length)) = true := by decide +kernel
theorem pd_places_in : P "places_in" = some d_places_in := by simp [P]
abbrev sd_need_places : Stmt := top 8
theorem cd_need_places : (scB ["form", "many", "place"] ["form", "many"] (defScope sd_need_places) && ckD tab ["form", "many", "place"] 90 (defScope sd_need_places) (defBody sd_need_places) d_need_places.body && ((["form", "many"] : List Str).length == 2) && (d_need_places.ar == 2) && (d_need_places.ns == (["form", "many", "place"] : List Str).length)) = true := by decide +kernel
theorem pd_need_places : P "need_places" = some d_need_places := by simp [P]
abbrev sd_value : Stmt := top 10
theorem cd_value : (scB ["form", "row"] ["form", "row"] (defScope sd_value) && ckD tab ["form", "row"] 90 (defScope sd_value) (defBody sd_value) d_value.body && ((["form", "row"] : List Str).length == 2) && (d_value.ar == 2) && (d_value.ns == (["form", "row"] : List Str).length)) = true := by decide +kernel
theorem pd_value : P "value" = some d_value := by simp [P]
abbrev sd_need_places_v3 : Stmt := top 12
theorem cd_need_places_v3 : (scB ["circuit", "most", "form", "place", "cell"] ["circuit"] (defScope sd_need_places_v3) && ckD tab ["circuit", "most", "form", "place", "cell"] 90 (defScope sd_need_places_v3) (defBody sd_need_places_v3) d_need_places_v3.body && ((["circuit"] : List Str).length == 1) && (d_need_places_v3.ar == 1) && (d_need_places_v3.ns == (["circuit", "most", "form", "place", "cell"] : List Str).length)) = true := by decide +kernel
theorem pd_need_places_v3 : P "need_places_v3" = some d_need_places_v3 := by simp [P]
abbrev sd_need_size : Stmt := top 14
theorem cd_need_size : (scB ["row", "many"] ["row", "many"] (defScope sd_need_size) && ckD tab ["row", "many"] 90 (defScope sd_need_size) (defBody sd_need_size) d_need_size.body && ((["row", "many"] : List Str).length == 2) && (d_need_size.ar == 2) && (d_need_size.ns == (["row", "many"] : List Str).length)) = true := by decide +kernel
theorem pd_need_size : P "need_size" = some d_need_size := by simp [P]
abbrev sd_begun : Stmt := top 15
theorem cd_begun : (scB ["circuit", "cell"] ["circuit"] (defScope sd_begun) && ckD tab ["circuit", "cell"] 90 (defScope sd_begun) (defBody sd_begun) d_begun.body && ((["circuit"] : List Str).length == 1) && (d_begun.ar == 1) && (d_begun.ns == (["circuit", "cell"] : List Str).length)) = true := by decide +kernel
theorem pd_begun : P "begun" = some d_begun := by simp [P]
abbrev sd_moved : Stmt := top 16
theorem cd_moved : (scB ["circuit", "state", "row", "whole", "found", "form", "cell"] ["circuit", "state", "row"] (defScope sd_moved) && ckD tab ["circuit", "state", "row", "whole", "found", "form", "cell"] 90 (defScope sd_moved) (defBody sd_moved) d_moved.body && ((["circuit", "state", "row"] : List Str).length == 3) && (d_moved.ar == 3) && (d_moved.ns == (["circuit", "state", "row", "whole", "found", "form", "cell"] : List Str).length)) = true := by decide +kernel
theorem pd_moved : P "moved" = some d_moved := by simp [P]
abbrev sd_gone : Stmt := top 17
theorem cd_gone : (scB ["circuit", "rows", "row", "state", "found", "step"] ["circuit", "rows"] (defScope sd_gone) && ckD tab ["circuit", "rows", "row", "state", "found", "step"] 90 (defScope sd_gone) (defBody sd_gone) d_gone.body && ((["circuit", "rows"] : List Str).length == 2) && (d_gone.ar == 2) && (d_gone.ns == (["circuit", "rows", "row", "state", "found", "step"] : List Str).length)) = true := by decide +kernel
theorem pd_gone : P "gone" = some d_gone := by simp [P]
abbrev sd__law_cell_at : Stmt := top 19
theorem cd__law_cell_at : (scB ["_law_script", "_law_k"] ["_law_script", "_law_k"] (defScope sd__law_cell_at) && ckD tab ["_law_script", "_law_k"] 90 (defScope sd__law_cell_at) (defBody sd__law_cell_at) d__law_cell_at.body && ((["_law_script", "_law_k"] : List Str).length == 2) && (d__law_cell_at.ar == 2) && (d__law_cell_at.ns == (["_law_script", "_law_k"] : List Str).length)) = true := by decide +kernel
theorem pd__law_cell_at : P "_law_cell_at" = some d__law_cell_at := by simp [P]
abbrev sd__law_mixed_v3 : Stmt := top 20
theorem cd__law_mixed_v3 : (scB ["_law_cell", "_law_k", "_law_number"] ["_law_cell", "_law_k"] (defScope sd__law_mixed_v3) && ckD tab ["_law_cell", "_law_k", "_law_number"] 90 (defScope sd__law_mixed_v3) (defBody sd__law_mixed_v3) d__law_mixed_v3.body && ((["_law_cell", "_law_k"] : List Str).length == 2) && (d__law_mixed_v3.ar == 2) && (d__law_mixed_v3.ns == (["_law_cell", "_law_k", "_law_number"] : List Str).length)) = true := by decide +kernel
theorem pd__law_mixed_v3 : P "_law_mixed_v3" = some d__law_mixed_v3 := by simp [P]
abbrev sd__law_row_v2 : Stmt := top 21
theorem cd__law_row_v2 : (scB ["_law_number", "_law_many", "_law_row_here", "_law_step"] ["_law_number", "_law_many"] (defScope sd__law_row_v2) && ckD tab ["_law_number", "_law_many", "_law_row_here", "_law_step"] 90 (defScope sd__law_row_v2) (defBody sd__law_row_v2) d__law_row_v2.body && ((["_law_number", "_law_many"] : List Str).length == 2) && (d__law_row_v2.ar == 2) && (d__law_row_v2.ns == (["_law_number", "_law_many", "_law_row_here", "_law_step"] : List Str).length)) = true := by decide +kernel
theorem pd__law_row_v2 : P "_law_row_v2" = some d__law_row_v2 := by simp [P]
abbrev sd__law_form : Stmt := top 22
theorem cd__law_form : (scB ["_law_cell", "_law_places", "_law_deep", "_law_kind", "_law_left", "_law_one"] ["_law_cell", "_law_places", "_law_deep"] (defScope sd__law_form) && ckD tab ["_law_cell", "_law_places", "_law_deep", "_law_kind", "_law_left", "_law_one"] 90 (defScope sd__law_form) (defBody sd__law_form) d__law_form.body && ((["_law_cell", "_law_places", "_law_deep"] : List Str).length == 3) && (d__law_form.ar == 3) && (d__law_form.ns == (["_law_cell", "_law_places", "_law_deep", "_law_kind", "_law_left", "_law_one"] : List Str).length)) = true := by decide +kernel
theorem pd__law_form : P "_law_form" = some d__law_form := by simp [P]
abbrev sd__law_value_v3 : Stmt := top 23
theorem cd__law_value_v3 : (scB ["_law_form_here", "_law_row_here", "_law_word", "_law_one", "_law_other"] ["_law_form_here", "_law_row_here"] (defScope sd__law_value_v3) && ckD tab ["_law_form_here", "_law_row_here", "_law_word", "_law_one", "_law_other"] 90 (defScope sd__law_value_v3) (defBody sd__law_value_v3) d__law_value_v3.body && ((["_law_form_here", "_law_row_here"] : List Str).length == 2) && (d__law_value_v3.ar == 2) && (d__law_value_v3.ns == (["_law_form_here", "_law_row_here", "_law_word", "_law_one", "_law_other"] : List Str).length)) = true := by decide +kernel
theorem pd__law_value_v3 : P "_law_value_v3" = some d__law_value_v3 := by simp [P]
abbrev sd__law_counting : Stmt := top 24
theorem cd__law_counting : (scB ["_law_many", "_law_size", "_law_k", "_law_carry", "_law_j"] ["_law_many", "_law_size", "_law_k"] (defScope sd__law_counting) && ckD tab ["_law_many", "_law_size", "_law_k", "_law_carry", "_law_j"] 90 (defScope sd__law_counting) (defBody sd__law_counting) d__law_counting.body && ((["_law_many", "_law_size", "_law_k"] : List Str).length == 3) && (d__law_counting.ar == 3) && (d__law_counting.ns == (["_law_many", "_law_size", "_law_k", "_law_carry", "_law_j"] : List Str).length)) = true := by decide +kernel
theorem pd__law_counting : P "_law_counting" = some d__law_counting := by simp [P]
abbrev sd__law_taller : Stmt := top 25
theorem cd__law_taller : (scB ["_law_form_here", "_law_many", "_law_places", "_law_k"] ["_law_form_here", "_law_many", "_law_places"] (defScope sd__law_taller) && ckD tab ["_law_form_here", "_law_many", "_law_places", "_law_k"] 90 (defScope sd__law_taller) (defBody sd__law_taller) d__law_taller.body && ((["_law_form_here", "_law_many", "_law_places"] : List Str).length == 3) && (d__law_taller.ar == 3) && (d__law_taller.ns == (["_law_form_here", "_law_many", "_law_places", "_law_k"] : List Str).length)) = true := by decide +kernel
theorem pd__law_taller : P "_law_taller" = some d__law_taller := by simp [P]
abbrev sd__law_circuit : Stmt := top 26
theorem cd__law_circuit : (scB ["_law_script", "_law_cell", "_law_many", "_law_size", "_law_deep", "_law_cells", "_law_k", "_law_outs", "_law_tall", "_law_left", "_law_form_here", "_law_first"] ["_law_script"] (defScope sd__law_circuit) && ckD tab ["_law_script", "_law_cell", "_law_many", "_law_size", "_law_deep", "_law_cells", "_law_k", "_law_outs", "_law_tall", "_law_left", "_law_form_here", "_law_first"] 90 (defScope sd__law_circuit) (defBody sd__law_circuit) d__law_circuit.body && ((["_law_script"] : List Str).length == 1) && (d__law_circuit.ar == 1) && (d__law_circuit.ns == (["_law_script", "_law_cell", "_law_many", "_law_size", "_law_deep", "_law_cells", "_law_k", "_law_outs", "_law_tall", "_law_left", "_law_form_here", "_law_first"] : List Str).length)) = true := by decide +kernel
theorem pd__law_circuit : P "_law_circuit" = some d__law_circuit := by simp [P]
abbrev sd__law_moved : Stmt := top 27
theorem cd__law_moved : (scB ["_law_circuit_here", "_law_state", "_law_row_here", "_law_whole", "_law_found", "_law_form_here", "_law_cell"] ["_law_circuit_here", "_law_state", "_law_row_here"] (defScope sd__law_moved) && ckD tab ["_law_circuit_here", "_law_state", "_law_row_here", "_law_whole", "_law_found", "_law_form_here", "_law_cell"] 90 (defScope sd__law_moved) (defBody sd__law_moved) d__law_moved.body && ((["_law_circuit_here", "_law_state", "_law_row_here"] : List Str).length == 3) && (d__law_moved.ar == 3) && (d__law_moved.ns == (["_law_circuit_here", "_law_state", "_law_row_here", "_law_whole", "_law_found", "_law_form_here", "_law_cell"] : List Str).length)) = true := by decide +kernel
theorem pd__law_moved : P "_law_moved" = some d__law_moved := by simp [P]
abbrev sd__law_played : Stmt := top 28
theorem cd__law_played : (scB ["_law_script", "_law_at", "_law_many", "_law_rows", "_law_cell", "_law_count", "_law_k"] ["_law_script", "_law_at", "_law_many"] (defScope sd__law_played) && ckD tab ["_law_script", "_law_at", "_law_many", "_law_rows", "_law_cell", "_law_count", "_law_k"] 90 (defScope sd__law_played) (defBody sd__law_played) d__law_played.body && ((["_law_script", "_law_at", "_law_many"] : List Str).length == 3) && (d__law_played.ar == 3) && (d__law_played.ns == (["_law_script", "_law_at", "_law_many", "_law_rows", "_law_cell", "_law_count", "_law_k"] : List Str).length)) = true := by decide +kernel
theorem pd__law_played : P "_law_played" = some d__law_played := by simp [P]
abbrev sd__law_gone : Stmt := top 29
theorem cd__law_gone : (scB ["_law_circuit_here", "_law_rows", "_law_state", "_law_found", "_law_row_here", "_law_step", "_law_cell"] ["_law_circuit_here", "_law_rows"] (defScope sd__law_gone) && ckD tab ["_law_circuit_here", "_law_rows", "_law_state", "_law_found", "_law_row_here", "_law_step", "_law_cell"] 90 (defScope sd__law_gone) (defBody sd__law_gone) d__law_gone.body && ((["_law_circuit_here", "_law_rows"] : List Str).length == 2) && (d__law_gone.ar == 2) && (d__law_gone.ns == (["_law_circuit_here", "_law_rows", "_law_state", "_law_found", "_law_row_here", "_law_step", "_law_cell"] : List Str).length)) = true := by decide +kernel
theorem pd__law_gone : P "_law_gone" = some d__law_gone := by simp [P]
abbrev sd_law_v40 : Stmt := top 30
theorem cd_law_v40 : (scB ["_law_script", "_law_circuit_here", "_law_rows", "_law_others", "_law_handed", "_law_found", "_law_due"] ["_law_script"] (defScope sd_law_v40) && ckD tab ["_law_script", "_law_circuit_here", "_law_rows", "_law_others", "_law_handed", "_law_found", "_law_due"] 90 (defScope sd_law_v40) (defBody sd_law_v40) d_law_v40.body && ((["_law_script"] : List Str).length == 1) && (d_law_v40.ar == 1) && (d_law_v40.ns == (["_law_script", "_law_circuit_here", "_law_rows", "_law_others", "_law_handed", "_law_found", "_law_due"] : List Str).length)) = true := by decide +kernel
theorem pd_law_v40 : P "law_v40" = some d_law_v40 := by simp [P]
def hd0 : He.DefD := ⟨("truth_of", none), "truth_of", "truth_of", defArgs sd_truth_of, defBody sd_truth_of, defScope sd_truth_of, [], []⟩
def hd1 : He.DefD := ⟨("places_below", none), "places_below", "places_below", defArgs sd_places_below, defBody sd_places_below, defScope sd_places_below, [], []⟩
def hd2 : He.DefD := ⟨("places_in", none), "places_in", "places_in", defArgs sd_places_in, defBody sd_places_in, defScope sd_places_in, [], []⟩
def hd3 : He.DefD := ⟨("need_places_forms", none), "need_places", "need_places", defArgs sd_need_places, defBody sd_need_places, defScope sd_need_places, [], []⟩
def hd4 : He.DefD := ⟨("value", none), "value", "value", defArgs sd_value, defBody sd_value, defScope sd_value, [], []⟩
def hd5 : He.DefD := ⟨("need_places_wires", none), "need_places", "need_places", defArgs sd_need_places_v3, defBody sd_need_places_v3, defScope sd_need_places_v3, [], []⟩
def hd6 : He.DefD := ⟨("need_size", none), "need_size", "need_size", defArgs sd_need_size, defBody sd_need_size, defScope sd_need_size, [], []⟩
def hd7 : He.DefD := ⟨("begun", none), "begun", "begun", defArgs sd_begun, defBody sd_begun, defScope sd_begun, [], []⟩
def hd8 : He.DefD := ⟨("moved", none), "moved", "moved", defArgs sd_moved, defBody sd_moved, defScope sd_moved, [], []⟩
def hd9 : He.DefD := ⟨("gone", none), "gone", "gone", defArgs sd_gone, defBody sd_gone, defScope sd_gone, [], []⟩
def hd10 : He.DefD := ⟨("_law_cell_at", none), "_law_cell_at", "_law_cell_at", defArgs sd__law_cell_at, defBody sd__law_cell_at, defScope sd__law_cell_at, [], []⟩
def hd11 : He.DefD := ⟨("_law_mixed", none), "_law_mixed", "_law_mixed", defArgs sd__law_mixed_v3, defBody sd__law_mixed_v3, defScope sd__law_mixed_v3, [], []⟩
def hd12 : He.DefD := ⟨("_law_row", none), "_law_row", "_law_row", defArgs sd__law_row_v2, defBody sd__law_row_v2, defScope sd__law_row_v2, [], []⟩
def hd13 : He.DefD := ⟨("_law_form", none), "_law_form", "_law_form", defArgs sd__law_form, defBody sd__law_form, defScope sd__law_form, [], []⟩
def hd14 : He.DefD := ⟨("_law_value", none), "_law_value", "_law_value", defArgs sd__law_value_v3, defBody sd__law_value_v3, defScope sd__law_value_v3, [], []⟩
def hd15 : He.DefD := ⟨("_law_counting", none), "_law_counting", "_law_counting", defArgs sd__law_counting, defBody sd__law_counting, defScope sd__law_counting, [], []⟩
def hd16 : He.DefD := ⟨("_law_taller", none), "_law_taller", "_law_taller", defArgs sd__law_taller, defBody sd__law_taller, defScope sd__law_taller, [], []⟩
def hd17 : He.DefD := ⟨("_law_circuit", none), "_law_circuit", "_law_circuit", defArgs sd__law_circuit, defBody sd__law_circuit, defScope sd__law_circuit, [], []⟩
def hd18 : He.DefD := ⟨("_law_moved", none), "_law_moved", "_law_moved", defArgs sd__law_moved, defBody sd__law_moved, defScope sd__law_moved, [], []⟩
def hd19 : He.DefD := ⟨("_law_played", none), "_law_played", "_law_played", defArgs sd__law_played, defBody sd__law_played, defScope sd__law_played, [], []⟩
def hd20 : He.DefD := ⟨("_law_gone", none), "_law_gone", "_law_gone", defArgs sd__law_gone, defBody sd__law_gone, defScope sd__law_gone, [], []⟩
def hd21 : He.DefD := ⟨("law", none), "law", "law", defArgs sd_law_v40, defBody sd_law_v40, defScope sd_law_v40, [], []⟩
def hfn : List He.DefD := [hd0, hd1, hd2, hd3, hd4, hd5, hd6, hd7, hd8, hd9, hd10, hd11, hd12, hd13, hd14, hd15, hd16, hd17, hd18, hd19, hd20, hd21]
def hfa : List He.Fa := [.glo "truth_of", .glo "places_below", .glo "places_in", .glo "need_places_forms", .glo "value", .glo "need_places_wires", .glo "need_size", .glo "begun", .glo "moved", .glo "gone", .glo "_law_cell_at", .glo "_law_mixed", .glo "_law_row", .glo "_law_form", .glo "_law_value", .glo "_law_counting", .glo "_law_taller", .glo "_law_circuit", .glo "_law_moved", .glo "_law_played", .glo "_law_gone", .glo "law", .free "len", .free "list", .free "range", .free "repr", .free "set", .free "sorted", .free "tuple", .glo "CircuitError", .glo "NoPlace", .glo "UnlikeSizes"]
abbrev R : PySem.W.OpenRow := PySem.W.OpenLaw.row PySem.Challenge.rw_circuits_k42_gone
def hpx : PySem.W.Frag → Bool := pxK tab.excs
abbrev hk : PySem.W.Hook := hookQ 4 hfa hfn hpx
def ob (s : PySem.W.SharedT) : AlQ := obsQ 4 hfa hfn hpx (HandSHeadRun.getT s)
theorem ob_eq (s : PySem.W.SharedT) : ob s = hk.obs s.abs := obsQ_eq (HandSHeadRun.getT_eq s)
def loose : List Str := (["__name__", "CircuitError", "NoPlace", "UnlikeSizes", "truth_of", "places_below", "places_in", "need_places", "need_places_forms", "value", "need_places_wires", "need_size", "begun", "moved", "gone", "_law_cell_at", "_law_mixed", "_law_row", "_law_form", "_law_value", "_law_counting", "_law_taller", "_law_circuit", "_law_moved", "_law_played", "_law_gone"] : List Str)
theorem run (w : World) : HandSHeadRun.RunEq R (PySem.W.view R.prog [30]) hk ob 6000 loose w := by
  intro os
  kernel_rfl
theorem facts {l : PySem.W.OpenLaw} {w : World} {K : PySem.W.Frag} {h : Heap} {mg : Str → Option Value} {fa : Addr} (X : K.In h) (G : h.Ns mainGlobals mg) (hfa' : mg ("law" : Str) = some (.ref fa)) (hT : LawTrue P "law_v40" 100) (cq : SaysQ hfa hfn hpx K)
    : ∃ fd : FuncData, (∀ (s : Shared) (v : Value), BindsTo s fd ⟨[v], []⟩ [("_law_script", v)]) ∧ ∀ base : Heap, K.In base → base.Ns mainGlobals mg → FnG l.prog w K mg base 100 fa fd ["_law_script"] (spLaw K) := by
  obtain ⟨c, cx⟩ := cq
  have e := hfa'.symm.trans (He.glo_ok X G (c.fact 21 (f := .glo "law") rfl))
  cases e
  obtain ⟨fd0, G0⟩ := c.def_ 0 (d := hd0) rfl
  have F0 := fun_of (st := sd_truth_of) G0
  have b0 := F0.binds (ps := ["form", "row"]) fun _ _ _ _ _ _ us hl => match us, hl with | [_, _], _ => rfl
  have D0 : DefAt K P tab "truth_of" 2 _ _ _ := ⟨_, _, _, _, _, F0, b0, pd_truth_of, cd_truth_of⟩
  obtain ⟨fd1, G1⟩ := c.def_ 1 (d := hd1) rfl
  have F1 := fun_of (st := sd_places_below) G1
  have b1 := F1.binds (ps := ["form"]) fun _ _ _ _ _ _ us hl => match us, hl with | [_], _ => rfl
  have D1 : DefAt K P tab "places_below" 1 _ _ _ := ⟨_, _, _, _, _, F1, b1, pd_places_below, cd_places_below⟩
  obtain ⟨fd2, G2⟩ := c.def_ 2 (d := hd2) rfl
  have F2 := fun_of (st := sd_places_in) G2
  have b2 := F2.binds (ps := ["form"]) fun _ _ _ _ _ _ us hl => match us, hl with | [_], _ => rfl
  have D2 : DefAt K P tab "places_in" 1 _ _ _ := ⟨_, _, _, _, _, F2, b2, pd_places_in, cd_places_in⟩
  obtain ⟨fd3, G3⟩ := c.def_ 3 (d := hd3) rfl
  have F3 := fun_of (st := sd_need_places) G3
  have b3 := F3.binds (ps := ["form", "many"]) fun _ _ _ _ _ _ us hl => match us, hl with | [_, _], _ => rfl
  have D3 : DefAt K P tab "need_places" 2 _ _ _ := ⟨_, _, _, _, _, F3, b3, pd_need_places, cd_need_places⟩
  obtain ⟨fd4, G4⟩ := c.def_ 4 (d := hd4) rfl
  have F4 := fun_of (st := sd_value) G4
  have b4 := F4.binds (ps := ["form", "row"]) fun _ _ _ _ _ _ us hl => match us, hl with | [_, _], _ => rfl
  have D4 : DefAt K P tab "value" 2 _ _ _ := ⟨_, _, _, _, _, F4, b4, pd_value, cd_value⟩
  obtain ⟨fd5, G5⟩ := c.def_ 5 (d := hd5) rfl
  have F5 := fun_of (st := sd_need_places_v3) G5
  have b5 := F5.binds (ps := ["circuit"]) fun _ _ _ _ _ _ us hl => match us, hl with | [_], _ => rfl
  have D5 : DefAt K P tab "need_places_v3" 1 _ _ _ := ⟨_, _, _, _, _, F5, b5, pd_need_places_v3, cd_need_places_v3⟩
  obtain ⟨fd6, G6⟩ := c.def_ 6 (d := hd6) rfl
  have F6 := fun_of (st := sd_need_size) G6
  have b6 := F6.binds (ps := ["row", "many"]) fun _ _ _ _ _ _ us hl => match us, hl with | [_, _], _ => rfl
  have D6 : DefAt K P tab "need_size" 2 _ _ _ := ⟨_, _, _, _, _, F6, b6, pd_need_size, cd_need_size⟩
  obtain ⟨fd7, G7⟩ := c.def_ 7 (d := hd7) rfl
  have F7 := fun_of (st := sd_begun) G7
  have b7 := F7.binds (ps := ["circuit"]) fun _ _ _ _ _ _ us hl => match us, hl with | [_], _ => rfl
  have D7 : DefAt K P tab "begun" 1 _ _ _ := ⟨_, _, _, _, _, F7, b7, pd_begun, cd_begun⟩
  obtain ⟨fd8, G8⟩ := c.def_ 8 (d := hd8) rfl
  have F8 := fun_of (st := sd_moved) G8
  have b8 := F8.binds (ps := ["circuit", "state", "row"]) fun _ _ _ _ _ _ us hl => match us, hl with | [_, _, _], _ => rfl
  have D8 : DefAt K P tab "moved" 3 _ _ _ := ⟨_, _, _, _, _, F8, b8, pd_moved, cd_moved⟩
  obtain ⟨fd9, G9⟩ := c.def_ 9 (d := hd9) rfl
  have F9 := fun_of (st := sd_gone) G9
  have b9 := F9.binds (ps := ["circuit", "rows"]) fun _ _ _ _ _ _ us hl => match us, hl with | [_, _], _ => rfl
  have D9 : DefAt K P tab "gone" 2 _ _ _ := ⟨_, _, _, _, _, F9, b9, pd_gone, cd_gone⟩
  obtain ⟨fd10, G10⟩ := c.def_ 10 (d := hd10) rfl
  have F10 := fun_of (st := sd__law_cell_at) G10
  have b10 := F10.binds (ps := ["_law_script", "_law_k"]) fun _ _ _ _ _ _ us hl => match us, hl with | [_, _], _ => rfl
  have D10 : DefAt K P tab "_law_cell_at" 2 _ _ _ := ⟨_, _, _, _, _, F10, b10, pd__law_cell_at, cd__law_cell_at⟩
  obtain ⟨fd11, G11⟩ := c.def_ 11 (d := hd11) rfl
  have F11 := fun_of (st := sd__law_mixed_v3) G11
  have b11 := F11.binds (ps := ["_law_cell", "_law_k"]) fun _ _ _ _ _ _ us hl => match us, hl with | [_, _], _ => rfl
  have D11 : DefAt K P tab "_law_mixed_v3" 2 _ _ _ := ⟨_, _, _, _, _, F11, b11, pd__law_mixed_v3, cd__law_mixed_v3⟩
  obtain ⟨fd12, G12⟩ := c.def_ 12 (d := hd12) rfl
  have F12 := fun_of (st := sd__law_row_v2) G12
  have b12 := F12.binds (ps := ["_law_number", "_law_many"]) fun _ _ _ _ _ _ us hl => match us, hl with | [_, _], _ => rfl
  have D12 : DefAt K P tab "_law_row_v2" 2 _ _ _ := ⟨_, _, _, _, _, F12, b12, pd__law_row_v2, cd__law_row_v2⟩
  obtain ⟨fd13, G13⟩ := c.def_ 13 (d := hd13) rfl
  have F13 := fun_of (st := sd__law_form) G13
  have b13 := F13.binds (ps := ["_law_cell", "_law_places", "_law_deep"]) fun _ _ _ _ _ _ us hl => match us, hl with | [_, _, _], _ => rfl
  have D13 : DefAt K P tab "_law_form" 3 _ _ _ := ⟨_, _, _, _, _, F13, b13, pd__law_form, cd__law_form⟩
  obtain ⟨fd14, G14⟩ := c.def_ 14 (d := hd14) rfl
  have F14 := fun_of (st := sd__law_value_v3) G14
  have b14 := F14.binds (ps := ["_law_form_here", "_law_row_here"]) fun _ _ _ _ _ _ us hl => match us, hl with | [_, _], _ => rfl
  have D14 : DefAt K P tab "_law_value_v3" 2 _ _ _ := ⟨_, _, _, _, _, F14, b14, pd__law_value_v3, cd__law_value_v3⟩
  obtain ⟨fd15, G15⟩ := c.def_ 15 (d := hd15) rfl
  have F15 := fun_of (st := sd__law_counting) G15
  have b15 := F15.binds (ps := ["_law_many", "_law_size", "_law_k"]) fun _ _ _ _ _ _ us hl => match us, hl with | [_, _, _], _ => rfl
  have D15 : DefAt K P tab "_law_counting" 3 _ _ _ := ⟨_, _, _, _, _, F15, b15, pd__law_counting, cd__law_counting⟩
  obtain ⟨fd16, G16⟩ := c.def_ 16 (d := hd16) rfl
  have F16 := fun_of (st := sd__law_taller) G16
  have b16 := F16.binds (ps := ["_law_form_here", "_law_many", "_law_places"]) fun _ _ _ _ _ _ us hl => match us, hl with | [_, _, _], _ => rfl
  have D16 : DefAt K P tab "_law_taller" 3 _ _ _ := ⟨_, _, _, _, _, F16, b16, pd__law_taller, cd__law_taller⟩
  obtain ⟨fd17, G17⟩ := c.def_ 17 (d := hd17) rfl
  have F17 := fun_of (st := sd__law_circuit) G17
  have b17 := F17.binds (ps := ["_law_script"]) fun _ _ _ _ _ _ us hl => match us, hl with | [_], _ => rfl
  have D17 : DefAt K P tab "_law_circuit" 1 _ _ _ := ⟨_, _, _, _, _, F17, b17, pd__law_circuit, cd__law_circuit⟩
  obtain ⟨fd18, G18⟩ := c.def_ 18 (d := hd18) rfl
  have F18 := fun_of (st := sd__law_moved) G18
  have b18 := F18.binds (ps := ["_law_circuit_here", "_law_state", "_law_row_here"]) fun _ _ _ _ _ _ us hl => match us, hl with | [_, _, _], _ => rfl
  have D18 : DefAt K P tab "_law_moved" 3 _ _ _ := ⟨_, _, _, _, _, F18, b18, pd__law_moved, cd__law_moved⟩
  obtain ⟨fd19, G19⟩ := c.def_ 19 (d := hd19) rfl
  have F19 := fun_of (st := sd__law_played) G19
  have b19 := F19.binds (ps := ["_law_script", "_law_at", "_law_many"]) fun _ _ _ _ _ _ us hl => match us, hl with | [_, _, _], _ => rfl
  have D19 : DefAt K P tab "_law_played" 3 _ _ _ := ⟨_, _, _, _, _, F19, b19, pd__law_played, cd__law_played⟩
  obtain ⟨fd20, G20⟩ := c.def_ 20 (d := hd20) rfl
  have F20 := fun_of (st := sd__law_gone) G20
  have b20 := F20.binds (ps := ["_law_circuit_here", "_law_rows"]) fun _ _ _ _ _ _ us hl => match us, hl with | [_, _], _ => rfl
  have D20 : DefAt K P tab "_law_gone" 2 _ _ _ := ⟨_, _, _, _, _, F20, b20, pd__law_gone, cd__law_gone⟩
  obtain ⟨fd21, G21⟩ := c.def_ 21 (d := hd21) rfl
  have F21 := fun_of (st := sd_law_v40) G21
  have b21 := F21.binds (ps := ["_law_script"]) fun _ _ _ _ _ _ us hl => match us, hl with | [_], _ => rfl
  have D21 : DefAt K P tab "law_v40" 1 _ _ _ := ⟨_, _, _, _, _, F21, b21, pd_law_v40, cd_law_v40⟩
  have hF : ∀ p ∈ tab.fns, DefOk K mg P tab p.1 p.2.1 p.2.2 := by
    intro p hp
    simp only [tab, List.mem_cons, List.not_mem_nil, or_false] at hp
    rcases hp with rfl | rfl | rfl | rfl | rfl | rfl | rfl | rfl | rfl | rfl | rfl | rfl | rfl | rfl | rfl | rfl | rfl | rfl | rfl | rfl | rfl
    · exact ⟨_, _, _, He.glo_ok X G (c.fact 10 (f := .glo "_law_cell_at") rfl), D10⟩
    · exact ⟨_, _, _, He.glo_ok X G (c.fact 17 (f := .glo "_law_circuit") rfl), D17⟩
    · exact ⟨_, _, _, He.glo_ok X G (c.fact 15 (f := .glo "_law_counting") rfl), D15⟩
    · exact ⟨_, _, _, He.glo_ok X G (c.fact 13 (f := .glo "_law_form") rfl), D13⟩
    · exact ⟨_, _, _, He.glo_ok X G (c.fact 20 (f := .glo "_law_gone") rfl), D20⟩
    · exact ⟨_, _, _, He.glo_ok X G (c.fact 11 (f := .glo "_law_mixed") rfl), D11⟩
    · exact ⟨_, _, _, He.glo_ok X G (c.fact 18 (f := .glo "_law_moved") rfl), D18⟩
    · exact ⟨_, _, _, He.glo_ok X G (c.fact 19 (f := .glo "_law_played") rfl), D19⟩
    · exact ⟨_, _, _, He.glo_ok X G (c.fact 12 (f := .glo "_law_row") rfl), D12⟩
    · exact ⟨_, _, _, He.glo_ok X G (c.fact 16 (f := .glo "_law_taller") rfl), D16⟩
    · exact ⟨_, _, _, He.glo_ok X G (c.fact 14 (f := .glo "_law_value") rfl), D14⟩
    · exact ⟨_, _, _, He.glo_ok X G (c.fact 7 (f := .glo "begun") rfl), D7⟩
    · exact ⟨_, _, _, He.glo_ok X G (c.fact 9 (f := .glo "gone") rfl), D9⟩
    · exact ⟨_, _, _, He.glo_ok X G (c.fact 8 (f := .glo "moved") rfl), D8⟩
    · exact ⟨_, _, _, He.glo_ok X G (c.fact 3 (f := .glo "need_places_forms") rfl), D3⟩
    · exact ⟨_, _, _, He.glo_ok X G (c.fact 5 (f := .glo "need_places_wires") rfl), D5⟩
    · exact ⟨_, _, _, He.glo_ok X G (c.fact 6 (f := .glo "need_size") rfl), D6⟩
    · exact ⟨_, _, _, He.glo_ok X G (c.fact 1 (f := .glo "places_below") rfl), D1⟩
    · exact ⟨_, _, _, He.glo_ok X G (c.fact 2 (f := .glo "places_in") rfl), D2⟩
    · exact ⟨_, _, _, He.glo_ok X G (c.fact 0 (f := .glo "truth_of") rfl), D0⟩
    · exact ⟨_, _, _, He.glo_ok X G (c.fact 4 (f := .glo "value") rfl), D4⟩
  have hH : ∀ p ∈ tab.hfns, DefOkH K mg P tab p.1 p.2.1 p.2.2 := by
    intro p hp
    simp only [tab, List.mem_cons, List.not_mem_nil, or_false] at hp
  have hM : ∀ p ∈ tab.excs, mg p.1 = some (.ref (He.ga K p.1)) := by
    intro p hp
    simp only [tab, List.mem_cons, List.not_mem_nil, or_false] at hp
    rcases hp with rfl | rfl | rfl
    · exact He.glo_ok X G (c.fact 29 (f := .glo "CircuitError") rfl)
    · exact He.glo_ok X G (c.fact 30 (f := .glo "NoPlace") rfl)
    · exact He.glo_ok X G (c.fact 31 (f := .glo "UnlikeSizes") rfl)
  have hB : ∀ x ∈ tab.blts, mg x = none := by
    intro x hx
    simp only [tab, List.mem_cons, List.not_mem_nil, or_false] at hx
    rcases hx with rfl | rfl | rfl | rfl | rfl | rfl | rfl
    · exact He.free_ok X G (c.fact 22 (f := .free "len") rfl)
    · exact He.free_ok X G (c.fact 23 (f := .free "list") rfl)
    · exact He.free_ok X G (c.fact 24 (f := .free "range") rfl)
    · exact He.free_ok X G (c.fact 25 (f := .free "repr") rfl)
    · exact He.free_ok X G (c.fact 26 (f := .free "set") rfl)
    · exact He.free_ok X G (c.fact 27 (f := .free "sorted") rfl)
    · exact He.free_ok X G (c.fact 28 (f := .free "tuple") rfl)
  have hC : ∀ p ∈ tab.consts, ∃ u v, mg p.1 = some u ∧ RelV v u ∧ ∀ μ H, RV ⟨K, w, l.prog, none, exA tab.excs K⟩ μ H p.2 v := by
    intro p hp
    cases hp
  have h0 : (("CircuitError" : Str), 0) ∈ tab.excs := by decide
  have hE : ∀ p ∈ tab.excs, ExcF K mg (exA tab.excs K) p.1 p.2 := px_ec cx h0 (by decide +kernel) hM
  have hG : tab.excs ≠ [] → ExcG K (exA tab.excs K) := fun _ => px_eg cx h0
  have F : TopF w l.prog K mg (exA tab.excs K) P tab := ⟨hF, hH, hC, hB, hE, hG, rfl, rfl⟩
  have bL := FunD.bindsA (ps := ["_law_script"]) G21 fun _ _ _ _ _ _ us hl => match us, hl with | [_], _ => rfl
  exact ⟨_, fun s v => bL s [v] rfl, fun base _ _ => law_fn (ex := exA tab.excs K) D21 F hT⟩
theorem law_true : MIS.LawTrue P "law_v40" 100 := fun ns hl _ => law_vi orc_ok 100 "law_v40" rfl ns (law_ok ns hl 0)

end Law
open PySem PySem.W PySem.Calls PyProof.Rows
set_option maxRecDepth 100000 in
set_option maxHeartbeats 0 in
theorem PySem.Challenge.cw_circuits_k42_gone_holds : PySem.Challenge.rw_circuits_k42_gone.Holds := by
  w_on; o_law
  refine HandSHeadRun.head_any (r := OpenLaw.row PySem.Challenge.rw_circuits_k42_gone) (q := view (OpenLaw.row PySem.Challenge.rw_circuits_k42_gone).prog [30]) (H := Law.hk) (ob := Law.ob) (M := 6000) (loose := Law.loose) (d := HandSHeadRun.topDef (OpenLaw.row PySem.Challenge.rw_circuits_k42_gone).prog 30) (kwd := []) Law.ob_eq
    (by kernel_rfl) (fun s => by kernel_rfl) Law.run (by kernel_rfl) (by kernel_rfl) (by kernel_rfl) (by rfl) (by first | assumption | decide +kernel) (by decide +kernel) ⟨rfl, rfl, rfl, rfl, rfl, by decide +kernel⟩ ?hw ?hc
  case hw => w_witness2
  case hc =>
    refine MIS.walk_lawE (l := PySem.Challenge.rw_circuits_k42_gone) (Says := MIS.SaysQ Law.hfa Law.hfn Law.hpx) (k := 100) (x := "_law_script") rfl (by kernel_rfl) ⟨rfl, by decide, by decide⟩ ?F
    intro w mg fa h K KX G hmg0 c
    have hmg : mg ("law" : PySem.Str) = some (.ref fa) := by
      have e : (HandSHeadRun.topDef (OpenLaw.row PySem.Challenge.rw_circuits_k42_gone).prog 30).name = ("law" : PySem.Str) := by kernel_rfl
      rw [← e]
      exact hmg0
    exact Law.facts KX G hmg Law.law_true c
