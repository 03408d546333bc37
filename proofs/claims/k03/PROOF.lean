import PyProof.Rows.All
import Wide.All
import OpenK.AllK
import Wide.FinOn
import HandS.ForMost
import HandS.Walk
import HandS.Wide
import HandS.WideBits
import HandS.Flow
import HandS.Deep
import HandS.Style
import HandS.Zip
import HandS.TupAny
import HandS.Defaults
import HandS.FStr
import HandS.RaiseMore
import HandS.IsInst
import HandS.More
import KE.SortData
import KE.GoesEnum
import HandS.HeadHook1
import KE.KIsAll
import PySem.PyData
import HandS.TupMul
import HandS.Text
import PyProof.StrOps2
import KE.DataCmp
import PyProof.P3In
import KE.KDictList
import PyProof.StrWalks
import HandS.Dict
import PyProof.ReprRoads
import KE.DataMinMax
import KE.GoesMore
import KE.GoesEnumKw
import KE.GoesZip
import HandS.DictSubView0
import HandS.WideMore
import HandS.Conv
import HandS.SetFor
import HandS.Strs
import HandS.Codes
import PyProof.EqAt
import PyProof.NeKinds
import HandS.StrMore
import HandS.SortKw
import PyProof.WalkInts
import PyProof.MinMaxWalk
import PyProof.StrLawsTight
import PyProof.StrLawsChain
import PyProof.Rows.StrFirst
import PyProof.Rows.StrLawsPart
import PyProof.Rows.StrItems
import HandS.HeadEnd
import HandS.HeadHook2
import KE.KStateDown
import HandS.Head0
import HandS.Head1
import HandS.Head2
import PyProof.ReprLen
import PySem.Challenge.RW_takesworks_k03_what_days_may_be
set_option Elab.async false
section
set_option linter.all false
set_option autoImplicit false
/-! Values of the layer: pure data, and numbers of shared objects. -/
namespace Tw
open PySem

abbrev SZ : Nat := 16777216

/-- the codes of a written text -/
def cd (s : String) : List Nat := s.toList.map Char.toNat

inductive D where
  | non
  | bl (b : Bool)
  | int (i : Int)
  | str (s : List Nat)
  | tup (ds : List D)
  | lst (ds : List D)
  /-- a dict that never changes: its keys, its values -/
  | dct (ks vs : List D)
  | set (ds : List D)
  /-- a written list that is looked at alone: its length, its items -/
  | scr (ds : List D)
  /-- an instance that never changes -/
  | obj (c : String) (fs : List String) (vs : List D)
  /-- a shared object by its number -/
  | ref (i : Nat)
  /-- a class or a def -/
  | glo (x : String)
  deriving Inhabited

inductive Ob where
  | lst (ds : List D)
  | dct (ks vs : List D)
  | ins (c : String) (fs : List String) (vs : List D)
  deriving Inhabited

/-! ### plain data -/
mutual
def plain : D → Bool
  | .non => true
  | .bl _ => true
  | .int _ => true
  | .str _ => true
  | .tup ds => plains ds
  | .lst ds => plains ds
  | .dct _ _ => false
  | .set _ => false
  | .obj _ _ _ => false
  | .ref _ => false
  | .glo _ => false
  | .scr _ => false
def plains : List D → Bool
  | [] => true
  | d :: ds => plain d && plains ds
end

/-- a text that fits -/
def strOk (s : List Nat) : Bool := decide (s.length ≤ SZ) && s.all fun c => decide (c < 1114112)

/-! ### what refers below n -/
mutual
def below (n : Nat) : D → Bool
  | .ref i => decide (i < n)
  | .tup ds => belows n ds
  | .lst ds => belows n ds
  | .dct ks vs => belows n ks && belows n vs
  | .set ds => belows n ds
  | .obj _ _ ds => belows n ds
  | .scr ds => belows n ds
  | .non => true
  | .bl _ => true
  | .int _ => true
  | .str _ => true
  | .glo _ => true
def belows (n : Nat) : List D → Bool
  | [] => true
  | d :: ds => below n d && belows n ds
end
def Ob.items : Ob → List D
  | .lst ds => ds
  | .dct ks vs => ks ++ vs
  | .ins _ _ vs => vs
def belowO (n : Nat) (o : Ob) : Bool := belows n o.items

/-! ### the very same -/
mutual
def sameD : D → D → Bool
  | .non, y => (match y with | .non => true | _ => false)
  | .bl a, y => (match y with | .bl b => a == b | _ => false)
  | .int i, y => (match y with | .int j => i == j | _ => false)
  | .str x, y => (match y with | .str z => x == z | _ => false)
  | .tup xs, y => (match y with | .tup ys => sameDs xs ys | _ => false)
  | .lst xs, y => (match y with | .lst ys => sameDs xs ys | _ => false)
  | .dct xs us, y => (match y with | .dct ys ws => sameDs xs ys && sameDs us ws | _ => false)
  | .set xs, y => (match y with | .set ys => sameDs xs ys | _ => false)
  | .scr xs, y => (match y with | .scr ys => sameDs xs ys | _ => false)
  | .obj c fs vs, y => (match y with | .obj c' fs' vs' => c == c' && (fs == fs' && sameDs vs vs') | _ => false)
  | .ref i, y => (match y with | .ref j => i == j | _ => false)
  | .glo i, y => (match y with | .glo j => i == j | _ => false)
def sameDs : List D → List D → Bool
  | [], ys => (match ys with | [] => true | _ :: _ => false)
  | x :: xs, ys => (match ys with | y :: ys => sameD x y && sameDs xs ys | [] => false)
end

/-! ### == -/
mutual
def eqD : D → D → Bool
  | .non, y => (match y with | .non => true | _ => false)
  | .bl a, y => (match y with | .bl b => a == b | .int j => (if a then 1 else 0) == j | _ => false)
  | .int i, y => (match y with | .int j => i == j | .bl b => i == (if b then 1 else 0) | _ => false)
  | .str x, y => (match y with | .str z => x == z | _ => false)
  | .tup xs, y => (match y with | .tup ys => eqDs xs ys | _ => false)
  | .lst xs, y => (match y with | .lst ys => eqDs xs ys | _ => false)
  | .obj c fs vs, y => (match y with | .obj c' fs' vs' => c == c' && (fs == fs' && eqDs vs vs') | _ => false)
  | .dct _ _, _ => false
  | .set _, _ => false
  | .ref _, _ => false
  | .glo _, _ => false
  | .scr _, _ => false
def eqDs : List D → List D → Bool
  | [], ys => (match ys with | [] => true | _ :: _ => false)
  | x :: xs, ys => (match ys with | y :: ys => eqD x y && eqDs xs ys | [] => false)
end

/-! ### < -/
mutual
def ltD : D → D → Bool
  | .bl a, y => (match y with | .bl b => !a && b | _ => false)
  | .int i, y => (match y with | .int j => decide (i < j) | _ => false)
  | .str x, y => (match y with | .str z => decide (x < z) | _ => false)
  | .tup xs, y => (match y with | .tup ys => ltDs xs ys | _ => false)
  | .lst xs, y => (match y with | .lst ys => ltDs xs ys | _ => false)
  | .non, _ => false
  | .obj _ _ _, _ => false
  | .dct _ _, _ => false
  | .set _, _ => false
  | .ref _, _ => false
  | .glo _, _ => false
  | .scr _, _ => false
def ltDs : List D → List D → Bool
  | [], ys => (match ys with | [] => false | _ :: _ => true)
  | x :: xs, ys => (match ys with | y :: ys => if eqD x y then ltDs xs ys else ltD x y | [] => false)
end
/-! data of one shape, so that < tells -/
mutual
def alikeD : D → D → Bool
  | .non, y => (match y with | .non => true | _ => false)
  | .bl _, y => (match y with | .bl _ => true | _ => false)
  | .int _, y => (match y with | .int _ => true | _ => false)
  | .str _, y => (match y with | .str _ => true | _ => false)
  | .tup xs, y => (match y with | .tup ys => alikeDs xs ys | _ => false)
  | .lst xs, y => (match y with | .lst ys => alikeDs xs ys | _ => false)
  | .obj _ _ _, _ => false
  | .dct _ _, _ => false
  | .set _, _ => false
  | .ref _, _ => false
  | .glo _, _ => false
  | .scr _, _ => false
def alikeDs : List D → List D → Bool
  | [], _ => true
  | x :: xs, ys => (match ys with | y :: ys => alikeD x y && alikeDs xs ys | [] => true)
end
def alikeAllD (ds : List D) : Bool := ds.all fun x => ds.all fun y => alikeD x y
def leD (a b : D) : Bool := !ltD b a

/-! ### numbers as texts, data as texts -/
mutual
def depthD : D → Nat
  | .tup ds => depthDs ds + 1
  | .lst ds => depthDs ds + 1
  | .dct ks vs => max (depthDs ks) (depthDs vs) + 1
  | .set ds => depthDs ds + 1
  | .obj _ _ ds => depthDs ds + 1
  | .scr ds => depthDs ds + 1
  | .non => 0
  | .bl _ => 0
  | .int _ => 0
  | .str _ => 0
  | .glo _ => 0
  | .ref _ => 0
def depthDs : List D → Nat
  | [] => 0
  | d :: ds => max (depthD d) (depthDs ds)
end

/-- data that == tells -/
def okD (d : D) : Bool := plain d && decide (depthD d ≤ 64)

/-! ### data with a text: dicts of texts, too -/
def isStr : D → Bool
  | .str _ => true
  | _ => false
mutual
def shw : D → Bool
  | .non => true
  | .bl _ => true
  | .int _ => true
  | .str _ => true
  | .tup ds => shws ds
  | .lst ds => shws ds
  | .dct ks vs => ks.all isStr && shws vs
  | .set _ => false
  | .obj _ _ _ => false
  | .ref _ => false
  | .glo _ => false
  | .scr _ => false
def shws : List D → Bool
  | [] => true
  | d :: ds => shw d && shws ds
end

/-! ### operators -/
inductive Bo where
  | add | sub | mul | fdiv | mod | pow | shl | shr | band | bor
  deriving DecidableEq
inductive Co where
  | eq | ne | lt | le | gt | ge | is | isn | inn | nin
  deriving DecidableEq

def small64 (i : Int) : Bool := decide (i.natAbs < 18446744073709551616)
def mid (i : Int) : Bool := decide (i.natAbs < 2 ^ 2000)
def mulOk (i j : Int) : Bool := small64 i || (small64 j || (mid i && mid j))

def small62 (i : Int) : Bool := decide (-4611686018427387904 ≤ i) && decide (i < 4611686018427387904)
def binI : Bo → Int → Int → Option D
  | .add, i, j => some (.int (i + j))
  | .sub, i, j => some (.int (i - j))
  | .mul, i, j => if mulOk i j then some (.int (i * j)) else none
  | .fdiv, i, j => if decide (0 < j) && mid j then some (.int (i / j)) else none
  | .mod, i, j => if decide (0 < j) then some (.int (i % j)) else none
  | .pow, i, j => if decide (0 ≤ j) && (decide (j ≤ 1000000) && small64 i) then some (.int (i ^ j.toNat)) else none
  | .shl, i, j => if decide (0 ≤ j) && (decide (j ≤ 1000000) && small64 i) then some (.int (i * 2 ^ j.toNat)) else none
  | .shr, i, j => if decide (0 ≤ j) then some (.int (i / 2 ^ j.toNat)) else none
  | .band, i, j => if decide (0 ≤ i) && decide (0 ≤ j) then some (.int ((i.toNat &&& j.toNat : Nat) : Int)) else none
  | .bor, i, j => if decide (0 ≤ i) && decide (0 ≤ j) then some (.int ((i.toNat ||| j.toNat : Nat) : Int)) else none

def fitL (ds : List D) : Option (List D) := if ds.length ≤ SZ then some ds else none
def repL (ds : List D) (n : Nat) : List D := (List.replicate n ds).flatten
def repS (s : List Nat) (n : Nat) : List Nat := (List.replicate n s).flatten
def fitS (s : List Nat) : Option D := if s.length ≤ SZ then some (.str s) else none

def binD : Bo → D → D → Option D
  | o, .int i, .int j => binI o i j
  | .add, .str x, .str y => fitS (x ++ y)
  | .add, .tup xs, .tup ys => (fitL (xs ++ ys)).map .tup
  | .add, .lst xs, .lst ys => (fitL (xs ++ ys)).map .lst
  | .mul, .lst xs, .int n => if small62 n && decide (xs.length * n.toNat ≤ SZ) then some (.lst (repL xs n.toNat)) else none
  | .mul, .tup xs, .int n => if decide (0 ≤ n) && (decide (n ≤ 1000) && (!xs.isEmpty && decide (xs.length ≤ 1000))) then some (.tup (repL xs n.toNat)) else none
  | .mul, .str s, .int n => if decide (0 ≤ n) && (decide (n ≤ 1000) && (!s.isEmpty && decide (s.length ≤ 1000))) then some (.str (repS s n.toNat)) else none
  | _, _, _ => none

/-! ### within -/
/-- x stands as a part in y -/
def partOf (x : List Nat) : List Nat → Bool
  | [] => x.isEmpty
  | c :: y => x.isPrefixOf (c :: y) || partOf x y
def inDs (x : D) (ds : List D) : Bool := ds.any fun d => eqD d x
def inD (x y : D) : Option Bool :=
  match y with
  | .tup ds => if okD x && okD y then some (inDs x ds) else none
  | .lst ds => if okD x && okD y then some (inDs x ds) else none
  | .str s => (match x with | .str [c] => some (s.contains c) | .str y => some (partOf y s) | _ => none)
  | _ => none

def isD (x y : D) : Option Bool :=
  match y with
  | .non => (match x with | .non => some true | _ => some false)
  | .bl b => (match x with | .bl a => some (a == b) | _ => none)
  | _ => none

def isNon : D → Bool
  | .non => true
  | _ => false
def ltOk (x y : D) : Bool := alikeD x y && (!isNon x && (okD x && okD y))
def cmpD : Co → D → D → Option Bool
  | .eq, x, y => if okD x && okD y then some (eqD x y) else none
  | .ne, x, y => if okD x && okD y then some (!eqD x y) else none
  | .lt, x, y => if ltOk x y then some (ltD x y) else none
  | .gt, x, y => if ltOk x y then some (ltD y x) else none
  | .le, x, y => if ltOk x y then some (!ltD y x) else none
  | .ge, x, y => if ltOk x y then some (!ltD x y) else none
  | .is, x, y => isD x y
  | .isn, x, y => (isD x y).map not
  | .inn, x, y => inD x y
  | .nin, x, y => (inD x y).map not

def truthD : D → Option Bool
  | .non => some false
  | .bl b => some b
  | .int i => some (i != 0)
  | .str s => some (!s.isEmpty)
  | .tup ds => some (!ds.isEmpty)
  | .lst ds => some (!ds.isEmpty)
  | _ => none

/-! ### items by place -/
def ixN (n : Nat) (i : Int) : Option Nat :=
  if 0 ≤ i then (if i.toNat < n then some i.toNat else none) else (if (-i).toNat ≤ n then some (n - (-i).toNat) else none)
def getKey (k : D) : List D → List D → Option D
  | x :: ks, v :: vs => if eqD x k then some v else getKey k ks vs
  | _, _ => none
def ixD (o k : D) : Option D :=
  match o, k with
  | .tup ds, .int i => (ixN ds.length i).bind fun j => ds[j]?
  | .lst ds, .int i => (ixN ds.length i).bind fun j => ds[j]?
  | .scr ds, .int i => (ixN ds.length i).bind fun j => ds[j]?
  | .str s, .int i => (ixN s.length i).bind fun j => s[j]?.map fun c => .str [c]
  | _, _ => none
/-- a slice's bound, clamped -/
def clampI (n : Nat) (i : Int) : Nat := if 0 ≤ i then min i.toNat n else n - min (-i).toNat n
def cutL {α : Type} (xs : List α) (lo hi : Option Int) : List α :=
  let a := match lo with | some i => clampI xs.length i | none => 0
  let b := match hi with | some i => clampI xs.length i | none => xs.length
  (xs.drop a).take (b - a)
def bndD : Option D → Option (Option Int)
  | none => some none
  | some (.int i) => some (some i)
  | _ => none
def slcD (o : D) (lo hi : Option D) : Option D :=
  match bndD lo, bndD hi with
  | some a, some b => (match o with
    | .tup ds => some (.tup (cutL ds a b))
    | .lst ds => some (.lst (cutL ds a b))
    | .scr ds => some (.lst (cutL ds a b))
    | .str s => some (.str (cutL s a b))
    | _ => none)
  | _, _ => none
end Tw
end

section
set_option linter.all false
set_option autoImplicit false
/-! The syntax of the layer, and its interpreter. -/
namespace Tw

inductive Bi where
  | len | abs | int | str | repr | bool | tuple | list | sorted | set | dict | sum | min | max | any | all | divmod | min2 | max2 | minl | maxl
  deriving DecidableEq
inductive Bm where
  | append | extend | pop | insert | clear | reverse | index | count | get | setdefault | update | items | keys | values
  | join | split | partition | rpartition | lower | upper | strip | lstrip | rstrip | zfill | find | startswith | endswith | isalpha | islower
  deriving DecidableEq
inductive Cl where
  | int | str | bool | tuple | list | dict | own (c : String)
  deriving DecidableEq
/-- what a loop goes over -/
inductive Ik where
  | of | enum | zip | zips | rng | items | keys | vals
  deriving DecidableEq
inductive Tg where
  | nm (i : Nat)
  | tp (ts : List Tg)

inductive Tx where
  | lst | rst | spl | ptn
  deriving DecidableEq

inductive E where
  | sl (i : Nat)
  /-- an own local that is looked at alone -/
  | pk (i : Nat)
  | gl (x : String)
  | int (i : Int)
  | str (s : List Nat)
  | bl (b : Bool)
  | non
  | tup (es : List E)
  | lst (es : List E)
  /-- a new list or dict as a shared object -/
  | shr (e : E)
  | bin (o : Bo) (a b : E)
  | neg (a : E)
  | cmp (o : Co) (a b : E)
  | cmp2 (o p : Co) (a b c : E)
  | and (a b : E)
  | or (a b : E)
  | not (a : E)
  | ife (c a b : E)
  | call (f : String) (es : List E) (ks : List String) (kes : List E)
  | new (c : String) (es : List E) (ks : List String) (kes : List E)
  | meth (o : E) (m : String) (es : List E) (ks : List String) (kes : List E)
  | bi (f : Bi) (es : List E)
  | bm (o : E) (m : Bm) (es : List E)
  | ix (o k : E)
  | slc (o : E) (lo hi : List E)
  | rev (o : E)
  | fld (o : E) (f : String)
  | isi (e : E) (cs : List Cl)
  | comp (elt : E) (tg : Tg) (k : Ik) (es : List E) (cnd : List E) (wp : List Nat)
  | fst (es : List E)
  /-- tuple(range(a)) -/
  | trg (a : E)
  /-- sorted(set(a)), of a tuple of ints -/
  | sst (a : E)
  /-- a.upper(), of ASCII -/
  | upr (a : E)
  /-- {} -/
  | dk0
  /-- {"k": e} -/
  | dk1 (k : List Nat) (e : E)
  /-- a == [], a == () (ng: !=; tp: the tuple) -/
  | nil (ng tp : Bool) (a : E)
  /-- a.join(e) -/
  | jn (a e : E)
  /-- a.lower(), of ASCII -/
  | low (a : E)
  /-- a.strip(b) -/
  | stp (a b : E)
  /-- max(a, default=k) -/
  | mxd (a : E) (k : Int)
  /-- list(range(es)) -/
  | lrg (es : List E)
  /-- a.lstrip(b), rstrip, split, partition -/
  | tx (f : Tx) (a b : E)
  /-- what is never run -/
  | bad

inductive S where
  | ex (e : E)
  | ret (e : E)
  | retN
  | asg (t : Tg) (e : E)
  /-- a new list or dict at a local, owned by it -/
  | own (i : Nat) (e : E)
  | par (is : List (Nat × Bool)) (es : List E)
  | aug (i : Nat) (o : Bo) (e : E)
  | setix (o k v : E)
  | setf (o : E) (f : String) (v : E)
  | augf (o : E) (f : String) (op : Bo) (v : E)
  | ife (c : E) (a b : List S)
  | for (tg : Tg) (k : Ik) (es : List E) (b : List S)
  | whl (c : E) (b : List S)
  | brk
  | cont
  | pass
  | raise (c : String) (es : List E)
  /-- the frame's first name becomes a new instance -/
  | slf (c : String)

/-! ### the state -/
inductive Slt where
  | non
  | val (d : D)
  | own (d : D)
structure MS where
  env : List Slt
  hp : List Ob
  bs : Nat
inductive R (s a : Type) where
  | ok (x : a) (t : s)
  | exc (x : D) (t : s)
  | stuck
def R.bind {s a b : Type} : R s a → (a → s → R s b) → R s b
  | .ok x t, f => f x t
  | .exc x t, _ => .exc x t
  | .stuck, _ => .stuck
def R.ofO {s a : Type} (o : Option a) (t : s) : R s a := match o with | some x => .ok x t | none => .stuck
def MS.put (s : MS) (i : Nat) (v : Slt) : MS := { s with env := s.env.set i v }
abbrev Cal := String → List D → Nat → List Ob → R (List Ob) D

/-- a def; a class: the attributes that its __init__ sets; a class's method -/
inductive Kd where
  | fn
  | ini (fs : List String)
  | mth (c m : String)
structure Fn where
  ps : List String
  dfl : List D
  ns : Nat
  body : List S
  gc : Bool
  /-- the calls with keywords: how many by place, the names -/
  kwz : List (Nat × List String) := []
  kd : Kd := .fn
structure Tab where
  fns : List (String × Fn)
  consts : List (String × D)
  /-- the text of plain data -/
  sh : D → List Nat

/-- what an own local, a shared list or dict holds; all else is itself -/
def deref (d : D) (hp : List Ob) : D :=
  match d with
  | .ref i => (match hp[i]? with | some (.lst ds) => .lst ds | some (.dct ks vs) => .dct ks vs | _ => .ref i)
  | d => d
def own? (s : MS) (i : Nat) : Option D := match s.env[i]? with | some (.own (.lst ds)) => some (.lst ds) | _ => none
/-- a looked-at local is looked at anew -/
def reD (e : E) (d : D) (s : MS) : D :=
  match e with
  | .pk i => (match s.env[i]? with | some (.own d) => d | some (.val d) => deref d s.hp | _ => .glo "")
  | _ => deref d s.hp
def reDs : List E → List D → MS → List D
  | e :: es, d :: ds, s => reD e d s :: reDs es ds s
  | _, _, _ => []

/-! ### built-ins -/
def intText (i : Int) : List Nat := cd (toString i)
mutual
/-- the signs and items of it -/
def bulkD : D → Nat
  | .str s => s.length
  | .tup ds => bulkDs ds
  | .lst ds => bulkDs ds
  | .int _ => 0
  | .non => 0
  | .bl _ => 0
  | .dct ks vs => bulkDs ks + bulkDs vs
  | .set _ => 0
  | .obj _ _ _ => 0
  | .ref _ => 0
  | .glo _ => 0
  | .scr _ => 0
def bulkDs : List D → Nat
  | [] => 0
  | d :: ds => bulkD d + 1 + bulkDs ds
end
mutual
def intsFit : D → Bool
  | .int i => decide (i.natAbs.log2 < 1920)
  | .tup ds => intsFits ds
  | .lst ds => intsFits ds
  | .non => true
  | .bl _ => true
  | .str _ => true
  | .dct ks vs => intsFits ks && intsFits vs
  | .set _ => true
  | .obj _ _ _ => true
  | .ref _ => true
  | .glo _ => true
  | .scr _ => true
def intsFits : List D → Bool
  | [] => true
  | d :: ds => intsFit d && intsFits ds
end
def allInts : List D → Option (List Int)
  | [] => some []
  | .int i :: ds => (allInts ds).map (i :: ·)
  | _ => none
def allBls : List D → Option (List Bool)
  | [] => some []
  | .bl b :: ds => (allBls ds).map (b :: ·)
  | _ => none
def lenD : D → Option Nat
  | .str s => some s.length
  | .tup ds => some ds.length
  | .lst ds => some ds.length
  | .set ds => some ds.length
  | .scr ds => some ds.length
  | _ => none
def itemsD : D → Option (List D)
  | .tup ds => some ds
  | .lst ds => some ds
  | .set ds => some ds
  | .dct ks _ => some ks
  | .str s => some (s.map fun c => .str [c])
  | _ => none
/-- the unlike ones, as first met -/
def dedup : List D → List D → List D
  | acc, [] => acc
  | acc, d :: ds => dedup (if inDs d acc then acc else acc ++ [d]) ds
/-- a tuple with an item -/
def tupC : D → Bool
  | .tup (_ :: _) => true
  | _ => false
/-- no tuple, not None -/
def notT : D → Bool
  | .tup _ => false
  | .non => false
  | _ => true
def sortable (ds : List D) : Bool := alikeAllD ds && (ds.all okD && (ds.all tupC || ds.all notT))
def sortD (ds : List D) : Option D := if sortable ds then some (.lst (ds.mergeSort leD)) else none
def minL : List Int → Option D
  | [] => none
  | d :: ds => some (.int (ds.foldl min d))
def maxL : List Int → Option D
  | [] => none
  | d :: ds => some (.int (ds.foldl max d))
/-- data of one shape, none of them None -/
def mmOk (ds : List D) : Bool := alikeAllD ds && ds.all fun d => okD d && !isNon d
def notLst : D → Bool
  | .lst _ => false
  | _ => true
def mkSet (ds : List D) : Option D := if plains ds then some (.set (dedup [] ds)) else none
def callBi (sh : D → List Nat) : Bi → List D → Option D
  | .len, [x] => (lenD x).map fun (n : Nat) => .int (n : Int)
  | .abs, [.int i] => some (.int (if i < 0 then -i else i))
  | .int, [.int i] => some (.int i)
  | .int, [.bl b] => some (.int (if b then 1 else 0))
  | .str, [.int i] => if decide (i.natAbs.log2 < 1920) && strOk (intText i) then some (.str (intText i)) else none
  | .str, [.str s] => some (.str s)
  | .repr, [x] => if shw x && (intsFit x && (decide (depthD x ≤ 64) && strOk (sh x))) then some (.str (sh x)) else none
  | .bool, [.bl b] => some (.bl b)
  | .bool, [.int i] => some (.bl (i != 0))
  | .tuple, [.lst ds] => some (.tup ds)
  | .tuple, [.tup ds] => some (.tup ds)
  | .list, [.lst ds] => some (.lst ds)
  | .list, [.tup ds] => some (.lst ds)
  | .list, [.str s] => some (.lst (s.map fun c => .str [c]))
  | .sorted, [.lst ds] => sortD ds
  | .sum, [.lst ds] => (allInts ds).map fun ns => .int ns.sum
  | .min, [.lst ds] => (allInts ds).bind minL
  | .max, [.lst ds] => (allInts ds).bind maxL
  | .min, [.int x, .int y] => some (.int (if y < x then y else x))
  | .max, [.int x, .int y] => some (.int (if x < y then y else x))
  | .min2, [x, y] => if mmOk [x, y] && (notLst x && notLst y) then some (if ltD y x then y else x) else none
  | .max2, [x, y] => if mmOk [x, y] && (notLst x && notLst y) then some (if ltD x y then y else x) else none
  | .minl, [.lst (x :: xs)] => if mmOk (x :: xs) && (x :: xs).all notLst then some (xs.foldl (fun a y => if ltD y a then y else a) x) else none
  | .maxl, [.tup (x :: xs)] => if mmOk (x :: xs) && (x :: xs).all notLst then some (xs.foldl (fun a y => if ltD a y then y else a) x) else none
  | .any, [.lst ds] => (allBls ds).map fun bs => .bl (bs.any id)
  | .all, [.lst ds] => (allBls ds).map fun bs => .bl (bs.all id)
  | .divmod, [.int i, .int j] => if decide (0 < j) && decide (j < 1073741824) then some (.tup [.int (i / j), .int (i % j)]) else none
  | _, _ => none

/-- a number put among unlike rising ones -/
def insI (x : Int) : List Int → List Int
  | [] => [x]
  | y :: ys => if x < y then x :: y :: ys else if x = y then y :: ys else y :: insI x ys
def sdI (ns : List Int) : List Int := ns.foldr insI []
def upC (c : Nat) : Nat := if 97 ≤ c ∧ c ≤ 122 then c - 32 else c
def rngL (a b : Int) : List D := (List.range (b - a).toNat).map fun k : Nat => .int (a + (k : Int))
/-- range(a, b, -1) -/
def rngDn (a b : Int) : List D := (List.range (a - b).toNat).map fun k : Nat => .int (a + (k : Int) * -1)
def enumL : Int → List D → List D
  | _, [] => []
  | k, d :: ds => .tup [.int k, d] :: enumL (k + 1) ds
def zipD : List D → List D → List D
  | x :: xs, y :: ys => .tup [x, y] :: zipD xs ys
  | _, _ => []
def seqD : D → Option (List D)
  | .tup ds => some ds
  | .lst ds => some ds
  | _ => none
def itemsOf : Ik → List D → Option (List D)
  | .of, [.tup ds] => some ds
  | .of, [.lst ds] => some ds
  | .of, [.str s] => some (s.map fun c => .str [c])
  | .enum, [x] => (seqD x).map (enumL 0)
  | .zip, [.lst xs, .lst ys] => some (zipD xs ys)
  | .zip, [.tup xs, .tup ys] => some (zipD xs ys)
  | .zips, [x, y] => (seqD x).bind fun xs => (seqD y).bind fun ys => if xs.length = ys.length then some (zipD xs ys) else none
  | .rng, [.int b] => if small62 b then some (rngL 0 b) else none
  | .rng, [.int a, .int b] => if small62 a && small62 b then some (rngL a b) else none
  | .rng, [.int a, .int b, .int c] => if decide (c = -1) && (small62 a && small62 b) then some (rngDn a b) else none
  | _, _ => none

/-! ### methods that read -/
def rdM : Bm → D → List D → Option D
  | _, _, _ => none

/-! ### methods that change: what is held then, what is told -/
def muM : Bm → D → List D → Option (D × D)
  | .append, .lst ds, [x] => (fitL (ds ++ [x])).map fun l => (.lst l, .non)
  | .extend, .lst ds, [.lst xs] => (fitL (ds ++ xs)).map fun l => (.lst l, .non)
  | .extend, .lst _, [.tup _] => none
  | .pop, .lst ds, [] => (ds.getLast?).map fun x => (.lst ds.dropLast, x)
  | .pop, .lst ds, [.int i] => (ixN ds.length i).bind fun j => ds[j]?.map fun x => (.lst (ds.eraseIdx j), x)
  | .insert, .lst ds, [.int i, x] => if decide (0 ≤ i) && decide (i < 9223372036854775808) then (fitL (ds.take i.toNat ++ x :: ds.drop i.toNat)).map fun l => (.lst l, .non) else none
  | .clear, .lst _, [] => some (.lst [], .non)
  | .reverse, .lst ds, [] => some (.lst ds.reverse, .non)
  | _, _, _ => none
/-- o[k] = v -/
def setM (o k v : D) : Option D :=
  match o, k with
  | .lst ds, .int i => (ixN ds.length i).map fun j => .lst (ds.set j v)
  | _, _ => none
/-- a change of the object number i; an older one may not come to hold a younger one's number -/
def wrOb (s : MS) (i : Nat) (d : D) : Option MS :=
  if s.bs ≤ i || below s.bs d then (match d with
    | .lst ds => some { s with hp := s.hp.set i (.lst ds) }
    | _ => none) else none

def isOwn (s : MS) (i : Nat) : Bool := match s.env[i]? with | some (.own _) => true | _ => false
/-- the arguments as a method that changes takes them -/
def mArgs (m : Bm) (es : List E) (ds : List D) (s : MS) : List D :=
  match m with
  | .append => ds
  | .insert => ds
  | .pop => ds
  | .setdefault => ds
  | _ => reDs es ds s
/-- the list, the dict that o told is d from now on -/
def wrTo (o : E) (x d : D) (s : MS) : Option MS :=
  match o with
  | .pk i => if isOwn s i then some (s.put i (.own d)) else none
  | _ => (match x with
    | .ref i => wrOb s i d
    | _ => none)

def bindTg : Tg → D → MS → Option MS
  | .nm i, d, s => if i < s.env.length then some (s.put i (.val d)) else none
  | .tp ts, .tup ds, s => bindTgs ts ds s
  | .tp _, _, _ => none
where bindTgs : List Tg → List D → MS → Option MS
  | [], [], s => some s
  | t :: ts, d :: ds, s => (bindTg t d s).bind fun s' => bindTgs ts ds s'
  | _, _, _ => none
def wipeS (s : MS) : List Nat → MS
  | [] => s
  | i :: is => (wipeS s is).put i .non
/-- the slots is as they stand in s0 -/
def backS (s0 s : MS) : List Nat → MS
  | [] => s
  | i :: is => (backS s0 s is).put i (s0.env.getD i .non)

/-- do the looked-at sources hold what they held -/
def srcOk : List E → List D → List D → MS → Bool
  | e :: es, d :: ds, c :: cs, s => sameD (reD e d s) c && srcOk es ds cs s
  | [], [], [], _ => true
  | _, _, _, _ => false

def loopC (chk : MS → Bool) (turn : D → MS → R MS (Option D)) : List D → List D → MS → R MS (List D)
  | acc, [], s => if chk s then .ok acc s else .stuck
  | acc, x :: xs, s => if chk s then (turn x s).bind fun o s1 => loopC chk turn (match o with | some d => acc ++ [d] | none => acc) xs s1 else .stuck

/-- the arguments by the parameters: those by place, those by name, the worths -/
def kwRest {α : Type} (dfl : List α) (ks : List String) (kds : List α) : List String → Option (List α)
  | [] => some []
  | p :: ps => (((ks.zip kds).lookup p).or (if (p :: ps).length ≤ dfl.length then dfl[dfl.length - (p :: ps).length]? else none)).bind fun x => (kwRest dfl ks kds ps).map (x :: ·)
def bindA (ps : List String) (dfl : List D) (kwz : List (Nat × List String)) (ds : List D) (ks : List String) (kds : List D) : Option (List D) :=
  if ks.isEmpty then (if decide (ds.length ≤ ps.length) && decide (ps.length - ds.length ≤ dfl.length) then some (dfl.drop (dfl.length - (ps.length - ds.length))) else none)
  else if kwz.contains (ds.length, ks) && decide (kds.length = ks.length) then kwRest dfl ks kds (ps.drop ds.length) else none

def Tab.fn (G : Tab) (f : String) : Option Fn := G.fns.lookup f
def callWith (G : Tab) (cal : Cal) (f : String) (ds : List D) (ks : List String) (kds : List D) (s : MS) : R MS D :=
  match G.fn f with
  | some F => (match bindA F.ps F.dfl F.kwz ds ks kds with
    | some rest => (match cal f (ds ++ rest) s.bs s.hp with
      | .ok d hp => .ok d { s with hp := hp }
      | .exc x hp => .exc x { s with hp := hp }
      | .stuck => .stuck)
    | none => .stuck)
  | none => .stuck

/-- c is a class of the table, f an attribute that its __init__ sets -/
def okC (G : Tab) (c : String) : Bool := match G.fn c with
  | some F => (match F.kd with | .ini _ => true | _ => false)
  | none => false
def okF (G : Tab) (c f : String) : Bool := match G.fn c with
  | some F => (match F.kd with | .ini l => l.contains f | _ => false)
  | none => false
def fldD (G : Tab) (d : D) (f : String) : Option D :=
  match d with
  | .obj c fs vs => if okF G c f then (fs.zip vs).lookup f else none
  | _ => none
def isCl (G : Tab) (d : D) (hp : List Ob) : Cl → Option Bool
  | .int => some (match d with | .int _ => true | .bl _ => true | _ => false)
  | .bool => some (match d with | .bl _ => true | _ => false)
  | .str => some (match d with | .str _ => true | _ => false)
  | .tuple => some (match d with | .tup _ => true | _ => false)
  | .list => some (match d with | .lst _ => true | .scr _ => true | .ref i => (match hp[i]? with | some (.lst _) => true | _ => false) | _ => false)
  | .dict => some (match d with | .dct _ _ => true | .ref i => (match hp[i]? with | some (.dct _ _) => true | _ => false) | _ => false)
  | .own c => if okC G c then (match d with | .obj c' _ _ => if okC G c' then some (c' == c) else none | _ => some false) else none
def isCls (G : Tab) (d : D) (hp : List Ob) : List Cl → Option Bool
  | [] => some false
  | c :: cs => (isCl G d hp c).bind fun b => if b then some true else isCls G d hp cs

def fstL : List D → Option (List Nat)
  | [] => some []
  | .str s :: ds => (fstL ds).map (s ++ ·)
  | .int i :: ds => if decide (i.natAbs.log2 < 1920) then (fstL ds).map (intText i ++ ·) else none
  | _ => none

/-- is it empty -/
def nilD (ng tp : Bool) : D → Option D
  | .lst ds => if tp then none else some (.bl (ds.isEmpty != ng))
  | .tup ds => if tp then some (.bl (ds.isEmpty != ng)) else none
  | _ => none
def strsOf : List D → Option (List (List Nat))
  | [] => some []
  | .str s :: ds => (strsOf ds).map (s :: ·)
  | _ => none
def joinL (a : List Nat) : List (List Nat) → List Nat
  | [] => []
  | [x] => x
  | x :: y :: r => x ++ (a ++ joinL a (y :: r))
def joinD (a : D) (ds : List D) : Option D :=
  match a, strsOf ds with
  | .str a, some ts => if decide ((ts.map (·.length)).sum + ts.length * a.length ≤ 16777216) then some (.str (joinL a ts)) else none
  | _, _ => none
def mxdD : D → Int → Option D
  | .lst ds, k => (allInts ds).map fun ns => .int (match ns with | [] => k | n :: ns => ns.foldl max n)
  | _, _ => none
def lrgD : List D → Option D
  | [.int b] => if decide (0 ≤ b) && decide (b ≤ 16777216) then some (.lst (rngL 0 b)) else none
  | [.int a, .int b] => if decide (0 ≤ a) && (decide (a ≤ 16777216) && (decide (0 ≤ b) && decide (b ≤ 16777216))) then some (.lst (rngL a b)) else none
  | _ => none
def loC (c : Nat) : Nat := if 65 ≤ c ∧ c ≤ 90 then c + 32 else c
def lowD : D → Option D
  | .str z => if z.all (fun c => decide (c < 128)) && decide (z.length ≤ 5000000) then some (.str (z.map loC)) else none
  | _ => none
/-- what is left of a without the signs of b at its ends -/
def stpL (a b : List Nat) : List Nat :=
  let lo := (a.takeWhile b.contains).length
  let hi := a.length - ((a.drop lo).reverse.takeWhile b.contains).length
  (a.drop lo).take (hi - lo)
def stpD : D → D → Option D
  | .str a, .str b => some (.str (stpL a b))
  | _, _ => none
/-- the pieces between the signs c -/
def splC (c : Nat) : List Nat → List (List Nat)
  | [] => [[]]
  | x :: xs => if x = c then [] :: splC c xs else (match splC c xs with | [] => [[x]] | y :: ys => (x :: y) :: ys)
def txD : Tx → D → D → Option D
  | .lst, .str a, .str b => some (.str (a.dropWhile b.contains))
  | .rst, .str a, .str b => some (.str ((a.reverse.dropWhile b.contains).reverse))
  | .spl, .str a, .str [c] => if decide (a.length + 2 ≤ SZ) then some (.lst ((splC c a).map .str)) else none
  | .ptn, .str a, .str [c] => some (.tup [.str (a.takeWhile (· != c)), .str (if a.contains c then [c] else []), .str ((a.dropWhile (· != c)).drop 1)])
  | _, _, _ => none
/-! ### expressions -/
section
variable (G : Tab) (cal : Cal)
mutual
def evE : E → MS → R MS D
  | .sl i, s => (match s.env[i]? with
    | some (.val d) => .ok d s
    | some (.own d) => .ok d (s.put i (.val d))
    | _ => .stuck)
  | .pk i, s => .ofO (own? s i) s
  | .gl x, s => .ofO (G.consts.lookup x) s
  | .int i, s => .ok (.int i) s
  | .str x, s => .ok (.str x) s
  | .bl b, s => .ok (.bl b) s
  | .non, s => .ok .non s
  | .tup es, s => (evEs es s).bind fun ds s => .ok (.tup ds) s
  | .lst es, s => (evEs es s).bind fun ds s => .ok (.lst ds) s
  | .shr e, s => (evE e s).bind fun x s => (match x with
    | .lst ds => .ok (.ref s.hp.length) { s with hp := s.hp ++ [.lst ds] }
    | _ => .stuck)
  | .bin o a b, s => (evE a s).bind fun x s => (evE b s).bind fun y s => .ofO (binD o (reD a x s) (reD b y s)) s
  | .neg a, s => (evE a s).bind fun x s => (match x with | .int i => .ok (.int (-i)) s | _ => .stuck)
  | .cmp o a b, s => (evE a s).bind fun x s => (evE b s).bind fun y s => .ofO ((cmpD o (reD a x s) (reD b y s)).map .bl) s
  | .cmp2 o p a b c, s => (evE a s).bind fun x s => (evE b s).bind fun y s =>
      (match cmpD o (reD a x s) (reD b y s) with
        | some true => (evE c s).bind fun z s => .ofO ((cmpD p (reD b y s) (reD c z s)).map .bl) s
        | some false => .ok (.bl false) s
        | none => .stuck)
  | .and a b, s => (evE a s).bind fun x s => (match truthD (reD a x s) with
        | some true => evE b s
        | some false => .ok x s
        | none => .stuck)
  | .or a b, s => (evE a s).bind fun x s => (match truthD (reD a x s) with
        | some true => .ok x s
        | some false => evE b s
        | none => .stuck)
  | .not a, s => (evE a s).bind fun x s => .ofO ((truthD (reD a x s)).map fun b => .bl (!b)) s
  | .ife c a b, s => (evT c s).bind fun t s => if t then evE a s else evE b s
  | .call f es ks kes, s => (evEs es s).bind fun ds s => (evEs kes s).bind fun kds s => callWith G cal f ds ks kds s
  | .new c es ks kes, s => (evEs es s).bind fun ds s => (evEs kes s).bind fun kds s => .stuck
  | .meth o m es ks kes, s => (evE o s).bind fun x s => (evEs es s).bind fun ds s => (evEs kes s).bind fun kds s =>
      (match x with
        | .obj c fs _ => if fs.contains m then .stuck else callWith G cal (c ++ "." ++ m) (x :: ds) ks kds s
        | _ => .stuck)
  | .bi f es, s => (evEs es s).bind fun ds s => .ofO (callBi G.sh f (reDs es ds s)) s
  | .bm o m es, s => (evE o s).bind fun x s => (evEs es s).bind fun ds s =>
      (match rdM m (reD o x s) (reDs es ds s) with
        | some d => .ok d s
        | none => (match muM m (reD o x s) (mArgs m es ds s) with
          | some (d, r) => (match wrTo o x d s with | some s2 => .ok r s2 | none => .stuck)
          | none => .stuck))
  | .ix o k, s => (evE o s).bind fun x s => (evE k s).bind fun y s => .ofO (ixD (reD o x s) y) s
  | .slc o lo hi, s => (evE o s).bind fun x s => (evEs lo s).bind fun ds s => (evEs hi s).bind fun hs s => .ofO (slcD (reD o x s) ds.head? hs.head?) s
  | .rev o, s => (evE o s).bind fun x s => (match reD o x s with | .lst ds => .ok (.lst ds.reverse) s | .tup ds => .ok (.tup ds.reverse) s | _ => .stuck)
  | .fld o f, s => (evE o s).bind fun x s => .ofO (fldD G x f) s
  | .isi e cs, s => (evE e s).bind fun x s => .ofO ((isCls G x s.hp cs).map .bl) s
  | .comp elt tg k es cnd wp, s => (evEs es s).bind fun ds s1 =>
      (match itemsOf k (reDs es ds s1) with
        | none => .stuck
        | some xs => if decide (xs.length ≤ SZ) && !(wp.any (isOwn s1)) then
            ((loopC (srcOk es ds (reDs es ds s1)) (fun x s => match bindTg tg x s with
              | none => .stuck
              | some s => (evTs cnd s).bind fun b s => if b then (evE elt s).bind fun d s => .ok (some d) (wipeS s wp) else .ok none (wipeS s wp)) [] xs (wipeS s1 wp)).bind
                fun ds s2 => .ok (.lst ds) (backS s1 s2 wp))
          else .stuck)
  | .fst es, s => (evEs es s).bind fun ds s => .ofO ((fstL ds).bind fitS) s
  | .trg a, s => (evE a s).bind fun x s => (match x with
    | .int n => if decide (0 ≤ n) && decide (n ≤ 16777216) then .ok (.tup (rngL 0 n)) s else .stuck
    | _ => .stuck)
  | .sst a, s => (evE a s).bind fun x s => (match x with
    | .tup ds => (match allInts ds with
      | some ns => if ns.length < 64 then .ok (.lst ((sdI ns).map .int)) s else .stuck
      | none => .stuck)
    | _ => .stuck)
  | .upr a, s => (evE a s).bind fun x s => (match x with
    | .str z => if z.all (fun c => decide (c < 128)) && decide (z.length ≤ 5000000) then .ok (.str (z.map upC)) s else .stuck
    | _ => .stuck)
  | .dk0, s => .ok (.dct [] []) s
  | .dk1 k e, s => (evE e s).bind fun x s => .ok (.dct [.str k] [x]) s
  | .nil ng tp a, s => (evE a s).bind fun x s => .ofO (nilD ng tp (reD a x s)) s
  | .jn a e, s => (evE a s).bind fun x s => (evE e s).bind fun y s => .ofO ((seqD (reD e y s)).bind (joinD x)) s
  | .low a, s => (evE a s).bind fun x s => .ofO (lowD x) s
  | .stp a b, s => (evE a s).bind fun x s => (evE b s).bind fun y s => .ofO (stpD x y) s
  | .mxd a k, s => (evE a s).bind fun x s => .ofO (mxdD (reD a x s) k) s
  | .lrg es, s => (evEs es s).bind fun ds s => .ofO (lrgD ds) s
  | .tx f a b, s => (evE a s).bind fun x s => (evE b s).bind fun y s => .ofO (txD f x y) s
  | .bad, _ => .stuck
def evEs : List E → MS → R MS (List D)
  | [], s => .ok [] s
  | e :: es, s => (evE e s).bind fun d s => (evEs es s).bind fun ds s => .ok (d :: ds) s
/-- a test -/
def evT : E → MS → R MS Bool
  | .and a b, s => (evT a s).bind fun x s => if x then evT b s else .ok false s
  | .or a b, s => (evT a s).bind fun x s => if x then .ok true s else evT b s
  | .not a, s => (evT a s).bind fun x s => .ok (!x) s
  | .ife c a b, s => (evT c s).bind fun t s => if t then evT a s else evT b s
  | e, s => (evE e s).bind fun x s => .ofO (truthD (reD e x s)) s
def evTs : List E → MS → R MS Bool
  | [], s => .ok true s
  | e :: es, s => (evT e s).bind fun x s => if x then evTs es s else .ok false s
end

/-! ### statements -/
inductive Fl where
  | nx | brk | cont
  | ret (d : D)
def loopF (chk : MS → Bool) (turn : D → MS → R MS Fl) : List D → MS → R MS Fl
  | [], s => if chk s then .ok .nx s else .stuck
  | x :: xs, s => if chk s then (turn x s).bind fun f s1 => (match f with
      | .nx => loopF chk turn xs s1
      | .cont => loopF chk turn xs s1
      | .brk => .ok .nx s1
      | .ret d => .ok (.ret d) s1) else .stuck
def loopW (test : MS → R MS Bool) (turn : MS → R MS Fl) : Nat → MS → R MS Fl
  | 0, _ => .stuck
  | n + 1, s => (test s).bind fun b s1 => if b then (turn s1).bind fun f s2 => (match f with
      | .nx => loopW test turn n s2
      | .cont => loopW test turn n s2
      | .brk => .ok .nx s2
      | .ret d => .ok (.ret d) s2) else .ok .nx s1
def FU : Nat := 18446744073709551616
def putPar : List (Nat × Bool) → List D → MS → Option MS
  | [], [], s => some s
  | (i, false) :: is, d :: ds, s => if i < s.env.length then putPar is ds (s.put i (.val d)) else none
  | (i, true) :: is, .lst xs :: ds, s => if i < s.env.length then putPar is ds (s.put i (.own (.lst xs))) else none
  | _, _, _ => none
/-- x op= y at a name -/
def augD : Bo → D → D → Option D
  | .pow, _, _ => none
  | o, .int i, .int j => binI o i j
  | .add, .str x, .str y => fitS (x ++ y)
  | .add, .tup xs, .tup ys => (fitL (xs ++ ys)).map .tup
  | _, _, _ => none
mutual
def exS : S → MS → R MS Fl
  | .ex e, s => (evE G cal e s).bind fun _ s => .ok .nx s
  | .ret e, s => (evE G cal e s).bind fun d s => .ok (.ret d) s
  | .retN, s => .ok (.ret .non) s
  | .asg t e, s => (evE G cal e s).bind fun d s => (match bindTg t d s with | some s => .ok .nx s | none => .stuck)
  | .own i e, s => (evE G cal e s).bind fun d s => (match d with
      | .lst ds => if i < s.env.length then .ok .nx (s.put i (.own (.lst ds))) else .stuck
      | _ => .stuck)
  | .par is es, s => (evEs G cal es s).bind fun ds s => (match putPar is ds s with | some s => .ok .nx s | none => .stuck)
  | .aug i o e, s => (match s.env[i]? with
      | some (.val x) => (evE G cal e s).bind fun y s => (match augD o x (reD e y s) with
        | some d => .ok .nx (s.put i (.val d))
        | none => .stuck)
      | _ => .stuck)
  | .setix o k v, s => (evE G cal v s).bind fun d s => (evE G cal o s).bind fun x s => (evE G cal k s).bind fun y s =>
      (match setM (reD o x s) y d with
        | some c => (match wrTo o x c s with | some s2 => .ok .nx s2 | none => .stuck)
        | none => .stuck)
  | .setf o f v, s => (evE G cal v s).bind fun d s => (match o with
      | .pk i => (match s.env[i]? with
        | some (.own (.obj c fs vs)) => if okF G c f && (!fs.contains f && decide (fs.length < 1000)) then .ok .nx (s.put i (.own (.obj c (fs ++ [f]) (vs ++ [d])))) else .stuck
        | _ => .stuck)
      | _ => .stuck)
  | .augf o f op v, s => .stuck
  | .ife c a b, s => (evT G cal c s).bind fun t s => if t then exB a s else exB b s
  | .for tg k es b, s => (evEs G cal es s).bind fun ds s1 =>
      (match itemsOf k (reDs es ds s1) with
        | none => .stuck
        | some xs => loopF (srcOk es ds (reDs es ds s1)) (fun x s => match bindTg tg x s with | some s => exB b s | none => .stuck) xs s1)
  | .whl c b, s => loopW (evT G cal c) (exB b) FU s
  | .brk, s => .ok .brk s
  | .cont, s => .ok .cont s
  | .pass, s => .ok .nx s
  | .raise _ _, s => .stuck
  | .slf c, s => if 0 < s.env.length then .ok .nx (s.put 0 (.own (.obj c [] []))) else .stuck
def exB : List S → MS → R MS Fl
  | [], s => .ok .nx s
  | c :: cs, s => (exS c s).bind fun f s => (match f with | .nx => exB cs s | f => .ok f s)
end
end

/-! ### calls -/
/-- what is told, without numbers from n on -/
def frz (n : Nat) (hp : List Ob) : Nat → D → Option D
  | 0, _ => none
  | k + 1, d => if below n d then some d else (match d with
      | .ref i => (match hp[i]? with
        | some (.lst ds) => (ds.mapM (frz n hp k)).map .lst
        | some (.dct _ _) => none
        | some (.ins c fs vs) => (vs.mapM (frz n hp k)).map (.obj c fs)
        | none => none)
      | .tup ds => (ds.mapM (frz n hp k)).map .tup
      | .lst ds => (ds.mapM (frz n hp k)).map .lst
      | _ => none)
def runF (G : Tab) (cal : Cal) (F : Fn) (ds : List D) (bs : Nat) (hp : List Ob) : R (List Ob) D :=
  match exB G cal F.body ⟨ds.map .val ++ List.replicate (F.ns - ds.length) .non, hp, if F.gc then hp.length else bs⟩ with
  | .ok f s => (match (match f with | .ret d => some d | .nx => some .non | _ => none) with
    | some d => if F.gc then (match frz hp.length s.hp 64 d with
      | some d' => if (s.hp.take bs).all (belowO bs) then .ok d' (s.hp.take hp.length) else .stuck
      | none => .stuck) else .ok d s.hp
    | none => .stuck)
  | .exc x s => .exc x s.hp
  | .stuck => .stuck
def calN (G : Tab) : Nat → Cal
  | 0 => fun _ _ _ _ => .stuck
  | n + 1 => fun f ds bs hp => match G.fn f with
    | some F => if ds.length = F.ps.length then runF G (calN G n) F ds bs hp else .stuck
    | none => .stuck
end Tw
end

section
set_option linter.all false
set_option autoImplicit false
set_option maxRecDepth 100000
set_option maxHeartbeats 4000000
/-! How the layer's values lie in the heap. -/
namespace Tw
open PySem L2

/-- read at a, and no shared or owned object -/
def Sd (M : Addr → Prop) (H : Hp) (a : Addr) (u : HO) : Prop := Rd H a u ∧ ¬ M a
/-- a tuple, a list that the written part holds -/
def KTup (K : PySem.W.Frag) (a : Addr) (vs : List V) : Prop :=
  ∃ (o : Obj) (its : Array Value) (n : Nat), K.lookup a = some o ∧ o.cls = .type "tuple" ∧ o.data = .seq its n ∧ its.size ≤ sizeLine ∧ Vals vs its.toList
def KLst (K : PySem.W.Frag) (a : Addr) (vs : List V) : Prop :=
  a ≠ sysModules ∧ ∃ (its : List Value) (n : Nat), K.lookup a = some { cls := .type "list", data := .seq its.toArray n } ∧ its.length ≤ sizeLine ∧ Vals vs its

/-- any list that the written part holds -/
def KSq (K : PySem.W.Frag) (a : Addr) (vs : List V) : Prop :=
  ∃ (o : Obj) (its : Array Value) (n : Nat), K.lookup a = some o ∧ o.cls = .type "list" ∧ o.dict = none ∧ o.data = .seq its n ∧ its.size ≤ sizeLine ∧ Vals vs its.toList

/-- what the class c is in the written part -/
structure ClT (K : PySem.W.Frag) (c : String) : Prop where
  cls : Cls K (He.ga K c)
  tyc : PySem.W.findIn K (.ref (He.ga K c)) "__class__" = some (some (.builtin "object.__class__"))
  tys : PySem.W.specialIn K (.builtin "object.__class__") "__get__" = some (some (.builtin "getset_descriptor.__get__"))
  tyt : PySem.W.takesIn K (.builtin "object.__class__") = some true
  tym : PySem.W.mroIn K (He.ga K c) (.type "object") = some true
  bi : ∀ T ∈ ["int", "bool", "str", "tuple", "list", "dict"], PySem.W.kitOne K (.ref (He.ga K c)) (.type T) = some false
/-- an instance's attributes -/
def insF (fs : List String) (vs : List V) : List (Str × V) := List.zipWith (fun f v => (PySem.Str.ofString f, v)) fs vs
/-- texts as keys -/
def tKv (ks : List (List Nat)) (vs : List V) : List (Key × V) := List.zipWith (fun k v => ((.inr ⟨k.toArray⟩ : Key), v)) ks vs
mutual
inductive Rep (K : PySem.W.Frag) (ρ : List Addr) (M : Addr → Prop) (H : Hp) : D → V → Prop
  | non : Rep K ρ M H .non .non
  | bl (b : Bool) : Rep K ρ M H (.bl b) (.bl b)
  | int (i : Int) : Rep K ρ M H (.int i) (.int i)
  | str (s : List Nat) (h : strOk s = true) : Rep K ρ M H (.str s) (.str ⟨s.toArray⟩)
  | tup {ds : List D} {vs : List V} {a : Addr} : Sd M H a (.tup vs) → Reps K ρ M H ds vs → Rep K ρ M H (.tup ds) (.ref a)
  | tupK {ds : List D} {vs : List V} {a : Addr} : KTup K a vs → Reps K ρ M H ds vs → Rep K ρ M H (.tup ds) (.ref a)
  | lst {ds : List D} {vs : List V} {a : Addr} : Sd M H a (.lst vs) → Reps K ρ M H ds vs → Rep K ρ M H (.lst ds) (.ref a)
  | lstK {ds : List D} {vs : List V} {a : Addr} : KLst K a vs → Reps K ρ M H ds vs → Rep K ρ M H (.lst ds) (.ref a)
  | dct {ks : List (List Nat)} {ds : List D} {vs : List V} {a : Addr} : Sd M H a (.dK (tKv ks vs)) → Reps K ρ M H ds vs → ks.length = ds.length → (∀ k ∈ ks, strOk k = true) → Rep K ρ M H (.dct (ks.map .str) ds) (.ref a)
  | ref {i : Nat} {a : Addr} : ρ[i]? = some a → Rep K ρ M H (.ref i) (.ref a)
  | scr {ds : List D} {vs : List V} {a : Addr} : Sd M H a (.lst vs) → Reps K ρ M H ds vs → Rep K ρ M H (.scr ds) (.ref a)
  | scrK {ds : List D} {vs : List V} {a : Addr} : KSq K a vs → Reps K ρ M H ds vs → Rep K ρ M H (.scr ds) (.ref a)
  | obj {c : String} {fs : List String} {ds : List D} {vs : List V} {a dx : Addr} : ClT K c → H a = some (.ins (He.ga K c) dx (insF fs vs)) → ¬ M a → Reps K ρ M H ds vs → fs.length = ds.length → Rep K ρ M H (.obj c fs ds) (.ref a)
inductive Reps (K : PySem.W.Frag) (ρ : List Addr) (M : Addr → Prop) (H : Hp) : List D → List V → Prop
  | nil : Reps K ρ M H [] []
  | cons {d : D} {ds : List D} {v : V} {vs : List V} : Rep K ρ M H d v → Reps K ρ M H ds vs → Reps K ρ M H (d :: ds) (v :: vs)
end

section
variable {K : PySem.W.Frag} {ρ ρ' : List Addr} {M M' : Addr → Prop} {H H' : Hp}
theorem Reps.length : ∀ {ds : List D} {vs : List V}, Reps K ρ M H ds vs → ds.length = vs.length
  | _, _, .nil => rfl
  | _, _, .cons _ t => congrArg (· + 1) (Reps.length t)
theorem Reps.get : ∀ {ds : List D} {vs : List V} {i : Nat} {d : D}, Reps K ρ M H ds vs → ds[i]? = some d → ∃ v, vs[i]? = some v ∧ Rep K ρ M H d v
  | _, _, _, _, .nil, e => by simp at e
  | _, _, 0, _, .cons r _, e => by simp at e; subst e; exact ⟨_, rfl, r⟩
  | _, _, i + 1, _, .cons _ t, e => by
    obtain ⟨v, h1, h2⟩ := Reps.get (i := i) t (by simpa using e)
    exact ⟨v, by simpa using h1, h2⟩
theorem Reps.get' : ∀ {ds : List D} {vs : List V} {i : Nat} {v : V}, Reps K ρ M H ds vs → vs[i]? = some v → ∃ d, ds[i]? = some d ∧ Rep K ρ M H d v
  | _, _, _, _, .nil, e => by simp at e
  | _, _, 0, _, .cons r _, e => by simp at e; subst e; exact ⟨_, rfl, r⟩
  | _, _, i + 1, _, .cons _ t, e => by
    obtain ⟨v, h1, h2⟩ := Reps.get' (i := i) t (by simpa using e)
    exact ⟨v, by simpa using h1, h2⟩
theorem Reps.append : ∀ {ds es : List D} {vs ws : List V}, Reps K ρ M H ds vs → Reps K ρ M H es ws → Reps K ρ M H (ds ++ es) (vs ++ ws)
  | _, _, _, _, .nil, s => s
  | _, _, _, _, .cons r t, s => .cons r (Reps.append t s)
theorem Reps.take : ∀ {ds : List D} {vs : List V} (n : Nat), Reps K ρ M H ds vs → Reps K ρ M H (ds.take n) (vs.take n)
  | _, _, 0, _ => .nil
  | _, _, _ + 1, .nil => .nil
  | _, _, n + 1, .cons r t => .cons r (Reps.take n t)
theorem Reps.drop : ∀ {ds : List D} {vs : List V} (n : Nat), Reps K ρ M H ds vs → Reps K ρ M H (ds.drop n) (vs.drop n)
  | _, _, 0, r => r
  | _, _, _ + 1, .nil => .nil
  | _, _, n + 1, .cons _ t => Reps.drop n t
theorem Reps.set {d : D} {v : V} (r : Rep K ρ M H d v) : ∀ {ds : List D} {vs : List V} (i : Nat), Reps K ρ M H ds vs → Reps K ρ M H (ds.set i d) (vs.set i v)
  | _, _, _, .nil => .nil
  | _, _, 0, .cons _ t => .cons r t
  | _, _, i + 1, .cons q t => .cons q (Reps.set r i t)
theorem Reps.reverse : ∀ {ds : List D} {vs : List V}, Reps K ρ M H ds vs → Reps K ρ M H ds.reverse vs.reverse
  | _, _, .nil => .nil
  | _, _, .cons r t => by rw [List.reverse_cons, List.reverse_cons]; exact Reps.append (Reps.reverse t) (.cons r .nil)
theorem Reps.eraseIdx : ∀ {ds : List D} {vs : List V} (i : Nat), Reps K ρ M H ds vs → Reps K ρ M H (ds.eraseIdx i) (vs.eraseIdx i)
  | _, _, _, .nil => .nil
  | _, _, 0, .cons _ t => t
  | _, _, i + 1, .cons q t => .cons q (Reps.eraseIdx i t)
theorem Reps.dropLast : ∀ {ds : List D} {vs : List V}, Reps K ρ M H ds vs → Reps K ρ M H ds.dropLast vs.dropLast
  | _, _, .nil => .nil
  | _, _, .cons _ .nil => .nil
  | _, _, .cons q (.cons r t) => .cons q (Reps.dropLast (.cons r t))

/-- what a value leans on stays: the tracked objects but the shared and owned ones -/
structure Keep (ρ : List Addr) (M : Addr → Prop) (H : Hp) (ρ' : List Addr) (M' : Addr → Prop) (H' : Hp) : Prop where
  rho : ∀ (i : Nat) a, ρ[i]? = some a → ρ'[i]? = some a
  keep : ∀ b o, H b = some o → ¬ M b → H' b = some o
  less : ∀ b o, H b = some o → ¬ M b → ¬ M' b
theorem Keep.sd (k : Keep ρ M H ρ' M' H') {a : Addr} {u : HO} (h : Sd M H a u) : Sd M' H' a u := by
  obtain ⟨r, n⟩ := h
  rcases r with r | ⟨o, r⟩
  · exact ⟨.inl (k.keep _ _ r n), k.less _ _ r n⟩
  · exact ⟨.inr ⟨o, k.keep _ _ r n⟩, k.less _ _ r n⟩
mutual
theorem Rep.keep (k : Keep ρ M H ρ' M' H') : ∀ {d : D} {v : V}, Rep K ρ M H d v → Rep K ρ' M' H' d v
  | _, _, .non => .non
  | _, _, .bl b => .bl b
  | _, _, .int i => .int i
  | _, _, .str s h => .str s h
  | _, _, .tup h r => .tup (k.sd h) (Reps.keep k r)
  | _, _, .tupK h r => .tupK h (Reps.keep k r)
  | _, _, .lst h r => .lst (k.sd h) (Reps.keep k r)
  | _, _, .lstK h r => .lstK h (Reps.keep k r)
  | _, _, .dct h r e f => .dct (k.sd h) (Reps.keep k r) e f
  | _, _, .ref h => .ref (k.rho _ _ h)
  | _, _, .scr h r => .scr (k.sd h) (Reps.keep k r)
  | _, _, .scrK h r => .scrK h (Reps.keep k r)
  | _, _, .obj ct h n r e => .obj ct (k.keep _ _ h n) (k.less _ _ h n) (Reps.keep k r) e
theorem Reps.keep (k : Keep ρ M H ρ' M' H') : ∀ {ds : List D} {vs : List V}, Reps K ρ M H ds vs → Reps K ρ' M' H' ds vs
  | _, _, .nil => .nil
  | _, _, .cons r t => .cons (Rep.keep k r) (Reps.keep k t)
end
theorem Sd.tup {a : Addr} {vs : List V} (h : Sd M H a (.tup vs)) : SqT K H a vs := .inl h.1
theorem Sd.lst {a : Addr} {vs : List V} (h : Sd M H a (.lst vs)) : SqL K H a vs := .inl h.1
theorem KTup.tup {a : Addr} {vs : List V} (h : KTup K a vs) : SqT K H a vs := .inr h
theorem KLst.lst {a : Addr} {vs : List V} (h : KLst K a vs) : SqL K H a vs := by
  obtain ⟨_, its, n, h1, h2, h3⟩ := h
  exact .inr ⟨_, its.toArray, n, h1, rfl, rfl, rfl, by simpa using h2, by simpa using h3⟩
theorem Rep.tupI {ds : List D} {v : V} (h : Rep K ρ M H (.tup ds) v) : ∃ a vs, v = .ref a ∧ SqT K H a vs ∧ Reps K ρ M H ds vs := by
  cases h with
  | tup h r => exact ⟨_, _, rfl, h.tup, r⟩
  | tupK h r => exact ⟨_, _, rfl, h.tup, r⟩
theorem Rep.lstI {ds : List D} {v : V} (h : Rep K ρ M H (.lst ds) v) : ∃ a vs, v = .ref a ∧ SqL K H a vs ∧ Reps K ρ M H ds vs := by
  cases h with
  | lst h r => exact ⟨_, _, rfl, h.lst, r⟩
  | lstK h r => exact ⟨_, _, rfl, h.lst, r⟩

theorem Rep.dctI {ks ds : List D} {v : V} (h : Rep K ρ M H (.dct ks ds) v) : ∃ (kt : List (List Nat)) (vs : List V) (a : Addr), ks = kt.map .str ∧ v = .ref a ∧ Sd M H a (.dK (tKv kt vs)) ∧ Reps K ρ M H ds vs ∧ kt.length = ds.length ∧ ∀ k ∈ kt, strOk k = true := by
  cases h with
  | dct h r e f => exact ⟨_, _, _, rfl, rfl, h, r, e, f⟩
theorem Rep.scrI {ds : List D} {v : V} (h : Rep K ρ M H (.scr ds) v) : ∃ a vs, v = .ref a ∧ SqL K H a vs ∧ Reps K ρ M H ds vs := by
  cases h with
  | scr h r => exact ⟨_, _, rfl, h.lst, r⟩
  | scrK h r => exact ⟨_, _, rfl, .inr h, r⟩

theorem plain_nob {d : D} (h : plain d = true) : ∀ c fs ds, d ≠ .obj c fs ds := fun c fs ds e => by subst e; cases h
/-- as it lies just now: a list may be shared or owned -/
inductive Rep0 (K : PySem.W.Frag) (ρ : List Addr) (M : Addr → Prop) (H : Hp) : D → V → Prop
  | of {d : D} {v : V} : Rep K ρ M H d v → Rep0 K ρ M H d v
  | lst {ds : List D} {vs : List V} {a : Addr} : H a = some (.lst vs) → Reps K ρ M H ds vs → Rep0 K ρ M H (.lst ds) (.ref a)
  | obj {c : String} {fs : List String} {ds : List D} {vs : List V} {a dx : Addr} : ClT K c → H a = some (.ins (He.ga K c) dx (insF fs vs)) → Reps K ρ M H ds vs → fs.length = ds.length → Rep0 K ρ M H (.obj c fs ds) (.ref a)
theorem Rep0.lstI {ds : List D} {v : V} (h : Rep0 K ρ M H (.lst ds) v) : ∃ a vs, v = .ref a ∧ SqL K H a vs ∧ Reps K ρ M H ds vs := by
  cases h with
  | of h => exact h.lstI
  | lst h r => exact ⟨_, _, rfl, SqL.of h, r⟩
/-- a list's very object -/
def LstAt (K : PySem.W.Frag) (H : Hp) (a : Addr) (vs : List V) : Prop := Rd H a (.lst vs) ∨ KLst K a vs
theorem LstAt.sq {a : Addr} {vs : List V} (h : LstAt K H a vs) : SqL K H a vs := h.elim .inl KLst.lst
theorem LstAt.obj {X : Cx} {pins : List (Addr × Obj)} {σ : St} {s : Shared} {a : Addr} {vs : List V} (I : Inv X pins σ H s) (h : LstAt X.K H a vs) :
    ∃ (its : List Value) (n : Nat), Vals vs its ∧ s.heap.get? a = some { cls := .type "list", data := .seq its.toArray n } ∧ its.length ≤ sizeLine := by
  rcases h with h | ⟨_, its, n, h1, h2, h3⟩
  · obtain ⟨z, its, n, r, e⟩ : vs.length ≤ sizeLine ∧ ∃ (its : List Value) (n : Nat), Vals vs its ∧ s.heap.get? a = some { cls := .type "list", data := .seq its.toArray n } := h.ok I.hok
    exact ⟨its, n, r, e, by rw [← r.length]; exact z⟩
  · exact ⟨its, n, h3, I.kIn _ _ h1, h2⟩
theorem Rep.lstX {ds : List D} {v : V} (h : Rep K ρ M H (.lst ds) v) : ∃ a vs, v = .ref a ∧ LstAt K H a vs ∧ Reps K ρ M H ds vs := by
  cases h with
  | lst h r => exact ⟨_, _, rfl, .inl h.1, r⟩
  | lstK h r => exact ⟨_, _, rfl, .inr h, r⟩
theorem Rep0.lstX {ds : List D} {v : V} (h : Rep0 K ρ M H (.lst ds) v) : ∃ a vs, v = .ref a ∧ LstAt K H a vs ∧ Reps K ρ M H ds vs := by
  cases h with
  | of h => exact h.lstX
  | lst h r => exact ⟨_, _, rfl, .inl (.inl h), r⟩
theorem Rep0.rep {d : D} {v : V} (h : Rep0 K ρ M H d v) (n : ∀ ds, d ≠ .lst ds) (n2 : ∀ c fs ds, d ≠ .obj c fs ds := by nofun) : Rep K ρ M H d v := by
  cases h with
  | of h => exact h
  | lst _ _ => exact absurd rfl (n _)
  | obj _ _ _ _ => exact absurd rfl (n2 _ _ _)
end

/-! ### the state -/
/-- a is owned by a local -/
def OwnAt (env : List Slt) (σ : St) (a : Addr) : Prop := ∃ (i : Nat) (d : D), env[i]? = some (.own d) ∧ σ[i]? = some (some (.ref a))
def Mu (ρ : List Addr) (F : Addr → Prop) (env : List Slt) (σ : St) : Addr → Prop := fun a => a ∈ ρ ∨ F a ∨ OwnAt env σ a
inductive RepO (K : PySem.W.Frag) (ρ : List Addr) (M : Addr → Prop) (H : Hp) : Ob → Addr → Prop
  | lst {ds : List D} {vs : List V} {a : Addr} : H a = some (.lst vs) → Reps K ρ M H ds vs → RepO K ρ M H (.lst ds) a
inductive RepW (K : PySem.W.Frag) (ρ : List Addr) (M : Addr → Prop) (H : Hp) : D → Addr → Prop
  | lst {ds : List D} {vs : List V} {a : Addr} : H a = some (.lst vs) → Reps K ρ M H ds vs → RepW K ρ M H (.lst ds) a
  | obj {c : String} {fs : List String} {ds : List D} {vs : List V} {a dx : Addr} : ClT K c → H a = some (.ins (He.ga K c) dx (insF fs vs)) → Reps K ρ M H ds vs → fs.length = ds.length → RepW K ρ M H (.obj c fs ds) a
structure Sim (K : PySem.W.Frag) (ρ : List Addr) (F : Addr → Prop) (s : MS) (σ : St) (H : Hp) : Prop where
  rl : ρ.length = s.hp.length
  rn : ρ.Nodup
  rF : ∀ a ∈ ρ, ¬ F a
  hp : ∀ (i : Nat) ob a, s.hp[i]? = some ob → ρ[i]? = some a → RepO K ρ (Mu ρ F s.env σ) H ob a
  bs : ∀ (i : Nat) ob, i < s.bs → s.hp[i]? = some ob → belowO s.bs ob = true
  bl : s.bs ≤ s.hp.length
  fT : ∀ a, F a → ∃ o, H a = some o
  el : s.env.length = σ.length
  sv : ∀ (i : Nat) d, s.env[i]? = some (.val d) → ∃ v, σ[i]? = some (some v) ∧ Rep K ρ (Mu ρ F s.env σ) H d v
  so : ∀ (i : Nat) d, s.env[i]? = some (.own d) → ∃ a, σ[i]? = some (some (.ref a)) ∧ RepW K ρ (Mu ρ F s.env σ) H d a ∧ a ∉ ρ ∧ ¬ F a
  oi : ∀ (i j : Nat) di dj a, s.env[i]? = some (.own di) → s.env[j]? = some (.own dj) → σ[i]? = some (some (.ref a)) → σ[j]? = some (some (.ref a)) → i = j
section
variable {K : PySem.W.Frag} {ρ ρ' : List Addr} {F : Addr → Prop} {s s' : MS} {σ σ' : St} {H H' : Hp}
theorem RepO.there {M : Addr → Prop} {ob : Ob} {a : Addr} (h : RepO K ρ M H ob a) : ∃ o, H a = some o := by
  cases h with
  | lst h _ => exact ⟨_, h⟩
theorem RepW.there {M : Addr → Prop} {d : D} {a : Addr} (h : RepW K ρ M H d a) : ∃ o, H a = some o := by
  cases h with
  | lst h _ => exact ⟨_, h⟩
  | obj _ h _ _ => exact ⟨_, h⟩
theorem Sim.rho_there (S : Sim K ρ F s σ H) {a : Addr} (h : a ∈ ρ) : ∃ o, H a = some o := by
  obtain ⟨i, hi, e⟩ := List.mem_iff_getElem.mp h
  have hl : i < s.hp.length := by rw [← S.rl]; exact hi
  exact (S.hp i s.hp[i] a (by simp [hl]) (by rw [← e]; simp [hi])).there
theorem Sim.own_there (S : Sim K ρ F s σ H) {a : Addr} (h : OwnAt s.env σ a) : ∃ o, H a = some o := by
  obtain ⟨i, d, e1, e2⟩ := h
  obtain ⟨b, e3, r, _⟩ := S.so i d e1
  rw [e2] at e3
  cases e3
  exact r.there
theorem Sim.mu_there (S : Sim K ρ F s σ H) {a : Addr} (h : Mu ρ F s.env σ a) : ∃ o, H a = some o := by
  rcases h with h | h | h
  · exact S.rho_there h
  · exact S.fT a h
  · exact S.own_there h
/-- everything that was tracked stays: new things alone -/
def Grow (H H' : Hp) : Prop := ∀ b o, H b = some o → H' b = some o
theorem Grow.refl (H : Hp) : Grow H H := fun _ _ h => h
theorem Grow.trans {H1 : Hp} (a : Grow H H1) (b : Grow H1 H') : Grow H H' := fun c o h => b c o (a c o h)
theorem Grow.upd {p : Addr} {o : HO} (h : H p = none) : Grow H (upd H p o) := fun b u e => by rw [upd_ne (ne_of_none e h)]; exact e
theorem Grow.keep (g : Grow H H') (M : Addr → Prop) : Keep ρ M H ρ M H' := ⟨fun _ _ h => h, fun b o e _ => g b o e, fun _ _ _ n => n⟩
theorem RepO.keep {M M' : Addr → Prop} {ob : Ob} {a : Addr} (k : Keep ρ M H ρ' M' H') (ha : ∀ o, H a = some o → H' a = some o) (h : RepO K ρ M H ob a) : RepO K ρ' M' H' ob a := by
  cases h with
  | lst h r => exact .lst (ha _ h) (r.keep k)
theorem RepW.keep {M M' : Addr → Prop} {d : D} {a : Addr} (k : Keep ρ M H ρ' M' H') (ha : ∀ o, H a = some o → H' a = some o) (h : RepW K ρ M H d a) : RepW K ρ' M' H' d a := by
  cases h with
  | lst h r => exact .lst (ha _ h) (r.keep k)
  | obj ct h r e => exact .obj ct (ha _ h) (r.keep k) e
theorem Sim.grow (S : Sim K ρ F s σ H) (g : Grow H H') : Sim K ρ F s σ H' := by
  have k : Keep ρ (Mu ρ F s.env σ) H ρ (Mu ρ F s.env σ) H' := g.keep _
  refine ⟨S.rl, S.rn, S.rF, fun i ob a e1 e2 => (S.hp i ob a e1 e2).keep k fun o e => g _ _ e, S.bs, S.bl, fun a h => ?_, S.el, fun i d e => ?_, fun i d e => ?_, S.oi⟩
  · obtain ⟨o, e⟩ := S.fT a h
    exact ⟨o, g _ _ e⟩
  · obtain ⟨v, e1, r⟩ := S.sv i d e
    exact ⟨v, e1, r.keep k⟩
  · obtain ⟨a, e1, r, n1, n2⟩ := S.so i d e
    exact ⟨a, e1, r.keep k fun o e => g _ _ e, n1, n2⟩
/-- how shared numbers and the heap go on over a piece of a frame's code: O, what the frame's locals own -/
structure Ext (ρ : List Addr) (O : Addr → Prop) (H : Hp) (ρ' : List Addr) (H' : Hp) : Prop where
  pre : ∃ r, ρ' = ρ ++ r
  new : ∀ a ∈ ρ', a ∈ ρ ∨ H a = none
  keep : ∀ b o, H b = some o → b ∉ ρ → ¬ O b → H' b = some o
  there : ∀ b o, H b = some o → ∃ o', H' b = some o'
theorem Ext.of_grow {O : Addr → Prop} (g : Grow H H') : Ext ρ O H ρ H' := ⟨⟨[], by simp⟩, fun _ h => .inl h, fun b o e _ _ => g b o e, fun b o e => ⟨o, g b o e⟩⟩
theorem Ext.refl {O : Addr → Prop} : Ext ρ O H ρ H := .of_grow (Grow.refl H)
theorem Ext.rho {O : Addr → Prop} (x : Ext ρ O H ρ' H') (i : Nat) (a : Addr) (h : ρ[i]? = some a) : ρ'[i]? = some a := by
  obtain ⟨r, e⟩ := x.pre
  rw [e, List.getElem?_append_left (List.getElem?_eq_some_iff.mp h).1]
  exact h
theorem Ext.mem {O : Addr → Prop} (x : Ext ρ O H ρ' H') {a : Addr} (h : a ∈ ρ) : a ∈ ρ' := by
  obtain ⟨r, e⟩ := x.pre
  rw [e]
  exact List.mem_append_left _ h
end
end Tw
end

section
set_option linter.all false
set_option autoImplicit false
set_option maxRecDepth 100000
set_option maxHeartbeats 4000000
/-! tuple * 0, tuple * 1; text * n; a text within a text. -/
namespace Tw
open PySem L2 PySem.Spec PyProof.Rows
section
variable {l : Addr} {its : Array Value} {n : Nat} {dd : Option Addr} {sl : Array (Option Value)} {u : Tok}
theorem mul_none (h0 : its.isEmpty = false) : Meets (Builtin.«tuple.__mul__» ⟨[.ref l, .int 0 u], []⟩) (fun _ R s => s.heap.get? l = some { cls := .type "tuple", dict := dd, data := .seq its n, slots := sl } ∧
      R (.ok (.ret (.ref s.heap.objs.size))) { s with heap := s.heap.push { cls := .type "tuple", data := .seq #[] }, toks := s.toks }) :=
  .of_wp fun prog w A R s h => by
    obtain ⟨hp, g, d, tk, os⟩ := s
    obtain ⟨hl, h⟩ := h
    have f1 := AutoSeq1.idx_int
    wp_walk using wpAny_loadPart' hl
    repeat (first
      | (refine wpAny_ite_false (by simp [h0]) ?_; wp_walk using wpAny_loadPart' hl)
      | (refine wpAny_ite_true (by simp [h0]) ?_; wp_walk using wpAny_loadPart' hl))
    exact ⟨_, rfl, h⟩
theorem mul_same (h0 : its.isEmpty = false) : Meets (Builtin.«tuple.__mul__» ⟨[.ref l, .int 1 u], []⟩) (fun _ R s => s.heap.get? l = some { cls := .type "tuple", dict := dd, data := .seq its n, slots := sl } ∧
      R (.ok (.ret (.ref l))) s) :=
  .of_wp fun prog w A R s h => by
    obtain ⟨hp, g, d, tk, os⟩ := s
    obtain ⟨hl, h⟩ := h
    have f1 := AutoSeq1.idx_int
    wp_walk using wpAny_loadPart' hl
    repeat (first
      | (refine wpAny_ite_false (by simp [h0]) ?_; wp_walk using wpAny_loadPart' hl)
      | (refine wpAny_ite_true (by simp [h0]) ?_; wp_walk using wpAny_loadPart' hl))
    exact ⟨_, rfl, h⟩
end
section
variable {X : Cx}
def rRep01 (K : PySem.W.Frag) : R2 := fun x y H Q => ∃ l k xs, x = .ref l ∧ y = .int k ∧ SqT K H l xs ∧ xs ≠ [] ∧ ((k = 0 ∧ ∀ p, H p = none → Q (.ref p) (upd H p (.tup []))) ∨ (k = 1 ∧ Q (.ref l) H))
theorem op_rep01 : OpR X (binaryOp .Mult) (rRep01 X.K) := by
  intro pins s σ H x y v u Q I rx ry h
  obtain ⟨l, k, xs, rfl, rfl, hT, hne, q⟩ := h
  cases rx
  obtain ⟨t, rfl⟩ := ry
  obtain ⟨its, r, ⟨⟨cls, dd, data, sl⟩, ho, hc, n, hd⟩, hs⟩ := I.tuple hT
  simp only at hc hd
  subst hc hd
  have hi : its.toArray.isEmpty = false := by
    cases its with
    | nil =>
      have e := r.length
      exact absurd (List.eq_nil_of_length_eq_zero e) hne
    | cons a b => rfl
  have hT1 : s.TypeIs (.ref l) "tuple" := ⟨_, ho, rfl⟩
  rcases q with ⟨rfl, q⟩ | ⟨rfl, q⟩
  · refine wpAny_binaryOp_repeat_ref (T := "tuple") (U := "int") (by decide) hT1 (fun s' => typeIs_int s' 0 t) noFill_tuple_mul F.fills_int_mul F.slot_int_rmul repeat_tuple F.slot_int_index.lookup
      (call_meets F.slot_int_rmul (typeIs_int s 0 t) F.entry_int_rmul (F.args_int_rmul_2 _ _) (int_rmul_tuple 0 t l its.toArray n dd sl)
        ⟨ho, rfl, hT1, call_meets F.slot_tuple_mul hT1 F.entry_tuple_mul (F.args_tuple_mul_2 _ _) (mul_none hi) ⟨ho, ?_⟩⟩)
    refine ⟨.ref s.heap.objs.size, _, I.laid (t' := s.toks) (o := .tup []) (fun b ob q => Heap.get?_push_of_some _ q) (Nat.le_refl _) ?_, rfl, q _ (I.hok.fresh (Nat.le_refl _))⟩
    exact ⟨by rw [sizeLine_eq]; exact Nat.zero_le _, [], .nil, IsTup.new _ _⟩
  · exact wpAny_binaryOp_repeat_ref (T := "tuple") (U := "int") (by decide) hT1 (fun s' => typeIs_int s' 1 t) noFill_tuple_mul F.fills_int_mul F.slot_int_rmul repeat_tuple F.slot_int_index.lookup
      (call_meets F.slot_int_rmul (typeIs_int s 1 t) F.entry_int_rmul (F.args_int_rmul_2 _ _) (int_rmul_tuple 1 t l its.toArray n dd sl)
        ⟨ho, rfl, hT1, call_meets F.slot_tuple_mul hT1 F.entry_tuple_mul (F.args_tuple_mul_2 _ _) (mul_same hi) ⟨ho, .ref l, H, I, rfl, q⟩⟩)
theorem foldl_txt (z : Array Nat) : ∀ (m : Nat) (acc : Array Nat), (List.foldl (fun x1 x2 => x1 ++ x2) acc (List.replicate m z)) = (acc.toList ++ (List.replicate m z.toList).flatten).toArray
  | 0, acc => by simp
  | m + 1, acc => by
    rw [List.replicate_succ, List.foldl_cons, foldl_txt z m, List.replicate_succ, List.flatten_cons, Array.toList_append, List.append_assoc]
theorem rep_len (z : List Nat) : ∀ m : Nat, (repS z m).length = m * z.length
  | 0 => by simp [repS]
  | m + 1 => by
    have := rep_len z m
    unfold repS at this ⊢
    rw [List.replicate_succ, List.flatten_cons, List.length_append, this, Nat.succ_mul, Nat.add_comm]
def rRepS : R2 := fun x y H Q => ∃ (z : List Nat) (k : Int), x = .str ⟨z.toArray⟩ ∧ y = .int k ∧ z ≠ [] ∧ 0 ≤ k ∧ k ≤ 1000 ∧ z.length ≤ 1000 ∧ Q (.str ⟨(repS z k.toNat).toArray⟩) H
theorem op_repS : OpR X (binaryOp .Mult) rRepS := by
  intro pins s σ H x y v u Q I rx ry h
  obtain ⟨z, k, rfl, rfl, hne, h1, h2, hz, q⟩ := h
  obtain ⟨t, rfl⟩ := rx
  obtain ⟨t', rfl⟩ := ry
  have hl : (⟨z.toArray⟩ : Str).length = z.length := by simp [Str.length]
  have hz0 : 0 < z.length := List.length_pos_iff.mpr hne
  by_cases k0 : k = 0
  · subst k0
    refine PySem.P.mul_str_none (by decide) (by decide) ?_
    refine ⟨.str _, H, I.tok _, ⟨_, rfl⟩, ?_⟩
    have e : (⟨(repS z (0 : Int).toNat).toArray⟩ : Str) = Str.empty := by
      show (⟨((List.replicate 0 z).flatten).toArray⟩ : Str) = _
      rfl
    rw [e] at q
    exact q
  by_cases k1 : k = 1
  · subst k1
    refine PySem.P.mul_str (by decide) (fun _ h => by cases h) (fun _ h => by cases h) ?_
    rw [if_neg (by decide), if_pos (by rfl)]
    have e : (⟨(repS z (1 : Int).toNat).toArray⟩ : Str) = ⟨z.toArray⟩ := by
      show (⟨((List.replicate 1 z).flatten).toArray⟩ : Str) = _
      simp
    rw [e] at q
    exact ⟨.str _, H, I.tok _, ⟨_, rfl⟩, q⟩
  have n1 : (k == 1 || (⟨z.toArray⟩ : Str).length == 0) = false := by
    rw [hl, Bool.or_eq_false_iff]
    exact ⟨beq_eq_false_iff_ne.mpr (by omega), beq_eq_false_iff_ne.mpr (by omega)⟩
  have hb : z.length * k.toNat ≤ 1000000 := by
    have := Nat.mul_le_mul hz (by omega : k.toNat ≤ 1000)
    omega
  refine PySem.P.mul_str (by rw [decide_eq_false (by omega), decide_eq_false (by omega)]; rfl) (fun _ _ => ?_) (fun _ _ => ?_) ?_
  · rw [hl]
    have : (1000000 : Int) ≤ (2 ^ 63 - 1) / k := by
      rw [Int.le_ediv_iff_mul_le (by omega)]
      omega
    omega
  · rw [hl]
    unfold PySem.Builtin.Str.tooLong
    rw [sizeLine_eq]
    exact decide_eq_false (by omega)
  · rw [if_neg (by omega), n1, if_neg Bool.false_ne_true]
    have e : (List.foldl (fun x1 x2 => x1 ++ x2) #[] (List.replicate k.toNat z.toArray)) = (repS z k.toNat).toArray := by
      rw [foldl_txt]
      simp [repS]
    rw [e]
    refine ⟨?_, .str _, H, I.tok _, ⟨_, rfl⟩, q⟩
    have e2 : (⟨(repS z k.toNat).toArray⟩ : Str).length = k.toNat * z.length := by
      show (repS z k.toNat).toArray.size = _
      rw [List.size_toArray, rep_len]
    show (⟨(repS z k.toNat).toArray⟩ : Str).length ≤ sizeLine
    rw [e2, sizeLine_eq, Nat.mul_comm]
    omega
/-- a part of a text -/
theorem partOf_iff (x : List Nat) : ∀ y : List Nat, partOf x y = true ↔ ∃ i, i + x.length ≤ y.length ∧ (y.drop i).take x.length = x
  | [] => by
    constructor
    · intro h
      have : x = [] := by simpa [partOf] using h
      subst this
      exact ⟨0, Nat.le_refl _, rfl⟩
    · rintro ⟨i, h1, h2⟩
      have : x = [] := by
        rw [← h2]
        simp
      subst this
      rfl
  | c :: y => by
    have ih := partOf_iff x y
    show (x.isPrefixOf (c :: y) || partOf x y) = true ↔ _
    rw [Bool.or_eq_true, ih, List.isPrefixOf_iff_prefix]
    constructor
    · rintro (h | ⟨i, h1, h2⟩)
      · refine ⟨0, by simpa using h.length_le, ?_⟩
        rw [List.drop_zero]
        exact (List.prefix_iff_eq_take.mp h).symm
      · exact ⟨i + 1, by simp; omega, by simpa using h2⟩
    · rintro ⟨i, h1, h2⟩
      cases i with
      | zero =>
        left
        rw [List.prefix_iff_eq_take]
        rw [List.drop_zero] at h2
        exact h2.symm
      | succ i =>
        right
        exact ⟨i, by simp at h1; omega, by simpa using h2⟩
theorem found_part (x y : List Nat) : (!(PySem.Builtin.Str.occurrences ⟨y.toArray⟩ ⟨x.toArray⟩ 0 (⟨y.toArray⟩ : Str).length 1).isEmpty) = partOf x y := by
  rw [Bool.eq_iff_iff, PySem.StrLaws.found_iff, partOf_iff]
  have h1 : (⟨y.toArray⟩ : Str).length = y.length := by simp [Str.length]
  have h2 : (⟨x.toArray⟩ : Str).length = x.length := by simp [Str.length]
  rw [h1, h2]
  constructor
  · rintro ⟨i, a, b⟩
    refine ⟨i, a, ?_⟩
    unfold PySem.Builtin.Str.subAt at b
    rw [h2] at b
    have b := congrArg Array.toList (beq_iff_eq.mp b)
    simpa using b
  · rintro ⟨i, a, b⟩
    refine ⟨i, a, ?_⟩
    unfold PySem.Builtin.Str.subAt
    rw [h2, beq_iff_eq]
    apply Array.toList_inj.mp
    simpa using b
end
end Tw
end

section
set_option linter.all false
set_option autoImplicit false
set_option maxRecDepth 100000
set_option maxHeartbeats 4000000
/-! The operators by values. -/
namespace Tw
open PySem L2 PyProof.Rows

def FreshL (K : PySem.W.Frag) (ρ : List Addr) (M : Addr → Prop) (H H' : Hp) (d : D) (w : V) : Prop := ∀ ds, d = .lst ds → ∃ a vs, w = .ref a ∧ H a = none ∧ H' a = some (.lst vs) ∧ Reps K ρ M H ds vs
def Fin (K : PySem.W.Frag) (ρ : List Addr) (M : Addr → Prop) (H : Hp) (d : D) (Q : VK) : Prop := ∀ w H', Grow H H' → Rep K ρ M H' d w → FreshL K ρ M H H' d w → Q w H'
def Tracked (M : Addr → Prop) (H : Hp) : Prop := ∀ a, M a → ∃ o, H a = some o
section
variable {K : PySem.W.Frag} {ρ : List Addr} {M : Addr → Prop} {H : Hp} {Q : VK}
theorem Tracked.no (t : Tracked M H) {p : Addr} (h : H p = none) : ¬ M p := fun m => by
  obtain ⟨o, e⟩ := t p m
  rw [h] at e
  cases e
theorem Fin.same {d : D} {w : V} (f : Fin K ρ M H d Q) (r : Rep K ρ M H d w) (n : ∀ ds, d ≠ .lst ds) : Q w H := f w H (Grow.refl H) r fun ds e => absurd e (n ds)
theorem Fin.int {i : Int} (f : Fin K ρ M H (.int i) Q) : Q (.int i) H := f.same (.int i) nofun
theorem Fin.bl {i : Bool} (f : Fin K ρ M H (.bl i) Q) : Q (.bl i) H := f.same (.bl i) nofun
theorem Fin.str {i : List Nat} (f : Fin K ρ M H (.str i) Q) (h : strOk i = true) : Q (.str ⟨i.toArray⟩) H := f.same (.str i h) nofun
theorem Fin.non (f : Fin K ρ M H .non Q) : Q .non H := f.same .non nofun
theorem Fin.lst {ds : List D} {vs : List V} (f : Fin K ρ M H (.lst ds) Q) (t : Tracked M H) (r : Reps K ρ M H ds vs) (p : Addr) (hp : H p = none) : Q (.ref p) (upd H p (.lst vs)) :=
  f _ _ (Grow.upd hp) (.lst ⟨.inl upd_same, t.no hp⟩ (r.keep ((Grow.upd hp).keep M))) fun _ e => by cases e; exact ⟨p, vs, rfl, hp, upd_same, r⟩
theorem Fin.tup {ds : List D} {vs : List V} (f : Fin K ρ M H (.tup ds) Q) (t : Tracked M H) (r : Reps K ρ M H ds vs) (p : Addr) (hp : H p = none) : Q (.ref p) (upd H p (.tup vs)) :=
  f _ _ (Grow.upd hp) (.tup ⟨.inl upd_same, t.no hp⟩ (r.keep ((Grow.upd hp).keep M))) nofun

theorem Rep.intI {i : Int} {v : V} (h : Rep K ρ M H (.int i) v) : v = .int i := by cases h; rfl
theorem Rep.strI {i : List Nat} {v : V} (h : Rep K ρ M H (.str i) v) : v = .str ⟨i.toArray⟩ ∧ strOk i = true := by
  cases h with
  | str _ h => exact ⟨rfl, h⟩
theorem Rep.blI {i : Bool} {v : V} (h : Rep K ρ M H (.bl i) v) : v = .bl i := by cases h; rfl
theorem Rep.nonI {v : V} (h : Rep K ρ M H .non v) : v = .non := by cases h; rfl
theorem Rep0.intI {i : Int} {v : V} (h : Rep0 K ρ M H (.int i) v) : v = .int i := (h.rep nofun).intI
theorem Rep0.strI {i : List Nat} {v : V} (h : Rep0 K ρ M H (.str i) v) : v = .str ⟨i.toArray⟩ ∧ strOk i = true := (h.rep nofun).strI
theorem Rep0.blI {i : Bool} {v : V} (h : Rep0 K ρ M H (.bl i) v) : v = .bl i := (h.rep nofun).blI
theorem Rep0.nonI {v : V} (h : Rep0 K ρ M H .non v) : v = .non := (h.rep nofun).nonI
theorem Rep0.tupI {ds : List D} {v : V} (h : Rep0 K ρ M H (.tup ds) v) : ∃ a vs, v = .ref a ∧ SqT K H a vs ∧ Reps K ρ M H ds vs := (h.rep nofun).tupI
end

theorem SZ_eq : (SZ : Nat) = sizeLine := by rw [sizeLine_eq]

def boP : Bo → Operator
  | .add => .Add | .sub => .Sub | .mul => .Mult | .fdiv => .FloorDiv | .mod => .Mod | .pow => .Pow | .shl => .LShift | .shr => .RShift | .band => .BitAnd | .bor => .BitOr

def rBin (K : PySem.W.Frag) (o : Bo) : R2 := fun x y H Q => ∃ ρ M dx dy d, Tracked M H ∧ Rep0 K ρ M H dx x ∧ Rep0 K ρ M H dy y ∧ binD o dx dy = some d ∧ Fin K ρ M H d Q

theorem small64_ok {i : Int} (h : small64 i = true) : -(2 ^ 64) < i ∧ i < 2 ^ 64 := by
  have h := of_decide_eq_true h
  constructor <;> omega
theorem mid_ok {i : Int} (h : mid i = true) : i.natAbs < 2 ^ 2000 := of_decide_eq_true h
theorem mulOk_ok {i j : Int} (h : mulOk i j = true) : IntMulOk i j := by
  unfold mulOk at h
  rcases Bool.or_eq_true_iff.mp h with h | h
  · exact CMul.ok (.inl (small64_ok h))
  · rcases Bool.or_eq_true_iff.mp h with h | h
    · exact CMul.ok (.inr (small64_ok h))
    · obtain ⟨h1, h2⟩ := Bool.and_eq_true_iff.mp h
      exact (wide_mul (mid_ok h1) (mid_ok h2) (by decide) (by decide) (by decide)).ok
theorem bitAnd_nn {i j : Int} (hi : 0 ≤ i) (hj : 0 ≤ j) : Builtin.bitAnd i j = ((i.toNat &&& j.toNat : Nat) : Int) := by
  obtain ⟨a, rfl⟩ := Int.eq_ofNat_of_zero_le hi
  obtain ⟨b, rfl⟩ := Int.eq_ofNat_of_zero_le hj
  rfl
section
variable {X : Cx} {pins : List (Addr × Obj)} {s : Shared} {σ : L2.St} {H : Hp} {x y : V} {v u : Value} {Q : VK} {ρ : List Addr} {M : Addr → Prop}
theorem bin_int {o : Bo} {i j : Int} {d : D} (I : Inv X pins σ H s) (rx : RelV (.int i) v) (ry : RelV (.int j) u) (hd : binI o i j = some d) (f : Fin X.K ρ M H d Q) :
    wpAny (model X.prog X.w) X.A (binaryOp (boP o) v u) (EP X pins σ Q) X.xe s := by
  cases o with
  | add => cases hd; exact op_add pins s σ H _ _ v u Q I rx ry ⟨_, _, rfl, rfl, f.int⟩
  | sub => cases hd; exact op_sub pins s σ H _ _ v u Q I rx ry ⟨_, _, rfl, rfl, f.int⟩
  | mul =>
    simp only [binI] at hd
    split at hd
    · rename_i h
      cases hd
      obtain ⟨t, rfl⟩ := rx
      obtain ⟨t', rfl⟩ := ry
      exact mul_int ⟨.int _, H, I.tok _, ⟨_, rfl⟩, f.int⟩ (mulOk_ok h)
    · cases hd
  | fdiv =>
    simp only [binI] at hd
    split at hd
    · rename_i h
      cases hd
      obtain ⟨h1, h2⟩ := Bool.and_eq_true_iff.mp h
      exact op_fdivW pins s σ H _ _ v u Q I rx ry ⟨_, _, rfl, rfl, wide_div (of_decide_eq_true h1) (mid_ok h2) (by decide) (by decide), f.int⟩
    · cases hd
  | mod =>
    simp only [binI] at hd
    split at hd
    · rename_i h
      cases hd
      exact op_mod pins s σ H _ _ v u Q I rx ry ⟨_, _, rfl, rfl, of_decide_eq_true h, f.int⟩
    · cases hd
  | pow =>
    simp only [binI] at hd
    split at hd
    · rename_i h
      cases hd
      obtain ⟨h1, h⟩ := Bool.and_eq_true_iff.mp h
      obtain ⟨h2, h3⟩ := Bool.and_eq_true_iff.mp h
      exact op_pow pins s σ H _ _ v u Q I rx ry ⟨_, _, rfl, rfl, ⟨of_decide_eq_true h1, of_decide_eq_true h2, of_decide_eq_true h3⟩, f.int⟩
    · cases hd
  | shl =>
    simp only [binI] at hd
    split at hd
    · rename_i h
      cases hd
      obtain ⟨h1, h⟩ := Bool.and_eq_true_iff.mp h
      obtain ⟨h2, h3⟩ := Bool.and_eq_true_iff.mp h
      exact op_shl pins s σ H _ _ v u Q I rx ry ⟨_, _, rfl, rfl, ⟨of_decide_eq_true h1, of_decide_eq_true h2, of_decide_eq_true h3⟩, f.int⟩
    · cases hd
  | shr =>
    simp only [binI] at hd
    split at hd
    · rename_i h
      cases hd
      exact op_shr pins s σ H _ _ v u Q I rx ry ⟨_, _, rfl, rfl, of_decide_eq_true h, f.int⟩
    · cases hd
  | band =>
    simp only [binI] at hd
    split at hd
    · rename_i h
      cases hd
      obtain ⟨h1, h2⟩ := Bool.and_eq_true_iff.mp h
      refine op_and pins s σ H _ _ v u Q I rx ry ⟨_, _, rfl, rfl, ?_⟩
      show Q (.int (Builtin.bitAnd i j)) H
      rw [bitAnd_nn (of_decide_eq_true h1) (of_decide_eq_true h2)]
      exact f.int
    · cases hd
  | bor =>
    simp only [binI] at hd
    split at hd
    · rename_i h
      cases hd
      obtain ⟨h1, h2⟩ := Bool.and_eq_true_iff.mp h
      refine op_or pins s σ H _ _ v u Q I rx ry ⟨_, _, rfl, rfl, ?_⟩
      show Q (.int (Builtin.bitOr i j)) H
      rw [Bits.bitOr_pp (of_decide_eq_true h1) (of_decide_eq_true h2)]
      exact f.int
    · cases hd

theorem fitL_ok {ds e : List D} (h : fitL ds = some e) : e = ds ∧ ds.length ≤ sizeLine := by
  unfold fitL at h
  split at h
  · cases h
    exact ⟨rfl, by rw [← SZ_eq]; assumption⟩
  · cases h
theorem Reps.rep : ∀ {ds : List D} {vs : List V} (n : Nat), Reps X.K ρ M H ds vs → Reps X.K ρ M H (repL ds n) (List.replicate n vs).flatten
  | _, _, 0, _ => .nil
  | _, _, n + 1, r => by
    show Reps X.K ρ M H (List.flatten (List.replicate (n + 1) _)) (List.flatten (List.replicate (n + 1) _))
    rw [List.replicate_succ, List.replicate_succ, List.flatten_cons, List.flatten_cons]
    exact r.append (Reps.rep n r)
theorem strOk_app {a b : List Nat} (h : strOk a = true) (h' : strOk b = true) (hz : (a ++ b).length ≤ SZ) : strOk (a ++ b) = true := by
  obtain ⟨_, h2⟩ := Bool.and_eq_true_iff.mp h
  obtain ⟨_, h4⟩ := Bool.and_eq_true_iff.mp h'
  refine Bool.and_eq_true_iff.mpr ⟨decide_eq_true hz, ?_⟩
  rw [List.all_append, h2, h4]
  rfl
theorem strOk_len {a : List Nat} (h : strOk a = true) : a.length ≤ sizeLine := by
  obtain ⟨h1, _⟩ := Bool.and_eq_true_iff.mp h
  rw [← SZ_eq]
  exact of_decide_eq_true h1
theorem small62_ok {i : Int} (h : small62 i = true) : -(2 ^ 62) ≤ i ∧ i < 2 ^ 62 := by
  obtain ⟨h1, h2⟩ := Bool.and_eq_true_iff.mp h
  have h1 := of_decide_eq_true h1
  have h2 := of_decide_eq_true h2
  constructor <;> omega
theorem Reps.nil_iff {ds : List D} {vs : List V} (r : Reps X.K ρ M H ds vs) : vs = [] ↔ ds = [] := by
  cases r with
  | nil => simp
  | cons _ _ => simp
theorem op_bin {o : Bo} : OpR X (binaryOp (boP o)) (rBin X.K o) := by
  intro pins s σ H x y v u Q I rx ry h
  obtain ⟨ρ, M, dx, dy, d, t, r1, r2, hd, f⟩ := h
  unfold binD at hd
  split at hd
  · rw [r1.intI] at rx
    rw [r2.intI] at ry
    exact bin_int I rx ry hd f
  · rename_i a b
    obtain ⟨e1, o1⟩ := r1.strI
    obtain ⟨e2, o2⟩ := r2.strI
    unfold fitS at hd
    split at hd
    · rename_i hz
      cases hd
      rw [e1] at rx
      rw [e2] at ry
      have e : ((⟨a.toArray⟩ : Str) ++ (⟨b.toArray⟩ : Str)) = ⟨(a ++ b).toArray⟩ := by
        show (⟨a.toArray ++ b.toArray⟩ : Str) = _
        simp
      refine op_add_str pins s σ H _ _ v u Q I rx ry ⟨_, _, rfl, rfl, ?_, ?_⟩
      · show a.toArray.size + b.toArray.size ≤ sizeLine
        rw [← SZ_eq]
        simpa using hz
      · rw [e]
        exact f.str (strOk_app o1 o2 hz)
    · cases hd
  · rename_i xs ys
    obtain ⟨a, vs, rfl, h1, q1⟩ := r1.tupI
    obtain ⟨b, ws, rfl, h2, q2⟩ := r2.tupI
    obtain ⟨e, he, rfl⟩ := Option.map_eq_some_iff.mp hd
    obtain ⟨rfl, hz⟩ := fitL_ok he
    refine op_catA pins s σ H _ _ v u Q I rx ry ⟨a, b, vs, ws, rfl, rfl, h1, h2, ?_, fun e => ?_, fun _ e => ?_, fun _ _ p hp => f.tup t (q1.append q2) p hp⟩
    · rw [← q1.length, ← q2.length, ← List.length_append]
      exact hz
    · have e := q1.nil_iff.mp e
      subst e
      exact f.same (r2.rep nofun) nofun
    · have e := q2.nil_iff.mp e
      subst e
      rw [List.append_nil] at f
      exact f.same (r1.rep nofun) nofun
  · rename_i xs ys
    obtain ⟨a, vs, rfl, h1, q1⟩ := r1.lstX
    obtain ⟨b, ws, rfl, h2, q2⟩ := r2.lstX
    obtain ⟨e, he, rfl⟩ := Option.map_eq_some_iff.mp hd
    obtain ⟨rfl, hz⟩ := fitL_ok he
    cases rx
    cases ry
    obtain ⟨its, n, rv, eo, _⟩ := h1.obj I
    obtain ⟨its2, n2, rv2, eo2, _⟩ := h2.obj I
    have hz2 : its.length + its2.length ≤ sizeLine := by
      rw [← rv.length, ← rv2.length, ← q1.length, ← q2.length, ← List.length_append]
      exact hz
    refine PySem.P.add_list eo eo2 ?_ (by rw [List.size_toArray, List.size_toArray]; exact hz2)
    have ea : its.toArray ++ its2.toArray = (its ++ its2).toArray := by simp
    rw [ea]
    exact ⟨.ref _, _, I.lnew (t' := s.toks) (rv.append rv2) (by rw [List.length_append, rv.length, rv2.length]; exact hz2), rfl, f.lst t (q1.append q2) _ I.fresh⟩
  · rename_i xs k
    obtain ⟨a, vs, rfl, h1, q1⟩ := r1.lstX
    rw [r2.intI] at ry
    split at hd
    · rename_i h
      cases hd
      obtain ⟨b1, b2⟩ := Bool.and_eq_true_iff.mp h
      obtain ⟨c1, c2⟩ := small62_ok b1
      have b2 := of_decide_eq_true b2
      cases rx
      obtain ⟨t', rfl⟩ := ry
      obtain ⟨its, n, rv, eo, _⟩ := h1.obj I
      have hl : its.length = xs.length := by rw [← rv.length, ← q1.length]
      have hlen : its.toArray.size * k.toNat ≤ sizeLine := by rw [List.size_toArray, hl, ← SZ_eq]; exact b2
      have hcap : ¬ its.toArray.size * k.toNat > (2 ^ 63 - 1) / 8 := by
        have : (sizeLine : Nat) ≤ (2 ^ 63 - 1) / 8 := by decide
        omega
      have hfit : ¬ (!Builtin.List.listFitsIndex k) = true := by
        rw [fitsIndex_both (by omega) (by omega)]
        exact Bool.false_ne_true
      have hlong : ¬ Builtin.List.listTooLong (its.toArray.size * k.toNat) = true := by
        rw [notLongL hlen]
        exact Bool.false_ne_true
      have hnew : List.foldl (fun x1 x2 => x1 ++ x2) #[] (List.replicate (if its.toArray.isEmpty = true then 0 else k.toNat) its.toArray) = (List.replicate k.toNat its).flatten.toArray := by
        have f0 : ∀ m : Nat, List.foldl (fun x1 x2 => x1 ++ x2) #[] (List.replicate m its.toArray) = (List.replicate m its).flatten.toArray := fun m => by
          have := foldl_rep its m []
          rw [List.nil_append] at this
          exact this
        rw [f0]
        cases its with
        | nil => simp
        | cons a r' => rw [if_neg (by simp)]
      refine wpAny_binaryOp_repeat_ref (T := "list") (U := "int") (by decide) ⟨_, eo, rfl⟩ (fun s' => typeIs_int s' k t') noFill_list_mul F.fills_int_mul F.slot_int_rmul repeat_list F.slot_int_index.lookup
        (call_meets F.slot_int_rmul (typeIs_int s k t') F.entry_int_rmul (F.args_int_rmul_2 _ _) (int___rmul___int_list k t' a its.toArray n)
          ⟨eo, rfl, ⟨_, eo, rfl⟩, call_meets F.slot_list_mul ⟨_, eo, rfl⟩ F.entry_list_mul (F.args_list_mul_2 _ _) (AutoListH.list___mul___list_int_3 a its.toArray n k t' hfit hcap hlong) ⟨eo, ?_⟩⟩)
      rw [hnew]
      exact ⟨.ref _, _, I.lnew (t' := s.toks) (rv.rep k.toNat) (by rw [PyProof.Rows.lm_len_rep_flat, Nat.mul_comm, rv.length]; simpa using hlen), rfl, f.lst t (Reps.rep k.toNat q1) _ I.fresh⟩
    · cases hd
  · rename_i xs k
    obtain ⟨a, vs, rfl, h1, q1⟩ := r1.tupI
    rw [r2.intI] at ry
    split at hd
    · rename_i h
      cases hd
      obtain ⟨b1, h⟩ := Bool.and_eq_true_iff.mp h
      obtain ⟨b2, h⟩ := Bool.and_eq_true_iff.mp h
      obtain ⟨b3, b4⟩ := Bool.and_eq_true_iff.mp h
      have b1 := of_decide_eq_true b1
      have b2 := of_decide_eq_true b2
      have b4 := of_decide_eq_true b4
      have hne : vs ≠ [] := fun e => by
        have e := q1.nil_iff.mp e
        subst e
        cases b3
      by_cases b5 : 2 ≤ k
      · exact op_repT pins s σ H _ _ v u Q I rx ry ⟨a, k, vs, rfl, rfl, h1, hne, b5, b2, by rw [← q1.length]; exact b4, fun p hp => f.tup t (Reps.rep k.toNat q1) p hp⟩
      · refine op_rep01 pins s σ H _ _ v u Q I rx ry ⟨a, k, vs, rfl, rfl, h1, hne, ?_⟩
        rcases (by omega : k = 0 ∨ k = 1) with rfl | rfl
        · exact .inl ⟨rfl, fun p hp => f.tup t .nil p hp⟩
        · refine .inr ⟨rfl, ?_⟩
          have e : repL xs (1 : Int).toNat = xs := by
            show (List.replicate 1 xs).flatten = xs
            simp
          rw [e] at f
          exact f.same (r1.rep nofun) nofun
    · cases hd
  · rename_i z k
    obtain ⟨e1, o1⟩ := r1.strI
    rw [e1] at rx
    rw [r2.intI] at ry
    split at hd
    · rename_i h
      cases hd
      obtain ⟨b1, h⟩ := Bool.and_eq_true_iff.mp h
      obtain ⟨b2, h⟩ := Bool.and_eq_true_iff.mp h
      obtain ⟨b3, b4⟩ := Bool.and_eq_true_iff.mp h
      have b1 := of_decide_eq_true b1
      have b2 := of_decide_eq_true b2
      have b4 := of_decide_eq_true b4
      have hne : z ≠ [] := fun e => by
        subst e
        cases b3
      refine op_repS pins s σ H _ _ v u Q I rx ry ⟨z, k, rfl, rfl, hne, b1, b2, b4, f.str ?_⟩
      unfold strOk
      rw [Bool.and_eq_true]
      constructor
      · refine decide_eq_true ?_
        rw [rep_len]
        have := Nat.mul_le_mul (by omega : k.toNat ≤ 1000) b4
        show _ ≤ 16777216
        omega
      · rw [List.all_eq_true]
        intro c hc
        obtain ⟨l, hl, hcl⟩ := List.mem_flatten.mp hc
        rw [List.eq_of_mem_replicate hl] at hcl
        exact List.all_eq_true.mp (Bool.and_eq_true_iff.mp o1).2 c hcl
    · cases hd
  · cases hd
end
end Tw
end

section
set_option linter.all false
set_option autoImplicit false
set_option maxRecDepth 100000
set_option maxHeartbeats 4000000
/-! Comparisons by values. -/
namespace Tw
open PySem L2 PyProof.Rows

/-! ### plain data as the library's data -/
mutual
def py : D → PyData
  | .non => .none
  | .bl b => .bool b
  | .int i => .int i
  | .str s => .str ⟨s.toArray⟩
  | .tup ds => .tuple (pys ds)
  | .lst ds => .list (pys ds)
  | .dct ks vs => .dict ((pys ks).zip (pys vs))
  | .set _ => .none
  | .obj _ _ _ => .none
  | .ref _ => .none
  | .glo _ => .none
  | .scr _ => .none
def pys : List D → List PyData
  | [] => []
  | d :: ds => py d :: pys ds
end
theorem pys_map : ∀ ds : List D, pys ds = ds.map py
  | [] => rfl
  | d :: ds => by rw [pys, List.map_cons, pys_map ds]
section
variable {K : PySem.W.Frag} {ρ : List Addr} {M : Addr → Prop} {H : Hp}
mutual
theorem Rep.dp : ∀ (d : D) {v : V}, plain d = true → Rep K ρ M H d v → Dp K H v (py d)
  | .non, _, _, r => by rw [r.nonI]; exact .non
  | .bl b, _, _, r => by rw [r.blI]; exact .bl b
  | .int i, _, _, r => by rw [r.intI]; exact .int i
  | .str s, _, _, r => by rw [r.strI.1]; exact .str _
  | .tup ds, _, p, r => by
    obtain ⟨a, vs, rfl, h, q⟩ := r.tupI
    exact .tup h (Reps.dp ds p q)
  | .lst ds, _, p, r => by
    obtain ⟨a, vs, rfl, h, q⟩ := r.lstI
    exact .lst h (Reps.dp ds p q)
  | .dct _ _, _, p, _ => by cases p
  | .set _, _, p, _ => by cases p
  | .obj _ _ _, _, p, _ => by cases p
  | .ref _, _, p, _ => by cases p
  | .glo _, _, p, _ => by cases p
  | .scr _, _, p, _ => by cases p
theorem Reps.dp : ∀ (ds : List D) {vs : List V}, plains ds = true → Reps K ρ M H ds vs → DpAll K H vs (pys ds)
  | [], _, _, .nil => .nil
  | d :: ds, _, p, .cons r t => by
    obtain ⟨p1, p2⟩ := Bool.and_eq_true_iff.mp (show (plain d && plains ds) = true from p)
    exact .cons (Rep.dp d p1 r) (Reps.dp ds p2 t)
end
theorem Rep0.dp {d : D} {v : V} (p : plain d = true) (r : Rep0 K ρ M H d v) : Dp K H v (py d) := by
  cases r with
  | of r => exact r.dp d p
  | lst h q => exact .lst (SqL.of h) (Reps.dp _ p q)
  | obj _ _ _ _ => cases p
theorem strOk_py {x : List Nat} (h : strOk x = true) : PySem.PyData.strOk ⟨x.toArray⟩ = true := by
  obtain ⟨_, h2⟩ := Bool.and_eq_true_iff.mp h
  unfold PySem.PyData.strOk
  simpa using h2
mutual
theorem Rep.lay : ∀ (d : D) {v : V}, plain d = true → Rep K ρ M H d v → (py d).canLay0 = true
  | .non, _, _, _ => rfl
  | .bl _, _, _, _ => rfl
  | .int _, _, _, _ => rfl
  | .str s, _, _, r => by
    unfold py PyData.canLay0
    exact strOk_py r.strI.2
  | .tup ds, _, p, r => by
    obtain ⟨a, vs, rfl, h, q⟩ := r.tupI
    unfold py PyData.canLay0
    exact Reps.lay ds p q
  | .lst ds, _, p, r => by
    obtain ⟨a, vs, rfl, h, q⟩ := r.lstI
    unfold py PyData.canLay0
    exact Reps.lay ds p q
  | .dct _ _, _, p, _ => by cases p
  | .set _, _, p, _ => by cases p
  | .obj _ _ _, _, p, _ => by cases p
  | .ref _, _, p, _ => by cases p
  | .glo _, _, p, _ => by cases p
  | .scr _, _, p, _ => by cases p
theorem Reps.lay : ∀ (ds : List D) {vs : List V}, plains ds = true → Reps K ρ M H ds vs → PyData.canLayAll0 (pys ds) = true
  | [], _, _, _ => by unfold pys PyData.canLayAll0; rfl
  | d :: ds, _, p, .cons r t => by
    obtain ⟨p1, p2⟩ := Bool.and_eq_true_iff.mp (show (plain d && plains ds) = true from p)
    unfold pys PyData.canLayAll0
    rw [Rep.lay d p1 r, Reps.lay ds p2 t]
    rfl
end
theorem Rep0.lay {d : D} {v : V} (p : plain d = true) (r : Rep0 K ρ M H d v) : (py d).canLay0 = true := by
  cases r with
  | of r => exact r.lay d p
  | lst h q =>
    unfold py PyData.canLay0
    exact Reps.lay _ p q
  | obj _ _ _ _ => cases p
end
mutual
theorem depth_py : ∀ d : D, plain d = true → (py d).depth = depthD d
  | .non, _ => by simp [py, PyData.depth, depthD]
  | .bl _, _ => by simp [py, PyData.depth, depthD]
  | .int _, _ => by simp [py, PyData.depth, depthD]
  | .str _, _ => by simp [py, PyData.depth, depthD]
  | .tup ds, p => by unfold py PyData.depth depthD; rw [depths_py ds p]
  | .lst ds, p => by unfold py PyData.depth depthD; rw [depths_py ds p]
  | .dct _ _, p => by cases p
  | .set _, p => by cases p
  | .obj _ _ _, p => by cases p
  | .ref _, p => by cases p
  | .glo _, p => by cases p
  | .scr _, p => by cases p
theorem depths_py : ∀ ds : List D, plains ds = true → PyData.depthAll (pys ds) = depthDs ds
  | [], _ => by simp [pys, PyData.depthAll, depthDs]
  | d :: ds, p => by
    obtain ⟨p1, p2⟩ := Bool.and_eq_true_iff.mp (show (plain d && plains ds) = true from p)
    unfold pys PyData.depthAll depthDs
    rw [depth_py d p1, depths_py ds p2]
end
theorem str_beq (x z : List Nat) : ((⟨x.toArray⟩ : Str) == ⟨z.toArray⟩) = (x == z) := by
  rw [Bool.eq_iff_iff, beq_iff_eq, beq_iff_eq]
  constructor
  · intro h
    injection h with h
    have := congrArg Array.toList h
    simpa using this
  · intro h
    rw [h]
mutual
theorem eqv_py : ∀ d e : D, plain d = true → plain e = true → PyData.eqv (py d) (py e) = eqD d e
  | .non, e, _, q => by cases e <;> first | (simp [py, PyData.eqv, eqD]; done) | cases q
  | .bl a, e, _, q => by cases e <;> first | (simp [py, PyData.eqv, eqD]; done) | cases q
  | .int i, e, _, q => by cases e <;> first | (simp [py, PyData.eqv, eqD]; done) | cases q
  | .str s, e, _, q => by cases e <;> first | (simp [py, PyData.eqv, eqD, str_beq]; done) | cases q
  | .tup ds, e, p, q => by
    cases e with
    | tup es => simp only [py, PyData.eqv, eqD]; exact eqvs_py ds es p q
    | _ => first | (simp [py, PyData.eqv, eqD]; done) | cases q
  | .lst ds, e, p, q => by
    cases e with
    | lst es => simp only [py, PyData.eqv, eqD]; exact eqvs_py ds es p q
    | _ => first | (simp [py, PyData.eqv, eqD]; done) | cases q
  | .dct _ _, _, p, _ => by cases p
  | .set _, _, p, _ => by cases p
  | .obj _ _ _, _, p, _ => by cases p
  | .ref _, _, p, _ => by cases p
  | .glo _, _, p, _ => by cases p
  | .scr _, _, p, _ => by cases p
theorem eqvs_py : ∀ ds es : List D, plains ds = true → plains es = true → PyData.eqvAll (pys ds) (pys es) = eqDs ds es
  | [], [], _, _ => by simp [pys, PyData.eqvAll, eqDs]
  | [], _ :: _, _, _ => by simp [pys, PyData.eqvAll, eqDs]
  | _ :: _, [], _, _ => by simp [pys, PyData.eqvAll, eqDs]
  | d :: ds, e :: es, p, q => by
    obtain ⟨p1, p2⟩ := Bool.and_eq_true_iff.mp (show (plain d && plains ds) = true from p)
    obtain ⟨q1, q2⟩ := Bool.and_eq_true_iff.mp (show (plain e && plains es) = true from q)
    simp only [pys, PyData.eqvAll, eqDs]
    rw [eqv_py d e p1 q1, eqvs_py ds es p2 q2]
end
mutual
theorem alike_py : ∀ d e : D, plain d = true → plain e = true → PySem.W.alike (py d) (py e) = alikeD d e
  | .non, e, _, q => by cases e <;> first | (simp [py, PySem.W.alike, alikeD]; done) | cases q
  | .bl a, e, _, q => by cases e <;> first | (simp [py, PySem.W.alike, alikeD]; done) | cases q
  | .int i, e, _, q => by cases e <;> first | (simp [py, PySem.W.alike, alikeD]; done) | cases q
  | .str s, e, _, q => by cases e <;> first | (simp [py, PySem.W.alike, alikeD]; done) | cases q
  | .tup ds, e, p, q => by
    cases e with
    | tup es => simp only [py, PySem.W.alike, alikeD]; exact alikes_py ds es p q
    | _ => first | (simp [py, PySem.W.alike, alikeD]; done) | cases q
  | .lst ds, e, p, q => by
    cases e with
    | lst es => simp only [py, PySem.W.alike, alikeD]; exact alikes_py ds es p q
    | _ => first | (simp [py, PySem.W.alike, alikeD]; done) | cases q
  | .dct _ _, _, p, _ => by cases p
  | .set _, _, p, _ => by cases p
  | .obj _ _ _, _, p, _ => by cases p
  | .ref _, _, p, _ => by cases p
  | .glo _, _, p, _ => by cases p
  | .scr _, _, p, _ => by cases p
theorem alikes_py : ∀ ds es : List D, plains ds = true → plains es = true → PySem.W.alikeAll (pys ds) (pys es) = alikeDs ds es
  | [], [], _, _ => by simp [pys, PySem.W.alikeAll, alikeDs]
  | [], _ :: _, _, _ => by simp [pys, PySem.W.alikeAll, alikeDs]
  | _ :: _, [], _, _ => by simp [pys, PySem.W.alikeAll, alikeDs]
  | d :: ds, e :: es, p, q => by
    obtain ⟨p1, p2⟩ := Bool.and_eq_true_iff.mp (show (plain d && plains ds) = true from p)
    obtain ⟨q1, q2⟩ := Bool.and_eq_true_iff.mp (show (plain e && plains es) = true from q)
    simp only [pys, PySem.W.alikeAll, alikeDs]
    rw [alike_py d e p1 q1, alikes_py ds es p2 q2]
end
open PySem.W in
mutual
theorem lt_py : ∀ d e : D, plain d = true → plain e = true → alikeD d e = true → dataLt (py d) (py e) = ltD d e
  | .non, e, _, q, a => by
    cases e <;> first | (cases a; done) | (unfold dataLt; simp [py, ltD, keyToks]; decide)
  | .bl x, e, _, q, a => by
    cases e with
    | bl y => unfold py; rw [dataLt_bool]; cases x <;> cases y <;> decide
    | _ => cases a
  | .int i, e, _, q, a => by
    cases e with
    | int j => unfold py; rw [dataLt_int]; unfold ltD; rfl
    | _ => cases a
  | .str s, e, _, q, a => by
    cases e with
    | str z => unfold py; rw [dataLt_str]; unfold ltD; simp
    | _ => cases a
  | .tup ds, e, p, q, a => by
    cases e with
    | tup es => unfold py; rw [dataLt_tuple]; unfold ltD; exact lts_py ds es p q a
    | _ => cases a
  | .lst ds, e, p, q, a => by
    cases e with
    | lst es => unfold py; rw [dataLt_list]; unfold ltD; exact lts_py ds es p q a
    | _ => cases a
  | .dct _ _, _, p, _, _ => by cases p
  | .set _, _, p, _, _ => by cases p
  | .obj _ _ _, _, p, _, _ => by cases p
  | .ref _, _, p, _, _ => by cases p
  | .glo _, _, p, _, _ => by cases p
  | .scr _, _, p, _, _ => by cases p
theorem lts_py : ∀ ds es : List D, plains ds = true → plains es = true → alikeDs ds es = true → PyProof.Rows.lexLt itemOrd (keyToksAll (pys ds)) (keyToksAll (pys es)) = ltDs ds es
  | [], [], _, _, _ => by simp only [pys, keyToksAll, ltDs]; decide
  | [], e :: es, _, _, _ => by simp only [pys, keyToksAll, ltDs]; rfl
  | d :: ds, [], _, _, _ => by simp only [pys, keyToksAll, ltDs]; rfl
  | d :: ds, e :: es, p, q, a => by
    obtain ⟨p1, p2⟩ := Bool.and_eq_true_iff.mp (show (plain d && plains ds) = true from p)
    obtain ⟨q1, q2⟩ := Bool.and_eq_true_iff.mp (show (plain e && plains es) = true from q)
    obtain ⟨a1, a2⟩ := Bool.and_eq_true_iff.mp (show (alikeD d e && alikeDs ds es) = true from a)
    simp only [pys, ltDs]
    rw [dataLt_cons (by rw [alike_py d e p1 q1]; exact a1), eqv_py d e p1 q1, lt_py d e p1 q1 a1, lts_py ds es p2 q2 a2]
end
end Tw
end

section
set_option linter.all false
set_option autoImplicit false
set_option maxRecDepth 100000
set_option maxHeartbeats 4000000
/-! Comparisons, truth, items, slices by values. -/
namespace Tw
open PySem L2 PyProof.Rows

def coP : Co → CmpOp
  | .eq => .Eq | .ne => .NotEq | .lt => .Lt | .le => .LtE | .gt => .Gt | .ge => .GtE | .is => .Is | .isn => .IsNot | .inn => .In | .nin => .NotIn

def rCmp (K : PySem.W.Frag) (o : Co) : R2 := fun x y H Q => ∃ ρ M dx dy b, Rep0 K ρ M H dx x ∧ Rep0 K ρ M H dy y ∧ cmpD o dx dy = some b ∧ Q (.bl b) H

theorem okD_plain {d : D} (h : okD d = true) : plain d = true := (Bool.and_eq_true_iff.mp h).1
theorem okD_depth {d : D} (h : okD d = true) : depthD d ≤ 64 := of_decide_eq_true (Bool.and_eq_true_iff.mp h).2
mutual
theorem alike_symm : ∀ d e : D, alikeD d e = alikeD e d
  | .non, e => by cases e <;> rfl
  | .bl _, e => by cases e <;> rfl
  | .int _, e => by cases e <;> rfl
  | .str _, e => by cases e <;> rfl
  | .tup ds, e => by
    cases e with
    | tup es => exact alikes_symm ds es
    | _ => rfl
  | .lst ds, e => by
    cases e with
    | lst es => exact alikes_symm ds es
    | _ => rfl
  | .dct _ _, e => by cases e <;> rfl
  | .set _, e => by cases e <;> rfl
  | .obj _ _ _, e => by cases e <;> rfl
  | .ref _, e => by cases e <;> rfl
  | .glo _, e => by cases e <;> rfl
  | .scr _, e => by cases e <;> rfl
theorem alikes_symm : ∀ ds es : List D, alikeDs ds es = alikeDs es ds
  | [], [] => rfl
  | [], _ :: _ => rfl
  | _ :: _, [] => rfl
  | d :: ds, e :: es => by
    show (alikeD d e && alikeDs ds es) = (alikeD e d && alikeDs es ds)
    rw [alike_symm d e, alikes_symm ds es]
end
section
variable {X : Cx} {pins : List (Addr × Obj)} {s : Shared} {σ : L2.St} {H : Hp} {x y : V} {v u : Value} {Q : VK} {ρ : List Addr} {M : Addr → Prop}
theorem Rep0.shaped {d : D} (h : okD d = true) (r : Rep0 X.K ρ M H d x) : SeqAt.shaped (py d) = true := by
  unfold SeqAt.shaped
  rw [r.lay (okD_plain h), depth_py d (okD_plain h), decide_eq_true (okD_depth h)]
  rfl
theorem Rep0.reads {d : D} (h : plain d = true) (I : Inv X pins σ H s) (r : Rep0 X.K ρ M H d x) (rx : RelV x v) : ∃ as, Reads s.heap v (py d) as := Dp.reads I _ _ _ (r.dp h) rx
theorem py_none {d : D} (h : plain d = true) (n : (!isNon d) = true) : py d ≠ .none := by
  cases d <;> first | (simp [py]; done) | (cases n; done) | cases h
theorem inDs_py : ∀ (ds : List D) (d : D), plain d = true → plains ds = true → ((pys ds).any fun z => PyData.eqv z (py d)) = inDs d ds
  | [], _, _, _ => rfl
  | e :: ds, d, h, p => by
    obtain ⟨p1, p2⟩ := Bool.and_eq_true_iff.mp (show (plain e && plains ds) = true from p)
    unfold pys inDs
    rw [List.any_cons, List.any_cons, eqv_py e d p1 h, inDs_py ds d h p2]
    rfl
theorem room_in {d : D} {ds : List D} (hu : X.A.units + 65 < cLine) (h : okD d = true) : X.A.units + 1 + min (PyData.depthAll (pys ds)) (py d).depth < cLine := by
  have h1 := okD_depth h
  rw [← depth_py d (okD_plain h)] at h1
  have : min (PyData.depthAll (pys ds)) (py d).depth ≤ (py d).depth := Nat.min_le_right _ _
  omega
theorem op_cmp {o : Co} (hu : X.A.units + 65 < cLine) : OpR X (compareOp (coP o)) (rCmp X.K o) := by
  intro pins s σ H x y v u Q I rx ry h
  obtain ⟨ρ, M, dx, dy, b, r1, r2, hd, q⟩ := h
  cases o with
  | eq =>
    simp only [cmpD] at hd
    split at hd
    · rename_i h
      cases hd
      obtain ⟨h1, h2⟩ := Bool.and_eq_true_iff.mp h
      refine op_eqD (by omega) pins s σ H x y v u Q I rx ry ⟨py dx, py dy, r1.dp (okD_plain h1), r2.dp (okD_plain h2), r1.shaped h1, r2.shaped h2, ?_⟩
      rw [eqv_py _ _ (okD_plain h1) (okD_plain h2)]
      exact q
    · cases hd
  | ne =>
    simp only [cmpD] at hd
    split at hd
    · rename_i h
      cases hd
      obtain ⟨h1, h2⟩ := Bool.and_eq_true_iff.mp h
      refine op_neD (by omega) pins s σ H x y v u Q I rx ry ⟨py dx, py dy, r1.dp (okD_plain h1), r2.dp (okD_plain h2), r1.shaped h1, r2.shaped h2, ?_⟩
      rw [eqv_py _ _ (okD_plain h1) (okD_plain h2)]
      exact q
    · cases hd
  | is =>
    simp only [cmpD, isD] at hd
    split at hd
    · rw [r2.nonI] at ry
      refine op_isN pins s σ H x _ v u Q I rx ry ⟨rfl, ?_⟩
      split at hd
      · cases hd
        rw [r1.nonI]
        exact q
      · rename_i hn
        cases hd
        have : x ≠ .non := fun e => by
          subst e
          cases r1 with
          | of r => cases r; exact hn rfl
        rw [decide_eq_false this]
        exact q
    · rw [r2.blI] at ry
      split at hd
      · rw [r1.blI] at rx
        refine op_isBl pins s σ H _ _ v u Q I rx ry ⟨_, _, rfl, rfl, ?_⟩
        cases hd
        rw [← Bool.beq_eq_decide_eq]
        exact q
      · cases hd
    · cases hd
  | isn =>
    simp only [cmpD, isD] at hd
    split at hd
    · rw [r2.nonI] at ry
      refine op_notN pins s σ H x _ v u Q I rx ry ⟨rfl, ?_⟩
      split at hd
      · cases hd
        rw [r1.nonI]
        exact q
      · rename_i hn
        cases hd
        have : x ≠ .non := fun e => by
          subst e
          cases r1 with
          | of r => cases r; exact hn rfl
        rw [decide_eq_false this]
        exact q
    · rw [r2.blI] at ry
      split at hd
      · rw [r1.blI] at rx
        refine op_notBl pins s σ H _ _ v u Q I rx ry ⟨_, _, rfl, rfl, ?_⟩
        cases hd
        rw [← Bool.beq_eq_decide_eq]
        exact q
      · cases hd
    · cases hd
  | lt =>
    simp only [cmpD] at hd
    split at hd
    · rename_i h
      cases hd
      obtain ⟨h0, h⟩ := Bool.and_eq_true_iff.mp h
      obtain ⟨hn, h⟩ := Bool.and_eq_true_iff.mp h
      obtain ⟨h1, h2⟩ := Bool.and_eq_true_iff.mp h
      obtain ⟨as, ra⟩ := r1.reads (okD_plain h1) I rx
      obtain ⟨bs, rb⟩ := r2.reads (okD_plain h2) I ry
      refine PySem.W.lt_data ra rb (by rw [alike_py _ _ (okD_plain h1) (okD_plain h2)]; exact h0) (py_none (okD_plain h1) hn) (SeqAt.room_of_shaped (r1.shaped h1) (by omega)) ⟨.bl _, H, I, rfl, ?_⟩
      rw [lt_py _ _ (okD_plain h1) (okD_plain h2) h0]
      exact q
    · cases hd
  | gt =>
    simp only [cmpD] at hd
    split at hd
    · rename_i h
      cases hd
      obtain ⟨h0, h⟩ := Bool.and_eq_true_iff.mp h
      obtain ⟨hn, h⟩ := Bool.and_eq_true_iff.mp h
      obtain ⟨h1, h2⟩ := Bool.and_eq_true_iff.mp h
      obtain ⟨as, ra⟩ := r1.reads (okD_plain h1) I rx
      obtain ⟨bs, rb⟩ := r2.reads (okD_plain h2) I ry
      refine PySem.W.gt_data ra rb (by rw [alike_py _ _ (okD_plain h1) (okD_plain h2)]; exact h0) (py_none (okD_plain h1) hn) (SeqAt.room_of_shaped (r1.shaped h1) (by omega)) ⟨.bl _, H, I, rfl, ?_⟩
      rw [lt_py _ _ (okD_plain h2) (okD_plain h1) (by rw [alike_symm]; exact h0)]
      exact q
    · cases hd
  | le =>
    simp only [cmpD] at hd
    split at hd
    · rename_i h
      cases hd
      obtain ⟨h0, h⟩ := Bool.and_eq_true_iff.mp h
      obtain ⟨hn, h⟩ := Bool.and_eq_true_iff.mp h
      obtain ⟨h1, h2⟩ := Bool.and_eq_true_iff.mp h
      obtain ⟨as, ra⟩ := r1.reads (okD_plain h1) I rx
      obtain ⟨bs, rb⟩ := r2.reads (okD_plain h2) I ry
      refine PySem.W.le_data ra rb (by rw [alike_py _ _ (okD_plain h1) (okD_plain h2)]; exact h0) (py_none (okD_plain h1) hn) (SeqAt.room_of_shaped (r1.shaped h1) (by omega)) ⟨.bl _, H, I, rfl, ?_⟩
      rw [lt_py _ _ (okD_plain h2) (okD_plain h1) (by rw [alike_symm]; exact h0)]
      exact q
    · cases hd
  | ge =>
    simp only [cmpD] at hd
    split at hd
    · rename_i h
      cases hd
      obtain ⟨h0, h⟩ := Bool.and_eq_true_iff.mp h
      obtain ⟨hn, h⟩ := Bool.and_eq_true_iff.mp h
      obtain ⟨h1, h2⟩ := Bool.and_eq_true_iff.mp h
      obtain ⟨as, ra⟩ := r1.reads (okD_plain h1) I rx
      obtain ⟨bs, rb⟩ := r2.reads (okD_plain h2) I ry
      refine PySem.W.ge_data ra rb (by rw [alike_py _ _ (okD_plain h1) (okD_plain h2)]; exact h0) (py_none (okD_plain h1) hn) (SeqAt.room_of_shaped (r1.shaped h1) (by omega)) ⟨.bl _, H, I, rfl, ?_⟩
      rw [lt_py _ _ (okD_plain h1) (okD_plain h2) h0]
      exact q
    · cases hd
  | inn =>
    simp only [cmpD, inD] at hd
    split at hd
    · rename_i ds
      split at hd
      · rename_i h
        cases hd
        obtain ⟨h1, h2⟩ := Bool.and_eq_true_iff.mp h
        obtain ⟨as, ra⟩ := r1.reads (okD_plain h1) I rx
        obtain ⟨bs, rb⟩ := r2.reads (okD_plain h2) I ry
        refine SeqAt.in_tuple_reads rb ra (r2.lay (okD_plain h2)) (r1.lay (okD_plain h1)) (room_in hu h1) ⟨.bl _, H, I, rfl, ?_⟩
        rw [inDs_py ds dx (okD_plain h1) (okD_plain h2)]
        exact q
      · cases hd
    · rename_i ds
      split at hd
      · rename_i h
        cases hd
        obtain ⟨h1, h2⟩ := Bool.and_eq_true_iff.mp h
        obtain ⟨as, ra⟩ := r1.reads (okD_plain h1) I rx
        obtain ⟨bs, rb⟩ := r2.reads (okD_plain h2) I ry
        refine SeqAt.in_list_reads rb ra (r2.lay (okD_plain h2)) (r1.lay (okD_plain h1)) (room_in hu h1) ⟨.bl _, H, I, rfl, ?_⟩
        rw [inDs_py ds dx (okD_plain h1) (okD_plain h2)]
        exact q
      · cases hd
    · rename_i z
      split at hd
      · rename_i c
        cases hd
        rw [r1.strI.1] at rx
        rw [r2.strI.1] at ry
        refine op_in_sign pins s σ H _ _ v u Q I rx ry ⟨c, _, rfl, rfl, ?_⟩
        rw [List.contains_eq_mem] at q
        exact q
      · rename_i y _
        cases hd
        rw [r1.strI.1] at rx
        rw [r2.strI.1] at ry
        refine op_in_str pins s σ H _ _ v u Q I rx ry ⟨_, _, rfl, rfl, ?_⟩
        rw [found_part]
        exact q
      · cases hd
    · cases hd
  | nin =>
    simp only [cmpD, inD] at hd
    split at hd
    · rename_i ds
      split at hd
      · rename_i h
        cases hd
        obtain ⟨h1, h2⟩ := Bool.and_eq_true_iff.mp h
        obtain ⟨as, ra⟩ := r1.reads (okD_plain h1) I rx
        obtain ⟨bs, rb⟩ := r2.reads (okD_plain h2) I ry
        refine SeqAt.notIn_tuple_reads rb ra (r2.lay (okD_plain h2)) (r1.lay (okD_plain h1)) (room_in hu h1) ⟨.bl _, H, I, rfl, ?_⟩
        rw [inDs_py ds dx (okD_plain h1) (okD_plain h2)]
        exact q
      · cases hd
    · rename_i ds
      split at hd
      · rename_i h
        cases hd
        obtain ⟨h1, h2⟩ := Bool.and_eq_true_iff.mp h
        obtain ⟨as, ra⟩ := r1.reads (okD_plain h1) I rx
        obtain ⟨bs, rb⟩ := r2.reads (okD_plain h2) I ry
        refine SeqAt.notIn_list_reads rb ra (r2.lay (okD_plain h2)) (r1.lay (okD_plain h1)) (room_in hu h1) ⟨.bl _, H, I, rfl, ?_⟩
        rw [inDs_py ds dx (okD_plain h1) (okD_plain h2)]
        exact q
      · cases hd
    · rename_i z
      split at hd
      · rename_i c
        cases hd
        rw [r1.strI.1] at rx
        rw [r2.strI.1] at ry
        refine op_notIn_sign pins s σ H _ _ v u Q I rx ry ⟨c, _, rfl, rfl, ?_⟩
        rw [List.contains_eq_mem] at q
        exact q
      · rename_i y _
        cases hd
        rw [r1.strI.1] at rx
        rw [r2.strI.1] at ry
        refine op_notin_str pins s σ H _ _ v u Q I rx ry ⟨_, _, rfl, rfl, ?_⟩
        rw [found_part]
        exact q
      · cases hd
    · cases hd
/-! ### truth, length -/
theorem tru_of {d : D} {k : Bool} (r : Rep0 X.K ρ M H d x) (h : truthD d = some k) : TruV X.K x H k := by
  unfold truthD at h
  split at h
  · cases h; rw [r.nonI]; rfl
  · cases h; rw [r.blI]; rfl
  · cases h; rw [r.intI]; rfl
  · cases h
    rename_i z
    obtain ⟨e, ok⟩ := r.strI
    rw [e]
    refine ⟨strOk_len ok, ?_⟩
    show (!z.isEmpty) = (((z.toArray.size : Nat) : Int) != 0)
    cases z <;> simp [bne]
    omega
  · cases h
    obtain ⟨a, vs, rfl, h1, q⟩ := r.tupI
    refine .inr (.inl ⟨vs, h1, ?_⟩)
    cases q <;> rfl
  · cases h
    obtain ⟨a, vs, rfl, h1, q⟩ := r.lstI
    refine .inl ⟨vs, h1, ?_⟩
    cases q <;> rfl
  · cases h
/-! ### an item -/
theorem ixN_eq (n : Nat) (i : Int) : ixN n i = L2.ixN n i := by
  unfold ixN L2.ixN
  by_cases h : 0 ≤ i
  · rw [if_pos h, if_pos h]
    by_cases h2 : i.toNat < n
    · rw [if_pos h2, if_pos (by omega)]
    · rw [if_neg h2, if_neg (by omega)]
  · rw [if_neg h, if_neg h]
    by_cases h2 : (-i).toNat ≤ n
    · rw [if_pos h2, if_pos (by omega)]
      congr 1
      omega
    · rw [if_neg h2, if_neg (by omega)]
def rIxD (K : PySem.W.Frag) : R2 := fun x y H Q => ∃ ρ M dx dy d, Rep0 K ρ M H dx x ∧ Rep K ρ M H dy y ∧ ixD dx dy = some d ∧ ∀ w, Rep K ρ M H d w → Q w H
theorem ix_D : IxR X (rIxD X.K) := by
  intro value slice pins s σ H x y v u Q I rx ry h hs
  obtain ⟨ρ, M, dx, dy, d, r1, r2, hd, q⟩ := h
  unfold ixD at hd
  split at hd
  · rename_i ds i
    obtain ⟨a, vs, rfl, h1, q1⟩ := r1.tupI
    obtain ⟨j, hj, hd⟩ := Option.bind_eq_some_iff.mp hd
    obtain ⟨w, hw, rw⟩ := q1.get hd
    rw [r2.intI] at ry
    refine ix_tup value slice pins s σ H _ _ v u Q I rx ry ⟨a, vs, i, w, rfl, rfl, h1, ?_, q w rw⟩ hs
    unfold atI
    rw [← ixN_eq, ← q1.length, hj]
    exact hw
  · rename_i ds i
    obtain ⟨a, vs, rfl, h1, q1⟩ := r1.lstI
    obtain ⟨j, hj, hd⟩ := Option.bind_eq_some_iff.mp hd
    obtain ⟨w, hw, rw⟩ := q1.get hd
    rw [r2.intI] at ry
    refine ix_list value slice pins s σ H _ _ v u Q I rx ry ⟨a, vs, i, w, rfl, rfl, h1, ?_, q w rw⟩ hs
    unfold atI
    rw [← ixN_eq, ← q1.length, hj]
    exact hw
  · rename_i ds i
    obtain ⟨a, vs, rfl, h1, q1⟩ := (r1.rep nofun).scrI
    obtain ⟨j, hj, hd⟩ := Option.bind_eq_some_iff.mp hd
    obtain ⟨w, hw, rw⟩ := q1.get hd
    rw [r2.intI] at ry
    refine ix_list value slice pins s σ H _ _ v u Q I rx ry ⟨a, vs, i, w, rfl, rfl, h1, ?_, q w rw⟩ hs
    unfold atI
    rw [← ixN_eq, ← q1.length, hj]
    exact hw
  · rename_i z i
    obtain ⟨j, hj, hd⟩ := Option.bind_eq_some_iff.mp hd
    obtain ⟨c, hc, rfl⟩ := Option.map_eq_some_iff.mp hd
    obtain ⟨e, ok⟩ := r1.strI
    rw [e] at rx
    rw [r2.intI] at ry
    refine ix_str value slice pins s σ H _ _ v u Q I rx ry ⟨_, i, c, rfl, rfl, strOk_len ok, ?_, q _ (.str [c] ?_)⟩ hs
    · unfold atI
      show (L2.ixN z.length i).bind _ = _
      rw [← ixN_eq, hj]
      simpa using hc
    · obtain ⟨o1, o2⟩ := Bool.and_eq_true_iff.mp ok
      have hm := List.mem_of_getElem? hc
      have := List.all_eq_true.mp o2 c hm
      show (decide ((1 : Nat) ≤ SZ) && [c].all _) = true
      rw [decide_eq_true (by decide), List.all_cons, this]
      rfl
  · cases hd

/-! ### slices -/
theorem cut_eq {α : Type} (xs : List α) (lo hi : Option Int) : cutL xs lo hi = (xs.drop (HT.sIx xs.length 0 lo)).take (HT.sIx xs.length xs.length hi - HT.sIx xs.length 0 lo) := by
  have e : ∀ (n : Nat) (i : Int), clampI n i = HT.sIx n 0 (some i) := fun n i => by
    unfold clampI
    show _ = (if i < 0 then (i + (n : Int)).toNat else min i.toNat n)
    by_cases h : 0 ≤ i
    · rw [if_pos h, if_neg (by omega)]
    · rw [if_neg h, if_pos (by omega)]
      omega
  have e2 : ∀ (n m : Nat) (i : Int), HT.sIx n m (some i) = HT.sIx n 0 (some i) := fun _ _ _ => rfl
  unfold cutL
  cases lo with
  | none =>
    cases hi with
    | none => rfl
    | some j => simp only [e, e2 _ xs.length]; rfl
  | some i =>
    cases hi with
    | none => simp only [e]; rfl
    | some j => simp only [e, e2 _ xs.length]
def rSlD (K : PySem.W.Frag) : V → Option Int → Option Int → Hp → VK → Prop := fun x lo hi H Q => ∃ ρ M dx d, Tracked M H ∧ Rep0 K ρ M H dx x ∧ slcD dx (lo.map .int) (hi.map .int) = some d ∧ Fin K ρ M H d Q
theorem bnd_some (o : Option Int) : bndD (o.map .int) = some o := by cases o <;> rfl
theorem Reps.cut {ds : List D} {vs : List V} (r : Reps X.K ρ M H ds vs) (lo hi : Option Int) : Reps X.K ρ M H (cutL ds lo hi) (cutV vs lo hi) := by
  rw [cut_eq]
  unfold cutV
  rw [r.length]
  exact (r.drop _).take _
theorem strOk_cut {z : List Nat} (h : strOk z = true) (lo hi : Option Int) : strOk (cutL z lo hi) = true := by
  obtain ⟨h1, h2⟩ := Bool.and_eq_true_iff.mp h
  refine Bool.and_eq_true_iff.mpr ⟨decide_eq_true ?_, List.all_eq_true.mpr fun c hc => ?_⟩
  · rw [cut_eq, List.length_take, List.length_drop]
    have := of_decide_eq_true h1
    omega
  · rw [cut_eq] at hc
    exact List.all_eq_true.mp h2 c (List.mem_of_mem_drop (List.mem_of_mem_take hc))
theorem sl_D : SlR X (rSlD X.K) := by
  intro pins s σ H x v vl vu lo hi sl Q I rx hs pl pu h
  obtain ⟨ρ, M, dx, d, t, r, hd, f⟩ := h
  unfold slcD at hd
  rw [bnd_some, bnd_some] at hd
  dsimp only at hd
  split at hd
  · rename_i ds
    cases hd
    obtain ⟨a, vs, rfl, h1, q1⟩ := r.tupI
    refine sl_tupA pins s σ H _ v vl vu lo hi sl Q I rx hs pl pu ⟨a, vs, rfl, h1, fun e => ?_, fun _ p hp => f.tup t (q1.cut lo hi) p hp⟩
    have e1 : cutL ds lo hi = ds := by
      rw [cut_eq, q1.length, e.1, e.2]
      simp [← q1.length]
    rw [e1] at f
    exact f.same (r.rep nofun) nofun
  · rename_i ds
    cases hd
    obtain ⟨a, vs, rfl, h1, q1⟩ := r.lstI
    exact sl_list pins s σ H _ v vl vu lo hi sl Q I rx hs pl pu ⟨a, vs, rfl, h1, fun p hp => f.lst t (q1.cut lo hi) p hp⟩
  · rename_i ds
    cases hd
    obtain ⟨a, vs, rfl, h1, q1⟩ := (r.rep nofun).scrI
    exact sl_list pins s σ H _ v vl vu lo hi sl Q I rx hs pl pu ⟨a, vs, rfl, h1, fun p hp => f.lst t (q1.cut lo hi) p hp⟩
  · rename_i z
    cases hd
    obtain ⟨e, ok⟩ := r.strI
    rw [e] at rx
    refine sl_str pins s σ H _ v vl vu lo hi sl Q I rx hs pl pu ⟨_, rfl, strOk_len ok, ?_⟩
    have e2 : cutS ⟨z.toArray⟩ lo hi = ⟨(cutL z lo hi).toArray⟩ := by
      rw [cut_eq]
      rfl
    rw [e2]
    exact f.str (strOk_cut ok lo hi)
  · cases hd
end
end Tw
end

section
set_option linter.all false
set_option autoImplicit false
set_option maxRecDepth 100000
set_option maxHeartbeats 4000000
/-! list(text). -/
namespace Tw
open PySem PySem.W PySem.Calls PyProof.Rows PyProof.V PySem.Spec
section
variable {prog : Program} {w : World} {A : Around} {s : Shared}
/-- no hint of a text's length is asked for -/
theorem hint_txt {E : Value → Shared → Prop} {x : Str} {t : Tok} {Q : Bool → Shared → Prop} (h : Q false s) : wpAny (model prog w) A (Builtin.List.listLengthHint (.str x t)) Q E s := by
  unfold Builtin.List.listLengthHint
  refine wpAny_bind (wpAny_specialOf (typeIs_str s x t) F.slot_str_len.lookup ?_)
  generalize ez : ("str.__len__" : String) = z
  wp_delta
  rw [show splitId z = some ("str", "__len__") from by subst ez; decide +kernel]
  subst ez
  refine wpAny_bind (wpAny_isInstance (b := true) (typeIs_str s x t) (by rw [isSubtype_type]; kernel_rfl) ?_)
  refine wpAny_ite_split (fun k => absurd k (by decide)) fun _ => ?_
  refine wpAny_ite_split (fun _ => ?_) fun k => absurd (by decide +kernel) k
  exact wpAny_bind (wpAny_typeOf (typeIs_str s x t) (wpAny_pure h))
theorem init_txt {R : Result → Shared → Prop} (hh : A.handled = none) {x : Str} {t : Tok} {S : Addr} (hz : x.cps.size ≤ sizeLine) (hS : s.heap.get? S = some { cls := .type "list", data := .seq #[] })
    (hR : ∀ h' tk acc c, (∀ b o, b ≠ S → s.heap.get? b = some o → h'.get? b = some o) → h'.get? S = some { cls := .type "list", dict := none, data := .seq acc c, slots := #[] } → ItemsOf (SignAt x) acc x.cps.size → R (.ok (.ret .none)) { s with heap := h', toks := tk }) :
    wpAny (model prog w) A.in1 (Builtin.«list.__init__» ⟨[.ref S, .str x t], []⟩)
      (fun fin s' => match fin with | .done f => R (.ok f) s' | .again c' => c'.quiet = true ∧ codeAny (model prog w) A c' R s') (fun e s' => R (.error e) s') s := by
  show wpAny _ _ (Builtin.List.listItems (.ref S) >>= fun old => Builtin.List.listUpdate (.ref S) (fun _ => #[]) >>= fun _ => letGo old.toList.reverse >>= fun _ => Builtin.List.listExtendWith (.ref S) (.str x t) .none) _ _ s
  refine wpAny_bind ?_
  unfold Builtin.List.listItems
  refine wpAny_bind (wpAny_seqItems hS rfl (wpAny_pure ?_))
  show wpAny _ _ (updateSeq S (fun _ => #[]) >>= fun _ => letGo ([] : List Value) >>= fun _ => Builtin.List.listExtendWith (.ref S) (.str x t) .none) _ _ s
  refine wpAny_bind (wpAny_updateSeq hS rfl ?_)
  have e2 := Heap.get?_update_self (Obj.mapSeq (fun _ => (#[] : Array Value))) hS rfl
  generalize eh : s.heap.update S (Obj.mapSeq (fun _ => (#[] : Array Value))) = h2 at e2
  have k2 : ∀ b o, b ≠ S → s.heap.get? b = some o → h2.get? b = some o := fun b o n e => by
    rw [← eh]; exact (Heap.get?_update_other _ _ (Ne.symm n)).trans e
  refine wpAny_bind (wpAny_letGo ?_)
  unfold Builtin.List.listExtendWith
  refine wpAny_bind (wpAny_typeOf (typeIs_str _ x t) ?_)
  have n1 : (Builtin.List.listSameRef (.ref S) (.str x t) || (Value.type "str" == Value.type "list") || (Value.type "str" == Value.type "tuple")) = false := by
    rw [show Builtin.List.listSameRef (.ref S) (.str x t) = false from rfl]; decide
  simp only [n1, Bool.false_eq_true, if_false]
  refine wpAny_bind (wpAny_pyIter_str fun oI St W st => ?_)
  have e3 := Heap.get?_push_of_some oI e2
  have nS : S ≠ h2.objs.size := Nat.ne_of_lt (Heap.lt_size e2)
  have nS' : S ∉ [h2.objs.size] := fun m => nS (List.mem_singleton.mp m)
  refine wpAny_bind (wpAny_holding (hint_txt ?_))
  have go : ∀ (h3 : Heap) (c tk : Nat), St 0 h3 → (∀ b o, b ≠ S → h2.get? b = some o → h3.get? b = some o) → h3.get? S = some { cls := .type "list", data := .seq #[] c } →
      codeAny (model prog w) A (.builtin "list.extend.loop" ⟨[.ref S, .ref h2.objs.size, .none], []⟩) R { s with heap := h3, toks := tk } := by
    intro h3 c tk a0 a1 a2
    refine codeAny_extend_loopS (W A.in1 hh).toS hz S nS' .none x.cps.size 0 _ #[] c rfl (Nat.zero_le _) a0 a2 (ItemsOf.nil _) fun s' acc c' hm b1 b2 => ?_
    rw [Moved.eq_with hm]
    refine hR s'.heap s'.toks acc c' (fun b o n e => hm.heap b o (fun m => ?_) (a1 b o n (k2 b o n e))) b1 b2
    rcases List.mem_cons.mp m with z | m
    · exact n z
    · have lt := Heap.lt_size (k2 b o n e)
      rw [List.mem_singleton.mp m] at lt
      exact Nat.lt_irrefl _ lt
  refine wpAny_ite_split (fun _ => ?_) fun _ => wpAny_pure ⟨plainId_quiet F.plain_extend_loop _, go _ _ _ st (fun b o _ e => Heap.get?_push_of_some _ e) e3⟩
  refine wpAny_bind (wpAny_rule (wpAny_bind ?_))
  show wpAny _ _ (updateSeq S (·.push .none) >>= fun _ => updateSeq S (·.pop)) _ _ _
  refine wpAny_bind (wpAny_updateSeq e3 rfl ?_)
  have e4 := Heap.get?_update_self (Obj.mapSeq (·.push Value.none)) e3 rfl
  refine wpAny_updateSeq (hz := by seq_fits) e4 rfl ?_
  have e5 := Heap.get?_update_self (Obj.mapSeq (·.pop)) e4 rfl
  refine wpAny_pure ⟨plainId_quiet F.plain_extend_loop _, go _ _ _ ?_ (fun b o n e => ?_) e5⟩
  · refine (W A hh).frame 0 _ _ st fun b m o e => ?_
    have n : b ≠ S := fun z => nS' (by rw [← z]; exact m)
    exact (Heap.get?_update_other _ _ (Ne.symm n)).trans ((Heap.get?_update_other _ _ (Ne.symm n)).trans e)
  · exact (Heap.get?_update_other _ _ (Ne.symm n)).trans ((Heap.get?_update_other _ _ (Ne.symm n)).trans (Heap.get?_push_of_some _ e))
theorem call_list_txt {E : Value → Shared → Prop} {Q : Value → Shared → Prop} (hh : A.handled = none) {x : Str} {t : Tok} (hz : x.cps.size ≤ sizeLine)
    (hQ : ∀ h' tk acc c, (∀ b o, s.heap.get? b = some o → h'.get? b = some o) → h'.get? s.heap.objs.size = some { cls := .type "list", dict := none, data := .seq acc c, slots := #[] } → ItemsOf (SignAt x) acc x.cps.size → Q (.ref s.heap.objs.size) { s with heap := h', toks := tk }) :
    wpAny (model prog w) A (call (.type "list") [.str x t]) Q E s := by
  refine callType_codes (Q₁ := fun obj s1 => obj = .ref s.heap.objs.size ∧ s1 = { s with heap := s.heap.push { cls := .type "list", data := .seq #[] } }) F.called_list (F.typeCall_list_1 _) F.entry_list_init (code_list_new _ ⟨rfl, rfl⟩) ?_
  rintro _ _ ⟨rfl, rfl⟩
  have e1 : (s.heap.push { cls := .type "list", data := .seq #[] }).get? s.heap.objs.size = some { cls := .type "list", data := .seq #[] } := Heap.get?_push_size _ rfl
  refine ⟨⟨_, e1, rfl⟩, F.args_list_init_2 _ _, init_txt (A := A.in1) hh hz e1 fun h' tk acc c k1 k2 k3 => ⟨rfl, ?_⟩⟩
  exact hQ h' tk acc c (fun b o e => k1 b o (Nat.ne_of_lt (Heap.lt_size e)) (Heap.get?_push_of_some _ e)) k2 k3
end
section
open L2
theorem vals_signs {z : List Nat} {us : List Value} (hl : us.length = z.length) (h : ∀ (i : Nat) (v : Value), us[i]? = some v → ∃ c u, z[i]? = some c ∧ v = .str ⟨#[c]⟩ u) : Vals (z.map fun c => V.str ⟨#[c]⟩) us := by
  induction z generalizing us with
  | nil =>
    have : us = [] := List.eq_nil_of_length_eq_zero hl
    subst this
    exact .nil
  | cons c z ih =>
    cases us with
    | nil => cases hl
    | cons v us =>
      obtain ⟨c', u, e1, rfl⟩ := h 0 v rfl
      have e1 : some c = some c' := e1
      cases e1
      exact .cons ⟨u, rfl⟩ (ih (by simpa using hl) fun i v e => h (i + 1) v e)
theorem call_listS {X : Cx} (hc : X.calm = true) : CallR X (.type "list") (fun xs H Q => ∃ z : List Nat, xs = [.str ⟨z.toArray⟩] ∧ z.length ≤ sizeLine ∧ ∀ p, H p = none → Q (.ref p) (upd H p (.lst (z.map fun c => V.str ⟨#[c]⟩)))) := by
  intro pins s σ H xs us Q I rx h
  obtain ⟨z, rfl, hz, q⟩ := h
  obtain ⟨u, rfl, ru⟩ := rx.one
  obtain ⟨t, rfl⟩ := ru
  refine call_list_txt (I.ok.hd hc) (by simpa using hz) fun h' tk acc c k1 k2 k3 => ?_
  have ha : acc.toList.length = z.length := by
    have := k3.1
    simpa using this
  have rv : Vals (z.map fun c => V.str ⟨#[c]⟩) acc.toList := vals_signs ha fun i v e => by
    obtain ⟨c, u, e1, e2⟩ := k3.2 i v (by simpa using e)
    exact ⟨c, u, by simpa using e1, e2⟩
  refine ⟨.ref s.heap.objs.size, _, I.laid (t' := tk) (o := .lst (z.map fun c => V.str ⟨#[c]⟩)) k1 (Nat.le_refl _) ?_, rfl, q _ (I.hok.fresh (Nat.le_refl _))⟩
  exact ⟨by rw [List.length_map]; exact hz, acc.toList, c, rv, by simpa using k2⟩
end
end Tw
end

section
set_option linter.all false
set_option autoImplicit false
set_option maxRecDepth 100000
set_option maxHeartbeats 4000000
/-! Built-ins by values. -/
namespace Tw
open PySem L2 PyProof.Rows PySem.W

inductive Rep0s (K : PySem.W.Frag) (ρ : List Addr) (M : Addr → Prop) (H : Hp) : List D → List V → Prop
  | nil : Rep0s K ρ M H [] []
  | cons {d : D} {ds : List D} {v : V} {vs : List V} : Rep0 K ρ M H d v → Rep0s K ρ M H ds vs → Rep0s K ρ M H (d :: ds) (v :: vs)
def rBi (K : PySem.W.Frag) (sh : D → List Nat) (f : Bi) : List V → Hp → VK → Prop := fun xs H Q =>
  ∃ ρ M dxs d, Tracked M H ∧ Rep0s K ρ M H dxs xs ∧ callBi sh f dxs = some d ∧ Fin K ρ M H d Q
def biV : Bi → Value
  | .len => .builtin "len" | .abs => .builtin "abs" | .int => .type "int" | .str => .type "str" | .repr => .builtin "repr" | .bool => .type "bool"
  | .tuple => .type "tuple" | .list => .type "list" | .sorted => .builtin "sorted" | .set => .type "set" | .dict => .type "dict" | .sum => .builtin "sum"
  | .min => .builtin "min" | .max => .builtin "max" | .any => .builtin "any" | .all => .builtin "all" | .divmod => .builtin "divmod" | .min2 => .builtin "min" | .max2 => .builtin "max" | .minl => .builtin "min" | .maxl => .builtin "max"
section
variable {K : PySem.W.Frag} {ρ : List Addr} {M : Addr → Prop} {H : Hp}
theorem Rep0s.one {d : D} {vs : List V} (h : Rep0s K ρ M H [d] vs) : ∃ v, vs = [v] ∧ Rep0 K ρ M H d v := by
  cases h with
  | cons r t => cases t; exact ⟨_, rfl, r⟩
theorem Rep0s.two {d e : D} {vs : List V} (h : Rep0s K ρ M H [d, e] vs) : ∃ v w, vs = [v, w] ∧ Rep0 K ρ M H d v ∧ Rep0 K ρ M H e w := by
  cases h with
  | cons r t => obtain ⟨w, rfl, q⟩ := t.one; exact ⟨_, _, rfl, r, q⟩
theorem Reps.ints : ∀ {ds : List D} {vs : List V} {ns : List Int}, Reps K ρ M H ds vs → allInts ds = some ns → vs = ns.map V.int
  | _, _, ns, .nil, e => by cases e; rfl
  | d :: _, _, ns, .cons r t, e => by
    cases d <;> try cases e
    simp only [allInts, Option.map_eq_some_iff] at e
    obtain ⟨ms, e, rfl⟩ := e
    rw [r.intI, Reps.ints t e]
    rfl
theorem Reps.bls : ∀ {ds : List D} {vs : List V} {ns : List Bool}, Reps K ρ M H ds vs → allBls ds = some ns → vs = ns.map V.bl
  | _, _, ns, .nil, e => by cases e; rfl
  | d :: _, _, ns, .cons r t, e => by
    cases d <;> try cases e
    simp only [allBls, Option.map_eq_some_iff] at e
    obtain ⟨ms, e, rfl⟩ := e
    rw [r.blI, Reps.bls t e]
    rfl
end
theorem foldMin : ∀ (ns : List Int) (d : Int), ns.foldl min d ∈ d :: ns ∧ ∀ y ∈ d :: ns, ns.foldl min d ≤ y
  | [], d => by simp
  | n :: ns, d => by
    obtain ⟨h1, h2⟩ := foldMin ns (min d n)
    simp only [List.foldl_cons]
    constructor
    · rcases List.mem_cons.mp h1 with h | h
      · rw [h]
        rcases Int.le_total d n with q | q
        · rw [Int.min_eq_left q]; simp
        · rw [Int.min_eq_right q]; simp
      · exact List.mem_cons_of_mem _ (List.mem_cons_of_mem _ h)
    · intro y hy
      have hm := h2 (min d n) List.mem_cons_self
      rcases List.mem_cons.mp hy with h | h
      · subst h; omega
      · rcases List.mem_cons.mp h with h | h
        · subst h; omega
        · exact h2 y (List.mem_cons_of_mem _ h)
theorem foldMax : ∀ (ns : List Int) (d : Int), ns.foldl max d ∈ d :: ns ∧ ∀ y ∈ d :: ns, y ≤ ns.foldl max d
  | [], d => by simp
  | n :: ns, d => by
    obtain ⟨h1, h2⟩ := foldMax ns (max d n)
    simp only [List.foldl_cons]
    constructor
    · rcases List.mem_cons.mp h1 with h | h
      · rw [h]
        rcases Int.le_total d n with q | q
        · rw [Int.max_eq_right q]; simp
        · rw [Int.max_eq_left q]; simp
      · exact List.mem_cons_of_mem _ (List.mem_cons_of_mem _ h)
    · intro y hy
      have hm := h2 (max d n) List.mem_cons_self
      rcases List.mem_cons.mp hy with h | h
      · subst h; omega
      · rcases List.mem_cons.mp h with h | h
        · subst h; omega
        · exact h2 y (List.mem_cons_of_mem _ h)
section
variable {K : PySem.W.Frag} {ρ : List Addr} {M : Addr → Prop} {H : Hp}
theorem len_of {d : D} {x : V} {n : Nat} (r : Rep0 K ρ M H d x) (h : lenD d = some n) : LenV K x H n := by
  cases d with
  | str s =>
    obtain ⟨rfl, ok⟩ := r.strI
    cases h
    exact ⟨strOk_len ok, rfl⟩
  | tup ds =>
    obtain ⟨a, vs, rfl, h1, q⟩ := r.tupI
    cases h
    exact .inr ⟨vs, h1, q.length⟩
  | lst ds =>
    obtain ⟨a, vs, rfl, h1, q⟩ := r.lstI
    cases h
    exact .inl ⟨vs, h1, q.length⟩
  | scr ds =>
    obtain ⟨a, vs, rfl, h1, q⟩ := (r.rep nofun).scrI
    cases h
    exact .inl ⟨vs, h1, q.length⟩
  | set ds => cases r with | of r => cases r
  | _ => cases h
end
theorem ofStr (s : String) : Str.ofString s = ⟨(cd s).toArray⟩ := by rw [Str.ofString_eq_byList]; rfl
section
variable {X : Cx} {pins : List (Addr × Obj)} {s : Shared} {σ : L2.St} {H : Hp} {ρ : List Addr} {M : Addr → Prop}
theorem each_of : ∀ {ds : List D} {vs : List V} {us : List Value}, Reps X.K ρ M H ds vs → Vals vs us → EachIs (fun u d => ∃ v, RelV v u ∧ Rep X.K ρ M H d v) us ds
  | _, _, _, .nil, .nil => .nil
  | _, _, _, .cons r t, .cons r' t' => .cons ⟨_, r', r⟩ (each_of t t')
theorem of_each : ∀ {us : List Value} {ds : List D}, EachIs (fun u d => ∃ v, RelV v u ∧ Rep X.K ρ M H d v) us ds → ∃ vs, Vals vs us ∧ Reps X.K ρ M H ds vs
  | _, _, .nil => ⟨[], .nil, .nil⟩
  | _, _, .cons ⟨v, r', r⟩ t => by
    obtain ⟨vs, h1, h2⟩ := of_each t
    exact ⟨v :: vs, .cons r' h1, .cons r h2⟩
theorem each_reads (I : Inv X pins σ H s) : ∀ (ds : List D) {vs : List V} {us : List Value}, plains ds = true → Reps X.K ρ M H ds vs → Vals vs us → EachIs (fun v d => ∃ as, Reads s.heap v (py d) as) us ds
  | [], _, _, _, .nil, .nil => .nil
  | d :: ds, _, _, p, .cons r t, .cons r' t' => by
    obtain ⟨p1, p2⟩ := Bool.and_eq_true_iff.mp (show (plain d && plains ds) = true from p)
    exact .cons (Rep0.reads p1 I (.of r) r') (each_reads I ds p2 t t')
theorem merge_eq {α : Type} {f g : α → α → Bool} : ∀ (xs ys : List α), (∀ x ∈ xs, ∀ y ∈ ys, f x y = g x y) → List.merge xs ys f = List.merge xs ys g
  | [], ys, _ => by simp
  | x :: xs, [], _ => by simp
  | x :: xs, y :: ys, h => by
    rw [List.cons_merge_cons, List.cons_merge_cons, h x List.mem_cons_self y List.mem_cons_self,
      merge_eq xs (y :: ys) fun a ha b hb => h a (List.mem_cons_of_mem _ ha) b hb,
      merge_eq (x :: xs) ys fun a ha b hb => h a ha b (List.mem_cons_of_mem _ hb)]
theorem mergeSort_eq {α : Type} {f g : α → α → Bool} (n : Nat) : ∀ (xs : List α), xs.length ≤ n → (∀ x ∈ xs, ∀ y ∈ xs, f x y = g x y) → xs.mergeSort f = xs.mergeSort g := by
  induction n with
  | zero =>
    intro xs hl _
    cases xs with
    | nil => simp
    | cons x xs => simp at hl
  | succ n ih =>
    intro xs hl h
    match xs, hl, h with
    | [], _, _ => simp
    | [x], _, _ => simp
    | a :: b :: xs, hl, h =>
      rw [List.mergeSort, List.mergeSort]
      simp only [List.MergeSort.Internal.splitInTwo_fst, List.MergeSort.Internal.splitInTwo_snd]
      have l1 : ((a :: b :: xs).take (((a :: b :: xs).length + 1) / 2)).length ≤ n := by
        simp only [List.length_take, List.length_cons] at hl ⊢
        omega
      have l2 : ((a :: b :: xs).drop (((a :: b :: xs).length + 1) / 2)).length ≤ n := by
        simp only [List.length_drop, List.length_cons] at hl ⊢
        omega
      rw [ih _ l1 fun x hx y hy => h x (List.mem_of_mem_take hx) y (List.mem_of_mem_take hy), ih _ l2 fun x hx y hy => h x (List.mem_of_mem_drop hx) y (List.mem_of_mem_drop hy)]
      exact merge_eq _ _ fun x hx y hy => h x (List.mem_of_mem_take (List.mem_mergeSort.mp hx)) y (List.mem_of_mem_drop (List.mem_mergeSort.mp hy))
theorem sort_eq {ds : List D} (kp : ∀ x ∈ ds, plain x = true) (ka : ∀ x ∈ ds, ∀ y ∈ ds, alikeD x y = true) : ds.mergeSort (dataLe false py) = ds.mergeSort leD := by
  refine mergeSort_eq _ ds (Nat.le_refl _) fun x hx y hy => ?_
  rw [dataLe_eq]
  show (!dataLt (py y) (py x)) = leD x y
  rw [lt_py _ _ (kp y hy) (kp x hx) (ka y hy x hx)]
  rfl
theorem plains_all {ds : List D} (h : ds.all okD = true) : plains ds = true := by
  induction ds with
  | nil => rfl
  | cons d ds ih =>
    rw [List.all_cons] at h
    obtain ⟨h1, h2⟩ := Bool.and_eq_true_iff.mp h
    show (plain d && plains ds) = true
    rw [okD_plain h1, ih h2]
    rfl
theorem reps_signs {K : PySem.W.Frag} : ∀ {z : List Nat}, (∀ c ∈ z, c < 1114112) → Reps K ρ M H (z.map fun c => .str [c]) (z.map fun c => V.str ⟨#[c]⟩)
  | [], _ => .nil
  | c :: z, h => by
    refine .cons (.str [c] ?_) (reps_signs fun x hx => h x (List.mem_cons_of_mem _ hx))
    show (decide ((1 : Nat) ≤ SZ) && [c].all _) = true
    rw [decide_eq_true (by decide), List.all_cons, decide_eq_true (h c List.mem_cons_self)]
    rfl
theorem cr_bi (sh : D → List Nat) {f : Bi} (hc : X.calm = true) (hu : X.A.units + 70 < cLine) (hr : f ≠ .repr) (hm2 : f ≠ .min2) (hx2 : f ≠ .max2) (hml : f ≠ .minl) (hxl : f ≠ .maxl) : CallR X (biV f) (rBi X.K sh f) := by
  intro pins s σ H xs us Q I rx h
  obtain ⟨ρ, M, dxs, d, t, r, hd, fin⟩ := h
  unfold callBi at hd
  split at hd
  · obtain ⟨v, rfl, r1⟩ := r.one
    obtain ⟨m, hn, rfl⟩ := Option.map_eq_some_iff.mp hd
    exact call_len pins s σ H _ us Q I rx ⟨v, m, rfl, len_of r1 hn, fin.int⟩
  · obtain ⟨v, rfl, r1⟩ := r.one
    cases hd
    rw [r1.intI] at rx
    exact call_abs pins s σ H _ us Q I rx ⟨_, rfl, fin.int⟩
  · obtain ⟨v, rfl, r1⟩ := r.one
    cases hd
    rw [r1.intI] at rx
    exact call_int1 pins s σ H _ us Q I rx (.inl ⟨_, rfl, fin.int⟩)
  · obtain ⟨v, rfl, r1⟩ := r.one
    cases hd
    rw [r1.blI] at rx
    exact call_int1 pins s σ H _ us Q I rx (.inr ⟨_, rfl, fin.int⟩)
  · obtain ⟨v, rfl, r1⟩ := r.one
    rw [r1.intI] at rx
    split at hd
    · rename_i h
      cases hd
      obtain ⟨h1, h2⟩ := Bool.and_eq_true_iff.mp h
      refine call_str_int pins s σ H _ us Q I rx ⟨_, rfl, of_decide_eq_true h1, ?_⟩
      rw [ofStr]
      exact fin.str h2
    · cases hd
  · obtain ⟨v, rfl, r1⟩ := r.one
    cases hd
    obtain ⟨e, ok⟩ := r1.strI
    rw [e] at rx
    exact SkE.call_str_str pins s σ H _ us Q I rx ⟨_, rfl, fin.str ok⟩
  · exact absurd rfl hr
  · obtain ⟨v, rfl, r1⟩ := r.one
    cases hd
    rw [r1.blI] at rx
    exact call_bool1 pins s σ H _ us Q I rx (.inr ⟨_, rfl, fin.bl⟩)
  · obtain ⟨v, rfl, r1⟩ := r.one
    cases hd
    rw [r1.intI] at rx
    exact call_bool1 pins s σ H _ us Q I rx (.inl ⟨_, rfl, fin.bl⟩)
  · obtain ⟨v, rfl, r1⟩ := r.one
    cases hd
    obtain ⟨a, vs, rfl, h1, q⟩ := r1.lstI
    exact call_tuple_of pins s σ H _ us Q I rx ⟨a, vs, rfl, .inl ⟨h1, fun p hp => fin.tup t q p hp⟩⟩
  · obtain ⟨v, rfl, r1⟩ := r.one
    cases hd
    have r' := r1.rep nofun
    obtain ⟨a, vs, rfl, h1, q⟩ := r1.tupI
    exact call_tuple_of pins s σ H _ us Q I rx ⟨a, vs, rfl, .inr ⟨h1, fin.same r' nofun⟩⟩
  · obtain ⟨v, rfl, r1⟩ := r.one
    cases hd
    obtain ⟨a, vs, rfl, h1, q⟩ := r1.lstI
    exact call_list_of pins s σ H _ us Q I rx ⟨a, vs, rfl, .inl h1, fun p hp => fin.lst t q p hp⟩
  · obtain ⟨v, rfl, r1⟩ := r.one
    cases hd
    obtain ⟨a, vs, rfl, h1, q⟩ := r1.tupI
    exact call_list_of pins s σ H _ us Q I rx ⟨a, vs, rfl, .inr h1, fun p hp => fin.lst t q p hp⟩
  · rename_i z
    obtain ⟨v, rfl, r1⟩ := r.one
    cases hd
    obtain ⟨rfl, ok⟩ := r1.strI
    refine call_listS hc pins s σ H _ us Q I rx ⟨z, rfl, by
      have := (Bool.and_eq_true_iff.mp ok).1
      rw [← SZ_eq]
      exact of_decide_eq_true this, fun p hp => fin.lst t (reps_signs ?_) p hp⟩
    exact fun c hc => of_decide_eq_true (List.all_eq_true.mp (Bool.and_eq_true_iff.mp ok).2 c hc)
  · rename_i ds
    obtain ⟨v, rfl, r1⟩ := r.one
    obtain ⟨a, vs, rfl, h1, q⟩ := r1.lstI
    unfold sortD at hd
    split at hd
    · rename_i h
      cases hd
      obtain ⟨k1, h⟩ := Bool.and_eq_true_iff.mp h
      obtain ⟨k2, k3⟩ := Bool.and_eq_true_iff.mp h
      have kp := plains_all k2
      obtain ⟨u, rfl, ru⟩ := rx.one
      cases ru
      obtain ⟨its, rv, pl, hz⟩ := I.list h1
      have kal : ∀ x ∈ ds, ∀ y ∈ ds, alikeD x y = true := fun x hx y hy => List.all_eq_true.mp (List.all_eq_true.mp k1 x hx) y hy
      have kpl : ∀ x ∈ ds, plain x = true := fun x hx => okD_plain (List.all_eq_true.mp k2 x hx)
      refine sorted_data (enc := py) (bs := ds) pl.isList (each_of q rv) ?_ ?_ ?_ (by rw [q.length]; exact hz) ?_ fun out hl ho => ?_
      · exact each_reads I ds (plains_all k2) q rv
      · intro d hd d' hd'
        obtain ⟨x, hx, rfl⟩ := List.mem_map.mp hd
        obtain ⟨y, hy, rfl⟩ := List.mem_map.mp hd'
        rw [alike_py _ _ (kpl x hx) (kpl y hy)]
        exact kal x hx y hy
      · rcases Bool.or_eq_true_iff.mp k3 with k | k
        · refine .inl fun d hd => ?_
          obtain ⟨x, hx, rfl⟩ := List.mem_map.mp hd
          have := List.all_eq_true.mp k x hx
          cases x with
          | tup xs =>
            cases xs with
            | nil => cases this
            | cons y ys => exact ⟨_, _, rfl⟩
          | _ => cases this
        · refine .inr fun d hd => ?_
          obtain ⟨x, hx, rfl⟩ := List.mem_map.mp hd
          have := List.all_eq_true.mp k x hx
          have hp := kpl x hx
          cases x <;> first | (cases this; done) | (cases hp; done) | (constructor <;> simp [py])
      · intro b hb
        have h1 := okD_depth (List.all_eq_true.mp k2 b hb)
        rw [depth_py _ (kpl b hb)]
        omega
      · obtain ⟨vs', r1, r2⟩ := of_each ho
        obtain ⟨ep, he'⟩ := PyProof.Rows.sortedAll_at s.heap its out.toArray
        have e : ds.mergeSort (dataLe false py) = ds.mergeSort leD := sort_eq kpl kal
        rw [e] at r2
        refine ⟨.ref _, upd H (s.heap.objs.size + 1) (.lst vs'), I.laid (t' := s.toks) (fun _ _ => PyProof.Rows.sortedAll_old) (Nat.le_succ _) ⟨by rw [r1.length, hl, q.length]; exact hz, out, ep, r1, he'⟩, rfl, fin.lst t r2 _ (I.hok.fresh (Nat.le_succ _))⟩
    · cases hd
  · obtain ⟨v, rfl, r1⟩ := r.one
    obtain ⟨a, vs, rfl, h1, q⟩ := r1.lstI
    obtain ⟨ns, hn, rfl⟩ := Option.map_eq_some_iff.mp hd
    rw [q.ints hn] at h1
    exact cr_sum hc pins s σ H _ us Q I rx ⟨a, ns, rfl, h1, fin.int⟩
  · obtain ⟨v, rfl, r1⟩ := r.one
    obtain ⟨a, vs, rfl, h1, q⟩ := r1.lstI
    obtain ⟨ns, hn, hd⟩ := Option.bind_eq_some_iff.mp hd
    rw [q.ints hn] at h1
    cases ns with
    | nil => cases hd
    | cons n ns =>
      cases hd
      obtain ⟨m1, m2⟩ := foldMin ns n
      refine cr_min hc pins s σ H _ us Q I rx ⟨a, _, rfl, h1, Nat.succ_pos _, fun m hm hl => ?_⟩
      have : m = ns.foldl min n := Int.le_antisymm (hl _ m1) (m2 _ hm)
      rw [this]
      exact fin.int
  · obtain ⟨v, rfl, r1⟩ := r.one
    obtain ⟨a, vs, rfl, h1, q⟩ := r1.lstI
    obtain ⟨ns, hn, hd⟩ := Option.bind_eq_some_iff.mp hd
    rw [q.ints hn] at h1
    cases ns with
    | nil => cases hd
    | cons n ns =>
      cases hd
      obtain ⟨m1, m2⟩ := foldMax ns n
      refine cr_max hc pins s σ H _ us Q I rx ⟨a, _, rfl, h1, Nat.succ_pos _, fun m hm hl => ?_⟩
      have : m = ns.foldl max n := Int.le_antisymm (m2 _ hm) (hl _ m1)
      rw [this]
      exact fin.int
  · obtain ⟨v, w, rfl, r1, r2⟩ := r.two
    cases hd
    rw [r1.intI, r2.intI] at rx
    exact call_min2 hc pins s σ H _ us Q I rx ⟨_, _, rfl, fin.int⟩
  · obtain ⟨v, w, rfl, r1, r2⟩ := r.two
    cases hd
    rw [r1.intI, r2.intI] at rx
    exact call_max2 hc pins s σ H _ us Q I rx ⟨_, _, rfl, fin.int⟩
  · exact absurd rfl hm2
  · exact absurd rfl hx2
  · exact absurd rfl hml
  · exact absurd rfl hxl
  · obtain ⟨v, rfl, r1⟩ := r.one
    obtain ⟨a, vs, rfl, h1, q⟩ := r1.lstI
    obtain ⟨ns, hn, rfl⟩ := Option.map_eq_some_iff.mp hd
    rw [q.bls hn] at h1
    exact cr_any hc pins s σ H _ us Q I rx ⟨a, ns, rfl, h1, fin.bl⟩
  · obtain ⟨v, rfl, r1⟩ := r.one
    obtain ⟨a, vs, rfl, h1, q⟩ := r1.lstI
    obtain ⟨ns, hn, rfl⟩ := Option.map_eq_some_iff.mp hd
    rw [q.bls hn] at h1
    exact cr_all hc pins s σ H _ us Q I rx ⟨a, ns, rfl, h1, fin.bl⟩
  · obtain ⟨v, w, rfl, r1, r2⟩ := r.two
    rw [r1.intI, r2.intI] at rx
    split at hd
    · rename_i h
      cases hd
      obtain ⟨k1, k2⟩ := Bool.and_eq_true_iff.mp h
      exact call_divmod pins s σ H _ us Q I rx ⟨_, _, rfl, ⟨of_decide_eq_true k1, of_decide_eq_true k2⟩, fun p hp => fin.tup t (.cons (.int _) (.cons (.int _) .nil)) p hp⟩
    · cases hd
  · cases hd
end
end Tw
end

section
set_option linter.all false
set_option autoImplicit false
set_option maxRecDepth 100000
set_option maxHeartbeats 4000000
/-! Methods of a list that change it. -/
namespace Tw
open PySem L2 PyProof.Rows

/-- the arguments of a method that changes: those that are kept lie as values -/
def MuArgs (K : PySem.W.Frag) (ρ : List Addr) (M : Addr → Prop) (H : Hp) : Bm → List D → List V → Prop
  | .extend, ds, vs => Rep0s K ρ M H ds vs
  | .clear, ds, vs => Rep0s K ρ M H ds vs
  | .reverse, ds, vs => Rep0s K ρ M H ds vs
  | _, ds, vs => Reps K ρ M H ds vs
def rMu (K : PySem.W.Frag) (m : Bm) : V → List V → Hp → VK → Prop := fun x xs H Q => ∃ ρ M a vs ds dxs ds' r, x = .ref a ∧ H a = some (.lst vs) ∧ Reps K ρ M H ds vs ∧ MuArgs K ρ M H m dxs xs ∧
  muM m (.lst ds) dxs = some (.lst ds', r) ∧ ∀ w vs', Reps K ρ M H ds' vs' → Rep K ρ M H r w → Q w (upd H a (.lst vs'))
def bmId : Bm → String
  | .append => "list.append" | .extend => "list.extend" | .pop => "list.pop" | .insert => "list.insert" | .clear => "list.clear" | .reverse => "list.reverse" | _ => ""
section
variable {K : PySem.W.Frag} {ρ : List Addr} {M : Addr → Prop} {H : Hp}
theorem Reps.one {d : D} {vs : List V} (h : Reps K ρ M H [d] vs) : ∃ v, vs = [v] ∧ Rep K ρ M H d v := by
  cases h with
  | cons r t => cases t; exact ⟨_, rfl, r⟩
theorem Reps.two {d e : D} {vs : List V} (h : Reps K ρ M H [d, e] vs) : ∃ v w, vs = [v, w] ∧ Rep K ρ M H d v ∧ Rep K ρ M H e w := by
  cases h with
  | cons r t => obtain ⟨w, rfl, q⟩ := t.one; exact ⟨_, _, rfl, r, q⟩
theorem Reps.zero {vs : List V} (h : Reps K ρ M H [] vs) : vs = [] := by cases h; rfl
theorem Rep0s.zero {vs : List V} (h : Rep0s K ρ M H [] vs) : vs = [] := by cases h; rfl
end
section
variable {X : Cx}
theorem mt_mu {m : Bm} : MtR X (bmId m) (rMu X.K m) := by
  intro pins s σ H x xs v us Q I rx rs h
  obtain ⟨ρ, M, a, vs, ds, dxs, ds', r, rfl, hH, q, ar, hm, fin⟩ := h
  have hz := (I.hok a _ hH).1
  unfold muM at hm
  split at hm
  · rename_i d0 ds0 y e0
    cases e0
    obtain ⟨w, rfl, rw⟩ := Reps.one (show Reps X.K ρ M H [y] xs from ar)
    obtain ⟨l, hl, e⟩ := Option.map_eq_some_iff.mp hm
    obtain ⟨rfl, hz2⟩ := fitL_ok hl
    cases e
    refine mt_append pins s σ H _ _ v us Q I rx rs ⟨a, vs, w, rfl, rfl, hH, ?_, fin _ _ (q.append (.cons rw .nil)) .non⟩
    rw [List.length_append, q.length] at hz2
    exact hz2
  · rename_i d0 ds0 ys e0
    cases e0
    obtain ⟨w, rfl, rw⟩ := Rep0s.one (show Rep0s X.K ρ M H [.lst ys] xs from ar)
    obtain ⟨b, zs, rfl, hB, q2⟩ := rw.lstX
    obtain ⟨l, hl, e⟩ := Option.map_eq_some_iff.mp hm
    obtain ⟨rfl, hz2⟩ := fitL_ok hl
    cases e
    rw [List.length_append, q.length, q2.length] at hz2
    cases rx
    obtain ⟨u, rfl, ru⟩ := rs.one
    cases ru
    obtain ⟨z, its, n, r, hl, e⟩ := I.lstM hH
    obtain ⟨its2, n2, r2, e2, hl2⟩ := hB.obj I
    have hw := line63
    have hl3 := r2.length
    have both : its.toArray.size + its2.toArray.size ≤ sizeLine := by rw [List.size_toArray, List.size_toArray]; omega
    refine call_meets F.slot_list_extend ⟨_, e, rfl⟩ F.entry_list_extend (F.args_list_extend_2 _ _) (AutoSeq1.list_extend_list_list_0 a its.toArray n b its2.toArray n2 ?_ (by rw [List.size_toArray]; omega) (by omega)) ⟨e, e2, ?_⟩
    · rw [notLongL both, Bool.and_false]
      exact Bool.false_ne_true
    · exact ⟨.non, _, I.lset (its' := its ++ its2) hH e (by simp) (r.append r2) (by rw [List.length_append]; omega), rfl, fin _ _ (q.append q2) .non⟩
  · cases hm
  · rename_i d0 ds0 e0
    cases e0
    have hx := Reps.zero (show Reps X.K ρ M H [] xs from ar)
    subst hx
    obtain ⟨y, hy, e⟩ := Option.map_eq_some_iff.mp hm
    cases e
    rw [List.getLast?_eq_getElem?] at hy
    obtain ⟨w, hw, rw'⟩ := q.get hy
    refine mt_pop pins s σ H _ _ v us Q I rx rs ⟨a, vs, w, rfl, rfl, hH, by rw [← q.length]; exact hw, fin _ _ q.dropLast rw'⟩
  · rename_i d0 ds0 i e0
    cases e0
    obtain ⟨w, rfl, rw⟩ := Reps.one (show Reps X.K ρ M H [.int i] xs from ar)
    obtain ⟨k, hk, hm⟩ := Option.bind_eq_some_iff.mp hm
    obtain ⟨y, hy, e⟩ := Option.map_eq_some_iff.mp hm
    cases e
    obtain ⟨w', hw, rw'⟩ := q.get hy
    rw [ixN_eq] at hk
    obtain ⟨h1, h2, h3, h4⟩ := ixN_seq hk
    have h63 := line63
    rw [rw.intI] at rs
    rw [q.length] at h1 h3 h4
    refine mt_popAt pins s σ H _ _ v us Q I rx rs ⟨a, vs, i, k, w', rfl, rfl, hH, by omega, by omega, h1, hw, fin _ _ (q.eraseIdx k) rw'⟩
  · rename_i d0 ds0 i y e0
    cases e0
    obtain ⟨w, w2, rfl, rw, rw2⟩ := Reps.two (show Reps X.K ρ M H [.int i, y] xs from ar)
    split at hm
    · rename_i h0
      obtain ⟨l, hl, e⟩ := Option.map_eq_some_iff.mp hm
      obtain ⟨rfl, hz2⟩ := fitL_ok hl
      cases e
      rw [rw.intI] at rs
      obtain ⟨h0, h63⟩ := Bool.and_eq_true_iff.mp h0
      refine mt_insert pins s σ H _ _ v us Q I rx rs ⟨a, vs, i, w2, rfl, rfl, hH, ?_, of_decide_eq_true h0, of_decide_eq_true h63, fin _ _ ?_ .non⟩
      · have : (List.take i.toNat ds ++ y :: List.drop i.toNat ds).length = ds.length + 1 := by
          rw [List.length_append, List.length_cons, List.length_take, List.length_drop]
          omega
        rw [this, q.length] at hz2
        exact hz2
      · rw [List.append_assoc]
        exact (q.take _).append (.cons rw2 (q.drop _))
    · cases hm
  · rename_i d0 ds0 e0
    cases e0
    cases hm
    have hx := Rep0s.zero (show Rep0s X.K ρ M H [] xs from ar)
    subst hx
    exact mt_clear pins s σ H _ _ v us Q I rx rs ⟨a, vs, rfl, rfl, hH, fin _ _ .nil .non⟩
  · rename_i d0 ds0 e0
    cases e0
    cases hm
    have hx := Rep0s.zero (show Rep0s X.K ρ M H [] xs from ar)
    subst hx
    exact mt_reverse pins s σ H _ _ v us Q I rx rs ⟨a, vs, rfl, rfl, hH, fin _ _ q.reverse .non⟩
  · cases hm
end
end Tw
end

section
set_option linter.all false
set_option autoImplicit false
set_option maxRecDepth 100000
set_option maxHeartbeats 4000000
/-! repr by values. -/
namespace Tw
open PySem L2 PyProof.Rows

/-- the text of plain data -/
def shD (d : D) : List Nat := (py d).shown.cps.toList
theorem showS : ∀ ks : List D, ks.all isStr = true → PyData.showableAll (pys ks) = true
  | [], _ => rfl
  | .str k :: ks, h => by
    rw [List.all_cons] at h
    unfold pys PyData.showableAll
    rw [showS ks (Bool.and_eq_true_iff.mp h).2]
    rfl
  | .non :: _, h => by cases h
  | .bl _ :: _, h => by cases h
  | .int _ :: _, h => by cases h
  | .tup _ :: _, h => by cases h
  | .lst _ :: _, h => by cases h
  | .dct _ _ :: _, h => by cases h
  | .set _ :: _, h => by cases h
  | .obj _ _ _ :: _, h => by cases h
  | .ref _ :: _, h => by cases h
  | .glo _ :: _, h => by cases h
  | .scr _ :: _, h => by cases h
theorem showKv : ∀ xs ys : List PyData, PyData.showableAll xs = true → PyData.showableAll ys = true → PyData.showableKv (xs.zip ys) = true
  | [], _, _, _ => by rw [List.zip_nil_left, PyData.showableKv]
  | _ :: _, [], _, _ => by rw [List.zip_nil_right, PyData.showableKv]
  | x :: xs, y :: ys, h, k => by
    unfold PyData.showableAll at h k
    obtain ⟨h1, h2⟩ := Bool.and_eq_true_iff.mp h
    obtain ⟨k1, k2⟩ := Bool.and_eq_true_iff.mp k
    rw [List.zip_cons_cons, PyData.showableKv, h1, k1, showKv xs ys h2 k2]
    rfl
mutual
theorem showable_py : ∀ d : D, shw d = true → intsFit d = true → (py d).showable = true
  | .non, _, _ => rfl
  | .bl _, _, _ => rfl
  | .int i, _, h => by simpa [py, PyData.showable, intsFit] using h
  | .str _, _, _ => rfl
  | .tup ds, p, h => by unfold py PyData.showable; exact showables_py ds p h
  | .lst ds, p, h => by unfold py PyData.showable; exact showables_py ds p h
  | .dct ks vs, p, h => by
    obtain ⟨p1, p2⟩ := Bool.and_eq_true_iff.mp (show (ks.all isStr && shws vs) = true from p)
    obtain ⟨h1, h2⟩ := Bool.and_eq_true_iff.mp (show (intsFits ks && intsFits vs) = true from h)
    unfold py PyData.showable
    exact showKv _ _ (showS ks p1) (showables_py vs p2 h2)
  | .set _, p, _ => by cases p
  | .scr _, p, _ => by cases p
  | .obj _ _ _, p, _ => by cases p
  | .ref _, p, _ => by cases p
  | .glo _, p, _ => by cases p
theorem showables_py : ∀ ds : List D, shws ds = true → intsFits ds = true → PyData.showableAll (pys ds) = true
  | [], _, _ => rfl
  | d :: ds, p, h => by
    obtain ⟨p1, p2⟩ := Bool.and_eq_true_iff.mp (show (shw d && shws ds) = true from p)
    obtain ⟨h1, h2⟩ := Bool.and_eq_true_iff.mp (show (intsFit d && intsFits ds) = true from h)
    unfold pys PyData.showableAll
    rw [showable_py d p1 h1, showables_py ds p2 h2]
    rfl
end
theorem depKv : ∀ xs ys : List PyData, PyData.depthKv (xs.zip ys) ≤ max (PyData.depthAll xs) (PyData.depthAll ys)
  | [], _ => by rw [List.zip_nil_left, PyData.depthKv]; omega
  | _ :: _, [] => by rw [List.zip_nil_right, PyData.depthKv]; omega
  | x :: xs, y :: ys => by
    have := depKv xs ys
    rw [List.zip_cons_cons, PyData.depthKv, PyData.depthAll, PyData.depthAll]
    omega
mutual
theorem depth_le : ∀ d : D, (py d).depth ≤ depthD d
  | .non => by simp [py, PyData.depth, depthD]
  | .bl _ => by simp [py, PyData.depth, depthD]
  | .int _ => by simp [py, PyData.depth, depthD]
  | .str _ => by simp [py, PyData.depth, depthD]
  | .tup ds => by unfold py PyData.depth depthD; exact Nat.succ_le_succ (depths_le ds)
  | .lst ds => by unfold py PyData.depth depthD; exact Nat.succ_le_succ (depths_le ds)
  | .dct ks vs => by
    have h1 := depths_le ks
    have h2 := depths_le vs
    have h3 := depKv (pys ks) (pys vs)
    unfold py PyData.depth depthD
    omega
  | .set _ => by simp [py, PyData.depth]
  | .scr _ => by simp [py, PyData.depth]
  | .obj _ _ _ => by simp [py, PyData.depth]
  | .ref _ => by simp [py, PyData.depth]
  | .glo _ => by simp [py, PyData.depth]
theorem depths_le : ∀ ds : List D, PyData.depthAll (pys ds) ≤ depthDs ds
  | [] => by simp [pys, PyData.depthAll]
  | d :: ds => by
    have h1 := depth_le d
    have h2 := depths_le ds
    unfold pys PyData.depthAll depthDs
    omega
end
section
variable {X : Cx} {pins : List (Addr × Obj)} {s : Shared} {σ : L2.St} {H : Hp} {ρ : List Addr} {M : Addr → Prop}
theorem dct_keys {h : Heap} : ∀ {ks : List (List Nat)} {vs : List V} {kvs : List (Key × Value)} {es : List DictEntry}, ks.length = vs.length → KV (tKv ks vs) kvs → PySem.Pairs (mixKind X.prog X.w) es kvs →
    ReadsAll h (es.map (·.key)) (pys (ks.map .str)) [] ∧ Vals vs (es.map (·.val))
  | [], [], _, _, _, .nil, .nil => ⟨.nil, .nil⟩
  | k :: ks, v :: vs, _, _, hl, .cons (b := kv) ⟨h1, h2⟩ t, .cons (e := e) p1 p2 p3 => by
    obtain ⟨a1, a2⟩ := dct_keys (h := h) (by simpa using hl) t p3
    refine ⟨?_, .cons (by show RelV v e.val; rw [p2]; exact h2) a2⟩
    rw [← h1] at p1
    obtain ⟨i, t', e1, _⟩ | ⟨x, t', e1, e2⟩ := keyIs_shape (k := .inr ⟨k.toArray⟩) p1
    · cases e1
    · cases e1
      have q := ReadsAll.cons (Reads.str (h := h) ⟨k.toArray⟩ t') a1
      rw [← e2] at q
      exact q
  | [], _ :: _, _, _, hl, _, _ => by cases hl
  | _ :: _, [], _, _, hl, _, _ => by cases hl
/-- read, and shown when asked within -/
def RK (P : Program) (w : World) (h : Heap) (u : Value) (x : PyData) : Prop := (∃ as, Reads h u x as) ∧ ∃ bs, ReadAtMost h x.depth bs ∧ ReprK P w bs h x.depth u x.shown
def RKs (P : Program) (w : World) (h : Heap) (us : List Value) (xs : List PyData) : Prop := (∃ as, ReadsAll h us xs as) ∧ ∃ bs, ReadAtMost h (PyData.depthAll xs) bs ∧ ReprAllK P w bs h (PyData.depthAll xs) us (PyData.shownAll xs)
theorem rks_nil {P : Program} {w : World} {h : Heap} : RKs P w h [] [] := ⟨⟨[], .nil⟩, [], nofun, by rw [PyData.shownAll]; exact .nil⟩
theorem rks_cons {P : Program} {w : World} {h : Heap} {u : Value} {us : List Value} {x : PyData} {xs : List PyData} (r : RK P w h u x) (rs : RKs P w h us xs) : RKs P w h (u :: us) (x :: xs) := by
  obtain ⟨⟨as, a⟩, bs, b, k⟩ := r
  obtain ⟨⟨cs, c⟩, ds, d, l⟩ := rs
  refine ⟨⟨as ++ cs, .cons a c⟩, bs ++ ds, ?_, ?_⟩
  · rw [PyData.depthAll]
    exact (b.mono (Nat.le_max_left ..)).append (d.mono (Nat.le_max_right ..))
  · rw [PyData.depthAll, PyData.shownAll]
    refine ReprAllK.cons ?_ ?_
    · exact (k.more fun z m => List.mem_append_left ds m).level_le (Nat.le_max_left ..)
    · exact l.more_le (fun z m => List.mem_append_right bs m) (Nat.le_max_right ..)
theorem shownAll_len : ∀ xs : List PyData, (PyData.shownAll xs).length = xs.length
  | [] => by rw [PyData.shownAll]; rfl
  | x :: xs => by rw [PyData.shownAll, List.length_cons, List.length_cons, shownAll_len xs]
theorem rk_tup {P : Program} {w : World} {h : Heap} {a : Addr} {o : Obj} {its : Array Value} {n : Nat} {xs : List PyData} (e1 : h.get? a = some o) (e2 : o.cls = .type "tuple") (e3 : o.data = .seq its n) (r : RKs P w h its.toList xs) :
    RK P w h (.ref a) (.tuple xs) := by
  obtain ⟨⟨as, q⟩, bs, b, k⟩ := r
  have rd := Reads.tuple e1 e2 e3 q
  have lt : PyData.depthAll xs < (PyData.tuple xs).depth := by rw [PyData.depth]; omega
  refine ⟨⟨_, rd⟩, a :: bs, b.cons rd (Nat.le_of_lt lt), ?_⟩
  rw [PyData.depth, PyData.shown]
  exact ReprK.tuple e1 e2 e3 (not_mem_of_deeper rd lt b) k
theorem rk_lst {P : Program} {w : World} {h : Heap} {a : Addr} {o : Obj} {its : Array Value} {n : Nat} {xs : List PyData} (e1 : h.get? a = some o) (e2 : o.cls = .type "list") (e3 : o.data = .seq its n) (r : RKs P w h its.toList xs) :
    RK P w h (.ref a) (.list xs) := by
  obtain ⟨⟨as, q⟩, bs, b, k⟩ := r
  have rd := Reads.list e1 e2 e3 q
  have lt : PyData.depthAll xs < (PyData.list xs).depth := by rw [PyData.depth]; omega
  refine ⟨⟨_, rd⟩, a :: bs, b.cons rd (Nat.le_of_lt lt), ?_⟩
  rw [PyData.depth, PyData.shown]
  obtain ⟨l⟩ := its
  match l, xs, q, k with
  | [], [], _, _ =>
    rw [PyData.shownAll, listText_nil]
    exact ReprK.listEmpty e1 e2 e3
  | [], _ :: _, q, _ => cases q
  | x :: l, xs, q, k => exact ReprK.list e1 e2 e3 (not_mem_of_deeper rd lt b) (by have := k.length_eq; simpa using this) fun i y z => k.item i y (by simpa using z)
theorem dep_fst : ∀ (xs ys : List PyData), xs.length = ys.length → PyData.depthAll xs ≤ PyData.depthKv (xs.zip ys) ∧ PyData.depthAll ys ≤ PyData.depthKv (xs.zip ys)
  | [], [], _ => by simp [PyData.depthAll]
  | x :: xs, y :: ys, h => by
    obtain ⟨a, b⟩ := dep_fst xs ys (by simpa using h)
    rw [List.zip_cons_cons, PyData.depthKv, PyData.depthAll, PyData.depthAll]
    omega
  | [], _ :: _, h => by cases h
  | _ :: _, [], h => by cases h
theorem kvTxt : ∀ (xs ys : List PyData), xs.length = ys.length → PyData.shownKv (xs.zip ys) = List.zipWith (fun k v : Str => k ++ ": " ++ v) (PyData.shownAll xs) (PyData.shownAll ys)
  | [], [], _ => by rw [List.zip_nil_left, PyData.shownKv, PyData.shownAll]; rfl
  | x :: xs, y :: ys, h => by
    rw [List.zip_cons_cons, PyData.shownKv, PyData.shownAll, PyData.shownAll, kvTxt xs ys (by simpa using h)]
    rfl
  | [], _ :: _, h => by cases h
  | _ :: _, [], h => by cases h
/-- a dict's entries -/
structure DR (P : Program) (w : World) (h : Heap) (a : Addr) (xs ys : List PyData) (bs : List Addr) (o : Obj) (es : Array DictEntry) (n : Nat) (as : List Addr) : Prop where
  e1 : h.get? a = some o
  e2 : o.cls = .type "dict"
  e3 : o.data = .dict es n
  sys : (a == sysModules) = false
  hl : xs.length = ys.length
  rd : Reads h (.ref a) (.dict (xs.zip ys)) as
  rm : ReadAtMost h (PyData.depthKv (xs.zip ys)) bs
  na : a ∉ bs
  en : ReprEntriesK P w bs h (PyData.depthKv (xs.zip ys)) es.toList (PyData.shownKv (xs.zip ys))
theorem dr_of {P : Program} {w : World} {h : Heap} {a : Addr} {o : Obj} {es : Array DictEntry} {n : Nat} {xs ys : List PyData} (e1 : h.get? a = some o) (e2 : o.cls = .type "dict") (e3 : o.data = .dict es n) (sys : (a == sysModules) = false)
    (hl : xs.length = ys.length) (r1 : RKs P w h (es.toList.map (·.key)) xs) (r2 : RKs P w h (es.toList.map (·.val)) ys) : ∃ bs as, DR P w h a xs ys bs o es n as := by
  obtain ⟨⟨as, q⟩, bs, b, k⟩ := r1
  obtain ⟨⟨cs, p⟩, ds, d, l⟩ := r2
  obtain ⟨m1, m2⟩ := dep_fst xs ys hl
  have rd : Reads h (.ref a) (.dict (xs.zip ys)) (a :: as ++ cs) := Reads.dict e1 e2 e3 (by rw [List.map_fst_zip (by omega)]; exact q) (by rw [List.map_snd_zip (by omega)]; exact p)
  have rm : ReadAtMost h (PyData.depthKv (xs.zip ys)) (bs ++ ds) := (b.mono m1).append (d.mono m2)
  have lt : PyData.depthKv (xs.zip ys) < (PyData.dict (xs.zip ys)).depth := by rw [PyData.depth]; omega
  refine ⟨bs ++ ds, _, e1, e2, e3, sys, hl, rd, rm, not_mem_of_deeper rd lt rm, ?_⟩
  rw [kvTxt xs ys hl]
  refine ReprEntriesK.of_two es.toList _ _ ?_ ?_
  · exact k.more_le (fun z m => List.mem_append_left ds m) m1
  · exact l.more_le (fun z m => List.mem_append_right bs m) m2
theorem DR.rk {P : Program} {w : World} {h : Heap} {a : Addr} {o : Obj} {es : Array DictEntry} {n : Nat} {xs ys : List PyData} {bs as : List Addr} (r : DR P w h a xs ys bs o es n as) : RK P w h (.ref a) (.dict (xs.zip ys)) := by
  refine ⟨⟨_, r.rd⟩, a :: bs, r.rm.cons r.rd (by rw [PyData.depth]; omega), ?_⟩
  rw [PyData.depth, PyData.shown]
  exact ReprK.dict r.e1 r.e2 r.e3 r.sys r.na r.en
theorem kv_le : ∀ (xs ys : List PyData) (m : Nat), xs.length = ys.length → (∀ t ∈ PyData.shownKv (xs.zip ys), t.length ≤ m) → (∀ t ∈ PyData.shownAll xs, t.length ≤ m) ∧ ∀ t ∈ PyData.shownAll ys, t.length ≤ m
  | [], [], _, _, _ => by rw [PyData.shownAll]; exact ⟨nofun, nofun⟩
  | x :: xs, y :: ys, m, hl, h => by
    rw [List.zip_cons_cons, PyData.shownKv] at h
    obtain ⟨a, b⟩ := kv_le xs ys m (by simpa using hl) fun t ht => h t (List.mem_cons_of_mem _ ht)
    have c := h _ List.mem_cons_self
    have e : (PyData.shown x ++ ": " ++ PyData.shown y : Str).length = (PyData.shown x).length + 2 + (PyData.shown y).length := by
      rw [strLen_append, strLen_append]; rfl
    rw [e] at c
    rw [PyData.shownAll, PyData.shownAll]
    constructor
    · intro t ht
      rcases List.mem_cons.mp ht with rfl | ht
      · omega
      · exact a t ht
    · intro t ht
      rcases List.mem_cons.mp ht with rfl | ht
      · omega
      · exact b t ht
  | [], _ :: _, _, h, _ => by cases h
  | _ :: _, [], _, h, _ => by cases h
theorem rks_plain {P : Program} {w : World} {h : Heap} {us : List Value} {xs : List PyData} {as : List Addr} (r : ReadsAll h us xs as) (h1 : PyData.showableAll xs = true) (h2 : PyData.hasDictAll xs = false) (h3 : ∀ t ∈ PyData.shownAll xs, t.length ≤ sizeLine) : RKs P w h us xs :=
  ⟨⟨_, r⟩, ReprAllK.of_readsAll r h1 (fun z => by rw [h2] at z; cases z) h3⟩
theorem strs_noDict : ∀ ks : List (List Nat), PyData.hasDictAll (pys (ks.map .str)) = false
  | [] => by rw [List.map_nil, pys, PyData.hasDictAll]
  | k :: ks => by rw [List.map_cons, pys, PyData.hasDictAll, strs_noDict ks, py, PyData.hasDict]; rfl
mutual
theorem Rep.rk (I : Inv X pins σ H s) : ∀ (d : D) {v : V} {u : Value}, shw d = true → intsFit d = true → (py d).shown.length ≤ sizeLine → Rep X.K ρ M H d v → RelV v u → RK X.prog X.w s.heap u (py d)
  | .non, _, _, _, _, z, r, ru => by
    cases r.nonI
    cases ru
    exact ⟨⟨[], .none⟩, ReprK.of_reads .none rfl nofun z⟩
  | .bl b, _, _, _, _, z, r, ru => by
    cases r.blI
    cases ru
    exact ⟨⟨[], .bool b⟩, ReprK.of_reads (.bool b) rfl nofun z⟩
  | .int i, _, _, p, f, z, r, ru => by
    cases r.intI
    obtain ⟨t, rfl⟩ := ru
    exact ⟨⟨[], .int i t⟩, ReprK.of_reads (.int i t) (showable_py (.int i) p f) nofun z⟩
  | .str x, _, _, _, _, z, r, ru => by
    obtain ⟨rfl, _⟩ := r.strI
    obtain ⟨t, rfl⟩ := ru
    exact ⟨⟨[], .str _ t⟩, ReprK.of_reads (.str _ t) rfl nofun z⟩
  | .tup ds, _, _, p, f, z, r, ru => by
    obtain ⟨a, vs, rfl, h, q⟩ := r.tupI
    cases ru
    obtain ⟨its, rv, ⟨o, ho, hc, n, hd⟩, _⟩ := I.tuple h
    unfold py PyData.shown at z
    exact rk_tup ho hc hd (by simpa using Reps.rk I ds p f (fun t ht => Nat.le_trans (tupleText_mem_le ht) z) q rv)
  | .lst ds, _, _, p, f, z, r, ru => by
    obtain ⟨a, vs, rfl, h, q⟩ := r.lstI
    cases ru
    obtain ⟨its, rv, ⟨o, n, ho, hc, _, hd⟩, _⟩ := I.list h
    unfold py PyData.shown at z
    exact rk_lst ho hc hd (by simpa using Reps.rk I ds p f (fun t ht => Nat.le_trans (listText_mem_le ht) z) q rv)
  | .dct ks vs, _, _, p, f, z, r, ru => by
    obtain ⟨p1, p2⟩ := Bool.and_eq_true_iff.mp (show (ks.all isStr && shws vs) = true from p)
    obtain ⟨f1, f2⟩ := Bool.and_eq_true_iff.mp (show (intsFits ks && intsFits vs) = true from f)
    obtain ⟨kt, ws, a, rfl, rfl, hs, q, hl, hk⟩ := r.dctI
    cases ru
    obtain ⟨_, hy, kvs, rk, o, es, ep, ho, hx, hd, _, hp, _⟩ := dk_rd I.hok hs.1
    obtain ⟨a1, a2⟩ := dct_keys (h := s.heap) (hl.trans q.length) rk hp
    have hlen : (pys (kt.map .str)).length = (pys vs).length := by
      rw [pys_map, pys_map, List.length_map, List.length_map, List.length_map]; exact hl
    unfold py PyData.shown at z
    obtain ⟨z1, z2⟩ := kv_le _ _ sizeLine hlen fun t ht => Nat.le_trans (dictText_mem_le ht) z
    obtain ⟨bs, as, dr⟩ := dr_of (P := X.prog) (w := X.w) ho hx.1 hd hy hlen (rks_plain a1 (showS _ p1) (strs_noDict kt) z1) (Reps.rk I vs p2 f2 z2 q a2)
    exact dr.rk
  | .set _, _, _, p, _, _, _, _ => by cases p
  | .obj _ _ _, _, _, p, _, _, _, _ => by cases p
  | .ref _, _, _, p, _, _, _, _ => by cases p
  | .glo _, _, _, p, _, _, _, _ => by cases p
  | .scr _, _, _, p, _, _, _, _ => by cases p
theorem Reps.rk (I : Inv X pins σ H s) : ∀ (ds : List D) {vs : List V} {us : List Value}, shws ds = true → intsFits ds = true → (∀ t ∈ PyData.shownAll (pys ds), t.length ≤ sizeLine) → Reps X.K ρ M H ds vs → Vals vs us → RKs X.prog X.w s.heap us (pys ds)
  | [], _, _, _, _, _, .nil, .nil => rks_nil
  | d :: ds, _, _, p, f, z, .cons r t, .cons ru tu => by
    obtain ⟨p1, p2⟩ := Bool.and_eq_true_iff.mp (show (shw d && shws ds) = true from p)
    obtain ⟨f1, f2⟩ := Bool.and_eq_true_iff.mp (show (intsFit d && intsFits ds) = true from f)
    unfold pys PyData.shownAll at z
    exact rks_cons (Rep.rk I d p1 f1 (z _ List.mem_cons_self) r ru) (Reps.rk I ds p2 f2 (fun y hy => z y (List.mem_cons_of_mem _ hy)) t tu)
end
end
section
variable {P : Program} {w : World} {h : Heap} {A : Around} {E : Value → Shared → Prop} {s : Shared} {a : Addr} {o : Obj} {n : Nat} {Q : Value → Shared → Prop}
theorem say_tup {its : Array Value} {xs : List PyData} (e1 : s.heap.get? a = some o) (e2 : o.cls = .type "tuple") (e3 : o.data = .seq its n) (r : RKs P w s.heap its.toList xs) (hz : (PyData.tuple xs).shown.length ≤ sizeLine) (hg : A.guards = some [])
    (hu : A.units + ((PyData.tuple xs).depth + 1) < cLine) (hQ : ∀ h' u tk, (∀ b o, s.heap.get? b = some o → h'.get? b = some o) → Q (.str (PyData.tuple xs).shown u) { s with heap := h', toks := tk }) : wpAny (model P w) A (call (.builtin "repr") [.ref a]) Q E s := by
  obtain ⟨⟨as, q⟩, bs, b, k⟩ := r
  have lt : PyData.depthAll xs < (PyData.tuple xs).depth := by rw [PyData.depth]; omega
  have na := not_mem_of_deeper (Reads.tuple e1 e2 e3 q) lt b
  rw [PyData.depth] at hu
  rw [PyData.shown] at hQ hz
  refine call_repr_slot (by omega) ⟨o, e1, e2⟩ F.slot_tuple_repr (call_tuple_reprK e1 e2 e3 na k hg (fun b _ => Clear.nil b) (by show A.units + 1 + _ < _; omega) (fun _ _ z => z) (fun h' u tk z => ?_) hz)
  exact ⟨_, u, rfl, hQ h' u tk z⟩
theorem say_lst {its : Array Value} {xs : List PyData} (e1 : s.heap.get? a = some o) (e2 : o.cls = .type "list") (e3 : o.data = .seq its n) (r : RKs P w s.heap its.toList xs) (hz : (PyData.list xs).shown.length ≤ sizeLine) (hg : A.guards = some [])
    (hu : A.units + ((PyData.list xs).depth + 1) < cLine) (hQ : ∀ h' u tk, (∀ b o, s.heap.get? b = some o → h'.get? b = some o) → Q (.str (PyData.list xs).shown u) { s with heap := h', toks := tk }) : wpAny (model P w) A (call (.builtin "repr") [.ref a]) Q E s := by
  obtain ⟨⟨as, q⟩, bs, b, k⟩ := r
  have lt : PyData.depthAll xs < (PyData.list xs).depth := by rw [PyData.depth]; omega
  have na := not_mem_of_deeper (Reads.list e1 e2 e3 q) lt b
  rw [PyData.depth] at hu
  rw [PyData.shown] at hQ hz
  obtain ⟨l⟩ := its
  match l, xs, q, k, hQ, hz, hu with
  | [], [], _, _, hQ, _, hu =>
    rw [PyData.shownAll, listText_nil] at hQ
    exact call_repr_slot (by omega) ⟨o, e1, e2⟩ F.slot_list_repr.toG (call_list_repr_empty ⟨o, e1, e2⟩ e1 e3 ⟨_, s.toks, rfl, hQ s.heap _ _ fun _ _ z => z⟩)
  | [], _ :: _, q, _, _, _, _ => cases q
  | x :: l, xs, q, k, hQ, hz, hu =>
    refine call_repr_slot (by omega) ⟨o, e1, e2⟩ F.slot_list_repr.toG (call_list_reprK e1 e2 e3 na (by have := k.length_eq; simpa using this) (fun i y z => k.item i y (by simpa using z)) hg (fun b _ => Clear.nil b) (by show A.units + 1 + _ < _; omega) (fun _ _ z => z) (fun h' u tk z => ?_) hz)
    exact ⟨_, u, rfl, hQ h' u tk z⟩
theorem say_dct {es : Array DictEntry} {xs ys : List PyData} {bs as : List Addr} (r : DR P w s.heap a xs ys bs o es n as) (hz : (PyData.dict (xs.zip ys)).shown.length ≤ sizeLine) (hg : A.guards = some [])
    (hu : A.units + ((PyData.dict (xs.zip ys)).depth + 1) < cLine) (hQ : ∀ h' u tk, (∀ b o, s.heap.get? b = some o → h'.get? b = some o) → Q (.str (PyData.dict (xs.zip ys)).shown u) { s with heap := h', toks := tk }) : wpAny (model P w) A (call (.builtin "repr") [.ref a]) Q E s := by
  rw [PyData.depth] at hu
  rw [PyData.shown] at hQ hz
  refine call_repr_slot (by omega) ⟨o, r.e1, r.e2⟩ F.slot_dict_repr (call_dict_reprK r.e1 r.e2 r.e3 r.sys r.na r.en hg (fun b _ => Clear.nil b) (by show A.units + 1 + _ < _; omega) (fun _ _ z => z) (fun h' u tk z => ?_) hz)
  exact ⟨_, u, rfl, hQ h' u tk z⟩
end
section
variable {X : Cx}
theorem cr_repr (hu : X.A.units + 70 < cLine) (hg : X.A.guards = some []) : CallR X (.builtin "repr") (rBi X.K shD .repr) := by
  intro pins s σ H xs us Q I rx h
  obtain ⟨ρ, M, dxs, d, t, r, hd, fin⟩ := h
  match dxs, hd, r with
  | [x], hd, r =>
    obtain ⟨v, rfl, r1⟩ := r.one
    obtain ⟨u, rfl, ru⟩ := rx.one
    simp only [callBi] at hd
    split at hd
    case isFalse => cases hd
    rename_i hc
    cases hd
    obtain ⟨h1, hc⟩ := Bool.and_eq_true_iff.mp hc
    obtain ⟨h2, hc⟩ := Bool.and_eq_true_iff.mp hc
    obtain ⟨h3, h4⟩ := Bool.and_eq_true_iff.mp hc
    have h3 := of_decide_eq_true h3
    have es : (⟨(shD x).toArray⟩ : Str) = (py x).shown := by unfold shD; simp
    have q : Q (.str (py x).shown) H := by rw [← es]; exact fin.str h4
    have hz : (py x).shown.length ≤ sizeLine := by rw [← es]; exact strOk_len h4
    have hdp := depth_le x
    cases x with
    | non => 
      cases r1.nonI
      cases ru
      exact PySem.P.repr_of_none ⟨.str _, H, I.tok _, ⟨_, rfl⟩, q⟩
    | bl b =>
      cases r1.blI
      cases ru
      exact PySem.P.repr_of_bool ⟨.str (py (.bl b)).shown, H, I.tok _, ⟨s.toks, rfl⟩, q⟩
    | int i =>
      cases r1.intI
      obtain ⟨t, rfl⟩ := ru
      exact PySem.P.repr_of_int (by simpa [intsFit] using h2) ⟨.str _, H, I.tok _, ⟨_, rfl⟩, q⟩
    | str z =>
      obtain ⟨rfl, _⟩ := r1.strI
      obtain ⟨t, rfl⟩ := ru
      exact PySem.P.repr_of_str ⟨.str _, H, I.tok _, ⟨_, rfl⟩, q⟩ hz
    | tup ds =>
      obtain ⟨a, vs, rfl, h0, q0⟩ := r1.tupI
      cases ru
      obtain ⟨its, rv, ⟨o, ho, hc, n, hd⟩, _⟩ := I.tuple h0
      unfold py at hz hdp q
      have z := hz
      rw [PyData.shown] at z
      exact say_tup ho hc hd (by simpa using Reps.rk I ds h1 h2 (fun t ht => Nat.le_trans (tupleText_mem_le ht) z) q0 rv) hz hg (by omega) fun h' u tk hk => ⟨.str _, H, I.kept hk, ⟨u, rfl⟩, q⟩
    | lst ds =>
      obtain ⟨a, vs, rfl, h0, q0⟩ := r1.lstI
      cases ru
      obtain ⟨its, rv, ⟨o, n, ho, hc, _, hd⟩, _⟩ := I.list h0
      unfold py at hz hdp q
      have z := hz
      rw [PyData.shown] at z
      exact say_lst ho hc hd (by simpa using Reps.rk I ds h1 h2 (fun t ht => Nat.le_trans (listText_mem_le ht) z) q0 rv) hz hg (by omega) fun h' u tk hk => ⟨.str _, H, I.kept hk, ⟨u, rfl⟩, q⟩
    | dct ks vs =>
      cases r1 with
      | of r1 =>
        obtain ⟨p1, p2⟩ := Bool.and_eq_true_iff.mp (show (ks.all isStr && shws vs) = true from h1)
        obtain ⟨f1, f2⟩ := Bool.and_eq_true_iff.mp (show (intsFits ks && intsFits vs) = true from h2)
        obtain ⟨kt, ws, a, rfl, rfl, hs, q0, hl, hk⟩ := r1.dctI
        cases ru
        obtain ⟨_, hy, kvs, rk, o, es, ep, ho, hx, hd, _, hp, _⟩ := dk_rd I.hok hs.1
        obtain ⟨a1, a2⟩ := dct_keys (h := s.heap) (hl.trans q0.length) rk hp
        have hlen : (pys (kt.map .str)).length = (pys vs).length := by
          rw [pys_map, pys_map, List.length_map, List.length_map, List.length_map]; exact hl
        unfold py at hz hdp q
        have z := hz
        rw [PyData.shown] at z
        obtain ⟨z1, z2⟩ := kv_le _ _ sizeLine hlen fun t ht => Nat.le_trans (dictText_mem_le ht) z
        obtain ⟨bs, as, dr⟩ := dr_of (P := X.prog) (w := X.w) ho hx.1 hd hy hlen (rks_plain a1 (showS _ p1) (strs_noDict kt) z1) (Reps.rk I vs p2 f2 z2 q0 a2)
        exact say_dct dr hz hg (by omega) fun h' u tk hk => ⟨.str _, H, I.kept hk, ⟨u, rfl⟩, q⟩
    | _ => cases h1
  | [], hd, _ => simp [callBi] at hd
  | _ :: _ :: _, hd, _ => simp [callBi] at hd
end
end Tw
end

section
set_option linter.all false
set_option autoImplicit false
set_option maxRecDepth 100000
/-! Reckoning with the interpreter. -/
namespace Tw
/-- it runs well, and so ends -/
def Ok {s a : Type} (r : R s a) (Q : a → s → Prop) : Prop :=
  match r with
  | .ok x t => Q x t
  | .exc _ _ => False
  | .stuck => False
section
variable {s a b : Type} {Q Q' : a → s → Prop}
@[simp] theorem Ok_ok {x : a} {t : s} : Ok (.ok x t) Q ↔ Q x t := Iff.rfl
@[simp] theorem Ok_stuck : Ok (.stuck : R s a) Q ↔ False := Iff.rfl
@[simp] theorem Ok_exc {d : D} {t : s} : Ok (.exc d t : R s a) Q ↔ False := Iff.rfl
theorem Ok_bind {r : R s a} {f : a → s → R s b} {Q : b → s → Prop} : Ok (r.bind f) Q ↔ Ok r fun x t => Ok (f x t) Q := by
  cases r <;> exact Iff.rfl
@[simp] theorem bind_ok {x : a} {t : s} {f : a → s → R s b} : (R.ok x t).bind f = f x t := rfl
@[simp] theorem bind_stuck {f : a → s → R s b} : (R.stuck : R s a).bind f = .stuck := rfl
@[simp] theorem ofO_some {x : a} {t : s} : R.ofO (some x) t = .ok x t := rfl
@[simp] theorem ofO_none {t : s} : R.ofO (none : Option a) t = .stuck := rfl
theorem Ok.mono {r : R s a} (h : Ok r Q) (i : ∀ x t, Q x t → Q' x t) : Ok r Q' := by
  cases r with
  | ok x t => exact i x t h
  | exc _ _ => exact h
  | stuck => exact h
theorem Ok.ex {r : R s a} (h : Ok r Q) : ∃ x t, r = .ok x t ∧ Q x t := by
  cases r with
  | ok x t => exact ⟨x, t, rfl, h⟩
  | exc _ _ => exact h.elim
  | stuck => exact h.elim
theorem Ok.of {r : R s a} {x : a} {t : s} (e : r = .ok x t) (h : Q x t) : Ok r Q := by rw [e]; exact h
end
mutual
@[simp] theorem sameD_refl : ∀ d : D, sameD d d = true
  | .non => rfl
  | .bl a => by simp [sameD]
  | .int a => by simp [sameD]
  | .str a => by simp [sameD]
  | .tup xs => sameDs_refl xs
  | .lst xs => sameDs_refl xs
  | .dct xs ys => by simp [sameD, sameDs_refl xs, sameDs_refl ys]
  | .set xs => sameDs_refl xs
  | .scr xs => sameDs_refl xs
  | .obj c fs vs => by simp [sameD, sameDs_refl vs]
  | .ref a => by simp [sameD]
  | .glo a => by simp [sameD]
@[simp] theorem sameDs_refl : ∀ ds : List D, sameDs ds ds = true
  | [] => rfl
  | d :: ds => by show (sameD d d && sameDs ds ds) = true; rw [sameD_refl d, sameDs_refl ds]; rfl
end

section
variable {chk : MS → Bool} {turn : D → MS → R MS Fl} {tC : D → MS → R MS (Option D)} {Q : Fl → MS → Prop} {s : MS}
/-- a for loop by an invariant of the turns done -/
theorem loopF_ok (P : Nat → MS → Prop) : ∀ (xs : List D) (k : Nat) (s : MS), P k s → (∀ i s, P i s → chk s = true) →
    (∀ i x s, xs[i]? = some x → P (k + i) s → Ok (turn x s) fun f t => match f with | .nx => P (k + i + 1) t | .cont => P (k + i + 1) t | .brk => Q .nx t | .ret d => Q (.ret d) t) →
    (∀ s, P (k + xs.length) s → Q .nx s) → Ok (loopF chk turn xs s) Q
  | [], k, s, h, hc, _, hd => by
    simp only [loopF, hc k s h, if_true]
    exact hd s h
  | x :: xs, k, s, h, hc, ht, hd => by
    simp only [loopF, hc k s h, if_true]
    rw [Ok_bind]
    refine (ht 0 x s rfl h).mono fun f t q => ?_
    have next : P (k + 1) t → Ok (loopF chk turn xs t) Q := fun q => loopF_ok P xs (k + 1) t q hc
      (fun i y s e p => by
        have := ht (i + 1) y s (by simpa using e) (by rw [show k + (i + 1) = k + 1 + i by omega]; exact p)
        rw [show k + (i + 1) = k + 1 + i by omega] at this
        exact this)
      (fun s p => hd s (by rw [List.length_cons, show k + (xs.length + 1) = k + 1 + xs.length by omega]; exact p))
    cases f with
    | nx => exact next q
    | cont => exact next q
    | brk => exact q
    | ret d => exact q
/-- a comprehension by an invariant of the turns done and what is found -/
theorem loopC_ok {Q : List D → MS → Prop} (P : Nat → List D → MS → Prop) : ∀ (xs : List D) (k : Nat) (acc : List D) (s : MS), P k acc s → (∀ i a s, P i a s → chk s = true) →
    (∀ i a x s, xs[i]? = some x → P (k + i) a s → Ok (tC x s) fun o t => P (k + i + 1) (match o with | some d => a ++ [d] | none => a) t) →
    (∀ a s, P (k + xs.length) a s → Q a s) → Ok (loopC chk tC acc xs s) Q
  | [], k, acc, s, h, hc, _, hd => by
    simp only [loopC, hc k acc s h, if_true]
    exact hd acc s h
  | x :: xs, k, acc, s, h, hc, ht, hd => by
    simp only [loopC, hc k acc s h, if_true]
    rw [Ok_bind]
    refine (ht 0 acc x s rfl h).mono fun o t q => ?_
    exact loopC_ok P xs (k + 1) _ t q hc
      (fun i a y s e p => by
        have := ht (i + 1) a y s (by simpa using e) (by rw [show k + (i + 1) = k + 1 + i by omega]; exact p)
        rw [show k + (i + 1) = k + 1 + i by omega] at this
        exact this)
      (fun a s p => hd a s (by rw [List.length_cons, show k + (xs.length + 1) = k + 1 + xs.length by omega]; exact p))
/-- a comprehension that finds by each alone -/
theorem loopC_pure (g : D → Option D) : ∀ (xs acc : List D) (s : MS), chk s = true → (∀ x ∈ xs, tC x s = .ok (g x) s) → loopC chk tC acc xs s = .ok (acc ++ xs.filterMap g) s
  | [], acc, s, hc, _ => by simp [loopC, hc]
  | x :: xs, acc, s, hc, ht => by
    simp only [loopC, hc, if_true, ht x List.mem_cons_self, bind_ok]
    rw [loopC_pure g xs _ s hc fun y hy => ht y (List.mem_cons_of_mem _ hy)]
    cases h : g x <;> simp [h]
end
end Tw
end

section
set_option linter.all false
set_option autoImplicit false
set_option maxRecDepth 100000
/-! Plain reckoning: rows of numbers, frames. -/
namespace Tw
/-- a row of numbers -/
def iD (ns : List Int) : List D := ns.map .int
@[simp] theorem iD_nil : iD [] = [] := rfl
@[simp] theorem iD_cons {n : Int} {ns : List Int} : iD (n :: ns) = .int n :: iD ns := rfl
@[simp] theorem iD_app {a b : List Int} : iD (a ++ b) = iD a ++ iD b := List.map_append
@[simp] theorem iD_length {a : List Int} : (iD a).length = a.length := List.length_map ..
@[simp] theorem iD_get {a : List Int} {i : Nat} : (iD a)[i]? = a[i]?.map .int := List.getElem?_map ..
theorem plains_iD : ∀ ns, plains (iD ns) = true
  | [] => rfl
  | n :: ns => by show (true && plains (iD ns)) = true; rw [plains_iD ns]; rfl
theorem depth_iD : ∀ ns, depthDs (iD ns) = 0
  | [] => rfl
  | n :: ns => by show max 0 (depthDs (iD ns)) = 0; rw [depth_iD ns]; rfl
theorem belows_iD {k : Nat} : ∀ ns, belows k (iD ns) = true
  | [] => rfl
  | n :: ns => by show (true && belows k (iD ns)) = true; rw [belows_iD ns]; rfl
theorem inDs_iD {x : Int} : ∀ ns : List Int, inDs (.int x) (iD ns) = decide (x ∈ ns)
  | [] => rfl
  | n :: ns => by
    show ((n == x) || inDs (.int x) (iD ns)) = _
    rw [inDs_iD ns, Bool.eq_iff_iff]
    simp only [Bool.or_eq_true, beq_iff_eq, decide_eq_true_eq, List.mem_cons]
    exact ⟨fun h => h.elim (fun e => .inl e.symm) .inr, fun h => h.elim (fun e => .inl e.symm) .inr⟩
theorem alikes_iD : ∀ a b : List Int, alikeDs (iD a) (iD b) = true
  | [], _ => by rw [iD_nil, alikeDs]
  | x :: xs, [] => rfl
  | x :: xs, y :: ys => by show (true && alikeDs (iD xs) (iD ys)) = true; rw [alikes_iD xs ys]; rfl
theorem eqDs_iD : ∀ a b : List Int, eqDs (iD a) (iD b) = decide (a = b)
  | [], [] => rfl
  | [], y :: ys => rfl
  | x :: xs, [] => rfl
  | x :: xs, y :: ys => by
    show ((x == y) && eqDs (iD xs) (iD ys)) = _
    rw [eqDs_iD xs ys, Bool.eq_iff_iff]
    simp
theorem below_mono {m n : Nat} (h : m ≤ n) : ∀ d : D, below m d = true → below n d = true := by
  intro d
  exact D.rec (motive_1 := fun d => below m d = true → below n d = true) (motive_2 := fun ds => belows m ds = true → belows n ds = true)
    (fun _ => rfl) (fun _ _ => rfl) (fun _ _ => rfl) (fun _ _ => rfl)
    (fun _ i => i) (fun _ i => i) (fun _ _ i j k => by
      simp only [below, Bool.and_eq_true] at k ⊢
      exact ⟨i k.1, j k.2⟩) (fun _ i => i) (fun _ i => i) (fun _ _ _ i => i)
    (fun i k => by simp only [below, decide_eq_true_eq] at k ⊢; omega) (fun _ _ => rfl)
    (fun _ => rfl) (fun d ds i j k => by
      simp only [belows, Bool.and_eq_true] at k ⊢
      exact ⟨i k.1, j k.2⟩) d
theorem belows_mono {m n : Nat} (h : m ≤ n) : ∀ ds : List D, belows m ds = true → belows n ds = true
  | [], _ => rfl
  | d :: ds, k => by
    simp only [belows, Bool.and_eq_true] at k ⊢
    exact ⟨below_mono h d k.1, belows_mono h ds k.2⟩
theorem belows_all {n : Nat} : ∀ {ds : List D}, (∀ d ∈ ds, below n d = true) → belows n ds = true
  | [], _ => rfl
  | d :: ds, k => by
    simp only [belows, Bool.and_eq_true]
    exact ⟨k d List.mem_cons_self, belows_all fun x hx => k x (List.mem_cons_of_mem _ hx)⟩
theorem below_of {n : Nat} : ∀ {ds : List D} {d : D}, belows n ds = true → d ∈ ds → below n d = true
  | d :: ds, x, k, h => by
    simp only [belows, Bool.and_eq_true] at k
    cases h with
    | head => exact k.1
    | tail _ h => exact below_of k.2 h
/-- objects that refer to none -/
def Flat (hp : List Ob) : Prop := ∀ o ∈ hp, belowO 0 o = true
theorem ixN_nat {n : Nat} {i : Int} (h : 0 ≤ i) (k : i < n) : ixN n i = some i.toNat := by
  unfold ixN
  rw [if_pos h, if_pos (by omega)]
section
variable {G : Tab} {cal : Cal}
/-- a frame whose objects stay its caller's -/
theorem run_gc {F : Fn} {ds : List D} {bs : Nat} {hp : List Ob} {Q : D → List Ob → Prop} (hg : F.gc = true)
    (h : Ok (exB G cal F.body ⟨ds.map .val ++ List.replicate (F.ns - ds.length) .non, hp, hp.length⟩) fun f s => ∃ d, f = .ret d ∧ below 0 d = true ∧ s.hp.length = hp.length ∧ Flat s.hp ∧ Q d s.hp) : Ok (runF G cal F ds bs hp) Q := by
  obtain ⟨f, s, e, d, rfl, hb, hl, hf, q⟩ := h.ex
  unfold runF
  simp only [hg, if_true]
  rw [e]
  have e1 : frz hp.length s.hp 64 d = some d := by
    unfold frz
    rw [if_pos (below_mono (Nat.zero_le _) d hb)]
  have e2 : (s.hp.take bs).all (belowO bs) = true := by
    rw [List.all_eq_true]
    intro o ho
    exact belows_mono (Nat.zero_le _) _ (hf o (List.mem_of_mem_take ho))
  simp only [e1, e2, if_true]
  rw [show s.hp.take hp.length = s.hp by rw [← hl, List.take_length]]
  exact q
/-- a call in a frame -/
theorem Ok_call {f : String} {F : Fn} {ds : List D} {s : MS} {Q : D → MS → Prop} (hF : G.fn f = some F) (hd : F.dfl = []) (hl : ds.length = F.ps.length) (h : Ok (cal f ds s.bs s.hp) fun d hp => Q d { s with hp := hp }) : Ok (callWith G cal f ds [] [] s) Q := by
  unfold callWith
  rw [hF]
  simp only [bindA, List.isEmpty_nil, if_true, hd, hl, Nat.le_refl, decide_true, Nat.sub_self, List.length_nil, Bool.and_self, List.drop_nil, List.append_nil]
  obtain ⟨x, t, e, q⟩ := h.ex
  rw [e]
  exact q
theorem Ok_cal {f : String} {F : Fn} {ds : List D} {s : MS} {P : D → List Ob → Prop} {Q : D → MS → Prop} (hF : G.fn f = some F) (hd : F.dfl = []) (hl : ds.length = F.ps.length) (h : Ok (cal f ds s.bs s.hp) P) (i : ∀ d hp, P d hp → Q d { s with hp := hp }) : Ok (callWith G cal f ds [] [] s) Q :=
  Ok_call hF hd hl (h.mono i)
theorem call_ok {f : String} {F : Fn} {ds : List D} {s : MS} {d : D} {hp : List Ob} (hF : G.fn f = some F) (hd : F.dfl = []) (hl : ds.length = F.ps.length) (h : cal f ds s.bs s.hp = .ok d hp) : callWith G cal f ds [] [] s = .ok d { s with hp := hp } := by
  unfold callWith
  rw [hF]
  simp only [bindA, List.isEmpty_nil, if_true, hd, hl, Nat.le_refl, decide_true, Nat.sub_self, List.length_nil, Bool.and_self, List.drop_nil, List.append_nil, h]
end
theorem callS {G : Tab} {f : String} {F : Fn} (hF : G.fn f = some F) (hd : F.dfl = []) (cal : Cal) (ds : List D) (hl : ds.length = F.ps.length) (s : MS) : callWith G cal f ds [] [] s = (match cal f ds s.bs s.hp with | .ok d hp => .ok d ⟨s.env, hp, s.bs⟩ | .exc x hp => .exc x ⟨s.env, hp, s.bs⟩ | .stuck => .stuck) := by
  unfold callWith
  rw [hF]
  simp only [bindA, List.isEmpty_nil, if_true, hd, hl, Nat.le_refl, decide_true, Nat.sub_self, List.length_nil, Bool.and_self, List.drop_nil, List.append_nil]
  all_goals (cases cal f ds s.bs s.hp <;> rfl)
theorem Ok_calN {G : Tab} {n : Nat} {f : String} {F : Fn} {ds : List D} {bs : Nat} {hp : List Ob} {Q : D → List Ob → Prop} (hF : G.fn f = some F) (hl : ds.length = F.ps.length) (h : Ok (runF G (calN G n) F ds bs hp) Q) : Ok (calN G (n + 1) f ds bs hp) Q := by
  simp only [calN, hF, hl, if_true]
  exact h
section
variable {G : Tab} {cal : Cal} {c : S} {cs : List S} {s t : MS} {Q : Fl → MS → Prop}
theorem exB_nx (h : exS G cal c s = .ok .nx t) : exB G cal (c :: cs) s = exB G cal cs t := by
  rw [exB, h]
  rfl
theorem Ok_seq (h : Ok (exS G cal c s) fun f t => match f with | .nx => Ok (exB G cal cs t) Q | f => Q f t) : Ok (exB G cal (c :: cs) s) Q := by
  rw [exB, Ok_bind]
  refine h.mono fun f t q => ?_
  cases f <;> exact q
theorem Ok_ret {e : E} (h : Ok (evE G cal e s) fun d t => Q (.ret d) t) : Ok (exB G cal [.ret e] s) Q := by
  rw [exB, exS, Ok_bind, Ok_bind]
  exact h
/-- a for loop by an invariant -/
theorem Ok_for {tg : Tg} {k : Ik} {es : List E} {b : List S} {ds xs : List D} (P : Nat → MS → Prop) (he : evEs G cal es s = .ok ds t) (hi : itemsOf k (reDs es ds t) = some xs)
    (h0 : P 0 t) (hc : ∀ i s, P i s → srcOk es ds (reDs es ds t) s = true)
    (ht : ∀ i x s, xs[i]? = some x → P i s → ∃ s', bindTg tg x s = some s' ∧ Ok (exB G cal b s') fun f t => match f with | .nx => P (i + 1) t | .cont => P (i + 1) t | .brk => Q .nx t | .ret d => Q (.ret d) t)
    (hd : ∀ s, P xs.length s → Q .nx s) : Ok (exS G cal (.for tg k es b) s) Q := by
  rw [exS, he, bind_ok]
  simp only [hi]
  refine loopF_ok P xs 0 t h0 hc ?_ (by simpa using hd)
  intro i x s e p
  rw [Nat.zero_add] at p
  obtain ⟨s', e1, e2⟩ := ht i x s e p
  simp only [e1, Nat.zero_add]
  exact e2
/-- a comprehension that finds by each alone -/
theorem comp_pure {elt : E} {tg : Tg} {k : Ik} {es cnd : List E} {wp : List Nat} {s t : MS} {ds xs : List D} (g : D → Option D) (he : evEs G cal es s = .ok ds t) (hi : itemsOf k (reDs es ds t) = some xs) (hz : xs.length ≤ SZ)
    (hw : wp.any (isOwn t) = false) (hc : srcOk es ds (reDs es ds t) (wipeS t wp) = true)
    (ht : ∀ x ∈ xs, ∃ s', bindTg tg x (wipeS t wp) = some s' ∧ ((evTs G cal cnd s').bind fun b s => if b then (evE G cal elt s).bind fun d s => .ok (some d) (wipeS s wp) else .ok none (wipeS s wp)) = .ok (g x) (wipeS t wp)) :
    evE G cal (.comp elt tg k es cnd wp) s = .ok (.lst (xs.filterMap g)) (backS t (wipeS t wp) wp) := by
  rw [evE, he, bind_ok]
  simp only [hi]
  rw [if_pos (by rw [hw]; simpa using hz)]
  rw [loopC_pure g xs [] _ hc (fun x hx => by
    obtain ⟨s', e1, e2⟩ := ht x hx
    simp only [e1]
    exact e2)]
  rfl
/-- a comprehension by an invariant -/
theorem Ok_comp {elt : E} {tg : Tg} {k : Ik} {es cnd : List E} {wp : List Nat} {s t : MS} {ds xs : List D} {Q : D → MS → Prop} (P : Nat → List D → MS → Prop) (he : evEs G cal es s = .ok ds t) (hi : itemsOf k (reDs es ds t) = some xs) (hz : xs.length ≤ SZ)
    (hw : wp.any (isOwn t) = false) (h0 : P 0 [] (wipeS t wp)) (hc : ∀ i a s, P i a s → srcOk es ds (reDs es ds t) s = true)
    (ht : ∀ i a x s, xs[i]? = some x → P i a s → ∃ s', bindTg tg x s = some s' ∧ Ok ((evTs G cal cnd s').bind fun b s => if b then (evE G cal elt s).bind fun d s => .ok (some d) (wipeS s wp) else .ok none (wipeS s wp)) fun o t => P (i + 1) (match o with | some d => a ++ [d] | none => a) t)
    (hd : ∀ a s, P xs.length a s → Q (.lst a) (backS t s wp)) : Ok (evE G cal (.comp elt tg k es cnd wp) s) Q := by
  rw [evE, he, bind_ok]
  simp only [hi]
  rw [if_pos (by rw [hw]; simpa using hz), Ok_bind]
  refine loopC_ok P xs 0 [] _ h0 hc ?_ (by simpa using hd)
  intro i a x s e p
  rw [Nat.zero_add] at p
  obtain ⟨s', e1, e2⟩ := ht i a x s e p
  simp only [e1, Nat.zero_add]
  exact e2
/-- a frame that leaves the objects as they are -/
theorem run_same {F : Fn} {ds : List D} {bs : Nat} {hp : List Ob} {d : D} (hg : F.gc = true) (hf : Flat hp) (hb : below 0 d = true)
    (h : Ok (exB G cal F.body ⟨ds.map .val ++ List.replicate (F.ns - ds.length) .non, hp, hp.length⟩) fun f s => f = .ret d ∧ s.hp = hp) : runF G cal F ds bs hp = .ok d hp := by
  have := run_gc (bs := bs) (Q := fun d' hp' => d' = d ∧ hp' = hp) hg (h.mono fun f s q => ⟨d, q.1, hb, by rw [q.2], by rw [q.2]; exact hf, rfl, q.2⟩)
  obtain ⟨x, t, e, rfl, rfl⟩ := this.ex
  exact e
end
theorem calN_same {G : Tab} {n : Nat} {f : String} {F : Fn} {ds : List D} {bs : Nat} {hp : List Ob} {d : D} (hF : G.fn f = some F) (hl : ds.length = F.ps.length) (h : runF G (calN G n) F ds bs hp = .ok d hp) : calN G (n + 1) f ds bs hp = .ok d hp := by
  simp only [calN, hF, hl, if_true]
  exact h
theorem reD_pk {i : Nat} {d : D} {s : MS} : reD (.pk i) d s = (match s.env[i]? with | some (.own d) => d | some (.val d) => deref d s.hp | _ => .glo "") := rfl
/-- a row of rows of numbers -/
def hD (h : List (List Int)) : List D := h.map fun t => .tup (iD t)
@[simp] theorem hD_nil : hD [] = [] := rfl
@[simp] theorem hD_cons {t : List Int} {h : List (List Int)} : hD (t :: h) = .tup (iD t) :: hD h := rfl
@[simp] theorem hD_app {a b : List (List Int)} : hD (a ++ b) = hD a ++ hD b := List.map_append
@[simp] theorem hD_length {h : List (List Int)} : (hD h).length = h.length := List.length_map ..
@[simp] theorem hD_get {a : List (List Int)} {i : Nat} : (hD a)[i]? = a[i]?.map fun t => .tup (iD t) := List.getElem?_map ..
theorem plains_hD : ∀ h, plains (hD h) = true
  | [] => rfl
  | t :: h => by show (plains (iD t) && plains (hD h)) = true; rw [plains_hD h, plains_iD]; rfl
theorem depth_hD : ∀ h, depthDs (hD h) ≤ 1
  | [] => Nat.zero_le _
  | t :: h => by
    show max (depthDs (iD t) + 1) (depthDs (hD h)) ≤ 1
    have := depth_hD h
    rw [depth_iD]
    omega
theorem belows_hD {k : Nat} : ∀ h, belows k (hD h) = true
  | [] => rfl
  | t :: h => by show (belows k (iD t) && belows k (hD h)) = true; rw [belows_hD h, belows_iD]; rfl
theorem inD_iD {x : Int} {ns : List Int} : inD (.int x) (.tup (iD ns)) = some (decide (x ∈ ns)) := by
  have e : (okD (.int x) && okD (.tup (iD ns))) = true := by simp [okD, plain, plains_iD, depthD, depth_iD]
  simp only [inD, e, if_true, inDs_iD]
section
variable {G : Tab} {cal : Cal} {s : MS} {Q : Fl → MS → Prop}
theorem loopW_ok {test : MS → R MS Bool} {turn : MS → R MS Fl} (P : Nat → MS → Prop) (N : Nat) (hN : ∀ i s, P i s → i ≤ N)
    (ht : ∀ i s, P i s → Ok (test s) fun b t => if b then Ok (turn t) fun f u => match f with | .nx => P (i + 1) u | .cont => P (i + 1) u | .brk => Q .nx u | .ret d => Q (.ret d) u else Q .nx t) :
    ∀ (fuel k : Nat) (s : MS), P k s → N - k < fuel → Ok (loopW test turn fuel s) Q
  | 0, _, _, _, h => by omega
  | fuel + 1, k, s, p, h => by
    rw [loopW, Ok_bind]
    refine (ht k s p).mono fun b t q => ?_
    cases b with
    | false => exact q
    | true =>
      simp only [if_true] at q ⊢
      rw [Ok_bind]
      refine q.mono fun f u q => ?_
      have next : P (k + 1) u → Ok (loopW test turn fuel u) Q := fun p' => loopW_ok P N hN ht fuel (k + 1) u p' (by have := hN _ _ p'; omega)
      cases f with
      | nx => exact next q
      | cont => exact next q
      | brk => exact q
      | ret d => exact q
/-- a while loop by an invariant; P holds at most N + 1 times -/
theorem Ok_whl {c : E} {b : List S} (P : Nat → MS → Prop) (N : Nat) (hz : N < 18446744073709551615) (hN : ∀ i s, P i s → i ≤ N) (h0 : P 0 s)
    (ht : ∀ i s, P i s → Ok (evT G cal c s) fun x t => if x then Ok (exB G cal b t) fun f u => match f with | .nx => P (i + 1) u | .cont => P (i + 1) u | .brk => Q .nx u | .ret d => Q (.ret d) u else Q .nx t) : Ok (exS G cal (.whl c b) s) Q := by
  rw [exS]
  exact loopW_ok P N hN ht FU 0 s h0 (by unfold FU; omega)
end
end Tw
end

section
set_option Elab.async false
set_option linter.all false
set_option maxRecDepth 100000
set_option maxHeartbeats 0
namespace Tw.K03
open Tw
def F_is_whole : Fn where
  ps := ["thing"]
  dfl := []
  ns := 1
  body := [.ret (.and (.isi (.sl 0) [.int]) (.not (.isi (.sl 0) [.bool])))]
  gc := true
def F_is_between : Fn where
  ps := ["thing", "least", "most"]
  dfl := []
  ns := 3
  body := [.ret (.and (.call "is_whole" [.sl 0] [] []) (.cmp2 .le .le (.sl 1) (.sl 0) (.sl 2)))]
  gc := true
def F_is_long_year : Fn where
  ps := ["year"]
  dfl := []
  ns := 1
  body := [.ife (.cmp .eq (.bin .mod (.sl 0) (.int 100)) (.int 0)) [.ret (.cmp .eq (.bin .mod (.sl 0) (.int 400)) (.int 0))] [],
  .ret (.cmp .eq (.bin .mod (.sl 0) (.int 4)) (.int 0))]
  gc := true
def F_days_in : Fn where
  ps := ["year", "month"]
  dfl := []
  ns := 2
  body := [.ret (.bin .add (.ix (.gl "MONTHS") (.bin .sub (.sl 1) (.int 1))) (.bi .int [.and (.cmp .eq (.sl 1) (.int 2)) (.call "is_long_year" [.sl 0] [] [])]))]
  gc := true
def F_are_parts : Fn where
  ps := ["year", "month", "day"]
  dfl := []
  ns := 3
  body := [.ife (.not (.call "is_between" [.sl 0, .int 1, .gl "MOST_YEAR"] [] [])) [.ret (.bl false)] [],
  .ife (.cmp .is (.sl 1) (.non)) [.ret (.cmp .is (.sl 2) (.non))] [],
  .ife (.not (.call "is_between" [.sl 1, .int 1, .bi .len [.gl "MONTHS"]] [] [])) [.ret (.bl false)] [],
  .ret (.or (.cmp .is (.sl 2) (.non)) (.call "is_between" [.sl 2, .int 1, .call "days_in" [.sl 0, .sl 1] [] []] [] []))]
  gc := true
def B_Day : List S := [.ife (.not (.call "are_parts" [.sl 1, .sl 2, .sl 3] [] [])) [.raise "NoDay" [.sl 1, .sl 2, .sl 3]] [],
  .setf (.pk 0) "year" (.sl 1),
  .setf (.pk 0) "month" (.sl 2),
  .setf (.pk 0) "day" (.sl 3)]
def F_Day : Fn where
  ps := ["self", "year", "month", "day"]
  dfl := [.non, .non]
  ns := 4
  body := .slf "Day" :: (B_Day ++ [.ret (.sl 0)])
  gc := true
  kwz := [(2, ["month", "day"])]
  kd := .ini ["year", "month", "day"]
def F_parts_of : Fn where
  ps := ["day"]
  dfl := []
  ns := 1
  body := [.ret (.tup [.fld (.sl 0) "year", .fld (.sl 0) "month", .fld (.sl 0) "day"])]
  gc := true
def F_earliest : Fn where
  ps := ["day"]
  dfl := []
  ns := 1
  body := [.ret (.call "Day" [.non, .fld (.sl 0) "year"] ["month", "day"] [.or (.fld (.sl 0) "month") (.int 1), .or (.fld (.sl 0) "day") (.int 1)])]
  gc := true
def F_latest : Fn where
  ps := ["day"]
  dfl := []
  ns := 2
  body := [.asg (.nm 1) (.or (.fld (.sl 0) "month") (.bi .len [.gl "MONTHS"])),
  .ret (.call "Day" [.non, .fld (.sl 0) "year"] ["month", "day"] [.sl 1, .or (.fld (.sl 0) "day") (.call "days_in" [.fld (.sl 0) "year", .sl 1] [] [])])]
  gc := true
def F_may_be : Fn where
  ps := ["one", "other"]
  dfl := []
  ns := 4
  body := [.for (.tp [.nm 2, .nm 3]) .zips [.call "parts_of" [.sl 0] [] [], .call "parts_of" [.sl 1] [] []] [.ife (.and (.cmp .isn (.sl 2) (.non)) (.and (.cmp .isn (.sl 3) (.non)) (.cmp .ne (.sl 2) (.sl 3)))) [.ret (.bl false)] []],
  .ret (.bl true)]
  gc := true
def F__law_hand : Fn where
  ps := ["_law_script", "_law_k"]
  dfl := []
  ns := 4
  body := [.asg (.nm 2) (.ife (.cmp .lt (.sl 1) (.bi .len [.sl 0])) (.ix (.sl 0) (.sl 1)) (.int 0)),
  .asg (.nm 3) (.bin .mul (.bin .mod (.bi .abs [.sl 2]) (.bin .mul (.bin .pow (.int 10) (.int 60)) (.bin .pow (.int 10) (.int 60)))) (.bi .int [.cmp .ge (.bi .abs [.sl 2]) (.bin .pow (.int 10) (.int 18))])),
  .ret (.shr (.lst [.sl 3, .bin .mod (.bin .add (.bin .add (.bin .mod (.sl 2) (.int 2305843009213693951)) (.bin .mul (.int 7919) (.sl 1))) (.int 3)) (.int 2305843009213693951), .int 0]))]
  gc := false
def F__law_take : Fn where
  ps := ["_law_hand_here", "_law_many"]
  dfl := []
  ns := 4
  body := [.ife (.cmp .gt (.ix (.sl 0) (.int 0)) (.int 0)) [.asg (.nm 2) (.bin .mod (.ix (.sl 0) (.int 0)) (.sl 1)),
   .setix (.sl 0) (.int 0) (.bin .fdiv (.ix (.sl 0) (.int 0)) (.sl 1)),
   .ret (.sl 2)] [],
  .setix (.sl 0) (.int 2) (.bin .add (.ix (.sl 0) (.int 2)) (.int 1)),
  .asg (.nm 3) (.bin .mod (.bin .mul (.bin .add (.bin .add (.ix (.sl 0) (.int 1)) (.bin .mul (.bin .mul (.int 65537) (.ix (.sl 0) (.int 2))) (.ix (.sl 0) (.int 2)))) (.int 11)) (.int 48271)) (.int 2305843009213693921)),
  .asg (.nm 3) (.bin .mod (.bin .mul (.sl 3) (.bin .add (.bin .mod (.sl 3) (.int 1000003)) (.bin .mul (.int 99991) (.ix (.sl 0) (.int 2))))) (.int 2305843009213693907)),
  .ret (.bin .mod (.bin .add (.bin .fdiv (.sl 3) (.int 97)) (.bin .fdiv (.sl 3) (.int 1000033))) (.sl 1))]
  gc := true
def F__law_pick : Fn where
  ps := ["_law_hand_here", "_law_some"]
  dfl := []
  ns := 2
  body := [.ret (.ix (.sl 1) (.call "_law_take" [.sl 0, .bi .len [.sl 1]] [] []))]
  gc := true
def F__law_last : Fn where
  ps := ["_law_y", "_law_m"]
  dfl := []
  ns := 4
  body := [.ife (.cmp .inn (.sl 1) (.tup [.int 4, .int 6, .int 9, .int 11])) [.ret (.int 30)] [],
  .ife (.cmp .ne (.sl 1) (.int 2)) [.ret (.int 31)] [],
  .par [(2, false), (3, false)] [.cmp .eq (.bin .mul (.bin .fdiv (.sl 0) (.int 4)) (.int 4)) (.sl 0), .cmp .eq (.bin .mul (.bin .fdiv (.sl 0) (.int 100)) (.int 100)) (.sl 0)],
  .ret (.ife (.and (.sl 2) (.or (.not (.sl 3)) (.cmp .eq (.bin .mul (.bin .fdiv (.sl 0) (.int 400)) (.int 400)) (.sl 0)))) (.int 29) (.int 28))]
  gc := true
def F__law_parts : Fn where
  ps := ["_law_hand_here"]
  dfl := []
  ns := 7
  body := [.asg (.nm 1) (.lst [.bin .add (.int 1) (.call "_law_take" [.sl 0, .int 9999] [] []), .int 1, .int 9999, .bin .mul (.int 4) (.bin .add (.int 1) (.call "_law_take" [.sl 0, .int 2499] [] [])), .bin .mul (.int 100) (.bin .add (.int 1) (.call "_law_take" [.sl 0, .int 99] [] []))]),
  .asg (.nm 2) (.call "_law_pick" [.sl 0, .sl 1] [] []),
  .par [(3, false), (4, false)] [.call "_law_take" [.sl 0, .int 3] [] [], .call "_law_pick" [.sl 0, .lst [.bin .add (.int 1) (.call "_law_take" [.sl 0, .int 12] [] []), .int 1, .int 2, .int 2, .int 12]] [] []],
  .asg (.nm 5) (.call "_law_last" [.sl 2, .sl 4] [] []),
  .asg (.nm 6) (.call "_law_pick" [.sl 0, .lst [.bin .add (.int 1) (.call "_law_take" [.sl 0, .sl 5] [] []), .int 1, .sl 5]] [] []),
  .ret (.ix (.lst [.tup [.sl 2, .non, .non], .tup [.sl 2, .sl 4, .non], .tup [.sl 2, .sl 4, .sl 6]]) (.sl 3))]
  gc := true
def F__law_of : Fn where
  ps := ["_law_parts_here"]
  dfl := []
  ns := 1
  body := [.ret (.call "Day" [.non, .ix (.sl 0) (.int 0), .ix (.sl 0) (.int 1), .ix (.sl 0) (.int 2)] [] [])]
  gc := true
def F__law_told : Fn where
  ps := ["_law_d"]
  dfl := []
  ns := 1
  body := [.ret (.tup [.fld (.sl 0) "year", .fld (.sl 0) "month", .fld (.sl 0) "day"])]
  gc := true
def F__law_ends : Fn where
  ps := ["_law_parts_here"]
  dfl := []
  ns := 6
  body := [.asg (.tp [.nm 1, .nm 2, .nm 3]) (.sl 0),
  .par [(4, false), (5, false)] [.or (.sl 2) (.int 1), .or (.sl 2) (.int 12)],
  .ret (.tup [.tup [.sl 1, .sl 4, .or (.sl 3) (.int 1)], .tup [.sl 1, .sl 5, .or (.sl 3) (.call "_law_last" [.sl 1, .sl 5] [] [])]])]
  gc := true
def F__law_beside : Fn where
  ps := ["_law_hand_here", "_law_parts_here"]
  dfl := []
  ns := 7
  body := [.asg (.tp [.nm 2, .nm 3, .nm 4]) (.sl 1),
  .asg (.nm 5) (.call "_law_parts" [.sl 0] [] []),
  .own 6 (.lst [.tup [.sl 2, .non, .non], .tup [.sl 2, .sl 3, .non], .tup [.sl 2, .ix (.sl 5) (.int 1), .non], .sl 1, .sl 5]),
  .ex (.bm (.pk 6) .append [.tup [.bi .max [.int 1, .bin .sub (.sl 2) (.int 1)], .sl 3, .non]]),
  .ife (.cmp .isn (.ix (.sl 5) (.int 1)) (.non)) [.ex (.bm (.pk 6) .append [.tup [.sl 2, .ix (.sl 5) (.int 1), .bin .add (.int 1) (.call "_law_take" [.sl 0, .int 28] [] [])]])] [],
  .ife (.cmp .isn (.sl 3) (.non)) [.ex (.bm (.pk 6) .append [.tup [.sl 2, .sl 3, .bin .add (.int 1) (.call "_law_take" [.sl 0, .int 28] [] [])]])] [],
  .ret (.call "_law_pick" [.sl 0, .sl 6] [] [])]
  gc := true
def F__law_may : Fn where
  ps := ["_law_one", "_law_other"]
  dfl := []
  ns := 4
  body := [.ret (.bi .all [.comp (.or (.cmp .is (.sl 2) (.non)) (.or (.cmp .is (.sl 3) (.non)) (.cmp .eq (.sl 2) (.sl 3)))) (.tp [.nm 2, .nm 3]) .zip [.sl 0, .sl 1] [] [2, 3]])]
  gc := true
def F__law_right : Fn where
  ps := ["_law_hand_here"]
  dfl := []
  ns := 10
  body := [.asg (.nm 1) (.call "_law_parts" [.sl 0] [] []),
  .par [(2, false), (3, false)] [.call "_law_of" [.sl 1] [] [], .call "_law_ends" [.sl 1] [] []],
  .par [(4, false), (5, false)] [.call "earliest" [.sl 2] [] [], .call "latest" [.sl 2] [] []],
  .ife (.or (.not (.isi (.sl 4) [.own "Day"])) (.or (.not (.isi (.sl 5) [.own "Day"])) (.cmp .ne (.bi .repr [.tup [.call "_law_told" [.sl 4] [] [], .call "_law_told" [.sl 5] [] []]]) (.bi .repr [.sl 3])))) [.ret (.bl false)] [],
  .ife (.or (.cmp .isn (.call "may_be" [.sl 2, .sl 4] [] []) (.bl true)) (.or (.cmp .isn (.call "may_be" [.sl 5, .sl 2] [] []) (.bl true)) (.cmp .isn (.call "may_be" [.sl 2, .sl 2] [] []) (.bl true)))) [.ret (.bl false)] [],
  .for (.nm 6) .rng [.int 6] [.asg (.nm 7) (.call "_law_beside" [.sl 0, .sl 1] [] []),
   .par [(8, false), (9, false)] [.call "_law_may" [.sl 1, .sl 7] [] [], .call "_law_of" [.sl 7] [] []],
   .ife (.or (.cmp .ne (.bi .repr [.call "may_be" [.sl 2, .sl 9] [] []]) (.bi .repr [.sl 8])) (.or (.cmp .ne (.bi .repr [.call "may_be" [.sl 9, .sl 2] [] []]) (.bi .repr [.sl 8])) (.cmp .ne (.call "_law_told" [.sl 9] [] []) (.sl 7)))) [.ret (.bl false)] []],
  .ret (.cmp .eq (.bi .repr [.call "_law_told" [.sl 2] [] []]) (.bi .repr [.sl 1]))]
  gc := true
def F_law : Fn where
  ps := ["_law_script"]
  dfl := []
  ns := 2
  body := [.ret (.bi .all [.comp (.call "_law_right" [.call "_law_hand" [.sl 0, .sl 1] [] []] [] []) (.nm 1) .rng [.bin .add (.int 2) (.bi .min [.int 10, .bi .len [.sl 0]])] [] [1]])]
  gc := true
def cst : List (String × D) := [("MOST_YEAR", .int 9999), ("MONTHS", .tup [.int 31, .int 28, .int 31, .int 30, .int 31, .int 30, .int 31, .int 31, .int 30, .int 31, .int 30, .int 31])]
def tab : List (String × Fn) := [("is_whole", F_is_whole), ("is_between", F_is_between), ("is_long_year", F_is_long_year), ("days_in", F_days_in), ("are_parts", F_are_parts), ("Day", F_Day), ("parts_of", F_parts_of), ("earliest", F_earliest), ("latest", F_latest), ("may_be", F_may_be), ("_law_hand", F__law_hand), ("_law_take", F__law_take), ("_law_pick", F__law_pick), ("_law_last", F__law_last), ("_law_parts", F__law_parts), ("_law_of", F__law_of), ("_law_told", F__law_told), ("_law_ends", F__law_ends), ("_law_beside", F__law_beside), ("_law_may", F__law_may), ("_law_right", F__law_right), ("law", F_law)]
def G : Tab := ⟨tab, cst, shD⟩
end Tw.K03
end

section
set_option linter.all false
set_option autoImplicit false
set_option maxRecDepth 100000
set_option maxHeartbeats 4000000
/-! min and max of any data. -/
namespace Tw
open PySem L2 PyProof.Rows PySem.W

def minF (x : D) (xs : List D) : D := xs.foldl (fun a y => if ltD y a then y else a) x
def maxF (x : D) (xs : List D) : D := xs.foldl (fun a y => if ltD a y then y else a) x
section
variable {prog : Program} {w : World} {A : Around} {E : Value → Shared → Prop} {s : Shared} {a b : Value} {da db : PyData} {as bs : List Addr} {Q : Value → Shared → Prop}
theorem two_reads {h : Heap} (ra : Reads h a da as) (rb : Reads h b db bs) : ReadsAll h [a, b] [da, db] (as ++ (bs ++ [])) := .cons ra (.cons rb .nil)
theorem call_min_pairH
    (h : wpAny (model prog w) A.in1 (pyIter (.ref s.heap.objs.size)) (fun it s₂ => ∃ I fp wr G n P St H bt, it = .ref I ∧ WalksS prog w A.in1 I fp wr G n P St ∧ St 0 s₂ ∧ (∀ b ∈ fp, b < s₂.heap.objs.size) ∧ 0 < n ∧
      (∀ b o, H.get? b = some o → b ∉ wr) ∧ (∀ b o, H.get? b = some o → s₂.heap.get? b = some o) ∧ CmpIn prog w A.in1 .Lt H P bt ∧ ∀ v s', P (argBest bt (n - 1)) v → Moved wr G s₂ s' → Q v s') E { s with heap := s.heap.push { cls := .type "tuple", data := .seq #[a, b] } }) :
    wpAny (model prog w) A (call (.builtin "min") [a, b]) Q E s := by
  have nm : (toString "min" ++ toString ".loop" : String) = "min.loop" := by decide
  refine call_function_tree F.kind_min F.plain_min F.entry_min (F.args_min2 _ _) ?_
  show wpAny _ A.in1 (Builtin.Builtins.bindParams "min" ["key", "default"] 0 ⟨[], []⟩ >>= _) _ _ s
  refine wpAny_bind (wpAny_of_eq (show Builtin.Builtins.bindParams "min" ["key", "default"] 0 ⟨[], []⟩ = pure [none, none] from rfl) (wpAny_bind (wpAny_newObj_type (wpAny_bind (wpAny_mono h (fun it s₂ h₂ => ?_) fun _ _ e => e)))))
  obtain ⟨I, fp, wr, G, n, P, St, H, bt, rfl, W, hst, hfp, hn, hw, hkeep, hcmp, hQ⟩ := h₂
  refine wpAny_bind (wpAny_newObj_type ?_)
  have out : s₂.heap.objs.size ∉ fp := fun hm => Nat.lt_irrefl _ (hfp _ hm)
  rw [nm]
  refine wpAny_pure ⟨plainId_quiet F.plain_min_loop _, codeAny_min_loop_firstH W H hw bt hcmp s₂.heap.objs.size out (fresh_in hkeep) _ hn (fun b o e => Heap.get?_push_of_some _ (hkeep b o e)) (W.frame 0 s₂ _ s₂.toks hst (Nat.le_refl _) fun b _ o e => Heap.get?_push_of_some _ e) (Heap.get?_push_size _ rfl) fun v s' hP hm => ?_⟩
  exact hQ v s' hP (Moved.drop_new (tk := s₂.toks) hm (Nat.le_refl _))
theorem min_pair (hh : A.handled = none) (ra : Reads s.heap a da as) (rb : Reads s.heap b db bs) (al : AlikeAll [da, db]) (hu : A.units + 1 + PyData.depthAll [da, db] < cLine)
    (h : ∀ h' tk, (∀ c o, s.heap.get? c = some o → h'.get? c = some o) → Q (if dataLt db da then b else a) { s with heap := h', toks := tk }) : wpAny (model prog w) A (call (.builtin "min") [a, b]) Q E s := by
  have up : ∀ c o, s.heap.get? c = some o → (s.heap.push { cls := .type "tuple", data := .seq #[a, b] }).get? c = some o := fun c o e => Heap.get?_push_of_some _ e
  have hT : (s.heap.push { cls := .type "tuple", data := .seq #[a, b] }).IsTuple s.heap.objs.size #[a, b] := ⟨_, Heap.get?_push_size _ rfl, rfl, 0, rfl⟩
  have rr : ReadsAll (s.heap.push { cls := .type "tuple", data := .seq #[a, b] }) (#[a, b] : Array Value).toList [da, db] (as ++ (bs ++ [])) := two_reads (reads_keeps up ra) (reads_keeps up rb)
  refine call_min_pairH (iter_tupleW (A := A.in1) (s := { s with heap := s.heap.push { cls := .type "tuple", data := .seq #[a, b] } }) hh hT fun s₂ e W st hfp hw hk => ?_)
  refine ⟨_, _, _, _, _, _, _, _, _, rfl, W, st, hfp, Nat.succ_pos 1, hw, hk, cmpIn_lt (A := A.in1) (s := { s with heap := s.heap.push { cls := .type "tuple", data := .seq #[a, b] } }) rr al (by show A.units + 1 + _ < _; exact hu), fun v s' hP m => ?_⟩
  obtain ⟨h', tk, rfl, hk'⟩ := moved_old e rfl m
  have hv : v = if dataLt db da then b else a := by
    have hP : (#[a, b] : Array Value)[if dataLt db da then 1 else 0]? = some v := hP
    by_cases hb : dataLt db da = true
    · rw [if_pos hb] at hP ⊢
      exact (Option.some.inj hP).symm
    · rw [if_neg hb] at hP ⊢
      exact (Option.some.inj hP).symm
  rw [hv]
  exact h h' tk fun c o e => hk' c o (up c o e)
theorem call_max_pairH
    (h : wpAny (model prog w) A.in1 (pyIter (.ref s.heap.objs.size)) (fun it s₂ => ∃ I fp wr G n P St H bt, it = .ref I ∧ WalksS prog w A.in1 I fp wr G n P St ∧ St 0 s₂ ∧ (∀ b ∈ fp, b < s₂.heap.objs.size) ∧ 0 < n ∧
      (∀ b o, H.get? b = some o → b ∉ wr) ∧ (∀ b o, H.get? b = some o → s₂.heap.get? b = some o) ∧ CmpIn prog w A.in1 .Gt H P bt ∧ ∀ v s', P (argBest bt (n - 1)) v → Moved wr G s₂ s' → Q v s') E { s with heap := s.heap.push { cls := .type "tuple", data := .seq #[a, b] } }) :
    wpAny (model prog w) A (call (.builtin "max") [a, b]) Q E s := by
  have nm : (toString "max" ++ toString ".loop" : String) = "max.loop" := by decide
  refine call_function_tree F.kind_max F.plain_max F.entry_max (F.args_max2 _ _) ?_
  show wpAny _ A.in1 (Builtin.Builtins.bindParams "max" ["key", "default"] 0 ⟨[], []⟩ >>= _) _ _ s
  refine wpAny_bind (wpAny_of_eq (show Builtin.Builtins.bindParams "max" ["key", "default"] 0 ⟨[], []⟩ = pure [none, none] from rfl) (wpAny_bind (wpAny_newObj_type (wpAny_bind (wpAny_mono h (fun it s₂ h₂ => ?_) fun _ _ e => e)))))
  obtain ⟨I, fp, wr, G, n, P, St, H, bt, rfl, W, hst, hfp, hn, hw, hkeep, hcmp, hQ⟩ := h₂
  refine wpAny_bind (wpAny_newObj_type ?_)
  have out : s₂.heap.objs.size ∉ fp := fun hm => Nat.lt_irrefl _ (hfp _ hm)
  rw [nm]
  refine wpAny_pure ⟨plainId_quiet F.plain_max_loop _, codeAny_max_loop_firstH W H hw bt hcmp s₂.heap.objs.size out (fresh_in hkeep) _ hn (fun b o e => Heap.get?_push_of_some _ (hkeep b o e)) (W.frame 0 s₂ _ s₂.toks hst (Nat.le_refl _) fun b _ o e => Heap.get?_push_of_some _ e) (Heap.get?_push_size _ rfl) fun v s' hP hm => ?_⟩
  exact hQ v s' hP (Moved.drop_new (tk := s₂.toks) hm (Nat.le_refl _))
theorem max_pair (hh : A.handled = none) (ra : Reads s.heap a da as) (rb : Reads s.heap b db bs) (al : AlikeAll [da, db]) (hu : A.units + 1 + PyData.depthAll [da, db] < cLine)
    (h : ∀ h' tk, (∀ c o, s.heap.get? c = some o → h'.get? c = some o) → Q (if dataLt da db then b else a) { s with heap := h', toks := tk }) : wpAny (model prog w) A (call (.builtin "max") [a, b]) Q E s := by
  have up : ∀ c o, s.heap.get? c = some o → (s.heap.push { cls := .type "tuple", data := .seq #[a, b] }).get? c = some o := fun c o e => Heap.get?_push_of_some _ e
  have hT : (s.heap.push { cls := .type "tuple", data := .seq #[a, b] }).IsTuple s.heap.objs.size #[a, b] := ⟨_, Heap.get?_push_size _ rfl, rfl, 0, rfl⟩
  have rr : ReadsAll (s.heap.push { cls := .type "tuple", data := .seq #[a, b] }) (#[a, b] : Array Value).toList [da, db] (as ++ (bs ++ [])) := two_reads (reads_keeps up ra) (reads_keeps up rb)
  refine call_max_pairH (iter_tupleW (A := A.in1) (s := { s with heap := s.heap.push { cls := .type "tuple", data := .seq #[a, b] } }) hh hT fun s₂ e W st hfp hw hk => ?_)
  refine ⟨_, _, _, _, _, _, _, _, _, rfl, W, st, hfp, Nat.succ_pos 1, hw, hk, cmpIn_gt (A := A.in1) (s := { s with heap := s.heap.push { cls := .type "tuple", data := .seq #[a, b] } }) rr al (by show A.units + 1 + _ < _; exact hu), fun v s' hP m => ?_⟩
  obtain ⟨h', tk, rfl, hk'⟩ := moved_old e rfl m
  have hv : v = if dataLt da db then b else a := by
    have hP : (#[a, b] : Array Value)[if dataLt da db then 1 else 0]? = some v := hP
    by_cases hb : dataLt da db = true
    · rw [if_pos hb] at hP ⊢
      exact (Option.some.inj hP).symm
    · rw [if_neg hb] at hP ⊢
      exact (Option.some.inj hP).symm
  rw [hv]
  exact h h' tk fun c o e => hk' c o (up c o e)
end
section
variable {X : Cx} {ρ : List Addr} {M : Addr → Prop} {H : Hp}
theorem Rep.ite {K : PySem.W.Frag} {c : Bool} {d e : D} {v w : V} (r : Rep K ρ M H d v) (q : Rep K ρ M H e w) : Rep K ρ M H (if c then d else e) (if c then v else w) := by
  cases c <;> assumption
theorem mm_two {d e : D} (h : mmOk [d, e] = true) : okD d = true ∧ okD e = true ∧ AlikeAll [py d, py e] ∧ alikeD e d = true ∧ alikeD d e = true := by
  obtain ⟨h1, h2⟩ := Bool.and_eq_true_iff.mp h
  simp only [List.all_cons, List.all_nil, Bool.and_true, Bool.and_eq_true] at h2
  obtain ⟨⟨a1, a2⟩, b1, b2⟩ := h2
  have al : ∀ x ∈ [d, e], ∀ y ∈ [d, e], alikeD x y = true := fun x hx y hy => List.all_eq_true.mp (List.all_eq_true.mp h1 x hx) y hy
  refine ⟨a1, b1, ⟨fun x hx y hy => ?_, fun x hx => ?_⟩, al _ (by simp) _ (by simp), al _ (by simp) _ (by simp)⟩
  · obtain ⟨x', hx', rfl⟩ : ∃ x' ∈ [d, e], py x' = x := by rcases List.mem_cons.mp hx with rfl | hx; exact ⟨d, by simp, rfl⟩; exact ⟨e, by simp, (List.mem_singleton.mp hx).symm⟩
    obtain ⟨y', hy', rfl⟩ : ∃ x' ∈ [d, e], py x' = y := by rcases List.mem_cons.mp hy with rfl | hy; exact ⟨d, by simp, rfl⟩; exact ⟨e, by simp, (List.mem_singleton.mp hy).symm⟩
    have p : ∀ z ∈ [d, e], plain z = true := fun z hz => by rcases List.mem_cons.mp hz with rfl | hz; exact okD_plain a1; rw [show z = e by simpa using hz]; exact okD_plain b1
    rw [alike_py _ _ (p _ hx') (p _ hy')]
    exact al _ hx' _ hy'
  · rcases List.mem_cons.mp hx with rfl | hx
    · exact py_none (okD_plain a1) a2
    · rw [show x = py e by simpa using hx]
      exact py_none (okD_plain b1) b2
theorem depth_two {d e : D} {A : Around} (hu : A.units + 70 < cLine) (h1 : okD d = true) (h2 : okD e = true) : A.units + 1 + PyData.depthAll [py d, py e] < cLine := by
  have a := okD_depth h1
  have b := okD_depth h2
  rw [← depth_py _ (okD_plain h1)] at a
  rw [← depth_py _ (okD_plain h2)] at b
  have : PyData.depthAll [py d, py e] = max (py d).depth (max (py e).depth 0) := by simp [PyData.depthAll]
  rw [this]
  omega
/-- min(x, y), max(x, y) of data -/
theorem cr_mm {dx dy : D} {x y : V} {u v : Value} {Q : VK} {pins : List (Addr × Obj)} {σ : L2.St} {s : Shared} (hc : X.calm = true) (hu : X.A.units + 70 < cLine) (I : Inv X pins σ H s) (rx : RelV x u) (ry : RelV y v) (r1 : Rep0 X.K ρ M H dx x) (r2 : Rep0 X.K ρ M H dy y)
    (hm : mmOk [dx, dy] = true) (n1 : ∀ ds, dx ≠ .lst ds) (n2 : ∀ ds, dy ≠ .lst ds) :
    (Fin X.K ρ M H (if ltD dy dx then dy else dx) Q → wpAny (model X.prog X.w) X.A (call (.builtin "min") [u, v]) (EP X pins σ Q) X.xe s) ∧
    (Fin X.K ρ M H (if ltD dx dy then dy else dx) Q → wpAny (model X.prog X.w) X.A (call (.builtin "max") [u, v]) (EP X pins σ Q) X.xe s) := by
  obtain ⟨o1, o2, al, a1, a2⟩ := mm_two hm
  obtain ⟨as, ra⟩ := r1.reads (okD_plain o1) I rx
  obtain ⟨bs, rb⟩ := r2.reads (okD_plain o2) I ry
  have q1 := r1.rep n1 (plain_nob (okD_plain o1))
  have q2 := r2.rep n2 (plain_nob (okD_plain o2))
  constructor
  · intro fin
    refine min_pair (I.ok.hd hc) ra rb al (depth_two hu o1 o2) fun h' tk hk => ⟨if ltD dy dx then y else x, H, I.kept hk, ?_, ?_⟩
    · rw [lt_py _ _ (okD_plain o2) (okD_plain o1) a1]
      cases ltD dy dx <;> assumption
    · exact fin.same (Rep.ite q2 q1) (fun ds => by cases ltD dy dx <;> simp_all)
  · intro fin
    refine max_pair (I.ok.hd hc) ra rb al (depth_two hu o1 o2) fun h' tk hk => ⟨if ltD dx dy then y else x, H, I.kept hk, ?_, ?_⟩
    · rw [lt_py _ _ (okD_plain o1) (okD_plain o2) a2]
      cases ltD dx dy <;> assumption
    · exact fin.same (Rep.ite q2 q1) (fun ds => by cases ltD dx dy <;> simp_all)
theorem notLst_ok {d : D} (h : notLst d = true) : ∀ ds, d ≠ .lst ds := fun ds e => by subst e; cases h
theorem cr_min2 (sh : D → List Nat) (hc : X.calm = true) (hu : X.A.units + 70 < cLine) : CallR X (.builtin "min") (rBi X.K sh .min2) := by
  intro pins s σ H xs us Q I rx h
  obtain ⟨ρ, M, dxs, d, t, r, hd, fin⟩ := h
  match dxs, hd, r with
  | [x, y], hd, r =>
    obtain ⟨v, w, rfl, r1, r2⟩ := r.two
    obtain ⟨u1, u2, rfl, q1, q2⟩ := rx.two
    simp only [callBi] at hd
    split at hd
    case isFalse => cases hd
    rename_i hm
    cases hd
    obtain ⟨h1, h2⟩ := Bool.and_eq_true_iff.mp hm
    obtain ⟨h2, h3⟩ := Bool.and_eq_true_iff.mp h2
    exact (cr_mm hc hu I q1 q2 r1 r2 h1 (notLst_ok h2) (notLst_ok h3)).1 fin
  | [], hd, _ => simp [callBi] at hd
  | [_], hd, _ => simp [callBi] at hd
  | _ :: _ :: _ :: _, hd, _ => simp [callBi] at hd
theorem cr_max2 (sh : D → List Nat) (hc : X.calm = true) (hu : X.A.units + 70 < cLine) : CallR X (.builtin "max") (rBi X.K sh .max2) := by
  intro pins s σ H xs us Q I rx h
  obtain ⟨ρ, M, dxs, d, t, r, hd, fin⟩ := h
  match dxs, hd, r with
  | [x, y], hd, r =>
    obtain ⟨v, w, rfl, r1, r2⟩ := r.two
    obtain ⟨u1, u2, rfl, q1, q2⟩ := rx.two
    simp only [callBi] at hd
    split at hd
    case isFalse => cases hd
    rename_i hm
    cases hd
    obtain ⟨h1, h2⟩ := Bool.and_eq_true_iff.mp hm
    obtain ⟨h2, h3⟩ := Bool.and_eq_true_iff.mp h2
    exact (cr_mm hc hu I q1 q2 r1 r2 h1 (notLst_ok h2) (notLst_ok h3)).2 fin
  | [], hd, _ => simp [callBi] at hd
  | [_], hd, _ => simp [callBi] at hd
  | _ :: _ :: _ :: _, hd, _ => simp [callBi] at hd
/-! ### min of a list of any data -/
theorem pys_getD : ∀ (ds : List D) (i : Nat), (pys ds).getD i .none = py (ds.getD i .non)
  | [], i => by simp [pys, py]
  | d :: ds, 0 => by simp [pys]
  | d :: ds, i + 1 => by
    have := pys_getD ds i
    simpa [pys] using this
theorem mem_pys : ∀ {ds : List D} {x : PyData}, x ∈ pys ds → ∃ d ∈ ds, py d = x
  | [], x, h => by simp [pys] at h
  | d :: ds, x, h => by
    rcases List.mem_cons.mp (show x ∈ py d :: pys ds from h) with rfl | h
    · exact ⟨d, List.mem_cons_self, rfl⟩
    · obtain ⟨e, he, rfl⟩ := mem_pys h
      exact ⟨e, List.mem_cons_of_mem _ he, rfl⟩
theorem each_all {h : Heap} : ∀ {us : List Value} {ds : List D}, EachIs (fun v d => ∃ as, Reads h v (py d) as) us ds → ∃ as, ReadsAll h us (pys ds) as
  | _, _, .nil => ⟨[], .nil⟩
  | _, _, .cons ⟨as, r⟩ t => by
    obtain ⟨bs, q⟩ := each_all t
    exact ⟨as ++ bs, .cons r q⟩
theorem mm_all {ds : List D} (h : mmOk ds = true) : (∀ x ∈ ds, okD x = true) ∧ AlikeAll (pys ds) ∧ (∀ x ∈ ds, ∀ y ∈ ds, alikeD x y = true) := by
  obtain ⟨h1, h2⟩ := Bool.and_eq_true_iff.mp h
  have ho : ∀ x ∈ ds, okD x = true := fun x hx => (Bool.and_eq_true_iff.mp (List.all_eq_true.mp h2 x hx)).1
  have al : ∀ x ∈ ds, ∀ y ∈ ds, alikeD x y = true := fun x hx y hy => List.all_eq_true.mp (List.all_eq_true.mp h1 x hx) y hy
  refine ⟨ho, ⟨fun x hx y hy => ?_, fun x hx => ?_⟩, al⟩
  · obtain ⟨x', hx', rfl⟩ := mem_pys hx
    obtain ⟨y', hy', rfl⟩ := mem_pys hy
    rw [alike_py _ _ (okD_plain (ho _ hx')) (okD_plain (ho _ hy'))]
    exact al _ hx' _ hy'
  · obtain ⟨x', hx', rfl⟩ := mem_pys hx
    exact py_none (okD_plain (ho _ hx')) (Bool.and_eq_true_iff.mp (List.all_eq_true.mp h2 _ hx')).2
theorem depth_all : ∀ {ds : List D}, (∀ x ∈ ds, okD x = true) → PyData.depthAll (pys ds) ≤ 64
  | [], _ => by simp [pys, PyData.depthAll]
  | d :: ds, h => by
    have h1 := okD_depth (h d List.mem_cons_self)
    rw [← depth_py _ (okD_plain (h d List.mem_cons_self))] at h1
    have h2 := depth_all (ds := ds) fun x hx => h x (List.mem_cons_of_mem _ hx)
    have : PyData.depthAll (pys (d :: ds)) = max (py d).depth (PyData.depthAll (pys ds)) := by simp [pys, PyData.depthAll]
    rw [this]
    omega
theorem fold_lt (ds : List D) (ho : ∀ x ∈ ds, okD x = true) (al : ∀ x ∈ ds, ∀ y ∈ ds, alikeD x y = true) : ∀ (xs : List D) (a : D), a ∈ ds → (∀ x ∈ xs, x ∈ ds) →
    xs.foldl (fun a y => if dataLt (py y) (py a) then y else a) a = xs.foldl (fun a y => if ltD y a then y else a) a ∧ xs.foldl (fun a y => if ltD y a then y else a) a ∈ ds
  | [], a, ha, _ => ⟨rfl, ha⟩
  | x :: xs, a, ha, h => by
    have hx := h x List.mem_cons_self
    have e : dataLt (py x) (py a) = ltD x a := lt_py _ _ (okD_plain (ho _ hx)) (okD_plain (ho _ ha)) (al _ hx _ ha)
    rw [List.foldl_cons, List.foldl_cons, e]
    refine fold_lt ds ho al xs _ ?_ fun y hy => h y (List.mem_cons_of_mem _ hy)
    split <;> assumption
theorem vals_at : ∀ {vs : List V} {us : List Value} {i : Nat} {u : Value}, Vals vs us → us[i]? = some u → ∃ v, vs[i]? = some v ∧ RelV v u
  | _, _, _, _, .nil, e => by simp at e
  | _, _, 0, _, .cons r _, e => by simp at e; subst e; exact ⟨_, rfl, r⟩
  | _, _, i + 1, _, .cons _ t, e => by
    obtain ⟨v, h1, h2⟩ := vals_at (i := i) t (by simpa using e)
    exact ⟨v, by simpa using h1, h2⟩
theorem cr_minl (sh : D → List Nat) (hc : X.calm = true) (hu : X.A.units + 70 < cLine) : CallR X (.builtin "min") (rBi X.K sh .minl) := by
  intro pins s σ H xs us Q I rx h
  obtain ⟨ρ, M, dxs, d, t, r, hd, fin⟩ := h
  unfold callBi at hd
  split at hd <;> first | (rename_i z; cases z; done) | skip
  all_goals first
    | (cases hd; done)
    | skip
  · rename_i x xs' _
    obtain ⟨v, rfl, r1⟩ := r.one
    obtain ⟨a, vs, rfl, h1, q⟩ := r1.lstI
    split at hd
    case isFalse => cases hd
    rename_i hm
    cases hd
    obtain ⟨hm1, hm2⟩ := Bool.and_eq_true_iff.mp hm
    obtain ⟨ho, al, kal⟩ := mm_all hm1
    obtain ⟨u, rfl, ru⟩ := rx.one
    cases ru
    obtain ⟨its, rv, pl, hz⟩ := I.list h1
    have kp : plains (x :: xs') = true := plains_all (List.all_eq_true.mpr ho)
    obtain ⟨as, ra⟩ := each_all (each_reads I (x :: xs') kp q rv)
    have hsz : its.toArray.size = xs'.length + 1 := by
      have e1 := q.length
      have e2 := rv.length
      simp only [List.size_toArray]
      simp at e1
      omega
    refine call_min_walkH (iter_listW (A := X.A.in1) (s := s) (I.ok.hd hc) pl.isList fun s₂ e W st hfp hw hk => ?_)
    refine ⟨_, _, _, _, _, _, _, s.heap, _, rfl, W, st, hfp, by omega, hw, hk, cmpIn_lt (A := X.A.in1) (s := s) ra al (by have := depth_all ho; show X.A.units + 1 + _ < _; omega), fun v s' hP m => ?_⟩
    obtain ⟨h', tk, rfl, hk'⟩ := moved_old e rfl m
    have hbt : (fun i j => dataLt ((pys (x :: xs')).getD i .none) ((pys (x :: xs')).getD j .none)) = fun i j => (fun a b => dataLt (py a) (py b)) ((x :: xs').getD i .non) ((x :: xs').getD j .non) := by
      funext i j
      rw [pys_getD, pys_getD]
    rw [hbt, hsz] at hP
    obtain ⟨b1, b2⟩ := argBest_fold (fun a b => dataLt (py a) (py b)) D.non x xs' xs'.length (Nat.le_refl _)
    rw [List.take_length] at b2
    obtain ⟨f1, f2⟩ := fold_lt (x :: xs') ho kal xs' x List.mem_cons_self fun y hy => List.mem_cons_of_mem _ hy
    rw [f1] at b2
    have hP : its[argBest (fun i j => (fun a b => dataLt (py a) (py b)) ((x :: xs').getD i .non) ((x :: xs').getD j .non)) xs'.length]? = some v := by simpa using hP
    obtain ⟨w, e1, e2⟩ := vals_at rv hP
    obtain ⟨dd, e3, rdk⟩ := Reps.get' q e1
    rw [List.getD_eq_getElem?_getD, e3] at b2
    have b2 : dd = _ := b2
    subst b2
    exact ⟨w, H, I.kept hk', e2, fin.same rdk (notLst_ok (List.all_eq_true.mp hm2 _ f2))⟩
/-! ### max of a tuple of any data -/
theorem fold_gt (ds : List D) (ho : ∀ x ∈ ds, okD x = true) (al : ∀ x ∈ ds, ∀ y ∈ ds, alikeD x y = true) : ∀ (xs : List D) (a : D), a ∈ ds → (∀ x ∈ xs, x ∈ ds) →
    xs.foldl (fun a y => if dataLt (py a) (py y) then y else a) a = xs.foldl (fun a y => if ltD a y then y else a) a ∧ xs.foldl (fun a y => if ltD a y then y else a) a ∈ ds
  | [], a, ha, _ => ⟨rfl, ha⟩
  | x :: xs, a, ha, h => by
    have hx := h x List.mem_cons_self
    have e : dataLt (py a) (py x) = ltD a x := lt_py _ _ (okD_plain (ho _ ha)) (okD_plain (ho _ hx)) (al _ ha _ hx)
    rw [List.foldl_cons, List.foldl_cons, e]
    refine fold_gt ds ho al xs _ ?_ fun y hy => h y (List.mem_cons_of_mem _ hy)
    split <;> assumption
theorem cr_maxl (sh : D → List Nat) (hc : X.calm = true) (hu : X.A.units + 70 < cLine) : CallR X (.builtin "max") (rBi X.K sh .maxl) := by
  intro pins s σ H xs us Q I rx h
  obtain ⟨ρ, M, dxs, d, t, r, hd, fin⟩ := h
  unfold callBi at hd
  split at hd <;> first | (rename_i z; cases z; done) | skip
  all_goals first
    | (cases hd; done)
    | skip
  · rename_i x xs' _
    obtain ⟨v, rfl, r1⟩ := r.one
    obtain ⟨a, vs, rfl, h1, q⟩ := r1.tupI
    split at hd
    case isFalse => cases hd
    rename_i hm
    cases hd
    obtain ⟨hm1, hm2⟩ := Bool.and_eq_true_iff.mp hm
    obtain ⟨ho, al, kal⟩ := mm_all hm1
    obtain ⟨u, rfl, ru⟩ := rx.one
    cases ru
    obtain ⟨its, rv, pl, hz⟩ := I.tuple h1
    have kp : plains (x :: xs') = true := plains_all (List.all_eq_true.mpr ho)
    obtain ⟨as, ra⟩ := each_all (each_reads I (x :: xs') kp q rv)
    have hsz : its.toArray.size = xs'.length + 1 := by
      have e1 := q.length
      have e2 := rv.length
      simp only [List.size_toArray]
      simp at e1
      omega
    refine call_max_walkH (iter_tupleW (A := X.A.in1) (s := s) (I.ok.hd hc) pl fun s₂ e W st hfp hw hk => ?_)
    refine ⟨_, _, _, _, _, _, _, s.heap, _, rfl, W, st, hfp, by omega, hw, hk, cmpIn_gt (A := X.A.in1) (s := s) ra al (by have := depth_all ho; show X.A.units + 1 + _ < _; omega), fun v s' hP m => ?_⟩
    obtain ⟨h', tk, rfl, hk'⟩ := moved_old e rfl m
    have hbt : (fun i j => dataLt ((pys (x :: xs')).getD j .none) ((pys (x :: xs')).getD i .none)) = fun i j => (fun a b => dataLt (py b) (py a)) ((x :: xs').getD i .non) ((x :: xs').getD j .non) := by
      funext i j
      rw [pys_getD, pys_getD]
    rw [hbt, hsz] at hP
    obtain ⟨b1, b2⟩ := argBest_fold (fun a b => dataLt (py b) (py a)) D.non x xs' xs'.length (Nat.le_refl _)
    rw [List.take_length] at b2
    obtain ⟨f1, f2⟩ := fold_gt (x :: xs') ho kal xs' x List.mem_cons_self fun y hy => List.mem_cons_of_mem _ hy
    rw [f1] at b2
    have hP : its[argBest (fun i j => (fun a b => dataLt (py b) (py a)) ((x :: xs').getD i .non) ((x :: xs').getD j .non)) xs'.length]? = some v := by simpa using hP
    obtain ⟨w, e1, e2⟩ := vals_at rv hP
    obtain ⟨dd, e3, rdk⟩ := Reps.get' q e1
    rw [List.getD_eq_getElem?_getD, e3] at b2
    have b2 : dd = _ := b2
    subst b2
    exact ⟨w, H, I.kept hk', e2, fin.same rdk (notLst_ok (List.all_eq_true.mp hm2 _ f2))⟩
end
end Tw
end

section
set_option linter.all false
set_option autoImplicit false
set_option maxRecDepth 100000
set_option maxHeartbeats 4000000
/-! How a piece of a frame's code goes on: shared numbers, the heap, the owned ones; results. -/
namespace Tw
open PySem L2 PyProof.Rows

section
variable {K : PySem.W.Frag} {ρ ρ' ρ1 : List Addr} {F : Addr → Prop} {s s' s1 : MS} {σ σ' σ1 : L2.St} {H H' H1 : Hp}

structure Go (ρ : List Addr) (F : Addr → Prop) (s : MS) (σ : L2.St) (H : Hp) (ρ' : List Addr) (s' : MS) (σ' : L2.St) (H' : Hp) : Prop where
  pre : ∃ r, ρ' = ρ ++ r
  new : ∀ a ∈ ρ', a ∈ ρ ∨ H a = none
  keep : ∀ b o, H b = some o → ¬ Mu ρ F s.env σ b → H' b = some o
  hid : ∀ b, F b → H' b = H b
  there : ∀ b o, H b = some o → ∃ o', H' b = some o'
  own : ∀ b, OwnAt s'.env σ' b → OwnAt s.env σ b ∨ H b = none
  bs : s'.bs = s.bs
  hl : s.hp.length ≤ s'.hp.length
/-- the slots that hold something hold something -/
def Live (s s' : MS) : Prop := ∀ i : Nat, (∃ v, s.env[i]? = some v ∧ v ≠ .non) → ∃ v, s'.env[i]? = some v ∧ v ≠ .non

theorem Go.refl : Go ρ F s σ H ρ s σ H := ⟨⟨[], by simp⟩, fun _ h => .inl h, fun _ _ e _ => e, fun _ _ => rfl, fun _ o e => ⟨o, e⟩, fun _ h => .inl h, rfl, Nat.le_refl _⟩
theorem Go.keepM (g : Go ρ F s σ H ρ' s' σ' H') : Keep ρ (Mu ρ F s.env σ) H ρ' (Mu ρ' F s'.env σ') H' := by
  refine ⟨fun i a e => ?_, g.keep, fun b o e n m => ?_⟩
  · obtain ⟨r, rfl⟩ := g.pre
    rw [List.getElem?_append_left (List.getElem?_eq_some_iff.mp e).1]
    exact e
  · rcases m with m | m | m
    · rcases g.new b m with q | q
      · exact n (.inl q)
      · rw [e] at q; cases q
    · exact n (.inr (.inl m))
    · rcases g.own b m with q | q
      · exact n (.inr (.inr q))
      · rw [e] at q; cases q
theorem Go.trans (g : Go ρ F s σ H ρ1 s1 σ1 H1) (g' : Go ρ1 F s1 σ1 H1 ρ' s' σ' H') : Go ρ F s σ H ρ' s' σ' H' := by
  have k := g.keepM
  refine ⟨?_, fun a h => ?_, fun b o e n => g'.keep b o (g.keep b o e n) (k.less b o e n), fun b h => (g'.hid b h).trans (g.hid b h), fun b o e => ?_, fun b h => ?_, g'.bs.trans g.bs, Nat.le_trans g.hl g'.hl⟩
  · obtain ⟨r, rfl⟩ := g.pre
    obtain ⟨r', rfl⟩ := g'.pre
    exact ⟨r ++ r', by simp⟩
  · rcases g'.new a h with q | q
    · exact g.new a q
    · cases e : H a with
      | none => exact .inr rfl
      | some o => obtain ⟨o', e'⟩ := g.there a o e; rw [q] at e'; cases e'
  · obtain ⟨o', e'⟩ := g.there b o e
    exact g'.there b o' e'
  · rcases g'.own b h with q | q
    · exact g.own b q
    · cases e : H b with
      | none => exact .inr rfl
      | some o => obtain ⟨o', e'⟩ := g.there b o e; rw [q] at e'; cases e'
theorem Go.grow (g : Grow H H') (S : Sim K ρ F s σ H) : Go ρ F s σ H ρ s σ H' := ⟨⟨[], by simp⟩, fun _ h => .inl h, fun b o e _ => g b o e, fun b h => by
  obtain ⟨o, e⟩ := S.fT b h
  rw [e, g b o e], fun b o e => ⟨o, g b o e⟩, fun _ h => .inl h, rfl, Nat.le_refl _⟩
theorem Live.refl : Live s s := fun _ h => h
theorem Live.trans (a : Live s s1) (b : Live s1 s') : Live s s' := fun i h => b i (a i h)

theorem Sim.tracked (S : Sim K ρ F s σ H) : Tracked (Mu ρ F s.env σ) H := fun _ h => S.mu_there h

/-- hidden besides: a -/
def Add (F : Addr → Prop) (a : Addr) : Addr → Prop := fun b => F b ∨ b = a
theorem Mu.add {env : List Slt} {a b : Addr} : Mu ρ (Add F a) env σ b ↔ Mu ρ F env σ b ∨ b = a := by
  constructor
  · rintro (h | (h | h) | h)
    · exact .inl (.inl h)
    · exact .inl (.inr (.inl h))
    · exact .inr h
    · exact .inl (.inr (.inr h))
  · rintro ((h | h | h) | h)
    · exact .inl h
    · exact .inr (.inl (.inl h))
    · exact .inr (.inr h)
    · exact .inr (.inl (.inr h))
/-- a is shown again: what was told with it hidden stands -/
theorem Keep.unhide {env : List Slt} {a : Addr} : Keep ρ (Mu ρ (Add F a) env σ) H ρ (Mu ρ F env σ) H :=
  ⟨fun _ _ h => h, fun _ _ e _ => e, fun b o e n m => n (Mu.add.mpr (.inl m))⟩
theorem Keep.hide {env : List Slt} {a : Addr} {o : HO} (ha : H a = none) : Keep ρ (Mu ρ F env σ) H ρ (Mu ρ (Add F a) env σ) (upd H a o) :=
  ⟨fun _ _ h => h, fun b u e _ => by rw [upd_ne (ne_of_none e ha)]; exact e, fun b u e n m => by
    rcases Mu.add.mp m with m | rfl
    · exact n m
    · rw [ha] at e; cases e⟩
theorem Sim.map {M' : Addr → Prop} {F' : Addr → Prop} (S : Sim K ρ F s σ H) (hM : ∀ b, M' b ↔ Mu ρ F' s.env σ b) (k : Keep ρ (Mu ρ F s.env σ) H ρ M' H') (ko : ∀ b o, H b = some o → (b ∈ ρ ∨ OwnAt s.env σ b) → H' b = some o)
    (rF : ∀ a ∈ ρ, ¬ F' a) (fT : ∀ a, F' a → ∃ o, H' a = some o) (oF : ∀ a, OwnAt s.env σ a → ¬ F' a) : Sim K ρ F' s σ H' := by
  have k' : Keep ρ (Mu ρ F s.env σ) H ρ (Mu ρ F' s.env σ) H' := ⟨k.rho, k.keep, fun b o e n m => k.less b o e n ((hM b).mpr m)⟩
  refine ⟨S.rl, S.rn, rF, fun i ob a e1 e2 => ?_, S.bs, S.bl, fT, S.el, fun i d e => ?_, fun i d e => ?_, S.oi⟩
  · exact (S.hp i ob a e1 e2).keep k' fun o e => ko _ _ e (.inl (List.mem_of_getElem? e2))
  · obtain ⟨v, e1, r⟩ := S.sv i d e
    exact ⟨v, e1, r.keep k'⟩
  · obtain ⟨a, e1, r, n1, n2⟩ := S.so i d e
    exact ⟨a, e1, r.keep k' fun o e' => ko _ _ e' (.inr ⟨i, d, e, e1⟩), n1, oF a ⟨i, d, e, e1⟩⟩
theorem Sim.unhide {a : Addr} (S : Sim K ρ (Add F a) s σ H) : Sim K ρ F s σ H :=
  S.map (fun _ => Iff.rfl) .unhide (fun _ _ e _ => e) (fun b hb f => S.rF b hb (.inl f)) (fun b f => S.fT b (.inl f)) (fun b hb f => by
    obtain ⟨i, d, e1, e2⟩ := hb
    obtain ⟨b', e3, _, _, n⟩ := S.so i d e1
    rw [e2] at e3; cases e3
    exact n (.inl f))
theorem Sim.hide {a : Addr} {o : HO} (S : Sim K ρ F s σ H) (ha : H a = none) : Sim K ρ (Add F a) s σ (upd H a o) :=
  S.map (fun _ => Iff.rfl) (.hide ha) (fun b u e _ => by rw [upd_ne (ne_of_none e ha)]; exact e)
    (fun b hb f => by
      rcases f with f | rfl
      · exact S.rF b hb f
      · obtain ⟨o, e⟩ := S.rho_there hb; rw [ha] at e; cases e)
    (fun b f => by
      rcases f with f | rfl
      · obtain ⟨u, e⟩ := S.fT b f
        exact ⟨u, by rw [upd_ne (ne_of_none e ha)]; exact e⟩
      · exact ⟨o, upd_same⟩)
    (fun b hb f => by
      rcases f with f | rfl
      · obtain ⟨i, d, e1, e2⟩ := hb
        obtain ⟨b', e3, _, _, n⟩ := S.so i d e1
        rw [e2] at e3; cases e3
        exact n f
      · obtain ⟨o, e⟩ := S.own_there hb; rw [ha] at e; cases e)
/-- the hidden list is written -/
theorem Sim.wrHid {a : Addr} {o : HO} (S : Sim K ρ F s σ H) (ha : F a) : Sim K ρ F s σ (upd H a o) :=
  S.map (fun _ => Iff.rfl) ⟨fun _ _ h => h, fun b u e n => by rw [upd_ne (fun z => n (.inr (.inl (by rw [z]; exact ha))))]; exact e, fun _ _ _ n => n⟩
    (fun b u e m => by
      rw [upd_ne (fun z => ?_)]
      · exact e
      · subst z
        rcases m with m | m
        · exact S.rF b m ha
        · obtain ⟨i, d, e1, e2⟩ := m
          obtain ⟨b', e3, _, _, n⟩ := S.so i d e1
          rw [e2] at e3; cases e3
          exact n ha) S.rF
    (fun b f => by
      by_cases z : b = a
      · subst z; exact ⟨o, upd_same⟩
      · obtain ⟨u, e⟩ := S.fT b f
        exact ⟨u, by rw [upd_ne z]; exact e⟩)
    (fun b hb f => by
      obtain ⟨i, d, e1, e2⟩ := hb
      obtain ⟨b', e3, _, _, n⟩ := S.so i d e1
      rw [e2] at e3; cases e3
      exact n f)

/-! ### results -/
def fresh : E → Bool
  | .lst _ => true
  | .comp _ _ _ _ _ _ => true
  | .bi .list _ => true
  | .bi .sorted _ => true
  | .slc _ _ _ => true
  | .rev _ => true
  | .bin _ _ _ => true
  | _ => false
/-- a value's lie; a looked-at local's place -/
def Res (K : PySem.W.Frag) (ρ : List Addr) (F : Addr → Prop) (s : MS) (σ : L2.St) (H : Hp) (e : E) (d : D) (w : V) : Prop :=
  match e with
  | .pk i => σ[i]? = some (some w) ∧ ∃ v, s.env[i]? = some v ∧ v ≠ .non
  | _ => Rep K ρ (Mu ρ F s.env σ) H d w
/-- a list that nothing else holds -/
def Frs (K : PySem.W.Frag) (H0 : Hp) (ρ : List Addr) (F : Addr → Prop) (s : MS) (σ : L2.St) (H : Hp) (d : D) (w : V) : Prop :=
  ∀ ds, d = .lst ds → ∃ a vs, w = .ref a ∧ H0 a = none ∧ Sim K ρ (Add F a) s σ H ∧ H a = some (.lst vs) ∧ ¬ Mu ρ F s.env σ a ∧ Reps K ρ (Mu ρ (Add F a) s.env σ) H ds vs
theorem Res.of {e : E} {d : D} {w : V} (h : ∀ i, e ≠ .pk i) (r : Rep K ρ (Mu ρ F s.env σ) H d w) : Res K ρ F s σ H e d w := by
  cases e <;> first | exact r | exact absurd rfl (h _)
theorem Res.rep {e : E} {d : D} {w : V} (h : ∀ i, e ≠ .pk i) (r : Res K ρ F s σ H e d w) : Rep K ρ (Mu ρ F s.env σ) H d w := by
  cases e <;> first | exact r | exact absurd rfl (h _)
theorem Res.go {e : E} {d : D} {w : V} (r : Res K ρ F s σ H e d w) (g : Go ρ F s σ H ρ' s' σ H') (l : Live s s') : Res K ρ' F s' σ H' e d w := by
  cases e <;> first | exact ⟨r.1, l _ r.2⟩ | exact Rep.keep g.keepM r
theorem Sim.deref (S : Sim K ρ F s σ H) {d : D} {w : V} (r : Rep K ρ (Mu ρ F s.env σ) H d w) : Rep0 K ρ (Mu ρ F s.env σ) H (deref d s.hp) w := by
  unfold Tw.deref
  split
  · rename_i i
    cases r with
    | ref h =>
      split
      · rename_i ds e
        have := S.hp i _ _ e h
        cases this with
        | lst e1 q => exact .lst e1 q
      · rename_i ds e
        have := S.hp i _ _ e h
        cases this
      · exact .of (.ref h)
  · exact .of r
theorem Res.rep0 (S : Sim K ρ F s σ H) {e : E} {d : D} {w : V} (r : Res K ρ F s σ H e d w) : Rep0 K ρ (Mu ρ F s.env σ) H (reD e d s) w := by
  cases e with
  | pk i =>
    obtain ⟨e1, v, e2, n⟩ := r
    unfold reD
    simp only
    rw [e2]
    cases v with
    | non => exact absurd rfl n
    | val d =>
      obtain ⟨v, e3, q⟩ := S.sv i d e2
      rw [e1] at e3; cases e3
      exact S.deref q
    | own d =>
      obtain ⟨a, e3, q, _⟩ := S.so i d e2
      rw [e1] at e3; cases e3
      cases q with
      | lst h q => exact .lst h q
      | obj ct h q e => exact .obj ct h q e
  | _ => exact S.deref r
/-- a list just made -/
theorem Frs.of_new {H0 : Hp} (S : Sim K ρ F s σ H) (th : ∀ b o, H0 b = some o → ∃ o', H b = some o') {d : D} {w : V} (g : Grow H H') (f : FreshL K ρ (Mu ρ F s.env σ) H H' d w) : Frs K H0 ρ F s σ H' d w := by
  intro ds e
  obtain ⟨a, vs, rfl, e1, e2, q⟩ := f ds e
  have k : Keep ρ (Mu ρ F s.env σ) H ρ (Mu ρ (Add F a) s.env σ) H' := ⟨fun _ _ h => h, fun b u e _ => g b u e, fun b u e n m => by
    rcases Mu.add.mp m with m | rfl
    · exact n m
    · rw [e1] at e; cases e⟩
  have e0 : H0 a = none := by
    cases e : H0 a with
    | none => rfl
    | some o => obtain ⟨o', e'⟩ := th a o e; rw [e1] at e'; cases e'
  refine ⟨a, vs, rfl, e0, S.map (fun _ => Iff.rfl) k (fun b u e _ => g b u e) (fun b hb f => ?_) (fun b f => ?_) (fun b hb f => ?_), e2, S.tracked.no e1, q.keep k⟩
  · rcases f with f | rfl
    · exact S.rF b hb f
    · obtain ⟨o, e⟩ := S.rho_there hb; rw [e1] at e; cases e
  · rcases f with f | rfl
    · obtain ⟨u, e⟩ := S.fT b f
      exact ⟨u, g b u e⟩
    · exact ⟨_, e2⟩
  · rcases f with f | rfl
    · obtain ⟨i, d, e1, e2⟩ := hb
      obtain ⟨b', e3, _, _, n⟩ := S.so i d e1
      rw [e2] at e3; cases e3
      exact n f
    · obtain ⟨o, e⟩ := S.own_there hb; rw [e1] at e; cases e
/-- a hidden list, shown -/
theorem Frs.rep {H0 : Hp} {ds : List D} {w : V} (f : Frs K H0 ρ F s σ H (.lst ds) w) : Rep K ρ (Mu ρ F s.env σ) H (.lst ds) w := by
  obtain ⟨a, vs, rfl, _, S, e, n, q⟩ := f ds rfl
  exact .lst ⟨.inl e, n⟩ (q.keep .unhide)

/-! ### an owned list is read as a value from now on -/
theorem OwnAt.put {env : List Slt} {i : Nat} {v : Slt} {b : Addr} (h : OwnAt (env.set i v) σ b) : OwnAt env σ b ∨ (∃ d, v = .own d) ∧ σ[i]? = some (some (.ref b)) := by
  obtain ⟨j, d, e1, e2⟩ := h
  by_cases hj : i = j
  · subst hj
    by_cases hl : i < env.length
    · rw [List.getElem?_set_self hl] at e1
      cases e1
      exact .inr ⟨⟨d, rfl⟩, e2⟩
    · rw [List.getElem?_eq_none (by simpa using hl)] at e1; cases e1
  · rw [List.getElem?_set_ne hj] at e1
    exact .inl ⟨j, d, e1, e2⟩
theorem Sim.owner (S : Sim K ρ F s σ H) {i j : Nat} {d : D} {a : Addr} (e : s.env[i]? = some (.own d)) (e1 : σ[i]? = some (some (.ref a))) {d' : D} (h : s.env[j]? = some (.own d')) (h1 : σ[j]? = some (some (.ref a))) : i = j := S.oi i j d d' a e h e1 h1
theorem Sim.freeze (S : Sim K ρ F s σ H) {i : Nat} {d : D} (e : s.env[i]? = some (.own d)) :
    ∃ w, σ[i]? = some (some w) ∧ Sim K ρ F (s.put i (.val d)) σ H ∧ Go ρ F s σ H ρ (s.put i (.val d)) σ H ∧ Live s (s.put i (.val d)) ∧ Rep K ρ (Mu ρ F (s.put i (.val d)).env σ) H d w := by
  obtain ⟨a, e1, r, n1, n2⟩ := S.so i d e
  have sub : ∀ b, OwnAt (s.put i (.val d)).env σ b → OwnAt s.env σ b := fun b h => by
    rcases h.put with h | ⟨⟨d, h⟩, _⟩
    · exact h
    · cases h
  have na : ¬ OwnAt (s.put i (.val d)).env σ a := by
    rintro ⟨j, d', e2, e3⟩
    by_cases hj : i = j
    · subst hj
      unfold MS.put at e2
      simp only at e2
      rw [List.getElem?_set_self (List.getElem?_eq_some_iff.mp e).1] at e2
      cases e2
    · unfold MS.put at e2
      simp only at e2
      rw [List.getElem?_set_ne hj] at e2
      exact hj (S.oi i j d d' a e e2 e1 e3)
  have k : Keep ρ (Mu ρ F s.env σ) H ρ (Mu ρ F (s.put i (.val d)).env σ) H := ⟨fun _ _ h => h, fun _ _ e _ => e, fun b o _ n m => by
    rcases m with m | m | m
    · exact n (.inl m)
    · exact n (.inr (.inl m))
    · exact n (.inr (.inr (sub b m)))⟩
  have hr : Rep K ρ (Mu ρ F (s.put i (.val d)).env σ) H d (.ref a) := by
    cases r with
    | lst h q => exact .lst ⟨.inl h, fun m => by
        rcases m with m | m | m
        · exact n1 m
        · exact n2 m
        · exact na m⟩ (q.keep k)
    | obj ct h q l =>
      have nm : ¬ Mu ρ F (s.put i (.val (.obj _ _ _))).env σ a := fun m => by
        rcases m with m | m | m
        · exact n1 m
        · exact n2 m
        · exact na m
      exact Rep.obj ct h nm (q.keep k) l
  have lv : Live s (s.put i (.val d)) := fun j ⟨v, h, hn⟩ => by
    by_cases hj : i = j
    · subst hj
      exact ⟨_, List.getElem?_set_self (List.getElem?_eq_some_iff.mp e).1, nofun⟩
    · exact ⟨v, by unfold MS.put; simp only; rw [List.getElem?_set_ne hj]; exact h, hn⟩
  refine ⟨_, e1, ⟨S.rl, S.rn, S.rF, fun j ob b h1 h2 => (S.hp j ob b h1 h2).keep k fun _ e => e, S.bs, S.bl, S.fT, ?_, fun j d' h => ?_, fun j d' h => ?_, fun j l dj dl b h1 h2 => ?_⟩,
    ⟨⟨[], by simp⟩, fun _ h => .inl h, fun _ _ e _ => e, fun _ _ => rfl, fun b o e => ⟨o, e⟩, fun b h => .inl (sub b h), rfl, Nat.le_refl _⟩, lv, hr⟩
  · show (s.env.set i _).length = _
    rw [List.length_set]
    exact S.el
  · by_cases hj : i = j
    · subst hj
      have h : (s.env.set i (.val d))[i]? = some (.val d') := h
      rw [List.getElem?_set_self (List.getElem?_eq_some_iff.mp e).1] at h
      cases h
      exact ⟨_, e1, hr⟩
    · have h : (s.env.set i (.val d))[j]? = some (.val d') := h
      rw [List.getElem?_set_ne hj] at h
      obtain ⟨v, h1, r⟩ := S.sv j d' h
      exact ⟨v, h1, r.keep k⟩
  · by_cases hj : i = j
    · subst hj
      have h : (s.env.set i (.val d))[i]? = some (.own d') := h
      rw [List.getElem?_set_self (List.getElem?_eq_some_iff.mp e).1] at h
      cases h
    · have h : (s.env.set i (.val d))[j]? = some (.own d') := h
      rw [List.getElem?_set_ne hj] at h
      obtain ⟨b, h1, r, m1, m2⟩ := S.so j d' h
      exact ⟨b, h1, r.keep k fun _ e => e, m1, m2⟩
  · have g : ∀ (j : Nat) (dj : D), (s.env.set i (.val d))[j]? = some (.own dj) → s.env[j]? = some (.own dj) := fun j dj h => by
      by_cases hj : i = j
      · subst hj
        rw [List.getElem?_set_self (List.getElem?_eq_some_iff.mp e).1] at h
        cases h
      · rw [List.getElem?_set_ne hj] at h
        exact h
    exact S.oi j l dj dl b (g j dj h1) (g l dl h2)

/-! ### an owned list, a shared list is changed -/
theorem Sim.setOwnG (S : Sim K ρ F s σ H) {i : Nat} {d nd : D} {u : HO} {a : Addr} (e : s.env[i]? = some (.own d)) (e1 : σ[i]? = some (some (.ref a))) (q : RepW K ρ (Mu ρ F s.env σ) (upd H a u) nd a) :
    Sim K ρ F (s.put i (.own nd)) σ (upd H a u) ∧ Go ρ F s σ H ρ (s.put i (.own nd)) σ (upd H a u) ∧ Live s (s.put i (.own nd)) ∧
      Keep ρ (Mu ρ F s.env σ) H ρ (Mu ρ F (s.put i (.own nd)).env σ) (upd H a u) := by
  have hl := (List.getElem?_eq_some_iff.mp e).1
  have mine : OwnAt s.env σ a := ⟨i, d, e, e1⟩
  obtain ⟨a', e2, _, n1, n2⟩ := S.so i d e
  rw [e1] at e2; cases e2
  have own : ∀ b, OwnAt (s.put i (.own nd)).env σ b → OwnAt s.env σ b := fun b h => by
    rcases h.put with h | ⟨_, h⟩
    · exact h
    · rw [e1] at h; cases h; exact mine
  have at_ : ∀ (j : Nat) (v : Slt), i ≠ j → (s.put i (.own nd)).env[j]? = some v → s.env[j]? = some v := fun j v hj h => by
    unfold MS.put at h
    simp only at h
    rw [List.getElem?_set_ne hj] at h
    exact h
  have here : (s.put i (.own nd)).env[i]? = some (.own nd) := List.getElem?_set_self hl
  have k : Keep ρ (Mu ρ F s.env σ) H ρ (Mu ρ F (s.put i (.own nd)).env σ) (upd H a u) := ⟨fun _ _ h => h, fun b o e n => by
      rw [upd_ne (fun z => n (.inr (.inr (by rw [z]; exact mine))))]; exact e, fun b o _ n m => by
    rcases m with m | m | m
    · exact n (.inl m)
    · exact n (.inr (.inl m))
    · exact n (.inr (.inr (own b m)))⟩
  have k2 : Keep ρ (Mu ρ F s.env σ) H ρ (Mu ρ F (s.put i (.own nd)).env σ) (upd H a u) → Keep ρ (Mu ρ F s.env σ) (upd H a u) ρ (Mu ρ F (s.put i (.own nd)).env σ) (upd H a u) := fun _ => ⟨fun _ _ h => h, fun b o e n => e, fun b o _ n m => by
    rcases m with m | m | m
    · exact n (.inl m)
    · exact n (.inr (.inl m))
    · exact n (.inr (.inr (own b m)))⟩
  have nr : ∀ b ∈ ρ, b ≠ a := fun b h z => n1 (z ▸ h)
  refine ⟨⟨S.rl, S.rn, S.rF, fun j ob b h1 h2 => (S.hp j ob b h1 h2).keep k fun o e => ?_, S.bs, S.bl, fun b f => ?_, ?_, fun j d' h => ?_, fun j d' h => ?_, fun j l dj dl b h1 h2 g1 g2 => ?_⟩,
    ⟨⟨[], by simp⟩, fun _ h => .inl h, k.keep, fun b f => upd_ne (fun z => n2 (by rw [← z]; exact f)), fun b o e => ?_, fun b h => .inl (own b h), rfl, Nat.le_refl _⟩, fun j ⟨v, h, hn⟩ => ?_, k⟩
  · rw [upd_ne (nr b (List.mem_of_getElem? h2))]; exact e
  · rw [upd_ne (fun z => n2 (by rw [← z]; exact f))]; exact S.fT b f
  · show (s.env.set i _).length = _
    rw [List.length_set]
    exact S.el
  · by_cases hj : i = j
    · subst hj; rw [here] at h; cases h
    · obtain ⟨v, h1, r⟩ := S.sv j d' (at_ j _ hj h)
      exact ⟨v, h1, r.keep k⟩
  · by_cases hj : i = j
    · subst hj; rw [here] at h; cases h
      exact ⟨a, e1, q.keep (k2 k) fun _ e => e, n1, n2⟩
    · obtain ⟨b, h1, r, m1, m2⟩ := S.so j d' (at_ j _ hj h)
      have hb : b ≠ a := fun z => by subst z; exact hj (S.oi i j d d' b e (at_ j _ hj h) e1 h1)
      exact ⟨b, h1, r.keep k fun o e => by rw [upd_ne hb]; exact e, m1, m2⟩
  · by_cases hj : i = j
    · by_cases hl' : i = l
      · rw [← hj, ← hl']
      · exact hj ▸ S.oi i l d dl b e (at_ l _ hl' h2) (hj ▸ g1) g2
    · by_cases hl' : i = l
      · exact hl' ▸ S.oi j i dj d b (at_ j _ hj h1) e g1 (hl' ▸ g2)
      · exact S.oi j l dj dl b (at_ j _ hj h1) (at_ l _ hl' h2) g1 g2
  · by_cases z : b = a
    · subst z; exact ⟨_, upd_same⟩
    · exact ⟨o, by rw [upd_ne z]; exact e⟩
  · by_cases hj : i = j
    · subst hj; exact ⟨_, here, nofun⟩
    · exact ⟨v, by unfold MS.put; simp only; rw [List.getElem?_set_ne hj]; exact h, hn⟩
theorem Keep.updO {M : Addr → Prop} {a : Addr} {u : HO} (m : M a) : Keep ρ M H ρ M (upd H a u) := ⟨fun _ _ h => h, fun b o e n => by
  rw [upd_ne (fun z => n (by rw [z]; exact m))]; exact e, fun _ _ _ n => n⟩
theorem Sim.setOwn (S : Sim K ρ F s σ H) {i : Nat} {d : D} {a : Addr} {ds : List D} {vs : List V} (e : s.env[i]? = some (.own d)) (e1 : σ[i]? = some (some (.ref a))) (q : Reps K ρ (Mu ρ F s.env σ) H ds vs) :
    Sim K ρ F (s.put i (.own (.lst ds))) σ (upd H a (.lst vs)) ∧ Go ρ F s σ H ρ (s.put i (.own (.lst ds))) σ (upd H a (.lst vs)) ∧ Live s (s.put i (.own (.lst ds))) ∧
      Keep ρ (Mu ρ F s.env σ) H ρ (Mu ρ F (s.put i (.own (.lst ds))).env σ) (upd H a (.lst vs)) :=
  S.setOwnG e e1 (.lst upd_same (q.keep (.updO (.inr (.inr ⟨i, d, e, e1⟩)))))
theorem Sim.setRef (S : Sim K ρ F s σ H) {i : Nat} {a : Addr} {ds : List D} {vs : List V} {s2 : MS} (e : ρ[i]? = some a) (w : wrOb s i (.lst ds) = some s2) (q : Reps K ρ (Mu ρ F s.env σ) H ds vs) :
    Sim K ρ F s2 σ (upd H a (.lst vs)) ∧ Go ρ F s σ H ρ s2 σ (upd H a (.lst vs)) ∧ Live s s2 ∧ Keep ρ (Mu ρ F s.env σ) H ρ (Mu ρ F s2.env σ) (upd H a (.lst vs)) := by
  have mine : a ∈ ρ := List.mem_of_getElem? e
  unfold wrOb at w
  split at w
  case isFalse => cases w
  rename_i hb
  cases w
  have k : Keep ρ (Mu ρ F s.env σ) H ρ (Mu ρ F s.env σ) (upd H a (.lst vs)) := ⟨fun _ _ h => h, fun b o e n => by
      rw [upd_ne (fun z => n (.inl (by rw [z]; exact mine)))]; exact e, fun b o _ n => n⟩
  have hi : i < s.hp.length := by rw [← S.rl]; exact (List.getElem?_eq_some_iff.mp e).1
  refine ⟨⟨by show _ = (s.hp.set i _).length; rw [List.length_set]; exact S.rl, S.rn, S.rF, fun j ob b h1 h2 => ?_, fun j ob hj h => ?_, by show _ ≤ (s.hp.set i _).length; rw [List.length_set]; exact S.bl, fun b f => ?_, S.el, fun j d' h => ?_, fun j d' h => ?_, S.oi⟩,
    ⟨⟨[], by simp⟩, fun _ h => .inl h, k.keep, fun b f => upd_ne (fun z => S.rF a mine (by rw [← z]; exact f)), fun b o e => ?_, fun b h => .inl h, rfl, by show _ ≤ (s.hp.set i _).length; rw [List.length_set]; exact Nat.le_refl _⟩, fun _ h => h, k⟩
  · by_cases hj : i = j
    · subst hj
      have h1 : (s.hp.set i (.lst ds))[i]? = some ob := h1
      rw [List.getElem?_set_self hi] at h1
      cases h1
      rw [e] at h2; cases h2
      exact .lst upd_same (q.keep k)
    · have h1 : (s.hp.set i (.lst ds))[j]? = some ob := h1
      rw [List.getElem?_set_ne hj] at h1
      refine (S.hp j ob b h1 h2).keep k fun o e' => ?_
      rw [upd_ne (fun z => ?_)]
      · exact e'
      · subst z
        obtain ⟨p1, p2⟩ := List.getElem?_eq_some_iff.mp e
        obtain ⟨p3, p4⟩ := List.getElem?_eq_some_iff.mp h2
        exact hj ((List.getElem_inj S.rn).mp (p2.trans p4.symm))
  · by_cases hj' : i = j
    · subst hj'
      have h : (s.hp.set i (.lst ds))[i]? = some ob := h
      rw [List.getElem?_set_self hi] at h
      cases h
      rcases Bool.or_eq_true_iff.mp hb with hb | hb
      · have := of_decide_eq_true hb
        have hj : i < s.bs := hj
        omega
      · exact hb
    · have h : (s.hp.set i (.lst ds))[j]? = some ob := h
      rw [List.getElem?_set_ne hj'] at h
      exact S.bs j ob hj h
  · rw [upd_ne (fun z => S.rF a mine (by rw [← z]; exact f))]; exact S.fT b f
  · obtain ⟨v, h1, r⟩ := S.sv j d' h
    exact ⟨v, h1, r.keep k⟩
  · obtain ⟨b, h1, r, m1, m2⟩ := S.so j d' h
    exact ⟨b, h1, r.keep k fun o e => by rw [upd_ne (fun z => m1 (by rw [z]; exact mine))]; exact e, m1, m2⟩
  · by_cases z : b = a
    · subst z; exact ⟨_, upd_same⟩
    · exact ⟨o, by rw [upd_ne z]; exact e⟩
/-- a hidden list becomes a shared object -/
theorem Sim.push {a : Addr} {ds : List D} {vs : List V} (S : Sim K ρ (Add F a) s σ H) (n : ¬ Mu ρ F s.env σ a) (e : H a = some (.lst vs)) (q : Reps K ρ (Mu ρ (Add F a) s.env σ) H ds vs) :
    Sim K (ρ ++ [a]) F { s with hp := s.hp ++ [.lst ds] } σ H := by
  have mu : ∀ b, Mu (ρ ++ [a]) F s.env σ b ↔ Mu ρ (Add F a) s.env σ b := fun b => by
    constructor
    · rintro (h | h | h)
      · rcases List.mem_append.mp h with h | h
        · exact .inl h
        · exact .inr (.inl (.inr (by simpa using h)))
      · exact .inr (.inl (.inl h))
      · exact .inr (.inr h)
    · rintro (h | (h | h) | h)
      · exact .inl (List.mem_append_left _ h)
      · exact .inr (.inl h)
      · exact .inl (List.mem_append_right _ (by simp [h]))
      · exact .inr (.inr h)
  have k : Keep ρ (Mu ρ (Add F a) s.env σ) H (ρ ++ [a]) (Mu (ρ ++ [a]) F s.env σ) H := ⟨fun i b h => by
      rw [List.getElem?_append_left (List.getElem?_eq_some_iff.mp h).1]; exact h, fun _ _ e _ => e, fun b o _ n m => n ((mu b).mp m)⟩
  have nρ : a ∉ ρ := fun h => n (.inl h)
  refine ⟨by simp [S.rl], ?_, fun b h f => ?_, fun i ob b h1 h2 => ?_, fun i ob hi h => ?_, by simp only [List.length_append, List.length_cons, List.length_nil]; exact Nat.le_succ_of_le S.bl, fun b f => S.fT b (.inl f), S.el, fun i d h => ?_, fun i d h => ?_, S.oi⟩
  · rw [List.nodup_append]
    refine ⟨S.rn, by simp, fun b hb c hc => ?_⟩
    have : c = a := by simpa using hc
    subst this
    exact fun z => nρ (z ▸ hb)
  · rcases List.mem_append.mp h with h | h
    · exact S.rF b h (.inl f)
    · have : b = a := by simpa using h
      subst this
      exact n (.inr (.inl f))
  · by_cases hi : i < s.hp.length
    · have h1 : (s.hp ++ [.lst ds])[i]? = some ob := h1
      rw [List.getElem?_append_left hi] at h1
      rw [List.getElem?_append_left (by rw [S.rl]; exact hi)] at h2
      exact (S.hp i ob b h1 h2).keep k fun _ e => e
    · have h1 : (s.hp ++ [.lst ds])[i]? = some ob := h1
      rw [List.getElem?_append_right (by omega)] at h1
      rw [List.getElem?_append_right (by rw [S.rl]; omega), S.rl] at h2
      have hz : i - s.hp.length = 0 := by
        have := (List.getElem?_eq_some_iff.mp h1).1
        simp at this
        omega
      rw [hz] at h1 h2
      cases h1
      cases h2
      exact .lst e (q.keep k)
  · have h : (s.hp ++ [.lst ds])[i]? = some ob := h
    have hb : i < s.bs := hi
    rw [List.getElem?_append_left (Nat.lt_of_lt_of_le hb S.bl)] at h
    exact S.bs i ob hi h
  · obtain ⟨v, h1, r⟩ := S.sv i d h
    exact ⟨v, h1, r.keep k⟩
  · obtain ⟨b, h1, r, m1, m2⟩ := S.so i d h
    refine ⟨b, h1, r.keep k fun _ e => e, fun z => ?_, fun f => m2 (.inl f)⟩
    rcases List.mem_append.mp z with z | z
    · exact m1 z
    · exact m2 (.inr (by simpa using z))
end
end Tw
end

section
set_option linter.all false
set_option autoImplicit false
set_option maxRecDepth 100000
set_option maxHeartbeats 4000000
/-! x[::-1] of lists and tuples. -/
namespace Tw
open PySem L2 PyProof.Rows
section
variable {prog : Program} {w : World} {A : Around} {E : Value → Shared → Prop} {s : Shared}
theorem places_rev (n : Nat) : Builtin.Slice.slicePlaces ((n : Int) - 1) (-1) (-1) = n := by
  unfold Builtin.Slice.slicePlaces
  rw [if_neg (by decide)]
  by_cases h : n = 0
  · subst h; rfl
  · rw [if_pos (by omega)]
    have : ((n : Int) - 1 - -1 - 1) / -(-1) + 1 = n := by
      rw [show -(-1 : Int) = 1 by decide, Int.ediv_one]
      omega
    rw [this]
    rfl
theorem sliceApplied_rev {sl : Addr} {vl vu vs : Value} {n : Nat} {Q : Int × Int × Nat → Shared → Prop} (hs : s.heap.IsSliceOf sl vl vu vs) (pl : IsPart vl none) (pu : IsPart vu none) (ps : IsPart vs (some (-1)))
    (h : Q ((n : Int) - 1, -1, n) s) : wpAny (model prog w) A (Builtin.Slice.sliceApplied (.ref sl) (pure (n : Int))) Q E s := by
  obtain ⟨os, hos, hcs, hds⟩ := id hs
  unfold Builtin.Slice.sliceApplied Builtin.Slice.sliceFields
  refine wpAny_bind (wpAny_bind (wpAny_field hos hds (x := vl) rfl (wpAny_bind (wpAny_field hos hds (x := vu) rfl (wpAny_bind (wpAny_field hos hds (x := vs) rfl (wpAny_pure ?_)))))))
  refine wpAny_bind (HT.slicePart_ ps ?_)
  show wpAny _ _ (if ((-1 : Int) == 0) = true then _ else _) _ _ s
  rw [if_neg (by decide)]
  refine wpAny_bind (HT.slicePart_ pl (wpAny_bind (HT.slicePart_ pu (wpAny_bind (wpAny_pure ?_)))))
  show wpAny _ _ (pure ((n : Int) - 1, (-1 : Int), Builtin.Slice.slicePlaces ((n : Int) - 1) (-1) (-1))) _ _ s
  rw [places_rev]
  exact wpAny_pure h
theorem fm_some {α β : Type} {f : α → Option β} {g : α → β} : ∀ l : List α, (∀ i ∈ l, f i = some (g i)) → l.filterMap f = l.map g
  | [], _ => rfl
  | i :: l, h => by
    rw [List.filterMap_cons, h i List.mem_cons_self, List.map_cons, fm_some l fun j hj => h j (List.mem_cons_of_mem _ hj)]
theorem pick_rev (xs : Array Value) : ((List.range xs.size).filterMap fun (m : Nat) => xs[(((xs.size : Int) - 1) + (m : Int) * (-1)).toNat]?).toArray = xs.toList.reverse.toArray := by
  congr 1
  refine List.ext_getElem? fun i => ?_
  have e : ((List.range xs.size).filterMap fun (m : Nat) => xs[(((xs.size : Int) - 1) + (m : Int) * (-1)).toNat]?) = (List.range xs.size).map fun m => xs.toList.reverse.getD m .none := by
    refine fm_some _ fun m hm => ?_
    have hm := List.mem_range.mp hm
    have e2 : (((xs.size : Int) - 1) + (m : Int) * (-1)).toNat = xs.size - 1 - m := by omega
    rw [e2, List.getD_eq_getElem?_getD, List.getElem?_reverse (by simpa using hm)]
    rw [Array.getElem?_eq_getElem (by omega)]
    simp [Array.getElem?_toList, Array.getElem?_eq_getElem (show xs.size - 1 - m < xs.size by omega)]
  rw [e, List.getElem?_map]
  by_cases hi : i < xs.size
  · rw [List.getElem?_range hi, List.getElem?_eq_getElem (by simpa using hi), Option.map_some, List.getD_eq_getElem?_getD, List.getElem?_eq_getElem (by simpa using hi)]
    rfl
  · rw [List.getElem?_eq_none (by rw [List.length_range]; omega), List.getElem?_eq_none (by simpa using hi)]
    rfl
theorem getItem_tuple_rev {t sl : Addr} {items : Array Value} {vl vu vs : Value} {Q : Value → Shared → Prop} (ht : IsTup s.heap t items) (hs : s.heap.IsSliceOf sl vl vu vs) (pl : IsPart vl none) (pu : IsPart vu none) (ps : IsPart vs (some (-1)))
    (h : Q (.ref s.heap.objs.size) { s with heap := s.heap.push { cls := .type "tuple", data := .seq items.toList.reverse.toArray } })
    (hsz : items.size ≤ sizeLine) : wpAny (model prog w) A (getItem (.ref t) (.ref sl)) Q E s := by
  have htake : sizeOk (.seq items.toList.reverse.toArray) := by
    show items.toList.reverse.toArray.size ≤ sizeLine
    rw [List.size_toArray, List.length_reverse, Array.length_toList]
    exact hsz
  obtain ⟨os, hos, hcs, hds⟩ := id hs
  have hTs : s.TypeIs (.ref sl) "slice" := ⟨os, hos, hcs⟩
  unfold getItem
  try with_reducible refine wpAny_holding ?_
  first | refine wpAny_bind (wpAny_pure ?_) | skip
  refine wpAny_bind (wpAny_sequenceKey ht.typeIs (by decide) ?_)
  refine wpAny_bind (wpAny_callSpecial?_slot (name := Str.ofString "__getitem__") ht.typeIs PyProof.Rows.slot_tuple_getitem
    (wpAny_call_entry PyProof.Rows.slot_tuple_getitem ht.typeIs PyProof.Rows.entry_tuple_getitem ?_ (PyProof.Rows.args_tuple_getitem _ _)))
  show wpAny _ _ (Builtin.Tuple.tupleItemsOf (.ref t) >>= _) _ _ s
  refine wpAny_bind (PyProof.Rows.tupleItemsOf_ ht ?_)
  refine wpAny_bind (wpAny_typeOf hTs ?_)
  rw [if_pos (by decide)]
  refine wpAny_bind (sliceApplied_rev hs pl pu ps ?_)
  have hno : ¬ ((((items.size : Int) - 1) == 0 && (-1 : Int) == 1 && items.size == items.size) = true) := by
    intro q
    rw [Bool.and_eq_true, Bool.and_eq_true] at q
    exact absurd q.1.2 (by decide)
  show wpAny _ _ (if (((items.size : Int) - 1) == 0 && (-1 : Int) == 1 && items.size == items.size) = true then _ else _) _ _ s
  rw [if_neg hno, pick_rev]
  first
    | exact wpAny_bind (m := Builtin.Tuple.tupleExact _) (wpAny_newObj_type (wpAny_pure ⟨_, rfl, wpAny_pure h⟩) htake)
    | exact wpAny_bind (m := Builtin.Tuple.tupleExact _) (wpAny_newObj_type (wpAny_bind (wpAny_pure (wpAny_pure ⟨_, rfl, wpAny_pure h⟩))) htake)
    | exact wpAny_bind (wpAny_bind (m := Builtin.Tuple.tupleExact _) (wpAny_newObj_type (wpAny_pure (wpAny_pure ⟨_, rfl, wpAny_pure h⟩)) htake))
    | exact wpAny_bind (wpAny_bind (m := Builtin.Tuple.tupleExact _) (wpAny_newObj_type (wpAny_pure ⟨_, rfl, wpAny_pure h⟩) htake))
end
section
variable {X : Cx}
def tRevA (K : PySem.W.Frag) (te : TE) : TE := fun σ H Q => te σ H fun x H1 => ∃ a xs, x = .ref a ∧ ((SqL K H1 a xs ∧ ∀ p, H1 p = none → Q (.ref p) (upd H1 p (.lst xs.reverse))) ∨ (SqT K H1 a xs ∧ ∀ p, H1 p = none → Q (.ref p) (upd H1 p (.tup xs.reverse))))
theorem pe_revA {e : Expr} {te : TE} {k : Nat} {p1 p2 p3 pos : Pos} (he : PE X e te) : PE X (.Subscript e (.Slice none none (some (.UnaryOp .USub (.Constant (.int 1) k p1) p2)) p3) pos) (tRevA X.K te) := by
  refine ⟨fun pins s σ H Q I h => ?_⟩
  refine Subscript_ (thn (he.run pins s σ H _ I h) fun v s1 ⟨x, H1, I1, r1, q1⟩ => ?_)
  obtain ⟨a, xs, ex, q1⟩ := q1
  subst ex
  cases r1
  have hst : PO X (some (.UnaryOp .USub (.Constant (.int 1) k p1) p2)) (tPart (tUn (rU fun i => .int (-i)) (tC (.int 1)))) := po_some (pe_un un_neg pe_int)
  refine wpAny_Slice (thn (po_none.run pins s1 σ H1 (fun o H2 => o = none ∧ H2 = H1) I1 ⟨rfl, rfl⟩) fun vl s2 ⟨l, H2, I2, pl, el, e2⟩ => ?_)
  subst el e2
  refine thn (po_none.run pins s2 σ H2 (fun o H3 => o = none ∧ H3 = H2) I2 ⟨rfl, rfl⟩) fun vu s3 ⟨u, H3, I3, pu, eu, e3⟩ => ?_
  subst eu e3
  refine thn (hst.run pins s3 σ H3 (fun o H4 => o = some (-1) ∧ H4 = H3) I3 ⟨1, rfl, -1, rfl, rfl, rfl⟩) fun vs s4 ⟨o, H4, I4, ps, eo, e4⟩ => ?_
  subst eo e4
  have I5 : Inv X pins σ H4 { s4 with heap := s4.heap.push { cls := .type "slice", data := .fields #[vl, vu, vs] } } := I4.kept (t' := s4.toks) fun b ob q => Heap.get?_push_of_some _ q
  rcases q1 with ⟨hx, q⟩ | ⟨hx, q⟩
  · obtain ⟨its, r, ht, hz⟩ := I5.list hx
    have hlen := r.length
    show wpAny (model X.prog X.w) X.A (subscriptTail e (.Slice none none (some (.UnaryOp .USub (.Constant (.int 1) k p1) p2)) p3) (.ref a) (.ref s4.heap.objs.size)) (EP X pins σ Q) X.xe { s4 with heap := s4.heap.push { cls := .type "slice", data := .fields #[vl, vu, vs] } }
    refine tail_any (ops := [.ref a, .ref s4.heap.objs.size]) ht.isList.typeIs (PySem.slot_list_getitem.lookup) ?_ (by with_unfolding_all rfl)
    refine wpAny_getItem_list_slice ht.isList (Heap.IsSliceOf.new _ vl vu vs) pl pu ps (by decide) ?_ (by rw [List.size_toArray]; omega)
    rw [PySem.W.krv_pick]
    refine ⟨.ref _, _, I5.laid (t' := s4.toks) (o := .lst xs.reverse) (fun b ob q => Heap.get?_push_of_some _ q) (Nat.le_refl _) ?_, rfl, q _ (I5.hok.fresh (Nat.le_refl _))⟩
    exact ⟨by rw [List.length_reverse]; exact hz, _, 0, r.reverse, Heap.get?_push_size _ rfl⟩
  · obtain ⟨its, r, ht, hz⟩ := I5.tuple hx
    have hlen := r.length
    show wpAny (model X.prog X.w) X.A (subscriptTail e (.Slice none none (some (.UnaryOp .USub (.Constant (.int 1) k p1) p2)) p3) (.ref a) (.ref s4.heap.objs.size)) (EP X pins σ Q) X.xe { s4 with heap := s4.heap.push { cls := .type "slice", data := .fields #[vl, vu, vs] } }
    refine tail_any (ops := [.ref a, .ref s4.heap.objs.size]) ht.typeIs (PyProof.Rows.slot_tuple_getitem.lookup) ?_ (by with_unfolding_all rfl)
    refine getItem_tuple_rev ht (Heap.IsSliceOf.new _ vl vu vs) pl pu ps ?_ (by rw [List.size_toArray]; omega)
    refine ⟨.ref _, _, I5.laid (t' := s4.toks) (o := .tup xs.reverse) (fun b ob q => Heap.get?_push_of_some _ q) (Nat.le_refl _) ?_, rfl, q _ (I5.hok.fresh (Nat.le_refl _))⟩
    exact ⟨by rw [List.length_reverse]; exact hz, _, r.reverse, IsTup.new _ _⟩
end
end Tw
end

section
set_option linter.all false
set_option autoImplicit false
set_option maxRecDepth 100000
set_option maxHeartbeats 4000000
/-! Expressions: the interpreter's run promises the model's. -/
namespace Tw
open PySem L2 PyProof.Rows

theorem R.bind_ok {s a b : Type} {r : R s a} {f : a → s → R s b} {y : b} {t : s} (h : r.bind f = .ok y t) : ∃ x u, r = .ok x u ∧ f x u = .ok y t := by
  cases r with
  | ok x u => exact ⟨x, u, rfl, h⟩
  | exc x u => cases h
  | stuck => cases h
theorem R.ofO_ok {s a : Type} {o : Option a} {t u : s} {y : a} (h : R.ofO o t = .ok y u) : o = some y ∧ t = u := by
  cases o with
  | none => cases h
  | some x => cases h; exact ⟨rfl, rfl⟩

theorem _root_.L2.PE.imp {X : Cx} {e : Expr} {t t' : TE} (h : PE X e t) (i : ∀ σ H Q, t' σ H Q → t σ H Q) : PE X e t' := ⟨fun pins s σ H Q I q => h.run pins s σ H Q I (i σ H Q q)⟩
theorem _root_.L2.PA.imp {X : Cx} {e : List Expr} {t t' : TA} (h : PA X e t) (i : ∀ σ H Q, t' σ H Q → t σ H Q) : PA X e t' := ⟨fun pos pins s σ H Q I q => h.run pos pins s σ H Q I (i σ H Q q)⟩
theorem _root_.L2.PT.imp {X : Cx} {e : Expr} {t t' : TT} (h : PT X e t) (i : ∀ σ H Q, t' σ H Q → t σ H Q) : PT X e t' := ⟨fun pins s σ H Q I q => h.run pins s σ H Q I (i σ H Q q)⟩
theorem _root_.L2.PW.imp {X : Cx} {e : Expr} {t t' : TT} (h : PW X e t) (i : ∀ σ H Q, t' σ H Q → t σ H Q) : PW X e t' := ⟨fun w pins s σ H Q I q => h.run w pins s σ H Q I (i σ H Q q)⟩

section
variable (K : PySem.W.Frag) (G : Tab) (cal : Cal)
def TEv (e : E) : TE := fun σ H Q => ∃ ρ F s d s', Sim K ρ F s σ H ∧ evE G cal e s = .ok d s' ∧
  ∀ ρ' w H', Sim K ρ' F s' σ H' → Go ρ F s σ H ρ' s' σ H' → Live s s' → Res K ρ' F s' σ H' e d w → (fresh e = true → Frs K H ρ' F s' σ H' d w) → Q w H'
inductive Ress (K : PySem.W.Frag) (ρ : List Addr) (F : Addr → Prop) (s : MS) (σ : L2.St) (H : Hp) : List E → List D → List V → Prop
  | nil : Ress K ρ F s σ H [] [] []
  | cons {e : E} {es : List E} {d : D} {ds : List D} {w : V} {ws : List V} : Res K ρ F s σ H e d w → Ress K ρ F s σ H es ds ws → Ress K ρ F s σ H (e :: es) (d :: ds) (w :: ws)
def TEvs (es : List E) : TA := fun σ H Q => ∃ ρ F s ds s', Sim K ρ F s σ H ∧ evEs G cal es s = .ok ds s' ∧
  ∀ ρ' ws H', Sim K ρ' F s' σ H' → Go ρ F s σ H ρ' s' σ H' → Live s s' → Ress K ρ' F s' σ H' es ds ws → Q ws H'
def TTv (e : E) : TT := fun σ H Q => ∃ ρ F s b s', Sim K ρ F s σ H ∧ evT G cal e s = .ok b s' ∧
  ∀ ρ' H', Sim K ρ' F s' σ H' → Go ρ F s σ H ρ' s' σ H' → Live s s' → Q b H'
/-- no looked-at local among them -/
def noPk : E → Bool
  | .pk _ => false
  | _ => true
end
section
variable {K : PySem.W.Frag} {ρ ρ' : List Addr} {F : Addr → Prop} {s s' : MS} {σ : L2.St} {H H' : Hp}
theorem noPk_ne {e : E} (h : noPk e = true) : ∀ i, e ≠ .pk i := by
  intro i z
  subst z
  cases h
theorem Ress.go {es : List E} {ds : List D} {ws : List V} (g : Go ρ F s σ H ρ' s' σ H') (l : Live s s') (r : Ress K ρ F s σ H es ds ws) : Ress K ρ' F s' σ H' es ds ws := by
  induction r with
  | nil => exact .nil
  | cons h _ ih => exact .cons (h.go g l) ih
theorem Ress.reps {es : List E} {ds : List D} {ws : List V} (h : es.all noPk = true) (r : Ress K ρ F s σ H es ds ws) : Reps K ρ (Mu ρ F s.env σ) H ds ws := by
  induction r with
  | nil => exact .nil
  | cons r _ ih =>
    rw [List.all_cons] at h
    obtain ⟨h1, h2⟩ := Bool.and_eq_true_iff.mp h
    exact .cons (r.rep (noPk_ne h1)) (ih h2)
theorem Ress.rep0s (S : Sim K ρ F s σ H) {es : List E} {ds : List D} {ws : List V} (r : Ress K ρ F s σ H es ds ws) : Rep0s K ρ (Mu ρ F s.env σ) H (reDs es ds s) ws := by
  induction r with
  | nil => exact .nil
  | cons r _ ih => exact .cons (r.rep0 S) ih
end

section
variable {X : Cx} {G : Tab} {cal : Cal} {a b c x : Expr} {ea eb ec e : E} {pos : Pos} {es : List Expr} {ees : List E}

/-! ### names, constants -/
theorem s_sl {i : Nat} (h : PE X x (tVar i)) : PE X x (TEv X.K G cal (.sl i)) := by
  refine h.imp fun σ H Q q => ?_
  obtain ⟨ρ, F, s, d, s', S, hv, k⟩ := q
  simp only [evE] at hv
  split at hv
  · rename_i d0 he
    cases hv
    obtain ⟨v, e1, r⟩ := S.sv i _ he
    exact ⟨v, e1, k ρ v H S .refl .refl r nofun⟩
  · rename_i d0 he
    cases hv
    obtain ⟨w, e1, S', g, l, r⟩ := S.freeze he
    exact ⟨w, e1, k ρ w H S' g l r nofun⟩
  · cases hv
theorem s_pk {i : Nat} (h : PE X x (tVar i)) : PE X x (TEv X.K G cal (.pk i)) := by
  refine h.imp fun σ H Q q => ?_
  obtain ⟨ρ, F, s, d, s', S, hv, k⟩ := q
  simp only [evE, own?] at hv
  obtain ⟨ho, rfl⟩ := R.ofO_ok hv
  split at ho
  · rename_i d0 he
    cases ho
    obtain ⟨a, e1, r, _⟩ := S.so i _ he
    exact ⟨_, e1, k ρ _ H S .refl .refl ⟨e1, _, he, nofun⟩ nofun⟩
  · cases ho
theorem s_const {v : V} {d : D} (h : PE X x (tC v)) (he : ∀ s, evE G cal e s = .ok d s) (hn : noPk e = true) (hf : fresh e = false) (r : ∀ ρ M H, Rep X.K ρ M H d v) : PE X x (TEv X.K G cal e) := by
  refine h.imp fun σ H Q q => ?_
  obtain ⟨ρ, F, s, d', s', S, hv, k⟩ := q
  rw [he] at hv
  cases hv
  exact k ρ v H S .refl .refl (.of (noPk_ne hn) (r _ _ _)) (fun z => by rw [hf] at z; cases z)

/-! ### argument lists -/
theorem s_nil : PA X [] (TEvs X.K G cal []) := pa_nil.imp fun σ H Q q => by
  obtain ⟨ρ, F, s, ds, s', S, hv, k⟩ := q
  simp only [evEs] at hv
  cases hv
  exact k ρ [] H S .refl .refl .nil
theorem s_cons (ha : PE X a (TEv X.K G cal ea)) (hr : PA X es (TEvs X.K G cal ees)) (hs : starEach (a :: es) X.env = (false, eval a X.env) :: starEach es X.env) : PA X (a :: es) (TEvs X.K G cal (ea :: ees)) :=
  (pa_cons ha hr hs).imp fun σ H Q q => by
    obtain ⟨ρ, F, s, ds, s', S, hv, k⟩ := q
    simp only [evEs] at hv
    obtain ⟨d, s1, h1, hv⟩ := R.bind_ok hv
    obtain ⟨ds1, s2, h2, hv⟩ := R.bind_ok hv
    cases hv
    exact ⟨ρ, F, s, d, s1, S, h1, fun ρ1 w H1 S1 g1 l1 r1 _ => ⟨ρ1, F, s1, ds1, _, S1, h2, fun ρ2 ws H2 S2 g2 l2 r2 => k ρ2 (w :: ws) H2 S2 (g1.trans g2) (l1.trans l2) (.cons (r1.go g2 l2) r2)⟩⟩

/-! ### displays -/
theorem grown {ρ : List Addr} {F : Addr → Prop} {s0 s : MS} {ρ0 : List Addr} {σ : L2.St} {H0 H H' : Hp} (S : Sim X.K ρ F s σ H) (g : Go ρ0 F s0 σ H0 ρ s σ H) (l : Live s0 s) (gr : Grow H H') :
    Sim X.K ρ F s σ H' ∧ Go ρ0 F s0 σ H0 ρ s σ H' := ⟨S.grow gr, g.trans (.grow gr S)⟩
/-- an end by a new value -/
theorem fin_of {e : E} {ρ0 ρ : List Addr} {F : Addr → Prop} {s0 s : MS} {σ : L2.St} {H0 H : Hp} {d : D} {Q : VK} (hn : noPk e = true) (S : Sim X.K ρ F s σ H) (g : Go ρ0 F s0 σ H0 ρ s σ H) (l : Live s0 s)
    (k : ∀ ρ' w H', Sim X.K ρ' F s σ H' → Go ρ0 F s0 σ H0 ρ' s σ H' → Live s0 s → Res X.K ρ' F s σ H' e d w → (fresh e = true → Frs X.K H0 ρ' F s σ H' d w) → Q w H') : Fin X.K ρ (Mu ρ F s.env σ) H d Q :=
  fun w H' gr r fr => k ρ w H' (S.grow gr) (g.trans (.grow gr S)) l (.of (noPk_ne hn) r) fun _ => .of_new S g.there gr fr
theorem s_tup {k1 : Nat} (h : PA X es (TEvs X.K G cal ees)) (hn : ees.all noPk = true) (hl : es.length ≤ 1000) (hle : es.length = ees.length) : PE X (.Tuple es k1 pos) (TEv X.K G cal (.tup ees)) :=
  (pe_tup h).imp fun σ H Q q => by
    obtain ⟨ρ, F, s, d, s', S, hv, k⟩ := q
    simp only [evE] at hv
    obtain ⟨ds, s1, h1, hv⟩ := R.bind_ok hv
    cases hv
    refine ⟨ρ, F, s, ds, _, S, h1, fun ρ1 ws H1 S1 g1 l1 r1 => ⟨?_, fun p hp => ?_⟩⟩
    · have e : ∀ {es : List E} {ds : List D} {ws : List V}, Ress X.K ρ1 F s' σ H1 es ds ws → ws.length = es.length := fun r => by
        induction r with
        | nil => rfl
        | cons _ _ ih => simp [ih]
      rw [e r1, ← hle, sizeLine_eq]
      omega
    · exact Fin.tup (fin_of (e := .tup ees) rfl S1 g1 l1 k) S1.tracked (r1.reps hn) p hp
theorem s_lst (h : PA X es (TEvs X.K G cal ees)) (hn : ees.all noPk = true) (hl : es.length ≤ 1000) (hle : es.length = ees.length) : PE X (.List es pos) (TEv X.K G cal (.lst ees)) :=
  (pe_lst h).imp fun σ H Q q => by
    obtain ⟨ρ, F, s, d, s', S, hv, k⟩ := q
    simp only [evE] at hv
    obtain ⟨ds, s1, h1, hv⟩ := R.bind_ok hv
    cases hv
    refine ⟨ρ, F, s, ds, _, S, h1, fun ρ1 ws H1 S1 g1 l1 r1 => ⟨?_, fun p hp => ?_⟩⟩
    · have e : ∀ {es : List E} {ds : List D} {ws : List V}, Ress X.K ρ1 F s' σ H1 es ds ws → ws.length = es.length := fun r => by
        induction r with
        | nil => rfl
        | cons _ _ ih => simp [ih]
      rw [e r1, ← hle, sizeLine_eq]
      omega
    · exact Fin.lst (fin_of (e := .lst ees) rfl S1 g1 l1 k) S1.tracked (r1.reps hn) p hp
/-- a new shared list -/
theorem s_shr (h : PE X x (TEv X.K G cal ea)) (hf : fresh ea = true) : PE X x (TEv X.K G cal (.shr ea)) :=
  h.imp fun σ H Q q => by
    obtain ⟨ρ, F, s, d, s', S, hv, k⟩ := q
    simp only [evE] at hv
    obtain ⟨y, s1, h1, hv⟩ := R.bind_ok hv
    refine ⟨ρ, F, s, y, s1, S, h1, fun ρ1 w H1 S1 g1 l1 r1 f1 => ?_⟩
    split at hv
    · rename_i ds
      cases hv
      obtain ⟨a, vs, rfl, e0, S2, e2, n2, q2⟩ := f1 hf ds rfl
      refine k (ρ1 ++ [a]) (.ref a) H1 (S2.push n2 e2 q2) ⟨?_, fun b hb => ?_, g1.keep, g1.hid, g1.there, g1.own, g1.bs, ?_⟩ l1 (Rep.ref ?_) nofun
      · obtain ⟨r, rfl⟩ := g1.pre
        exact ⟨r ++ [a], by simp⟩
      · rcases List.mem_append.mp hb with hb | hb
        · exact g1.new b hb
        · have : b = a := by simpa using hb
          subst this
          exact .inr e0
      · simp only [List.length_append, List.length_cons, List.length_nil]
        exact Nat.le_succ_of_le g1.hl
      · rw [List.getElem?_append_right (by rw [S1.rl]; exact Nat.le_refl _), S1.rl]
        simp
    · cases hv

/-! ### operators -/
theorem s_bin {o : Bo} (ha : PE X a (TEv X.K G cal ea)) (hb : PE X b (TEv X.K G cal eb)) : PE X (.BinOp a (boP o) b pos) (TEv X.K G cal (.bin o ea eb)) :=
  (pe_op op_bin ha hb).imp fun σ H Q q => by
    obtain ⟨ρ, F, s, d, s', S, hv, k⟩ := q
    simp only [evE] at hv
    obtain ⟨d1, s1, h1, hv⟩ := R.bind_ok hv
    obtain ⟨d2, s2, h2, hv⟩ := R.bind_ok hv
    obtain ⟨ho, rfl⟩ := R.ofO_ok hv
    refine ⟨ρ, F, s, d1, s1, S, h1, fun ρ1 w1 H1 S1 g1 l1 r1 _ => ⟨ρ1, F, s1, d2, s2, S1, h2, fun ρ2 w2 H2 S2 g2 l2 r2 _ => ?_⟩⟩
    exact ⟨ρ2, _, _, _, d, S2.tracked, (r1.go g2 l2).rep0 S2, r2.rep0 S2, ho, fin_of (e := .bin o ea eb) rfl S2 (g1.trans g2) (l1.trans l2) k⟩
theorem bl_end {e : E} {ρ0 ρ : List Addr} {F : Addr → Prop} {s0 s : MS} {σ : L2.St} {H0 H : Hp} {d : D} {Q : VK} {b : Bool} (hn : noPk e = true) (S : Sim X.K ρ F s σ H) (g : Go ρ0 F s0 σ H0 ρ s σ H) (l : Live s0 s)
    (k : ∀ ρ' w H', Sim X.K ρ' F s σ H' → Go ρ0 F s0 σ H0 ρ' s σ H' → Live s0 s → Res X.K ρ' F s σ H' e (.bl b) w → (fresh e = true → Frs X.K H0 ρ' F s σ H' (.bl b) w) → Q w H') : Q (.bl b) H :=
  k ρ _ H S g l (.of (noPk_ne hn) (.bl b)) fun _ _ z => by cases z
theorem s_cmp {o : Co} (hu : X.A.units + 65 < cLine) (ha : PE X a (TEv X.K G cal ea)) (hb : PE X b (TEv X.K G cal eb)) (hm : behindInMarks (coP o) b = false) : PE X (.Compare a [coP o] [b] pos) (TEv X.K G cal (.cmp o ea eb)) :=
  (pe_cmpR (op_cmp hu) ha hb hm).imp fun σ H Q q => by
    obtain ⟨ρ, F, s, d, s', S, hv, k⟩ := q
    simp only [evE] at hv
    obtain ⟨d1, s1, h1, hv⟩ := R.bind_ok hv
    obtain ⟨d2, s2, h2, hv⟩ := R.bind_ok hv
    obtain ⟨ho, rfl⟩ := R.ofO_ok hv
    obtain ⟨b, ho2, rfl⟩ := Option.map_eq_some_iff.mp ho
    refine ⟨ρ, F, s, d1, s1, S, h1, fun ρ1 w1 H1 S1 g1 l1 r1 _ => ⟨ρ1, F, s1, d2, s2, S1, h2, fun ρ2 w2 H2 S2 g2 l2 r2 _ => ?_⟩⟩
    exact ⟨ρ2, _, _, _, b, (r1.go g2 l2).rep0 S2, r2.rep0 S2, ho2, bl_end (d := .bl b) (e := .cmp o ea eb) rfl S2 (g1.trans g2) (l1.trans l2) k⟩
theorem s_cmp2 {o p : Co} (hu : X.A.units + 65 < cLine) (ha : PE X a (TEv X.K G cal ea)) (hb : PE X b (TEv X.K G cal eb)) (hc : PE X c (TEv X.K G cal ec)) (hm : lastMarks [coP o, coP p] [b, c] = false) :
    PE X (.Compare a [coP o, coP p] [b, c] pos) (TEv X.K G cal (.cmp2 o p ea eb ec)) :=
  (pe_chain (op_cmp hu) (op_cmp hu) ha hb hc hm).imp fun σ H Q q => by
    obtain ⟨ρ, F, s, d, s', S, hv, k⟩ := q
    simp only [evE] at hv
    obtain ⟨d1, s1, h1, hv⟩ := R.bind_ok hv
    obtain ⟨d2, s2, h2, hv⟩ := R.bind_ok hv
    refine ⟨ρ, F, s, d1, s1, S, h1, fun ρ1 w1 H1 S1 g1 l1 r1 _ => ⟨ρ1, F, s1, d2, s2, S1, h2, fun ρ2 w2 H2 S2 g2 l2 r2 _ => ?_⟩⟩
    split at hv
    · rename_i h3
      obtain ⟨d3, s3, h4, hv⟩ := R.bind_ok hv
      obtain ⟨ho, rfl⟩ := R.ofO_ok hv
      obtain ⟨b, ho2, rfl⟩ := Option.map_eq_some_iff.mp ho
      refine ⟨ρ2, _, _, _, true, (r1.go g2 l2).rep0 S2, r2.rep0 S2, h3, true, rfl, ?_⟩
      rw [if_pos rfl]
      refine ⟨ρ2, F, s2, d3, s3, S2, h4, fun ρ3 w3 H3 S3 g3 l3 r3 _ => ?_⟩
      exact ⟨ρ3, _, _, _, b, (r2.go g3 l3).rep0 S3, r3.rep0 S3, ho2, bl_end (d := .bl b) (e := .cmp2 o p ea eb ec) rfl S3 ((g1.trans g2).trans g3) ((l1.trans l2).trans l3) k⟩
    · rename_i h3
      cases hv
      refine ⟨ρ2, _, _, _, false, (r1.go g2 l2).rep0 S2, r2.rep0 S2, h3, false, rfl, ?_⟩
      rw [if_neg (by decide)]
      exact bl_end (d := .bl false) (e := .cmp2 o p ea eb ec) rfl S2 (g1.trans g2) (l1.trans l2) k
    · cases hv
theorem s_neg (ha : PE X a (TEv X.K G cal ea)) (hn : noPk ea = true) : PE X (.UnaryOp .USub a pos) (TEv X.K G cal (.neg ea)) :=
  (pe_un un_neg ha).imp fun σ H Q q => by
    obtain ⟨ρ, F, s, d, s', S, hv, k⟩ := q
    simp only [evE] at hv
    obtain ⟨d1, s1, h1, hv⟩ := R.bind_ok hv
    refine ⟨ρ, F, s, d1, s1, S, h1, fun ρ1 w1 H1 S1 g1 l1 r1 _ => ?_⟩
    split at hv
    · cases hv
      exact ⟨_, (r1.rep (noPk_ne hn)).intI, k ρ1 _ H1 S1 g1 l1 (.int _) nofun⟩
    · cases hv
theorem s_and {rest : List Expr} (hn : noPk ea = true) (hnb : noPk eb = true) (ha : PE X a (TEv X.K G cal ea)) (hb : PE X (.BoolOp .And (b :: rest) pos) (TEv X.K G cal eb)) : PE X (.BoolOp .And (a :: b :: rest) pos) (TEv X.K G cal (.and ea eb)) :=
  (pe_andT ha hb).imp fun σ H Q q => by
    obtain ⟨ρ, F, s, d, s', S, hv, k⟩ := q
    simp only [evE] at hv
    obtain ⟨d1, s1, h1, hv⟩ := R.bind_ok hv
    refine ⟨ρ, F, s, d1, s1, S, h1, fun ρ1 w1 H1 S1 g1 l1 r1 _ => ?_⟩
    split at hv
    · rename_i h2
      refine ⟨true, tru_of (r1.rep0 S1) h2, ?_⟩
      rw [if_pos rfl]
      exact ⟨ρ1, F, s1, d, s', S1, hv, fun ρ2 w2 H2 S2 g2 l2 r2 _ => k ρ2 w2 H2 S2 (g1.trans g2) (l1.trans l2) (.of (noPk_ne rfl) (r2.rep (noPk_ne hnb))) nofun⟩
    · rename_i h2
      cases hv
      refine ⟨false, tru_of (r1.rep0 S1) h2, ?_⟩
      rw [if_neg (by decide)]
      exact k ρ1 w1 H1 S1 g1 l1 (.of (noPk_ne rfl) (r1.rep (noPk_ne hn))) nofun
    · cases hv
theorem s_or {rest : List Expr} (hn : noPk ea = true) (hnb : noPk eb = true) (ha : PE X a (TEv X.K G cal ea)) (hb : PE X (.BoolOp .Or (b :: rest) pos) (TEv X.K G cal eb)) : PE X (.BoolOp .Or (a :: b :: rest) pos) (TEv X.K G cal (.or ea eb)) :=
  (pe_orT ha hb).imp fun σ H Q q => by
    obtain ⟨ρ, F, s, d, s', S, hv, k⟩ := q
    simp only [evE] at hv
    obtain ⟨d1, s1, h1, hv⟩ := R.bind_ok hv
    refine ⟨ρ, F, s, d1, s1, S, h1, fun ρ1 w1 H1 S1 g1 l1 r1 _ => ?_⟩
    split at hv
    · rename_i h2
      cases hv
      refine ⟨true, tru_of (r1.rep0 S1) h2, ?_⟩
      rw [if_pos rfl]
      exact k ρ1 w1 H1 S1 g1 l1 (.of (noPk_ne rfl) (r1.rep (noPk_ne hn))) nofun
    · rename_i h2
      refine ⟨false, tru_of (r1.rep0 S1) h2, ?_⟩
      rw [if_neg (by decide)]
      exact ⟨ρ1, F, s1, d, s', S1, hv, fun ρ2 w2 H2 S2 g2 l2 r2 _ => k ρ2 w2 H2 S2 (g1.trans g2) (l1.trans l2) (.of (noPk_ne rfl) (r2.rep (noPk_ne hnb))) nofun⟩
    · cases hv
theorem s_not (ha : PE X a (TEv X.K G cal ea)) : PE X (.UnaryOp .Not a pos) (TEv X.K G cal (.not ea)) :=
  (pe_notT ha).imp fun σ H Q q => by
    obtain ⟨ρ, F, s, d, s', S, hv, k⟩ := q
    simp only [evE] at hv
    obtain ⟨d1, s1, h1, hv⟩ := R.bind_ok hv
    obtain ⟨ho, rfl⟩ := R.ofO_ok hv
    obtain ⟨b, ho2, rfl⟩ := Option.map_eq_some_iff.mp ho
    refine ⟨ρ, F, s, d1, s1, S, h1, fun ρ1 w1 H1 S1 g1 l1 r1 _ => ?_⟩
    exact ⟨b, tru_of (r1.rep0 S1) ho2, bl_end (d := .bl (!b)) (e := .not ea) rfl S1 g1 l1 k⟩
theorem s_ife (hc : PT X c (TTv X.K G cal ec)) (ha : PE X a (TEv X.K G cal ea)) (hb : PE X b (TEv X.K G cal eb)) (hn : noPk ea = true) (hnb : noPk eb = true) : PE X (.IfExp c a b pos) (TEv X.K G cal (.ife ec ea eb)) :=
  (pe_ifExp hc ha hb).imp fun σ H Q q => by
    obtain ⟨ρ, F, s, d, s', S, hv, k⟩ := q
    simp only [evE] at hv
    obtain ⟨t, s1, h1, hv⟩ := R.bind_ok hv
    refine ⟨ρ, F, s, t, s1, S, h1, fun ρ1 H1 S1 g1 l1 => ?_⟩
    cases t with
    | true =>
      rw [if_pos rfl] at hv ⊢
      exact ⟨ρ1, F, s1, d, s', S1, hv, fun ρ2 w2 H2 S2 g2 l2 r2 _ => k ρ2 w2 H2 S2 (g1.trans g2) (l1.trans l2) (.of (noPk_ne rfl) (r2.rep (noPk_ne hn))) nofun⟩
    | false =>
      rw [if_neg (by decide)] at hv ⊢
      exact ⟨ρ1, F, s1, d, s', S1, hv, fun ρ2 w2 H2 S2 g2 l2 r2 _ => k ρ2 w2 H2 S2 (g1.trans g2) (l1.trans l2) (.of (noPk_ne rfl) (r2.rep (noPk_ne hnb))) nofun⟩

/-! ### items, slices -/
theorem s_ix (ha : PE X a (TEv X.K G cal ea)) (hb : PE X b (TEv X.K G cal eb)) (hn : noPk eb = true) (hs : PlainIx b) : PE X (.Subscript a b pos) (TEv X.K G cal (.ix ea eb)) :=
  (pe_ix ix_D ha hb hs).imp fun σ H Q q => by
    obtain ⟨ρ, F, s, d, s', S, hv, k⟩ := q
    simp only [evE] at hv
    obtain ⟨d1, s1, h1, hv⟩ := R.bind_ok hv
    obtain ⟨d2, s2, h2, hv⟩ := R.bind_ok hv
    obtain ⟨ho, rfl⟩ := R.ofO_ok hv
    refine ⟨ρ, F, s, d1, s1, S, h1, fun ρ1 w1 H1 S1 g1 l1 r1 _ => ⟨ρ1, F, s1, d2, s2, S1, h2, fun ρ2 w2 H2 S2 g2 l2 r2 _ => ?_⟩⟩
    exact ⟨ρ2, _, _, _, d, (r1.go g2 l2).rep0 S2, r2.rep (noPk_ne hn), ho, fun w r => k ρ2 w H2 S2 (g1.trans g2) (l1.trans l2) (.of (noPk_ne rfl) r) nofun⟩
theorem s_rev {k1 : Nat} {p1 p2 p3 : Pos} (ha : PE X a (TEv X.K G cal ea)) : PE X (.Subscript a (.Slice none none (some (.UnaryOp .USub (.Constant (.int 1) k1 p1) p2)) p3) pos) (TEv X.K G cal (.rev ea)) :=
  (pe_revA ha).imp fun σ H Q q => by
    obtain ⟨ρ, F, s, d, s', S, hv, k⟩ := q
    simp only [evE] at hv
    obtain ⟨d1, s1, h1, hv⟩ := R.bind_ok hv
    refine ⟨ρ, F, s, d1, s1, S, h1, fun ρ1 w1 H1 S1 g1 l1 r1 _ => ?_⟩
    have r0 := r1.rep0 S1
    split at hv
    · rename_i ds he
      cases hv
      rw [he] at r0
      obtain ⟨a, vs, rfl, h1, q⟩ := r0.lstI
      exact ⟨a, vs, rfl, .inl ⟨h1, fun p hp => Fin.lst (fin_of (e := .rev ea) rfl S1 g1 l1 k) S1.tracked q.reverse p hp⟩⟩
    · rename_i ds he
      cases hv
      rw [he] at r0
      obtain ⟨a, vs, rfl, h1, q⟩ := r0.tupI
      exact ⟨a, vs, rfl, .inr ⟨h1, fun p hp => Fin.tup (fin_of (e := .rev ea) rfl S1 g1 l1 k) S1.tracked q.reverse p hp⟩⟩
    · cases hv
/-- a slice's part -/
inductive PoV (X : Cx) (G : Tab) (cal : Cal) : Option Expr → List E → Prop
  | none : PoV X G cal none []
  | some {x : Expr} {e : E} : PE X x (TEv X.K G cal e) → noPk e = true → PoV X G cal (some x) [e]
def TPo (K : PySem.W.Frag) (G : Tab) (cal : Cal) (es : List E) : TO := fun σ H Q => ∃ ρ F s ds s' b, Sim K ρ F s σ H ∧ evEs G cal es s = .ok ds s' ∧ bndD ds.head? = some b ∧
  ∀ ρ' H', Sim K ρ' F s' σ H' → Go ρ F s σ H ρ' s' σ H' → Live s s' → Q b H'
theorem _root_.L2.PO.imp {X : Cx} {e : Option Expr} {t t' : TO} (h : PO X e t) (i : ∀ σ H Q, t' σ H Q → t σ H Q) : PO X e t' := ⟨fun pins s σ H Q I q => h.run pins s σ H Q I (i σ H Q q)⟩
theorem PoV.po {x : Option Expr} {es : List E} (h : PoV X G cal x es) : PO X x (TPo X.K G cal es) := by
  cases h with
  | none =>
    refine PO.imp po_none fun σ H Q q => ?_
    obtain ⟨ρ, F, s, ds, s', b, S, hv, hb, k⟩ := q
    simp only [evEs] at hv
    cases hv
    cases hb
    exact k ρ H S .refl .refl
  | some h hn =>
    refine PO.imp (po_some h) fun σ H Q q => ?_
    obtain ⟨ρ, F, s, ds, s', b, S, hv, hb, k⟩ := q
    simp only [evEs] at hv
    obtain ⟨d, s1, h1, hv⟩ := R.bind_ok hv
    obtain ⟨d2, s2, h2, hv⟩ := R.bind_ok hv
    cases h2
    cases hv
    refine ⟨ρ, F, s, d, _, S, h1, fun ρ1 w1 H1 S1 g1 l1 r1 _ => ?_⟩
    have r := r1.rep (noPk_ne hn)
    cases d with
    | int i =>
      cases hb
      exact ⟨i, r.intI, k ρ1 H1 S1 g1 l1⟩
    | _ => cases hb
theorem s_slc {lo hi : Option Expr} {el eh : List E} {p2 : Pos} (ha : PE X a (TEv X.K G cal ea)) (hl : PoV X G cal lo el) (hh : PoV X G cal hi eh) : PE X (.Subscript a (.Slice lo hi none p2) pos) (TEv X.K G cal (.slc ea el eh)) :=
  (pe_slice sl_D ha hl.po hh.po).imp fun σ H Q q => by
    obtain ⟨ρ, F, s, d, s', S, hv, k⟩ := q
    simp only [evE] at hv
    obtain ⟨d1, s1, h1, hv⟩ := R.bind_ok hv
    obtain ⟨dl, s2, h2, hv⟩ := R.bind_ok hv
    obtain ⟨dh, s3, h3, hv⟩ := R.bind_ok hv
    obtain ⟨ho, rfl⟩ := R.ofO_ok hv
    have hb : ∃ bl bh, bndD dl.head? = some bl ∧ bndD dh.head? = some bh := by
      unfold slcD at ho
      split at ho
      · rename_i x y e1 e2
        exact ⟨x, y, e1, e2⟩
      · cases ho
    obtain ⟨bl, bh, e1, e2⟩ := hb
    have bb : ∀ {o : Option D} {b : Option Int}, bndD o = some b → o = b.map .int := fun {o b} h => by
      unfold bndD at h
      split at h <;> cases h <;> rfl
    rw [bb e1, bb e2] at ho
    refine ⟨ρ, F, s, d1, s1, S, h1, fun ρ1 w1 H1 S1 g1 l1 r1 _ => ⟨ρ1, F, s1, dl, s2, bl, S1, h2, e1, fun ρ2 H2 S2 g2 l2 => ⟨ρ2, F, s2, dh, s3, bh, S2, h3, e2, fun ρ3 H3 S3 g3 l3 => ?_⟩⟩⟩
    exact ⟨ρ3, _, _, d, S3.tracked, ((r1.go g2 l2).go g3 l3).rep0 S3, ho, fin_of (e := .slc ea el eh) rfl S3 ((g1.trans g2).trans g3) ((l1.trans l2).trans l3) k⟩

/-! ### built-ins -/
theorem s_bi {f : Bi} (ha : PE X x (tCB (rBi X.K G.sh f) (TEvs X.K G cal ees))) : PE X x (TEv X.K G cal (.bi f ees)) :=
  ha.imp fun σ H Q q => by
    obtain ⟨ρ, F, s, d, s', S, hv, k⟩ := q
    simp only [evE] at hv
    obtain ⟨ds, s1, h1, hv⟩ := R.bind_ok hv
    obtain ⟨ho, rfl⟩ := R.ofO_ok hv
    refine ⟨ρ, F, s, ds, s1, S, h1, fun ρ1 ws H1 S1 g1 l1 r1 => ?_⟩
    exact ⟨ρ1, _, _, d, S1.tracked, r1.rep0s S1, ho, fin_of (e := .bi f ees) rfl S1 g1 l1 k⟩

/-! ### tests -/
theorem s_tnot (ha : PT X a (TTv X.K G cal ea)) : PT X (.UnaryOp .Not a pos) (TTv X.K G cal (.not ea)) :=
  (pt_not ha).imp fun σ H Q q => by
    obtain ⟨ρ, F, s, d, s', S, hv, k⟩ := q
    simp only [evT] at hv
    obtain ⟨d1, s1, h1, hv⟩ := R.bind_ok hv
    cases hv
    exact ⟨ρ, F, s, d1, _, S, h1, k⟩
theorem s_tand {rest : List Expr} (ha : PT X a (TTv X.K G cal ea)) (hb : PW X (.BoolOp .And (b :: rest) pos) (TTv X.K G cal eb)) : PW X (.BoolOp .And (a :: b :: rest) pos) (TTv X.K G cal (.and ea eb)) :=
  (pw_and ha hb).imp fun σ H Q q => by
    obtain ⟨ρ, F, s, d, s', S, hv, k⟩ := q
    simp only [evT] at hv
    obtain ⟨d1, s1, h1, hv⟩ := R.bind_ok hv
    refine ⟨ρ, F, s, d1, s1, S, h1, fun ρ1 H1 S1 g1 l1 => ?_⟩
    cases d1 with
    | true =>
      rw [if_pos rfl] at hv ⊢
      exact ⟨ρ1, F, s1, d, s', S1, hv, fun ρ2 H2 S2 g2 l2 => k ρ2 H2 S2 (g1.trans g2) (l1.trans l2)⟩
    | false =>
      rw [if_neg (by decide)] at hv ⊢
      cases hv
      exact k ρ1 H1 S1 g1 l1
theorem s_tor {rest : List Expr} (ha : PT X a (TTv X.K G cal ea)) (hb : PW X (.BoolOp .Or (b :: rest) pos) (TTv X.K G cal eb)) : PW X (.BoolOp .Or (a :: b :: rest) pos) (TTv X.K G cal (.or ea eb)) :=
  (pw_or ha hb).imp fun σ H Q q => by
    obtain ⟨ρ, F, s, d, s', S, hv, k⟩ := q
    simp only [evT] at hv
    obtain ⟨d1, s1, h1, hv⟩ := R.bind_ok hv
    refine ⟨ρ, F, s, d1, s1, S, h1, fun ρ1 H1 S1 g1 l1 => ?_⟩
    cases d1 with
    | false =>
      rw [if_neg (by decide)] at hv ⊢
      exact ⟨ρ1, F, s1, d, s', S1, hv, fun ρ2 H2 S2 g2 l2 => k ρ2 H2 S2 (g1.trans g2) (l1.trans l2)⟩
    | true =>
      rw [if_pos rfl] at hv ⊢
      cases hv
      exact k ρ1 H1 S1 g1 l1
/-- a test that is its value's truth -/
def byVal : E → Bool
  | .and _ _ => false
  | .or _ _ => false
  | .not _ => false
  | .ife _ _ _ => false
  | _ => true
theorem evT_val (h : byVal e = true) (s : MS) : evT G cal e s = (evE G cal e s).bind fun x s => .ofO (truthD (reD e x s)) s := by
  cases e <;> first | (cases h; done) | (simp only [evT])
theorem s_ttru (hb : byVal e = true) (ha : PE X a (TEv X.K G cal e)) (he : ∀ whole, isTrue a X.env whole = (do let v ← whole; standAt a.pos; holding [v] (truthy v))) : PT X a (TTv X.K G cal e) :=
  (pt_truth ha he).imp fun σ H Q q => by
    obtain ⟨ρ, F, s, d, s', S, hv, k⟩ := q
    rw [evT_val hb] at hv
    obtain ⟨d1, s1, h1, hv⟩ := R.bind_ok hv
    obtain ⟨ho, rfl⟩ := R.ofO_ok hv
    exact ⟨ρ, F, s, d1, s1, S, h1, fun ρ1 w H1 S1 g1 l1 r1 _ => ⟨d, tru_of (r1.rep0 S1) ho, k ρ1 H1 S1 g1 l1⟩⟩
theorem s_tcmp {o : Co} (hu : X.A.units + 65 < cLine) (ha : PE X a (TEv X.K G cal ea)) (hb : PE X b (TEv X.K G cal eb)) (hm : behindInMarks (coP o) b = false) : PT X (.Compare a [coP o] [b] pos) (TTv X.K G cal (.cmp o ea eb)) :=
  (pt_cmpR (op_cmp hu) ha hb hm).imp fun σ H Q q => by
    obtain ⟨ρ, F, s, d, s', S, hv, k⟩ := q
    rw [evT_val rfl] at hv
    obtain ⟨d0, s0, hw, hv0⟩ := R.bind_ok hv
    clear hv
    obtain ⟨hv1, rfl⟩ := R.ofO_ok hv0
    simp only [evE] at hw
    obtain ⟨d1, s1, h1, hw1⟩ := R.bind_ok hw
    obtain ⟨d2, s2, h2, hv⟩ := R.bind_ok hw1
    obtain ⟨ho, rfl⟩ := R.ofO_ok hv
    obtain ⟨b, ho2, rfl⟩ := Option.map_eq_some_iff.mp ho
    cases hv1
    refine ⟨ρ, F, s, d1, s1, S, h1, fun ρ1 w1 H1 S1 g1 l1 r1 _ => ⟨ρ1, F, s1, d2, s2, S1, h2, fun ρ2 w2 H2 S2 g2 l2 r2 _ => ?_⟩⟩
    exact ⟨ρ2, _, _, _, d, (r1.go g2 l2).rep0 S2, r2.rep0 S2, ho2, d, rfl, k ρ2 H2 S2 (g1.trans g2) (l1.trans l2)⟩
theorem s_tcmp2 {o p : Co} (hu : X.A.units + 65 < cLine) (ha : PE X a (TEv X.K G cal ea)) (hb : PE X b (TEv X.K G cal eb)) (hc : PE X c (TEv X.K G cal ec)) (hm : lastMarks [coP o, coP p] [b, c] = false) :
    PT X (.Compare a [coP o, coP p] [b, c] pos) (TTv X.K G cal (.cmp2 o p ea eb ec)) :=
  (pt_chain (op_cmp hu) (op_cmp hu) ha hb hc hm).imp fun σ H Q q => by
    obtain ⟨ρ, F, s, d, s', S, hv, k⟩ := q
    rw [evT_val rfl] at hv
    obtain ⟨d0, s0, hw, hv0⟩ := R.bind_ok hv
    clear hv
    obtain ⟨hv1, rfl⟩ := R.ofO_ok hv0
    simp only [evE] at hw
    obtain ⟨d1, s1, h1, hw1⟩ := R.bind_ok hw
    obtain ⟨d2, s2, h2, hv⟩ := R.bind_ok hw1
    refine ⟨ρ, F, s, d1, s1, S, h1, fun ρ1 w1 H1 S1 g1 l1 r1 _ => ⟨ρ1, F, s1, d2, s2, S1, h2, fun ρ2 w2 H2 S2 g2 l2 r2 _ => ?_⟩⟩
    split at hv
    · rename_i h3
      obtain ⟨d3, s3, h4, hv⟩ := R.bind_ok hv
      obtain ⟨ho, rfl⟩ := R.ofO_ok hv
      obtain ⟨b, ho2, rfl⟩ := Option.map_eq_some_iff.mp ho
      cases hv1
      refine ⟨ρ2, _, _, _, true, (r1.go g2 l2).rep0 S2, r2.rep0 S2, h3, true, rfl, ?_⟩
      rw [if_pos rfl]
      refine ⟨ρ2, F, s2, d3, s3, S2, h4, fun ρ3 w3 H3 S3 g3 l3 r3 _ => ?_⟩
      exact ⟨ρ3, _, _, _, d, (r2.go g3 l3).rep0 S3, r3.rep0 S3, ho2, d, rfl, k ρ3 H3 S3 ((g1.trans g2).trans g3) ((l1.trans l2).trans l3)⟩
    · rename_i h3
      cases hv
      cases hv1
      refine ⟨ρ2, _, _, _, false, (r1.go g2 l2).rep0 S2, r2.rep0 S2, h3, false, rfl, ?_⟩
      rw [if_neg (by decide)]
      exact ⟨false, rfl, k ρ2 H2 S2 (g1.trans g2) (l1.trans l2)⟩
    · cases hv
end
end Tw
end

section
set_option linter.all false
set_option autoImplicit false
set_option maxRecDepth 100000
set_option maxHeartbeats 4000000
/-! Methods that change a list; calls. -/
namespace Tw
open PySem L2 PyProof.Rows

section
variable {X : Cx} {G : Tab} {cal : Cal} {a b c x o : Expr} {ea eb ec e eo : E} {pos : Pos} {es : List Expr} {ees : List E}

/-- what a list method needs of its arguments -/
def muOk (m : Bm) (ees : List E) : Bool :=
  match m with
  | .append => ees.all noPk
  | .extend => true
  | .pop => ees.all noPk
  | .insert => ees.all noPk
  | .clear => true
  | .reverse => true
  | _ => false
theorem rdM_mu {m : Bm} {d : D} {ds : List D} (h : muOk m ees = true) : rdM m d ds = none := by
  unfold rdM
  split <;> first | (cases h; done) | rfl
theorem muM_lst {m : Bm} {d d' r : D} {ds : List D} (h : muM m d ds = some (d', r)) : ∃ xs ys, d = .lst xs ∧ d' = .lst ys := by
  unfold muM at h
  split at h
  · obtain ⟨l, _, e⟩ := Option.map_eq_some_iff.mp h; cases e; exact ⟨_, _, rfl, rfl⟩
  · obtain ⟨l, _, e⟩ := Option.map_eq_some_iff.mp h; cases e; exact ⟨_, _, rfl, rfl⟩
  · cases h
  · obtain ⟨l, _, e⟩ := Option.map_eq_some_iff.mp h; cases e; exact ⟨_, _, rfl, rfl⟩
  · obtain ⟨j, _, h⟩ := Option.bind_eq_some_iff.mp h
    obtain ⟨l, _, e⟩ := Option.map_eq_some_iff.mp h; cases e; exact ⟨_, _, rfl, rfl⟩
  · split at h
    · obtain ⟨l, _, e⟩ := Option.map_eq_some_iff.mp h; cases e; exact ⟨_, _, rfl, rfl⟩
    · cases h
  · cases h; exact ⟨_, _, rfl, rfl⟩
  · cases h; exact ⟨_, _, rfl, rfl⟩
  · cases h
/-- the receiver is a list -/
theorem recv_ty {ρ : List Addr} {F : Addr → Prop} {s : MS} {σ : L2.St} {H : Hp} {d : D} {w : V} (S : Sim X.K ρ F s σ H) (r : Res X.K ρ F s σ H eo d w)
    (h : (∃ i ds, eo = .pk i ∧ s.env[i]? = some (.own (.lst ds))) ∨ ∃ i, d = .ref i ∧ noPk eo = true) : tyV X.K "list" w H := by
  rcases h with ⟨i, ds, rfl, e⟩ | ⟨i, rfl, hn⟩
  · obtain ⟨a, e1, q, _⟩ := S.so i _ e
    have e2 : σ[i]? = some (some w) := r.1
    rw [e1] at e2
    cases e2
    cases q with
    | lst h _ => exact .inl ⟨rfl, _, .of h⟩
  · have r := r.rep (noPk_ne hn)
    cases r with
    | ref e =>
      have hi : i < s.hp.length := by rw [← S.rl]; exact (List.getElem?_eq_some_iff.mp e).1
      cases hO : s.hp[i]? with
      | none => rw [List.getElem?_eq_none_iff] at hO; omega
      | some ob =>
        cases S.hp i ob _ hO e with
        | lst h _ => exact .inl ⟨rfl, _, .of h⟩
theorem own_pk {s s' : MS} {i : Nat} {d : D} (h : evE G cal (.pk i) s = .ok d s') : ∃ ds, s'.env[i]? = some (.own (.lst ds)) := by
  simp only [evE, own?] at h
  obtain ⟨ho, rfl⟩ := R.ofO_ok h
  split at ho
  · rename_i e; exact ⟨_, e⟩
  · cases ho
/-- the change is done -/
theorem mu_end {m : Bm} {ρ ρ2 : List Addr} {F : Addr → Prop} {s s2 s' : MS} {σ : L2.St} {H H2 : Hp} {d1 : D} {ds : List D} {w1 : V} {ws : List V} {Q : VK} (hm : muOk m ees = true)
    (S2 : Sim X.K ρ2 F s2 σ H2) (g : Go ρ F s σ H ρ2 s2 σ H2) (l : Live s s2) (r1 : Res X.K ρ2 F s2 σ H2 eo d1 w1) (r2 : Ress X.K ρ2 F s2 σ H2 ees ds ws)
    {xs' : D} {rr' : D} (hmu : muM m (reD eo d1 s2) (mArgs m ees ds s2) = some (xs', rr')) (hw : wrTo eo d1 xs' s2 = some s')
    (k : ∀ ρ' w H', Sim X.K ρ' F s' σ H' → Go ρ F s σ H ρ' s' σ H' → Live s s' → Rep X.K ρ' (Mu ρ' F s'.env σ) H' rr' w → Q w H') : rMu X.K m w1 ws H2 Q := by
  have ar : MuArgs X.K ρ2 (Mu ρ2 F s2.env σ) H2 m (mArgs m ees ds s2) ws := by
    cases m <;> first | (cases hm; done) | exact r2.reps hm | exact r2.rep0s S2
  obtain ⟨xs, ys, e1, rfl⟩ := muM_lst hmu
  rw [e1] at hmu
  unfold wrTo at hw
  split at hw
  · rename_i i
    split at hw
    case isFalse => cases hw
    rename_i ho
    cases hw
    unfold isOwn at ho
    split at ho
    case h_2 => cases ho
    rename_i d0 eo
    obtain ⟨a, e2, q, n1, n2⟩ := S2.so i _ eo
    have e3 : σ[i]? = some (some w1) := r1.1
    rw [e2] at e3
    cases e3
    unfold reD at e1
    simp only at e1
    rw [eo] at e1
    simp only at e1
    subst e1
    cases q with
    | lst hH q =>
      refine ⟨ρ2, _, a, _, xs, _, ys, rr', rfl, hH, q, ar, hmu, fun w vs' q' rr => ?_⟩
      obtain ⟨S3, g3, l3, k3⟩ := S2.setOwn eo e2 q'
      exact k ρ2 w _ S3 (g.trans g3) (l.trans l3) (rr.keep k3)
  · rename_i hne
    split at hw
    case h_2 => cases hw
    rename_i i
    have rr0 : Rep X.K ρ2 (Mu ρ2 F s2.env σ) H2 (.ref i) w1 := r1.rep (fun j z => hne j z)
    cases rr0 with
    | ref er =>
      have hi : i < s2.hp.length := by rw [← S2.rl]; exact (List.getElem?_eq_some_iff.mp er).1
      cases hO : s2.hp[i]? with
      | none => rw [List.getElem?_eq_none_iff] at hO; omega
      | some ob =>
        cases S2.hp i ob _ hO er with
        | lst hH q =>
          rename_i zs us
          have : reD eo (.ref i) s2 = .lst zs := by
            have hd : deref (.ref i) s2.hp = .lst zs := by unfold deref; simp only [hO]
            cases eo with
            | pk j => exact absurd rfl (hne j)
            | _ => exact hd
          rw [this] at e1
          cases e1
          refine ⟨ρ2, _, _, _, _, _, ys, rr', rfl, hH, q, ar, hmu, fun w vs' q' rr => ?_⟩
          obtain ⟨S3, g3, l3, k3⟩ := S2.setRef er hw q'
          exact k ρ2 w _ S3 (g.trans g3) (l.trans l3) (rr.keep k3)
theorem bm_inv {m : Bm} {s s' : MS} {d : D} (hm : muOk m ees = true) (hv : evE G cal (.bm eo m ees) s = .ok d s') :
    ∃ d1 s1 ds s2 xs', evE G cal eo s = .ok d1 s1 ∧ evEs G cal ees s1 = .ok ds s2 ∧ muM m (reD eo d1 s2) (mArgs m ees ds s2) = some (xs', d) ∧ wrTo eo d1 xs' s2 = some s' := by
  simp only [evE] at hv
  obtain ⟨d1, s1, h1, hv⟩ := R.bind_ok hv
  obtain ⟨ds, s2, h2, hv⟩ := R.bind_ok hv
  rw [rdM_mu hm] at hv
  simp only at hv
  split at hv
  · rename_i d' r hmu
    split at hv
    · rename_i s3 hw
      cases hv
      exact ⟨d1, s1, ds, s2, d', h1, h2, hmu, hw⟩
    · cases hv
  · cases hv
theorem wr_recv {s s1 s2 s' : MS} {d1 xs' : D} (h1 : evE G cal eo s = .ok d1 s1) (hw : wrTo eo d1 xs' s2 = some s') : (∃ i ds, eo = .pk i ∧ s1.env[i]? = some (.own (.lst ds))) ∨ ∃ i, d1 = .ref i ∧ noPk eo = true := by
  unfold wrTo at hw
  split at hw
  · rename_i i
    obtain ⟨ds, h⟩ := own_pk h1
    exact .inl ⟨i, ds, rfl, h⟩
  · rename_i hne
    split at hw
    · rename_i i
      refine .inr ⟨i, rfl, ?_⟩
      cases eo <;> first | rfl | exact absurd rfl (hne _)
    · cases hw
def bmName : Bm → Str
  | .append => "append" | .extend => "extend" | .pop => "pop" | .insert => "insert" | .clear => "clear" | .reverse => "reverse" | _ => ""
theorem bm_slot {m : Bm} {ees : List E} (hm : muOk m ees = true) : Slot "list" (bmName m) (bmId m) ∧ typeOf (.builtin (bmId m)) = pure (.type "method_descriptor") := by
  cases m <;> first | (cases hm; done) | skip
  · exact ⟨F.slot_list_append, F.type_list_append⟩
  · exact ⟨F.slot_list_extend, F.type_list_extend⟩
  · exact ⟨F.slot_list_pop, F.type_list_pop⟩
  · exact ⟨F.slot_list_insert, F.type_list_insert⟩
  · exact ⟨F.slot_list_clear, F.type_list_clear⟩
  · exact ⟨F.slot_list_reverse, F.type_list_reverse⟩
theorem s_mu {m : Bm} {apos : Pos} {y : Expr} {ys : List Expr} (hm : muOk m ees = true) (ho : PE X o (TEv X.K G cal eo)) (ha : PA X (y :: ys) (TEvs X.K G cal ees))
    (hbase : attributeBase o (bmName m) X.env (eval o X.env) = eval o X.env)
    (hfew : ((backTo pos (starEach (y :: ys) X.env)).all (fun x => !x.1) && (backToKw pos (keywordEach [] X.env)).all (fun x => x.1.isSome)
      && decide ((y :: ys).length + ([] : List Keyword).length + (if ([] : List Keyword).isEmpty then 0 else 1) < 30)) = true)
    (hline : (apos.endLine == pos.line) = true) (hs : starEach (y :: ys) X.env = (false, eval y X.env) :: starEach ys X.env) (hplain : (backTo pos (starEach ys X.env)).any (·.1) = false) :
    PE X (.Call (.Attribute o (bmName m) apos) (y :: ys) [] pos) (TEv X.K G cal (.bm eo m ees)) :=
  (pe_bm F.plainAttrs_list (bm_slot hm).1 (bm_slot hm).2 mt_mu ho ha hbase hfew hline hs hplain).imp fun σ H Q q => by
    obtain ⟨ρ, F, s, d, s', S, hv, k⟩ := q
    obtain ⟨d1, s1, ds, s2, xs', h1, h2, hmu, hw⟩ := bm_inv hm hv
    refine ⟨ρ, F, s, d1, s1, S, h1, fun ρ1 w1 H1 S1 g1 l1 r1 _ => ⟨recv_ty S1 r1 (wr_recv h1 hw), ρ1, F, s1, ds, s2, S1, h2, fun ρ2 ws H2 S2 g2 l2 r2 => ?_⟩⟩
    exact mu_end hm S2 (g1.trans g2) (l1.trans l2) (r1.go g2 l2) r2 hmu hw fun ρ' w H' S' g' l' r' => k ρ' w H' S' g' l' (.of (noPk_ne rfl) r') nofun
theorem s_mu0 {m : Bm} {apos : Pos} (hm : muOk m [] = true) (ho : PE X o (TEv X.K G cal eo))
    (hbase : attributeBase o (bmName m) X.env (eval o X.env) = eval o X.env) (hline : (apos.endLine == pos.line) = true) :
    PE X (.Call (.Attribute o (bmName m) apos) [] [] pos) (TEv X.K G cal (.bm eo m [])) :=
  (pe_bm0 F.plainAttrs_list (bm_slot hm).1 (bm_slot hm).2 mt_mu ho hbase hline).imp fun σ H Q q => by
    obtain ⟨ρ, F, s, d, s', S, hv, k⟩ := q
    obtain ⟨d1, s1, ds, s2, xs', h1, h2, hmu, hw⟩ := bm_inv hm hv
    simp only [evEs] at h2
    cases h2
    refine ⟨ρ, F, s, d1, s1, S, h1, fun ρ1 w1 H1 S1 g1 l1 r1 _ => ⟨recv_ty S1 r1 (wr_recv h1 hw), ?_⟩⟩
    exact mu_end hm S1 g1 l1 r1 .nil hmu hw fun ρ' w H' S' g' l' r' => k ρ' w H' S' g' l' (.of (noPk_ne rfl) r') nofun
end
end Tw
end

section
set_option linter.all false
set_option autoImplicit false
set_option maxRecDepth 100000
set_option maxHeartbeats 4000000
/-! Calls of one's own functions. -/
namespace Tw
open PySem L2 PyProof.Rows

/-! ### a def that keeps a promise where no repr is under way -/
structure FnG (P : Program) (w : World) (K : PySem.W.Frag) (mg : Str → Option Value) (base : Heap) (k : Nat) (f : Addr) (fd : FuncData) (ps : List Str) (sp : Sp) : Prop where
  len : ∀ vs H Q E, sp vs H Q E → vs.length = ps.length
  run : ∀ (A : Around) (outer : List Env) (s : Shared) (H : Hp) (args : Args) (us : List Value) (vs : List V) (Q : VK) (E : XK), Room k A → A.guards = some [] → Env0 P w K mg base A outer s H →
    BindsTo s fd args (ps.zip us) → Vals vs us → sp vs H Q E → codeAny (model P w) A (.call (.ref f) args) (CR CX0 outer P w H s Q E) s

section
variable {K : PySem.W.Frag} {ρ ρ' : List Addr} {F : Addr → Prop} {s s' : MS} {σ : L2.St} {H H' : Hp}
/-- the frame's own ones are hidden from a callee -/
def Out (F : Addr → Prop) (env : List Slt) (σ : L2.St) : Addr → Prop := fun a => F a ∨ OwnAt env σ a
/-- the state without locals -/
def MS.out (s : MS) : MS := ⟨[], s.hp, s.bs⟩
theorem no_own {b : Addr} : ¬ OwnAt [] [] b := by
  rintro ⟨i, d, e, _⟩
  simp at e
theorem mu_out {b : Addr} {env : List Slt} : Mu ρ (Out F env σ) [] [] b ↔ Mu ρ F env σ b := by
  constructor
  · rintro (h | (h | h) | h)
    · exact .inl h
    · exact .inr (.inl h)
    · exact .inr (.inr h)
    · exact absurd h no_own
  · rintro (h | h | h)
    · exact .inl h
    · exact .inr (.inl (.inl h))
    · exact .inr (.inl (.inr h))
theorem Keep.mu {M M' : Addr → Prop} (h : ∀ b, M' b → M b) : Keep ρ M H ρ M' H := ⟨fun _ _ e => e, fun _ _ e _ => e, fun b o _ n m => n (h b m)⟩
theorem Sim.own_no (S : Sim K ρ F s σ H) {b : Addr} (h : OwnAt s.env σ b) : b ∉ ρ ∧ ¬ F b := by
  obtain ⟨i, d, e1, e2⟩ := h
  obtain ⟨b', e3, _, n1, n2⟩ := S.so i d e1
  rw [e2] at e3; cases e3
  exact ⟨n1, n2⟩
theorem Sim.out (S : Sim K ρ F s σ H) : Sim K ρ (Out F s.env σ) s.out [] H :=
  ⟨S.rl, S.rn, fun b hb h => h.elim (S.rF b hb) fun h => (S.own_no h).1 hb, fun i ob a e1 e2 => (S.hp i ob a e1 e2).keep (.mu fun b h => mu_out.mp h) fun _ e => e, S.bs, S.bl,
    fun b h => h.elim (S.fT b) S.own_there, rfl, fun i d e => by simp [MS.out] at e, fun i d e => by simp [MS.out] at e, fun i j di dj a e => by simp [MS.out] at e⟩
theorem Reps.out {ds : List D} {vs : List V} (r : Reps K ρ (Mu ρ F s.env σ) H ds vs) : Reps K ρ (Mu ρ (Out F s.env σ) [] []) H ds vs := r.keep (.mu fun b h => mu_out.mp h)
theorem Sim.back {hp' : List Ob} (S : Sim K ρ F s σ H) (S' : Sim K ρ' (Out F s.env σ) ⟨[], hp', s.bs⟩ [] H') (g : Go ρ (Out F s.env σ) s.out [] H ρ' ⟨[], hp', s.bs⟩ [] H') :
    Sim K ρ' F { s with hp := hp' } σ H' ∧ Go ρ F s σ H ρ' { s with hp := hp' } σ H' := by
  have g' : Go ρ F s σ H ρ' { s with hp := hp' } σ H' := ⟨g.pre, g.new, fun b o e n => g.keep b o e fun m => n (mu_out.mp m), fun b h => g.hid b (.inl h), g.there, fun b h => .inl h, rfl, g.hl⟩
  have k := g'.keepM
  refine ⟨⟨S'.rl, S'.rn, fun b hb h => S'.rF b hb (.inl h), fun i ob a e1 e2 => (S'.hp i ob a e1 e2).keep (.mu fun b h => mu_out.mpr h) fun _ e => e, S'.bs, S'.bl, fun b h => S'.fT b (.inl h), S.el, fun i d e => ?_, fun i d e => ?_, S.oi⟩, g'⟩
  · obtain ⟨v, e1, r⟩ := S.sv i d e
    exact ⟨v, e1, r.keep k⟩
  · obtain ⟨a, e1, r, n1, n2⟩ := S.so i d e
    refine ⟨a, e1, r.keep k fun o e' => ?_, fun h => S'.rF a h (.inr ⟨i, d, e, e1⟩), n2⟩
    rw [g.hid a (.inr ⟨i, d, e, e1⟩)]
    exact e'
end

/-- what a function promises: its run tells -/
def spF (K : PySem.W.Frag) (cal : Cal) (f : String) (n : Nat) : Sp := fun vs H Q _ => ∃ ρ F ds bs hp d hp', ds.length = n ∧ Sim K ρ F ⟨[], hp, bs⟩ [] H ∧ Reps K ρ (Mu ρ F [] []) H ds vs ∧ cal f ds bs hp = .ok d hp' ∧
  ∀ ρ' w H', Sim K ρ' F ⟨[], hp', bs⟩ [] H' → Go ρ F ⟨[], hp, bs⟩ [] H ρ' ⟨[], hp', bs⟩ [] H' → Rep K ρ' (Mu ρ' F [] []) H' d w → Q w H'
theorem spF_len {K : PySem.W.Frag} {cal : Cal} {f : String} {n : Nat} : ∀ vs H Q E, spF K cal f n vs H Q E → vs.length = n := by
  rintro vs H Q E ⟨ρ, F, ds, bs, hp, d, hp', hl, S, r, _⟩
  rw [← r.length, hl]

/-- nothing tracked, no number -/
def Nil : Hp := fun _ => none
theorem Keep.nil {ρ : List Addr} {M : Addr → Prop} {H : Hp} : Keep [] (fun _ => False) Nil ρ M H := ⟨fun i a e => (by simp at e), fun b o e => (by cases e), fun b o e => (by cases e)⟩
/-- a function of the table, as it stands in the module -/
structure FnIn (P : Program) (w : World) (K : PySem.W.Frag) (mg : Str → Option Value) (base : Heap) (cal : Cal) (k : Nat) (f : String) (F : Fn) : Prop where
  ex : ∃ (a : Addr) (fd : FuncData) (ps : List Str), mg f = some (.ref a) ∧ PySem.W.keepIn K (.ref a) = true ∧ ps.length = F.ps.length ∧ FnG P w K mg base k a fd ps (spF K cal f F.ps.length) ∧
    ∀ m, m ≤ F.ps.length → F.ps.length - m ≤ F.dfl.length → ∃ (dvs : List V) (ds : List Value), Vals dvs ds ∧ Reps K [] (fun _ => False) Nil (F.dfl.drop (F.dfl.length - (F.ps.length - m))) dvs ∧
      ∀ (s : Shared) (us : List Value), K.In s.heap → us.length = m → BindsTo s fd ⟨us, []⟩ (ps.zip (us ++ ds))
  kx : ∃ (a : Addr) (fd : FuncData) (ps : List Str), mg f = some (.ref a) ∧ PySem.W.keepIn K (.ref a) = true ∧ ps.length = F.ps.length ∧ FnG P w K mg base k a fd ps (spF K cal f F.ps.length) ∧
    ∀ q ∈ F.kwz, ∃ (dvs : List V) (its : List Value), Vals dvs its ∧ Reps K [] (fun _ => False) Nil F.dfl dvs ∧
      ∀ (s : Shared) (us ws rest : List Value), K.In s.heap → us.length = q.1 → ws.length = q.2.length → kwRest its q.2 ws (F.ps.drop q.1) = some rest → BindsTo s fd ⟨us, (q.2.map PySem.Str.ofString).zip ws⟩ (ps.zip (us ++ rest))

section
variable {X : Cx} {G : Tab} {cal : Cal} {x : Str} {p pos : Pos} {e : Expr} {es : List Expr} {ees : List E} {k : Nat} {f : String} {F : Fn}
theorem run_g {pins : List (Addr × Obj)} {σ : L2.St} {H : Hp} {s : Shared} {Q : VK} {us all : List Value} {vs : List V} {a : Addr} {fd : FuncData} {ps : List Str} {sp : Sp} (Fg : FnG X.prog X.w X.K X.mg X.base k a fd ps sp) (hr : Room k X.A) (hg : X.A.guards = some [])
    {kw : List (Str × Value)} (hb : BindsTo s fd ⟨us, kw⟩ (ps.zip all)) (I : Inv X pins σ H s) (r : Vals vs all) (h : sp vs H Q E0) : wpAny (model X.prog X.w) X.A (call (.ref a) us kw) (EP X pins σ Q) X.xe s := by
  refine wpAny_call (codeAny_mono (Fg.run X.A X.stack s H ⟨us, kw⟩ all vs Q E0 hr hg I.env0 hb r h) fun r s' hq => ?_)
  cases r with
  | error e => exact pass0 pins σ H s e s' I hq
  | ok fl =>
    cases fl with
    | ret u => exact I.after hq
    | next => exact False.elim hq
    | brk => exact False.elim hq
    | cont => exact False.elim hq
/-- the promise at a call's place -/
theorem call_end {ρ ρ1 : List Addr} {Fh : Addr → Prop} {s s1 s' : MS} {σ : L2.St} {H H1 : Hp} {d : D} {ds : List D} {ws : List V} {Q : VK} (hF : G.fn f = some F) (S1 : Sim X.K ρ1 Fh s1 σ H1) (g1 : Go ρ Fh s σ H ρ1 s1 σ H1) (l1 : Live s s1)
    (r : Reps X.K ρ1 (Mu ρ1 Fh s1.env σ) H1 ds ws) (hc : callWith G cal f ds [] [] s1 = .ok d s')
    (kk : ∀ ρ' w H', Sim X.K ρ' Fh s' σ H' → Go ρ Fh s σ H ρ' s' σ H' → Live s s' → Rep X.K ρ' (Mu ρ' Fh s'.env σ) H' d w → Q w H')
    (hfin : ∀ ds : List D, cal f ds s1.bs s1.hp ≠ .stuck → ds.length = F.ps.length) :
    ∃ rest, ds.length ≤ F.ps.length ∧ F.ps.length - ds.length ≤ F.dfl.length ∧ rest = F.dfl.drop (F.dfl.length - (F.ps.length - ds.length)) ∧
      ∀ dvs, Reps X.K [] (fun _ => False) Nil rest dvs → spF X.K cal f F.ps.length (ws ++ dvs) H1 Q E0 := by
  unfold callWith at hc
  rw [hF] at hc
  simp only at hc
  split at hc
  case h_2 => cases hc
  rename_i rest hb
  unfold bindA at hb
  rw [if_pos (by rfl)] at hb
  split at hb
  case isFalse => cases hb
  rename_i hle
  cases hb
  obtain ⟨h1, h2⟩ := Bool.and_eq_true_iff.mp hle
  refine ⟨_, of_decide_eq_true h1, of_decide_eq_true h2, rfl, fun dvs rd => ?_⟩
  split at hc
  case h_2 => cases hc
  case h_3 => cases hc
  rename_i d0 hp' hcal
  cases hc
  refine ⟨ρ1, Out Fh s1.env σ, _, s1.bs, s1.hp, d, hp', hfin _ (by rw [hcal]; nofun), S1.out, (r.out).append (rd.keep .nil), hcal, fun ρ' w H' S' g' r' => ?_⟩
  obtain ⟨S2, g2⟩ := S1.back S' g'
  exact kk ρ' w H' S2 (g1.trans g2) l1 (r'.keep (.mu fun b h => mu_out.mpr h))
theorem s_call (hF : G.fn f = some F) (Fi : FnIn X.prog X.w X.K X.mg X.base cal k f F) (hfin : ∀ (ds : List D) bs hp, cal f ds bs hp ≠ .stuck → ds.length = F.ps.length) (hr : Room k X.A) (hgu : X.A.guards = some []) (hx : x = (f : Str)) (hg : Gl X x) (hn : ees.all noPk = true) (hle : (e :: es).length = ees.length)
    (ha : PA X (e :: es) (TEvs X.K G cal ees)) (hdb : (x == ("__debug__" : Str)) = false) (he : starEach (e :: es) X.env = (false, eval e X.env) :: starEach es X.env) (hpl : (backTo pos (starEach es X.env)).any (·.1) = false) :
    PE X (.Call (.Name x p) (e :: es) [] pos) (TEv X.K G cal (.call f ees [] [])) := by
  subst hx
  obtain ⟨a, fd, ps, hm, hk, hpl2, Fg, bnd⟩ := Fi.ex
  refine ⟨fun pins s σ H Q I h => ?_⟩
  obtain ⟨ρ, Fh, ms, d, ms', S, hv, kk⟩ := h
  simp only [evE] at hv
  obtain ⟨ds, ms1, h1, hv⟩ := R.bind_ok hv
  simp only [evEs] at hv
  refine wpAny_Call_Name_kw (ld_glob I hg hm ?_ hdb)
  refine PySem.W.callWith_K (h₀ := X.base) I.ok.mod.kin hk (thn (ha.run pos pins s σ H
    (fun ws H1 => ∃ ρ1, Sim X.K ρ1 Fh ms1 σ H1 ∧ Go ρ Fh ms σ H ρ1 ms1 σ H1 ∧ Live ms ms1 ∧ Ress X.K ρ1 Fh ms1 σ H1 ees ds ws) I ⟨ρ, Fh, ms, ds, ms1, S, h1, fun ρ1 ws H1 S1 g1 l1 r1 => ⟨ρ1, S1, g1, l1, r1⟩⟩)
    fun us s1 ⟨vs, H1, I1, r, ρ1, S1, g1, l1, r1⟩ => ⟨I1.kIn, ?_⟩) he hpl
  obtain ⟨rest, q1, q2, rfl, q3⟩ := call_end (d := d) (s' := ms') (Q := Q) hF S1 g1 l1 (r1.reps hn) hv (fun ρ' w H' S' g' l' r' => kk ρ' w H' S' g' l' (.of (noPk_ne rfl) r') nofun) fun ds h => hfin ds _ _ h
  obtain ⟨dvs, dus, rv, rd, bb⟩ := bnd ds.length q1 q2
  have hlen : us.length = ds.length := by rw [← r.length, ← (r1.reps hn).length]
  exact run_g Fg hr hgu (bb s1 us I1.kIn hlen) I1 (r.append rv) (q3 dvs rd)
theorem s_call0 (hF : G.fn f = some F) (Fi : FnIn X.prog X.w X.K X.mg X.base cal k f F) (hfin : ∀ (ds : List D) bs hp, cal f ds bs hp ≠ .stuck → ds.length = F.ps.length) (hr : Room k X.A) (hgu : X.A.guards = some []) (hx : x = (f : Str)) (hg : Gl X x)
    (hdb : (x == ("__debug__" : Str)) = false) : PE X (.Call (.Name x p) [] [] pos) (TEv X.K G cal (.call f [] [] [])) := by
  subst hx
  obtain ⟨a, fd, ps, hm, hk, hpl2, Fg, bnd⟩ := Fi.ex
  refine ⟨fun pins s σ H Q I h => ?_⟩
  obtain ⟨ρ, Fh, ms, d, ms', S, hv, kk⟩ := h
  simp only [evE, evEs] at hv
  refine wpAny_Call_Name_kw (ld_glob I hg hm ?_ hdb)
  obtain ⟨rest, q1, q2, rfl, q3⟩ := call_end (d := d) (s' := ms') (Q := Q) (ds := []) (ws := []) hF S .refl .refl .nil hv (fun ρ' w H' S' g' l' r' => kk ρ' w H' S' g' l' (.of (noPk_ne rfl) r') nofun) fun ds h => hfin ds _ _ h
  obtain ⟨dvs, dus, rv, rd, bb⟩ := bnd 0 (Nat.zero_le _) q2
  exact PySem.W.callWith_K0 I.kIn hk (run_g Fg hr hgu (bb s [] I.kIn rfl) I rv (q3 dvs rd))
end

/-! ### keywords -/
inductive A2 {α β : Type} (R : α → β → Prop) : List α → List β → Prop
  | nil : A2 R [] []
  | cons {a : α} {b : β} {as : List α} {bs : List β} : R a b → A2 R as bs → A2 R (a :: as) (b :: bs)
section
variable {α β : Type} {R : α → β → Prop}
theorem A2.len {as : List α} {bs : List β} (h : A2 R as bs) : as.length = bs.length := by
  induction h with
  | nil => rfl
  | cons _ _ ih => exact congrArg (· + 1) ih
theorem A2.get {as : List α} {bs : List β} (h : A2 R as bs) : ∀ (i : Nat) (a : α), as[i]? = some a → ∃ b, bs[i]? = some b ∧ R a b := by
  induction h with
  | nil => intro i a e; simp at e
  | cons r _ ih =>
    intro i a e
    cases i with
    | zero => simp at e; subst e; exact ⟨_, rfl, r⟩
    | succ i =>
      obtain ⟨b, e1, e2⟩ := ih i a (by simpa using e)
      exact ⟨b, by simpa using e1, e2⟩
theorem A2.look {as : List α} {bs : List β} (h : A2 R as bs) : ∀ (ks : List String) (p : String), (∀ x, (ks.zip as).lookup p = some x → ∃ y, (ks.zip bs).lookup p = some y ∧ R x y) ∧ ((ks.zip as).lookup p = none → (ks.zip bs).lookup p = none) := by
  induction h with
  | nil => intro ks p; cases ks <;> exact ⟨fun x e => by simp at e, fun _ => rfl⟩
  | cons r _ ih =>
    intro ks p
    cases ks with
    | nil => exact ⟨fun x e => by simp at e, fun _ => rfl⟩
    | cons k ks =>
      rw [List.zip_cons_cons, List.zip_cons_cons, List.lookup_cons, List.lookup_cons]
      cases p == k with
      | true => exact ⟨fun x e => by cases e; exact ⟨_, rfl, r⟩, nofun⟩
      | false => exact ih ks p
theorem kwRest_rel {dfl kds : List α} {dfl' kds' : List β} {ks : List String} (h1 : A2 R dfl dfl') (h2 : A2 R kds kds') : ∀ (ps : List String) (rest : List α), kwRest dfl ks kds ps = some rest → ∃ rest', kwRest dfl' ks kds' ps = some rest' ∧ A2 R rest rest'
  | [], rest, h => by cases h; exact ⟨[], rfl, .nil⟩
  | p :: ps, rest, h => by
    unfold kwRest at h
    obtain ⟨x, hx, h⟩ := Option.bind_eq_some_iff.mp h
    obtain ⟨xs, hxs, rfl⟩ := Option.map_eq_some_iff.mp h
    obtain ⟨ys, e2, r2⟩ := kwRest_rel h1 h2 ps xs hxs
    have key : ∃ y, ((ks.zip kds').lookup p).or (if (p :: ps).length ≤ dfl'.length then dfl'[dfl'.length - (p :: ps).length]? else none) = some y ∧ R x y := by
      obtain ⟨l1, l2⟩ := h2.look ks p
      cases hq : (ks.zip kds).lookup p with
      | some z =>
        rw [hq] at hx
        cases hx
        obtain ⟨y, e, r⟩ := l1 _ hq
        exact ⟨y, by rw [e]; rfl, r⟩
      | none =>
        rw [hq] at hx
        rw [l2 hq, ← h1.len]
        have hx : (if (p :: ps).length ≤ dfl.length then dfl[dfl.length - (p :: ps).length]? else none) = some x := hx
        split at hx
        · rename_i hle
          obtain ⟨y, e, r⟩ := h1.get _ _ hx
          exact ⟨y, by rw [if_pos hle]; exact e, r⟩
        · cases hx
    obtain ⟨y, e1, r1⟩ := key
    refine ⟨y :: ys, ?_, .cons r1 r2⟩
    unfold kwRest
    rw [e1, e2]
    rfl
end
section
variable {K : PySem.W.Frag} {ρ : List Addr} {M : Addr → Prop} {H : Hp}
theorem Reps.a2 : ∀ {ds : List D} {vs : List V}, Reps K ρ M H ds vs → A2 (Rep K ρ M H) ds vs
  | _, _, .nil => .nil
  | _, _, .cons r t => .cons r t.a2
theorem A2.reps {ds : List D} {vs : List V} (h : A2 (Rep K ρ M H) ds vs) : Reps K ρ M H ds vs := by
  induction h with
  | nil => exact .nil
  | cons r _ ih => exact .cons r ih
theorem vals_a2 : ∀ {vs : List V} {us : List Value}, Vals vs us → A2 RelV vs us
  | _, _, .nil => .nil
  | _, _, .cons r t => .cons r (vals_a2 t)
theorem a2_vals {vs : List V} {us : List Value} (h : A2 RelV vs us) : Vals vs us := by
  induction h with
  | nil => exact .nil
  | cons r _ ih => exact .cons r ih
end
theorem _root_.L2.PK.imp {X : Cx} {e : List Keyword} {t t' : TA} (h : PK X e t) (i : ∀ σ H Q, t' σ H Q → t σ H Q) : PK X e t' := ⟨fun pos pins s σ H Q I q => h.run pos pins s σ H Q I (i σ H Q q)⟩
section
variable {X : Cx} {G : Tab} {cal : Cal} {x : Str} {p pos kpos : Pos} {a : Expr} {ea : E} {es : List Expr} {ees kees : List E} {kws : List Keyword} {k : Nat} {f : String} {F : Fn} {nm : Option Str} {ks : List String}
theorem s_knil : PK X [] (TEvs X.K G cal []) := pk_nil.imp fun σ H Q q => by
  obtain ⟨ρ, F, s, ds, s', S, hv, k⟩ := q
  simp only [evEs] at hv
  cases hv
  exact k ρ [] H S .refl .refl .nil
theorem s_kcons (ha : PE X a (TEv X.K G cal ea)) (hr : PK X kws (TEvs X.K G cal kees)) : PK X (⟨nm, a, kpos⟩ :: kws) (TEvs X.K G cal (ea :: kees)) :=
  (pk_cons ha hr).imp fun σ H Q q => by
    obtain ⟨ρ, F, s, ds, s', S, hv, k⟩ := q
    simp only [evEs] at hv
    obtain ⟨d, s1, h1, hv⟩ := R.bind_ok hv
    obtain ⟨ds1, s2, h2, hv⟩ := R.bind_ok hv
    cases hv
    exact ⟨ρ, F, s, d, s1, S, h1, fun ρ1 w H1 S1 g1 l1 r1 _ => ⟨ρ1, F, s1, ds1, _, S1, h2, fun ρ2 ws H2 S2 g2 l2 r2 => k ρ2 (w :: ws) H2 S2 (g1.trans g2) (l1.trans l2) (.cons (r1.go g2 l2) r2)⟩⟩
/-- the promise at such a call's place -/
theorem call_endK {ρ ρ1 : List Addr} {Fh : Addr → Prop} {s s1 s' : MS} {σ : L2.St} {H H1 : Hp} {d : D} {ds kds : List D} {ws zs : List V} {Q : VK} (hF : G.fn f = some F) (hks : ks ≠ []) (S1 : Sim X.K ρ1 Fh s1 σ H1) (g1 : Go ρ Fh s σ H ρ1 s1 σ H1) (l1 : Live s s1)
    (r : Reps X.K ρ1 (Mu ρ1 Fh s1.env σ) H1 ds ws) (rk : Reps X.K ρ1 (Mu ρ1 Fh s1.env σ) H1 kds zs) (hc : callWith G cal f ds ks kds s1 = .ok d s')
    (kk : ∀ ρ' w H', Sim X.K ρ' Fh s' σ H' → Go ρ Fh s σ H ρ' s' σ H' → Live s s' → Rep X.K ρ' (Mu ρ' Fh s'.env σ) H' d w → Q w H')
    (hfin : ∀ ds : List D, cal f ds s1.bs s1.hp ≠ .stuck → ds.length = F.ps.length) :
    (ds.length, ks) ∈ F.kwz ∧ kds.length = ks.length ∧
      ∀ dvs, Reps X.K [] (fun _ => False) Nil F.dfl dvs → ∃ rv, kwRest dvs ks zs (F.ps.drop ds.length) = some rv ∧ spF X.K cal f F.ps.length (ws ++ rv) H1 Q E0 := by
  unfold callWith at hc
  rw [hF] at hc
  simp only at hc
  split at hc
  case h_2 => cases hc
  rename_i rest hb
  unfold bindA at hb
  rw [if_neg (by cases ks with | nil => exact absurd rfl hks | cons _ _ => simp)] at hb
  split at hb
  case isFalse => cases hb
  rename_i hle
  obtain ⟨h1, h2⟩ := Bool.and_eq_true_iff.mp hle
  refine ⟨by simpa using h1, of_decide_eq_true h2, fun dvs rd => ?_⟩
  obtain ⟨rv, e1, r1⟩ := kwRest_rel (rd.keep .nil).a2 rk.a2 _ _ hb
  refine ⟨rv, e1, ?_⟩
  split at hc
  case h_2 => cases hc
  case h_3 => cases hc
  rename_i d0 hp' hcal
  cases hc
  refine ⟨ρ1, Out Fh s1.env σ, _, s1.bs, s1.hp, d, hp', hfin _ (by rw [hcal]; nofun), S1.out, (r.out).append r1.reps.out, hcal, fun ρ' w H' S' g' r' => ?_⟩
  obtain ⟨S2, g2⟩ := S1.back S' g'
  exact kk ρ' w H' S2 (g1.trans g2) l1 (r'.keep (.mu fun b h => mu_out.mpr h))
theorem s_callK (hF : G.fn f = some F) (Fi : FnIn X.prog X.w X.K X.mg X.base cal k f F) (hfin : ∀ (ds : List D) bs hp, cal f ds bs hp ≠ .stuck → ds.length = F.ps.length) (hr : Room k X.A) (hgu : X.A.guards = some []) (hx : x = (f : Str)) (hg : Gl X x) (hn : ees.all noPk = true) (hnk : kees.all noPk = true) (hle : es.length = ees.length)
    (hk0 : ks ≠ []) (ha : PA X es (TEvs X.K G cal ees)) (hkw : PK X kws (TEvs X.K G cal kees)) (hall : (backToKw pos (keywordEach kws X.env)).all (·.1.isSome) = true) (hks : (backToKw pos (keywordEach kws X.env)).filterMap (·.1) = ks.map PySem.Str.ofString)
    (hdb : (x == ("__debug__" : Str)) = false) (he : ∀ e r, es = e :: r → starEach (e :: r) X.env = (false, eval e X.env) :: starEach r X.env) (hpl : ((backTo pos (starEach es X.env)).any (·.1) || (backToKw pos (keywordEach kws X.env)).any (·.1.isNone)) = false) :
    PE X (.Call (.Name x p) es kws pos) (TEv X.K G cal (.call f ees ks kees)) := by
  subst hx
  obtain ⟨a, fd, ps, hm, hk, hpl2, Fg, bnd⟩ := Fi.kx
  refine ⟨fun pins s σ H Q I h => ?_⟩
  obtain ⟨ρ, Fh, ms, d, ms', S, hv, kk⟩ := h
  simp only [evE] at hv
  obtain ⟨ds, ms1, h1, hv⟩ := R.bind_ok hv
  obtain ⟨kds, ms2, h2, hv⟩ := R.bind_ok hv
  have fin : ∀ {us ws : List Value} {vs zs : List V} {ρ1 ρ2 : List Addr} {H1 H2 : Hp} {s2 : Shared}, Inv X pins σ H2 s2 → Vals vs us → Vals zs ws → Sim X.K ρ2 Fh ms2 σ H2 → Go ρ Fh ms σ H ρ2 ms2 σ H2 → Live ms ms2 →
      Reps X.K ρ2 (Mu ρ2 Fh ms2.env σ) H2 ds vs → Reps X.K ρ2 (Mu ρ2 Fh ms2.env σ) H2 kds zs → wpAny (model X.prog X.w) X.A (call (.ref a) us ((ks.map PySem.Str.ofString).zip ws)) (EP X pins σ Q) X.xe s2 := by
    intro us ws vs zs ρ1 ρ2 H1 H2 s2 I2 rv rz S2 g2 l2 r1 r2
    obtain ⟨q1, q2, q3⟩ := call_endK (d := d) (s' := ms') (Q := Q) hF hk0 S2 g2 l2 r1 r2 hv (fun ρ' w H' S' g' l' r' => kk ρ' w H' S' g' l' (.of (noPk_ne rfl) r') nofun) fun ds h => hfin ds _ _ h
    obtain ⟨dvs, its, rd, rdd, bb⟩ := bnd _ q1
    obtain ⟨rvv, e1, sp⟩ := q3 dvs rdd
    obtain ⟨ru, e2, rr⟩ := kwRest_rel (vals_a2 rd) (vals_a2 rz) _ _ e1
    have l1 : us.length = ds.length := by rw [← rv.length, ← r1.length]
    have l2 : ws.length = ks.length := by rw [← rz.length, ← r2.length]; exact q2
    exact run_g Fg hr hgu (bb s2 us ws ru I2.kIn l1 l2 e2) I2 (rv.append (a2_vals rr)) sp
  refine wpAny_Call_Name_kw (ld_glob I hg hm ?_ hdb)
  cases es with
  | nil =>
    have hes : ees = [] := by cases ees with | nil => rfl | cons _ _ => cases hle
    subst hes
    simp only [evEs] at h1
    cases h1
    refine PySem.W.callWith_KW0 (h₀ := X.base) I.ok.mod.kin hk hall (thn (hkw.run pos pins s σ H
      (fun zs H2 => ∃ ρ2, Sim X.K ρ2 Fh ms2 σ H2 ∧ Go ρ Fh ms σ H ρ2 ms2 σ H2 ∧ Live ms ms2 ∧ Ress X.K ρ2 Fh ms2 σ H2 kees kds zs) I ⟨ρ, Fh, _, kds, ms2, S, h2, fun ρ2 zs H2 S2 g2 l2 r2 => ⟨ρ2, S2, g2, l2, r2⟩⟩)
      fun ws s2 ⟨zs, H2, I2, rz, ρ2, S2, g2, l2, r2⟩ => ⟨I2.kIn, ?_⟩) hpl
    rw [hks]
    exact fin (ρ1 := ρ) (H1 := H) I2 .nil rz S2 g2 l2 .nil (r2.reps hnk)
  | cons e es =>
    refine PySem.W.callWith_KW (h₀ := X.base) I.ok.mod.kin hk hall (thn (ha.run pos pins s σ H
      (fun ws H1 => ∃ ρ1, Sim X.K ρ1 Fh ms1 σ H1 ∧ Go ρ Fh ms σ H ρ1 ms1 σ H1 ∧ Live ms ms1 ∧ Ress X.K ρ1 Fh ms1 σ H1 ees ds ws) I ⟨ρ, Fh, ms, ds, ms1, S, h1, fun ρ1 ws H1 S1 g1 l1 r1 => ⟨ρ1, S1, g1, l1, r1⟩⟩)
      fun us s1 ⟨vs, H1, I1, r, ρ1, S1, g1, l1, r1⟩ => ?_) hpl (he e es rfl)
    refine thn (hkw.run pos pins s1 σ H1
      (fun zs H2 => ∃ ρ2, Sim X.K ρ2 Fh ms2 σ H2 ∧ Go ρ1 Fh ms1 σ H1 ρ2 ms2 σ H2 ∧ Live ms1 ms2 ∧ Ress X.K ρ2 Fh ms2 σ H2 kees kds zs) I1 ⟨ρ1, Fh, _, kds, ms2, S1, h2, fun ρ2 zs H2 S2 g2 l2 r2 => ⟨ρ2, S2, g2, l2, r2⟩⟩)
      fun ws s2 ⟨zs, H2, I2, rz, ρ2, S2, g2, l2, r2⟩ => ⟨I2.kIn, ?_⟩
    rw [hks]
    exact fin (ρ1 := ρ1) (H1 := H1) I2 r rz S2 (g1.trans g2) (l1.trans l2) ((r1.go g2 l2).reps hn) (r2.reps hnk)
end
end Tw
end

section
set_option linter.all false
set_option autoImplicit false
set_option maxRecDepth 100000
set_option maxHeartbeats 4000000
/-! enumerate over a tuple. -/
namespace Tw
open PySem L2 PyProof.Rows PySem.W

theorem meets_enumOver {v : Value} {o : Obj} {C : Heap → Prop} (b : Begins v o C) :
    Meets (Builtin.«enumerate.__new__» ⟨[.type "enumerate", v], []⟩) (fun _ R s => C s.heap ∧
      R (.ok (.ret (.ref (s.heap.push o).objs.size))) { s with heap := (s.heap.push o).push { cls := .type "enumerate", data := .fields #[.none, .bool false, .ref s.heap.objs.size, rawInt 0, .none, .none] } }) :=
  .of_wp fun prog w A R s h => by
    obtain ⟨hp, g, d, tk, os⟩ := s
    obtain ⟨h1, h⟩ := h
    have is_sub := sub_enumerate
    have walkIt : ∀ {A' : Around} {E : Value → Shared → Prop} {Q : Value → Shared → Prop}, Q (.ref hp.objs.size) ⟨hp.push o, g, d, tk, os⟩ → wpAny (model prog w) A' (pyIter v) Q E ⟨hp, g, d, tk, os⟩ :=
      fun q => b.iter prog w _ _ ⟨hp, g, d, tk, os⟩ _ h1 q
    wp_walk using walkIt
    refine wpAny_stack_any fun st => wpAny_pure ?_
    split
    · rename_i c _ _ _ _ _
      cases (c == Value.type "enumerate") <;> (wp_walk using walkIt; exact ⟨_, rfl, h⟩)
    · wp_walk using walkIt
      exact ⟨_, rfl, h⟩
section
variable {prog : Program} {w : World} {A : Around} {E : Value → Shared → Prop} {s : Shared}
theorem call_enumOver {v : Value} {o : Obj} {C : Heap → Prop} {Q : Value → Shared → Prop} (b : Begins v o C) (h1 : C s.heap)
    (h : ∀ h', IsEnum h' (s.heap.objs.size + 1) s.heap.objs.size 0 .none → h'.get? s.heap.objs.size = some o → (∀ c u, s.heap.get? c = some u → h'.get? c = some u) → Q (.ref (s.heap.objs.size + 1)) { s with heap := h' }) :
    wpAny (model prog w) A (call (.type "enumerate") [v]) Q E s := by
  refine callType_new F.called_enumerate (by decide) (F.typeCall_enumerate_1 _) (F.newCall_enumerate_1 _) (fun obj => F.args_object_init_2 obj _) F.entry_enumerate_new (meets_enumOver b) ⟨h1, ?_⟩
  have hz : (s.heap.push o).objs.size = s.heap.objs.size + 1 := Heap.size_push ..
  show _ ∧ _
  rw [hz]
  have he := Heap.get?_push_size (s.heap.push o) (o := { cls := .type "enumerate", data := .fields #[.none, .bool false, .ref s.heap.objs.size, rawInt 0, .none, .none] }) rfl
  rw [hz] at he
  exact ⟨⟨_, he, rfl⟩, h _ he (Heap.get?_push_of_some _ (Heap.get?_push_size _ b.free)) fun c u x => Heap.get?_push_of_some _ (Heap.get?_push_of_some _ x)⟩
end
def IteT (K : PySem.W.Frag) (a : Addr) : It :=
  ⟨fun i H => ∃ (xs : List V) (x : V), SqT K H a xs ∧ xs[i]? = some x, fun i H v H' => ∃ T x, v = .ref T ∧ H T = none ∧ H' = upd H T (.tup [.int (i : Nat), x]) ∧ ∀ xs, SqT K H a xs → xs[i]? = some x,
    fun i H => ∃ xs : List V, SqT K H a xs ∧ xs.length = i⟩
theorem turn_enumT {P : Program} {w : World} {K : PySem.W.Frag} {elts : List Expr} {kk : Nat} {tpos : Pos} (a e it : Addr) :
    Turn P w K (.Tuple elts kk tpos) (IteT K a) [e, it] e (fun i h => (∃ old, IsEnum h e it ((i : Nat) : Int) old) ∧ h.IsTupleIter it a i ∧ e ≠ it ∧ a ≠ it ∧ e ≠ a) where
  mem := by simp
  obj := fun i h st b hb => by
    obtain ⟨⟨old, he⟩, ⟨o, ho, hc, hd⟩, _⟩ := st
    have q : b = e ∨ b = it := by simpa using hb
    rcases q with rfl | rfl
    · exact ⟨_, he, fun v q => nomatch q⟩
    · exact ⟨o, ho, fun v q => by rw [hd] at q; cases q⟩
  keep := fun i h h' st k => ⟨st.1.elim fun old he => ⟨old, k e (by simp) _ he⟩, st.2.1.at fun o q => k it (by simp) o q, st.2.2⟩
  item := by
    intro X hP hw hK hc i pins s σ H E I hf st hg
    subst hP hw hK
    obtain ⟨⟨old, he⟩, hit, hne, hai, hea⟩ := st
    obtain ⟨xs, x, hq, hx⟩ := hg
    obtain ⟨its, rv, p, hz⟩ := I.tuple hq
    obtain ⟨u, hu, ru⟩ := rv.get hx
    have below : ∀ b ∈ [e, it], b < s.heap.objs.size := fun b hb => by
      have q : b = e ∨ b = it := by simpa using hb
      rcases q with rfl | rfl
      · exact Heap.lt_size he
      · obtain ⟨_, q, _⟩ := hit; exact Heap.lt_size q
    have hel := below e (by simp)
    have lt : i < its.toArray.size := by simpa using (List.getElem?_eq_some_iff.mp hu).1
    refine wpAny_pyNext_enum_itemD (Draws.tuple (A := X.A.in1) (I.ok.hd hc) it a hai its.toArray) he ⟨hit, p⟩ lt hne (by simp [hne, hea]) fun y h' tk hy ho hst hT hsz hk => ?_
    have hy : y = u := by
      have hy : its.toArray[i]? = some y := hy
      rw [List.getElem?_toArray, hu] at hy
      exact (Option.some.inj hy).symm
    subst hy
    refine ⟨_, rfl, wpAny_letOwnedTupleGo_enum (s := { s with heap := h', toks := tk + 1 }) ho fun h'' he' sb => ?_⟩
    have hT2 : h''.get? s.heap.objs.size = some { cls := .type "tuple", data := .seq #[.int i tk, y] } := (sb.2 _ (Nat.ne_of_gt hel)).trans hT
    have pairOk : ObjOk X.prog X.w (upd H s.heap.objs.size (.tup [.int (i : Nat), x])) h'' s.heap.objs.size (.tup [.int (i : Nat), x]) :=
      ⟨by show 2 ≤ sizeLine; rw [sizeLine_eq]; decide, [.int i tk, y], .cons ⟨_, rfl⟩ (.cons ru .nil), ⟨_, hT2, rfl, _, rfl⟩⟩
    have I1 : Inv X pins σ (upd H s.heap.objs.size (.tup [.int (i : Nat), x])) { s with heap := h'', toks := tk + 1 } :=
      I.turnedNew (ch := [e, it]) (fun b ob hb q => (sb.2 b fun z => hb (by simp [z])).trans (hk b ob (fun z => hb (by simp [z])) (fun z => hb (by simp [z])) q)) hf (Nat.le_refl _) pairOk
    refine ⟨.ref s.heap.objs.size, _, I1, rfl, ⟨_, x, rfl, I.hok.fresh (Nat.le_refl _), rfl, fun ys hy => by rw [I.tuple_inj hy hq]; exact hx⟩, ⟨⟨y, ?_⟩, hst.1.at fun o q => (sb.2 it hne.symm).trans q, hne, hai, hea⟩, fun b hb => ?_⟩
    · rw [show ((i + 1 : Nat) : Int) = (i : Int) + 1 by omega]
      exact he'
    · rw [upd_ne (Nat.ne_of_lt (below b hb))]
      exact (hf b hb).1
  done := by
    intro X hP hw hK hc i pins s σ H E I hf st hg
    subst hP hw hK
    obtain ⟨⟨old, he⟩, hit, hne, hai, hea⟩ := st
    obtain ⟨xs, hq, hx⟩ := hg
    obtain ⟨its, rv, p, hz⟩ := I.tuple hq
    obtain ⟨f0, f1, f2, f3, f4, f5⟩ := hf it (by simp)
    have hl : i = its.toArray.size := by rw [← hx, rv.length]; simp
    have st2 : s.heap.IsTupleIter it a its.toArray.size ∧ s.heap.IsTuple a its.toArray := ⟨hl ▸ hit, p⟩
    exact wpAny_pyNext_enum_endD (Draws.tuple (A := X.A.in1) (I.ok.hd hc) it a hai its.toArray) he st2 fun h' eb => ⟨rfl, I.turned (t' := s.toks) (fun b o hb q => eb b o hb q) f0 f1 f3 f4 f5⟩
  self := fun A i s Q E st h => st.1.elim fun _ he => wpAny_pyIter_enum he h
def iEnumT (K : PySem.W.Frag) (ta : TA) : TI := fun σ H R => ta σ H fun vs H1 => ∃ a xs, vs = [.ref a] ∧ SqT K H1 a xs ∧ R (IteT K a) H1
theorem pi_enumT {X : Cx} {e : Expr} {ta : TA} {p pos tpos : Pos} {elts : List Expr} {kk : Nat} (hg : Gl X "enumerate") (hm : X.mg "enumerate" = none) (ha : PA X [e] ta) (hs : starEach [e] X.env = [(false, eval e X.env)]) :
    PI X (.Tuple elts kk tpos) (.Call (.Name "enumerate" p) [e] [] pos) (iEnumT X.K ta) := by
  refine ⟨fun pins s σ H R I h => ?_⟩
  refine Call_ (ld_blt I hg hm boot_enumerate (PyProof.Rows.callWith_type1 (thn (ha.run pos pins s σ H _ I h) fun us s1 ⟨vs, H1, I1, r1, a, xs, ex, hq, q⟩ => ?_) hs rfl))
  subst ex
  obtain ⟨u, rfl, ru⟩ := r1.one
  cases ru
  obtain ⟨its, rv, p', hz⟩ := I1.tuple hq
  have la : a < s1.heap.objs.size := p'.lt
  refine call_enumOver (begins_tuple a its.toArray) p' fun h' he hit hk => wpAny_pyIter_enum he ?_
  have I2 : Inv X pins σ H1 { s1 with heap := h' } := I1.kept (t' := s1.toks) hk
  refine ⟨s1.heap.objs.size + 1, [s1.heap.objs.size + 1, s1.heap.objs.size], _, _, H1, rfl, I2, turn_enumT a (s1.heap.objs.size + 1) s1.heap.objs.size,
    ⟨⟨.none, he⟩, ⟨_, hit, rfl, rfl⟩, Nat.succ_ne_self _, Nat.ne_of_lt la, Nat.ne_of_gt (Nat.lt_succ_of_lt la)⟩, fun b hb => ?_, q⟩
  have hle : s1.heap.objs.size ≤ b := by
    have z : b = s1.heap.objs.size + 1 ∨ b = s1.heap.objs.size := by simpa using hb
    rcases z with z | z <;> rw [z]
    · exact Nat.le_succ _
    · exact Nat.le_refl _
  exact I1.fpOk hle (I1.hok.fresh hle)
end Tw
end

section
set_option linter.all false
set_option autoImplicit false
set_option maxRecDepth 100000
set_option maxHeartbeats 4000000
/-! zip(a, b, strict=True) over lists and tuples of one length. -/
namespace Tw
open PySem L2 PyProof.Rows PySem.W

theorem tc_zipS (a b c : Value) : checkTypeCall "zip" ⟨[a, b], [(Str.ofString "strict", c)]⟩ = pure () := by kernel_rfl
theorem nc_zipS (a b c : Value) : checkBuiltinCall "zip.__new__" ⟨[.type "zip", a, b], [(Str.ofString "strict", c)]⟩ = pure () := by kernel_rfl
theorem ai_zipS (o a b c : Value) : argsOk "object.__init__" ⟨[o, a, b], [(Str.ofString "strict", c)]⟩ := by
  unfold argsOk
  kernel_rfl
/-- the object of a strict zip -/
def zsO (f0 : Value) (TI TO : Addr) : Obj := { cls := .type "zip", dict := none, data := .fields #[f0, .bool false, .bool true, .ref TI, .ref TO], slots := #[] }
def zsH (h : Heap) (o1 o2 : Obj) : Heap := (gzO2 h o1 o2).push (zsO .none ((h.push o1).push o2).objs.size (gzT2 h o1 o2).objs.size)
theorem meets_zipS {v1 v2 : Value} {o1 o2 : Obj} {C1 C2 : Heap → Prop} (b1 : Begins v1 o1 C1) (b2 : Begins v2 o2 C2) :
    Meets (Builtin.«zip.__new__» ⟨[.type "zip", v1, v2], [(Str.ofString "strict", .bool true)]⟩) (fun _ R s => (C1 s.heap ∧ C2 s.heap) ∧ R (.ok (.ret (.ref (gzO2 s.heap o1 o2).objs.size))) { s with heap := zsH s.heap o1 o2 }) :=
  .of_wp fun prog w A R s h => by
    obtain ⟨hp, g, d, tk, os⟩ := s
    obtain ⟨⟨c1, c2⟩, h⟩ := h
    have is_sub := sub_zip
    have it1 : ∀ {A' : Around} {E : Value → Shared → Prop} {Q : Value → Shared → Prop}, Q (.ref hp.objs.size) ⟨hp.push o1, g, d, tk, os⟩ → wpAny (model prog w) A' (pyIter v1) Q E ⟨hp, g, d, tk, os⟩ :=
      fun q => b1.iter prog w _ _ ⟨hp, g, d, tk, os⟩ _ c1 q
    have it2 : ∀ {A' : Around} {E : Value → Shared → Prop} {Q : Value → Shared → Prop}, Q (.ref (hp.push o1).objs.size) ⟨(hp.push o1).push o2, g, d, tk, os⟩ → wpAny (model prog w) A' (pyIter v2) Q E ⟨hp.push o1, g, d, tk, os⟩ :=
      fun q => b2.iter prog w _ _ ⟨hp.push o1, g, d, tk, os⟩ _ (b2.keeps _ _ c2 fun c u e => Heap.get?_push_of_some _ e) q
    have named : (Str.ofString "strict" != ("strict" : Str)) = false := by decide +kernel
    wp_walk using it1, it2
    exact ⟨_, rfl, h⟩

abbrev IsZS (h : Heap) (z TI TO : Addr) (f0 : Value) : Prop := h.get? z = some (zsO f0 TI TO)
section
variable {prog : Program} {w : World} {A : Around} {E : Value → Shared → Prop} {s : Shared}
/-- its five new cells -/
theorem call_zipS {v1 v2 : Value} {o1 o2 : Obj} {C1 C2 : Heap → Prop} {Q : Value → Shared → Prop} (b1 : Begins v1 o1 C1) (b2 : Begins v2 o2 C2) (c1 : C1 s.heap) (c2 : C2 s.heap)
    (k : ∀ h', IsZS h' (s.heap.objs.size + 4) (s.heap.objs.size + 2) (s.heap.objs.size + 3) .none → IsTupOf2 h' (s.heap.objs.size + 2) (.ref s.heap.objs.size) (.ref (s.heap.objs.size + 1)) → IsTupOf2 h' (s.heap.objs.size + 3) .none .none →
      h'.get? s.heap.objs.size = some o1 → h'.get? (s.heap.objs.size + 1) = some o2 → (∀ c u, s.heap.get? c = some u → h'.get? c = some u) → Q (.ref (s.heap.objs.size + 4)) { s with heap := h' }) :
    wpAny (model prog w) A (call (.type "zip") [v1, v2] [(Str.ofString "strict", .bool true)]) Q E s := by
  refine callType_newKw F.called_zip (by decide) (tc_zipS _ _ _) (nc_zipS _ _ _) (fun o => ai_zipS o _ _ _) F.entry_zip_new (meets_zipS b1 b2) ⟨⟨c1, c2⟩, ?_⟩
  have n1 : (s.heap.push o1).objs.size = s.heap.objs.size + 1 := Heap.size_push ..
  have n2 : ((s.heap.push o1).push o2).objs.size = s.heap.objs.size + 2 := (Heap.size_push ..).trans (by rw [n1])
  have n3 : (gzT2 s.heap o1 o2).objs.size = s.heap.objs.size + 3 := (Heap.size_push ..).trans (by rw [n2])
  have n4 : (gzO2 s.heap o1 o2).objs.size = s.heap.objs.size + 4 := (Heap.size_push ..).trans (by rw [n3])
  have old : ∀ c u, s.heap.get? c = some u → (zsH s.heap o1 o2).get? c = some u := fun c u e =>
    Heap.get?_push_of_some _ (Heap.get?_push_of_some _ (Heap.get?_push_of_some _ (Heap.get?_push_of_some _ (Heap.get?_push_of_some _ e))))
  have e4 : IsZS (zsH s.heap o1 o2) (s.heap.objs.size + 4) (s.heap.objs.size + 2) (s.heap.objs.size + 3) .none := by
    show (zsH s.heap o1 o2).get? (s.heap.objs.size + 4) = some (zsO .none (s.heap.objs.size + 2) (s.heap.objs.size + 3))
    rw [← n4, ← n2, ← n3]
    exact Heap.get?_push_size _ rfl
  have e3 : IsTupOf2 (zsH s.heap o1 o2) (s.heap.objs.size + 3) .none .none := by
    rw [← n3]
    exact Heap.get?_push_of_some _ (Heap.get?_push_size _ rfl)
  have e2 : IsTupOf2 (zsH s.heap o1 o2) (s.heap.objs.size + 2) (.ref s.heap.objs.size) (.ref (s.heap.objs.size + 1)) := by
    rw [← n2, ← n1]
    exact Heap.get?_push_of_some _ (Heap.get?_push_of_some _ (Heap.get?_push_size _ rfl))
  have e1 : (zsH s.heap o1 o2).get? (s.heap.objs.size + 1) = some o2 := by
    rw [← n1]
    exact Heap.get?_push_of_some _ (Heap.get?_push_of_some _ (Heap.get?_push_of_some _ (Heap.get?_push_size _ b2.free)))
  have e0 : (zsH s.heap o1 o2).get? s.heap.objs.size = some o1 :=
    Heap.get?_push_of_some _ (Heap.get?_push_of_some _ (Heap.get?_push_of_some _ (Heap.get?_push_of_some _ (Heap.get?_push_size _ b1.free))))
  show _ ∧ _
  rw [n4]
  exact ⟨⟨_, e4, rfl⟩, k _ e4 e2 e3 e0 e1 old⟩

/-! ### one draw -/
/-- a list, a tuple -/
def SeqAt (t : Bool) (h : Heap) (a : Addr) (xs : Array Value) : Prop := if t then h.IsTuple a xs else h.IsList a xs
def SeqIt (t : Bool) (h : Heap) (it a : Addr) (i : Nat) : Prop := if t then h.IsTupleIter it a i else h.IsListIter it a i
theorem SeqAt.at' {t : Bool} {h h' : Heap} {a : Addr} {xs : Array Value} (x : SeqAt t h a xs) (k : ∀ o, h.get? a = some o → h'.get? a = some o) : SeqAt t h' a xs := by
  cases t
  · exact Heap.IsList.at x k
  · exact Heap.IsTuple.at x k
theorem SeqIt.at' {t : Bool} {h h' : Heap} {it a : Addr} {i : Nat} (x : SeqIt t h it a i) (k : ∀ o, h.get? it = some o → h'.get? it = some o) : SeqIt t h' it a i := by
  cases t
  · exact Heap.IsListIter.at x k
  · exact Heap.IsTupleIter.at x k
theorem nx_item {t : Bool} {it a : Addr} {i : Nat} {xs : Array Value} {x : Value} {Q : Option Value → Shared → Prop} (hi : SeqIt t s.heap it a i) (ha : SeqAt t s.heap a xs) (hx : xs[i]? = some x)
    (k : ∀ h', SeqIt t h' it a (i + 1) → Heap.SameBut it s.heap h' → Q (some x) { s with heap := h' }) : wpAny (model prog w) A (Builtin.SmallTypes.nextOrEnd (.ref it)) Q E s := by
  unfold Builtin.SmallTypes.nextOrEnd
  refine wpAny_bind (wpAny_attempt ?_)
  cases t with
  | false => exact wpAny_nextOf_list_item hi ha hx fun h' a b => wpAny_pure (k h' a b)
  | true => exact wpAny_nextOf_tuple_item hi ha hx fun h' a b => wpAny_pure (k h' a b)
theorem nx_end {t : Bool} {it a : Addr} {i : Nat} {xs : Array Value} {Q : Option Value → Shared → Prop} (hh : A.handled = none) (hi : SeqIt t s.heap it a i) (ha : SeqAt t s.heap a xs) (hx : xs[i]? = none)
    (k : ∀ h', Heap.ExtBut it s.heap h' → Q none { s with heap := h' }) : wpAny (model prog w) A (Builtin.SmallTypes.nextOrEnd (.ref it)) Q E s := by
  unfold Builtin.SmallTypes.nextOrEnd
  refine wpAny_bind (wpAny_attempt ?_)
  have fin : ∀ (h' : Heap) (e : Addr), Heap.ExtBut it s.heap h' → (∃ o, h'.get? e = some o ∧ o.cls = .type "StopIteration") →
      wpAny (model prog w) A (do if ← isInstance (.ref e) (.type "StopIteration") then pure none else throw (.ref e)) Q E { s with heap := h' } := fun h' e h1 h2 =>
    wpAny_bind (wpAny_isInstance (T := "StopIteration") (b := true) h2 isSubtype_stop (wpAny_pure (k h' h1)))
  cases t with
  | false => exact wpAny_nextOf_list_end hh hi ha hx fun h' e h1 h2 => fin h' e h1 h2
  | true => exact wpAny_nextOf_tuple_end hh hi ha hx fun h' e h1 h2 => fin h' e h1 h2
end
/-- the cells lie apart -/
structure ZSep (z TI TO i1 i2 a b : Addr) : Prop where
  d : [z, TI, TO, i1, i2].Nodup
  na : a ∉ [z, TO, i1, i2]
  nb : b ∉ [z, TO, i1, i2]
section
variable {prog : Program} {w : World} {A : Around} {E : Value → Shared → Prop} {s : Shared} {z TI TO i1 i2 a b : Addr} {ta tb : Bool} {xs ys : Array Value} {i : Nat}
/-- the turns' state -/
structure ZSt (h : Heap) (z TI TO i1 i2 a b : Addr) (ta tb : Bool) (f0 : Value) (i j : Nat) : Prop where
  z : IsZS h z TI TO f0
  ti : IsTupOf2 h TI (.ref i1) (.ref i2)
  to : ∃ u v, IsTupOf2 h TO u v
  i1 : SeqIt ta h i1 a i
  i2 : SeqIt tb h i2 b j
theorem zs_item {Q : Value → Shared → Prop} {x y : Value} (D : ZSep z TI TO i1 i2 a b) (S : ZSt s.heap z TI TO i1 i2 a b ta tb .none i i) (ha : SeqAt ta s.heap a xs) (hb : SeqAt tb s.heap b ys) (hx : xs[i]? = some x) (hy : ys[i]? = some y)
    (k : ∀ h', ZSt h' z TI TO i1 i2 a b ta tb (rawInt s.heap.objs.size) (i + 1) (i + 1) → IsTupOf2 h' s.heap.objs.size x y → (∀ c o, c ∉ [z, TO, i1, i2] → s.heap.get? c = some o → h'.get? c = some o) → Q (.ref s.heap.objs.size) { s with heap := h' }) :
    wpAny (model prog w) A (Builtin.«zip.__next__» ⟨[.ref z], []⟩) (fun fin s' => ∃ v, fin = .done (.ret v) ∧ Q v s') E s := by
  obtain ⟨hp, g, d, tk, os⟩ := s
  obtain ⟨hz, hti, ⟨u, v, hto⟩, h1, h2⟩ := S
  have hd := D.d
  have hna := D.na
  have hnb := D.nb
  simp only [List.nodup_cons, List.mem_cons, List.not_mem_nil, or_false, not_or] at hd hna hnb
  obtain ⟨⟨zTI, zTO, zi1, zi2⟩, ⟨TITO, TIi1, TIi2⟩, ⟨TOi1, TOi2⟩, i12, -⟩ := hd
  obtain ⟨az, aTO, ai1, ai2⟩ := hna
  obtain ⟨bz, bTO, bi1, bi2⟩ := hnb
  show wpAny _ _ (field (.ref z) 2 >>= _) _ _ _
  refine wpAny_bind (wpAny_field hz rfl (x := .bool true) rfl ?_)
  show wpAny _ _ (field (.ref z) 3 >>= _) _ _ _
  refine wpAny_bind (wpAny_field hz rfl (x := .ref TI) rfl (wpAny_bind (wpAny_seqItems hti rfl ?_)))
  show wpAny _ _ (Builtin.SmallTypes.ownedTupleIsFree (.ref z) >>= _) _ _ _
  unfold Builtin.SmallTypes.ownedTupleIsFree
  refine wpAny_bind (wpAny_bind (wpAny_field hz rfl (x := .none) rfl (wpAny_pure ?_)))
  simp only [if_true]
  refine wpAny_bind (wpAny_rule (wpAny_bind (wpAny_field hz rfl (x := .ref TO) rfl (wpAny_bind (wpAny_setField_rec hz (by simp) fun a0 z0 k0 => ?_)))))
  have k0 : Heap.SameBut z hp a0 := k0
  have z0 : IsZS a0 z TI TO .ellipsis := z0
  have s0 : ∀ c o, c ≠ z → hp.get? c = some o → a0.get? c = some o := fun c o n e => k0.extBut c o n e
  simp only [List.zipIdx_cons, List.zipIdx_nil, List.forIn_cons, List.forIn_nil]
  refine wpAny_bind (wpAny_bind (wpAny_bind (wpAny_onRaise ?_)))
  show wpAny _ _ (Builtin.SmallTypes.nextOrEnd (.ref i1)) _ _ ⟨a0, g, d, tk, os⟩
  refine nx_item (s := ⟨a0, g, d, tk, os⟩) (h1.at' fun o e => s0 _ o (Ne.symm zi1) e) (ha.at' fun o e => s0 _ o az e) hx fun a1 h1' k1 => ?_
  have s1 : ∀ c o, c ≠ z → c ≠ i1 → hp.get? c = some o → a1.get? c = some o := fun c o n m e => Heap.SameBut.extBut k1 c o m (s0 c o n e)
  have t1 : IsTupOf2 a1 TO u v := s1 _ _ (Ne.symm zTO) TOi1 hto
  refine wpAny_bind (wpAny_seqItems (s := ⟨a1, g, d, tk, os⟩) t1 rfl (wpAny_bind (updateSeq_IsTupOf2 (s := ⟨a1, g, d, tk, os⟩) t1 fun a2 t2 k2 => wpAny_bind (wpAny_letGo (wpAny_pure ?_)))))
  have t2 : IsTupOf2 a2 TO x v := t2
  have s2 : ∀ c o, c ≠ z → c ≠ i1 → c ≠ TO → hp.get? c = some o → a2.get? c = some o := fun c o n m l e => Heap.SameBut.extBut k2 c o l (s1 c o n m e)
  refine wpAny_bind (wpAny_bind (wpAny_onRaise ?_))
  show wpAny _ _ (Builtin.SmallTypes.nextOrEnd (.ref i2)) _ _ ⟨a2, g, d, tk, os⟩
  refine nx_item (s := ⟨a2, g, d, tk, os⟩) (h2.at' fun o e => s2 _ o (Ne.symm zi2) (Ne.symm i12) (Ne.symm TOi2) e) (hb.at' fun o e => s2 _ o bz bi1 bTO e) hy fun a3 h2' k3 => ?_
  have t3 : IsTupOf2 a3 TO x v := Heap.SameBut.extBut k3 _ _ TOi2 t2
  refine wpAny_bind (wpAny_seqItems (s := ⟨a3, g, d, tk, os⟩) t3 rfl (wpAny_bind (updateSeq_IsTupOf2 (s := ⟨a3, g, d, tk, os⟩) t3 fun a4 t4 k4 => wpAny_bind (wpAny_letGo (wpAny_pure (wpAny_pure ?_))))))
  have t4 : IsTupOf2 a4 TO x y := t4
  refine wpAny_bind (wpAny_seqItems (s := ⟨a4, g, d, tk, os⟩) t4 rfl (wpAny_bind (wpAny_newTuple ?_)))
  have z4 : IsZS a4 z TI TO .ellipsis := Heap.SameBut.extBut k4 _ _ zTO (Heap.SameBut.extBut k3 _ _ zi2 (Heap.SameBut.extBut k2 _ _ zTO (Heap.SameBut.extBut k1 _ _ zi1 z0)))
  have s4 : ∀ c o, c ≠ z → c ≠ i1 → c ≠ TO → c ≠ i2 → hp.get? c = some o → a4.get? c = some o := fun c o n m l q e => Heap.SameBut.extBut k4 c o l (Heap.SameBut.extBut k3 c o q (s2 c o n m l e))
  have sz : a4.objs.size = hp.objs.size := by rw [k4.1, k3.1, k2.1, k1.1, k0.1]
  have l4 : z < a4.objs.size := Heap.lt_size z4
  show wpAny _ _ (Builtin.SmallTypes.ownedTupleHandOut (.ref z) (.ref a4.objs.size) >>= _) _ _ ⟨a4.push { cls := .type "tuple", data := .seq #[x, y] }, g, d, tk, os⟩
  unfold Builtin.SmallTypes.ownedTupleHandOut
  have z5 : IsZS (a4.push { cls := .type "tuple", data := .seq #[x, y] }) z TI TO .ellipsis := Heap.get?_push_of_some _ z4
  refine wpAny_bind (wpAny_bind (wpAny_setField_rec z5 (by simp) fun a6 z6 k6 => ?_))
  have z6 : IsZS a6 z TI TO (rawInt a4.objs.size) := z6
  refine wpAny_setField_rec z6 (by simp) fun a7 z7 k7 => ?_
  have z7 : IsZS a7 z TI TO (rawInt a4.objs.size) := z7
  have k6 : Heap.SameBut z (a4.push { cls := .type "tuple", data := .seq #[x, y] }) a6 := k6
  have k7 : Heap.SameBut z a6 a7 := k7
  have up : ∀ c o, c ≠ z → a4.get? c = some o → a7.get? c = some o := fun c o n e => k7.extBut c o n (k6.extBut c o n (Heap.get?_push_of_some _ e))
  have new : IsTupOf2 a7 a4.objs.size x y := k7.extBut _ _ (Nat.ne_of_gt l4) (k6.extBut _ _ (Nat.ne_of_gt l4) (Heap.get?_push_size _ rfl))
  refine wpAny_pure ⟨_, rfl, ?_⟩
  show Q (.ref a4.objs.size) ⟨a7, g, d, tk, os⟩
  rw [sz] at new z7 ⊢
  refine k a7 ⟨z7, up _ _ (Ne.symm zTI) (s4 _ _ (Ne.symm zTI) TIi1 TITO TIi2 hti), ⟨x, y, up _ _ (Ne.symm zTO) t4⟩, ?_, ?_⟩ new ?_
  · exact h1'.at' fun o e => up _ o (Ne.symm zi1) (Heap.SameBut.extBut k4 _ o (Ne.symm TOi1) (Heap.SameBut.extBut k3 _ o i12 (Heap.SameBut.extBut k2 _ o (Ne.symm TOi1) e)))
  · exact h2'.at' fun o e => up _ o (Ne.symm zi2) (Heap.SameBut.extBut k4 _ o (Ne.symm TOi2) e)
  · intro c o n e
    simp only [List.mem_cons, List.not_mem_nil, or_false, not_or] at n
    exact up c o n.1 (s4 c o n.1 n.2.2.1 n.2.1 n.2.2.2 e)
theorem zs_end {Q : PySem.Fin → Shared → Prop} (hh : A.handled = none) (D : ZSep z TI TO i1 i2 a b) (S : ZSt s.heap z TI TO i1 i2 a b ta tb .none i i) (ha : SeqAt ta s.heap a xs) (hb : SeqAt tb s.heap b ys) (hx : xs[i]? = none) (hy : ys[i]? = none)
    (k : ∀ h' e, (∀ c o, c ∉ [z, TO, i1, i2] → s.heap.get? c = some o → h'.get? c = some o) → (∃ o, h'.get? e = some o ∧ o.cls = .type "StopIteration") → E (.ref e) { s with heap := h' }) :
    wpAny (model prog w) A (Builtin.«zip.__next__» ⟨[.ref z], []⟩) Q E s := by
  obtain ⟨hp, g, d, tk, os⟩ := s
  obtain ⟨hz, hti, ⟨u, v, hto⟩, h1, h2⟩ := S
  have hd := D.d
  have hna := D.na
  have hnb := D.nb
  simp only [List.nodup_cons, List.mem_cons, List.not_mem_nil, or_false, not_or] at hd hna hnb
  obtain ⟨⟨zTI, zTO, zi1, zi2⟩, ⟨TITO, TIi1, TIi2⟩, ⟨TOi1, TOi2⟩, i12, -⟩ := hd
  obtain ⟨az, aTO, ai1, ai2⟩ := hna
  obtain ⟨bz, bTO, bi1, bi2⟩ := hnb
  show wpAny _ _ (field (.ref z) 2 >>= _) _ _ _
  refine wpAny_bind (wpAny_field hz rfl (x := .bool true) rfl ?_)
  show wpAny _ _ (field (.ref z) 3 >>= _) _ _ _
  refine wpAny_bind (wpAny_field hz rfl (x := .ref TI) rfl (wpAny_bind (wpAny_seqItems hti rfl ?_)))
  show wpAny _ _ (Builtin.SmallTypes.ownedTupleIsFree (.ref z) >>= _) _ _ _
  unfold Builtin.SmallTypes.ownedTupleIsFree
  refine wpAny_bind (wpAny_bind (wpAny_field hz rfl (x := .none) rfl (wpAny_pure ?_)))
  simp only [if_true]
  refine wpAny_bind (wpAny_rule (wpAny_bind (wpAny_field hz rfl (x := .ref TO) rfl (wpAny_bind (wpAny_setField_rec hz (by simp) fun a0 z0 k0 => ?_)))))
  have k0 : Heap.SameBut z hp a0 := k0
  have z0 : IsZS a0 z TI TO .ellipsis := z0
  have s0 : ∀ c o, c ≠ z → hp.get? c = some o → a0.get? c = some o := fun c o n e => k0.extBut c o n e
  simp only [List.zipIdx_cons, List.zipIdx_nil, List.forIn_cons, List.forIn_nil]
  refine wpAny_bind (wpAny_bind (wpAny_bind (wpAny_onRaise ?_)))
  show wpAny _ _ (Builtin.SmallTypes.nextOrEnd (.ref i1)) _ _ ⟨a0, g, d, tk, os⟩
  refine nx_end (s := ⟨a0, g, d, tk, os⟩) hh (h1.at' fun o e => s0 _ o (Ne.symm zi1) e) (ha.at' fun o e => s0 _ o az e) hx fun a1 k1 => ?_
  have k1 : Heap.ExtBut i1 a0 a1 := k1
  have z1 : IsZS a1 z TI TO .ellipsis := k1 _ _ zi1 z0
  refine wpAny_bind (wpAny_setField_rec (s := ⟨a1, g, d, tk, os⟩) z1 (by simp) fun a2 z2 k2 => ?_)
  have k2 : Heap.SameBut z a1 a2 := k2
  refine wpAny_bind ?_
  show wpAny _ _ ((forIn [(Value.ref i2, 1)] PUnit.unit _ : Sem PUnit) >>= _) _ _ _
  simp only [List.forIn_cons, List.forIn_nil]
  refine wpAny_bind (wpAny_bind (wpAny_bind (nx_end (s := ⟨a2, g, d, tk, os⟩) hh (h2.at' fun o e => k2.extBut _ o (Ne.symm zi2) (k1 _ o (Ne.symm i12) (s0 _ o (Ne.symm zi2) e))) (hb.at' fun o e => k2.extBut _ o bz (k1 _ o bi1 (s0 _ o bz e))) hy fun a3 k3 => ?_)))
  have k3 : Heap.ExtBut i2 a2 a3 := k3
  refine wpAny_pure (wpAny_pure (wpAny_bind (wpAny_rule ?_)))
  refine DVw.raise_stop (s := ⟨a3, g, d, tk, os⟩) hh fun a4 e oe k4 e1 e2 => ?_
  refine k a4 e (fun c o n q => ?_) ⟨oe, e1, e2⟩
  simp only [List.mem_cons, List.not_mem_nil, or_false, not_or] at n
  exact k4 c o (k3 c o n.2.2.2 (k2.extBut c o n.1 (k1 c o n.2.2.1 (s0 c o n.1 q))))
theorem zs_next {Q : Option Value → Shared → Prop} {x y : Value} (D : ZSep z TI TO i1 i2 a b) (S : ZSt s.heap z TI TO i1 i2 a b ta tb .none i i) (ha : SeqAt ta s.heap a xs) (hb : SeqAt tb s.heap b ys) (hx : xs[i]? = some x) (hy : ys[i]? = some y)
    (k : ∀ h', ZSt h' z TI TO i1 i2 a b ta tb (rawInt s.heap.objs.size) (i + 1) (i + 1) → IsTupOf2 h' s.heap.objs.size x y → (∀ c o, c ∉ [z, TO, i1, i2] → s.heap.get? c = some o → h'.get? c = some o) → Q (some (.ref s.heap.objs.size)) { s with heap := h' }) :
    wpAny (model prog w) A (pyNext (.ref z)) Q E s := by
  have T : s.TypeIs (.ref z) "zip" := ⟨_, S.z, rfl⟩
  unfold pyNext
  refine wpAny_bind (wpAny_attempt (wpAny_callSpecial?_slot (name := Str.ofString "__next__") T F.slot_zip_next ?_))
  exact wpAny_call_entry F.slot_zip_next T F.entry_zip_next (zs_item D S ha hb hx hy fun h' a b c => wpAny_pure (k h' a b c)) (F.args_zip_next_1 _)
theorem zs_over {Q : Option Value → Shared → Prop} (hh : A.handled = none) (D : ZSep z TI TO i1 i2 a b) (S : ZSt s.heap z TI TO i1 i2 a b ta tb .none i i) (ha : SeqAt ta s.heap a xs) (hb : SeqAt tb s.heap b ys) (hx : xs[i]? = none) (hy : ys[i]? = none)
    (k : ∀ h', (∀ c o, c ∉ [z, TO, i1, i2] → s.heap.get? c = some o → h'.get? c = some o) → Q none { s with heap := h' }) :
    wpAny (model prog w) A (pyNext (.ref z)) Q E s := by
  have T : s.TypeIs (.ref z) "zip" := ⟨_, S.z, rfl⟩
  unfold pyNext
  refine wpAny_bind (wpAny_attempt (wpAny_callSpecial?_slot (name := Str.ofString "__next__") T F.slot_zip_next ?_))
  refine wpAny_call_entry F.slot_zip_next T F.entry_zip_next (zs_end hh D S ha hb hx hy fun h' e c st => ?_) (F.args_zip_next_1 _)
  exact wpAny_bind (wpAny_isInstance (T := "StopIteration") (b := true) st isSubtype_stop (wpAny_pure (k h' c)))
theorem zs_go {elts : List Expr} {kk : Nat} {pos : Pos} {T : Addr} {Q : Unit → Shared → Prop} (hz : IsZS s.heap z TI TO (rawInt T)) (k : ∀ h', IsZS h' z TI TO .none → Heap.SameBut z s.heap h' → Q () { s with heap := h' }) :
    wpAny (model prog w) A (letOwnedTupleGo (.Tuple elts kk pos) (.ref z) (.ref T)) Q E s := by
  unfold letOwnedTupleGo
  refine wpAny_bind (wpAny_load hz ?_)
  show wpAny _ _ (if (["enumerate", "zip", "dict_itemiterator", "dict_reverseitemiterator", "odict_iterator", "itertools.zip_longest", "itertools.pairwise"].contains "zip" && (some (rawInt T) == some (rawInt T))) = true then _ else _) Q E s
  rw [if_pos (by simp)]
  refine wpAny_bind (wpAny_rule ?_)
  show wpAny _ _ (setField (.ref z) 0 .none) Q E s
  exact wpAny_setField_rec hz (by simp) fun h' a b => k h' a b
theorem zs_iter {f0 : Value} {Q : Value → Shared → Prop} (hz : IsZS s.heap z TI TO f0) (k : Q (.ref z) s) : wpAny (model prog w) A (pyIter (.ref z)) Q E s := by
  have T : s.TypeIs (.ref z) "zip" := ⟨_, hz, rfl⟩
  refine wpAny_pyIter_slot T F.slot_zip_iter (wpAny_call_entry F.slot_zip_iter T F.entry_zip_iter ?_ (F.args_zip_iter_1 _))
  show wpAny _ _ (ret (.ref z)) _ _ s
  exact wpAny_pure ⟨_, rfl, "zip", _, T, F.slot_zip_next.lookup, k⟩
end
theorem ZSt.objs {h : Heap} {z TI TO i1 i2 a b : Addr} {ta tb : Bool} {f0 : Value} {i j : Nat} (S : ZSt h z TI TO i1 i2 a b ta tb f0 i j) {c : Addr} (hc : c ∈ [z, TI, TO, i1, i2]) : ∃ o, h.get? c = some o ∧ ∀ v, o.data ≠ .cell v := by
  have it : ∀ {t : Bool} {it a : Addr} {i : Nat}, SeqIt t h it a i → ∃ o, h.get? it = some o ∧ ∀ v, o.data ≠ .cell v := fun {t it a i} q => by
    cases t
    · obtain ⟨o, e, _, d⟩ := (q : h.IsListIter it a i)
      exact ⟨o, e, fun v x => by rw [d] at x; cases x⟩
    · obtain ⟨o, e, _, d⟩ := (q : h.IsTupleIter it a i)
      exact ⟨o, e, fun v x => by rw [d] at x; cases x⟩
  simp only [List.mem_cons, List.not_mem_nil, or_false] at hc
  rcases hc with rfl | rfl | rfl | rfl | rfl
  · exact ⟨_, S.z, nofun⟩
  · exact ⟨_, S.ti, nofun⟩
  · obtain ⟨u, v, e⟩ := S.to
    exact ⟨_, e, nofun⟩
  · exact it S.i1
  · exact it S.i2
def SqB (t : Bool) (K : PySem.W.Frag) (H : Hp) (a : Addr) (xs : List V) : Prop := if t then SqT K H a xs else SqL K H a xs
def ItS (K : PySem.W.Frag) (ta tb : Bool) (a b : Addr) : It :=
  ⟨fun i H => ∃ (xs ys : List V) (x y : V), SqB ta K H a xs ∧ SqB tb K H b ys ∧ xs[i]? = some x ∧ ys[i]? = some y,
    fun i H v H' => ∃ T x y, v = .ref T ∧ H T = none ∧ H' = upd H T (.tup [x, y]) ∧ (∀ xs, SqB ta K H a xs → xs[i]? = some x) ∧ ∀ ys, SqB tb K H b ys → ys[i]? = some y,
    fun i H => ∃ xs ys : List V, SqB ta K H a xs ∧ SqB tb K H b ys ∧ xs.length = i ∧ ys.length = i⟩
theorem sq_get {X : Cx} {pins : List (Addr × Obj)} {σ : L2.St} {H : Hp} {s : Shared} {t : Bool} {a : Addr} {xs : List V} (I : Inv X pins σ H s) (h : SqB t X.K H a xs) : ∃ its : List Value, Vals xs its ∧ SeqAt t s.heap a its.toArray := by
  cases t
  · obtain ⟨its, r, p, _⟩ := I.list h
    exact ⟨its, r, p.isList⟩
  · obtain ⟨its, r, p, _⟩ := I.tuple h
    exact ⟨its, r, p⟩
theorem sq_inj {X : Cx} {pins : List (Addr × Obj)} {σ : L2.St} {H : Hp} {s : Shared} {t : Bool} {a : Addr} {xs ys : List V} (I : Inv X pins σ H s) (h : SqB t X.K H a xs) (g : SqB t X.K H a ys) : xs = ys := by
  cases t
  · exact I.list_inj h g
  · exact I.tuple_inj h g
theorem sub4 {z TI TO i1 i2 c : Addr} (h : c ∉ [z, TI, TO, i1, i2]) : c ∉ [z, TO, i1, i2] := by
  simp only [List.mem_cons, List.not_mem_nil, or_false, not_or] at h ⊢
  exact ⟨h.1, h.2.2.1, h.2.2.2⟩
theorem turn_zs {P : Program} {w : World} {K : PySem.W.Frag} {elts : List Expr} {kk : Nat} {tpos : Pos} {ta tb : Bool} {a b z TI TO i1 i2 : Addr} (D : ZSep z TI TO i1 i2 a b) :
    Turn P w K (.Tuple elts kk tpos) (ItS K ta tb a b) [z, TI, TO, i1, i2] z (fun i h => ZSt h z TI TO i1 i2 a b ta tb .none i i) where
  mem := by simp
  obj := fun i h st c hc => st.objs hc
  keep := fun i h h' st k => ⟨k z (by simp) _ st.z, k TI (by simp) _ st.ti, st.to.elim fun u q => q.elim fun v e => ⟨u, v, k TO (by simp) _ e⟩, st.i1.at' fun o e => k i1 (by simp) o e, st.i2.at' fun o e => k i2 (by simp) o e⟩
  item := by
    intro X hP hw hK hc i pins s σ H E I hf st hg
    subst hP hw hK
    obtain ⟨xs, ys, x, y, qx, qy, hx, hy⟩ := hg
    obtain ⟨us, rx, px⟩ := sq_get I qx
    obtain ⟨ws, ry, py⟩ := sq_get I qy
    obtain ⟨u, hu, ru⟩ := rx.get hx
    obtain ⟨u2, hu2, ru2⟩ := ry.get hy
    have lz : z < s.heap.objs.size := Heap.lt_size st.z
    refine zs_next D st px py (x := u) (y := u2) (by simpa using hu) (by simpa using hu2) fun h1 st1 new1 k1 => ⟨_, rfl, ?_⟩
    refine zs_go (s := { s with heap := h1 }) st1.z fun h2 z2 k2 => ?_
    have k2 : Heap.SameBut z h1 h2 := k2
    have all : ∀ c o, c ∉ [z, TI, TO, i1, i2] → s.heap.get? c = some o → h2.get? c = some o := fun c o n e =>
      k2.extBut c o (fun q => n (by simp [q])) (k1 c o (sub4 n) e)
    have new2 : h2.get? s.heap.objs.size = some { cls := .type "tuple", data := .seq #[u, u2] } := k2.extBut _ _ (Nat.ne_of_gt lz) new1
    have ok : ObjOk X.prog X.w (upd H s.heap.objs.size (.tup [x, y])) h2 s.heap.objs.size (.tup [x, y]) :=
      ⟨by show 2 ≤ sizeLine; decide, [u, u2], .cons ru (.cons ru2 .nil), ⟨_, new2, rfl, _, rfl⟩⟩
    have J : Inv X pins σ (upd H s.heap.objs.size (.tup [x, y])) { s with heap := h2 } := I.turnedNew (t' := s.toks) (ch := [z, TI, TO, i1, i2]) all hf (Nat.le_refl _) ok
    have hd := D.d
    simp only [List.nodup_cons, List.mem_cons, List.not_mem_nil, or_false, not_or] at hd
    refine ⟨.ref s.heap.objs.size, _, J, rfl, ⟨_, x, y, rfl, I.hok.fresh (Nat.le_refl _), rfl, fun l hl => by rw [sq_inj I hl qx]; exact hx, fun l hl => by rw [sq_inj I hl qy]; exact hy⟩, ⟨z2, ?_, ?_, ?_, ?_⟩, fun c hcm => ?_⟩
    · exact k2.extBut _ _ (Ne.symm hd.1.1) st1.ti
    · obtain ⟨p, q, e⟩ := st1.to
      exact ⟨p, q, k2.extBut _ _ (Ne.symm hd.1.2.1) e⟩
    · exact st1.i1.at' fun o e => k2.extBut _ o (Ne.symm hd.1.2.2.1) e
    · exact st1.i2.at' fun o e => k2.extBut _ o (Ne.symm hd.1.2.2.2) e
    · obtain ⟨o, e, _⟩ := st.objs hcm
      rw [upd_ne (Nat.ne_of_lt (Heap.lt_size e))]
      exact (hf c hcm).1
  done := by
    intro X hP hw hK hc i pins s σ H E I hf st hg
    subst hP hw hK
    obtain ⟨xs, ys, qx, qy, hx, hy⟩ := hg
    obtain ⟨us, rx, px⟩ := sq_get I qx
    obtain ⟨ws, ry, py⟩ := sq_get I qy
    have l1 := rx.length
    have l2 := ry.length
    exact zs_over (I.ok.hd hc) D st px py (by simp; omega) (by simp; omega) fun h' k => ⟨rfl, I.turnedL (t' := s.toks) (ch := [z, TI, TO, i1, i2]) (fun c o n e => k c o (sub4 n) e) hf⟩
  self := fun A i s Q E st h => zs_iter st.z h
/-- what it goes over -/
def iZipS (K : PySem.W.Frag) (ta : TA) : TI := fun σ H R => ta σ H fun vs H1 => ∃ a b t1 t2 xs ys, vs = [.ref a, .ref b] ∧ SqB t1 K H1 a xs ∧ SqB t2 K H1 b ys ∧ R (ItS K t1 t2 a b) H1
theorem seqAt_there {t : Bool} {h : Heap} {a : Addr} {xs : Array Value} (x : SeqAt t h a xs) : a < h.objs.size := by
  cases t
  · obtain ⟨o, e, _⟩ := (x : h.IsList a xs)
    exact Heap.lt_size e
  · obtain ⟨o, e, _⟩ := (x : h.IsTuple a xs)
    exact Heap.lt_size e
/-- how one of the two begins -/
theorem begins_seq (t : Bool) (a : Addr) (xs : Array Value) : ∃ o, Begins (.ref a) o (fun h => SeqAt t h a xs) ∧ ∀ (h : Heap) (it : Addr), h.get? it = some o → SeqIt t h it a 0 := by
  cases t
  · exact ⟨_, begins_list a xs, fun h it e => ⟨_, e, rfl, rfl⟩⟩
  · exact ⟨_, begins_tuple a xs, fun h it e => ⟨_, e, rfl, rfl⟩⟩
theorem far5 {n a : Nat} (h : a < n) : a ∉ [n + 4, n + 3, n, n + 1] := by
  simp
  omega
theorem near5 {n c : Nat} (h : c ∈ [n + 4, n + 2, n + 3, n, n + 1]) : n ≤ c := by
  simp at h
  omega
theorem nodup5 (n : Nat) : [n + 4, n + 2, n + 3, n, n + 1].Nodup := by simp
theorem pi_zipS {X : Cx} {e e2 : Expr} {ta : TA} {p pos tpos kp vp : Pos} {ck : Nat} {elts : List Expr} {kk : Nat} (hg : Gl X "zip") (hm : X.mg "zip" = none) (ha : PA X [e, e2] ta)
    (hs : starEach [e, e2] X.env = (false, eval e X.env) :: starEach [e2] X.env) (hpl : ((backTo pos (starEach [e, e2] X.env)).any (·.1) || (backToKw pos (keywordEach [⟨some (Str.ofString "strict"), .Constant (.bool true) ck vp, kp⟩] X.env)).any (·.1.isNone)) = false) :
    PI X (.Tuple elts kk tpos) (.Call (.Name "zip" p) [e, e2] [⟨some (Str.ofString "strict"), .Constant (.bool true) ck vp, kp⟩] pos) (iZipS X.K ta) := by
  refine ⟨fun pins s σ H R I h => ?_⟩
  refine wpAny_Call_Name_kw (ld_blt I hg hm PyProof.Rows.boot_zip ?_)
  have hkw : PK X [⟨some (Str.ofString "strict"), .Constant (.bool true) ck vp, kp⟩] (tCons (tC (.bl true)) tNil) := pk_cons pe_bl pk_nil
  refine PySem.W.callWith_of (P := fun _ => True) hpl (fun _ _ => ⟨.machine, .inr (.inl rfl), .of_pure rfl⟩) (PyProof.Rows.evalArgs_kw2 rfl (thn (ha.run pos pins s σ H _ I h) fun us s1 ⟨vs, H1, I1, r1, q1⟩ => ?_) hs)
  refine thn (hkw.run pos pins s1 σ H1 (fun zs H2 => zs = [.bl true] ∧ H2 = H1) I1 ⟨rfl, rfl⟩) fun ws s2 ⟨zs, H2, I2, rz, e1, e2⟩ => ⟨trivial, ?_⟩
  obtain ⟨a, b, t1, t2, xs, ys, rfl, qx, qy, q⟩ := q1
  subst e1 e2
  obtain ⟨u, u2, rfl, r1a, r1b⟩ := vals2 r1
  cases (show u = Value.ref a from r1a)
  cases (show u2 = Value.ref b from r1b)
  cases rz with
  | cons rb rn =>
    cases rn
    cases rb
    obtain ⟨its, rx, px⟩ := sq_get I2 qx
    obtain ⟨its2, ry, py⟩ := sq_get I2 qy
    obtain ⟨o1, b1, i1⟩ := begins_seq t1 a its.toArray
    obtain ⟨o2, b2, i2⟩ := begins_seq t2 b its2.toArray
    have la := seqAt_there px
    have lb := seqAt_there py
    show wpAny _ _ (call (.type "zip") [.ref a, .ref b] [(Str.ofString "strict", .bool true)]) _ _ s2
    refine call_zipS b1 b2 px py fun h' z1 z2 z3 z4 z5 k => zs_iter z1 ?_
    have I3 : Inv X pins σ H2 { s2 with heap := h' } := I2.kept (t' := s2.toks) k
    refine ⟨s2.heap.objs.size + 4, [s2.heap.objs.size + 4, s2.heap.objs.size + 2, s2.heap.objs.size + 3, s2.heap.objs.size, s2.heap.objs.size + 1], _, _, H2, rfl, I3, turn_zs ⟨?_, ?_, ?_⟩, ⟨z1, z2, ⟨_, _, z3⟩, i1 _ _ z4, i2 _ _ z5⟩, fun c hc => ?_, q⟩
    · exact nodup5 _
    · exact far5 la
    · exact far5 lb
    · have hle : s2.heap.objs.size ≤ c := near5 hc
      exact I2.fpOk hle (I2.hok.fresh hle)
end Tw
end

section
set_option linter.all false
set_option autoImplicit false
set_option maxRecDepth 100000
set_option maxHeartbeats 4000000
/-! What loops and comprehensions go over. -/
namespace Tw
open PySem L2 PyProof.Rows RZ

/-- J goes over xs while the sources lie as they should -/
structure IterOk (K : PySem.W.Frag) (J : It) (xs : List D) (P : List Addr → (Addr → Prop) → Hp → Prop) : Prop where
  go : ∀ (i : Nat) ρ M H, i < xs.length → P ρ M H → J.go i H
  stop : ∀ ρ M H, P ρ M H → J.stop xs.length H
  yld : ∀ (i : Nat) ρ M H x H', i < xs.length → Tracked M H → P ρ M H → J.yld i H x H' → Grow H H' ∧ ∃ d, xs[i]? = some d ∧ Rep K ρ M H' d x
def TIt (K : PySem.W.Frag) (G : Tab) (cal : Cal) (k : Ik) (es : List E) : TI := fun σ H R => ∃ ρ F s ds s1 xs, Sim K ρ F s σ H ∧ evEs G cal es s = .ok ds s1 ∧ itemsOf k (reDs es ds s1) = some xs ∧
  ∀ ρ1 ws H1, Sim K ρ1 F s1 σ H1 → Go ρ F s σ H ρ1 s1 σ H1 → Live s s1 → Ress K ρ1 F s1 σ H1 es ds ws → ∀ J, IterOk K J xs (fun ρ M H => Rep0s K ρ M H (reDs es ds s1) ws) → R J H1
section
variable {K : PySem.W.Frag} {ρ : List Addr} {M : Addr → Prop} {H : Hp}
theorem Sd.uniq {a : Addr} {xs ys : List V} (h : Rd H a (.lst xs)) (h' : Rd H a (.lst ys)) : xs = ys := by
  rcases h with h | ⟨o, h⟩ <;> rcases h' with h' | ⟨o', h'⟩ <;> rw [h] at h' <;> cases h' <;> rfl
theorem ok_list {a : Addr} {ds : List D} : IterOk K (Itl K a) ds (fun ρ M H => Rep0s K ρ M H [.lst ds] [.ref a]) := by
  refine ⟨fun i ρ M H hi h => ?_, fun ρ M H h => ?_, fun i ρ M H x H' hi _ h y => ?_⟩
  · obtain ⟨v, e, r⟩ := h.one
    cases e
    obtain ⟨b, vs, e, h1, q⟩ := r.lstI
    cases e
    have hl := q.length
    exact ⟨vs, vs[i]'(by omega), h1, by simp⟩
  · obtain ⟨v, e, r⟩ := h.one
    cases e
    obtain ⟨b, vs, e, h1, q⟩ := r.lstI
    cases e
    exact ⟨vs, h1, Nat.le_of_eq q.length.symm⟩
  · obtain ⟨v, e, r⟩ := h.one
    cases e
    obtain ⟨b, vs, e, h1, q⟩ := r.lstI
    cases e
    obtain ⟨rfl, y⟩ := y
    obtain ⟨d, hd, rd⟩ := q.get' (y vs h1)
    exact ⟨.refl _, d, hd, rd⟩
theorem ok_tup {a : Addr} {ds : List D} : IterOk K (Itt K a) ds (fun ρ M H => Rep0s K ρ M H [.tup ds] [.ref a]) := by
  refine ⟨fun i ρ M H hi h => ?_, fun ρ M H h => ?_, fun i ρ M H x H' hi _ h y => ?_⟩
  · obtain ⟨v, e, r⟩ := h.one
    cases e
    obtain ⟨b, vs, e, h1, q⟩ := r.tupI
    cases e
    have hl := q.length
    exact ⟨vs, vs[i]'(by omega), h1, by simp⟩
  · obtain ⟨v, e, r⟩ := h.one
    cases e
    obtain ⟨b, vs, e, h1, q⟩ := r.tupI
    cases e
    exact ⟨vs, h1, Nat.le_of_eq q.length.symm⟩
  · obtain ⟨v, e, r⟩ := h.one
    cases e
    obtain ⟨b, vs, e, h1, q⟩ := r.tupI
    cases e
    obtain ⟨rfl, y⟩ := y
    obtain ⟨d, hd, rd⟩ := q.get' (y vs h1)
    exact ⟨.refl _, d, hd, rd⟩
theorem strOk_one {z : List Nat} (h : strOk z = true) {i c : Nat} (e : z[i]? = some c) : strOk [c] = true := by
  obtain ⟨o1, o2⟩ := Bool.and_eq_true_iff.mp h
  have := List.all_eq_true.mp o2 c (List.mem_of_getElem? e)
  show (decide ((1 : Nat) ≤ SZ) && [c].all _) = true
  rw [decide_eq_true (by decide), List.all_cons, this]
  rfl
theorem ok_str {z : List Nat} {P : List Addr → (Addr → Prop) → Hp → Prop} (hz : strOk z = true) : IterOk K (Its ⟨z.toArray⟩) (z.map fun c => .str [c]) P := by
  refine ⟨fun i ρ M H hi h => ?_, fun ρ M H h => ?_, fun i ρ M H x H' hi _ h y => ?_⟩
  · show i < z.toArray.size
    simpa using hi
  · show z.toArray.size ≤ _
    simp
  · obtain ⟨rfl, c, hc, rfl⟩ := y
    have hc : z[i]? = some c := by simpa using hc
    exact ⟨.refl _, .str [c], by simp [hc], .str [c] (strOk_one hz hc)⟩
theorem ok_rng {lo hi : Int} {P : List Addr → (Addr → Prop) → Hp → Prop} : IterOk K (Itr lo (hi - lo).toNat) (rngL lo hi) P := by
  have hl : (rngL lo hi).length = (hi - lo).toNat := by unfold rngL; simp
  refine ⟨fun i ρ M H hi h => ?_, fun ρ M H h => ?_, fun i ρ M H x H' hi _ h y => ?_⟩
  · rw [hl] at hi; exact hi
  · rw [hl]; exact Nat.le_refl _
  · rw [hl] at hi
    obtain ⟨rfl, rfl⟩ := y
    exact ⟨.refl _, .int (lo + (i : Int)), by unfold rngL; simp [hi], .int _⟩
theorem ok_rngDn {lo hi : Int} {P : List Addr → (Addr → Prop) → Hp → Prop} : IterOk K (Itc lo (-1) (lo - hi).toNat) (rngDn lo hi) P := by
  have hl : (rngDn lo hi).length = (lo - hi).toNat := by unfold rngDn; simp
  refine ⟨fun i ρ M H hi h => ?_, fun ρ M H h => ?_, fun i ρ M H x H' hi _ h y => ?_⟩
  · rw [hl] at hi; exact hi
  · rw [hl]; exact Nat.le_refl _
  · rw [hl] at hi
    obtain ⟨rfl, rfl⟩ := y
    exact ⟨.refl _, .int (lo + (i : Int) * -1), by unfold rngDn; simp [hi], .int _⟩
theorem enumL_get : ∀ (ds : List D) (k : Int) (i : Nat) (d : D), ds[i]? = some d → (enumL k ds)[i]? = some (.tup [.int (k + (i : Int)), d])
  | [], _, _, _, h => by simp at h
  | e :: ds, k, 0, d, h => by simp at h; subst h; simp [enumL]
  | e :: ds, k, i + 1, d, h => by
    have := enumL_get ds (k + 1) i d (by simpa using h)
    have e1 : k + ((i + 1 : Nat) : Int) = k + 1 + (i : Int) := by omega
    rw [e1]
    simpa [enumL] using this
theorem enumL_len : ∀ (ds : List D) (k : Int), (enumL k ds).length = ds.length
  | [], _ => rfl
  | e :: ds, k => by simp [enumL, enumL_len ds]
theorem zipD_get : ∀ (xs ys : List D) (i : Nat) (x y : D), xs[i]? = some x → ys[i]? = some y → (zipD xs ys)[i]? = some (.tup [x, y])
  | [], _, _, _, _, h, _ => by simp at h
  | _ :: _, [], _, _, _, _, h => by simp at h
  | a :: xs, b :: ys, 0, x, y, h, h' => by simp at h h'; subst h h'; simp [zipD]
  | a :: xs, b :: ys, i + 1, x, y, h, h' => by
    have := zipD_get xs ys i x y (by simpa using h) (by simpa using h')
    simpa [zipD] using this
theorem zipD_len : ∀ (xs ys : List D), (zipD xs ys).length = min xs.length ys.length
  | [], ys => by simp [zipD]
  | _ :: _, [] => by simp [zipD]
  | a :: xs, b :: ys => by
    simp only [zipD, List.length_cons, zipD_len xs ys]
    omega
/-- a new pair -/
theorem pair_rep {T : Addr} {d e : D} {x y : V} (t : Tracked M H) (h : H T = none) (r : Rep K ρ M H d x) (q : Rep K ρ M H e y) : Grow H (upd H T (.tup [x, y])) ∧ Rep K ρ M (upd H T (.tup [x, y])) (.tup [d, e]) (.ref T) :=
  ⟨.upd h, .tup ⟨.inl upd_same, t.no h⟩ (.cons (r.keep ((Grow.upd h).keep M)) (.cons (q.keep ((Grow.upd h).keep M)) .nil))⟩
theorem ok_enum {a : Addr} {ds : List D} : IterOk K (Ite K a) (enumL 0 ds) (fun ρ M H => Rep0s K ρ M H [.lst ds] [.ref a]) := by
  refine ⟨fun i ρ M H hi h => ?_, fun ρ M H h => ?_, fun i ρ M H x H' hi t h y => ?_⟩
  · obtain ⟨v, e, r⟩ := h.one
    cases e
    obtain ⟨b, vs, e, h1, q⟩ := r.lstI
    cases e
    have hl := q.length
    rw [enumL_len] at hi
    exact ⟨vs, vs[i]'(by omega), h1, by simp⟩
  · obtain ⟨v, e, r⟩ := h.one
    cases e
    obtain ⟨b, vs, e, h1, q⟩ := r.lstI
    cases e
    rw [enumL_len]
    exact ⟨vs, h1, Nat.le_of_eq q.length.symm⟩
  · obtain ⟨v, e, r⟩ := h.one
    cases e
    obtain ⟨b, vs, e, h1, q⟩ := r.lstI
    cases e
    obtain ⟨T, x, rfl, hT, rfl, y⟩ := y
    obtain ⟨d, hd, rd⟩ := q.get' (y vs h1)
    obtain ⟨g, r2⟩ := pair_rep t hT (.int (i : Int)) rd
    refine ⟨g, _, enumL_get ds 0 i d hd, ?_⟩
    rw [Int.zero_add]
    exact r2
theorem ok_enumT {a : Addr} {ds : List D} : IterOk K (IteT K a) (enumL 0 ds) (fun ρ M H => Rep0s K ρ M H [.tup ds] [.ref a]) := by
  refine ⟨fun i ρ M H hi h => ?_, fun ρ M H h => ?_, fun i ρ M H x H' hi t h y => ?_⟩
  · obtain ⟨v, e, r⟩ := h.one
    cases e
    obtain ⟨b, vs, e, h1, q⟩ := r.tupI
    cases e
    have hl := q.length
    rw [enumL_len] at hi
    exact ⟨vs, vs[i]'(by omega), h1, by simp⟩
  · obtain ⟨v, e, r⟩ := h.one
    cases e
    obtain ⟨b, vs, e, h1, q⟩ := r.tupI
    cases e
    rw [enumL_len]
    exact ⟨vs, h1, q.length.symm⟩
  · obtain ⟨v, e, r⟩ := h.one
    cases e
    obtain ⟨b, vs, e, h1, q⟩ := r.tupI
    cases e
    obtain ⟨T, x, rfl, hT, rfl, y⟩ := y
    obtain ⟨d, hd, rd⟩ := q.get' (y vs h1)
    obtain ⟨g, r2⟩ := pair_rep t hT (.int (i : Int)) rd
    refine ⟨g, _, enumL_get ds 0 i d hd, ?_⟩
    rw [Int.zero_add]
    exact r2
theorem ok_zip {a b : Addr} {xs ys : List D} : IterOk K (Itz K a b) (zipD xs ys) (fun ρ M H => Rep0s K ρ M H [.lst xs, .lst ys] [.ref a, .ref b]) := by
  refine ⟨fun i ρ M H hi h => ?_, fun ρ M H h => ?_, fun i ρ M H x H' hi t h y => ?_⟩
  · obtain ⟨v, w, e, r, r'⟩ := h.two
    cases e
    obtain ⟨b, vs, e, h1, q⟩ := r.lstI
    obtain ⟨b', vs', e', h1', q'⟩ := r'.lstI
    cases e
    cases e'
    have hl := q.length
    have hl' := q'.length
    rw [zipD_len] at hi
    exact ⟨vs, vs', vs[i]'(by omega), vs'[i]'(by omega), h1, h1', by simp, by simp⟩
  · obtain ⟨v, w, e, r, r'⟩ := h.two
    cases e
    obtain ⟨b, vs, e, h1, q⟩ := r.lstI
    obtain ⟨b', vs', e', h1', q'⟩ := r'.lstI
    cases e
    cases e'
    have hl := q.length
    have hl' := q'.length
    rw [zipD_len]
    exact ⟨vs, vs', h1, h1', by omega⟩
  · obtain ⟨v, w, e, r, r'⟩ := h.two
    cases e
    obtain ⟨b, vs, e, h1, q⟩ := r.lstI
    obtain ⟨b', vs', e', h1', q'⟩ := r'.lstI
    cases e
    cases e'
    obtain ⟨T, x, z, rfl, hT, rfl, y, y'⟩ := y
    obtain ⟨d, hd, rd⟩ := q.get' (y vs h1)
    obtain ⟨d', hd', rd'⟩ := q'.get' (y' vs' h1')
    obtain ⟨g, r2⟩ := pair_rep t hT rd rd'
    exact ⟨g, _, zipD_get xs ys i d d' hd hd', r2⟩
def isT : D → Bool
  | .tup _ => true
  | _ => false
theorem seq_rep {ρ : List Addr} {M : Addr → Prop} {H : Hp} {d : D} {ds : List D} {v : V} (h : seqD d = some ds) (r : Rep0 K ρ M H d v) : ∃ a vs, v = .ref a ∧ SqB (isT d) K H a vs ∧ Reps K ρ M H ds vs := by
  cases d <;> cases h
  · obtain ⟨a, vs, rfl, e, q⟩ := r.tupI
    exact ⟨a, vs, rfl, e, q⟩
  · obtain ⟨a, vs, rfl, e, q⟩ := r.lstI
    exact ⟨a, vs, rfl, e, q⟩
theorem ok_zipS {a b : Addr} {c1 c2 : D} {xs ys : List D} (s1 : seqD c1 = some xs) (s2 : seqD c2 = some ys) (hl : xs.length = ys.length) : IterOk K (ItS K (isT c1) (isT c2) a b) (zipD xs ys) (fun ρ M H => Rep0s K ρ M H [c1, c2] [.ref a, .ref b]) := by
  refine ⟨fun i ρ M H hi h => ?_, fun ρ M H h => ?_, fun i ρ M H x H' hi t h y => ?_⟩
  all_goals
    obtain ⟨v, w, e, r, r'⟩ := h.two
    cases e
    obtain ⟨b1, vs, e, h1, q⟩ := seq_rep s1 r
    obtain ⟨b2, vs', e', h1', q'⟩ := seq_rep s2 r'
    cases e
    cases e'
    have l1 := q.length
    have l2 := q'.length
    have l3 := zipD_len xs ys
  · rw [l3] at hi
    exact ⟨vs, vs', vs[i]'(by omega), vs'[i]'(by omega), h1, h1', by simp, by simp⟩
  · exact ⟨vs, vs', h1, h1', by omega, by omega⟩
  · obtain ⟨T, x, z, rfl, hT, rfl, y, y'⟩ := y
    obtain ⟨d, hd, rd⟩ := q.get' (y vs h1)
    obtain ⟨d', hd', rd'⟩ := q'.get' (y' vs' h1')
    obtain ⟨g, r2⟩ := pair_rep t hT rd rd'
    exact ⟨g, _, zipD_get xs ys i d d' hd hd', r2⟩
theorem ok_zipT {a b : Addr} {xs ys : List D} : IterOk K (ItzT K a b) (zipD xs ys) (fun ρ M H => Rep0s K ρ M H [.tup xs, .tup ys] [.ref a, .ref b]) := by
  refine ⟨fun i ρ M H hi h => ?_, fun ρ M H h => ?_, fun i ρ M H x H' hi t h y => ?_⟩
  · obtain ⟨v, w, e, r, r'⟩ := h.two
    cases e
    obtain ⟨b, vs, e, h1, q⟩ := r.tupI
    obtain ⟨b', vs', e', h1', q'⟩ := r'.tupI
    cases e
    cases e'
    have hl := q.length
    have hl' := q'.length
    rw [zipD_len] at hi
    exact ⟨vs, vs', vs[i]'(by omega), vs'[i]'(by omega), h1, h1', by simp, by simp⟩
  · obtain ⟨v, w, e, r, r'⟩ := h.two
    cases e
    obtain ⟨b, vs, e, h1, q⟩ := r.tupI
    obtain ⟨b', vs', e', h1', q'⟩ := r'.tupI
    cases e
    cases e'
    have hl := q.length
    have hl' := q'.length
    rw [zipD_len]
    exact ⟨vs, vs', h1, h1', by omega⟩
  · obtain ⟨v, w, e, r, r'⟩ := h.two
    cases e
    obtain ⟨b, vs, e, h1, q⟩ := r.tupI
    obtain ⟨b', vs', e', h1', q'⟩ := r'.tupI
    cases e
    cases e'
    obtain ⟨T, x, z, rfl, hT, rfl, y, y'⟩ := y
    obtain ⟨d, hd, rd⟩ := q.get' (y vs h1)
    obtain ⟨d', hd', rd'⟩ := q'.get' (y' vs' h1')
    obtain ⟨g, r2⟩ := pair_rep t hT rd rd'
    exact ⟨g, _, zipD_get xs ys i d d' hd hd', r2⟩
end

section
variable {X : Cx} {G : Tab} {cal : Cal} {tg x y : Expr} {ex ey : E} {p pos tpos : Pos} {elts : List Expr} {kk : Nat}
theorem evEs_one {e : E} {s s1 : MS} {ds : List D} (h : evEs G cal [e] s = .ok ds s1) : ∃ d, ds = [d] ∧ evE G cal e s = .ok d s1 := by
  simp only [evEs] at h
  obtain ⟨d, s2, h1, h⟩ := R.bind_ok h
  obtain ⟨ds2, s3, h2, h⟩ := R.bind_ok h
  cases h2
  cases h
  exact ⟨d, rfl, h1⟩
/-- for .. in a list, a tuple, a text -/
theorem i_of (hx : PE X x (TEv X.K G cal ex)) : PI X tg x (TIt X.K G cal .of [ex]) := by
  refine ⟨fun pins s σ H R I q => ?_⟩
  obtain ⟨ρ, F, ms, ds, ms1, xs, S, hv, hit, k⟩ := q
  obtain ⟨d, rfl, hv1⟩ := evEs_one hv
  have er : reDs [ex] [d] ms1 = [reD ex d ms1] := rfl
  rw [er] at hit k
  cases hc : reD ex d ms1 with
  | tup cs =>
    rw [hc] at hit k
    cases hit
    refine (pi_tup hx).run pins s σ H R I ⟨ρ, F, ms, d, ms1, S, hv1, fun ρ1 w H1 S1 g1 l1 r1 _ => ?_⟩
    have r0 := r1.rep0 S1
    rw [hc] at r0
    obtain ⟨a, vs, rfl, h1, q⟩ := r0.tupI
    exact ⟨a, rfl, ⟨vs, h1⟩, k ρ1 [.ref a] H1 S1 g1 l1 (.cons r1 .nil) _ ok_tup⟩
  | lst cs =>
    rw [hc] at hit k
    cases hit
    refine (pi_list hx).run pins s σ H R I ⟨ρ, F, ms, d, ms1, S, hv1, fun ρ1 w H1 S1 g1 l1 r1 _ => ?_⟩
    have r0 := r1.rep0 S1
    rw [hc] at r0
    obtain ⟨a, vs, rfl, h1, q⟩ := r0.lstI
    exact ⟨a, rfl, ⟨vs, h1⟩, k ρ1 [.ref a] H1 S1 g1 l1 (.cons r1 .nil) _ ok_list⟩
  | str cs =>
    rw [hc] at hit k
    cases hit
    refine (pi_str hx).run pins s σ H R I ⟨ρ, F, ms, d, ms1, S, hv1, fun ρ1 w H1 S1 g1 l1 r1 _ => ?_⟩
    have r0 := r1.rep0 S1
    rw [hc] at r0
    obtain ⟨rfl, ok⟩ := r0.strI
    exact ⟨_, rfl, k ρ1 [_] H1 S1 g1 l1 (.cons r1 .nil) _ (ok_str ok)⟩
  | _ => rw [hc] at hit; cases hit
theorem i_rng1 (hg : Gl X "range") (hm : X.mg "range" = none) (hn : noPk ex = true) (ha : PA X [x] (TEvs X.K G cal [ex])) (hs : starEach [x] X.env = [(false, eval x X.env)]) :
    PI X tg (.Call (.Name "range" p) [x] [] pos) (TIt X.K G cal .rng [ex]) := by
  refine ⟨fun pins s σ H R I q => ?_⟩
  obtain ⟨ρ, F, ms, ds, ms1, xs, S, hv, hit, k⟩ := q
  refine (pi_range1 hg hm ha hs).run pins s σ H R I ⟨ρ, F, ms, ds, ms1, S, hv, fun ρ1 ws H1 S1 g1 l1 r1 => ?_⟩
  obtain ⟨d, rfl, hv1⟩ := evEs_one hv
  have er : reDs [ex] [d] ms1 = [reD ex d ms1] := rfl
  rw [er] at hit k
  cases hc : reD ex d ms1 with
  | int b =>
    rw [hc] at hit k
    simp only [itemsOf] at hit
    split at hit
    case isFalse => cases hit
    rename_i hb
    cases hit
    have r0 := r1.rep0s S1
    rw [er, hc] at r0
    obtain ⟨w, rfl, r2⟩ := r0.one
    cases r2.intI
    obtain ⟨b1, b2⟩ := small62_ok hb
    have := k ρ1 [.int b] H1 S1 g1 l1 r1 (Itr 0 (b - 0).toNat) ok_rng
    rw [Int.sub_zero] at this
    exact ⟨b, rfl, b1, b2, this⟩
  | _ => rw [hc] at hit; cases hit
theorem evEs_two {e e' : E} {s s1 : MS} {ds : List D} (h : evEs G cal [e, e'] s = .ok ds s1) : ∃ d d', ds = [d, d'] := by
  simp only [evEs] at h
  obtain ⟨d, s2, h1, h⟩ := R.bind_ok h
  obtain ⟨ds2, s3, h2, h⟩ := R.bind_ok h
  obtain ⟨d3, s4, h3, h2⟩ := R.bind_ok h2
  obtain ⟨ds5, s6, h5, h2⟩ := R.bind_ok h2
  cases h5
  cases h2
  cases h
  exact ⟨d, d3, rfl⟩
theorem i_rng2 (hg : Gl X "range") (hm : X.mg "range" = none) (ha : PA X [x, y] (TEvs X.K G cal [ex, ey])) (hs : starEach [x, y] X.env = [(false, eval x X.env), (false, eval y X.env)]) (hs2 : starEach [y] X.env = [(false, eval y X.env)]) :
    PI X tg (.Call (.Name "range" p) [x, y] [] pos) (TIt X.K G cal .rng [ex, ey]) := by
  refine ⟨fun pins s σ H R I q => ?_⟩
  obtain ⟨ρ, F, ms, ds, ms1, xs, S, hv, hit, k⟩ := q
  refine (pi_range2 hg hm ha hs hs2).run pins s σ H R I ⟨ρ, F, ms, ds, ms1, S, hv, fun ρ1 ws H1 S1 g1 l1 r1 => ?_⟩
  obtain ⟨d, d', rfl⟩ := evEs_two hv
  have er : reDs [ex, ey] [d, d'] ms1 = [reD ex d ms1, reD ey d' ms1] := rfl
  rw [er] at hit k
  have r0 := r1.rep0s S1
  rw [er] at r0
  generalize reD ex d ms1 = c1 at hit k r0
  generalize reD ey d' ms1 = c2 at hit k r0
  cases c1 <;> try (cases hit; done)
  cases c2 <;> try (cases hit; done)
  rename_i a b
  simp only [itemsOf] at hit
  split at hit
  case isFalse => cases hit
  rename_i hb
  cases hit
  obtain ⟨hb1, hb2⟩ := Bool.and_eq_true_iff.mp hb
  obtain ⟨w1, w2, rfl, q1, q2⟩ := r0.two
  cases q1.intI
  cases q2.intI
  obtain ⟨a1, a2⟩ := small62_ok hb1
  obtain ⟨b1, b2⟩ := small62_ok hb2
  exact ⟨a, b, rfl, ⟨a1, a2, b1, b2⟩, k ρ1 _ H1 S1 g1 l1 r1 _ ok_rng⟩
theorem evEs_three {e e' e'' : E} {s s1 : MS} {ds : List D} (h : evEs G cal [e, e', e''] s = .ok ds s1) : ∃ d d' d'', ds = [d, d', d''] := by
  simp only [evEs] at h
  obtain ⟨a1, s2, h1, h⟩ := R.bind_ok h
  obtain ⟨ds2, s3, h2, h⟩ := R.bind_ok h
  obtain ⟨a2, s4, h3, h2⟩ := R.bind_ok h2
  obtain ⟨ds5, s6, h5, h2⟩ := R.bind_ok h2
  obtain ⟨a3, s7, h6, h5⟩ := R.bind_ok h5
  obtain ⟨ds8, s9, h8, h5⟩ := R.bind_ok h5
  cases h8
  cases h5
  cases h2
  cases h
  exact ⟨a1, a2, a3, rfl⟩
theorem i_rng3 {z : Expr} {ez : E} (hg : Gl X "range") (hm : X.mg "range" = none) (ha : PA X [x, y, z] (TEvs X.K G cal [ex, ey, ez])) (hs : starEach [x, y, z] X.env = (false, eval x X.env) :: starEach [y, z] X.env) (hpl : (backTo pos (starEach [y, z] X.env)).any (·.1) = false) :
    PI X tg (.Call (.Name "range" p) [x, y, z] [] pos) (TIt X.K G cal .rng [ex, ey, ez]) := by
  refine ⟨fun pins s σ H R I q => ?_⟩
  obtain ⟨ρ, F, ms, ds, ms1, xs, S, hv, hit, k⟩ := q
  refine (pi_range3 hg hm ha hs hpl).run pins s σ H R I ⟨ρ, F, ms, ds, ms1, S, hv, fun ρ1 ws H1 S1 g1 l1 r1 => ?_⟩
  obtain ⟨d, d', d'', rfl⟩ := evEs_three hv
  have er : reDs [ex, ey, ez] [d, d', d''] ms1 = [reD ex d ms1, reD ey d' ms1, reD ez d'' ms1] := rfl
  rw [er] at hit k
  have r0 := r1.rep0s S1
  rw [er] at r0
  generalize reD ex d ms1 = c1 at hit k r0
  generalize reD ey d' ms1 = c2 at hit k r0
  generalize reD ez d'' ms1 = c3 at hit k r0
  cases c1 <;> try (cases hit; done)
  cases c2 <;> try (cases hit; done)
  cases c3 <;> try (cases hit; done)
  rename_i a b c
  simp only [itemsOf] at hit
  split at hit
  case isFalse => cases hit
  rename_i hb
  cases hit
  obtain ⟨hc, hb⟩ := Bool.and_eq_true_iff.mp hb
  obtain ⟨hb1, hb2⟩ := Bool.and_eq_true_iff.mp hb
  have hc := of_decide_eq_true hc
  subst hc
  cases r0 with
  | cons q1 r0 =>
    cases r0 with
    | cons q2 r0 =>
      cases r0 with
      | cons q3 r0 =>
        cases r0
        cases q1.intI
        cases q2.intI
        cases q3.intI
        obtain ⟨a1, a2⟩ := small62_ok hb1
        obtain ⟨b1, b2⟩ := small62_ok hb2
        exact ⟨a, b, -1, _, rfl, RgC.neg a1 a2 b1 b2, k ρ1 _ H1 S1 g1 l1 r1 _ ok_rngDn⟩
theorem i_zip (hg : Gl X "zip") (hm : X.mg "zip" = none) (ha : PA X [x, y] (TEvs X.K G cal [ex, ey])) (hs : starEach [x, y] X.env = (false, eval x X.env) :: starEach [y] X.env) (hpl : (backTo pos (starEach [y] X.env)).any (·.1) = false) :
    PI X (.Tuple elts kk tpos) (.Call (.Name "zip" p) [x, y] [] pos) (TIt X.K G cal .zip [ex, ey]) := by
  refine ⟨fun pins s σ H R I q => ?_⟩
  obtain ⟨ρ, F, ms, ds, ms1, xs, S, hv, hit, k⟩ := q
  refine (pi_zipA hg hm ha hs hpl).run pins s σ H R I ⟨ρ, F, ms, ds, ms1, S, hv, fun ρ1 ws H1 S1 g1 l1 r1 => ?_⟩
  obtain ⟨d, d', rfl⟩ := evEs_two hv
  have er : reDs [ex, ey] [d, d'] ms1 = [reD ex d ms1, reD ey d' ms1] := rfl
  rw [er] at hit k
  have r0 := r1.rep0s S1
  rw [er] at r0
  generalize reD ex d ms1 = c1 at hit k r0
  generalize reD ey d' ms1 = c2 at hit k r0
  cases c1 <;> try (cases hit; done)
  all_goals cases c2 <;> try (cases hit; done)
  all_goals cases hit
  all_goals obtain ⟨w1, w2, rfl, q1, q2⟩ := r0.two
  · obtain ⟨a, vs, rfl, h1, q⟩ := q1.tupI
    obtain ⟨b, vs', rfl, h1', q'⟩ := q2.tupI
    exact ⟨a, b, vs, vs', rfl, .inr ⟨h1, h1', k ρ1 _ H1 S1 g1 l1 r1 _ ok_zipT⟩⟩
  · obtain ⟨a, vs, rfl, h1, q⟩ := q1.lstI
    obtain ⟨b, vs', rfl, h1', q'⟩ := q2.lstI
    exact ⟨a, b, vs, vs', rfl, .inl ⟨h1, h1', k ρ1 _ H1 S1 g1 l1 r1 _ ok_zip⟩⟩
theorem i_zips {kp vp : Pos} {ck : Nat} (hg : Gl X "zip") (hm : X.mg "zip" = none) (ha : PA X [x, y] (TEvs X.K G cal [ex, ey])) (hs : starEach [x, y] X.env = (false, eval x X.env) :: starEach [y] X.env)
    (hpl : ((backTo pos (starEach [x, y] X.env)).any (·.1) || (backToKw pos (keywordEach [⟨some (Str.ofString "strict"), .Constant (.bool true) ck vp, kp⟩] X.env)).any (·.1.isNone)) = false) :
    PI X (.Tuple elts kk tpos) (.Call (.Name "zip" p) [x, y] [⟨some (Str.ofString "strict"), .Constant (.bool true) ck vp, kp⟩] pos) (TIt X.K G cal .zips [ex, ey]) := by
  refine ⟨fun pins s σ H R I q => ?_⟩
  obtain ⟨ρ, F, ms, ds, ms1, xs, S, hv, hit, k⟩ := q
  refine (pi_zipS hg hm ha hs hpl).run pins s σ H R I ⟨ρ, F, ms, ds, ms1, S, hv, fun ρ1 ws H1 S1 g1 l1 r1 => ?_⟩
  obtain ⟨d, d', rfl⟩ := evEs_two hv
  have er : reDs [ex, ey] [d, d'] ms1 = [reD ex d ms1, reD ey d' ms1] := rfl
  rw [er] at hit k
  have r0 := r1.rep0s S1
  rw [er] at r0
  generalize reD ex d ms1 = c1 at hit k r0
  generalize reD ey d' ms1 = c2 at hit k r0
  obtain ⟨us, hu, hit⟩ := Option.bind_eq_some_iff.mp (show (seqD c1).bind (fun xs => (seqD c2).bind fun ys => if xs.length = ys.length then some (zipD xs ys) else none) = some xs from hit)
  obtain ⟨vs, hv2, hit⟩ := Option.bind_eq_some_iff.mp hit
  split at hit
  case isFalse => cases hit
  rename_i hl
  cases hit
  obtain ⟨w1, w2, rfl, q1, q2⟩ := r0.two
  obtain ⟨a, as, rfl, h1, _⟩ := seq_rep hu q1
  obtain ⟨b, bs, rfl, h2, _⟩ := seq_rep hv2 q2
  exact ⟨a, b, _, _, as, bs, rfl, h1, h2, k ρ1 _ H1 S1 g1 l1 r1 _ (ok_zipS hu hv2 hl)⟩
theorem i_enum (hg : Gl X "enumerate") (hm : X.mg "enumerate" = none) (ha : PA X [x] (TEvs X.K G cal [ex])) (hs : starEach [x] X.env = [(false, eval x X.env)]) :
    PI X (.Tuple elts kk tpos) (.Call (.Name "enumerate" p) [x] [] pos) (TIt X.K G cal .enum [ex]) := by
  refine ⟨fun pins s σ H R I q => ?_⟩
  obtain ⟨ρ, F, ms, ds, ms1, xs, S, hv, hit, k⟩ := q
  obtain ⟨d, rfl, hv1⟩ := evEs_one hv
  have er : reDs [ex] [d] ms1 = [reD ex d ms1] := rfl
  rw [er] at hit k
  cases hc : reD ex d ms1 with
  | tup cs =>
    rw [hc] at hit k
    cases hit
    refine (pi_enumT hg hm ha hs).run pins s σ H R I ⟨ρ, F, ms, [d], ms1, S, hv, fun ρ1 ws H1 S1 g1 l1 r1 => ?_⟩
    have r0 := r1.rep0s S1
    rw [er, hc] at r0
    obtain ⟨w, rfl, r2⟩ := r0.one
    obtain ⟨a, vs, rfl, h1, q⟩ := r2.tupI
    exact ⟨a, vs, rfl, h1, k ρ1 [.ref a] H1 S1 g1 l1 r1 _ ok_enumT⟩
  | lst cs =>
    rw [hc] at hit k
    cases hit
    refine (pi_enum hg hm ha hs).run pins s σ H R I ⟨ρ, F, ms, [d], ms1, S, hv, fun ρ1 ws H1 S1 g1 l1 r1 => ?_⟩
    have r0 := r1.rep0s S1
    rw [er, hc] at r0
    obtain ⟨w, rfl, r2⟩ := r0.one
    obtain ⟨a, vs, rfl, h1, q⟩ := r2.lstI
    exact ⟨a, vs, rfl, h1, k ρ1 [.ref a] H1 S1 g1 l1 r1 _ ok_enum⟩
  | _ => rw [hc] at hit; cases hit
end
end Tw
end

section
set_option linter.all false
set_option autoImplicit false
set_option maxRecDepth 100000
set_option maxHeartbeats 4000000
/-! Targets; slots set, wiped, put back. -/
namespace Tw
open PySem L2 PyProof.Rows

section
variable {K : PySem.W.Frag} {ρ ρ' : List Addr} {F : Addr → Prop} {s s' : MS} {σ σ' : L2.St} {H H' : Hp}
/-- a slot is set anew (not to an owned one) -/
theorem Sim.slot (S : Sim K ρ F s σ H) {i : Nat} {v : Slt} {o : Option V} (hv : ∀ d, v ≠ .own d) (hr : ∀ d, v = .val d → ∃ w, o = some w ∧ Rep K ρ (Mu ρ F s.env σ) H d w) :
    Sim K ρ F (s.put i v) (σ.set i o) H ∧ Go ρ F s σ H ρ (s.put i v) (σ.set i o) H := by
  have own : ∀ b, OwnAt (s.put i v).env (σ.set i o) b → OwnAt s.env σ b := by
    rintro b ⟨j, d, e1, e2⟩
    have e1 : (s.env.set i v)[j]? = some (.own d) := e1
    by_cases hj : i = j
    · subst hj
      by_cases hl : i < s.env.length
      · rw [List.getElem?_set_self hl] at e1
        cases e1
        exact absurd rfl (hv d)
      · rw [List.getElem?_eq_none (by simpa using hl)] at e1
        cases e1
    · rw [List.getElem?_set_ne hj] at e1 e2
      exact ⟨j, d, e1, e2⟩
  have k : Keep ρ (Mu ρ F s.env σ) H ρ (Mu ρ F (s.put i v).env (σ.set i o)) H := .mu fun b m => by
    rcases m with m | m | m
    · exact .inl m
    · exact .inr (.inl m)
    · exact .inr (.inr (own b m))
  have ne : ∀ (j : Nat) (dj : D) , (s.put i v).env[j]? = some (.own dj) → i ≠ j ∧ s.env[j]? = some (.own dj) := fun j dj e => by
    have e1 : (s.env.set i v)[j]? = some (.own dj) := e
    by_cases hj : i = j
    · subst hj
      by_cases hl : i < s.env.length
      · rw [List.getElem?_set_self hl] at e1
        cases e1
        exact absurd rfl (hv dj)
      · rw [List.getElem?_eq_none (by simpa using hl)] at e1
        cases e1
    · rw [List.getElem?_set_ne hj] at e1
      exact ⟨hj, e1⟩
  refine ⟨⟨S.rl, S.rn, S.rF, fun j ob b h1 h2 => (S.hp j ob b h1 h2).keep k fun _ e => e, S.bs, S.bl, S.fT, ?_, fun j d e => ?_, fun j d e => ?_, fun j l dj dl b e1 e2 g1 g2 => ?_⟩,
    ⟨⟨[], by simp⟩, fun _ h => .inl h, fun _ _ e _ => e, fun _ _ => rfl, fun b o e => ⟨o, e⟩, fun b h => .inl (own b h), rfl, Nat.le_refl _⟩⟩
  · show (s.env.set i v).length = (σ.set i o).length
    rw [List.length_set, List.length_set]
    exact S.el
  · have e : (s.env.set i v)[j]? = some (.val d) := e
    by_cases hj : i = j
    · subst hj
      by_cases hl : i < s.env.length
      · rw [List.getElem?_set_self hl] at e
        cases e
        obtain ⟨w, rfl, r⟩ := hr d rfl
        exact ⟨w, by rw [List.getElem?_set_self (by rw [← S.el]; exact hl)], r.keep k⟩
      · rw [List.getElem?_eq_none (by simpa using hl)] at e
        cases e
    · rw [List.getElem?_set_ne hj] at e
      obtain ⟨w, h1, r⟩ := S.sv j d e
      exact ⟨w, by rw [List.getElem?_set_ne hj]; exact h1, r.keep k⟩
  · obtain ⟨hj, e⟩ := ne j d e
    obtain ⟨a, h1, r, n1, n2⟩ := S.so j d e
    exact ⟨a, by rw [List.getElem?_set_ne hj]; exact h1, r.keep k fun _ e => e, n1, n2⟩
  · obtain ⟨hj, e1⟩ := ne j dj e1
    obtain ⟨hl, e2⟩ := ne l dl e2
    rw [List.getElem?_set_ne hj] at g1
    rw [List.getElem?_set_ne hl] at g2
    exact S.oi j l dj dl b e1 e2 g1 g2
theorem Sim.putVal (S : Sim K ρ F s σ H) {i : Nat} {d : D} {w : V} (r : Rep K ρ (Mu ρ F s.env σ) H d w) : Sim K ρ F (s.put i (.val d)) (σ.set i (some w)) H ∧ Go ρ F s σ H ρ (s.put i (.val d)) (σ.set i (some w)) H :=
  S.slot nofun fun d' e => by cases e; exact ⟨w, rfl, r⟩
/-- a hidden new object becomes a local's own -/
theorem Sim.putOwnG {H0 : Hp} (S : Sim K ρ F s σ H) {i : Nat} {nd : D} {a : Addr} (hi : i < s.env.length) (e0 : H0 a = none) (SA : Sim K ρ (Add F a) s σ H) (na : ¬ Mu ρ F s.env σ a) (q : RepW K ρ (Mu ρ (Add F a) s.env σ) H nd a) :
    Sim K ρ F (s.put i (.own nd)) (σ.set i (some (.ref a))) H ∧ ∀ (ρ0 : List Addr) (s0 : MS) (σ0 : L2.St), Go ρ0 F s0 σ0 H0 ρ s σ H → Go ρ0 F s0 σ0 H0 ρ (s.put i (.own nd)) (σ.set i (some (.ref a))) H := by
  have hi' : i < σ.length := by rw [← S.el]; exact hi
  have own : ∀ b, OwnAt (s.put i (.own nd)).env (σ.set i (some (.ref a))) b → OwnAt s.env σ b ∨ b = a := by
    rintro b ⟨j, d, e1, e2⟩
    have e1 : (s.env.set i (.own nd))[j]? = some (.own d) := e1
    by_cases hj : i = j
    · subst hj
      rw [List.getElem?_set_self hi'] at e2
      cases e2
      exact .inr rfl
    · rw [List.getElem?_set_ne hj] at e1 e2
      exact .inl ⟨j, d, e1, e2⟩
  have k : Keep ρ (Mu ρ (Add F a) s.env σ) H ρ (Mu ρ F (s.put i (.own nd)).env (σ.set i (some (.ref a)))) H := .mu fun b m => by
    rcases m with m | m | m
    · exact .inl m
    · exact .inr (.inl (.inl m))
    · rcases own b m with m | m
      · exact .inr (.inr m)
      · exact .inr (.inl (.inr m))
  have at_ : ∀ (j : Nat) (v : Slt), i ≠ j → (s.put i (.own nd)).env[j]? = some v → s.env[j]? = some v := fun j v hj h => by
    have h : (s.env.set i (.own nd))[j]? = some v := h
    rw [List.getElem?_set_ne hj] at h
    exact h
  have here : ∀ v, (s.put i (.own nd)).env[i]? = some v → v = .own nd := fun v h => by
    have h : (s.env.set i (.own nd))[i]? = some v := h
    rw [List.getElem?_set_self hi] at h
    exact (Option.some.inj h).symm
  have ne_a : ∀ (j : Nat) (d : D), s.env[j]? = some (.own d) → σ[j]? ≠ some (some (.ref a)) := fun j d e z => na (.inr (.inr ⟨j, d, e, z⟩))
  refine ⟨⟨SA.rl, SA.rn, fun b hb f => SA.rF b hb (.inl f), fun j ob b h1 h2 => (SA.hp j ob b h1 h2).keep k fun _ e => e, SA.bs, SA.bl, S.fT, ?_, fun j d e => ?_, fun j d e => ?_, fun j l dj dl b e1 e2 g1 g2 => ?_⟩, fun ρ0 s0 σ0 g => ?_⟩
  · show (s.env.set i _).length = (σ.set i _).length
    rw [List.length_set, List.length_set]
    exact S.el
  · by_cases hj : i = j
    · subst hj; cases here _ e
    · obtain ⟨w, h1, r⟩ := SA.sv j d (at_ j _ hj e)
      exact ⟨w, by rw [List.getElem?_set_ne hj]; exact h1, r.keep k⟩
  · by_cases hj : i = j
    · subst hj
      cases here _ e
      exact ⟨a, by rw [List.getElem?_set_self hi'], q.keep k fun _ e => e, fun z => na (.inl z), fun z => na (.inr (.inl z))⟩
    · obtain ⟨b, h1, r, n1, n2⟩ := SA.so j d (at_ j _ hj e)
      exact ⟨b, by rw [List.getElem?_set_ne hj]; exact h1, r.keep k fun _ e => e, n1, fun z => n2 (.inl z)⟩
  · by_cases hj : i = j
    · by_cases hl : i = l
      · rw [← hj, ← hl]
      · exfalso
        rw [← hj, List.getElem?_set_self hi'] at g1
        cases g1
        rw [List.getElem?_set_ne hl] at g2
        exact ne_a l dl (at_ l _ hl e2) g2
    · by_cases hl : i = l
      · exfalso
        rw [← hl, List.getElem?_set_self hi'] at g2
        cases g2
        rw [List.getElem?_set_ne hj] at g1
        exact ne_a j dj (at_ j _ hj e1) g1
      · rw [List.getElem?_set_ne hj] at g1
        rw [List.getElem?_set_ne hl] at g2
        exact S.oi j l dj dl b (at_ j _ hj e1) (at_ l _ hl e2) g1 g2
  · refine ⟨g.pre, g.new, g.keep, g.hid, g.there, fun b h => ?_, g.bs, g.hl⟩
    rcases own b h with h | rfl
    · exact g.own b h
    · exact .inr e0
/-- a hidden new list becomes a local's own -/
theorem Sim.putOwn {H0 : Hp} (S : Sim K ρ F s σ H) {i : Nat} {ds : List D} {w : V} (hi : i < s.env.length) (f : Frs K H0 ρ F s σ H (.lst ds) w) :
    Sim K ρ F (s.put i (.own (.lst ds))) (σ.set i (some w)) H ∧ ∀ (ρ0 : List Addr) (s0 : MS) (σ0 : L2.St), Go ρ0 F s0 σ0 H0 ρ s σ H → Go ρ0 F s0 σ0 H0 ρ (s.put i (.own (.lst ds))) (σ.set i (some w)) H := by
  obtain ⟨a, vs, rfl, e0, SA, ea, na, q⟩ := f ds rfl
  exact S.putOwnG hi e0 SA na (.lst ea q)
end

/-! ### targets -/
mutual
def tgSlots : Tg → List Nat
  | .nm i => [i]
  | .tp ts => tgsSlots ts
def tgsSlots : List Tg → List Nat
  | [] => []
  | t :: ts => tgSlots t ++ tgsSlots ts
end
/-- the same but at the slots vs -/
def SameBut (vs : List Nat) (σ σ' : L2.St) : Prop := σ'.length = σ.length ∧ ∀ j : Nat, j ∉ vs → σ'[j]? = σ[j]?
def TTg (K : PySem.W.Frag) (t : Tg) : TG := fun v σ H Q => ∃ ρ F s d s', Sim K ρ F s σ H ∧ Rep K ρ (Mu ρ F s.env σ) H d v ∧ bindTg t d s = some s' ∧ ∀ σ', Sim K ρ F s' σ' H → Go ρ F s σ H ρ s' σ' H → SameBut (tgSlots t) σ σ' → Q σ' H
def TTgs (K : PySem.W.Frag) (ts : List Tg) : TGs := fun vs σ H Q => ∃ ρ F s ds s', Sim K ρ F s σ H ∧ Reps K ρ (Mu ρ F s.env σ) H ds vs ∧ bindTg.bindTgs ts ds s = some s' ∧ ∀ σ', Sim K ρ F s' σ' H → Go ρ F s σ H ρ s' σ' H → SameBut (tgsSlots ts) σ σ' → Q σ' H
section
variable {X : Cx} {pos : Pos}
theorem _root_.L2.PG.imp {X : Cx} {e : Expr} {t t' : TG} (h : PG X e t) (i : ∀ v σ H Q, t' v σ H Q → t v σ H Q) : PG X e t' := ⟨fun pins s σ H v u Q I r q => h.run pins s σ H v u Q I r (i v σ H Q q)⟩
theorem _root_.L2.PGs.imp {X : Cx} {e : List Expr} {t t' : TGs} (h : PGs X e t) (i : ∀ v σ H Q, t' v σ H Q → t v σ H Q) : PGs X e t' := ⟨fun pins s σ H v u Q I r q => h.run pins s σ H v u Q I r (i v σ H Q q)⟩
theorem g_nm {i : Nat} {x : Str} (hN : X.N.Nodup) (hi : X.N[i]? = some x) (hx : Loc X.env.scope x) (hf : X.fn x = true ∨ X.env.scope.names.lookup x = some .local) : PG X (.Name x pos) (TTg X.K (.nm i)) :=
  (pg_name hN hi hx hf).imp fun v σ H Q q => by
    obtain ⟨ρ, F, s, d, s', S, r, hb, k⟩ := q
    unfold bindTg at hb
    split at hb
    case isFalse => cases hb
    cases hb
    obtain ⟨S', g⟩ := S.putVal (i := i) r
    exact k _ S' g ⟨by rw [List.length_set], fun j hj => List.getElem?_set_ne (fun z => hj (by simp [tgSlots, z]))⟩
theorem g_nil : PGs X [] (TTgs X.K []) := pgs_nil.imp fun vs σ H Q q => by
  obtain ⟨ρ, F, s, ds, s', S, r, hb, k⟩ := q
  cases r with
  | nil =>
    cases hb
    exact ⟨rfl, k σ S .refl ⟨rfl, fun _ _ => rfl⟩⟩
  | cons _ _ => cases hb
theorem g_cons {e : Expr} {es : List Expr} {t : Tg} {ts : List Tg} (h1 : PG X e (TTg X.K t)) (h2 : PGs X es (TTgs X.K ts)) (hs : (assignEach (e :: es) X.env).map (·.2) = assign e X.env :: (assignEach es X.env).map (·.2)) :
    PGs X (e :: es) (TTgs X.K (t :: ts)) :=
  (pgs_cons h1 h2 hs).imp fun vs σ H Q q => by
    obtain ⟨ρ, F, s, ds, s', S, r, hb, k⟩ := q
    cases r with
    | nil => cases hb
    | cons r rs =>
      obtain ⟨s1, hb1, hb2⟩ := Option.bind_eq_some_iff.mp (show (bindTg t _ s).bind _ = some s' from hb)
      exact ⟨_, _, rfl, ρ, F, s, _, s1, S, r, hb1, fun σ1 S1 g1 m1 => ⟨ρ, F, s1, _, s', S1, rs.keep g1.keepM, hb2, fun σ2 S2 g2 m2 => k σ2 S2 (g1.trans g2) ⟨m2.1.trans m1.1, fun j hj => by
        have hj : j ∉ tgSlots t ++ tgsSlots ts := hj
        rw [List.mem_append, not_or] at hj
        exact (m2.2 j hj.2).trans (m1.2 j hj.1)⟩⟩⟩
theorem bindTgs_len : ∀ {ts : List Tg} {ds : List D} {s s' : MS}, bindTg.bindTgs ts ds s = some s' → ds.length = ts.length
  | [], [], _, _, _ => rfl
  | [], _ :: _, _, _, h => by cases h
  | _ :: _, [], _, _, h => by cases h
  | t :: ts, d :: ds, s, s', h => by
    obtain ⟨s1, hb1, hb2⟩ := Option.bind_eq_some_iff.mp (show (bindTg t d s).bind _ = some s' from h)
    simp [bindTgs_len hb2]
theorem g_tp {es : List Expr} {k : Nat} {ts : List Tg} (hc : X.calm = true) (h : PGs X es (TTgs X.K ts)) (hn : (assignEach es X.env).length = ts.length) (hst : (assignEach es X.env).findIdx? (·.1) = none) : PG X (.Tuple es k pos) (TTg X.K (.tp ts)) :=
  (pg_tup hc h hn hst).imp fun v σ H Q q => by
    obtain ⟨ρ, F, s, d, s', S, r, hb, k⟩ := q
    cases d with
    | tup ds =>
      rw [bindTg] at hb
      obtain ⟨a, vs, rfl, h1, q⟩ := r.tupI
      exact ⟨a, vs, rfl, h1, by rw [← q.length]; exact bindTgs_len hb, ρ, F, s, ds, s', S, q, hb, k⟩
    | _ => simp [bindTg] at hb
end
end Tw
end

section
set_option linter.all false
set_option autoImplicit false
set_option maxRecDepth 100000
set_option maxHeartbeats 4000000
/-! Comprehensions. -/
namespace Tw
open PySem L2 PyProof.Rows

mutual
theorem sameD_eq : ∀ x y : D, sameD x y = true → x = y
  | .non, y, h => by cases y <;> first | rfl | cases h
  | .bl a, y, h => by cases y <;> first | (simp [sameD] at h; subst h; rfl) | cases h
  | .int a, y, h => by cases y <;> first | (simp [sameD] at h; subst h; rfl) | cases h
  | .str a, y, h => by cases y <;> first | (simp [sameD] at h; subst h; rfl) | cases h
  | .tup xs, y, h => by cases y <;> first | (rw [sameDs_eq xs _ h]) | cases h
  | .lst xs, y, h => by cases y <;> first | (rw [sameDs_eq xs _ h]) | cases h
  | .dct xs us, y, h => by
    cases y <;> first | cases h | skip
    obtain ⟨h1, h2⟩ := Bool.and_eq_true_iff.mp h
    rw [sameDs_eq xs _ h1, sameDs_eq us _ h2]
  | .set xs, y, h => by cases y <;> first | (rw [sameDs_eq xs _ h]) | cases h
  | .scr xs, y, h => by cases y <;> first | (rw [sameDs_eq xs _ h]) | cases h
  | .obj c fs vs, y, h => by
    cases y with
    | obj c' fs' vs' =>
      simp only [sameD, Bool.and_eq_true, beq_iff_eq] at h
      obtain ⟨rfl, rfl, h⟩ := h
      rw [sameDs_eq vs _ h]
    | _ => cases h
  | .ref a, y, h => by cases y <;> first | (simp [sameD] at h; subst h; rfl) | cases h
  | .glo a, y, h => by cases y <;> first | (simp [sameD] at h; subst h; rfl) | cases h
theorem sameDs_eq : ∀ xs ys : List D, sameDs xs ys = true → xs = ys
  | [], [], _ => rfl
  | [], _ :: _, h => by cases h
  | _ :: _, [], h => by cases h
  | x :: xs, y :: ys, h => by
    obtain ⟨h1, h2⟩ := Bool.and_eq_true_iff.mp (show (sameD x y && sameDs xs ys) = true from h)
    rw [sameD_eq x y h1, sameDs_eq xs ys h2]
end
theorem srcOk_eq : ∀ {es : List E} {ds cs : List D} {s : MS}, srcOk es ds cs s = true → reDs es ds s = cs
  | [], [], [], _, _ => rfl
  | e :: es, d :: ds, c :: cs, s, h => by
    obtain ⟨h1, h2⟩ := Bool.and_eq_true_iff.mp (show (sameD (reD e d s) c && srcOk es ds cs s) = true from h)
    show reD e d s :: reDs es ds s = _
    rw [sameD_eq _ _ h1, srcOk_eq h2]
  | [], [], _ :: _, _, h => by cases h
  | [], _ :: _, _, _, h => by cases h
  | _ :: _, [], _, _, h => by cases h
  | _ :: _, _ :: _, [], _, h => by cases h

section
variable {K : PySem.W.Frag} {ρ ρ1 ρi ρ' : List Addr} {F : Addr → Prop} {s s1 si s' : MS} {σ σ1 σi σ' : L2.St} {H H1 Hi H' : Hp} {D0 : Addr}
/-- on, while D0 is hidden besides -/
theorem Go.add (g : Go ρ1 F s1 σ1 H1 ρi si σi Hi) (hD : H1 D0 = none) (g' : Go ρi (Add F D0) si σi Hi ρ' s' σ' H') : Go ρ1 F s1 σ1 H1 ρ' s' σ' H' := by
  have k := g.keepM
  refine ⟨?_, fun a h => ?_, fun b o e n => ?_, fun b h => (g'.hid b (.inl h)).trans (g.hid b h), fun b o e => ?_, fun b h => ?_, g'.bs.trans g.bs, Nat.le_trans g.hl g'.hl⟩
  · obtain ⟨r, rfl⟩ := g.pre
    obtain ⟨r', rfl⟩ := g'.pre
    exact ⟨r ++ r', by simp⟩
  · rcases g'.new a h with q | q
    · exact g.new a q
    · cases e : H1 a with
      | none => exact .inr rfl
      | some o => obtain ⟨o', e'⟩ := g.there a o e; rw [q] at e'; cases e'
  · refine g'.keep b o (g.keep b o e n) fun m => ?_
    rcases Mu.add.mp m with m | rfl
    · exact k.less b o e n m
    · rw [hD] at e; cases e
  · obtain ⟨o', e'⟩ := g.there b o e
    exact g'.there b o' e'
  · rcases g'.own b h with q | q
    · exact g.own b q
    · cases e : H1 b with
      | none => exact .inr rfl
      | some o => obtain ⟨o', e'⟩ := g.there b o e; rw [q] at e'; cases e'
theorem Go.upd (g : Go ρ1 F s1 σ1 H1 ρi si σi Hi) (hD : H1 D0 = none) (nF : ¬ F D0) (o : HO) : Go ρ1 F s1 σ1 H1 ρi si σi (upd Hi D0 o) := by
  refine ⟨g.pre, g.new, fun b u e n => ?_, fun b h => ?_, fun b u e => ?_, g.own, g.bs, g.hl⟩
  · rw [upd_ne (ne_of_none e hD)]; exact g.keep b u e n
  · rw [upd_ne (fun z => nF (by rw [← z]; exact h))]; exact g.hid b h
  · rw [upd_ne (ne_of_none e hD)]; exact g.there b u e
/-- slots wiped -/
theorem Sim.wipeAll (S : Sim K ρ F s σ H) : ∀ wp : List Nat, Sim K ρ F (wipeS s wp) (wipe σ wp) H ∧ Go ρ F s σ H ρ (wipeS s wp) (wipe σ wp) H
  | [] => ⟨S, .refl⟩
  | i :: wp => by
    obtain ⟨S1, g1⟩ := Sim.wipeAll S wp
    obtain ⟨S2, g2⟩ := S1.slot (i := i) (v := .non) (o := none) nofun nofun
    exact ⟨S2, g1.trans g2⟩
theorem wipeS_hp : ∀ (wp : List Nat) (s : MS), (wipeS s wp).hp = s.hp ∧ (wipeS s wp).bs = s.bs ∧ (wipeS s wp).env.length = s.env.length
  | [], s => ⟨rfl, rfl, rfl⟩
  | i :: wp, s => by
    obtain ⟨h1, h2, h3⟩ := wipeS_hp wp s
    exact ⟨h1, h2, by show ((wipeS s wp).env.set i .non).length = _; rw [List.length_set, h3]⟩
theorem wipeS_out : ∀ (wp : List Nat) (s : MS) (i : Nat), i ∉ wp → (wipeS s wp).env[i]? = s.env[i]?
  | [], _, _, _ => rfl
  | j :: wp, s, i, h => by
    rw [List.mem_cons, not_or] at h
    show ((wipeS s wp).env.set j .non)[i]? = _
    rw [List.getElem?_set_ne (Ne.symm h.1), wipeS_out wp s i h.2]
theorem wipeS_in : ∀ (wp : List Nat) (s : MS) (i : Nat) (v : Slt), i ∈ wp → (wipeS s wp).env[i]? = some v → v = .non
  | j :: wp, s, i, v, h, e => by
    have e : ((wipeS s wp).env.set j .non)[i]? = some v := e
    by_cases hj : j = i
    · subst hj
      by_cases hl : j < (wipeS s wp).env.length
      · rw [List.getElem?_set_self hl] at e
        exact (Option.some.inj e).symm
      · rw [List.getElem?_eq_none (by simpa using hl)] at e
        cases e
    · rw [List.getElem?_set_ne hj] at e
      rcases List.mem_cons.mp h with h | h
      · exact absurd h.symm hj
      · exact wipeS_in wp s i v h e
theorem wipe_out' {σ : L2.St} {i : Nat} {wp : List Nat} (h : i ∉ wp) : (wipe σ wp)[i]? = σ[i]? := wipe_out h
theorem wipe_in : ∀ (wp : List Nat) (σ : L2.St) (i : Nat), i ∈ wp → i < σ.length → (wipe σ wp)[i]? = some none
  | j :: wp, σ, i, h, hl => by
    show ((wipe σ wp).set j none)[i]? = _
    by_cases hj : j = i
    · subst hj
      rw [List.getElem?_set_self (by rw [wipe_length]; exact hl)]
    · rw [List.getElem?_set_ne hj]
      rcases List.mem_cons.mp h with h | h
      · exact absurd h.symm hj
      · exact wipe_in wp σ i h hl
theorem wipe_same {vs : List Nat} {σ σ' : L2.St} (h : SameBut vs σ σ') {wp : List Nat} (hv : ∀ i ∈ vs, i ∈ wp) : wipe σ' wp = wipe σ wp := by
  apply List.ext_getElem?
  intro i
  by_cases hi : i ∈ wp
  · by_cases hl : i < σ.length
    · rw [wipe_in wp σ i hi hl, wipe_in wp σ' i hi (by rw [h.1]; exact hl)]
    · rw [List.getElem?_eq_none (by rw [wipe_length, h.1]; omega), List.getElem?_eq_none (by rw [wipe_length]; omega)]
  · rw [wipe_out hi, wipe_out hi]
    exact h.2 i fun z => hi (hv i z)
theorem wipe_twice {wp : List Nat} {σ : L2.St} : wipe (wipe σ wp) wp = wipe σ wp := by
  refine wipe_same (vs := wp) ⟨wipe_length _ _, fun j hj => wipe_out hj⟩ fun _ h => h
theorem backS_hp : ∀ (wp : List Nat) (s0 s : MS), (backS s0 s wp).hp = s.hp ∧ (backS s0 s wp).bs = s.bs ∧ (backS s0 s wp).env.length = s.env.length
  | [], _, s => ⟨rfl, rfl, rfl⟩
  | i :: wp, s0, s => by
    obtain ⟨h1, h2, h3⟩ := backS_hp wp s0 s
    exact ⟨h1, h2, by show ((backS s0 s wp).env.set i _).length = _; rw [List.length_set, h3]⟩
theorem backS_out : ∀ (wp : List Nat) (s0 s : MS) (i : Nat), i ∉ wp → (backS s0 s wp).env[i]? = s.env[i]?
  | [], _, _, _, _ => rfl
  | j :: wp, s0, s, i, h => by
    rw [List.mem_cons, not_or] at h
    show ((backS s0 s wp).env.set j _)[i]? = _
    rw [List.getElem?_set_ne (Ne.symm h.1), backS_out wp s0 s i h.2]
theorem backS_in : ∀ (wp : List Nat) (s0 s : MS) (i : Nat), i ∈ wp → i < s.env.length → (backS s0 s wp).env[i]? = some (s0.env.getD i .non)
  | j :: wp, s0, s, i, h, hl => by
    show ((backS s0 s wp).env.set j _)[i]? = _
    by_cases hj : j = i
    · subst hj
      rw [List.getElem?_set_self (by rw [(backS_hp wp s0 s).2.2]; exact hl)]
    · rw [List.getElem?_set_ne hj]
      rcases List.mem_cons.mp h with h | h
      · exact absurd h.symm hj
      · exact backS_in wp s0 s i h hl
/-- the block's own slots put back -/
theorem back_own {wp : List Nat} (hw : ∀ i ∈ wp, isOwn s1 i = false) {j : Nat} {d : D} (e : (backS s1 si wp).env[j]? = some (.own d)) : j ∉ wp ∧ si.env[j]? = some (.own d) := by
  obtain ⟨b1, b2, b3⟩ := backS_hp wp s1 si
  by_cases hj : j ∈ wp
  · exfalso
    have hl : j < si.env.length := by
      have := (List.getElem?_eq_some_iff.mp e).1
      rw [b3] at this
      exact this
    rw [backS_in wp s1 si j hj hl] at e
    have e := Option.some.inj e
    have hn := hw j hj
    unfold isOwn at hn
    rw [List.getD_eq_getElem?_getD] at e
    cases q : s1.env[j]? with
    | none => rw [q] at e; cases e
    | some v =>
      rw [q] at e hn
      have e : v = .own d := e
      subst e
      cases hn
  · exact ⟨hj, by rw [← backS_out wp s1 si j hj]; exact e⟩
theorem back_ownAt {wp : List Nat} (hw : ∀ i ∈ wp, isOwn s1 i = false) {b : Addr} (h : OwnAt (backS s1 si wp).env σ b) : OwnAt si.env (wipe σ wp) b := by
  obtain ⟨j, d, e1, e2⟩ := h
  obtain ⟨hj, e1⟩ := back_own hw e1
  exact ⟨j, d, e1, by rw [wipe_out hj]; exact e2⟩
theorem Go.backAll {wp : List Nat} (hw : ∀ i ∈ wp, isOwn s1 i = false) (g : Go ρ1 F s1 σ H1 ρi si (wipe σ wp) Hi) : Go ρ1 F s1 σ H1 ρi (backS s1 si wp) σ Hi := by
  obtain ⟨b1, b2, b3⟩ := backS_hp wp s1 si
  exact ⟨g.pre, g.new, g.keep, g.hid, g.there, fun b h => g.own b (back_ownAt hw h), by rw [b2]; exact g.bs, by rw [b1]; exact g.hl⟩
theorem Sim.backAll {F' : Addr → Prop} {wp : List Nat} (S1 : Sim K ρ1 F s1 σ H1) (hw : ∀ i ∈ wp, isOwn s1 i = false) (Si : Sim K ρi F' si (wipe σ wp) Hi) (k1 : Keep ρ1 (Mu ρ1 F s1.env σ) H1 ρi (Mu ρi F' (backS s1 si wp).env σ) Hi) :
    Sim K ρi F' (backS s1 si wp) σ Hi ∧ Keep ρi (Mu ρi F' si.env (wipe σ wp)) Hi ρi (Mu ρi F' (backS s1 si wp).env σ) Hi := by
  obtain ⟨b1, b2, b3⟩ := backS_hp wp s1 si
  have el : si.env.length = σ.length := by rw [Si.el, wipe_length]
  have k : Keep ρi (Mu ρi F' si.env (wipe σ wp)) Hi ρi (Mu ρi F' (backS s1 si wp).env σ) Hi := .mu fun b m => by
    rcases m with m | m | m
    · exact .inl m
    · exact .inr (.inl m)
    · exact .inr (.inr (back_ownAt hw m))
  refine ⟨⟨by rw [b1]; exact Si.rl, Si.rn, Si.rF, fun i ob a e1 e2 => (Si.hp i ob a (by rw [← b1]; exact e1) e2).keep k fun _ e => e, ?_, by rw [b1, b2]; exact Si.bl, Si.fT, by rw [b3]; exact el, fun j d e => ?_, fun j d e => ?_, fun j l dj dl b e1 e2 g1 g2 => ?_⟩, k⟩
  · rw [b1, b2]; exact Si.bs
  · by_cases hj : j ∈ wp
    · have hl : j < si.env.length := by
        have := (List.getElem?_eq_some_iff.mp e).1
        rw [b3] at this
        exact this
      rw [backS_in wp s1 si j hj hl] at e
      have e := Option.some.inj e
      rw [List.getD_eq_getElem?_getD] at e
      cases q : s1.env[j]? with
      | none => rw [q] at e; cases e
      | some v =>
        rw [q] at e
        have e : v = .val d := e
        subst e
        obtain ⟨w, e1, r⟩ := S1.sv j d q
        exact ⟨w, e1, r.keep k1⟩
    · rw [backS_out wp s1 si j hj] at e
      obtain ⟨w, e1, r⟩ := Si.sv j d e
      rw [wipe_out hj] at e1
      exact ⟨w, e1, r.keep k⟩
  · obtain ⟨hj, e⟩ := back_own hw e
    obtain ⟨a, e1, r, n1, n2⟩ := Si.so j d e
    rw [wipe_out hj] at e1
    exact ⟨a, e1, r.keep k fun _ e => e, n1, n2⟩
  · obtain ⟨hj, e1⟩ := back_own hw e1
    obtain ⟨hl, e2⟩ := back_own hw e2
    exact Si.oi j l dj dl b e1 e2 (by rw [wipe_out hj]; exact g1) (by rw [wipe_out hl]; exact g2)
theorem live_back {wp : List Nat} (el : si.env.length = s1.env.length) (l : Live (wipeS s1 wp) si) : Live s1 (backS s1 si wp) := by
  rintro i ⟨v, e, n⟩
  have hi : i < s1.env.length := (List.getElem?_eq_some_iff.mp e).1
  by_cases h : i ∈ wp
  · refine ⟨v, ?_, n⟩
    rw [backS_in wp s1 si i h (by rw [el]; exact hi), List.getD_eq_getElem?_getD, e]
    rfl
  · rw [backS_out wp s1 si i h]
    exact l i ⟨v, by rw [wipeS_out wp s1 i h]; exact e, n⟩
theorem live_put {i : Nat} {v : Slt} (hv : v ≠ .non) : Live s (s.put i v) := by
  rintro j ⟨u, e, n⟩
  show ∃ u, (s.env.set i v)[j]? = some u ∧ u ≠ .non
  by_cases hj : i = j
  · subst hj
    exact ⟨v, by rw [List.getElem?_set_self (List.getElem?_eq_some_iff.mp e).1], hv⟩
  · exact ⟨u, by rw [List.getElem?_set_ne hj]; exact e, n⟩
mutual
theorem live_tg : ∀ (t : Tg) (d : D) (s s' : MS), bindTg t d s = some s' → Live s s'
  | .nm i, d, s, s', h => by
    rw [bindTg] at h
    split at h
    · cases h; exact live_put nofun
    · cases h
  | .tp ts, d, s, s', h => by
    cases d with
    | tup ds => rw [bindTg] at h; exact live_tgs ts ds s s' h
    | _ => simp [bindTg] at h
theorem live_tgs : ∀ (ts : List Tg) (ds : List D) (s s' : MS), bindTg.bindTgs ts ds s = some s' → Live s s'
  | [], [], s, s', h => by cases h; exact .refl
  | [], _ :: _, _, _, h => by cases h
  | _ :: _, [], _, _, h => by cases h
  | t :: ts, d :: ds, s, s', h => by
    obtain ⟨s1, h1, h2⟩ := Option.bind_eq_some_iff.mp (show (bindTg t d s).bind _ = some s' from h)
    exact (live_tg t d s s1 h1).trans (live_tgs ts ds s1 s' h2)
end
theorem live_wipe {wp : List Nat} (l : Live s s1) (hn : ∀ i ∈ wp, ∀ v, s.env[i]? = some v → v = .non) : Live s (wipeS s1 wp) := by
  rintro i ⟨v, e, n⟩
  have hi : i ∉ wp := fun h => n (hn i h v e)
  rw [wipeS_out wp s1 i hi]
  exact l i ⟨v, e, n⟩
theorem Ress.keepM {F' : Addr → Prop} {es : List E} {ds : List D} {ws : List V} (k : Keep ρ (Mu ρ F s.env σ) H ρ' (Mu ρ' F' s.env σ) H') (r : Ress K ρ F s σ H es ds ws) : Ress K ρ' F' s σ H' es ds ws := by
  induction r with
  | nil => exact .nil
  | @cons e es d ds w ws r _ ih =>
    refine .cons ?_ ih
    cases e with
    | pk i => exact r
    | _ => exact Rep.keep k r
end

section
variable {X : Cx} {G : Tab} {cal : Cal}
def TTvs (K : PySem.W.Frag) (G : Tab) (cal : Cal) (es : List E) : TT := fun σ H Q => ∃ ρ F s b s', Sim K ρ F s σ H ∧ evTs G cal es s = .ok b s' ∧ ∀ ρ' H', Sim K ρ' F s' σ H' → Go ρ F s σ H ρ' s' σ H' → Live s s' → Q b H'
theorem _root_.L2.PTs.imp {X : Cx} {e : List Expr} {t t' : TT} (h : PTs X e t) (i : ∀ σ H Q, t' σ H Q → t σ H Q) : PTs X e t' := ⟨fun pins s σ H Q I q => h.run pins s σ H Q I (i σ H Q q)⟩
theorem t_nil : PTs X [] (TTvs X.K G cal []) := pts_nil.imp fun σ H Q q => by
  obtain ⟨ρ, F, s, b, s', S, hv, k⟩ := q
  simp only [evTs] at hv
  cases hv
  exact k ρ H S .refl .refl
theorem t_one {c : Expr} {e : E} (h : PT X c (TTv X.K G cal e)) : PTs X [c] (TTvs X.K G cal [e]) := (pts_one h).imp fun σ H Q q => by
  obtain ⟨ρ, F, s, b, s', S, hv, k⟩ := q
  simp only [evTs] at hv
  obtain ⟨x, s1, h1, hv⟩ := R.bind_ok hv
  have e2 : x = b ∧ s1 = s' := by cases x <;> (cases hv; exact ⟨rfl, rfl⟩)
  obtain ⟨rfl, rfl⟩ := e2
  exact ⟨ρ, F, s, x, s1, S, h1, k⟩
/-- no looked-at local among the block's own -/
def pkOut (es : List E) (wp : List Nat) : Bool := es.all fun e => match e with | .pk i => !wp.contains i | _ => true
theorem Ress.wipe {ρ : List Addr} {F : Addr → Prop} {s : MS} {σ : L2.St} {H : Hp} {es : List E} {ds : List D} {ws : List V} {wp : List Nat} (S : Sim X.K ρ F s σ H) (r : Ress X.K ρ F s σ H es ds ws) (h : pkOut es wp = true) : Ress X.K ρ F (wipeS s wp) (L2.wipe σ wp) H es ds ws := by
  have k := (S.wipeAll wp).2.keepM
  induction r with
  | nil => exact .nil
  | @cons e es d ds w ws r _ ih =>
    unfold pkOut at h
    rw [List.all_cons] at h
    obtain ⟨h1, h2⟩ := Bool.and_eq_true_iff.mp h
    refine .cons ?_ (ih h2)
    cases e with
    | pk i =>
      have hi : i ∉ wp := by simpa using h1
      obtain ⟨e1, v, e2, n⟩ := r
      exact ⟨by rw [wipe_out hi]; exact e1, v, by rw [wipeS_out wp s i hi]; exact e2, n⟩
    | _ => exact Rep.keep k r
theorem comp_imp {eelt : E} {t : Tg} {k : Ik} {es cnd : List E} {wp : List Nat} (hn : noPk eelt = true) (hpk : pkOut es wp = true) (hts : ∀ i ∈ tgSlots t, i ∈ wp) {σ : L2.St} {H : Hp} {Q : VK} (q : TEv X.K G cal (.comp eelt t k es cnd wp) σ H Q) :
    tLc (TIt X.K G cal k es) (TTg X.K t) (TTvs X.K G cal cnd) (TEv X.K G cal eelt) wp σ H Q := by
  obtain ⟨ρ, F, s, d, s', S, hv, kk⟩ := q
  simp only [evE] at hv
  obtain ⟨ds, s1, h1, hv⟩ := R.bind_ok hv
  split at hv
  case h_1 => cases hv
  rename_i xs hit
  split at hv
  case isFalse => cases hv
  rename_i hcond
  obtain ⟨hz, hown⟩ := Bool.and_eq_true_iff.mp hcond
  have hz := of_decide_eq_true hz
  have hwo : ∀ i ∈ wp, isOwn s1 i = false := fun i hi => by
    cases q : isOwn s1 i with
    | false => rfl
    | true =>
      have : wp.any (isOwn s1) = true := List.any_eq_true.mpr ⟨i, hi, q⟩
      rw [this] at hown
      cases hown
  obtain ⟨dl, s2, hloop, hv⟩ := R.bind_ok hv
  cases hv
  refine ⟨ρ, F, s, ds, s1, xs, S, h1, hit, fun ρ1 ws H1 S1 g1 l1 r1 J okJ D hD => ?_⟩
  have nF : ¬ F D := fun h => by
    obtain ⟨o, e⟩ := S1.fT D h
    rw [hD] at e; cases e
  obtain ⟨Sw, gw⟩ := S1.wipeAll wp
  refine ⟨fun i m H => i ≤ xs.length ∧ m = xs.length - i ∧ ∃ ρi si acc vs, Sim X.K ρi (Add F D) si (wipe σ wp) H ∧ H D = some (.lst vs) ∧ Reps X.K ρi (Mu ρi (Add F D) si.env (wipe σ wp)) H acc vs ∧ acc.length ≤ i ∧
      Go ρ1 F (wipeS s1 wp) (wipe σ wp) H1 ρi si (wipe σ wp) H ∧ Live (wipeS s1 wp) si ∧ (∀ i ∈ wp, ∀ v, si.env[i]? = some v → v = .non) ∧ Ress X.K ρi (Add F D) si (wipe σ wp) H es ds ws ∧ loopC (srcOk es ds (reDs es ds s1)) _ acc (xs.drop i) si = .ok dl s2,
    ⟨xs.length, Nat.zero_le _, rfl, ρ1, wipeS s1 wp, [], [], Sw.hide hD, upd_same, .nil, Nat.le_refl _, Go.refl.upd hD nF _, .refl, fun i hi v e => wipeS_in wp s1 i v hi e, (r1.wipe S1 hpk).keepM (.hide hD), by rw [List.drop_zero]; exact hloop⟩, ?_⟩
  rintro i m H ⟨hi, rfl, ρi, si, acc, vs, Si, eD, q, hacc, g, l, hnon, ri, hrun⟩
  have P : ∀ (_ : srcOk es ds (reDs es ds s1) si = true), Rep0s X.K ρi (Mu ρi (Add F D) si.env (wipe σ wp)) H (reDs es ds s1) ws := fun h => by
    have := ri.rep0s Si
    rw [srcOk_eq h] at this
    exact this
  by_cases hlt : i < xs.length
  · rw [List.drop_eq_getElem_cons hlt] at hrun
    simp only [loopC] at hrun
    split at hrun
    case isFalse => cases hrun
    rename_i hchk
    obtain ⟨o, sn, hturn, hrest⟩ := R.bind_ok hrun
    refine .inr ⟨okJ.go i _ _ H hlt (P hchk), fun H' => i + 1 ≤ xs.length ∧ ∃ ρi si acc vs, Sim X.K ρi (Add F D) si (wipe σ wp) H' ∧ H' D = some (.lst vs) ∧ Reps X.K ρi (Mu ρi (Add F D) si.env (wipe σ wp)) H' acc vs ∧ acc.length ≤ i + 1 ∧
      Go ρ1 F (wipeS s1 wp) (wipe σ wp) H1 ρi si (wipe σ wp) H' ∧ Live (wipeS s1 wp) si ∧ (∀ i ∈ wp, ∀ v, si.env[i]? = some v → v = .non) ∧ Ress X.K ρi (Add F D) si (wipe σ wp) H' es ds ws ∧ loopC (srcOk es ds (reDs es ds s1)) _ acc (xs.drop (i + 1)) si = .ok dl s2,
      fun H' ⟨a1, a2⟩ => ⟨xs.length - (i + 1), by omega, a1, rfl, a2⟩, fun x H' hy => ?_⟩
    obtain ⟨gr, d, hd, rd⟩ := okJ.yld i _ _ H x H' hlt Si.tracked (P hchk) hy
    have ed : d = xs[i] := by rw [List.getElem?_eq_getElem hlt] at hd; exact (Option.some.inj hd).symm
    subst ed
    split at hturn
    case h_1 => cases hturn
    rename_i sb hb
    obtain ⟨b, sc, hcnd, hturn⟩ := R.bind_ok hturn
    refine ⟨ρi, Add F D, si, xs[i], sb, Si.grow gr, rd, hb, fun σ2 S2 g2 m2 => ⟨wipe_same m2 hts |>.trans wipe_twice, ρi, Add F D, sb, b, sc, S2, hcnd, fun ρ3 H3 S3 g3 l3 => ?_⟩⟩
    have gt : Go ρi (Add F D) si (wipe σ wp) H ρ3 sc σ2 H3 := ((Go.grow gr Si).trans g2).trans g3
    have lt : Live si sc := (live_tg t _ _ _ hb).trans l3
    have ew : wipe σ2 wp = wipe σ wp := (wipe_same m2 hts).trans wipe_twice
    cases b with
    | false =>
      rw [if_neg (by decide)] at hturn
      show if _ then _ else _
      rw [if_neg (by decide)]
      cases hturn
      obtain ⟨S4, g4⟩ := S3.wipeAll wp
      rw [ew] at S4 g4
      have ga := gt.trans g4
      have la : Live si (wipeS sc wp) := live_wipe lt hnon
      refine ⟨hlt, ρ3, wipeS sc wp, acc, vs, S4, ?_, q.keep ga.keepM, Nat.le_succ_of_le hacc, g.add hD ga, l.trans la, fun j hj v e => wipeS_in wp sc j v hj e, ri.go ga la, hrest⟩
      rw [ga.hid D (.inr rfl)]
      exact eD
    | true =>
      rw [if_pos rfl] at hturn
      show if _ then _ else _
      rw [if_pos rfl]
      obtain ⟨dy, sd, hy, hturn⟩ := R.bind_ok hturn
      cases hturn
      refine ⟨ρ3, Add F D, sc, dy, sd, S3, hy, fun ρ4 w4 H4 S4 g4 l4 r4 _ => ?_⟩
      obtain ⟨S5, g5⟩ := S4.wipeAll wp
      rw [ew] at S5 g5
      have ga := (gt.trans g4).trans g5
      have la : Live si (wipeS sd wp) := live_wipe (lt.trans l4) hnon
      have e4 : H4 D = some (.lst vs) := by rw [ga.hid D (.inr rfl)]; exact eD
      have kD : Keep ρ4 (Mu ρ4 (Add F D) (wipeS sd wp).env (wipe σ wp)) H4 ρ4 (Mu ρ4 (Add F D) (wipeS sd wp).env (wipe σ wp)) (upd H4 D (.lst (vs ++ [w4]))) :=
        ⟨fun _ _ e => e, fun b o e n => by rw [upd_ne (fun z => n (.inr (.inl (.inr z))))]; exact e, fun _ _ _ n => n⟩
      refine ⟨vs, e4, by rw [← q.length, ← SZ_eq]; omega, hlt, ρ4, wipeS sd wp, acc ++ [dy], vs ++ [w4], S5.wrHid (.inr rfl), upd_same, ?_, by rw [List.length_append]; exact Nat.succ_le_succ hacc, (g.add hD ga).upd hD nF _, l.trans la, fun j hj v e => wipeS_in wp sd j v hj e, (ri.go ga la).keepM kD, hrest⟩
      exact ((q.keep ga.keepM).append (.cons ((r4.rep (noPk_ne hn)).keep g5.keepM) .nil)).keep kD
  · have e : i = xs.length := by omega
    subst e
    rw [List.drop_length] at hrun
    simp only [loopC] at hrun
    split at hrun
    case isFalse => cases hrun
    rename_i hchk
    cases hrun
    refine .inl ⟨okJ.stop _ _ H (P hchk), ?_⟩
    have gb : Go ρ1 F s1 σ H1 ρi (backS s1 s2 wp) σ H := Go.backAll hwo (gw.trans g)
    have kA : Keep ρ1 (Mu ρ1 F s1.env σ) H1 ρi (Mu ρi (Add F D) (backS s1 s2 wp).env σ) H := ⟨gb.keepM.rho, gb.keep, fun b o e n m => by
      rcases Mu.add.mp m with m | rfl
      · exact gb.keepM.less b o e n m
      · rw [hD] at e; cases e⟩
    obtain ⟨SF, _⟩ := S1.backAll hwo Si.unhide gb.keepM
    obtain ⟨SA, k2⟩ := S1.backAll hwo Si kA
    have nD : ¬ Mu ρi F (backS s1 s2 wp).env σ D := by
      rintro (m | m | m)
      · exact Si.rF D m (.inr rfl)
      · exact nF m
      · exact (SA.own_no m).2 (.inr rfl)
    have e0 : ∀ H0 : Hp, (∀ b o, H0 b = some o → ∃ o', H1 b = some o') → H0 D = none := fun H0 th => by
      cases e : H0 D with
      | none => rfl
      | some o => obtain ⟨o', e'⟩ := th D o e; rw [hD] at e'; cases e'
    have fr : Frs X.K _ ρi F (backS s1 s2 wp) σ H (.lst dl) (.ref D) := fun ds e => by
      cases e
      exact ⟨D, vs, rfl, e0 _ g1.there, SA, eD, nD, q.keep k2⟩
    have el : s2.env.length = s1.env.length := by rw [Si.el, wipe_length, ← S1.el]
    exact kk ρi (.ref D) H SF (g1.trans gb) (l1.trans (live_back el l)) fr.rep fun _ => fr
theorem s_comp {elt tg iter : Expr} {ifs : List Expr} {scope : Scope} {own : List (Str × Nat)} {pos : Pos} {eelt : E} {t : Tg} {k : Ik} {es cnd : List E} {wp : List Nat}
    (hc : X.calm = true) (hN : X.N.Nodup) (hi : PI X tg iter (TIt X.K G cal k es)) (ok : BlkOk X.N X.env.scope scope own) (hw : own.map (·.2) = wp)
    (hg : ∀ (s : Shared) (H : Hp) (C : Addr) (cl : List (Str × Addr)) (fp : List Addr), PG (X.blk s H scope (compEnvC scope cl C X.env) fp) tg (TTg X.K t))
    (ht : ∀ (s : Shared) (H : Hp) (C : Addr) (cl : List (Str × Addr)) (fp : List Addr), PTs (X.blk s H scope (compEnvC scope cl C X.env) fp) ifs (TTvs X.K G cal cnd))
    (he : ∀ (s : Shared) (H : Hp) (C : Addr) (cl : List (Str × Addr)) (fp : List Addr), PE (X.blk s H scope (compEnvC scope cl C X.env) fp) elt (TEv X.K G cal eelt))
    (hn : noPk eelt = true) (hpk : pkOut es wp = true) (hts : ∀ i ∈ tgSlots t, i ∈ wp) (hs : ∀ x, foldedSetIterable iter X.env x = pure x) :
    PE X (.ListComp elt [⟨tg, iter, ifs, 0⟩] scope pos) (TEv X.K G cal (.comp eelt t k es cnd wp)) := by
  subst hw
  exact (pe_lc hc hN hi ok hg ht he hs).imp fun σ H Q q => comp_imp hn hpk hts q
end
end Tw
end

section
set_option linter.all false
set_option autoImplicit false
set_option maxRecDepth 100000
set_option maxHeartbeats 4000000
/-! tuple += tuple; tuple(range(n)). -/
namespace Tw
open PySem L2 PyProof.Rows

theorem noI_tup : typeLookup (.type "tuple") (dunderI "add") = pure none := by rw [typeLookup_type, builtinLookup_eq_fast]; kernel_rfl
section
variable {prog : Program} {w : World} {A : Around} {E : Value → Shared → Prop} {s : Shared}
theorem imeets_tup {a b : Value} {S : PySem.Spec} {Q : Value → Shared → Prop} (ha : s.TypeIs a "tuple") (hb : s.TypeIs b "tuple") (g : Meets (Builtin.«tuple.__add__» ⟨[a, b], []⟩) S) (h : S A (wants Q E) s) :
    wpAny (model prog w) A (inplaceOp .Add a b) Q E s :=
  inplaceOp_concat ha hb noI_tup noFill_tuple_add seq_tuple_add (call_meets PySem.F.slot_tuple_add ha PySem.F.entry_tuple_add (PySem.F.args_tuple_add_2 _ _) g h)
theorem iadd_tup {t b : Addr} {vs ws : List Value} {Q : Value → Shared → Prop} (ht : IsTup s.heap t vs.toArray) (hb : IsTup s.heap b ws.toArray)
    (h0 : vs = [] → Q (.ref b) s) (h1 : vs ≠ [] → ws = [] → Q (.ref t) s) (h2 : vs ≠ [] → ws ≠ [] → Q (.ref s.heap.objs.size) { s with heap := s.heap.push { cls := .type "tuple", data := .seq (vs ++ ws).toArray } })
    (hsz : vs.length + ws.length ≤ sizeLine) : wpAny (model prog w) A (inplaceOp .Add (.ref t) (.ref b)) Q E s := by
  obtain ⟨⟨cls, dd, data, sl⟩, ho, hc, n, hd⟩ := id ht
  obtain ⟨⟨cls2, dd2, data2, sl2⟩, ho2, hc2, n2, hd2⟩ := id hb
  simp only at hc hd hc2 hd2
  subst hc hd hc2 hd2
  have e : vs.toArray ++ ws.toArray = (vs ++ ws).toArray := by simp
  by_cases hv : vs = []
  · exact imeets_tup ⟨_, ho, rfl⟩ ⟨_, ho2, rfl⟩ (tuple_addW0 t b vs.toArray ws.toArray n n2 dd dd2 sl sl2 (by simp [hv])) ⟨ho, ho2, h0 hv⟩
  · by_cases hw : ws = []
    · exact imeets_tup ⟨_, ho, rfl⟩ ⟨_, ho2, rfl⟩ (tuple_addW1 t b vs.toArray ws.toArray n n2 dd dd2 sl sl2 (by simpa using hv) (by simp [hw])) ⟨ho, ho2, h1 hv hw⟩
    · refine imeets_tup ⟨_, ho, rfl⟩ ⟨_, ho2, rfl⟩ (tuple_addW2 t b vs.toArray ws.toArray n n2 dd dd2 sl sl2 (by simpa using hv) (by simpa using hw) (by rw [List.size_toArray, List.size_toArray]; exact hsz)) ⟨ho, ho2, ?_⟩
      rw [e]
      exact h2 hv hw
end
section
variable {X : Cx}
theorem iop_catA : OpR X (inplaceOp .Add) (rCatA X.K) := by
  intro pins s σ H x y v u Q I rx ry h
  obtain ⟨a, b, xs, ys, rfl, rfl, ha, hb, hz, q0, q1, q2⟩ := h
  cases rx
  cases ry
  obtain ⟨its, r1, p1, _⟩ := I.tuple ha
  obtain ⟨its2, r2, p2, _⟩ := I.tuple hb
  refine iadd_tup p1 p2 (fun z => ⟨.ref b, H, I, rfl, q0 (r1.nil_iff.mp z)⟩) (fun z z' => ⟨.ref a, H, I, rfl, q1 (fun w => z (r1.nil_iff.mpr w)) (r2.nil_iff.mp z')⟩) (fun z z' => ?_) (by rw [← r1.length, ← r2.length]; exact hz)
  refine ⟨.ref s.heap.objs.size, _, I.laid (t' := s.toks) (o := .tup (xs ++ ys)) (fun b ob q => Heap.get?_push_of_some _ q) (Nat.le_refl _) ?_, rfl, q2 (fun w => z (r1.nil_iff.mpr w)) (fun w => z' (r2.nil_iff.mpr w)) _ (I.hok.fresh (Nat.le_refl _))⟩
  exact ⟨by rw [List.length_append]; exact hz, _, r1.append r2, IsTup.new _ _⟩
theorem reps_intsF {K : PySem.W.Frag} {ρ : List Addr} {M : Addr → Prop} {H : Hp} (f : Nat → Int) : ∀ l : List Nat, Reps K ρ M H (l.map fun k => .int (f k)) (l.map fun k => .int (f k))
  | [] => .nil
  | k :: l => .cons (.int _) (reps_intsF f l)
theorem reps_rng {K : PySem.W.Frag} {ρ : List Addr} {M : Addr → Prop} {H : Hp} (a b : Int) : Reps K ρ M H (rngL a b) (rgV a b) := reps_intsF (fun k => a + (k : Int)) _
theorem s_trg {G : Tab} {cal : Cal} {a : Expr} {ea : E} {p p1 p2 p3 : Pos} (hg : Gl X "tuple") (hm : X.mg "tuple" = none) (hg2 : Gl X "range") (hm2 : X.mg "range" = none) (ha : PE X a (TEv X.K G cal ea)) (hn : noPk ea = true) (hs : starEach [a] X.env = (false, eval a X.env) :: starEach [] X.env) (hc : X.calm = true) :
    PE X (.Call (.Name "tuple" p) [.Call (.Name "range" p1) [a] [] p2] [] p3) (TEv X.K G cal (.trg ea)) :=
  (pe_tupRg hc hg hm (prg_1 hg2 hm2 ha hs)).imp fun σ H Q q => by
    obtain ⟨ρ, F, s, d, s', S, hv, k⟩ := q
    simp only [evE] at hv
    obtain ⟨d1, s1, h1, hv⟩ := R.bind_ok hv
    refine ⟨ρ, F, s, d1, s1, S, h1, fun ρ1 w1 H1 S1 g1 l1 r1 _ => ?_⟩
    obtain ⟨n, rfl⟩ : ∃ n, d1 = .int n := by
      cases d1 <;> first | exact ⟨_, rfl⟩ | cases hv
    simp only at hv
    split at hv
    case isFalse => cases hv
    rename_i hd
    cases hv
    obtain ⟨d1, d2⟩ := Bool.and_eq_true_iff.mp hd
    have b1 := of_decide_eq_true d1
    have b2 := of_decide_eq_true d2
    exact ⟨n, (r1.rep (noPk_ne hn)).intI, .of_le (by omega) b2 (by omega) b1, fun p hp => (fin_of (e := .trg ea) rfl S1 g1 l1 k).tup S1.tracked (reps_rng 0 n) p hp⟩
end
end Tw
end

section
set_option linter.all false
set_option autoImplicit false
/-! sorted unlike numbers. -/
namespace Tw
theorem ins_mem {x z : Int} : ∀ {l : List Int}, z ∈ insI x l ↔ z = x ∨ z ∈ l
  | [] => by simp [insI]
  | y :: ys => by
    have ih := ins_mem (x := x) (z := z) (l := ys)
    unfold insI
    split
    · simp
    · split
      · rename_i h; subst h; simp
      · rw [List.mem_cons, ih, List.mem_cons]
        constructor
        · rintro (h | h | h)
          · exact .inr (.inl h)
          · exact .inl h
          · exact .inr (.inr h)
        · rintro (h | h | h)
          · exact .inr (.inl h)
          · exact .inl h
          · exact .inr (.inr h)
theorem ins_rise {x : Int} : ∀ {l : List Int}, l.Pairwise (· < ·) → (insI x l).Pairwise (· < ·)
  | [], _ => List.pairwise_singleton _ _
  | y :: ys, h => by
    obtain ⟨h1, h2⟩ := List.pairwise_cons.mp h
    unfold insI
    split
    · rename_i hx
      refine List.pairwise_cons.mpr ⟨fun z hz => ?_, h⟩
      rcases List.mem_cons.mp hz with rfl | hz
      · exact hx
      · have := h1 z hz; omega
    · split
      · exact h
      · refine List.pairwise_cons.mpr ⟨fun z hz => ?_, ins_rise h2⟩
        rcases ins_mem.mp hz with rfl | hz
        · omega
        · exact h1 z hz
theorem sd_mem {z : Int} : ∀ {l : List Int}, z ∈ sdI l ↔ z ∈ l
  | [] => Iff.rfl
  | x :: l => by
    show z ∈ insI x (sdI l) ↔ _
    rw [ins_mem, sd_mem, List.mem_cons]
theorem sd_rise : ∀ {l : List Int}, (sdI l).Pairwise (· < ·)
  | [] => .nil
  | x :: l => ins_rise sd_rise
theorem rise_ext : ∀ a b : List Int, a.Pairwise (· < ·) → b.Pairwise (· < ·) → (∀ i, i ∈ a ↔ i ∈ b) → a = b
  | [], [], _, _, _ => rfl
  | [], y :: ys, _, _, h => by have := (h y).mpr List.mem_cons_self; cases this
  | x :: xs, [], _, _, h => by have := (h x).mp List.mem_cons_self; cases this
  | x :: xs, y :: ys, ha, hb, h => by
    rw [List.pairwise_cons] at ha hb
    have hx := (h x).mp List.mem_cons_self
    have hy := (h y).mpr List.mem_cons_self
    have e : x = y := by
      rcases List.mem_cons.mp hx with e | hx
      · exact e
      · rcases List.mem_cons.mp hy with e | hy
        · exact e.symm
        · have := hb.1 x hx
          have := ha.1 y hy
          omega
    subst e
    rw [rise_ext xs ys ha.2 hb.2]
    intro i
    constructor
    · intro hi
      rcases List.mem_cons.mp ((h i).mp (List.mem_cons_of_mem _ hi)) with e | hj
      · have := ha.1 i hi; omega
      · exact hj
    · intro hi
      rcases List.mem_cons.mp ((h i).mpr (List.mem_cons_of_mem _ hi)) with e | hj
      · have := hb.1 i hi; omega
      · exact hj
end Tw
end

section
set_option linter.all false
set_option autoImplicit false
set_option maxRecDepth 100000
set_option maxHeartbeats 4000000
/-! sorted(set(x)). -/
namespace Tw
open PySem L2 PyProof.Rows

section
variable {X : Cx}
/-- set(t), of a tuple of ints -/
def rSetI (K : PySem.W.Frag) (w : World) : List V → Hp → VK → Prop := fun vs H Q => ∃ (a : Addr) (ns : List Int), vs = [V.ref a] ∧ SqT K H a (ns.map V.int) ∧ ns.length < 64 ∧
  ∀ n p, n ≤ ns.length → H p = none → Q (.ref p) (upd H p (SetO w p (fun j => decide (j ∈ ns)) n))
theorem cr_setI (hc : X.calm = true) : CallR X (.type "set") (rSetI X.K X.w) := by
  intro pins s σ H xs us Q I r h
  obtain ⟨a, ns, rfl, ha, hz, q⟩ := h
  rw [Vals.ref1 r]
  obtain ⟨its, rv, p1, _⟩ := I.tuple ha
  have hit : IntsAre its.toArray.toList ns := by simpa using ints_of_vals rv
  refine call_set_tupI ns (I.ok.hd hc) p1 hit (by show ns.length + 1 < 4096; omega) fun h' tk c R hle hk => ?_
  exact ⟨.ref _, upd H s.heap.objs.size (SetO X.w s.heap.objs.size (fun j => decide (j ∈ ns)) c), I.laid (t' := tk) hk (Nat.le_refl _) (setO_new R), rfl, q c _ hle (I.hok.fresh (Nat.le_refl _))⟩
theorem reps_intsG {K : PySem.W.Frag} {ρ : List Addr} {M : Addr → Prop} {H : Hp} : ∀ ns : List Int, Reps K ρ M H (ns.map .int) (ns.map V.int)
  | [] => .nil
  | n :: ns => .cons (.int _) (reps_intsG ns)
theorem s_sst {G : Tab} {cal : Cal} {a : Expr} {ea : E} {p p1 p2 p3 : Pos} (hg : Gl X "sorted") (hm : X.mg "sorted" = none) (hg2 : Gl X "set") (hm2 : X.mg "set" = none) (ha : PE X a (TEv X.K G cal ea)) (hn : noPk ea = true) (hs : starEach [a] X.env = (false, eval a X.env) :: starEach [] X.env) (hc : X.calm = true) :
    PE X (.Call (.Name "sorted" p) [.Call (.Name "set" p1) [a] [] p2] [] p3) (TEv X.K G cal (.sst ea)) :=
  (pe_callB (cr_sortedSet hc) hg hm (by decide +kernel) (pa_cons (pe_callTy (cr_setI hc) hg2 hm2 (by decide +kernel) (pa_cons ha pa_nil hs) (by decide) (by decide) hs rfl) pa_nil)).imp fun σ H Q q => by
    obtain ⟨ρ, F, s, d, s', S, hv, k⟩ := q
    simp only [evE] at hv
    obtain ⟨d1, s1, h1, hv⟩ := R.bind_ok hv
    refine ⟨ρ, F, s, d1, s1, S, h1, fun ρ1 w1 H1 S1 g1 l1 r1 _ => ?_⟩
    obtain ⟨ds, rfl⟩ : ∃ ds, d1 = .tup ds := by
      cases d1 <;> first | exact ⟨_, rfl⟩ | cases hv
    simp only at hv
    split at hv
    case h_2 => cases hv
    rename_i ns hns
    split at hv
    case isFalse => cases hv
    rename_i hlt
    cases hv
    obtain ⟨b, vs, rfl, hq, qq⟩ := (Rep0.of (r1.rep (noPk_ne hn))).tupI
    rw [qq.ints hns] at hq
    refine ⟨b, ns, rfl, hq, hlt, fun n p0 hle hp0 => ?_⟩
    refine ⟨p0, _, n, rfl, upd_same, by omega, fun ms p4 hr hmem hlen hp4 => ?_⟩
    have e : ms = sdI ns := rise_ext _ _ hr sd_rise fun i => by
      rw [hmem, decide_eq_true_eq, sd_mem]
    subst e
    have gr : Grow H1 (upd H1 p0 (SetO X.w p0 (fun j => decide (j ∈ ns)) n)) := Grow.upd hp0
    have S2 := S1.grow gr
    exact (fin_of (e := .sst ea) rfl S2 (g1.trans (.grow gr S1)) l1 k).lst S2.tracked (reps_intsG (sdI ns)) p4 hp4
theorem upC_lt {c : Nat} (h : c < 128) : upC c < 128 := by
  unfold upC
  split <;> omega
theorem upper_cps {a : List Nat} (h : a.all (fun c => decide (c < 128)) = true) : Txt.upper (⟨a.toArray⟩ : Str) = ⟨(a.map upC).toArray⟩ := SX.upper_S h
theorem s_upr {G : Tab} {cal : Cal} {o : Expr} {ea : E} {ap p2 : Pos} (ha : PE X o (TEv X.K G cal ea)) (hn : noPk ea = true) (hb : attributeBase o "upper" X.env (eval o X.env) = eval o X.env) (hl : (ap.endLine == p2.line) = true) :
    PE X (.Call (.Attribute o "upper" ap) [] [] p2) (TEv X.K G cal (.upr ea)) :=
  (pe_upper ha hb hl).imp fun σ H Q q => by
    obtain ⟨ρ, F, s, d, s', S, hv, k⟩ := q
    simp only [evE] at hv
    obtain ⟨d1, s1, h1, hv⟩ := R.bind_ok hv
    refine ⟨ρ, F, s, d1, s1, S, h1, fun ρ1 w1 H1 S1 g1 l1 r1 _ => ?_⟩
    obtain ⟨z, rfl⟩ : ∃ z, d1 = .str z := by
      cases d1 <;> first | exact ⟨_, rfl⟩ | cases hv
    simp only at hv
    split at hv
    case isFalse => cases hv
    rename_i hz
    cases hv
    obtain ⟨z1, z2⟩ := Bool.and_eq_true_iff.mp hz
    obtain ⟨rfl, _⟩ := (r1.rep (noPk_ne hn)).strI
    have hlen : (⟨z.toArray⟩ : Str).length = z.length := by simp [Str.length]
    refine ⟨⟨_, rfl⟩, _, rfl, rfl, by rw [hlen]; have := of_decide_eq_true z2; omega, ?_⟩
    rw [upper_cps z1]
    refine Fin.str (fin_of (e := .upr ea) rfl S1 g1 l1 k) ?_
    unfold strOk
    rw [Bool.and_eq_true]
    refine ⟨decide_eq_true ?_, ?_⟩
    · rw [List.length_map]
      have := of_decide_eq_true z2
      show _ ≤ 16777216
      omega
    · rw [List.all_eq_true]
      intro c hc
      obtain ⟨x, hx, rfl⟩ := List.mem_map.mp hc
      have := of_decide_eq_true (List.all_eq_true.mp z1 x hx)
      have := upC_lt this
      exact decide_eq_true (by omega)
end
end Tw
end

section
set_option linter.all false
set_option autoImplicit false
set_option maxRecDepth 100000
set_option maxHeartbeats 4000000
/-! Statements. -/
namespace Tw
open PySem L2 PyProof.Rows

/-! ### the slots that code assigns -/
mutual
def asgS : S → List Nat
  | .asg t _ => tgSlots t
  | .own i _ => [i]
  | .par is _ => is.map (·.1)
  | .aug i _ _ => [i]
  | .ife _ a b => asgB a ++ asgB b
  | .for t _ _ b => tgSlots t ++ asgB b
  | .whl _ b => asgB b
  | .ex _ => []
  | .ret _ => []
  | .retN => []
  | .setix _ _ _ => []
  | .setf _ _ _ => []
  | .augf _ _ _ _ => []
  | .brk => []
  | .cont => []
  | .pass => []
  | .raise _ _ => []
  | .slf _ => [0]
def asgB : List S → List Nat
  | [] => []
  | c :: cs => asgS c ++ asgB cs
end
theorem SameBut.refl {vs : List Nat} {σ : L2.St} : SameBut vs σ σ := ⟨rfl, fun _ _ => rfl⟩
theorem SameBut.trans {vs : List Nat} {σ σ1 σ2 : L2.St} (a : SameBut vs σ σ1) (b : SameBut vs σ1 σ2) : SameBut vs σ σ2 := ⟨b.1.trans a.1, fun j h => (b.2 j h).trans (a.2 j h)⟩
theorem SameBut.mono {vs ws : List Nat} {σ σ1 : L2.St} (a : SameBut vs σ σ1) (h : ∀ i ∈ vs, i ∈ ws) : SameBut ws σ σ1 := ⟨a.1, fun j hj => a.2 j fun z => hj (h j z)⟩
theorem SameBut.set {i : Nat} {o : Option V} {σ : L2.St} : SameBut [i] σ (σ.set i o) := ⟨by rw [List.length_set], fun j hj => List.getElem?_set_ne fun z => hj (by simp [z])⟩

/-- the ends as the interpreter tells them -/
def EndF (K : PySem.W.Frag) (A : List Nat) (ρ : List Addr) (F : Addr → Prop) (s : MS) (σ : L2.St) (H : Hp) (f : Fl) (s' : MS) (D : Ends) : Prop :=
  match f with
  | .nx => ∀ ρ' σ' H', Sim K ρ' F s' σ' H' → Go ρ F s σ H ρ' s' σ' H' → Live s s' → SameBut A σ σ' → D.nx σ' H'
  | .brk => ∀ ρ' σ' H', Sim K ρ' F s' σ' H' → Go ρ F s σ H ρ' s' σ' H' → Live s s' → SameBut A σ σ' → D.bk σ' H'
  | .cont => ∀ ρ' σ' H', Sim K ρ' F s' σ' H' → Go ρ F s σ H ρ' s' σ' H' → Live s s' → SameBut A σ σ' → D.ct σ' H'
  | .ret d => ∀ ρ' σ' w H', Sim K ρ' F s' σ' H' → Go ρ F s σ H ρ' s' σ' H' → Rep K ρ' (Mu ρ' F s'.env σ') H' d w → D.rt w H'
def TSt (K : PySem.W.Frag) (G : Tab) (cal : Cal) (c : S) : TS := fun D σ H => ∃ ρ F s f s', Sim K ρ F s σ H ∧ exS G cal c s = .ok f s' ∧ EndF K (asgS c) ρ F s σ H f s' D
def TSb (K : PySem.W.Frag) (G : Tab) (cal : Cal) (b : List S) : TS := fun D σ H => ∃ ρ F s f s', Sim K ρ F s σ H ∧ exB G cal b s = .ok f s' ∧ EndF K (asgB b) ρ F s σ H f s' D
section
variable {K : PySem.W.Frag} {A B : List Nat} {ρ ρ1 : List Addr} {F : Addr → Prop} {s s1 s' : MS} {σ σ1 : L2.St} {H H1 : Hp} {f : Fl} {D : Ends}
theorem EndF.after (g : Go ρ F s σ H ρ1 s1 σ1 H1) (l : Live s s1) (m : SameBut A σ σ1) (hB : ∀ i ∈ B, i ∈ A) (h : EndF K A ρ F s σ H f s' D) : EndF K B ρ1 F s1 σ1 H1 f s' D := by
  cases f with
  | nx => exact fun ρ' σ' H' S' g' l' m' => h ρ' σ' H' S' (g.trans g') (l.trans l') (m.trans (m'.mono hB))
  | brk => exact fun ρ' σ' H' S' g' l' m' => h ρ' σ' H' S' (g.trans g') (l.trans l') (m.trans (m'.mono hB))
  | cont => exact fun ρ' σ' H' S' g' l' m' => h ρ' σ' H' S' (g.trans g') (l.trans l') (m.trans (m'.mono hB))
  | ret d => exact fun ρ' σ' w H' S' g' r => h ρ' σ' w H' S' (g.trans g') r
end
section
variable {X : Cx} {G : Tab} {cal : Cal} {st : Stmt} {rest : List Stmt} {c : S} {cs : List S} {x y : Expr} {e : E} {pos : Pos}
theorem _root_.L2.PS.imp {X : Cx} {e : Stmt} {t t' : TS} (h : PS X e t) (i : ∀ D σ H, t' D σ H → t D σ H) : PS X e t' := ⟨fun pins s σ H D I q => h.run pins s σ H D I (i D σ H q)⟩
theorem _root_.L2.PSs.imp {X : Cx} {e : List Stmt} {t t' : TS} (h : PSs X e t) (i : ∀ D σ H, t' D σ H → t D σ H) : PSs X e t' := ⟨fun pins s σ H D I q => h.run pins s σ H D I (i D σ H q)⟩

theorem b_nil : PSs X [] (TSb X.K G cal []) := pss_nil.imp fun D σ H q => by
  obtain ⟨ρ, F, s, f, s', S, hv, k⟩ := q
  simp only [exB] at hv
  cases hv
  exact k ρ σ H S .refl .refl .refl
theorem b_cons (h1 : PS X st (TSt X.K G cal c)) (h2 : PSs X rest (TSb X.K G cal cs)) : PSs X (st :: rest) (TSb X.K G cal (c :: cs)) := (pss_cons h1 h2).imp fun D σ H q => by
  obtain ⟨ρ, F, s, f, s', S, hv, k⟩ := q
  simp only [exB] at hv
  obtain ⟨f1, s1, h1, hv⟩ := R.bind_ok hv
  refine ⟨ρ, F, s, f1, s1, S, h1, ?_⟩
  cases f1 with
  | nx =>
    intro ρ1 σ1 H1 S1 g1 l1 m1
    exact ⟨ρ1, F, s1, f, s', S1, hv, k.after g1 l1 (m1.mono fun i h => List.mem_append_left _ h) fun i h => List.mem_append_right _ h⟩
  | brk =>
    cases hv
    intro ρ1 σ1 H1 S1 g1 l1 m1
    exact k ρ1 σ1 H1 S1 g1 l1 (m1.mono fun i h => List.mem_append_left _ h)
  | cont =>
    cases hv
    intro ρ1 σ1 H1 S1 g1 l1 m1
    exact k ρ1 σ1 H1 S1 g1 l1 (m1.mono fun i h => List.mem_append_left _ h)
  | ret d =>
    cases hv
    intro ρ1 σ1 w H1 S1 g1 r1
    exact k ρ1 σ1 w H1 S1 g1 r1
theorem p_pass : PS X (.Pass pos) (TSt X.K G cal .pass) := ps_pass.imp fun D σ H q => by
  obtain ⟨ρ, F, s, f, s', S, hv, k⟩ := q
  simp only [exS] at hv
  cases hv
  exact k ρ σ H S .refl .refl .refl
theorem p_brk : PS X (.Break pos) (TSt X.K G cal .brk) := ps_break.imp fun D σ H q => by
  obtain ⟨ρ, F, s, f, s', S, hv, k⟩ := q
  simp only [exS] at hv
  cases hv
  exact k ρ σ H S .refl .refl .refl
theorem p_cont : PS X (.Continue pos) (TSt X.K G cal .cont) := ps_continue.imp fun D σ H q => by
  obtain ⟨ρ, F, s, f, s', S, hv, k⟩ := q
  simp only [exS] at hv
  cases hv
  exact k ρ σ H S .refl .refl .refl
theorem p_retN : PS X (.Return none pos) (TSt X.K G cal .retN) := ps_retN.imp fun D σ H q => by
  obtain ⟨ρ, F, s, f, s', S, hv, k⟩ := q
  simp only [exS] at hv
  cases hv
  exact k ρ σ _ H S .refl .non
theorem p_ret (hn : noPk e = true) (he : PE X x (TEv X.K G cal e)) : PS X (.Return (some x) pos) (TSt X.K G cal (.ret e)) := (ps_ret he).imp fun D σ H q => by
  obtain ⟨ρ, F, s, f, s', S, hv, k⟩ := q
  simp only [exS] at hv
  obtain ⟨d, s1, h1, hv⟩ := R.bind_ok hv
  cases hv
  exact ⟨ρ, F, s, d, _, S, h1, fun ρ1 w H1 S1 g1 l1 r1 _ => k ρ1 σ w H1 S1 g1 (r1.rep (noPk_ne hn))⟩
theorem p_ex (hs : swapsWith x none pos.line X.env = pure false) (he : PE X x (TEv X.K G cal e)) : PS X (.Expr x pos) (TSt X.K G cal (.ex e)) := (ps_expr he hs).imp fun D σ H q => by
  obtain ⟨ρ, F, s, f, s', S, hv, k⟩ := q
  simp only [exS] at hv
  obtain ⟨d, s1, h1, hv⟩ := R.bind_ok hv
  cases hv
  exact ⟨ρ, F, s, d, _, S, h1, fun ρ1 w H1 S1 g1 l1 r1 _ => k ρ1 σ H1 S1 g1 l1 .refl⟩
/-- a docstring is nothing -/
theorem p_doc {z : Str} {j : Nat} {p2 : Pos} : PS X (.Expr (.Constant (.str z) j p2) pos) (TSt X.K G cal .pass) := ps_doc.imp fun D σ H q => by
  obtain ⟨ρ, F, s, f, s', S, hv, k⟩ := q
  simp only [exS] at hv
  cases hv
  exact k ρ σ H S .refl .refl .refl
/-- name = e, the name no owner -/
theorem p_asgN {i : Nat} (hn : noPk e = true) (h : PS X st (tAsg (TEv X.K G cal e) (gName i))) : PS X st (TSt X.K G cal (.asg (.nm i) e)) := h.imp fun D σ H q => by
  obtain ⟨ρ, F, s, f, s', S, hv, k⟩ := q
  simp only [exS] at hv
  obtain ⟨d, s1, h1, hv⟩ := R.bind_ok hv
  refine ⟨ρ, F, s, d, s1, S, h1, fun ρ1 w H1 S1 g1 l1 r1 _ => ?_⟩
  rw [bindTg] at hv
  split at hv
  case h_2 => cases hv
  rename_i s2 hb
  split at hb
  case isFalse => cases hb
  cases hb
  cases hv
  obtain ⟨S2, g2⟩ := S1.putVal (i := i) (r1.rep (noPk_ne hn))
  exact k ρ1 _ H1 S2 (g1.trans g2) (l1.trans (live_put nofun)) .set
/-- name = a new list, owned by the name -/
theorem p_own {i : Nat} (hf : fresh e = true) (h : PS X st (tAsg (TEv X.K G cal e) (gName i))) : PS X st (TSt X.K G cal (.own i e)) := h.imp fun D σ H q => by
  obtain ⟨ρ, F, s, f, s', S, hv, k⟩ := q
  simp only [exS] at hv
  obtain ⟨d, s1, h1, hv⟩ := R.bind_ok hv
  refine ⟨ρ, F, s, d, s1, S, h1, fun ρ1 w H1 S1 g1 l1 r1 f1 => ?_⟩
  split at hv
  case h_2 => cases hv
  rename_i ds
  split at hv
  case isFalse => cases hv
  rename_i hi
  cases hv
  obtain ⟨S2, g2⟩ := S1.putOwn hi (f1 hf)
  exact k ρ1 _ H1 S2 (g2 _ _ _ g1) (l1.trans (live_put nofun)) .set
/-- (a, b) = e -/
theorem p_asgT {tg : Expr} {t : Tg} (hn : noPk e = true) (he : PE X x (TEv X.K G cal e)) (hg : PG X tg (TTg X.K t)) (hs : swapsWithSole [tg] x pos.line X.env = pure false) (hw : swappedStores [tg] x X.env = pure none) (h1 : (assignEach [tg] X.env).map (·.2) = [assign tg X.env]) :
    PS X (.Assign [tg] x pos) (TSt X.K G cal (.asg t e)) := (ps_asg he hg hs hw h1).imp fun D σ H q => by
  obtain ⟨ρ, F, s, f, s', S, hv, k⟩ := q
  simp only [exS] at hv
  obtain ⟨d, s1, h1, hv⟩ := R.bind_ok hv
  refine ⟨ρ, F, s, d, s1, S, h1, fun ρ1 w H1 S1 g1 l1 r1 _ => ?_⟩
  split at hv
  case h_2 => cases hv
  rename_i s2 hb
  cases hv
  exact ⟨ρ1, F, s1, d, _, S1, r1.rep (noPk_ne hn), hb, fun σ' S2 g2 m2 => k ρ1 σ' H1 S2 (g1.trans g2) (l1.trans (live_tg t _ _ _ hb)) m2⟩
/-! ### if, loops -/
theorem p_if {a b : List Stmt} {ca cb : List S} (hc : PT X x (TTv X.K G cal e)) (ha : PSs X a (TSb X.K G cal ca)) (hb : PSs X b (TSb X.K G cal cb)) : PS X (.If x a b pos) (TSt X.K G cal (.ife e ca cb)) := (ps_if hc ha hb).imp fun D σ H q => by
  obtain ⟨ρ, F, s, f, s', S, hv, k⟩ := q
  simp only [exS] at hv
  obtain ⟨t, s1, h1, hv⟩ := R.bind_ok hv
  refine ⟨ρ, F, s, t, s1, S, h1, fun ρ1 H1 S1 g1 l1 => ?_⟩
  cases t with
  | true =>
    rw [if_pos rfl] at hv ⊢
    exact ⟨ρ1, F, s1, f, s', S1, hv, k.after g1 l1 .refl fun i h => List.mem_append_left _ h⟩
  | false =>
    rw [if_neg (by decide)] at hv ⊢
    exact ⟨ρ1, F, s1, f, s', S1, hv, k.after g1 l1 .refl fun i h => List.mem_append_right _ h⟩
theorem p_while {b : List Stmt} {cb : List S} (hp : PassesOwn (model X.prog X.w) X.A X.env X.xe) (hc : PT X x (TTv X.K G cal e)) (hb : PSs X b (TSb X.K G cal cb)) : PS X (.While x b [] pos) (TSt X.K G cal (.whl e cb)) := (ps_while hp hc hb).imp fun D σ H q => by
  obtain ⟨ρ, F, s, f, s', S, hv, k⟩ := q
  simp only [exS] at hv
  refine ⟨fun m σi Hi => ∃ ρi si, Sim X.K ρi F si σi Hi ∧ loopW (evT G cal e) (exB G cal cb) m si = .ok f s' ∧ EndF X.K (asgB cb) ρi F si σi Hi f s' D, ⟨FU, ρ, s, S, hv, k⟩, ?_⟩
  rintro m σi Hi ⟨ρi, si, Si, hv, k⟩
  cases m with
  | zero => cases hv
  | succ m =>
    simp only [loopW] at hv
    obtain ⟨t, s1, h1, hv⟩ := R.bind_ok hv
    refine ⟨ρi, F, si, t, s1, Si, h1, fun ρ1 H1 S1 g1 l1 => ?_⟩
    cases t with
    | false =>
      rw [if_neg (by decide)] at hv ⊢
      cases hv
      exact k ρ1 σi H1 S1 g1 l1 .refl
    | true =>
      rw [if_pos rfl] at hv ⊢
      obtain ⟨f1, s2, h2, hv⟩ := R.bind_ok hv
      refine ⟨fun σ' H' => ∃ ρi si, Sim X.K ρi F si σ' H' ∧ loopW (evT G cal e) (exB G cal cb) m si = .ok f s' ∧ EndF X.K (asgB cb) ρi F si σ' H' f s' D, fun σ' H' w => ⟨m, Nat.lt_succ_self _, w⟩, ρ1, F, s1, f1, s2, S1, h2, ?_⟩
      cases f1 with
      | nx => exact fun ρ2 σ2 H2 S2 g2 l2 m2 => ⟨ρ2, s2, S2, hv, k.after (g1.trans g2) (l1.trans l2) m2 fun _ h => h⟩
      | cont => exact fun ρ2 σ2 H2 S2 g2 l2 m2 => ⟨ρ2, s2, S2, hv, k.after (g1.trans g2) (l1.trans l2) m2 fun _ h => h⟩
      | brk => cases hv; exact fun ρ2 σ2 H2 S2 g2 l2 m2 => k ρ2 σ2 H2 S2 (g1.trans g2) (l1.trans l2) m2
      | ret d => cases hv; exact fun ρ2 σ2 w H2 S2 g2 r2 => k ρ2 σ2 w H2 S2 (g1.trans g2) r2
theorem Ress.stm {ρ ρ' : List Addr} {F : Addr → Prop} {s s' : MS} {σ σ' : L2.St} {H H' : Hp} {es : List E} {ds : List D} {ws : List V} {A : List Nat} (g : Go ρ F s σ H ρ' s' σ' H') (l : Live s s') (m : SameBut A σ σ') (hA : pkOut es A = true) (r : Ress X.K ρ F s σ H es ds ws) : Ress X.K ρ' F s' σ' H' es ds ws := by
  have k := g.keepM
  induction r with
  | nil => exact .nil
  | @cons e es d ds w ws r _ ih =>
    unfold pkOut at hA
    rw [List.all_cons] at hA
    obtain ⟨h1, h2⟩ := Bool.and_eq_true_iff.mp hA
    refine .cons ?_ (ih h2)
    cases e with
    | pk i =>
      have hi : i ∉ A := by simpa using h1
      exact ⟨by rw [m.2 i hi]; exact r.1, l i r.2⟩
    | _ => exact Rep.keep k r
theorem p_for {tg iter : Expr} {b : List Stmt} {t : Tg} {kd : Ik} {es : List E} {cb : List S} (hp : PassesOwn (model X.prog X.w) X.A X.env X.xe) (hc : X.calm = true) (hi : PI X tg iter (TIt X.K G cal kd es)) (hg : PG X tg (TTg X.K t)) (hb : PSs X b (TSb X.K G cal cb))
    (hpk : pkOut es (tgSlots t ++ asgB cb) = true) (hs : ∀ x, foldedSetIterable iter X.env x = pure x) : PS X (.For tg iter b [] pos) (TSt X.K G cal (.for t kd es cb)) := (ps_for hp hc hi hg hb hs).imp fun D σ H q => by
  obtain ⟨ρ, F, s, f, s', S, hv, k⟩ := q
  simp only [exS] at hv
  obtain ⟨ds, s1, h1, hv⟩ := R.bind_ok hv
  split at hv
  case h_1 => cases hv
  rename_i xs hit
  refine ⟨ρ, F, s, ds, s1, xs, S, h1, hit, fun ρ1 ws H1 S1 g1 l1 r1 J okJ => ?_⟩
  refine ⟨fun i m σi Hi => i ≤ xs.length ∧ m = xs.length - i ∧ ∃ ρi si, Sim X.K ρi F si σi Hi ∧ Ress X.K ρi F si σi Hi es ds ws ∧ loopF (srcOk es ds (reDs es ds s1)) _ (xs.drop i) si = .ok f s' ∧ EndF X.K (tgSlots t ++ asgB cb) ρi F si σi Hi f s' D,
    ⟨xs.length, Nat.zero_le _, rfl, ρ1, s1, S1, r1, by rw [List.drop_zero]; exact hv, k.after g1 l1 .refl fun _ h => h⟩, ?_⟩
  rintro i m σi Hi ⟨hi, rfl, ρi, si, Si, ri, hrun, ki⟩
  have P : ∀ (_ : srcOk es ds (reDs es ds s1) si = true), Rep0s X.K ρi (Mu ρi F si.env σi) Hi (reDs es ds s1) ws := fun h => by
    have := ri.rep0s Si
    rw [srcOk_eq h] at this
    exact this
  by_cases hlt : i < xs.length
  · rw [List.drop_eq_getElem_cons hlt] at hrun
    simp only [loopF] at hrun
    split at hrun
    case isFalse => cases hrun
    rename_i hchk
    obtain ⟨f1, sn, hturn, hrest⟩ := R.bind_ok hrun
    split at hturn
    case h_2 => cases hturn
    rename_i sb hbd
    refine .inr ⟨okJ.go i _ _ Hi hlt (P hchk), fun σ' H' => i + 1 ≤ xs.length ∧ ∃ ρi si, Sim X.K ρi F si σ' H' ∧ Ress X.K ρi F si σ' H' es ds ws ∧ loopF (srcOk es ds (reDs es ds s1)) _ (xs.drop (i + 1)) si = .ok f s' ∧ EndF X.K (tgSlots t ++ asgB cb) ρi F si σ' H' f s' D,
      fun σ' H' ⟨a1, a2⟩ => ⟨xs.length - (i + 1), by omega, a1, rfl, a2⟩, fun x H' hy => ?_⟩
    obtain ⟨gr, d, hd, rd⟩ := okJ.yld i _ _ Hi x H' hlt Si.tracked (P hchk) hy
    have ed : d = xs[i] := by rw [List.getElem?_eq_getElem hlt] at hd; exact (Option.some.inj hd).symm
    subst ed
    refine ⟨ρi, F, si, xs[i], sb, Si.grow gr, rd, hbd, fun σ2 S2 g2 m2 => ⟨ρi, F, sb, f1, sn, S2, hturn, ?_⟩⟩
    have gt : Go ρi F si σi Hi ρi sb σ2 H' := (Go.grow gr Si).trans g2
    have lt : Live si sb := live_tg t _ _ _ hbd
    have mt : SameBut (tgSlots t ++ asgB cb) σi σ2 := m2.mono fun i h => List.mem_append_left _ h
    have mr : ∀ {σ3 : L2.St}, SameBut (asgB cb) σ2 σ3 → SameBut (tgSlots t ++ asgB cb) σi σ3 := fun m3 => mt.trans (m3.mono fun i h => List.mem_append_right _ h)
    cases f1 with
    | nx => exact fun ρ3 σ3 H3 S3 g3 l3 m3 => ⟨hlt, ρ3, sn, S3, ri.stm (gt.trans g3) (lt.trans l3) (mr m3) hpk, hrest, ki.after (gt.trans g3) (lt.trans l3) (mr m3) fun _ h => h⟩
    | cont => exact fun ρ3 σ3 H3 S3 g3 l3 m3 => ⟨hlt, ρ3, sn, S3, ri.stm (gt.trans g3) (lt.trans l3) (mr m3) hpk, hrest, ki.after (gt.trans g3) (lt.trans l3) (mr m3) fun _ h => h⟩
    | brk => cases hrest; exact fun ρ3 σ3 H3 S3 g3 l3 m3 => ki ρ3 σ3 H3 S3 (gt.trans g3) (lt.trans l3) (mr m3)
    | ret d => cases hrest; exact fun ρ3 σ3 w H3 S3 g3 r3 => ki ρ3 σ3 w H3 S3 (gt.trans g3) r3
  · have e : i = xs.length := by omega
    subst e
    rw [List.drop_length] at hrun
    simp only [loopF] at hrun
    split at hrun
    case isFalse => cases hrun
    rename_i hchk
    cases hrun
    exact .inl ⟨okJ.stop _ _ Hi (P hchk), ki ρi σi Hi Si .refl .refl .refl⟩

/-! ### op= -/
def rAug (K : PySem.W.Frag) (o : Bo) : R2 := fun x y H Q => ∃ ρ M dx dy d, Tracked M H ∧ Rep K ρ M H dx x ∧ Rep0 K ρ M H dy y ∧ augD o dx dy = some d ∧ Fin K ρ M H d Q
theorem op_aug {o : Bo} : OpR X (inplaceOp (boP o)) (rAug X.K o) := by
  intro pins s σ H x y v u Q I rx ry h
  obtain ⟨ρ, M, dx, dy, d, t, r1, r2, hd, f⟩ := h
  unfold augD at hd
  split at hd
  · cases hd
  · rename_i i j hne
    rw [r1.intI] at rx
    rw [r2.intI] at ry
    cases o with
    | add => cases hd; exact iop_add pins s σ H _ _ v u Q I rx ry ⟨_, _, rfl, rfl, f.int⟩
    | sub => cases hd; exact iop_sub pins s σ H _ _ v u Q I rx ry ⟨_, _, rfl, rfl, f.int⟩
    | mul =>
      simp only [binI] at hd
      split at hd
      · rename_i h
        cases hd
        obtain ⟨t, rfl⟩ := rx
        obtain ⟨t', rfl⟩ := ry
        exact imul_int ⟨.int _, H, I.tok _, ⟨_, rfl⟩, f.int⟩ (mulOk_ok h)
      · cases hd
    | fdiv =>
      simp only [binI] at hd
      split at hd
      · rename_i h
        cases hd
        obtain ⟨h1, h2⟩ := Bool.and_eq_true_iff.mp h
        exact iop_fdivW pins s σ H _ _ v u Q I rx ry ⟨_, _, rfl, rfl, wide_div (of_decide_eq_true h1) (mid_ok h2) (by decide) (by decide), f.int⟩
      · cases hd
    | mod =>
      simp only [binI] at hd
      split at hd
      · rename_i h
        cases hd
        exact iop_mod pins s σ H _ _ v u Q I rx ry ⟨_, _, rfl, rfl, of_decide_eq_true h, f.int⟩
      · cases hd
    | pow => exact absurd rfl hne
    | shl =>
      simp only [binI] at hd
      split at hd
      · rename_i h
        cases hd
        obtain ⟨h1, h⟩ := Bool.and_eq_true_iff.mp h
        obtain ⟨h2, h3⟩ := Bool.and_eq_true_iff.mp h
        exact iop_shl pins s σ H _ _ v u Q I rx ry ⟨_, _, rfl, rfl, ⟨of_decide_eq_true h1, of_decide_eq_true h2, of_decide_eq_true h3⟩, f.int⟩
      · cases hd
    | shr =>
      simp only [binI] at hd
      split at hd
      · rename_i h
        cases hd
        exact iop_shr pins s σ H _ _ v u Q I rx ry ⟨_, _, rfl, rfl, of_decide_eq_true h, f.int⟩
      · cases hd
    | band =>
      simp only [binI] at hd
      split at hd
      · rename_i h
        cases hd
        obtain ⟨h1, h2⟩ := Bool.and_eq_true_iff.mp h
        refine iop_and pins s σ H _ _ v u Q I rx ry ⟨_, _, rfl, rfl, ?_⟩
        show Q (.int (Builtin.bitAnd i j)) H
        rw [bitAnd_nn (of_decide_eq_true h1) (of_decide_eq_true h2)]
        exact f.int
      · cases hd
    | bor =>
      simp only [binI] at hd
      split at hd
      · rename_i h
        cases hd
        obtain ⟨h1, h2⟩ := Bool.and_eq_true_iff.mp h
        refine iop_or pins s σ H _ _ v u Q I rx ry ⟨_, _, rfl, rfl, ?_⟩
        show Q (.int (Builtin.bitOr i j)) H
        rw [Bits.bitOr_pp (of_decide_eq_true h1) (of_decide_eq_true h2)]
        exact f.int
      · cases hd
  · rename_i a b
    obtain ⟨e1, o1⟩ := r1.strI
    obtain ⟨e2, o2⟩ := r2.strI
    unfold fitS at hd
    split at hd
    · rename_i hz
      cases hd
      rw [e1] at rx
      rw [e2] at ry
      have e : ((⟨a.toArray⟩ : Str) ++ (⟨b.toArray⟩ : Str)) = ⟨(a ++ b).toArray⟩ := by
        show (⟨a.toArray ++ b.toArray⟩ : Str) = _
        simp
      refine iop_add_str pins s σ H _ _ v u Q I rx ry ⟨_, _, rfl, rfl, ?_, ?_⟩
      · show a.toArray.size + b.toArray.size ≤ sizeLine
        rw [← SZ_eq]
        simpa using hz
      · rw [e]
        exact f.str (strOk_app o1 o2 hz)
    · cases hd
  · obtain ⟨a, vs, rfl, h1, q1⟩ := (Rep0.of r1).tupI
    obtain ⟨b, ws, rfl, h2, q2⟩ := r2.tupI
    obtain ⟨e, he, rfl⟩ := Option.map_eq_some_iff.mp hd
    obtain ⟨rfl, hz⟩ := fitL_ok he
    refine iop_catA pins s σ H _ _ v u Q I rx ry ⟨a, b, vs, ws, rfl, rfl, h1, h2, ?_, fun e => ?_, fun _ e => ?_, fun _ _ p hp => f.tup t (q1.append q2) p hp⟩
    · rw [← q1.length, ← q2.length, ← List.length_append]
      exact hz
    · have e := q1.nil_iff.mp e
      subst e
      exact f.same (r2.rep nofun) nofun
    · have e := q2.nil_iff.mp e
      subst e
      rw [List.append_nil] at f
      exact f.same r1 nofun
  · cases hd
theorem p_aug {i : Nat} {o : Bo} (h : PS X st (tAug i (TEv X.K G cal e) (rAug X.K o))) : PS X st (TSt X.K G cal (.aug i o e)) := h.imp fun D σ H q => by
  obtain ⟨ρ, F, s, f, s', S, hv, k⟩ := q
  simp only [exS] at hv
  split at hv
  case h_2 => cases hv
  rename_i d0 he
  obtain ⟨d, s1, h1, hv⟩ := R.bind_ok hv
  split at hv
  case h_2 => cases hv
  rename_i d2 hd
  cases hv
  obtain ⟨w0, e0, r0⟩ := S.sv i d0 he
  refine ⟨w0, e0, ρ, F, s, d, s1, S, h1, fun ρ1 w H1 S1 g1 l1 r1 _ => ⟨ρ1, _, d0, _, d2, S1.tracked, r0.keep g1.keepM, r1.rep0 S1, hd, fun z H2 gr rz _ => ?_⟩⟩
  obtain ⟨S2, g2⟩ := (S1.grow gr).putVal (i := i) rz
  exact k ρ1 _ H2 S2 ((g1.trans (.grow gr S1)).trans g2) (l1.trans (live_put nofun)) .set
/-! ### o[k] = v -/
def rSetD (K : PySem.W.Frag) : TSet := fun o i v H Q => ∃ ρ M a vs ds dk dv ds', o = .ref a ∧ H a = some (.lst vs) ∧ Reps K ρ M H ds vs ∧ Rep K ρ M H dk i ∧ Rep K ρ M H dv v ∧ setM (.lst ds) dk dv = some (.lst ds') ∧ ∀ vs', Reps K ρ M H ds' vs' → Q (upd H a (.lst vs'))
theorem set_D : PSet X (rSetD X.K) := by
  intro pins s σ H o i v ov iv u Q I ro ri rv h
  obtain ⟨ρ, M, a, vs, ds, dk, dv, ds', rfl, hH, q, rk, rv', hs, fin⟩ := h
  cases dk with
  | int j =>
    obtain ⟨n, hn, e⟩ := Option.map_eq_some_iff.mp (show (ixN ds.length j).map _ = some _ from hs)
    cases e
    rw [rk.intI] at ri
    refine set_list pins s σ H _ _ v ov iv u Q I ro ri rv ⟨a, vs, j, n, rfl, rfl, hH, ?_, fin _ (q.set rv' n)⟩
    rw [← ixN_eq, ← q.length]
    exact hn
  | _ => cases hs
/-- the change is done -/
theorem set_end {eo : E} {ρ ρ2 : List Addr} {F : Addr → Prop} {s s2 s' : MS} {σ : L2.St} {H H2 : Hp} {d1 dk dv c : D} {w1 wk wv : V} {Q : Hp → Prop}
    (S2 : Sim X.K ρ2 F s2 σ H2) (g : Go ρ F s σ H ρ2 s2 σ H2) (l : Live s s2) (r1 : Res X.K ρ2 F s2 σ H2 eo d1 w1) (rk : Rep X.K ρ2 (Mu ρ2 F s2.env σ) H2 dk wk) (rv : Rep X.K ρ2 (Mu ρ2 F s2.env σ) H2 dv wv)
    (hs : setM (reD eo d1 s2) dk dv = some c) (hw : wrTo eo d1 c s2 = some s') (k : ∀ H', Sim X.K ρ2 F s' σ H' → Go ρ F s σ H ρ2 s' σ H' → Live s s' → Q H') : rSetD X.K w1 wk wv H2 Q := by
  have key : ∃ a vs ds, w1 = .ref a ∧ H2 a = some (.lst vs) ∧ Reps X.K ρ2 (Mu ρ2 F s2.env σ) H2 ds vs ∧ reD eo d1 s2 = .lst ds ∧
      ∀ ys vs', c = .lst ys → Reps X.K ρ2 (Mu ρ2 F s2.env σ) H2 ys vs' → Q (upd H2 a (.lst vs')) := by
    unfold wrTo at hw
    split at hw
    · rename_i i
      split at hw
      case isFalse => cases hw
      rename_i ho
      cases hw
      unfold isOwn at ho
      split at ho
      case h_2 => cases ho
      rename_i d0 eo
      obtain ⟨a, e2, q, n1, n2⟩ := S2.so i _ eo
      have e3 : σ[i]? = some (some w1) := r1.1
      rw [e2] at e3
      cases e3
      cases q with
      | lst hH q =>
        refine ⟨a, _, _, rfl, hH, q, by unfold reD; simp only [eo], fun ys vs' e q' => ?_⟩
        subst e
        obtain ⟨S3, g3, l3, k3⟩ := S2.setOwn eo e2 q'
        exact k _ S3 (g.trans g3) (l.trans l3)
      | obj _ hH q _ =>
        exfalso
        unfold reD at hs
        simp only [eo] at hs
        cases hs
    · rename_i hne
      split at hw
      case h_2 => cases hw
      rename_i i
      have rr0 : Rep X.K ρ2 (Mu ρ2 F s2.env σ) H2 (.ref i) w1 := r1.rep (fun j z => hne j z)
      cases rr0 with
      | ref er =>
        have hi : i < s2.hp.length := by rw [← S2.rl]; exact (List.getElem?_eq_some_iff.mp er).1
        cases hO : s2.hp[i]? with
        | none => rw [List.getElem?_eq_none_iff] at hO; omega
        | some ob =>
          cases S2.hp i ob _ hO er with
          | lst hH q =>
            refine ⟨_, _, _, rfl, hH, q, ?_, fun ys vs' e q' => ?_⟩
            · cases eo with
              | pk j => exact absurd rfl (hne j)
              | _ => exact (show deref (.ref i) s2.hp = _ by unfold deref; simp only [hO])
            · subst e
              obtain ⟨S3, g3, l3, k3⟩ := S2.setRef er hw q'
              exact k _ S3 (g.trans g3) (l.trans l3)
  obtain ⟨a, vs, ds, rfl, hH, q, e, kk⟩ := key
  rw [e] at hs
  cases dk with
  | int j =>
    obtain ⟨n, hn, e⟩ := Option.map_eq_some_iff.mp (show (ixN ds.length j).map _ = some _ from hs)
    subst e
    exact ⟨ρ2, _, a, vs, ds, .int j, dv, _, rfl, hH, q, rk, rv, hs, fun vs' q' => kk _ vs' rfl q'⟩
  | _ => cases hs
theorem p_setix {o i : Expr} {eo ei : E} {tpos : Pos} (hn : noPk e = true) (hni : noPk ei = true) (he : PE X x (TEv X.K G cal e)) (ho : PE X o (TEv X.K G cal eo)) (hi : PE X i (TEv X.K G cal ei))
    (ha : ∀ v, assign (.Subscript o i tpos) X.env v = (do
      let ov ← holding [v] (eval o X.env)
      let iv ← holding [v, ov] (eval i X.env)
      standAt tpos
      holding [v, ov, iv] (setItem ov iv v)
      release [v, ov, iv] [])) (hs : swapsWithSole [.Subscript o i tpos] x pos.line X.env = pure false) (hw : swappedStores [.Subscript o i tpos] x X.env = pure none) (h1 : (assignEach [.Subscript o i tpos] X.env).map (·.2) = [assign (.Subscript o i tpos) X.env]) :
    PS X (.Assign [.Subscript o i tpos] x pos) (TSt X.K G cal (.setix eo ei e)) := (ps_asg he (pg_sub ho hi set_D ha) hs hw h1).imp fun D σ H q => by
  obtain ⟨ρ, F, s, f, s', S, hv, k⟩ := q
  simp only [exS] at hv
  obtain ⟨d, s1, h1, hv⟩ := R.bind_ok hv
  obtain ⟨d2, s2, h2, hv⟩ := R.bind_ok hv
  obtain ⟨d3, s3, h3, hv⟩ := R.bind_ok hv
  split at hv
  case h_2 => cases hv
  rename_i c hc
  split at hv
  case h_2 => cases hv
  rename_i s4 hw
  cases hv
  refine ⟨ρ, F, s, d, s1, S, h1, fun ρ1 w1 H1 S1 g1 l1 r1 _ => ⟨ρ1, F, s1, d2, s2, S1, h2, fun ρ2 w2 H2 S2 g2 l2 r2 _ => ⟨ρ2, F, s2, d3, s3, S2, h3, fun ρ3 w3 H3 S3 g3 l3 r3 _ => ?_⟩⟩⟩
  exact set_end S3 ((g1.trans g2).trans g3) ((l1.trans l2).trans l3) (r2.go g3 l3) (r3.rep (noPk_ne hni)) (((r1.go g2 l2).go g3 l3).rep (noPk_ne hn)) hc hw fun H' S' g' l' => k ρ3 σ H' S' g' l' .refl
end
end Tw
end

section
set_option linter.all false
set_option autoImplicit false
set_option maxRecDepth 100000
set_option maxHeartbeats 4000000
/-! a, b = x, y. -/
namespace Tw
open PySem L2 PyProof.Rows

/-- hidden besides: all of L -/
def Adds (F : Addr → Prop) : List Addr → Addr → Prop
  | [] => F
  | a :: L => Add (Adds F L) a
section
variable {K : PySem.W.Frag} {ρ ρ' ρ0 : List Addr} {F : Addr → Prop} {s s' s0 : MS} {σ σ' σ0 : L2.St} {H H' H0 : Hp}
theorem Adds.iff {L : List Addr} {b : Addr} : Adds F L b ↔ F b ∨ b ∈ L := by
  induction L with
  | nil => simp [Adds]
  | cons a L ih =>
    show (Adds F L b ∨ b = a) ↔ _
    rw [ih, List.mem_cons]
    constructor
    · rintro ((h | h) | h)
      · exact .inl h
      · exact .inr (.inr h)
      · exact .inr (.inl h)
    · rintro (h | h | h)
      · exact .inl (.inl h)
      · exact .inr h
      · exact .inl (.inr h)
theorem Adds.swap {a : Addr} {L : List Addr} : Adds (Add F a) L = Adds F (a :: L) := by
  funext b
  apply propext
  rw [Adds.iff, Adds.iff, List.mem_cons]
  constructor
  · rintro ((h | h) | h)
    · exact .inl h
    · exact .inr (.inl h)
    · exact .inr (.inr h)
  · rintro (h | h | h)
    · exact .inl (.inl h)
    · exact .inl (.inr h)
    · exact .inr h
/-- the values by their flags: L the lists that are new, in the order of the flags -/
inductive ParR (K : PySem.W.Frag) (H0 : Hp) (ρ : List Addr) (M : Addr → Prop) (H : Hp) : List Addr → List (Nat × Bool) → List D → List V → Prop
  | nil : ParR K H0 ρ M H [] [] [] []
  | val {L : List Addr} {i : Nat} {is : List (Nat × Bool)} {d : D} {ds : List D} {w : V} {ws : List V} : Rep K ρ M H d w → ParR K H0 ρ M H L is ds ws → ParR K H0 ρ M H L ((i, false) :: is) (d :: ds) (w :: ws)
  | own {L : List Addr} {i : Nat} {is : List (Nat × Bool)} {xs ds : List D} {a : Addr} {vs ws : List V} : H0 a = none → H a = some (.lst vs) → Reps K ρ M H xs vs → ParR K H0 ρ M H L is ds ws →
      ParR K H0 ρ M H (a :: L) ((i, true) :: is) (.lst xs :: ds) (.ref a :: ws)
theorem ParR.keep {M M' : Addr → Prop} {L : List Addr} {is : List (Nat × Bool)} {ds : List D} {ws : List V} {H1 : Hp} (k : Keep ρ M H ρ' M' H') (th : ∀ b o, H1 b = some o → ∃ o', H0 b = some o') (hl : ∀ a ∈ L, H' a = H a) (r : ParR K H0 ρ M H L is ds ws) : ParR K H1 ρ' M' H' L is ds ws := by
  induction r with
  | nil => exact .nil
  | val h _ ih => exact .val (h.keep k) (ih hl)
  | @own L i is xs ds a vs ws e0 e q _ ih =>
    refine .own ?_ ?_ (q.keep k) (ih fun b hb => hl b (List.mem_cons_of_mem _ hb))
    · cases e1 : H1 a with
      | none => rfl
      | some o => obtain ⟨o', e'⟩ := th a o e1; rw [e0] at e'; cases e'
    · rw [hl a List.mem_cons_self]; exact e
theorem ParR.fresh {M : Addr → Prop} {L : List Addr} {is : List (Nat × Bool)} {ds : List D} {ws : List V} (r : ParR K H0 ρ M H L is ds ws) : ∀ a ∈ L, H0 a = none := by
  induction r with
  | nil => simp
  | val _ _ ih => exact ih
  | own e0 _ _ _ ih => intro b hb; rcases List.mem_cons.mp hb with rfl | hb; exact e0; exact ih b hb
theorem Go.putOwn {i : Nat} {d : D} {a : Addr} (g : Go ρ0 F s0 σ0 H0 ρ s σ H) (e0 : H0 a = none) : Go ρ0 F s0 σ0 H0 ρ (s.put i (.own d)) (σ.set i (some (.ref a))) H := by
  refine ⟨g.pre, g.new, g.keep, g.hid, g.there, fun b h => ?_, g.bs, g.hl⟩
  obtain ⟨j, d', e1, e2⟩ := h
  have e1 : (s.env.set i (.own d))[j]? = some (.own d') := e1
  by_cases hj : i = j
  · subst hj
    by_cases hl : i < σ.length
    · rw [List.getElem?_set_self hl] at e2
      cases e2
      exact .inr e0
    · rw [List.getElem?_eq_none (by simpa using hl)] at e2
      cases e2
  · rw [List.getElem?_set_ne hj] at e1 e2
    exact g.own b ⟨j, d', e1, e2⟩
/-- the slots by the values -/
def setAll : List (Nat × Bool) → List V → L2.St → L2.St
  | (i, _) :: is, w :: ws, σ => setAll is ws (σ.set i (some w))
  | _, _, σ => σ
theorem setAll_same : ∀ (is : List (Nat × Bool)) (ws : List V) (σ : L2.St), SameBut (is.map (·.1)) σ (setAll is ws σ)
  | [], _, _ => .refl
  | _ :: _, [], _ => .refl
  | (i, b) :: is, w :: ws, σ => by
    have h := setAll_same is ws (σ.set i (some w))
    refine ⟨h.1.trans (by rw [List.length_set]), fun j hj => ?_⟩
    have hj : j ∉ i :: is.map (·.1) := hj
    rw [List.mem_cons, not_or] at hj
    exact (h.2 j hj.2).trans (List.getElem?_set_ne (Ne.symm hj.1))
theorem put_all : ∀ (is : List (Nat × Bool)) (L : List Addr) (ds : List D) (ws : List V) (s : MS) (σ : L2.St) (s' : MS), Sim K ρ (Adds F L) s σ H → L.Nodup → Go ρ0 F s0 σ0 H0 ρ s σ H → ParR K H0 ρ (Mu ρ (Adds F L) s.env σ) H L is ds ws → putPar is ds s = some s' →
    Sim K ρ F s' (setAll is ws σ) H ∧ Go ρ0 F s0 σ0 H0 ρ s' (setAll is ws σ) H ∧ Live s s'
  | [], L, ds, ws, s, σ, s', S, nd, g, r, h => by
    cases r
    cases h
    exact ⟨S, g, .refl⟩
  | (i, false) :: is, L, ds, ws, s, σ, s', S, nd, g, r, h => by
    cases r with
    | val r0 rs =>
      simp only [putPar] at h
      split at h
      case isFalse => cases h
      obtain ⟨S1, g1⟩ := S.putVal (i := i) r0
      have g2 : Go ρ0 F s0 σ0 H0 ρ (s.put i (.val _)) (σ.set i (some _)) H := ⟨g.pre, g.new, g.keep, g.hid, g.there, fun b h => (by
        rcases g1.own b h with q | q
        · exact g.own b q
        · cases e : H0 b with
          | none => exact .inr rfl
          | some o => obtain ⟨o', e'⟩ := g.there b o e; rw [q] at e'; cases e'), g.bs, g.hl⟩
      obtain ⟨a, b, c⟩ := put_all is L _ _ _ _ s' S1 nd g2 (rs.keep g1.keepM (fun b o e => ⟨o, e⟩) fun _ _ => rfl) h
      exact ⟨a, b, (live_put (i := i) (v := .val _) nofun).trans c⟩
  | (i, true) :: is, L, ds, ws, s, σ, s', S, nd, g, r, h => by
    cases r with
    | @own L i is xs ds a vs ws e0 ea q rs =>
      simp only [putPar] at h
      split at h
      case isFalse => cases h
      rename_i hi
      have SA : Sim K ρ (Add (Adds F L) a) s σ H := S
      have na : ¬ Mu ρ (Adds F L) s.env σ a := by
        rintro (m | m | m)
        · exact SA.rF a m (.inr rfl)
        · rcases Adds.iff.mp m with m | m
          · cases e : H0 a with
            | none =>
              have := g.hid a m
              rw [ea, e0] at this
              cases this
            | some o => rw [e0] at e; cases e
          · exact (List.nodup_cons.mp nd).1 m
        · exact (SA.own_no m).2 (.inr rfl)
      have fr : Frs K H0 ρ (Adds F L) s σ H (.lst xs) (.ref a) := fun ds e => by
        cases e
        exact ⟨a, vs, rfl, e0, SA, ea, na, q⟩
      obtain ⟨S1, _⟩ := SA.unhide.putOwn hi fr
      have k : Keep ρ (Mu ρ (Adds F (a :: L)) s.env σ) H ρ (Mu ρ (Adds F L) (s.put i (.own (.lst xs))).env (σ.set i (some (.ref a)))) H := .mu fun b m => by
        rcases m with m | m | m
        · exact .inl m
        · exact .inr (.inl (.inl m))
        · obtain ⟨j, d', e1, e2⟩ := m
          have e1 : (s.env.set i (.own (.lst xs)))[j]? = some (.own d') := e1
          by_cases hj : i = j
          · subst hj
            rw [List.getElem?_set_self (by rw [← S.el]; exact hi)] at e2
            cases e2
            exact .inr (.inl (.inr rfl))
          · rw [List.getElem?_set_ne hj] at e1 e2
            exact .inr (.inr ⟨j, d', e1, e2⟩)
      obtain ⟨x, y, z⟩ := put_all is L _ _ _ _ s' S1 (List.nodup_cons.mp nd).2 (g.putOwn e0) (rs.keep k (fun b o e => ⟨o, e⟩) fun _ _ => rfl) h
      exact ⟨x, y, (live_put (i := i) (v := .own _) nofun).trans z⟩
end

section
variable {X : Cx} {G : Tab} {cal : Cal} {a : Expr} {es : List Expr} {ea : E} {ees : List E} {pos : Pos}
def TPv (K : PySem.W.Frag) (G : Tab) (cal : Cal) (is : List (Nat × Bool)) (es : List E) : TA := fun σ H Q => ∃ ρ F s ds s' s1 s2, Sim K ρ F s σ H ∧ evEs G cal es s = .ok ds s' ∧ putPar is ds s1 = some s2 ∧
  ∀ ρ' ws H' L, Sim K ρ' (Adds F L) s' σ H' → L.Nodup → Go ρ F s σ H ρ' s' σ H' → Live s s' → ParR K H ρ' (Mu ρ' (Adds F L) s'.env σ) H' L is ds ws → Q ws H'
/-- what stands by each value -/
def parOk : List (Nat × Bool) → List E → Bool
  | [], [] => true
  | (_, false) :: is, e :: es => noPk e && parOk is es
  | (_, true) :: is, e :: es => fresh e && parOk is es
  | _, _ => false
theorem a_nil {is : List (Nat × Bool)} (h : parOk is [] = true) : PA X [] (TPv X.K G cal is []) := pa_nil.imp fun σ H Q q => by
  obtain ⟨ρ, F, s, ds, s', s1, s2, S, hv, hp, k⟩ := q
  simp only [evEs] at hv
  cases hv
  have e : is = [] := by
    cases is with
    | nil => rfl
    | cons i is => obtain ⟨i, b⟩ := i; cases b <;> cases h
  subst e
  exact k ρ [] H [] S (by simp) .refl .refl .nil
theorem a_val {i : Nat} {is : List (Nat × Bool)} (hn : noPk ea = true) (ha : PE X a (TEv X.K G cal ea)) (hr : PA X es (TPv X.K G cal is ees)) (hs : starEach (a :: es) X.env = (false, eval a X.env) :: starEach es X.env) : PA X (a :: es) (TPv X.K G cal ((i, false) :: is) (ea :: ees)) :=
  (pa_cons ha hr hs).imp fun σ H Q q => by
    obtain ⟨ρ, F, s, ds, s', t1, t2, S, hv, hp, k⟩ := q
    simp only [evEs] at hv
    obtain ⟨d, s1, h1, hv⟩ := R.bind_ok hv
    obtain ⟨ds1, s2, h2, hv⟩ := R.bind_ok hv
    cases hv
    simp only [putPar] at hp
    split at hp
    case isFalse => cases hp
    refine ⟨ρ, F, s, d, s1, S, h1, fun ρ1 w H1 S1 g1 l1 r1 _ => ⟨ρ1, F, s1, ds1, _, _, _, S1, h2, hp, fun ρ2 ws H2 L S2 nd g2 l2 r2 => ?_⟩⟩
    have kA : Keep ρ1 (Mu ρ1 F s1.env σ) H1 ρ2 (Mu ρ2 (Adds F L) _ σ) H2 := ⟨g2.keepM.rho, g2.keep, fun b o e n m => by
      rcases m with m | m | m
      · exact g2.keepM.less b o e n (.inl m)
      · rcases Adds.iff.mp m with m | m
        · exact g2.keepM.less b o e n (.inr (.inl m))
        · rw [r2.fresh b m] at e; cases e
      · exact g2.keepM.less b o e n (.inr (.inr m))⟩
    exact k ρ2 (w :: ws) H2 L S2 nd (g1.trans g2) (l1.trans l2) (.val ((r1.rep (noPk_ne hn)).keep kA) (r2.keep ⟨fun _ _ e => e, fun _ _ e _ => e, fun _ _ _ n => n⟩ g1.there fun _ _ => rfl))
theorem a_own {i : Nat} {is : List (Nat × Bool)} (hf : fresh ea = true) (ha : PE X a (TEv X.K G cal ea)) (hr : PA X es (TPv X.K G cal is ees)) (hs : starEach (a :: es) X.env = (false, eval a X.env) :: starEach es X.env) : PA X (a :: es) (TPv X.K G cal ((i, true) :: is) (ea :: ees)) :=
  (pa_cons ha hr hs).imp fun σ H Q q => by
    obtain ⟨ρ, F, s, ds, s', t1, t2, S, hv, hp, k⟩ := q
    simp only [evEs] at hv
    obtain ⟨d, s1, h1, hv⟩ := R.bind_ok hv
    obtain ⟨ds1, s2, h2, hv⟩ := R.bind_ok hv
    cases hv
    refine ⟨ρ, F, s, d, s1, S, h1, fun ρ1 w H1 S1 g1 l1 r1 f1 => ?_⟩
    cases d with
    | lst xs =>
      simp only [putPar] at hp
      split at hp
      case isFalse => cases hp
      obtain ⟨b, vs, rfl, e0, SA, eb, nb, q⟩ := f1 hf xs rfl
      refine ⟨ρ1, Add F b, s1, ds1, _, _, _, SA, h2, hp, fun ρ2 ws H2 L S2 nd g2 l2 r2 => ?_⟩
      have nL : b ∉ L := fun m => by
        have := r2.fresh b m
        rw [eb] at this
        cases this
      rw [Adds.swap] at S2 r2
      have kA : Keep ρ1 (Mu ρ1 (Add F b) s1.env σ) H1 ρ2 (Mu ρ2 (Adds F (b :: L)) _ σ) H2 := ⟨g2.keepM.rho, g2.keep, fun c o e n m => by
        rcases m with m | m | m
        · exact g2.keepM.less c o e n (.inl m)
        · rcases m with m | m
          · rcases Adds.iff.mp m with m | m
            · exact g2.keepM.less c o e n (.inr (.inl (.inl m)))
            · rw [r2.fresh c m] at e; cases e
          · exact g2.keepM.less c o e n (.inr (.inl (.inr m)))
        · exact g2.keepM.less c o e n (.inr (.inr m))⟩
      refine k ρ2 (.ref b :: ws) H2 (b :: L) S2 (List.nodup_cons.mpr ⟨nL, nd⟩) (g1.add e0 g2) (l1.trans l2) (.own e0 ?_ (q.keep kA) (r2.keep ⟨fun _ _ e => e, fun _ _ e _ => e, fun _ _ _ n => n⟩ g1.there fun _ _ => rfl))
      rw [g2.hid b (.inr rfl)]
      exact eb
    | _ => simp [putPar] at hp
theorem p_par {st : Stmt} {is : List (Nat × Bool)} {t : TS} (h : PS X st t) (hd : ∀ D σ H, TPv X.K G cal is ees σ H (fun ws H1 => ws.length = is.length ∧ ∀ H2, Grow H1 H2 → D.nx (setAll is ws σ) H2) → t D σ H) : PS X st (TSt X.K G cal (.par is ees)) := h.imp fun De σ H q => by
  obtain ⟨ρ, F, s, f, s', S, hv, k⟩ := q
  simp only [exS] at hv
  obtain ⟨ds, s1, h1, hv⟩ := R.bind_ok hv
  split at hv
  case h_2 => cases hv
  rename_i s2 hp
  cases hv
  refine hd De σ H ⟨ρ, F, s, ds, s1, _, _, S, h1, hp, fun ρ1 ws H1 L S1 nd g1 l1 r1 => ?_⟩
  refine ⟨?_, fun H2 gr => ?_⟩
  case refine_2 =>
    have g3 : Go ρ F s σ H ρ1 s1 σ H2 := g1.trans ⟨⟨[], by simp⟩, fun _ h => .inl h, fun b o e _ => gr b o e, fun b h => (by
      obtain ⟨o, e⟩ := S1.fT b (Adds.iff.mpr (.inl h))
      rw [e, gr b o e]), fun b o e => ⟨o, gr b o e⟩, fun _ h => .inl h, rfl, Nat.le_refl _⟩
    have same : ∀ a ∈ L, H2 a = H1 a := fun a ha => by
      obtain ⟨o, e⟩ := S1.fT a (Adds.iff.mpr (.inr ha))
      rw [e, gr a o e]
    obtain ⟨S2, g2, l2⟩ := put_all is L ds ws s1 σ _ (S1.grow gr) nd g3 (r1.keep (gr.keep _) (fun b o e => ⟨o, e⟩) same) hp
    exact k ρ1 _ H2 S2 g2 (l1.trans l2) (setAll_same is ws σ)
  have e : ∀ {H0 : Hp} {ρ : List Addr} {M : Addr → Prop} {H : Hp} {L : List Addr} {is : List (Nat × Bool)} {ds : List D} {ws : List V}, ParR X.K H0 ρ M H L is ds ws → ws.length = is.length := fun r => by
    induction r with
    | nil => rfl
    | val _ _ ih => simp [ih]
    | own _ _ _ _ ih => simp [ih]
  exact e r1
theorem p_par2 {i j : Nat} {bi bj : Bool} {x y : Str} {a b : Expr} {px py pt : Pos} {kt k2 : Nat} {pt2 : Pos} (hc : X.calm = true) (hN : X.N.Nodup) (hi : X.N[i]? = some x) (hj : X.N[j]? = some y) (hij : i ≠ j)
    (hx : X.env.scope.names.lookup x = some .local) (hy : X.env.scope.names.lookup y = some .local) (ha : PA X [a, b] (TPv X.K G cal [(i, bi), (j, bj)] ees))
    (hw : swappedStores [.Tuple [.Name x px, .Name y py] kt pt] (.Tuple [a, b] k2 pt2) X.env = pure (some [x, y]))
    (hs : swapsWithSole [.Tuple [.Name x px, .Name y py] kt pt] (.Tuple [a, b] k2 pt2) pos.line X.env = pure false) :
    PS X (.Assign [.Tuple [.Name x px, .Name y py] kt pt] (.Tuple [a, b] k2 pt2) pos) (TSt X.K G cal (.par [(i, bi), (j, bj)] ees)) :=
  p_par (ps_par hc hN hi hj hij hx hy ha hw hs) fun D σ H q => by
    obtain ⟨ρ, F, s, ds, s', s1, s2, S, hv, hp, k⟩ := q
    refine ⟨ρ, F, s, ds, s', s1, s2, S, hv, hp, fun ρ' ws H' L a b c d e => ?_⟩
    obtain ⟨hl, q⟩ := k ρ' ws H' L a b c d e
    match ws, hl, q with
    | [v, w], _, q => exact ⟨v, w, rfl, q _ (Grow.refl _)⟩
theorem p_par3 {i j l : Nat} {bi bj bl : Bool} {x y z : Str} {a b c : Expr} {px py pz pt : Pos} {kt k2 : Nat} {pt2 : Pos} (hc : X.calm = true) (hN : X.N.Nodup) (hi : X.N[i]? = some x) (hj : X.N[j]? = some y) (hl : X.N[l]? = some z) (hij : i ≠ j) (hil : i ≠ l) (hjl : j ≠ l)
    (hx : X.env.scope.names.lookup x = some .local) (hy : X.env.scope.names.lookup y = some .local) (hz : X.env.scope.names.lookup z = some .local) (ha : PA X [a, b, c] (TPv X.K G cal [(i, bi), (j, bj), (l, bl)] ees))
    (hw : swappedStores [.Tuple [.Name x px, .Name y py, .Name z pz] kt pt] (.Tuple [a, b, c] k2 pt2) X.env = pure (some [x, y, z]))
    (hs : swapsWithSole [.Tuple [.Name x px, .Name y py, .Name z pz] kt pt] (.Tuple [a, b, c] k2 pt2) pos.line X.env = pure false) :
    PS X (.Assign [.Tuple [.Name x px, .Name y py, .Name z pz] kt pt] (.Tuple [a, b, c] k2 pt2) pos) (TSt X.K G cal (.par [(i, bi), (j, bj), (l, bl)] ees)) :=
  p_par (ps_par3 hc hN hi hj hl hij hil hjl hx hy hz ha hw hs) fun D σ H q => by
    obtain ⟨ρ, F, s, ds, s', s1, s2, S, hv, hp, k⟩ := q
    refine ⟨ρ, F, s, ds, s', s1, s2, S, hv, hp, fun ρ' ws H' L a b c d e => ?_⟩
    obtain ⟨hl, q⟩ := k ρ' ws H' L a b c d e
    match ws, hl, q with
    | [u, v, w], _, q => exact ⟨u, v, w, rfl, q _ (Grow.refl _)⟩
/-! ### .. by way of a tuple -/
def gAll : List (Nat × Bool) → TGs
  | [] => gNil
  | p :: is => gCons (gName p.1) (gAll is)
theorem gAll_run : ∀ (is : List (Nat × Bool)) (ws : List V) (σ : L2.St) (H : Hp) (Q : L2.St → Hp → Prop), ws.length = is.length → Q (setAll is ws σ) H → gAll is ws σ H Q
  | [], [], _, _, _, _, q => ⟨rfl, q⟩
  | [], _ :: _, _, _, _, h, _ => by cases h
  | _ :: _, [], _, _, _, h, _ => by cases h
  | (i, b) :: is, w :: ws, σ, H, Q, h, q => ⟨w, ws, rfl, gAll_run is ws _ H Q (by simpa using h) q⟩
theorem p_parT {ys vs : List Expr} {is : List (Nat × Bool)} {k k2 : Nat} {tpos p2 : Pos} (hc : X.calm = true) (hl : is.length ≤ 1000) (ha : PA X vs (TPv X.K G cal is ees)) (hg : PGs X ys (gAll is)) (hn : (assignEach ys X.env).length = is.length) (hst : (assignEach ys X.env).findIdx? (·.1) = none)
    (hs : swapsWithSole [.Tuple ys k tpos] (.Tuple vs k2 p2) pos.line X.env = pure false) (hw : swappedStores [.Tuple ys k tpos] (.Tuple vs k2 p2) X.env = pure none) (h1 : (assignEach [.Tuple ys k tpos] X.env).map (·.2) = [assign (.Tuple ys k tpos) X.env]) :
    PS X (.Assign [.Tuple ys k tpos] (.Tuple vs k2 p2) pos) (TSt X.K G cal (.par is ees)) :=
  p_par (ps_asg (pe_tup ha) (pg_tup hc hg hn hst) hs hw h1) fun De σ H q => by
    obtain ⟨ρ, F, s, ds, s', s1, s2, S, hv, hp, k⟩ := q
    refine ⟨ρ, F, s, ds, s', s1, s2, S, hv, hp, fun ρ' ws H' L a b c d e => ?_⟩
    obtain ⟨hlw, q⟩ := k ρ' ws H' L a b c d e
    refine ⟨by rw [hlw, sizeLine_eq]; omega, fun p hp => ⟨p, ws, rfl, .of upd_same, hlw, gAll_run is ws σ _ _ hlw (q _ (Grow.upd hp))⟩⟩
end
end Tw
end

section
set_option linter.all false
set_option autoImplicit false
set_option maxRecDepth 100000
set_option maxHeartbeats 4000000
/-! isinstance with one built-in class; what is never run. -/
namespace Tw
open PySem L2 PyProof.Rows
def clT : Cl → Option String
  | .int => some "int"
  | .bool => some "bool"
  | .str => some "str"
  | .tuple => some "tuple"
  | .list => some "list"
  | .dict => some "dict"
  | .own _ => none
section
variable {K : PySem.W.Frag} {ρ : List Addr} {F : Addr → Prop} {s : MS} {σ : L2.St} {H : Hp}
theorem isi_lst {G : Tab} {c : Cl} {T : String} {b : Bool} {d : D} {hp : List Ob} (hd : ∀ c, clT c ≠ none → isCl G d hp c = isCl G (.lst []) hp c) (hc : clT c = some T) (h : isCl G d hp c = some b) : kitB "list" T = some b := by
  rw [hd _ (by rw [hc]; nofun)] at h
  cases c <;> cases hc <;> cases h <;> (first | exact (show kitB "list" _ = some true by decide +kernel) | exact (show kitB "list" _ = some false by decide +kernel))
theorem isi_tup {G : Tab} {c : Cl} {T : String} {b : Bool} {ds : List D} {hp : List Ob} (hc : clT c = some T) (h : isCl G (.tup ds) hp c = some b) : kitB "tuple" T = some b := by
  cases c <;> cases hc <;> cases h <;> (first | exact (show kitB "tuple" _ = some true by decide +kernel) | exact (show kitB "tuple" _ = some false by decide +kernel))
/-- the built-in types of values -/
def tyNames : List String := ["NoneType", "bool", "int", "str", "tuple", "list", "dict"]
/-- what the classes of the table are in the module -/
structure ClsF (K : PySem.W.Frag) (mg : Str → Option Value) (G : Tab) : Prop where
  cls : ∀ c, okC G c = true → Cls K (He.ga K c)
  glo : ∀ c : String, okC G c = true → mg c = some (.ref (He.ga K c))
  noat : ∀ c f : String, okF G c f = true → NoAttr K (He.ga K c) f
  tyc : ∀ c, okC G c = true → PySem.W.findIn K (.ref (He.ga K c)) "__class__" = some (some (.builtin "object.__class__"))
  tys : ∀ c, okC G c = true → PySem.W.specialIn K (.builtin "object.__class__") "__get__" = some (some (.builtin "getset_descriptor.__get__"))
  tyt : ∀ c, okC G c = true → PySem.W.takesIn K (.builtin "object.__class__") = some true
  tym : ∀ c, okC G c = true → PySem.W.mroIn K (He.ga K c) (.type "object") = some true
  bi : ∀ c, okC G c = true → ∀ k T, clT k = some T → PySem.W.kitOne K (.ref (He.ga K c)) (.type T) = some false
  ib : ∀ c, okC G c = true → ∀ t ∈ tyNames, PySem.W.kitOne K (.type t) (.ref (He.ga K c)) = some false
  pr : ∀ c c', okC G c = true → okC G c' = true → PySem.W.kitOne K (.ref (He.ga K c)) (.ref (He.ga K c')) = some (c == c')
/-- a value's type -/
theorem ty_ok {G : Tab} (S : Sim K ρ F s σ H) {d : D} {v : V} (hno : ∀ c fs vs, d ≠ .obj c fs vs) (r : Rep0 K ρ (Mu ρ F s.env σ) H d v) : ∃ t, t ∈ tyNames ∧ TyX K H v (.type t) ∧ ∀ c b T, clT c = some T → isCl G d s.hp c = some b → kitB t T = some b := by
  have lst : ∀ {a : Addr} {vs : List V}, Rd H a (.lst vs) → TyX K H (.ref a) (.type "list") := fun {a vs} z => by
    rcases z with z | ⟨o, z⟩
    · exact .base (.lst z)
    · exact .base (.frz z)
  cases r with
  | obj _ _ _ => exact absurd rfl (hno _ _ _)
  | lst e _ => exact ⟨"list", by decide, .base (.lst e), fun c b T hc h => isi_lst (fun c hc => by cases c <;> first | rfl | exact absurd rfl hc) hc h⟩
  | of r =>
    cases r with
    | obj _ _ _ _ => exact absurd rfl (hno _ _ _)
    | non => exact ⟨"NoneType", by decide, .base .non, fun c b T hc h => by cases c <;> cases hc <;> cases h <;> (first | exact (show kitB "NoneType" _ = some true by decide +kernel) | exact (show kitB "NoneType" _ = some false by decide +kernel))⟩
    | bl x => exact ⟨"bool", by decide, .base (.bl x), fun c b T hc h => by cases c <;> cases hc <;> cases h <;> (first | exact (show kitB "bool" _ = some true by decide +kernel) | exact (show kitB "bool" _ = some false by decide +kernel))⟩
    | int i => exact ⟨"int", by decide, .base (.int i), fun c b T hc h => by cases c <;> cases hc <;> cases h <;> (first | exact (show kitB "int" _ = some true by decide +kernel) | exact (show kitB "int" _ = some false by decide +kernel))⟩
    | str y z => exact ⟨"str", by decide, .base (.str _), fun c b T hc h => by cases c <;> cases hc <;> cases h <;> (first | exact (show kitB "str" _ = some true by decide +kernel) | exact (show kitB "str" _ = some false by decide +kernel))⟩
    | tup z _ =>
      refine ⟨"tuple", by decide, ?_, fun c b T hc h => isi_tup hc h⟩
      rcases z.1 with z | ⟨o, z⟩
      · exact .base (.tup z)
      · exact .fTuple z
    | tupK z _ =>
      obtain ⟨o, its, n, e1, e2, _⟩ := z
      exact ⟨"tuple", by decide, .kTuple e1 e2, fun c b T hc h => isi_tup hc h⟩
    | lst z _ => exact ⟨"list", by decide, lst z.1, fun c b T hc h => isi_lst (fun c hc => by cases c <;> first | rfl | exact absurd rfl hc) hc h⟩
    | lstK z _ =>
      obtain ⟨_, its, n, e1, _⟩ := z
      exact ⟨"list", by decide, .kList e1 rfl, fun c b T hc h => isi_lst (fun c hc => by cases c <;> first | rfl | exact absurd rfl hc) hc h⟩
    | dct z _ _ _ =>
      refine ⟨"dict", by decide, ?_, fun c b T hc h => by cases c <;> cases hc <;> cases h <;> (first | exact (show kitB "dict" _ = some true by decide +kernel) | exact (show kitB "dict" _ = some false by decide +kernel))⟩
      rcases z.1 with z | ⟨o, z⟩
      · exact .base (.dK z)
      · exact .fDict z
    | @ref i a z =>
      have hi : i < s.hp.length := by
        rw [← S.rl]
        exact (List.getElem?_eq_some_iff.mp z).1
      have e := List.getElem?_eq_getElem hi
      have ro := S.hp i s.hp[i] a e z
      generalize s.hp[i] = ob at e ro
      cases ro with
      | lst q _ =>
        refine ⟨"list", by decide, .base (.lst q), fun c b T hc h => isi_lst (fun c hc => ?_) hc h⟩
        cases c <;> first | simp only [isCl, e] | exact absurd rfl hc
    | scr z _ => exact ⟨"list", by decide, lst z.1, fun c b T hc h => isi_lst (fun c hc => by cases c <;> first | rfl | exact absurd rfl hc) hc h⟩
    | scrK z _ =>
      obtain ⟨o, its, n, e1, e2, _⟩ := z
      exact ⟨"list", by decide, .kList e1 e2, fun c b T hc h => isi_lst (fun c hc => by cases c <;> first | rfl | exact absurd rfl hc) hc h⟩
theorem isCl_nobj {G : Tab} {d : D} {c : String} {hp : List Ob} {x : Bool} (hd : ∀ c fs vs, d ≠ .obj c fs vs) (h : isCl G d hp (.own c) = some x) : x = false := by
  simp only [isCl] at h
  split at h
  · cases d with
    | obj _ _ _ => exact absurd rfl (hd _ _ _)
    | _ => exact (Option.some.inj h).symm
  · cases h
theorem isCl_okC {G : Tab} {d : D} {c : String} {hp : List Ob} {x : Bool} (h : isCl G d hp (.own c) = some x) : okC G c = true := by
  simp only [isCl] at h
  split at h
  · assumption
  · cases h
theorem ClsF.clt {K : PySem.W.Frag} {mg : Str → Option Value} {G : Tab} (C : ClsF K mg G) (c : String) (h : okC G c = true) : ClT K c :=
  ⟨C.cls c h, C.tyc c h, C.tys c h, C.tyt c h, C.tym c h, fun T hT => by
    simp only [List.mem_cons, List.not_mem_nil, or_false] at hT
    rcases hT with rfl | rfl | rfl | rfl | rfl | rfl
    · exact C.bi c h .int _ rfl
    · exact C.bi c h .bool _ rfl
    · exact C.bi c h .str _ rfl
    · exact C.bi c h .tuple _ rfl
    · exact C.bi c h .list _ rfl
    · exact C.bi c h .dict _ rfl⟩
/-- an instance's type -/
theorem ins_ty {M : Addr → Prop} {c : String} {fs : List String} {ds : List D} {v : V} (r : Rep K ρ M H (.obj c fs ds) v) : TyX K H v (.ref (He.ga K c)) ∧ ClT K c := by
  cases r with
  | obj ct e _ _ _ => exact ⟨.base (.ins e ct.cls ct.tyc ct.tys ct.tyt ct.tym), ct⟩
theorem isi_any (S : Sim K ρ F s σ H) {mg : Str → Option Value} {G : Tab} (C : ClsF K mg G) {d : D} {v : V} {k : Cl} {b : Bool} (r : Rep K ρ (Mu ρ F s.env σ) H d v) (h : isCl G d s.hp k = some b) :
    (∀ T, clT k = some T → ∃ t, TyX K H v t ∧ PySem.W.kitOne K t (.type T) = some b) ∧ ∀ c, k = .own c → ∃ t, TyX K H v t ∧ PySem.W.kitOne K t (.ref (He.ga K c)) = some b := by
  by_cases hno : ∀ c fs vs, d ≠ .obj c fs vs
  · obtain ⟨t, mt, ty, q⟩ := ty_ok (G := G) S hno (.of r)
    refine ⟨fun T hT => ⟨_, ty, kit_ty (q k b T hT h)⟩, fun c e => ⟨_, ty, ?_⟩⟩
    subst e
    rw [isCl_nobj hno h]
    exact C.ib c (isCl_okC h) t mt
  · obtain ⟨c', fs, vs, rfl⟩ : ∃ c fs vs, d = .obj c fs vs := by
      cases d with
      | obj c fs vs => exact ⟨c, fs, vs, rfl⟩
      | _ => exact absurd nofun hno
    obtain ⟨ty, ct⟩ := ins_ty r
    refine ⟨fun T hT => ⟨_, ty, ?_⟩, fun c e => ⟨_, ty, ?_⟩⟩
    · cases k <;> cases hT <;> cases h <;> exact ct.bi _ (by simp)
    · subst e
      have k2 := isCl_okC h
      simp only [isCl, if_pos k2] at h
      split at h
      · rename_i k1
        cases h
        exact C.pr c' c k1 k2
      · cases h
end
section
variable {X : Cx} {G : Tab} {cal : Cal} {a : Expr} {ea : E} {p p2 pos : Pos} {z : Str} {T : String} {c : Cl}
theorem s_isi (C : ClsF X.K X.mg G) (hg : Gl X "isinstance") (hm : X.mg "isinstance" = none) (hz : Gl X z) (hmz : X.mg z = none) (hv : bootBuiltins z = some (.type T)) (hn : z ≠ "__name__") (hdb : (z == ("__debug__" : Str)) = false) (hc : clT c = some T) (hk : noPk ea = true) (ha : PE X a (TEv X.K G cal ea))
    (hs : starEach [a, .Name z p2] X.env = (false, eval a X.env) :: starEach [.Name z p2] X.env) (hpl : (backTo pos (starEach [.Name z p2] X.env)).any (·.1) = false) :
    PE X (.Call (.Name "isinstance" p) [a, .Name z p2] [] pos) (TEv X.K G cal (.isi ea [c])) :=
  (pe_callB call_isi hg hm rfl (pa_cons ha (pa_cons (pe_bltn (v := .ty T) hz hmz hv rfl hn hdb) pa_nil rfl) hs) (by decide) (by decide) hs hpl).imp fun σ H Q q => by
    obtain ⟨ρ, F, s, d, s', S, hv, k⟩ := q
    simp only [evE] at hv
    obtain ⟨x, s1, h1, hv⟩ := R.bind_ok hv
    obtain ⟨ho, rfl⟩ := R.ofO_ok hv
    obtain ⟨b, ho2, rfl⟩ := Option.map_eq_some_iff.mp ho
    refine ⟨ρ, F, s, x, s1, S, h1, fun ρ1 w H1 S1 g1 l1 r1 _ => ?_⟩
    have hb : isCl G x s1.hp c = some b := by
      unfold isCls at ho2
      cases hq : isCl G x s1.hp c with
      | none => rw [hq] at ho2; cases ho2
      | some y =>
        rw [hq] at ho2
        cases y <;> exact ho2
    obtain ⟨t, ty, kt⟩ := (isi_any S1 C (r1.rep (noPk_ne hk)) hb).1 T hc
    exact ⟨w, .ty T, t, .type T, b, rfl, .ty T, ty, kt, bl_end (d := .bl b) (e := .isi ea [c]) rfl S1 g1 l1 k⟩
/-- isinstance with an own class -/
theorem s_isiO (C : ClsF X.K X.mg G) {c : String} (hok : okC G c = true) (hg : Gl X "isinstance") (hm : X.mg "isinstance" = none) (hz : Gl X (c : Str)) (hdb : ((c : Str) == ("__debug__" : Str)) = false) (hk : noPk ea = true) (ha : PE X a (TEv X.K G cal ea))
    (hs : starEach [a, .Name (c : Str) p2] X.env = (false, eval a X.env) :: starEach [.Name (c : Str) p2] X.env) (hpl : (backTo pos (starEach [.Name (c : Str) p2] X.env)).any (·.1) = false) :
    PE X (.Call (.Name "isinstance" p) [a, .Name (c : Str) p2] [] pos) (TEv X.K G cal (.isi ea [.own c])) :=
  (pe_callB call_isi hg hm rfl (pa_cons ha (pa_cons (pe_glob (v := .ref (He.ga X.K c)) hz (C.glo c hok) rfl hdb) pa_nil rfl) hs) (by decide) (by decide) hs hpl).imp fun σ H Q q => by
    obtain ⟨ρ, F, s, d, s', S, hv, k⟩ := q
    simp only [evE] at hv
    obtain ⟨x, s1, h1, hv⟩ := R.bind_ok hv
    obtain ⟨ho, rfl⟩ := R.ofO_ok hv
    obtain ⟨b, ho2, rfl⟩ := Option.map_eq_some_iff.mp ho
    refine ⟨ρ, F, s, x, s1, S, h1, fun ρ1 w H1 S1 g1 l1 r1 _ => ?_⟩
    have hb : isCl G x s1.hp (.own c) = some b := by
      unfold isCls at ho2
      cases hq : isCl G x s1.hp (.own c) with
      | none => rw [hq] at ho2; cases ho2
      | some y =>
        rw [hq] at ho2
        cases y <;> exact ho2
    obtain ⟨t, ty, kt⟩ := (isi_any S1 C (r1.rep (noPk_ne hk)) hb).2 c rfl
    exact ⟨w, .ref (He.ga X.K c), t, .ref (He.ga X.K c), b, rfl, .own _, ty, kt, bl_end (d := .bl b) (e := .isi ea [.own c]) rfl S1 g1 l1 k⟩
/-- what is never run -/
theorem s_bad {x : Expr} {e : E} (h : ∀ s, evE G cal e s = .stuck) : PE X x (TEv X.K G cal e) :=
  ⟨fun pins s σ H Q I q => by
    obtain ⟨ρ, F, s, d, s', S, hv, k⟩ := q
    rw [h] at hv
    cases hv⟩
theorem evT_bad {s : MS} : evT G cal .bad s = .stuck := by
  rw [evT_val rfl, evE]
  rfl
end
end Tw
end

section
set_option linter.all false
set_option autoImplicit false
set_option maxRecDepth 100000
set_option maxHeartbeats 4000000
/-! {} and {"k": e} as frozen dicts. -/
namespace Tw
open PySem L2 PyProof.Rows
section
variable {X : Cx} {G : Tab} {cal : Cal} {pos p1 : Pos} {kk : Nat} {x : Expr} {e : E} {k : List Nat}
theorem s_dk0 : PE X (.Dict [] [] pos) (TEv X.K G cal .dk0) :=
  pe_dnewK.imp fun σ H Q q => by
    obtain ⟨ρ, F, s, d, s', S, hv, kq⟩ := q
    simp only [evE] at hv
    cases hv
    intro p hp
    have gr : Grow H (upd H p (.dK [])) := Grow.upd hp
    refine kq ρ (.ref p) _ (S.grow gr) (.grow gr S) .refl (Res.of nofun ?_) nofun
    exact Rep.dct (ks := []) ⟨.inl upd_same, fun m => by
      obtain ⟨o, e⟩ := S.mu_there m
      rw [hp] at e; cases e⟩ .nil rfl nofun
theorem s_dk1 (hk : strOk k = true) (hn : noPk e = true) (h : PE X x (TEv X.K G cal e)) : PE X (.Dict [some (.Constant (.str ⟨k.toArray⟩) kk p1)] [x] pos) (TEv X.K G cal (.dk1 k e)) :=
  (pe_disp (pps_cons pe_str h pps_nil) rfl rfl nofun (by simp)).imp fun σ H Q q => by
    obtain ⟨ρ, F, s, d, s', S, hv, kq⟩ := q
    simp only [evE] at hv
    obtain ⟨y, s1, h1, hv⟩ := R.bind_ok hv
    cases hv
    intro p hp
    have nF : ¬ F p := fun z => by
      obtain ⟨o, e⟩ := S.fT p z
      rw [hp] at e; cases e
    refine ⟨ρ, Add F p, s, y, s', S.hide hp, h1, fun ρ1 w H1 S1 g1 l1 r1 _ => ?_⟩
    have e1 : H1 p = some (.dK []) := by rw [g1.hid p (.inr rfl)]; exact upd_same
    refine ⟨e1, [(.inr ⟨k.toArray⟩, w)], rfl, by simp, ?_⟩
    have g0 : Go ρ F s σ H ρ s σ (upd H p (.dK [])) := .grow (Grow.upd hp) S
    have gA : Go ρ F s σ H ρ1 s' σ H1 := Go.add g0 hp g1
    have gU := gA.upd hp nF (.dK (tKv [k] [w]))
    have S2 : Sim X.K ρ1 F s' σ (upd H1 p (.dK (tKv [k] [w]))) := (S1.wrHid (.inr rfl)).unhide
    have nM : ¬ Mu ρ1 F s'.env σ p := fun m => by
      rcases m with m | m | m
      · exact S1.rF p m (.inr rfl)
      · exact nF m
      · obtain ⟨i, d, e1, e2⟩ := m
        obtain ⟨b', e3, _, _, n⟩ := S1.so i d e1
        rw [e2] at e3; cases e3
        exact n (.inr rfl)
    refine kq ρ1 (.ref p) _ S2 gU l1 (Res.of nofun ?_) nofun
    have kp : Keep ρ1 (Mu ρ1 (Add F p) s'.env σ) H1 ρ1 (Mu ρ1 F s'.env σ) (upd H1 p (.dK (tKv [k] [w]))) :=
      ⟨fun _ _ h => h, fun b o e n => by rw [upd_ne (fun z => n (Mu.add.mpr (.inr z)))]; exact e, fun b o e n m => n (Mu.add.mpr (.inl m))⟩
    exact Rep.dct (ks := [k]) ⟨.inl upd_same, nM⟩ (.cons ((r1.rep (noPk_ne hn)).keep kp) .nil) rfl (fun z hz => by
      rw [List.mem_singleton.mp hz]; exact hk)
end
end Tw
end

section
set_option linter.all false
set_option autoImplicit false
set_option maxRecDepth 100000
set_option maxHeartbeats 4000000
/-! a == [], a != (), whatever a's items are. -/
namespace Tw
open PySem L2 PyProof.Rows
section
variable {X : Cx}
def nilO (ng : Bool) : CmpOp := if ng then .NotEq else .Eq
def rNil (K : PySem.W.Frag) (ng : Bool) : R2 := fun x y H Q => ∃ (a b : Addr) (vs : List V), x = .ref a ∧ y = .ref b ∧ ((SqL K H a vs ∧ H b = some (.lst [])) ∨ (SqT K H a vs ∧ H b = some (.tup []))) ∧ Q (.bl (vs.isEmpty != ng)) H
theorem size_ne {α : Type} {n : Nat} {a : Array α} (h : a.toList.length = n) (k : n ≠ 0) : (a.size != (#[] : Array α).size) = true := by
  have : a.size = n := by rw [← h, Array.length_toList]
  rw [this]
  simpa using k
theorem op_nil {ng : Bool} (hu : X.A.units + 65 < cLine) : OpR X (compareOp (nilO ng)) (rNil X.K ng) := by
  intro pins s σ H x y v u Q I rx ry h
  obtain ⟨a, b, vs, rfl, rfl, h, q⟩ := h
  cases rx
  cases ry
  have hu' : X.A.units < cLine := by omega
  rcases h with ⟨h1, h2⟩ | ⟨h1, h2⟩
  · obtain ⟨its, rv, pl, _⟩ := I.list h1
    obtain ⟨its2, rv2, pl2, _⟩ := I.list (SqL.of (K := X.K) h2)
    cases rv2
    have il := pl.isList
    have il2 := pl2.isList
    have hl := rv.length
    cases vs with
    | nil =>
      cases rv
      cases ng
      · exact SeqAt.eq_listAt (e := fun _ => true) il il2 rfl hu' (fun j h1 _ => by cases h1) ⟨.bl _, H, I, rfl, q⟩
      · exact SeqAt.RcNeAt.lists (e := fun _ => true) il il2 rfl hu' (fun j h1 _ => by cases h1) _ _ _ _ ⟨.bl _, H, I, rfl, q⟩
    | cons v0 vs =>
      cases rv
      cases ng
      · exact SeqAt.eq_list_lengthsAt il il2 (by simp) hu' ⟨.bl _, H, I, rfl, q⟩
      · exact SeqAt.RcNeAt.lists_lengths il il2 (by simp) hu' _ _ _ _ ⟨.bl _, H, I, rfl, q⟩
  · obtain ⟨its, rv, pl, _⟩ := I.tuple h1
    obtain ⟨its2, rv2, pl2, _⟩ := I.tuple (SqT.of (K := X.K) h2)
    cases rv2
    have hl := rv.length
    cases vs with
    | nil =>
      cases rv
      cases ng
      · exact SeqAt.eq_tupleAt (e := fun _ => true) pl pl2 hu' (fun j h1 _ => by cases h1) ⟨.bl _, H, I, rfl, q⟩
      · exact SeqAt.RcNeAt.tuples (e := fun _ => true) pl pl2 hu' (fun j h1 _ => by cases h1) _ _ _ _ ⟨.bl _, H, I, rfl, q⟩
    | cons v0 vs =>
      cases rv
      cases ng
      · exact SeqAt.eq_tupleAt (e := fun _ => true) pl pl2 hu' (fun j _ h2 => by cases h2) ⟨.bl _, H, I, rfl, by simpa using q⟩
      · exact SeqAt.RcNeAt.tuples (e := fun _ => true) pl pl2 hu' (fun j _ h2 => by cases h2) _ _ _ _ ⟨.bl _, H, I, rfl, by simpa using q⟩
variable {G : Tab} {cal : Cal} {a b : Expr} {ea ee : E} {pos apos : Pos}
theorem nil_of {K : PySem.W.Frag} {ρ : List Addr} {M : Addr → Prop} {H : Hp} {ng tp : Bool} {d r : D} {v : V} (h : nilD ng tp d = some r) (q : Rep0 K ρ M H d v) : ∃ c : Addr, ∃ vs : List V, v = .ref c ∧ r = .bl (vs.isEmpty != ng) ∧ ((tp = false ∧ SqL K H c vs) ∨ (tp = true ∧ SqT K H c vs)) := by
  unfold nilD at h
  split at h
  · rename_i ds
    cases tp with
    | true => cases h
    | false =>
      cases h
      obtain ⟨c, vs, rfl, h1, h2⟩ := q.lstI
      refine ⟨c, vs, rfl, ?_, .inl ⟨rfl, h1⟩⟩
      cases h2 <;> rfl
  · rename_i ds
    cases tp with
    | false => cases h
    | true =>
      cases h
      obtain ⟨c, vs, rfl, h1, h2⟩ := q.tupI
      refine ⟨c, vs, rfl, ?_, .inr ⟨rfl, h1⟩⟩
      cases h2 <;> rfl
  · cases h
/-- the empty display -/
def emp (tp : Bool) : Expr → Bool
  | .List [] _ => !tp
  | .Tuple [] _ _ => tp
  | _ => false
theorem sqL_up {K : PySem.W.Frag} {H : Hp} {c p : Addr} {vs : List V} {o : HO} (h : SqL K H c vs) (hp : H p = none) : SqL K (upd H p o) c vs := by
  rcases h with h | h
  · left
    rcases h with h | ⟨u, h⟩
    · exact .inl (by rw [upd_ne (ne_of_none h hp)]; exact h)
    · exact .inr ⟨u, by rw [upd_ne (ne_of_none h hp)]; exact h⟩
  · exact .inr h
theorem sqT_up {K : PySem.W.Frag} {H : Hp} {c p : Addr} {vs : List V} {o : HO} (h : SqT K H c vs) (hp : H p = none) : SqT K (upd H p o) c vs := by
  rcases h with h | h
  · left
    rcases h with h | ⟨u, h⟩
    · exact .inl (by rw [upd_ne (ne_of_none h hp)]; exact h)
    · exact .inr ⟨u, by rw [upd_ne (ne_of_none h hp)]; exact h⟩
  · exact .inr h
theorem nil_end {ng tp : Bool} {σ : L2.St} {H : Hp} {Q : VK} {tb : TE} (q : TEv X.K G cal (.nil ng tp ea) σ H Q)
    (hb : ∀ σ H1 (Q : VK), (∀ p, H1 p = none → Q (.ref p) (upd H1 p (if tp then .tup [] else .lst []))) → tb σ H1 Q) : TEv X.K G cal ea σ H fun x H1 => tb σ H1 fun y H2 => rNil X.K ng x y H2 Q := by
  obtain ⟨ρ, F, s, d, s', S, hv, k⟩ := q
  simp only [evE] at hv
  obtain ⟨d1, s1, h1, hv⟩ := R.bind_ok hv
  obtain ⟨ho, rfl⟩ := R.ofO_ok hv
  refine ⟨ρ, F, s, d1, s1, S, h1, fun ρ1 w1 H1 S1 g1 l1 r1 _ => hb _ _ _ fun p hp => ?_⟩
  obtain ⟨c, vs, rfl, rfl, hq⟩ := nil_of ho (r1.rep0 S1)
  have gr : Grow H1 (upd H1 p (if tp then .tup [] else .lst [])) := Grow.upd hp
  refine ⟨c, p, vs, rfl, rfl, ?_, bl_end (e := .nil ng tp ea) (d := .bl (vs.isEmpty != ng)) rfl (S1.grow gr) (g1.trans (.grow gr S1)) l1 k⟩
  rcases hq with ⟨rfl, hq⟩ | ⟨rfl, hq⟩
  · exact .inl ⟨sqL_up hq hp, upd_same⟩
  · exact .inr ⟨sqT_up hq hp, upd_same⟩
theorem s_nilE {ng tp : Bool} (hu : X.A.units + 65 < cLine) (ha : PE X a (TEv X.K G cal ea)) (he : emp tp b = true) (hm : behindInMarks (nilO ng) b = false) : PE X (.Compare a [nilO ng] [b] pos) (TEv X.K G cal (.nil ng tp ea)) := by
  unfold emp at he
  split at he
  · have ht : tp = false := by simpa using he
    subst ht
    exact (pe_cmpR (op_nil hu) ha (pe_lst pa_nil) hm).imp fun σ H Q q => nil_end q fun σ H1 Q h => ⟨Nat.zero_le _, h⟩
  · have ht : tp = true := he
    subst ht
    exact (pe_cmpR (op_nil hu) ha (pe_tup pa_nil) hm).imp fun σ H Q q => nil_end q fun σ H1 Q h => ⟨Nat.zero_le _, h⟩
  · cases he
theorem nil_tend {ng tp : Bool} {σ : L2.St} {H : Hp} {Q : Bool → Hp → Prop} {tb : TE} (q : TTv X.K G cal (.nil ng tp ea) σ H Q)
    (hb : ∀ σ H1 (Q : VK), (∀ p, H1 p = none → Q (.ref p) (upd H1 p (if tp then .tup [] else .lst []))) → tb σ H1 Q) : TEv X.K G cal ea σ H fun x H1 => tb σ H1 fun y H2 => rNil X.K ng x y H2 fun z H3 => ∃ k, z = .bl k ∧ Q k H3 := by
  obtain ⟨ρ, F, s, b, s', S, hv, k⟩ := q
  rw [evT_val rfl] at hv
  obtain ⟨d0, s0, hw, hv0⟩ := R.bind_ok hv
  obtain ⟨hv1, rfl⟩ := R.ofO_ok hv0
  simp only [evE] at hw
  obtain ⟨d1, s1, h1, hw1⟩ := R.bind_ok hw
  obtain ⟨ho, rfl⟩ := R.ofO_ok hw1
  refine ⟨ρ, F, s, d1, s1, S, h1, fun ρ1 w1 H1 S1 g1 l1 r1 _ => hb _ _ _ fun p hp => ?_⟩
  obtain ⟨c, vs, rfl, rfl, hq⟩ := nil_of ho (r1.rep0 S1)
  have gr : Grow H1 (upd H1 p (if tp then .tup [] else .lst [])) := Grow.upd hp
  cases hv1
  refine ⟨c, p, vs, rfl, rfl, ?_, _, rfl, k ρ1 _ (S1.grow gr) (g1.trans (.grow gr S1)) l1⟩
  rcases hq with ⟨rfl, hq⟩ | ⟨rfl, hq⟩
  · exact .inl ⟨sqL_up hq hp, upd_same⟩
  · exact .inr ⟨sqT_up hq hp, upd_same⟩
theorem s_nilT {ng tp : Bool} (hu : X.A.units + 65 < cLine) (ha : PE X a (TEv X.K G cal ea)) (he : emp tp b = true) (hm : behindInMarks (nilO ng) b = false) : PT X (.Compare a [nilO ng] [b] pos) (TTv X.K G cal (.nil ng tp ea)) := by
  unfold emp at he
  split at he
  · have ht : tp = false := by simpa using he
    subst ht
    exact (pt_cmpR (op_nil hu) ha (pe_lst pa_nil) hm).imp fun σ H Q q => nil_tend q fun σ H1 Q h => ⟨Nat.zero_le _, h⟩
  · have ht : tp = true := he
    subst ht
    exact (pt_cmpR (op_nil hu) ha (pe_tup pa_nil) hm).imp fun σ H Q q => nil_tend q fun σ H1 Q h => ⟨Nat.zero_le _, h⟩
  · cases he
/-! ### a.join(e) -/
theorem strs_of {K : PySem.W.Frag} {ρ : List Addr} {M : Addr → Prop} {H : Hp} : ∀ {ds : List D} {vs : List V} {ts : List (List Nat)}, strsOf ds = some ts → Reps K ρ M H ds vs → vs = (ts.map fun t => (⟨t.toArray⟩ : Str)).map V.str ∧ ∀ t ∈ ts, strOk t = true
  | [], _, _, h, .nil => by
    cases h
    exact ⟨rfl, nofun⟩
  | d :: ds, _, ts, h, .cons r q => by
    cases d <;> first | (cases h; done) | skip
    rename_i z
    obtain ⟨ts, h1, rfl⟩ := Option.map_eq_some_iff.mp (show (strsOf ds).map (z :: ·) = some ts from h)
    obtain ⟨rfl, h2⟩ := strs_of h1 q
    obtain ⟨rfl, h3⟩ := r.strI
    refine ⟨rfl, fun t ht => ?_⟩
    rcases List.mem_cons.mp ht with rfl | ht
    · exact h3
    · exact h2 t ht
theorem joinL_tl (a : List Nat) : ∀ ts : List (List Nat), joinL a ts = TL.joinL a ts
  | [] => rfl
  | [_] => rfl
  | x :: y :: r => by
    show x ++ (a ++ joinL a (y :: r)) = x ++ (a ++ TL.joinL a (y :: r))
    rw [joinL_tl a (y :: r)]
theorem join_mk (a : List Nat) (ts : List (List Nat)) : Txt.join (⟨a.toArray⟩ : Str) (ts.map fun t => (⟨t.toArray⟩ : Str)) = ⟨(joinL a ts).toArray⟩ := by
  have h := TL.tl_join ⟨a.toArray⟩ (ts.map fun t => (⟨t.toArray⟩ : Str))
  rw [TL.join_eq]
  generalize Str.join ⟨a.toArray⟩ (ts.map fun t => (⟨t.toArray⟩ : Str)) = s at h
  obtain ⟨c⟩ := s
  congr 1
  apply Array.toList_inj.mp
  have h : c.toList = TL.joinL a ((ts.map fun t => (⟨t.toArray⟩ : Str)).map TL.tl) := h
  rw [h, List.map_map, joinL_tl]
  congr 1
  exact (List.map_congr_left fun t _ => rfl).trans (List.map_id ts)
theorem joinL_len (a : List Nat) : ∀ ts : List (List Nat), (joinL a ts).length ≤ (ts.map (·.length)).sum + ts.length * a.length
  | [] => Nat.zero_le _
  | [x] => by
    show x.length ≤ x.length + 0 + 1 * a.length
    omega
  | x :: y :: r => by
    have ih := joinL_len a (y :: r)
    show (x ++ (a ++ joinL a (y :: r))).length ≤ x.length + ((y :: r).map (·.length)).sum + ((y :: r).length + 1) * a.length
    rw [List.length_append, List.length_append, Nat.succ_mul]
    omega
theorem joinL_mem {a : List Nat} {c : Nat} : ∀ {ts : List (List Nat)}, c ∈ joinL a ts → c ∈ a ∨ ∃ t ∈ ts, c ∈ t
  | [x], h => .inr ⟨x, List.mem_cons_self, h⟩
  | x :: y :: r, h => by
    rcases List.mem_append.mp (show c ∈ x ++ (a ++ joinL a (y :: r)) from h) with h | h
    · exact .inr ⟨x, List.mem_cons_self, h⟩
    · rcases List.mem_append.mp h with h | h
      · exact .inl h
      · rcases joinL_mem h with h | ⟨t, ht, h⟩
        · exact .inl h
        · exact .inr ⟨t, List.mem_cons_of_mem _ ht, h⟩
theorem joinD_inv {a r : D} {ds : List D} (h : joinD a ds = some r) : ∃ (z : List Nat) (ts : List (List Nat)), a = .str z ∧ strsOf ds = some ts ∧ (ts.map (·.length)).sum + ts.length * z.length ≤ 16777216 ∧ r = D.str (joinL z ts) := by
  unfold joinD at h
  cases a <;> first | (cases h; done) | skip
  rename_i z
  cases e : strsOf ds with
  | none => rw [e] at h; cases h
  | some ts =>
    rw [e] at h
    have h : (if decide ((ts.map (·.length)).sum + ts.length * z.length ≤ 16777216) then some (D.str (joinL z ts)) else none) = some r := h
    split at h
    · rename_i g
      cases h
      exact ⟨z, ts, rfl, rfl, of_decide_eq_true g, rfl⟩
    · cases h
theorem s_jn (ha : PE X a (TEv X.K G cal ea)) (hb : PE X b (TEv X.K G cal ee)) (hn : noPk ea = true) (hs : starEach [b] X.env = [(false, eval b X.env)]) (hbase : attributeBase a "join" X.env (eval a X.env) = eval a X.env) (hl : (apos.endLine == pos.line) = true) :
    PE X (.Call (.Attribute a "join" apos) [b] [] pos) (TEv X.K G cal (.jn ea ee)) :=
  (pe_join ha hb hs hbase hl).imp fun σ H Q q => by
    obtain ⟨ρ, F, s, d, s', S, hv, k⟩ := q
    simp only [evE] at hv
    obtain ⟨x, s1, h1, hv⟩ := R.bind_ok hv
    obtain ⟨y, s2, h2, hv⟩ := R.bind_ok hv
    obtain ⟨ho, rfl⟩ := R.ofO_ok hv
    obtain ⟨ds, hds, hj⟩ := Option.bind_eq_some_iff.mp ho
    obtain ⟨z, ts, rfl, hts, hz, rfl⟩ := joinD_inv hj
    refine ⟨ρ, F, s, _, s1, S, h1, fun ρ1 w1 H1 S1 g1 l1 r1 _ => ?_⟩
    obtain ⟨rfl, oz⟩ := (r1.rep (noPk_ne hn)).strI
    refine ⟨⟨_, rfl⟩, ρ1, F, s1, y, s2, S1, h2, fun ρ2 w2 H2 S2 g2 l2 r2 _ => ?_⟩
    have q0 := r2.rep0 S2
    have key : ∃ (p : Addr) (vs : List V), w2 = .ref p ∧ (SqL X.K H2 p vs ∨ SqT X.K H2 p vs) ∧ Reps X.K ρ2 (Mu ρ2 F s2.env σ) H2 ds vs := by
      unfold seqD at hds
      split at hds
      · rename_i e
        cases hds
        rw [e] at q0
        obtain ⟨p, vs, rfl, e1, e2⟩ := q0.tupI
        exact ⟨p, vs, rfl, .inr e1, e2⟩
      · rename_i e
        cases hds
        rw [e] at q0
        obtain ⟨p, vs, rfl, e1, e2⟩ := q0.lstI
        exact ⟨p, vs, rfl, .inl e1, e2⟩
      · cases hds
    obtain ⟨p, vs, rfl, hp, hq⟩ := key
    obtain ⟨rfl, hall⟩ := strs_of hts hq
    refine ⟨⟨z.toArray⟩, p, ts.map fun t => ⟨t.toArray⟩, rfl, rfl, hp, ?_, ?_⟩
    · have e1 : (ts.map fun t => (⟨t.toArray⟩ : Str)).map (·.length) = ts.map (·.length) := by
        rw [List.map_map]
        exact List.map_congr_left fun t _ => by simp [Str.length]
      have e2 : (⟨z.toArray⟩ : Str).length = z.length := by simp [Str.length]
      rw [e1, e2, List.length_map]
      exact hz
    · rw [join_mk]
      refine Fin.str (fin_of (e := .jn ea ee) rfl S2 (g1.trans g2) (l1.trans l2) k) ?_
      unfold strOk
      rw [Bool.and_eq_true]
      refine ⟨decide_eq_true ?_, ?_⟩
      · have := joinL_len z ts
        show _ ≤ 16777216
        omega
      · rw [List.all_eq_true]
        intro c hc
        rcases joinL_mem hc with h | ⟨t, ht, h⟩
        · exact List.all_eq_true.mp (Bool.and_eq_true_iff.mp oz).2 c h
        · exact List.all_eq_true.mp (Bool.and_eq_true_iff.mp (hall t ht)).2 c h
end
end Tw
end

section
set_option linter.all false
set_option autoImplicit false
set_option maxRecDepth 100000
set_option maxHeartbeats 4000000
/-! a.lower(), a.strip(b). -/
namespace Tw
open PySem L2 PyProof.Rows
section
variable {X : Cx} {G : Tab} {cal : Cal} {o x : Expr} {ea eb : E} {ap p2 : Pos}
theorem loC_lt {c : Nat} (h : c < 128) : loC c < 128 := by
  unfold loC
  split <;> omega
theorem lower_cps {a : List Nat} (h : a.all (fun c => decide (c < 128)) = true) : Txt.lower (⟨a.toArray⟩ : Str) = ⟨(a.map loC).toArray⟩ := SX.lower_S h
theorem s_low (ha : PE X o (TEv X.K G cal ea)) (hn : noPk ea = true) (hb : attributeBase o "lower" X.env (eval o X.env) = eval o X.env) (hl : (ap.endLine == p2.line) = true) :
    PE X (.Call (.Attribute o "lower" ap) [] [] p2) (TEv X.K G cal (.low ea)) :=
  (pe_lower ha hb hl).imp fun σ H Q q => by
    obtain ⟨ρ, F, s, d, s', S, hv, k⟩ := q
    simp only [evE] at hv
    obtain ⟨d1, s1, h1, hv⟩ := R.bind_ok hv
    obtain ⟨hv, rfl⟩ := R.ofO_ok hv
    refine ⟨ρ, F, s, d1, s1, S, h1, fun ρ1 w1 H1 S1 g1 l1 r1 _ => ?_⟩
    obtain ⟨z, rfl⟩ : ∃ z, d1 = .str z := by
      cases d1 <;> first | exact ⟨_, rfl⟩ | cases hv
    simp only [lowD] at hv
    split at hv
    case isFalse => cases hv
    rename_i hz
    cases hv
    obtain ⟨z1, z2⟩ := Bool.and_eq_true_iff.mp hz
    obtain ⟨rfl, _⟩ := (r1.rep (noPk_ne hn)).strI
    have hlen : (⟨z.toArray⟩ : Str).length = z.length := by simp [Str.length]
    refine ⟨⟨_, rfl⟩, _, rfl, rfl, by rw [hlen]; have := of_decide_eq_true z2; omega, ?_⟩
    rw [lower_cps z1]
    refine Fin.str (fin_of (e := .low ea) rfl S1 g1 l1 k) ?_
    unfold strOk
    rw [Bool.and_eq_true]
    refine ⟨decide_eq_true ?_, ?_⟩
    · rw [List.length_map]
      have := of_decide_eq_true z2
      show _ ≤ 16777216
      omega
    · rw [List.all_eq_true]
      intro c hc
      obtain ⟨x, hx, rfl⟩ := List.mem_map.mp hc
      have := of_decide_eq_true (List.all_eq_true.mp z1 x hx)
      have := loC_lt this
      exact decide_eq_true (by omega)
theorem strip_cps (a b : List Nat) : Txt.stripChars (⟨a.toArray⟩ : Str) ⟨b.toArray⟩ = ⟨(stpL a b).toArray⟩ := by
  have e : (b.toArray.contains : Nat → Bool) = b.contains := by
    funext c
    simp
  unfold Txt.stripChars
  rw [PyProof.Rows.stripBy_eq]
  have h : (Builtin.Str.strSub (⟨a.toArray⟩ : Str) (PySem.stripLo (b.toArray.contains) true ⟨a.toArray⟩) (PySem.stripHi (b.toArray.contains) true ⟨a.toArray⟩ (PySem.stripLo (b.toArray.contains) true ⟨a.toArray⟩))).cps.toList = stpL a b := by
    rw [show ∀ (s : Str) (i j : Nat), (Builtin.Str.strSub s i j).cps.toList = (s.cps.toList.drop i).take (j - i) from fun s i j => by simp [Builtin.Str.strSub]]
    rw [e]
    show ((a.drop _).take _) = _
    unfold stpL PySem.stripHi PySem.stripLo
    simp [Str.length]
  generalize Builtin.Str.strSub (⟨a.toArray⟩ : Str) _ _ = s at h ⊢
  obtain ⟨c⟩ := s
  have h : c.toList = stpL a b := h
  congr 1
  apply Array.toList_inj.mp
  rw [h]
theorem stpL_mem {a b : List Nat} {c : Nat} (h : c ∈ stpL a b) : c ∈ a := List.mem_of_mem_drop (List.mem_of_mem_take h)
theorem stpL_len {a b : List Nat} : (stpL a b).length ≤ a.length := by
  unfold stpL
  rw [List.length_take, List.length_drop]
  omega
theorem s_stp (ha : PE X o (TEv X.K G cal ea)) (hx : PE X x (TEv X.K G cal eb)) (hn : noPk ea = true) (hn2 : noPk eb = true) (hs : starEach [x] X.env = [(false, eval x X.env)]) (hb : attributeBase o "strip" X.env (eval o X.env) = eval o X.env) (hl : (ap.endLine == p2.line) = true) :
    PE X (.Call (.Attribute o "strip" ap) [x] [] p2) (TEv X.K G cal (.stp ea eb)) :=
  (pe_m1 F.slot_str_strip F.type_str_strip mt_stripChars ha hx hs hb hl).imp fun σ H Q q => by
    obtain ⟨ρ, F, s, d, s', S, hv, k⟩ := q
    simp only [evE] at hv
    obtain ⟨d1, s1, h1, hv⟩ := R.bind_ok hv
    obtain ⟨d2, s2, h2, hv⟩ := R.bind_ok hv
    obtain ⟨hv, rfl⟩ := R.ofO_ok hv
    obtain ⟨z, y, rfl, rfl⟩ : ∃ z y, d1 = .str z ∧ d2 = .str y := by
      unfold stpD at hv
      split at hv
      · exact ⟨_, _, rfl, rfl⟩
      · cases hv
    cases hv
    refine ⟨ρ, F, s, _, s1, S, h1, fun ρ1 w1 H1 S1 g1 l1 r1 _ => ?_⟩
    obtain ⟨rfl, oz⟩ := (r1.rep (noPk_ne hn)).strI
    refine ⟨⟨_, rfl⟩, ρ1, F, s1, _, s2, S1, h2, fun ρ2 w2 H2 S2 g2 l2 r2 _ => ?_⟩
    obtain ⟨rfl, oy⟩ := (r2.rep (noPk_ne hn2)).strI
    obtain ⟨o1, o2⟩ := Bool.and_eq_true_iff.mp oz
    have hlen : (⟨z.toArray⟩ : Str).length = z.length := by simp [Str.length]
    refine ⟨_, _, rfl, rfl, by rw [hlen, sizeLine_eq]; exact of_decide_eq_true o1, ?_⟩
    rw [strip_cps]
    refine Fin.str (fin_of (e := .stp ea eb) rfl S2 (g1.trans g2) (l1.trans l2) k) ?_
    unfold strOk
    rw [Bool.and_eq_true]
    refine ⟨decide_eq_true (Nat.le_trans stpL_len (of_decide_eq_true o1)), ?_⟩
    rw [List.all_eq_true]
    intro c hc
    exact List.all_eq_true.mp o2 c (stpL_mem hc)
end
end Tw
end

section
set_option linter.all false
set_option autoImplicit false
set_option maxRecDepth 100000
set_option maxHeartbeats 4000000
/-! max(list of ints, default=d). -/
namespace Tw
open PySem L2 PyProof.Rows
section
variable {prog : Program} {w : World} {A : Around} {R : Result → Shared → Prop} {I : Addr} {fp wr : List Addr} {n : Nat} {P : Nat → Value → Prop} {St : Nat → Heap → Prop}
/-- what the loop keeps: nothing at first, then the best so far, twice -/
def Kept (P : Nat → Value → Prop) (bt : Nat → Nat → Bool) (i : Nat) (old : Array Value) : Prop := (i = 0 ∧ old = #[]) ∨ ∃ j v, i = j + 1 ∧ old = #[v, v] ∧ P (argBest bt j) v
theorem mxd_loop (W : Walks prog w A.in1 I fp wr n P St) (bt : Nat → Nat → Bool) (hcmp : CmpOf prog w A.in1 .Gt P bt) {S : Addr} (hSf : S ∉ fp) {kn : Str} {d : Value} :
    ∀ (k i : Nat) (s : Shared) (c : Nat) (old : Array Value), i + k = n → St i s.heap → Kept P bt i old →
    s.heap.get? S = some { cls := .type "list", dict := none, data := .seq old c, slots := #[] } →
    (n = 0 → ∀ h' tk, (∀ b o, b ∉ wr → b ≠ S → s.heap.get? b = some o → h'.get? b = some o) → R (.ok (.ret d)) { s with heap := h', toks := tk }) →
    (∀ m v h' tk, n = m + 1 → P (argBest bt m) v → (∀ b o, b ∉ wr → b ≠ S → s.heap.get? b = some o → h'.get? b = some o) → R (.ok (.ret v)) { s with heap := h', toks := tk }) →
    codeAny (model prog w) A (.builtin "max.loop" ⟨[.ref I, .none, .ref S], [(kn, d)]⟩) R s := by
  have hSw : S ∉ wr := fun h => hSf (W.sub _ h)
  have hname : (toString "max" ++ toString ".loop" : String) = "max.loop" := by decide
  intro k
  induction k with
  | zero =>
    intro i s c old hi hst hK hS hR0 hR
    have hin : i = n := by omega
    refine codeAny_builtin F.entry_max_loop ?_
    rw [Around.under_plainId F.plain_max_loop _]
    show wpAny _ A.in1 (seqItems? (.ref S) >>= _) _ _ s
    refine wpAny_bind (wpAny_seqItems hS rfl ?_)
    show wpAny _ A.in1 (tryCatch (pyNext (.ref I)) _ >>= _) _ _ s
    refine wpAny_bind (wpAny_tryCatch (W.done s _ _ (hin ▸ hst) fun h' tk hk' => ?_))
    have hS' := hk' S _ hSw hS
    rcases hK with ⟨h0, rfl⟩ | ⟨j, v, hj, rfl, hP⟩
    · exact wpAny_bind (wpAny_rule (wpAny_pure (hR0 (by omega) h' tk fun b o hbw _ e => hk' b o hbw e)))
    · show wpAny _ A.in1 (updateSeq S (fun _ => #[]) >>= _) _ _ _
      refine wpAny_bind ?_
      refine wpAny_updateSeq hS' rfl (wpAny_bind (wpAny_letGo (wpAny_pure ?_)))
      exact hR j v _ tk (by omega) hP fun b o hbw hbS e => (Heap.get?_update_other _ _ (Ne.symm hbS)).trans (hk' b o hbw e)
  | succ k ih =>
    intro i s c old hi hst hK hS hR0 hR
    have hlt : i < n := by omega
    refine codeAny_builtin F.entry_max_loop ?_
    rw [Around.under_plainId F.plain_max_loop _]
    show wpAny _ A.in1 (seqItems? (.ref S) >>= _) _ _ s
    refine wpAny_bind (wpAny_seqItems hS rfl ?_)
    show wpAny _ A.in1 (tryCatch (pyNext (.ref I)) _ >>= _) _ _ s
    refine wpAny_bind (wpAny_tryCatch (W.item i s _ _ hlt hst fun v h' tk hP hst' hk' => ?_))
    have hS' := hk' S _ hSw hS
    have go : ∀ (h2 : Heap) (tk2 c2 : Nat) (old2 : Array Value), St (i + 1) h2 → Kept P bt (i + 1) old2 → h2.get? S = some { cls := .type "list", dict := none, data := .seq old2 c2, slots := #[] } →
        (∀ b o, b ∉ wr → b ≠ S → s.heap.get? b = some o → h2.get? b = some o) →
        codeAny (model prog w) A (.builtin "max.loop" ⟨[.ref I, .none, .ref S], [(kn, d)]⟩) R { s with heap := h2, toks := tk2 } := fun h2 tk2 c2 old2 a1 a2 a3 a4 =>
      ih (i + 1) { s with heap := h2, toks := tk2 } c2 old2 (by omega) a1 a2 a3 (fun z => by omega) fun m v' h'' tk'' e hP' hk'' => hR m v' h'' tk'' e hP' fun b o hbw hbS e => hk'' b o hbw hbS (a4 b o hbw hbS e)
    rcases hK with ⟨rfl, rfl⟩ | ⟨j, vb, rfl, rfl, hPb⟩
    · show wpAny _ A.in1 (updateSeq S (fun _ => #[v, v]) >>= _) _ _ _
      refine wpAny_bind ?_
      refine wpAny_updateSeq hS' rfl ?_
      rw [hname]
      refine wpAny_pure ⟨plainId_quiet F.plain_max_loop _, go _ _ _ _ (W.frame _ _ _ hst' fun b hbf o e => ?_) (.inr ⟨0, v, rfl, rfl, hP⟩) (Heap.get?_update_self _ hS' rfl) fun b o hbw hbS e => ?_⟩
      · exact (Heap.get?_update_other _ _ (fun h : S = b => hSf (by rw [h]; exact hbf))).trans e
      · exact (Heap.get?_update_other _ _ (Ne.symm hbS)).trans (hk' b o hbw e)
    · show wpAny _ A.in1 (tryCatch (holding [v, v] (richCompare .Gt v vb >>= _)) _ >>= _) _ _ _
      refine wpAny_bind (wpAny_tryCatch (wpAny_holding (wpAny_bind (hcmp (j + 1) (argBest bt j) v vb _ _ _ hP hPb ?_))))
      refine wpAny_bind (wpAny_holding (wpAny_truthy_bool ?_))
      refine wpAny_bind (wpAny_letGo (wpAny_pure ?_))
      cases hb : bt (j + 1) (argBest bt j) with
      | true =>
        simp only [if_true]
        refine wpAny_bind ?_
        refine wpAny_updateSeq hS' rfl (wpAny_bind (wpAny_letGo ?_))
        rw [hname]
        refine wpAny_pure ⟨plainId_quiet F.plain_max_loop _, go _ _ _ _ (W.frame _ _ _ hst' fun b hbf o e => ?_) (.inr ⟨j + 1, v, rfl, rfl, by simp only [argBest, hb, if_true]; exact hP⟩) (Heap.get?_update_self _ hS' rfl) fun b o hbw hbS e => ?_⟩
        · exact (Heap.get?_update_other _ _ (fun h : S = b => hSf (by rw [h]; exact hbf))).trans e
        · exact (Heap.get?_update_other _ _ (Ne.symm hbS)).trans (hk' b o hbw e)
      | false =>
        simp only [Bool.false_eq_true, if_false]
        refine wpAny_bind (wpAny_letGo ?_)
        rw [hname]
        exact wpAny_pure ⟨plainId_quiet F.plain_max_loop _, go _ _ _ _ hst' (.inr ⟨j + 1, vb, rfl, rfl, by simp only [argBest, hb, Bool.false_eq_true, if_false]; exact hPb⟩) hS' fun b o hbw _ e => hk' b o hbw e⟩
end
section
variable {prog : Program} {w : World} {A : Around} {E : Value → Shared → Prop} {s : Shared}
theorem args_maxd (a d : Value) : argsOk "max" ⟨[a], [(Str.ofString "default", d)]⟩ := by unfold argsOk; kernel_rfl
theorem bind_maxd (d : Value) : Builtin.Builtins.bindParams "max" ["key", "default"] 0 ⟨[], [(Str.ofString "default", d)]⟩ = pure [none, some d] := by rfl
theorem maxd_items {l : Addr} {xs : Array (Int × Tok)} {d : Value} {Q : Value → Shared → Prop} (hh : A.handled = none) (hl : s.heap.IsList l (intItems xs))
    (h0 : xs.size = 0 → ∀ h' tk, (∀ b o, s.heap.get? b = some o → h'.get? b = some o) → Q d { s with heap := h', toks := tk })
    (h : ∀ m v h' tk, xs.size = m + 1 → (intItems xs)[argBest (fun i j => decide (numAt xs i > numAt xs j)) m]? = some v → (∀ b o, s.heap.get? b = some o → h'.get? b = some o) → Q v { s with heap := h', toks := tk }) :
    wpAny (model prog w) A (call (.builtin "max") [.ref l] [(Str.ofString "default", d)]) Q E s := by
  have hname : (toString "max" ++ toString ".loop" : String) = "max.loop" := by decide
  have hc : wpAny (model prog w) A.in1 (Builtin.«max» ⟨[.ref l], [(Str.ofString "default", d)]⟩) (fun fin s' => match fin with
      | .done f => (match (Except.ok f : Result) with | .ok (.ret v) => Q v s' | .ok _ => False | .error e => E e s')
      | .again c' => c'.quiet = true ∧ codeAny (model prog w) A c' (fun r s' => match r with | .ok (.ret v) => Q v s' | .ok _ => False | .error e => E e s') s') E s := by
    show wpAny _ A.in1 (Builtin.Builtins.bindParams "max" ["key", "default"] 0 ⟨[], [(Str.ofString "default", d)]⟩ >>= _) _ _ s
    refine wpAny_bind (wpAny_of_eq (bind_maxd d) ?_)
    refine wpAny_bind (wpAny_pure ?_)
    refine wpAny_bind (iter_intList hl fun s₂ e st hfp hne => ?_)
    subst e
    refine wpAny_bind (wpAny_newObj_type ?_)
    rw [hname]
    have keep : ∀ (h' : Heap), (∀ b o, b ∉ [s.heap.objs.size] → b ≠ (s.heap.push { cls := .type "list_iterator", data := .fields #[.ref l, .int 0 0] }).objs.size →
        ((s.heap.push { cls := .type "list_iterator", data := .fields #[.ref l, .int 0 0] }).push { cls := .type "list", data := .seq #[] 0 }).get? b = some o → h'.get? b = some o) → ∀ b o, s.heap.get? b = some o → h'.get? b = some o := fun h' hk b o e => by
      have hb := Heap.lt_size e
      refine hk b o (fun hm => ?_) ?_ (Heap.get?_push_of_some _ (Heap.get?_push_of_some _ e))
      · rw [List.mem_singleton.mp hm] at hb
        exact Nat.lt_irrefl _ hb
      · rw [Heap.size_push]
        exact Nat.ne_of_lt (Nat.lt_succ_of_lt hb)
    have W := Walks.list (prog := prog) (w := w) (A := A.in1) hh s.heap.objs.size l hne (intItems xs)
    refine wpAny_pure ⟨plainId_quiet F.plain_max_loop _, mxd_loop W _ (CmpOf.ints_gt (numAt xs) (fun _ _ => intItems_at)) (fun hm => Nat.lt_irrefl _ (hfp _ hm)) (intItems xs).size 0 _ 0 #[] (by omega)
      (W.frame _ _ _ st fun b _ o e => Heap.get?_push_of_some _ e) (.inl ⟨rfl, rfl⟩) (Heap.get?_push_size _ rfl) (fun z h' tk hk => ?_) fun m v h' tk e hP hk => ?_⟩
    · exact h0 (by simpa [intItems] using z) h' tk (keep h' hk)
    · exact h m v h' tk (by simpa [intItems] using e) hP (keep h' hk)
  refine wpAny_call (codeAny_call_builtin F.plain_max F.entry_max ?_)
  simp only [checkBuiltinCall, F.kind_max]
  cases hsig : Manifest.signature? "max" with
  | none => exact wpAny_pure hc
  | some sig =>
    have ha := args_maxd (.ref l) d
    simp only [argsOk, hsig] at ha
    show wpAny _ A.in1 (Bind.checkArgs "max" sig ⟨[.ref l], [(Str.ofString "default", d)]⟩) _ _ s
    rw [ha]
    exact wpAny_pure hc
end
section
variable {X : Cx}
/-- the greatest, or the given -/
def rMaxd (K : PySem.W.Frag) : List V → List V → Hp → VK → Prop := fun xs zs H Q => ∃ (a : Addr) (ns : List Int) (z : V), xs = [V.ref a] ∧ zs = [z] ∧ SqL K H a (ns.map V.int) ∧ (ns = [] → Q z H) ∧ ∀ M, M ∈ ns → (∀ a ∈ ns, a ≤ M) → Q (.int M) H
theorem cr_maxd (hc : X.calm = true) : CallRK X (.builtin "max") [Str.ofString "default"] (rMaxd X.K) := by
  intro pins s σ H vs zs us ws Q I rv rz h
  obtain ⟨a, ns, z, rfl, rfl, hs, q0, q1⟩ := h
  obtain ⟨its, ri, hl, _⟩ := I.list hs
  rw [Vals.ref1 rv]
  cases rz with
  | cons r1 r2 =>
    rename_i w0 _
    cases r2
    have hi := ri.ints
    obtain ⟨xs, e⟩ := hi.allInts.items
    have hn : numsOf (intItems xs).toList = ns := by rw [← e]; exact hi.numsOf
    rw [nums_intItems] at hn
    have hl' := hl.isList
    rw [e] at hl'
    refine maxd_items (I.ok.hd hc) hl' (fun h0 h' tk hk => ?_) fun m v h' tk hm hv hk => ?_
    · exact ⟨z, H, I.kept hk, r1, q0 (by rw [← hn]; have : xs.toList = [] := by rw [← List.length_eq_zero_iff, Array.length_toList]; exact h0
                                         rw [this]; rfl)⟩
    · obtain ⟨t, rfl⟩ := intItems_at hv
      obtain ⟨h1, h2⟩ := argBest_gt (numAt xs) m
      subst hn
      refine ⟨.int _, H, I.kept hk, ⟨_, rfl⟩, q1 _ ?_ fun a ha => ?_⟩
      · rw [numAt_eq]; exact PySem.getD_mem (by rw [List.length_map, Array.length_toList]; omega)
      · obtain ⟨j, hj, rfl⟩ := mem_getD ha
        rw [List.length_map, Array.length_toList] at hj
        rw [← numAt_eq]; exact h2 j (by omega)
variable {G : Tab} {cal : Cal} {a b c : Expr} {ea eb : E} {p p1 p2 p3 kp vp : Pos} {ck : Option Str}
theorem s_mxd {j : Nat} {k : Int} (hc : X.calm = true) (hg : Gl X "max") (hm : X.mg "max" = none) (ha : PE X a (TEv X.K G cal ea)) (hs : starEach [a] X.env = (false, eval a X.env) :: starEach [] X.env) :
    PE X (.Call (.Name "max" p) [a] [⟨some (Str.ofString "default"), .Constant (.int k) j vp, kp⟩] p2) (TEv X.K G cal (.mxd ea k)) :=
  (pe_callBK (cr_maxd hc) hg hm boot_max (pa_cons ha pa_nil hs) (pk_cons pe_int pk_nil) (by decide) (by decide) (by rw [hs]; rfl) (by rw [hs]; rfl)).imp fun σ H Q q => by
    obtain ⟨ρ, F, s, d, s', S, hv, kq⟩ := q
    simp only [evE] at hv
    obtain ⟨d1, s1, h1, hv⟩ := R.bind_ok hv
    obtain ⟨ho, rfl⟩ := R.ofO_ok hv
    refine ⟨ρ, F, s, d1, s1, S, h1, fun ρ1 w1 H1 S1 g1 l1 r1 _ => ?_⟩
    obtain ⟨ds, ns, eD, hns, rfl⟩ : ∃ ds ns, reD ea d1 s1 = .lst ds ∧ allInts ds = some ns ∧ d = .int (match ns with | [] => k | n :: ns => ns.foldl max n) := by
      cases e : reD ea d1 s1 <;> rw [e] at ho <;> try (cases ho; done)
      rename_i ds
      obtain ⟨ns, h2, h3⟩ := Option.map_eq_some_iff.mp ho
      exact ⟨ds, ns, rfl, h2, h3.symm⟩
    have q0 := r1.rep0 S1
    rw [eD] at q0
    obtain ⟨l, vs, rfl, hq, qq⟩ := q0.lstI
    rw [qq.ints hns] at hq
    have fin := fin_of (e := .mxd ea k) rfl S1 g1 l1 kq
    refine ⟨l, ns, .int k, rfl, rfl, hq, fun h0 => ?_, fun M hM hA => ?_⟩
    · subst h0
      exact fin.int
    · cases ns with
      | nil => cases hM
      | cons n ns =>
        obtain ⟨m1, m2⟩ := foldMax ns n
        have : M = ns.foldl max n := Int.le_antisymm (m2 _ hM) (hA _ m1)
        rw [this]
        exact fin.int
theorem s_lrg1 (hc : X.calm = true) (hg : Gl X "list") (hm : X.mg "list" = none) (hg2 : Gl X "range") (hm2 : X.mg "range" = none) (ha : PE X a (TEv X.K G cal ea)) (hn : noPk ea = true) (hs : starEach [a] X.env = [(false, eval a X.env)]) :
    PE X (.Call (.Name "list" p) [.Call (.Name "range" p1) [a] [] p2] [] p3) (TEv X.K G cal (.lrg [ea])) :=
  (pe_listRg hc hg hm (prg_1 hg2 hm2 ha hs)).imp fun σ H Q q => by
    obtain ⟨ρ, F, s, d, s', S, hv, k⟩ := q
    simp only [evE] at hv
    obtain ⟨ds, s1, h0, hv⟩ := R.bind_ok hv
    obtain ⟨d1, rfl, h1⟩ := evEs_one h0
    obtain ⟨ho, rfl⟩ := R.ofO_ok hv
    refine ⟨ρ, F, s, d1, s1, S, h1, fun ρ1 w1 H1 S1 g1 l1 r1 _ => ?_⟩
    obtain ⟨n, rfl⟩ : ∃ n, d1 = .int n := by
      cases d1 <;> first | exact ⟨_, rfl⟩ | cases ho
    simp only [lrgD] at ho
    split at ho
    case isFalse => cases ho
    rename_i hd
    cases ho
    obtain ⟨b1, b2⟩ := Bool.and_eq_true_iff.mp hd
    have b1 := of_decide_eq_true b1
    have b2 := of_decide_eq_true b2
    exact ⟨n, (r1.rep (noPk_ne hn)).intI, .of_le (by omega) b2 (by omega) b1, fun p hp => (fin_of (e := .lrg [ea]) rfl S1 g1 l1 k).lst S1.tracked (reps_rng 0 n) p hp⟩
theorem evEs_two' {e e' : E} {s s1 : MS} {ds : List D} (h : evEs G cal [e, e'] s = .ok ds s1) : ∃ d d' sm, ds = [d, d'] ∧ evE G cal e s = .ok d sm ∧ evE G cal e' sm = .ok d' s1 := by
  simp only [evEs] at h
  obtain ⟨d, s2, h1, h⟩ := R.bind_ok h
  obtain ⟨ds2, s3, h2, h⟩ := R.bind_ok h
  obtain ⟨d3, s4, h3, h2⟩ := R.bind_ok h2
  obtain ⟨ds5, s6, h5, h2⟩ := R.bind_ok h2
  cases h5
  cases h2
  cases h
  exact ⟨d, d3, _, rfl, h1, h3⟩
theorem s_lrg2 (hc : X.calm = true) (hg : Gl X "list") (hm : X.mg "list" = none) (hg2 : Gl X "range") (hm2 : X.mg "range" = none) (ha : PE X a (TEv X.K G cal ea)) (hb : PE X b (TEv X.K G cal eb)) (hn : noPk ea = true) (hn2 : noPk eb = true) (hs : starEach [a, b] X.env = (false, eval a X.env) :: starEach [b] X.env) (hs2 : starEach [b] X.env = (false, eval b X.env) :: starEach [] X.env) (hpl : (backTo p2 (starEach [b] X.env)).any (·.1) = false) :
    PE X (.Call (.Name "list" p) [.Call (.Name "range" p1) [a, b] [] p2] [] p3) (TEv X.K G cal (.lrg [ea, eb])) :=
  (pe_listRg hc hg hm (prg_2 hg2 hm2 ha hb hs hs2 hpl)).imp fun σ H Q q => by
    obtain ⟨ρ, F, s, d, s', S, hv, k⟩ := q
    simp only [evE] at hv
    obtain ⟨ds, s1, h0, hv⟩ := R.bind_ok hv
    obtain ⟨d1, d2, sm, rfl, h1, h2⟩ := evEs_two' h0
    obtain ⟨ho, rfl⟩ := R.ofO_ok hv
    obtain ⟨m, n, rfl, rfl⟩ : ∃ m n, d1 = .int m ∧ d2 = .int n := by
      cases d1 <;> try (cases ho; done)
      cases d2 <;> try (cases ho; done)
      exact ⟨_, _, rfl, rfl⟩
    simp only [lrgD] at ho
    split at ho
    case isFalse => cases ho
    rename_i hd
    cases ho
    obtain ⟨b1, hd⟩ := Bool.and_eq_true_iff.mp hd
    obtain ⟨b2, hd⟩ := Bool.and_eq_true_iff.mp hd
    obtain ⟨b3, b4⟩ := Bool.and_eq_true_iff.mp hd
    refine ⟨ρ, F, s, _, sm, S, h1, fun ρ1 w1 H1 S1 g1 l1 r1 _ => ⟨ρ1, F, sm, _, s1, S1, h2, fun ρ2 w2 H2 S2 g2 l2 r2 _ => ?_⟩⟩
    exact ⟨m, n, (r1.rep (noPk_ne hn)).intI, (r2.rep (noPk_ne hn2)).intI, .of_le (of_decide_eq_true b1) (of_decide_eq_true b4) (of_decide_eq_true b2) (of_decide_eq_true b3), fun p hp => (fin_of (e := .lrg [ea, eb]) rfl S2 (g1.trans g2) (l1.trans l2) k).lst S2.tracked (reps_rng m n) p hp⟩
end
end Tw
end

section
set_option linter.all false
set_option autoImplicit false
set_option maxRecDepth 100000
set_option maxHeartbeats 4000000
/-! a.lstrip(b), a.rstrip(b), a.split(b), a.partition(b), f-strings. -/
namespace Tw
open PySem L2 PyProof.Rows
/-! pieces -/
theorem splC_ne (c : Nat) : ∀ a, splC c a ≠ []
  | [] => nofun
  | x :: xs => by
    unfold splC
    split
    · nofun
    · split <;> nofun
theorem splC_app {c : Nat} : ∀ {p : List Nat} (r : List Nat), c ∉ p → splC c (p ++ c :: r) = p :: splC c r
  | [], r, _ => by simp [splC]
  | x :: p, r, h => by
    have hx : x ≠ c := fun e => h (e ▸ List.mem_cons_self)
    have ih := splC_app r fun e => h (List.mem_cons_of_mem _ e)
    rw [List.cons_append, splC, if_neg hx, ih]
theorem splC_free {c : Nat} : ∀ {p : List Nat}, c ∉ p → splC c p = [p]
  | [], _ => rfl
  | x :: p, h => by
    have hx : x ≠ c := fun e => h (e ▸ List.mem_cons_self)
    have ih := splC_free fun e => h (List.mem_cons_of_mem _ e)
    rw [splC, if_neg hx, ih]
/-- pieces without the sign, joined by it -/
theorem splC_join {c : Nat} : ∀ {ps : List (List Nat)}, ps ≠ [] → (∀ p ∈ ps, c ∉ p) → splC c (joinL [c] ps) = ps
  | [], h, _ => absurd rfl h
  | [p], _, h => splC_free (h p List.mem_cons_self)
  | p :: q :: ps, _, h => by
    have ih := splC_join (ps := q :: ps) nofun fun x hx => h x (List.mem_cons_of_mem _ hx)
    show splC c (p ++ ([c] ++ joinL [c] (q :: ps))) = _
    rw [show p ++ ([c] ++ joinL [c] (q :: ps)) = p ++ c :: joinL [c] (q :: ps) from rfl, splC_app _ (h p List.mem_cons_self), ih]
theorem splC_mem {c : Nat} : ∀ {a p : List Nat} {x : Nat}, p ∈ splC c a → x ∈ p → x ∈ a
  | [], p, x, h, k => by
    rw [splC, List.mem_singleton] at h
    subst h
    cases k
  | y :: a, p, x, h, k => by
    unfold splC at h
    split at h
    · rcases List.mem_cons.mp h with rfl | h
      · cases k
      · exact List.mem_cons_of_mem _ (splC_mem h k)
    · split at h
      · rename_i e
        exact absurd e (splC_ne c a)
      · rename_i q qs e
        rcases List.mem_cons.mp h with rfl | h
        · rcases List.mem_cons.mp k with rfl | k
          · exact List.mem_cons_self
          · exact List.mem_cons_of_mem _ (splC_mem (a := a) (p := q) (by rw [e]; exact List.mem_cons_self) k)
        · exact List.mem_cons_of_mem _ (splC_mem (a := a) (p := p) (by rw [e]; exact List.mem_cons_of_mem _ h) k)
theorem splC_len {c : Nat} : ∀ {a p : List Nat}, p ∈ splC c a → p.length ≤ a.length
  | [], p, h => by
    rw [splC, List.mem_singleton] at h
    subst h
    exact Nat.le_refl _
  | y :: a, p, h => by
    unfold splC at h
    split at h
    · rcases List.mem_cons.mp h with rfl | h
      · exact Nat.zero_le _
      · exact Nat.le_succ_of_le (splC_len h)
    · split at h
      · rename_i e
        exact absurd e (splC_ne c a)
      · rename_i q qs e
        rcases List.mem_cons.mp h with rfl | h
        · have := splC_len (a := a) (p := q) (by rw [e]; exact List.mem_cons_self)
          simp only [List.length_cons]
          omega
        · exact Nat.le_succ_of_le (splC_len (a := a) (p := p) (by rw [e]; exact List.mem_cons_of_mem _ h))
theorem strOf (s : Str) : s = ⟨s.cps.toList.toArray⟩ := by cases s; simp
theorem join_cps (c : Nat) : ∀ ys : List Str, (Str.join ⟨#[c]⟩ ys).cps.toList = joinL [c] (ys.map fun y => y.cps.toList)
  | [] => rfl
  | [y] => rfl
  | y :: z :: ys => by
    have ih := join_cps c (z :: ys)
    show (y ++ ⟨#[c]⟩ ++ Str.join ⟨#[c]⟩ (z :: ys)).cps.toList = y.cps.toList ++ ([c] ++ joinL [c] ((z :: ys).map fun y => y.cps.toList))
    rw [← ih]
    show ((y.cps ++ #[c]) ++ (Str.join ⟨#[c]⟩ (z :: ys)).cps).toList = _
    simp
theorem split_cps (a : List Nat) (c : Nat) : Txt.split ⟨a.toArray⟩ ⟨#[c]⟩ = (splC c a).map fun p => ⟨p.toArray⟩ := by
  have h1 := StrLaws.join_split ⟨a.toArray⟩ ⟨#[c]⟩
  have h2 := StrLaws.split_free ⟨a.toArray⟩ c
  have h3 := PyProof.Rows.split_pos ⟨a.toArray⟩ ⟨#[c]⟩
  generalize Txt.split ⟨a.toArray⟩ ⟨#[c]⟩ = ys at *
  have e1 : joinL [c] (ys.map fun y => y.cps.toList) = a := by
    rw [← join_cps, h1]
  have e2 : splC c a = ys.map fun y => y.cps.toList := by
    rw [← e1]
    refine splC_join ?_ ?_
    · intro e
      have := congrArg List.length e
      rw [List.length_map] at this
      simp at this
      rw [this] at h3
      simp at h3
    · intro p hp
      obtain ⟨y, hy, rfl⟩ := List.mem_map.mp hp
      exact h2 y hy
  rw [e2, List.map_map]
  conv => lhs; rw [← List.map_id ys]
  exact List.map_congr_left fun y _ => strOf y
theorem drop_tw (p : Nat → Bool) : ∀ a : List Nat, a.drop (a.takeWhile p).length = a.dropWhile p
  | [] => rfl
  | x :: a => by
    rw [List.takeWhile_cons, List.dropWhile_cons]
    cases p x with
    | true => simpa using drop_tw p a
    | false => rfl
theorem str_of_list {s : Str} {l : List Nat} (h : s.cps.toList = l) : s = ⟨l.toArray⟩ := by
  subst h
  exact strOf s
theorem lstrip_cps (a b : List Nat) : Txt.lstripChars (⟨a.toArray⟩ : Str) ⟨b.toArray⟩ = ⟨(a.dropWhile b.contains).toArray⟩ := by
  have e : (b.toArray.contains : Nat → Bool) = b.contains := by
    funext c
    simp
  refine str_of_list ?_
  unfold Txt.lstripChars
  rw [PyProof.Rows.stripBy_eq, e]
  rw [show ∀ (s : Str) (i j : Nat), (Builtin.Str.strSub s i j).cps.toList = (s.cps.toList.drop i).take (j - i) from fun s i j => by simp [Builtin.Str.strSub]]
  show ((a.drop (a.takeWhile b.contains).length).take (a.length - (a.takeWhile b.contains).length)) = _
  rw [List.take_of_length_le (by rw [List.length_drop]; exact Nat.le_refl _), drop_tw]
theorem rstrip_cps (a b : List Nat) : Txt.rstripChars (⟨a.toArray⟩ : Str) ⟨b.toArray⟩ = ⟨((a.reverse.dropWhile b.contains).reverse).toArray⟩ := by
  have e : (b.toArray.contains : Nat → Bool) = b.contains := by
    funext c
    simp
  refine str_of_list ?_
  unfold Txt.rstripChars
  rw [PyProof.Rows.stripBy_eq, e]
  rw [show ∀ (s : Str) (i j : Nat), (Builtin.Str.strSub s i j).cps.toList = (s.cps.toList.drop i).take (j - i) from fun s i j => by simp [Builtin.Str.strSub]]
  show ((a.drop 0).take (a.length - ((a.drop 0).reverse.takeWhile b.contains).length - 0)) = _
  rw [List.drop_zero, Nat.sub_zero, ← drop_tw, List.drop_reverse, List.reverse_reverse, ]
theorem part_free' {a : List Nat} {c i : Nat} (hi : a[i]? = some c) (hn : ∀ k, k < i → a[k]? ≠ some c) : a.takeWhile (· != c) = a.take i ∧ (a.dropWhile (· != c)).drop 1 = a.drop (i + 1) ∧ c ∈ a := by
  induction a generalizing i with
  | nil => simp at hi
  | cons x a ih =>
    cases i with
    | zero =>
      simp at hi
      subst hi
      simp
    | succ i =>
      have hx : x ≠ c := fun e => hn 0 (Nat.succ_pos _) (by simp [e])
      obtain ⟨h1, h2, h3⟩ := ih (i := i) (by simpa using hi) fun k hk => by
        have := hn (k + 1) (by omega)
        simpa using this
      refine ⟨?_, ?_, List.mem_cons_of_mem _ h3⟩
      · rw [List.takeWhile_cons_of_pos (by simp [hx]), h1]
        rfl
      · rw [List.dropWhile_cons_of_pos (by simp [hx]), h2]
        rfl
theorem ptn_cps (a : List Nat) (c : Nat) : Txt.partition ⟨a.toArray⟩ ⟨#[c]⟩ = (⟨(a.takeWhile (· != c)).toArray⟩, ⟨(if a.contains c then [c] else []).toArray⟩, ⟨((a.dropWhile (· != c)).drop 1).toArray⟩) := by
  have hat : ∀ i, StrLaws.At ⟨a.toArray⟩ ⟨#[c]⟩ (⟨a.toArray⟩ : Str).length i ↔ a[i]? = some c := fun i => StrLaws.subAt_one ⟨a.toArray⟩ c i
  have hs : ∀ (s : Str) (i j : Nat), (Builtin.Str.strSub s i j).cps.toList = (s.cps.toList.drop i).take (j - i) := fun s i j => by simp [Builtin.Str.strSub]
  have hlen : (⟨a.toArray⟩ : Str).length = a.length := by simp [Str.length]
  unfold Txt.partition
  rcases StrLaws.occ_head ⟨a.toArray⟩ ⟨#[c]⟩ 1 (Nat.le_refl 1) with ⟨h0, hn⟩ | ⟨i, r, h0, hi, hn⟩
  · rw [h0]
    have hnm : c ∉ a := fun hm => by
      obtain ⟨i, hi⟩ := List.getElem?_of_mem hm
      exact hn i ((hat i).mpr hi)
    have hnn : ∀ l : List Nat, c ∉ l → l.takeWhile (· != c) = l ∧ l.dropWhile (· != c) = [] := by
      intro l
      induction l with
      | nil => exact fun _ => ⟨rfl, rfl⟩
      | cons x l ih =>
        intro h
        have hx : x ≠ c := fun e => h (e ▸ List.mem_cons_self)
        obtain ⟨i1, i2⟩ := ih fun e => h (List.mem_cons_of_mem _ e)
        rw [List.takeWhile_cons_of_pos (by simp [hx]), List.dropWhile_cons_of_pos (by simp [hx]), i1, i2]
        exact ⟨rfl, rfl⟩
    obtain ⟨h1, h2⟩ := hnn a hnm
    rw [h1, h2]
    simp [hnm]
    rfl
  · rw [h0]
    have hi' := (hat i).mp hi
    obtain ⟨h1, h2, h3⟩ := part_free' hi' fun k hk e => hn k hk ((hat k).mpr e)
    rw [h1, h2]
    refine Prod.ext ?_ (Prod.ext ?_ ?_)
    · refine str_of_list ?_
      rw [hs]
      simp
    · simp [h3]
    · refine str_of_list ?_
      rw [hs, hlen]
      show (a.drop (i + 1)).take (a.length - (i + 1)) = _
      rw [List.take_of_length_le (by rw [List.length_drop]; exact Nat.le_refl _)]
section
variable {X : Cx} {G : Tab} {cal : Cal} {o x : Expr} {ea eb : E} {ap p2 : Pos}
theorem strOk_sub {a b : List Nat} (h : strOk a = true) (hl : b.length ≤ a.length) (hm : ∀ c ∈ b, c ∈ a) : strOk b = true := by
  obtain ⟨o1, o2⟩ := Bool.and_eq_true_iff.mp h
  unfold strOk
  rw [Bool.and_eq_true]
  exact ⟨decide_eq_true (Nat.le_trans hl (of_decide_eq_true o1)), List.all_eq_true.mpr fun c hc => List.all_eq_true.mp o2 c (hm c hc)⟩
theorem s_lstr (ha : PE X o (TEv X.K G cal ea)) (hx : PE X x (TEv X.K G cal eb)) (hn : noPk ea = true) (hn2 : noPk eb = true) (hs : starEach [x] X.env = [(false, eval x X.env)]) (hb : attributeBase o "lstrip" X.env (eval o X.env) = eval o X.env) (hl : (ap.endLine == p2.line) = true) :
    PE X (.Call (.Attribute o "lstrip" ap) [x] [] p2) (TEv X.K G cal (.tx .lst ea eb)) :=
  (pe_m1 F.slot_str_lstrip F.type_str_lstrip mt_lstripChars ha hx hs hb hl).imp fun σ H Q q => by
    obtain ⟨ρ, F, s, d, s', S, hv, k⟩ := q
    simp only [evE] at hv
    obtain ⟨d1, s1, h1, hv⟩ := R.bind_ok hv
    obtain ⟨d2, s2, h2, hv⟩ := R.bind_ok hv
    obtain ⟨hv, rfl⟩ := R.ofO_ok hv
    obtain ⟨z, y, rfl, rfl⟩ : ∃ z y, d1 = .str z ∧ d2 = .str y := by
      cases d1 <;> try (cases hv; done)
      cases d2 <;> try (cases hv; done)
      exact ⟨_, _, rfl, rfl⟩
    cases hv
    refine ⟨ρ, F, s, _, s1, S, h1, fun ρ1 w1 H1 S1 g1 l1 r1 _ => ?_⟩
    obtain ⟨rfl, oz⟩ := (r1.rep (noPk_ne hn)).strI
    refine ⟨⟨_, rfl⟩, ρ1, F, s1, _, s2, S1, h2, fun ρ2 w2 H2 S2 g2 l2 r2 _ => ?_⟩
    obtain ⟨rfl, oy⟩ := (r2.rep (noPk_ne hn2)).strI
    have hlen : (⟨z.toArray⟩ : Str).length = z.length := by simp [Str.length]
    refine ⟨_, _, rfl, rfl, by rw [hlen, sizeLine_eq]; exact of_decide_eq_true (Bool.and_eq_true_iff.mp oz).1, ?_⟩
    rw [lstrip_cps]
    refine Fin.str (fin_of (e := .tx .lst ea eb) rfl S2 (g1.trans g2) (l1.trans l2) k) ?_
    exact strOk_sub oz (List.dropWhile_sublist _).length_le fun c hc => (List.dropWhile_sublist _).subset hc
theorem s_rstr (ha : PE X o (TEv X.K G cal ea)) (hx : PE X x (TEv X.K G cal eb)) (hn : noPk ea = true) (hn2 : noPk eb = true) (hs : starEach [x] X.env = [(false, eval x X.env)]) (hb : attributeBase o "rstrip" X.env (eval o X.env) = eval o X.env) (hl : (ap.endLine == p2.line) = true) :
    PE X (.Call (.Attribute o "rstrip" ap) [x] [] p2) (TEv X.K G cal (.tx .rst ea eb)) :=
  (pe_m1 F.slot_str_rstrip F.type_str_rstrip mt_rstripChars ha hx hs hb hl).imp fun σ H Q q => by
    obtain ⟨ρ, F, s, d, s', S, hv, k⟩ := q
    simp only [evE] at hv
    obtain ⟨d1, s1, h1, hv⟩ := R.bind_ok hv
    obtain ⟨d2, s2, h2, hv⟩ := R.bind_ok hv
    obtain ⟨hv, rfl⟩ := R.ofO_ok hv
    obtain ⟨z, y, rfl, rfl⟩ : ∃ z y, d1 = .str z ∧ d2 = .str y := by
      cases d1 <;> try (cases hv; done)
      cases d2 <;> try (cases hv; done)
      exact ⟨_, _, rfl, rfl⟩
    cases hv
    refine ⟨ρ, F, s, _, s1, S, h1, fun ρ1 w1 H1 S1 g1 l1 r1 _ => ?_⟩
    obtain ⟨rfl, oz⟩ := (r1.rep (noPk_ne hn)).strI
    refine ⟨⟨_, rfl⟩, ρ1, F, s1, _, s2, S1, h2, fun ρ2 w2 H2 S2 g2 l2 r2 _ => ?_⟩
    obtain ⟨rfl, oy⟩ := (r2.rep (noPk_ne hn2)).strI
    have hlen : (⟨z.toArray⟩ : Str).length = z.length := by simp [Str.length]
    refine ⟨_, _, rfl, rfl, by rw [hlen, sizeLine_eq]; exact of_decide_eq_true (Bool.and_eq_true_iff.mp oz).1, ?_⟩
    rw [rstrip_cps]
    refine Fin.str (fin_of (e := .tx .rst ea eb) rfl S2 (g1.trans g2) (l1.trans l2) k) ?_
    refine strOk_sub oz ?_ fun c hc => ?_
    · rw [List.length_reverse]
      have := (List.dropWhile_sublist (p := y.contains) (l := z.reverse)).length_le
      rwa [List.length_reverse] at this
    · exact List.mem_reverse.mp ((List.dropWhile_sublist _).subset (List.mem_reverse.mp hc))
theorem s_spl (ha : PE X o (TEv X.K G cal ea)) (hx : PE X x (TEv X.K G cal eb)) (hn : noPk ea = true) (hn2 : noPk eb = true) (hs : starEach [x] X.env = [(false, eval x X.env)]) (hb : attributeBase o "split" X.env (eval o X.env) = eval o X.env) (hl : (ap.endLine == p2.line) = true) :
    PE X (.Call (.Attribute o "split" ap) [x] [] p2) (TEv X.K G cal (.tx .spl ea eb)) :=
  (pe_split ha hx hs hb hl).imp fun σ H Q q => by
    obtain ⟨ρ, F, s, d, s', S, hv, k⟩ := q
    simp only [evE] at hv
    obtain ⟨d1, s1, h1, hv⟩ := R.bind_ok hv
    obtain ⟨d2, s2, h2, hv⟩ := R.bind_ok hv
    obtain ⟨hv, rfl⟩ := R.ofO_ok hv
    obtain ⟨z, c, hz, rfl, rfl, rfl⟩ : ∃ z c, z.length + 2 ≤ SZ ∧ d1 = .str z ∧ d2 = .str [c] ∧ d = .lst ((splC c z).map .str) := by
      unfold txD at hv
      split at hv <;> try (rename_i e _ _; cases e; done)
      all_goals first
        | (cases hv; done)
        | skip
      split at hv
      · rename_i h
        cases hv
        exact ⟨_, _, of_decide_eq_true h, rfl, rfl, rfl⟩
      · cases hv
    refine ⟨ρ, F, s, _, s1, S, h1, fun ρ1 w1 H1 S1 g1 l1 r1 _ => ?_⟩
    obtain ⟨rfl, oz⟩ := (r1.rep (noPk_ne hn)).strI
    refine ⟨⟨_, rfl⟩, ρ1, F, s1, _, s2, S1, h2, fun ρ2 w2 H2 S2 g2 l2 r2 _ => ?_⟩
    obtain ⟨rfl, oy⟩ := (r2.rep (noPk_ne hn2)).strI
    have hlen : (⟨z.toArray⟩ : Str).length = z.length := by simp [Str.length]
    refine ⟨_, _, rfl, rfl, rfl, by rw [hlen, sizeLine_eq]; exact hz, ?_⟩
    rw [split_cps]
    intro p hp
    refine (fin_of (e := .tx .spl ea eb) rfl S2 (g1.trans g2) (l1.trans l2) k).lst S2.tracked ?_ p hp
    have : ∀ ps : List (List Nat), (∀ q ∈ ps, strOk q = true) → Reps X.K ρ2 (Mu ρ2 F s2.env σ) H2 (ps.map .str) ((ps.map fun p => (⟨p.toArray⟩ : Str)).map V.str) := by
      intro ps
      induction ps with
      | nil => exact fun _ => .nil
      | cons q ps ih => exact fun h => .cons (.str q (h q List.mem_cons_self)) (ih fun x hx => h x (List.mem_cons_of_mem _ hx))
    exact this _ fun q hq => strOk_sub oz (splC_len hq) fun c hc => splC_mem hq hc
theorem s_ptn (ha : PE X o (TEv X.K G cal ea)) (hx : PE X x (TEv X.K G cal eb)) (hn : noPk ea = true) (hn2 : noPk eb = true) (hs : starEach [x] X.env = [(false, eval x X.env)]) (hb : attributeBase o "partition" X.env (eval o X.env) = eval o X.env) (hl : (ap.endLine == p2.line) = true) :
    PE X (.Call (.Attribute o "partition" ap) [x] [] p2) (TEv X.K G cal (.tx .ptn ea eb)) :=
  (pe_partition ha hx hs hb hl).imp fun σ H Q q => by
    obtain ⟨ρ, F, s, d, s', S, hv, k⟩ := q
    simp only [evE] at hv
    obtain ⟨d1, s1, h1, hv⟩ := R.bind_ok hv
    obtain ⟨d2, s2, h2, hv⟩ := R.bind_ok hv
    obtain ⟨hv, rfl⟩ := R.ofO_ok hv
    obtain ⟨z, c, rfl, rfl, rfl⟩ : ∃ z c, d1 = .str z ∧ d2 = .str [c] ∧ d = .tup [.str (z.takeWhile (· != c)), .str (if z.contains c then [c] else []), .str ((z.dropWhile (· != c)).drop 1)] := by
      unfold txD at hv
      split at hv <;> try (rename_i e _ _; cases e; done)
      all_goals first
        | (cases hv; done)
        | skip
      cases hv
      exact ⟨_, _, rfl, rfl, rfl⟩
    refine ⟨ρ, F, s, _, s1, S, h1, fun ρ1 w1 H1 S1 g1 l1 r1 _ => ?_⟩
    obtain ⟨rfl, oz⟩ := (r1.rep (noPk_ne hn)).strI
    refine ⟨⟨_, rfl⟩, ρ1, F, s1, _, s2, S1, h2, fun ρ2 w2 H2 S2 g2 l2 r2 _ => ?_⟩
    obtain ⟨rfl, oy⟩ := (r2.rep (noPk_ne hn2)).strI
    have hlen : (⟨z.toArray⟩ : Str).length = z.length := by simp [Str.length]
    refine ⟨_, _, rfl, rfl, rfl, by rw [hlen, sizeLine_eq]; exact of_decide_eq_true (Bool.and_eq_true_iff.mp oz).1, ?_⟩
    rw [ptn_cps]
    intro p hp
    refine (fin_of (e := .tx .ptn ea eb) rfl S2 (g1.trans g2) (l1.trans l2) k).tup S2.tracked (.cons (.str _ ?_) (.cons (.str _ ?_) (.cons (.str _ ?_) .nil))) p hp
    · exact strOk_sub oz (List.takeWhile_sublist _).length_le fun c hc => (List.takeWhile_sublist _).subset hc
    · split
      · exact oy
      · rfl
    · have h1 := (List.dropWhile_sublist (p := (· != c)) (l := z))
      have h2 := (List.drop_sublist 1 (z.dropWhile (· != c))).trans h1
      exact strOk_sub oz h2.length_le fun c hc => h2.subset hc
/-! f-strings -/
inductive FP (X : Cx) (G : Tab) (cal : Cal) : List E → List Expr → Prop
  | nil : FP X G cal [] []
  | con {k : List Nat} {es : List E} {y : Expr} {vs : List Expr} : PE X y (TEv X.K G cal (.str k)) → FP X G cal es vs → FP X G cal (.str k :: es) (y :: vs)
  | fmt {e : E} {es : List E} {y : Expr} {vs : List Expr} {p : Pos} : PE X y (TEv X.K G cal e) → noPk e = true → FP X G cal es vs → FP X G cal (e :: es) (.FormattedValue y (-1) none p :: vs)
theorem sign_ok (c : Char) : c.toNat < 1114112 := by
  have h := c.valid
  unfold UInt32.isValidChar Nat.isValidChar at h
  show c.val.toNat < 1114112
  omega
theorem app_cps (a b : List Nat) : (⟨a.toArray⟩ : Str) ++ ⟨b.toArray⟩ = ⟨(a ++ b).toArray⟩ := by
  show (⟨a.toArray ++ b.toArray⟩ : Str) = _
  simp
theorem fstL_cons {d : D} {ds : List D} {out : List Nat} (h : fstL (d :: ds) = some out) : ∃ y r, out = y ++ r ∧ fstL ds = some r ∧ (d = .str y ∨ ∃ i : Int, d = .int i ∧ i.natAbs.log2 < 1920 ∧ y = intText i) := by
  cases d <;> try (cases h; done)
  · rename_i i
    simp only [fstL] at h
    split at h
    · rename_i hl
      obtain ⟨r, h1, rfl⟩ := Option.map_eq_some_iff.mp h
      exact ⟨_, r, rfl, h1, .inr ⟨i, rfl, of_decide_eq_true hl, rfl⟩⟩
    · cases h
  · rename_i s
    simp only [fstL] at h
    obtain ⟨r, h1, rfl⟩ := Option.map_eq_some_iff.mp h
    exact ⟨_, r, rfl, h1, .inl rfl⟩
theorem fp_js {es : List E} {vs : List Expr} (h : FP X G cal es vs) : ∃ ts, PJ X vs ts ∧ ∀ (acc : List Nat) (σ : L2.St) (H : Hp) (Q : Str → Hp → Prop) (ρ : List Addr) (F : Addr → Prop) (s : MS) (ds : List D) (s' : MS) (out : List Nat),
    Sim X.K ρ F s σ H → evEs G cal es s = .ok ds s' → fstL ds = some out → (acc ++ out).length ≤ SZ → acc.all (fun c => decide (c < 1114112)) = true →
    (∀ ρ' H', Sim X.K ρ' F s' σ H' → Go ρ F s σ H ρ' s' σ H' → Live s s' → (acc ++ out).all (fun c => decide (c < 1114112)) = true → Q ⟨(acc ++ out).toArray⟩ H') → tJs ts ⟨acc.toArray⟩ σ H Q := by
  have len : ∀ a : List Nat, (⟨a.toArray⟩ : Str).length = a.length := fun a => by simp [Str.length]
  induction h with
  | nil =>
    refine ⟨[], .nil, fun acc σ H Q ρ F s ds s' out S hv ho hz hok k => ?_⟩
    simp only [evEs] at hv
    cases hv
    cases ho
    have := k ρ H S Go.refl Live.refl (by rw [List.append_nil]; exact hok)
    rw [List.append_nil] at this
    exact this
  | @con k es y vs hy _ ih =>
    obtain ⟨ts, hj, hr⟩ := ih
    refine ⟨_ :: ts, .cons hy hj, fun acc σ H Q ρ F s ds s' out S hv ho hz hok kq => ?_⟩
    simp only [evEs] at hv
    obtain ⟨d1, s1, h1, hv⟩ := R.bind_ok hv
    obtain ⟨ds2, s2, h2, hv⟩ := R.bind_ok hv
    cases hv
    obtain ⟨t, r, rfl, h3, h4⟩ := fstL_cons ho
    have hd : d1 = .str k := by
      simp only [evE] at h1
      cases h1
      rfl
    subst hd
    have ht : t = k := by
      rcases h4 with h4 | ⟨i, h4, _⟩ <;> cases h4
      rfl
    subst ht
    refine ⟨ρ, F, s, _, s1, S, h1, fun ρ1 w1 H1 S1 g1 l1 r1 _ => ?_⟩
    obtain ⟨rfl, oz⟩ := (r1.rep (noPk_ne (e := .str t) rfl)).strI
    rw [List.length_append, List.length_append] at hz
    refine ⟨_, rfl, by rw [app_cps, len, List.length_append, sizeLine_eq]; show _ ≤ 16777216; have : SZ = 16777216 := rfl; omega, ?_⟩
    rw [app_cps]
    refine hr (acc ++ t) σ H1 Q ρ1 F s1 ds2 _ r S1 h2 h3 (by rw [List.length_append, List.length_append]; omega) ?_ fun ρ' H' S' g' l' ok' => ?_
    · rw [List.all_append, hok]
      exact (Bool.and_eq_true_iff.mp oz).2
    · rw [List.append_assoc] at ok' ⊢
      exact kq ρ' H' S' (g1.trans g') (l1.trans l') ok'
  | @fmt e es y vs p hy hn _ ih =>
    obtain ⟨ts, hj, hr⟩ := ih
    refine ⟨_ :: ts, .cons (pe_fmt hy) hj, fun acc σ H Q ρ F s ds s' out S hv ho hz hok kq => ?_⟩
    simp only [evEs] at hv
    obtain ⟨d1, s1, h1, hv⟩ := R.bind_ok hv
    obtain ⟨ds2, s2, h2, hv⟩ := R.bind_ok hv
    cases hv
    obtain ⟨t, r, rfl, h3, h4⟩ := fstL_cons ho
    refine ⟨ρ, F, s, _, s1, S, h1, fun ρ1 w1 H1 S1 g1 l1 r1 _ => ?_⟩
    rw [List.length_append, List.length_append] at hz
    have hZ : SZ = 16777216 := rfl
    have go : (t.all fun c => decide (c < 1114112)) = true → ∃ y_1 : Str, V.str ⟨t.toArray⟩ = .str y_1 ∧ ((⟨acc.toArray⟩ : Str) ++ y_1).length ≤ sizeLine ∧ tJs ts (⟨acc.toArray⟩ ++ y_1) σ H1 Q := by
      intro hok2
      refine ⟨_, rfl, by rw [app_cps, len, List.length_append, sizeLine_eq]; show _ ≤ 16777216; omega, ?_⟩
      rw [app_cps]
      refine hr (acc ++ t) σ H1 Q ρ1 F s1 ds2 _ r S1 h2 h3 (by rw [List.length_append, List.length_append]; omega) (by rw [List.all_append, hok, hok2]; rfl) fun ρ' H' S' g' l' ok' => ?_
      rw [List.append_assoc] at ok' ⊢
      exact kq ρ' H' S' (g1.trans g') (l1.trans l') ok'
    rcases h4 with rfl | ⟨i, rfl, hi, rfl⟩
    · obtain ⟨rfl, oz⟩ := (r1.rep (noPk_ne hn)).strI
      exact .inl ⟨_, rfl, by rw [len, sizeLine_eq]; show _ ≤ 16777216; omega, go (Bool.and_eq_true_iff.mp oz).2⟩
    · have e1 := (r1.rep (noPk_ne hn)).intI
      subst e1
      refine .inr ⟨i, rfl, hi, ?_⟩
      rw [ofStr]
      refine go (List.all_eq_true.mpr fun c hc => decide_eq_true ?_)
      obtain ⟨x, _, rfl⟩ := List.mem_map.mp hc
      exact sign_ok x
theorem s_fst {es : List E} {v1 v2 : Expr} {rest : List Expr} {pos : Pos} (h : FP X G cal es (v1 :: v2 :: rest)) : PE X (.JoinedStr (v1 :: v2 :: rest) pos) (TEv X.K G cal (.fst es)) := by
  obtain ⟨ts, hj, hr⟩ := fp_js h
  refine (pe_joined hj).imp fun σ H Q q => ?_
  obtain ⟨ρ, F, s, d, s', S, hv, k⟩ := q
  simp only [evE] at hv
  obtain ⟨ds, s1, h1, hv⟩ := R.bind_ok hv
  obtain ⟨ho, rfl⟩ := R.ofO_ok hv
  obtain ⟨out, h2, h3⟩ := Option.bind_eq_some_iff.mp ho
  unfold fitS at h3
  split at h3
  case isFalse => cases h3
  rename_i hz
  cases h3
  refine hr [] σ H (fun o H1 => Q (.str o) H1) ρ F s ds s1 out S h1 h2 hz rfl fun ρ' H' S' g' l' ok' => ?_
  refine Fin.str (fin_of (e := .fst es) rfl S' g' l' k) ?_
  unfold strOk
  rw [Bool.and_eq_true]
  exact ⟨decide_eq_true hz, ok'⟩
end
end Tw
end

section
set_option linter.all false
set_option autoImplicit false
set_option maxRecDepth 100000
set_option maxHeartbeats 4000000
/-! Instances of one's own classes: fields, making, methods. -/
namespace Tw
open PySem L2 PyProof.Rows
theorem str_inj {a b : String} (h : Str.ofString a = Str.ofString b) : a = b := by
  rw [Str.ofString_eq_toList, Str.ofString_eq_toList] at h
  have h := congrArg Array.toList (congrArg Str.cps h)
  simp only [List.toList_toArray] at h
  have : ∀ x y : List Char, x.map Char.toNat = y.map Char.toNat → x = y := by
    intro x
    induction x with
    | nil => intro y e; cases y with | nil => rfl | cons _ _ => cases e
    | cons c x ih =>
      intro y e
      cases y with
      | nil => cases e
      | cons d y =>
        injection e with e1 e2
        rw [ih y e2, Char.toNat_inj.mp e1]
  exact String.toList_inj.mp (this _ _ h)
section
variable {K : PySem.W.Frag} {ρ : List Addr} {M : Addr → Prop} {H : Hp}
theorem insF_look : ∀ {fs : List String} {ds : List D} {vs : List V} {f : String} {d : D}, Reps K ρ M H ds vs → (fs.zip ds).lookup f = some d → ∃ v, (insF fs vs).lookup (Str.ofString f) = some v ∧ Rep K ρ M H d v
  | [], _, _, _, _, _, h => by simp at h
  | _ :: _, _, _, _, _, .nil, h => by simp at h
  | g :: fs, _, _, f, d, .cons (v := v) r t, h => by
    rw [List.zip_cons_cons, List.lookup_cons] at h
    show ∃ v', List.lookup (Str.ofString f) ((Str.ofString g, v) :: insF fs _) = some v' ∧ _
    rw [List.lookup_cons]
    by_cases e : f = g
    · subst e
      simp only [beq_self_eq_true] at h ⊢
      cases h
      exact ⟨v, rfl, r⟩
    · have e1 : (f == g) = false := by simpa using e
      have e2 : (Str.ofString f == Str.ofString g) = false := beq_eq_false_iff_ne.mpr fun z => e (str_inj z)
      rw [e1] at h
      rw [e2]
      exact insF_look t h
theorem insF_put {f : String} {v : V} : ∀ {fs : List String} {vs : List V}, fs.length = vs.length → f ∉ fs → putF (Str.ofString f) v (insF fs vs) = insF (fs ++ [f]) (vs ++ [v])
  | [], [], _, _ => rfl
  | [], _ :: _, h, _ => by cases h
  | _ :: _, [], h, _ => by cases h
  | g :: fs, w :: vs, h, n => by
    have e : ¬ Str.ofString g = Str.ofString f := fun z => n (by rw [str_inj z]; simp)
    show putF (Str.ofString f) v ((Str.ofString g, w) :: insF fs vs) = (Str.ofString g, w) :: insF (fs ++ [f]) (vs ++ [v])
    rw [← insF_put (by simpa using h) fun z => n (List.mem_cons_of_mem _ z)]
    simp only [putF, if_neg e]
theorem insF_len {fs : List String} {vs : List V} (h : fs.length = vs.length) : (insF fs vs).length = fs.length := by
  unfold insF
  rw [List.length_zipWith]
  omega
theorem insF_none {m : String} : ∀ {fs : List String} {vs : List V}, fs.contains m = false → (insF fs vs).lookup (Str.ofString m) = none
  | [], _, _ => rfl
  | _ :: _, [], _ => rfl
  | g :: fs, w :: vs, h => by
    have h' : ¬ m = g ∧ fs.contains m = false := by simpa using h
    show List.lookup _ ((Str.ofString g, w) :: insF fs vs) = none
    rw [List.lookup_cons, beq_eq_false_iff_ne.mpr fun z => h'.1 (str_inj z)]
    exact insF_none h'.2
theorem Rep.objI {c : String} {fs : List String} {ds : List D} {v : V} (h : Rep K ρ M H (.obj c fs ds) v) : ∃ a dx vs, v = .ref a ∧ H a = some (.ins (He.ga K c) dx (insF fs vs)) ∧ ¬ M a ∧ Reps K ρ M H ds vs ∧ fs.length = ds.length := by
  cases h with
  | obj _ e n r l => exact ⟨_, _, _, rfl, e, n, r, l⟩
end
theorem okF_C {G : Tab} {c f : String} (h : okF G c f = true) : okC G c = true := by
  unfold okF at h
  unfold okC
  split at h
  · split at h
    · rfl
    · cases h
  · cases h
section
variable {X : Cx} {G : Tab} {cal : Cal} {a : Expr} {ea : E} {p p2 pos : Pos}
/-- o.f -/
theorem s_fld (C : ClsF X.K X.mg G) {f : String} (hk : noPk ea = true) (ha : PE X a (TEv X.K G cal ea)) (hb : attributeBase a (Str.ofString f) X.env (eval a X.env) = eval a X.env) : PE X (.Attribute a (Str.ofString f) pos) (TEv X.K G cal (.fld ea f)) :=
  (pe_fld ha hb).imp fun σ H Q q => by
    obtain ⟨ρ, F, s, d, s', S, hv, k⟩ := q
    simp only [evE] at hv
    obtain ⟨x, s1, h1, hv⟩ := R.bind_ok hv
    obtain ⟨ho, rfl⟩ := R.ofO_ok hv
    refine ⟨ρ, F, s, x, s1, S, h1, fun ρ1 w H1 S1 g1 l1 r1 _ => ?_⟩
    cases x with
    | obj c fs ds =>
      have ho : (if okF G c f then (fs.zip ds).lookup f else none) = some d := ho
      split at ho
      case isFalse => cases ho
      rename_i hf
      obtain ⟨b, dx, vs, rfl, e, n, r, l⟩ := (r1.rep (noPk_ne hk)).objI
      obtain ⟨v, e2, rv⟩ := insF_look r ho
      exact ⟨b, _, dx, _, v, rfl, e, C.cls c (okF_C hf), C.noat c f hf, e2, k ρ1 v H1 S1 g1 l1 (.of (noPk_ne rfl) rv) nofun⟩
    | _ => cases ho
/-- self.f = e, self new -/
theorem p_setf (C : ClsF X.K X.mg G) {f : String} {i : Nat} {x o : Expr} (hk : noPk ea = true) (he : PE X x (TEv X.K G cal ea)) (ho : PE X o (tVar i)) (hs : swapsWith x (some (.Attribute o (Str.ofString f) p)) pos.line X.env = pure false) :
    PS X (.Assign [.Attribute o (Str.ofString f) p] x pos) (TSt X.K G cal (.setf (.pk i) f ea)) :=
  (ps_fld ho he hs).imp fun D σ H q => by
    obtain ⟨ρ, F, s, fl, s', S, hv, k⟩ := q
    simp only [exS] at hv
    obtain ⟨d, s1, h1, hv⟩ := R.bind_ok hv
    split at hv
    case h_2 => cases hv
    rename_i c fs ds henv
    split at hv
    case isFalse => cases hv
    rename_i hc
    obtain ⟨c1, c2⟩ := Bool.and_eq_true_iff.mp hc
    obtain ⟨c2, c3⟩ := Bool.and_eq_true_iff.mp c2
    have c2 : f ∉ fs := by simpa using c2
    have c3 := of_decide_eq_true c3
    cases hv
    refine ⟨ρ, F, s, d, s1, S, h1, fun ρ1 w H1 S1 g1 l1 r1 _ => ?_⟩
    obtain ⟨b, e1, q, n1, n2⟩ := S1.so i _ henv
    cases q with
    | @obj _ _ _ vs _ dx ct hH q hl =>
      have hl2 : fs.length = vs.length := hl.trans q.length
      refine ⟨_, e1, b, _, dx, _, rfl, hH, C.cls c (okF_C c1), C.noat c f c1, by rw [insF_len hl2]; exact c3, ?_⟩
      rw [insF_put hl2 c2]
      have r1 := r1.rep (noPk_ne hk)
      have kp : Keep ρ1 (Mu ρ1 F s1.env σ) H1 ρ1 (Mu ρ1 F s1.env σ) (upd H1 b (.ins (He.ga X.K c) dx (insF (fs ++ [f]) (vs ++ [w])))) := .updO (.inr (.inr ⟨i, _, henv, e1⟩))
      obtain ⟨S2, g2, l2, _⟩ := S1.setOwnG (u := .ins (He.ga X.K c) dx (insF (fs ++ [f]) (vs ++ [w]))) henv e1 (.obj ct upd_same ((q.keep kp).append (.cons (r1.keep kp) .nil)) (by simp [hl]))
      exact k ρ1 σ _ S2 (g1.trans g2) (l1.trans l2) .refl
end

/-! ### making -/
/-- what a class promises: its __init__'s run tells -/
def spI (K : PySem.W.Frag) (cal : Cal) (c : String) (n : Nat) : Sp := fun vs H Q _ => ∃ ρ F ds bs hp d hp' x dx H0 ws, vs = .ref x :: ws ∧ ds.length + 1 = n ∧ Sim K ρ F ⟨[], hp, bs⟩ [] H0 ∧ H0 x = none ∧ H0 dx = none ∧ dx ≠ x ∧
  H = upd (upd H0 dx (.own x)) x (.ins (He.ga K c) dx []) ∧ Reps K ρ (Mu ρ F [] []) H0 ds ws ∧ cal c (.non :: ds) bs hp = .ok d hp' ∧
  ∀ ρ' H', Sim K ρ' F ⟨[], hp', bs⟩ [] H' → Go ρ F ⟨[], hp, bs⟩ [] H0 ρ' ⟨[], hp', bs⟩ [] H' → Rep K ρ' (Mu ρ' F [] []) H' d (.ref x) → Q .non H'
theorem spI_len {K : PySem.W.Frag} {cal : Cal} {f : String} {n : Nat} : ∀ vs H Q E, spI K cal f n vs H Q E → vs.length = n := by
  rintro vs H Q E ⟨ρ, F, ds, bs, hp, d, hp', x, dx, H0, ws, rfl, hl, S, _, _, _, _, r, _⟩
  rw [List.length_cons, ← r.length, hl]
structure ClIn (P : Program) (w : World) (K : PySem.W.Frag) (mg : Str → Option Value) (base : Heap) (cal : Cal) (k : Nat) (c : String) (F : Fn) : Prop where
  ex : ∃ (f : Addr) (fd : FuncData) (ps : List Str), Mk K (He.ga K c) f ∧ ps.length = F.ps.length ∧ FnG P w K mg base k f fd ps (spI K cal c F.ps.length) ∧
    ∀ m, m ≤ F.ps.length → F.ps.length - m ≤ F.dfl.length → ∃ (dvs : List V) (ds : List Value), Vals dvs ds ∧ Reps K [] (fun _ => False) Nil (F.dfl.drop (F.dfl.length - (F.ps.length - m))) dvs ∧
      ∀ (s : Shared) (us : List Value), K.In s.heap → us.length = m → BindsTo s fd ⟨us, []⟩ (ps.zip (us ++ ds))
  kx : ∃ (f : Addr) (fd : FuncData) (ps : List Str), Mk K (He.ga K c) f ∧ ps.length = F.ps.length ∧ FnG P w K mg base k f fd ps (spI K cal c F.ps.length) ∧
    ∀ q ∈ F.kwz, ∃ (dvs : List V) (its : List Value), Vals dvs its ∧ Reps K [] (fun _ => False) Nil F.dfl dvs ∧
      ∀ (s : Shared) (us ws rest : List Value), K.In s.heap → us.length = q.1 → ws.length = q.2.length → kwRest its q.2 ws (F.ps.drop q.1) = some rest → BindsTo s fd ⟨us, (q.2.map PySem.Str.ofString).zip ws⟩ (ps.zip (us ++ rest))
section
variable {X : Cx} {G : Tab} {cal : Cal} {p pos : Pos} {e : Expr} {es : List Expr} {ees : List E} {k : Nat} {c : String} {F : Fn}
theorem run_makeG {pins : List (Addr × Obj)} {σ : L2.St} {H : Hp} {s : Shared} {Q : VK} {us all : List Value} {vs : List V} {C f : Addr} {fd : FuncData} {ps : List Str} {sp : Sp} {kw : List (Str × Value)} (M : Mk X.K C f) (Fg : FnG X.prog X.w X.K X.mg X.base k f fd ps sp)
    (hr : Room (k + 1) X.A) (hg : X.A.guards = some []) (hb : ∀ (s : Shared) (v : Value), X.K.In s.heap → BindsTo s fd ⟨v :: us, kw⟩ (ps.zip (v :: all))) (I : Inv X pins σ H s) (r : Vals vs all)
    (h : ∀ x dx, H x = none → H dx = none → dx ≠ x → sp (.ref x :: vs) (upd (upd H dx (.own x)) x (.ins C dx [])) (fun v H2 => v = .non ∧ Q (.ref x) H2) E0) :
    wpAny (model X.prog X.w) X.A (call (.ref C) us kw) (EP X pins σ Q) X.xe s := by
  have hq := h (s.heap.objs.size + 1) s.heap.objs.size (I.hok.fresh (Nat.le_succ _)) (I.hok.fresh (Nat.le_refl _)) (Nat.ne_of_lt (Nat.lt_succ_self _))
  have I2 := Inv.made (C := C) I
  have r2 : Vals (V.ref (s.heap.objs.size + 1) :: vs) (Value.ref (s.heap.objs.size + 1) :: all) := .cons rfl r
  have hgu : (X.A.under (.builtin "type.__call__" ⟨.ref C :: us, kw⟩)).guards = some [] := by
    first | exact hg | (simp [Around.under, Code.isGuard, guardIds]; exact hg)
  refine wpAny_call (make_map (f := f) I.kIn M.makes M.init (beq_iff_eq.mp M.fn) (codeAny_mono (Fg.run _ X.stack _ _ ⟨Value.ref (s.heap.objs.size + 1) :: us, kw⟩ (Value.ref (s.heap.objs.size + 1) :: all) _ _ E0 (hr.make C us kw) hgu
    (I2.env0.make C us kw) (hb _ _ I2.kIn) r2 hq) fun r s' hq' => ?_))
  cases r with
  | error e => exact pass0 pins σ _ _ e s' I2 hq'
  | ok fl =>
    cases fl with
    | ret u =>
      obtain ⟨v, H', I3, rv, ev, q3⟩ := I2.after hq'
      subst ev
      exact ⟨rv, ⟨V.ref (s.heap.objs.size + 1), H', I3, rfl, q3⟩⟩
    | next => exact False.elim hq'
    | brk => exact False.elim hq'
    | cont => exact False.elim hq'
/-- the promise at a making's place -/
theorem call_endC {ρ ρ1 : List Addr} {Fh : Addr → Prop} {s s1 s' : MS} {σ : L2.St} {H H1 : Hp} {d : D} {ds : List D} {ws : List V} {Q : VK} (hF : G.fn c = some F) (S1 : Sim X.K ρ1 Fh s1 σ H1) (g1 : Go ρ Fh s σ H ρ1 s1 σ H1) (l1 : Live s s1)
    (r : Reps X.K ρ1 (Mu ρ1 Fh s1.env σ) H1 ds ws) (hc : callWith G cal c (.non :: ds) [] [] s1 = .ok d s')
    (kk : ∀ ρ' w H', Sim X.K ρ' Fh s' σ H' → Go ρ Fh s σ H ρ' s' σ H' → Live s s' → Rep X.K ρ' (Mu ρ' Fh s'.env σ) H' d w → Q w H')
    (hfin : ∀ ds : List D, cal c ds s1.bs s1.hp ≠ .stuck → ds.length = F.ps.length) :
    ∃ rest, ds.length + 1 ≤ F.ps.length ∧ F.ps.length - (ds.length + 1) ≤ F.dfl.length ∧ rest = F.dfl.drop (F.dfl.length - (F.ps.length - (ds.length + 1))) ∧
      ∀ dvs, Reps X.K [] (fun _ => False) Nil rest dvs → ∀ x dx, H1 x = none → H1 dx = none → dx ≠ x →
        spI X.K cal c F.ps.length (.ref x :: (ws ++ dvs)) (upd (upd H1 dx (.own x)) x (.ins (He.ga X.K c) dx [])) (fun v H2 => v = .non ∧ Q (.ref x) H2) E0 := by
  unfold callWith at hc
  rw [hF] at hc
  simp only at hc
  split at hc
  case h_2 => cases hc
  rename_i rest hb
  unfold bindA at hb
  rw [if_pos (by rfl)] at hb
  split at hb
  case isFalse => cases hb
  rename_i hle
  cases hb
  obtain ⟨h1, h2⟩ := Bool.and_eq_true_iff.mp hle
  refine ⟨_, of_decide_eq_true h1, of_decide_eq_true h2, rfl, fun dvs rd x dx hx hdx hne => ?_⟩
  split at hc
  case h_2 => cases hc
  case h_3 => cases hc
  rename_i d0 hp' hcal
  cases hc
  have hl := hfin _ (by rw [hcal]; nofun)
  refine ⟨ρ1, Out Fh s1.env σ, _, s1.bs, s1.hp, d, hp', x, dx, H1, _, rfl, by simpa using hl, S1.out, hx, hdx, hne, rfl, (r.out).append (rd.keep .nil), hcal, fun ρ' H' S' g' r' => ⟨rfl, ?_⟩⟩
  obtain ⟨S2, g2⟩ := S1.back S' g'
  exact kk ρ' (.ref x) H' S2 (g1.trans g2) l1 (r'.keep (.mu fun b h => mu_out.mpr h))
theorem call_endCK {ρ ρ1 : List Addr} {Fh : Addr → Prop} {s s1 s' : MS} {σ : L2.St} {H H1 : Hp} {d : D} {ds kds : List D} {ks : List String} {ws zs : List V} {Q : VK} (hF : G.fn c = some F) (hks : ks ≠ []) (S1 : Sim X.K ρ1 Fh s1 σ H1) (g1 : Go ρ Fh s σ H ρ1 s1 σ H1) (l1 : Live s s1)
    (r : Reps X.K ρ1 (Mu ρ1 Fh s1.env σ) H1 ds ws) (rk : Reps X.K ρ1 (Mu ρ1 Fh s1.env σ) H1 kds zs) (hc : callWith G cal c (.non :: ds) ks kds s1 = .ok d s')
    (kk : ∀ ρ' w H', Sim X.K ρ' Fh s' σ H' → Go ρ Fh s σ H ρ' s' σ H' → Live s s' → Rep X.K ρ' (Mu ρ' Fh s'.env σ) H' d w → Q w H')
    (hfin : ∀ ds : List D, cal c ds s1.bs s1.hp ≠ .stuck → ds.length = F.ps.length) :
    (ds.length + 1, ks) ∈ F.kwz ∧ kds.length = ks.length ∧
      ∀ dvs, Reps X.K [] (fun _ => False) Nil F.dfl dvs → ∃ rv, kwRest dvs ks zs (F.ps.drop (ds.length + 1)) = some rv ∧ ∀ x dx, H1 x = none → H1 dx = none → dx ≠ x →
        spI X.K cal c F.ps.length (.ref x :: (ws ++ rv)) (upd (upd H1 dx (.own x)) x (.ins (He.ga X.K c) dx [])) (fun v H2 => v = .non ∧ Q (.ref x) H2) E0 := by
  unfold callWith at hc
  rw [hF] at hc
  simp only at hc
  split at hc
  case h_2 => cases hc
  rename_i rest hb
  unfold bindA at hb
  rw [if_neg (by cases ks with | nil => exact absurd rfl hks | cons _ _ => simp)] at hb
  split at hb
  case isFalse => cases hb
  rename_i hle
  obtain ⟨h1, h2⟩ := Bool.and_eq_true_iff.mp hle
  refine ⟨by simpa using h1, of_decide_eq_true h2, fun dvs rd => ?_⟩
  obtain ⟨rv, e1, r1⟩ := kwRest_rel (rd.keep .nil).a2 rk.a2 _ _ hb
  refine ⟨rv, e1, fun x dx hx hdx hne => ?_⟩
  split at hc
  case h_2 => cases hc
  case h_3 => cases hc
  rename_i d0 hp' hcal
  cases hc
  have hl := hfin _ (by rw [hcal]; nofun)
  refine ⟨ρ1, Out Fh s1.env σ, _, s1.bs, s1.hp, d, hp', x, dx, H1, _, rfl, by simpa using hl, S1.out, hx, hdx, hne, rfl, (r.out).append r1.reps.out, hcal, fun ρ' H' S' g' r' => ⟨rfl, ?_⟩⟩
  obtain ⟨S2, g2⟩ := S1.back S' g'
  exact kk ρ' (.ref x) H' S2 (g1.trans g2) l1 (r'.keep (.mu fun b h => mu_out.mpr h))
/-- C(e, ..) -/
theorem s_make (C : ClsF X.K X.mg G) (hok : okC G c = true) (hF : G.fn c = some F) (Fi : ClIn X.prog X.w X.K X.mg X.base cal k c F) (hfin : ∀ (ds : List D) bs hp, cal c ds bs hp ≠ .stuck → ds.length = F.ps.length) (hr : Room (k + 1) X.A) (hgu : X.A.guards = some []) (hg : Gl X (c : Str)) (hn : ees.all noPk = true)
    (ha : PA X es (TEvs X.K G cal ees)) (hl : es.length = ees.length) (hdb : ((c : Str) == ("__debug__" : Str)) = false) (he : ∀ e r, es = e :: r → starEach (e :: r) X.env = (false, eval e X.env) :: starEach r X.env ∧ (backTo pos (starEach r X.env)).any (·.1) = false) :
    PE X (.Call (.Name (c : Str) p) es [] pos) (TEv X.K G cal (.call c (.non :: ees) [] [])) := by
  obtain ⟨f, fd, ps, M, hpl2, Fg, bnd⟩ := Fi.ex
  refine ⟨fun pins s σ H Q I h => ?_⟩
  obtain ⟨ρ, Fh, ms, d, ms', S, hv, kk⟩ := h
  simp only [evE, evEs, R.bind] at hv
  obtain ⟨ds, ms1, h1, hv⟩ := R.bind_ok hv
  obtain ⟨ds, ms2, h2, h1⟩ := R.bind_ok h1
  cases h1
  refine wpAny_Call_Name_kw (ld_glob I hg (C.glo c hok) ?_ hdb)
  have fin : ∀ {us : List Value} {vs : List V} {ρ1 : List Addr} {H1 : Hp} {s1 : Shared}, Inv X pins σ H1 s1 → Vals vs us → Sim X.K ρ1 Fh ms1 σ H1 → Go ρ Fh ms σ H ρ1 ms1 σ H1 → Live ms ms1 → Reps X.K ρ1 (Mu ρ1 Fh ms1.env σ) H1 ds vs →
      wpAny (model X.prog X.w) X.A (call (.ref (He.ga X.K c)) us []) (EP X pins σ Q) X.xe s1 := by
    intro us vs ρ1 H1 s1 I1 r S1 g1 l1 r1
    obtain ⟨rest, q1, q2, rfl, q3⟩ := call_endC (d := d) (s' := ms') (Q := Q) hF S1 g1 l1 r1 hv (fun ρ' w H' S' g' l' r' => kk ρ' w H' S' g' l' (.of (noPk_ne rfl) r') nofun) fun ds h => hfin ds _ _ h
    obtain ⟨dvs, dus, rv, rd, bb⟩ := bnd (ds.length + 1) q1 q2
    have hlen : us.length = ds.length := by rw [← r.length, ← r1.length]
    exact run_makeG M Fg hr hgu (fun s v X0 => bb s (v :: us) X0 (by simp [hlen])) I1 (r.append rv) (q3 dvs rd)
  cases es with
  | nil =>
    have hes : ees = [] := by cases ees with | nil => rfl | cons _ _ => cases hl
    subst hes
    simp only [evEs] at h2
    cases h2
    exact PySem.W.callWith_K0 I.kIn M.kp (fin I .nil S .refl .refl .nil)
  | cons e es =>
    obtain ⟨he, hpl⟩ := he e es rfl
    exact PySem.W.callWith_K (h₀ := X.base) I.ok.mod.kin M.kp (thn (ha.run pos pins s σ H
      (fun ws H1 => ∃ ρ1, Sim X.K ρ1 Fh ms1 σ H1 ∧ Go ρ Fh ms σ H ρ1 ms1 σ H1 ∧ Live ms ms1 ∧ Ress X.K ρ1 Fh ms1 σ H1 ees ds ws) I ⟨ρ, Fh, ms, ds, ms1, S, h2, fun ρ1 ws H1 S1 g1 l1 r1 => ⟨ρ1, S1, g1, l1, r1⟩⟩)
      fun us s1 ⟨vs, H1, I1, r, ρ1, S1, g1, l1, r1⟩ => ⟨I1.kIn, fin I1 r S1 g1 l1 (r1.reps hn)⟩) he hpl
/-- C(e, .., k = v, ..) -/
theorem s_makeK (C : ClsF X.K X.mg G) {kees : List E} {kws : List Keyword} {ks : List String} (hok : okC G c = true) (hF : G.fn c = some F) (Fi : ClIn X.prog X.w X.K X.mg X.base cal k c F) (hfin : ∀ (ds : List D) bs hp, cal c ds bs hp ≠ .stuck → ds.length = F.ps.length) (hr : Room (k + 1) X.A) (hgu : X.A.guards = some []) (hg : Gl X (c : Str))
    (hn : ees.all noPk = true) (hnk : kees.all noPk = true) (hle : es.length = ees.length)
    (hk0 : ks ≠ []) (ha : PA X es (TEvs X.K G cal ees)) (hkw : PK X kws (TEvs X.K G cal kees)) (hall : (backToKw pos (keywordEach kws X.env)).all (·.1.isSome) = true) (hks : (backToKw pos (keywordEach kws X.env)).filterMap (·.1) = ks.map PySem.Str.ofString)
    (hdb : ((c : Str) == ("__debug__" : Str)) = false) (he : ∀ e r, es = e :: r → starEach (e :: r) X.env = (false, eval e X.env) :: starEach r X.env) (hpl : ((backTo pos (starEach es X.env)).any (·.1) || (backToKw pos (keywordEach kws X.env)).any (·.1.isNone)) = false) :
    PE X (.Call (.Name (c : Str) p) es kws pos) (TEv X.K G cal (.call c (.non :: ees) ks kees)) := by
  obtain ⟨f, fd, ps, M, hpl2, Fg, bnd⟩ := Fi.kx
  refine ⟨fun pins s σ H Q I h => ?_⟩
  obtain ⟨ρ, Fh, ms, d, ms', S, hv, kk⟩ := h
  simp only [evE, evEs, R.bind] at hv
  obtain ⟨ds, ms1, h1, hv⟩ := R.bind_ok hv
  obtain ⟨kds, ms2, h2, hv⟩ := R.bind_ok hv
  obtain ⟨ds, ms1, h0, h1⟩ := R.bind_ok h1
  cases h1
  have fin : ∀ {us ws : List Value} {vs zs : List V} {ρ2 : List Addr} {H2 : Hp} {s2 : Shared}, Inv X pins σ H2 s2 → Vals vs us → Vals zs ws → Sim X.K ρ2 Fh ms2 σ H2 → Go ρ Fh ms σ H ρ2 ms2 σ H2 → Live ms ms2 →
      Reps X.K ρ2 (Mu ρ2 Fh ms2.env σ) H2 ds vs → Reps X.K ρ2 (Mu ρ2 Fh ms2.env σ) H2 kds zs → wpAny (model X.prog X.w) X.A (call (.ref (He.ga X.K c)) us ((ks.map PySem.Str.ofString).zip ws)) (EP X pins σ Q) X.xe s2 := by
    intro us ws vs zs ρ2 H2 s2 I2 rv rz S2 g2 l2 r1 r2
    obtain ⟨q1, q2, q3⟩ := call_endCK (d := d) (s' := ms') (Q := Q) hF hk0 S2 g2 l2 r1 r2 hv (fun ρ' w H' S' g' l' r' => kk ρ' w H' S' g' l' (.of (noPk_ne rfl) r') nofun) fun ds h => hfin ds _ _ h
    obtain ⟨dvs, its, rd, rdd, bb⟩ := bnd _ q1
    obtain ⟨rvv, e1, sp⟩ := q3 dvs rdd
    obtain ⟨ru, e2, rr⟩ := kwRest_rel (vals_a2 rd) (vals_a2 rz) _ _ e1
    have l1 : us.length = ds.length := by rw [← rv.length, ← r1.length]
    have l2 : ws.length = ks.length := by rw [← rz.length, ← r2.length]; exact q2
    exact run_makeG M Fg hr hgu (fun s v X0 => bb s (v :: us) ws ru X0 (by simp [l1]) l2 e2) I2 (rv.append (a2_vals rr)) sp
  refine wpAny_Call_Name_kw (ld_glob I hg (C.glo c hok) ?_ hdb)
  cases es with
  | nil =>
    have hes : ees = [] := by cases ees with | nil => rfl | cons _ _ => cases hle
    subst hes
    simp only [evEs] at h0
    cases h0
    refine PySem.W.callWith_KW0 (h₀ := X.base) I.ok.mod.kin M.kp hall (thn (hkw.run pos pins s σ H
      (fun zs H2 => ∃ ρ2, Sim X.K ρ2 Fh ms2 σ H2 ∧ Go ρ Fh ms σ H ρ2 ms2 σ H2 ∧ Live ms ms2 ∧ Ress X.K ρ2 Fh ms2 σ H2 kees kds zs) I ⟨ρ, Fh, _, kds, ms2, S, h2, fun ρ2 zs H2 S2 g2 l2 r2 => ⟨ρ2, S2, g2, l2, r2⟩⟩)
      fun ws s2 ⟨zs, H2, I2, rz, ρ2, S2, g2, l2, r2⟩ => ⟨I2.kIn, ?_⟩) hpl
    rw [hks]
    exact fin I2 .nil rz S2 g2 l2 .nil (r2.reps hnk)
  | cons e es =>
    refine PySem.W.callWith_KW (h₀ := X.base) I.ok.mod.kin M.kp hall (thn (ha.run pos pins s σ H
      (fun ws H1 => ∃ ρ1, Sim X.K ρ1 Fh ms1 σ H1 ∧ Go ρ Fh ms σ H ρ1 ms1 σ H1 ∧ Live ms ms1 ∧ Ress X.K ρ1 Fh ms1 σ H1 ees ds ws) I ⟨ρ, Fh, ms, ds, ms1, S, h0, fun ρ1 ws H1 S1 g1 l1 r1 => ⟨ρ1, S1, g1, l1, r1⟩⟩)
      fun us s1 ⟨vs, H1, I1, r, ρ1, S1, g1, l1, r1⟩ => ?_) hpl (he e es rfl)
    refine thn (hkw.run pos pins s1 σ H1
      (fun zs H2 => ∃ ρ2, Sim X.K ρ2 Fh ms2 σ H2 ∧ Go ρ1 Fh ms1 σ H1 ρ2 ms2 σ H2 ∧ Live ms1 ms2 ∧ Ress X.K ρ2 Fh ms2 σ H2 kees kds zs) I1 ⟨ρ1, Fh, _, kds, ms2, S1, h2, fun ρ2 zs H2 S2 g2 l2 r2 => ⟨ρ2, S2, g2, l2, r2⟩⟩)
      fun ws s2 ⟨zs, H2, I2, rz, ρ2, S2, g2, l2, r2⟩ => ⟨I2.kIn, ?_⟩
    rw [hks]
    exact fin I2 r rz S2 (g1.trans g2) (l1.trans l2) ((r1.go g2 l2).reps hn) (r2.reps hnk)
end
end Tw
end

section
set_option linter.all false
set_option autoImplicit false
set_option maxRecDepth 100000
set_option maxHeartbeats 4000000
/-! The check of a text's tree against the layer's code, and what it tells. -/
namespace Tw
open PySem L2 PyProof.Rows

def allP {α β : Type} (f : α → β → Bool) : List α → List β → Bool
  | [], [] => true
  | a :: as, b :: bs => f a b && allP f as bs
  | _, _ => false
def vis (sc : Scope) (x : Str) : Bool := match sc.names.lookup x with | some .local => true | some .cell => true | some .free => true | _ => false
def locK (sc : Scope) (x : Str) : Bool := match sc.names.lookup x with | some .local => true | _ => false
def celK (sc : Scope) (x : Str) : Bool := match sc.names.lookup x with | some .cell => true | _ => false
def glb (sc : Scope) (x : Str) : Bool := match sc.names.lookup x with | some .globalImplicit => true | _ => false
def nmOk (x : Str) : Bool := !(x == ("__debug__" : Str)) && !(x == ("__classdict__" : Str))
def noStar : Expr → Bool
  | .Starred _ _ => false
  | _ => true
def notSlice : Expr → Bool
  | .Slice _ _ _ _ => false
  | _ => true
def notSet : Expr → Bool
  | .Set _ _ _ => false
  | _ => true
def notCall : Expr → Bool
  | .Call _ _ _ _ => false
  | _ => true
def notComp : Expr → Bool
  | .ListComp _ _ _ _ => false
  | .SetComp _ _ _ _ => false
  | .DictComp _ _ _ _ _ => false
  | _ => true
/-- a test that is its value's truth -/
def plainTest : Expr → Bool
  | .UnaryOp _ _ _ => false
  | .BoolOp _ _ _ => false
  | .IfExp _ _ _ _ => false
  | .Compare _ _ _ _ => false
  | _ => true
/-- -1 -/
def isM1 : Expr → Bool
  | .UnaryOp .USub (.Constant (.int j) _ _) _ => j == 1
  | _ => false
theorem isM1_ok {x : Expr} (h : isM1 x = true) : ∃ k p p2, x = .UnaryOp .USub (.Constant (.int 1) k p) p2 := by
  unfold isM1 at h
  split at h
  · rename_i j k p p2
    have e : j = 1 := by simpa using h
    subst e
    exact ⟨_, _, _, rfl⟩
  · cases h
/-- no call without arguments -/
def noSup : Expr → Bool
  | .Call _ [] _ _ => false
  | .Call _ (_ :: _) _ _ => true
  | _ => true
def txName : Tx → Str
  | .lst => "lstrip" | .rst => "rstrip" | .spl => "split" | .ptn => "partition"
/-- the parts of an f-string -/
def fstP (r : E → Expr → Bool) : List E → List Expr → Bool
  | [], [] => true
  | e :: es, v :: vs => (match v with
      | .FormattedValue y cv none _ => decide (cv = -1) && (noPk e && r e y)
      | v => (match e with | .str _ => r e v | _ => false)) && fstP r es vs
  | _, _ => false
def isBO : Expr → Bool
  | .BoolOp _ _ _ => true
  | _ => false
def biName : Bi → Str
  | .len => "len" | .abs => "abs" | .int => "int" | .str => "str" | .repr => "repr" | .bool => "bool" | .tuple => "tuple" | .list => "list" | .sorted => "sorted" | .set => "set" | .dict => "dict"
  | .sum => "sum" | .min => "min" | .max => "max" | .any => "any" | .all => "all" | .divmod => "divmod" | .min2 => "min" | .max2 => "max" | .minl => "min" | .maxl => "max"
def biNames : List Str := ["len", "abs", "int", "str", "repr", "bool", "tuple", "list", "sorted", "set", "dict", "sum", "min", "max", "any", "all", "divmod", "range", "enumerate", "zip", "isinstance"]
theorem biName_mem (f : Bi) : biName f ∈ biNames := by cases f <;> decide +kernel
theorem bi_boot (f : Bi) : bootBuiltins (biName f) = some (biV f) := by cases f <;> decide +kernel
theorem bi_nn (f : Bi) : biName f ≠ "__name__" := by cases f <;> decide +kernel
theorem bi_nd (f : Bi) : (biName f == ("__debug__" : Str)) = false := by cases f <;> decide +kernel

section
variable (G : Tab) (N : List Str)
/-- a target -/
def chG : Nat → (Str → Bool) → Scope → Tg → Expr → Bool
  | 0, _, _, _, _ => false
  | n + 1, cf, sc, t, x => match t with
    | .nm i => (match x with
      | .Name y _ => decide (N[i]? = some y) && (locK sc y || (celK sc y && cf y))
      | _ => false)
    | .tp ts => (match x with
      | .Tuple ys _ _ => allP (chG n cf sc) ts ys && ys.all noStar
      | _ => false)
/-- a class's call has None ahead of the arguments -/
def ces (f : String) (es : List E) : List E := if okC G f then es.drop 1 else es
def isNonE : E → Bool
  | .non => true
  | _ => false
def kdFn (f : String) : Bool := match G.fn f with
  | some F => (match F.kd with | .fn => true | _ => false)
  | none => false
def cokF (f : String) (es : List E) : Bool := if okC G f then (match es with | e :: _ => isNonE e | [] => false) else kdFn G f
/-- ch n cf sc test e x: is e the code of x (test: as a test)? -/
def ch : Nat → (Str → Bool) → Scope → Bool → E → Expr → Bool
  | 0, _, _, _, _, _ => false
  | n + 1, cf, sc, test, e, x =>
    let rec_ := ch n cf sc false
    let args := fun (es : List E) (xs : List Expr) => allP rec_ es xs && xs.all noStar
    let iter := fun (k : Ik) (es : List E) (tg it : Expr) => notSet it && (match k with
      | .of => (match es with
        | [e] => rec_ e it
        | _ => false)
      | .enum => (match es, it, tg with
        | [e], .Call (.Name y _) [a] [] _, .Tuple _ _ _ => decide (y = ("enumerate" : Str)) && (glb sc y && args [e] [a])
        | _, _, _ => false)
      | .zip => (match es, it, tg with
        | [e, e'], .Call (.Name y _) [a, b] [] _, .Tuple _ _ _ => decide (y = ("zip" : Str)) && (glb sc y && args [e, e'] [a, b])
        | _, _, _ => false)
      | .zips => (match es, it, tg with
        | [e, e'], .Call (.Name y _) [a, b] [⟨some kn, .Constant (.bool true) _ _, _⟩] _, .Tuple _ _ _ => decide (y = ("zip" : Str)) && (decide (kn = Str.ofString "strict") && (glb sc y && args [e, e'] [a, b]))
        | _, _, _ => false)
      | .rng => (match es, it with
        | [e], .Call (.Name y _) [a] [] _ => decide (y = ("range" : Str)) && (glb sc y && (noPk e && args [e] [a]))
        | [e, e'], .Call (.Name y _) [a, b] [] _ => decide (y = ("range" : Str)) && (glb sc y && args [e, e'] [a, b])
        | [e, e', e''], .Call (.Name y _) [a, b, c] [] _ => decide (y = ("range" : Str)) && (glb sc y && args [e, e', e''] [a, b, c])
        | _, _ => false)
      | _ => false)
    if test then (match e with
      | .not a => (match x with
        | .UnaryOp .Not l _ => ch n cf sc true a l
        | _ => false)
      | .and a b => (match x with
        | .BoolOp .And (y :: z :: rest) p => ch n cf sc true a y && (if rest.isEmpty then ch n cf sc true b z else ch n cf sc true b (.BoolOp .And (z :: rest) p))
        | _ => false)
      | .or a b => (match x with
        | .BoolOp .Or (y :: z :: rest) p => ch n cf sc true a y && (if rest.isEmpty then ch n cf sc true b z else ch n cf sc true b (.BoolOp .Or (z :: rest) p))
        | _ => false)
      | .ife _ _ _ => false
      | .cmp o a b => (match x with
        | .Compare l [op] [r] _ => decide (op = coP o) && (!behindInMarks (coP o) r && (rec_ a l && rec_ b r))
        | _ => false)
      | .cmp2 o p a b c => (match x with
        | .Compare l [op, op'] [r, r'] _ => decide (op = coP o) && (decide (op' = coP p) && (!lastMarks [coP o, coP p] [r, r'] && (rec_ a l && (rec_ b r && rec_ c r'))))
        | _ => false)
      | .nil ng tp a => (match x with
        | .Compare l [op] [r] _ => decide (op = nilO ng) && (emp tp r && (!behindInMarks (nilO ng) r && rec_ a l))
        | _ => false)
      | .bad => true
      | e => plainTest x && (byVal e && rec_ e x))
    else (match e with
      | .sl i => (match x with
        | .Name y _ => decide (N[i]? = some y) && (vis sc y && nmOk y)
        | _ => false)
      | .pk i => (match x with
        | .Name y _ => decide (N[i]? = some y) && (vis sc y && nmOk y)
        | _ => false)
      | .gl z => (match x with
        | .Name y _ => decide (y = (z : Str)) && (glb sc y && (nmOk y && (G.consts.lookup z).isSome))
        | _ => false)
      | .int i => (match x with
        | .Constant (.int j) _ _ => i == j
        | _ => false)
      | .str s => (match x with
        | .Constant (.str y) _ _ => decide (y = ⟨s.toArray⟩) && strOk s
        | _ => false)
      | .bl b => (match x with
        | .Constant (.bool c) _ _ => b == c
        | _ => false)
      | .non => (match x with
        | .Constant .none _ _ => true
        | _ => false)
      | .tup es => (match x with
        | .Tuple xs _ _ => es.all noPk && (decide (xs.length ≤ 1000) && args es xs)
        | _ => false)
      | .lst es => (match x with
        | .List xs _ => es.all noPk && (decide (xs.length ≤ 1000) && args es xs)
        | _ => false)
      | .shr e => fresh e && rec_ e x
      | .bin o a b => (match x with
        | .BinOp l op r _ => decide (op = boP o) && (rec_ a l && rec_ b r)
        | _ => false)
      | .neg a => (match x with
        | .UnaryOp .USub l _ => noPk a && rec_ a l
        | _ => false)
      | .cmp o a b => (match x with
        | .Compare l [op] [r] _ => decide (op = coP o) && (!behindInMarks (coP o) r && (rec_ a l && rec_ b r))
        | _ => false)
      | .cmp2 o p a b c => (match x with
        | .Compare l [op, op'] [r, r'] _ => decide (op = coP o) && (decide (op' = coP p) && (!lastMarks [coP o, coP p] [r, r'] && (rec_ a l && (rec_ b r && rec_ c r'))))
        | _ => false)
      | .and a b => (match x with
        | .BoolOp .And (y :: z :: rest) p => noPk a && (noPk b && (rec_ a y && (if rest.isEmpty then rec_ b z else rec_ b (.BoolOp .And (z :: rest) p))))
        | _ => false)
      | .or a b => (match x with
        | .BoolOp .Or (y :: z :: rest) p => noPk a && (noPk b && (rec_ a y && (if rest.isEmpty then rec_ b z else rec_ b (.BoolOp .Or (z :: rest) p))))
        | _ => false)
      | .not a => (match x with
        | .UnaryOp .Not l _ => rec_ a l
        | _ => false)
      | .ife c a b => (match x with
        | .IfExp c' a' b' _ => ch n cf sc true c c' && (noPk a && (noPk b && (rec_ a a' && rec_ b b')))
        | _ => false)
      | .call f es ks kes => (match x with
        | .Call (.Name y _) xs [] _ => ks.isEmpty && (kes.isEmpty && (decide (y = (f : Str)) && (glb sc y && (nmOk y && (es.all noPk && (args (ces G f es) xs && cokF G f es))))))
        | .Call (.Name y _) xs (kw :: kws) _ => decide (y = (f : Str)) && (glb sc y && (nmOk y && (es.all noPk && (args (ces G f es) xs && (kes.all noPk && (allP rec_ kes ((kw :: kws).map (·.value)) && (decide ((kw :: kws).map (·.arg) = ks.map fun k => some (Str.ofString k)) && cokF G f es)))))))
        | _ => false)
      | .fld o f => (match x with
        | .Attribute o' nm _ => decide (nm = (f : Str)) && (noPk o && (rec_ o o' && noSup o'))
        | _ => false)
      | .nil ng tp a => (match x with
        | .Compare l [op] [r] _ => decide (op = nilO ng) && (emp tp r && (!behindInMarks (nilO ng) r && rec_ a l))
        | _ => false)
      | .jn a e => (match x with
        | .Call (.Attribute o' nm ap) [b] [] p => decide (nm = ("join" : Str)) && (noPk a && (rec_ a o' && (rec_ e b && (noStar b && ((ap.endLine == p.line) && notCall o')))))
        | _ => false)
      | .low a => (match x with
        | .Call (.Attribute o' nm ap) [] [] p => decide (nm = ("lower" : Str)) && (noPk a && (rec_ a o' && ((ap.endLine == p.line) && notCall o')))
        | _ => false)
      | .stp a e => (match x with
        | .Call (.Attribute o' nm ap) [b] [] p => decide (nm = ("strip" : Str)) && (noPk a && (noPk e && (rec_ a o' && (rec_ e b && (noStar b && ((ap.endLine == p.line) && notCall o'))))))
        | _ => false)
      | .tx f a e => (match x with
        | .Call (.Attribute o' nm ap) [b] [] p => decide (nm = txName f) && (noPk a && (noPk e && (rec_ a o' && (rec_ e b && (noStar b && ((ap.endLine == p.line) && noSup o'))))))
        | _ => false)
      | .fst es => (match x with
        | .JoinedStr (v1 :: v2 :: rest) _ => fstP rec_ es (v1 :: v2 :: rest)
        | _ => false)
      | .mxd a k => (match x with
        | .Call (.Name y _) [b] [⟨some kn, .Constant (.int j) _ _, _⟩] _ => decide (y = ("max" : Str)) && (decide (kn = Str.ofString "default") && (glb sc y && (decide (j = k) && (rec_ a b && noStar b))))
        | _ => false)
      | .lrg es => (match es, x with
        | [e], .Call (.Name y _) [.Call (.Name z _) [b] [] _] [] _ => decide (y = ("list" : Str)) && (decide (z = ("range" : Str)) && (glb sc y && (glb sc z && (noPk e && (rec_ e b && noStar b)))))
        | [e, e'], .Call (.Name y _) [.Call (.Name z _) [b, c] [] _] [] _ => decide (y = ("list" : Str)) && (decide (z = ("range" : Str)) && (glb sc y && (glb sc z && (noPk e && (noPk e' && (rec_ e b && (rec_ e' c && (noStar b && noStar c))))))))
        | _, _ => false)
      | .bad => true
      | .dk0 => (match x with
        | .Dict [] [] _ => true
        | _ => false)
      | .dk1 k e => (match x with
        | .Dict [some (.Constant (.str y) _ _)] [v] _ => decide (y = ⟨k.toArray⟩) && (strOk k && (noPk e && rec_ e v))
        | _ => false)
      | .upr a => (match x with
        | .Call (.Attribute o' nm ap) [] [] p => decide (nm = ("upper" : Str)) && (noPk a && (rec_ a o' && ((ap.endLine == p.line) && notCall o')))
        | _ => false)
      | .sst a => (match x with
        | .Call (.Name y _) [.Call (.Name z _) [b] [] _] [] _ => decide (y = ("sorted" : Str)) && (decide (z = ("set" : Str)) && (glb sc y && (glb sc z && (noPk a && (rec_ a b && noStar b)))))
        | _ => false)
      | .trg a => (match x with
        | .Call (.Name y _) [.Call (.Name z _) [b] [] _] [] _ => decide (y = ("tuple" : Str)) && (decide (z = ("range" : Str)) && (glb sc y && (glb sc z && (noPk a && (rec_ a b && noStar b)))))
        | _ => false)
      | .isi e cs => (match cs, x with
        | [c], .Call (.Name y _) [a, .Name z _] [] _ => decide (y = ("isinstance" : Str)) && (glb sc y && (glb sc z && ((match clT c with | some T => decide (z = Str.ofString T) | none => (match c with | .own k => decide (z = Str.ofString k) && (okC G k && nmOk z) | _ => false)) && (noPk e && (rec_ e a && noStar a)))))
        | _, _ => false)
      | .bi f es => (match x with
        | .Call (.Name y _) (a :: as) [] _ => decide (y = biName f) && (glb sc y && args es (a :: as))
        | _ => false)
      | .bm o m es => (match x with
        | .Call (.Attribute o' nm ap) xs [] p => muOk m es && (decide (nm = bmName m) && (rec_ o o' && (args es xs && (decide (xs.length < 29) && ((ap.endLine == p.line) && notCall o')))))
        | _ => false)
      | .ix o k => (match x with
        | .Subscript o' k' _ => notSlice k' && (noPk k && (rec_ o o' && rec_ k k'))
        | _ => false)
      | .slc o lo hi => (match x with
        | .Subscript o' (.Slice lo' hi' none _) _ => rec_ o o' && ((match lo, lo' with
          | [], none => true
          | [e], some y => noPk e && rec_ e y
          | _, _ => false) && (match hi, hi' with
          | [], none => true
          | [e], some y => noPk e && rec_ e y
          | _, _ => false))
        | _ => false)
      | .rev o => (match x with
        | .Subscript o' (.Slice none none (some st) _) _ => isM1 st && rec_ o o'
        | _ => false)
      | .comp elt t k es cnd wp => (match x with
        | .ListComp elt' [⟨tg, it, ifs, asn⟩] scope _ => decide (asn = 0) && (
          let sc' := relS scope sc
          let cf' := fun x => scope.names.lookup x == some .cell
          noPk elt && (pkOut es wp && ((tgSlots t).all (fun i => wp.contains i) && (blkC N sc scope (wp.map fun i => (N.getD i "", i)) && (iter k es tg it && (chG N n cf' sc' t tg && ((match cnd, ifs with
            | [], [] => true
            | [c], [c'] => ch n cf' sc' true c c'
            | _, _ => false) && ch n cf' sc' false elt elt')))))))
        | _ => false)
      | _ => false)
end

/-! ### what a frame's context must bear -/
structure Ctx (G : Tab) (cal : Cal) (kk : Nat) (N : List Str) (cf : Str → Bool) (sc : Scope) (X : Cx) : Prop where
  calm : X.calm = true
  nm : X.N = N
  nd : N.Nodup
  scp : X.env.scope = sc
  kd : sc.kind = .function
  cfn : X.fn = cf
  rm1 : Room (kk + 1) X.A
  gu : X.A.guards = some []
  shp : G.sh = shD
  bl : ∀ x ∈ biNames, X.mg x = none
  gl : ∀ z d, G.consts.lookup z = some d → ∃ v u, X.mg (z : Str) = some u ∧ RelV v u ∧ Rep X.K [] (fun _ => False) Nil d v
  fi : ∀ f F, G.fn f = some F → kdFn G f = true → FnIn X.prog X.w X.K X.mg X.base cal kk f F
  ci : ∀ f F, G.fn f = some F → okC G f = true → ClIn X.prog X.w X.K X.mg X.base cal kk f F
  cl : ClsF X.K X.mg G
  fin : ∀ f F (ds : List D) bs hp, G.fn f = some F → cal f ds bs hp ≠ .stuck → ds.length = F.ps.length
theorem Ctx.rm {G : Tab} {cal : Cal} {kk : Nat} {N : List Str} {cf : Str → Bool} {sc : Scope} {X : Cx} (c : Ctx G cal kk N cf sc X) : Room kk X.A := c.rm1.mono (Nat.le_succ _)
theorem Ctx.blk {G : Tab} {cal : Cal} {kk : Nat} {N : List Str} {cf : Str → Bool} {sc : Scope} {X : Cx} (c : Ctx G cal kk N cf sc X) {scope : Scope} (hk : scope.kind = .function) (s : Shared) (H : Hp) (C : Addr) (cl : List (Str × Addr)) (fp : List Addr) :
    Ctx G cal kk N (fun x => scope.names.lookup x == some .cell) (relS scope sc) (X.blk s H scope (compEnvC scope cl C X.env) fp) :=
  ⟨c.calm, c.nm, c.nd, by rw [← c.scp]; rfl, hk, rfl, c.rm1, c.gu, c.shp, c.bl, c.gl, c.fi, c.ci, c.cl, c.fin⟩
section
variable {X : Cx} {x : Str}
theorem vis_ok {sc : Scope} (h : vis sc x = true) : Vis sc x := by
  unfold vis at h
  split at h
  · rename_i e; exact .inl e
  · rename_i e; exact .inr (.inl e)
  · rename_i e; exact .inr (.inr e)
  · cases h
theorem locK_ok {sc : Scope} (h : locK sc x = true) : sc.names.lookup x = some .local := by
  unfold locK at h
  split at h
  · assumption
  · cases h
theorem celK_ok {sc : Scope} (h : celK sc x = true) : sc.names.lookup x = some .cell := by
  unfold celK at h
  split at h
  · assumption
  · cases h
theorem glb_ok {sc : Scope} (h : glb sc x = true) : sc.names.lookup x = some .globalImplicit := by
  unfold glb at h
  split at h
  · assumption
  · cases h
theorem nmOk_ok (h : nmOk x = true) : (x == ("__debug__" : Str)) = false ∧ (x == ("__classdict__" : Str)) = false := by
  unfold nmOk at h
  obtain ⟨h1, h2⟩ := Bool.and_eq_true_iff.mp h
  exact ⟨by simpa using h1, by simpa using h2⟩
theorem star_cons {e : Expr} {es : List Expr} {env : Env} (h : noStar e = true) : starEach (e :: es) env = (false, eval e env) :: starEach es env := by
  cases e <;> first | rfl | cases h
theorem star_any {env : Env} {pos : Pos} : ∀ {es : List Expr}, es.all noStar = true → (backTo pos (starEach es env)).any (·.1) = false
  | [], _ => rfl
  | e :: es, h => by
    rw [List.all_cons] at h
    obtain ⟨h1, h2⟩ := Bool.and_eq_true_iff.mp h
    rw [star_cons h1]
    show (false || (backTo pos (starEach es env)).any (·.1)) = false
    rw [star_any h2]
    rfl
theorem asg_cons {e : Expr} {es : List Expr} {env : Env} (h : noStar e = true) : assignEach (e :: es) env = (false, assign e env) :: assignEach es env := by
  cases e <;> first | rfl | cases h
theorem asg_len {env : Env} : ∀ {es : List Expr}, es.all noStar = true → (assignEach es env).length = es.length ∧ (assignEach es env).findIdx? (·.1) = none
  | [], _ => ⟨rfl, rfl⟩
  | e :: es, h => by
    rw [List.all_cons] at h
    obtain ⟨h1, h2⟩ := Bool.and_eq_true_iff.mp h
    obtain ⟨a, b⟩ := asg_len (env := env) h2
    rw [asg_cons h1]
    exact ⟨by simp [a], by simp [List.findIdx?_cons, b]⟩
theorem fold_ok {it : Expr} {env : Env} (h : notSet it = true) (x : Value) : foldedSetIterable it env x = pure x := by
  cases it <;> first | rfl | cases h
theorem test_ok {a : Expr} {env : Env} (h : plainTest a = true) (whole : Sem Value) : isTrue a env whole = (do let v ← whole; standAt a.pos; holding [v] (truthy v)) := by
  cases a <;> first | rfl | cases h
theorem ix_ok {b : Expr} (h : notSlice b = true) : PlainIx b := by
  intro o i
  cases b <;> first | rfl | cases h
theorem allP_len {α β : Type} {f : α → β → Bool} : ∀ {as : List α} {bs : List β}, allP f as bs = true → as.length = bs.length
  | [], [], _ => rfl
  | a :: as, b :: bs, h => by
    obtain ⟨_, h2⟩ := Bool.and_eq_true_iff.mp (show (f a b && allP f as bs) = true from h)
    simp [allP_len h2]
  | [], _ :: _, h => by cases h
  | _ :: _, [], h => by cases h
end
end Tw
end

section
set_option linter.all false
set_option autoImplicit false
set_option maxRecDepth 100000
set_option maxHeartbeats 4000000
/-! The check is sound. -/
namespace Tw
open PySem L2 PyProof.Rows

theorem ba2 {a b : Bool} (h : (a && b) = true) : a = true ∧ b = true := Bool.and_eq_true_iff.mp h
section
variable {G : Tab} {cal : Cal} {kk : Nat} {N : List Str} {cf : Str → Bool} {sc : Scope} {X : Cx}
theorem Ctx.un (c : Ctx G cal kk N cf sc X) : X.A.units + 70 < cLine := by have := c.rm.un; omega
theorem Ctx.un65 (c : Ctx G cal kk N cf sc X) : X.A.units + 65 < cLine := by have := c.rm.un; omega
theorem Ctx.var (c : Ctx G cal kk N cf sc X) {i : Nat} {y : Str} {p : Pos} (h : (decide (N[i]? = some y) && (vis sc y && nmOk y)) = true) : PE X (.Name y p) (tVar i) := by
  obtain ⟨h1, h⟩ := ba2 h
  obtain ⟨h2, h3⟩ := ba2 h
  obtain ⟨n1, n2⟩ := nmOk_ok h3
  exact pe_var (by rw [c.nm]; exact of_decide_eq_true h1) (by rw [c.scp]; exact vis_ok h2) n1 n2
theorem Ctx.gl' (c : Ctx G cal kk N cf sc X) {x : Str} (h : glb sc x = true) : Gl X x := by
  show X.env.scope.names.lookup x = _
  rw [c.scp]
  exact glb_ok h
theorem Rep.nil {K : PySem.W.Frag} {d : D} {v : V} (r : Rep K [] (fun _ => False) Nil d v) (ρ : List Addr) (M : Addr → Prop) (H : Hp) : Rep K ρ M H d v := r.keep .nil
/-- targets -/
theorem chG_ok (c : Ctx G cal kk N cf sc X) : ∀ (n : Nat) (t : Tg) (x : Expr), chG N n cf sc t x = true → PG X x (TTg X.K t) := by
  intro n
  induction n with
  | zero => intro t x h; cases h
  | succ n ih =>
    intro t x h
    cases t with
    | nm i =>
      cases x with
      | Name y p =>
        obtain ⟨h1, h2⟩ := ba2 (show (decide (N[i]? = some y) && (locK sc y || (celK sc y && cf y))) = true from h)
        have hi : X.N[i]? = some y := by rw [c.nm]; exact of_decide_eq_true h1
        have hnd : X.N.Nodup := by rw [c.nm]; exact c.nd
        rcases Bool.or_eq_true_iff.mp h2 with h2 | h2
        · have hl : X.env.scope.names.lookup y = some .local := by rw [c.scp]; exact locK_ok h2
          exact g_nm hnd hi (.inl hl) (.inr hl)
        · obtain ⟨h2, h3⟩ := ba2 h2
          have hl : X.env.scope.names.lookup y = some .cell := by rw [c.scp]; exact celK_ok h2
          exact g_nm hnd hi (.inr hl) (.inl (by rw [c.cfn]; exact h3))
      | _ => cases h
    | tp ts =>
      cases x with
      | Tuple ys k p =>
        obtain ⟨h1, h2⟩ := ba2 (show (allP (chG N n cf sc) ts ys && ys.all noStar) = true from h)
        have key : ∀ (ts : List Tg) (ys : List Expr), allP (chG N n cf sc) ts ys = true → ys.all noStar = true → PGs X ys (TTgs X.K ts) := by
          intro ts
          induction ts with
          | nil => intro ys h1 _; cases ys with | nil => exact g_nil | cons _ _ => cases h1
          | cons t ts iht =>
            intro ys h1 h2
            cases ys with
            | nil => cases h1
            | cons y ys =>
              obtain ⟨a1, a2⟩ := ba2 (show (chG N n cf sc t y && allP (chG N n cf sc) ts ys) = true from h1)
              rw [List.all_cons] at h2
              obtain ⟨b1, b2⟩ := ba2 h2
              exact g_cons (ih t y a1) (iht ys a2 b2) (by rw [asg_cons b1]; rfl)
        obtain ⟨l1, l2⟩ := asg_len (env := X.env) h2
        exact g_tp c.calm (key ts ys h1 h2) (by rw [l1, allP_len h1]) l2
      | _ => cases h
end
section
variable (G : Tab) (cal : Cal) (kk : Nat) (N : List Str)
/-- what the check with n tells -/
structure Snd (n : Nat) : Prop where
  e : ∀ (cf : Str → Bool) (sc : Scope) (X : Cx), Ctx G cal kk N cf sc X → ∀ e x, ch G N n cf sc false e x = true → PE X x (TEv X.K G cal e)
  t : ∀ (cf : Str → Bool) (sc : Scope) (X : Cx), Ctx G cal kk N cf sc X → ∀ e x, ch G N n cf sc true e x = true → PT X x (TTv X.K G cal e) ∧ (isBO x = true → PW X x (TTv X.K G cal e))
end
section
variable {G : Tab} {cal : Cal} {kk : Nat} {N : List Str} {cf : Str → Bool} {sc : Scope} {X : Cx} {n : Nat}
theorem Snd.args (I : Snd G cal kk N n) (c : Ctx G cal kk N cf sc X) : ∀ (es : List E) (xs : List Expr), allP (ch G N n cf sc false) es xs = true → xs.all noStar = true → PA X xs (TEvs X.K G cal es)
  | [], [], _, _ => s_nil
  | [], _ :: _, h, _ => by cases h
  | _ :: _, [], h, _ => by cases h
  | e :: es, x :: xs, h, hs => by
    obtain ⟨a1, a2⟩ := ba2 (show (ch G N n cf sc false e x && allP (ch G N n cf sc false) es xs) = true from h)
    rw [List.all_cons] at hs
    obtain ⟨b1, b2⟩ := ba2 hs
    exact s_cons (I.e cf sc X c e x a1) (Snd.args I c es xs a2 b2) (star_cons b1)
/-- what a comprehension needs -/
structure CompOk (X : Cx) (G : Tab) (cal : Cal) (elt tg iter : Expr) (ifs : List Expr) (scope : Scope) (own : List (Str × Nat)) (eelt : E) (t : Tg) (k : Ik) (es cnd : List E) (wp : List Nat) : Prop where
  hi : PI X tg iter (TIt X.K G cal k es)
  ok : BlkOk X.N X.env.scope scope own
  hw : own.map (·.2) = wp
  hg : ∀ (s : Shared) (H : Hp) (C : Addr) (cl : List (Str × Addr)) (fp : List Addr), PG (X.blk s H scope (compEnvC scope cl C X.env) fp) tg (TTg X.K t)
  ht : ∀ (s : Shared) (H : Hp) (C : Addr) (cl : List (Str × Addr)) (fp : List Addr), PTs (X.blk s H scope (compEnvC scope cl C X.env) fp) ifs (TTvs X.K G cal cnd)
  he : ∀ (s : Shared) (H : Hp) (C : Addr) (cl : List (Str × Addr)) (fp : List Addr), PE (X.blk s H scope (compEnvC scope cl C X.env) fp) elt (TEv X.K G cal eelt)
  hn : noPk eelt = true
  hpk : pkOut es wp = true
  hts : ∀ i ∈ tgSlots t, i ∈ wp
  hs : ∀ x, foldedSetIterable iter X.env x = pure x
theorem CompOk.pe {elt tg iter : Expr} {ifs : List Expr} {scope : Scope} {own : List (Str × Nat)} {eelt : E} {t : Tg} {k : Ik} {es cnd : List E} {wp : List Nat} {pos : Pos} (c : Ctx G cal kk N cf sc X) (C : CompOk X G cal elt tg iter ifs scope own eelt t k es cnd wp) :
    PE X (.ListComp elt [⟨tg, iter, ifs, 0⟩] scope pos) (TEv X.K G cal (.comp eelt t k es cnd wp)) :=
  s_comp c.calm (by rw [c.nm]; exact c.nd) C.hi C.ok C.hw C.hg C.ht C.he C.hn C.hpk C.hts C.hs
/-- name = [..] on one line -/
theorem CompOk.set {elt tg iter : Expr} {ifs : List Expr} {scope : Scope} {own : List (Str × Nat)} {eelt : E} {t : Tg} {k : Ik} {es cnd : List E} {wp : List Nat} {pos spos py : Pos} {i : Nat} {y : Str} (c : Ctx G cal kk N cf sc X) (C : CompOk X G cal elt tg iter ifs scope own eelt t k es cnd wp)
    (hy : X.N[i]? = some y) (hyl : X.env.scope.names.lookup y = some .local) (hsw : swapsWith (.ListComp elt [⟨tg, iter, ifs, 0⟩] scope pos) (some (.Name y py)) spos.line X.env = pure true) :
    PS X (.Assign [.Name y py] (.ListComp elt [⟨tg, iter, ifs, 0⟩] scope pos) spos) (tAsg (TEv X.K G cal (.comp eelt t k es cnd wp)) (gName i)) :=
  (ps_setLc c.calm (by rw [c.nm]; exact c.nd) hy hyl hsw C.hi C.ok C.hg C.ht C.he C.hs).imp fun De σ H q => by
    have := C.hw
    subst this
    exact comp_imp C.hn C.hpk C.hts q

theorem ck_iter (I : Snd G cal kk N n) (c : Ctx G cal kk N cf sc X) {k : Ik} {es : List E} {tg it : Expr}
    (h : (match k with
      | .of => (match es with
        | [e] => ch G N n cf sc false e it
        | _ => false)
      | .enum => (match es, it, tg with
        | [e], .Call (.Name y _) [a] [] _, .Tuple _ _ _ => decide (y = ("enumerate" : Str)) && (glb sc y && (allP (ch G N n cf sc false) [e] [a] && [a].all noStar))
        | _, _, _ => false)
      | .zip => (match es, it, tg with
        | [e, e'], .Call (.Name y _) [a, b] [] _, .Tuple _ _ _ => decide (y = ("zip" : Str)) && (glb sc y && (allP (ch G N n cf sc false) [e, e'] [a, b] && [a, b].all noStar))
        | _, _, _ => false)
      | .zips => (match es, it, tg with
        | [e, e'], .Call (.Name y _) [a, b] [⟨some kn, .Constant (.bool true) _ _, _⟩] _, .Tuple _ _ _ => decide (y = ("zip" : Str)) && (decide (kn = Str.ofString "strict") && (glb sc y && (allP (ch G N n cf sc false) [e, e'] [a, b] && [a, b].all noStar)))
        | _, _, _ => false)
      | .rng => (match es, it with
        | [e], .Call (.Name y _) [a] [] _ => decide (y = ("range" : Str)) && (glb sc y && (noPk e && (allP (ch G N n cf sc false) [e] [a] && [a].all noStar)))
        | [e, e'], .Call (.Name y _) [a, b] [] _ => decide (y = ("range" : Str)) && (glb sc y && (allP (ch G N n cf sc false) [e, e'] [a, b] && [a, b].all noStar))
        | [e, e', e''], .Call (.Name y _) [a, b, c] [] _ => decide (y = ("range" : Str)) && (glb sc y && (allP (ch G N n cf sc false) [e, e', e''] [a, b, c] && [a, b, c].all noStar))
        | _, _ => false)
      | _ => false) = true) : PI X tg it (TIt X.K G cal k es) := by
  have two : ∀ {a b : Expr}, [a, b].all noStar = true → starEach [a, b] X.env = (false, eval a X.env) :: starEach [b] X.env ∧ starEach [b] X.env = [(false, eval b X.env)] ∧ ∀ pos, (backTo pos (starEach [b] X.env)).any (·.1) = false := fun {a b} h => by
    rw [List.all_cons] at h
    obtain ⟨h1, h2⟩ := ba2 h
    have h3 := h2
    rw [List.all_cons] at h3
    exact ⟨star_cons h1, star_cons (ba2 h3).1, fun pos => star_any h2⟩
  have one : ∀ {a : Expr}, [a].all noStar = true → starEach [a] X.env = [(false, eval a X.env)] := fun {a} h => by
    rw [List.all_cons] at h
    exact star_cons (ba2 h).1
  split at h
  · split at h
    case h_2 => cases h
    exact i_of (I.e cf sc X c _ _ h)
  · split at h
    case h_2 => cases h
    obtain ⟨h1, h⟩ := ba2 h
    obtain ⟨h2, h⟩ := ba2 h
    obtain ⟨h3, h4⟩ := ba2 h
    have e := of_decide_eq_true h1
    subst e
    exact i_enum (c.gl' h2) (c.bl _ (by decide +kernel)) (I.args c _ _ h3 h4) (one h4)
  · split at h
    case h_2 => cases h
    obtain ⟨h1, h⟩ := ba2 h
    obtain ⟨h2, h⟩ := ba2 h
    obtain ⟨h3, h4⟩ := ba2 h
    have e := of_decide_eq_true h1
    subst e
    obtain ⟨s1, s2, s3⟩ := two h4
    exact i_zip (c.gl' h2) (c.bl _ (by decide +kernel)) (I.args c _ _ h3 h4) s1 (s3 _)
  · split at h
    case h_2 => cases h
    obtain ⟨h1, h⟩ := ba2 h
    obtain ⟨h0, h⟩ := ba2 h
    obtain ⟨h2, h⟩ := ba2 h
    obtain ⟨h3, h4⟩ := ba2 h
    have e := of_decide_eq_true h1
    subst e
    have e := of_decide_eq_true h0
    subst e
    obtain ⟨s1, s2, s3⟩ := two h4
    exact i_zips (c.gl' h2) (c.bl _ (by decide +kernel)) (I.args c _ _ h3 h4) s1 (by rw [star_any h4]; rfl)
  · split at h
    · obtain ⟨h1, h⟩ := ba2 h
      obtain ⟨h2, h⟩ := ba2 h
      obtain ⟨h5, h⟩ := ba2 h
      obtain ⟨h3, h4⟩ := ba2 h
      have e := of_decide_eq_true h1
      subst e
      exact i_rng1 (c.gl' h2) (c.bl _ (by decide +kernel)) h5 (I.args c _ _ h3 h4) (one h4)
    · obtain ⟨h1, h⟩ := ba2 h
      obtain ⟨h2, h⟩ := ba2 h
      obtain ⟨h3, h4⟩ := ba2 h
      have e := of_decide_eq_true h1
      subst e
      obtain ⟨s1, s2, s3⟩ := two h4
      exact i_rng2 (c.gl' h2) (c.bl _ (by decide +kernel)) (I.args c _ _ h3 h4) (by rw [s1, s2]) s2
    · obtain ⟨h1, h⟩ := ba2 h
      obtain ⟨h2, h⟩ := ba2 h
      obtain ⟨h3, h4⟩ := ba2 h
      have e := of_decide_eq_true h1
      subst e
      have h5 := h4
      rw [List.all_cons] at h5
      exact i_rng3 (c.gl' h2) (c.bl _ (by decide +kernel)) (I.args c _ _ h3 h4) (star_cons (ba2 h5).1) (star_any (ba2 h5).2)
    · cases h
  · cases h
end
end Tw
end

section
set_option linter.all false
set_option autoImplicit false
set_option maxRecDepth 100000
set_option maxHeartbeats 8000000
/-! The check is sound: the induction. -/
namespace Tw
open PySem L2 PyProof.Rows
section
variable {G : Tab} {cal : Cal} {kk : Nat} {N : List Str} {cf : Str → Bool} {sc : Scope} {X : Cx} {n : Nat}
theorem ck_comp (I : Snd G cal kk N n) (c : Ctx G cal kk N cf sc X) {elt tg it : Expr} {ifs : List Expr} {scope : Scope} {p : Pos} {eelt : E} {t : Tg} {k : Ik} {es cnd : List E} {wp : List Nat}
    (h : ch G N (n + 1) cf sc false (.comp eelt t k es cnd wp) (.ListComp elt [⟨tg, it, ifs, 0⟩] scope p) = true) : CompOk X G cal elt tg it ifs scope (wp.map fun i => (N.getD i "", i)) eelt t k es cnd wp := by
  obtain ⟨_, h⟩ := ba2 (show (decide ((0 : Int) = 0) && (noPk eelt && _)) = true from h)
  obtain ⟨a1, h⟩ := ba2 h
  obtain ⟨a2, h⟩ := ba2 h
  obtain ⟨a3, h⟩ := ba2 h
  obtain ⟨a4, h⟩ := ba2 h
  obtain ⟨a5, h⟩ := ba2 h
  obtain ⟨a6, h⟩ := ba2 h
  obtain ⟨a7, a8⟩ := ba2 h
  obtain ⟨b1, b2⟩ := ba2 a5
  have ok := blkOk_by a4
  have cb := fun s H C cl fp => c.blk ok.kind s H C cl fp
  refine ⟨ck_iter I c b2, by rw [c.nm, c.scp]; exact ok, by rw [List.map_map]; exact List.map_id wp, fun s H C cl fp => chG_ok (cb s H C cl fp) n t tg a6, fun s H C cl fp => ?_, fun s H C cl fp => I.e _ _ _ (cb s H C cl fp) _ _ a8, a1, a2, fun i hi => ?_, fold_ok b1⟩
  · split at a7
    · exact t_nil
    · exact t_one (I.t _ _ _ (cb s H C cl fp) _ _ a7).1
    · cases a7
  · have := List.all_eq_true.mp a3 i hi
    simpa using this
theorem ces_cls {f : String} {es : List E} (hok : okC G f = true) (h : cokF G f es = true) : ∃ F, G.fn f = some F ∧ ∃ es', es = .non :: es' ∧ ces G f es = es' := by
  unfold cokF at h
  rw [if_pos hok] at h
  cases hF : G.fn f with
  | none => unfold okC at hok; rw [hF] at hok; cases hok
  | some F =>
    cases es with
    | nil => cases h
    | cons e es =>
      have e1 : e = .non := by cases e <;> first | rfl | cases h
      subst e1
      exact ⟨F, rfl, es, rfl, by unfold ces; rw [if_pos hok]; rfl⟩
theorem ces_fn {f : String} {es : List E} (hok : ¬ okC G f = true) (h : cokF G f es = true) : ∃ F, G.fn f = some F ∧ kdFn G f = true ∧ ces G f es = es := by
  unfold cokF at h
  rw [if_neg hok] at h
  cases hF : G.fn f with
  | none => unfold kdFn at h; rw [hF] at h; cases h
  | some F => exact ⟨F, rfl, h, by unfold ces; rw [if_neg hok]⟩
theorem ck_call (I : Snd G cal kk N n) (c : Ctx G cal kk N cf sc X) {y : Str} {p p2 : Pos} {xs : List Expr} {f : String} {es kes : List E} {ks : List String}
    (h : ch G N (n + 1) cf sc false (.call f es ks kes) (.Call (.Name y p) xs [] p2) = true) : PE X (.Call (.Name y p) xs [] p2) (TEv X.K G cal (.call f es ks kes)) := by
  obtain ⟨a1, h⟩ := ba2 (show (ks.isEmpty && _) = true from h)
  obtain ⟨a2, h⟩ := ba2 h
  obtain ⟨a3, h⟩ := ba2 h
  obtain ⟨a4, h⟩ := ba2 h
  obtain ⟨a5, h⟩ := ba2 h
  obtain ⟨a6, h⟩ := ba2 h
  obtain ⟨a7, a8⟩ := ba2 h
  obtain ⟨b1, b2⟩ := ba2 a7
  have e1 : ks = [] := by cases ks <;> first | rfl | cases a1
  have e2 : kes = [] := by cases kes <;> first | rfl | cases a2
  subst e1 e2
  have nd := (nmOk_ok a5).1
  by_cases hok : okC G f = true
  · obtain ⟨F, hF, es', he, hce⟩ := ces_cls hok a8
    subst he
    rw [hce] at b1
    have e3 := of_decide_eq_true a3
    subst e3
    exact s_make c.cl hok hF (c.ci f F hF hok) (fun ds bs hp q => c.fin f F ds bs hp hF q) c.rm1 c.gu (c.gl' a4) (ba2 (show (noPk .non && es'.all noPk) = true from a6)).2 (I.args c _ _ b1 b2) (allP_len b1).symm nd fun e r z => by
      subst z
      rw [List.all_cons] at b2
      exact ⟨star_cons (ba2 b2).1, star_any (ba2 b2).2⟩
  · obtain ⟨F, hF, hkd, hce⟩ := ces_fn hok a8
    rw [hce] at b1
    cases xs with
    | nil =>
      cases es with
      | nil => exact s_call0 hF (c.fi f F hF hkd) (fun ds bs hp q => c.fin f F ds bs hp hF q) c.rm c.gu (of_decide_eq_true a3) (c.gl' a4) nd
      | cons _ _ => cases b1
    | cons x xs =>
      have hb := b2
      rw [List.all_cons] at hb
      exact s_call hF (c.fi f F hF hkd) (fun ds bs hp q => c.fin f F ds bs hp hF q) c.rm c.gu (of_decide_eq_true a3) (c.gl' a4) a6 (allP_len b1).symm (I.args c _ _ b1 b2) nd (star_cons (ba2 hb).1) (star_any (ba2 hb).2)
theorem kw_ok {env : Env} {pos : Pos} : ∀ {kws : List Keyword} {ks : List String}, kws.map (·.arg) = (ks.map fun k => some (Str.ofString k)) →
    (backToKw pos (keywordEach kws env)).all (·.1.isSome) = true ∧ (backToKw pos (keywordEach kws env)).filterMap (·.1) = ks.map Str.ofString ∧ (backToKw pos (keywordEach kws env)).any (·.1.isNone) = false
  | [], [], _ => ⟨rfl, rfl, rfl⟩
  | [], _ :: _, h => by cases h
  | _ :: _, [], h => by cases h
  | ⟨nm, v, p⟩ :: kws, k :: ks, h => by
    rw [List.map_cons, List.map_cons] at h
    injection h with h1 h2
    obtain ⟨a1, a2, a3⟩ := kw_ok (env := env) (pos := pos) h2
    have h1 : nm = some (Str.ofString k) := h1
    subst h1
    refine ⟨?_, ?_, ?_⟩
    · show (true && (backToKw pos (keywordEach kws env)).all (·.1.isSome)) = true
      rw [a1]; rfl
    · show Str.ofString k :: (backToKw pos (keywordEach kws env)).filterMap (·.1) = _
      rw [a2]; rfl
    · show (false || (backToKw pos (keywordEach kws env)).any (·.1.isNone)) = false
      rw [a3]; rfl
theorem Snd.kws (I : Snd G cal kk N n) (c : Ctx G cal kk N cf sc X) : ∀ (es : List E) (kws : List Keyword), allP (ch G N n cf sc false) es (kws.map (·.value)) = true → PK X kws (TEvs X.K G cal es)
  | [], [], _ => s_knil
  | [], _ :: _, h => by cases h
  | _ :: _, [], h => by cases h
  | e :: es, ⟨nm, v, p⟩ :: kws, h => by
    obtain ⟨a1, a2⟩ := ba2 (show (ch G N n cf sc false e v && allP (ch G N n cf sc false) es (kws.map (·.value))) = true from h)
    exact s_kcons (I.e cf sc X c e v a1) (Snd.kws I c es kws a2)
theorem ck_callK (I : Snd G cal kk N n) (c : Ctx G cal kk N cf sc X) {y : Str} {p p2 : Pos} {xs : List Expr} {kw : Keyword} {kws : List Keyword} {f : String} {es kes : List E} {ks : List String}
    (h : ch G N (n + 1) cf sc false (.call f es ks kes) (.Call (.Name y p) xs (kw :: kws) p2) = true) : PE X (.Call (.Name y p) xs (kw :: kws) p2) (TEv X.K G cal (.call f es ks kes)) := by
  obtain ⟨a3, h⟩ := ba2 (show (decide (y = (f : Str)) && _) = true from h)
  obtain ⟨a4, h⟩ := ba2 h
  obtain ⟨a5, h⟩ := ba2 h
  obtain ⟨a6, h⟩ := ba2 h
  obtain ⟨a7, h⟩ := ba2 h
  obtain ⟨a8, h⟩ := ba2 h
  obtain ⟨a9, h⟩ := ba2 h
  obtain ⟨a10, a11⟩ := ba2 h
  obtain ⟨b1, b2⟩ := ba2 a7
  have nd := (nmOk_ok a5).1
  have hk := of_decide_eq_true a10
  obtain ⟨k1, k2, k3⟩ := kw_ok (env := X.env) (pos := p2) hk
  have kne : ks ≠ [] := by
    rintro rfl
    cases hk
  have hst : ∀ e r, xs = e :: r → starEach (e :: r) X.env = (false, eval e X.env) :: starEach r X.env := by
    rintro e r rfl
    rw [List.all_cons] at b2
    exact star_cons (ba2 b2).1
  have hpl : ((backTo p2 (starEach xs X.env)).any (·.1) || (backToKw p2 (keywordEach (kw :: kws) X.env)).any (·.1.isNone)) = false := by rw [k3, star_any b2]; rfl
  by_cases hok : okC G f = true
  · obtain ⟨F, hF, es', he, hce⟩ := ces_cls hok a11
    subst he
    rw [hce] at b1
    have e3 := of_decide_eq_true a3
    subst e3
    exact s_makeK c.cl hok hF (c.ci f F hF hok) (fun ds bs hp q => c.fin f F ds bs hp hF q) c.rm1 c.gu (c.gl' a4) (ba2 (show (noPk .non && es'.all noPk) = true from a6)).2 a8 (allP_len b1).symm kne (I.args c _ _ b1 b2) (I.kws c _ _ a9) k1 k2 nd hst hpl
  · obtain ⟨F, hF, hkd, hce⟩ := ces_fn hok a11
    rw [hce] at b1
    exact s_callK hF (c.fi f F hF hkd) (fun ds bs hp q => c.fin f F ds bs hp hF q) c.rm c.gu (of_decide_eq_true a3) (c.gl' a4) a6 a8 (allP_len b1).symm kne (I.args c _ _ b1 b2) (I.kws c _ _ a9) k1 k2 nd hst hpl
theorem ck_isi (I : Snd G cal kk N n) (c : Ctx G cal kk N cf sc X) {e : E} {cl : Cl} {y z : Str} {p p1 p2 : Pos} {a : Expr} (h : (decide (y = ("isinstance" : Str)) && (glb sc y && (glb sc z && ((match clT cl with | some T => decide (z = Str.ofString T) | none => (match cl with | .own k => decide (z = Str.ofString k) && (okC G k && nmOk z) | _ => false)) && (noPk e && (ch G N n cf sc false e a && noStar a)))))) = true) :
    PE X (.Call (.Name y p) [a, .Name z p1] [] p2) (TEv X.K G cal (.isi e [cl])) := by
  obtain ⟨a1, h⟩ := ba2 h
  obtain ⟨a2, h⟩ := ba2 h
  obtain ⟨a3, h⟩ := ba2 h
  obtain ⟨a4, h⟩ := ba2 h
  obtain ⟨a5, h⟩ := ba2 h
  obtain ⟨a6, a7⟩ := ba2 h
  have hy := of_decide_eq_true a1
  subst hy
  have hs : starEach [a, .Name z p1] X.env = (false, eval a X.env) :: starEach [.Name z p1] X.env := star_cons a7
  have key : ∀ T, clT cl = some T → bootBuiltins (Str.ofString T) = some (.type T) ∧ Str.ofString T ≠ "__name__" ∧ (Str.ofString T == ("__debug__" : Str)) = false ∧ Str.ofString T ∈ biNames := by
    intro T hT
    cases cl <;> cases hT <;> exact ⟨by decide +kernel, by decide +kernel, by decide +kernel, by decide +kernel⟩
  cases hT : clT cl with
  | none =>
    rw [hT] at a4
    cases cl with
    | own k =>
      obtain ⟨d1, d2⟩ := ba2 (show (decide (z = Str.ofString k) && (okC G k && nmOk z)) = true from a4)
      obtain ⟨d4, d3⟩ := ba2 d2
      have hz := of_decide_eq_true d1
      subst hz
      exact s_isiO c.cl d4 (c.gl' a2) (c.bl _ (by decide +kernel)) (c.gl' a3) (nmOk_ok d3).1 a5 (I.e _ _ _ c _ _ a6) hs rfl
    | _ => cases hT
  | some T =>
    rw [hT] at a4
    have hz := of_decide_eq_true a4
    subst hz
    obtain ⟨k1, k2, k3, k4⟩ := key T hT
    exact s_isi c.cl (c.gl' a2) (c.bl _ (by decide +kernel)) (c.gl' a3) (c.bl _ k4) k1 k2 k3 hT a5 (I.e _ _ _ c _ _ a6) hs rfl
theorem ck_bi (I : Snd G cal kk N n) (c : Ctx G cal kk N cf sc X) {y : Str} {p p2 : Pos} {x : Expr} {xs : List Expr} {f : Bi} {es : List E}
    (h : ch G N (n + 1) cf sc false (.bi f es) (.Call (.Name y p) (x :: xs) [] p2) = true) : PE X (.Call (.Name y p) (x :: xs) [] p2) (TEv X.K G cal (.bi f es)) := by
  obtain ⟨a2, h⟩ := ba2 (show (decide (y = biName f) && _) = true from h)
  obtain ⟨a3, h⟩ := ba2 h
  obtain ⟨b1, b2⟩ := ba2 h
  have e := of_decide_eq_true a2
  subst e
  have hb := b2
  rw [List.all_cons] at hb
  have ha := I.args c _ _ b1 b2
  have hc : CallR X (biV f) (rBi X.K G.sh f) := by
    by_cases hf : f = .repr
    · subst hf
      rw [c.shp]
      exact cr_repr c.un c.gu
    · by_cases h1 : f = .min2
      · subst h1
        exact cr_min2 G.sh c.calm c.un
      · by_cases h2 : f = .max2
        · subst h2
          exact cr_max2 G.sh c.calm c.un
        · by_cases h3 : f = .minl
          · subst h3
            exact cr_minl G.sh c.calm c.un
          · by_cases h4 : f = .maxl
            · subst h4
              exact cr_maxl G.sh c.calm c.un
            · exact cr_bi (X := X) G.sh (f := f) c.calm c.un hf h1 h2 h3 h4
  have hm := c.bl _ (biName_mem f)
  have hv := bi_boot f
  have hg := c.gl' a3
  refine s_bi ?_
  cases f <;> first
    | exact pe_callB hc hg hm hv ha (bi_nn _) (bi_nd _) (star_cons (ba2 hb).1) (star_any (ba2 hb).2)
    | exact pe_callTy hc hg hm hv ha (bi_nn _) (bi_nd _) (star_cons (ba2 hb).1) (star_any (ba2 hb).2)
theorem ck_trg (I : Snd G cal kk N n) (c : Ctx G cal kk N cf sc X) {y z : Str} {p p1 p2 p3 : Pos} {b : Expr} {a : E}
    (h : ch G N (n + 1) cf sc false (.trg a) (.Call (.Name y p) [.Call (.Name z p1) [b] [] p2] [] p3) = true) : PE X (.Call (.Name y p) [.Call (.Name z p1) [b] [] p2] [] p3) (TEv X.K G cal (.trg a)) := by
  obtain ⟨a1, h⟩ := ba2 (show (decide (y = ("tuple" : Str)) && _) = true from h)
  obtain ⟨a2, h⟩ := ba2 h
  obtain ⟨a3, h⟩ := ba2 h
  obtain ⟨a4, h⟩ := ba2 h
  obtain ⟨a5, h⟩ := ba2 h
  obtain ⟨a6, a7⟩ := ba2 h
  have e := of_decide_eq_true a1
  subst e
  have e := of_decide_eq_true a2
  subst e
  exact s_trg (c.gl' a3) (c.bl _ (by decide +kernel)) (c.gl' a4) (c.bl _ (by decide +kernel)) (I.e _ _ _ c _ _ a6) a5 (star_cons a7) c.calm
theorem ck_sst (I : Snd G cal kk N n) (c : Ctx G cal kk N cf sc X) {y z : Str} {p p1 p2 p3 : Pos} {b : Expr} {a : E}
    (h : ch G N (n + 1) cf sc false (.sst a) (.Call (.Name y p) [.Call (.Name z p1) [b] [] p2] [] p3) = true) : PE X (.Call (.Name y p) [.Call (.Name z p1) [b] [] p2] [] p3) (TEv X.K G cal (.sst a)) := by
  obtain ⟨a1, h⟩ := ba2 (show (decide (y = ("sorted" : Str)) && _) = true from h)
  obtain ⟨a2, h⟩ := ba2 h
  obtain ⟨a3, h⟩ := ba2 h
  obtain ⟨a4, h⟩ := ba2 h
  obtain ⟨a5, h⟩ := ba2 h
  obtain ⟨a6, a7⟩ := ba2 h
  have e := of_decide_eq_true a1
  subst e
  have e := of_decide_eq_true a2
  subst e
  exact s_sst (c.gl' a3) (c.bl _ (by decide +kernel)) (c.gl' a4) (c.bl _ (by decide +kernel)) (I.e _ _ _ c _ _ a6) a5 (star_cons a7) c.calm
theorem few_ok {env : Env} {pos : Pos} {xs : List Expr} (h : xs.all noStar = true) (hl : xs.length < 29) : ((backTo pos (starEach xs env)).all (fun x => !x.1) && (backToKw pos (keywordEach [] env)).all (fun x => x.1.isSome)
      && decide (xs.length + ([] : List Keyword).length + (if ([] : List Keyword).isEmpty then 0 else 1) < 30)) = true := by
  have key : ∀ (xs : List Expr), xs.all noStar = true → (backTo pos (starEach xs env)).all (fun x => !x.1) = true := by
    intro xs
    induction xs with
    | nil => intro _; rfl
    | cons x xs ih =>
      intro h
      rw [List.all_cons] at h
      obtain ⟨h1, h2⟩ := ba2 h
      rw [star_cons h1]
      show (true && (backTo pos (starEach xs env)).all _) = true
      rw [ih h2]
      rfl
  rw [key xs h]
  show (true && true && decide (xs.length + 0 + 0 < 30)) = true
  rw [decide_eq_true (by omega)]
  rfl
theorem base_ok {o : Expr} {nm : Str} {env : Env} {w : Sem Value} (h : notCall o = true) : attributeBase o nm env w = w := by
  cases o <;> first | rfl | cases h
theorem ck_upr (I : Snd G cal kk N n) (c : Ctx G cal kk N cf sc X) {o : Expr} {nm : Str} {ap p2 : Pos} {a : E}
    (h : ch G N (n + 1) cf sc false (.upr a) (.Call (.Attribute o nm ap) [] [] p2) = true) : PE X (.Call (.Attribute o nm ap) [] [] p2) (TEv X.K G cal (.upr a)) := by
  obtain ⟨a1, h⟩ := ba2 (show (decide (nm = ("upper" : Str)) && _) = true from h)
  obtain ⟨a2, h⟩ := ba2 h
  obtain ⟨a3, h⟩ := ba2 h
  obtain ⟨a4, a5⟩ := ba2 h
  have e := of_decide_eq_true a1
  subst e
  exact s_upr (I.e _ _ _ c _ _ a3) a2 (base_ok a5) a4
theorem ck_low (I : Snd G cal kk N n) (c : Ctx G cal kk N cf sc X) {o : Expr} {nm : Str} {ap p2 : Pos} {a : E}
    (h : ch G N (n + 1) cf sc false (.low a) (.Call (.Attribute o nm ap) [] [] p2) = true) : PE X (.Call (.Attribute o nm ap) [] [] p2) (TEv X.K G cal (.low a)) := by
  obtain ⟨a1, h⟩ := ba2 (show (decide (nm = ("lower" : Str)) && _) = true from h)
  obtain ⟨a2, h⟩ := ba2 h
  obtain ⟨a3, h⟩ := ba2 h
  obtain ⟨a4, a5⟩ := ba2 h
  have e := of_decide_eq_true a1
  subst e
  exact s_low (I.e _ _ _ c _ _ a3) a2 (base_ok a5) a4
theorem ck_stp (I : Snd G cal kk N n) (c : Ctx G cal kk N cf sc X) {o b : Expr} {nm : Str} {ap p2 : Pos} {a e : E}
    (h : ch G N (n + 1) cf sc false (.stp a e) (.Call (.Attribute o nm ap) [b] [] p2) = true) : PE X (.Call (.Attribute o nm ap) [b] [] p2) (TEv X.K G cal (.stp a e)) := by
  obtain ⟨a1, h⟩ := ba2 (show (decide (nm = ("strip" : Str)) && _) = true from h)
  obtain ⟨a2, h⟩ := ba2 h
  obtain ⟨a0, h⟩ := ba2 h
  obtain ⟨a3, h⟩ := ba2 h
  obtain ⟨a4, h⟩ := ba2 h
  obtain ⟨a5, h⟩ := ba2 h
  obtain ⟨a6, a7⟩ := ba2 h
  have e := of_decide_eq_true a1
  subst e
  exact s_stp (I.e _ _ _ c _ _ a3) (I.e _ _ _ c _ _ a4) a2 a0 (star_cons a5) (base_ok a7) a6
theorem sup_ok {o : Expr} {nm : Str} {env : Env} {w : Sem Value} (h : noSup o = true) : attributeBase o nm env w = w := by
  cases o <;> try rfl
  rename_i f as ks p
  cases as with
  | nil => cases h
  | cons a as => cases f <;> rfl
theorem ck_tx (I : Snd G cal kk N n) (c : Ctx G cal kk N cf sc X) {o b : Expr} {nm : Str} {ap p2 : Pos} {f : Tx} {a e : E}
    (h : ch G N (n + 1) cf sc false (.tx f a e) (.Call (.Attribute o nm ap) [b] [] p2) = true) : PE X (.Call (.Attribute o nm ap) [b] [] p2) (TEv X.K G cal (.tx f a e)) := by
  obtain ⟨a1, h⟩ := ba2 (show (decide (nm = txName f) && _) = true from h)
  obtain ⟨a2, h⟩ := ba2 h
  obtain ⟨a0, h⟩ := ba2 h
  obtain ⟨a3, h⟩ := ba2 h
  obtain ⟨a4, h⟩ := ba2 h
  obtain ⟨a5, h⟩ := ba2 h
  obtain ⟨a6, a7⟩ := ba2 h
  have e := of_decide_eq_true a1
  subst e
  cases f with
  | lst => exact s_lstr (I.e _ _ _ c _ _ a3) (I.e _ _ _ c _ _ a4) a2 a0 (star_cons a5) (sup_ok a7) a6
  | rst => exact s_rstr (I.e _ _ _ c _ _ a3) (I.e _ _ _ c _ _ a4) a2 a0 (star_cons a5) (sup_ok a7) a6
  | spl => exact s_spl (I.e _ _ _ c _ _ a3) (I.e _ _ _ c _ _ a4) a2 a0 (star_cons a5) (sup_ok a7) a6
  | ptn => exact s_ptn (I.e _ _ _ c _ _ a3) (I.e _ _ _ c _ _ a4) a2 a0 (star_cons a5) (sup_ok a7) a6
theorem fstP_ok (I : Snd G cal kk N n) (c : Ctx G cal kk N cf sc X) : ∀ {es : List E} {vs : List Expr}, fstP (ch G N n cf sc false) es vs = true → FP X G cal es vs
  | [], [], _ => .nil
  | [], _ :: _, h => by cases h
  | _ :: _, [], h => by cases h
  | e :: es, v :: vs, h => by
    unfold fstP at h
    obtain ⟨h1, h2⟩ := ba2 h
    have ih := fstP_ok I c h2
    split at h1
    · rename_i y cv p
      obtain ⟨b1, h1⟩ := ba2 h1
      obtain ⟨b2, b3⟩ := ba2 h1
      have e := of_decide_eq_true b1
      subst e
      exact .fmt (I.e _ _ _ c _ _ b3) b2 ih
    · split at h1
      · exact .con (I.e _ _ _ c _ _ h1) ih
      · cases h1
theorem ck_mxd (I : Snd G cal kk N n) (c : Ctx G cal kk N cf sc X) {y kn : Str} {p p2 kp vp : Pos} {b : Expr} {i : Nat} {j k : Int} {a : E}
    (h : ch G N (n + 1) cf sc false (.mxd a k) (.Call (.Name y p) [b] [⟨some kn, .Constant (.int j) i vp, kp⟩] p2) = true) : PE X (.Call (.Name y p) [b] [⟨some kn, .Constant (.int j) i vp, kp⟩] p2) (TEv X.K G cal (.mxd a k)) := by
  obtain ⟨a1, h⟩ := ba2 (show (decide (y = ("max" : Str)) && _) = true from h)
  obtain ⟨a2, h⟩ := ba2 h
  obtain ⟨a3, h⟩ := ba2 h
  obtain ⟨a4, h⟩ := ba2 h
  obtain ⟨a5, a6⟩ := ba2 h
  have e := of_decide_eq_true a1
  subst e
  have e := of_decide_eq_true a2
  subst e
  have e := of_decide_eq_true a4
  subst e
  exact s_mxd c.calm (c.gl' a3) (c.bl _ (by decide +kernel)) (I.e _ _ _ c _ _ a5) (star_cons a6)
theorem ck_lrg1 (I : Snd G cal kk N n) (c : Ctx G cal kk N cf sc X) {y z : Str} {p p1 p2 p3 : Pos} {b : Expr} {e : E}
    (h : ch G N (n + 1) cf sc false (.lrg [e]) (.Call (.Name y p) [.Call (.Name z p1) [b] [] p2] [] p3) = true) : PE X (.Call (.Name y p) [.Call (.Name z p1) [b] [] p2] [] p3) (TEv X.K G cal (.lrg [e])) := by
  obtain ⟨a1, h⟩ := ba2 (show (decide (y = ("list" : Str)) && _) = true from h)
  obtain ⟨a2, h⟩ := ba2 h
  obtain ⟨a3, h⟩ := ba2 h
  obtain ⟨a4, h⟩ := ba2 h
  obtain ⟨a5, h⟩ := ba2 h
  obtain ⟨a6, a7⟩ := ba2 h
  have e := of_decide_eq_true a1
  subst e
  have e := of_decide_eq_true a2
  subst e
  exact s_lrg1 c.calm (c.gl' a3) (c.bl _ (by decide +kernel)) (c.gl' a4) (c.bl _ (by decide +kernel)) (I.e _ _ _ c _ _ a6) a5 (star_cons a7)
theorem ck_lrg2 (I : Snd G cal kk N n) (c : Ctx G cal kk N cf sc X) {y z : Str} {p p1 p2 p3 : Pos} {b d : Expr} {e e' : E}
    (h : ch G N (n + 1) cf sc false (.lrg [e, e']) (.Call (.Name y p) [.Call (.Name z p1) [b, d] [] p2] [] p3) = true) : PE X (.Call (.Name y p) [.Call (.Name z p1) [b, d] [] p2] [] p3) (TEv X.K G cal (.lrg [e, e'])) := by
  obtain ⟨a1, h⟩ := ba2 (show (decide (y = ("list" : Str)) && _) = true from h)
  obtain ⟨a2, h⟩ := ba2 h
  obtain ⟨a3, h⟩ := ba2 h
  obtain ⟨a4, h⟩ := ba2 h
  obtain ⟨a5, h⟩ := ba2 h
  obtain ⟨a6, h⟩ := ba2 h
  obtain ⟨a7, h⟩ := ba2 h
  obtain ⟨a8, h⟩ := ba2 h
  obtain ⟨a9, a10⟩ := ba2 h
  have e := of_decide_eq_true a1
  subst e
  have e := of_decide_eq_true a2
  subst e
  exact s_lrg2 c.calm (c.gl' a3) (c.bl _ (by decide +kernel)) (c.gl' a4) (c.bl _ (by decide +kernel)) (I.e _ _ _ c _ _ a7) (I.e _ _ _ c _ _ a8) a5 a6 (star_cons a9) (star_cons a10) (star_any (by rw [List.all_cons, a10]; rfl))
theorem ck_jn (I : Snd G cal kk N n) (c : Ctx G cal kk N cf sc X) {o b : Expr} {nm : Str} {ap p2 : Pos} {a e : E}
    (h : ch G N (n + 1) cf sc false (.jn a e) (.Call (.Attribute o nm ap) [b] [] p2) = true) : PE X (.Call (.Attribute o nm ap) [b] [] p2) (TEv X.K G cal (.jn a e)) := by
  obtain ⟨a1, h⟩ := ba2 (show (decide (nm = ("join" : Str)) && _) = true from h)
  obtain ⟨a2, h⟩ := ba2 h
  obtain ⟨a3, h⟩ := ba2 h
  obtain ⟨a4, h⟩ := ba2 h
  obtain ⟨a5, h⟩ := ba2 h
  obtain ⟨a6, a7⟩ := ba2 h
  have e := of_decide_eq_true a1
  subst e
  exact s_jn (I.e _ _ _ c _ _ a3) (I.e _ _ _ c _ _ a4) a2 (star_cons a5) (base_ok a7) a6
theorem ck_bm (I : Snd G cal kk N n) (c : Ctx G cal kk N cf sc X) {o : Expr} {nm : Str} {ap p2 : Pos} {xs : List Expr} {eo : E} {m : Bm} {es : List E}
    (h : ch G N (n + 1) cf sc false (.bm eo m es) (.Call (.Attribute o nm ap) xs [] p2) = true) : PE X (.Call (.Attribute o nm ap) xs [] p2) (TEv X.K G cal (.bm eo m es)) := by
  obtain ⟨a1, h⟩ := ba2 (show (muOk m es && _) = true from h)
  obtain ⟨a2, h⟩ := ba2 h
  obtain ⟨a3, h⟩ := ba2 h
  obtain ⟨a4, h⟩ := ba2 h
  obtain ⟨a5, h⟩ := ba2 h
  obtain ⟨a6, a7⟩ := ba2 h
  obtain ⟨b1, b2⟩ := ba2 a4
  have e := of_decide_eq_true a2
  subst e
  cases xs with
  | nil =>
    cases es with
    | nil => exact s_mu0 a1 (I.e _ _ _ c _ _ a3) (base_ok a7) a6
    | cons _ _ => cases b1
  | cons x xs =>
    have hb := b2
    rw [List.all_cons] at hb
    exact s_mu a1 (I.e _ _ _ c _ _ a3) (I.args c _ _ b1 b2) (base_ok a7) (few_ok b2 (of_decide_eq_true a5)) a6 (star_cons (ba2 hb).1) (star_any (ba2 hb).2)
theorem ck_po (I : Snd G cal kk N n) (c : Ctx G cal kk N cf sc X) {es : List E} {o : Option Expr} (h : (match es, o with
          | [], none => true
          | [e], some y => noPk e && ch G N n cf sc false e y
          | _, _ => false) = true) : PoV X G cal o es := by
  split at h
  · exact .none
  · obtain ⟨h1, h2⟩ := ba2 h
    exact .some (I.e _ _ _ c _ _ h2) h1
  · cases h
theorem snd_e (I : Snd G cal kk N n) (c : Ctx G cal kk N cf sc X) (e : E) (x : Expr) (h : ch G N (n + 1) cf sc false e x = true) : PE X x (TEv X.K G cal e) := by
  cases e with
  | sl i => cases x with
    | Name y p => exact s_sl (c.var h)
    | _ => cases h
  | pk i => cases x with
    | Name y p => exact s_pk (c.var h)
    | _ => cases h
  | gl z => cases x with
    | Name y p =>
      obtain ⟨a1, h⟩ := ba2 (show (decide (y = (z : Str)) && _) = true from h)
      obtain ⟨a2, h⟩ := ba2 h
      obtain ⟨a3, a4⟩ := ba2 h
      have e := of_decide_eq_true a1
      subst e
      cases hd : G.consts.lookup z with
      | none =>
        have : (G.consts.lookup z).isSome = true := a4
        rw [hd] at this; cases this
      | some d =>
        obtain ⟨v, u, m1, m2, r⟩ := c.gl z d hd
        exact s_const (e := .gl z) (pe_glob (c.gl' a2) m1 m2 (nmOk_ok a3).1) (fun s => by simp only [evE, hd]; rfl) rfl rfl r.nil
    | _ => cases h
  | int i => cases x with
    | Constant k j p => cases k with
      | int j =>
        have e : i = j := by simpa using (show (i == j) = true from h)
        subst e
        exact s_const (e := .int i) pe_int (fun s => by simp only [evE]) rfl rfl fun _ _ _ => .int i
      | _ => cases h
    | _ => cases h
  | str s => cases x with
    | Constant k j p => cases k with
      | str y =>
        obtain ⟨a1, a2⟩ := ba2 (show (decide (y = ⟨s.toArray⟩) && strOk s) = true from h)
        have e := of_decide_eq_true a1
        subst e
        exact s_const (e := .str s) pe_str (fun _ => by simp only [evE]) rfl rfl fun _ _ _ => .str s a2
      | _ => cases h
    | _ => cases h
  | bl b => cases x with
    | Constant k j p => cases k with
      | bool d =>
        have e : b = d := by simpa using (show (b == d) = true from h)
        subst e
        exact s_const (e := .bl b) pe_bl (fun s => by simp only [evE]) rfl rfl fun _ _ _ => .bl b
      | _ => cases h
    | _ => cases h
  | non => cases x with
    | Constant k j p => cases k with
      | none => exact s_const (e := .non) pe_non (fun s => by simp only [evE]) rfl rfl fun _ _ _ => .non
      | _ => cases h
    | _ => cases h
  | tup es => cases x with
    | Tuple xs k p =>
      obtain ⟨a1, h⟩ := ba2 (show (es.all noPk && (decide (xs.length ≤ 1000) && (allP (ch G N n cf sc false) es xs && xs.all noStar))) = true from h)
      obtain ⟨a2, h⟩ := ba2 h
      obtain ⟨a3, a4⟩ := ba2 h
      exact s_tup (I.args c es xs a3 a4) a1 (of_decide_eq_true a2) (allP_len a3).symm
    | _ => cases h
  | lst es => cases x with
    | List xs p =>
      obtain ⟨a1, h⟩ := ba2 (show (es.all noPk && (decide (xs.length ≤ 1000) && (allP (ch G N n cf sc false) es xs && xs.all noStar))) = true from h)
      obtain ⟨a2, h⟩ := ba2 h
      obtain ⟨a3, a4⟩ := ba2 h
      exact s_lst (I.args c es xs a3 a4) a1 (of_decide_eq_true a2) (allP_len a3).symm
    | _ => cases h
  | shr e =>
    obtain ⟨a1, a2⟩ := ba2 (show (fresh e && ch G N n cf sc false e x) = true from h)
    exact s_shr (I.e _ _ _ c _ _ a2) a1
  | bin o a b => cases x with
    | BinOp l op r p =>
      obtain ⟨a1, h⟩ := ba2 (show (decide (op = boP o) && (ch G N n cf sc false a l && ch G N n cf sc false b r)) = true from h)
      obtain ⟨a2, a3⟩ := ba2 h
      have e := of_decide_eq_true a1
      subst e
      exact s_bin (I.e _ _ _ c _ _ a2) (I.e _ _ _ c _ _ a3)
    | _ => cases h
  | neg a => cases x with
    | UnaryOp op l p => cases op with
      | USub =>
        obtain ⟨a1, a2⟩ := ba2 (show (noPk a && ch G N n cf sc false a l) = true from h)
        exact s_neg (I.e _ _ _ c _ _ a2) a1
      | _ => cases h
    | _ => cases h
  | cmp o a b => cases x with
    | Compare l ops rs p => 
      match ops, rs, h with
      | [op], [r], h =>
        obtain ⟨a1, h⟩ := ba2 (show (decide (op = coP o) && (!behindInMarks (coP o) r && (ch G N n cf sc false a l && ch G N n cf sc false b r))) = true from h)
        obtain ⟨a2, h⟩ := ba2 h
        obtain ⟨a3, a4⟩ := ba2 h
        have e := of_decide_eq_true a1
        subst e
        exact s_cmp c.un65 (I.e _ _ _ c _ _ a3) (I.e _ _ _ c _ _ a4) (by simpa using a2)
      | [], _, h => cases h
      | _ :: _ :: _, _, h => cases h
      | [_], [], h => cases h
      | [_], _ :: _ :: _, h => cases h
    | _ => cases h
  | cmp2 o p a b d => cases x with
    | Compare l ops rs ps =>
      match ops, rs, h with
      | [op, op'], [r, r'], h =>
        obtain ⟨a1, h⟩ := ba2 (show (decide (op = coP o) && (decide (op' = coP p) && (!lastMarks [coP o, coP p] [r, r'] && (ch G N n cf sc false a l && (ch G N n cf sc false b r && ch G N n cf sc false d r'))))) = true from h)
        obtain ⟨a0, h⟩ := ba2 h
        obtain ⟨a2, h⟩ := ba2 h
        obtain ⟨a3, h⟩ := ba2 h
        obtain ⟨a4, a5⟩ := ba2 h
        have e := of_decide_eq_true a1
        subst e
        have e := of_decide_eq_true a0
        subst e
        exact s_cmp2 c.un65 (I.e _ _ _ c _ _ a3) (I.e _ _ _ c _ _ a4) (I.e _ _ _ c _ _ a5) (by simpa using a2)
      | [], _, h => cases h
      | [_], _, h => cases h
      | _ :: _ :: _ :: _, _, h => cases h
      | [_, _], [], h => cases h
      | [_, _], [_], h => cases h
      | [_, _], _ :: _ :: _ :: _, h => cases h
    | _ => cases h
  | and a b => cases x with
    | BoolOp op vs p => 
      match op, vs, h with
      | .And, y :: z :: rest, h =>
        obtain ⟨a1, h⟩ := ba2 (show (noPk a && (noPk b && (ch G N n cf sc false a y && (if rest.isEmpty then ch G N n cf sc false b z else ch G N n cf sc false b (.BoolOp .And (z :: rest) p))))) = true from h)
        obtain ⟨a2, h⟩ := ba2 h
        obtain ⟨a3, a4⟩ := ba2 h
        refine s_and a1 a2 (I.e _ _ _ c _ _ a3) ?_
        cases rest with
        | nil => exact pe_one (I.e _ _ _ c _ _ a4)
        | cons _ _ => exact I.e _ _ _ c _ _ a4
      | .And, [], h => cases h
      | .And, [_], h => cases h
      | .Or, _, h => cases h
    | _ => cases h
  | or a b => cases x with
    | BoolOp op vs p =>
      match op, vs, h with
      | .Or, y :: z :: rest, h =>
        obtain ⟨a1, h⟩ := ba2 (show (noPk a && (noPk b && (ch G N n cf sc false a y && (if rest.isEmpty then ch G N n cf sc false b z else ch G N n cf sc false b (.BoolOp .Or (z :: rest) p))))) = true from h)
        obtain ⟨a2, h⟩ := ba2 h
        obtain ⟨a3, a4⟩ := ba2 h
        refine s_or a1 a2 (I.e _ _ _ c _ _ a3) ?_
        cases rest with
        | nil => exact pe_one (I.e _ _ _ c _ _ a4)
        | cons _ _ => exact I.e _ _ _ c _ _ a4
      | .Or, [], h => cases h
      | .Or, [_], h => cases h
      | .And, _, h => cases h
    | _ => cases h
  | not a => cases x with
    | UnaryOp op l p => cases op with
      | Not => exact s_not (I.e _ _ _ c _ _ h)
      | _ => cases h
    | _ => cases h
  | ife t a b => cases x with
    | IfExp t' a' b' p =>
      obtain ⟨a1, h⟩ := ba2 (show (ch G N n cf sc true t t' && (noPk a && (noPk b && (ch G N n cf sc false a a' && ch G N n cf sc false b b')))) = true from h)
      obtain ⟨a2, h⟩ := ba2 h
      obtain ⟨a3, h⟩ := ba2 h
      obtain ⟨a4, a5⟩ := ba2 h
      exact s_ife (I.t _ _ _ c _ _ a1).1 (I.e _ _ _ c _ _ a4) (I.e _ _ _ c _ _ a5) a2 a3
    | _ => cases h
  | call f es ks kes => cases x with
    | Call fe xs kws p => cases fe with
      | Name y p1 => cases kws with
        | nil => exact ck_call I c h
        | cons _ _ => exact ck_callK I c h
      | _ => cases h
    | _ => cases h
  | bi f es => cases x with
    | Call fe xs kws p => cases fe with
      | Name y p1 => cases xs with
        | nil => cases h
        | cons x xs => cases kws with
          | nil => exact ck_bi I c h
          | cons _ _ => cases h
      | _ => cases h
    | _ => cases h
  | bm o m es => cases x with
    | Call fe xs kws p => cases fe with
      | Attribute o' nm ap => cases kws with
        | nil => exact ck_bm I c h
        | cons _ _ => cases h
      | _ => cases h
    | _ => cases h
  | ix o k => cases x with
    | Subscript o' k' p =>
      obtain ⟨a1, h⟩ := ba2 (show (notSlice k' && (noPk k && (ch G N n cf sc false o o' && ch G N n cf sc false k k'))) = true from by
        cases k' <;> exact h)
      obtain ⟨a2, h⟩ := ba2 h
      obtain ⟨a3, a4⟩ := ba2 h
      exact s_ix (I.e _ _ _ c _ _ a3) (I.e _ _ _ c _ _ a4) a2 (ix_ok a1)
    | _ => cases h
  | slc o lo hi => cases x with
    | Subscript o' k' p => cases k' with
      | Slice lo' hi' st p2 => cases st with
        | none =>
          obtain ⟨a1, h⟩ := ba2 (show (ch G N n cf sc false o o' && _) = true from h)
          obtain ⟨a2, a3⟩ := ba2 h
          exact s_slc (I.e _ _ _ c _ _ a1) (ck_po I c a2) (ck_po I c a3)
        | some _ => cases h
      | _ => cases h
    | _ => cases h
  | rev o => cases x with
    | Subscript o' k' p =>
      cases k' with
      | Slice lo hi st p2 => cases lo with
        | none => cases hi with
          | none => cases st with
            | some st =>
              obtain ⟨a1, a2⟩ := ba2 (show (isM1 st && ch G N n cf sc false o o') = true from h)
              obtain ⟨k, p1, p3, rfl⟩ := isM1_ok a1
              exact s_rev (I.e _ _ _ c _ _ a2)
            | none => cases h
          | some _ => cases h
        | some _ => cases h
      | _ => cases h
    | _ => cases h
  | comp elt t k es cnd wp => cases x with
    | ListComp elt' gens scope p => cases gens with
      | nil => cases h
      | cons g gs => cases gs with
        | nil =>
          obtain ⟨tg, it, ifs, asn⟩ := g
          obtain ⟨a1, a2⟩ := ba2 (show (decide (asn = 0) && _) = true from h)
          have e := of_decide_eq_true a1
          subst e
          exact (ck_comp I c h).pe c
        | cons _ _ =>
          obtain ⟨tg, it, ifs, asn⟩ := g
          cases h
    | _ => cases h
  | bad => exact s_bad fun s => by rw [evE]
  | dk0 =>
    match x, h with
    | .Dict [] [] p, h => exact s_dk0
  | dk1 k e =>
    match x, h with
    | .Dict [some (.Constant (.str y) kk p1)] [v] p, h =>
      obtain ⟨a1, h⟩ := ba2 (show (decide (y = ⟨k.toArray⟩) && (strOk k && (noPk e && ch G N n cf sc false e v))) = true from h)
      obtain ⟨a2, h⟩ := ba2 h
      obtain ⟨a3, a4⟩ := ba2 h
      have e1 := of_decide_eq_true a1
      subst e1
      exact s_dk1 a2 a3 (I.e _ _ _ c _ _ a4)
  | nil ng tp a =>
    match x, h with
    | .Compare l [op] [r] p, h =>
      obtain ⟨a1, h⟩ := ba2 (show (decide (op = nilO ng) && (emp tp r && (!behindInMarks (nilO ng) r && ch G N n cf sc false a l))) = true from h)
      obtain ⟨a2, h⟩ := ba2 h
      obtain ⟨a3, a4⟩ := ba2 h
      have e := of_decide_eq_true a1
      subst e
      exact s_nilE c.un65 (I.e _ _ _ c _ _ a4) a2 (by simpa using a3)
  | jn a e =>
    match x, h with
    | .Call (.Attribute o nm ap) [b] [] p2, h => exact ck_jn I c h
  | tx f a e =>
    match x, h with
    | .Call (.Attribute o nm ap) [b] [] p2, h => exact ck_tx I c h
  | fst es =>
    match x, h with
    | .JoinedStr (v1 :: v2 :: rest) p, h => exact s_fst (fstP_ok I c h)
  | mxd a k =>
    match x, h with
    | .Call (.Name y p) [b] [⟨some kn, .Constant (.int j) i vp, kp⟩] p2, h => exact ck_mxd I c h
  | lrg es =>
    match es, x, h with
    | [e], .Call (.Name y p) [.Call (.Name z p1) [b] [] p2] [] p3, h => exact ck_lrg1 I c h
    | [e, e'], .Call (.Name y p) [.Call (.Name z p1) [b, d] [] p2] [] p3, h => exact ck_lrg2 I c h
  | low a =>
    match x, h with
    | .Call (.Attribute o nm ap) [] [] p2, h => exact ck_low I c h
  | stp a e =>
    match x, h with
    | .Call (.Attribute o nm ap) [b] [] p2, h => exact ck_stp I c h
  | upr a =>
    match x, h with
    | .Call (.Attribute o nm ap) [] [] p2, h => exact ck_upr I c h
  | sst a =>
    match x, h with
    | .Call (.Name y p) [.Call (.Name z p1) [b] [] p2] [] p3, h => exact ck_sst I c h
  | trg a =>
    match x, h with
    | .Call (.Name y p) [.Call (.Name z p1) [b] [] p2] [] p3, h => exact ck_trg I c h
  | fld o f =>
    match x, h with
    | .Attribute o' nm p, h =>
      obtain ⟨a1, h⟩ := ba2 (show (decide (nm = (f : Str)) && (noPk o && (ch G N n cf sc false o o' && noSup o'))) = true from h)
      obtain ⟨a2, h⟩ := ba2 h
      obtain ⟨a3, a4⟩ := ba2 h
      have e1 := of_decide_eq_true a1
      subst e1
      exact s_fld c.cl a2 (I.e _ _ _ c _ _ a3) (sup_ok a4)
  | isi e cs =>
    match cs, x, h with
    | [cl], .Call (.Name y p) [a, .Name z p1] [] p2, h => exact ck_isi I c h
  | _ => cases h
theorem snd_t (I : Snd G cal kk N n) (c : Ctx G cal kk N cf sc X) (e : E) (x : Expr) (h : ch G N (n + 1) cf sc true e x = true) : PT X x (TTv X.K G cal e) ∧ (isBO x = true → PW X x (TTv X.K G cal e)) := by
  have gen : ∀ (hb : byVal e = true) (hx : (plainTest x && (byVal e && ch G N n cf sc false e x)) = true), PT X x (TTv X.K G cal e) ∧ (isBO x = true → PW X x (TTv X.K G cal e)) := fun hb hx => by
    obtain ⟨a1, hx⟩ := ba2 hx
    obtain ⟨a2, a3⟩ := ba2 hx
    exact ⟨s_ttru hb (I.e _ _ _ c _ _ a3) (test_ok a1), fun z => by cases x <;> first | (cases z; done) | (cases a1)⟩
  cases e with
  | nil ng tp a =>
    match x, h with
    | .Compare l [op] [r] p, h =>
      obtain ⟨a1, h⟩ := ba2 (show (decide (op = nilO ng) && (emp tp r && (!behindInMarks (nilO ng) r && ch G N n cf sc false a l))) = true from h)
      obtain ⟨a2, h⟩ := ba2 h
      obtain ⟨a3, a4⟩ := ba2 h
      have e := of_decide_eq_true a1
      subst e
      exact ⟨s_nilT c.un65 (I.e _ _ _ c _ _ a4) a2 (by simpa using a3), nofun⟩
  | bad => exact ⟨⟨fun pins s σ H Q I q => by
      obtain ⟨ρ, F, s, d, s', S, hv, k⟩ := q
      rw [evT_bad] at hv
      cases hv⟩, fun _ => ⟨fun w pins s σ H Q I q => by
      obtain ⟨ρ, F, s, d, s', S, hv, k⟩ := q
      rw [evT_bad] at hv
      cases hv⟩⟩
  | not a => cases x with
    | UnaryOp op l p => cases op with
      | Not => exact ⟨s_tnot (I.t _ _ _ c _ _ h).1, nofun⟩
      | _ => cases h
    | _ => cases h
  | and a b => cases x with
    | BoolOp op vs p =>
      match op, vs, h with
      | .And, y :: z :: rest, h =>
        obtain ⟨a3, a4⟩ := ba2 (show (ch G N n cf sc true a y && (if rest.isEmpty then ch G N n cf sc true b z else ch G N n cf sc true b (.BoolOp .And (z :: rest) p))) = true from h)
        have hw : PW X (.BoolOp .And (z :: rest) p) (TTv X.K G cal b) := by
          cases rest with
          | nil => exact pw_and1 (I.t _ _ _ c _ _ a4).1
          | cons _ _ => exact (I.t _ _ _ c _ _ a4).2 rfl
        have r := s_tand (I.t _ _ _ c _ _ a3).1 hw
        exact ⟨r.pt, fun _ => r⟩
      | .And, [], h => cases h
      | .And, [_], h => cases h
      | .Or, _, h => cases h
    | _ => cases h
  | or a b => cases x with
    | BoolOp op vs p =>
      match op, vs, h with
      | .Or, y :: z :: rest, h =>
        obtain ⟨a3, a4⟩ := ba2 (show (ch G N n cf sc true a y && (if rest.isEmpty then ch G N n cf sc true b z else ch G N n cf sc true b (.BoolOp .Or (z :: rest) p))) = true from h)
        have hw : PW X (.BoolOp .Or (z :: rest) p) (TTv X.K G cal b) := by
          cases rest with
          | nil => exact pw_or1 (I.t _ _ _ c _ _ a4).1
          | cons _ _ => exact (I.t _ _ _ c _ _ a4).2 rfl
        have r := s_tor (I.t _ _ _ c _ _ a3).1 hw
        exact ⟨r.pt, fun _ => r⟩
      | .Or, [], h => cases h
      | .Or, [_], h => cases h
      | .And, _, h => cases h
    | _ => cases h
  | ife _ _ _ => cases h
  | cmp o a b => cases x with
    | Compare l ops rs p =>
      match ops, rs, h with
      | [op], [r], h =>
        obtain ⟨a1, h⟩ := ba2 (show (decide (op = coP o) && (!behindInMarks (coP o) r && (ch G N n cf sc false a l && ch G N n cf sc false b r))) = true from h)
        obtain ⟨a2, h⟩ := ba2 h
        obtain ⟨a3, a4⟩ := ba2 h
        have e := of_decide_eq_true a1
        subst e
        exact ⟨s_tcmp c.un65 (I.e _ _ _ c _ _ a3) (I.e _ _ _ c _ _ a4) (by simpa using a2), nofun⟩
      | [], _, h => cases h
      | _ :: _ :: _, _, h => cases h
      | [_], [], h => cases h
      | [_], _ :: _ :: _, h => cases h
    | _ => cases h
  | cmp2 o p a b d => cases x with
    | Compare l ops rs ps =>
      match ops, rs, h with
      | [op, op'], [r, r'], h =>
        obtain ⟨a1, h⟩ := ba2 (show (decide (op = coP o) && (decide (op' = coP p) && (!lastMarks [coP o, coP p] [r, r'] && (ch G N n cf sc false a l && (ch G N n cf sc false b r && ch G N n cf sc false d r'))))) = true from h)
        obtain ⟨a0, h⟩ := ba2 h
        obtain ⟨a2, h⟩ := ba2 h
        obtain ⟨a3, h⟩ := ba2 h
        obtain ⟨a4, a5⟩ := ba2 h
        have e := of_decide_eq_true a1
        subst e
        have e := of_decide_eq_true a0
        subst e
        exact ⟨s_tcmp2 c.un65 (I.e _ _ _ c _ _ a3) (I.e _ _ _ c _ _ a4) (I.e _ _ _ c _ _ a5) (by simpa using a2), nofun⟩
      | [], _, h => cases h
      | [_], _, h => cases h
      | _ :: _ :: _ :: _, _, h => cases h
      | [_, _], [], h => cases h
      | [_, _], [_], h => cases h
      | [_, _], _ :: _ :: _ :: _, h => cases h
    | _ => cases h
  | _ => exact gen rfl h
theorem snd (G : Tab) (cal : Cal) (kk : Nat) (N : List Str) : ∀ n, Snd G cal kk N n := by
  intro n
  induction n with
  | zero => exact ⟨fun _ _ _ _ _ _ h => (by cases h), fun _ _ _ _ _ _ h => (by cases h)⟩
  | succ n I => exact ⟨fun cf sc X c e x h => snd_e I c e x h, fun cf sc X c e x h => snd_t I c e x h⟩
end
end Tw
end

section
set_option linter.all false
set_option autoImplicit false
set_option maxRecDepth 100000
set_option maxHeartbeats 8000000
/-! The check of statements. -/
namespace Tw
open PySem L2 PyProof.Rows
def isStar : Expr → Bool
  | .Starred .. => true
  | _ => false
/-- what swappedStores asks of the values -/
def swpV (vs : List Expr) : Bool := vs.all noStar && (!(vs.all (foldedForSure 8)) && !(vs.all (constantsAlone 8)))
section
variable {env : Env}
theorem swp_no {tg v : Expr} (h : (match v with | .Tuple _ _ _ => false | _ => true) = true) : swappedStores [tg] v env = pure none := by
  cases v <;> first | (cases h; done) | (unfold swappedStores; cases tg <;> rfl)
theorem swp_sub {o i v : Expr} {p : Pos} : swappedStores [.Subscript o i p] v env = pure none := by
  unfold swappedStores
  cases v <;> rfl
/-- plain local names on one line -/
def spNames (sc : Scope) (line : Nat) (ys : List Expr) : List Str := ys.filterMap fun
    | .Name id pos => if sc.names.lookup id == some .local && pos.line == line then some id else none
    | _ => none
theorem swp_few {ys vs : List Expr} {k k2 : Nat} {p p2 : Pos} (h : (spNames env.scope ((ys.head?.map (·.pos.line)).getD 0) ys).length ≠ ys.length) : swappedStores [.Tuple ys k p] (.Tuple vs k2 p2) env = pure none := by
  unfold swappedStores
  simp only
  split
  · rfl
  · split
    · rfl
    · split
      · rfl
      · rename_i hh
        exfalso
        simp only [Bool.or_eq_true, not_or] at hh
        have h1 := hh.1
        apply h
        have e : (spNames env.scope ((ys.head?.map (·.pos.line)).getD 0) ys).length = ys.length := by
          have := h1
          simp only [bne_iff_ne, ne_eq, Decidable.not_not] at this
          exact this
        exact e
theorem swp_yes {ys vs : List Expr} {k k2 : Nat} {p p2 : Pos} {names : List Str} (hk : env.scope.kind = .function) (hl : (ys.length == 2 || ys.length == 3) = true) (hv : (vs.length == ys.length) = true)
    (hn : spNames env.scope ((ys.head?.map (·.pos.line)).getD 0) ys = names) (hnl : (names.length == ys.length) = true) (hd : (names.eraseDups.length == names.length) = true) (h : swpV vs = true) :
    swappedStores [.Tuple ys k p] (.Tuple vs k2 p2) env = pure (some names) := by
  obtain ⟨h1, h⟩ := ba2 h
  obtain ⟨h2, h3⟩ := ba2 h
  have hb : (env.blockKind != .function) = false := by
    unfold Env.blockKind
    rw [hk]
    rfl
  have e1 : (vs.length != ys.length) = false := by simpa [bne] using hv
  have h2 : vs.all (foldedForSure 8) = false := by simpa using h2
  have h3 : vs.all (constantsAlone 8) = false := by simpa using h3
  unfold swappedStores
  simp only
  rw [hl, hb, e1, if_neg (by decide)]
  split
  · rename_i hs
    exfalso
    rw [List.any_eq_true] at hs
    obtain ⟨x, hx, hs⟩ := hs
    have := List.all_eq_true.mp h1 x hx
    cases x <;> first | (cases this; done) | (cases hs; done)
  · split
    · rename_i hh
      exfalso
      rw [Bool.or_eq_true] at hh
      rcases hh with hh | hh
      · have e : (names.length != ys.length) = true := by rw [← hn]; exact hh
        rw [show (names.length != ys.length) = false by simpa [bne] using hnl] at e
        cases e
      · have e : (names.eraseDups.length != names.length) = true := by rw [← hn]; exact hh
        rw [show (names.eraseDups.length != names.length) = false by simpa [bne] using hd] at e
        cases e
    · rw [h2, if_neg (by decide), h3, if_neg (by decide)]
      rw [← hn]
      rfl
theorem swp_fold {ys vs : List Expr} {k k2 : Nat} {p p2 : Pos} (h : vs.all (foldedForSure 8) = true) : swappedStores [.Tuple ys k p] (.Tuple vs k2 p2) env = pure none := by
  unfold swappedStores
  simp only
  split
  · rfl
  · split
    · rfl
    · split
      · rfl
      · first | rfl | rw [if_pos h]
/-- [x := comp] on one line swaps -/
def swB (sc : Scope) (y : Str) (p : Pos) : Expr → Bool
  | .ListComp _ _ s vp => locK sc y && ((p.line == vp.line) && !(s.names.any fun (n, k) => n == y && (k == .local || k == .cell)))
  | _ => false
theorem swB_yes {elt : Expr} {gs : List Comprehension} {s : Scope} {vp p : Pos} {y : Str} {l : Nat} (hk : env.scope.kind = .function) (h : swB env.scope y p (.ListComp elt gs s vp) = true) : swapsWith (.ListComp elt gs s vp) (some (.Name y p)) l env = pure true := by
  obtain ⟨h1, h⟩ := ba2 h
  obtain ⟨h2, h3⟩ := ba2 h
  exact sw_true hk (locK_ok h1) h2 (by simpa using h3)
theorem swB_no {elt : Expr} {gs : List Comprehension} {s : Scope} {vp p : Pos} {y : Str} {l : Nat} (hk : env.scope.kind = .function) (h : swB env.scope y p (.ListComp elt gs s vp) = false) : swapsWith (.ListComp elt gs s vp) (some (.Name y p)) l env = pure false := by
  have hb : env.blockKind = .function := by unfold Env.blockKind; rw [hk]; rfl
  have e : (env.kindOf y == some .local) = locK env.scope y := by
    show (env.scope.names.lookup y == some .local) = _
    unfold locK
    cases q : env.scope.names.lookup y with
    | none => rfl
    | some k => cases k <;> rfl
  unfold swapsWith
  simp only [hb, Expr.pos]
  have h : (locK env.scope y && ((p.line == vp.line) && !(s.names.any fun (n, k) => n == y && (k == .local || k == .cell)))) = false := h
  rw [e]
  have e2 : (ScopeKind.function == ScopeKind.function && locK env.scope y && p.line == vp.line && !(s.names.any fun (n, k) => n == y && (k == .local || k == .cell))) = false := by
    rw [show (ScopeKind.function == ScopeKind.function) = true from rfl, Bool.true_and, Bool.and_assoc]
    exact h
  rw [e2]
theorem sw_plain {v : Expr} {t : Option Expr} {l : Nat} (h : notComp v = true) : swapsWith v t l env = pure false := by
  cases v <;> first | rfl | cases h
theorem sw_tuple {v : Expr} {ys : List Expr} {k : Nat} {p : Pos} {l : Nat} : swapsWithSole [.Tuple ys k p] v l env = pure false := by
  cases v <;> rfl
theorem sw_att {v o : Expr} {f : Str} {p : Pos} {l : Nat} : swapsWith v (some (.Attribute o f p)) l env = pure false := by
  cases v <;> rfl
theorem sw_sub {v o i : Expr} {p : Pos} {l : Nat} : swapsWithSole [.Subscript o i p] v l env = pure false := by
  cases v <;> rfl
end
def isDoc : Stmt → Bool
  | .Expr (.Constant (.str _) _ _) _ => true
  | _ => false
def allS (f : S → Stmt → Bool) : List Stmt → List S → Bool
  | [], cs => cs.isEmpty
  | x :: xs, cs => if isDoc x then allS f xs cs else (match cs with | c :: cs => f c x && allS f xs cs | [] => false)
def isList : Expr → Bool
  | .ListComp _ [⟨_, _, _, _⟩] _ _ => true
  | _ => false
def isCompE : E → Bool
  | .comp _ _ _ _ _ _ => true
  | _ => false
/-- the check of what is gone over -/
def chIt (rec_ : E → Expr → Bool) (sc : Scope) (k : Ik) (es : List E) (tg it : Expr) : Bool := notSet it && (match k with
      | .of => (match es with
        | [e] => rec_ e it
        | _ => false)
      | .enum => (match es, it, tg with
        | [e], .Call (.Name y _) [a] [] _, .Tuple _ _ _ => decide (y = ("enumerate" : Str)) && (glb sc y && (allP rec_ [e] [a] && [a].all noStar))
        | _, _, _ => false)
      | .zip => (match es, it, tg with
        | [e, e'], .Call (.Name y _) [a, b] [] _, .Tuple _ _ _ => decide (y = ("zip" : Str)) && (glb sc y && (allP rec_ [e, e'] [a, b] && [a, b].all noStar))
        | _, _, _ => false)
      | .zips => (match es, it, tg with
        | [e, e'], .Call (.Name y _) [a, b] [⟨some kn, .Constant (.bool true) _ _, _⟩] _, .Tuple _ _ _ => decide (y = ("zip" : Str)) && (decide (kn = Str.ofString "strict") && (glb sc y && (allP rec_ [e, e'] [a, b] && [a, b].all noStar)))
        | _, _, _ => false)
      | .rng => (match es, it with
        | [e], .Call (.Name y _) [a] [] _ => decide (y = ("range" : Str)) && (glb sc y && (noPk e && (allP rec_ [e] [a] && [a].all noStar)))
        | [e, e'], .Call (.Name y _) [a, b] [] _ => decide (y = ("range" : Str)) && (glb sc y && (allP rec_ [e, e'] [a, b] && [a, b].all noStar))
        | [e, e', e''], .Call (.Name y _) [a, b, c] [] _ => decide (y = ("range" : Str)) && (glb sc y && (allP rec_ [e, e', e''] [a, b, c] && [a, b, c].all noStar))
        | _, _ => false)
      | _ => false)
/-- no tuple whose stores go from the right -/
def tupNo (sc : Scope) (ys : List Expr) : Expr → Bool
  | .Tuple _ _ _ => decide ((spNames sc ((ys.head?.map (·.pos.line)).getD 0) ys).length ≠ ys.length)
  | _ => true
/-- a name's slot -/
def parName (N : List Str) (sc : Scope) (p : Nat × Bool) : Expr → Bool
  | .Name z _ => decide (N[p.1]? = some z) && (locK sc z || celK sc z)
  | _ => false
def parSlots (is : List (Nat × Bool)) : List Nat := is.map (·.1)
section
variable (G : Tab) (N : List Str) (m : Nat)
/-- chS n sc c x: is c the code of the statement x? -/
def chS : Nat → Scope → S → Stmt → Bool
  | 0, _, _, _ => false
  | n + 1, sc, c, x =>
    let cf := fun _ : Str => true
    let rec_ := ch G N m cf sc false
    let nm := fun (i : Nat) (y : Str) => decide (N[i]? = some y) && (locK sc y || celK sc y)
    match c with
    | .pass => (match x with
      | .Pass _ => true
      | _ => false)
    | .brk => (match x with
      | .Break _ => true
      | _ => false)
    | .cont => (match x with
      | .Continue _ => true
      | _ => false)
    | .ex e => (match x with
      | .Expr v _ => notComp v && rec_ e v
      | _ => false)
    | .ret e => (match x with
      | .Return (some v) _ => noPk e && rec_ e v
      | _ => false)
    | .retN => (match x with
      | .Return none _ => true
      | _ => false)
    | .asg t e => (match x with
      | .Assign [tg] v _ => noPk e && (rec_ e v && (match t with
        | .nm i => (match tg with
          | .Name y _ => nm i y && (notComp v || (isList v && isCompE e))
          | _ => false)
        | .tp _ => (match tg with
          | .Tuple ys _ _ => chG N m cf sc t tg && tupNo sc ys v
          | _ => false)))
      | _ => false)
    | .own i e => (match x with
      | .Assign [.Name y _] v _ => fresh e && (rec_ e v && (nm i y && (notComp v || (isList v && isCompE e))))
      | _ => false)
    | .par is es => (match x with
      | .Assign [.Tuple ys _ _] (.Tuple vs _ _) _ => parOk is es && (allP rec_ es vs && (vs.all noStar && (if tupNo sc ys (.Tuple vs 0 ⟨0, 0, 0, 0⟩) || vs.all (foldedForSure 8) then decide (is.length ≤ 1000) && allP (parName N sc) is ys else swpV vs && (match is, ys, vs with
        | [(i, _), (j, _)], [.Name a p, .Name b q], [_, _] => decide (N[i]? = some a) && (decide (N[j]? = some b) && (decide (i ≠ j) && (locK sc a && (locK sc b && ((q.line == p.line) && ([a, b].eraseDups.length == 2))))))
        | [(i, _), (j, _), (l, _)], [.Name a p, .Name b q, .Name d r], [_, _, _] => decide (N[i]? = some a) && (decide (N[j]? = some b) && (decide (N[l]? = some d) && (decide (i ≠ j) && (decide (i ≠ l) && (decide (j ≠ l) && (locK sc a && (locK sc b && (locK sc d &&
            ((q.line == p.line) && ((r.line == p.line) && ([a, b, d].eraseDups.length == 3)))))))))))
        | _, _, _ => false))))
      | _ => false)
    | .aug i o e => (match x with
      | .AugAssign (.Name y _) op v _ => decide (op = boP o) && (nm i y && rec_ e v)
      | _ => false)
    | .setix o k e => (match x with
      | .Assign [.Subscript o' k' _] v _ => noPk e && (noPk k && (notSlice k' && (rec_ e v && (rec_ o o' && rec_ k k'))))
      | _ => false)
    | .ife e a b => (match x with
      | .If v a' b' _ => ch G N m cf sc true e v && (allS (chS n sc) a' a && allS (chS n sc) b' b)
      | _ => false)
    | .for t k es b => (match x with
      | .For tg it b' [] _ => chIt rec_ sc k es tg it && (chG N m cf sc t tg && (pkOut es (tgSlots t ++ asgB b) && allS (chS n sc) b' b))
      | _ => false)
    | .whl e b => (match x with
      | .While v b' [] _ => ch G N m cf sc true e v && allS (chS n sc) b' b
      | _ => false)
    | .setf (.pk i) f e => (match x with
      | .Assign [.Attribute (.Name y _) g _] v _ => decide (g = (f : Str)) && (noPk e && (rec_ e v && (decide (N[i]? = some y) && (vis sc y && nmOk y))))
      | _ => false)
    | .raise _ _ => true
    | _ => false
end

section
variable {G : Tab} {cal : Cal} {kk : Nat} {N : List Str} {sc : Scope} {X : Cx} {n m : Nat}
theorem Ctx.loc (c : Ctx G cal kk N (fun _ => true) sc X) {i : Nat} {y : Str} (h : (decide (N[i]? = some y) && (locK sc y || celK sc y)) = true) : X.N[i]? = some y ∧ Loc X.env.scope y ∧ (X.fn y = true ∨ X.env.scope.names.lookup y = some .local) := by
  obtain ⟨h1, h2⟩ := ba2 h
  refine ⟨by rw [c.nm]; exact of_decide_eq_true h1, ?_, .inl (by rw [c.cfn])⟩
  rw [c.scp]
  rcases Bool.or_eq_true_iff.mp h2 with h2 | h2
  · exact .inl (locK_ok h2)
  · exact .inr (celK_ok h2)
theorem Ctx.Nd (c : Ctx G cal kk N (fun _ => true) sc X) : X.N.Nodup := by rw [c.nm]; exact c.nd
/-- name = e, read as a plain store -/
theorem ck_name (c : Ctx G cal kk N (fun _ => true) sc X) {i : Nat} {y : Str} {py spos : Pos} {v : Expr} {e : E} (hn : (decide (N[i]? = some y) && (locK sc y || celK sc y)) = true) (hv : (notComp v || (isList v && isCompE e)) = true)
    (h : ch G N m (fun _ => true) sc false e v = true) : PS X (.Assign [.Name y py] v spos) (tAsg (TEv X.K G cal e) (gName i)) := by
  obtain ⟨l1, l2, l3⟩ := c.loc hn
  have he := (snd G cal kk N m).e _ _ _ c e v h
  cases hc : notComp v with
  | true => exact ps_set c.Nd l1 l2 he (sw_plain hc) l3
  | false =>
    rw [hc] at hv
    obtain ⟨hv, hce⟩ := ba2 (show (isList v && isCompE e) = true from hv)
    cases v with
    | ListComp elt gens s vp =>
      cases hs : swB X.env.scope y py (.ListComp elt gens s vp) with
      | false => exact ps_set c.Nd l1 l2 he (swB_no (by rw [c.scp]; exact c.kd) hs) l3
      | true =>
        have hl : X.env.scope.names.lookup y = some .local := locK_ok (ba2 hs).1
        cases e with
        | comp eelt t k es cnd wp =>
          cases m with
          | zero => cases h
          | succ m =>
            cases gens with
            | nil => cases hv
            | cons g gs => cases gs with
              | nil =>
                obtain ⟨tg, it, ifs, asn⟩ := g
                obtain ⟨a1, a2⟩ := ba2 (show (decide (asn = 0) && _) = true from h)
                have e := of_decide_eq_true a1
                subst e
                exact (ck_comp (snd G cal kk N m) c h).set c l1 hl (swB_yes (by rw [c.scp]; exact c.kd) hs)
              | cons _ _ =>
                obtain ⟨tg, it, ifs, asn⟩ := g
                cases hv
        | _ => cases hce
    | _ => cases hv
theorem ck_all {f : S → Stmt → Bool} (hf : ∀ c x, f c x = true → PS X x (TSt X.K G cal c)) : ∀ (xs : List Stmt) (cs : List S), allS f xs cs = true → PSs X xs (TSb X.K G cal cs)
  | [], cs, h => by
    cases cs with
    | nil => exact b_nil
    | cons _ _ => cases h
  | x :: xs, cs, h => by
    cases hd : isDoc x with
    | true =>
      have h : allS f xs cs = true := by
        have h' : (if isDoc x then allS f xs cs else _) = true := h
        rw [hd, if_pos rfl] at h'
        exact h'
      have ih := ck_all hf xs cs h
      unfold isDoc at hd
      split at hd
      · exact (pss_cons ps_doc ih).imp fun De σ H q => q
      · cases hd
    | false =>
      unfold allS at h
      rw [hd, if_neg (by decide)] at h
      cases cs with
      | nil => cases h
      | cons c cs =>
        obtain ⟨a1, a2⟩ := ba2 (show (f c x && allS f xs cs) = true from h)
        exact b_cons (hf c x a1) (ck_all hf xs cs a2)
theorem ck_par (c : Ctx G cal kk N (fun _ => true) sc X) : ∀ (is : List (Nat × Bool)) (es : List E) (vs : List Expr), parOk is es = true → allP (ch G N m (fun _ => true) sc false) es vs = true → vs.all noStar = true → PA X vs (TPv X.K G cal is es)
  | is, [], [], h, _, _ => a_nil h
  | _, [], _ :: _, _, h, _ => by cases h
  | _, _ :: _, [], _, h, _ => by cases h
  | [], _ :: _, _ :: _, h, _, _ => by cases h
  | (i, b) :: is, e :: es, v :: vs, h, h1, h2 => by
    obtain ⟨a1, a2⟩ := ba2 (show (ch G N m (fun _ => true) sc false e v && allP (ch G N m (fun _ => true) sc false) es vs) = true from h1)
    rw [List.all_cons] at h2
    obtain ⟨b1, b2⟩ := ba2 h2
    have he := (snd G cal kk N m).e _ _ _ c e v a1
    cases b with
    | false =>
      obtain ⟨d1, d2⟩ := ba2 (show (noPk e && parOk is es) = true from h)
      exact a_val d1 he (ck_par c is es vs d2 a2 b2) (star_cons b1)
    | true =>
      obtain ⟨d1, d2⟩ := ba2 (show (fresh e && parOk is es) = true from h)
      exact a_own d1 he (ck_par c is es vs d2 a2 b2) (star_cons b1)
theorem chS_ok (c : Ctx G cal kk N (fun _ => true) sc X) (hp : PassesOwn (model X.prog X.w) X.A X.env X.xe) : ∀ (n : Nat) (s : S) (x : Stmt), chS G N m n sc s x = true → PS X x (TSt X.K G cal s) := by
  intro n
  have I := snd G cal kk N m
  induction n with
  | zero => intro s x h; cases h
  | succ n ih =>
    intro s x h
    cases s with
    | raise cn es => exact ⟨fun pins s σ H D I q => by
        obtain ⟨ρ, F, s, f, s', S, hv, k⟩ := q
        rw [exS] at hv
        cases hv⟩
    | pass => cases x with
      | Pass p => exact p_pass
      | _ => cases h
    | brk => cases x with
      | Break p => exact p_brk
      | _ => cases h
    | cont => cases x with
      | Continue p => exact p_cont
      | _ => cases h
    | ex e => cases x with
      | Expr v p =>
        obtain ⟨a1, a2⟩ := ba2 (show (notComp v && ch G N m (fun _ => true) sc false e v) = true from h)
        exact p_ex (sw_plain a1) (I.e _ _ _ c _ _ a2)
      | _ => cases h
    | ret e => cases x with
      | Return o p => cases o with
        | some v =>
          obtain ⟨a1, a2⟩ := ba2 (show (noPk e && ch G N m (fun _ => true) sc false e v) = true from h)
          exact p_ret a1 (I.e _ _ _ c _ _ a2)
        | none => cases h
      | _ => cases h
    | retN => cases x with
      | Return o p => cases o with
        | none => exact p_retN
        | some _ => cases h
      | _ => cases h
    | asg t e => cases x with
      | Assign tgs v p => cases tgs with
        | nil => cases h
        | cons tg rest => cases rest with
          | cons _ _ => cases h
          | nil =>
            obtain ⟨a1, h⟩ := ba2 (show (noPk e && (ch G N m (fun _ => true) sc false e v && _)) = true from h)
            obtain ⟨a2, h⟩ := ba2 h
            cases t with
            | nm i => cases tg with
              | Name y py =>
                obtain ⟨b1, b2⟩ := ba2 (show ((decide (N[i]? = some y) && (locK sc y || celK sc y)) && (notComp v || (isList v && isCompE e))) = true from h)
                exact p_asgN a1 (ck_name c b1 b2 a2)
              | _ => cases h
            | tp ts => cases tg with
              | Tuple ys k py =>
                obtain ⟨b1, b2⟩ := ba2 (show (chG N m (fun _ => true) sc (.tp ts) (.Tuple ys k py) && tupNo sc ys v) = true from h)
                have hw : swappedStores [.Tuple ys k py] v X.env = pure none := by
                  cases v with
                  | Tuple vs k2 p2 =>
                    refine swp_few ?_
                    rw [c.scp]
                    exact of_decide_eq_true b2
                  | _ => exact swp_no rfl
                exact p_asgT a1 (I.e _ _ _ c _ _ a2) (chG_ok c m _ _ b1) sw_tuple hw (by rfl)
              | _ => cases h
      | _ => cases h
    | own i e => cases x with
      | Assign tgs v p => cases tgs with
        | nil => cases h
        | cons tg rest => cases tg with
          | Name y py => cases rest with
            | cons _ _ => cases h
            | nil =>
              obtain ⟨a1, h⟩ := ba2 (show (fresh e && (ch G N m (fun _ => true) sc false e v && ((decide (N[i]? = some y) && (locK sc y || celK sc y)) && (notComp v || (isList v && isCompE e))))) = true from h)
              obtain ⟨a2, h⟩ := ba2 h
              obtain ⟨a3, a4⟩ := ba2 h
              exact p_own a1 (ck_name c a3 a4 a2)
          | _ => cases rest <;> cases h
      | _ => cases h
    | aug i o e => cases x with
      | AugAssign tg op v p => cases tg with
        | Name y py =>
          obtain ⟨a1, h⟩ := ba2 (show (decide (op = boP o) && ((decide (N[i]? = some y) && (locK sc y || celK sc y)) && ch G N m (fun _ => true) sc false e v)) = true from h)
          obtain ⟨a2, a3⟩ := ba2 h
          have e' := of_decide_eq_true a1
          subst e'
          obtain ⟨l1, l2, l3⟩ := c.loc a2
          exact p_aug (ps_aug c.Nd l1 l2 (I.e _ _ _ c _ _ a3) op_aug l3)
        | _ => cases h
      | _ => cases h
    | setix o k e => cases x with
      | Assign tgs v p => cases tgs with
        | nil => cases h
        | cons tg rest => cases tg with
          | Subscript o' k' p2 => cases rest with
            | cons _ _ => cases h
            | nil =>
              obtain ⟨a1, h⟩ := ba2 (show (noPk e && (noPk k && (notSlice k' && (ch G N m (fun _ => true) sc false e v && (ch G N m (fun _ => true) sc false o o' && ch G N m (fun _ => true) sc false k k'))))) = true from h)
              obtain ⟨a2, h⟩ := ba2 h
              obtain ⟨a3, h⟩ := ba2 h
              obtain ⟨a4, h⟩ := ba2 h
              obtain ⟨a5, a6⟩ := ba2 h
              exact p_setix a1 a2 (I.e _ _ _ c _ _ a4) (I.e _ _ _ c _ _ a5) (I.e _ _ _ c _ _ a6) (fun w => by cases k' <;> first | rfl | cases a3) sw_sub swp_sub (by rfl)
          | _ => cases rest <;> cases h
      | _ => cases h
    | setf o f e =>
      match o, x, h with
      | .pk i, .Assign [.Attribute (.Name y p1) g p2] v p3, h =>
        obtain ⟨a1, h⟩ := ba2 (show (decide (g = (f : Str)) && (noPk e && (ch G N m (fun _ => true) sc false e v && (decide (N[i]? = some y) && (vis sc y && nmOk y))))) = true from h)
        obtain ⟨a2, h⟩ := ba2 h
        obtain ⟨a3, h⟩ := ba2 h
        obtain ⟨a4, h⟩ := ba2 h
        obtain ⟨a5, a6⟩ := ba2 h
        have e1 := of_decide_eq_true a1
        subst e1
        exact p_setf c.cl a2 (I.e _ _ _ c _ _ a3) (pe_var (by rw [c.nm]; exact of_decide_eq_true a4) (by rw [c.scp]; exact vis_ok a5) (nmOk_ok a6).1 (nmOk_ok a6).2) sw_att
    | ife e a b => cases x with
      | If v a' b' p =>
        obtain ⟨a1, h⟩ := ba2 (show (ch G N m (fun _ => true) sc true e v && (allS (chS G N m n sc) a' a && allS (chS G N m n sc) b' b)) = true from h)
        obtain ⟨a2, a3⟩ := ba2 h
        exact p_if (I.t _ _ _ c _ _ a1).1 (ck_all ih _ _ a2) (ck_all ih _ _ a3)
      | _ => cases h
    | «for» t k es b => cases x with
      | For tg it b' els p => cases els with
        | nil =>
          obtain ⟨a1, h⟩ := ba2 (show (chIt (ch G N m (fun _ => true) sc false) sc k es tg it && (chG N m (fun _ => true) sc t tg && (pkOut es (tgSlots t ++ asgB b) && allS (chS G N m n sc) b' b))) = true from h)
          obtain ⟨a2, h⟩ := ba2 h
          obtain ⟨a3, a4⟩ := ba2 h
          obtain ⟨b1, b2⟩ := ba2 a1
          exact p_for hp c.calm (ck_iter I c b2) (chG_ok c m _ _ a2) (ck_all ih _ _ a4) a3 (fold_ok b1)
        | cons _ _ => cases h
      | _ => cases h
    | whl e b => cases x with
      | While v b' els p => cases els with
        | nil =>
          obtain ⟨a1, a2⟩ := ba2 (show (ch G N m (fun _ => true) sc true e v && allS (chS G N m n sc) b' b) = true from h)
          exact p_while hp (I.t _ _ _ c _ _ a1).1 (ck_all ih _ _ a2)
        | cons _ _ => cases h
      | _ => cases h
    | par is es => cases x with
      | Assign tgs v p => cases tgs with
        | nil => cases h
        | cons tg rest => cases tg with
          | Tuple ys k p1 => cases rest with
            | cons _ _ => cases h
            | nil => cases v with
              | Tuple vs k2 p2 =>
                obtain ⟨a1, h⟩ := ba2 (show (parOk is es && (allP (ch G N m (fun _ => true) sc false) es vs && (vs.all noStar && _))) = true from h)
                obtain ⟨a2, h⟩ := ba2 h
                obtain ⟨a3, h⟩ := ba2 h
                have pa := ck_par c is es vs a1 a2 a3
                have hk : X.env.scope.kind = .function := by rw [c.scp]; exact c.kd
                have loc : ∀ {z : Str}, locK sc z = true → X.env.scope.names.lookup z = some .local := fun h => by rw [c.scp]; exact locK_ok h
                split at h
                · rename_i hw
                  obtain ⟨l1, l2⟩ := ba2 h
                  have key : ∀ (is : List (Nat × Bool)) (ys : List Expr), allP (parName N sc) is ys = true → PGs X ys (gAll is) ∧ ys.all noStar = true := by
                    intro is
                    induction is with
                    | nil => intro ys h; cases ys with | nil => exact ⟨pgs_nil, rfl⟩ | cons _ _ => cases h
                    | cons q is iht =>
                      intro ys h
                      cases ys with
                      | nil => cases h
                      | cons y ys =>
                        obtain ⟨d1, d2⟩ := ba2 (show (parName N sc q y && allP (parName N sc) is ys) = true from h)
                        obtain ⟨e1, e2⟩ := iht ys d2
                        cases y with
                        | Name z pz =>
                          obtain ⟨f1, f2, f3⟩ := c.loc d1
                          exact ⟨pgs_cons (pg_name c.Nd f1 f2 f3) e1 (by rfl), by rw [List.all_cons, e2]; rfl⟩
                        | _ => cases d1
                  obtain ⟨k1, k2⟩ := key is ys l2
                  obtain ⟨n1, n2⟩ := asg_len (env := X.env) k2
                  refine p_parT c.calm (of_decide_eq_true l1) pa k1 (by rw [n1, allP_len l2]) n2 sw_tuple ?_ (by rfl)
                  rcases Bool.or_eq_true_iff.mp hw with hw | hw
                  · refine swp_few ?_
                    rw [c.scp]
                    exact of_decide_eq_true hw
                  · exact swp_fold hw
                obtain ⟨a3, h⟩ := ba2 h
                split at h
                · rename_i i bi j bj za pa' zb pb' va vb _ _ _ _ _ _
                  obtain ⟨b1, h⟩ := ba2 h
                  obtain ⟨b2, h⟩ := ba2 h
                  obtain ⟨b3, h⟩ := ba2 h
                  obtain ⟨b4, h⟩ := ba2 h
                  obtain ⟨b5, h⟩ := ba2 h
                  obtain ⟨b6, b7⟩ := ba2 h
                  refine p_par2 c.calm c.Nd (by rw [c.nm]; exact of_decide_eq_true b1) (by rw [c.nm]; exact of_decide_eq_true b2) (of_decide_eq_true b3) (loc b4) (loc b5) pa (swp_yes hk (by rfl) (by rfl) ?_ (by rfl) (by simpa using b7) a3) sw_tuple
                  simp [spNames, loc b4, loc b5, Expr.pos, show pb'.line = pa'.line by simpa using b6]
                · rename_i i bi j bj l bl za pa' zb pb' zd pd' va vb vd _ _ _ _ _ _
                  obtain ⟨b1, h⟩ := ba2 h
                  obtain ⟨b2, h⟩ := ba2 h
                  obtain ⟨b0, h⟩ := ba2 h
                  obtain ⟨b3, h⟩ := ba2 h
                  obtain ⟨c1, h⟩ := ba2 h
                  obtain ⟨c2, h⟩ := ba2 h
                  obtain ⟨b4, h⟩ := ba2 h
                  obtain ⟨b5, h⟩ := ba2 h
                  obtain ⟨b8, h⟩ := ba2 h
                  obtain ⟨b6, h⟩ := ba2 h
                  obtain ⟨b9, b7⟩ := ba2 h
                  refine p_par3 c.calm c.Nd (by rw [c.nm]; exact of_decide_eq_true b1) (by rw [c.nm]; exact of_decide_eq_true b2) (by rw [c.nm]; exact of_decide_eq_true b0) (of_decide_eq_true b3) (of_decide_eq_true c1) (of_decide_eq_true c2) (loc b4) (loc b5) (loc b8) pa (swp_yes hk (by rfl) (by rfl) ?_ (by rfl) (by simpa using b7) a3) sw_tuple
                  simp [spNames, loc b4, loc b5, loc b8, Expr.pos, show pb'.line = pa'.line by simpa using b6, show pd'.line = pa'.line by simpa using b9]
                · cases h
              | _ => cases h
          | _ => cases rest <;> cases h
      | _ => cases h
    | _ => cases h
end
end Tw
end

section
set_option linter.all false
set_option autoImplicit false
set_option maxRecDepth 100000
set_option maxHeartbeats 8000000
/-! A def's body keeps the promise. -/
namespace Tw
open PySem L2 PyProof.Rows

section
variable {K : PySem.W.Frag} {ρ ρ' r : List Addr} {F : Addr → Prop} {M M' : Addr → Prop} {s s' : MS} {σ σ' : L2.St} {H H' : Hp}
theorem belows_str {n : Nat} : ∀ ks : List (List Nat), belows n (ks.map .str) = true
  | [] => rfl
  | k :: ks => by
    show (true && belows n (ks.map .str)) = true
    rw [belows_str ks]; rfl
mutual
theorem Rep.belowN : ∀ {d : D} {v : V}, Rep K ρ M H d v → below ρ.length d = true
  | _, _, .non => rfl
  | _, _, .bl _ => rfl
  | _, _, .int _ => rfl
  | _, _, .str _ _ => rfl
  | _, _, .tup _ r => Reps.belowN r
  | _, _, .tupK _ r => Reps.belowN r
  | _, _, .lst _ r => Reps.belowN r
  | _, _, .lstK _ r => Reps.belowN r
  | _, _, .dct (ks := ks) _ r _ _ => by
    show (belows _ _ && belows _ _) = true
    rw [Reps.belowN r, belows_str ks]
    rfl
  | _, _, .ref h => decide_eq_true (List.getElem?_eq_some_iff.mp h).1
  | _, _, .scr _ r => Reps.belowN r
  | _, _, .scrK _ r => Reps.belowN r
  | _, _, .obj _ _ _ r _ => Reps.belowN r
theorem Reps.belowN : ∀ {ds : List D} {vs : List V}, Reps K ρ M H ds vs → belows ρ.length ds = true
  | _, _, .nil => rfl
  | _, _, .cons r t => by
    show (Tw.below _ _ && belows _ _) = true
    rw [Rep.belowN r, Reps.belowN t]
    rfl
end
theorem Sd.less {a : Addr} {u : HO} (hm : ∀ b, M' b → M b) (h : Sd M H a u) : Sd M' H a u := ⟨h.1, fun m => h.2 (hm a m)⟩
mutual
theorem Rep.cut (e : ρ' = ρ ++ r) (hm : ∀ b, M' b → M b) : ∀ {d : D} {v : V}, Tw.below ρ.length d = true → Rep K ρ' M H d v → Rep K ρ M' H d v
  | _, _, _, .non => .non
  | _, _, _, .bl b => .bl b
  | _, _, _, .int i => .int i
  | _, _, _, .str s h => .str s h
  | _, _, b, .tup h q => .tup (h.less hm) (Reps.cutB e hm b q)
  | _, _, b, .tupK h q => .tupK h (Reps.cutB e hm b q)
  | _, _, b, .lst h q => .lst (h.less hm) (Reps.cutB e hm b q)
  | _, _, b, .lstK h q => .lstK h (Reps.cutB e hm b q)
  | _, _, b, .dct h q e1 e2 => .dct (h.less hm) (Reps.cutB e hm (ba2 (show (belows _ _ && belows _ _) = true from b)).2 q) e1 e2
  | _, _, b, .ref h => .ref (by
    subst e
    rw [List.getElem?_append_left (of_decide_eq_true b)] at h
    exact h)
  | _, _, b, .scr h q => .scr (h.less hm) (Reps.cutB e hm b q)
  | _, _, b, .scrK h q => .scrK h (Reps.cutB e hm b q)
  | _, _, b, .obj ct h n q l => .obj ct h (fun m => n (hm _ m)) (Reps.cutB e hm b q) l
theorem Reps.cutB (e : ρ' = ρ ++ r) (hm : ∀ b, M' b → M b) : ∀ {ds : List D} {vs : List V}, belows ρ.length ds = true → Reps K ρ' M H ds vs → Reps K ρ M' H ds vs
  | _, _, _, .nil => .nil
  | _, _, b, .cons q t => by
    obtain ⟨b1, b2⟩ := ba2 (show (Tw.below _ _ && belows _ _) = true from b)
    exact .cons (Rep.cut e hm b1 q) (Reps.cutB e hm b2 t)
end
theorem mapM_reps {f : D → Option D} (hf : ∀ d d' v, f d = some d' → Rep K ρ' M H d v → Rep K ρ M' H d' v) : ∀ {ds ds' : List D} {vs : List V}, ds.mapM f = some ds' → Reps K ρ' M H ds vs → Reps K ρ M' H ds' vs
  | _, ds', _, h, .nil => by
    simp at h
    subst h
    exact .nil
  | d :: ds, ds', _, h, .cons q t => by
    rw [List.mapM_cons] at h
    obtain ⟨d1, h1, h⟩ := Option.bind_eq_some_iff.mp h
    obtain ⟨ds1, h2, h⟩ := Option.bind_eq_some_iff.mp h
    cases h
    exact .cons (hf d d1 _ h1 q) (mapM_reps hf h2 t)
/-- what is told, behind the call -/
theorem frz_rep (S : Sim K ρ' F s σ H) (e : ρ' = ρ ++ r) : ∀ (k : Nat) (d d' : D) (v : V), frz ρ.length s.hp k d = some d' → Rep K ρ' (Mu ρ' F s.env σ) H d v → Rep K ρ (Mu ρ F [] []) H d' v
  | 0, _, _, _, h, _ => by cases h
  | k + 1, d, d', v, h, q => by
    have hm : ∀ b, Mu ρ F [] [] b → Mu ρ' F s.env σ b := fun b m => by
      rcases m with m | m | m
      · exact .inl (by rw [e]; exact List.mem_append_left _ m)
      · exact .inr (.inl m)
      · exact absurd m no_own
    unfold frz at h
    split at h
    · rename_i hb
      cases h
      exact q.cut e hm hb
    · rename_i hb
      cases q with
      | ref er =>
        rename_i i a
        simp only at h
        cases hO : s.hp[i]? with
        | none => rw [hO] at h; cases h
        | some ob =>
          rw [hO] at h
          cases S.hp i ob a hO er with
          | lst hH q =>
            obtain ⟨ds', h1, h2⟩ := Option.map_eq_some_iff.mp h
            subst h2
            refine .lst ⟨.inl hH, fun m => ?_⟩ (mapM_reps (fun d d' v hh qq => frz_rep S e k d d' v hh qq) h1 q)
            rcases m with m | m | m
            · have hi : ¬ i < ρ.length := fun z => hb (decide_eq_true z)
              have nd := S.rn
              rw [e] at nd er
              rw [List.getElem?_append_right (by omega)] at er
              exact (List.nodup_append.mp nd).2.2 a m a (List.mem_of_getElem? er) rfl
            · exact S.rF a (by rw [e]; rw [e] at er; exact List.mem_of_getElem? er) m
            · exact no_own m
      | tup hs q =>
        obtain ⟨ds', h1, h2⟩ := Option.map_eq_some_iff.mp h
        subst h2
        exact .tup (hs.less hm) (mapM_reps (fun d d' v hh qq => frz_rep S e k d d' v hh qq) h1 q)
      | tupK hs q =>
        obtain ⟨ds', h1, h2⟩ := Option.map_eq_some_iff.mp h
        subst h2
        exact .tupK hs (mapM_reps (fun d d' v hh qq => frz_rep S e k d d' v hh qq) h1 q)
      | lst hs q =>
        obtain ⟨ds', h1, h2⟩ := Option.map_eq_some_iff.mp h
        subst h2
        exact .lst (hs.less hm) (mapM_reps (fun d d' v hh qq => frz_rep S e k d d' v hh qq) h1 q)
      | lstK hs q =>
        obtain ⟨ds', h1, h2⟩ := Option.map_eq_some_iff.mp h
        subst h2
        exact .lstK hs (mapM_reps (fun d d' v hh qq => frz_rep S e k d d' v hh qq) h1 q)
      | _ => cases h
/-- no local owns anything -/
theorem no_ownV {ds : List D} {m : Nat} {σ : L2.St} {b : Addr} : ¬ OwnAt (ds.map .val ++ List.replicate m .non) σ b := by
  rintro ⟨i, d, e, _⟩
  by_cases h : i < (ds.map Slt.val).length
  · rw [List.getElem?_append_left h, List.getElem?_map] at e
    cases q : ds[i]? with
    | none => rw [q] at e; cases e
    | some x => rw [q] at e; cases e
  · rw [List.getElem?_append_right (by omega), List.getElem?_replicate] at e
    split at e <;> cases e
/-- the frame at its entry -/
theorem Sim.enter {N : List Str} {hp : List Ob} {bs n : Nat} {ds : List D} {vs : List V} (S : Sim K ρ F ⟨[], hp, bs⟩ [] H) (q : Reps K ρ (Mu ρ F [] []) H ds vs) (hN : vs.length ≤ N.length) (hn : n = hp.length ∨ n = bs) :
    Sim K ρ F ⟨ds.map .val ++ List.replicate (N.length - ds.length) .non, hp, n⟩ (L2.start N vs) H := by
  have k : Keep ρ (Mu ρ F [] []) H ρ (Mu ρ F (ds.map .val ++ List.replicate (N.length - ds.length) Slt.non) (L2.start N vs)) H := .mu fun b m => by
    rcases m with m | m | m
    · exact .inl m
    · exact .inr (.inl m)
    · exact absurd m no_ownV
  have hl := q.length
  refine ⟨S.rl, S.rn, S.rF, fun i ob a e1 e2 => (S.hp i ob a e1 e2).keep k fun _ e => e, fun i ob hi e => ?_, ?_, S.fT, ?_, fun i d e => ?_, fun i d e => ?_, fun i j di dj a e => ?_⟩
  · rcases hn with rfl | rfl
    · have hi : i < hp.length := hi
      have e : hp[i]? = some ob := e
      obtain ⟨a, ha⟩ : ∃ a, ρ[i]? = some a := ⟨ρ[i]'(by rw [S.rl]; exact hi), by simp⟩
      cases S.hp i ob a e ha with
      | lst _ q =>
        have := Reps.belowN q
        rw [S.rl] at this
        exact this
    · exact S.bs i ob hi e
  · rcases hn with rfl | rfl
    · exact Nat.le_refl _
    · exact S.bl
  · show (ds.map Slt.val ++ List.replicate (N.length - ds.length) Slt.non).length = (vs.map some ++ List.replicate (N.length - vs.length) none).length
    simp only [List.length_append, List.length_map, List.length_replicate]
    omega
  · have e : (ds.map Slt.val ++ List.replicate (N.length - ds.length) Slt.non)[i]? = some (.val d) := e
    by_cases h : i < ds.length
    · rw [List.getElem?_append_left (by simpa using h), List.getElem?_map] at e
      cases hd : ds[i]? with
      | none => rw [hd] at e; cases e
      | some x =>
        rw [hd] at e
        cases e
        obtain ⟨v, hv, rv⟩ := q.get hd
        refine ⟨v, ?_, rv.keep k⟩
        unfold L2.start
        rw [List.getElem?_append_left (by simpa [← hl] using h), List.getElem?_map, hv]
        rfl
    · rw [List.getElem?_append_right (by simpa using h), List.getElem?_replicate] at e
      split at e <;> cases e
  · exact absurd (show OwnAt _ (List.replicate (i + 1) (some (.ref 0))) 0 from ⟨i, d, e, by simp⟩) no_ownV
  · exact absurd (show OwnAt _ (List.replicate (i + 1) (some (.ref 0))) 0 from ⟨i, di, e, by simp⟩) no_ownV
theorem list_take_append {α : Type} {a b : List α} : (a ++ b).take a.length = a := by simp
/-- the frame at its end, one that gives its new objects back -/
theorem Sim.leave {hp : List Ob} {bs : Nat} {ds : List D} {m : Nat} (S : Sim K ρ F ⟨[], hp, bs⟩ [] H) (S' : Sim K ρ' F s' σ' H') (g : Go ρ F ⟨ds.map .val ++ List.replicate m .non, hp, hp.length⟩ σ H ρ' s' σ' H') (hc : (s'.hp.take bs).all (belowO bs) = true) :
    Sim K ρ F ⟨[], s'.hp.take hp.length, bs⟩ [] H' ∧ Go ρ F ⟨[], hp, bs⟩ [] H ρ ⟨[], s'.hp.take hp.length, bs⟩ [] H' := by
  obtain ⟨r, e⟩ := g.pre
  have hm : ∀ b, Mu ρ F [] [] b → Mu ρ' F s'.env σ' b := fun b z => by
    rcases z with z | z | z
    · exact .inl (by rw [e]; exact List.mem_append_left _ z)
    · exact .inr (.inl z)
    · exact absurd z no_own
  have hl : hp.length ≤ s'.hp.length := g.hl
  have hbs : s'.bs = hp.length := g.bs
  have hrl : ρ.length = hp.length := S.rl
  have tl : (s'.hp.take hp.length).length = hp.length := by rw [List.length_take]; omega
  have old : ∀ (i : Nat) ob, (s'.hp.take hp.length)[i]? = some ob → i < hp.length ∧ s'.hp[i]? = some ob := fun i ob h => by
    have hi := (List.getElem?_eq_some_iff.mp h).1
    rw [tl] at hi
    rw [List.getElem?_take_of_lt hi] at h
    exact ⟨hi, h⟩
  refine ⟨⟨by rw [tl]; exact hrl, S.rn, S.rF, fun i ob a e1 e2 => ?_, fun i ob hi e1 => ?_, by rw [tl]; exact S.bl, S'.fT, rfl, fun i d z => by simp at z, fun i d z => by simp at z, fun i j di dj a z => by simp at z⟩,
    ⟨⟨[], by simp⟩, fun _ h => .inl h, fun b o h n => g.keep b o h fun z => n ?_, g.hid, g.there, fun b z => absurd z no_own, rfl, by rw [tl]; exact Nat.le_refl _⟩⟩
  · obtain ⟨hi, h1⟩ := old i ob e1
    have ha : ρ'[i]? = some a := by rw [e, List.getElem?_append_left (by omega)]; exact e2
    cases S'.hp i ob a h1 ha with
    | lst hH q =>
      have hb := S'.bs i _ (by rw [hbs]; exact hi) h1
      refine .lst hH (Reps.cutB e hm ?_ q)
      rw [hrl, ← hbs]
      exact hb
  · obtain ⟨h0, h1⟩ := old i ob e1
    have hi : i < bs := hi
    exact List.all_eq_true.mp hc ob (List.mem_of_getElem? (i := i) (by rw [List.getElem?_take_of_lt hi]; exact h1))
  · rcases z with z | z | z
    · exact .inl z
    · exact .inr (.inl z)
    · exact absurd z no_ownV
/-- .. one that keeps them -/
theorem Sim.leaveK {hp : List Ob} {bs : Nat} {ds : List D} {m : Nat} (S' : Sim K ρ' F s' σ' H') (g : Go ρ F ⟨ds.map .val ++ List.replicate m .non, hp, bs⟩ σ H ρ' s' σ' H') :
    Sim K ρ' F ⟨[], s'.hp, bs⟩ [] H' ∧ Go ρ F ⟨[], hp, bs⟩ [] H ρ' ⟨[], s'.hp, bs⟩ [] H' := by
  have hbs : s'.bs = bs := g.bs
  have hm : ∀ b, Mu ρ' F [] [] b → Mu ρ' F s'.env σ' b := fun b z => by
    rcases z with z | z | z
    · exact .inl z
    · exact .inr (.inl z)
    · exact absurd z no_own
  refine ⟨⟨S'.rl, S'.rn, S'.rF, fun i ob a e1 e2 => (S'.hp i ob a e1 e2).keep (.mu hm) fun _ e => e, ?_, ?_, S'.fT, rfl, fun i d z => by simp at z, fun i d z => by simp at z, fun i j di dj a z => by simp at z⟩,
    ⟨g.pre, g.new, fun b o h n => g.keep b o h fun z => n ?_, g.hid, g.there, fun b z => absurd z no_own, rfl, g.hl⟩⟩
  · rw [← hbs]; exact S'.bs
  · rw [← hbs]; exact S'.bl
  · rcases z with z | z | z
    · exact .inl z
    · exact .inr (.inl z)
    · exact absurd z no_ownV
end

/-! ### the promise kept -/
/-- what the functions of the table, the constants, the built-ins are in the module: at the level of cal -/
structure Env1 (P : Program) (w : World) (K : PySem.W.Frag) (mg : Str → Option Value) (base : Heap) (G : Tab) (cal : Cal) (kk : Nat) : Prop where
  bl : ∀ x ∈ biNames, mg x = none
  gl : ∀ z d, G.consts.lookup z = some d → ∃ v u, mg (z : Str) = some u ∧ RelV v u ∧ Rep K [] (fun _ => False) Nil d v
  fi : ∀ f F, G.fn f = some F → kdFn G f = true → FnIn P w K mg base cal kk f F
  ci : ∀ f F, G.fn f = some F → okC G f = true → ClIn P w K mg base cal kk f F
  cl : ClsF K mg G
  shp : G.sh = shD
theorem calN_len {G : Tab} {n : Nat} {f : String} {F : Fn} {ds : List D} {bs : Nat} {hp : List Ob} (hF : G.fn f = some F) (h : calN G n f ds bs hp ≠ .stuck) : ds.length = F.ps.length := by
  cases n with
  | zero => exact absurd rfl h
  | succ n =>
    by_cases hl : ds.length = F.ps.length
    · exact hl
    · exfalso
      apply h
      simp only [calN, hF]
      rw [if_neg hl]
theorem end_of {K : PySem.W.Frag} {G : Tab} {n : Nat} {F : Fn} {N ps : List Str} {ds : List D} {vs : List V} {bs : Nat} {hp hp' : List Ob} {d : D} {ρ : List Addr} {Fh : Addr → Prop} {H : Hp} {Q : VK} (hns : F.ns = N.length) (hN : vs.length ≤ N.length)
    (S : Sim K ρ Fh ⟨[], hp, bs⟩ [] H) (q : Reps K ρ (Mu ρ Fh [] []) H ds vs) (hr : runF G (calN G n) F ds bs hp = .ok d hp')
    (k : ∀ ρ' w H', Sim K ρ' Fh ⟨[], hp', bs⟩ [] H' → Go ρ Fh ⟨[], hp, bs⟩ [] H ρ' ⟨[], hp', bs⟩ [] H' → Rep K ρ' (Mu ρ' Fh [] []) H' d w → Q w H') :
    TSb K G (calN G n) F.body { nx := fun _ H' => Q .non H', rt := Q } (L2.start N vs) H := by
  unfold runF at hr
  rw [hns] at hr
  split at hr
  case h_2 => cases hr
  case h_3 => cases hr
  rename_i fl s' hb
  split at hr
  case h_2 => cases hr
  rename_i d0 hd
  have S0 := S.enter (N := N) (n := if F.gc then hp.length else bs) q hN (by by_cases hg : F.gc = true <;> simp [hg])
  refine ⟨ρ, Fh, _, fl, s', S0, hb, ?_⟩
  have fin : ∀ ρ' σ' w H', Sim K ρ' Fh s' σ' H' → Go ρ Fh ⟨ds.map .val ++ List.replicate (N.length - ds.length) .non, hp, if F.gc then hp.length else bs⟩ (L2.start N vs) H ρ' s' σ' H' → Rep K ρ' (Mu ρ' Fh s'.env σ') H' d0 w → Q w H' := by
    intro ρ' σ' w H' S' g r
    by_cases hg : F.gc = true
    · rw [if_pos hg] at hr g
      split at hr
      case h_2 => cases hr
      rename_i d1 hfz
      split at hr
      case isFalse => cases hr
      rename_i hck
      cases hr
      obtain ⟨S1, g1⟩ := S.leave S' g hck
      obtain ⟨r', e⟩ := g.pre
      have hrl : ρ.length = hp.length := S.rl
      exact k ρ w H' S1 g1 (frz_rep S' e 64 d0 d w (by rw [hrl]; exact hfz) r)
    · rw [if_neg hg] at hr g
      cases hr
      obtain ⟨S1, g1⟩ := Sim.leaveK S' g
      exact k ρ' w H' S1 g1 (r.keep (.mu fun b z => by
        rcases z with z | z | z
        · exact .inl z
        · exact .inr (.inl z)
        · exact absurd z no_own))
  cases fl with
  | nx =>
    cases hd
    exact fun ρ' σ' H' S' g _ _ => fin ρ' σ' .non H' S' g .non
  | ret d1 =>
    cases hd
    exact fun ρ' σ' w H' S' g r => fin ρ' σ' w H' S' g r
  | brk => cases hd
  | cont => cases hd
section
variable {P : Program} {w : World} {K : PySem.W.Frag} {mg : Str → Option Value} {base : Heap} {G : Tab} {n kk : Nat} {x qual : Str} {params : Arguments} {body : List Stmt} {scope : Scope} {dvs : List V} {kws : List (Str × V)} {f : Addr} {fd : FuncData} {N ps : List Str} {fname : String} {F : Fn} {m1 m2 : Nat}
/-- the one def's promise -/
theorem fnG_of (D0 : FunD K x qual params body scope dvs kws f fd) (Sc : FnScope N ps scope) (hF : G.fn fname = some F) (hps : ps.length = F.ps.length) (hns : F.ns = N.length) (hck : allS (chS G N m1 m2 scope) body F.body = true) (e1 : Env1 P w K mg base G (calN G n) kk) :
    FnG P w K mg base (kk + 2) f fd ps (spF K (calN G (n + 1)) fname F.ps.length) := by
  obtain ⟨oc, od, dV, kV, doc, pm, an, cdv, ct, osl, rfl, lk, hcd, _, _⟩ := D0.ex
  have len : ∀ vs H Q E, spF K (calN G (n + 1)) fname F.ps.length vs H Q E → vs.length = ps.length := fun vs H Q E h => by rw [hps]; exact spF_len vs H Q E h
  refine ⟨len, fun A outer s H args us vs Q E hr hgu e0 hb rv hsp => ?_⟩
  have hl := len _ _ _ _ hsp
  have inK : K.In s.heap := e0.mod.kin.keeps fun b o e => (e0.bs b o e).1
  have noLim : s.heap.NoLimit := e0.mod.nolimit.keeps fun b o e => (e0.bs b o e).1
  have kinds : ∀ y ∈ ps.zip us, scope.names.lookup y.1 = some .local ∨ (scope.names.lookup y.1 = some .cell ∧ ((cellsFrom (s.heap.objs.size + 1) scope.names []).lookup y.1).isSome = true) := fun y hy => by
    obtain ⟨z, v⟩ := y
    rcases Sc.par z (List.of_mem_zip hy).1 with k | k
    · exact .inl k
    · exact .inr ⟨k, PySem.W.cellsFrom_some _ _ _ (.inl k)⟩
  refine codeAny_call_function hr.depth (inK _ _ lk) rfl Sc.co Sc.gen rfl (PySem.W.codeRec_of inK hcd) (hb _ _ _ _ ?_)
  refine wpAny_newFunctionEnv_cells Sc.kind kinds fun env he s1 xc => ?_
  subst he
  refine ⟨noLim.keeps xc.toInCall.keep, codeAny_func ?_⟩
  have I : Inv (cxOf CX0 P w K mg base N qual scope f cdv A outer s H E) [] (L2.start N vs) H s1 := inv_start Sc hr.hd e0 hl rv xc
  have c : Ctx G (calN G n) kk N (fun _ => true) scope (cxOf CX0 P w K mg base N qual scope f cdv A outer s H E).nox :=
    ⟨rfl, rfl, Sc.nd, rfl, Sc.kind, rfl, hr.deeper _, hgu, e1.shp, e1.bl, e1.gl, e1.fi, e1.ci, e1.cl, fun f F ds bs hp h q => calN_len h q⟩
  have body_ok : PSs (cxOf CX0 P w K mg base N qual scope f cdv A outer s H E) body (TSb K G (calN G n) F.body) := PSs.nox (ck_all (fun cs xs h => chS_ok c PassesOwn.never m2 cs xs h) body F.body hck)
  have hq : TSb K G (calN G n) F.body { nx := fun _ H' => Q .non H', rt := Q } (L2.start N vs) H := by
    obtain ⟨ρ, Fh, ds, bs, hp, d, hp', hdl, S, q, hc, k⟩ := hsp
    have hpl : ps.length ≤ N.length := by
      have := congrArg List.length Sc.pre
      rw [List.length_take] at this
      omega
    simp only [calN, hF] at hc
    rw [if_pos hdl] at hc
    exact end_of (ps := ps) hns (by omega) S q hc k
  refine wpAny_mono (body_ok.run [] s1 (L2.start N vs) H _ I hq) (fun fl s' hs => ?_) fun e s' hs => hs
  have fin : ∀ {σ' : L2.St} {H' : Hp} {v : V} {u : Value}, Inv (cxOf CX0 P w K mg base N qual scope f cdv A outer s H E) [] σ' H' s' → RelV v u → Q v H' → CE outer P w H s Q u s' :=
    fun {σ' H' v u} J r q => ⟨v, H', J.os, J.bare, J.base, J.hok, r, q⟩
  cases fl with
  | next => exact let ⟨_, _, J, q⟩ := hs; fin (v := V.non) (u := Value.none) J rfl q
  | ret u => exact let ⟨_, _, _, J, r, q⟩ := hs; fin J r q
  | brk => exact let ⟨_, _, _, q⟩ := hs; False.elim q
  | cont => exact let ⟨_, _, _, q⟩ := hs; False.elim q
end
/-- an __init__'s part: no return, the first name stays -/
def noRetS : Nat → S → Bool
  | 0, _ => false
  | n + 1, c => match c with
    | .ret _ => false
    | .retN => false
    | .brk => false
    | .cont => false
    | .ife _ a b => a.all (noRetS n) && b.all (noRetS n)
    | .for _ _ _ _ => false
    | .whl _ _ => false
    | _ => true
def iniOk (b : List S) : Bool := b.all (noRetS 8) && !(asgB b).contains 0
theorem exB_app {G : Tab} {cal : Cal} : ∀ {a b : List S} {s s' : MS} {f : Fl}, exB G cal (a ++ b) s = .ok f s' → ∃ f1 s1, exB G cal a s = .ok f1 s1 ∧ (f1 = .nx → exB G cal b s1 = .ok f s') ∧ (f1 ≠ .nx → f = f1 ∧ s' = s1)
  | [], b, s, s', f, h => ⟨.nx, s, by simp only [exB], fun _ => h, fun z => absurd rfl z⟩
  | c :: a, b, s, s', f, h => by
    rw [List.cons_append] at h
    simp only [exB] at h
    obtain ⟨f0, s0, h1, h2⟩ := R.bind_ok h
    simp only [exB, h1, R.bind]
    cases f0 with
    | nx => exact exB_app h2
    | brk => cases h2; exact ⟨_, _, rfl, nofun, fun _ => ⟨rfl, rfl⟩⟩
    | cont => cases h2; exact ⟨_, _, rfl, nofun, fun _ => ⟨rfl, rfl⟩⟩
    | ret d => cases h2; exact ⟨_, _, rfl, nofun, fun _ => ⟨rfl, rfl⟩⟩
mutual
theorem noRetS_ok {G : Tab} {cal : Cal} : ∀ (n : Nat) (c : S) {s s' : MS} {f : Fl}, noRetS n c = true → exS G cal c s = .ok f s' → f = .nx
  | 0, _, _, _, _, h, _ => by cases h
  | n + 1, c, s, s', f, h, e => by
    cases c with
    | ret _ => cases h
    | retN => cases h
    | brk => cases h
    | cont => cases h
    | «for» _ _ _ _ => cases h
    | whl _ _ => cases h
    | ife c a b =>
      obtain ⟨h1, h2⟩ := ba2 (show (a.all (noRetS n) && b.all (noRetS n)) = true from h)
      simp only [exS] at e
      obtain ⟨t, s1, _, e⟩ := R.bind_ok e
      split at e
      · exact noRetB_ok n a h1 e
      · exact noRetB_ok n b h2 e
    | ex e' =>
      simp only [exS] at e
      obtain ⟨_, _, _, e⟩ := R.bind_ok e
      cases e; rfl
    | asg t e' =>
      simp only [exS] at e
      obtain ⟨_, _, _, e⟩ := R.bind_ok e
      split at e <;> cases e
      rfl
    | own i e' =>
      simp only [exS] at e
      obtain ⟨_, _, _, e⟩ := R.bind_ok e
      split at e
      · split at e <;> cases e
        rfl
      · cases e
    | par is es =>
      simp only [exS] at e
      obtain ⟨_, _, _, e⟩ := R.bind_ok e
      split at e <;> cases e
      rfl
    | aug i o e' =>
      simp only [exS] at e
      split at e
      · obtain ⟨_, _, _, e⟩ := R.bind_ok e
        split at e <;> cases e
        rfl
      · cases e
    | setix o k v =>
      simp only [exS] at e
      obtain ⟨_, _, _, e⟩ := R.bind_ok e
      obtain ⟨_, _, _, e⟩ := R.bind_ok e
      obtain ⟨_, _, _, e⟩ := R.bind_ok e
      split at e
      · split at e <;> cases e
        rfl
      · cases e
    | setf o g v =>
      simp only [exS] at e
      obtain ⟨_, _, _, e⟩ := R.bind_ok e
      split at e
      · split at e
        · split at e <;> cases e
          rfl
        · cases e
      · cases e
    | augf _ _ _ _ => cases e
    | pass => cases e; rfl
    | raise _ _ => cases e
    | slf c =>
      simp only [exS] at e
      split at e <;> cases e
      rfl
theorem noRetB_ok {G : Tab} {cal : Cal} : ∀ (n : Nat) (b : List S) {s s' : MS} {f : Fl}, b.all (noRetS n) = true → exB G cal b s = .ok f s' → f = .nx
  | _, [], _, _, _, _, e => by simp only [exB] at e; cases e; rfl
  | n, c :: b, s, s', f, h, e => by
    rw [List.all_cons] at h
    obtain ⟨h1, h2⟩ := ba2 h
    simp only [exB] at e
    obtain ⟨f0, s0, e1, e2⟩ := R.bind_ok e
    have := noRetS_ok n c h1 e1
    subst this
    exact noRetB_ok n b h2 e2
end
theorem end_ofI {K : PySem.W.Frag} {G : Tab} {n : Nat} {F : Fn} {N : List Str} {ds : List D} {vs : List V} {bs : Nat} {hp hp' : List Ob} {d : D} {ρ : List Addr} {Fh : Addr → Prop} {H : Hp} {Q : VK} {c : String} {b : List S} {x dx : Addr}
    (ct : ClT K c) (hbd : F.body = .slf c :: (b ++ [.ret (.sl 0)])) (hno : iniOk b = true) (hns : F.ns = N.length) (hN : vs.length + 1 ≤ N.length)
    (S : Sim K ρ Fh ⟨[], hp, bs⟩ [] H) (q : Reps K ρ (Mu ρ Fh [] []) H ds vs) (hx : H x = none) (hdx : H dx = none) (hne : dx ≠ x) (hr : runF G (calN G n) F (.non :: ds) bs hp = .ok d hp')
    (k : ∀ ρ' H', Sim K ρ' Fh ⟨[], hp', bs⟩ [] H' → Go ρ Fh ⟨[], hp, bs⟩ [] H ρ' ⟨[], hp', bs⟩ [] H' → Rep K ρ' (Mu ρ' Fh [] []) H' d (.ref x) → Q .non H') :
    TSb K G (calN G n) b { nx := fun _ H' => Q .non H', rt := Q } (L2.start N (.ref x :: vs)) (upd (upd H dx (.own x)) x (.ins (He.ga K c) dx [])) := by
  obtain ⟨hno1, hno2⟩ := ba2 hno
  unfold runF at hr
  rw [hns] at hr
  split at hr
  case h_2 => cases hr
  case h_3 => cases hr
  rename_i fl s' hb
  split at hr
  case h_2 => cases hr
  rename_i d0 hd
  have gd : Grow H (upd H dx (.own x)) := .upd hdx
  have hx1 : upd H dx (.own x) x = none := by rw [upd_ne (Ne.symm hne)]; exact hx
  have g1 : Grow (upd H dx (.own x)) (upd (upd H dx (.own x)) x (.ins (He.ga K c) dx [])) := .upd hx1
  have q0 : Reps K ρ (Mu ρ Fh [] []) H (.non :: ds) (.non :: vs) := .cons .non q
  have hl : (V.non :: vs).length ≤ N.length := hN
  have hn : (if F.gc then hp.length else bs) = hp.length ∨ (if F.gc then hp.length else bs) = bs := by by_cases hg : F.gc = true <;> simp [hg]
  have S0 := S.enter (N := N) (n := if F.gc then hp.length else bs) q0 hl hn
  have g0 := Go.grow (gd.trans g1) S0
  have Sd := S0.grow gd
  have SA := Sd.hide (a := x) (o := .ins (He.ga K c) dx []) hx1
  have S1 := S0.grow (gd.trans g1)
  rw [hbd] at hb
  simp only [exB] at hb
  obtain ⟨f0, t0, hb0, hb⟩ := R.bind_ok hb
  simp only [exS] at hb0
  split at hb0
  case isFalse => cases hb0
  rename_i hlen
  cases hb0
  have nx1 : ¬ Mu ρ Fh (((D.non :: ds).map Slt.val ++ List.replicate (N.length - (D.non :: ds).length) Slt.non)) (L2.start N (.non :: vs)) x := fun m => by
    obtain ⟨o, e⟩ := S0.mu_there m
    rw [hx] at e
    cases e
  obtain ⟨S2, g2⟩ := S1.putOwnG (H0 := H) (i := 0) (nd := .obj c [] []) hlen hx SA nx1 (.obj (fs := []) (vs := []) ct upd_same .nil rfl)
  have hσ : (L2.start N (.non :: vs)).set 0 (some (.ref x)) = L2.start N (.ref x :: vs) := by
    unfold L2.start
    simp
  rw [hσ] at S2 g2
  have g3 := g2 _ _ _ g0
  obtain ⟨f1, s1, hb1, hb2, -⟩ := exB_app hb
  have hf1 := noRetB_ok 8 b hno1 hb1
  subst hf1
  have hb2 := hb2 rfl
  refine ⟨ρ, Fh, _, .nx, s1, S2, hb1, fun ρ' σ' H' S' g l sb => ?_⟩
  have hs0 : σ'[0]? = some (some (.ref x)) := by
    rw [sb.2 0 (by simpa using hno2)]
    unfold L2.start
    simp
  have g4 := g3.trans g
  have fin : ∀ s2, Sim K ρ' Fh s2 σ' H' → Go ρ Fh ⟨(D.non :: ds).map .val ++ List.replicate (N.length - (D.non :: ds).length) .non, hp, if F.gc then hp.length else bs⟩ (L2.start N (.non :: vs)) H ρ' s2 σ' H' → s' = s2 → Rep K ρ' (Mu ρ' Fh s2.env σ') H' d0 (.ref x) → Q .non H' := by
    rintro s2 S' g rfl r
    by_cases hg : F.gc = true
    · rw [if_pos hg] at hr g
      split at hr
      case h_2 => cases hr
      rename_i d1 hfz
      split at hr
      case isFalse => cases hr
      rename_i hck
      cases hr
      obtain ⟨S1, g1⟩ := S.leave S' g hck
      obtain ⟨r', e⟩ := g.pre
      have hrl : ρ.length = hp.length := S.rl
      exact k ρ H' S1 g1 (frz_rep S' e 64 d0 d _ (by rw [hrl]; exact hfz) r)
    · rw [if_neg hg] at hr g
      cases hr
      obtain ⟨S1, g1⟩ := Sim.leaveK S' g
      exact k ρ' H' S1 g1 (r.keep (.mu fun b z => by
        rcases z with z | z | z
        · exact .inl z
        · exact .inr (.inl z)
        · exact absurd z no_own))
  simp only [exB] at hb2
  obtain ⟨f2, s2, hb3, hb4⟩ := R.bind_ok hb2
  simp only [exS] at hb3
  obtain ⟨d2, s3, hv, hb3⟩ := R.bind_ok hb3
  cases hb3
  cases hb4
  cases hd
  simp only [evE] at hv
  split at hv
  · rename_i d3 he
    cases hv
    obtain ⟨v, e1, r⟩ := S'.sv 0 _ he
    rw [hs0] at e1
    cases e1
    exact fin _ S' g4 rfl r
  · rename_i d3 he
    cases hv
    obtain ⟨w, e1, S3, g5, l3, r⟩ := S'.freeze he
    rw [hs0] at e1
    cases e1
    exact fin _ S3 (g4.trans g5) rfl r
  · cases hv
section
variable {P : Program} {w : World} {K : PySem.W.Frag} {mg : Str → Option Value} {base : Heap} {G : Tab} {n kk : Nat} {x qual : Str} {params : Arguments} {body : List Stmt} {scope : Scope} {dvs : List V} {kws : List (Str × V)} {f : Addr} {fd : FuncData} {N ps : List Str} {fname : String} {F : Fn} {m1 m2 : Nat}
/-- a class's promise -/
theorem fnI_of (clt0 : ClT K fname) (D0 : FunD K x qual params body scope dvs kws f fd) (Sc : FnScope N ps scope) (hF : G.fn fname = some F) (hps : ps.length = F.ps.length) (hns : F.ns = N.length) {b : List S} (hbd : F.body = .slf fname :: (b ++ [.ret (.sl 0)])) (hno : iniOk b = true) (hps0 : 0 < ps.length) (hck : allS (chS G N m1 m2 scope) body b = true) (e1 : Env1 P w K mg base G (calN G n) kk) :
    FnG P w K mg base (kk + 2) f fd ps (spI K (calN G (n + 1)) fname F.ps.length) := by
  obtain ⟨oc, od, dV, kV, doc, pm, an, cdv, ct, osl, rfl, lk, hcd, _, _⟩ := D0.ex
  have len : ∀ vs H Q E, spI K (calN G (n + 1)) fname F.ps.length vs H Q E → vs.length = ps.length := fun vs H Q E h => by rw [hps]; exact spI_len vs H Q E h
  refine ⟨len, fun A outer s H args us vs Q E hr hgu e0 hb rv hsp => ?_⟩
  have hl := len _ _ _ _ hsp
  have inK : K.In s.heap := e0.mod.kin.keeps fun b o e => (e0.bs b o e).1
  have noLim : s.heap.NoLimit := e0.mod.nolimit.keeps fun b o e => (e0.bs b o e).1
  have kinds : ∀ y ∈ ps.zip us, scope.names.lookup y.1 = some .local ∨ (scope.names.lookup y.1 = some .cell ∧ ((cellsFrom (s.heap.objs.size + 1) scope.names []).lookup y.1).isSome = true) := fun y hy => by
    obtain ⟨z, v⟩ := y
    rcases Sc.par z (List.of_mem_zip hy).1 with k | k
    · exact .inl k
    · exact .inr ⟨k, PySem.W.cellsFrom_some _ _ _ (.inl k)⟩
  refine codeAny_call_function hr.depth (inK _ _ lk) rfl Sc.co Sc.gen rfl (PySem.W.codeRec_of inK hcd) (hb _ _ _ _ ?_)
  refine wpAny_newFunctionEnv_cells Sc.kind kinds fun env he s1 xc => ?_
  subst he
  refine ⟨noLim.keeps xc.toInCall.keep, codeAny_func ?_⟩
  have I : Inv (cxOf CX0 P w K mg base N qual scope f cdv A outer s H E) [] (L2.start N vs) H s1 := inv_start Sc hr.hd e0 hl rv xc
  have c : Ctx G (calN G n) kk N (fun _ => true) scope (cxOf CX0 P w K mg base N qual scope f cdv A outer s H E).nox :=
    ⟨rfl, rfl, Sc.nd, rfl, Sc.kind, rfl, hr.deeper _, hgu, e1.shp, e1.bl, e1.gl, e1.fi, e1.ci, e1.cl, fun f F ds bs hp h q => calN_len h q⟩
  have body_ok : PSs (cxOf CX0 P w K mg base N qual scope f cdv A outer s H E) body (TSb K G (calN G n) b) := PSs.nox (ck_all (fun cs xs h => chS_ok c PassesOwn.never m2 cs xs h) body b hck)
  have hq : TSb K G (calN G n) b { nx := fun _ H' => Q .non H', rt := Q } (L2.start N vs) H := by
    obtain ⟨ρ, Fh, ds, bs, hp, d, hp', x, dx, H0, ws, rfl, hdl, S, hx, hdx, hne, rfl, q, hc, k⟩ := hsp
    have hpl : ps.length ≤ N.length := by
      have := congrArg List.length Sc.pre
      rw [List.length_take] at this
      omega
    simp only [calN, hF] at hc
    rw [if_pos (by simpa using hdl)] at hc
    exact end_ofI clt0 hbd hno hns (by rw [← q.length]; omega) S q hx hdx hne hc k
  refine wpAny_mono (body_ok.run [] s1 (L2.start N vs) H _ I hq) (fun fl s' hs => ?_) fun e s' hs => hs
  have fin : ∀ {σ' : L2.St} {H' : Hp} {v : V} {u : Value}, Inv (cxOf CX0 P w K mg base N qual scope f cdv A outer s H E) [] σ' H' s' → RelV v u → Q v H' → CE outer P w H s Q u s' :=
    fun {σ' H' v u} J r q => ⟨v, H', J.os, J.bare, J.base, J.hok, r, q⟩
  cases fl with
  | next => exact let ⟨_, _, J, q⟩ := hs; fin (v := V.non) (u := Value.none) J rfl q
  | ret u => exact let ⟨_, _, _, J, r, q⟩ := hs; fin J r q
  | brk => exact let ⟨_, _, _, q⟩ := hs; False.elim q
  | cont => exact let ⟨_, _, _, q⟩ := hs; False.elim q
end
end Tw
end

section
set_option linter.all false
set_option autoImplicit false
set_option maxRecDepth 100000
set_option maxHeartbeats 8000000
/-! From the table to the law. -/
namespace Tw
open PySem L2 PyProof.Rows

/-! ### all functions of a table -/
/-- a function as it stands: told once, at every level -/
structure FnSt (P : Program) (w : World) (K : PySem.W.Frag) (mg : Str → Option Value) (G : Tab) (f : String) (F : Fn) : Prop where
  ex : ∃ (x qual : Str) (params : Arguments) (body : List Stmt) (scope : Scope) (dvs : List V) (kws : List (Str × V)) (a : Addr) (fd : FuncData) (N ps : List Str) (m1 m2 : Nat),
    FunD K x qual params body scope dvs kws a fd ∧ FnScope N ps scope ∧ mg f = some (.ref a) ∧ ps.length = F.ps.length ∧ F.ns = N.length ∧ allS (chS G N m1 m2 scope) body F.body = true ∧
    ∀ m, m ≤ F.ps.length → F.ps.length - m ≤ F.dfl.length → ∃ (dvs : List V) (ds : List Value), Vals dvs ds ∧ Reps K [] (fun _ => False) Nil (F.dfl.drop (F.dfl.length - (F.ps.length - m))) dvs ∧
      ∀ (s : Shared) (us : List Value), K.In s.heap → us.length = m → BindsTo s fd ⟨us, []⟩ (ps.zip (us ++ ds))
  kx : ∃ (x qual : Str) (params : Arguments) (body : List Stmt) (scope : Scope) (dvs : List V) (kws : List (Str × V)) (a : Addr) (fd : FuncData) (N ps : List Str) (m1 m2 : Nat),
    FunD K x qual params body scope dvs kws a fd ∧ FnScope N ps scope ∧ mg f = some (.ref a) ∧ ps.length = F.ps.length ∧ F.ns = N.length ∧ allS (chS G N m1 m2 scope) body F.body = true ∧
    ∀ q ∈ F.kwz, ∃ (dvs : List V) (its : List Value), Vals dvs its ∧ Reps K [] (fun _ => False) Nil F.dfl dvs ∧
      ∀ (s : Shared) (us ws rest : List Value), K.In s.heap → us.length = q.1 → ws.length = q.2.length → kwRest its q.2 ws (F.ps.drop q.1) = some rest → BindsTo s fd ⟨us, (q.2.map PySem.Str.ofString).zip ws⟩ (ps.zip (us ++ rest))
/-- a class as it stands -/
structure ClSt (P : Program) (w : World) (K : PySem.W.Frag) (mg : Str → Option Value) (G : Tab) (c : String) (F : Fn) : Prop where
  ex : ∃ (x qual : Str) (params : Arguments) (body : List Stmt) (scope : Scope) (dvs : List V) (kws : List (Str × V)) (a : Addr) (fd : FuncData) (N ps : List Str) (m1 m2 : Nat) (b : List S),
    FunD K x qual params body scope dvs kws a fd ∧ FnScope N ps scope ∧ Mk K (He.ga K c) a ∧ ps.length = F.ps.length ∧ 0 < ps.length ∧ F.ns = N.length ∧ F.body = .slf c :: (b ++ [.ret (.sl 0)]) ∧ iniOk b = true ∧ allS (chS G N m1 m2 scope) body b = true ∧
    (∀ m, m ≤ F.ps.length → F.ps.length - m ≤ F.dfl.length → ∃ (dvs : List V) (ds : List Value), Vals dvs ds ∧ Reps K [] (fun _ => False) Nil (F.dfl.drop (F.dfl.length - (F.ps.length - m))) dvs ∧
      ∀ (s : Shared) (us : List Value), K.In s.heap → us.length = m → BindsTo s fd ⟨us, []⟩ (ps.zip (us ++ ds))) ∧
    ∀ q ∈ F.kwz, ∃ (dvs : List V) (its : List Value), Vals dvs its ∧ Reps K [] (fun _ => False) Nil F.dfl dvs ∧
      ∀ (s : Shared) (us ws rest : List Value), K.In s.heap → us.length = q.1 → ws.length = q.2.length → kwRest its q.2 ws (F.ps.drop q.1) = some rest → BindsTo s fd ⟨us, (q.2.map PySem.Str.ofString).zip ws⟩ (ps.zip (us ++ rest))
/-- one of the table's, as it stands -/
def StF (P : Program) (w : World) (K : PySem.W.Frag) (mg : Str → Option Value) (G : Tab) (f : String) (F : Fn) : Prop := match F.kd with
  | .fn => FnSt P w K mg G f F
  | .ini _ => ClSt P w K mg G f F
  | .mth _ _ => True
theorem kdFn_kd {G : Tab} {f : String} {F : Fn} (hF : G.fn f = some F) (h : kdFn G f = true) : F.kd = .fn := by
  unfold kdFn at h
  rw [hF] at h
  simp only at h
  split at h
  · assumption
  · cases h
theorem okC_kd {G : Tab} {f : String} {F : Fn} (hF : G.fn f = some F) (h : okC G f = true) : ∃ l, F.kd = .ini l := by
  unfold okC at h
  rw [hF] at h
  simp only at h
  split at h
  · exact ⟨_, by assumption⟩
  · cases h
section
variable {P : Program} {w : World} {K : PySem.W.Frag} {mg : Str → Option Value} {G : Tab}
theorem fns_ok {base : Heap} (shp : G.sh = shD) (bl : ∀ x ∈ biNames, mg x = none) (gl : ∀ z d, G.consts.lookup z = some d → ∃ v u, mg (z : Str) = some u ∧ RelV v u ∧ Rep K [] (fun _ => False) Nil d v) (cl : ClsF K mg G)
    (h : ∀ f F, G.fn f = some F → StF P w K mg G f F) : ∀ n, (∀ f F, G.fn f = some F → kdFn G f = true → FnIn P w K mg base (calN G n) (2 * n) f F) ∧ ∀ f F, G.fn f = some F → okC G f = true → ClIn P w K mg base (calN G n) (2 * n) f F := by
  have hf : ∀ f F, G.fn f = some F → kdFn G f = true → FnSt P w K mg G f F := fun f F hF hk => by
    have := h f F hF
    unfold StF at this
    rw [kdFn_kd hF hk] at this
    exact this
  have hc : ∀ f F, G.fn f = some F → okC G f = true → ClSt P w K mg G f F := fun f F hF hk => by
    have := h f F hF
    obtain ⟨l, e⟩ := okC_kd hF hk
    unfold StF at this
    rw [e] at this
    exact this
  intro n
  induction n with
  | zero =>
    refine ⟨fun f F hF hk => ?_, fun f F hF hk => ?_⟩
    · obtain ⟨x, qual, params, body, scope, dvs, kws, a, fd, N, ps, m1, m2, D0, Sc, hm, hps, hns, hck, bnd⟩ := (hf f F hF hk).ex
      obtain ⟨x', qual', params', body', scope', dvs', kws', a', fd', N', ps', m1', m2', D0', Sc', hm', hps', hns', hck', bnd'⟩ := (hf f F hF hk).kx
      have g0 : ∀ {ps : List Str} {a : Addr} {fd : FuncData}, ps.length = F.ps.length → FnG P w K mg base 0 a fd ps (spF K (calN G 0) f F.ps.length) := fun hps => ⟨fun vs H Q E q => by rw [hps]; exact spF_len vs H Q E q, fun A outer s H args us vs Q E _ _ _ _ _ q => by
        obtain ⟨_, _, _, _, _, _, _, _, _, _, q, _⟩ := q
        cases q⟩
      exact ⟨⟨a, fd, ps, hm, D0.kp, hps, g0 hps, bnd⟩, ⟨a', fd', ps', hm', D0'.kp, hps', g0 hps', bnd'⟩⟩
    · obtain ⟨x, qual, params, body, scope, dvs, kws, a, fd, N, ps, m1, m2, b, D0, Sc, M, hps, h0, hns, hbd, hno, hck, bnd, bndk⟩ := (hc f F hF hk).ex
      have g0 : FnG P w K mg base 0 a fd ps (spI K (calN G 0) f F.ps.length) := ⟨fun vs H Q E q => by rw [hps]; exact spI_len vs H Q E q, fun A outer s H args us vs Q E _ _ _ _ _ q => by
        obtain ⟨_, _, _, _, _, _, _, _, _, _, _, _, _, _, _, _, _, _, _, q, _⟩ := q
        cases q⟩
      exact ⟨⟨a, fd, ps, M, hps, g0, bnd⟩, ⟨a, fd, ps, M, hps, g0, bndk⟩⟩
  | succ n ih =>
    obtain ⟨i1, i2⟩ := ih
    refine ⟨fun f F hF hk => ?_, fun f F hF hk => ?_⟩
    · obtain ⟨x, qual, params, body, scope, dvs, kws, a, fd, N, ps, m1, m2, D0, Sc, hm, hps, hns, hck, bnd⟩ := (hf f F hF hk).ex
      obtain ⟨x', qual', params', body', scope', dvs', kws', a', fd', N', ps', m1', m2', D0', Sc', hm', hps', hns', hck', bnd'⟩ := (hf f F hF hk).kx
      exact ⟨⟨a, fd, ps, hm, D0.kp, hps, fnG_of D0 Sc hF hps hns hck ⟨bl, gl, i1, i2, cl, shp⟩, bnd⟩, ⟨a', fd', ps', hm', D0'.kp, hps', fnG_of D0' Sc' hF hps' hns' hck' ⟨bl, gl, i1, i2, cl, shp⟩, bnd'⟩⟩
    · obtain ⟨x, qual, params, body, scope, dvs, kws, a, fd, N, ps, m1, m2, b, D0, Sc, M, hps, h0, hns, hbd, hno, hck, bnd, bndk⟩ := (hc f F hF hk).ex
      have g1 := fnI_of (base := base) (cl.clt f hk) D0 Sc hF hps hns hbd hno h0 hck (⟨bl, gl, i1, i2, cl, shp⟩ : Env1 P w K mg base G (calN G n) (2 * n))
      exact ⟨⟨a, fd, ps, M, hps, g1, bnd⟩, ⟨a, fd, ps, M, hps, g1, bndk⟩⟩
/-- over a table's list -/
def AllF (Pq : String → Fn → Prop) : List (String × Fn) → Prop
  | [] => True
  | p :: l => Pq p.1 p.2 ∧ AllF Pq l
theorem allF_of {Pq : String → Fn → Prop} : ∀ {l : List (String × Fn)}, AllF Pq l → ∀ f F, l.lookup f = some F → Pq f F
  | [], _, _, _, h => by cases h
  | p :: l, h, f, F, e => by
    obtain ⟨f0, F0⟩ := p
    rw [List.lookup_cons] at e
    split at e
    · rename_i q
      have q : f = f0 := by simpa using q
      subst q
      cases e
      exact h.1
    · exact allF_of h.2 f F e
/-- the scope's part of the check -/
def scB (N ps : List Str) (sc : Scope) : Bool :=
  (match sc.kind with | .function => true | _ => false) && (!sc.isCoroutine && (!sc.isGenerator && (decide N.Nodup && (decide (N.take ps.length = ps) && (ps.all (fun x => locK sc x || celK sc x) && sc.names.all fun y => decide (y.2 ≠ .free))))))
theorem scB_ok {N ps : List Str} {sc : Scope} (h : scB N ps sc = true) : FnScope N ps sc := by
  obtain ⟨h1, h⟩ := ba2 h
  obtain ⟨h2, h⟩ := ba2 h
  obtain ⟨h3, h⟩ := ba2 h
  obtain ⟨h4, h⟩ := ba2 h
  obtain ⟨h5, h⟩ := ba2 h
  obtain ⟨h6, h7⟩ := ba2 h
  refine ⟨?_, by simpa using h2, by simpa using h3, of_decide_eq_true h4, of_decide_eq_true h5, fun x hx => ?_, fun y hy => of_decide_eq_true (List.all_eq_true.mp h7 y hy)⟩
  · split at h1
    · assumption
    · cases h1
  · have := List.all_eq_true.mp h6 x hx
    rcases Bool.or_eq_true_iff.mp this with q | q
    · exact .inl (locK_ok q)
    · exact .inr (celK_ok q)
/-- all of one def's check: its names, its parameters, its body -/
def okFn (G : Tab) (N ps : List Str) (sc : Scope) (body : List Stmt) (F : Fn) (m : Nat) : Bool :=
  scB N ps sc && (decide (ps.length = F.ps.length) && (decide (F.ns = N.length) && allS (chS G N m m sc) body F.body))
/-- how a def without defaults binds keywords -/
def KwB (x qual : Str) (params : Arguments) (body : List Stmt) (scope : Scope) (ps : List Str) (fps : List String) (q : Nat × List String) : Prop :=
  ∀ (kV doc pm : Value) (an : Option Addr) (cdv ct : Value) (us ws : List Value), us.length = q.1 → ws.length = q.2.length → ∃ rest, kwRest [] q.2 ws (fps.drop q.1) = some rest ∧
    bindArgs (PySem.W.fnOf x qual params body scope .none kV doc pm an cdv ct) ⟨us, (q.2.map PySem.Str.ofString).zip ws⟩ = pure (ps.zip (us ++ rest))
def AllK (Pq : Nat × List String → Prop) : List (Nat × List String) → Prop
  | [] => True
  | p :: l => Pq p ∧ AllK Pq l
theorem allK_of {Pq : Nat × List String → Prop} : ∀ {l : List (Nat × List String)}, AllK Pq l → ∀ q ∈ l, Pq q
  | [], _, _, h => by cases h
  | p :: l, h, q, e => by
    rcases List.mem_cons.mp e with rfl | e
    · exact h.1
    · exact allK_of h.2 q e
/-- a def whose last parameter is None where nothing is given -/
theorem fnSt1 {x qual : Str} {params : Arguments} {body : List Stmt} {scope : Scope} {kws : List (Str × V)} {a : Addr} {fd : FuncData} {N ps : List Str} {f : String} {F : Fn} {m : Nat} (D0 : FunD K x qual params body scope [V.non] kws a fd) (hm : mg f = some (.ref a))
    (hd : F.dfl = [.non]) (hkw : F.kwz = []) (hp : 0 < ps.length) (hc : okFn G N ps scope body F m = true)
    (hb0 : ∀ (T : Addr) (kV doc pm : Value) (an : Option Addr) (cdv ct : Value) (us its : List Value), us.length = ps.length → its.length = 1 →
      ∃ k, bindArgs (PySem.W.fnOf x qual params body scope (.ref T) kV doc pm an cdv ct) ⟨us, []⟩ = seqItems? (.ref T) >>= k ∧ k (some its.toArray) = pure (ps.zip (us ++ its.drop 1)))
    (hb1 : ∀ (T : Addr) (kV doc pm : Value) (an : Option Addr) (cdv ct : Value) (us its : List Value), us.length = ps.length - 1 → its.length = 1 →
      ∃ k, bindArgs (PySem.W.fnOf x qual params body scope (.ref T) kV doc pm an cdv ct) ⟨us, []⟩ = seqItems? (.ref T) >>= k ∧ k (some its.toArray) = pure (ps.zip (us ++ its.drop 0))) : FnSt P w K mg G f F := by
  obtain ⟨h1, h⟩ := ba2 hc
  obtain ⟨h2, h⟩ := ba2 h
  obtain ⟨h3, h4⟩ := ba2 h
  have hl := of_decide_eq_true h2
  obtain ⟨ds0, r0, b0⟩ := D0.binds1 ps.length 1 (by simp) (by simp) hb0
  obtain ⟨ds1, r1, b1⟩ := D0.binds1 (ps.length - 1) 0 (by simp) (by simp; omega) hb1
  refine ⟨⟨x, qual, params, body, scope, [V.non], kws, a, fd, N, ps, m, m, D0, scB_ok h1, hm, hl, of_decide_eq_true h3, h4, fun k hk hk2 => ?_⟩,
    ⟨x, qual, params, body, scope, [V.non], kws, a, fd, N, ps, m, m, D0, scB_ok h1, hm, hl, of_decide_eq_true h3, h4, fun q hq => by rw [hkw] at hq; cases hq⟩⟩
  rw [hd] at hk2 ⊢
  have hk2 : F.ps.length - k ≤ 1 := hk2
  have hdl : ds1.length = 1 := r1.length.symm
  have hd0 : ds0.length = 0 := r0.length.symm
  rcases (by omega : k = F.ps.length ∨ k = F.ps.length - 1) with rfl | rfl
  · refine ⟨[], ds0, r0, ?_, fun s us X hu => b0 s us X (by simp [hd0]; omega)⟩
    rw [Nat.sub_self]
    exact .nil
  · refine ⟨[V.non], ds1, r1, ?_, fun s us X hu => b1 s us X (by simp [hdl]; omega)⟩
    rw [show [D.non].length - (F.ps.length - (F.ps.length - 1)) = 0 by simp; omega]
    exact .cons .non .nil
theorem vals_drop : ∀ (n : Nat) {vs : List V} {us : List Value}, Vals vs us → Vals (vs.drop n) (us.drop n)
  | 0, _, _, h => h
  | _ + 1, _, _, .nil => .nil
  | n + 1, _, _, .cons _ t => vals_drop n t
/-- a def with defaults: how it binds -/
theorem bindsD {x qual : Str} {params : Arguments} {body : List Stmt} {scope : Scope} {dvs : List V} {kws : List (Str × V)} {a : Addr} {fd : FuncData} (D0 : FunD K x qual params body scope dvs kws a fd) (hd : dvs ≠ []) : ∃ its : List Value, Vals dvs its ∧
    ∀ (s : Shared) (us : List Value) (kw : List (Str × Value)) (r : List (Str × Value)), K.In s.heap → (∀ (T : Addr) (kV doc pm : Value) (an : Option Addr) (cdv ct : Value), ∃ k, bindArgs (PySem.W.fnOf x qual params body scope (.ref T) kV doc pm an cdv ct) ⟨us, kw⟩ = seqItems? (.ref T) >>= k ∧ k (some its.toArray) = pure r) →
      BindsTo s fd ⟨us, kw⟩ r := by
  obtain ⟨oc, od, dV, kV, doc, pm, an, cdv, ct, osl, rfl, lk, hcd, hD, hK⟩ := D0.ex
  rcases hD with ⟨e, _⟩ | ⟨_, T, o, its, m, rfl, lT, oT, rT⟩
  · exact absurd e hd
  · refine ⟨its, rT, fun s us kw r X h => ?_⟩
    obtain ⟨k, e1, e2⟩ := h T kV doc pm an cdv ct
    refine BindsTo.of_looks fun M => ?_
    rw [e1]
    exact looks_items X lT oT (.of_pure e2)
def AllM (Pq : Nat → Prop) : Nat → Prop
  | 0 => True
  | n + 1 => Pq n ∧ AllM Pq n
theorem allM_of {Pq : Nat → Prop} : ∀ {n : Nat}, AllM Pq n → ∀ i, i < n → Pq i
  | 0, _, _, h => by omega
  | n + 1, h, i, hi => by
    by_cases e : i = n
    · subst e; exact h.1
    · exact allM_of h.2 i (by omega)
/-- .. by place, j of the last ones left out -/
def PosD (x qual : Str) (params : Arguments) (body : List Stmt) (scope : Scope) (ps : List Str) (nd : Nat) (j : Nat) : Prop :=
  ∀ (T : Addr) (kV doc pm : Value) (an : Option Addr) (cdv ct : Value) (us its : List Value), us.length = ps.length - j → its.length = nd → ∃ k, bindArgs (PySem.W.fnOf x qual params body scope (.ref T) kV doc pm an cdv ct) ⟨us, []⟩ = seqItems? (.ref T) >>= k ∧ k (some its.toArray) = pure (ps.zip (us ++ its.drop (nd - j)))
/-- .. by names -/
def KwD (x qual : Str) (params : Arguments) (body : List Stmt) (scope : Scope) (ps : List Str) (nd : Nat) (fps : List String) (q : Nat × List String) : Prop :=
  ∀ (T : Addr) (kV doc pm : Value) (an : Option Addr) (cdv ct : Value) (us ws its : List Value), us.length = q.1 → ws.length = q.2.length → its.length = nd → ∃ rest k, kwRest its q.2 ws (fps.drop q.1) = some rest ∧
    bindArgs (PySem.W.fnOf x qual params body scope (.ref T) kV doc pm an cdv ct) ⟨us, (q.2.map PySem.Str.ofString).zip ws⟩ = seqItems? (.ref T) >>= k ∧ k (some its.toArray) = pure (ps.zip (us ++ rest))
section
variable {x qual : Str} {params : Arguments} {body : List Stmt} {scope : Scope} {dvs : List V} {kws : List (Str × V)} {a : Addr} {fd : FuncData} {N ps : List Str} {f : String} {F : Fn} {m : Nat}
theorem posD_ok (D0 : FunD K x qual params body scope dvs kws a fd) (hne : dvs ≠ []) (rd : Reps K [] (fun _ => False) Nil F.dfl dvs) (hl : ps.length = F.ps.length) (hb : AllM (PosD x qual params body scope ps dvs.length) (dvs.length + 1)) :
    ∀ m, m ≤ F.ps.length → F.ps.length - m ≤ F.dfl.length → ∃ (dvs : List V) (ds : List Value), Vals dvs ds ∧ Reps K [] (fun _ => False) Nil (F.dfl.drop (F.dfl.length - (F.ps.length - m))) dvs ∧
      ∀ (s : Shared) (us : List Value), K.In s.heap → us.length = m → BindsTo s fd ⟨us, []⟩ (ps.zip (us ++ ds)) := by
  intro m hm hm2
  obtain ⟨its, rv, bb⟩ := bindsD D0 hne
  have e1 := rd.length
  have e2 := rv.length
  refine ⟨dvs.drop (F.dfl.length - (F.ps.length - m)), its.drop (F.dfl.length - (F.ps.length - m)), ?_, rd.drop _, fun s us X hu => bb s us [] _ X fun T kV doc pm an cdv ct => ?_⟩
  · exact vals_drop _ rv
  · have := allM_of hb (F.ps.length - m) (by omega) T kV doc pm an cdv ct us its (by omega) (by omega)
    rw [e1]
    exact this
theorem kwD_ok (D0 : FunD K x qual params body scope dvs kws a fd) (hne : dvs ≠ []) (rd : Reps K [] (fun _ => False) Nil F.dfl dvs) (hk : AllK (KwD x qual params body scope ps dvs.length F.ps) F.kwz) :
    ∀ q ∈ F.kwz, ∃ (dvs : List V) (its : List Value), Vals dvs its ∧ Reps K [] (fun _ => False) Nil F.dfl dvs ∧
      ∀ (s : Shared) (us ws rest : List Value), K.In s.heap → us.length = q.1 → ws.length = q.2.length → kwRest its q.2 ws (F.ps.drop q.1) = some rest → BindsTo s fd ⟨us, (q.2.map PySem.Str.ofString).zip ws⟩ (ps.zip (us ++ rest)) := by
  intro q hq
  obtain ⟨its, rv, bb⟩ := bindsD D0 hne
  refine ⟨dvs, its, rv, rd, fun s us ws rest X hu hw hr => bb s us _ _ X fun T kV doc pm an cdv ct => ?_⟩
  obtain ⟨rest', k, e1, e2⟩ := allK_of hk q hq T kV doc pm an cdv ct us ws its hu hw rv.length.symm
  rw [hr] at e1
  cases e1
  exact ⟨k, e2⟩
/-- a def with defaults -/
theorem fnStD (D0 : FunD K x qual params body scope dvs kws a fd) (hm : mg f = some (.ref a)) (hne : dvs ≠ []) (rd : Reps K [] (fun _ => False) Nil F.dfl dvs) (hc : okFn G N ps scope body F m = true)
    (hb : AllM (PosD x qual params body scope ps dvs.length) (dvs.length + 1)) (hk : AllK (KwD x qual params body scope ps dvs.length F.ps) F.kwz) : FnSt P w K mg G f F := by
  obtain ⟨h1, h⟩ := ba2 hc
  obtain ⟨h2, h⟩ := ba2 h
  obtain ⟨h3, h4⟩ := ba2 h
  have hl := of_decide_eq_true h2
  exact ⟨⟨x, qual, params, body, scope, dvs, kws, a, fd, N, ps, m, m, D0, scB_ok h1, hm, hl, of_decide_eq_true h3, h4, posD_ok D0 hne rd hl hb⟩,
    ⟨x, qual, params, body, scope, dvs, kws, a, fd, N, ps, m, m, D0, scB_ok h1, hm, hl, of_decide_eq_true h3, h4, kwD_ok D0 hne rd hk⟩⟩
/-- all of a class's check -/
def okIn (G : Tab) (N ps : List Str) (sc : Scope) (body : List Stmt) (F : Fn) (b : List S) (m : Nat) : Bool :=
  scB N ps sc && (decide (ps.length = F.ps.length) && (decide (0 < ps.length) && (decide (F.ns = N.length) && (iniOk b && allS (chS G N m m sc) body b))))
/-- a class whose __init__ has defaults -/
theorem clStD {c : String} {b : List S} (D0 : FunD K x qual params body scope dvs kws a fd) (M : Mk K (He.ga K c) a) (hne : dvs ≠ []) (rd : Reps K [] (fun _ => False) Nil F.dfl dvs) (hbd : F.body = .slf c :: (b ++ [.ret (.sl 0)])) (hc : okIn G N ps scope body F b m = true)
    (hb : AllM (PosD x qual params body scope ps dvs.length) (dvs.length + 1)) (hk : AllK (KwD x qual params body scope ps dvs.length F.ps) F.kwz) : ClSt P w K mg G c F := by
  obtain ⟨h1, h⟩ := ba2 hc
  obtain ⟨h2, h⟩ := ba2 h
  obtain ⟨h0, h⟩ := ba2 h
  obtain ⟨h3, h⟩ := ba2 h
  obtain ⟨h5, h4⟩ := ba2 h
  have hl := of_decide_eq_true h2
  exact ⟨⟨x, qual, params, body, scope, dvs, kws, a, fd, N, ps, m, m, b, D0, scB_ok h1, M, hl, of_decide_eq_true h0, of_decide_eq_true h3, hbd, h5, h4, posD_ok D0 hne rd hl hb, kwD_ok D0 hne rd hk⟩⟩
/-- .. has none -/
theorem clSt0 {c : String} {b : List S} (D0 : FunD K x qual params body scope [] kws a fd) (M : Mk K (He.ga K c) a) (hd : F.dfl = []) (hbd : F.body = .slf c :: (b ++ [.ret (.sl 0)])) (hc : okIn G N ps scope body F b m = true)
    (hb : ∀ (kV doc pm : Value) (an : Option Addr) (cdv ct : Value) (us : List Value), us.length = ps.length → bindArgs (PySem.W.fnOf x qual params body scope .none kV doc pm an cdv ct) ⟨us, []⟩ = pure (ps.zip us))
    (hk : AllK (KwB x qual params body scope ps F.ps) F.kwz) : ClSt P w K mg G c F := by
  obtain ⟨h1, h⟩ := ba2 hc
  obtain ⟨h2, h⟩ := ba2 h
  obtain ⟨h0, h⟩ := ba2 h
  obtain ⟨h3, h⟩ := ba2 h
  obtain ⟨h5, h4⟩ := ba2 h
  have hl := of_decide_eq_true h2
  refine ⟨⟨x, qual, params, body, scope, [], kws, a, fd, N, ps, m, m, b, D0, scB_ok h1, M, hl, of_decide_eq_true h0, of_decide_eq_true h3, hbd, h5, h4, fun k hk hk2 => ⟨[], [], .nil, ?_, fun s us _ hu => ?_⟩, fun q hq => ⟨[], [], .nil, by rw [hd]; exact .nil, fun s us ws rest _ hu hw hr => ?_⟩⟩⟩
  · rw [hd]
    simp only [List.drop_nil]
    exact .nil
  · rw [hd] at hk2
    have hk2 : F.ps.length - k ≤ 0 := hk2
    rw [List.append_nil]
    exact D0.bindsA hb s us (by omega)
  · obtain ⟨oc, od, dV, kV, doc, pm, an, cdv, ct, osl, rfl, lk, hcd, hD, hK⟩ := D0.ex
    rcases hD with ⟨_, rfl⟩ | ⟨e, _⟩
    · obtain ⟨rest', e1, e2⟩ := allK_of hk q hq kV doc pm an cdv ct us ws hu hw
      rw [hr] at e1
      cases e1
      exact .of_eq e2
    · exact absurd rfl e
end
/-- a def without defaults -/
theorem fnSt0 {x qual : Str} {params : Arguments} {body : List Stmt} {scope : Scope} {kws : List (Str × V)} {a : Addr} {fd : FuncData} {N ps : List Str} {f : String} {F : Fn} {m : Nat} (D0 : FunD K x qual params body scope [] kws a fd) (hm : mg f = some (.ref a))
    (hd : F.dfl = []) (hc : okFn G N ps scope body F m = true) (hb : ∀ (kV doc pm : Value) (an : Option Addr) (cdv ct : Value) (us : List Value), us.length = ps.length → bindArgs (PySem.W.fnOf x qual params body scope .none kV doc pm an cdv ct) ⟨us, []⟩ = pure (ps.zip us))
    (hk : AllK (KwB x qual params body scope ps F.ps) F.kwz) : FnSt P w K mg G f F := by
  obtain ⟨h1, h⟩ := ba2 hc
  obtain ⟨h2, h⟩ := ba2 h
  obtain ⟨h3, h4⟩ := ba2 h
  have hl := of_decide_eq_true h2
  refine ⟨⟨x, qual, params, body, scope, [], kws, a, fd, N, ps, m, m, D0, scB_ok h1, hm, hl, of_decide_eq_true h3, h4, fun k hk hk2 => ⟨[], [], .nil, ?_, fun s us _ hu => ?_⟩⟩,
    ⟨x, qual, params, body, scope, [], kws, a, fd, N, ps, m, m, D0, scB_ok h1, hm, hl, of_decide_eq_true h3, h4, fun q hq => ⟨[], [], .nil, by rw [hd]; exact .nil, fun s us ws rest _ hu hw hr => ?_⟩⟩⟩
  · rw [hd]
    simp only [List.drop_nil]
    exact .nil
  · rw [hd] at hk2
    have hk2 : F.ps.length - k ≤ 0 := hk2
    rw [List.append_nil]
    exact D0.bindsA hb s us (by omega)
  · obtain ⟨oc, od, dV, kV, doc, pm, an, cdv, ct, osl, rfl, lk, hcd, hD, hK⟩ := D0.ex
    rcases hD with ⟨_, rfl⟩ | ⟨e, _⟩
    · obtain ⟨rest', e1, e2⟩ := allK_of hk q hq kV doc pm an cdv ct us ws hu hw
      rw [hr] at e1
      cases e1
      exact .of_eq e2
    · exact absurd rfl e
end

/-! ### the law's own call -/
def dInts (ns : List Int) : List D := ns.map .int
section
variable {P : Program} {w : World} {K : PySem.W.Frag} {mg mb : Str → Option Value} {k n : Nat} {fa a : Addr} {fd : FuncData} {x : Str} {s : Shared} {vs : List Value} {ns : List Int} {G : Tab}
theorem reps_ints {K : PySem.W.Frag} {ρ : List Addr} {M : Addr → Prop} {H : Hp} : ∀ ns : List Int, Reps K ρ M H (dInts ns) (ns.map V.int)
  | [] => .nil
  | n :: ns => .cons (.int n) (reps_ints ns)
theorem sim_nil {H : Hp} : Sim K [] (fun _ => False) ⟨[], [], 0⟩ [] H :=
  ⟨rfl, List.nodup_nil, fun _ h => (by simp at h), fun i ob a h => (by simp at h), fun i ob h => (by simp at h), Nat.le_refl _, fun _ h => h.elim, rfl, fun i d h => (by simp at h), fun i d h => (by simp at h), fun i j di dj a h => (by simp at h)⟩
theorem law_run (KX : K.In s.heap) (hns : s.heap.Ns mainGlobals mg) (hb : s.heap.Ns builtinsNs mb) (hbb : ∀ x : Str, x ≠ "__name__" → mb x = bootBuiltins x) (hlim : s.heap.NoLimit) (hg : s.gens = #[])
    (ha : s.heap.get? a = some { cls := .type "list", data := .seq vs.toArray }) (hi : IntsAre vs ns) (hl : ns.length ≤ sizeLine) (hr : Room (2 * n) callerA)
    (F : ∀ base : Heap, K.In base → base.Ns mainGlobals mg → FnG P w K mg base (2 * n) fa fd [x] (spF K (calN G n) "law" 1)) (hbind : ∀ (s : Shared) (u : Value), BindsTo s fd ⟨[u], []⟩ [(x, u)])
    (hrun : ∃ hp', calN G n "law" [.scr (dInts ns)] 0 [] = .ok (.bl true) hp') :
    codeAny (model P w) callerA (.call (.ref fa) ⟨[.ref a], []⟩) (fun r s' => r = .ok (.ret (.bool true)) ∧ OldK s.heap s'.heap ∧ s'.os = s.os ∧ AllBare s'.gens) s := by
  obtain ⟨hp', hrun⟩ := hrun
  have rv := vals_ints hi
  -- what is tracked: the script at most
  have core : ∀ H : Hp, (∀ b u, H b = some u → b = a ∧ ∃ ob xs, u = .frz ob (.lst xs)) → (H a ≠ none → K.lookup a = none) → HOk P w H s.heap → Rep K [] (Mu [] (fun _ => False) [] []) H (.scr (dInts ns)) (.ref a) →
      codeAny (model P w) callerA (.call (.ref fa) ⟨[.ref a], []⟩) (fun r s' => r = .ok (.ret (.bool true)) ∧ OldK s.heap s'.heap ∧ s'.os = s.os ∧ AllBare s'.gens) s := by
    intro H only apart hok rep
    have none_or : ∀ b, H b = none ∨ ∃ ob xs, H b = some (.frz ob (.lst xs)) := fun b => by
      cases q : H b with
      | none => exact .inl rfl
      | some u =>
        obtain ⟨_, ob, xs, e⟩ := only b u q
        subst e
        exact .inr ⟨ob, xs, rfl⟩
    have seen : ∀ {b : Addr} {o : Obj}, s.heap.get? b = some o → (∀ vs n, o.data ≠ .seq vs n) → (hidT s.heap H).get? b = some o := fun {b o} e d => hidT_get e (by
      cases q : H b with
      | none => rfl
      | some u =>
        obtain ⟨rfl, _⟩ := only b u q
        rw [ha] at e
        cases e
        exact absurd rfl (d _ _))
    have ns_ : ∀ {b : Addr} {m : Str → Option Value}, s.heap.Ns b m → (hidT s.heap H).Ns b m := fun {b m} ⟨o, es, ep, e, d, r⟩ => ⟨o, es, ep, seen e (fun _ _ z => by rw [d] at z; cases z), d, r⟩
    have kin : K.In (hidT s.heap H) := fun b o e => hidT_get (KX b o e) (by
      cases q : H b with
      | none => rfl
      | some u =>
        obtain ⟨rfl, _⟩ := only b u q
        rw [apart (by rw [q]; simp)] at e
        cases e)
    have e0 : Env0 P w K mg (hidT s.heap H) callerA [] s H := ⟨rfl, ⟨kin, ns_ hns, ⟨mb, ns_ hb, hbb⟩, let ⟨mc, h1, h2⟩ := hlim; ⟨mc, ns_ h1, h2⟩⟩, fun b o e => of_hidT e, Nat.le_of_eq (hidT_size _ _), trivial, fun b hb => (by cases hb), hok, .of_eq hg⟩
    refine codeAny_mono ((F _ kin (ns_ hns)).run callerA [] s H ⟨[.ref a], []⟩ [.ref a] [.ref a] (fun v _ => v = .bl true) E0 hr rfl e0 (hbind s (.ref a)) (.cons rfl .nil)
      ⟨[], fun _ => False, [.scr (dInts ns)], 0, [], .bl true, hp', rfl, sim_nil, .cons rep .nil, hrun, fun ρ' w H' _ _ r => r.blI⟩) fun r s' h => ?_
    cases r with
    | error e => exact False.elim h
    | ok fl =>
      cases fl with
      | next => exact False.elim h
      | brk => exact False.elim h
      | cont => exact False.elim h
      | ret u =>
        obtain ⟨v, H', os, bare, un, hok', r', q⟩ := h
        have q : v = .bl true := q
        subst q
        cases (show u = Value.bool true from r')
        refine ⟨rfl, OldK.of_keep fun b o e => ?_, os, bare⟩
        rcases none_or b with z | ⟨ob, xs, z⟩
        · exact un.keep b o e z (by intro z; cases z) (by intro z; cases z)
        · obtain ⟨e1, _⟩ := hok b _ z
          obtain ⟨e2, _⟩ := hok' b _ (un.frzs b ob _ z)
          rw [e] at e1
          cases e1
          exact e2
  have noM : ∀ b, ¬ Mu [] (fun _ => False) [] [] b := fun b m => by
    rcases m with m | m | m
    · cases m
    · exact m
    · exact no_own m
  cases hk : K.lookup a with
  | some o =>
    have e := KX a o hk
    rw [ha] at e
    cases e
    refine core Nil (fun b u z => by cases z) (fun z => absurd rfl z) (fun b u z => by cases z) (.scrK ⟨_, vs.toArray, _, hk, rfl, rfl, rfl, ?_, by simpa using rv⟩ (reps_ints ns))
    rw [List.size_toArray, hi.length]
    exact hl
  | none =>
    have at_ : ∀ {b : Addr} {u : HO}, (if b = a then some (HO.frz { cls := .type "list", data := .seq vs.toArray } (.lst (ns.map V.int))) else none) = some u → b = a ∧ u = .frz { cls := .type "list", data := .seq vs.toArray } (.lst (ns.map V.int)) := fun {b u} z => by
      split at z
      · cases z; exact ⟨by assumption, rfl⟩
      · cases z
    refine core (fun b => if b = a then some (.frz { cls := .type "list", data := .seq vs.toArray } (.lst (ns.map V.int))) else none) (fun b u z => ⟨(at_ z).1, _, _, (at_ z).2⟩) (fun _ => hk) (fun b u z => ?_) (.scr ⟨.inr ⟨_, if_pos rfl⟩, noM a⟩ (reps_ints ns))
    obtain ⟨rfl, rfl⟩ := at_ z
    exact ⟨ha, by rw [List.length_map]; exact hl, vs, _, rv, ha⟩
end
theorem sizeLine_63 : 63 ≤ sizeLine := by rw [sizeLine_eq]; decide
/-- the built-ins' names are free -/
theorem frees_ok {K : PySem.W.Frag} {mg : Str → Option Value} {h : Heap} {rest : List He.Fa} {fn : List He.DefD} (X : K.In h) (Gn : h.Ns mainGlobals mg) (c : He.SaysD (biNames.map He.Fa.free ++ rest) fn K) : ∀ x ∈ biNames, mg x = none := by
  intro x hx
  obtain ⟨i, hi⟩ := List.mem_iff_getElem?.mp hx
  refine He.free_ok X Gn (c.fact i (f := .free x) ?_)
  rw [List.getElem?_append_left (by rw [List.length_map]; exact (List.getElem?_eq_some_iff.mp hi).1), List.getElem?_map, hi]
  rfl
def AllC (Pq : String → D → Prop) : List (String × D) → Prop
  | [] => True
  | p :: l => Pq p.1 p.2 ∧ AllC Pq l
theorem allC_of {Pq : String → D → Prop} : ∀ {l : List (String × D)}, AllC Pq l → ∀ f F, l.lookup f = some F → Pq f F
  | [], _, _, _, h => by cases h
  | p :: l, h, f, F, e => by
    obtain ⟨f0, F0⟩ := p
    rw [List.lookup_cons] at e
    split at e
    · rename_i q
      have q : f = f0 := by simpa using q
      subst q
      cases e
      exact h.1
    · exact allC_of h.2 f F e
section
variable {K : PySem.W.Frag} {mg : Str → Option Value} {h : Heap}
theorem cInt {x : Str} {i : Int} (X : K.In h) (Gn : h.Ns mainGlobals mg) (c : (He.Fa.int x i).ok K = true) : ∃ v u, mg x = some u ∧ RelV v u ∧ Rep K [] (fun _ => False) Nil (.int i) v := by
  obtain ⟨t, e⟩ := He.int_ok X Gn c
  exact ⟨.int i, _, e, ⟨t, rfl⟩, .int i⟩
theorem cStr {x : Str} {z : List Nat} (X : K.In h) (Gn : h.Ns mainGlobals mg) (c : (He.Fa.str x ⟨z.toArray⟩).ok K = true) (hz : strOk z = true) : ∃ v u, mg x = some u ∧ RelV v u ∧ Rep K [] (fun _ => False) Nil (.str z) v := by
  obtain ⟨t, e⟩ := He.str_ok X Gn c
  exact ⟨.str ⟨z.toArray⟩, _, e, ⟨t, rfl⟩, .str z hz⟩
end
/-- the law's own def at a level -/
theorem law_fn {P : Program} {w : World} {K : PySem.W.Frag} {mg : Str → Option Value} {base : Heap} {G : Tab} {n : Nat} {x qual : Str} {params : Arguments} {body : List Stmt} {scope : Scope} {dvs : List V} {kws : List (Str × V)} {f : Addr} {fd : FuncData} {N ps : List Str} {F : Fn} {m : Nat}
    (D0 : FunD K x qual params body scope dvs kws f fd) (st : ∀ f F, G.fn f = some F → StF P w K mg G f F) (bl : ∀ x ∈ biNames, mg x = none) (cl : ClsF K mg G)
    (gl : ∀ z d, G.consts.lookup z = some d → ∃ v u, mg (z : Str) = some u ∧ RelV v u ∧ Rep K [] (fun _ => False) Nil d v) (shp : G.sh = shD) (hc : okFn G N ps scope body F m = true) (hF : G.fn "law" = some F) :
    FnG P w K mg base (2 * n) f fd ps (spF K (calN G n) "law" F.ps.length) := by
  obtain ⟨h1, h⟩ := ba2 hc
  obtain ⟨h2, h⟩ := ba2 h
  obtain ⟨h3, h4⟩ := ba2 h
  cases n with
  | zero =>
    refine ⟨fun vs H Q E q => by rw [of_decide_eq_true h2]; exact spF_len vs H Q E q, fun A outer s H args us vs Q E _ _ _ _ _ q => ?_⟩
    obtain ⟨_, _, _, _, _, _, _, _, _, _, q, _⟩ := q
    cases q
  | succ n => exact fnG_of D0 (scB_ok h1) hF (of_decide_eq_true h2) (of_decide_eq_true h3) h4 ⟨bl, gl, (fns_ok shp bl gl cl st n).1, (fns_ok shp bl gl cl st n).2, cl, shp⟩
/-- THE END: a law by its table's run -/
theorem law_end {l : PySem.W.OpenLaw} {most n : Nat} {q : Program} {loose : List Str} {XP : (Str → Option Value) → Heap → Prop} {YP : World → Heap → Prop} {d : DefRec} {x : Str} {G : Tab}
    (hn : l.most = some most) (hn2 : most ≤ sizeLine) (hdf : d.params.defaults = []) (hr : Room (2 * n) callerA) (hname : d.name = ("law" : Str))
    (facts : ∀ (w : World) (mg : Str → Option Value) (fa : Addr) (h : Heap), YP w h → h.Ns mainGlobals mg → mg ("law" : Str) = some (.ref fa) →
      ∃ (K : PySem.W.Frag) (fd : FuncData), K.In h ∧ (∀ (s : Shared) (u : Value), BindsTo s fd ⟨[u], []⟩ [(x, u)]) ∧
        ∀ base : Heap, K.In base → base.Ns mainGlobals mg → FnG l.prog w K mg base (2 * n) fa fd [x] (spF K (calN G n) "law" 1))
    (run : ∀ ns : List Int, ns.length ≤ most → ∃ hp', calN G n "law" [.scr (dInts ns)] 0 [] = .ok (.bl true) hp') :
    PySem.W.WalkO q loose XP YP l.row.toRowW d [] (fun f vs => PySem.call f vs) := by
  refine Att.attach_call hn hdf fun w s₀ s₁ mg mb fa o pm cd doc a vs ns Gr Y ho hd hcd hmg hobj hints hlen hg => ?_
  rw [hname] at hmg
  obtain ⟨K, fd, KX, hb, hFn⟩ := facts w mg fa _ Y Gr.T.g hmg
  exact law_run KX Gr.T.g Gr.T.b Gr.T.builtins Gr.T.nolimit hg hobj hints (Nat.le_trans hlen hn2) hr hFn hb (run ns hlen)
end Tw
end

section
set_option linter.all false
set_option autoImplicit false
set_option maxRecDepth 100000
set_option maxHeartbeats 4000000
/-! The head's facts of classes and of tables. -/
namespace Tw
open PySem L2 PyProof.Rows
/-- the class's own statements -/
def clsBody (s : Stmt) : List Stmt := match s with
  | .ClassDef _ _ _ b _ _ _ _ _ _ _ => b
  | _ => []
def kis : List (Cl × String) := [(.int, "int"), (.bool, "bool"), (.str, "str"), (.tuple, "tuple"), (.list, "list"), (.dict, "dict")]
theorem kis_all {k : Cl} {T : String} (h : clT k = some T) : (k, T) ∈ kis := by
  cases k <;> cases h <;> decide
/-- one class -/
def clB (K : PySem.W.Frag) (cs : List (String × List String)) (c : String) (l : List String) : Bool :=
  (He.Fa.cls c).ok K && ((He.Fa.glo c).ok K && (l.all (fun f => (He.Fa.noat c f).ok K) &&
    (decide (PySem.W.findIn K (.ref (He.ga K c)) "__class__" = some (some (.builtin "object.__class__"))) &&
    (decide (PySem.W.specialIn K (.builtin "object.__class__") "__get__" = some (some (.builtin "getset_descriptor.__get__"))) &&
    (decide (PySem.W.takesIn K (.builtin "object.__class__") = some true) &&
    (decide (PySem.W.mroIn K (He.ga K c) (.type "object") = some true) &&
    (kis.all (fun q => decide (PySem.W.kitOne K (.ref (He.ga K c)) (.type q.2) = some false)) &&
    (tyNames.all (fun t => decide (PySem.W.kitOne K (.type t) (.ref (He.ga K c)) = some false)) &&
    cs.all (fun q => decide (PySem.W.kitOne K (.ref (He.ga K c)) (.ref (He.ga K q.1)) = some (c == q.1)))))))))))
def clsFB (K : PySem.W.Frag) (cs : List (String × List String)) : Bool := cs.all fun p => clB K cs p.1 p.2
/-- the table's classes -/
def clsOf (G : Tab) : List (String × List String) := G.fns.filterMap fun p => match p.2.kd with
  | .ini l => some (p.1, l)
  | _ => none
theorem lookup_mem' {α : Type} : ∀ {l : List (String × α)} {c : String} {F : α}, l.lookup c = some F → (c, F) ∈ l
  | [], _, _, h => by cases h
  | (d, G) :: l, c, F, h => by
    rw [List.lookup_cons] at h
    split at h
    · rename_i q
      have q : c = d := by simpa using q
      subst q
      cases h
      exact List.mem_cons_self
    · exact List.mem_cons_of_mem _ (lookup_mem' h)
theorem okC_mem {G : Tab} {c : String} (h : okC G c = true) : ∃ l, (c, l) ∈ clsOf G ∧ ∀ f, okF G c f = true → f ∈ l := by
  cases hF : G.fn c with
  | none => unfold okC at h; rw [hF] at h; cases h
  | some F =>
    obtain ⟨l, e⟩ := okC_kd hF h
    refine ⟨l, List.mem_filterMap.mpr ⟨(c, F), lookup_mem' hF, by simp only [e]⟩, fun f hf => ?_⟩
    unfold okF at hf
    rw [hF] at hf
    simp only [e] at hf
    simpa using hf
theorem clsF_ok {K : PySem.W.Frag} {mg : Str → Option Value} {h : Heap} {G : Tab} {cs : List (String × List String)} (X : K.In h) (Gn : h.Ns mainGlobals mg) (hc : clsFB K cs = true) (hG : clsOf G = cs) : ClsF K mg G := by
  subst hG
  have one : ∀ c, okC G c = true → ∃ l, clB K (clsOf G) c l = true ∧ ∀ f, okF G c f = true → f ∈ l := fun c h => by
    obtain ⟨l, m, hl⟩ := okC_mem h
    exact ⟨l, List.all_eq_true.mp hc (c, l) m, hl⟩
  refine ⟨fun c h => ?_, fun c h => ?_, fun c f h => ?_, fun c h => ?_, fun c h => ?_, fun c h => ?_, fun c h => ?_, fun c h k T hT => ?_, fun c h t ht => ?_, fun c c' h h' => ?_⟩
  all_goals (obtain ⟨l, b, hl⟩ := one c (by first | exact h | exact okF_C h))
  all_goals (unfold clB at b)
  all_goals (obtain ⟨b1, b⟩ := ba2 b; obtain ⟨b2, b⟩ := ba2 b; obtain ⟨b3, b⟩ := ba2 b; obtain ⟨b4, b⟩ := ba2 b; obtain ⟨b5, b⟩ := ba2 b; obtain ⟨b6, b⟩ := ba2 b; obtain ⟨b7, b⟩ := ba2 b; obtain ⟨b8, b⟩ := ba2 b; obtain ⟨b9, b⟩ := ba2 b)
  · exact He.cls_ok b1
  · exact He.glo_ok X Gn b2
  · exact He.noat_ok (List.all_eq_true.mp b3 f (hl f h))
  · exact of_decide_eq_true b4
  · exact of_decide_eq_true b5
  · exact of_decide_eq_true b6
  · exact of_decide_eq_true b7
  · exact of_decide_eq_true (List.all_eq_true.mp b8 (k, T) (kis_all hT))
  · exact of_decide_eq_true (List.all_eq_true.mp b9 t ht)
  · obtain ⟨l', m, _⟩ := okC_mem h'
    exact of_decide_eq_true (List.all_eq_true.mp b (c', l') m)
/-- no classes -/
theorem clsF_nil {K : PySem.W.Frag} {mg : Str → Option Value} {G : Tab} (hG : clsOf G = []) : ClsF K mg G := by
  have no : ∀ c, okC G c ≠ true := fun c h => by
    obtain ⟨l, m, _⟩ := okC_mem h
    rw [hG] at m
    cases m
  exact ⟨fun c h => absurd h (no c), fun c h => absurd h (no c), fun c f h => absurd (okF_C h) (no c), fun c h => absurd h (no c), fun c h => absurd h (no c), fun c h => absurd h (no c), fun c h => absurd h (no c), fun c h => absurd h (no c), fun c h => absurd h (no c), fun c _ h => absurd h (no c)⟩
/-- a constant tuple -/
theorem cTup {K : PySem.W.Frag} {mg : Str → Option Value} {h : Heap} {x : Str} {vs : List He.Dv} {ds : List D} (X : K.In h) (Gn : h.Ns mainGlobals mg) (g : (He.Fa.glo x).ok K = true) (c : He.tupB K x vs = true) (hr : Reps K [] (fun _ => False) Nil ds (vs.map (He.Dv.v K))) :
    ∃ v u, mg x = some u ∧ RelV v u ∧ Rep K [] (fun _ => False) Nil (.tup ds) v := by
  refine ⟨.ref (He.ga K x), _, He.glo_ok X Gn g, rfl, ?_⟩
  rcases He.tupB_ok c Nil with e | ⟨o, its, n, e1, e2, e3, e4, e5⟩
  · rcases e with e | ⟨o, e⟩ <;> cases e
  · exact .tupK ⟨o, its, n, e1, e2, e3, e4, e5⟩ hr
/-! ### the Hook -/
abbrev AlT : Type := He.AlD × Bool
def obsT (fa : List He.Fa) (fn : List He.DefD) (fx : PySem.W.Frag → Bool) (K : PySem.W.Frag) : AlT := (He.obsD fa fn K, fx K)
def SaysT (fa : List He.Fa) (fn : List He.DefD) (fx : PySem.W.Frag → Bool) (K : PySem.W.Frag) : Prop := obsT fa fn fx K = (He.valD fn, true)
def obsTG (n : Nat) (fa : List He.Fa) (fn : List He.DefD) (fx : PySem.W.Frag → Bool) (g : Addr → Option Obj) : AlT := obsT fa fn fx (He.frG g (He.asD g n))
def hookT (n : Nat) (fa : List He.Fa) (fn : List He.DefD) (fx : PySem.W.Frag → Bool) : PySem.W.Hook where
  α := AlT
  obs := fun s => obsTG n fa fn fx s.heap.get?
  val := fun _ => (He.valD fn, true)
  says := fun _ h => ∃ K : PySem.W.Frag, K.In h ∧ SaysT fa fn fx K
  of := fun _ _ e => ⟨_, He.frG_in, e⟩
  keeps := fun _ _ _ ⟨K, hK, c⟩ k => ⟨K, PySem.W.Frag.In.keeps hK k, c⟩
theorem obsTG_eq {n : Nat} {fa : List He.Fa} {fn : List He.DefD} {fx : PySem.W.Frag → Bool} {g : Addr → Option Obj} {s : Shared} (h : ∀ a, g a = s.heap.get? a) : obsTG n fa fn fx g = (hookT n fa fn fx).obs s := by
  have e : g = s.heap.get? := funext h
  rw [e] <;> rfl
theorem SaysT.d {fa : List He.Fa} {fn : List He.DefD} {fx : PySem.W.Frag → Bool} {K : PySem.W.Frag} (c : SaysT fa fn fx K) : He.SaysD fa fn K := congrArg Prod.fst (show (_, _) = (_, _) from c)
theorem SaysT.x {fa : List He.Fa} {fn : List He.DefD} {fx : PySem.W.Frag → Bool} {K : PySem.W.Frag} (c : SaysT fa fn fx K) : fx K = true := congrArg Prod.snd (show (_, _) = (_, _) from c)
end Tw
end

section
set_option Elab.async false
set_option linter.all false
set_option maxRecDepth 100000
set_option maxHeartbeats 0
open PySem PySem.W PySem.Calls PyProof.Rows in
example : True := trivial
namespace Tw.K03.Hd
open PySem PySem.Spec PyProof.Rows L2 Tw
def top (i : Nat) : Stmt := PySem.Challenge.pw_takesworks_k03_what_days_may_be.main.body.getD i (.Pass ⟨0, 0, 0, 0⟩)
def d0 : He.DefD := ⟨("is_whole", none), "is_whole", "is_whole", defArgs (top 4), defBody (top 4), defScope (top 4), [], []⟩
def d1 : He.DefD := ⟨("is_between", none), "is_between", "is_between", defArgs (top 8), defBody (top 8), defScope (top 8), [], []⟩
def d2 : He.DefD := ⟨("is_long_year", none), "is_long_year", "is_long_year", defArgs (top 9), defBody (top 9), defScope (top 9), [], []⟩
def d3 : He.DefD := ⟨("days_in", none), "days_in", "days_in", defArgs (top 10), defBody (top 10), defScope (top 10), [], []⟩
def d4 : He.DefD := ⟨("are_parts", none), "are_parts", "are_parts", defArgs (top 11), defBody (top 11), defScope (top 11), [], []⟩
def d5 : He.DefD := ⟨("Day", some "__init__"), "__init__", "Day.__init__", defArgs ((clsBody (top 12)).getD 0 (.Pass ⟨0, 0, 0, 0⟩)), defBody ((clsBody (top 12)).getD 0 (.Pass ⟨0, 0, 0, 0⟩)), defScope ((clsBody (top 12)).getD 0 (.Pass ⟨0, 0, 0, 0⟩)), [.non, .non], []⟩
def d6 : He.DefD := ⟨("parts_of", none), "parts_of", "parts_of", defArgs (top 13), defBody (top 13), defScope (top 13), [], []⟩
def d7 : He.DefD := ⟨("earliest", none), "earliest", "earliest", defArgs (top 14), defBody (top 14), defScope (top 14), [], []⟩
def d8 : He.DefD := ⟨("latest", none), "latest", "latest", defArgs (top 15), defBody (top 15), defScope (top 15), [], []⟩
def d9 : He.DefD := ⟨("may_be", none), "may_be", "may_be", defArgs (top 16), defBody (top 16), defScope (top 16), [], []⟩
def d10 : He.DefD := ⟨("_law_hand", none), "_law_hand", "_law_hand", defArgs (top 18), defBody (top 18), defScope (top 18), [], []⟩
def d11 : He.DefD := ⟨("_law_take", none), "_law_take", "_law_take", defArgs (top 19), defBody (top 19), defScope (top 19), [], []⟩
def d12 : He.DefD := ⟨("_law_pick", none), "_law_pick", "_law_pick", defArgs (top 20), defBody (top 20), defScope (top 20), [], []⟩
def d13 : He.DefD := ⟨("_law_last", none), "_law_last", "_law_last", defArgs (top 21), defBody (top 21), defScope (top 21), [], []⟩
def d14 : He.DefD := ⟨("_law_parts", none), "_law_parts", "_law_parts", defArgs (top 22), defBody (top 22), defScope (top 22), [], []⟩
def d15 : He.DefD := ⟨("_law_of", none), "_law_of", "_law_of", defArgs (top 23), defBody (top 23), defScope (top 23), [], []⟩
def d16 : He.DefD := ⟨("_law_told", none), "_law_told", "_law_told", defArgs (top 24), defBody (top 24), defScope (top 24), [], []⟩
def d17 : He.DefD := ⟨("_law_ends", none), "_law_ends", "_law_ends", defArgs (top 25), defBody (top 25), defScope (top 25), [], []⟩
def d18 : He.DefD := ⟨("_law_beside", none), "_law_beside", "_law_beside", defArgs (top 26), defBody (top 26), defScope (top 26), [], []⟩
def d19 : He.DefD := ⟨("_law_may", none), "_law_may", "_law_may", defArgs (top 27), defBody (top 27), defScope (top 27), [], []⟩
def d20 : He.DefD := ⟨("_law_right", none), "_law_right", "_law_right", defArgs (top 28), defBody (top 28), defScope (top 28), [], []⟩
def d21 : He.DefD := ⟨("law", none), "law", "law", defArgs (top 29), defBody (top 29), defScope (top 29), [], []⟩
def fn : List He.DefD := [d0, d1, d2, d3, d4, d5, d6, d7, d8, d9, d10, d11, d12, d13, d14, d15, d16, d17, d18, d19, d20, d21]
def cls : List (String × List String) := [("Day", ["year", "month", "day"])]
def fx (K : PySem.W.Frag) : Bool := clsFB K cls && He.tupB K "MONTHS" [.int 31, .int 28, .int 31, .int 30, .int 31, .int 30, .int 31, .int 31, .int 30, .int 31, .int 30, .int 31]
def fa : List He.Fa := biNames.map He.Fa.free ++ [.glo "is_whole", .glo "is_between", .glo "is_long_year", .glo "days_in", .glo "are_parts", .mkr "Day", .glo "parts_of", .glo "earliest", .glo "latest", .glo "may_be", .glo "_law_hand", .glo "_law_take", .glo "_law_pick", .glo "_law_last", .glo "_law_parts", .glo "_law_of", .glo "_law_told", .glo "_law_ends", .glo "_law_beside", .glo "_law_may", .glo "_law_right", .glo "law", .int "MOST_YEAR" 9999, .glo "MONTHS"]
abbrev R : PySem.W.OpenRow := PySem.W.OpenLaw.row PySem.Challenge.rw_takesworks_k03_what_days_may_be
abbrev hk : PySem.W.Hook := hookT 5 fa fn fx
def ob (s : PySem.W.SharedT) : AlT := obsTG 5 fa fn fx (HandSHeadRun.getT s)
theorem ob_eq (s : PySem.W.SharedT) : ob s = hk.obs s.abs := obsTG_eq (HandSHeadRun.getT_eq s)
def nm0 : List Str := ["NotSuch", "NoDay", "is_whole", "MOST_YEAR", "MONTHS", "is_between", "is_long_year", "days_in", "are_parts", "Day", "parts_of", "earliest", "latest", "may_be", "_law_hand", "_law_take", "_law_pick", "_law_last", "_law_parts", "_law_of", "_law_told", "_law_ends", "_law_beside", "_law_may", "_law_right"]
def names : List Str := nm0
theorem run (w : World) : HandSHeadRun.RunEq R (PySem.W.view R.prog [29]) hk ob 12000 names w := by
  intro os
  kernel_rfl
theorem ck_is_whole : okFn G ["thing"] ["thing"] (defScope (top 4)) (defBody (top 4)) F_is_whole 60 = true := by kernel_rfl
theorem ck_is_between : okFn G ["thing", "least", "most"] ["thing", "least", "most"] (defScope (top 8)) (defBody (top 8)) F_is_between 60 = true := by kernel_rfl
theorem ck_is_long_year : okFn G ["year"] ["year"] (defScope (top 9)) (defBody (top 9)) F_is_long_year 60 = true := by kernel_rfl
theorem ck_days_in : okFn G ["year", "month"] ["year", "month"] (defScope (top 10)) (defBody (top 10)) F_days_in 60 = true := by kernel_rfl
theorem ck_are_parts : okFn G ["year", "month", "day"] ["year", "month", "day"] (defScope (top 11)) (defBody (top 11)) F_are_parts 60 = true := by kernel_rfl
theorem ck_Day : okIn G ["self", "year", "month", "day"] ["self", "year", "month", "day"] (defScope ((clsBody (top 12)).getD 0 (.Pass ⟨0, 0, 0, 0⟩))) (defBody ((clsBody (top 12)).getD 0 (.Pass ⟨0, 0, 0, 0⟩))) F_Day B_Day 60 = true := by kernel_rfl
theorem ck_parts_of : okFn G ["day"] ["day"] (defScope (top 13)) (defBody (top 13)) F_parts_of 60 = true := by kernel_rfl
theorem ck_earliest : okFn G ["day"] ["day"] (defScope (top 14)) (defBody (top 14)) F_earliest 60 = true := by kernel_rfl
theorem ck_latest : okFn G ["day", "month"] ["day"] (defScope (top 15)) (defBody (top 15)) F_latest 60 = true := by kernel_rfl
theorem ck_may_be : okFn G ["one", "other", "mine", "its"] ["one", "other"] (defScope (top 16)) (defBody (top 16)) F_may_be 60 = true := by kernel_rfl
theorem ck__law_hand : okFn G ["_law_script", "_law_k", "_law_cell", "_law_great"] ["_law_script", "_law_k"] (defScope (top 18)) (defBody (top 18)) F__law_hand 60 = true := by kernel_rfl
theorem ck__law_take : okFn G ["_law_hand_here", "_law_many", "_law_digit", "_law_mixed"] ["_law_hand_here", "_law_many"] (defScope (top 19)) (defBody (top 19)) F__law_take 60 = true := by kernel_rfl
theorem ck__law_pick : okFn G ["_law_hand_here", "_law_some"] ["_law_hand_here", "_law_some"] (defScope (top 20)) (defBody (top 20)) F__law_pick 60 = true := by kernel_rfl
theorem ck__law_last : okFn G ["_law_y", "_law_m", "_law_fourth", "_law_hundredth"] ["_law_y", "_law_m"] (defScope (top 21)) (defBody (top 21)) F__law_last 60 = true := by kernel_rfl
theorem ck__law_parts : okFn G ["_law_hand_here", "_law_some", "_law_y", "_law_tells", "_law_m", "_law_last_here", "_law_d"] ["_law_hand_here"] (defScope (top 22)) (defBody (top 22)) F__law_parts 60 = true := by kernel_rfl
theorem ck__law_of : okFn G ["_law_parts_here"] ["_law_parts_here"] (defScope (top 23)) (defBody (top 23)) F__law_of 60 = true := by kernel_rfl
theorem ck__law_told : okFn G ["_law_d"] ["_law_d"] (defScope (top 24)) (defBody (top 24)) F__law_told 60 = true := by kernel_rfl
theorem ck__law_ends : okFn G ["_law_parts_here", "_law_y", "_law_m", "_law_d", "_law_first", "_law_end"] ["_law_parts_here"] (defScope (top 25)) (defBody (top 25)) F__law_ends 60 = true := by kernel_rfl
theorem ck__law_beside : okFn G ["_law_hand_here", "_law_parts_here", "_law_y", "_law_m", "_law_d", "_law_other", "_law_some"] ["_law_hand_here", "_law_parts_here"] (defScope (top 26)) (defBody (top 26)) F__law_beside 60 = true := by kernel_rfl
theorem ck__law_may : okFn G ["_law_one", "_law_other", "_law_mine", "_law_its"] ["_law_one", "_law_other"] (defScope (top 27)) (defBody (top 27)) F__law_may 60 = true := by kernel_rfl
theorem ck__law_right : okFn G ["_law_hand_here", "_law_parts_here", "_law_one", "_law_ends_here", "_law_first", "_law_end", "_law_turn", "_law_near", "_law_due", "_law_other"] ["_law_hand_here"] (defScope (top 28)) (defBody (top 28)) F__law_right 60 = true := by kernel_rfl
theorem ck_law : okFn G ["_law_script", "_law_k"] ["_law_script"] (defScope (top 29)) (defBody (top 29)) F_law 60 = true := by kernel_rfl
section
variable {P : Program} {w : World} {K : PySem.W.Frag} {mg : Str → Option Value} {h : Heap}
theorem st_is_whole (X : K.In h) (Gn : h.Ns mainGlobals mg) (c : He.SaysD fa fn K) : FnSt P w K mg G "is_whole" F_is_whole := by
  obtain ⟨fd, D0⟩ := c.def_ 0 (d := d0) rfl
  exact fnSt0 D0 (He.glo_ok X Gn (c.fact 21 (f := .glo "is_whole") rfl)) rfl ck_is_whole (fun _ _ _ _ _ _ us hl => match us, hl with | [_], _ => rfl) trivial
theorem st_is_between (X : K.In h) (Gn : h.Ns mainGlobals mg) (c : He.SaysD fa fn K) : FnSt P w K mg G "is_between" F_is_between := by
  obtain ⟨fd, D0⟩ := c.def_ 1 (d := d1) rfl
  exact fnSt0 D0 (He.glo_ok X Gn (c.fact 22 (f := .glo "is_between") rfl)) rfl ck_is_between (fun _ _ _ _ _ _ us hl => match us, hl with | [_, _, _], _ => rfl) trivial
theorem st_is_long_year (X : K.In h) (Gn : h.Ns mainGlobals mg) (c : He.SaysD fa fn K) : FnSt P w K mg G "is_long_year" F_is_long_year := by
  obtain ⟨fd, D0⟩ := c.def_ 2 (d := d2) rfl
  exact fnSt0 D0 (He.glo_ok X Gn (c.fact 23 (f := .glo "is_long_year") rfl)) rfl ck_is_long_year (fun _ _ _ _ _ _ us hl => match us, hl with | [_], _ => rfl) trivial
theorem st_days_in (X : K.In h) (Gn : h.Ns mainGlobals mg) (c : He.SaysD fa fn K) : FnSt P w K mg G "days_in" F_days_in := by
  obtain ⟨fd, D0⟩ := c.def_ 3 (d := d3) rfl
  exact fnSt0 D0 (He.glo_ok X Gn (c.fact 24 (f := .glo "days_in") rfl)) rfl ck_days_in (fun _ _ _ _ _ _ us hl => match us, hl with | [_, _], _ => rfl) trivial
theorem st_are_parts (X : K.In h) (Gn : h.Ns mainGlobals mg) (c : He.SaysD fa fn K) : FnSt P w K mg G "are_parts" F_are_parts := by
  obtain ⟨fd, D0⟩ := c.def_ 4 (d := d4) rfl
  exact fnSt0 D0 (He.glo_ok X Gn (c.fact 25 (f := .glo "are_parts") rfl)) rfl ck_are_parts (fun _ _ _ _ _ _ us hl => match us, hl with | [_, _, _], _ => rfl) trivial
theorem st_Day (X : K.In h) (Gn : h.Ns mainGlobals mg) (c : He.SaysD fa fn K) : ClSt P w K mg G "Day" F_Day := by
  obtain ⟨fd, D0⟩ := c.def_ 5 (d := d5) rfl
  exact clStD D0 (He.mkr_ok (c.fact 26 (f := .mkr "Day") rfl)) nofun (.cons .non (.cons .non .nil)) rfl ck_Day ⟨fun _ _ _ _ _ _ _ us its h1 h2 => match us, its, h1, h2 with | [_, _], [_, _], _, _ => ⟨_, rfl, rfl⟩, fun _ _ _ _ _ _ _ us its h1 h2 => match us, its, h1, h2 with | [_, _, _], [_, _], _, _ => ⟨_, rfl, rfl⟩, fun _ _ _ _ _ _ _ us its h1 h2 => match us, its, h1, h2 with | [_, _, _, _], [_, _], _, _ => ⟨_, rfl, rfl⟩, trivial⟩ ⟨fun _ _ _ _ _ _ _ us ws its h1 h2 h3 => match us, ws, its, h1, h2, h3 with | [_, _], [_, _], [_, _], _, _, _ => ⟨_, _, rfl, rfl, rfl⟩, trivial⟩
theorem st_parts_of (X : K.In h) (Gn : h.Ns mainGlobals mg) (c : He.SaysD fa fn K) : FnSt P w K mg G "parts_of" F_parts_of := by
  obtain ⟨fd, D0⟩ := c.def_ 6 (d := d6) rfl
  exact fnSt0 D0 (He.glo_ok X Gn (c.fact 27 (f := .glo "parts_of") rfl)) rfl ck_parts_of (fun _ _ _ _ _ _ us hl => match us, hl with | [_], _ => rfl) trivial
theorem st_earliest (X : K.In h) (Gn : h.Ns mainGlobals mg) (c : He.SaysD fa fn K) : FnSt P w K mg G "earliest" F_earliest := by
  obtain ⟨fd, D0⟩ := c.def_ 7 (d := d7) rfl
  exact fnSt0 D0 (He.glo_ok X Gn (c.fact 28 (f := .glo "earliest") rfl)) rfl ck_earliest (fun _ _ _ _ _ _ us hl => match us, hl with | [_], _ => rfl) trivial
theorem st_latest (X : K.In h) (Gn : h.Ns mainGlobals mg) (c : He.SaysD fa fn K) : FnSt P w K mg G "latest" F_latest := by
  obtain ⟨fd, D0⟩ := c.def_ 8 (d := d8) rfl
  exact fnSt0 D0 (He.glo_ok X Gn (c.fact 29 (f := .glo "latest") rfl)) rfl ck_latest (fun _ _ _ _ _ _ us hl => match us, hl with | [_], _ => rfl) trivial
theorem st_may_be (X : K.In h) (Gn : h.Ns mainGlobals mg) (c : He.SaysD fa fn K) : FnSt P w K mg G "may_be" F_may_be := by
  obtain ⟨fd, D0⟩ := c.def_ 9 (d := d9) rfl
  exact fnSt0 D0 (He.glo_ok X Gn (c.fact 30 (f := .glo "may_be") rfl)) rfl ck_may_be (fun _ _ _ _ _ _ us hl => match us, hl with | [_, _], _ => rfl) trivial
theorem st__law_hand (X : K.In h) (Gn : h.Ns mainGlobals mg) (c : He.SaysD fa fn K) : FnSt P w K mg G "_law_hand" F__law_hand := by
  obtain ⟨fd, D0⟩ := c.def_ 10 (d := d10) rfl
  exact fnSt0 D0 (He.glo_ok X Gn (c.fact 31 (f := .glo "_law_hand") rfl)) rfl ck__law_hand (fun _ _ _ _ _ _ us hl => match us, hl with | [_, _], _ => rfl) trivial
theorem st__law_take (X : K.In h) (Gn : h.Ns mainGlobals mg) (c : He.SaysD fa fn K) : FnSt P w K mg G "_law_take" F__law_take := by
  obtain ⟨fd, D0⟩ := c.def_ 11 (d := d11) rfl
  exact fnSt0 D0 (He.glo_ok X Gn (c.fact 32 (f := .glo "_law_take") rfl)) rfl ck__law_take (fun _ _ _ _ _ _ us hl => match us, hl with | [_, _], _ => rfl) trivial
theorem st__law_pick (X : K.In h) (Gn : h.Ns mainGlobals mg) (c : He.SaysD fa fn K) : FnSt P w K mg G "_law_pick" F__law_pick := by
  obtain ⟨fd, D0⟩ := c.def_ 12 (d := d12) rfl
  exact fnSt0 D0 (He.glo_ok X Gn (c.fact 33 (f := .glo "_law_pick") rfl)) rfl ck__law_pick (fun _ _ _ _ _ _ us hl => match us, hl with | [_, _], _ => rfl) trivial
theorem st__law_last (X : K.In h) (Gn : h.Ns mainGlobals mg) (c : He.SaysD fa fn K) : FnSt P w K mg G "_law_last" F__law_last := by
  obtain ⟨fd, D0⟩ := c.def_ 13 (d := d13) rfl
  exact fnSt0 D0 (He.glo_ok X Gn (c.fact 34 (f := .glo "_law_last") rfl)) rfl ck__law_last (fun _ _ _ _ _ _ us hl => match us, hl with | [_, _], _ => rfl) trivial
theorem st__law_parts (X : K.In h) (Gn : h.Ns mainGlobals mg) (c : He.SaysD fa fn K) : FnSt P w K mg G "_law_parts" F__law_parts := by
  obtain ⟨fd, D0⟩ := c.def_ 14 (d := d14) rfl
  exact fnSt0 D0 (He.glo_ok X Gn (c.fact 35 (f := .glo "_law_parts") rfl)) rfl ck__law_parts (fun _ _ _ _ _ _ us hl => match us, hl with | [_], _ => rfl) trivial
theorem st__law_of (X : K.In h) (Gn : h.Ns mainGlobals mg) (c : He.SaysD fa fn K) : FnSt P w K mg G "_law_of" F__law_of := by
  obtain ⟨fd, D0⟩ := c.def_ 15 (d := d15) rfl
  exact fnSt0 D0 (He.glo_ok X Gn (c.fact 36 (f := .glo "_law_of") rfl)) rfl ck__law_of (fun _ _ _ _ _ _ us hl => match us, hl with | [_], _ => rfl) trivial
theorem st__law_told (X : K.In h) (Gn : h.Ns mainGlobals mg) (c : He.SaysD fa fn K) : FnSt P w K mg G "_law_told" F__law_told := by
  obtain ⟨fd, D0⟩ := c.def_ 16 (d := d16) rfl
  exact fnSt0 D0 (He.glo_ok X Gn (c.fact 37 (f := .glo "_law_told") rfl)) rfl ck__law_told (fun _ _ _ _ _ _ us hl => match us, hl with | [_], _ => rfl) trivial
theorem st__law_ends (X : K.In h) (Gn : h.Ns mainGlobals mg) (c : He.SaysD fa fn K) : FnSt P w K mg G "_law_ends" F__law_ends := by
  obtain ⟨fd, D0⟩ := c.def_ 17 (d := d17) rfl
  exact fnSt0 D0 (He.glo_ok X Gn (c.fact 38 (f := .glo "_law_ends") rfl)) rfl ck__law_ends (fun _ _ _ _ _ _ us hl => match us, hl with | [_], _ => rfl) trivial
theorem st__law_beside (X : K.In h) (Gn : h.Ns mainGlobals mg) (c : He.SaysD fa fn K) : FnSt P w K mg G "_law_beside" F__law_beside := by
  obtain ⟨fd, D0⟩ := c.def_ 18 (d := d18) rfl
  exact fnSt0 D0 (He.glo_ok X Gn (c.fact 39 (f := .glo "_law_beside") rfl)) rfl ck__law_beside (fun _ _ _ _ _ _ us hl => match us, hl with | [_, _], _ => rfl) trivial
theorem st__law_may (X : K.In h) (Gn : h.Ns mainGlobals mg) (c : He.SaysD fa fn K) : FnSt P w K mg G "_law_may" F__law_may := by
  obtain ⟨fd, D0⟩ := c.def_ 19 (d := d19) rfl
  exact fnSt0 D0 (He.glo_ok X Gn (c.fact 40 (f := .glo "_law_may") rfl)) rfl ck__law_may (fun _ _ _ _ _ _ us hl => match us, hl with | [_, _], _ => rfl) trivial
theorem st__law_right (X : K.In h) (Gn : h.Ns mainGlobals mg) (c : He.SaysD fa fn K) : FnSt P w K mg G "_law_right" F__law_right := by
  obtain ⟨fd, D0⟩ := c.def_ 20 (d := d20) rfl
  exact fnSt0 D0 (He.glo_ok X Gn (c.fact 41 (f := .glo "_law_right") rfl)) rfl ck__law_right (fun _ _ _ _ _ _ us hl => match us, hl with | [_], _ => rfl) trivial
theorem st_law (X : K.In h) (Gn : h.Ns mainGlobals mg) (c : He.SaysD fa fn K) : FnSt P w K mg G "law" F_law := by
  obtain ⟨fd, D0⟩ := c.def_ 21 (d := d21) rfl
  exact fnSt0 D0 (He.glo_ok X Gn (c.fact 42 (f := .glo "law") rfl)) rfl ck_law (fun _ _ _ _ _ _ us hl => match us, hl with | [_], _ => rfl) trivial
theorem sts (X : K.In h) (Gn : h.Ns mainGlobals mg) (c : He.SaysD fa fn K) : ∀ f F, G.fn f = some F → StF P w K mg G f F :=
  allF_of (show AllF _ tab from ⟨st_is_whole X Gn c, st_is_between X Gn c, st_is_long_year X Gn c, st_days_in X Gn c, st_are_parts X Gn c, st_Day X Gn c, st_parts_of X Gn c, st_earliest X Gn c, st_latest X Gn c, st_may_be X Gn c, st__law_hand X Gn c, st__law_take X Gn c, st__law_pick X Gn c, st__law_last X Gn c, st__law_parts X Gn c, st__law_of X Gn c, st__law_told X Gn c, st__law_ends X Gn c, st__law_beside X Gn c, st__law_may X Gn c, st__law_right X Gn c, st_law X Gn c, trivial⟩)
theorem clsf (X : K.In h) (Gn : h.Ns mainGlobals mg) (c : fx K = true) : ClsF K mg G := clsF_ok X Gn (ba2 c).1 rfl
theorem bls (X : K.In h) (Gn : h.Ns mainGlobals mg) (c : He.SaysD fa fn K) : ∀ x ∈ biNames, mg x = none := frees_ok X Gn c
theorem consts_ok (X : K.In h) (Gn : h.Ns mainGlobals mg) (c0 : He.SaysD fa fn K) (c : fx K = true) (z : String) (d : D) (e : G.consts.lookup z = some d) : ∃ v u, mg (z : Str) = some u ∧ RelV v u ∧ Rep K [] (fun _ => False) Nil d v :=
  allC_of (Pq := fun z d => ∃ v u, mg (z : Str) = some u ∧ RelV v u ∧ Rep K [] (fun _ => False) Nil d v) (show AllC _ cst from ⟨cInt X Gn (c0.fact 43 rfl), cTup X Gn (c0.fact 44 rfl) ((ba2 c).2) (.cons (.int _) (.cons (.int _) (.cons (.int _) (.cons (.int _) (.cons (.int _) (.cons (.int _) (.cons (.int _) (.cons (.int _) (.cons (.int _) (.cons (.int _) (.cons (.int _) (.cons (.int _) .nil)))))))))))), trivial⟩) z d e
end
theorem holds (plain : ∀ ns : List Int, ns.length ≤ 63 → ∃ hp', calN G 40 "law" [.scr (dInts ns)] 0 [] = .ok (.bl true) hp') : PySem.Challenge.rw_takesworks_k03_what_days_may_be.Holds := by
  w_on; o_law
  refine HandSHeadRun.head_any (r := PySem.W.OpenLaw.row PySem.Challenge.rw_takesworks_k03_what_days_may_be) (q := PySem.W.view (PySem.W.OpenLaw.row PySem.Challenge.rw_takesworks_k03_what_days_may_be).prog [29]) (H := hk) (ob := ob) (M := 12000) (loose := names) (d := HandSHeadRun.topDef (PySem.W.OpenLaw.row PySem.Challenge.rw_takesworks_k03_what_days_may_be).prog 29) (kwd := []) ob_eq
    (by kernel_rfl) (fun s => by kernel_rfl) run (by kernel_rfl) (by kernel_rfl) (by kernel_rfl) (by rfl) (by first | assumption | decide +kernel) (by decide +kernel) ⟨rfl, rfl, rfl, rfl, rfl, by decide +kernel⟩ ?hw ?hc
  case hw => w_witness2
  case hc =>
    refine law_end (l := PySem.Challenge.rw_takesworks_k03_what_days_may_be) (most := 63) (n := 40) (x := "_law_script") (G := G) rfl (by decide) (by kernel_rfl) ⟨rfl, by decide, by decide⟩ (by kernel_rfl) ?_ plain
    intro w mg fad h Y Gn hmg
    obtain ⟨K, KX, cT⟩ := Y
    have c := cT.d
    obtain ⟨fd, D0⟩ := c.def_ 21 (d := d21) rfl
    have e := hmg.symm.trans (He.glo_ok KX Gn (c.fact 42 (f := .glo "law") rfl))
    cases e
    refine ⟨K, fd, KX, fun s u => D0.bindsA (ps := ["_law_script"]) (fun _ _ _ _ _ _ us hl => match us, hl with | [_], _ => rfl) s [u] rfl, fun base _ _ => ?_⟩
    exact law_fn D0 (sts KX Gn c) (bls KX Gn c) (clsf KX Gn cT.x) (consts_ok KX Gn c cT.x) rfl ck_law rfl
end Tw.K03.Hd
end

section
set_option linter.all false
set_option autoImplicit false
/-! Works as trees, their spans, and backward (k82, k41..k43). -/
namespace Tw
inductive Wk where
  | node (nm : D) (ps : List Wk)
mutual
/-- how many leaves -/
def lvs : Wk → Nat
  | .node _ ps => if ps.isEmpty then 1 else lvss ps
def lvss : List Wk → Nat
  | [] => 0
  | p :: ps => lvs p + lvss ps
end
abbrev Named := D × Nat × Nat
mutual
/-- each part's span, from above -/
def spW : Wk → Nat → List Named
  | .node nm ps, b => (nm, b, b + (if ps.isEmpty then 1 else lvss ps)) :: spWs ps b
def spWs : List Wk → Nat → List Named
  | [], _ => []
  | p :: ps, b => spW p b ++ spWs ps (b + lvs p)
end
mutual
def bwd : Wk → Wk
  | .node nm ps => .node nm (bwds ps).reverse
def bwds : List Wk → List Wk
  | [] => []
  | p :: ps => bwd p :: bwds ps
end
mutual
def datW : Wk → D
  | .node nm ps => .tup [nm, .tup (datWs ps)]
def datWs : List Wk → List D
  | [] => []
  | p :: ps => datW p :: datWs ps
end
theorem lvss_app : ∀ a b : List Wk, lvss (a ++ b) = lvss a + lvss b
  | [], b => by show lvss b = 0 + lvss b; omega
  | p :: a, b => by
    show lvs p + lvss (a ++ b) = lvs p + lvss a + lvss b
    rw [lvss_app a b]
    omega
theorem spWs_app : ∀ (a b : List Wk) (k : Nat), spWs (a ++ b) k = spWs a k ++ spWs b (k + lvss a)
  | [], b, k => rfl
  | p :: a, b, k => by
    show spW p k ++ spWs (a ++ b) (k + lvs p) = (spW p k ++ spWs a (k + lvs p)) ++ spWs b (k + (lvs p + lvss a))
    rw [spWs_app a b, List.append_assoc, Nat.add_assoc]
theorem lvss_rev : ∀ a : List Wk, lvss a.reverse = lvss a
  | [] => rfl
  | p :: a => by
    rw [List.reverse_cons, lvss_app, lvss_rev a]
    show lvss a + (lvs p + 0) = lvs p + lvss a
    omega
theorem bwds_nil (ps : List Wk) : (bwds ps).reverse.isEmpty = ps.isEmpty := by
  cases ps with
  | nil => rfl
  | cons p ps =>
    show (bwd p :: bwds ps).reverse.isEmpty = false
    rw [List.reverse_cons]
    cases (bwds ps).reverse <;> rfl
mutual
theorem lvs_bwd : ∀ w, lvs (bwd w) = lvs w
  | .node nm ps => by
    show (if (bwds ps).reverse.isEmpty then 1 else lvss (bwds ps).reverse) = (if ps.isEmpty then 1 else lvss ps)
    rw [bwds_nil, lvss_rev, lvss_bwd ps]
theorem lvss_bwd : ∀ ps, lvss (bwds ps) = lvss ps
  | [] => rfl
  | p :: ps => by
    show lvs (bwd p) + lvss (bwds ps) = lvs p + lvss ps
    rw [lvs_bwd p, lvss_bwd ps]
end
/-- seen from behind -/
def mirN (S : Nat) (x : Named) : Named := (x.1, S - x.2.2, S - x.2.1)
mutual
theorem spW_bwd : ∀ (w : Wk) (b b' : Nat), (spW (bwd w) b').Perm ((spW w b).map (mirN (b + b' + lvs w)))
  | .node nm ps, b, b' => by
    have ih := spWs_bwd ps b b'
    show ((nm, b', b' + (if (bwds ps).reverse.isEmpty then 1 else lvss (bwds ps).reverse)) :: spWs (bwds ps).reverse b').Perm (mirN (b + b' + lvs (.node nm ps)) (nm, b, b + (if ps.isEmpty then 1 else lvss ps)) :: (spWs ps b).map (mirN (b + b' + lvs (.node nm ps))))
    rw [bwds_nil, lvss_rev, lvss_bwd]
    have el : lvs (.node nm ps) = if ps.isEmpty then 1 else lvss ps := by rw [lvs]
    rw [el]
    have e : mirN (b + b' + (if ps.isEmpty then 1 else lvss ps)) (nm, b, b + (if ps.isEmpty then 1 else lvss ps)) = (nm, b', b' + (if ps.isEmpty then 1 else lvss ps)) := by
      generalize (if ps.isEmpty then 1 else lvss ps) = L
      show (nm, b + b' + L - (b + L), b + b' + L - b) = (nm, b', b' + L)
      rw [show b + b' + L - (b + L) = b' by omega, show b + b' + L - b = b' + L by omega]
    rw [e]
    refine List.Perm.cons _ ?_
    cases ps with
    | nil => exact List.Perm.refl _
    | cons p ps => exact ih
theorem spWs_bwd : ∀ (ps : List Wk) (b b' : Nat), (spWs (bwds ps).reverse b').Perm ((spWs ps b).map (mirN (b + b' + lvss ps)))
  | [], _, _ => List.Perm.refl _
  | p :: ps, b, b' => by
    have i1 := spW_bwd p b (b' + lvss ps)
    have i2 := spWs_bwd ps (b + lvs p) b'
    show (spWs (bwd p :: bwds ps).reverse b').Perm ((spW p b ++ spWs ps (b + lvs p)).map (mirN (b + b' + (lvs p + lvss ps))))
    rw [List.reverse_cons, spWs_app, List.map_append, lvss_rev, lvss_bwd]
    have e1 : b + (b' + lvss ps) + lvs p = b + b' + (lvs p + lvss ps) := by omega
    have e2 : b + lvs p + b' + lvss ps = b + b' + (lvs p + lvss ps) := by omega
    rw [e1] at i1
    rw [e2] at i2
    have i3 : (spWs [bwd p] (b' + lvss ps)).Perm ((spW p b).map (mirN (b + b' + (lvs p + lvss ps)))) := by
      show (spW (bwd p) (b' + lvss ps) ++ []).Perm _
      rw [List.append_nil]
      exact i1
    exact (i2.append i3).trans List.perm_append_comm
end
mutual
/-- spans lie within, none is empty -/
theorem spW_in : ∀ (w : Wk) (b : Nat), ∀ x ∈ spW w b, b ≤ x.2.1 ∧ x.2.1 < x.2.2 ∧ x.2.2 ≤ b + lvs w
  | .node nm ps, b, x, hx => by
    have el : lvs (.node nm ps) = if ps.isEmpty then 1 else lvss ps := by rw [lvs]
    rw [el]
    rcases List.mem_cons.mp hx with rfl | hx
    · have : 0 < (if ps.isEmpty then 1 else lvss ps) := by
        cases ps with
        | nil => exact Nat.one_pos
        | cons p ps => exact lvss_pos p ps
      exact ⟨Nat.le_refl _, by show b < b + _; omega, Nat.le_refl _⟩
    · cases ps with
      | nil => cases hx
      | cons p ps => exact spWs_in (p :: ps) b x hx
theorem spWs_in : ∀ (ps : List Wk) (b : Nat), ∀ x ∈ spWs ps b, b ≤ x.2.1 ∧ x.2.1 < x.2.2 ∧ x.2.2 ≤ b + lvss ps
  | [], _, x, hx => by cases hx
  | p :: ps, b, x, hx => by
    show b ≤ x.2.1 ∧ x.2.1 < x.2.2 ∧ x.2.2 ≤ b + (lvs p + lvss ps)
    rcases List.mem_append.mp hx with hx | hx
    · have := spW_in p b x hx
      omega
    · have := spWs_in ps (b + lvs p) x hx
      omega
theorem lvs_pos : ∀ w, 0 < lvs w
  | .node nm [] => Nat.one_pos
  | .node nm (p :: ps) => lvss_pos p ps
theorem lvss_pos : ∀ p ps, 0 < lvss (p :: ps)
  | p, ps => by
    have := lvs_pos p
    show 0 < lvs p + lvss ps
    omega
end
end Tw
end

section
set_option linter.all false
set_option autoImplicit false
/-! Chains of spans: what the most in order is (k82). -/
namespace Tw
abbrev Span := Nat × Nat
/-- spans in order, each behind the one ahead -/
def IsCh (sp : List (Option Span)) (c : List Span) : Prop := (c.map some).Sublist sp ∧ c.Pairwise fun s t => s.2 ≤ t.1
def wtC (c : List Span) : Nat := (c.map fun s => s.2 - s.1).sum
/-- m is the most that a chain holds -/
def Most (sp : List (Option Span)) (m : Nat) : Prop := (∃ c, IsCh sp c ∧ wtC c = m) ∧ ∀ c, IsCh sp c → wtC c ≤ m
theorem Most.uniq {sp : List (Option Span)} {m m' : Nat} (h : Most sp m) (k : Most sp m') : m = m' := by
  obtain ⟨⟨c, h1, rfl⟩, h2⟩ := h
  obtain ⟨⟨c', k1, rfl⟩, k2⟩ := k
  exact Nat.le_antisymm (k2 _ h1) (h2 _ k1)
/-- fewer titles hold no more -/
theorem Most.sub {sp sp' : List (Option Span)} {m m' : Nat} (hs : sp'.Sublist sp) (h : Most sp m) (k : Most sp' m') : m' ≤ m := by
  obtain ⟨⟨c, k1, rfl⟩, _⟩ := k
  exact h.2 c ⟨k1.1.trans hs, k1.2⟩
/-- the same from behind -/
def mir (T : Nat) (s : Span) : Span := (T - s.2, T - s.1)
def mirL (T : Nat) (sp : List (Option Span)) : List (Option Span) := (sp.map (Option.map (mir T))).reverse
theorem wtC_app (a b : List Span) : wtC (a ++ b) = wtC a + wtC b := by simp [wtC]
theorem wt_mir {T : Nat} : ∀ {c : List Span}, (∀ s ∈ c, s.1 ≤ s.2 ∧ s.2 ≤ T) → wtC ((c.map (mir T)).reverse) = wtC c
  | [], _ => rfl
  | s :: c, h => by
    have ih := wt_mir fun x hx => h x (List.mem_cons_of_mem _ hx)
    obtain ⟨h1, h2⟩ := h s List.mem_cons_self
    rw [List.map_cons, List.reverse_cons, wtC_app, ih]
    show wtC c + ((T - s.1) - (T - s.2) + 0) = (s.2 - s.1) + wtC c
    omega
theorem IsCh.mem {sp : List (Option Span)} {c : List Span} (h : IsCh sp c) {s : Span} (hs : s ∈ c) : some s ∈ sp := h.1.subset (List.mem_map.mpr ⟨s, hs, rfl⟩)
theorem IsCh.mir {sp : List (Option Span)} {c : List Span} {T : Nat} (hT : ∀ s, some s ∈ sp → s.1 ≤ s.2 ∧ s.2 ≤ T) (h : IsCh sp c) : IsCh (mirL T sp) ((c.map (mir T)).reverse) := by
  refine ⟨?_, ?_⟩
  · have e : ((c.map (Tw.mir T)).reverse.map some) = ((c.map some).map (Option.map (Tw.mir T))).reverse := by
      rw [List.map_reverse, List.map_map, List.map_map]
      rfl
    rw [e]
    exact (h.1.map _).reverse
  · rw [List.pairwise_reverse, List.pairwise_map]
    refine List.Pairwise.imp_of_mem (fun {s t} hs ht k => ?_) h.2
    have := hT s (h.mem hs)
    have := hT t (h.mem ht)
    show T - t.1 ≤ T - s.2
    omega
theorem mir_mir {T : Nat} {s : Span} (h : s.1 ≤ s.2 ∧ s.2 ≤ T) : mir T (mir T s) = s := by
  obtain ⟨a, b⟩ := s
  have h1 : a ≤ b := h.1
  have h2 : b ≤ T := h.2
  show (T - (T - a), T - (T - b)) = (a, b)
  rw [show T - (T - a) = a by omega, show T - (T - b) = b by omega]
theorem mirL_mirL {T : Nat} {sp : List (Option Span)} (hT : ∀ s, some s ∈ sp → s.1 ≤ s.2 ∧ s.2 ≤ T) : mirL T (mirL T sp) = sp := by
  unfold mirL
  rw [List.map_reverse, List.reverse_reverse, List.map_map]
  conv => rhs; rw [← List.map_id sp]
  refine List.map_congr_left fun o ho => ?_
  cases o with
  | none => rfl
  | some s => exact congrArg some (mir_mir (hT s ho))
theorem mirL_ok {T : Nat} {sp : List (Option Span)} (hT : ∀ s, some s ∈ sp → s.1 ≤ s.2 ∧ s.2 ≤ T) : ∀ s, some s ∈ mirL T sp → s.1 ≤ s.2 ∧ s.2 ≤ T := by
  intro s hs
  unfold mirL at hs
  obtain ⟨o, ho, e⟩ := List.mem_map.mp (List.mem_reverse.mp hs)
  cases o with
  | none => cases e
  | some t =>
    cases e
    have := hT t ho
    show T - t.2 ≤ T - t.1 ∧ T - t.1 ≤ T
    omega
/-- backward the most is the same -/
theorem Most.mir {T : Nat} {sp : List (Option Span)} {m m' : Nat} (hT : ∀ s, some s ∈ sp → s.1 ≤ s.2 ∧ s.2 ≤ T) (h : Most sp m) (k : Most (mirL T sp) m') : m' = m := by
  obtain ⟨⟨c, h1, rfl⟩, h2⟩ := h
  obtain ⟨⟨c', k1, rfl⟩, k2⟩ := k
  refine Nat.le_antisymm ?_ ?_
  · have hT' := mirL_ok hT
    have := h2 _ (mirL_mirL hT ▸ k1.mir hT')
    rwa [wt_mir fun s hs => hT' s (k1.mem hs)] at this
  · have := k2 _ (h1.mir hT)
    rwa [wt_mir fun s hs => hT s (h1.mem hs)] at this
/-- a paper: heights that bear each chain -/
structure Paper (l : List (Option Span × Nat)) : Prop where
  own : ∀ y ∈ l, ∀ t, y.1 = some t → t.2 - t.1 ≤ y.2
  two : l.Pairwise fun x y => ∀ s t, x.1 = some s → y.1 = some t → s.2 ≤ t.1 → (t.2 - t.1) + x.2 ≤ y.2
theorem paper_last : ∀ (d : List (Span × Nat)) (x : Span × Nat), (x :: d).Pairwise (fun x y => x.1.2 ≤ y.1.1) → (x :: d).Pairwise (fun x y => x.1.2 ≤ y.1.1 → (y.1.2 - y.1.1) + x.2 ≤ y.2) →
    ∃ z ∈ x :: d, x.2 + wtC (d.map (·.1)) ≤ z.2
  | [], x, _, _ => ⟨x, List.mem_cons_self, Nat.le_refl _⟩
  | y :: d, x, h1, h2 => by
    obtain ⟨a1, a2⟩ := List.pairwise_cons.mp h1
    obtain ⟨b1, b2⟩ := List.pairwise_cons.mp h2
    obtain ⟨z, hz, k⟩ := paper_last d y a2 b2
    refine ⟨z, List.mem_cons_of_mem _ hz, ?_⟩
    have := b1 y List.mem_cons_self (a1 y List.mem_cons_self)
    show x.2 + ((y.1.2 - y.1.1) + wtC (d.map (·.1))) ≤ z.2
    omega
/-- no chain is heavier than a paper's greatest height -/
theorem Paper.bound {l : List (Option Span × Nat)} {N : Nat} (h : Paper l) (hN : ∀ y ∈ l, y.2 ≤ N) {c : List Span} (hc : IsCh (l.map (·.1)) c) : wtC c ≤ N := by
  obtain ⟨hs, hp⟩ := hc
  obtain ⟨l', hl, e⟩ := List.sublist_map_iff.mp hs
  -- the chain with its heights
  have key : ∀ (c : List Span) (l' : List (Option Span × Nat)), c.map some = l'.map (·.1) → ∃ d : List (Span × Nat), d.map (·.1) = c ∧ l' = d.map fun x => (some x.1, x.2) := by
    intro c
    induction c with
    | nil =>
      intro l' e
      cases l' with
      | nil => exact ⟨[], rfl, rfl⟩
      | cons _ _ => cases e
    | cons s c ih =>
      intro l' e
      cases l' with
      | nil => cases e
      | cons y l' =>
        injection e with e1 e2
        obtain ⟨d, rfl, rfl⟩ := ih l' e2
        obtain ⟨y1, y2⟩ := y
        have e1 : some s = y1 := e1
        subst e1
        exact ⟨(s, y2) :: d, rfl, rfl⟩
  obtain ⟨d, rfl, rfl⟩ := key c l' e
  cases d with
  | nil => exact Nat.zero_le _
  | cons x d =>
    have p1 := List.pairwise_map.mp hp
    have p2 := List.pairwise_map.mp (h.two.sublist hl)
    obtain ⟨z, hz, k⟩ := paper_last d x p1 (p2.imp fun q => q _ _ rfl rfl)
    have h1 : x.1.2 - x.1.1 ≤ x.2 := h.own _ (hl.subset (List.mem_map.mpr ⟨x, List.mem_cons_self, rfl⟩)) _ rfl
    have h2 : z.2 ≤ N := hN _ (hl.subset (List.mem_map.mpr ⟨z, hz, rfl⟩))
    show (x.1.2 - x.1.1) + wtC (d.map (·.1)) ≤ N
    omega
end Tw
end

section
set_option linter.all false
set_option autoImplicit false
/-! Depths and heights, by what they obey. -/
namespace Tw
/-- the most from each title on -/
structure Deps (sp : List (Option Span)) (f : List Nat) : Prop where
  len : f.length = sp.length
  ok : ∀ s, some s ∈ sp → s.1 ≤ s.2
  up : ∀ (i j : Nat) (s t : Span) (g h : Nat), i < j → sp[i]? = some (some s) → sp[j]? = some (some t) → f[i]? = some h → f[j]? = some g → s.2 ≤ t.1 → (s.2 - s.1) + g ≤ h
  own : ∀ (i : Nat) (s : Span) (h : Nat), sp[i]? = some (some s) → f[i]? = some h → s.2 - s.1 ≤ h
  att : ∀ (i : Nat) (s : Span) (h : Nat), sp[i]? = some (some s) → f[i]? = some h → h = s.2 - s.1 ∨ ∃ (j : Nat) (t : Span) (g : Nat), i < j ∧ sp[j]? = some (some t) ∧ f[j]? = some g ∧ s.2 ≤ t.1 ∧ h = (s.2 - s.1) + g
theorem drop_at {α : Type} {l : List α} {i : Nat} {x : α} (h : l[i]? = some x) : l.drop i = x :: l.drop (i + 1) := by
  obtain ⟨hi, rfl⟩ := List.getElem?_eq_some_iff.mp h
  exact List.drop_eq_getElem_cons hi
theorem drop_sub {α : Type} {l : List α} {i j : Nat} (h : i ≤ j) : (l.drop j).Sublist (l.drop i) := by
  obtain ⟨k, rfl⟩ := Nat.le.dest h
  rw [← List.drop_drop]
  exact List.drop_sublist _ _
theorem Deps.chain {sp : List (Option Span)} {f : List Nat} (D : Deps sp f) : ∀ (n i : Nat) (s : Span) (h : Nat), sp.length - i ≤ n → sp[i]? = some (some s) → f[i]? = some h → ∃ c, IsCh (sp.drop i) (s :: c) ∧ wtC (s :: c) = h := by
  intro n
  induction n with
  | zero =>
    intro i s h hn e _
    have := (List.getElem?_eq_some_iff.mp e).1
    omega
  | succ n ih =>
    intro i s h hn e e2
    have hi := (List.getElem?_eq_some_iff.mp e).1
    rcases D.att i s h e e2 with rfl | ⟨j, t, g, hij, e3, e4, hst, rfl⟩
    · refine ⟨[], ⟨?_, by simp⟩, by simp [wtC]⟩
      rw [drop_at e]
      exact (List.nil_sublist _).cons₂ _
    · obtain ⟨c, hc, hw⟩ := ih j t g (by omega) e3 e4
      refine ⟨t :: c, ⟨?_, ?_⟩, ?_⟩
      · rw [drop_at e]
        exact (hc.1.trans (drop_sub (by omega))).cons₂ _
      · refine List.pairwise_cons.mpr ⟨fun x hx => ?_, hc.2⟩
        rcases List.mem_cons.mp hx with rfl | hx
        · exact hst
        · have h1 := (List.pairwise_cons.mp hc.2).1 x hx
          have h2 := D.ok t (List.mem_of_getElem? e3)
          omega
      · show (s.2 - s.1) + wtC (t :: c) = _
        rw [hw]
theorem deps_first : ∀ (d : List (Span × Nat)) (x : Span × Nat), (x :: d).Pairwise (fun x y => x.1.2 ≤ y.1.1) → (x :: d).Pairwise (fun x y => x.1.2 ≤ y.1.1 → (x.1.2 - x.1.1) + y.2 ≤ x.2) →
    (∀ y ∈ x :: d, y.1.2 - y.1.1 ≤ y.2) → wtC ((x :: d).map (·.1)) ≤ x.2
  | [], x, _, _, h => by
    have := h x List.mem_cons_self
    show (x.1.2 - x.1.1) + 0 ≤ x.2
    omega
  | y :: d, x, h1, h2, h3 => by
    obtain ⟨a1, a2⟩ := List.pairwise_cons.mp h1
    obtain ⟨b1, b2⟩ := List.pairwise_cons.mp h2
    have k := deps_first d y a2 b2 fun z hz => h3 z (List.mem_cons_of_mem _ hz)
    have := b1 y List.mem_cons_self (a1 y List.mem_cons_self)
    show (x.1.2 - x.1.1) + wtC ((y :: d).map (·.1)) ≤ x.2
    omega
/-- a chain's spans with their numbers -/
theorem with_nums : ∀ (c : List Span) (l' : List (Option Span × Nat)), c.map some = l'.map (·.1) → ∃ d : List (Span × Nat), d.map (·.1) = c ∧ l' = d.map fun x => (some x.1, x.2)
  | [], [], _ => ⟨[], rfl, rfl⟩
  | [], _ :: _, e => by cases e
  | _ :: _, [], e => by cases e
  | s :: c, y :: l', e => by
    injection e with e1 e2
    obtain ⟨d, rfl, rfl⟩ := with_nums c l' e2
    obtain ⟨y1, y2⟩ := y
    have e1 : some s = y1 := e1
    subst e1
    exact ⟨(s, y2) :: d, rfl, rfl⟩
theorem zip_get {sp : List (Option Span)} {f : List Nat} {i : Nat} {y : Option Span × Nat} (h : (sp.zip f)[i]? = some y) : sp[i]? = some y.1 ∧ f[i]? = some y.2 := by
  rw [List.getElem?_zip_eq_some] at h
  exact h
theorem Deps.bound {sp : List (Option Span)} {f : List Nat} (D : Deps sp f) {c : List Span} (hc : IsCh sp c) : c = [] ∨ ∃ h ∈ f, wtC c ≤ h := by
  obtain ⟨hs, hp⟩ := hc
  have em : (sp.zip f).map (·.1) = sp := List.map_fst_zip (by rw [D.len]; exact Nat.le_refl _)
  rw [← em] at hs
  obtain ⟨l', hl, e⟩ := List.sublist_map_iff.mp hs
  obtain ⟨d, rfl, rfl⟩ := with_nums c l' e
  cases d with
  | nil => exact .inl rfl
  | cons x d =>
    right
    have hz : (sp.zip f).Pairwise fun x y => ∀ s t, x.1 = some s → y.1 = some t → s.2 ≤ t.1 → (s.2 - s.1) + y.2 ≤ x.2 := by
      rw [List.pairwise_iff_getElem]
      intro i j hi hj hij s t e1 e2 k
      obtain ⟨a1, a2⟩ := zip_get (List.getElem?_eq_getElem hi)
      obtain ⟨b1, b2⟩ := zip_get (List.getElem?_eq_getElem hj)
      rw [e1] at a1
      rw [e2] at b1
      exact D.up i j s t _ _ hij a1 b1 a2 b2 k
    have ho : ∀ y ∈ sp.zip f, ∀ t, y.1 = some t → t.2 - t.1 ≤ y.2 := by
      intro y hy t e
      obtain ⟨i, hi⟩ := List.getElem?_of_mem hy
      obtain ⟨a1, a2⟩ := zip_get hi
      rw [e] at a1
      exact D.own i t _ a1 a2
    have p1 := List.pairwise_map.mp hp
    have p2 := List.pairwise_map.mp (hz.sublist hl)
    refine ⟨x.2, ?_, deps_first d x p1 (p2.imp fun q => q _ _ rfl rfl) fun y hy => ho _ (hl.subset (List.mem_map.mpr ⟨y, hy, rfl⟩)) _ rfl⟩
    have := hl.subset (List.mem_map.mpr ⟨x, List.mem_cons_self, rfl⟩)
    obtain ⟨i, hi⟩ := List.getElem?_of_mem this
    exact List.mem_of_getElem? (zip_get hi).2
/-- the greatest depth is the most -/
theorem Deps.most {sp : List (Option Span)} {f : List Nat} (D : Deps sp f) (non : ∀ i : Nat, sp[i]? = some none → f[i]? = some 0) {m : Nat} (h1 : m = 0 ∨ m ∈ f) (h2 : ∀ h ∈ f, h ≤ m) : Most sp m := by
  refine ⟨?_, fun c hc => ?_⟩
  · rcases Nat.eq_zero_or_pos m with rfl | hm
    · exact ⟨[], ⟨List.nil_sublist _, List.Pairwise.nil⟩, rfl⟩
    · rcases h1 with rfl | h1
      · cases hm
      · obtain ⟨i, hi⟩ := List.getElem?_of_mem h1
        have hil := (List.getElem?_eq_some_iff.mp hi).1
        rw [D.len] at hil
        cases e : sp[i]? with
        | none => rw [List.getElem?_eq_none_iff] at e; omega
        | some o =>
          cases o with
          | none =>
            have := non i e
            rw [hi] at this
            cases this
            cases hm
          | some s =>
            obtain ⟨c, hc, hw⟩ := D.chain _ i s m (Nat.le_refl _) e hi
            exact ⟨s :: c, ⟨hc.1.trans (List.drop_sublist _ _), hc.2⟩, hw⟩
  · rcases D.bound hc with rfl | ⟨h, hh, k⟩
    · exact Nat.zero_le _
    · exact Nat.le_trans k (h2 h hh)
end Tw
end

section
set_option linter.all false
set_option autoImplicit false
/-! Heights: a paper, and no height above the most. -/
namespace Tw
structure Hgts (sp : List (Option Span)) (f : List Nat) : Prop where
  len : f.length = sp.length
  ok : ∀ s, some s ∈ sp → s.1 ≤ s.2
  up : ∀ (i j : Nat) (s t : Span) (g h : Nat), j < i → sp[i]? = some (some s) → sp[j]? = some (some t) → f[i]? = some h → f[j]? = some g → t.2 ≤ s.1 → (s.2 - s.1) + g ≤ h
  own : ∀ (i : Nat) (s : Span) (h : Nat), sp[i]? = some (some s) → f[i]? = some h → s.2 - s.1 ≤ h
  att : ∀ (i : Nat) (s : Span) (h : Nat), sp[i]? = some (some s) → f[i]? = some h → h = s.2 - s.1 ∨ ∃ (j : Nat) (t : Span) (g : Nat), j < i ∧ sp[j]? = some (some t) ∧ f[j]? = some g ∧ t.2 ≤ s.1 ∧ h = (s.2 - s.1) + g
  non : ∀ (i : Nat) (h : Nat), sp[i]? = some none → f[i]? = some h → h = 0
/-- whatever is high enough is a paper -/
theorem paper_of {sp : List (Option Span)} {f : List Nat}
    (up : ∀ (i j : Nat) (s t : Span) (g h : Nat), j < i → sp[i]? = some (some s) → sp[j]? = some (some t) → f[i]? = some h → f[j]? = some g → t.2 ≤ s.1 → (s.2 - s.1) + g ≤ h)
    (own : ∀ (i : Nat) (s : Span) (h : Nat), sp[i]? = some (some s) → f[i]? = some h → s.2 - s.1 ≤ h) : Paper (sp.zip f) := by
  refine ⟨fun y hy t e => ?_, ?_⟩
  · obtain ⟨i, hi⟩ := List.getElem?_of_mem hy
    obtain ⟨a1, a2⟩ := zip_get hi
    rw [e] at a1
    exact own i t _ a1 a2
  · rw [List.pairwise_iff_getElem]
    intro i j hi hj hij s t e1 e2 k
    obtain ⟨a1, a2⟩ := zip_get (List.getElem?_eq_getElem hi)
    obtain ⟨b1, b2⟩ := zip_get (List.getElem?_eq_getElem hj)
    rw [e1] at a1
    rw [e2] at b1
    exact up j i t s _ _ hij b1 a1 b2 a2 k
/-- a paper that is high enough, all within N: the most is within N -/
theorem most_within {sp : List (Option Span)} {f : List Nat} {m N : Nat} (hl : f.length = sp.length) (P : Paper (sp.zip f)) (hN : ∀ h ∈ f, h ≤ N) (M : Most sp m) : m ≤ N := by
  obtain ⟨⟨c, hc, rfl⟩, _⟩ := M
  have em : (sp.zip f).map (·.1) = sp := List.map_fst_zip (by rw [hl]; exact Nat.le_refl _)
  refine P.bound (fun y hy => ?_) (by rw [em]; exact hc)
  obtain ⟨i, hi⟩ := List.getElem?_of_mem hy
  exact hN _ (List.mem_of_getElem? (zip_get hi).2)
theorem take_at {α : Type} {l : List α} {i : Nat} {x : α} (h : l[i]? = some x) : l.take (i + 1) = l.take i ++ [x] := by
  rw [List.take_add_one, h]
  rfl
theorem take_sub {α : Type} {l : List α} {i j : Nat} (h : i ≤ j) : (l.take i).Sublist (l.take j) := by
  have : l.take i = (l.take j).take i := by rw [List.take_take, Nat.min_eq_left h]
  rw [this]
  exact List.take_sublist _ _
theorem Hgts.chain {sp : List (Option Span)} {f : List Nat} (D : Hgts sp f) : ∀ (n i : Nat) (s : Span) (h : Nat), i ≤ n → sp[i]? = some (some s) → f[i]? = some h → ∃ c, IsCh (sp.take (i + 1)) (c ++ [s]) ∧ wtC (c ++ [s]) = h := by
  intro n
  induction n with
  | zero =>
    intro i s h hn e e2
    obtain rfl : i = 0 := by omega
    rcases D.att 0 s h e e2 with rfl | ⟨j, _, _, hj, _⟩
    · refine ⟨[], ⟨?_, by simp⟩, by simp [wtC]⟩
      rw [take_at e]
      exact List.sublist_append_right _ _
    · omega
  | succ n ih =>
    intro i s h hn e e2
    rcases D.att i s h e e2 with rfl | ⟨j, t, g, hji, e3, e4, hst, rfl⟩
    · refine ⟨[], ⟨?_, by simp⟩, by simp [wtC]⟩
      rw [take_at e]
      exact List.sublist_append_right _ _
    · obtain ⟨c, hc, hw⟩ := ih j t g (by omega) e3 e4
      refine ⟨c ++ [t], ⟨?_, ?_⟩, ?_⟩
      · rw [take_at e, List.map_append]
        exact (hc.1.trans (take_sub (by omega))).append (List.Sublist.refl _)
      · rw [List.pairwise_append]
        refine ⟨hc.2, by simp, fun x hx y hy => ?_⟩
        rw [List.mem_singleton.mp hy]
        rcases List.mem_append.mp hx with hx | hx
        · have h1 := (List.pairwise_append.mp hc.2).2.2 x hx t (by simp)
          have h2 := D.ok t (List.mem_of_getElem? e3)
          omega
        · rw [List.mem_singleton.mp hx]
          exact hst
      · rw [wtC_app, hw]
        show g + ((s.2 - s.1) + 0) = _
        omega
theorem Hgts.le {sp : List (Option Span)} {f : List Nat} {m : Nat} (D : Hgts sp f) (M : Most sp m) : ∀ h ∈ f, h ≤ m := by
  intro h hh
  obtain ⟨i, hi⟩ := List.getElem?_of_mem hh
  have hil := (List.getElem?_eq_some_iff.mp hi).1
  rw [D.len] at hil
  cases e : sp[i]? with
  | none => rw [List.getElem?_eq_none_iff] at e; omega
  | some o =>
    cases o with
    | none => rw [D.non i h e hi]; exact Nat.zero_le _
    | some s =>
      obtain ⟨c, hc, rfl⟩ := D.chain i i s h (Nat.le_refl _) e hi
      exact M.2 _ ⟨hc.1.trans (List.take_sublist _ _), hc.2⟩
end Tw
end

section
set_option linter.all false
set_option autoImplicit false
/-! Looking a title up in a work, and in the work backward. -/
namespace Tw
def lookS (L : List Named) (q : D) : Option Span := (L.find? fun x => eqD x.1 q).map fun x => (x.2.1, x.2.2)
theorem find_uniq {L : List Named} {q : D} (hn : (L.map (·.1)).Nodup) (he : ∀ x ∈ L, eqD x.1 q = true ↔ x.1 = q) (x : Named) : L.find? (fun x => eqD x.1 q) = some x ↔ x ∈ L ∧ x.1 = q := by
  induction L with
  | nil => simp
  | cons y L ih =>
    obtain ⟨h1, h2⟩ := List.nodup_cons.mp hn
    have ih := ih h2 fun z hz => he z (List.mem_cons_of_mem _ hz)
    rw [List.find?_cons]
    cases hy : eqD y.1 q with
    | true =>
      have e := (he y List.mem_cons_self).mp hy
      constructor
      · intro k
        cases k
        exact ⟨List.mem_cons_self, e⟩
      · rintro ⟨k, e2⟩
        rcases List.mem_cons.mp k with rfl | k
        · rfl
        · exact absurd (List.mem_map.mpr ⟨x, k, e2.trans e.symm⟩) h1
    | false =>
      simp only [Bool.false_eq_true, if_false]
      rw [ih]
      constructor
      · rintro ⟨k, e2⟩
        exact ⟨List.mem_cons_of_mem _ k, e2⟩
      · rintro ⟨k, e2⟩
        rcases List.mem_cons.mp k with rfl | k
        · have := (he x List.mem_cons_self).mpr e2
          rw [hy] at this
          cases this
        · exact ⟨k, e2⟩
theorem look_bwd {w : Wk} {q : D} (hn : ((spW w 0).map (·.1)).Nodup) (he : ∀ x ∈ spW w 0, eqD x.1 q = true ↔ x.1 = q) : lookS (spW (bwd w) 0) q = (lookS (spW w 0) q).map (mir (lvs w)) := by
  have hp := spW_bwd w 0 0
  rw [Nat.zero_add] at hp
  have em : ((spW w 0).map (mirN (lvs w))).map (·.1) = (spW w 0).map (·.1) := by
    rw [List.map_map]
    rfl
  have hp1 : ((spW (bwd w) 0).map (·.1)).Perm ((spW w 0).map (·.1)) := em ▸ hp.map (·.1)
  have hn' : ((spW (bwd w) 0).map (·.1)).Nodup := hp1.nodup_iff.mpr hn
  have he' : ∀ x ∈ spW (bwd w) 0, eqD x.1 q = true ↔ x.1 = q := by
    intro x hx
    obtain ⟨y, hy, rfl⟩ := List.mem_map.mp (hp.mem_iff.mp hx)
    exact he y hy
  unfold lookS
  cases h : (spW w 0).find? (fun x => eqD x.1 q) with
  | some x =>
    obtain ⟨h1, h2⟩ := (find_uniq hn he x).mp h
    have : (spW (bwd w) 0).find? (fun x => eqD x.1 q) = some (mirN (lvs w) x) := (find_uniq hn' he' _).mpr ⟨hp.mem_iff.mpr (List.mem_map.mpr ⟨x, h1, rfl⟩), h2⟩
    rw [this]
    rfl
  | none =>
    have : (spW (bwd w) 0).find? (fun x => eqD x.1 q) = none := by
      cases k : (spW (bwd w) 0).find? (fun x => eqD x.1 q) with
      | none => rfl
      | some y =>
        exfalso
        obtain ⟨k1, k2⟩ := (find_uniq hn' he' y).mp k
        obtain ⟨x, hx, rfl⟩ := List.mem_map.mp (hp.mem_iff.mp k1)
        have := (find_uniq hn he x).mpr ⟨hx, k2⟩
        rw [h] at this
        cases this
    rw [this]
    rfl
theorem look_in {w : Wk} {q : D} {s : Span} (h : lookS (spW w 0) q = some s) : s.1 < s.2 ∧ s.2 ≤ lvs w := by
  unfold lookS at h
  obtain ⟨x, hx, rfl⟩ := Option.map_eq_some_iff.mp h
  have := spW_in w 0 x (List.mem_of_find?_eq_some hx)
  exact ⟨this.2.1, by omega⟩
/-- the titles' spans -/
def titS (w : Wk) (ts : List (Option D)) : List (Option Span) := ts.map fun t => t.bind (lookS (spW w 0))
theorem titS_bwd {w : Wk} {ts : List (Option D)} (hn : ((spW w 0).map (·.1)).Nodup) (he : ∀ q, some q ∈ ts → ∀ x ∈ spW w 0, eqD x.1 q = true ↔ x.1 = q) : titS (bwd w) ts.reverse = mirL (lvs w) (titS w ts) := by
  unfold titS mirL
  rw [List.map_reverse, List.map_map]
  congr 1
  refine List.map_congr_left fun t ht => ?_
  cases t with
  | none => rfl
  | some q => exact look_bwd hn (he q ht)
theorem titS_ok {w : Wk} {ts : List (Option D)} : ∀ s, some s ∈ titS w ts → s.1 ≤ s.2 ∧ s.2 ≤ lvs w := by
  intro s hs
  obtain ⟨t, ht, e⟩ := List.mem_map.mp hs
  cases t with
  | none => cases e
  | some q =>
    have := look_in (w := w) (q := q) e
    omega
/-- the work and the titles backward hold as much -/
theorem most_bwd {w : Wk} {ts : List (Option D)} {m m' : Nat} (hn : ((spW w 0).map (·.1)).Nodup) (he : ∀ q, some q ∈ ts → ∀ x ∈ spW w 0, eqD x.1 q = true ↔ x.1 = q) (h : Most (titS w ts) m) (k : Most (titS (bwd w) ts.reverse) m') : m' = m := by
  rw [titS_bwd hn he] at k
  exact h.mir titS_ok k
/-- a title less, a title more -/
theorem most_less {w : Wk} {ts ts' : List (Option D)} {m m' : Nat} (hs : ts'.Sublist ts) (h : Most (titS w ts) m) (k : Most (titS w ts') m') : m' ≤ m := h.sub (hs.map _) k
end Tw
end

section
set_option linter.all false
set_option autoImplicit false
set_option maxRecDepth 100000
set_option maxHeartbeats 4000000
/-! What the laws draw: by any table that has these defs. -/
namespace Tw
/-- the table has this def -/
def IsFn (G : Tab) (f : String) (np ns : Nat) (body : List S) (gc : Bool) : Prop :=
  ∃ F, G.fn f = some F ∧ F.ps.length = np ∧ F.dfl = [] ∧ F.ns = ns ∧ F.body = body ∧ F.gc = gc
section
variable {G : Tab}
theorem Ok_fn {n : Nat} {f : String} {np ns : Nat} {body : List S} {ds : List D} {bs : Nat} {hp : List Ob} {Q : D → List Ob → Prop} (h : IsFn G f np ns body true) (hl : ds.length = np)
    (r : Ok (exB G (calN G n) body ⟨ds.map .val ++ List.replicate (ns - ds.length) .non, hp, hp.length⟩) fun f s => ∃ d, f = .ret d ∧ below 0 d = true ∧ s.hp.length = hp.length ∧ Flat s.hp ∧ Q d s.hp) : Ok (calN G (n + 1) f ds bs hp) Q := by
  obtain ⟨F, e, e1, e2, e3, e4, e5⟩ := h
  refine Ok_calN e (by rw [hl, e1]) (run_gc e5 ?_)
  rw [e3, e4]
  exact r
theorem callI {f : String} {np ns : Nat} {body : List S} {gc : Bool} (h : IsFn G f np ns body gc) (cal : Cal) (ds : List D) (hl : ds.length = np) (s : MS) :
    callWith G cal f ds [] [] s = (match cal f ds s.bs s.hp with | .ok d hp => .ok d ⟨s.env, hp, s.bs⟩ | .exc x hp => .exc x ⟨s.env, hp, s.bs⟩ | .stuck => .stuck) := by
  obtain ⟨F, e, e1, e2, e3, e4, e5⟩ := h
  exact callS e e2 cal ds (by rw [hl, e1]) s
/-- a call by what is known of it -/
theorem Ok_c {cal : Cal} {f : String} {np ns : Nat} {body : List S} {gc : Bool} {ds : List D} {s : MS} {P : D → List Ob → Prop} {Q : D → MS → Prop} (h : IsFn G f np ns body gc) (hl : ds.length = np)
    (r : Ok (cal f ds s.bs s.hp) P) (i : ∀ d hp, P d hp → Q d ⟨s.env, hp, s.bs⟩) : Ok (callWith G cal f ds [] [] s) Q := by
  obtain ⟨F, e, e1, e2, e3, e4, e5⟩ := h
  exact Ok_cal e e2 (by rw [hl, e1]) r i
end
/-- a row that draws -/
def hand (g b c : Int) : Ob := .lst [.int g, .int b, .int c]
/-- at i there is a row that has drawn at most c0 mixed numbers; there are L objects -/
def Hd (i L : Nat) (c0 : Int) (hp : List Ob) : Prop :=
  hp.length = L ∧ Flat hp ∧ ∃ g b c, hp[i]? = some (hand g b c) ∧ 0 ≤ b ∧ b < 2 ^ 62 ∧ 0 ≤ c ∧ c ≤ c0
theorem Hd.mono {i L : Nat} {c c' : Int} {hp : List Ob} (h : Hd i L c hp) (k : c ≤ c') : Hd i L c' hp := by
  obtain ⟨h1, h2, g, b, d, e, h3, h4, h5, h6⟩ := h
  exact ⟨h1, h2, g, b, d, e, h3, h4, h5, by omega⟩
theorem Hd.len {i L : Nat} {c : Int} {hp : List Ob} (h : Hd i L c hp) : hp.length = L := h.1
theorem Hd.flat {i L : Nat} {c : Int} {hp : List Ob} (h : Hd i L c hp) : Flat hp := h.2.1
theorem Hd.lt {i L : Nat} {c : Int} {hp : List Ob} (h : Hd i L c hp) : i < L := by
  obtain ⟨h1, _, _, _, _, e, _⟩ := h
  rw [← h1]
  exact (List.getElem?_eq_some_iff.mp e).1
theorem mulOk_l {i j : Int} (h : i.natAbs < 18446744073709551616) : mulOk i j = true := by unfold mulOk small64; simp [h]
theorem mulOk_r {i j : Int} (h : j.natAbs < 18446744073709551616) : mulOk i j = true := by unfold mulOk small64; simp [h]
theorem mid_le {m : Int} (h : m.natAbs < 2 ^ 64) : mid m = true := by
  unfold mid
  exact decide_eq_true (Nat.lt_of_lt_of_le h (by decide +kernel))
theorem flat_set {hp : List Ob} {i : Nat} {o : Ob} (h : Flat hp) (k : belowO 0 o = true) : Flat (hp.set i o) := by
  intro x hx
  rcases List.mem_or_eq_of_mem_set hx with h1 | h1
  · exact h x h1
  · rw [h1]; exact k
/-- what take does -/
def TakeOk (G : Tab) : Prop := ∀ {N i L : Nat} {m c : Int} {bs : Nat} {hp : List Ob}, 1 ≤ N → Hd i L c hp → 0 < m → m < 100000 → c < 2 ^ 40 →
  Ok (calN G N "_law_take" [.ref i, .int m] bs hp) fun d hp' => ∃ r, d = .int r ∧ 0 ≤ r ∧ r < m ∧ Hd i L (c + 1) hp'
/-- the take by digits, then by mixed numbers -/
def takeB : List S := [.ife (.cmp .gt (.ix (.sl 0) (.int 0)) (.int 0)) [.asg (.nm 2) (.bin .mod (.ix (.sl 0) (.int 0)) (.sl 1)),
   .setix (.sl 0) (.int 0) (.bin .fdiv (.ix (.sl 0) (.int 0)) (.sl 1)),
   .ret (.sl 2)] [],
  .setix (.sl 0) (.int 2) (.bin .add (.ix (.sl 0) (.int 2)) (.int 1)),
  .asg (.nm 3) (.bin .mod (.bin .mul (.bin .add (.bin .add (.ix (.sl 0) (.int 1)) (.bin .mul (.bin .mul (.int 65537) (.ix (.sl 0) (.int 2))) (.ix (.sl 0) (.int 2)))) (.int 11)) (.int 48271)) (.int 2305843009213693921)),
  .asg (.nm 3) (.bin .mod (.bin .mul (.sl 3) (.bin .add (.bin .mod (.sl 3) (.int 1000003)) (.bin .mul (.int 99991) (.ix (.sl 0) (.int 2))))) (.int 2305843009213693907)),
  .ret (.bin .mod (.bin .add (.bin .fdiv (.sl 3) (.int 97)) (.bin .fdiv (.sl 3) (.int 1000033))) (.sl 1))]
theorem c_take {G : Tab} (h : IsFn G "_law_take" 2 4 takeB true) : TakeOk G := by
  intro N i L m c bs hp hN H hm hm2 hc
  obtain ⟨n, rfl⟩ : ∃ n, N = n + 1 := ⟨N - 1, by omega⟩
  obtain ⟨h1, h2, g, b, d, e, h3, h4, h5, h6⟩ := H
  have hi := (List.getElem?_eq_some_iff.mp e).1
  refine Ok_fn h rfl ?_
  have mm : mid m = true := mid_le (by omega)
  have e2 : hp[i] = .lst [.int g, .int b, .int d] := (List.getElem?_eq_some_iff.mp e).2
  by_cases hg : 0 < g
  · simp [takeB, hi, e2, hand, exB, exS, evE, evEs, evT, reD, deref, ixD, ixN, cmpD, ltOk, alikeD, isNon, okD, plain, depthD, ltD, truthD, bindTg, MS.put, setM, wrTo, wrOb, below, belows, binD, binI, hg, hm, mm]
    refine ⟨flat_set h2 rfl, Int.emod_nonneg _ (by omega), Int.emod_lt_of_pos _ hm, by simpa using h1, flat_set h2 rfl, g / m, b, d, by simp [hi, hand], h3, h4, h5, by omega⟩
  · have m1 : mulOk 65537 (d + 1) = true := mulOk_l (by decide)
    have m2 : mulOk (65537 * (d + 1)) (d + 1) = true := mulOk_r (by omega)
    have m3 : mulOk (b + 65537 * (d + 1) * (d + 1) + 11) 48271 = true := mulOk_r (by decide)
    generalize hx : (b + 65537 * (d + 1) * (d + 1) + 11) * 48271 % 2305843009213693921 = x
    have x1 : 0 ≤ x := by rw [← hx]; exact Int.emod_nonneg _ (by decide)
    have x2 : x < 2305843009213693921 := by rw [← hx]; exact Int.emod_lt_of_pos _ (by decide)
    have m4 : mulOk 99991 (d + 1) = true := mulOk_l (by decide)
    have m5 : mulOk x (x % 1000003 + 99991 * (d + 1)) = true := mulOk_l (by omega)
    generalize hy : x * (x % 1000003 + 99991 * (d + 1)) % 2305843009213693907 = y
    have d1 : mid 97 = true := mid_le (by decide)
    have d2 : mid 1000033 = true := mid_le (by decide)
    simp [takeB, hi, e2, hand, exB, exS, evE, evEs, evT, reD, deref, ixD, ixN, cmpD, ltOk, alikeD, isNon, okD, plain, depthD, ltD, truthD, bindTg, MS.put, setM, wrTo, wrOb, below, belows, binD, binI, hg, hm, hi, m1, m2, m3, hx, m4, m5, hy, d1, d2]
    refine ⟨flat_set h2 rfl, Int.emod_nonneg _ (by omega), Int.emod_lt_of_pos _ hm, by simpa using h1, flat_set h2 rfl, g, b, d + 1, by simp [hi, hand], h3, h4, by omega, by omega⟩
def pickB : List S := [.ret (.ix (.sl 1) (.call "_law_take" [.sl 0, .bi .len [.sl 1]] [] []))]
/-- one of a written list -/
theorem c_pick {G : Tab} {ns : Nat} {tb : List S} {gc : Bool} (T : TakeOk G) (hT : IsFn G "_law_take" 2 ns tb gc) (h : IsFn G "_law_pick" 2 2 pickB true)
    {N i L : Nat} {xs : List D} {c : Int} {hp : List Ob} {bs : Nat} (hN : 2 ≤ N) (H : Hd i L c hp) (hx : 0 < xs.length) (hx2 : xs.length < 100000) (hc : c < 2 ^ 40) (hb : belows 0 xs = true) :
    Ok (calN G N "_law_pick" [.ref i, .lst xs] bs hp) fun d hp' => d ∈ xs ∧ Hd i L (c + 1) hp' := by
  obtain ⟨n, rfl⟩ : ∃ n, N = n + 1 := ⟨N - 1, by omega⟩
  refine Ok_fn h rfl ?_
  simp [pickB, exB, exS, evE, evEs, reDs, reD, deref, callBi, lenD, Ok_bind]
  refine Ok_c hT rfl (T (by omega) H (by omega) (by omega) hc) ?_
  rintro _ hp' ⟨r, rfl, r0, r1, hk⟩
  have hr : r.toNat < xs.length := by omega
  simp [ixD, ixN_nat r0 r1, List.getElem?_eq_getElem hr, hk.len, H.len, hk.flat, hk, below_of hb]
end Tw
end

section
set_option linter.all false
set_option autoImplicit false
set_option maxRecDepth 100000
set_option maxHeartbeats 4000000
/-! Rules for simp: a piece of code by what is wanted behind it. -/
namespace Tw
section
variable {G : Tab} {cal : Cal} {s t : MS}
section
variable {α : Type} {σ : Type} {Q : α → σ → Prop}
theorem Ok_ofO {o : Option α} {t : σ} : Ok (R.ofO o t) Q ↔ ∃ x, o = some x ∧ Q x t := by
  cases o <;> simp [R.ofO]
theorem Ok_ite {c : Prop} [Decidable c] {a b : R σ α} (h1 : c → Ok a Q) (h2 : ¬ c → Ok b Q) : Ok (if c then a else b) Q := by
  by_cases h : c
  · rw [if_pos h]; exact h1 h
  · rw [if_neg h]; exact h2 h
@[simp] theorem Ok_b {β : Type} {r : R σ α} {f : α → σ → R σ β} {Q : β → σ → Prop} : Ok (r.bind f) Q ↔ Ok r fun x t => Ok (f x t) Q := Ok_bind
end
/-- go on where there is something -/
def oB {α β : Type} (o : Option α) (f : α → R MS β) : R MS β := match o with | some x => f x | none => .stuck
@[simp] theorem oB_some {α β : Type} {x : α} {f : α → R MS β} : oB (some x) f = f x := rfl
@[simp] theorem oB_none {α β : Type} {f : α → R MS β} : oB none f = .stuck := rfl
theorem Ok_oB {α β : Type} {o : Option α} {f : α → R MS β} {Q : β → MS → Prop} : Ok (oB o f) Q ↔ ∃ x, o = some x ∧ Ok (f x) Q := by
  cases o <;> simp [oB]
section
variable {α β γ : Type} {f : α → R MS β} {Q : β → MS → Prop} {t : MS}
@[simp] theorem Ok_oBmap {o : Option γ} {g : γ → α} : Ok (oB (o.map g) f) Q ↔ Ok (oB o fun x => f (g x)) Q := by cases o <;> rfl
@[simp] theorem Ok_oBbind {o : Option γ} {g : γ → Option α} : Ok (oB (o.bind g) f) Q ↔ Ok (oB o fun x => oB (g x) f) Q := by cases o <;> rfl
@[simp] theorem Ok_oBite {c : Prop} [Decidable c] {x : α} : Ok (oB (if c then some x else none) f) Q ↔ c ∧ Ok (f x) Q := by by_cases h : c <;> simp [h]
@[simp] theorem Ok_oBfit {xs : List D} {f : List D → R MS β} : Ok (oB (fitL xs) f) Q ↔ xs.length ≤ SZ ∧ Ok (f xs) Q := by unfold fitL; exact Ok_oBite
@[simp] theorem Ok_oBfits {xs : List Nat} {f : D → R MS β} : Ok (oB (fitS xs) f) Q ↔ xs.length ≤ SZ ∧ Ok (f (.str xs)) Q := by unfold fitS; exact Ok_oBite
@[simp] theorem Ok_ofOmap {o : Option γ} {g : γ → β} : Ok (R.ofO (o.map g) t) Q ↔ Ok (R.ofO o t) fun x t => Q (g x) t := by cases o <;> rfl
@[simp] theorem Ok_ofObind {o : Option γ} {g : γ → Option β} : Ok (R.ofO (o.bind g) t) Q ↔ Ok (oB o fun x => R.ofO (g x) t) Q := by cases o <;> rfl
@[simp] theorem Ok_ofOite {c : Prop} [Decidable c] {x : β} : Ok (R.ofO (if c then some x else none) t) Q ↔ c ∧ Q x t := by by_cases h : c <;> simp [h]
@[simp] theorem Ok_ofOfit {xs : List D} {Q : List D → MS → Prop} : Ok (R.ofO (fitL xs) t) Q ↔ xs.length ≤ SZ ∧ Q xs t := by unfold fitL; exact Ok_ofOite
@[simp] theorem Ok_ofOfits {xs : List Nat} {Q : D → MS → Prop} : Ok (R.ofO (fitS xs) t) Q ↔ xs.length ≤ SZ ∧ Q (.str xs) t := by unfold fitS; exact Ok_ofOite
end
@[simp] theorem Ok_iteS {β : Type} {c : Prop} [Decidable c] {x : β} {t : MS} {Q : β → MS → Prop} : Ok (if c then R.ok x t else .stuck) Q ↔ c ∧ Q x t := by
  by_cases h : c <;> simp [h]
/-! what is read anew -/
@[simp] theorem reD_sl (i : Nat) (d : D) (s : MS) : reD (.sl i) d s = deref d s.hp := rfl
@[simp] theorem reD_gl (i : String) (d : D) (s : MS) : reD (.gl i) d s = deref d s.hp := rfl
@[simp] theorem reD_int (i : Int) (d : D) (s : MS) : reD (.int i) d s = deref d s.hp := rfl
@[simp] theorem reD_str (i : List Nat) (d : D) (s : MS) : reD (.str i) d s = deref d s.hp := rfl
@[simp] theorem reD_bl (i : Bool) (d : D) (s : MS) : reD (.bl i) d s = deref d s.hp := rfl
@[simp] theorem reD_non (d : D) (s : MS) : reD .non d s = deref d s.hp := rfl
@[simp] theorem reD_tup (es : List E) (d : D) (s : MS) : reD (.tup es) d s = deref d s.hp := rfl
@[simp] theorem reD_lst (es : List E) (d : D) (s : MS) : reD (.lst es) d s = deref d s.hp := rfl
@[simp] theorem reD_bin (o : Bo) (a b : E) (d : D) (s : MS) : reD (.bin o a b) d s = deref d s.hp := rfl
@[simp] theorem reD_neg (a : E) (d : D) (s : MS) : reD (.neg a) d s = deref d s.hp := rfl
@[simp] theorem reD_cmp (o : Co) (a b : E) (d : D) (s : MS) : reD (.cmp o a b) d s = deref d s.hp := rfl
@[simp] theorem reD_cmp2 (o p : Co) (a b c : E) (d : D) (s : MS) : reD (.cmp2 o p a b c) d s = deref d s.hp := rfl
@[simp] theorem reD_and (a b : E) (d : D) (s : MS) : reD (.and a b) d s = deref d s.hp := rfl
@[simp] theorem reD_or (a b : E) (d : D) (s : MS) : reD (.or a b) d s = deref d s.hp := rfl
@[simp] theorem reD_not (a : E) (d : D) (s : MS) : reD (.not a) d s = deref d s.hp := rfl
@[simp] theorem reD_ife (a b c : E) (d : D) (s : MS) : reD (.ife a b c) d s = deref d s.hp := rfl
@[simp] theorem reD_call (f : String) (es : List E) (ks : List String) (kes : List E) (d : D) (s : MS) : reD (.call f es ks kes) d s = deref d s.hp := rfl
@[simp] theorem reD_bi (f : Bi) (es : List E) (d : D) (s : MS) : reD (.bi f es) d s = deref d s.hp := rfl
@[simp] theorem reD_bm (o : E) (m : Bm) (es : List E) (d : D) (s : MS) : reD (.bm o m es) d s = deref d s.hp := rfl
@[simp] theorem reD_nil (ng tp : Bool) (a : E) (d : D) (s : MS) : reD (.nil ng tp a) d s = deref d s.hp := rfl
@[simp] theorem reD_jn (a e : E) (d : D) (s : MS) : reD (.jn a e) d s = deref d s.hp := rfl
@[simp] theorem reD_dk0 (d : D) (s : MS) : reD .dk0 d s = deref d s.hp := rfl
@[simp] theorem reD_dk1 (k : List Nat) (e : E) (d : D) (s : MS) : reD (.dk1 k e) d s = deref d s.hp := rfl
@[simp] theorem nilD_lst (ng : Bool) (ds : List D) : nilD ng false (.lst ds) = some (.bl (ds.isEmpty != ng)) := rfl
@[simp] theorem nilD_tup (ng : Bool) (ds : List D) : nilD ng true (.tup ds) = some (.bl (ds.isEmpty != ng)) := rfl
@[simp] theorem deref_dct (ks vs : List D) (hp : List Ob) : deref (.dct ks vs) hp = .dct ks vs := rfl
@[simp] theorem reD_low (a : E) (d : D) (s : MS) : reD (.low a) d s = deref d s.hp := rfl
@[simp] theorem reD_stp (a b : E) (d : D) (s : MS) : reD (.stp a b) d s = deref d s.hp := rfl
@[simp] theorem reD_mxd (a : E) (k : Int) (d : D) (s : MS) : reD (.mxd a k) d s = deref d s.hp := rfl
@[simp] theorem reD_tx (f : Tx) (a b : E) (d : D) (s : MS) : reD (.tx f a b) d s = deref d s.hp := rfl
@[simp] theorem reD_fst (es : List E) (d : D) (s : MS) : reD (.fst es) d s = deref d s.hp := rfl
@[simp] theorem reD_lrg (es : List E) (d : D) (s : MS) : reD (.lrg es) d s = deref d s.hp := rfl
@[simp] theorem reD_ix (o k : E) (d : D) (s : MS) : reD (.ix o k) d s = deref d s.hp := rfl
@[simp] theorem reD_slc (o : E) (lo hi : List E) (d : D) (s : MS) : reD (.slc o lo hi) d s = deref d s.hp := rfl
@[simp] theorem reD_rev (o : E) (d : D) (s : MS) : reD (.rev o) d s = deref d s.hp := rfl
@[simp] theorem reD_isi (o : E) (cs : List Cl) (d : D) (s : MS) : reD (.isi o cs) d s = deref d s.hp := rfl
@[simp] theorem reD_comp (elt : E) (tg : Tg) (k : Ik) (es cnd : List E) (wp : List Nat) (d : D) (s : MS) : reD (.comp elt tg k es cnd wp) d s = deref d s.hp := rfl
@[simp] theorem reD_pk' (i : Nat) (d : D) (s : MS) : reD (.pk i) d s = (match s.env[i]? with | some (.own d) => d | some (.val d) => deref d s.hp | _ => .glo "") := rfl
@[simp] theorem reDs_nil (ds : List D) (s : MS) : reDs [] ds s = [] := rfl
@[simp] theorem reDs_cons (e : E) (es : List E) (d : D) (ds : List D) (s : MS) : reDs (e :: es) (d :: ds) s = reD e d s :: reDs es ds s := rfl
@[simp] theorem deref_non (hp : List Ob) : deref .non hp = .non := rfl
@[simp] theorem deref_bl (b : Bool) (hp : List Ob) : deref (.bl b) hp = .bl b := rfl
@[simp] theorem deref_int (b : Int) (hp : List Ob) : deref (.int b) hp = .int b := rfl
@[simp] theorem deref_str (b : List Nat) (hp : List Ob) : deref (.str b) hp = .str b := rfl
@[simp] theorem deref_tup (b : List D) (hp : List Ob) : deref (.tup b) hp = .tup b := rfl
@[simp] theorem deref_lst (b : List D) (hp : List Ob) : deref (.lst b) hp = .lst b := rfl
@[simp] theorem deref_scr (b : List D) (hp : List Ob) : deref (.scr b) hp = .scr b := rfl
/-! expressions -/
@[simp] theorem ev_sl (i : Nat) : evE G cal (.sl i) s = (match s.env[i]? with | some (.val d) => .ok d s | some (.own d) => .ok d (s.put i (.val d)) | _ => .stuck) := by rw [evE] <;> rfl
@[simp] theorem ev_pk (i : Nat) : evE G cal (.pk i) s = .ofO (match s.env[i]? with | some (.own (.lst ds)) => some (.lst ds) | _ => none) s := by rw [evE] <;> rfl
@[simp] theorem ev_gl (x : String) : evE G cal (.gl x) s = .ofO (G.consts.lookup x) s := by rw [evE]
@[simp] theorem ev_int (i : Int) : evE G cal (.int i) s = .ok (.int i) s := by rw [evE]
@[simp] theorem ev_str (x : List Nat) : evE G cal (.str x) s = .ok (.str x) s := by rw [evE]
@[simp] theorem ev_bl (b : Bool) : evE G cal (.bl b) s = .ok (.bl b) s := by rw [evE]
@[simp] theorem ev_non : evE G cal .non s = .ok .non s := by rw [evE]
@[simp] theorem ev_tup (es : List E) : evE G cal (.tup es) s = (evEs G cal es s).bind fun ds s => .ok (.tup ds) s := by rw [evE]
@[simp] theorem ev_lst (es : List E) : evE G cal (.lst es) s = (evEs G cal es s).bind fun ds s => .ok (.lst ds) s := by rw [evE]
@[simp] theorem ev_shr (e : E) : evE G cal (.shr e) s = (evE G cal e s).bind fun x s => (match x with
    | .lst ds => .ok (.ref s.hp.length) { s with hp := s.hp ++ [.lst ds] }
    | _ => .stuck) := by rw [evE] <;> rfl
@[simp] theorem ev_dk0 : evE G cal .dk0 s = .ok (.dct [] []) s := by rw [evE]
@[simp] theorem ev_dk1 (k : List Nat) (e : E) : evE G cal (.dk1 k e) s = (evE G cal e s).bind fun x s => .ok (.dct [.str k] [x]) s := by rw [evE]
@[simp] theorem ev_nil (ng tp : Bool) (a : E) : evE G cal (.nil ng tp a) s = (evE G cal a s).bind fun x s => .ofO (nilD ng tp (reD a x s)) s := by rw [evE]
@[simp] theorem ev_jn (a e : E) : evE G cal (.jn a e) s = (evE G cal a s).bind fun x s => (evE G cal e s).bind fun y s => .ofO ((seqD (reD e y s)).bind (joinD x)) s := by rw [evE]
@[simp] theorem ev_low (a : E) : evE G cal (.low a) s = (evE G cal a s).bind fun x s => .ofO (lowD x) s := by rw [evE]
@[simp] theorem ev_stp (a b : E) : evE G cal (.stp a b) s = (evE G cal a s).bind fun x s => (evE G cal b s).bind fun y s => .ofO (stpD x y) s := by rw [evE]
@[simp] theorem stpD_str (a b : List Nat) : stpD (.str a) (.str b) = some (.str (stpL a b)) := rfl
@[simp] theorem ev_mxd (a : E) (k : Int) : evE G cal (.mxd a k) s = (evE G cal a s).bind fun x s => .ofO (mxdD (reD a x s) k) s := by rw [evE]
@[simp] theorem ev_tx (f : Tx) (a b : E) : evE G cal (.tx f a b) s = (evE G cal a s).bind fun x s => (evE G cal b s).bind fun y s => .ofO (txD f x y) s := by rw [evE]
@[simp] theorem ev_fst (es : List E) : evE G cal (.fst es) s = (evEs G cal es s).bind fun ds s => .ofO ((fstL ds).bind fitS) s := by rw [evE]
@[simp] theorem ev_lrg (es : List E) : evE G cal (.lrg es) s = (evEs G cal es s).bind fun ds s => .ofO (lrgD ds) s := by rw [evE]
@[simp] theorem ev_bin (o : Bo) (a b : E) : evE G cal (.bin o a b) s = (evE G cal a s).bind fun x s => (evE G cal b s).bind fun y s => .ofO (binD o (reD a x s) (reD b y s)) s := by rw [evE]
@[simp] theorem ev_neg (a : E) : evE G cal (.neg a) s = (evE G cal a s).bind fun x s => (match x with | .int i => .ok (.int (-i)) s | _ => .stuck) := by rw [evE] <;> rfl
@[simp] theorem ev_cmp (o : Co) (a b : E) : evE G cal (.cmp o a b) s = (evE G cal a s).bind fun x s => (evE G cal b s).bind fun y s => .ofO ((cmpD o (reD a x s) (reD b y s)).map .bl) s := by rw [evE]
@[simp] theorem ev_cmp2 (o p : Co) (a b c : E) : evE G cal (.cmp2 o p a b c) s = (evE G cal a s).bind fun x s => (evE G cal b s).bind fun y s =>
      oB (cmpD o (reD a x s) (reD b y s)) fun t => if t then (evE G cal c s).bind fun z s => .ofO ((cmpD p (reD b y s) (reD c z s)).map .bl) s else .ok (.bl false) s := by
  rw [evE]
  congr 1; funext x s; congr 1; funext y s
  cases cmpD o (reD a x s) (reD b y s) with
  | none => rfl
  | some c => cases c <;> rfl
@[simp] theorem ev_and (a b : E) : evE G cal (.and a b) s = (evE G cal a s).bind fun x s => oB (truthD (reD a x s)) fun c => if c then evE G cal b s else .ok x s := by
  rw [evE]
  congr 1; funext x s
  cases truthD (reD a x s) with
  | none => rfl
  | some c => cases c <;> rfl
@[simp] theorem ev_or (a b : E) : evE G cal (.or a b) s = (evE G cal a s).bind fun x s => oB (truthD (reD a x s)) fun c => if c then .ok x s else evE G cal b s := by
  rw [evE]
  congr 1; funext x s
  cases truthD (reD a x s) with
  | none => rfl
  | some c => cases c <;> rfl
@[simp] theorem ev_not (a : E) : evE G cal (.not a) s = (evE G cal a s).bind fun x s => .ofO ((truthD (reD a x s)).map fun b => .bl (!b)) s := by rw [evE]
@[simp] theorem ev_ife (c a b : E) : evE G cal (.ife c a b) s = (evT G cal c s).bind fun t s => if t then evE G cal a s else evE G cal b s := by rw [evE]
@[simp] theorem ev_call (f : String) (es : List E) (ks : List String) (kes : List E) : evE G cal (.call f es ks kes) s = (evEs G cal es s).bind fun ds s => (evEs G cal kes s).bind fun kds s => callWith G cal f ds ks kds s := by rw [evE]
@[simp] theorem ev_bi (f : Bi) (es : List E) : evE G cal (.bi f es) s = (evEs G cal es s).bind fun ds s => .ofO (callBi G.sh f (reDs es ds s)) s := by rw [evE]
@[simp] theorem ev_append (o : E) (es : List E) : evE G cal (.bm o .append es) s = (evE G cal o s).bind fun x s => (evEs G cal es s).bind fun ds s =>
      oB (muM .append (reD o x s) (mArgs .append es ds s)) fun dr => oB (wrTo o x dr.1 s) fun s2 => .ok dr.2 s2 := by
  rw [evE]
  congr 1; funext x s; congr 1; funext ds s
  show ((match muM .append (reD o x s) (mArgs .append es ds s) with | some (d, r) => (match wrTo o x d s with | some s2 => .ok r s2 | none => .stuck) | none => .stuck) : R MS D) = _
  cases muM .append (reD o x s) (mArgs .append es ds s) with
  | none => rfl
  | some dr =>
    obtain ⟨a, b⟩ := dr
    simp only [oB_some]
    cases wrTo o x a s <;> rfl
@[simp] theorem ev_extend (o : E) (es : List E) : evE G cal (.bm o .extend es) s = (evE G cal o s).bind fun x s => (evEs G cal es s).bind fun ds s =>
      oB (muM .extend (reD o x s) (mArgs .extend es ds s)) fun dr => oB (wrTo o x dr.1 s) fun s2 => .ok dr.2 s2 := by
  rw [evE]
  congr 1; funext x s; congr 1; funext ds s
  show ((match muM .extend (reD o x s) (mArgs .extend es ds s) with | some (d, r) => (match wrTo o x d s with | some s2 => .ok r s2 | none => .stuck) | none => .stuck) : R MS D) = _
  cases muM .extend (reD o x s) (mArgs .extend es ds s) with
  | none => rfl
  | some dr =>
    obtain ⟨a, b⟩ := dr
    simp only [oB_some]
    cases wrTo o x a s <;> rfl
@[simp] theorem ev_pop (o : E) (es : List E) : evE G cal (.bm o .pop es) s = (evE G cal o s).bind fun x s => (evEs G cal es s).bind fun ds s =>
      oB (muM .pop (reD o x s) (mArgs .pop es ds s)) fun dr => oB (wrTo o x dr.1 s) fun s2 => .ok dr.2 s2 := by
  rw [evE]
  congr 1; funext x s; congr 1; funext ds s
  show ((match muM .pop (reD o x s) (mArgs .pop es ds s) with | some (d, r) => (match wrTo o x d s with | some s2 => .ok r s2 | none => .stuck) | none => .stuck) : R MS D) = _
  cases muM .pop (reD o x s) (mArgs .pop es ds s) with
  | none => rfl
  | some dr =>
    obtain ⟨a, b⟩ := dr
    simp only [oB_some]
    cases wrTo o x a s <;> rfl
@[simp] theorem ev_insert (o : E) (es : List E) : evE G cal (.bm o .insert es) s = (evE G cal o s).bind fun x s => (evEs G cal es s).bind fun ds s =>
      oB (muM .insert (reD o x s) (mArgs .insert es ds s)) fun dr => oB (wrTo o x dr.1 s) fun s2 => .ok dr.2 s2 := by
  rw [evE]
  congr 1; funext x s; congr 1; funext ds s
  show ((match muM .insert (reD o x s) (mArgs .insert es ds s) with | some (d, r) => (match wrTo o x d s with | some s2 => .ok r s2 | none => .stuck) | none => .stuck) : R MS D) = _
  cases muM .insert (reD o x s) (mArgs .insert es ds s) with
  | none => rfl
  | some dr =>
    obtain ⟨a, b⟩ := dr
    simp only [oB_some]
    cases wrTo o x a s <;> rfl
@[simp] theorem ev_ix (o k : E) : evE G cal (.ix o k) s = (evE G cal o s).bind fun x s => (evE G cal k s).bind fun y s => .ofO (ixD (reD o x s) y) s := by rw [evE]
@[simp] theorem ev_slc (o : E) (lo hi : List E) : evE G cal (.slc o lo hi) s = (evE G cal o s).bind fun x s => (evEs G cal lo s).bind fun ds s => (evEs G cal hi s).bind fun hs s => .ofO (slcD (reD o x s) ds.head? hs.head?) s := by rw [evE]
@[simp] theorem ev_rev (o : E) : evE G cal (.rev o) s = (evE G cal o s).bind fun x s => (match reD o x s with | .lst ds => .ok (.lst ds.reverse) s | .tup ds => .ok (.tup ds.reverse) s | _ => .stuck) := by rw [evE] <;> rfl
@[simp] theorem evs_nil : evEs G cal [] s = .ok [] s := by rw [evEs]
@[simp] theorem evs_cons (e : E) (es : List E) : evEs G cal (e :: es) s = (evE G cal e s).bind fun d s => (evEs G cal es s).bind fun ds s => .ok (d :: ds) s := by rw [evEs]
/-! tests -/
@[simp] theorem et_and (a b : E) : evT G cal (.and a b) s = (evT G cal a s).bind fun x s => if x then evT G cal b s else .ok false s := by rw [evT]
@[simp] theorem et_or (a b : E) : evT G cal (.or a b) s = (evT G cal a s).bind fun x s => if x then .ok true s else evT G cal b s := by rw [evT]
@[simp] theorem et_not (a : E) : evT G cal (.not a) s = (evT G cal a s).bind fun x s => .ok (!x) s := by rw [evT]
@[simp] theorem et_ife (c a b : E) : evT G cal (.ife c a b) s = (evT G cal c s).bind fun t s => if t then evT G cal a s else evT G cal b s := by rw [evT]
def tst (G : Tab) (cal : Cal) (e : E) (s : MS) : R MS Bool := (evE G cal e s).bind fun x s => .ofO (truthD (reD e x s)) s
@[simp] theorem et_cmp (o : Co) (a b : E) : evT G cal (.cmp o a b) s = (evE G cal a s).bind fun x s => (evE G cal b s).bind fun y s => .ofO (cmpD o (reD a x s) (reD b y s)) s := by
  rw [evT, ev_cmp]
  · cases evE G cal a s with
    | ok x s1 =>
      simp only [R.bind]
      cases evE G cal b s1 with
      | ok y s2 =>
        simp only [R.bind]
        cases cmpD o (reD a x s2) (reD b y s2) <;> rfl
      | _ => rfl
    | _ => rfl
  all_goals nofun
@[simp] theorem et_nil (ng tp : Bool) (a : E) : evT G cal (.nil ng tp a) s = (evE G cal a s).bind fun x s => .ofO ((nilD ng tp (reD a x s)).bind fun x => truthD x) s := by
  rw [evT]
  · show tst G cal (.nil ng tp a) s = _
    unfold tst
    rw [ev_nil]
    cases evE G cal a s with
    | ok x s1 =>
      simp only [R.bind]
      unfold nilD
      cases reD a x s1 <;> cases tp <;> rfl
    | _ => rfl
  all_goals nofun
@[simp] theorem et_cmp2 (o p : Co) (a b c : E) : evT G cal (.cmp2 o p a b c) s = tst G cal (.cmp2 o p a b c) s := by
  rw [evT]
  · rfl
  all_goals nofun
@[simp] theorem et_sl (i : Nat) : evT G cal (.sl i) s = tst G cal (.sl i) s := by
  rw [evT]
  · rfl
  all_goals nofun
@[simp] theorem et_pk (i : Nat) : evT G cal (.pk i) s = tst G cal (.pk i) s := by
  rw [evT]
  · rfl
  all_goals nofun
@[simp] theorem et_bl (b : Bool) : evT G cal (.bl b) s = .ok b s := by
  rw [evT, ev_bl]
  · rfl
  all_goals nofun
theorem et_call (f : String) (es : List E) (ks : List String) (kes : List E) : evT G cal (.call f es ks kes) s = tst G cal (.call f es ks kes) s := by
  rw [evT]
  · rfl
  all_goals nofun
@[simp] theorem et_call' (f : String) (es : List E) (ks : List String) (kes : List E) : evT G cal (.call f es ks kes) s = (evEs G cal es s).bind fun ds s => (evEs G cal kes s).bind fun kds s => (callWith G cal f ds ks kds s).bind fun x s => .ofO (truthD (deref x s.hp)) s := by
  rw [et_call, tst, ev_call]
  cases evEs G cal es s with
  | ok ds s1 =>
    simp only [R.bind]
    cases evEs G cal kes s1 with
    | ok y s2 => rfl
    | _ => rfl
  | _ => rfl
@[simp] theorem et_bi (f : Bi) (es : List E) : evT G cal (.bi f es) s = (evEs G cal es s).bind fun ds s => .ofO ((callBi G.sh f (reDs es ds s)).bind fun x => truthD (deref x s.hp)) s := by
  rw [evT, ev_bi]
  · cases evEs G cal es s with
    | ok ds s1 =>
      simp only [R.bind]
      cases callBi G.sh f (reDs es ds s1) <;> rfl
    | _ => rfl
  all_goals nofun
theorem et_isi (o : E) (cs : List Cl) : evT G cal (.isi o cs) s = tst G cal (.isi o cs) s := by
  rw [evT]
  · rfl
  all_goals nofun
@[simp] theorem et_ix (o k : E) : evT G cal (.ix o k) s = tst G cal (.ix o k) s := by
  rw [evT]
  · rfl
  all_goals nofun
@[simp] theorem ets_nil : evTs G cal [] s = .ok true s := by rw [evTs]
@[simp] theorem ets_cons (e : E) (es : List E) : evTs G cal (e :: es) s = (evT G cal e s).bind fun x s => if x then evTs G cal es s else .ok false s := by rw [evTs]
/-! statements -/
@[simp] theorem ex_ex (e : E) : exS G cal (.ex e) s = (evE G cal e s).bind fun _ s => .ok .nx s := by rw [exS]
@[simp] theorem ex_ret (e : E) : exS G cal (.ret e) s = (evE G cal e s).bind fun d s => .ok (.ret d) s := by rw [exS]
@[simp] theorem ex_retN : exS G cal .retN s = .ok (.ret .non) s := by rw [exS]
@[simp] theorem ex_asg (t : Tg) (e : E) : exS G cal (.asg t e) s = (evE G cal e s).bind fun d s => oB (bindTg t d s) fun s => .ok .nx s := by
  rw [exS]
  exact congrArg _ (funext fun d => funext fun s => by cases bindTg t d s <;> rfl)
@[simp] theorem ex_own (i : Nat) (e : E) : exS G cal (.own i e) s = (evE G cal e s).bind fun d s => (match d with
      | .lst ds => if i < s.env.length then .ok .nx (s.put i (.own (.lst ds))) else .stuck
      | _ => .stuck) := by rw [exS] <;> rfl
@[simp] theorem ex_par (is : List (Nat × Bool)) (es : List E) : exS G cal (.par is es) s = (evEs G cal es s).bind fun ds s => oB (putPar is ds s) fun s => .ok .nx s := by
  rw [exS]
  exact congrArg _ (funext fun d => funext fun s => by cases putPar is d s <;> rfl)
@[simp] theorem ex_aug (i : Nat) (o : Bo) (e : E) : exS G cal (.aug i o e) s = (match s.env[i]? with
      | some (.val x) => (evE G cal e s).bind fun y s => oB (augD o x (reD e y s)) fun d => .ok .nx (s.put i (.val d))
      | _ => .stuck) := by
  rw [exS]
  cases s.env[i]? with
  | none => rfl
  | some v =>
    cases v with
    | val x =>
      show (evE G cal e s).bind _ = (evE G cal e s).bind _
      exact congrArg _ (funext fun d => funext fun s => by cases augD o x (reD e d s) <;> rfl)
    | _ => rfl
@[simp] theorem ev_fld (o : E) (f : String) : evE G cal (.fld o f) s = (evE G cal o s).bind fun x s => .ofO (fldD G x f) s := by rw [evE]
@[simp] theorem ex_setf (i : Nat) (f : String) (v : E) : exS G cal (.setf (.pk i) f v) s = (evE G cal v s).bind fun d s => (match s.env[i]? with
        | some (.own (.obj c fs vs)) => if okF G c f && (!fs.contains f && decide (fs.length < 1000)) then .ok .nx (s.put i (.own (.obj c (fs ++ [f]) (vs ++ [d])))) else .stuck
        | _ => .stuck) := by rw [exS] <;> rfl
@[simp] theorem ex_slf (c : String) : exS G cal (.slf c) s = if 0 < s.env.length then .ok .nx (s.put 0 (.own (.obj c [] []))) else .stuck := by rw [exS]
@[simp] theorem ex_setix (o k v : E) : exS G cal (.setix o k v) s = (evE G cal v s).bind fun d s => (evE G cal o s).bind fun x s => (evE G cal k s).bind fun y s =>
      oB (setM (reD o x s) y d) fun c => oB (wrTo o x c s) fun s2 => .ok .nx s2 := by
  rw [exS]
  exact congrArg _ (funext fun d => funext fun s => congrArg _ (funext fun x => funext fun s => congrArg _ (funext fun y => funext fun s => by
    cases setM (reD o x s) y d with
    | none => rfl
    | some c =>
      simp only [oB_some]
      cases wrTo o x c s <;> rfl)))
@[simp] theorem ex_ife (c : E) (a b : List S) : exS G cal (.ife c a b) s = (evT G cal c s).bind fun t s => if t then exB G cal a s else exB G cal b s := by rw [exS]
@[simp] theorem ex_brk : exS G cal .brk s = .ok .brk s := by rw [exS]
@[simp] theorem ex_cont : exS G cal .cont s = .ok .cont s := by rw [exS]
@[simp] theorem ex_pass : exS G cal .pass s = .ok .nx s := by rw [exS]
@[simp] theorem eb_nil : exB G cal [] s = .ok .nx s := by rw [exB]
/-! the state -/
@[simp] theorem put_mk (env : List Slt) (hp : List Ob) (bs i : Nat) (v : Slt) : MS.put ⟨env, hp, bs⟩ i v = ⟨env.set i v, hp, bs⟩ := rfl
@[simp] theorem bind_nm (i : Nat) (d : D) : bindTg (.nm i) d s = if i < s.env.length then some (s.put i (.val d)) else none := by rw [bindTg]
@[simp] theorem bind_tp (ts : List Tg) (ds : List D) : bindTg (.tp ts) (.tup ds) s = bindTg.bindTgs ts ds s := by rw [bindTg]
@[simp] theorem binds_nil : bindTg.bindTgs [] [] s = some s := by rw [bindTg.bindTgs]
@[simp] theorem binds_cons (t : Tg) (ts : List Tg) (d : D) (ds : List D) : bindTg.bindTgs (t :: ts) (d :: ds) s = (bindTg t d s).bind fun s' => bindTg.bindTgs ts ds s' := by rw [bindTg.bindTgs]
@[simp] theorem pp_nil : putPar [] [] s = some s := rfl
@[simp] theorem pp_f (i : Nat) (is : List (Nat × Bool)) (d : D) (ds : List D) : putPar ((i, false) :: is) (d :: ds) s = if i < s.env.length then putPar is ds (s.put i (.val d)) else none := rfl
@[simp] theorem pp_t (i : Nat) (is : List (Nat × Bool)) (d : List D) (ds : List D) : putPar ((i, true) :: is) (.lst d :: ds) s = if i < s.env.length then putPar is ds (s.put i (.own (.lst d))) else none := rfl
@[simp] theorem wipe_nil : wipeS s [] = s := rfl
@[simp] theorem wipe_cons (i : Nat) (is : List Nat) : wipeS s (i :: is) = (wipeS s is).put i .non := rfl
@[simp] theorem back_nil : backS s t [] = t := rfl
@[simp] theorem back_cons (i : Nat) (is : List Nat) : backS s t (i :: is) = (backS s t is).put i (s.env.getD i .non) := rfl
@[simp] theorem src_nil : srcOk [] [] [] s = true := rfl
@[simp] theorem src_cons (e : E) (es : List E) (d : D) (ds : List D) (c : D) (cs : List D) : srcOk (e :: es) (d :: ds) (c :: cs) s = (sameD (reD e d s) c && srcOk es ds cs s) := rfl
@[simp] theorem wr_pk (i : Nat) (x d : D) : wrTo (.pk i) x d s = if isOwn s i then some (s.put i (.own d)) else none := rfl
@[simp] theorem isOwn_mk (env : List Slt) (hp : List Ob) (bs i : Nat) : isOwn ⟨env, hp, bs⟩ i = (match env[i]? with | some (.own _) => true | _ => false) := rfl
/-! data -/
@[simp] theorem bD_int (o : Bo) (i j : Int) : binD o (.int i) (.int j) = binI o i j := by cases o <;> rfl
@[simp] theorem bI_add (i j : Int) : binI .add i j = some (.int (i + j)) := rfl
@[simp] theorem bI_sub (i j : Int) : binI .sub i j = some (.int (i - j)) := rfl
@[simp] theorem bI_mul (i j : Int) : binI .mul i j = if mulOk i j then some (.int (i * j)) else none := rfl
@[simp] theorem bI_fdiv (i j : Int) : binI .fdiv i j = if decide (0 < j) && mid j then some (.int (i / j)) else none := rfl
@[simp] theorem bI_mod (i j : Int) : binI .mod i j = if decide (0 < j) then some (.int (i % j)) else none := rfl
@[simp] theorem bI_shl (i j : Int) : binI .shl i j = if decide (0 ≤ j) && (decide (j ≤ 1000000) && small64 i) then some (.int (i * 2 ^ j.toNat)) else none := rfl
@[simp] theorem bI_shr (i j : Int) : binI .shr i j = if decide (0 ≤ j) then some (.int (i / 2 ^ j.toNat)) else none := rfl
@[simp] theorem bD_lst (x y : List D) : binD .add (.lst x) (.lst y) = (fitL (x ++ y)).map .lst := rfl
@[simp] theorem bD_tup (x y : List D) : binD .add (.tup x) (.tup y) = (fitL (x ++ y)).map .tup := rfl
@[simp] theorem bD_str (x y : List Nat) : binD .add (.str x) (.str y) = fitS (x ++ y) := rfl
@[simp] theorem tr_non : truthD .non = some false := rfl
@[simp] theorem tr_bl (b : Bool) : truthD (.bl b) = some b := rfl
@[simp] theorem tr_int (i : Int) : truthD (.int i) = some (i != 0) := rfl
@[simp] theorem tr_str (x : List Nat) : truthD (.str x) = some (!x.isEmpty) := rfl
@[simp] theorem tr_tup (x : List D) : truthD (.tup x) = some (!x.isEmpty) := rfl
@[simp] theorem tr_lst (x : List D) : truthD (.lst x) = some (!x.isEmpty) := rfl
@[simp] theorem ck_lti (i j : Int) : cmpD .lt (.int i) (.int j) = some (decide (i < j)) := rfl
@[simp] theorem ck_gti (i j : Int) : cmpD .gt (.int i) (.int j) = some (decide (j < i)) := rfl
@[simp] theorem ck_lei (i j : Int) : cmpD .le (.int i) (.int j) = some (!decide (j < i)) := rfl
@[simp] theorem ck_gei (i j : Int) : cmpD .ge (.int i) (.int j) = some (!decide (i < j)) := rfl
@[simp] theorem ck_eqi (i j : Int) : cmpD .eq (.int i) (.int j) = some (i == j) := rfl
@[simp] theorem ck_nei (i j : Int) : cmpD .ne (.int i) (.int j) = some (!(i == j)) := rfl
@[simp] theorem ck_inn (x y : D) : cmpD .inn x y = inD x y := rfl
@[simp] theorem ck_nin (x y : D) : cmpD .nin x y = (inD x y).map not := rfl
@[simp] theorem ck_is (x y : D) : cmpD .is x y = isD x y := rfl
@[simp] theorem ck_isn (x y : D) : cmpD .isn x y = (isD x y).map not := rfl
@[simp] theorem cb_lenl (sh : D → List Nat) (x : List D) : callBi sh .len [.lst x] = some (.int x.length) := rfl
@[simp] theorem cb_lent (sh : D → List Nat) (x : List D) : callBi sh .len [.tup x] = some (.int x.length) := rfl
@[simp] theorem cb_lens (sh : D → List Nat) (x : List Nat) : callBi sh .len [.str x] = some (.int x.length) := rfl
@[simp] theorem cb_lenc (sh : D → List Nat) (x : List D) : callBi sh .len [.scr x] = some (.int x.length) := rfl
@[simp] theorem cb_tupl (sh : D → List Nat) (x : List D) : callBi sh .tuple [.lst x] = some (.tup x) := rfl
@[simp] theorem cb_tupt (sh : D → List Nat) (x : List D) : callBi sh .tuple [.tup x] = some (.tup x) := rfl
@[simp] theorem cb_lstl (sh : D → List Nat) (x : List D) : callBi sh .list [.lst x] = some (.lst x) := rfl
@[simp] theorem cb_lstt (sh : D → List Nat) (x : List D) : callBi sh .list [.tup x] = some (.lst x) := rfl
@[simp] theorem cb_intb (sh : D → List Nat) (x : Bool) : callBi sh .int [.bl x] = some (.int (if x then 1 else 0)) := rfl
@[simp] theorem cb_inti (sh : D → List Nat) (x : Int) : callBi sh .int [.int x] = some (.int x) := rfl
@[simp] theorem cb_min (sh : D → List Nat) (x y : Int) : callBi sh .min [.int x, .int y] = some (.int (if y < x then y else x)) := rfl
@[simp] theorem cb_max (sh : D → List Nat) (x y : Int) : callBi sh .max [.int x, .int y] = some (.int (if x < y then y else x)) := rfl
@[simp] theorem rd_app (o : D) (ds : List D) : rdM .append o ds = none := rfl
@[simp] theorem rd_ext (o : D) (ds : List D) : rdM .extend o ds = none := rfl
@[simp] theorem rd_pop (o : D) (ds : List D) : rdM .pop o ds = none := rfl
@[simp] theorem rd_ins (o : D) (ds : List D) : rdM .insert o ds = none := rfl
@[simp] theorem mu_app (ds : List D) (x : D) : muM .append (.lst ds) [x] = (fitL (ds ++ [x])).map fun l => (.lst l, .non) := rfl
@[simp] theorem mu_ext (ds xs : List D) : muM .extend (.lst ds) [.lst xs] = (fitL (ds ++ xs)).map fun l => (.lst l, .non) := rfl
@[simp] theorem ma_app (es : List E) (ds : List D) : mArgs .append es ds s = ds := rfl
@[simp] theorem ma_ext (es : List E) (ds : List D) : mArgs .extend es ds s = reDs es ds s := rfl
end
/-! what goes on behind a statement -/
def Nx (N : MS → Prop) (Q : Fl → MS → Prop) : Fl → MS → Prop
  | .nx, t => N t
  | f, t => Q f t
def Lp (N R : MS → Prop) (Q : Fl → MS → Prop) : Fl → MS → Prop
  | .nx, t => N t
  | .cont, t => N t
  | .brk, t => R t
  | .ret d, t => Q (.ret d) t
section
variable {N R : MS → Prop} {Q : Fl → MS → Prop} {t : MS} {d : D}
@[simp] theorem Nx_nx : Nx N Q .nx t = N t := rfl
@[simp] theorem Nx_ret : Nx N Q (.ret d) t = Q (.ret d) t := rfl
@[simp] theorem Nx_brk : Nx N Q .brk t = Q .brk t := rfl
@[simp] theorem Nx_cont : Nx N Q .cont t = Q .cont t := rfl
@[simp] theorem Lp_nx : Lp N R Q .nx t = N t := rfl
@[simp] theorem Lp_ret : Lp N R Q (.ret d) t = Q (.ret d) t := rfl
@[simp] theorem Lp_brk : Lp N R Q .brk t = R t := rfl
@[simp] theorem Lp_cont : Lp N R Q .cont t = N t := rfl
end
section
variable {G : Tab} {cal : Cal} {c : S} {cs : List S} {s t : MS} {Q : Fl → MS → Prop}
theorem W_seq (h : Ok (exS G cal c s) (Nx (fun t => Ok (exB G cal cs t) Q) Q)) : Ok (exB G cal (c :: cs) s) Q :=
  Ok_seq (h.mono fun f t q => by cases f <;> exact q)
theorem W_for {tg : Tg} {k : Ik} {es : List E} {b : List S}
    (h : Ok (evEs G cal es s) fun ds t => ∃ xs, itemsOf k (reDs es ds t) = some xs ∧ ∃ P : Nat → MS → Prop, P 0 t ∧ (∀ i s, P i s → srcOk es ds (reDs es ds t) s = true) ∧
      (∀ i x s, xs[i]? = some x → P i s → Ok (oB (bindTg tg x s) fun s' => exB G cal b s') (Lp (P (i + 1)) (fun t => Ok (exB G cal cs t) Q) Q)) ∧
      (∀ s, P xs.length s → Ok (exB G cal cs s) Q)) : Ok (exB G cal (.for tg k es b :: cs) s) Q := by
  obtain ⟨ds, t, he, xs, hi, P, h0, hc, ht, hd⟩ := h.ex
  refine Ok_seq (Ok_for P he hi h0 hc (fun i x s e p => ?_) hd)
  have := ht i x s e p
  rw [Ok_oB] at this
  obtain ⟨s', e1, e2⟩ := this
  exact ⟨s', e1, e2.mono fun f t q => by cases f <;> exact q⟩
/-- a comprehension -/
theorem W_comp {elt : E} {tg : Tg} {k : Ik} {es cnd : List E} {wp : List Nat} {Q : D → MS → Prop}
    (h : Ok (evEs G cal es s) fun ds t => ∃ xs, itemsOf k (reDs es ds t) = some xs ∧ xs.length ≤ SZ ∧ wp.any (isOwn t) = false ∧ ∃ P : Nat → List D → MS → Prop, P 0 [] (wipeS t wp) ∧ (∀ i a s, P i a s → srcOk es ds (reDs es ds t) s = true) ∧
      (∀ i a x s, xs[i]? = some x → P i a s → Ok (oB (bindTg tg x s) fun s' => (evTs G cal cnd s').bind fun b s => if b then (evE G cal elt s).bind fun d s => .ok (some d) (wipeS s wp) else .ok none (wipeS s wp)) fun o t => P (i + 1) (match o with | some d => a ++ [d] | none => a) t) ∧
      (∀ a s, P xs.length a s → Q (.lst a) (backS t s wp))) : Ok (evE G cal (.comp elt tg k es cnd wp) s) Q := by
  obtain ⟨ds, t, he, xs, hi, hz, hw, P, h0, hc, ht, hd⟩ := h.ex
  refine Ok_comp P he hi hz hw h0 hc (fun i a x s e p => ?_) hd
  have := ht i a x s e p
  rw [Ok_oB] at this
  exact this
/-- a comprehension that finds by each alone -/
theorem W_map {elt : E} {tg : Tg} {k : Ik} {es cnd : List E} {wp : List Nat} {Q : D → MS → Prop}
    (h : Ok (evEs G cal es s) fun ds t => ∃ xs, itemsOf k (reDs es ds t) = some xs ∧ xs.length ≤ SZ ∧ wp.any (isOwn t) = false ∧ srcOk es ds (reDs es ds t) (wipeS t wp) = true ∧ ∃ g : D → Option D,
      (∀ x ∈ xs, Ok (oB (bindTg tg x (wipeS t wp)) fun s' => (evTs G cal cnd s').bind fun b s => if b then (evE G cal elt s).bind fun d s => .ok (some d) (wipeS s wp) else .ok none (wipeS s wp)) fun o u => o = g x ∧ u = wipeS t wp) ∧
      Q (.lst (xs.filterMap g)) (backS t (wipeS t wp) wp)) : Ok (evE G cal (.comp elt tg k es cnd wp) s) Q := by
  obtain ⟨ds, t, he, xs, hi, hz, hw, hc, g, ht, hd⟩ := h.ex
  refine .of (comp_pure g he hi hz hw hc fun x hx => ?_) hd
  have := ht x hx
  rw [Ok_oB] at this
  obtain ⟨s', e1, e2⟩ := this
  refine ⟨s', e1, ?_⟩
  obtain ⟨o, u, e3, rfl, rfl⟩ := e2.ex
  exact e3
theorem W_whl {e : E} {b : List S} (P : Nat → MS → Prop) (N : Nat) (hz : N < 18446744073709551615) (hN : ∀ i s, P i s → i ≤ N) (h0 : P 0 s)
    (ht : ∀ i s, P i s → Ok (evT G cal e s) fun x t => if x then Ok (exB G cal b t) (Lp (P (i + 1)) (fun t => Ok (exB G cal cs t) Q) Q) else Ok (exB G cal cs t) Q) : Ok (exB G cal (.whl e b :: cs) s) Q := by
  refine Ok_seq (Ok_whl P N hz hN h0 fun i s p => (ht i s p).mono fun x t q => ?_)
  cases x with
  | false => exact q
  | true => exact Ok.mono q fun f t q => by cases f <;> exact q
theorem W_if {x : Bool} {a b : List S} (h1 : x = true → Ok (exB G cal a s) Q) (h2 : x = false → Ok (exB G cal b s) Q) : Ok (if x then exB G cal a s else exB G cal b s) Q := by
  cases x with
  | true => exact h1 rfl
  | false => exact h2 rfl
end
end Tw
end

section
set_option linter.all false
set_option autoImplicit false
set_option maxRecDepth 100000
set_option maxHeartbeats 4000000
/-! The hand of the wishes' laws. -/
namespace Tw
def handB : List S := [.asg (.nm 2) (.int 0),
  .ife (.cmp .lt (.sl 1) (.bi .len [.sl 0])) [.asg (.nm 2) (.ix (.sl 0) (.sl 1))] [],
  .asg (.nm 3) (.bin .mul (.bin .mod (.sl 2) (.bin .mul (.bin .mul (.bin .pow (.int 10) (.int 60)) (.bin .pow (.int 10) (.int 60))) (.bin .pow (.int 10) (.int 60)))) (.bi .int [.cmp .ge (.sl 2) (.bin .pow (.int 10) (.int 18))])),
  .ret (.shr (.lst [.sl 3, .bin .mod (.bin .add (.bin .add (.bin .mod (.sl 2) (.int 2305843009213693951)) (.bin .mul (.int 7919) (.sl 1))) (.int 3)) (.int 2305843009213693951), .int 0]))]
theorem Ok_fnS {G : Tab} {n : Nat} {f : String} {np ns : Nat} {body : List S} {ds : List D} {bs : Nat} {hp : List Ob} {Q : D → List Ob → Prop} (h : IsFn G f np ns body false) (hl : ds.length = np)
    (r : Ok (exB G (calN G n) body ⟨ds.map .val ++ List.replicate (ns - ds.length) .non, hp, bs⟩) fun f s => ∃ d, f = .ret d ∧ Q d s.hp) : Ok (calN G (n + 1) f ds bs hp) Q := by
  obtain ⟨F, e, e1, e2, e3, e4, e5⟩ := h
  refine Ok_calN e (by rw [hl, e1]) ?_
  unfold runF
  simp only [e5, e3, e4]
  obtain ⟨f, s, e, d, rfl, q⟩ := r.ex
  simp only [Bool.false_eq_true, if_false]
  rw [e]
  exact q
theorem p60 : (10 : Int) ^ 60 = 1000000000000000000000000000000000000000000000000000000000000 := by decide +kernel
theorem bI_p60 : binI .pow 10 60 = some (.int (10 ^ 60)) := rfl
theorem bI_p18 : binI .pow 10 18 = some (.int (10 ^ 18)) := rfl
theorem mul60 : mulOk (10 ^ 60) (10 ^ 60) = true := by decide +kernel
theorem mul60' : mulOk (10 ^ 60 * 10 ^ 60) (10 ^ 60) = true := by decide +kernel
theorem pos180 : (0 : Int) < 10 ^ 60 * 10 ^ 60 * 10 ^ 60 := by decide +kernel
theorem flat_app {hp : List Ob} {o : Ob} (h : Flat hp) (k : belowO 0 o = true) : Flat (hp ++ [o]) := by
  intro x hx
  rcases List.mem_append.mp hx with hx | hx
  · exact h x hx
  · cases List.mem_singleton.mp hx
    exact k
theorem c_hand {G : Tab} (h : IsFn G "_law_hand" 2 4 handB false) {N : Nat} {ns : List Int} {k bs : Nat} {hp : List Ob} (hN : 1 ≤ N) (hf : Flat hp) (hk : k < 1000) :
    Ok (calN G N "_law_hand" [.scr (iD ns), .int k] bs hp) fun d hp' => d = .ref hp.length ∧ Hd hp.length (hp.length + 1) 0 hp' := by
  obtain ⟨n, rfl⟩ : ∃ n, N = n + 1 := ⟨N - 1, by omega⟩
  refine Ok_fnS h rfl ?_
  unfold handB
  refine W_seq ?_
  simp
  refine W_seq ?_
  simp
  have rest : ∀ cell : Int, Ok (exB G (calN G n) [.asg (.nm 3) (.bin .mul (.bin .mod (.sl 2) (.bin .mul (.bin .mul (.bin .pow (.int 10) (.int 60)) (.bin .pow (.int 10) (.int 60))) (.bin .pow (.int 10) (.int 60)))) (.bi .int [.cmp .ge (.sl 2) (.bin .pow (.int 10) (.int 18))])),
  .ret (.shr (.lst [.sl 3, .bin .mod (.bin .add (.bin .add (.bin .mod (.sl 2) (.int 2305843009213693951)) (.bin .mul (.int 7919) (.sl 1))) (.int 3)) (.int 2305843009213693951), .int 0]))] ⟨[.val (.scr (iD ns)), .val (.int k), .val (.int cell), .non], hp, bs⟩) fun f s => ∃ d, f = .ret d ∧ d = .ref hp.length ∧ Hd hp.length (hp.length + 1) 0 s.hp := by
    intro cell
    refine W_seq ?_
    have m1 : ∀ b : Bool, mulOk (cell % (10 ^ 60 * 10 ^ 60 * 10 ^ 60)) (if b = true then 1 else 0) = true := fun b => by cases b <;> exact mulOk_r (by decide)
    have m2 := pos180
    have m3 := mul60
    have m4 := mul60'
    simp only [ex_asg, ev_bin, ev_sl, ev_int, ev_bi, ev_cmp, evs_nil, evs_cons, bind_ok, List.getElem?_cons_zero, List.getElem?_cons_succ, reD_sl, reD_int, reD_bin, reD_bi, reD_cmp, reDs_nil, reDs_cons, deref_int, deref_bl, bD_int, bI_p60, bI_p18, ofO_some, bI_mul, m3, m4, if_true, bI_mod, m2, decide_true, ck_gei, Option.map_some, cb_intb, m1, bind_nm]
    generalize cell % (10 ^ 60 * 10 ^ 60 * 10 ^ 60) * (if (!decide (cell < 10 ^ 18)) = true then 1 else 0) = g
    simp
    refine W_seq ?_
    have m5 : mulOk 7919 (k : Int) = true := mulOk_l (by decide)
    simp [m5]
    refine ⟨by simp, flat_app hf rfl, g, _, 0, by simp [hand]; rfl, Int.emod_nonneg _ (by decide), ?_, Int.le_refl _, Int.le_refl _⟩
    exact Int.lt_of_lt_of_le (Int.emod_lt_of_pos _ (by decide)) (by decide)
  by_cases hlt : k < ns.length
  · simp [hlt]
    refine W_seq ?_
    simp [ixD, ixN_nat (n := ns.length) (i := (k : Int)) (by omega) (by omega), List.getElem?_eq_getElem hlt]
    simpa using rest ns[k]
  · simp [hlt]
    simpa using rest 0
end Tw
end

section
set_option linter.all false
set_option autoImplicit false
set_option maxRecDepth 100000
set_option maxHeartbeats 4000000
/-! The discs and wishes that the laws k56 .. k62, k80 draw. -/
namespace Tw
/-- the defs that draw -/
structure Dr (G : Tab) : Prop where
  take : TakeOk G
  tk : ∃ ns b gc, IsFn G "_law_take" 2 ns b gc
  pick : IsFn G "_law_pick" 2 2 pickB true
section
variable {G : Tab}
/-- take in an expression -/
theorem Dr.t (X : Dr G) {N i L : Nat} {m c : Int} {env : List Slt} {bs : Nat} {hp : List Ob} {Q : D → MS → Prop} (hN : 1 ≤ N) (H : Hd i L c hp) (h1 : 0 < m) (h2 : m < 100000) (h3 : c < 2 ^ 40)
    (q : ∀ r hp', 0 ≤ r → r < m → Hd i L (c + 1) hp' → Q (.int r) ⟨env, hp', bs⟩) : Ok (callWith G (calN G N) "_law_take" [.ref i, .int m] [] [] ⟨env, hp, bs⟩) Q := by
  obtain ⟨ns, b, gc, e⟩ := X.tk
  refine Ok_c e rfl (X.take hN H h1 h2 h3) ?_
  rintro _ hp' ⟨r, rfl, r0, r1, h⟩
  exact q r hp' r0 r1 h
theorem Dr.p (X : Dr G) {N i L : Nat} {xs : List D} {c : Int} {env : List Slt} {bs : Nat} {hp : List Ob} {Q : D → MS → Prop} (hN : 2 ≤ N) (H : Hd i L c hp) (h1 : 0 < xs.length) (h2 : xs.length < 100000) (h3 : c < 2 ^ 40) (hb : belows 0 xs = true)
    (q : ∀ d hp', d ∈ xs → Hd i L (c + 1) hp' → Q d ⟨env, hp', bs⟩) : Ok (callWith G (calN G N) "_law_pick" [.ref i, .lst xs] [] [] ⟨env, hp, bs⟩) Q := by
  obtain ⟨ns, b, gc, e⟩ := X.tk
  refine Ok_c X.pick rfl (c_pick X.take e X.pick hN H h1 h2 h3 hb) ?_
  rintro d hp' ⟨hd, h⟩
  exact q d hp' hd h
end
def numbersB : List S := [.par [(2, true), (3, false)] [.lst [], .call "_law_pick" [.sl 0, .lst [.int 0, .int 0, .int 1, .int 7, .bin .pow (.int 10) (.int 29)]] [] []],
  .for (.nm 4) .rng [.sl 1] [.ex (.bm (.pk 2) .append [.sl 3]),
   .asg (.nm 3) (.bin .add (.bin .add (.sl 3) (.int 1)) (.call "_law_pick" [.sl 0, .lst [.int 0, .int 0, .int 1, .int 5, .bin .pow (.int 10) (.int 27)]] [] []))],
  .ret (.sl 2)]
@[simp] theorem small62_nat {n : Nat} : small62 (n : Int) = decide (n < 4611686018427387904) := by
  unfold small62
  rw [Bool.eq_iff_iff, Bool.and_eq_true, decide_eq_true_eq, decide_eq_true_eq, decide_eq_true_eq]
  omega
theorem rngL_len {n : Nat} : (rngL 0 (n : Int)).length = n := by simp [rngL]
theorem rngL_get {n i : Nat} {x : D} (h : (rngL 0 (n : Int))[i]? = some x) : x = .int (i : Nat) ∧ i < n := by
  obtain ⟨h1, h2⟩ := List.getElem?_eq_some_iff.mp h
  rw [rngL_len] at h1
  refine ⟨?_, h1⟩
  rw [← h2]
  simp [rngL]
@[simp] theorem bI_pow10 : binI .pow 10 29 = some (.int 100000000000000000000000000000) := by simp [binI, small64]
@[simp] theorem bI_pow10' : binI .pow 10 27 = some (.int 1000000000000000000000000000) := by simp [binI, small64]
theorem c_numbers {G : Tab} (X : Dr G) (h : IsFn G "_law_numbers" 2 5 numbersB true) {N i L j : Nat} {c : Int} {hp : List Ob} {bs : Nat} (hN : 3 ≤ N) (H : Hd i L c hp) (hj : j ≤ 1000) (hc : c < 2 ^ 30) :
    Ok (calN G N "_law_numbers" [.ref i, .int j] bs hp) fun d hp' => ∃ ns, d = .lst (iD ns) ∧ ns.length = j ∧ (∀ i ∈ ns, 0 ≤ i ∧ i < 10 ^ 33) ∧ ns.Pairwise (· < ·) ∧ Hd i L (c + 1 + j) hp' := by
  obtain ⟨n, rfl⟩ : ∃ n, N = n + 1 := ⟨N - 1, by omega⟩
  refine Ok_fn h rfl ?_
  unfold numbersB
  refine W_seq ?_
  simp
  refine X.p (by omega) H (by decide) (by decide) (by omega) rfl ?_
  intro d hp1 hd H1
  have r0 : ∃ r, d = .int r ∧ 0 ≤ r ∧ r ≤ 100000000000000000000000000000 := by
    simp at hd
    rcases hd with rfl | rfl | rfl | rfl <;> exact ⟨_, rfl, by decide, by decide⟩
  obtain ⟨r, rfl, r1, r2⟩ := r0
  simp
  refine W_for ?_
  simp [itemsOf]
  refine ⟨_, ⟨by omega, rfl⟩, fun u s => ∃ ns m l hp2, s = ⟨[.val (.ref i), .val (.int j), .own (.lst (iD ns)), .val (.int m), l], hp2, hp.length⟩ ∧ ns.length = u ∧ (∀ i ∈ ns, 0 ≤ i ∧ i < 10 ^ 33) ∧ 0 ≤ m ∧ m ≤ 100000000000000000000000000000 + u * 10000000000000000000000000000 ∧ (ns.Pairwise (· < ·) ∧ ∀ i ∈ ns, i < m) ∧ Hd i L (c + 1 + u) hp2, ?_, ?_, ?_⟩
  · exact ⟨[], r, .non, hp1, rfl, rfl, nofun, r1, by simpa using r2, ⟨.nil, nofun⟩, H1.mono (by simp)⟩
  · rintro u x _ hx ⟨ns, m, l, hp2, rfl, h1, h2, h3, h4, hpw, h5⟩
    obtain ⟨rfl, hu⟩ := rngL_get hx
    simp
    refine W_seq ?_
    simp
    refine ⟨by show _ ≤ 16777216; omega, ?_⟩
    refine W_seq ?_
    simp
    refine X.p (by omega) h5 (by decide) (by decide) (by omega) rfl ?_
    intro d hp3 hd H3
    have q0 : ∃ q, d = .int q ∧ 0 ≤ q ∧ q ≤ 1000000000000000000000000000 := by
      simp at hd
      rcases hd with rfl | rfl | rfl | rfl <;> exact ⟨_, rfl, by decide, by decide⟩
    obtain ⟨q, rfl, q1, q2⟩ := q0
    simp
    refine ⟨ns ++ [m], ⟨m + 1 + q, .val (.int u), hp3, ⟨by simp, rfl⟩, ?_⟩⟩
    refine ⟨by simp [h1], ?_, by omega, by omega, ⟨?_, ?_⟩, H3.mono (by omega)⟩
    rotate_left
    · rw [List.pairwise_append]
      refine ⟨hpw.1, List.pairwise_singleton _ _, ?_⟩
      intro a ha b hb
      cases List.mem_singleton.mp hb
      exact hpw.2 a ha
    · intro z hz
      rcases List.mem_append.mp hz with hz | hz
      · have := hpw.2 z hz; omega
      · cases List.mem_singleton.mp hz; omega
    intro z hz
    rcases List.mem_append.mp hz with hz | hz
    · exact h2 z hz
    · cases List.mem_singleton.mp hz
      exact ⟨h3, by omega⟩
  · rintro s ⟨ns, m, l, hp2, rfl, h1, h2, h3, h4, hpw, h5⟩
    rw [rngL_len] at h1 h5
    refine W_seq ?_
    simp [below, belows_iD, h5.len, H.len, h5.flat]
    exact ⟨ns, rfl, h1, h2, hpw.1, h5⟩
/-- a list of lists of numbers -/
def lD (h : List (List Int)) : List D := h.map fun t => .lst (iD t)
@[simp] theorem lD_length {h : List (List Int)} : (lD h).length = h.length := List.length_map ..
theorem allI {ds : List D} (h : ∀ d ∈ ds, ∃ i, d = .int i) : ∃ ms, ds = iD ms := by
  induction ds with
  | nil => exact ⟨[], rfl⟩
  | cons d ds ih =>
    obtain ⟨i, rfl⟩ := h d List.mem_cons_self
    obtain ⟨ms, rfl⟩ := ih fun d hd => h d (List.mem_cons_of_mem _ hd)
    exact ⟨i :: ms, rfl⟩
theorem mem_iD {x : Int} {ns : List Int} : D.int x ∈ iD ns ↔ x ∈ ns := by
  constructor
  · intro h
    obtain ⟨y, hy, e⟩ := List.mem_map.mp h
    cases e
    exact hy
  · intro h
    exact List.mem_map.mpr ⟨x, h, rfl⟩
theorem sort_iD (ns : List Int) : ∃ ms, sortD (iD ns) = some (.lst (iD ms)) ∧ ms.length = ns.length ∧ ∀ x, x ∈ ms ↔ x ∈ ns := by
  have s : sortable (iD ns) = true := by
    unfold sortable alikeAllD
    rw [Bool.and_eq_true, Bool.and_eq_true, Bool.or_eq_true]
    refine ⟨?_, ?_, .inr ?_⟩
    · rw [List.all_eq_true]
      intro x hx
      obtain ⟨i, _, rfl⟩ := List.mem_map.mp hx
      rw [List.all_eq_true]
      intro y hy
      obtain ⟨j, _, rfl⟩ := List.mem_map.mp hy
      rfl
    · rw [List.all_eq_true]
      intro x hx
      obtain ⟨i, _, rfl⟩ := List.mem_map.mp hx
      rfl
    · rw [List.all_eq_true]
      intro x hx
      obtain ⟨i, _, rfl⟩ := List.mem_map.mp hx
      rfl
  have p := List.mergeSort_perm (iD ns) leD
  obtain ⟨ms, e⟩ := allI (ds := (iD ns).mergeSort leD) fun d hd => by
    obtain ⟨i, _, rfl⟩ := List.mem_map.mp (p.mem_iff.mp hd)
    exact ⟨i, rfl⟩
  refine ⟨ms, ?_, ?_, ?_⟩
  · unfold sortD
    rw [if_pos s, e]
  · have := p.length_eq
    rwa [e, iD_length, iD_length] at this
  · intro x
    have := p.mem_iff (a := .int x)
    rwa [e, mem_iD, mem_iD] at this
end Tw
end

section
set_option linter.all false
set_option autoImplicit false
set_option maxRecDepth 100000
set_option maxHeartbeats 4000000
namespace Tw
def keepE : E := .comp (.sl 10) (.nm 10) .of [.sl 3] [.cmp .gt (.call "_law_take" [.sl 0, .int 5] [] []) (.int 0)] [10]
def thinE : E := .comp (.sl 10) (.nm 10) .of [.sl 3] [.cmp .eq (.call "_law_take" [.sl 0, .sl 5] [] []) (.int 0)] [10]
def anyE : E := .comp (.cmp .inn (.sl 8) (.sl 11)) (.nm 11) .of [.pk 6] [] [11]
def tupE : E := .comp (.bi .tuple [.sl 11]) (.nm 11) .of [.pk 6] [] [11]
def caseB : List S := [.asg (.nm 3) (.call "_law_numbers" [.sl 0, .bin .add (.int 1) (.call "_law_take" [.sl 0, .bin .add (.sl 2) (.int 4)] [] [])] [] []),
  .asg (.nm 4) (.slc keepE [] [.sl 2]),
  .par [(5, false), (6, true)] [.call "_law_pick" [.sl 0, .lst [.int 2, .int 2, .int 3, .int 4, .int 6]] [] [], .lst []],
  .for (.nm 7) .rng [.call "_law_take" [.sl 0, .bin .add (.sl 1) (.int 1)] [] []] [.ex (.bm (.pk 6) .append [thinE])],
  .ife (.and (.cmp .ne (.pk 6) (.lst [])) (.cmp .gt (.call "_law_take" [.sl 0, .int 4] [] []) (.int 0))) [.for (.nm 8) .of [.sl 4] [.ife (.not (.bi .any [anyE])) [.asg (.nm 9) (.call "_law_take" [.sl 0, .bi .len [.pk 6]] [] []),
     .setix (.pk 6) (.sl 9) (.bi .sorted [.bin .add (.ix (.pk 6) (.sl 9)) (.lst [.sl 8])])] []]] [],
  .ret (.tup [.bi .tuple [tupE], .bi .tuple [.sl 4]])]
/-- numbers out of the bounds, so many at most -/
def Row (B : Nat) (t : List Int) : Prop := t.length ≤ B ∧ ∀ x ∈ t, 0 ≤ x ∧ x < 10 ^ 33
def cs0 (i md mw : Nat) (things wishes thin held k wish spot one some : Slt) (hp : List Ob) (L : Nat) : MS :=
  ⟨[.val (.ref i), .val (.int md), .val (.int mw), things, wishes, thin, held, k, wish, spot, one, some], hp, L⟩
/-- some of the things, each by a draw -/
theorem keep_ok {G : Tab} (X : Dr G) {N i L md mw : Nat} {c : Int} {ns : List Int} {a b d e f g : Slt} {hp : List Ob} (hN : 1 ≤ N) (H : Hd i L c hp) (hn : ns.length ≤ 1000) (hp1 : ns.Pairwise (· < ·)) (hc : c < 2 ^ 30) {Q : D → MS → Prop}
    (q : ∀ ms hp', ms.Sublist ns → Hd i L (c + 1000) hp' → Q (.lst (iD ms)) (cs0 i md mw (.val (.lst (iD ns))) a b d e f g .non .non hp' L)) :
    Ok (evE G (calN G N) keepE (cs0 i md mw (.val (.lst (iD ns))) a b d e f g .non .non hp L)) Q := by
  unfold keepE
  refine W_comp ?_
  simp [cs0, itemsOf]
  refine ⟨Nat.le_trans hn (by decide), fun u l s => ∃ ms hp', l = iD ms ∧ ms.Sublist (ns.take u) ∧ Hd i L (c + u) hp' ∧ s = cs0 i md mw (.val (.lst (iD ns))) a b d e f g .non .non hp' L, ?_, ?_, ?_⟩
  · exact ⟨[], hp, rfl, by simp, by simpa using H, rfl⟩
  · rintro u l _ _ y hy rfl ⟨ms, hp', rfl, h1, h2, rfl⟩
    have hu := (List.getElem?_eq_some_iff.mp hy).1
    simp [cs0]
    refine X.t hN h2 (by decide) (by decide) (by omega) ?_
    intro r hp3 r0 r1 h3
    have ht : ns.take (u + 1) = ns.take u ++ [y] := by rw [List.take_add_one, hy]; rfl
    simp
    by_cases hr : 0 < r
    · simp [hr]
      refine ⟨ms ++ [y], by simp, ?_, h3.mono (by omega)⟩
      rw [ht]
      exact h1.append (List.Sublist.refl _)
    · simp [hr]
      refine ⟨ms, rfl, ?_, h3.mono (by omega)⟩
      rw [ht]
      exact h1.trans (List.sublist_append_left _ _)
  · rintro l s ⟨ms, hp', rfl, h1, h2, rfl⟩
    simp [cs0]
    rw [List.take_length] at h1
    exact q ms hp' h1 (h2.mono (by omega))
/-- a row of things, each by a draw -/
theorem thin_ok {G : Tab} (X : Dr G) {N i L md mw th : Nat} {c : Int} {ns : List Int} {a d e f g : Slt} {hp : List Ob} (hN : 1 ≤ N) (H : Hd i L c hp) (hn : ns.length ≤ 1000) (h0 : 0 < th) (h1 : th < 100) (hc : c < 2 ^ 30) {Q : D → MS → Prop}
    (q : ∀ ms hp', ms.Sublist ns → Hd i L (c + ns.length) hp' → Q (.lst (iD ms)) (cs0 i md mw (.val (.lst (iD ns))) a (.val (.int th)) d e f g .non .non hp' L)) :
    Ok (evE G (calN G N) thinE (cs0 i md mw (.val (.lst (iD ns))) a (.val (.int th)) d e f g .non .non hp L)) Q := by
  unfold thinE
  refine W_comp ?_
  simp [cs0, itemsOf]
  refine ⟨Nat.le_trans hn (by decide), fun u l s => ∃ ms hp', l = iD ms ∧ ms.Sublist (ns.take u) ∧ Hd i L (c + u) hp' ∧ s = cs0 i md mw (.val (.lst (iD ns))) a (.val (.int th)) d e f g .non .non hp' L, ?_, ?_, ?_⟩
  · exact ⟨[], hp, rfl, by simp, by simpa using H, rfl⟩
  · rintro u l _ _ y hy rfl ⟨ms, hp', rfl, h1, h2, rfl⟩
    have hu := (List.getElem?_eq_some_iff.mp hy).1
    simp [cs0]
    refine X.t hN h2 (by omega) (by omega) (by omega) ?_
    intro r hp3 r0 r1 h3
    have ht : ns.take (u + 1) = ns.take u ++ [y] := by rw [List.take_add_one, hy]; rfl
    simp
    by_cases hr : r = 0
    · simp [hr]
      refine ⟨ms ++ [y], by simp, ?_, h3.mono (by omega)⟩
      rw [ht]
      exact h1.append (List.Sublist.refl _)
    · simp [hr]
      refine ⟨ms, rfl, ?_, h3.mono (by omega)⟩
      rw [ht]
      exact h1.trans (List.sublist_append_left _ _)
  · rintro l s ⟨ms, hp', rfl, h1, h2, rfl⟩
    simp [cs0]
    rw [List.take_length] at h1
    exact q ms hp' h1 h2
def inG (w : Int) : D → Option D
  | .tup ds => some (.bl (inDs (.int w) ds))
  | .lst ds => some (.bl (inDs (.int w) ds))
  | _ => none
theorem allBls_map {α : Type} (f : α → Bool) : ∀ xs : List α, allBls (xs.map fun x => .bl (f x)) = some (xs.map f)
  | [] => rfl
  | x :: xs => by
    show (allBls (xs.map fun x => .bl (f x))).map (f x :: ·) = _
    rw [allBls_map f xs]
    rfl
def anyW (h : List (List Int)) (w : Int) : Bool := h.any fun t => decide (w ∈ t)
theorem inG_lD {w : Int} : ∀ h, (lD h).filterMap (inG w) = h.map fun t => .bl (decide (w ∈ t))
  | [] => rfl
  | t :: h => by
    show (D.lst (iD t) :: lD h).filterMap (inG w) = _
    rw [List.filterMap_cons]
    simp only [inG, inDs_iD, inG_lD h, List.map_cons]
theorem inD_iDl {x : Int} {ns : List Int} : inD (.int x) (.lst (iD ns)) = some (decide (x ∈ ns)) := by
  have e : (okD (.int x) && okD (.lst (iD ns))) = true := by simp [okD, plain, plains_iD, depthD, depth_iD]
  simp only [inD, e, if_true, inDs_iD]
@[simp] theorem reD_anyE (d : D) (s : MS) : reD anyE d s = deref d s.hp := rfl
theorem any_ev {G : Tab} {cal : Cal} {i L md mw : Nat} {h : List (List Int)} {w : Int} {a b d e f : Slt} {hp : List Ob} (hn : h.length ≤ 1000) {Q : D → MS → Prop}
    (q : Q (.lst (h.map fun t => .bl (decide (w ∈ t)))) (cs0 i md mw a b d (.own (.lst (lD h))) e (.val (.int w)) f .non .non hp L)) :
    Ok (evE G cal anyE (cs0 i md mw a b d (.own (.lst (lD h))) e (.val (.int w)) f .non .non hp L)) Q := by
  have e1 : Ok (evE G cal anyE (cs0 i md mw a b d (.own (.lst (lD h))) e (.val (.int w)) f .non .non hp L)) fun x s => x = .lst (h.map fun t => .bl (decide (w ∈ t))) ∧ s = (cs0 i md mw a b d (.own (.lst (lD h))) e (.val (.int w)) f .non .non hp L) := by
    unfold anyE
    refine W_map ?_
    simp [cs0, itemsOf]
    refine ⟨Nat.le_trans hn (by decide), inG w, ?_, inG_lD h⟩
    intro x hx
    obtain ⟨t, ht, rfl⟩ := List.mem_map.mp hx
    simp [inG, inD_iDl, inDs_iD]
  refine e1.mono ?_
  rintro _ _ ⟨rfl, rfl⟩
  exact q
theorem any_fold {h : List (List Int)} {w : Int} : (h.any fun x => decide (w ∈ x)) = anyW h w := rfl
end Tw
end

section
set_option linter.all false
set_option autoImplicit false
set_option maxRecDepth 100000
set_option maxHeartbeats 4000000
namespace Tw
@[simp] theorem reD_keep (d : D) (s : MS) : reD keepE d s = deref d s.hp := rfl
@[simp] theorem reD_thin (d : D) (s : MS) : reD thinE d s = deref d s.hp := rfl
@[simp] theorem reD_tupE (d : D) (s : MS) : reD tupE d s = deref d s.hp := rfl
theorem Row.mono {B C : Nat} {t : List Int} (h : Row B t) (k : B ≤ C) : Row C t := ⟨Nat.le_trans h.1 k, h.2⟩
theorem Row.sub {B : Nat} {s t : List Int} (h : Row B t) (k : s.Sublist t) : Row B s := ⟨Nat.le_trans k.length_le h.1, fun x hx => h.2 x (k.subset hx)⟩
theorem ixD_lD {h : List (List Int)} {r : Int} (h0 : 0 ≤ r) (h1 : r < h.length) : ixD (.lst (lD h)) (.int r) = some (.lst (iD (h[r.toNat]'(by omega)))) := by
  have hr : r.toNat < h.length := by omega
  show (ixN (lD h).length r).bind (fun j => (lD h)[j]?) = _
  rw [ixN_nat h0 (by simpa using h1)]
  show (lD h)[r.toNat]? = _
  rw [lD, List.getElem?_map, List.getElem?_eq_getElem hr]
  rfl
theorem setM_lD {h : List (List Int)} {r : Int} {t : List Int} (h0 : 0 ≤ r) (h1 : r < h.length) : setM (.lst (lD h)) (.int r) (.lst (iD t)) = some (.lst (lD (h.set r.toNat t))) := by
  show (ixN (lD h).length r).map (fun j => D.lst ((lD h).set j (.lst (iD t)))) = _
  rw [ixN_nat h0 (by simpa using h1)]
  show some (D.lst ((lD h).set r.toNat (.lst (iD t)))) = _
  rw [lD, lD, List.map_set]
theorem lD_app {a b : List (List Int)} : lD (a ++ b) = lD a ++ lD b := List.map_append
def tupG : D → Option D
  | .lst ds => some (.tup ds)
  | .tup ds => some (.tup ds)
  | _ => none
theorem tupG_lD : ∀ h, (lD h).filterMap tupG = hD h
  | [] => rfl
  | t :: h => by
    show (D.lst (iD t) :: lD h).filterMap tupG = _
    rw [List.filterMap_cons]
    simp only [tupG, tupG_lD h]
    rfl
theorem plains_lD : ∀ h, plains (lD h) = true
  | [] => rfl
  | t :: h => by show (plains (iD t) && plains (lD h)) = true; rw [plains_lD h, plains_iD]; rfl
theorem depth_lD : ∀ h, depthDs (lD h) ≤ 1
  | [] => Nat.zero_le _
  | t :: h => by
    show max (depthDs (iD t) + 1) (depthDs (lD h)) ≤ 1
    have := depth_lD h
    rw [depth_iD]
    omega
theorem ne_lD {h : List (List Int)} : cmpD .ne (.lst (lD h)) (.lst []) = some (!h.isEmpty) := by
  have e : (okD (.lst (lD h)) && okD (.lst [])) = true := by
    have := depth_lD h
    simp [okD, plain, plains_lD, depthD, plains, depthDs]
    omega
  show (if (okD (.lst (lD h)) && okD (.lst [])) = true then some (!eqD (.lst (lD h)) (.lst [])) else none) = _
  rw [if_pos e]
  cases h <;> rfl
@[simp] theorem slc_lst {ds : List D} {k : Nat} : slcD (.lst ds) none (some (.int (k : Nat))) = some (.lst (ds.take k)) := by
  show some (D.lst ((ds.drop 0).take (clampI ds.length (k : Int) - 0))) = _
  have : clampI ds.length (k : Int) = min k ds.length := by
    unfold clampI
    rw [if_pos (by omega)]
    rfl
  rw [this, List.drop_zero, Nat.sub_zero]
  congr 2
  rw [Nat.min_comm]
  rw [List.take_eq_take_min (i := k)]
  congr 1
  omega
theorem iD_take {ns : List Int} {k : Nat} : (iD ns).take k = iD (ns.take k) := by unfold iD; rw [List.map_take]
theorem c_case {G : Tab} (X : Dr G) (hN : IsFn G "_law_numbers" 2 5 numbersB true) (h : IsFn G "_law_case" 3 12 caseB true) {N i L md mw : Nat} {c : Int} {hp : List Ob} {bs : Nat}
    (hl : 4 ≤ N) (H : Hd i L c hp) (h1 : md ≤ 100) (h2 : mw ≤ 100) (hc : c < 2 ^ 29) :
    Ok (calN G N "_law_case" [.ref i, .int md, .int mw] bs hp) fun d hp' => ∃ h ws, d = .tup [.tup (hD h), .tup (iD ws)] ∧ h.length ≤ md ∧ ws.length ≤ mw ∧ (∀ t ∈ h, Row 300 t) ∧ Row 200 ws ∧ ws.Pairwise (· < ·) ∧ Hd i L (c + 200000) hp' := by
  obtain ⟨n, rfl⟩ : ∃ n, N = n + 1 := ⟨N - 1, by omega⟩
  refine Ok_fn h rfl ?_
  generalize hQ : (fun (f : Fl) (s : MS) => ∃ d, f = .ret d ∧ below 0 d = true ∧ s.hp.length = hp.length ∧ Flat s.hp ∧ ∃ h ws, d = .tup [.tup (hD h), .tup (iD ws)] ∧ h.length ≤ md ∧ ws.length ≤ mw ∧ (∀ t ∈ h, Row 300 t) ∧ Row 200 ws ∧ ws.Pairwise (· < ·) ∧ Hd i L (c + 200000) s.hp) = Q
  unfold caseB
  rw [H.len]
  -- things
  refine W_seq ?_
  simp
  refine X.t (by omega) H (by omega) (by omega) (by omega) ?_
  intro r hp1 r0 r1 H1
  simp
  obtain ⟨m, hm⟩ : ∃ m : Nat, r = m := ⟨r.toNat, by omega⟩
  subst hm
  rw [show (1 + (m : Int)) = ((m + 1 : Nat) : Int) by omega]
  refine Ok_c hN rfl (c_numbers X hN (by omega) H1 (by omega) (by omega)) ?_
  rintro _ hp2 ⟨ns, rfl, e1, e2, e3, H2⟩
  simp
  -- wishes
  refine W_seq ?_
  simp
  refine keep_ok X (by omega) H2 (by omega) e3 (by omega) ?_
  intro ms hp3 hs H3
  have hms := hs.length_le
  simp [cs0, iD_take]
  have hw1 : Row 200 (ms.take mw) := ⟨by simp; omega, fun x hx => e2 x (hs.subset (List.mem_of_mem_take hx))⟩
  have hw2 : (ms.take mw).Pairwise (· < ·) := (e3.sublist hs).sublist (List.take_sublist _ _)
  have hw3 : (ms.take mw).length ≤ mw := by simp; omega
  have hns : Row 104 ns := ⟨by omega, e2⟩
  generalize ms.take mw = ws at *
  -- thin
  refine W_seq ?_
  simp
  refine X.p (by omega) H3 (by decide) (by decide) (by omega) rfl ?_
  intro d hp4 hd H4
  obtain ⟨th, rfl, t1, t2⟩ : ∃ th : Nat, d = .int th ∧ 0 < th ∧ th < 100 := by
    simp at hd
    rcases hd with rfl | rfl | rfl | rfl
    · exact ⟨2, rfl, by decide, by decide⟩
    · exact ⟨3, rfl, by decide, by decide⟩
    · exact ⟨4, rfl, by decide, by decide⟩
    · exact ⟨6, rfl, by decide, by decide⟩
  simp
  have tail : ∀ h kk w sp hp', h.length ≤ md → (∀ t ∈ h, Row 300 t) → Hd i L (c + 200000) hp' →
      Ok (exB G (calN G n) [S.ret (E.tup [E.bi Bi.tuple [tupE], E.bi Bi.tuple [E.sl 4]])] (cs0 i md mw (.val (.lst (iD ns))) (.val (.lst (iD ws))) (.val (.int th)) (.own (.lst (lD h))) kk w sp .non .non hp' L)) Q := by
    intro h kk w sp hp' a1 a2 a3
    refine W_seq ?_
    have e1 : Ok (evE G (calN G n) tupE (cs0 i md mw (.val (.lst (iD ns))) (.val (.lst (iD ws))) (.val (.int th)) (.own (.lst (lD h))) kk w sp .non .non hp' L)) fun x s => x = .lst (hD h) ∧ s = (cs0 i md mw (.val (.lst (iD ns))) (.val (.lst (iD ws))) (.val (.int th)) (.own (.lst (lD h))) kk w sp .non .non hp' L) := by
      unfold tupE
      refine W_map ?_
      simp [cs0, itemsOf]
      refine ⟨Nat.le_trans a1 (Nat.le_trans h1 (by decide)), tupG, ?_, tupG_lD h⟩
      intro x hx
      obtain ⟨t, ht, rfl⟩ := List.mem_map.mp hx
      simp [tupG]
    simp
    refine e1.mono ?_
    rintro _ _ ⟨rfl, rfl⟩
    simp [cs0]
    rw [← hQ]
    refine ⟨_, rfl, by simp [below, belows, belows_iD, belows_hD], by rw [a3.len, H.len], a3.flat, h, ws, rfl, a1, hw3, a2, hw1, hw2, a3⟩
  -- discs
  refine W_for ?_
  simp
  refine X.t (by omega) H4 (by omega) (by omega) (by omega) ?_
  intro r hp5 r0 r1 H5
  obtain ⟨k, hk⟩ : ∃ k : Nat, r = k := ⟨r.toNat, by omega⟩
  subst hk
  simp [itemsOf]
  refine ⟨_, ⟨by omega, rfl⟩, fun u s => ∃ h kk hp', h.length = u ∧ (∀ t ∈ h, Row 104 t) ∧ Hd i L (c + 3000 + 110 * u) hp' ∧ s = cs0 i md mw (.val (.lst (iD ns))) (.val (.lst (iD ws))) (.val (.int th)) (.own (.lst (lD h))) kk .non .non .non .non hp' L, ?_, ?_, ?_⟩
  · exact ⟨[], .non, hp5, rfl, nofun, H5.mono (by simp; omega), rfl⟩
  · rintro u x _ hx ⟨h, kk, hp', a1, a2, a3, rfl⟩
    obtain ⟨rfl, hu⟩ := rngL_get hx
    simp [cs0]
    refine W_seq ?_
    simp
    refine thin_ok X (by omega) a3 (by have := hns.1; omega) t1 t2 (by omega) ?_
    intro ms hp6 b1 b2
    simp [cs0]
    refine ⟨by show _ ≤ 16777216; omega, ?_⟩
    refine ⟨h ++ [ms], by simp [a1], ?_, b2.mono (by have := hns.1; omega), ?_⟩
    rotate_left
    · simp [lD_app]; rfl
    intro t ht
    rcases List.mem_append.mp ht with ht | ht
    · exact a2 t ht
    · cases List.mem_singleton.mp ht
      exact hns.sub b1
  · rintro s ⟨h, kk, hp', a1, a2, a3, rfl⟩
    rw [rngL_len] at a1 a3
    simp [cs0]
    refine W_seq ?_
    simp [ne_lD]
    have a2' : ∀ t ∈ h, Row 300 t := fun t ht => (a2 t ht).mono (by decide)
    by_cases hh : h = []
    · simp [hh]
      rw [hh] at a2'
      exact tail [] kk .non .non hp' (Nat.zero_le _) nofun (a3.mono (by omega))
    · have hpos : 0 < h.length := List.length_pos_iff.mpr hh
      simp [hh]
      refine X.t (by omega) a3 (by decide) (by decide) (by omega) ?_
      intro r hp6 q0 q1 H6
      simp
      by_cases hr : 0 < r
      · simp [hr]
        refine W_for ?_
        simp [itemsOf]
        refine ⟨fun u s => ∃ h w sp hp', h.length = k ∧ (∀ t ∈ h, Row (104 + u) t) ∧ Hd i L (c + 100000 + u) hp' ∧ s = cs0 i md mw (.val (.lst (iD ns))) (.val (.lst (iD ws))) (.val (.int th)) (.own (.lst (lD h))) kk w sp .non .non hp' L, ?_, ?_, ?_⟩
        · exact ⟨h, .non, .non, hp6, a1, a2, H6.mono (by omega), rfl⟩
        · rintro u _ s w hw rfl ⟨h, w0, sp, hp', a1, a2, a3, rfl⟩
          have hu := (List.getElem?_eq_some_iff.mp hw).1
          simp [cs0]
          refine W_seq ?_
          simp
          refine any_ev (h := h) (by omega) ?_
          simp [cs0, callBi, allBls_map, any_fold]
          cases hany : anyW h w with
          | true =>
            simp
            refine ⟨h, a1, fun t ht => (a2 t ht).mono (by omega), ?_⟩
            exact ⟨a3.mono (by omega), rfl⟩
          | false =>
            simp
            refine W_seq ?_
            simp
            refine X.t (by omega) a3 (by omega) (by omega) (by omega) ?_
            intro r hp7 q0 q1 H7
            have hrn : r.toNat < h.length := by omega
            obtain ⟨ss, b1, b2, b3⟩ := sort_iD (h[r.toNat] ++ [w])
            have hrow := a2 h[r.toNat] (List.getElem_mem hrn)
            have hwr := hw1.2 w (List.mem_of_getElem? hw)
            simp
            refine W_seq ?_
            simp [ixD_lD q0 q1, callBi, setM_lD q0 q1]
            rw [iD_app] at b1
            simp only [iD_cons, iD_nil] at b1
            refine ⟨by have := hrow.1; show _ ≤ 16777216; omega, ?_⟩
            simp [b1, setM_lD q0 q1]
            refine ⟨h.set r.toNat ss, by simp [a1], ?_, ?_⟩
            · intro t ht
              rcases List.mem_or_eq_of_mem_set ht with ht | rfl
              · exact (a2 t ht).mono (by omega)
              · refine ⟨by rw [b2]; simp; have := hrow.1; omega, fun x hx => ?_⟩
                have := (b3 x).mp hx
                rcases List.mem_append.mp this with hx | hx
                · exact hrow.2 x hx
                · cases List.mem_singleton.mp hx
                  exact hwr
            · exact ⟨H7.mono (by omega), rfl⟩
        · rintro s ⟨h, w0, sp, hp', a1, a2, a3, rfl⟩
          refine tail h kk _ _ hp' (by omega) (fun t ht => (a2 t ht).mono (by have := hw1.1; simp; omega)) (a3.mono (by have := hw1.1; simp; omega))
      · simp [hr]
        exact tail h kk .non .non hp6 (by omega) a2' (H6.mono (by omega))
end Tw
end

section
set_option linter.all false
set_option autoImplicit false
set_option maxRecDepth 100000
set_option maxHeartbeats 4000000
/-! The text of plain data fits. -/
namespace Tw
open PySem PySem.StrLaws PySem.Builtin.Str
/-- codes of signs -/
def AC (t : Str) : Prop := ∀ c ∈ t.cps.toList, c < 1114112
theorem AC.app {x y : Str} (h : AC x) (k : AC y) : AC (x ++ y) := by
  intro c hc
  have : c ∈ (x.cps ++ y.cps).toList := hc
  rw [Array.toList_append] at this
  rcases List.mem_append.mp this with h1 | h1
  · exact h c h1
  · exact k c h1
theorem ch_lt (c : Char) : c.toNat < 1114112 := by
  have := c.valid
  have e : c.toNat = c.val.toNat := rfl
  rcases this with h | ⟨_, h⟩
  · have h2 : c.val.toNat < 55296 := h
    omega
  · have h2 : c.val.toNat < 1114112 := h
    omega
theorem AC.of (s : String) : AC (Str.ofString s) := by
  intro c hc
  rw [Str.ofString_eq_toList] at hc
  have : c ∈ s.toList.map Char.toNat := hc
  obtain ⟨x, _, rfl⟩ := List.mem_map.mp this
  exact ch_lt x
theorem AC.ite {c : Prop} [Decidable c] {x y : String} : AC (Str.ofString (if c then x else y)) := AC.of _
theorem AC.join {s : Str} (h : AC s) : ∀ ts : List Str, (∀ t ∈ ts, AC t) → AC (Str.join s ts)
  | [], _ => nofun
  | [x], k => k x List.mem_cons_self
  | x :: y :: r, k => ((k x List.mem_cons_self).app h).app (AC.join h (y :: r) fun t ht => k t (List.mem_cons_of_mem _ ht))
theorem AC.from' : ∀ (ts : List Str) (k : Nat) (acc : Str), AC acc → (∀ t ∈ ts, AC t) → AC (textFrom k acc ts)
  | [], _, _, h, _ => h
  | t :: r, k, acc, h, i => AC.from' r (k + 1) _ ((h.app (AC.of _)).app (i t List.mem_cons_self)) fun x hx => i x (List.mem_cons_of_mem _ hx)
theorem AC.list {ts : List Str} (h : ∀ t ∈ ts, AC t) : AC (listText ts) := (AC.from' ts 0 _ (AC.of _) h).app (AC.of _)
theorem AC.tuple {ts : List Str} (h : ∀ t ∈ ts, AC t) : AC (tupleText ts) := ((AC.of _).app (AC.join (AC.of _) ts h)).app (AC.of _)
theorem ac_hex {w c : Nat} : ∀ x ∈ List.replicate (w - ((Nat.toDigits 16 c).map Char.toNat).length) 48 ++ (Nat.toDigits 16 c).map Char.toNat, x < 1114112 := by
  intro x hx
  rcases List.mem_append.mp hx with h | h
  · rw [(List.mem_replicate.mp h).2]; decide
  · obtain ⟨y, _, rfl⟩ := List.mem_map.mp h
    exact ch_lt y
theorem ac_char {q c : Nat} (h : c < 1114112) : ∀ x ∈ reprChar q c, x < 1114112 := by
  intro x
  unfold reprChar
  dsimp only
  repeat' split
  all_goals intro hx
  all_goals first
    | (simp only [List.mem_cons, List.not_mem_nil, or_false] at hx; omega)
    | (rcases List.mem_append.mp hx with h1 | h1
       · simp only [List.mem_cons, List.not_mem_nil, or_false] at h1; omega
       · exact ac_hex x h1)
theorem ac_fold {q : Nat} : ∀ (l : List Nat) (acc : Array Nat), (∀ c ∈ l, c < 1114112) → (∀ c ∈ acc.toList, c < 1114112) → ∀ c ∈ (l.foldl (fun out c => out ++ (reprChar q c).toArray) acc).toList, c < 1114112
  | [], acc, _, h => h
  | c :: r, acc, k, h => by
    rw [List.foldl_cons]
    refine ac_fold r _ (fun x hx => k x (List.mem_cons_of_mem _ hx)) ?_
    intro x hx
    rw [Array.toList_append] at hx
    rcases List.mem_append.mp hx with h1 | h1
    · exact h x h1
    · exact ac_char (k c List.mem_cons_self) x h1
theorem AC.repr {x : Str} (h : AC x) : AC (reprText x) := by
  have hq : reprQuote x < 1114112 := by unfold reprQuote; split <;> decide
  intro c hc
  unfold reprText at hc
  have hc : c ∈ ((x.cps.foldl (fun out c => out ++ (reprChar (reprQuote x) c).toArray) #[reprQuote x]).push (reprQuote x)).toList := hc
  rw [Array.toList_push, ← Array.foldl_toList] at hc
  rcases List.mem_append.mp hc with h1 | h1
  · refine ac_fold x.cps.toList _ h ?_ c h1
    intro y hy
    rw [List.mem_singleton.mp hy]
    exact hq
  · rw [List.mem_singleton.mp h1]
    exact hq
mutual
/-- numbers of forty figures, signs -/
def leafOk : D → Bool
  | .non => true
  | .bl _ => true
  | .int i => decide (i.natAbs < 10 ^ 40)
  | .str s => s.all fun c => decide (c < 1114112)
  | .tup ds => leafOks ds
  | .lst ds => leafOks ds
  | .dct _ _ => false
  | .set _ => false
  | .obj _ _ _ => false
  | .ref _ => false
  | .glo _ => false
  | .scr _ => false
def leafOks : List D → Bool
  | [] => true
  | d :: ds => leafOk d && leafOks ds
end
mutual
/-- how many signs and items -/
def wtD : D → Nat
  | .str s => s.length
  | .tup ds => wtDs ds
  | .lst ds => wtDs ds
  | .non => 0
  | .bl _ => 0
  | .int _ => 0
  | .dct ks vs => 2 * wtDs ks + wtDs vs
  | .set _ => 0
  | .obj _ _ _ => 0
  | .ref _ => 0
  | .glo _ => 0
  | .scr _ => 0
def wtDs : List D → Nat
  | [] => 0
  | d :: ds => wtD d + 1 + wtDs ds
end
theorem intText40 {i : Int} (h : i.natAbs < 10 ^ 40) : (Str.ofString (toString i)).length ≤ 41 := by
  rw [ofString_length]
  exact int_text_length_le10 (by decide) h
theorem log40 {n : Nat} (h : n < 10 ^ 40) : n.log2 < 1920 := by
  by_cases h0 : n = 0
  · subst h0; decide
  · rw [Nat.log2_lt h0]
    exact Nat.lt_of_lt_of_le h (by decide +kernel)
mutual
theorem leaf_plain : ∀ d, leafOk d = true → plain d = true ∧ intsFit d = true
  | .non, _ => ⟨rfl, rfl⟩
  | .bl _, _ => ⟨rfl, rfl⟩
  | .int i, h => ⟨rfl, decide_eq_true (log40 (of_decide_eq_true h))⟩
  | .str _, _ => ⟨rfl, rfl⟩
  | .tup ds, h => leafs_plain ds h
  | .lst ds, h => leafs_plain ds h
  | .dct _ _, h => by cases h
  | .set _, h => by cases h
  | .obj _ _ _, h => by cases h
  | .ref _, h => by cases h
  | .glo _, h => by cases h
  | .scr _, h => by cases h
theorem leafs_plain : ∀ ds, leafOks ds = true → plains ds = true ∧ intsFits ds = true
  | [], _ => ⟨rfl, rfl⟩
  | d :: ds, h => by
    obtain ⟨h1, h2⟩ := Bool.and_eq_true_iff.mp (show (leafOk d && leafOks ds) = true from h)
    obtain ⟨a, b⟩ := leaf_plain d h1
    obtain ⟨a', b'⟩ := leafs_plain ds h2
    exact ⟨by show (plain d && plains ds) = true; rw [a, a']; rfl, by show (intsFit d && intsFits ds) = true; rw [b, b']; rfl⟩
end
mutual
/-- the same, and dicts of texts -/
def leafW : D → Bool
  | .non => true
  | .bl _ => true
  | .int i => decide (i.natAbs < 10 ^ 40)
  | .str s => s.all fun c => decide (c < 1114112)
  | .tup ds => leafWs ds
  | .lst ds => leafWs ds
  | .dct ks vs => leafWs ks && leafWs vs
  | .set _ => false
  | .obj _ _ _ => false
  | .ref _ => false
  | .glo _ => false
  | .scr _ => false
def leafWs : List D → Bool
  | [] => true
  | d :: ds => leafW d && leafWs ds
end
mutual
theorem leaf_W : ∀ d, leafOk d = true → leafW d = true
  | .non, _ => rfl
  | .bl _, _ => rfl
  | .int i, h => h
  | .str _, h => h
  | .tup ds, h => leafs_W ds h
  | .lst ds, h => leafs_W ds h
  | .dct _ _, h => by cases h
  | .set _, h => by cases h
  | .obj _ _ _, h => by cases h
  | .ref _, h => by cases h
  | .glo _, h => by cases h
  | .scr _, h => by cases h
theorem leafs_W : ∀ ds, leafOks ds = true → leafWs ds = true
  | [], _ => rfl
  | d :: ds, h => by
    obtain ⟨h1, h2⟩ := Bool.and_eq_true_iff.mp (show (leafOk d && leafOks ds) = true from h)
    show (leafW d && leafWs ds) = true
    rw [leaf_W d h1, leafs_W ds h2]; rfl
end
mutual
theorem leafW_fit : ∀ d, leafW d = true → intsFit d = true
  | .non, _ => rfl
  | .bl _, _ => rfl
  | .int i, h => decide_eq_true (log40 (of_decide_eq_true h))
  | .str _, _ => rfl
  | .tup ds, h => leafWs_fit ds h
  | .lst ds, h => leafWs_fit ds h
  | .dct ks vs, h => by
    obtain ⟨h1, h2⟩ := Bool.and_eq_true_iff.mp (show (leafWs ks && leafWs vs) = true from h)
    show (intsFits ks && intsFits vs) = true
    rw [leafWs_fit ks h1, leafWs_fit vs h2]; rfl
  | .set _, h => by cases h
  | .obj _ _ _, h => by cases h
  | .ref _, h => by cases h
  | .glo _, h => by cases h
  | .scr _, h => by cases h
theorem leafWs_fit : ∀ ds, leafWs ds = true → intsFits ds = true
  | [], _ => rfl
  | d :: ds, h => by
    obtain ⟨h1, h2⟩ := Bool.and_eq_true_iff.mp (show (leafW d && leafWs ds) = true from h)
    show (intsFit d && intsFits ds) = true
    rw [leafW_fit d h1, leafWs_fit ds h2]; rfl
end
mutual
theorem plain_shw : ∀ d, plain d = true → shw d = true
  | .non, _ => rfl
  | .bl _, _ => rfl
  | .int i, h => rfl
  | .str _, h => rfl
  | .tup ds, h => plains_shw ds h
  | .lst ds, h => plains_shw ds h
  | .dct _ _, h => by cases h
  | .set _, h => by cases h
  | .obj _ _ _, h => by cases h
  | .ref _, h => by cases h
  | .glo _, h => by cases h
  | .scr _, h => by cases h
theorem plains_shw : ∀ ds, plains ds = true → shws ds = true
  | [], _ => rfl
  | d :: ds, h => by
    obtain ⟨h1, h2⟩ := Bool.and_eq_true_iff.mp (show (plain d && plains ds) = true from h)
    show (shw d && shws ds) = true
    rw [plain_shw d h1, plains_shw ds h2]; rfl
end
theorem kv_ac : ∀ xs ys : List PyData, (∀ t ∈ PyData.shownAll xs, AC t) → (∀ t ∈ PyData.shownAll ys, AC t) → ∀ t ∈ PyData.shownKv (xs.zip ys), AC t
  | [], _, _, _, t, ht => by rw [List.zip_nil_left, PyData.shownKv] at ht; cases ht
  | _ :: _, [], _, _, t, ht => by rw [List.zip_nil_right, PyData.shownKv] at ht; cases ht
  | x :: xs, y :: ys, h, k, t, ht => by
    rw [List.zip_cons_cons, PyData.shownKv] at ht
    rw [PyData.shownAll] at h k
    rcases List.mem_cons.mp ht with rfl | ht
    · exact ((h _ List.mem_cons_self).app (AC.of _)).app (k _ List.mem_cons_self)
    · exact kv_ac xs ys (fun t ht => h t (List.mem_cons_of_mem _ ht)) (fun t ht => k t (List.mem_cons_of_mem _ ht)) t ht
theorem kv_num : ∀ xs ys : List PyData, (PyData.shownKv (xs.zip ys)).length ≤ xs.length
  | [], _ => by rw [List.zip_nil_left, PyData.shownKv]; exact Nat.zero_le _
  | _ :: _, [] => by rw [List.zip_nil_right, PyData.shownKv]; exact Nat.zero_le _
  | x :: xs, y :: ys => by
    rw [List.zip_cons_cons, PyData.shownKv, List.length_cons, List.length_cons]
    exact Nat.succ_le_succ (kv_num xs ys)
theorem kv_len : ∀ xs ys : List PyData, ((PyData.shownKv (xs.zip ys)).map (·.length)).sum ≤ ((PyData.shownAll xs).map (·.length)).sum + ((PyData.shownAll ys).map (·.length)).sum + 2 * xs.length
  | [], _ => by rw [List.zip_nil_left, PyData.shownKv]; exact Nat.zero_le _
  | _ :: _, [] => by rw [List.zip_nil_right, PyData.shownKv]; exact Nat.zero_le _
  | x :: xs, y :: ys => by
    have ih := kv_len xs ys
    have e : (PyData.shown x ++ ": " ++ PyData.shown y : Str).length = (PyData.shown x).length + 2 + (PyData.shown y).length := by
      rw [strLen_append, strLen_append]; rfl
    rw [List.zip_cons_cons, PyData.shownKv, PyData.shownAll, PyData.shownAll]
    simp only [List.map_cons, List.sum_cons, List.length_cons, e]
    omega
mutual
theorem sh_ac : ∀ d, leafW d = true → AC (py d).shown
  | .non, _ => AC.of _
  | .bl b, _ => by cases b <;> exact AC.of _
  | .int i, _ => AC.of _
  | .str s, h => by
    refine AC.repr ?_
    intro c hc
    have h : (s.all fun c => decide (c < 1114112)) = true := h
    rw [List.all_eq_true] at h
    exact of_decide_eq_true (h c hc)
  | .tup ds, h => by
    unfold py PyData.shown
    exact AC.tuple (shs_ac ds h)
  | .lst ds, h => by
    unfold py PyData.shown
    exact AC.list (shs_ac ds h)
  | .dct ks vs, h => by
    obtain ⟨h1, h2⟩ := Bool.and_eq_true_iff.mp (show (leafWs ks && leafWs vs) = true from h)
    unfold py PyData.shown
    exact ((AC.of _).app (AC.join (AC.of _) _ fun t ht => kv_ac _ _ (shs_ac ks h1) (shs_ac vs h2) t ht)).app (AC.of _)
  | .set _, h => by cases h
  | .obj _ _ _, h => by cases h
  | .ref _, h => by cases h
  | .glo _, h => by cases h
  | .scr _, h => by cases h
theorem shs_ac : ∀ ds, leafWs ds = true → ∀ t ∈ PyData.shownAll (pys ds), AC t
  | [], _, t, ht => by cases ht
  | d :: ds, h, t, ht => by
    obtain ⟨h1, h2⟩ := Bool.and_eq_true_iff.mp (show (leafW d && leafWs ds) = true from h)
    unfold pys PyData.shownAll at ht
    rcases List.mem_cons.mp ht with e | ht
    · rw [e]; exact sh_ac d h1
    · exact shs_ac ds h2 t ht
end
theorem shownAll_len' (ds : List D) : (PyData.shownAll (pys ds)).length = ds.length := by rw [shownAll_len, pys_map, List.length_map]
mutual
theorem sh_le : ∀ d, leafW d = true → (py d).shown.length ≤ 43 * wtD d + 41
  | .non, _ => by have : (py .non).shown.length = 4 := rfl; omega
  | .bl b, _ => by
    have : (py (.bl b)).shown.length ≤ 5 := by cases b <;> decide
    omega
  | .int i, h => by
    have : (py (.int i)).shown.length ≤ 41 := intText40 (of_decide_eq_true h)
    omega
  | .str s, h => by
    have h : (s.all fun c => decide (c < 1114112)) = true := h
    rw [List.all_eq_true] at h
    have e : (py (.str s)).shown.length ≤ 10 * (Str.mk s.toArray).length + 2 := reprText_len ⟨s.toArray⟩ fun c hc => Nat.lt_of_lt_of_le (of_decide_eq_true (h c hc)) (by decide)
    have e2 : (Str.mk s.toArray).length = s.length := by simp [Str.length]
    rw [e2] at e
    have e3 : wtD (.str s) = s.length := rfl
    rw [e3]
    omega
  | .tup ds, h => by
    have h1 := shs_le ds h
    have h2 := tupleText_len_le (PyData.shownAll (pys ds))
    have h3 := shownAll_len' ds
    have e : wtD (.tup ds) = wtDs ds := rfl
    unfold py PyData.shown
    omega
  | .lst ds, h => by
    have h1 := shs_le ds h
    have h2 := listText_len_le (PyData.shownAll (pys ds))
    have h3 := shownAll_len' ds
    have e : wtD (.lst ds) = wtDs ds := rfl
    unfold py PyData.shown
    omega
  | .dct ks vs, h => by
    obtain ⟨h1, h2⟩ := Bool.and_eq_true_iff.mp (show (leafWs ks && leafWs vs) = true from h)
    have a1 := shs_le ks h1
    have a2 := shs_le vs h2
    have b := dictText_len_le (PyData.shownKv ((pys ks).zip (pys vs)))
    have c := kv_len (pys ks) (pys vs)
    have d := kv_num (pys ks) (pys vs)
    have e1 : (pys ks).length = ks.length := by rw [pys_map, List.length_map]
    have e : wtD (.dct ks vs) = 2 * wtDs ks + wtDs vs := rfl
    unfold py PyData.shown
    omega
  | .set _, h => by cases h
  | .obj _ _ _, h => by cases h
  | .ref _, h => by cases h
  | .glo _, h => by cases h
  | .scr _, h => by cases h
theorem shs_le : ∀ ds, leafWs ds = true → ((PyData.shownAll (pys ds)).map (·.length)).sum + 2 * ds.length ≤ 43 * wtDs ds
  | [], _ => Nat.le_refl _
  | d :: ds, h => by
    obtain ⟨h1, h2⟩ := Bool.and_eq_true_iff.mp (show (leafW d && leafWs ds) = true from h)
    have a := sh_le d h1
    have b := shs_le ds h2
    have e : wtDs (d :: ds) = wtD d + 1 + wtDs ds := rfl
    unfold pys PyData.shownAll
    rw [List.map_cons, List.sum_cons, List.length_cons]
    omega
end
theorem repr_okW {d : D} (h : leafW d = true) (hp : shw d = true) (hd : depthD d ≤ 64) (hw : 43 * wtD d + 41 ≤ 16777216) : callBi shD .repr [d] = some (.str (shD d)) := by
  have h2 := leafW_fit d h
  have h3 : strOk (shD d) = true := by
    unfold strOk
    rw [Bool.and_eq_true]
    refine ⟨decide_eq_true ?_, ?_⟩
    · have a := sh_le d h
      have e : (shD d).length = (py d).shown.length := by unfold shD Str.length; simp
      rw [e]
      exact Nat.le_trans a hw
    · rw [List.all_eq_true]
      intro c hc
      exact decide_eq_true (sh_ac d h c hc)
  show (if (shw d && (intsFit d && (decide (depthD d ≤ 64) && strOk (shD d)))) = true then some (D.str (shD d)) else none) = _
  rw [hp, h2, h3, decide_eq_true hd]
  rfl
theorem repr_ok {d : D} (h : leafOk d = true) (hd : depthD d ≤ 64) (hw : 43 * wtD d + 41 ≤ 16777216) : callBi shD .repr [d] = some (.str (shD d)) :=
  repr_okW (leaf_W d h) (plain_shw d (leaf_plain d h).1) hd hw
/-! rows of numbers -/
theorem leafs_iD : ∀ {ns : List Int}, (∀ x ∈ ns, 0 ≤ x ∧ x < 10 ^ 33) → leafOks (iD ns) = true
  | [], _ => rfl
  | n :: ns, h => by
    have h0 := h n List.mem_cons_self
    show (decide (n.natAbs < 10 ^ 40) && leafOks (iD ns)) = true
    rw [leafs_iD fun x hx => h x (List.mem_cons_of_mem _ hx), decide_eq_true (by omega)]
    rfl
theorem wt_iD : ∀ ns : List Int, wtDs (iD ns) = ns.length
  | [] => rfl
  | n :: ns => by
    show 0 + 1 + wtDs (iD ns) = _
    rw [wt_iD ns, List.length_cons]
    omega
theorem leafs_hD : ∀ {h : List (List Int)}, (∀ t ∈ h, ∀ x ∈ t, 0 ≤ x ∧ x < 10 ^ 33) → leafOks (hD h) = true
  | [], _ => rfl
  | t :: h, k => by
    show (leafOks (iD t) && leafOks (hD h)) = true
    rw [leafs_iD (k t List.mem_cons_self), leafs_hD fun x hx => k x (List.mem_cons_of_mem _ hx)]
    rfl
theorem wt_hD {B : Nat} : ∀ {h : List (List Int)}, (∀ t ∈ h, t.length ≤ B) → wtDs (hD h) ≤ (B + 1) * h.length
  | [], _ => Nat.le_refl _
  | t :: h, k => by
    have h1 := k t List.mem_cons_self
    have h2 := wt_hD fun x hx => k x (List.mem_cons_of_mem _ hx)
    show wtDs (iD t) + 1 + wtDs (hD h) ≤ _
    rw [wt_iD, List.length_cons, Nat.mul_add]
    omega
end Tw
end

section
set_option linter.all false
set_option autoImplicit false
set_option maxRecDepth 100000
set_option maxHeartbeats 4000000
/-! What the books' functions tell, by plain recursion. -/
namespace Tw
@[simp] theorem reD_trg (a : E) (d : D) (s : MS) : reD (.trg a) d s = deref d s.hp := rfl
@[simp] theorem ev_trg {G : Tab} {cal : Cal} {s : MS} (a : E) : evE G cal (.trg a) s = (evE G cal a s).bind fun x s => (match x with
    | .int n => if decide (0 ≤ n) && decide (n ≤ 16777216) then .ok (.tup (rngL 0 n)) s else .stuck
    | _ => .stuck) := by rw [evE] <;> rfl
@[simp] theorem ag_tup (xs ys : List D) : augD .add (.tup xs) (.tup ys) = (fitL (xs ++ ys)).map .tup := rfl
def nL (c : List Nat) : List D := iD (c.map fun (i : Nat) => (i : Int))
@[simp] theorem nL_len {c : List Nat} : (nL c).length = c.length := by simp [nL]
@[simp] theorem nL_cons {i : Nat} {c : List Nat} : nL (i :: c) = .int i :: nL c := rfl
@[simp] theorem nL_nil : nL [] = [] := rfl
theorem nL_get {c : List Nat} {i : Nat} : (nL c)[i]? = c[i]?.map fun (j : Nat) => D.int (j : Int) := by
  rw [nL, iD_get, List.getElem?_map]
  cases c[i]? <;> rfl
def rowAt (h : List (List Int)) (i : Nat) : List Int := h.getD i []
theorem rowAt_get {h : List (List Int)} {i : Nat} (k : i < h.length) : h[i]? = some (rowAt h i) := by
  unfold rowAt
  rw [List.getD_eq_getElem?_getD, List.getElem?_eq_getElem k]
  rfl
/-- the discs that hold a wish -/
def hol (h : List (List Int)) (w : Int) : List Nat := (List.range h.length).filter fun i => decide (w ∈ rowAt h i)
theorem hol_lt {h : List (List Int)} {w : Int} {i : Nat} (k : i ∈ hol h w) : i < h.length := by
  obtain ⟨k, _⟩ := List.mem_filter.mp k
  exact List.mem_range.mp k
theorem hol_len {h : List (List Int)} {w : Int} : (hol h w).length ≤ h.length := by
  have := List.length_filter_le (fun i => decide (w ∈ rowAt h i)) (List.range h.length)
  rwa [List.length_range] at this
/-- what a disc leaves over -/
def leftO (ws t : List Int) : List Int := ws.filter fun w => !decide (w ∈ t)
theorem leftO_sub {ws t : List Int} {x : Int} (h : x ∈ leftO ws t) : x ∈ ws := (List.mem_filter.mp h).1
theorem leftO_len {ws t : List Int} : (leftO ws t).length ≤ ws.length := List.length_filter_le _ _
def apart (h : List (List Int)) (a b : Int) : Bool := !(h.any fun t => decide (a ∈ t) && decide (b ∈ t))
def apF (h : List (List Int)) (acc : List Int) (w : Int) : List Int := if acc.all (fun o => apart h o w) then acc ++ [w] else acc
def someAp (h : List (List Int)) (ws : List Int) : List Int := ws.foldl (apF h) []
theorem apF_len {h : List (List Int)} {acc : List Int} {w : Int} : (apF h acc w).length ≤ acc.length + 1 := by
  unfold apF; split <;> simp
theorem apFold_len {h : List (List Int)} : ∀ (ws acc : List Int), (ws.foldl (apF h) acc).length ≤ acc.length + ws.length
  | [], acc => by simp
  | w :: ws, acc => by
    have h1 := apFold_len (h := h) ws (apF h acc w)
    have h2 := apF_len (h := h) (acc := acc) (w := w)
    rw [List.foldl_cons, List.length_cons]
    omega
theorem someAp_len {h : List (List Int)} {ws : List Int} : (someAp h ws).length ≤ ws.length := by
  have := apFold_len (h := h) ws []
  simpa [someAp] using this
theorem apFold_mem {h : List (List Int)} {x : Int} : ∀ (ws acc : List Int), x ∈ ws.foldl (apF h) acc → x ∈ acc ∨ x ∈ ws
  | [], acc, k => .inl k
  | w :: ws, acc, k => by
    rcases apFold_mem ws _ k with k | k
    · unfold apF at k
      split at k
      · rcases List.mem_append.mp k with k | k
        · exact .inl k
        · exact .inr (by rw [List.mem_singleton.mp k]; exact List.mem_cons_self)
      · exact .inl k
    · exact .inr (List.mem_cons_of_mem _ k)
theorem someAp_mem {h : List (List Int)} {ws : List Int} {x : Int} (k : x ∈ someAp h ws) : x ∈ ws := by
  rcases apFold_mem ws [] k with k | k
  · cases k
  · exact k
def rkey (h : List (List Int)) (w : Int) : D := .tup [.int ((hol h w).length : Nat), .int w]
def rarF (h : List (List Int)) (a w : Int) : Int := if ltD (rkey h w) (rkey h a) then w else a
/-- the wish that the fewest discs hold -/
def rar (h : List (List Int)) : List Int → Int
  | [] => 0
  | w :: ws => ws.foldl (rarF h) w
theorem rarFold_mem {h : List (List Int)} : ∀ (ws : List Int) (a : Int), ws.foldl (rarF h) a = a ∨ ws.foldl (rarF h) a ∈ ws
  | [], a => .inl rfl
  | w :: ws, a => by
    rw [List.foldl_cons]
    rcases rarFold_mem ws (rarF h a w) with k | k
    · rw [k]
      unfold rarF
      split
      · exact .inr List.mem_cons_self
      · exact .inl rfl
    · exact .inr (List.mem_cons_of_mem _ k)
theorem rar_mem {h : List (List Int)} {w : Int} {ws : List Int} : rar h (w :: ws) ∈ w :: ws := by
  rcases rarFold_mem (h := h) ws w with k | k
  · show ws.foldl (rarF h) w ∈ _
    rw [k]; exact List.mem_cons_self
  · exact List.mem_cons_of_mem _ k
theorem rkey_fold {h : List (List Int)} : ∀ (ws : List Int) (a : Int), (ws.map (rkey h)).foldl (fun a y => if ltD y a then y else a) (rkey h a) = rkey h (ws.foldl (rarF h) a)
  | [], a => rfl
  | w :: ws, a => by
    rw [List.map_cons, List.foldl_cons, List.foldl_cons, ← rkey_fold ws]
    congr 1
    unfold rarF
    split <;> rfl
theorem min_rkey {sh : D → List Nat} {h : List (List Int)} {w : Int} {ws : List Int} : callBi sh .minl [.lst ((w :: ws).map (rkey h))] = some (rkey h (rar h (w :: ws))) := by
  show (if (mmOk ((w :: ws).map (rkey h)) && ((w :: ws).map (rkey h)).all notLst) = true then some ((ws.map (rkey h)).foldl (fun a y => if ltD y a then y else a) (rkey h w)) else none) = _
  rw [if_pos, rkey_fold]
  · rfl
  · unfold mmOk alikeAllD
    rw [Bool.and_eq_true, Bool.and_eq_true]
    refine ⟨⟨?_, ?_⟩, ?_⟩
    · rw [List.all_eq_true]
      intro x hx
      obtain ⟨i, _, rfl⟩ := List.mem_map.mp hx
      rw [List.all_eq_true]
      intro y hy
      obtain ⟨j, _, rfl⟩ := List.mem_map.mp hy
      rfl
    · rw [List.all_eq_true]
      intro x hx
      obtain ⟨i, _, rfl⟩ := List.mem_map.mp hx
      rfl
    · rw [List.all_eq_true]
      intro x hx
      obtain ⟨i, _, rfl⟩ := List.mem_map.mp hx
      rfl
def sLeft : List Nat := [108, 101, 102, 116]
def sApart : List Nat := [97, 112, 97, 114, 116]
def sTake : List Nat := [116, 97, 107, 101]
/-- all, or none where there is one that is none -/
def optAll : List (Option D) → Option (List D)
  | [] => some []
  | none :: _ => none
  | some d :: os => (optAll os).map (d :: ·)
theorem optAll_snoc : ∀ (os : List (Option D)) (ds : List D) (d : D), optAll os = some ds → optAll (os ++ [some d]) = some (ds ++ [d])
  | [], ds, d, h => by cases h; rfl
  | none :: _, _, _, h => by cases h
  | some e :: os, ds, d, h => by
    obtain ⟨es, h1, rfl⟩ := Option.map_eq_some_iff.mp (show (optAll os).map (e :: ·) = some ds from h)
    show (optAll (os ++ [some d])).map (e :: ·) = _
    rw [optAll_snoc os es d h1]
    rfl
theorem optAll_none : ∀ {os : List (Option D)}, none ∈ os → optAll os = none
  | none :: _, _ => rfl
  | some e :: os, h => by
    show (optAll os).map (e :: ·) = none
    rcases List.mem_cons.mp h with h | h
    · cases h
    · rw [optAll_none h]; rfl
theorem optAll_mem : ∀ {os : List (Option D)} {ds : List D}, optAll os = some ds → (∀ d ∈ ds, some d ∈ os) ∧ ds.length = os.length
  | [], ds, h => by cases h; exact ⟨nofun, rfl⟩
  | none :: _, _, h => by cases h
  | some e :: os, ds, h => by
    obtain ⟨es, h1, rfl⟩ := Option.map_eq_some_iff.mp (show (optAll os).map (e :: ·) = some ds from h)
    obtain ⟨a, b⟩ := optAll_mem h1
    refine ⟨fun d hd => ?_, by simp [b]⟩
    rcases List.mem_cons.mp hd with rfl | hd
    · exact List.mem_cons_self
    · exact List.mem_cons_of_mem _ (a d hd)
/-- the book that the program tells -/
def bookOf (h : List (List Int)) : Nat → List Int → Option D
  | _, [] => none
  | 0, w :: _ => some (.tup [.str sLeft, .int w])
  | m + 1, w :: ws =>
    if (someAp h (w :: ws)).length > m + 1 then some (.tup [.str sApart, .tup (iD (someAp h (w :: ws)))])
    else (optAll ((hol h (rar h (w :: ws))).map fun i => bookOf h m (leftO (w :: ws) (rowAt h i)))).map fun bs => .tup [.str sTake, .int (rar h (w :: ws)), .tup bs]
def optD : Option D → D
  | none => .non
  | some d => d
/-! ### what a book must be -/
def isLk (lk : List Int) : D → Bool
  | .int i => decide (i ∈ lk)
  | _ => false
def toI : D → Int
  | .int i => i
  | _ => 0
def risB : List Int → Bool
  | [] => true
  | [_] => true
  | x :: y :: xs => decide (x < y) && risB (y :: xs)
def apPairs (h : List (List Int)) (xs : List Int) : Bool := (List.range xs.length).all fun i => (xs.take i).all fun o => apart h (xs.getD i 0) o
def shAp (h : List (List Int)) (lk : List Int) (l : Nat) : D → Bool
  | .tup ds => decide (l < ds.length) && (ds.all (isLk lk) && (risB (ds.map toI) && apPairs h (ds.map toI)))
  | _ => false
def endOk (h : List (List Int)) (l : Nat) (lk : List Int) (s : List Nat) (x : D) : Bool :=
  if s = sLeft then decide (l = 0) && isLk lk x else decide (s = sApart) && shAp h lk l x
def zipAll (f : D → Nat → Bool) : List D → List Nat → Bool
  | d :: ds, i :: is => f d i && zipAll f ds is
  | _, _ => true
def okBook (h : List (List Int)) : Nat → List Int → D → Bool
  | l, lk, .tup [.str s, x] => endOk h l lk s x
  | l + 1, lk, .tup [.str s, w, .tup bs] => decide (s = sTake) && (isLk lk w && (decide (bs.length = (hol h (toI w)).length) && zipAll (fun b i => okBook h l (leftO lk (rowAt h i)) b) bs (hol h (toI w))))
  | _, _, _ => false
/-! ### sizes -/
mutual
def szD : D → Nat
  | .tup ds => szDs ds + 1
  | .non => 1
  | .bl _ => 1
  | .int _ => 1
  | .str _ => 1
  | .lst _ => 1
  | .dct _ _ => 1
  | .set _ => 1
  | .obj _ _ _ => 1
  | .ref _ => 1
  | .glo _ => 1
  | .scr _ => 1
def szDs : List D → Nat
  | [] => 0
  | d :: ds => szD d + szDs ds
end
theorem szD_pos : ∀ d, 1 ≤ szD d
  | .tup ds => by show 1 ≤ szDs ds + 1; omega
  | .non => Nat.le_refl _
  | .bl _ => Nat.le_refl _
  | .int _ => Nat.le_refl _
  | .str _ => Nat.le_refl _
  | .lst _ => Nat.le_refl _
  | .dct _ _ => Nat.le_refl _
  | .set _ => Nat.le_refl _
  | .obj _ _ _ => Nat.le_refl _
  | .ref _ => Nat.le_refl _
  | .glo _ => Nat.le_refl _
  | .scr _ => Nat.le_refl _
theorem szDs_len : ∀ ds, ds.length ≤ szDs ds
  | [] => Nat.le_refl _
  | d :: ds => by
    have := szDs_len ds
    have := szD_pos d
    show ds.length + 1 ≤ szD d + szDs ds
    omega
theorem szDs_mem : ∀ {ds : List D} {d : D}, d ∈ ds → szD d ≤ szDs ds
  | e :: ds, d, h => by
    show szD d ≤ szD e + szDs ds
    rcases List.mem_cons.mp h with rfl | h
    · omega
    · have := szDs_mem h
      omega
mutual
theorem plain_below : ∀ d, plain d = true → below 0 d = true
  | .non, _ => rfl
  | .bl _, _ => rfl
  | .int _, _ => rfl
  | .str _, _ => rfl
  | .tup ds, h => plains_below ds h
  | .lst ds, h => plains_below ds h
  | .dct _ _, h => by cases h
  | .set _, h => by cases h
  | .obj _ _ _, h => by cases h
  | .ref _, h => by cases h
  | .glo _, h => by cases h
  | .scr _, h => by cases h
theorem plains_below : ∀ ds, plains ds = true → belows 0 ds = true
  | [], _ => rfl
  | d :: ds, h => by
    obtain ⟨h1, h2⟩ := Bool.and_eq_true_iff.mp (show (plain d && plains ds) = true from h)
    show (below 0 d && belows 0 ds) = true
    rw [plain_below d h1, plains_below ds h2]
    rfl
end
theorem plains_mem : ∀ {ds : List D} {d : D}, plains ds = true → d ∈ ds → plain d = true
  | e :: ds, d, h, k => by
    obtain ⟨h1, h2⟩ := Bool.and_eq_true_iff.mp (show (plain e && plains ds) = true from h)
    rcases List.mem_cons.mp k with rfl | k
    · exact h1
    · exact plains_mem h2 k
theorem plains_of : ∀ {ds : List D}, (∀ d ∈ ds, plain d = true) → plains ds = true
  | [], _ => rfl
  | d :: ds, h => by
    show (plain d && plains ds) = true
    rw [h d List.mem_cons_self, plains_of fun x hx => h x (List.mem_cons_of_mem _ hx)]
    rfl
theorem depthDs_mem : ∀ {ds : List D} {d : D}, d ∈ ds → depthD d ≤ depthDs ds
  | e :: ds, d, k => by
    show depthD d ≤ max (depthD e) (depthDs ds)
    rcases List.mem_cons.mp k with rfl | k
    · omega
    · have := depthDs_mem k
      omega
theorem depthDs_of {n : Nat} : ∀ {ds : List D}, (∀ d ∈ ds, depthD d ≤ n) → depthDs ds ≤ n
  | [], _ => Nat.zero_le _
  | d :: ds, h => by
    show max (depthD d) (depthDs ds) ≤ n
    have h1 := h d List.mem_cons_self
    have h2 := depthDs_of fun x hx => h x (List.mem_cons_of_mem _ hx)
    omega
/-- a thing that may be looked at as a book -/
def BkOk (d : D) : Prop := plain d = true ∧ depthD d ≤ 61 ∧ szD d ≤ SZ
theorem BkOk.mem {ds : List D} {d : D} (h : BkOk (.tup ds)) (k : d ∈ ds) : BkOk d := by
  obtain ⟨h1, h2, h3⟩ := h
  have h2 : depthDs ds + 1 ≤ 61 := h2
  have h3 : szDs ds + 1 ≤ SZ := h3
  have a := depthDs_mem k
  have b := szDs_mem k
  exact ⟨plains_mem h1 k, by omega, by omega⟩
theorem BkOk.okD {d : D} (h : BkOk d) : okD d = true := by
  have := h.2.1
  show (plain d && decide (depthD d ≤ 64)) = true
  rw [h.1, decide_eq_true (by omega)]
  rfl
theorem BkOk.len {ds : List D} (h : BkOk (.tup ds)) : ds.length ≤ SZ := by
  have h3 : szDs ds + 1 ≤ SZ := h.2.2
  have := szDs_len ds
  omega
end Tw
end

section
set_option linter.all false
set_option autoImplicit false
set_option maxRecDepth 100000
set_option maxHeartbeats 4000000
/-! A book is told just where no so many discs hold all. -/
namespace Tw
/-- these discs hold all wishes -/
def Cv (h : List (List Int)) (ws : List Int) (c : List Nat) : Prop := ∀ w ∈ ws, ∃ i ∈ c, i < h.length ∧ w ∈ rowAt h i
theorem mem_hol {h : List (List Int)} {w : Int} {i : Nat} : i ∈ hol h w ↔ i < h.length ∧ w ∈ rowAt h i := by
  unfold hol
  rw [List.mem_filter, List.mem_range, decide_eq_true_eq]
theorem mem_leftO {ws t : List Int} {w : Int} : w ∈ leftO ws t ↔ w ∈ ws ∧ w ∉ t := by
  unfold leftO
  rw [List.mem_filter]
  simp
theorem apart_no {h : List (List Int)} {a b : Int} {i : Nat} (k : apart h a b = true) (hi : i < h.length) (ha : a ∈ rowAt h i) : b ∉ rowAt h i := by
  intro hb
  unfold apart at k
  have : (h.any fun t => decide (a ∈ t) && decide (b ∈ t)) = true := by
    rw [List.any_eq_true]
    exact ⟨rowAt h i, List.mem_of_getElem? (rowAt_get hi), by simp [ha, hb]⟩
  rw [this] at k
  cases k
theorem apart_symm {h : List (List Int)} {a b : Int} : apart h a b = apart h b a := by
  unfold apart
  congr 2
  funext t
  rw [Bool.and_comm]
/-- wishes no two of which are together need as many discs -/
theorem pigeon {h : List (List Int)} : ∀ (s : List Int) (c : List Nat), s.Pairwise (fun a b => apart h a b = true) → Cv h s c → s.length ≤ c.length
  | [], _, _, _ => Nat.zero_le _
  | x :: s, c, hp, hc => by
    obtain ⟨h1, h2⟩ := List.pairwise_cons.mp hp
    obtain ⟨i, hi, hil, hx⟩ := hc x List.mem_cons_self
    have ih := pigeon s (c.erase i) h2 fun w hw => by
      obtain ⟨j, hj, hjl, hwj⟩ := hc w (List.mem_cons_of_mem _ hw)
      have hne : j ≠ i := by
        rintro rfl
        exact apart_no (h1 w hw) hil hx hwj
      exact ⟨j, (List.mem_erase_of_ne hne).mpr hj, hjl, hwj⟩
    have := List.length_erase_of_mem hi
    have := List.length_pos_of_mem hi
    rw [List.length_cons]
    omega
theorem apFold_pair {h : List (List Int)} : ∀ (ws acc : List Int), acc.Pairwise (fun a b => apart h a b = true) → (ws.foldl (apF h) acc).Pairwise (fun a b => apart h a b = true)
  | [], _, k => k
  | w :: ws, acc, k => by
    rw [List.foldl_cons]
    refine apFold_pair ws _ ?_
    unfold apF
    split
    · rename_i ha
      rw [List.pairwise_append]
      refine ⟨k, List.pairwise_singleton _ _, ?_⟩
      intro a ha' b hb
      rw [List.mem_singleton.mp hb]
      exact List.all_eq_true.mp ha a ha'
    · exact k
theorem someAp_pair {h : List (List Int)} {ws : List Int} : (someAp h ws).Pairwise (fun a b => apart h a b = true) := apFold_pair ws [] .nil
theorem apFold_sub {h : List (List Int)} : ∀ (ws acc : List Int), (ws.foldl (apF h) acc).Sublist (acc ++ ws)
  | [], acc => by simp
  | w :: ws, acc => by
    rw [List.foldl_cons]
    have ih := apFold_sub (h := h) ws (apF h acc w)
    refine ih.trans ?_
    unfold apF
    split
    · simp
    · exact List.Sublist.append_left (List.sublist_cons_self _ _) _
theorem someAp_sub {h : List (List Int)} {ws : List Int} : (someAp h ws).Sublist ws := by
  have := apFold_sub (h := h) ws []
  simpa [someAp] using this
theorem optAll_none_iff : ∀ {os : List (Option D)}, optAll os = none ↔ none ∈ os
  | [] => by simp [optAll]
  | none :: _ => by simp [optAll]
  | some d :: os => by
    show (optAll os).map (d :: ·) = none ↔ _
    rw [Option.map_eq_none_iff, optAll_none_iff]
    simp
theorem book_none {h : List (List Int)} : ∀ (m : Nat) (ws : List Int), bookOf h m ws = none ↔ ∃ c : List Nat, c.length ≤ m ∧ Cv h ws c
  | m, [] => by
    have : bookOf h m [] = none := by cases m <;> rfl
    exact ⟨fun _ => ⟨[], Nat.zero_le _, nofun⟩, fun _ => this⟩
  | 0, w :: ws => by
    constructor
    · intro e; cases e
    · rintro ⟨c, hl, hc⟩
      obtain ⟨i, hi, _⟩ := hc w List.mem_cons_self
      have := List.length_pos_of_mem hi
      omega
  | m + 1, w :: ws => by
    rw [bookOf]
    by_cases hg : (someAp h (w :: ws)).length > m + 1
    · rw [if_pos hg]
      constructor
      · intro e; cases e
      · rintro ⟨c, hl, hc⟩
        have := pigeon _ c (someAp_pair (h := h) (ws := w :: ws)) fun x hx => hc x (someAp_mem hx)
        omega
    · rw [if_neg hg, Option.map_eq_none_iff, optAll_none_iff, List.mem_map]
      have hr := rar_mem (h := h) (w := w) (ws := ws)
      generalize rar h (w :: ws) = r at *
      generalize w :: ws = L at *
      constructor
      · rintro ⟨i, hi, e⟩
        obtain ⟨c, hl, hc⟩ := (book_none m (leftO L (rowAt h i))).mp e
        refine ⟨i :: c, by rw [List.length_cons]; omega, fun x hx => ?_⟩
        by_cases hxi : x ∈ rowAt h i
        · exact ⟨i, List.mem_cons_self, (mem_hol.mp hi).1, hxi⟩
        · obtain ⟨j, hj, k⟩ := hc x (mem_leftO.mpr ⟨hx, hxi⟩)
          exact ⟨j, List.mem_cons_of_mem _ hj, k⟩
      · rintro ⟨c, hl, hc⟩
        obtain ⟨i, hi, hil, hri⟩ := hc r hr
        refine ⟨i, mem_hol.mpr ⟨hil, hri⟩, (book_none m _).mpr ⟨c.erase i, ?_, fun x hx => ?_⟩⟩
        · have := List.length_erase_of_mem hi
          have := List.length_pos_of_mem hi
          omega
        · obtain ⟨hx1, hx2⟩ := mem_leftO.mp hx
          obtain ⟨j, hj, hjl, hxj⟩ := hc x hx1
          have hne : j ≠ i := by
            rintro rfl
            exact hx2 hxj
          exact ⟨j, (List.mem_erase_of_ne hne).mpr hj, hjl, hxj⟩
/-! ### what is told is a book -/
theorem risB_iff : ∀ xs : List Int, risB xs = true ↔ xs.Pairwise (· < ·)
  | [] => by simp [risB]
  | [x] => by simp [risB]
  | x :: y :: xs => by
    have ih := risB_iff (y :: xs)
    show (decide (x < y) && risB (y :: xs)) = true ↔ _
    rw [Bool.and_eq_true, ih, decide_eq_true_eq]
    constructor
    · rintro ⟨h1, h2⟩
      refine List.pairwise_cons.mpr ⟨fun z hz => ?_, h2⟩
      rcases List.mem_cons.mp hz with rfl | hz
      · exact h1
      · have := (List.pairwise_cons.mp h2).1 z hz
        omega
    · intro hh
      obtain ⟨h1, h2⟩ := List.pairwise_cons.mp hh
      exact ⟨h1 y List.mem_cons_self, h2⟩
theorem toI_iD : ∀ xs : List Int, (iD xs).map toI = xs
  | [] => rfl
  | x :: xs => by rw [iD_cons, List.map_cons, toI_iD xs]; rfl
theorem pair_ap {h : List (List Int)} {xs : List Int} (k : xs.Pairwise (fun a b => apart h a b = true)) : apPairs h xs = true := by
  unfold apPairs
  rw [List.all_eq_true]
  intro i hi
  have hi := List.mem_range.mp hi
  rw [List.all_eq_true]
  intro o ho
  rw [List.getD_eq_getElem?_getD, List.getElem?_eq_getElem hi]
  obtain ⟨j, hj, rfl⟩ := List.mem_iff_getElem.mp ho
  rw [List.length_take] at hj
  have := (List.pairwise_iff_getElem.mp k) j i (by omega) hi (by omega)
  rw [apart_symm, List.getElem_take]
  exact this
theorem zip_ok {f : Nat → Option D} {g : D → Nat → Bool} : ∀ (is : List Nat) (ds : List D), optAll (is.map f) = some ds → (∀ i ∈ is, ∀ d, f i = some d → g d i = true) → zipAll g ds is = true
  | [], ds, e, _ => by cases e; rfl
  | i :: is, ds, e, k => by
    rw [List.map_cons] at e
    cases hf : f i with
    | none => rw [hf] at e; cases e
    | some d =>
      rw [hf] at e
      obtain ⟨es, h1, rfl⟩ := Option.map_eq_some_iff.mp (show (optAll (is.map f)).map (d :: ·) = some ds from e)
      show (g d i && zipAll g es is) = true
      rw [k i List.mem_cons_self d hf, zip_ok is es h1 fun j hj => k j (List.mem_cons_of_mem _ hj)]
      rfl
theorem book_ok {h : List (List Int)} : ∀ (m : Nat) (ws : List Int) (d : D), ws.Pairwise (· < ·) → bookOf h m ws = some d → okBook h m ws d = true
  | m, [], d, _, e => by cases m <;> cases e
  | 0, w :: ws, d, _, e => by
    cases e
    rw [okBook]
    unfold endOk
    rw [if_pos rfl]
    show (decide (0 = 0) && decide (w ∈ w :: ws)) = true
    simp
  | m + 1, w :: ws, d, hp, e => by
    rw [bookOf] at e
    split at e
    · rename_i hg
      cases e
      rw [okBook]
      unfold endOk
      rw [if_neg (by decide), decide_eq_true rfl, Bool.true_and]
      show (decide (m + 1 < (iD _).length) && ((iD _).all (isLk _) && (risB ((iD _).map toI) && apPairs h ((iD _).map toI)))) = true
      rw [toI_iD, iD_length, decide_eq_true hg, pair_ap someAp_pair, (risB_iff _).mpr (hp.sublist someAp_sub), Bool.true_and, Bool.true_and, Bool.and_true, List.all_eq_true]
      intro x hx
      obtain ⟨y, hy, rfl⟩ := List.mem_map.mp hx
      exact decide_eq_true (someAp_mem hy)
    · obtain ⟨bs, h1, rfl⟩ := Option.map_eq_some_iff.mp e
      have hr := rar_mem (h := h) (w := w) (ws := ws)
      have hl := (optAll_mem h1).2
      rw [List.length_map] at hl
      generalize rar h (w :: ws) = r at *
      generalize w :: ws = L at *
      rw [okBook, decide_eq_true rfl, Bool.true_and]
      show (decide (r ∈ L) && (decide (bs.length = (hol h r).length) && zipAll _ bs (hol h r))) = true
      rw [decide_eq_true hr, decide_eq_true hl, Bool.true_and, Bool.true_and]
      refine zip_ok _ _ h1 fun i hi b hb => ?_
      exact book_ok m _ b (hp.sublist List.filter_sublist) hb
/-! ### the books' soundness: a book that is one shows it -/
theorem zipAll_get {g : D → Nat → Bool} : ∀ {ds : List D} {is : List Nat} {j : Nat} {i : Nat}, zipAll g ds is = true → ds.length = is.length → is[j]? = some i → ∃ d ∈ ds, g d i = true
  | [], [], _, _, _, _, e => by cases e
  | d :: ds, i :: is, 0, k, h, _, e => by
    cases e
    exact ⟨d, List.mem_cons_self, (Bool.and_eq_true_iff.mp (show (g d i && zipAll g ds is) = true from h)).1⟩
  | d :: ds, i :: is, j + 1, k, h, hl, e => by
    obtain ⟨x, hx, hg⟩ := zipAll_get (Bool.and_eq_true_iff.mp (show (g d i && zipAll g ds is) = true from h)).2 (by simpa using hl) (by simpa using e)
    exact ⟨x, List.mem_cons_of_mem _ hx, hg⟩
theorem ap_pair {h : List (List Int)} {xs : List Int} (k : apPairs h xs = true) : xs.Pairwise (fun a b => apart h a b = true) := by
  rw [List.pairwise_iff_getElem]
  intro i j hi hj hij
  unfold apPairs at k
  rw [List.all_eq_true] at k
  have := k j (List.mem_range.mpr hj)
  rw [List.all_eq_true] at this
  have := this xs[i] (List.mem_iff_getElem.mpr ⟨i, by rw [List.length_take]; omega, by rw [List.getElem_take]⟩)
  rw [List.getD_eq_getElem?_getD, List.getElem?_eq_getElem hj] at this
  rw [apart_symm]
  exact this
theorem okBook_inv {h : List (List Int)} {m : Nat} {ws : List Int} {d : D} (k : okBook h m ws d = true) : (∃ s x, d = .tup [.str s, x] ∧ endOk h m ws s x = true) ∨
    ∃ l s w bs, m = l + 1 ∧ d = .tup [.str s, w, .tup bs] ∧ s = sTake ∧ isLk ws w = true ∧ bs.length = (hol h (toI w)).length ∧ zipAll (fun b i => okBook h l (leftO ws (rowAt h i)) b) bs (hol h (toI w)) = true := by
  unfold okBook at k
  split at k
  · exact .inl ⟨_, _, rfl, k⟩
  · obtain ⟨a1, k2⟩ := Bool.and_eq_true_iff.mp k
    obtain ⟨a2, k2⟩ := Bool.and_eq_true_iff.mp k2
    obtain ⟨a3, a4⟩ := Bool.and_eq_true_iff.mp k2
    exact .inr ⟨_, _, _, _, rfl, rfl, of_decide_eq_true a1, a2, of_decide_eq_true a3, a4⟩
  · cases k
theorem lk_mem {ws : List Int} {d : D} (k : isLk ws d = true) : toI d ∈ ws ∧ d = .int (toI d) := by
  cases d with
  | int i => exact ⟨of_decide_eq_true k, rfl⟩
  | _ => cases k
theorem end_none {h : List (List Int)} {m : Nat} {ws : List Int} {s : List Nat} {x : D} (k : endOk h m ws s x = true) {c : List Nat} (hc : Cv h ws c) : m < c.length := by
  unfold endOk at k
  split at k
  · obtain ⟨k1, k2⟩ := Bool.and_eq_true_iff.mp k
    have := of_decide_eq_true k1
    obtain ⟨j, hj, _⟩ := hc _ (lk_mem k2).1
    have := List.length_pos_of_mem hj
    omega
  · obtain ⟨_, k2⟩ := Bool.and_eq_true_iff.mp k
    cases x with
    | tup ds =>
      obtain ⟨a1, k2⟩ := Bool.and_eq_true_iff.mp k2
      obtain ⟨a2, k2⟩ := Bool.and_eq_true_iff.mp k2
      obtain ⟨a3, a4⟩ := Bool.and_eq_true_iff.mp k2
      have := pigeon _ c (ap_pair a4) fun x hx => hc x (by
        obtain ⟨y, hy, rfl⟩ := List.mem_map.mp hx
        exact (lk_mem (List.all_eq_true.mp a2 y hy)).1)
      rw [List.length_map] at this
      have := of_decide_eq_true a1
      omega
    | _ => cases k2
theorem ok_none {h : List (List Int)} : ∀ (m : Nat) (ws : List Int) (d : D), okBook h m ws d = true → ∀ c : List Nat, Cv h ws c → m < c.length := by
  intro m
  induction m with
  | zero =>
    intro ws d k c hc
    rcases okBook_inv k with ⟨s, x, rfl, k⟩ | ⟨l, s, w, bs, e, _⟩
    · exact end_none k hc
    · cases e
  | succ m ih =>
    intro ws d k c hc
    rcases okBook_inv k with ⟨s, x, rfl, k⟩ | ⟨l, s, w, bs, e, rfl, _, a2, a3, a4⟩
    · exact end_none k hc
    · obtain rfl : m = l := by omega
      obtain ⟨i, hi, hil, hri⟩ := hc _ (lk_mem a2).1
      have him : i ∈ hol h (toI w) := mem_hol.mpr ⟨hil, hri⟩
      obtain ⟨j, hj, hji⟩ := List.mem_iff_getElem.mp him
      obtain ⟨b, hb, hg⟩ := zipAll_get (j := j) (i := i) a4 a3 (by rw [List.getElem?_eq_getElem hj, hji])
      have := ih _ b hg (c.erase i) fun x hx => by
        obtain ⟨hx1, hx2⟩ := mem_leftO.mp hx
        obtain ⟨j, hj, hjl, hxj⟩ := hc x hx1
        have hne : j ≠ i := by
          rintro rfl
          exact hx2 hxj
        exact ⟨j, (List.mem_erase_of_ne hne).mpr hj, hjl, hxj⟩
      have := List.length_erase_of_mem hi
      have := List.length_pos_of_mem hi
      omega
end Tw
end

section
set_option linter.all false
set_option autoImplicit false
set_option maxRecDepth 100000
set_option maxHeartbeats 4000000
namespace Tw
/-! looks at kinds -/
def isTup : D → Bool
  | .tup _ => true
  | _ => false
def isWh : D → Bool
  | .int _ => true
  | _ => false
section
variable {G : Tab} {cal : Cal} {s : MS}
theorem isT_tup (d : D) (hp : List Ob) : isCls G d hp [.tuple] = some (isTup d) := by cases d <;> rfl
theorem isT_str (d : D) (hp : List Ob) : isCls G d hp [.str] = some (isStr d) := by cases d <;> rfl
@[simp] theorem et_tup (o : E) : evT G cal (.isi o [.tuple]) s = (evE G cal o s).bind fun x s => .ok (isTup x) s := by
  rw [et_isi, tst, evE]
  cases evE G cal o s <;> simp [R.bind, isT_tup]
@[simp] theorem et_str (o : E) : evT G cal (.isi o [.str]) s = (evE G cal o s).bind fun x s => .ok (isStr x) s := by
  rw [et_isi, tst, evE]
  cases evE G cal o s <;> simp [R.bind, isT_str]
@[simp] theorem ev_isi (o : E) (cs : List Cl) : evE G cal (.isi o cs) s = (evE G cal o s).bind fun x s => .ofO ((isCls G x s.hp cs).map .bl) s := by rw [evE]
end
theorem ck_nes (x y : List Nat) : cmpD .ne (.str x) (.str y) = some (!decide (x = y)) := by
  show (if (okD (.str x) && okD (.str y)) = true then some (!eqD (.str x) (.str y)) else none) = _
  have : eqD (.str x) (.str y) = decide (x = y) := by
    show (x == y) = _
    rw [Bool.eq_iff_iff]; simp
  rw [this]
  rfl
theorem ck_eqs (x y : List Nat) : cmpD .eq (.str x) (.str y) = some (decide (x = y)) := by
  show (if (okD (.str x) && okD (.str y)) = true then some (eqD (.str x) (.str y)) else none) = _
  have : eqD (.str x) (.str y) = decide (x = y) := by
    show (x == y) = _
    rw [Bool.eq_iff_iff]; simp
  rw [this]
  rfl
theorem slc_tail (ds : List D) : slcD (.tup ds) (some (.int 1)) none = some (.tup (ds.drop 1)) := by
  show some (D.tup ((ds.drop (clampI ds.length 1)).take (ds.length - clampI ds.length 1))) = _
  cases ds with
  | nil => rfl
  | cons d ds =>
    have : clampI (d :: ds).length 1 = 1 := by
      show min 1 (ds.length + 1) = 1
      omega
    rw [this]
    simp
theorem slc_pre (ds : List D) (k : Nat) : slcD (.tup ds) none (some (.int (k : Nat))) = some (.tup (ds.take k)) := by
  show some (D.tup ((ds.drop 0).take (clampI ds.length (k : Int) - 0))) = _
  have : clampI ds.length (k : Int) = min k ds.length := by
    unfold clampI
    rw [if_pos (by omega)]
    rfl
  rw [this, List.drop_zero, Nat.sub_zero]
  congr 2
  rw [Nat.min_comm]
  rw [List.take_eq_take_min (i := k)]
  congr 1
  omega
def risL : List Int → List Bool
  | [] => []
  | [_] => []
  | x :: y :: xs => decide (x < y) :: risL (y :: xs)
theorem risL_all : ∀ xs, (risL xs).all id = risB xs
  | [] => rfl
  | [_] => rfl
  | x :: y :: xs => by
    show (decide (x < y) && (risL (y :: xs)).all id) = (decide (x < y) && risB (y :: xs))
    rw [risL_all (y :: xs)]
def riG : D → Option D
  | .tup [.int a, .int b] => some (.bl (decide (a < b)))
  | _ => none
theorem ri_fm : ∀ xs : List Int, (zipD (iD xs) ((iD xs).drop 1)).filterMap riG = (risL xs).map .bl
  | [] => rfl
  | [_] => rfl
  | x :: y :: xs => by
    have ih := ri_fm (y :: xs)
    show (D.tup [.int x, .int y] :: zipD (iD (y :: xs)) ((iD (y :: xs)).drop 1)).filterMap riG = _
    rw [List.filterMap_cons, ih]
    rfl
theorem zipD_mem : ∀ {xs ys : List D} {z : D}, z ∈ zipD xs ys → ∃ x ∈ xs, ∃ y ∈ ys, z = .tup [x, y]
  | [], _, _, h => by cases h
  | _ :: _, [], _, h => by cases h
  | x :: xs, y :: ys, z, h => by
    rcases List.mem_cons.mp (show z ∈ D.tup [x, y] :: zipD xs ys from h) with rfl | h
    · exact ⟨x, List.mem_cons_self, y, List.mem_cons_self, rfl⟩
    · obtain ⟨a, ha, b, hb, e⟩ := zipD_mem h
      exact ⟨a, List.mem_cons_of_mem _ ha, b, List.mem_cons_of_mem _ hb, e⟩
theorem zipD_le : ∀ {xs ys : List D}, (zipD xs ys).length ≤ xs.length
  | [], _ => Nat.zero_le _
  | _ :: _, [] => Nat.zero_le _
  | x :: xs, y :: ys => Nat.succ_le_succ (zipD_le (xs := xs) (ys := ys))
theorem allBls_bl : ∀ bs : List Bool, allBls (bs.map .bl) = some bs
  | [] => rfl
  | b :: bs => by
    show (allBls (bs.map .bl)).map (b :: ·) = _
    rw [allBls_bl bs]
    rfl
theorem lks_iD {lk : List Int} : ∀ {ds : List D}, (∀ d ∈ ds, isLk lk d = true) → ds = iD (ds.map toI)
  | [], _ => rfl
  | d :: ds, h => by
    have h1 := h d List.mem_cons_self
    have ih := lks_iD fun x hx => h x (List.mem_cons_of_mem _ hx)
    cases d with
    | int i =>
      rw [List.map_cons, iD_cons, ← ih]
      rfl
    | _ => cases h1
end Tw
end

section
set_option linter.all false
set_option autoImplicit false
set_option maxRecDepth 100000
set_option maxHeartbeats 4000000
/-! Works, names, slices, frames that make objects: the general parts of k82. -/
namespace Tw
mutual
def dpW : Wk → Nat
  | .node _ ps => dpWs ps + 1
def dpWs : List Wk → Nat
  | [] => 0
  | p :: ps => max (dpW p) (dpWs ps)
end
mutual
def szW : Wk → Nat
  | .node _ ps => szWs ps + 1
def szWs : List Wk → Nat
  | [] => 0
  | p :: ps => szW p + szWs ps
end
mutual
/-- names that refer to nothing -/
def okW : Wk → Bool
  | .node nm ps => below 0 nm && okWs ps
def okWs : List Wk → Bool
  | [] => true
  | p :: ps => okW p && okWs ps
end
mutual
theorem spW_len : ∀ (w : Wk) (b : Nat), (spW w b).length = szW w
  | .node nm ps, b => by
    show (spWs ps b).length + 1 = szWs ps + 1
    rw [spWs_len ps b]
theorem spWs_len : ∀ (ps : List Wk) (b : Nat), (spWs ps b).length = szWs ps
  | [], _ => rfl
  | p :: ps, b => by
    show (spW p b ++ spWs ps (b + lvs p)).length = szW p + szWs ps
    rw [List.length_append, spW_len p b, spWs_len ps _]
end
mutual
theorem datW_below : ∀ w, okW w = true → below 0 (datW w) = true
  | .node nm ps, h => by
    obtain ⟨h1, h2⟩ := Bool.and_eq_true_iff.mp (show (below 0 nm && okWs ps) = true from h)
    show (below 0 nm && (belows 0 (datWs ps) && true)) = true
    rw [h1, datWs_below ps h2]; rfl
theorem datWs_below : ∀ ps, okWs ps = true → belows 0 (datWs ps) = true
  | [], _ => rfl
  | p :: ps, h => by
    obtain ⟨h1, h2⟩ := Bool.and_eq_true_iff.mp (show (okW p && okWs ps) = true from h)
    show (below 0 (datW p) && belows 0 (datWs ps)) = true
    rw [datW_below p h1, datWs_below ps h2]; rfl
end
theorem okWs_mem : ∀ {ps : List Wk} {p : Wk}, okWs ps = true → p ∈ ps → okW p = true
  | e :: ps, p, h, k => by
    obtain ⟨h1, h2⟩ := Bool.and_eq_true_iff.mp (show (okW e && okWs ps) = true from h)
    rcases List.mem_cons.mp k with rfl | k
    · exact h1
    · exact okWs_mem h2 k
theorem dpWs_mem : ∀ {ps : List Wk} {p : Wk}, p ∈ ps → dpW p ≤ dpWs ps
  | e :: ps, p, k => by
    show dpW p ≤ max (dpW e) (dpWs ps)
    rcases List.mem_cons.mp k with rfl | k
    · omega
    · have := dpWs_mem k
      omega
theorem szWs_mem : ∀ {ps : List Wk} {p : Wk}, p ∈ ps → szW p ≤ szWs ps
  | e :: ps, p, k => by
    show szW p ≤ szW e + szWs ps
    rcases List.mem_cons.mp k with rfl | k
    · omega
    · have := szWs_mem k
      omega
theorem datWs_map : ∀ ps : List Wk, datWs ps = ps.map datW
  | [] => rfl
  | p :: ps => by
    show datW p :: datWs ps = _
    rw [datWs_map ps]; rfl
theorem szWs_take : ∀ (ps : List Wk) (u : Nat), szWs (ps.take u) ≤ szWs ps
  | [], _ => by simp [szWs]
  | _ :: _, 0 => Nat.zero_le _
  | p :: ps, u + 1 => by
    have := szWs_take ps u
    show szW p + szWs (ps.take u) ≤ szW p + szWs ps
    omega
theorem szWs_len : ∀ ps : List Wk, ps.length ≤ szWs ps
  | [] => Nat.le_refl _
  | .node nm qs :: ps => by
    have := szWs_len ps
    show ps.length + 1 ≤ (szWs qs + 1) + szWs ps
    omega
theorem spW_head : ∀ (w : Wk) (k : Nat), ∃ nm rest, spW w k = (nm, k, k + lvs w) :: rest
  | .node nm ps, k => ⟨nm, spWs ps k, by rw [spW, lvs]⟩
theorem take_snoc {ps : List Wk} {u : Nat} {p : Wk} (h : ps[u]? = some p) : ps.take (u + 1) = ps.take u ++ [p] := by
  rw [List.take_add_one, h]
  rfl
/-- a named span as data -/
def nmD (x : Named) : D := .tup [x.1, .int (x.2.1 : Nat), .int (x.2.2 : Nat)]
mutual
theorem spW_below : ∀ (w : Wk) (b : Nat), okW w = true → belows 0 ((spW w b).map nmD) = true
  | .node nm ps, b, h => by
    obtain ⟨h1, h2⟩ := Bool.and_eq_true_iff.mp (show (below 0 nm && okWs ps) = true from h)
    show ((below 0 nm && (true && (true && true))) && belows 0 ((spWs ps b).map nmD)) = true
    rw [h1, spWs_below ps b h2]; rfl
theorem spWs_below : ∀ (ps : List Wk) (b : Nat), okWs ps = true → belows 0 ((spWs ps b).map nmD) = true
  | [], _, _ => rfl
  | p :: ps, b, h => by
    obtain ⟨h1, h2⟩ := Bool.and_eq_true_iff.mp (show (okW p && okWs ps) = true from h)
    show belows 0 ((spW p b ++ spWs ps (b + lvs p)).map nmD) = true
    rw [List.map_append]
    refine belows_all fun d hd => ?_
    rcases List.mem_append.mp hd with hd | hd
    · exact below_of (spW_below p b h1) hd
    · exact below_of (spWs_below ps _ h2) hd
end
section
variable {G : Tab} {cal : Cal}
/-- a call that gives all, of a def with a default -/
theorem Ok_cD {f : String} {F : Fn} {ds : List D} {s : MS} {P : D → List Ob → Prop} {Q : D → MS → Prop} (hF : G.fn f = some F) (hd : F.dfl = [.non]) (hl : ds.length = F.ps.length) (h : Ok (cal f ds s.bs s.hp) P) (i : ∀ d hp, P d hp → Q d ⟨s.env, hp, s.bs⟩) : Ok (callWith G cal f ds [] [] s) Q := by
  unfold callWith
  rw [hF]
  have e : bindA F.ps F.dfl F.kwz ds [] [] = some [] := by
    unfold bindA
    rw [hd, hl]
    simp
  simp only [e, List.append_nil]
  obtain ⟨x, t, e, q⟩ := h.ex
  rw [e]
  exact i _ _ q
/-- a call that leaves the last out -/
theorem Ok_cN {f : String} {F : Fn} {ds : List D} {s : MS} {P : D → List Ob → Prop} {Q : D → MS → Prop} (hF : G.fn f = some F) (hd : F.dfl = [.non]) (hl : ds.length + 1 = F.ps.length) (h : Ok (cal f (ds ++ [.non]) s.bs s.hp) P) (i : ∀ d hp, P d hp → Q d ⟨s.env, hp, s.bs⟩) : Ok (callWith G cal f ds [] [] s) Q := by
  unfold callWith
  rw [hF]
  have e : bindA F.ps F.dfl F.kwz ds [] [] = some [.non] := by
    unfold bindA
    rw [hd, ← hl]
    simp
  simp only [e]
  obtain ⟨x, t, e, q⟩ := h.ex
  rw [e]
  exact i _ _ q
end
/-- a title as data -/
def optT : Option D → D
  | none => .non
  | some d => d
mutual
/-- the names of the leaves -/
def lvN : Wk → List D
  | .node nm ps => if ps.isEmpty then [nm] else lvNs ps
def lvNs : List Wk → List D
  | [] => []
  | p :: ps => lvN p ++ lvNs ps
end
theorem lvNs_app : ∀ a b : List Wk, lvNs (a ++ b) = lvNs a ++ lvNs b
  | [], b => rfl
  | p :: a, b => by
    show lvN p ++ lvNs (a ++ b) = (lvN p ++ lvNs a) ++ lvNs b
    rw [lvNs_app a b, List.append_assoc]
mutual
theorem lvN_len : ∀ w, (lvN w).length = lvs w
  | .node nm ps => by
    have h := lvNs_len ps
    rw [lvN, lvs]
    cases ps with
    | nil => rfl
    | cons p ps => exact h
theorem lvNs_len : ∀ ps, (lvNs ps).length = lvss ps
  | [] => rfl
  | p :: ps => by
    show (lvN p ++ lvNs ps).length = lvs p + lvss ps
    rw [List.length_append, lvN_len p, lvNs_len ps]
end
mutual
theorem lvs_sz : ∀ w, lvs w ≤ szW w
  | .node nm ps => by
    have h := lvss_sz ps
    rw [lvs, szW]
    cases ps with
    | nil => exact Nat.le_add_left _ _
    | cons p ps => exact Nat.le_succ_of_le h
theorem lvss_sz : ∀ ps, lvss ps ≤ szWs ps
  | [] => Nat.le_refl _
  | p :: ps => by
    have := lvs_sz p
    have := lvss_sz ps
    show lvs p + lvss ps ≤ szW p + szWs ps
    omega
end
mutual
theorem lvN_below : ∀ w, okW w = true → belows 0 (lvN w) = true
  | .node nm ps, h => by
    obtain ⟨h1, h2⟩ := Bool.and_eq_true_iff.mp (show (below 0 nm && okWs ps) = true from h)
    have k := lvNs_below ps h2
    rw [lvN]
    cases ps with
    | nil => show (below 0 nm && true) = true; rw [h1]; rfl
    | cons p ps => exact k
theorem lvNs_below : ∀ ps, okWs ps = true → belows 0 (lvNs ps) = true
  | [], _ => rfl
  | p :: ps, h => by
    obtain ⟨h1, h2⟩ := Bool.and_eq_true_iff.mp (show (okW p && okWs ps) = true from h)
    show belows 0 (lvN p ++ lvNs ps) = true
    refine belows_all fun d hd => ?_
    rcases List.mem_append.mp hd with hd | hd
    · exact below_of (lvN_below p h1) hd
    · exact below_of (lvNs_below ps h2) hd
end
theorem lvss_take : ∀ (ps : List Wk) (u : Nat), lvss (ps.take u) ≤ lvss ps
  | [], _ => by simp [lvss]
  | _ :: _, 0 => Nat.zero_le _
  | p :: ps, u + 1 => by
    have := lvss_take ps u
    show lvs p + lvss (ps.take u) ≤ lvs p + lvss ps
    omega
theorem lvss_mem : ∀ {ps : List Wk} {p : Wk}, p ∈ ps → lvs p ≤ lvss ps
  | e :: ps, p, k => by
    show lvs p ≤ lvs e + lvss ps
    rcases List.mem_cons.mp k with rfl | k
    · omega
    · have := lvss_mem k
      omega
/-! names of works -/
mutual
def allW : Wk → List D
  | .node nm ps => nm :: allWs ps
def allWs : List Wk → List D
  | [] => []
  | p :: ps => allW p ++ allWs ps
end
mutual
theorem spW_names : ∀ (w : Wk) (b : Nat), (spW w b).map (·.1) = allW w
  | .node nm ps, b => by
    show nm :: (spWs ps b).map (·.1) = nm :: allWs ps
    rw [spWs_names ps b]
theorem spWs_names : ∀ (ps : List Wk) (b : Nat), (spWs ps b).map (·.1) = allWs ps
  | [], _ => rfl
  | p :: ps, b => by
    show (spW p b ++ spWs ps (b + lvs p)).map (·.1) = allW p ++ allWs ps
    rw [List.map_append, spW_names p b, spWs_names ps _]
end
mutual
theorem allW_len : ∀ w, (allW w).length = szW w
  | .node nm ps => by
    show (allWs ps).length + 1 = szWs ps + 1
    rw [allWs_len ps]
theorem allWs_len : ∀ ps, (allWs ps).length = szWs ps
  | [] => rfl
  | p :: ps => by
    show (allW p ++ allWs ps).length = szW p + szWs ps
    rw [List.length_append, allW_len p, allWs_len ps]
end
theorem allWs_app : ∀ a b : List Wk, allWs (a ++ b) = allWs a ++ allWs b
  | [], b => rfl
  | p :: a, b => by
    show allW p ++ allWs (a ++ b) = (allW p ++ allWs a) ++ allWs b
    rw [allWs_app a b, List.append_assoc]
mutual
theorem okW_of : ∀ w, (∀ d ∈ allW w, below 0 d = true) → okW w = true
  | .node nm ps, h => by
    show (below 0 nm && okWs ps) = true
    rw [h nm List.mem_cons_self, okWs_of ps fun d hd => h d (List.mem_cons_of_mem _ hd)]
    rfl
theorem okWs_of : ∀ ps, (∀ d ∈ allWs ps, below 0 d = true) → okWs ps = true
  | [], _ => rfl
  | p :: ps, h => by
    show (okW p && okWs ps) = true
    rw [okW_of p fun d hd => h d (List.mem_append_left _ hd), okWs_of ps fun d hd => h d (List.mem_append_right _ hd)]
    rfl
end
theorem dpWs_snoc : ∀ (ps : List Wk) (p : Wk) (k : Nat), dpWs ps ≤ k → dpW p ≤ k → dpWs (ps ++ [p]) ≤ k
  | [], p, k, _, h => by
    show max (dpW p) 0 ≤ k
    omega
  | q :: ps, p, k, h1, h2 => by
    have h1 : max (dpW q) (dpWs ps) ≤ k := h1
    have := dpWs_snoc ps p k (by omega) h2
    show max (dpW q) (dpWs (ps ++ [p])) ≤ k
    omega
theorem szWs_app : ∀ a b : List Wk, szWs (a ++ b) = szWs a + szWs b
  | [], b => by show szWs b = 0 + szWs b; omega
  | p :: a, b => by
    show szW p + szWs (a ++ b) = szW p + szWs a + szWs b
    rw [szWs_app a b]
    omega
theorem datWs_app (a b : List Wk) : datWs (a ++ b) = datWs a ++ datWs b := by simp [datWs_map]
/-! a name: two texts -/
def IsNm (d : D) : Prop := ∃ a b, d = .tup [.str a, .str b]
theorem IsNm.ok {d : D} (h : IsNm d) : okD d = true := by obtain ⟨a, b, rfl⟩ := h; rfl
theorem IsNm.der {d : D} (h : IsNm d) (hp : List Ob) : deref d hp = d := by obtain ⟨a, b, rfl⟩ := h; rfl
theorem IsNm.below {d : D} (h : IsNm d) : below 0 d = true := by obtain ⟨a, b, rfl⟩ := h; rfl
theorem IsNm.non {d : D} (h : IsNm d) : isNon d = false := by obtain ⟨a, b, rfl⟩ := h; rfl
theorem IsNm.eq {d e : D} (h : IsNm d) (k : IsNm e) : eqD d e = true ↔ d = e := by
  obtain ⟨a, b, rfl⟩ := h
  obtain ⟨x, y, rfl⟩ := k
  show ((a == x) && ((b == y) && true)) = true ↔ _
  rw [Bool.and_true, Bool.and_eq_true, beq_iff_eq, beq_iff_eq]
  constructor
  · rintro ⟨rfl, rfl⟩; rfl
  · intro h
    injection h with h
    injection h with h1 h2
    injection h1 with h1
    injection h2 with h2
    injection h2 with h2
    exact ⟨h1, h2⟩
section
variable {G : Tab} {cal : Cal}
/-- a frame that makes objects which fall at its end -/
theorem run_gcX {F : Fn} {ds : List D} {bs : Nat} {hp : List Ob} {Q : D → List Ob → Prop} (hg : F.gc = true)
    (h : Ok (exB G cal F.body ⟨ds.map .val ++ List.replicate (F.ns - ds.length) .non, hp, hp.length⟩) fun f s => ∃ d, f = .ret d ∧ below 0 d = true ∧ Flat s.hp ∧ Q d (s.hp.take hp.length)) : Ok (runF G cal F ds bs hp) Q := by
  obtain ⟨f, s, e, d, rfl, hb, hf, q⟩ := h.ex
  unfold runF
  simp only [hg, if_true]
  rw [e]
  have e1 : frz hp.length s.hp 64 d = some d := by
    unfold frz
    rw [if_pos (below_mono (Nat.zero_le _) d hb)]
  have e2 : (s.hp.take bs).all (belowO bs) = true := by
    rw [List.all_eq_true]
    intro o ho
    exact belows_mono (Nat.zero_le _) _ (hf o (List.mem_of_mem_take ho))
  simp only [e1, e2, if_true]
  exact q
end
theorem Ok_fnX {G : Tab} {n : Nat} {f : String} {np ns : Nat} {body : List S} {ds : List D} {bs : Nat} {hp : List Ob} {Q : D → List Ob → Prop} (h : IsFn G f np ns body true) (hl : ds.length = np)
    (r : Ok (exB G (calN G n) body ⟨ds.map .val ++ List.replicate (ns - ds.length) .non, hp, hp.length⟩) fun f s => ∃ d, f = .ret d ∧ below 0 d = true ∧ Flat s.hp ∧ Q d (s.hp.take hp.length)) : Ok (calN G (n + 1) f ds bs hp) Q := by
  obtain ⟨F, e, e1, e2, e3, e4, e5⟩ := h
  refine Ok_calN e (by rw [hl, e1]) (run_gcX e5 ?_)
  rw [e3, e4]
  exact r
/-- all other objects stay -/
def Oth (i : Nat) (hp hp' : List Ob) : Prop := ∀ j, j ≠ i → hp'[j]? = hp[j]?
theorem Oth.rfl {i : Nat} {hp : List Ob} : Oth i hp hp := fun _ _ => by rfl
theorem Oth.trans {i : Nat} {a b c : List Ob} (h : Oth i a b) (k : Oth i b c) : Oth i a c := fun j hj => (k j hj).trans (h j hj)
/-- what take does, and what it leaves -/
def TakeOth (G : Tab) : Prop := ∀ {N i L : Nat} {m c : Int} {bs : Nat} {hp : List Ob}, 1 ≤ N → Hd i L c hp → 0 < m → m < 100000 → c < 2 ^ 40 →
  Ok (calN G N "_law_take" [.ref i, .int m] bs hp) fun d hp' => ∃ r, d = .int r ∧ 0 ≤ r ∧ r < m ∧ Hd i L (c + 1) hp' ∧ Oth i hp hp'
theorem oth_set {i : Nat} {hp : List Ob} {o : Ob} : Oth i hp (hp.set i o) := fun j hj => by rw [List.getElem?_set_ne (by omega)]
theorem oth_set2 {i : Nat} {hp : List Ob} {o p : Ob} : Oth i hp ((hp.set i o).set i p) := oth_set.trans oth_set
/-- one of a written list, and what stays -/
theorem c_pickO {G : Tab} {ns : Nat} {tb : List S} {gc : Bool} (T : TakeOth G) (hT : IsFn G "_law_take" 2 ns tb gc) (h : IsFn G "_law_pick" 2 2 pickB true)
    {N i L : Nat} {xs : List D} {c : Int} {hp : List Ob} {bs : Nat} (hN : 2 ≤ N) (H : Hd i L c hp) (hx : 0 < xs.length) (hx2 : xs.length < 100000) (hc : c < 2 ^ 40) (hb : belows 0 xs = true) :
    Ok (calN G N "_law_pick" [.ref i, .lst xs] bs hp) fun d hp' => d ∈ xs ∧ Hd i L (c + 1) hp' ∧ Oth i hp hp' := by
  obtain ⟨n, rfl⟩ : ∃ n, N = n + 1 := ⟨N - 1, by omega⟩
  refine Ok_fn h rfl ?_
  simp [pickB, exB, exS, evE, evEs, reDs, reD, deref, callBi, lenD, Ok_bind]
  refine Ok_c hT rfl (T (by omega) H (by omega) (by omega) hc) ?_
  rintro _ hp' ⟨r, rfl, r0, r1, hk, ho⟩
  have hr : r.toNat < xs.length := by omega
  simp [ixD, ixN_nat r0 r1, List.getElem?_eq_getElem hr, hk.len, H.len, hk.flat, hk, below_of hb, ho]
/-- one sign of a text -/
theorem c_pickS {G : Tab} {ns : Nat} {tb : List S} {gc : Bool} (T : TakeOk G) (hT : IsFn G "_law_take" 2 ns tb gc) (h : IsFn G "_law_pick" 2 2 pickB true)
    {N i L : Nat} {xs : List Nat} {c : Int} {hp : List Ob} {bs : Nat} (hN : 2 ≤ N) (H : Hd i L c hp) (hx : 0 < xs.length) (hx2 : xs.length < 100000) (hc : c < 2 ^ 40) :
    Ok (calN G N "_law_pick" [.ref i, .str xs] bs hp) fun d hp' => (∃ x ∈ xs, d = .str [x]) ∧ Hd i L (c + 1) hp' := by
  obtain ⟨n, rfl⟩ : ∃ n, N = n + 1 := ⟨N - 1, by omega⟩
  refine Ok_fn h rfl ?_
  simp [pickB, exB, exS, evE, evEs, reDs, reD, deref, callBi, lenD, Ok_bind]
  refine Ok_c hT rfl (T (by omega) H (by omega) (by omega) hc) ?_
  rintro _ hp' ⟨r, rfl, r0, r1, hk⟩
  have hr : r.toNat < xs.length := by omega
  simp [ixD, ixN_nat r0 r1, List.getElem?_eq_getElem hr, hk.len, H.len, hk.flat, hk, below]
theorem cut_take {α : Type} (xs : List α) (k : Nat) : cutL xs none (some (k : Int)) = xs.take k := by
  show (xs.drop 0).take (clampI xs.length (k : Int) - 0) = _
  have : clampI xs.length (k : Int) = min k xs.length := by
    unfold clampI
    rw [if_pos (by omega)]
    rfl
  rw [this, List.drop_zero, Nat.sub_zero, List.take_eq_take_min (i := k)]
theorem cut_drop {α : Type} (xs : List α) (k : Nat) : cutL xs (some (k : Int)) none = xs.drop k := by
  show (xs.drop (clampI xs.length (k : Int))).take (xs.length - clampI xs.length (k : Int)) = _
  have : clampI xs.length (k : Int) = min k xs.length := by
    unfold clampI
    rw [if_pos (by omega)]
    rfl
  rw [this, List.take_of_length_le (by rw [List.length_drop]; exact Nat.le_refl _)]
  rcases Nat.le_total k xs.length with h | h
  · rw [Nat.min_eq_left h]
  · rw [Nat.min_eq_right h, List.drop_length, List.drop_of_length_le h]
theorem sl_stake (s : List Nat) (k : Nat) : slcD (.str s) none (some (.int (k : Nat))) = some (.str (s.take k)) := congrArg (fun x => some (D.str x)) (cut_take s k)
theorem sl_sdrop (s : List Nat) (k : Nat) : slcD (.str s) (some (.int (k : Nat))) none = some (.str (s.drop k)) := congrArg (fun x => some (D.str x)) (cut_drop s k)
theorem sl_ltake (s : List D) (k : Nat) : slcD (.lst s) none (some (.int (k : Nat))) = some (.lst (s.take k)) := congrArg (fun x => some (D.lst x)) (cut_take s k)
theorem sl_ldrop (s : List D) (k : Nat) : slcD (.lst s) (some (.int (k : Nat))) none = some (.lst (s.drop k)) := congrArg (fun x => some (D.lst x)) (cut_drop s k)
theorem sl_ttake (s : List D) (k : Nat) : slcD (.tup s) none (some (.int (k : Nat))) = some (.tup (s.take k)) := congrArg (fun x => some (D.tup x)) (cut_take s k)
theorem sl_tdrop (s : List D) (k : Nat) : slcD (.tup s) (some (.int (k : Nat))) none = some (.tup (s.drop k)) := congrArg (fun x => some (D.tup x)) (cut_drop s k)
/-- signs, each alone -/
def sS (z : List Nat) : List D := z.map fun c => .str [c]
theorem sS_len (z : List Nat) : (sS z).length = z.length := List.length_map ..
theorem strs_sS : ∀ z, strsOf (sS z) = some (z.map fun c => [c])
  | [] => rfl
  | c :: z => by
    show (strsOf (sS z)).map ([c] :: ·) = _
    rw [strs_sS z]
    rfl
theorem sum_ones : ∀ z : List Nat, ((z.map fun c => [c]).map (·.length)).sum = z.length
  | [] => rfl
  | c :: z => by
    have := sum_ones z
    simp only [List.map_cons, List.sum_cons, List.length_cons, List.length_nil] at this ⊢
    omega
theorem join_sS {z : List Nat} (h : z.length ≤ 1000) : joinD (.str []) (sS z) = some (.str (joinL [] (z.map fun c => [c]))) := by
  unfold joinD
  rw [strs_sS]
  simp only []
  rw [if_pos]
  rw [sum_ones]
  simp
  omega
theorem eqS (x y : List Nat) : cmpD .eq (.str x) (.str y) = some (decide (x = y)) := by
  show (if (okD (.str x) && okD (.str y)) = true then some (eqD (.str x) (.str y)) else none) = _
  have : eqD (.str x) (.str y) = decide (x = y) := by
    show (x == y) = _
    rw [Bool.eq_iff_iff]; simp
  rw [this]
  rfl
theorem neS (x y : List Nat) : cmpD .ne (.str x) (.str y) = some (!decide (x = y)) := by
  show (if (okD (.str x) && okD (.str y)) = true then some (!eqD (.str x) (.str y)) else none) = _
  have : eqD (.str x) (.str y) = decide (x = y) := by
    show (x == y) = _
    rw [Bool.eq_iff_iff]; simp
  rw [this]
  rfl
theorem ix_last {s : List Nat} (h : 0 < s.length) : ∃ c, ixD (.str s) (.int (-1)) = some (.str [c]) := by
  have e : ixN s.length (-1) = some (s.length - 1) := by
    unfold ixN
    rw [if_neg (by decide), if_pos (by show 1 ≤ s.length; omega)]
    rfl
  refine ⟨s[s.length - 1], ?_⟩
  show (ixN s.length (-1)).bind (fun j => s[j]?.map fun c => D.str [c]) = _
  rw [e]
  show s[s.length - 1]?.map _ = _
  rw [List.getElem?_eq_getElem (by omega)]
  rfl
theorem Hd.set {i j L : Nat} {c : Int} {hp : List Ob} {o : Ob} (h : Hd i L c hp) (k : j ≠ i) (b : belowO 0 o = true) : Hd i L c (hp.set j o) := by
  obtain ⟨h1, h2, g, b', d, e, h3⟩ := h
  exact ⟨by simpa using h1, flat_set h2 b, g, b', d, by rw [List.getElem?_set_ne (by omega)]; exact e, h3⟩
theorem Hd.app {i L : Nat} {c : Int} {hp : List Ob} {o : Ob} (h : Hd i L c hp) (b : belowO 0 o = true) : Hd i (L + 1) c (hp ++ [o]) := by
  have hi := h.lt
  obtain ⟨h1, h2, g, b', d, e, h3⟩ := h
  exact ⟨by simp [h1], flat_app h2 b, g, b', d, by rw [List.getElem?_append_left (by omega)]; exact e, h3⟩
theorem Hd.tak {i L : Nat} {c : Int} {hp : List Ob} (h : Hd i (L + 1) c hp) (k : i < L) : Hd i L c (hp.take L) := by
  obtain ⟨h1, h2, g, b', d, e, h3⟩ := h
  exact ⟨by simp; omega, fun o ho => h2 o (List.mem_of_mem_take ho), g, b', d, by rw [List.getElem?_take, if_pos k]; exact e, h3⟩
theorem belows_app {n : Nat} {a b : List D} : belows n (a ++ b) = true ↔ belows n a = true ∧ belows n b = true := by
  constructor
  · intro h
    exact ⟨belows_all fun d hd => below_of h (List.mem_append_left _ hd), belows_all fun d hd => below_of h (List.mem_append_right _ hd)⟩
  · rintro ⟨h, k⟩
    refine belows_all fun d hd => ?_
    rcases List.mem_append.mp hd with hd | hd
    · exact below_of h hd
    · exact below_of k hd
mutual
theorem allW_below : ∀ w, okW w = true → belows 0 (allW w) = true
  | .node nm ps, h => by
    obtain ⟨h1, h2⟩ := Bool.and_eq_true_iff.mp (show (below 0 nm && okWs ps) = true from h)
    show (below 0 nm && belows 0 (allWs ps)) = true
    rw [h1, allWs_below ps h2]; rfl
theorem allWs_below : ∀ ps, okWs ps = true → belows 0 (allWs ps) = true
  | [], _ => rfl
  | p :: ps, h => by
    obtain ⟨h1, h2⟩ := Bool.and_eq_true_iff.mp (show (okW p && okWs ps) = true from h)
    exact belows_app.mpr ⟨allW_below p h1, allWs_below ps h2⟩
end
end Tw
end

section
set_option linter.all false
set_option autoImplicit false
set_option maxRecDepth 100000
set_option maxHeartbeats 4000000
/-! What a name is: the general parts of k13. -/
namespace Tw
/-- a test of one sign, as a comprehension tells it -/
def g1 (f : Nat → Bool) : D → Option D
  | .str [c] => some (.bl (f c))
  | _ => none
theorem fm1 (f : Nat → Bool) : ∀ s : List Nat, (s.map fun c => D.str [c]).filterMap (g1 f) = (s.map f).map .bl
  | [] => rfl
  | c :: s => by
    have ih := fm1 f s
    rw [List.map_cons, List.filterMap_cons]
    simp only [g1, ih, List.map_cons]
theorem fm1c (f : Nat → Bool) (s : List Nat) : List.filterMap (g1 f ∘ fun c => D.str [c]) s = (s.map f).map .bl := by
  rw [← List.filterMap_map]
  exact fm1 f s
theorem inD1 (c : Nat) (s : List Nat) : inD (.str [c]) (.str s) = some (decide (c ∈ s)) := by
  show some (s.contains c) = _
  rw [List.contains_eq_mem]
theorem in1 (c : Nat) (s : List Nat) : cmpD .inn (.str [c]) (.str s) = some (s.contains c) := rfl
theorem nin2 (s : List Nat) : cmpD .nin (.str [32, 32]) (.str s) = some (!partOf [32, 32] s) := rfl
theorem inn2 (s : List Nat) : cmpD .inn (.str [32, 32]) (.str s) = some (partOf [32, 32] s) := rfl
def lets : List Nat := [97, 98, 99, 100, 101, 102, 103, 104, 105, 106, 107, 108, 109, 110, 111, 112, 113, 114, 115, 116, 117, 118, 119, 120, 121, 122]
def sigs : List Nat := [97, 98, 99, 100, 101, 102, 103, 104, 105, 106, 107, 108, 109, 110, 111, 112, 113, 114, 115, 116, 117, 118, 119, 120, 121, 122, 65, 66, 67, 68, 69, 70, 71, 72, 73, 74, 75, 76, 77, 78, 79, 80, 81, 82, 83, 84, 85, 86, 87, 88, 89, 90, 48, 49, 50, 51, 52, 53, 54, 55, 56, 57, 32, 39, 45, 46]
def inL (l : List Nat) (c : Nat) : Bool := decide (c ∈ l)
/-- a short word of small letters -/
def wordB : D → Bool
  | .str s => decide (1 ≤ s.length) && (decide (s.length ≤ 8) && s.all (inL lets))
  | _ => false
/-- no space at the ends, no two together -/
def tidy (s : List Nat) : Bool := !(decide (s.head? = some 32)) && (!(decide (s.getLast? = some 32)) && !partOf [32, 32] s)
theorem tidy_cons (c : Nat) (s : List Nat) : tidy (c :: s) = (!decide (c = 32) && (!decide ((c :: s).getLast (by simp) = 32) && !partOf [32, 32] (c :: s))) := by
  unfold tidy
  rw [show (c :: s).getLast? = some ((c :: s).getLast (by simp)) from rfl]
  simp
def calledB : D → Bool
  | .str s => decide (1 ≤ s.length) && (decide (s.length ≤ 40) && (s.all (inL sigs) && tidy s))
  | _ => false
def lenB (a b : Nat) : D → Bool
  | .str s => decide (a ≤ s.length) && decide (s.length ≤ b)
  | _ => false
def nameB : D → Bool
  | .tup [x, y] => wordB x && (lenB 2 3 x && calledB y)
  | _ => false
theorem allBls_b : ∀ bs : List Bool, allBls (bs.map .bl) = some bs
  | [] => rfl
  | b :: bs => by
    show (allBls (bs.map .bl)).map (b :: ·) = _
    rw [allBls_b bs]
    rfl
theorem ix0 (c : Nat) (s : List Nat) : ixD (.str (c :: s)) (.int 0) = some (.str [c]) := rfl
theorem ixl (c : Nat) (s : List Nat) : ixD (.str (c :: s)) (.int (-1)) = some (.str [(c :: s).getLast (by simp)]) := by
  show (ixN (s.length + 1) (-1)).bind (fun j => (c :: s)[j]?.map fun c => D.str [c]) = _
  have : ixN (s.length + 1) (-1) = some s.length := by
    unfold ixN
    rw [if_neg (by decide)]
    split
    · congr 1
    · omega
  rw [this]
  show ((c :: s)[s.length]?).map _ = _
  have h := List.getLast_eq_getElem (l := c :: s) (by simp)
  rw [h]
  rw [List.getElem?_eq_getElem (by simp)]
  rfl
theorem strsOf1 : ∀ cs : List Nat, strsOf (cs.map fun c => D.str [c]) = some (cs.map fun c => [c])
  | [] => rfl
  | c :: cs => by
    show (strsOf (cs.map fun c => D.str [c])).map ([c] :: ·) = _
    rw [strsOf1 cs]
    rfl
theorem joinL1 : ∀ cs : List Nat, joinL [] (cs.map fun c => [c]) = cs
  | [] => rfl
  | [_] => rfl
  | c :: d :: cs => by
    have ih := joinL1 (d :: cs)
    show [c] ++ ([] ++ joinL [] ((d :: cs).map fun c => [c])) = _
    rw [ih]
    rfl
theorem ones : ∀ cs : List Nat, ((cs.map fun c => [c]).map (·.length)).sum = cs.length
  | [] => rfl
  | c :: cs => by
    have ih := ones cs
    show 1 + ((cs.map fun c => [c]).map (·.length)).sum = cs.length + 1
    omega
theorem join1 {cs : List Nat} (h : cs.length ≤ 16777216) : joinD (.str []) (cs.map fun c => D.str [c]) = some (.str cs) := by
  unfold joinD
  rw [strsOf1]
  show (if decide (((cs.map fun c => [c]).map (·.length)).sum + (cs.map fun c => [c]).length * 0 ≤ 16777216) then some (D.str (joinL [] (cs.map fun c => [c]))) else none) = _
  have e := ones cs
  rw [e, Nat.mul_zero, Nat.add_zero, decide_eq_true h, joinL1]
  rfl
/-- two spaces together -/
def dbl : List Nat → Bool
  | [] => false
  | [_] => false
  | a :: b :: r => (decide (a = 32) && decide (b = 32)) || dbl (b :: r)
theorem part_dbl : ∀ s : List Nat, partOf [32, 32] s = dbl s
  | [] => rfl
  | [a] => by
    show ((32 == a && false) || false) = false
    rw [Bool.and_false]
    rfl
  | a :: b :: r => by
    have ih := part_dbl (b :: r)
    show ((32 == a && (32 == b && true)) || partOf [32, 32] (b :: r)) = ((decide (a = 32) && decide (b = 32)) || dbl (b :: r))
    rw [ih, Bool.and_true]
    have h1 : (32 == a) = decide (a = 32) := by rw [Bool.eq_iff_iff]; simp; omega
    have h2 : (32 == b) = decide (b = 32) := by rw [Bool.eq_iff_iff]; simp; omega
    rw [h1, h2]
theorem dbl_snoc (c : Nat) : ∀ s : List Nat, dbl (s ++ [c]) = (dbl s || (decide (s.getLast? = some 32) && decide (c = 32)))
  | [] => by simp [dbl]
  | [a] => by simp [dbl]
  | a :: b :: r => by
    have ih := dbl_snoc c (b :: r)
    show ((decide (a = 32) && decide (b = 32)) || dbl (b :: r ++ [c])) = (((decide (a = 32) && decide (b = 32)) || dbl (b :: r)) || (decide ((a :: b :: r).getLast? = some 32) && decide (c = 32)))
    rw [ih, Bool.or_assoc, List.getLast?_cons_cons]
theorem dbl_left {b : List Nat} : ∀ {a : List Nat}, dbl (a ++ b) = false → dbl a = false
  | [], _ => rfl
  | [_], _ => rfl
  | x :: y :: a, h => by
    obtain ⟨h1, h2⟩ := Bool.or_eq_false_iff.mp (show ((decide (x = 32) && decide (y = 32)) || dbl (y :: a ++ b)) = false from h)
    show ((decide (x = 32) && decide (y = 32)) || dbl (y :: a)) = false
    rw [h1, dbl_left (a := y :: a) h2]
    rfl
theorem dbl_right {b : List Nat} : ∀ {a : List Nat}, dbl (a ++ b) = false → dbl b = false
  | [], h => h
  | [x], h => by
    cases b with
    | nil => rfl
    | cons y r => exact (Bool.or_eq_false_iff.mp (show ((decide (x = 32) && decide (y = 32)) || dbl (y :: r)) = false from h)).2
  | x :: y :: a, h => dbl_right (a := y :: a) (Bool.or_eq_false_iff.mp (show ((decide (x = 32) && decide (y = 32)) || dbl (y :: a ++ b)) = false from h)).2
theorem dbl_mid {l : Nat} (hl : l ≠ 32) {b : List Nat} (hb : dbl b = false) : ∀ {a : List Nat}, dbl a = false → dbl (a ++ l :: b) = false
  | [], _ => by
    cases b with
    | nil => rfl
    | cons y r =>
      show ((decide (l = 32) && decide (y = 32)) || dbl (y :: r)) = false
      rw [hb, decide_eq_false hl]
      rfl
  | [x], _ => by
    show ((decide (x = 32) && decide (l = 32)) || dbl (l :: b)) = false
    have := dbl_mid hl hb (a := []) rfl
    rw [decide_eq_false hl, Bool.and_false, Bool.false_or]
    exact this
  | x :: y :: a, h => by
    obtain ⟨h1, h2⟩ := Bool.or_eq_false_iff.mp (show ((decide (x = 32) && decide (y = 32)) || dbl (y :: a)) = false from h)
    show ((decide (x = 32) && decide (y = 32)) || dbl (y :: a ++ l :: b)) = false
    rw [h1, dbl_mid hl hb h2]
    rfl
theorem tidy_iff (s : List Nat) : tidy s = true ↔ s.head? ≠ some 32 ∧ s.getLast? ≠ some 32 ∧ dbl s = false := by
  unfold tidy
  rw [part_dbl]
  simp
/-- a stem: tidy, of the signs -/
def Stem (s : List Nat) : Prop := s.all (inL sigs) = true ∧ tidy s = true
theorem stem_ins {s : List Nat} {l k : Nat} (h : Stem s) (hl : inL sigs l = true) (hn : l ≠ 32) : Stem (s.take k ++ [l] ++ s.drop k) := by
  obtain ⟨h1, h2⟩ := h
  obtain ⟨t1, t2, t3⟩ := (tidy_iff s).mp h2
  refine ⟨?_, (tidy_iff _).mpr ⟨?_, ?_, ?_⟩⟩
  · rw [List.all_append, List.all_append]
    rw [List.all_eq_true] at h1
    simp only [Bool.and_eq_true, List.all_eq_true]
    exact ⟨⟨fun x hx => h1 x (List.mem_of_mem_take hx), fun x hx => by rw [List.mem_singleton.mp hx]; exact hl⟩, fun x hx => h1 x (List.mem_of_mem_drop hx)⟩
  · cases s with
    | nil => simpa using hn
    | cons c s =>
      cases k with
      | zero => simpa using hn
      | succ k => simpa using t1
  · intro e
    rw [List.getLast?_append] at e
    cases hd : (s.drop k).getLast? with
    | none =>
      rw [hd] at e
      simp at e
      exact hn e
    | some z =>
      rw [hd] at e
      simp at e
      subst e
      apply t2
      rw [← List.take_append_drop k s, List.getLast?_append, hd]
      rfl
  · have e : s.take k ++ [l] ++ s.drop k = s.take k ++ l :: s.drop k := by simp
    rw [e]
    have es : s = s.take k ++ s.drop k := (List.take_append_drop k s).symm
    rw [es] at t3
    exact dbl_mid hn (dbl_right t3) (dbl_left t3)
end Tw
end

section
set_option linter.all false
set_option autoImplicit false
set_option maxRecDepth 100000
set_option maxHeartbeats 4000000
/-! Days. -/
namespace Tw
def monthsD : List D := [.int 31, .int 28, .int 31, .int 30, .int 31, .int 30, .int 31, .int 31, .int 30, .int 31, .int 30, .int 31]
def whB : List S := [.ret (.and (.isi (.sl 0) [.int]) (.not (.isi (.sl 0) [.bool])))]
def btB : List S := [.ret (.and (.call "is_whole" [.sl 0] [] []) (.cmp2 .le .le (.sl 1) (.sl 0) (.sl 2)))]
def lyB : List S := [.ife (.cmp .eq (.bin .mod (.sl 0) (.int 100)) (.int 0)) [.ret (.cmp .eq (.bin .mod (.sl 0) (.int 400)) (.int 0))] [],
  .ret (.cmp .eq (.bin .mod (.sl 0) (.int 4)) (.int 0))]
def diB : List S := [.ret (.bin .add (.ix (.gl "MONTHS") (.bin .sub (.sl 1) (.int 1))) (.bi .int [.and (.cmp .eq (.sl 1) (.int 2)) (.call "is_long_year" [.sl 0] [] [])]))]
def apB : List S := [.ife (.not (.call "is_between" [.sl 0, .int 1, .gl "MOST_YEAR"] [] [])) [.ret (.bl false)] [],
  .ife (.cmp .is (.sl 1) (.non)) [.ret (.cmp .is (.sl 2) (.non))] [],
  .ife (.not (.call "is_between" [.sl 1, .int 1, .bi .len [.gl "MONTHS"]] [] [])) [.ret (.bl false)] [],
  .ret (.or (.cmp .is (.sl 2) (.non)) (.call "is_between" [.sl 2, .int 1, .call "days_in" [.sl 0, .sl 1] [] []] [] []))]
def dayB : List S := [.slf "Day", .ife (.not (.call "are_parts" [.sl 1, .sl 2, .sl 3] [] [])) [.raise "NoDay" [.sl 1, .sl 2, .sl 3]] [],
  .setf (.pk 0) "year" (.sl 1),
  .setf (.pk 0) "month" (.sl 2),
  .setf (.pk 0) "day" (.sl 3), .ret (.sl 0)]
def poB : List S := [.ret (.tup [.fld (.sl 0) "year", .fld (.sl 0) "month", .fld (.sl 0) "day"])]
/-- the table has days -/
structure DayT (G : Tab) : Prop where
  wh : IsFn G "is_whole" 1 1 whB true
  bt : IsFn G "is_between" 3 3 btB true
  ly : IsFn G "is_long_year" 1 1 lyB true
  di : IsFn G "days_in" 2 2 diB true
  ap : IsFn G "are_parts" 3 3 apB true
  dy : ∃ F, G.fn "Day" = some F ∧ F.ps = ["self", "year", "month", "day"] ∧ F.dfl = [.non, .non] ∧ F.ns = 4 ∧ F.body = dayB ∧ F.gc = true ∧ F.kd = .ini ["year", "month", "day"]
  po : IsFn G "parts_of" 1 1 poB true
  mo : G.consts.lookup "MONTHS" = some (.tup monthsD)
  my : G.consts.lookup "MOST_YEAR" = some (.int 9999)
@[simp] theorem reD_fld (o : E) (f : String) (d : D) (s : MS) : reD (.fld o f) d s = deref d s.hp := rfl
@[simp] theorem deref_obj (c : String) (fs : List String) (vs : List D) (hp : List Ob) : deref (.obj c fs vs) hp = .obj c fs vs := rfl
section
variable {G : Tab}
/-- a call of what tells one thing and leaves all -/
theorem cw {n : Nat} {f : String} {np ns : Nat} {body : List S} {gc : Bool} {ds : List D} {hp : List Ob} {v : D} (h : IsFn G f np ns body gc) (hl : ds.length = np) (k : ∀ bs, calN G n f ds bs hp = .ok v hp) (env : List Slt) (b : Nat) : callWith G (calN G n) f ds [] [] ⟨env, hp, b⟩ = .ok v ⟨env, hp, b⟩ := by
  rw [callI h _ _ hl, k]
theorem fn_same {n : Nat} {f : String} {np ns : Nat} {body : List S} {ds : List D} {bs : Nat} {hp : List Ob} {d : D} (h : IsFn G f np ns body true) (hl : ds.length = np) (hf : Flat hp) (hb : below 0 d = true)
    (r : Ok (exB G (calN G n) body ⟨ds.map .val ++ List.replicate (ns - ds.length) .non, hp, hp.length⟩) fun f s => f = .ret d ∧ s.hp = hp) : calN G (n + 1) f ds bs hp = .ok d hp := by
  obtain ⟨F, e, e1, e2, e3, e4, e5⟩ := h
  refine calN_same e (by rw [hl, e1]) (run_same e5 hf hb ?_)
  rw [e3, e4]
  exact r
theorem c_wh (T : DayT G) {n : Nat} {i : Int} {bs : Nat} {hp : List Ob} (hf : Flat hp) : calN G (n + 1) "is_whole" [.int i] bs hp = .ok (.bl true) hp := by
  refine fn_same T.wh rfl hf rfl ?_
  unfold whB
  refine W_seq ?_
  simp [isCls, isCl]
theorem c_bt (T : DayT G) {n : Nat} {i a b : Int} {bs : Nat} {hp : List Ob} (hf : Flat hp) : calN G (n + 2) "is_between" [.int i, .int a, .int b] bs hp = .ok (.bl (decide (a ≤ i) && decide (i ≤ b))) hp := by
  refine fn_same T.bt rfl hf rfl ?_
  unfold btB
  refine W_seq ?_
  simp [cw T.wh rfl (fun bs => c_wh T (n := n) (i := i) (bs := bs) hf)]
  by_cases h : i < a
  · have : ¬ a ≤ i := by omega
    simp [h, this]
  · have : a ≤ i := by omega
    simp [h, this]
    by_cases h2 : b < i
    · have : ¬ i ≤ b := by omega
      simp [h2, this]
    · have : i ≤ b := by omega
      simp [h2, this]
def leap (y : Int) : Bool := if y % 100 = 0 then decide (y % 400 = 0) else decide (y % 4 = 0)
theorem c_ly (T : DayT G) {n : Nat} {y : Int} {bs : Nat} {hp : List Ob} (hf : Flat hp) : calN G (n + 1) "is_long_year" [.int y] bs hp = .ok (.bl (leap y)) hp := by
  refine fn_same T.ly rfl hf rfl ?_
  unfold lyB
  refine W_seq ?_
  simp
  unfold leap
  by_cases h : y % 100 = 0
  · simp [h]
    refine W_seq ?_
    simp [h]
    rfl
  · simp [h]
    refine W_seq ?_
    simp [h]
    rfl
/-- how many days a month has -/
def dim (y m : Int) : Int := if m = 2 then (if leap y then 29 else 28) else if m = 4 ∨ m = 6 ∨ m = 9 ∨ m = 11 then 30 else 31
theorem c_di (T : DayT G) {n : Nat} {y m : Int} {bs : Nat} {hp : List Ob} (hf : Flat hp) (h1 : 1 ≤ m) (h2 : m ≤ 12) : calN G (n + 2) "days_in" [.int y, .int m] bs hp = .ok (.int (dim y m)) hp := by
  refine fn_same T.di rfl hf rfl ?_
  unfold diB
  refine W_seq ?_
  have hm : m = 1 ∨ m = 2 ∨ m = 3 ∨ m = 4 ∨ m = 5 ∨ m = 6 ∨ m = 7 ∨ m = 8 ∨ m = 9 ∨ m = 10 ∨ m = 11 ∨ m = 12 := by omega
  rcases hm with rfl | rfl | rfl | rfl | rfl | rfl | rfl | rfl | rfl | rfl | rfl | rfl
  all_goals simp [T.mo, cw T.ly rfl (fun bs => c_ly T (n := n) (y := y) (bs := bs) hf), ixD, ixN, monthsD, dim]
  all_goals (cases leap y <;> simp)
def optI : Option Int → D
  | none => .non
  | some i => .int i
@[simp] theorem optI_none : optI none = .non := rfl
@[simp] theorem optI_some (i : Int) : optI (some i) = .int i := rfl
theorem optI_below (o : Option Int) : below 0 (optI o) = true := by cases o <;> rfl
/-- parts of a day -/
def okP (y : Int) (m d : Option Int) : Prop := 1 ≤ y ∧ y ≤ 9999 ∧ (match m with
  | none => d = none
  | some m => 1 ≤ m ∧ m ≤ 12 ∧ (match d with
    | none => True
    | some d => 1 ≤ d ∧ d ≤ dim y m))
def dyD (y : Int) (m d : Option Int) : D := .obj "Day" ["year", "month", "day"] [.int y, optI m, optI d]
def ptD (y : Int) (m d : Option Int) : D := .tup [.int y, optI m, optI d]
theorem c_ap (T : DayT G) {n : Nat} {y : Int} {m d : Option Int} {bs : Nat} {hp : List Ob} (hf : Flat hp) (h : okP y m d) : calN G (n + 3) "are_parts" [.int y, optI m, optI d] bs hp = .ok (.bl true) hp := by
  refine fn_same T.ap rfl hf rfl ?_
  obtain ⟨h1, h2, h3⟩ := h
  unfold apB
  refine W_seq ?_
  simp [T.my, cw T.bt rfl (fun bs => c_bt T (n := n) (i := y) (a := 1) (b := 9999) (bs := bs) hf), h1, h2]
  refine W_seq ?_
  simp
  cases m with
  | none =>
    subst h3
    simp [isD]
    refine W_seq ?_
    simp [isD]
  | some m =>
    obtain ⟨h3, h4, h5⟩ := h3
    simp [isD]
    refine W_seq ?_
    simp [T.mo, monthsD, cw T.bt rfl (fun bs => c_bt T (n := n) (i := m) (a := 1) (b := 12) (bs := bs) hf), h3, h4]
    refine W_seq ?_
    simp
    cases d with
    | none => simp [isD]
    | some d =>
      obtain ⟨h5, h6⟩ := h5
      simp [isD, cw T.di rfl (fun bs => c_di T (n := n) (y := y) (m := m) (bs := bs) hf h3 h4), cw T.bt rfl (fun bs => c_bt T (n := n) (i := d) (a := 1) (b := dim y m) (bs := bs) hf), h5, h6]
theorem okF_day (T : DayT G) : okF G "Day" "year" = true ∧ okF G "Day" "month" = true ∧ okF G "Day" "day" = true ∧ okC G "Day" = true := by
  obtain ⟨F, e, _, _, _, _, _, k⟩ := T.dy
  refine ⟨?_, ?_, ?_, ?_⟩ <;> (first | unfold okF | unfold okC) <;> simp only [e, k] <;> decide
theorem c_day (T : DayT G) {n : Nat} {y : Int} {m d : Option Int} {bs : Nat} {hp : List Ob} (hf : Flat hp) (h : okP y m d) : calN G (n + 4) "Day" [.non, .int y, optI m, optI d] bs hp = .ok (dyD y m d) hp := by
  obtain ⟨F, e, e1, e2, e3, e4, e5, e6⟩ := T.dy
  obtain ⟨o1, o2, o3, _⟩ := okF_day T
  refine calN_same e (by rw [e1]; rfl) (run_same e5 hf (by unfold dyD; simp [below, belows, optI_below]) ?_)
  rw [e3, e4]
  unfold dayB
  refine W_seq ?_
  simp
  refine W_seq ?_
  simp [cw T.ap rfl (fun bs => c_ap T (n := n) (y := y) (m := m) (d := d) (bs := bs) hf h)]
  refine W_seq ?_
  simp [o1]
  refine W_seq ?_
  simp [o2]
  refine W_seq ?_
  simp [o3]
  refine W_seq ?_
  simp [dyD]
theorem k_day (T : DayT G) {n : Nat} {y : Int} {m d : Option Int} {hp : List Ob} (hf : Flat hp) (h : okP y m d) (env : List Slt) (b : Nat) : callWith G (calN G (n + 4)) "Day" [.non, .int y, optI m, optI d] [] [] ⟨env, hp, b⟩ = .ok (dyD y m d) ⟨env, hp, b⟩ := by
  obtain ⟨F, e, e1, e2, e3, e4, e5, e6⟩ := T.dy
  unfold callWith
  simp [e, bindA, e1, e2, c_day T hf h]
theorem k_dayK (T : DayT G) (hk : ∀ F, G.fn "Day" = some F → F.kwz.contains (2, ["month", "day"]) = true) {n : Nat} {y : Int} {m d : Option Int} {hp : List Ob} (hf : Flat hp) (h : okP y m d) (env : List Slt) (b : Nat) :
    callWith G (calN G (n + 4)) "Day" [.non, .int y] ["month", "day"] [optI m, optI d] ⟨env, hp, b⟩ = .ok (dyD y m d) ⟨env, hp, b⟩ := by
  obtain ⟨F, e, e1, e2, e3, e4, e5, e6⟩ := T.dy
  have := hk F e
  unfold callWith
  simp only [e, bindA, e1, e2]
  simp only [List.isEmpty_cons, Bool.false_eq_true, if_false, List.length_cons, List.length_nil]
  rw [if_pos (by simpa using this)]
  simp [kwRest, List.lookup, c_day T hf h]
theorem c_po (T : DayT G) {n : Nat} {y : Int} {m d : Option Int} {bs : Nat} {hp : List Ob} (hf : Flat hp) : calN G (n + 1) "parts_of" [dyD y m d] bs hp = .ok (ptD y m d) hp := by
  obtain ⟨o1, o2, o3, _⟩ := okF_day T
  refine fn_same T.po rfl hf (by unfold ptD; simp [below, belows, optI_below]) ?_
  unfold poB
  refine W_seq ?_
  simp [dyD, fldD, o1, o2, o3, List.lookup, ptD]
end
end Tw
end

section
set_option linter.all false
set_option maxRecDepth 100000
set_option maxHeartbeats 4000000
namespace Tw
/-- the first, the last full day's parts -/
def ear (m : Option Int) : Int := m.getD 1
def lam (m : Option Int) : Int := m.getD 12
def lad (y : Int) (m d : Option Int) : Int := d.getD (dim y (lam m))
theorem dim_pos (y m : Int) : 28 ≤ dim y m ∧ dim y m ≤ 31 := by
  unfold dim
  split
  · split <;> omega
  · split <;> omega
theorem okP_ear {y : Int} {m d : Option Int} (h : okP y m d) : okP y (some (ear m)) (some (ear d)) := by
  obtain ⟨h1, h2, h3⟩ := h
  refine ⟨h1, h2, ?_⟩
  cases m with
  | none =>
    subst h3
    have := dim_pos y 1
    exact ⟨by decide, by decide, by decide, by show (1 : Int) ≤ dim y 1; omega⟩
  | some m =>
    obtain ⟨h3, h4, h5⟩ := h3
    cases d with
    | none =>
      have := dim_pos y m
      exact ⟨h3, h4, by decide, by show (1 : Int) ≤ dim y m; omega⟩
    | some d => exact ⟨h3, h4, h5⟩
theorem okP_late {y : Int} {m d : Option Int} (h : okP y m d) : okP y (some (lam m)) (some (lad y m d)) := by
  obtain ⟨h1, h2, h3⟩ := h
  refine ⟨h1, h2, ?_⟩
  cases m with
  | none =>
    subst h3
    have := dim_pos y 12
    exact ⟨by decide, by decide, by show (1 : Int) ≤ dim y 12; omega, Int.le_refl _⟩
  | some m =>
    obtain ⟨h3, h4, h5⟩ := h3
    cases d with
    | none =>
      have := dim_pos y m
      exact ⟨h3, h4, by show (1 : Int) ≤ dim y m; omega, Int.le_refl _⟩
    | some d => exact ⟨h3, h4, h5⟩
/-- not said otherwise -/
def cmp1 (a b : Option Int) : Bool := match a, b with
  | some x, some y => x == y
  | _, _ => true
def mayL (y : Int) (m d : Option Int) (y' : Int) (m' d' : Option Int) : List (Option Int × Option Int) := [(some y, some y'), (m, m'), (d, d')]
def mayB (y : Int) (m d : Option Int) (y' : Int) (m' d' : Option Int) : Bool := (mayL y m d y' m' d').all fun p => cmp1 p.1 p.2
theorem okP_m {y m : Int} {d : Option Int} (h : okP y (some m) d) : m ≠ 0 := by
  obtain ⟨_, _, h3, _⟩ := h
  omega
theorem okP_d {y : Int} {m : Option Int} {d : Int} (h : okP y m (some d)) : d ≠ 0 := by
  obtain ⟨_, _, h3⟩ := h
  cases m with
  | none => cases h3
  | some m =>
    obtain ⟨_, _, h5, _⟩ := h3
    omega
end Tw
namespace Tw.K03
open Tw
theorem T : DayT G := ⟨⟨_, rfl, rfl, rfl, rfl, rfl, rfl⟩, ⟨_, rfl, rfl, rfl, rfl, rfl, rfl⟩, ⟨_, rfl, rfl, rfl, rfl, rfl, rfl⟩, ⟨_, rfl, rfl, rfl, rfl, rfl, rfl⟩, ⟨_, rfl, rfl, rfl, rfl, rfl, rfl⟩, ⟨_, rfl, rfl, rfl, rfl, rfl, rfl, rfl⟩, ⟨_, rfl, rfl, rfl, rfl, rfl, rfl⟩, rfl, rfl⟩
theorem hk : ∀ F, G.fn "Day" = some F → F.kwz.contains (2, ["month", "day"]) = true := fun F e => by
  cases e
  rfl
theorem if_ear : IsFn G "earliest" 1 1 F_earliest.body true := ⟨_, rfl, rfl, rfl, rfl, rfl, rfl⟩
theorem if_late : IsFn G "latest" 1 2 F_latest.body true := ⟨_, rfl, rfl, rfl, rfl, rfl, rfl⟩
theorem if_may : IsFn G "may_be" 2 4 F_may_be.body true := ⟨_, rfl, rfl, rfl, rfl, rfl, rfl⟩
theorem dyD_below (y : Int) (m d : Option Int) : below 0 (dyD y m d) = true := by unfold dyD; simp [below, belows, optI_below]
theorem c_ear {n : Nat} {y : Int} {m d : Option Int} {bs : Nat} {hp : List Ob} (hf : Flat hp) (h : okP y m d) : calN G (n + 5) "earliest" [dyD y m d] bs hp = .ok (dyD y (some (ear m)) (some (ear d))) hp := by
  obtain ⟨o1, o2, o3, _⟩ := okF_day T
  refine fn_same if_ear rfl hf (dyD_below _ _ _) ?_
  rw [F_earliest]
  refine W_seq ?_
  have k := fun env b => k_dayK T hk (n := n) hf (okP_ear h) env b
  cases m with
  | none =>
    cases d with
    | none =>
      have k1 : ∀ env b, callWith G (calN G (n + 4)) "Day" [.non, .int y] ["month", "day"] [.int 1, .int 1] ⟨env, hp, b⟩ = .ok (dyD y (some 1) (some 1)) ⟨env, hp, b⟩ := k
      simp [dyD, fldD, o1, o2, o3, List.lookup] at k1 ⊢
      simp [k1, ear]
    | some d => cases h.2.2
  | some m =>
    have m0 := okP_m h
    cases d with
    | none =>
      have k1 : ∀ env b, callWith G (calN G (n + 4)) "Day" [.non, .int y] ["month", "day"] [.int m, .int 1] ⟨env, hp, b⟩ = .ok (dyD y (some m) (some 1)) ⟨env, hp, b⟩ := k
      simp [dyD, fldD, o1, o2, o3, List.lookup, m0] at k1 ⊢
      simp [k1, ear]
    | some d =>
      have d0 := okP_d h
      have k1 : ∀ env b, callWith G (calN G (n + 4)) "Day" [.non, .int y] ["month", "day"] [.int m, .int d] ⟨env, hp, b⟩ = .ok (dyD y (some m) (some d)) ⟨env, hp, b⟩ := k
      simp [dyD, fldD, o1, o2, o3, List.lookup, m0, d0] at k1 ⊢
      simp [k1, ear]
theorem c_late {n : Nat} {y : Int} {m d : Option Int} {bs : Nat} {hp : List Ob} (hf : Flat hp) (h : okP y m d) : calN G (n + 5) "latest" [dyD y m d] bs hp = .ok (dyD y (some (lam m)) (some (lad y m d))) hp := by
  obtain ⟨o1, o2, o3, _⟩ := okF_day T
  refine fn_same if_late rfl hf (dyD_below _ _ _) ?_
  rw [F_latest]
  refine W_seq ?_
  have k := fun env b => k_dayK T hk (n := n) hf (okP_late h) env b
  have hlm : 1 ≤ lam m ∧ lam m ≤ 12 := ⟨(okP_late h).2.2.1, (okP_late h).2.2.2.1⟩
  have kd := cw T.di rfl (fun bs => c_di T (n := n + 2) (y := y) (m := lam m) (bs := bs) hf hlm.1 hlm.2)
  cases m with
  | none =>
    cases d with
    | none =>
      have k1 : ∀ env b, callWith G (calN G (n + 4)) "Day" [.non, .int y] ["month", "day"] [.int 12, .int (dim y 12)] ⟨env, hp, b⟩ = .ok (dyD y (some 12) (some (dim y 12))) ⟨env, hp, b⟩ := k
      have kd1 : ∀ env b, callWith G (calN G (n + 4)) "days_in" [.int y, .int 12] [] [] ⟨env, hp, b⟩ = .ok (.int (dim y 12)) ⟨env, hp, b⟩ := kd
      simp [dyD, fldD, o1, o2, o3, List.lookup, T.mo, monthsD] at k1 ⊢
      refine W_seq ?_
      simp [fldD, o1, o2, o3, List.lookup, k1, kd1, lam, lad]
    | some d => cases h.2.2
  | some m =>
    have m0 := okP_m h
    cases d with
    | none =>
      have k1 : ∀ env b, callWith G (calN G (n + 4)) "Day" [.non, .int y] ["month", "day"] [.int m, .int (dim y m)] ⟨env, hp, b⟩ = .ok (dyD y (some m) (some (dim y m))) ⟨env, hp, b⟩ := k
      have kd1 : ∀ env b, callWith G (calN G (n + 4)) "days_in" [.int y, .int m] [] [] ⟨env, hp, b⟩ = .ok (.int (dim y m)) ⟨env, hp, b⟩ := kd
      simp [dyD, fldD, o1, o2, o3, List.lookup, m0] at k1 ⊢
      refine W_seq ?_
      simp [fldD, o1, o2, o3, List.lookup, k1, kd1, lam, lad]
    | some d =>
      have d0 := okP_d h
      have k1 : ∀ env b, callWith G (calN G (n + 4)) "Day" [.non, .int y] ["month", "day"] [.int m, .int d] ⟨env, hp, b⟩ = .ok (dyD y (some m) (some d)) ⟨env, hp, b⟩ := k
      simp [dyD, fldD, o1, o2, o3, List.lookup, m0] at k1 ⊢
      refine W_seq ?_
      simp [fldD, o1, o2, o3, List.lookup, d0, k1, lam, lad]
theorem c_may {n : Nat} {y y' : Int} {m d m' d' : Option Int} {bs : Nat} {hp : List Ob} (hf : Flat hp) : calN G (n + 2) "may_be" [dyD y m d, dyD y' m' d'] bs hp = .ok (.bl (mayB y m d y' m' d')) hp := by
  refine fn_same if_may rfl hf rfl ?_
  rw [F_may_be]
  refine W_for ?_
  simp [cw T.po rfl (fun bs => c_po T (n := n) (y := y) (m := m) (d := d) (bs := bs) hf), cw T.po rfl (fun bs => c_po T (n := n) (y := y') (m := m') (d := d') (bs := bs) hf), itemsOf, ptD, seqD, zipD]
  have hxs : [D.tup [D.int y, D.int y'], D.tup [optI m, optI m'], D.tup [optI d, optI d']] = (mayL y m d y' m' d').map fun p => .tup [optI p.1, optI p.2] := rfl
  rw [hxs]
  have hl : (mayL y m d y' m' d').length = 3 := rfl
  have hm : mayB y m d y' m' d' = (mayL y m d y' m' d').all fun p => cmp1 p.1 p.2 := rfl
  generalize mayL y m d y' m' d' = l at *
  refine ⟨fun u s => (∃ a b, s = ⟨[.val (dyD y m d), .val (dyD y' m' d'), a, b], hp, hp.length⟩) ∧ (l.take u).all (fun p => cmp1 p.1 p.2) = true, ⟨⟨_, _, rfl⟩, by simp⟩, ?_, ?_⟩
  · rintro u x _ hx ⟨⟨a, b, rfl⟩, hu⟩
    rw [List.getElem?_map] at hx
    obtain ⟨⟨p, q⟩, hp1, rfl⟩ := Option.map_eq_some_iff.mp hx
    have ht : l.take (u + 1) = l.take u ++ [(p, q)] := by rw [List.take_add_one, hp1]; rfl
    simp
    refine W_seq ?_
    simp
    have bad : cmp1 p q = false → mayB y m d y' m' d' = false := fun h => by
      rw [hm, List.all_eq_false]
      exact ⟨_, List.mem_of_getElem? hp1, by simp [h]⟩
    have good : cmp1 p q = true → (l.take (u + 1)).all (fun p => cmp1 p.1 p.2) = true := fun h => by
      rw [ht, List.all_append, hu]
      simp [h]
    cases p with
    | none => simpa [isD] using good rfl
    | some p =>
      cases q with
      | none => simpa [isD] using good rfl
      | some q =>
        by_cases e : p = q
        · subst e
          have := good (by simp [cmp1])
          simpa [isD] using this
        · have := bad (by simp [cmp1, e])
          simp [isD, e]
          refine W_seq ?_
          simp [this]
  · rintro s ⟨⟨a, b, rfl⟩, hu⟩
    refine W_seq ?_
    rw [← hl, List.take_length] at hu
    simp [hm, hu]
end Tw.K03
end

section
set_option linter.all false
set_option maxRecDepth 100000
set_option maxHeartbeats 4000000
namespace Tw.K03
open Tw
theorem if_take : IsFn G "_law_take" 2 4 takeB true := ⟨_, rfl, rfl, rfl, rfl, rfl, rfl⟩
theorem if_pick : IsFn G "_law_pick" 2 2 pickB true := ⟨_, rfl, rfl, rfl, rfl, rfl, rfl⟩
theorem dr : Dr G := ⟨c_take if_take, ⟨_, _, _, if_take⟩, if_pick⟩
theorem if_last : IsFn G "_law_last" 2 4 F__law_last.body true := ⟨_, rfl, rfl, rfl, rfl, rfl, rfl⟩
theorem if_of : IsFn G "_law_of" 1 1 F__law_of.body true := ⟨_, rfl, rfl, rfl, rfl, rfl, rfl⟩
theorem if_told : IsFn G "_law_told" 1 1 F__law_told.body true := ⟨_, rfl, rfl, rfl, rfl, rfl, rfl⟩
theorem if_ends : IsFn G "_law_ends" 1 6 F__law_ends.body true := ⟨_, rfl, rfl, rfl, rfl, rfl, rfl⟩
theorem if_lmay : IsFn G "_law_may" 2 4 F__law_may.body true := ⟨_, rfl, rfl, rfl, rfl, rfl, rfl⟩
theorem if_parts : IsFn G "_law_parts" 1 7 F__law_parts.body true := ⟨_, rfl, rfl, rfl, rfl, rfl, rfl⟩
theorem if_beside : IsFn G "_law_beside" 2 7 F__law_beside.body true := ⟨_, rfl, rfl, rfl, rfl, rfl, rfl⟩
theorem ptD_below (y : Int) (m d : Option Int) : below 0 (ptD y m d) = true := by unfold ptD; simp [below, belows, optI_below]
theorem c_last {n : Nat} {y m : Int} {bs : Nat} {hp : List Ob} (hf : Flat hp) : calN G (n + 1) "_law_last" [.int y, .int m] bs hp = .ok (.int (dim y m)) hp := by
  refine fn_same if_last rfl hf rfl ?_
  rw [F__law_last]
  refine W_seq ?_
  have hin : inD (.int m) (.tup [.int 4, .int 6, .int 9, .int 11]) = some (decide (m ∈ [4, 6, 9, 11])) := inD_iD (ns := [4, 6, 9, 11])
  simp [tst, hin]
  by_cases h1 : m = 4 ∨ m = 6 ∨ m = 9 ∨ m = 11
  · have : ¬ m = 2 := by omega
    simp [h1]
    refine W_seq ?_
    simp [dim, h1, this]
  · simp [h1]
    refine W_seq ?_
    simp
    by_cases h2 : m = 2
    · subst h2
      simp
      refine W_seq ?_
      have m4 : ∀ x : Int, mulOk x 4 = true := fun x => mulOk_r (by decide)
      have m1 : ∀ x : Int, mulOk x 100 = true := fun x => mulOk_r (by decide)
      have m0 : ∀ x : Int, mulOk x 400 = true := fun x => mulOk_r (by decide)
      have d4 : mid 4 = true := mid_le (by decide)
      have d1 : mid 100 = true := mid_le (by decide)
      have d0 : mid 400 = true := mid_le (by decide)
      have e4 : (y / 4 * 4 = y) = (y % 4 = 0) := propext ⟨fun h => by omega, fun h => by omega⟩
      have e1 : (y / 100 * 100 = y) = (y % 100 = 0) := propext ⟨fun h => by omega, fun h => by omega⟩
      have e0 : (y / 400 * 400 = y) = (y % 400 = 0) := propext ⟨fun h => by omega, fun h => by omega⟩
      simp [m4, m1, m0, d4, d1, d0, putPar]
      refine W_seq ?_
      simp [tst, m0, d0, dim, leap, e4, e1, e0]
      by_cases h4 : y % 4 = 0
      · by_cases h100 : y % 100 = 0
        · by_cases h400 : y % 400 = 0 <;> simp [h4, h100, h400, e0]
        · simp [h4, h100]
      · have : ¬ y % 100 = 0 := by omega
        simp [h4, this]
    · simp [h2]
      refine W_seq ?_
      simp [dim, h1, h2]
theorem c_of {n : Nat} {y : Int} {m d : Option Int} {bs : Nat} {hp : List Ob} (hf : Flat hp) (h : okP y m d) : calN G (n + 5) "_law_of" [ptD y m d] bs hp = .ok (dyD y m d) hp := by
  refine fn_same if_of rfl hf (dyD_below _ _ _) ?_
  rw [F__law_of]
  refine W_seq ?_
  have k := fun env b => k_day T (n := n) hf h env b
  simp [ptD, ixD, ixN, k]
theorem c_told {n : Nat} {y : Int} {m d : Option Int} {bs : Nat} {hp : List Ob} (hf : Flat hp) : calN G (n + 1) "_law_told" [dyD y m d] bs hp = .ok (ptD y m d) hp := by
  obtain ⟨o1, o2, o3, _⟩ := okF_day T
  refine fn_same if_told rfl hf (ptD_below _ _ _) ?_
  rw [F__law_told]
  refine W_seq ?_
  simp [dyD, fldD, o1, o2, o3, List.lookup, ptD]
theorem c_ends {n : Nat} {y : Int} {m d : Option Int} {bs : Nat} {hp : List Ob} (hf : Flat hp) (h : okP y m d) :
    calN G (n + 2) "_law_ends" [ptD y m d] bs hp = .ok (.tup [ptD y (some (ear m)) (some (ear d)), ptD y (some (lam m)) (some (lad y m d))]) hp := by
  refine fn_same if_ends rfl hf (by simp [below, belows, ptD]) ?_
  rw [F__law_ends]
  refine W_seq ?_
  have k := fun m => cw if_last rfl (fun bs => c_last (n := n) (y := y) (m := m) (bs := bs) hf)
  cases m with
  | none =>
    cases d with
    | none =>
      simp [ptD]
      refine W_seq ?_
      simp [putPar]
      refine W_seq ?_
      simp [k, ear, lam, lad]
    | some d => cases h.2.2
  | some m =>
    have m0 := okP_m h
    cases d with
    | none =>
      simp [ptD]
      refine W_seq ?_
      simp [putPar, m0]
      refine W_seq ?_
      simp [k, ear, lam, lad]
    | some d =>
      have d0 := okP_d h
      simp [ptD]
      refine W_seq ?_
      simp [putPar, m0]
      refine W_seq ?_
      simp [k, ear, lam, lad, d0]
end Tw.K03
end

section
set_option linter.all false
set_option maxRecDepth 100000
set_option maxHeartbeats 4000000
namespace Tw
def pairC : D → Option D
  | .tup [.int x, .int y] => some (.bl (x == y))
  | _ => some (.bl true)
theorem pairC_opt (a b : Option Int) : pairC (.tup [optI a, optI b]) = some (.bl (cmp1 a b)) := by
  cases a <;> cases b <;> rfl
end Tw
namespace Tw.K03
open Tw
theorem c_lmay {n : Nat} {y y' : Int} {m d m' d' : Option Int} {bs : Nat} {hp : List Ob} (hf : Flat hp) : calN G (n + 1) "_law_may" [ptD y m d, ptD y' m' d'] bs hp = .ok (.bl (mayB y m d y' m' d')) hp := by
  refine fn_same if_lmay rfl hf rfl ?_
  rw [F__law_may]
  refine W_seq ?_
  simp [ptD]
  refine W_map ?_
  simp [itemsOf, zipD]
  have hxs : [D.tup [D.int y, D.int y'], D.tup [optI m, optI m'], D.tup [optI d, optI d']] = (mayL y m d y' m' d').map fun p => .tup [optI p.1, optI p.2] := rfl
  refine ⟨by show 3 ≤ 16777216; decide, ?_⟩
  refine ⟨pairC, ⟨?_, ?_, ?_⟩, ?_⟩
  · simp [isD, pairC]
  · cases m <;> cases m' <;> simp [isD, pairC]
  · cases d <;> cases d' <;> simp [isD, pairC]
  · have e : [D.int y, D.int y'] = [optI (some y), optI (some y')] := rfl
    have e2 : List.filterMap pairC [D.tup [D.int y, D.int y'], D.tup [optI m, optI m'], D.tup [optI d, optI d']] = [cmp1 (some y) (some y'), cmp1 m m', cmp1 d d'].map .bl := by
      have e0 : pairC (.tup [.int y, .int y']) = some (.bl (cmp1 (some y) (some y'))) := pairC_opt (some y) (some y')
      simp [List.filterMap_cons, pairC_opt, e0]
    rw [e2]
    simp only [callBi, allBls_b, Option.map_some, ofO_some, Ok_ok]
    exact ⟨by simp [mayB, mayL], trivial⟩
/-- some day's parts -/
def Pt (d : D) : Prop := ∃ y m dd, d = ptD y m dd ∧ okP y m dd
theorem Pt.below {d : D} (h : Pt d) : below 0 d = true := by
  obtain ⟨y, m, dd, rfl, _⟩ := h
  exact ptD_below _ _ _
theorem if_tk : ∃ ns b gc, IsFn G "_law_take" 2 ns b gc := ⟨_, _, _, if_take⟩
theorem c_parts {n i L : Nat} {c : Int} {hp : List Ob} {bs : Nat} (H : Hd i L c hp) (hc : c < 2 ^ 30) :
    Ok (calN G (n + 3) "_law_parts" [.ref i] bs hp) fun d hp' => Pt d ∧ Hd i L (c + 10) hp' := by
  refine Ok_fn if_parts rfl ?_
  rw [F__law_parts]
  refine W_seq ?_
  simp
  refine dr.t (by omega) H (by omega) (by omega) (by omega) ?_
  intro r1 hp1 r10 r11 H1
  simp
  refine dr.t (by omega) H1 (by omega) (by omega) (by omega) ?_
  intro r2 hp2 r20 r21 H2
  have m4 : ∀ x : Int, mulOk 4 x = true := fun x => mulOk_l (by decide)
  have m1 : ∀ x : Int, mulOk 100 x = true := fun x => mulOk_l (by decide)
  simp [m4]
  refine dr.t (by omega) H2 (by omega) (by omega) (by omega) ?_
  intro r3 hp3 r30 r31 H3
  simp [m1]
  refine W_seq ?_
  simp
  refine dr.p (by omega) H3 (by simp) (by simp) (by omega) rfl ?_
  intro yd hp4 hy H4
  obtain ⟨y, rfl, y0, y1⟩ : ∃ y : Int, yd = .int y ∧ 1 ≤ y ∧ y ≤ 9999 := by
    simp at hy
    rcases hy with rfl | rfl | rfl | rfl | rfl
    · exact ⟨_, rfl, by omega, by omega⟩
    · exact ⟨_, rfl, by omega, by omega⟩
    · exact ⟨_, rfl, by omega, by omega⟩
    · exact ⟨_, rfl, by omega, by omega⟩
    · exact ⟨_, rfl, by omega, by omega⟩
  simp
  refine W_seq ?_
  simp
  refine dr.t (by omega) H4 (by omega) (by omega) (by omega) ?_
  intro tl hp5 t0 t1 H5
  simp
  refine dr.t (by omega) H5 (by omega) (by omega) (by omega) ?_
  intro r6 hp6 r60 r61 H6
  simp
  refine dr.p (by omega) H6 (by simp) (by simp) (by omega) rfl ?_
  intro md hp7 hm H7
  obtain ⟨m, rfl, m0, m1⟩ : ∃ m : Int, md = .int m ∧ 1 ≤ m ∧ m ≤ 12 := by
    simp at hm
    rcases hm with rfl | rfl | rfl | rfl
    · exact ⟨_, rfl, by omega, by omega⟩
    · exact ⟨_, rfl, by omega, by omega⟩
    · exact ⟨_, rfl, by omega, by omega⟩
    · exact ⟨_, rfl, by omega, by omega⟩
  simp [putPar]
  refine W_seq ?_
  have kl := cw if_last rfl (fun bs => c_last (n := n + 1) (y := y) (m := m) (bs := bs) H7.flat)
  have hdm := dim_pos y m
  simp [kl]
  generalize hdd : dim y m = dm at *
  refine W_seq ?_
  simp
  refine dr.t (by omega) H7 (by omega) (by omega) (by omega) ?_
  intro r8 hp8 r80 r81 H8
  simp
  refine dr.p (by omega) H8 (by simp) (by simp) (by omega) rfl ?_
  intro dd hp9 hd H9
  obtain ⟨d, rfl, d0, d1⟩ : ∃ d : Int, dd = .int d ∧ 1 ≤ d ∧ d ≤ dm := by
    simp at hd
    rcases hd with rfl | rfl | rfl
    · exact ⟨_, rfl, by omega, by omega⟩
    · exact ⟨_, rfl, by omega, by omega⟩
    · exact ⟨_, rfl, by omega, by omega⟩
  simp
  refine W_seq ?_
  have hlen : hp9.length = hp.length := by rw [H9.len, H.len]
  have ht : tl = 0 ∨ tl = 1 ∨ tl = 2 := by omega
  rcases ht with rfl | rfl | rfl
  · simp [ixD, ixN, below, belows, hlen, H9.flat]
    exact ⟨⟨y, none, none, rfl, y0, y1, rfl⟩, H9.mono (by omega)⟩
  · simp [ixD, ixN, below, belows, hlen, H9.flat]
    exact ⟨⟨y, some m, none, rfl, y0, y1, m0, m1, trivial⟩, H9.mono (by omega)⟩
  · simp [ixD, ixN, below, belows, hlen, H9.flat]
    exact ⟨⟨y, some m, some d, rfl, y0, y1, m0, m1, d0, by omega⟩, H9.mono (by omega)⟩
theorem okP_y {y : Int} (h : 1 ≤ y ∧ y ≤ 9999) : okP y none none := ⟨h.1, h.2, rfl⟩
theorem okP_ym {y m : Int} {m0 d0 : Option Int} {y0 : Int} (h : 1 ≤ y ∧ y ≤ 9999) (k : okP y0 (some m) d0) : okP y (some m) none := ⟨h.1, h.2, k.2.2.1, k.2.2.2.1, trivial⟩
theorem okP_28 {y m d : Int} {d0 : Option Int} {y0 : Int} (h : 1 ≤ y ∧ y ≤ 9999) (k : okP y0 (some m) d0) (h1 : 1 ≤ d) (h2 : d ≤ 28) : okP y (some m) (some d) :=
  ⟨h.1, h.2, k.2.2.1, k.2.2.2.1, h1, by have := dim_pos y m; omega⟩
theorem okP_o {y : Int} {m : Option Int} {d0 : Option Int} {y0 : Int} (h : 1 ≤ y ∧ y ≤ 9999) (k : okP y0 m d0) : okP y m none := by
  cases m with
  | none => exact okP_y h
  | some m => exact okP_ym (m0 := none) (d0 := d0) h k
theorem c_beside {n i L : Nat} {c : Int} {y : Int} {m d : Option Int} {hp : List Ob} {bs : Nat} (H : Hd i L c hp) (hc : c < 2 ^ 29) (h : okP y m d) :
    Ok (calN G (n + 4) "_law_beside" [.ref i, ptD y m d] bs hp) fun d hp' => Pt d ∧ Hd i L (c + 20) hp' := by
  have hZ : SZ = 16777216 := rfl
  refine Ok_fn if_beside rfl ?_
  rw [F__law_beside]
  have hy : 1 ≤ y ∧ y ≤ 9999 := ⟨h.1, h.2.1⟩
  refine W_seq ?_
  simp [ptD]
  refine W_seq ?_
  simp
  refine Ok_c if_parts rfl (c_parts (n := n) H (by omega)) ?_
  rintro _ hp1 ⟨⟨y', m', d', rfl, h'⟩, H1⟩
  have fin : ∀ (ls : List D) (a b : Slt) (hp3 : List Ob) (c3 : Int), (∀ x ∈ ls, Pt x) → 0 < ls.length → ls.length < 100 → Hd i L c3 hp3 → c3 ≤ c + 12 →
      Ok (exB G (calN G (n + 3)) [.ret (.call "_law_pick" [.sl 0, .sl 6] [] [])] ⟨[.val (.ref i), .val (ptD y m d), .val (.int y), .val (optI m), .val (optI d), .val (ptD y' m' d'), .own (.lst ls)], hp3, hp.length⟩) fun f s => ∃ d, f = .ret d ∧ below 0 d = true ∧ s.hp.length = hp.length ∧ Flat s.hp ∧ (Pt d ∧ Hd i L (c + 20) s.hp) := by
    intro ls a b hp3 c3 hls l0 l1 H3 hc3
    refine W_seq ?_
    simp
    refine dr.p (by omega) H3 l0 (by omega) (by omega) (belows_all fun x hx => (hls x hx).below) ?_
    intro x hp4 hx H4
    have := hls x hx
    simp [this.below, this, H4.flat, H4.len, H.len]
    exact H4.mono (by omega)
  have hmx : 1 ≤ (if (1 : Int) < y - 1 then y - 1 else 1) ∧ (if (1 : Int) < y - 1 then y - 1 else 1) ≤ 9999 := by
    obtain ⟨y0, y1⟩ := hy
    split <;> omega
  have base : ∀ x ∈ [ptD y none none, ptD y m none, ptD y m' none, ptD y m d, ptD y' m' d', ptD (if (1 : Int) < y - 1 then y - 1 else 1) m none], Pt x := by
    intro x hx
    simp at hx
    rcases hx with rfl | rfl | rfl | rfl | rfl | rfl
    · exact ⟨_, _, _, rfl, okP_y hy⟩
    · exact ⟨_, _, _, rfl, okP_o hy h⟩
    · exact ⟨_, _, _, rfl, okP_o hy h'⟩
    · exact ⟨_, _, _, rfl, h⟩
    · exact ⟨_, _, _, rfl, h'⟩
    · exact ⟨_, _, _, rfl, okP_o hmx h⟩
  simp [ptD]
  refine W_seq ?_
  simp [ixD, ixN]
  refine W_seq ?_
  simp [fitL]
  refine ⟨by omega, ?_⟩
  have snd : ∀ (ls : List D) (hp3 : List Ob) (c3 : Int), (∀ x ∈ ls, Pt x) → 0 < ls.length → ls.length < 90 → Hd i L c3 hp3 → c3 ≤ c + 11 →
      Ok (exB G (calN G (n + 3)) [.ife (.cmp .isn (.sl 3) (.non)) [.ex (.bm (.pk 6) .append [.tup [.sl 2, .sl 3, .bin .add (.int 1) (.call "_law_take" [.sl 0, .int 28] [] [])]])] [],
        .ret (.call "_law_pick" [.sl 0, .sl 6] [] [])] ⟨[.val (.ref i), .val (ptD y m d), .val (.int y), .val (optI m), .val (optI d), .val (ptD y' m' d'), .own (.lst ls)], hp3, hp.length⟩) fun f s => ∃ d, f = .ret d ∧ below 0 d = true ∧ s.hp.length = hp.length ∧ Flat s.hp ∧ (Pt d ∧ Hd i L (c + 20) s.hp) := by
    intro ls hp3 c3 hls l0 l1 H3 hc3
    refine W_seq ?_
    cases m with
    | none =>
      simp [isD]
      exact fin ls .non .non hp3 c3 hls l0 (by omega) H3 (by omega)
    | some m =>
      simp [isD]
      refine W_seq ?_
      simp
      refine dr.t (by omega) H3 (by omega) (by omega) (by omega) ?_
      intro r hp4 r0 r1 H4
      simp [fitL, show ls.length + 1 ≤ SZ by omega]
      refine fin (ls ++ [ptD y (some m) (some (1 + r))]) .non .non hp4 _ ?_ (by simp) (by simp; omega) H4 (by omega)
      intro x hx
      rcases List.mem_append.mp hx with hx | hx
      · exact hls x hx
      · rw [List.mem_singleton.mp hx]
        exact ⟨_, _, _, rfl, okP_28 hy h (by omega) (by omega)⟩
  generalize hB : [ptD y none none, ptD y m none, ptD y m' none, ptD y m d, ptD y' m' d', ptD (if (1 : Int) < y - 1 then y - 1 else 1) m none] = B at base
  have hBl : B.length = 6 := by rw [← hB]; rfl
  have hB2 : [D.tup [D.int y, D.non, D.non], D.tup [D.int y, optI m, D.non], D.tup [D.int y, optI m', D.non],
                    D.tup [D.int y, optI m, optI d], D.tup [D.int y', optI m', optI d'],
                    D.tup [D.int (if 1 < y - 1 then y - 1 else 1), optI m, D.non]] = B := hB
  rw [hB2]
  refine W_seq ?_
  cases m' with
  | none =>
    simp [isD, ixD, ixN]
    exact snd B hp1 _ base (by omega) (by omega) H1 (by omega)
  | some m' =>
    simp [isD, ixD, ixN]
    refine W_seq ?_
    simp [ixD, ixN]
    refine dr.t (by omega) H1 (by omega) (by omega) (by omega) ?_
    intro r hp4 r0 r1 H4
    simp [fitL, show B.length + 1 ≤ SZ by omega]
    refine snd (B ++ [ptD y (some m') (some (1 + r))]) hp4 _ ?_ (by simp) (by simp; omega) H4 (by omega)
    intro x hx
    rcases List.mem_append.mp hx with hx | hx
    · exact base x hx
    · rw [List.mem_singleton.mp hx]
      exact ⟨_, _, _, rfl, okP_28 hy h' (by omega) (by omega)⟩
end Tw.K03
end

section
set_option linter.all false
set_option autoImplicit false
set_option maxRecDepth 100000
set_option maxHeartbeats 4000000
/-! The hand whose digits are those of a cell without its sign; the law's own run. -/
namespace Tw
def handAB : List S := [.asg (.nm 2) (.ife (.cmp .lt (.sl 1) (.bi .len [.sl 0])) (.ix (.sl 0) (.sl 1)) (.int 0)),
  .asg (.nm 3) (.bin .mul (.bin .mod (.bi .abs [.sl 2]) (.bin .mul (.bin .pow (.int 10) (.int 60)) (.bin .pow (.int 10) (.int 60)))) (.bi .int [.cmp .ge (.bi .abs [.sl 2]) (.bin .pow (.int 10) (.int 18))])),
  .ret (.shr (.lst [.sl 3, .bin .mod (.bin .add (.bin .add (.bin .mod (.sl 2) (.int 2305843009213693951)) (.bin .mul (.int 7919) (.sl 1))) (.int 3)) (.int 2305843009213693951), .int 0]))]
theorem pos120 : (0 : Int) < 10 ^ 60 * 10 ^ 60 := by decide +kernel
theorem c_handA {G : Tab} (hI : IsFn G "_law_hand" 2 4 handAB false) {N : Nat} {ns : List Int} {k bs : Nat} {hp : List Ob} (hN : 1 ≤ N) (hf : Flat hp) (hk : k < 1000) :
    Ok (calN G N "_law_hand" [.scr (iD ns), .int k] bs hp) fun d hp' => d = .ref hp.length ∧ Hd hp.length (hp.length + 1) 0 hp' := by
  obtain ⟨n, rfl⟩ : ∃ n, N = n + 1 := ⟨N - 1, by omega⟩
  refine Ok_fnS hI rfl ?_
  unfold handAB
  have rest : ∀ cell : Int, Ok (exB G (calN G n) (handAB.drop 1) ⟨[.val (.scr (iD ns)), .val (.int k), .val (.int cell), .non], hp, bs⟩) fun f s => ∃ d, f = .ret d ∧ d = .ref hp.length ∧ Hd hp.length (hp.length + 1) 0 s.hp := by
    intro cell
    unfold handAB
    simp only [List.drop_succ_cons, List.drop_zero]
    refine W_seq ?_
    have eb : ∀ i : Int, callBi G.sh .abs [.int i] = some (.int (if i < 0 then -i else i)) := fun i => rfl
    generalize (if cell < 0 then -cell else cell) = ab at eb
    have m1 : ∀ (a : Int) (b : Bool), mulOk (a % (10 ^ 60 * 10 ^ 60)) (if b = true then 1 else 0) = true := fun a b => by cases b <;> exact mulOk_r (by decide)
    have m2 := pos120
    have m3 := mul60
    simp only [ex_asg, ev_bin, ev_sl, ev_int, ev_bi, ev_cmp, evs_nil, evs_cons, bind_ok, List.getElem?_cons_zero, List.getElem?_cons_succ, reD_sl, reD_int, reD_bin, reD_bi, reD_cmp, reDs_nil, reDs_cons, deref_int, deref_bl, bD_int, bI_p60, bI_p18, ofO_some, bI_mul, m3, if_true, bI_mod, m2, decide_true, ck_gei, Option.map_some, cb_intb, m1, bind_nm, eb]
    generalize (if cell < 0 then -cell else cell) % (10 ^ 60 * 10 ^ 60) * (if (!decide ((if cell < 0 then -cell else cell) < 10 ^ 18)) = true then 1 else 0) = g
    simp
    refine W_seq ?_
    have m5 : mulOk 7919 (k : Int) = true := mulOk_l (by decide)
    simp [m5]
    refine ⟨by simp, flat_app hf rfl, g, _, 0, by simp [hand]; rfl, Int.emod_nonneg _ (by decide), ?_, Int.le_refl _, Int.le_refl _⟩
    exact Int.lt_of_lt_of_le (Int.emod_lt_of_pos _ (by decide)) (by decide)
  refine W_seq ?_
  simp
  by_cases hlt : k < ns.length
  · simp [hlt, ixD, ixN_nat (n := ns.length) (i := (k : Int)) (by omega) (by omega), List.getElem?_eq_getElem hlt]
    exact rest _
  · simp [hlt]
    exact rest 0
theorem run_law {G : Tab} {cal : Cal} {F : Fn} {ds : List D} (hg : F.gc = true)
    (h : Ok (exB G cal F.body ⟨ds.map .val ++ List.replicate (F.ns - ds.length) .non, [], 0⟩) fun f s => f = .ret (.bl true)) : runF G cal F ds 0 [] = .ok (.bl true) [] := by
  obtain ⟨f, s, e, rfl⟩ := h.ex
  unfold runF
  simp only [hg, if_true, List.length_nil]
  rw [e]
  have e1 : frz 0 s.hp 64 (.bl true) = some (.bl true) := by unfold frz; rfl
  simp only [e1, List.take_zero, List.all_nil, if_true]
end Tw
end

section
set_option linter.all false
set_option maxRecDepth 100000
set_option maxHeartbeats 4000000
namespace Tw
theorem cmp1_self (a : Option Int) : cmp1 a a = true := by cases a <;> simp [cmp1]
theorem cmp1_comm (a b : Option Int) : cmp1 a b = cmp1 b a := by
  cases a <;> cases b <;> simp [cmp1]
  rename_i x y
  rw [Bool.eq_iff_iff]
  simp
  exact ⟨fun h => h.symm, fun h => h.symm⟩
theorem may_self (y : Int) (m d : Option Int) : mayB y m d y m d = true := by simp [mayB, mayL, cmp1_self]
theorem may_comm (y : Int) (m d : Option Int) (y' : Int) (m' d' : Option Int) : mayB y m d y' m' d' = mayB y' m' d' y m d := by
  simp only [mayB, mayL, List.all_cons, List.all_nil]
  rw [cmp1_comm (some y), cmp1_comm m, cmp1_comm d]
theorem may_ear {y : Int} {m d : Option Int} : mayB y m d y (some (ear m)) (some (ear d)) = true := by
  cases m <;> cases d <;> simp [mayB, mayL, cmp1, ear]
theorem may_late {y : Int} {m d : Option Int} : mayB y (some (lam m)) (some (lad y m d)) y m d = true := by
  cases m <;> cases d <;> simp [mayB, mayL, cmp1, lam, lad]
theorem leaf_opt {o : Option Int} (h : ∀ x, o = some x → 0 ≤ x ∧ x ≤ 9999) : leafOk (optI o) = true := by
  cases o with
  | none => rfl
  | some x =>
    have := h x rfl
    show decide (x.natAbs < 10 ^ 40) = true
    exact decide_eq_true (Nat.lt_of_lt_of_le (show x.natAbs < 10000 by omega) (by decide))
theorem okP_bd {y : Int} {m d : Option Int} (h : okP y m d) : (0 ≤ y ∧ y ≤ 9999) ∧ (∀ x, m = some x → 0 ≤ x ∧ x ≤ 9999) ∧ ∀ x, d = some x → 0 ≤ x ∧ x ≤ 9999 := by
  obtain ⟨h1, h2, h3⟩ := h
  refine ⟨by omega, ?_, ?_⟩
  · rintro x rfl
    obtain ⟨h3, h4, _⟩ := h3
    omega
  · rintro x rfl
    cases m with
    | none => cases h3
    | some m =>
      obtain ⟨_, _, h5, h6⟩ := h3
      have := dim_pos y m
      omega
theorem leaf_pt {y : Int} {m d : Option Int} (h : okP y m d) : leafOk (ptD y m d) = true := by
  obtain ⟨h1, h2, h3⟩ := okP_bd h
  have e1 : leafOk (.int y) = true := leaf_opt (o := some y) (fun x e => by cases e; exact h1)
  have e2 := leaf_opt h2
  have e3 := leaf_opt h3
  show (leafOk (.int y) && (leafOk (optI m) && (leafOk (optI d) && true))) = true
  rw [e1, e2, e3]
  rfl
theorem dep_opt (o : Option Int) : depthD (optI o) = 0 := by cases o <;> rfl
theorem wt_opt (o : Option Int) : wtD (optI o) ≤ 1 := by cases o <;> simp [optI, wtD]
theorem dep_pt (y : Int) (m d : Option Int) : depthD (ptD y m d) = 1 := by simp [ptD, depthD, depthDs, dep_opt]
theorem wt_pt (y : Int) (m d : Option Int) : wtD (ptD y m d) ≤ 10 := by
  have h1 := wt_opt m
  have h2 := wt_opt d
  simp [ptD, wtD, wtDs]
  omega
theorem pt_repr {y : Int} {m d : Option Int} (h : okP y m d) : callBi shD .repr [ptD y m d] = some (.str (shD (ptD y m d))) :=
  repr_ok (leaf_pt h) (by rw [dep_pt]; decide) (by have := wt_pt y m d; omega)
theorem pt2_repr {y : Int} {m d : Option Int} {y' : Int} {m' d' : Option Int} (h : okP y m d) (h' : okP y' m' d') : callBi shD .repr [.tup [ptD y m d, ptD y' m' d']] = some (.str (shD (.tup [ptD y m d, ptD y' m' d']))) := by
  refine repr_ok ?_ ?_ ?_
  · show (leafOk _ && (leafOk _ && true)) = true
    rw [leaf_pt h, leaf_pt h']
    rfl
  · simp [depthD, depthDs, dep_pt]
  · have h1 := wt_pt y m d
    have h2 := wt_pt y' m' d'
    simp [wtD, wtDs]
    omega
theorem bl_repr (b : Bool) : callBi shD .repr [.bl b] = some (.str (shD (.bl b))) := repr_ok rfl (by simp [depthD]) (by simp [wtD])
theorem pt_ne (y : Int) (m d : Option Int) : cmpD .ne (ptD y m d) (ptD y m d) = some false := by
  cases m <;> cases d <;> simp [cmpD, okD, ptD, plain, plains, depthD, depthDs, eqD, eqDs]
theorem pt_deref (y : Int) (m d : Option Int) (hp : List Ob) : deref (ptD y m d) hp = ptD y m d := rfl
theorem dy_deref (y : Int) (m d : Option Int) (hp : List Ob) : deref (dyD y m d) hp = dyD y m d := rfl
end Tw
namespace Tw.K03
open Tw
theorem if_right : IsFn G "_law_right" 1 10 F__law_right.body true := ⟨_, rfl, rfl, rfl, rfl, rfl, rfl⟩
theorem isi_day {y : Int} {m d : Option Int} {hp : List Ob} : isCls G (dyD y m d) hp [.own "Day"] = some true := by
  obtain ⟨_, _, _, o⟩ := okF_day T
  simp [isCls, isCl, dyD, o]
theorem c_right {i L : Nat} {c : Int} {hp : List Ob} {bs : Nat} (H : Hd i L c hp) (hc : c < 2 ^ 18) :
    Ok (calN G 39 "_law_right" [.ref i] bs hp) fun d hp' => d = .bl true ∧ Hd i L (c + 200) hp' := by
  have hsh : G.sh = shD := rfl
  have nes : ∀ z, cmpD .ne (.str z) (.str z) = some false := fun z => by rw [neS]; simp
  have eqs : ∀ z, cmpD .eq (.str z) (.str z) = some true := fun z => by rw [eqS]; simp
  refine Ok_fn if_right rfl ?_
  rw [F__law_right]
  refine W_seq ?_
  simp
  refine Ok_c if_parts rfl (c_parts (n := 35) H (by omega)) ?_
  rintro _ hp1 ⟨⟨y, m, d, rfl, h⟩, H1⟩
  have k_of := fun {y m d} {hp : List Ob} (hf : Flat hp) (h : okP y m d) => cw if_of rfl (fun bs => c_of (n := 33) (bs := bs) hf h)
  have k_may := fun {y m d y' m' d'} {hp : List Ob} (hf : Flat hp) => cw if_may rfl (fun bs => c_may (n := 36) (y := y) (m := m) (d := d) (y' := y') (m' := m') (d' := d') (bs := bs) hf)
  have k_lmay := fun {y m d y' m' d'} {hp : List Ob} (hf : Flat hp) => cw if_lmay rfl (fun bs => c_lmay (n := 37) (y := y) (m := m) (d := d) (y' := y') (m' := m') (d' := d') (bs := bs) hf)
  have k_told := fun {y m d} {hp : List Ob} (hf : Flat hp) => cw if_told rfl (fun bs => c_told (n := 37) (y := y) (m := m) (d := d) (bs := bs) hf)
  simp
  refine W_seq ?_
  have f1 := H1.flat
  simp [k_of f1 h, cw if_ends rfl (fun bs => c_ends (n := 36) (bs := bs) f1 h), putPar]
  refine W_seq ?_
  simp [cw if_ear rfl (fun bs => c_ear (n := 33) (bs := bs) f1 h), cw if_late rfl (fun bs => c_late (n := 33) (bs := bs) f1 h), putPar]
  refine W_seq ?_
  have he := okP_ear h
  have hl := okP_late h
  simp [et_isi, tst, isi_day, dy_deref, k_told f1, pt_deref, hsh, pt2_repr he hl, nes]
  refine W_seq ?_
  simp [tst, k_may f1, may_ear, may_late, may_self, isD]
  refine W_for ?_
  have hs : small62 (6 : Int) = true := by decide
  have hit : itemsOf Ik.rng [D.int 6] = some (rngL 0 (6 : Nat)) := by simp only [itemsOf, hs, if_true]; rfl
  simp
  refine ⟨_, hit, fun u s => ∃ a b e f hp', s = ⟨[.val (.ref i), .val (ptD y m d), .val (dyD y m d), .val (.tup [ptD y (some (ear m)) (some (ear d)), ptD y (some (lam m)) (some (lad y m d))]), .val (dyD y (some (ear m)) (some (ear d))), .val (dyD y (some (lam m)) (some (lad y m d))), a, b, e, f], hp', hp.length⟩ ∧ Hd i L (c + 10 + 20 * u) hp', ?_, ?_, ?_⟩
  · exact ⟨_, _, _, _, _, rfl, H1.mono (by omega)⟩
  · rintro u x s hx ⟨a, b, e, f, hp2, rfl, H2⟩
    obtain ⟨rfl, hu⟩ := rngL_get hx
    simp
    refine W_seq ?_
    simp
    refine Ok_c if_beside rfl (c_beside (n := 34) H2 (by omega) h) ?_
    rintro _ hp3 ⟨⟨y', m', d', rfl, h'⟩, H3⟩
    have f3 := H3.flat
    simp
    refine W_seq ?_
    simp [k_lmay f3, k_of f3 h', putPar]
    refine W_seq ?_
    simp [tst, k_may f3, hsh, bl_repr, nes, may_comm y' m' d' y m d, k_told f3, pt_deref, pt_ne]
    exact ⟨_, _, _, _, _, ⟨⟨rfl, rfl, rfl, rfl⟩, rfl⟩, H3.mono (by omega)⟩
  · rintro s ⟨a, b, e, f, hp2, rfl, H2⟩
    have f2 := H2.flat
    refine W_seq ?_
    simp [k_told f2, pt_deref, hsh, pt_repr h, eqs, below, H2.len, H.len, f2]
    rw [rngL_len] at H2
    exact H2.mono (by omega)
theorem law_plain (ns : List Int) (hns : ns.length ≤ 63) : calN G 40 "law" [.scr (iD ns)] 0 [] = .ok (.bl true) [] := by
  have e : G.fn "law" = some F_law := by rfl
  refine calN_same e (by rfl) (run_law (by rfl) ?_)
  rw [F_law]
  refine W_seq ?_
  simp
  obtain ⟨tn, htn, htn2⟩ : ∃ tn : Nat, 2 + (if (ns.length : Int) < 10 then (ns.length : Int) else 10) = (tn : Int) ∧ tn ≤ 12 := by
    by_cases h1 : (ns.length : Int) < 10
    · rw [if_pos h1]; exact ⟨2 + ns.length, by omega, by omega⟩
    · rw [if_neg h1]; exact ⟨12, rfl, by omega⟩
  refine W_comp ?_
  simp
  rw [htn]
  have hs : small62 (tn : Int) = true := by unfold small62; simp; omega
  have hit : itemsOf Ik.rng [D.int tn] = some (rngL 0 tn) := by simp only [itemsOf, hs, if_true]
  have hz : (rngL 0 (tn : Int)).length ≤ SZ := by
    have : SZ = 16777216 := rfl
    rw [rngL_len]
    omega
  have if_hand : IsFn G "_law_hand" 2 4 handAB false := ⟨_, rfl, rfl, rfl, rfl, rfl, rfl⟩
  refine ⟨_, hit, hz, fun u a s => a = (List.replicate u true).map D.bl ∧ ∃ x hp, s = ⟨[.val (.scr (iD ns)), x], hp, 0⟩ ∧ Flat hp, ?_, ?_, ?_⟩
  · exact ⟨rfl, _, _, rfl, nofun⟩
  · rintro u a x s hx ⟨rfl, y, hp, rfl, hf⟩
    obtain ⟨rfl, hu⟩ := rngL_get hx
    simp
    refine Ok_c if_hand rfl (c_handA if_hand (by omega) hf (by omega)) ?_
    rintro _ hp1 ⟨rfl, H⟩
    simp
    refine Ok_c if_right rfl (c_right H (by omega)) ?_
    rintro _ hp2 ⟨rfl, H2⟩
    simp
    exact ⟨by rw [List.replicate_succ'], ⟨_, _, ⟨rfl, rfl⟩, H2.flat⟩⟩
  · rintro a s ⟨rfl, x, hp, rfl, hf⟩
    simp only [callBi, allBls_b, Option.map_some, ofO_some, Ok_ok]
    simp
end Tw.K03
end
set_option maxRecDepth 100000 in
set_option maxHeartbeats 0 in
theorem PySem.Challenge.cw_takesworks_k03_what_days_may_be_holds : PySem.Challenge.rw_takesworks_k03_what_days_may_be.Holds :=
  Tw.K03.Hd.holds fun ns h => ⟨_, Tw.K03.law_plain ns h⟩
