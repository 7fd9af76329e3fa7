import PyProof.Rows.All
import Wide.All
import OpenK.AllK
import Wide.FinOn
import HandS.ForMost
import HandS.ForExc
import HandS.Wide
import HandS.WideBits
import HandS.TupAny
import HandS.TupMul
import HandS.TupLe
import HandS.Deep
import HandS.Small
import HandS.IsInst
import HandS.Style
import HandS.SetKeys
import HandS.SortInts
import HandS.WordsDict
import HandS.WordsExc
import HandS.More
import HandS.RaiseMore
import HandS.StrMore
import KE.KDictPairs
import HandS.CallSlots
import HandS.HotCalls
import HandS.ExcIs
import HandS.Defaults
import HandS.Zip
import KE.GoesMore
import KE.GoesEnum
import KE.KDictZip
import HandS.ListItems
import HandS.Rev
import HandS.Hot
import PyProof.SumWalkG
import HandS.RevTup
import KE.KDictList
import KE.KUnpack
import HandS.Head0
import HandS.Head1
import HandS.Head2
import HandS.HeadEnd
import HandS.HeadHook1
import HandS.HeadHook2
import HandS.HeadHook3
import HandS.HeadHook4
import PyProof.StrLawsTight
import PyProof.StrLawsChain
import KE.KIntText
import KE.KStateDown
import Lean
import PySem.Challenge.RW_facework_k43_faces_shown
set_option Elab.async false
set_option linter.all false
set_option maxRecDepth 100000
/-! MiA: a small language for the program's own text: values with tuples as data, a heap of lists, dicts and instances, and what must hold so that a piece of text runs. -/
namespace Mi
open PySem

/-- a value: tuples are data, lists, dicts and instances stand at a place of the heap -/
inductive Val where
  | non | bl (b : Bool) | int (i : Int) | str (x : String) | tup (xs : List Val) | ref (n : Nat) | exc (c : String)
  deriving Inhabited

abbrev Key := Sum Int String
def Key.val : Key → Val
  | .inl i => .int i
  | .inr x => .str x
def Val.key : Val → Option Key
  | .int i => some (.inl i)
  | .str x => some (.inr x)
  | _ => none

inductive Ob where
  | lst (xs : List Val)
  | dic (kvs : List (Key × Val))
  | ins (c : String) (fs : List (String × Val))
  | lck (o : Ob)
  deriving Inhabited

abbrev Hm := List Ob
abbrev Env := List (Option Val)
abbrev Post := Val → Hm → Prop
abbrev XPost := String → Hm → Prop

/-- what a function is called by: its name, or its class's and its own -/
inductive FK where
  | f (x : String) | m (c x : String)
  deriving DecidableEq, Repr, Inhabited
abbrev CallW := FK → List Val → Hm → Post → XPost → Prop

inductive Lit where
  | non | bl (b : Bool) | int (i : Int) | str (x : String)
  deriving DecidableEq, Repr, Inhabited
def Lit.val : Lit → Val
  | .non => .non
  | .bl b => .bl b
  | .int i => .int i
  | .str x => .str x

/-- types for isinstance -/
inductive Ty where
  | int | bool | str | tuple | list | dict | cls (c : String) | exc (c : String) (sb : List String)
  deriving DecidableEq, Repr, Inhabited

/-- built-in functions -/
inductive Bi where
  | len | abs | min | max | int | str | list | tuple | dict | sum | sorted | all | any | range | listD | sortedS
  deriving DecidableEq, Repr, Inhabited
/-- methods of built-in types -/
inductive Bm where
  | append | extend | pop | insert | reverse | count | index | clear
  | dclear | get | setdefault | update | startswith | split | join | isupper | upper | replace | dpop
  deriving DecidableEq, Repr, Inhabited

/-- forms of a built-in's call over another one's -/
inductive Vi where
  | listRev
  | tupRev
  | sumInts
  | dictL
  | listZip
  | dictP
  | listItems
  | dictZ
  deriving DecidableEq, Repr, Inhabited

inductive Tg where
  | nm (i : Nat)
  | tp (is : List Nat)
  deriving DecidableEq, Repr, Inhabited

mutual
inductive E where
  | loc (i : Nat)
  | lit (c : Lit)
  | con (x : String)
  | bin (op : Operator) (a b : E)
  | neg (a : E)
  | cmp (op : CmpOp) (a b : E)
  | cmp2 (op op' : CmpOp) (a b c : E)
  | isN (a : E)
  | notN (a : E)
  | isB (a : E) (b : Bool)
  | not (a : E)
  | and (a b : E)
  | or (a b : E)
  | ite (c : T) (a b : E)
  | tup (es : Es)
  | lst (es : Es)
  | dic (ps : Ps)
  | call (f : String) (es : Es)
  | make (c : String) (es : Es)
  | meth (c m : String) (o : E) (es : Es)
  | fld (o : E) (f : String)
  | sub (o i : E)
  | slice (o : E) (lo hi : Oe)
  | bi (f : Bi) (es : Es)
  | vi (f : Vi) (es : Es)
  | bm (m : Bm) (o : E) (es : Es)
  | isi (a : E) (ts : List Ty)
  | lc (elt : E) (tg : Tg) (src : Src) (cond : Ot) (own : List (String × Nat))
  | lck (i : Nat) (e : E)
  | lckA (e : E)
/-- a test -/
inductive T where
  | v (e : E)
  | not (t : T)
  | and (t u : T)
  | or (t u : T)
inductive Ot where
  | none
  | some (t : T)
inductive Ps where
  | nil
  | cons (k v : E) (ps : Ps)
inductive Es where
  | nil
  | cons (e : E) (es : Es)
inductive Oe where
  | none
  | some (e : E)
/-- what a loop walks -/
inductive Src where
  | seq (e : E)
  | rng1 (a : E)
  | rng2 (a b : E)
  | rng3 (a b c : E)
  | enum (a : E)
  | zip (a b : E)
  | rev (a : E)
  | items (a : E)
  | values (a : E)
  | keys (a : E)
end

mutual
inductive St where
  | set (i : Nat) (e : E)
  | setT (is : List Nat) (e : E)
  | setL (is : List Nat) (e : E)
  | par (is : List Nat) (es : Es)
  | setI (o i e : E)
  | setF (o : E) (f : String) (e : E)
  | aug (i : Nat) (op : Operator) (e : E)
  | augI (o i : E) (op : Operator) (e : E)
  | augF (o : E) (f : String) (op : Operator) (e : E)
  | expr (e : E)
  | ret (e : E)
  | retN
  | ife (c : T) (a b : Sts)
  | for (tg : Tg) (src : Src) (body : Sts)
  | while (c : T) (body : Sts)
  | raise (c : String)
  | try (body : Sts) (hs : Hs) (orelse : Sts)
  | cont
  | pass
  | lck (i : Nat) (s : St)
inductive Sts where
  | nil
  | cons (s : St) (ss : Sts)
inductive Hs where
  | nil
  | cons (c : String) (i : Option Nat) (body : Sts) (rest : Hs)
end

/-! ### environments -/
def eg : Env → Nat → Option Val
  | [], _ => none
  | x :: _, 0 => x
  | _ :: r, n + 1 => eg r n
def es : Env → Nat → Option Val → Env
  | [], _, _ => []
  | _ :: r, 0, v => v :: r
  | x :: r, n + 1, v => x :: es r n v
theorem eg_eq : ∀ (e : Env) (i : Nat), eg e i = (e[i]?).join
  | [], i => by simp [eg]
  | x :: r, 0 => by simp [eg]
  | x :: r, n + 1 => by simp [eg, eg_eq r n]
theorem es_eq : ∀ (e : Env) (i : Nat) (v : Option Val), es e i v = e.set i v
  | [], i, v => by simp [es]
  | x :: r, 0, v => by simp [es]
  | x :: r, n + 1, v => by simp [es, es_eq r n]
def ewipe (e : Env) : List Nat → Env
  | [] => e
  | v :: vs => es (ewipe e vs) v none

/-! ### values -/
def Hm.lst (S : Hm) (n : Nat) : Option (List Val) := match S[n]? with
  | some (.lst xs) => some xs
  | some (.lck (.lst xs)) => some xs
  | _ => none
def Hm.dic (S : Hm) (n : Nat) : Option (List (Key × Val)) := match S[n]? with
  | some (.dic xs) => some xs
  | some (.lck (.dic xs)) => some xs
  | _ => none
def lookK {α : Type} (kvs : List (Key × α)) (k : Key) : Option α := (kvs.find? fun kv => decide (kv.1 = k)).map (·.2)
def putK {α : Type} (kvs : List (Key × α)) (k : Key) (v : α) : List (Key × α) :=
  if (kvs.any fun kv => decide (kv.1 = k)) = true then kvs.map (fun kv => if kv.1 = k then (kv.1, v) else kv) else kvs ++ [(k, v)]
def dropK {α : Type} (kvs : List (Key × α)) (k : Key) : List (Key × α) := kvs.filter fun kv => !decide (kv.1 = k)
def putF {α : Type} (f : String) (v : α) : List (String × α) → List (String × α)
  | [] => [(f, v)]
  | (g, x) :: r => if g = f then (g, v) :: r else (g, x) :: putF f v r

def truth (v : Val) (S : Hm) : Option Bool := match v with
  | .non => some false
  | .bl b => some b
  | .int i => some (i != 0)
  | .str x => if x.length ≤ sizeLine then some (x.length != 0) else none
  | .tup xs => some (!xs.isEmpty)
  | .ref n => match S[n]? with
    | some (.lst xs) => some (!xs.isEmpty)
    | some (.lck (.lst xs)) => some (!xs.isEmpty)
    | some (.dic xs) => some (!xs.isEmpty)
    | _ => none
  | .exc _ => none

/-- the place of an index -/
def ixN (n : Nat) (i : Int) : Option Nat := if 0 ≤ i then (if i < n then some i.toNat else none) else if -(n : Int) ≤ i then some (i + n).toNat else none
def atI {α : Type} (xs : List α) (i : Int) : Option α := (ixN xs.length i).bind fun j => xs[j]?
def sIx (n d : Nat) : Option Int → Nat
  | none => d
  | some v => if v < 0 then (v + (n : Int)).toNat else min v.toNat n
def cut {α : Type} (xs : List α) (lo hi : Option Int) : List α := (xs.drop (sIx xs.length 0 lo)).take (sIx xs.length xs.length hi - sIx xs.length 0 lo)


/-- nested data, read through the heap, for == -/
def dat (S : Hm) : Nat → Val → Option PyData
  | _, .non => some .none
  | _, .bl b => some (.bool b)
  | _, .int i => some (.int i)
  | _, .str x => some (.str (Str.ofString x))
  | k + 1, .tup xs => (xs.mapM (dat S k)).map .tuple
  | k + 1, .ref n => match Hm.lst S n with
    | some xs => (xs.mapM (dat S k)).map .list
    | none => none
  | _, _ => none
/-- a dict's values beside another one's -/
def dHits (S : Hm) (ls : List (Key × Val)) : List (Key × Val) → Option Bool
  | [] => some true
  | p :: r => match lookK ls p.1 with
    | none => some false
    | some u => match dat S 58 p.2 with
      | none => none
      | some d => match dat S 58 u with
        | none => none
        | some e => match dHits S ls r with
          | none => none
          | some b => some (PyData.eqv d e && b)
def eqD (x y : Val) (S : Hm) (Q : Bool → Prop) : Prop := match x, y with
  | .ref n, .ref m => ∃ ks ls b, S[n]? = some (.dic ks) ∧ S[m]? = some (.dic ls) ∧ dHits S ls ks = some b ∧ Q (decide (ks.length = ls.length) && b)
  | _, _ => False
def eqW (x y : Val) (S : Hm) (Q : Bool → Prop) : Prop := (∃ d e, dat S 60 x = some d ∧ dat S 60 y = some e ∧ Q (PyData.eqv d e)) ∨ eqD x y S Q

def flat : Val → Bool
  | .non => true
  | .bl _ => true
  | .int _ => true
  | .str _ => true
  | _ => false
/-- == of flat values -/
def feq : Val → Val → Bool
  | .non, .non => true
  | .bl a, .bl b => a == b
  | .bl a, .int b => (if a then 1 else 0) == b
  | .int a, .bl b => a == (if b then 1 else 0)
  | .int a, .int b => a == b
  | .str a, .str b => a == b
  | _, _ => false
/-- a text in a text -/
def subIn (x y : String) : Bool := !(Builtin.Str.occurrences (Str.ofString y) (Str.ofString x) 0 (Str.ofString y).length 1).isEmpty

def inW (x y : Val) (S : Hm) (Q : Bool → Prop) : Prop := match y with
  | .str b => match x with
    | .str a => (∃ c, a.toList = [c] ∧ Q (decide (c ∈ b.toList))) ∨ Q (subIn a b)
    | _ => False
  | .tup xs => flat x = true ∧ xs.all flat = true ∧ Q (xs.any fun y => feq y x)
  | .ref n =>
    (∃ xs, Hm.lst S n = some xs ∧ ((flat x = true ∧ xs.all flat = true ∧ Q (xs.any fun y => feq y x)) ∨ ∃ d ds, dat S 60 x = some d ∧ xs.mapM (dat S 59) = some ds ∧ Q (ds.any fun z => PyData.eqv z d)))
    ∨ ∃ kvs k, Hm.dic S n = some kvs ∧ x.key = some k ∧ Q (lookK kvs k).isSome
  | _ => False

def mulOk (i j : Int) : Prop := i.natAbs.log2 + j.natAbs.log2 < 100000000
def divOk (j : Int) : Prop := 0 < j ∧ j.natAbs.log2 < 9000
def powOk (i j : Int) : Prop := 0 ≤ j ∧ j ≤ 1000000 ∧ i.natAbs < 2 ^ 64
def shlOk (i j : Int) : Prop := 0 ≤ j ∧ j ≤ 1000000 ∧ i.natAbs < 2 ^ 64

/-- a text n times -/
def strRep (a : String) : Nat → String
  | 0 => ""
  | n + 1 => strRep a n ++ a
def binW (op : Operator) (x y : Val) (S : Hm) (Q : Post) : Prop := match op, x, y with
  | .Add, .int i, .int j => Q (.int (i + j)) S
  | .Add, .str a, .str b => a.length + b.length ≤ sizeLine ∧ Q (.str (a ++ b)) S
  | .Add, .tup xs, .tup ys => xs.length + ys.length ≤ sizeLine ∧ Q (.tup (xs ++ ys)) S
  | .Add, .ref n, .ref m => ∃ xs ys, S[n]? = some (.lst xs) ∧ S[m]? = some (.lst ys) ∧ xs.length + ys.length ≤ sizeLine ∧ Q (.ref S.length) (S ++ [.lst (xs ++ ys)])
  | .Sub, .int i, .int j => Q (.int (i - j)) S
  | .Mult, .int i, .int j => mulOk i j ∧ Q (.int (i * j)) S
  | .Mult, .ref n, .int k => ∃ xs, S[n]? = some (.lst xs) ∧ -(2 ^ 63) ≤ k ∧ k < 2 ^ 63 ∧ xs.length * k.toNat ≤ sizeLine ∧ Q (.ref S.length) (S ++ [.lst (List.replicate k.toNat xs).flatten])
  | .Mult, .str a, .int k => -(2 ^ 63) ≤ k ∧ k ≤ 16777216 ∧ a.length * k.toNat ≤ 16777216 ∧ Q (.str (strRep a k.toNat)) S
  | .Mult, .tup xs, .int k => xs ≠ [] ∧ 0 ≤ k ∧ k ≤ 1000 ∧ xs.length ≤ 1000 ∧ Q (.tup (List.replicate k.toNat xs).flatten) S
  | .FloorDiv, .int i, .int j => divOk j ∧ Q (.int (i / j)) S
  | .Mod, .int i, .int j => 0 < j ∧ Q (.int (i % j)) S
  | .Pow, .int i, .int j => powOk i j ∧ Q (.int (i ^ j.toNat)) S
  | .LShift, .int i, .int j => shlOk i j ∧ Q (.int (i * 2 ^ j.toNat)) S
  | .RShift, .int i, .int j => 0 ≤ j ∧ Q (.int (i / 2 ^ j.toNat)) S
  | _, _, _ => False

/-- the same in place -/
def ibinW (op : Operator) (x y : Val) (S : Hm) (Q : Post) : Prop := match op, x, y with
  | .Add, .int i, .int j => Q (.int (i + j)) S
  | .Add, .str a, .str b => a.length + b.length ≤ sizeLine ∧ Q (.str (a ++ b)) S
  | .Sub, .int i, .int j => Q (.int (i - j)) S
  | .Add, .ref n, .ref m => ∃ xs ys, S[n]? = some (.lst xs) ∧ S[m]? = some (.lst ys) ∧ xs.length + ys.length ≤ sizeLine ∧ Q (.ref n) (S.set n (.lst (xs ++ ys)))
  | _, _, _ => False

/-- texts by their signs -/
def ltS (a b : String) : Bool := decide ((Str.ofString a).cps.toList < (Str.ofString b).cps.toList)
def cmpW (op : CmpOp) (x y : Val) (S : Hm) (Q : Bool → Prop) : Prop := match op with
  | .Eq => eqW x y S Q
  | .NotEq => eqW x y S fun b => Q (!b)
  | .In => inW x y S Q
  | .NotIn => inW x y S fun b => Q (!b)
  | .Lt => match x, y with
    | .int i, .int j => Q (decide (i < j))
    | .str a, .str b => Q (ltS a b)
    | _, _ => False
  | .LtE => match x, y with
    | .int i, .int j => Q (decide (i ≤ j))
    | _, _ => False
  | .Gt => match x, y with
    | .int i, .int j => Q (decide (j < i))
    | _, _ => False
  | .GtE => match x, y with
    | .int i, .int j => Q (decide (j ≤ i))
    | _, _ => False
  | _ => False

def subW (o i : Val) (S : Hm) (Q : Post) : Prop := match o, i with
  | .tup xs, .int k => ∃ v, atI xs k = some v ∧ Q v S
  | .str x, .int k => x.length ≤ sizeLine ∧ ∃ c, atI x.toList k = some c ∧ Q (.str (String.singleton c)) S
  | .ref n, k => (∃ xs j v, k = .int j ∧ Hm.lst S n = some xs ∧ atI xs j = some v ∧ Q v S) ∨ ∃ kvs q v, Hm.dic S n = some kvs ∧ k.key = some q ∧ lookK kvs q = some v ∧ Q v S
  | _, _ => False

def sliceW (o : Val) (lo hi : Option Int) (S : Hm) (Q : Post) : Prop := match o with
  | .tup xs => Q (.tup (cut xs lo hi)) S
  | .str x => x.length ≤ sizeLine ∧ Q (.str (String.ofList (cut x.toList lo hi))) S
  | .ref n => ∃ xs, Hm.lst S n = some xs ∧ Q (.ref S.length) (S ++ [.lst (cut xs lo hi)])
  | _ => False

def biW (f : Bi) (args : List Val) (S : Hm) (Q : Post) : Prop := match f, args with
  | .len, [x] => match x with
    | .str a => a.length ≤ sizeLine ∧ Q (.int a.length) S
    | .tup xs => Q (.int xs.length) S
    | .ref n => (∃ xs, Hm.lst S n = some xs ∧ Q (.int xs.length) S) ∨ ∃ kvs, S[n]? = some (.dic kvs) ∧ Q (.int kvs.length) S
    | _ => False
  | .abs, [.int i] => Q (.int (if i < 0 then -i else i)) S
  | .min, [.int i, .int j] => Q (.int (if j < i then j else i)) S
  | .max, [.int i, .int j] => Q (.int (if j > i then j else i)) S
  | .min, [.ref n] => ∃ ns : List Int, Hm.lst S n = some (ns.map Val.int) ∧ ns ≠ [] ∧ ∀ m, m ∈ ns → (∀ y, y ∈ ns → m ≤ y) → Q (.int m) S
  | .max, [.ref n] => ∃ ns : List Int, Hm.lst S n = some (ns.map Val.int) ∧ ns ≠ [] ∧ ∀ m, m ∈ ns → (∀ y, y ∈ ns → y ≤ m) → Q (.int m) S
  | .int, [.int i] => Q (.int i) S
  | .int, [.bl b] => Q (.int (if b then 1 else 0)) S
  | .int, [.str x] => ∃ n, PySem.intText? (Str.ofString x) = some n ∧ x.length ≤ 640 ∧ Q (.int n) S
  | .str, [.int i] => i.natAbs.log2 < 1920 ∧ Q (.str (toString i)) S
  | .str, [.str a] => Q (.str a) S
  | .list, [.tup xs] => Q (.ref S.length) (S ++ [.lst xs])
  | .list, [.ref n] => ∃ xs, Hm.lst S n = some xs ∧ Q (.ref S.length) (S ++ [.lst xs])
  | .tuple, [.tup xs] => Q (.tup xs) S
  | .tuple, [.ref n] => ∃ xs, Hm.lst S n = some xs ∧ Q (.tup xs) S
  | .dict, [.ref n] => ∃ kvs, Hm.dic S n = some kvs ∧ Q (.ref S.length) (S ++ [.dic kvs])
  | .sum, [.ref n] => ∃ ns : List Int, Hm.lst S n = some (ns.map Val.int) ∧ Q (.int ns.sum) S
  | .all, [.ref n] => ∃ bs : List Bool, Hm.lst S n = some (bs.map Val.bl) ∧ Q (.bl (bs.all id)) S
  | .any, [.ref n] => ∃ bs : List Bool, Hm.lst S n = some (bs.map Val.bl) ∧ Q (.bl (bs.any id)) S
  | .sorted, [.ref n] => (∃ ns : List Int, Hm.lst S n = some (ns.map Val.int) ∧ ∀ ns' : List Int, ns'.Perm ns → ns'.Pairwise (· ≤ ·) → Q (.ref S.length) (S ++ [.lst (ns'.map Val.int)])) ∨
    ∃ (kvs : List (Key × Val)) (ks : List String), Hm.dic S n = some kvs ∧ kvs.map (·.1) = ks.map Sum.inr ∧ ks.length < 64 ∧ ∀ ks' : List String, ks'.Perm ks → Q (.ref S.length) (S ++ [.lst (ks'.map Val.str)])
  | .listD, [.ref n] => ∃ kvs, Hm.dic S n = some kvs ∧ Q (.ref S.length) (S ++ [.lst (kvs.map fun kv => kv.1.val)])
  | .sortedS, [.ref n] => ∃ ks : List String, Hm.lst S n = some (ks.map Val.str) ∧ ks.length < 64 ∧ ∀ ks' : List String, ks'.Perm ks → Q (.ref S.length) (S ++ [.lst (ks'.map Val.str)])
  | _, _ => False

/-- how many are true -/
def onesB : List Bool → Int
  | [] => 0
  | b :: r => (if b then 1 else 0) + onesB r
def pairL : List Val → List Val → List Val
  | x :: xs, y :: ys => .tup [x, y] :: pairL xs ys
  | _, _ => []
def ltOf (v : Val) (S : Hm) (K : List Val → (Hm → Prop) → Prop) : Prop := match v with
  | .tup xs => K xs fun _ => True
  | .ref n => ∃ xs, Hm.lst S n = some xs ∧ K xs fun S => Hm.lst S n = some xs
  | _ => False
def viW (f : Vi) (args : List Val) (S : Hm) (Q : Post) : Prop := match f, args with
  | .listRev, [.tup xs] => Q (.ref S.length) (S ++ [.lst xs.reverse])
  | .tupRev, [.ref n] => ∃ xs, Hm.lst S n = some xs ∧ Q (.tup xs.reverse) S
  | .dictL, [.ref n] => Hm.lst S n = some [] ∧ Q (.ref S.length) (S ++ [.dic []])
  | .listZip, [x, y] => ltOf x S fun xs _ => ltOf y S fun ys _ => Q (.ref S.length) (S ++ [.lst (pairL xs ys)])
  | .sumInts, [.ref n] => ∃ bs : List Bool, Hm.lst S n = some (bs.map Val.bl) ∧ Q (.int (onesB bs)) S
  | .dictP, [.ref n] => ∃ ps : List (Key × Val), Hm.lst S n = some (ps.map fun p => .tup [p.1.val, p.2]) ∧ ps.length ≤ 1000 ∧ Q (.ref S.length) (S ++ [.dic (ps.foldl (fun d p => putK d p.1 p.2) [])])
  | .dictZ, [x, y] => ltOf x S fun xs _ => ltOf y S fun ys _ => ∃ ps : List (Key × Val), pairL xs ys = (ps.map fun p => .tup [p.1.val, p.2]) ∧ Q (.ref S.length) (S ++ [.dic (ps.foldl (fun d p => putK d p.1 p.2) [])])
  | .listItems, [.ref n] => ∃ kvs, S[n]? = some (.dic kvs) ∧ Q (.ref S.length) (S ++ [.lst (kvs.map fun p => .tup [p.1.val, p.2])])
  | _, _ => False
/-- which objects a method belongs to, and what it does -/
def bmT (m : Bm) (o : Val) (S : Hm) : Prop := match m with
  | .append | .extend | .insert | .reverse | .count | .index | .clear => ∃ n xs, o = .ref n ∧ Hm.lst S n = some xs
  | .pop => ∃ n xs, o = .ref n ∧ Hm.lst S n = some xs
  | .startswith | .split | .join | .isupper | .upper | .replace => ∃ x, o = .str x
  | .dclear | .get | .setdefault | .update | .dpop => ∃ n kvs, o = .ref n ∧ S[n]? = some (.dic kvs)
def bmW (m : Bm) (o : Val) (args : List Val) (S : Hm) (Q : Post) : Prop := match m, o, args with
  | .append, .ref n, [y] => ∃ xs, S[n]? = some (.lst xs) ∧ xs.length < sizeLine ∧ Q .non (S.set n (.lst (xs ++ [y])))
  | .extend, .ref n, [.ref b] => ∃ xs ys, S[n]? = some (.lst xs) ∧ S[b]? = some (.lst ys) ∧ xs.length + ys.length ≤ sizeLine ∧ Q .non (S.set n (.lst (xs ++ ys)))
  | .pop, .ref n, [] => ∃ xs y, S[n]? = some (.lst xs) ∧ xs[xs.length - 1]? = some y ∧ Q y (S.set n (.lst xs.dropLast))
  | .pop, .ref n, [.int i] => ∃ xs k y, S[n]? = some (.lst xs) ∧ ixN xs.length i = some k ∧ xs.length ≤ sizeLine ∧ xs[k]? = some y ∧ Q y (S.set n (.lst (xs.eraseIdx k)))
  | .insert, .ref n, [.int i, y] => ∃ xs, S[n]? = some (.lst xs) ∧ xs.length < sizeLine ∧ 0 ≤ i ∧ i < 2 ^ 63 ∧ Q .non (S.set n (.lst (xs.take i.toNat ++ [y] ++ xs.drop i.toNat)))
  | .reverse, .ref n, [] => ∃ xs, S[n]? = some (.lst xs) ∧ Q .non (S.set n (.lst xs.reverse))
  | .index, .ref n, [y] => ∃ xs j z, Hm.lst S n = some xs ∧ flat y = true ∧ xs.all flat = true ∧ xs[j]? = some z ∧ feq z y = true ∧ (∀ (m : Nat) (z' : Val), m < j → xs[m]? = some z' → feq z' y = false) ∧ Q (.int (j : Nat)) S
  | .count, .ref n, [y] => ∃ xs, Hm.lst S n = some xs ∧ flat y = true ∧ xs.all flat = true ∧ Q (.int (xs.countP fun z => feq z y : Nat)) S
  | .dclear, .ref n, [] => ∃ kvs, S[n]? = some (.dic kvs) ∧ Q .non (S.set n (.dic []))
  | .get, .ref n, [k] => ∃ kvs q, Hm.dic S n = some kvs ∧ k.key = some q ∧ Q ((lookK kvs q).getD .non) S
  | .get, .ref n, [k, d] => ∃ kvs q, Hm.dic S n = some kvs ∧ k.key = some q ∧ Q ((lookK kvs q).getD d) S
  | .setdefault, .ref n, [k, d] => ∃ kvs q, S[n]? = some (.dic kvs) ∧ k.key = some q ∧ kvs.length < sizeLine ∧ (∀ v, lookK kvs q = some v → Q v S) ∧ (lookK kvs q = none → Q d (S.set n (.dic (putK kvs q d))))
  | .startswith, .str a, [.str b] => Q (.bl (Txt.startswith (Str.ofString a) (Str.ofString b))) S
  | .split, .str a, [.str b] => ∃ ys : List String, Txt.split (Str.ofString a) (Str.ofString b) = ys.map Str.ofString ∧ b.length ≠ 0 ∧ a.length + 2 ≤ sizeLine ∧ Q (.ref S.length) (S ++ [.lst (ys.map Val.str)])
  | .split, .str a, [] => ∃ ys : List String, Txt.words (Str.ofString a) = ys.map Str.ofString ∧ a.length + 2 ≤ sizeLine ∧ Q (.ref S.length) (S ++ [.lst (ys.map Val.str)])
  | .join, .str a, [.ref n] => ∃ (ys : List String) (y : String), Hm.lst S n = some (ys.map Val.str) ∧ Txt.join (Str.ofString a) (ys.map Str.ofString) = Str.ofString y ∧ (ys.map String.length).sum + ys.length * a.length ≤ 16777216 ∧ Q (.str y) S
  | .isupper, .str a, [] => Q (.bl (Txt.isupper (Str.ofString a))) S
  | .upper, .str a, [] => ∃ y : String, Txt.upper (Str.ofString a) = Str.ofString y ∧ a.length ≤ 5592405 ∧ Q (.str y) S
  | .update, .ref n, [.ref k] => ∃ (kvs ps : List (Key × Val)), S[n]? = some (.dic kvs) ∧ Hm.lst S k = some (ps.map fun p => .tup [p.1.val, p.2]) ∧ kvs.length + ps.length ≤ sizeLine ∧ Q .non (S.set n (.dic (ps.foldl (fun d p => putK d p.1 p.2) kvs)))
  | .dpop, .ref n, [k] => ∃ kvs q v, S[n]? = some (.dic kvs) ∧ k.key = some q ∧ lookK kvs q = some v ∧ Q v (S.set n (.dic (dropK kvs q)))
  | _, _, _ => False

/-- o[i] = v -/
def setW (o i v : Val) (S : Hm) (Q : Hm → Prop) : Prop := match o with
  | .ref n => (∃ xs k j, S[n]? = some (.lst xs) ∧ i = .int k ∧ ixN xs.length k = some j ∧ Q (S.set n (.lst (xs.set j v)))) ∨ ∃ kvs q, S[n]? = some (.dic kvs) ∧ i.key = some q ∧ kvs.length < sizeLine ∧ Q (S.set n (.dic (putK kvs q v)))
  | _ => False

def isTy (v : Val) (S : Hm) : Ty → Option Bool
  | .int => match v with
    | .int _ | .bl _ => some true
    | .exc _ => none
    | _ => some false
  | .bool => match v with
    | .bl _ => some true
    | .exc _ => none
    | _ => some false
  | .str => match v with
    | .str _ => some true
    | .exc _ => none
    | _ => some false
  | .tuple => match v with
    | .tup _ => some true
    | .exc _ => none
    | _ => some false
  | .list => match v with
    | .ref n => match S[n]? with
      | some (.lst _) | some (.lck (.lst _)) => some true
      | some (.dic _) | some (.lck (.dic _)) | some (.ins _ _) => some false
      | _ => none
    | .exc _ => none
    | _ => some false
  | .dict => match v with
    | .ref n => match S[n]? with
      | some (.dic _) | some (.lck (.dic _)) => some true
      | some (.lst _) | some (.lck (.lst _)) | some (.ins _ _) => some false
      | _ => none
    | .exc _ => none
    | _ => some false
  | .cls c => match v with
    | .ref n => match S[n]? with
      | some (.ins c' _) => some (c' == c)
      | some (.dic _) | some (.lst _) => some false
      | _ => none
    | .exc _ => none
    | _ => some false
  | .exc _ sb => match v with
    | .exc c => some (decide (c ∈ sb))
    | _ => none

def tgW : Tg → Val → Env → (Env → Prop) → Prop
  | .nm i, v, env, K => K (es env i (some v))
  | .tp is, v, env, K => ∃ xs, v = .tup xs ∧ xs.length = is.length ∧ K ((is.zip xs).foldl (fun e p => es e p.1 (some p.2)) env)

/-- a comprehension's turns -/
def lcLoop (turn : Val → Hm → (Option Val → Hm → Prop) → Prop) (guard : Hm → Prop) : List Val → List Val → Hm → (List Val → Hm → Prop) → Prop
  | [], acc, S, Q => guard S ∧ Q acc S
  | v :: vs, acc, S, Q => guard S ∧ turn v S fun r S1 => match r with
    | some x => acc.length < sizeLine ∧ lcLoop turn guard vs (acc ++ [x]) S1 Q
    | none => lcLoop turn guard vs acc S1 Q

def rangeL (lo step : Int) : Nat → List Val
  | 0 => []
  | n + 1 => .int lo :: rangeL (lo + step) step n
def enumL : Nat → List Val → List Val
  | _, [] => []
  | i, x :: xs => .tup [.int (i : Nat), x] :: enumL (i + 1) xs
/-- what a list or tuple holds, and what must stay -/
def seqOf (v : Val) (S : Hm) (K : List Val → (Hm → Prop) → Prop) : Prop := match v with
  | .tup xs => K xs fun _ => True
  | .ref n => ∃ xs, Hm.lst S n = some xs ∧ K xs fun S => Hm.lst S n = some xs
  | .str x => K (x.toList.map fun c => .str (String.singleton c)) fun _ => True
  | _ => False
def lstOf (v : Val) (S : Hm) (K : List Val → (Hm → Prop) → Prop) : Prop := match v with
  | .ref n => ∃ xs, Hm.lst S n = some xs ∧ K xs fun S => Hm.lst S n = some xs
  | _ => False
def zipOf (v w : Val) (S : Hm) (K : List Val → (Hm → Prop) → Prop) : Prop := ltOf v S fun xs g => ltOf w S fun ys g' => K (pairL xs ys) fun S => g S ∧ g' S
def rOk (j : Int) : Prop := -(2 ^ 62) ≤ j ∧ j < 2 ^ 62

section
variable (G : String → Option Val) (C : CallW)
mutual
def wE : XPost → E → Env → Hm → Post → Prop
  | X, .loc i, env, S, Q => ∃ v, eg env i = some v ∧ Q v S
  | X, .lit c, _, S, Q => Q c.val S
  | X, .con x, _, S, Q => ∃ v, G x = some v ∧ Q v S
  | X, .bin op a b, env, S, Q => wE X a env S fun x S1 => wE X b env S1 fun y S2 => binW op x y S2 Q
  | X, .neg a, env, S, Q => wE X a env S fun x S1 => ∃ i, x = .int i ∧ Q (.int (-i)) S1
  | X, .cmp op a b, env, S, Q => wE X a env S fun x S1 => wE X b env S1 fun y S2 => cmpW op x y S2 fun r => Q (.bl r) S2
  | X, .cmp2 op op' a b c, env, S, Q => wE X a env S fun x S1 => wE X b env S1 fun y S2 => cmpW op x y S2 fun r => if r = true then wE X c env S2 fun z S3 => cmpW op' y z S3 fun r' => Q (.bl r') S3 else Q (.bl false) S2
  | X, .isN a, env, S, Q => wE X a env S fun x S1 => Q (.bl (match x with | .non => true | _ => false)) S1
  | X, .notN a, env, S, Q => wE X a env S fun x S1 => Q (.bl (match x with | .non => false | _ => true)) S1
  | X, .isB a b, env, S, Q => wE X a env S fun x S1 => ∃ c, x = .bl c ∧ Q (.bl (c == b)) S1
  | X, .not a, env, S, Q => wE X a env S fun x S1 => ∃ b, x = .bl b ∧ Q (.bl (!b)) S1
  | X, .and a b, env, S, Q => wE X a env S fun x S1 => ∃ c, x = .bl c ∧ if c = true then wE X b env S1 Q else Q (.bl false) S1
  | X, .or a b, env, S, Q => wE X a env S fun x S1 => ∃ c, x = .bl c ∧ if c = true then Q (.bl true) S1 else wE X b env S1 Q
  | X, .ite c a b, env, S, Q => wT X c env S fun r S1 => if r = true then wE X a env S1 Q else wE X b env S1 Q
  | X, .tup es, env, S, Q => wEs X es env S fun vs S1 => vs.length ≤ sizeLine ∧ Q (.tup vs) S1
  | X, .lst es, env, S, Q => wEs X es env S fun vs S1 => vs.length ≤ sizeLine ∧ Q (.ref S1.length) (S1 ++ [.lst vs])
  | X, .dic ps, env, S, Q => wPs X ps env S fun kvs S1 => Q (.ref S1.length) (S1 ++ [.dic (kvs.foldl (fun d p => putK d p.1 p.2) [])])
  | X, .call f es, env, S, Q => wEs X es env S fun vs S1 => C (.f f) vs S1 Q X
  | X, .make c es, env, S, Q => wEs X es env S fun vs S1 => C (.m c "__init__") (.ref S1.length :: vs) (S1 ++ [.ins c []]) (fun v S2 => v = .non ∧ Q (.ref S1.length) S2) X
  | X, .meth c m o es, env, S, Q => wE X o env S fun x S1 => ∃ n fs, x = .ref n ∧ S1[n]? = some (.ins c fs) ∧ fs.lookup m = none ∧ wEs X es env S1 fun vs S2 => C (.m c m) (x :: vs) S2 Q X
  | X, .fld o f, env, S, Q => wE X o env S fun x S1 => ∃ n c fs v, x = .ref n ∧ S1[n]? = some (.ins c fs) ∧ fs.lookup f = some v ∧ Q v S1
  | X, .sub o i, env, S, Q => wE X o env S fun x S1 => wE X i env S1 fun y S2 => subW x y S2 Q
  | X, .slice o lo hi, env, S, Q => wE X o env S fun x S1 => wO X lo env S1 fun a S2 => wO X hi env S2 fun b S3 => sliceW x a b S3 Q
  | X, .bi f es, env, S, Q => wEs X es env S fun vs S1 => biW f vs S1 Q
  | X, .vi f es, env, S, Q => wEs X es env S fun vs S1 => viW f vs S1 Q
  | X, .bm m o es, env, S, Q => wE X o env S fun x S1 => bmT m x S1 ∧ wEs X es env S1 fun vs S2 => bmW m x vs S2 Q
  | X, .isi a ts, env, S, Q => wE X a env S fun x S1 => ∃ bs, ts.mapM (isTy x S1) = some bs ∧ Q (.bl (bs.any id)) S1
  | X, .lc elt tg src cond own, env, S, Q => wSrc X src env S fun items guard S1 =>
      lcLoop (fun v S K => tgW tg v (ewipe env (own.map (·.2))) fun env2 => wC X cond env2 S fun b S2 => if b = true then wE X elt env2 S2 fun x S3 => K (some x) S3 else K none S2) guard items [] S1
        fun acc S2 => Q (.ref S2.length) (S2 ++ [.lst acc])
  | X, .lck i e, env, S, Q => ∃ n kvs, eg env i = some (.ref n) ∧ S[n]? = some (.dic kvs) ∧ wE X e env (S.set n (.lck (.dic kvs))) fun v S' => S'[n]? = some (.lck (.dic kvs)) ∧ Q v (S'.set n (.dic kvs))
  | X, .lckA e, env, S, Q => ∃ n kvs, S[n]? = some (.dic kvs) ∧ wE X e env (S.set n (.lck (.dic kvs))) fun v S' => S'[n]? = some (.lck (.dic kvs)) ∧ Q v (S'.set n (.dic kvs))
def wEs : XPost → Es → Env → Hm → (List Val → Hm → Prop) → Prop
  | X, .nil, _, S, Q => Q [] S
  | X, .cons e es, env, S, Q => wE X e env S fun x S1 => wEs X es env S1 fun xs S2 => Q (x :: xs) S2
def wPs : XPost → Ps → Env → Hm → (List (Key × Val) → Hm → Prop) → Prop
  | X, .nil, _, S, Q => Q [] S
  | X, .cons k v ps, env, S, Q => wE X k env S fun x S1 => wE X v env S1 fun y S2 => ∃ q, x.key = some q ∧ wPs X ps env S2 fun r S3 => Q ((q, y) :: r) S3
def wO : XPost → Oe → Env → Hm → (Option Int → Hm → Prop) → Prop
  | X, .none, _, S, Q => Q none S
  | X, .some e, env, S, Q => wE X e env S fun x S1 => ∃ i, x = .int i ∧ Q (some i) S1
/-- a comprehension's test -/
def wC : XPost → Ot → Env → Hm → (Bool → Hm → Prop) → Prop
  | X, .none, _, S, Q => Q true S
  | X, .some t, env, S, Q => wT X t env S Q
def wT : XPost → T → Env → Hm → (Bool → Hm → Prop) → Prop
  | X, .v e, env, S, Q => wE X e env S fun x S1 => ∃ b, truth x S1 = some b ∧ Q b S1
  | X, .not a, env, S, Q => wT X a env S fun b S1 => Q (!b) S1
  | X, .and a b, env, S, Q => wT X a env S fun c S1 => if c = true then wT X b env S1 Q else Q false S1
  | X, .or a b, env, S, Q => wT X a env S fun c S1 => if c = true then Q true S1 else wT X b env S1 Q
def wSrc : XPost → Src → Env → Hm → (List Val → (Hm → Prop) → Hm → Prop) → Prop
  | X, .seq e, env, S, K => wE X e env S fun x S1 => seqOf x S1 fun items guard => K items guard S1
  | X, .rng1 a, env, S, K => wE X a env S fun x S1 => ∃ j, x = .int j ∧ rOk j ∧ K (rangeL 0 1 j.toNat) (fun _ => True) S1
  | X, .rng2 a b, env, S, K => wE X a env S fun x S1 => wE X b env S1 fun y S2 => ∃ i j, x = .int i ∧ y = .int j ∧ rOk i ∧ rOk j ∧ K (rangeL i 1 (j - i).toNat) (fun _ => True) S2
  | X, .enum a, env, S, K => wE X a env S fun x S1 => ltOf x S1 fun items guard => K (enumL 0 items) guard S1
  | X, .zip a b, env, S, K => wE X a env S fun x S1 => wE X b env S1 fun y S2 => zipOf x y S2 fun items guard => K items guard S2
  | X, .rev a, env, S, K => wE X a env S fun x S1 => ltOf x S1 fun items guard => K items.reverse guard S1
  | X, .keys a, env, S, K => wE X a env S fun x S1 => ∃ n kvs, x = .ref n ∧ S1[n]? = some (.lck (.dic kvs)) ∧ K (kvs.map (·.1.val)) (fun S => S[n]? = some (.lck (.dic kvs))) S1
  | X, .values a, env, S, K => wE X a env S fun x S1 => ∃ n kvs, x = .ref n ∧ S1[n]? = some (.lck (.dic kvs)) ∧ K (kvs.map (·.2)) (fun S => S[n]? = some (.lck (.dic kvs))) S1
  | X, .items a, env, S, K => wE X a env S fun x S1 => ∃ n kvs, x = .ref n ∧ S1[n]? = some (.lck (.dic kvs)) ∧ K (kvs.map fun p => .tup [p.1.val, p.2]) (fun S => S[n]? = some (.lck (.dic kvs))) S1
  | _, _, _, _, _ => False
end

/-- what is wanted behind a statement -/
structure Sp where
  nx : Env → Hm → Prop
  rt : Post
  ct : Env → Hm → Prop := fun _ _ => False
/-- .. where the dict at n stays as it is -/
def lckD (n : Nat) (kvs : List (Key × Val)) (D : Sp) : Sp :=
  { nx := fun env' S' => S'[n]? = some (.lck (.dic kvs)) ∧ D.nx env' (S'.set n (.dic kvs)), rt := fun v S' => S'[n]? = some (.lck (.dic kvs)) ∧ D.rt v (S'.set n (.dic kvs)), ct := fun env' S' => S'[n]? = some (.lck (.dic kvs)) ∧ D.ct env' (S'.set n (.dic kvs)) }
def forL (tg : Tg) (guard : Hm → Prop) (body : Sp → Env → Hm → Prop) (D : Sp) : List Val → Env → Hm → Prop
  | [], env, S => guard S ∧ D.nx env S
  | v :: vs, env, S => guard S ∧ tgW tg v env fun env2 => body { nx := forL tg guard body D vs, rt := D.rt, ct := forL tg guard body D vs } env2 S
def whileN (c : Env → Hm → (Bool → Hm → Prop) → Prop) (body : Sp → Env → Hm → Prop) (D : Sp) : Nat → Env → Hm → Prop
  | 0, _, _ => False
  | n + 1, env, S => c env S fun b S1 => if b = true then body { nx := whileN c body D n, rt := D.rt, ct := whileN c body D n } env S1 else D.nx env S1
mutual
/-- no exception within -/
def Val.fr : Val → Bool
  | .exc _ => false
  | .tup xs => Val.frs xs
  | _ => true
def Val.frs : List Val → Bool
  | [] => true
  | x :: xs => x.fr && Val.frs xs
end
def Ob.fr : Ob → Bool
  | .lst xs => Val.frs xs
  | .dic kvs => kvs.all fun p => p.2.fr
  | .ins _ fs => fs.all fun p => p.2.fr
  | .lck o => o.fr
/-- what an except suite may leave: new objects without exceptions, slots without them -/
def back (i : Nat) (env : Env) (S : Hm) (env' : Env) (S' : Hm) : Prop := (∃ l : Hm, S' = S ++ l ∧ l.all Ob.fr = true) ∧ env'.length = env.length ∧ ∀ j v, j ≠ i → eg env' j = some v → eg env j = some v ∨ v.fr = true
/-- an exception of class c leaves, where the names are so -/
abbrev XS := String → Env → Hm → Prop
end
section
variable (G : String → Option Val) (sub : String → String → Bool) (C : CallW)
mutual
def wS : St → XS → Sp → Env → Hm → Prop
  | .set i e, X, D, env, S => wE G C (fun c S' => X c env S') e env S fun v S1 => D.nx (es env i (some v)) S1
  | .setT is e, X, D, env, S => wE G C (fun c S' => X c env S') e env S fun v S1 => tgW (.tp is) v env fun env2 => D.nx env2 S1
  | .setL is e, X, D, env, S => wE G C (fun c S' => X c env S') e env S fun v S1 => ∃ n xs, v = .ref n ∧ Hm.lst S1 n = some xs ∧ xs.length = is.length ∧ D.nx ((is.zip xs).foldl (fun e p => es e p.1 (some p.2)) env) S1
  | .par is es', X, D, env, S => wEs G C (fun c S' => X c env S') es' env S fun vs S1 => vs.length = is.length ∧ D.nx ((is.zip vs).foldl (fun e p => es e p.1 (some p.2)) env) S1
  | .setI o i e, X, D, env, S => wE G C (fun c S' => X c env S') e env S fun v S1 => wE G C (fun c S' => X c env S') o env S1 fun x S2 => wE G C (fun c S' => X c env S') i env S2 fun y S3 => setW x y v S3 fun S4 => D.nx env S4
  | .setF o f e, X, D, env, S => wE G C (fun c S' => X c env S') e env S fun v S1 => wE G C (fun c S' => X c env S') o env S1 fun x S2 => ∃ n c fs, x = .ref n ∧ S2[n]? = some (.ins c fs) ∧ fs.length < 1000 ∧ D.nx env (S2.set n (.ins c (putF f v fs)))
  | .aug i op e, X, D, env, S => ∃ x, eg env i = some x ∧ wE G C (fun c S' => X c env S') e env S fun y S1 => ibinW op x y S1 fun z S2 => D.nx (es env i (some z)) S2
  | .augI o i op e, X, D, env, S => wE G C (fun c S' => X c env S') o env S fun x S1 => wE G C (fun c S' => X c env S') i env S1 fun y S2 => (∃ n, x = .ref n) ∧ subW x y S2 fun old S3 => wE G C (fun c S' => X c env S') e env S3 fun z S4 => ibinW op old z S4 fun r S5 => setW x y r S5 fun S6 => D.nx env S6
  | .augF o f op e, X, D, env, S => wE G C (fun c S' => X c env S') o env S fun x S1 => ∃ n c fs v, x = .ref n ∧ S1[n]? = some (.ins c fs) ∧ fs.lookup f = some v ∧ wE G C (fun c S' => X c env S') e env S1 fun z S2 => ibinW op v z S2 fun r S3 => ∃ fs', S3[n]? = some (.ins c fs') ∧ fs'.length < 1000 ∧ D.nx env (S3.set n (.ins c (putF f r fs')))
  | .expr e, X, D, env, S => wE G C (fun c S' => X c env S') e env S fun _ S1 => D.nx env S1
  | .ret e, X, D, env, S => wE G C (fun c S' => X c env S') e env S D.rt
  | .retN, _, D, _, S => D.rt .non S
  | .ife c a b, X, D, env, S => wT G C (fun c S' => X c env S') c env S fun r S1 => if r = true then wSs a X D env S1 else wSs b X D env S1
  | .for tg src body, X, D, env, S => wSrc G C (fun c S' => X c env S') src env S fun items guard S1 => forL tg guard (wSs body X) D items env S1
  | .while c body, X, D, env, S => ∃ n, whileN (fun env S K => wT G C (fun c S' => X c env S') c env S K) (wSs body X) D n env S
  | .raise c, X, _, env, S => X c env S
  | .try body hs orelse, X, D, env, S => wSs body (fun c env' S' => sub c c = true ∧ wHs c hs X D env' S') { nx := fun env' S' => wSs orelse X D env' S', rt := D.rt, ct := D.ct } env S
  | .cont, _, D, env, S => D.ct env S
  | .pass, _, D, env, S => D.nx env S
  | .lck i s, X, D, env, S => ∃ n kvs, eg env i = some (.ref n) ∧ S[n]? = some (.dic kvs) ∧ wS s X (lckD n kvs D) env (S.set n (.lck (.dic kvs)))
def wSs : Sts → XS → Sp → Env → Hm → Prop
  | .nil, _, D, env, S => D.nx env S
  | .cons s ss, X, D, env, S => wS s X { nx := fun env' S' => wSs ss X D env' S', rt := D.rt, ct := D.ct } env S
def wHs (c : String) : Hs → XS → Sp → Env → Hm → Prop
  | .nil, X, _, env, S => X c env S
  | .cons h i body rest, X, D, env, S => if sub c h = true then (match i with
      | none => wSs body X D env S
      | some i => wSs body (fun _ _ _ => False) { nx := fun env' S' => back i env S env' S' ∧ D.nx (es env' i none) S', rt := fun _ _ => False } (es env i (some (.exc c))) S) else wHs c rest X D env S
end
end
end Mi

set_option maxHeartbeats 2000000
namespace Mi
open PySem
section
variable {Q Q' : Post} {x y z : Val} {S : Hm}
theorem eqD_mono {Q Q' : Bool → Prop} (hq : ∀ b, Q b → Q' b) (h : eqD x y S Q) : eqD x y S Q' := by
  revert h
  unfold eqD
  split
  · rintro ⟨ks, ls, b, h1, h2, h3, h4⟩
    exact ⟨ks, ls, b, h1, h2, h3, hq _ h4⟩
  · exact fun h => h
theorem eqW_mono {Q Q' : Bool → Prop} (hq : ∀ b, Q b → Q' b) (h : eqW x y S Q) : eqW x y S Q' := by
  rcases h with ⟨d, e, h1, h2, h3⟩ | h
  · exact .inl ⟨d, e, h1, h2, hq _ h3⟩
  · exact .inr (eqD_mono hq h)
theorem inW_mono {Q Q' : Bool → Prop} (hq : ∀ b, Q b → Q' b) (h : inW x y S Q) : inW x y S Q' := by
  revert h
  unfold inW
  cases y with
  | str b =>
    cases x with
    | str a =>
      intro h
      rcases h with ⟨c, h1, h2⟩ | h
      · exact .inl ⟨c, h1, hq _ h2⟩
      · exact .inr (hq _ h)
    | _ => intro h; exact h.elim
  | tup xs => exact fun h => ⟨h.1, h.2.1, hq _ h.2.2⟩
  | ref n =>
    intro h
    rcases h with ⟨xs, h1, ⟨h2, h3, h4⟩ | ⟨d, ds, h2, h3, h4⟩⟩ | ⟨kvs, k, h1, h2, h3⟩
    · exact .inl ⟨xs, h1, .inl ⟨h2, h3, hq _ h4⟩⟩
    · exact .inl ⟨xs, h1, .inr ⟨d, ds, h2, h3, hq _ h4⟩⟩
    · exact .inr ⟨kvs, k, h1, h2, hq _ h3⟩
  | _ => intro h; exact h.elim
theorem binW_mono {op : Operator} (hq : ∀ v S, Q v S → Q' v S) (h : binW op x y S Q) : binW op x y S Q' := by
  revert h
  unfold binW
  split <;> intro h <;> grind
theorem ibinW_mono {op : Operator} (hq : ∀ v S, Q v S → Q' v S) (h : ibinW op x y S Q) : ibinW op x y S Q' := by
  revert h
  unfold ibinW
  split <;> intro h <;> grind
theorem cmpW_mono {op : CmpOp} {Q Q' : Bool → Prop} (hq : ∀ b, Q b → Q' b) (h : cmpW op x y S Q) : cmpW op x y S Q' := by
  revert h
  unfold cmpW
  cases op <;> intro h
  case Eq => exact eqW_mono hq h
  case NotEq => exact eqW_mono (fun b => hq _) h
  case In => exact inW_mono hq h
  case NotIn => exact inW_mono (fun b => hq _) h
  all_goals grind
theorem subW_mono (hq : ∀ v S, Q v S → Q' v S) (h : subW x y S Q) : subW x y S Q' := by
  revert h
  unfold subW
  split <;> intro h <;> grind
theorem sliceW_mono {lo hi : Option Int} (hq : ∀ v S, Q v S → Q' v S) (h : sliceW x lo hi S Q) : sliceW x lo hi S Q' := by
  revert h
  unfold sliceW
  split <;> intro h <;> grind
theorem biW_mono {f : Bi} {args : List Val} (hq : ∀ v S, Q v S → Q' v S) (h : biW f args S Q) : biW f args S Q' := by
  revert h
  unfold biW
  split <;> intro h <;> grind
theorem bmW_mono {m : Bm} {args : List Val} (hq : ∀ v S, Q v S → Q' v S) (h : bmW m x args S Q) : bmW m x args S Q' := by
  revert h
  unfold bmW
  split <;> intro h <;> grind
theorem setW_mono {Q Q' : Hm → Prop} (hq : ∀ S, Q S → Q' S) (h : setW x y z S Q) : setW x y z S Q' := by
  revert h
  unfold setW
  split <;> intro h <;> grind
theorem tgW_mono {tg : Tg} {e : Env} {K K' : Env → Prop} (hq : ∀ e, K e → K' e) (h : tgW tg x e K) : tgW tg x e K' := by
  revert h
  unfold tgW
  split <;> intro h <;> grind
theorem seqOf_mono {K K' : List Val → (Hm → Prop) → Prop} (hq : ∀ xs g, K xs g → K' xs g) (h : seqOf x S K) : seqOf x S K' := by
  revert h
  unfold seqOf
  split <;> intro h <;> grind
theorem ltOf_mono {K K' : List Val → (Hm → Prop) → Prop} (hq : ∀ xs g, K xs g → K' xs g) (h : ltOf x S K) : ltOf x S K' := by
  revert h
  unfold ltOf
  split <;> intro h
  · exact hq _ _ h
  · exact let ⟨xs, h1, h2⟩ := h; ⟨xs, h1, hq _ _ h2⟩
  · exact h
theorem viW_mono {f : Vi} {vs : List Val} {S : Hm} {Q Q' : Post} (hq : ∀ v S, Q v S → Q' v S) (h : viW f vs S Q) : viW f vs S Q' := by
  revert h
  unfold viW
  split <;> intro h
  · exact hq _ _ h
  · obtain ⟨xs, h1, h2⟩ := h
    exact ⟨xs, h1, hq _ _ h2⟩
  · exact ⟨h.1, hq _ _ h.2⟩
  · exact ltOf_mono (fun _ _ h => ltOf_mono (fun _ _ h => hq _ _ h) h) h
  · obtain ⟨bs, h1, h2⟩ := h
    exact ⟨bs, h1, hq _ _ h2⟩
  · obtain ⟨ps, h1, h2, h3⟩ := h
    exact ⟨ps, h1, h2, hq _ _ h3⟩
  · exact ltOf_mono (fun _ _ h => ltOf_mono (fun _ _ h => let ⟨ps, h1, h2⟩ := h; ⟨ps, h1, hq _ _ h2⟩) h) h
  · obtain ⟨kvs, h1, h2⟩ := h
    exact ⟨kvs, h1, hq _ _ h2⟩
  · exact h
theorem zipOf_mono {y : Val} {K K' : List Val → (Hm → Prop) → Prop} (hq : ∀ xs g, K xs g → K' xs g) (h : zipOf x y S K) : zipOf x y S K' :=
  ltOf_mono (fun _ _ h => ltOf_mono (fun _ _ h => hq _ _ h) h) h
theorem lstOf_mono {K K' : List Val → (Hm → Prop) → Prop} (hq : ∀ xs g, K xs g → K' xs g) (h : lstOf x S K) : lstOf x S K' := by
  revert h
  unfold lstOf
  split <;> intro h <;> grind
theorem lcLoop_mono {turn turn' : Val → Hm → (Option Val → Hm → Prop) → Prop} {guard : Hm → Prop} (ht : ∀ v S K K', (∀ r S, K r S → K' r S) → turn v S K → turn' v S K') : ∀ {vs acc : List Val} {S : Hm} {Q Q' : List Val → Hm → Prop}, (∀ a S, Q a S → Q' a S) → lcLoop turn guard vs acc S Q → lcLoop turn' guard vs acc S Q'
  | [], acc, S, Q, Q', hq, h => ⟨h.1, hq _ _ h.2⟩
  | v :: vs, acc, S, Q, Q', hq, h => by
    refine ⟨h.1, ht _ _ _ _ (fun r S1 h1 => ?_) h.2⟩
    cases r with
    | none => exact lcLoop_mono ht hq h1
    | some x => exact ⟨h1.1, lcLoop_mono ht hq h1.2⟩
end
/-- a call's reading, with more wished for -/
def CMono (C : CallW) : Prop := ∀ f vs S Q Q' X X', (∀ v S, Q v S → Q' v S) → (∀ c S, X c S → X' c S) → C f vs S Q X → C f vs S Q' X'
section
variable {G : String → Option Val} {C : CallW} (hC : CMono C)
include hC
mutual
theorem wE_mono : ∀ {X X' : XPost}, (∀ c S, X c S → X' c S) → ∀ (e : E) {env : Env} {S : Hm} {Q Q' : Post}, (∀ v S, Q v S → Q' v S) → wE G C X e env S Q → wE G C X' e env S Q'
  | X, X', hX, .loc i, env, S, Q, Q', hq, h => by
    simp only [wE] at h ⊢
    obtain ⟨v, h1, h2⟩ := h
    exact ⟨v, h1, hq _ _ h2⟩
  | X, X', hX, .lit c, env, S, Q, Q', hq, h => hq _ _ h
  | X, X', hX, .con x, env, S, Q, Q', hq, h => by
    simp only [wE] at h ⊢
    obtain ⟨v, h1, h2⟩ := h
    exact ⟨v, h1, hq _ _ h2⟩
  | X, X', hX, .bin op a b, env, S, Q, Q', hq, h => by
    simp only [wE] at h ⊢
    exact wE_mono hX a (fun x S1 h1 => wE_mono hX b (fun y S2 h2 => binW_mono hq h2) h1) h
  | X, X', hX, .neg a, env, S, Q, Q', hq, h => by
    simp only [wE] at h ⊢
    exact wE_mono hX a (fun x S1 ⟨i, h1, h2⟩ => ⟨i, h1, hq _ _ h2⟩) h
  | X, X', hX, .cmp op a b, env, S, Q, Q', hq, h => by
    simp only [wE] at h ⊢
    exact wE_mono hX a (fun x S1 h1 => wE_mono hX b (fun y S2 h2 => cmpW_mono (fun r h3 => hq _ _ h3) h2) h1) h
  | X, X', hX, .cmp2 op op' a b c, env, S, Q, Q', hq, h => by
    simp only [wE] at h ⊢
    refine wE_mono hX a (fun x S1 h1 => wE_mono hX b (fun y S2 h2 => cmpW_mono (fun r h3 => ?_) h2) h1) h
    cases r with
    | true =>
      simp only [if_true] at h3 ⊢
      exact wE_mono hX c (fun z S3 h4 => cmpW_mono (fun r' h5 => hq _ _ h5) h4) h3
    | false =>
      simp only [Bool.false_eq_true, if_false] at h3 ⊢
      exact hq _ _ h3
  | X, X', hX, .isN a, env, S, Q, Q', hq, h => by
    simp only [wE] at h ⊢
    exact wE_mono hX a (fun x S1 h1 => hq _ _ h1) h
  | X, X', hX, .notN a, env, S, Q, Q', hq, h => by
    simp only [wE] at h ⊢
    exact wE_mono hX a (fun x S1 h1 => hq _ _ h1) h
  | X, X', hX, .isB a b, env, S, Q, Q', hq, h => by
    simp only [wE] at h ⊢
    exact wE_mono hX a (fun x S1 ⟨c, h1, h2⟩ => ⟨c, h1, hq _ _ h2⟩) h
  | X, X', hX, .not a, env, S, Q, Q', hq, h => by
    simp only [wE] at h ⊢
    exact wE_mono hX a (fun x S1 ⟨c, h1, h2⟩ => ⟨c, h1, hq _ _ h2⟩) h
  | X, X', hX, .and a b, env, S, Q, Q', hq, h => by
    simp only [wE] at h ⊢
    refine wE_mono hX a (fun x S1 ⟨c, h1, h2⟩ => ⟨c, h1, ?_⟩) h
    cases c with
    | true =>
      simp only [if_true] at h2 ⊢
      exact wE_mono hX b hq h2
    | false =>
      simp only [Bool.false_eq_true, if_false] at h2 ⊢
      exact hq _ _ h2
  | X, X', hX, .or a b, env, S, Q, Q', hq, h => by
    simp only [wE] at h ⊢
    refine wE_mono hX a (fun x S1 ⟨c, h1, h2⟩ => ⟨c, h1, ?_⟩) h
    cases c with
    | true =>
      simp only [if_true] at h2 ⊢
      exact hq _ _ h2
    | false =>
      simp only [Bool.false_eq_true, if_false] at h2 ⊢
      exact wE_mono hX b hq h2
  | X, X', hX, .ite c a b, env, S, Q, Q', hq, h => by
    simp only [wE] at h ⊢
    refine wT_mono hX c (fun r S1 h1 => ?_) h
    cases r with
    | true =>
      simp only [if_true] at h1 ⊢
      exact wE_mono hX a hq h1
    | false =>
      simp only [Bool.false_eq_true, if_false] at h1 ⊢
      exact wE_mono hX b hq h1
  | X, X', hX, .tup es, env, S, Q, Q', hq, h => by
    simp only [wE] at h ⊢
    exact wEs_mono hX es (fun vs S1 h1 => ⟨h1.1, hq _ _ h1.2⟩) h
  | X, X', hX, .lst es, env, S, Q, Q', hq, h => by
    simp only [wE] at h ⊢
    exact wEs_mono hX es (fun vs S1 h1 => ⟨h1.1, hq _ _ h1.2⟩) h
  | X, X', hX, .dic ps, env, S, Q, Q', hq, h => by
    simp only [wE] at h ⊢
    exact wPs_mono hX ps (fun vs S1 h1 => hq _ _ h1) h
  | X, X', hX, .call f es, env, S, Q, Q', hq, h => by
    simp only [wE] at h ⊢
    exact wEs_mono hX es (fun vs S1 h1 => hC _ _ _ _ _ _ _ hq hX h1) h
  | X, X', hX, .make c es, env, S, Q, Q', hq, h => by
    simp only [wE] at h ⊢
    exact wEs_mono hX es (fun vs S1 h1 => hC _ _ _ _ _ _ _ (fun v S2 h2 => ⟨h2.1, hq _ _ h2.2⟩) hX h1) h
  | X, X', hX, .meth c m o es, env, S, Q, Q', hq, h => by
    simp only [wE] at h ⊢
    exact wE_mono hX o (fun x S1 ⟨n, fs, h1, h2, h3, h4⟩ => ⟨n, fs, h1, h2, h3, wEs_mono hX es (fun vs S2 h5 => hC _ _ _ _ _ _ _ hq hX h5) h4⟩) h
  | X, X', hX, .fld o f, env, S, Q, Q', hq, h => by
    simp only [wE] at h ⊢
    exact wE_mono hX o (fun x S1 ⟨n, c, fs, v, h1, h2, h3, h4⟩ => ⟨n, c, fs, v, h1, h2, h3, hq _ _ h4⟩) h
  | X, X', hX, .sub o i, env, S, Q, Q', hq, h => by
    simp only [wE] at h ⊢
    exact wE_mono hX o (fun x S1 h1 => wE_mono hX i (fun y S2 h2 => subW_mono hq h2) h1) h
  | X, X', hX, .slice o lo hi, env, S, Q, Q', hq, h => by
    simp only [wE] at h ⊢
    exact wE_mono hX o (fun x S1 h1 => wO_mono hX lo (fun a S2 h2 => wO_mono hX hi (fun b S3 h3 => sliceW_mono hq h3) h2) h1) h
  | X, X', hX, .bi f es, env, S, Q, Q', hq, h => by
    simp only [wE] at h ⊢
    exact wEs_mono hX es (fun vs S1 h1 => biW_mono hq h1) h
  | X, X', hX, .vi f es, env, S, Q, Q', hq, h => by
    simp only [wE] at h ⊢
    exact wEs_mono hX es (fun vs S1 h1 => viW_mono hq h1) h
  | X, X', hX, .bm m o es, env, S, Q, Q', hq, h => by
    simp only [wE] at h ⊢
    exact wE_mono hX o (fun x S1 h1 => ⟨h1.1, wEs_mono hX es (fun vs S2 h2 => bmW_mono hq h2) h1.2⟩) h
  | X, X', hX, .isi a ts, env, S, Q, Q', hq, h => by
    simp only [wE] at h ⊢
    exact wE_mono hX a (fun x S1 ⟨bs, h1, h2⟩ => ⟨bs, h1, hq _ _ h2⟩) h
  | X, X', hX, .lc elt tg src cond own, env, S, Q, Q', hq, h => by
    simp only [wE] at h ⊢
    refine wSrc_mono hX src (fun items guard S1 h1 => lcLoop_mono (fun v S2 K K' hk h2 => tgW_mono (fun e2 h3 => wC_mono hX cond (fun b S3 h4 => ?_) h3) h2) (fun acc S2 h2 => hq _ _ h2) h1) h
    cases b with
    | true =>
      simp only [if_true] at h4 ⊢
      exact wE_mono hX elt (fun x S4 h5 => hk _ _ h5) h4
    | false =>
      simp only [Bool.false_eq_true, if_false] at h4 ⊢
      exact hk _ _ h4
  | X, X', hX, .lck i e, env, S, Q, Q', hq, h => by
    simp only [wE] at h ⊢
    obtain ⟨n, kvs, h1, h2, h3⟩ := h
    exact ⟨n, kvs, h1, h2, wE_mono hX e (fun v S1 h4 => ⟨h4.1, hq _ _ h4.2⟩) h3⟩
  | X, X', hX, .lckA e, env, S, Q, Q', hq, h => by
    simp only [wE] at h ⊢
    obtain ⟨n, kvs, h2, h3⟩ := h
    exact ⟨n, kvs, h2, wE_mono hX e (fun v S1 h4 => ⟨h4.1, hq _ _ h4.2⟩) h3⟩
theorem wEs_mono : ∀ {X X' : XPost}, (∀ c S, X c S → X' c S) → ∀ (es : Es) {env : Env} {S : Hm} {Q Q' : List Val → Hm → Prop}, (∀ v S, Q v S → Q' v S) → wEs G C X es env S Q → wEs G C X' es env S Q'
  | X, X', hX, .nil, env, S, Q, Q', hq, h => hq _ _ h
  | X, X', hX, .cons e es, env, S, Q, Q', hq, h => by
    simp only [wEs] at h ⊢
    exact wE_mono hX e (fun x S1 h1 => wEs_mono hX es (fun xs S2 h2 => hq _ _ h2) h1) h
theorem wPs_mono : ∀ {X X' : XPost}, (∀ c S, X c S → X' c S) → ∀ (ps : Ps) {env : Env} {S : Hm} {Q Q' : List (Key × Val) → Hm → Prop}, (∀ v S, Q v S → Q' v S) → wPs G C X ps env S Q → wPs G C X' ps env S Q'
  | X, X', hX, .nil, env, S, Q, Q', hq, h => hq _ _ h
  | X, X', hX, .cons k v ps, env, S, Q, Q', hq, h => by
    simp only [wPs] at h ⊢
    exact wE_mono hX k (fun x S1 h1 => wE_mono hX v (fun y S2 ⟨q, h2, h3⟩ => ⟨q, h2, wPs_mono hX ps (fun r S3 h4 => hq _ _ h4) h3⟩) h1) h
theorem wO_mono : ∀ {X X' : XPost}, (∀ c S, X c S → X' c S) → ∀ (o : Oe) {env : Env} {S : Hm} {Q Q' : Option Int → Hm → Prop}, (∀ v S, Q v S → Q' v S) → wO G C X o env S Q → wO G C X' o env S Q'
  | X, X', hX, .none, env, S, Q, Q', hq, h => hq _ _ h
  | X, X', hX, .some e, env, S, Q, Q', hq, h => by
    simp only [wO] at h ⊢
    exact wE_mono hX e (fun x S1 ⟨i, h1, h2⟩ => ⟨i, h1, hq _ _ h2⟩) h
theorem wC_mono : ∀ {X X' : XPost}, (∀ c S, X c S → X' c S) → ∀ (o : Ot) {env : Env} {S : Hm} {Q Q' : Bool → Hm → Prop}, (∀ v S, Q v S → Q' v S) → wC G C X o env S Q → wC G C X' o env S Q'
  | X, X', hX, .none, env, S, Q, Q', hq, h => hq _ _ h
  | X, X', hX, .some t, env, S, Q, Q', hq, h => by
    simp only [wC] at h ⊢
    exact wT_mono hX t hq h
theorem wT_mono : ∀ {X X' : XPost}, (∀ c S, X c S → X' c S) → ∀ (t : T) {env : Env} {S : Hm} {Q Q' : Bool → Hm → Prop}, (∀ v S, Q v S → Q' v S) → wT G C X t env S Q → wT G C X' t env S Q'
  | X, X', hX, .v e, env, S, Q, Q', hq, h => by
    simp only [wT] at h ⊢
    exact wE_mono hX e (fun x S1 ⟨b, h1, h2⟩ => ⟨b, h1, hq _ _ h2⟩) h
  | X, X', hX, .not a, env, S, Q, Q', hq, h => by
    simp only [wT] at h ⊢
    exact wT_mono hX a (fun b S1 h1 => hq _ _ h1) h
  | X, X', hX, .and a b, env, S, Q, Q', hq, h => by
    simp only [wT] at h ⊢
    refine wT_mono hX a (fun c S1 h1 => ?_) h
    cases c with
    | true =>
      simp only [if_true] at h1 ⊢
      exact wT_mono hX b hq h1
    | false =>
      simp only [Bool.false_eq_true, if_false] at h1 ⊢
      exact hq _ _ h1
  | X, X', hX, .or a b, env, S, Q, Q', hq, h => by
    simp only [wT] at h ⊢
    refine wT_mono hX a (fun c S1 h1 => ?_) h
    cases c with
    | true =>
      simp only [if_true] at h1 ⊢
      exact hq _ _ h1
    | false =>
      simp only [Bool.false_eq_true, if_false] at h1 ⊢
      exact wT_mono hX b hq h1
theorem wSrc_mono : ∀ {X X' : XPost}, (∀ c S, X c S → X' c S) → ∀ (s : Src) {env : Env} {S : Hm} {K K' : List Val → (Hm → Prop) → Hm → Prop}, (∀ xs g S, K xs g S → K' xs g S) → wSrc G C X s env S K → wSrc G C X' s env S K'
  | X, X', hX, .seq e, env, S, K, K', hk, h => by
    simp only [wSrc] at h ⊢
    exact wE_mono hX e (fun x S1 h1 => seqOf_mono (fun xs g h2 => hk _ _ _ h2) h1) h
  | X, X', hX, .rng1 a, env, S, K, K', hk, h => by
    simp only [wSrc] at h ⊢
    exact wE_mono hX a (fun x S1 ⟨j, h1, h2, h3⟩ => ⟨j, h1, h2, hk _ _ _ h3⟩) h
  | X, X', hX, .rng2 a b, env, S, K, K', hk, h => by
    simp only [wSrc] at h ⊢
    exact wE_mono hX a (fun x S1 h1 => wE_mono hX b (fun y S2 ⟨i, j, h2, h3, h4, h5, h6⟩ => ⟨i, j, h2, h3, h4, h5, hk _ _ _ h6⟩) h1) h
  | X, X', hX, .enum a, env, S, K, K', hk, h => by
    simp only [wSrc] at h ⊢
    exact wE_mono hX a (fun x S1 h1 => ltOf_mono (fun xs g h2 => hk _ _ _ h2) h1) h
  | X, X', hX, .zip a b, env, S, K, K', hk, h => by
    simp only [wSrc] at h ⊢
    exact wE_mono hX a (fun x S1 h1 => wE_mono hX b (fun y S2 h2 => zipOf_mono (fun xs g h3 => hk _ _ _ h3) h2) h1) h
  | X, X', hX, .rev a, env, S, K, K', hk, h => by
    simp only [wSrc] at h ⊢
    exact wE_mono hX a (fun x S1 h1 => ltOf_mono (fun xs g h2 => hk _ _ _ h2) h1) h
  | X, X', hX, .rng3 a b c, env, S, K, K', hk, h => by simp only [wSrc] at h
  | X, X', hX, .items a, env, S, K, K', hk, h => by
    simp only [wSrc] at h ⊢
    exact wE_mono hX a (fun x S1 ⟨n, kvs, h1, h2, h3⟩ => ⟨n, kvs, h1, h2, hk _ _ _ h3⟩) h
  | X, X', hX, .values a, env, S, K, K', hk, h => by
    simp only [wSrc] at h ⊢
    exact wE_mono hX a (fun x S1 ⟨n, kvs, h1, h2, h3⟩ => ⟨n, kvs, h1, h2, hk _ _ _ h3⟩) h
  | X, X', hX, .keys a, env, S, K, K', hk, h => by
    simp only [wSrc] at h ⊢
    exact wE_mono hX a (fun x S1 ⟨n, kvs, h1, h2, h3⟩ => ⟨n, kvs, h1, h2, hk _ _ _ h3⟩) h
end
end

/-- more is wished for behind a statement -/
structure Sp.Le (D D' : Sp) : Prop where
  nx : ∀ e S, D.nx e S → D'.nx e S
  rt : ∀ v S, D.rt v S → D'.rt v S
  ct : ∀ e S, D.ct e S → D'.ct e S
theorem forL_mono {tg : Tg} {guard : Hm → Prop} {body body' : Sp → Env → Hm → Prop} (hb : ∀ D D' e S, Sp.Le D D' → body D e S → body' D' e S) {D D' : Sp} (hD : Sp.Le D D') : ∀ {vs : List Val} {e : Env} {S : Hm}, forL tg guard body D vs e S → forL tg guard body' D' vs e S
  | [], e, S, h => ⟨h.1, hD.nx _ _ h.2⟩
  | v :: vs, e, S, h => ⟨h.1, tgW_mono (fun e2 h2 => hb { nx := forL tg guard body D vs, rt := D.rt, ct := forL tg guard body D vs } { nx := forL tg guard body' D' vs, rt := D'.rt, ct := forL tg guard body' D' vs } _ _ ⟨fun _ _ => forL_mono hb hD, hD.rt, fun _ _ => forL_mono hb hD⟩ h2) h.2⟩
theorem whileN_mono {c c' : Env → Hm → (Bool → Hm → Prop) → Prop} (hc : ∀ e S Q Q', (∀ b S, Q b S → Q' b S) → c e S Q → c' e S Q') {body body' : Sp → Env → Hm → Prop} (hb : ∀ D D' e S, Sp.Le D D' → body D e S → body' D' e S) {D D' : Sp} (hD : Sp.Le D D') :
    ∀ {n : Nat} {e : Env} {S : Hm}, whileN c body D n e S → whileN c' body' D' n e S
  | 0, e, S, h => h
  | n + 1, e, S, h => by
    refine hc _ _ _ _ (fun b S1 h1 => ?_) h
    cases b with
    | true =>
      simp only [if_true] at h1 ⊢
      exact hb { nx := whileN c body D n, rt := D.rt, ct := whileN c body D n } { nx := whileN c' body' D' n, rt := D'.rt, ct := whileN c' body' D' n } _ _ ⟨fun _ _ => whileN_mono hc hb hD, hD.rt, fun _ _ => whileN_mono hc hb hD⟩ h1
    | false =>
      simp only [Bool.false_eq_true, if_false] at h1 ⊢
      exact hD.nx _ _ h1
section
variable {G : String → Option Val} {sub : String → String → Bool} {C : CallW} (hC : CMono C)
include hC
mutual
theorem wS_mono : ∀ (s : St) {X X' : XS} {D D' : Sp} {env : Env} {S : Hm}, (∀ c e S, X c e S → X' c e S) → Sp.Le D D' → wS G sub C s X D env S → wS G sub C s X' D' env S
  | .set i e, X, X', D, D', env, S, hX, hD, h => by
    simp only [wS] at h ⊢
    exact wE_mono hC (fun c S1 => hX c env S1) e (fun v S1 h1 => hD.nx _ _ h1) h
  | .setT is e, X, X', D, D', env, S, hX, hD, h => by
    simp only [wS] at h ⊢
    exact wE_mono hC (fun c S1 => hX c env S1) e (fun v S1 h1 => tgW_mono (fun e2 h2 => hD.nx _ _ h2) h1) h
  | .setL is e, X, X', D, D', env, S, hX, hD, h => by
    simp only [wS] at h ⊢
    exact wE_mono hC (fun c S1 => hX c env S1) e (fun v S1 ⟨n, xs, h1, h2, h3, h4⟩ => ⟨n, xs, h1, h2, h3, hD.nx _ _ h4⟩) h
  | .par is es', X, X', D, D', env, S, hX, hD, h => by
    simp only [wS] at h ⊢
    exact wEs_mono hC (fun c S1 => hX c env S1) es' (fun v S1 h1 => ⟨h1.1, hD.nx _ _ h1.2⟩) h
  | .setI o i e, X, X', D, D', env, S, hX, hD, h => by
    simp only [wS] at h ⊢
    exact wE_mono hC (fun c S1 => hX c env S1) e (fun v S1 h1 => wE_mono hC (fun c S1 => hX c env S1) o (fun x S2 h2 => wE_mono hC (fun c S1 => hX c env S1) i (fun y S3 h3 => setW_mono (fun S4 h4 => hD.nx _ _ h4) h3) h2) h1) h
  | .setF o f e, X, X', D, D', env, S, hX, hD, h => by
    simp only [wS] at h ⊢
    exact wE_mono hC (fun c S1 => hX c env S1) e (fun v S1 h1 => wE_mono hC (fun c S1 => hX c env S1) o (fun x S2 ⟨n, c, fs, h2, h3, h4, h5⟩ => ⟨n, c, fs, h2, h3, h4, hD.nx _ _ h5⟩) h1) h
  | .aug i op e, X, X', D, D', env, S, hX, hD, h => by
    simp only [wS] at h ⊢
    obtain ⟨x, h1, h2⟩ := h
    exact ⟨x, h1, wE_mono hC (fun c S1 => hX c env S1) e (fun y S1 h3 => ibinW_mono (fun z S2 h4 => hD.nx _ _ h4) h3) h2⟩
  | .augI o i op e, X, X', D, D', env, S, hX, hD, h => by
    simp only [wS] at h ⊢
    exact wE_mono hC (fun c S1 => hX c env S1) o (fun x S1 h1 => wE_mono hC (fun c S1 => hX c env S1) i (fun y S2 h2 => ⟨h2.1, subW_mono (fun old S3 h3 => wE_mono hC (fun c S1 => hX c env S1) e (fun z S4 h4 => ibinW_mono (fun r S5 h5 => setW_mono (fun S6 h6 => hD.nx _ _ h6) h5) h4) h3) h2.2⟩) h1) h
  | .augF o f op e, X, X', D, D', env, S, hX, hD, h => by
    simp only [wS] at h ⊢
    exact wE_mono hC (fun c S1 => hX c env S1) o (fun x S1 ⟨n, c, fs, v, h1, h2, h3, h4⟩ => ⟨n, c, fs, v, h1, h2, h3, wE_mono hC (fun c S1 => hX c env S1) e (fun z S2 h5 => ibinW_mono (fun r S3 ⟨fs', h6, h7, h8⟩ => ⟨fs', h6, h7, hD.nx _ _ h8⟩) h5) h4⟩) h
  | .expr e, X, X', D, D', env, S, hX, hD, h => by
    simp only [wS] at h ⊢
    exact wE_mono hC (fun c S1 => hX c env S1) e (fun v S1 h1 => hD.nx _ _ h1) h
  | .ret e, X, X', D, D', env, S, hX, hD, h => by
    simp only [wS] at h ⊢
    exact wE_mono hC (fun c S1 => hX c env S1) e hD.rt h
  | .retN, X, X', D, D', env, S, hX, hD, h => hD.rt _ _ h
  | .ife c a b, X, X', D, D', env, S, hX, hD, h => by
    simp only [wS] at h ⊢
    refine wT_mono hC (fun c S1 => hX c env S1) c (fun r S1 h1 => ?_) h
    cases r with
    | true =>
      simp only [if_true] at h1 ⊢
      exact wSs_mono a hX hD h1
    | false =>
      simp only [Bool.false_eq_true, if_false] at h1 ⊢
      exact wSs_mono b hX hD h1
  | .for tg src body, X, X', D, D', env, S, hX, hD, h => by
    simp only [wS] at h ⊢
    exact wSrc_mono hC (fun c S1 => hX c env S1) src (fun items g S1 h1 => forL_mono (body := wSs G sub C body X) (body' := wSs G sub C body X') (fun D D' e S hd h2 => wSs_mono body hX hd h2) hD h1) h
  | .while c body, X, X', D, D', env, S, hX, hD, h => by
    simp only [wS] at h ⊢
    obtain ⟨n, h⟩ := h
    exact ⟨n, whileN_mono (c := fun env S K => wT G C (fun c S' => X c env S') c env S K) (c' := fun env S K => wT G C (fun c S' => X' c env S') c env S K) (body := wSs G sub C body X) (body' := wSs G sub C body X') (fun e S Q Q' hq h1 => wT_mono hC (fun c S1 => hX c e S1) c hq h1) (fun D D' e S hd h2 => wSs_mono body hX hd h2) hD h⟩
  | .raise c, X, X', D, D', env, S, hX, hD, h => hX _ _ _ h
  | .try body hs orelse, X, X', D, D', env, S, hX, hD, h => by
    simp only [wS] at h ⊢
    exact wSs_mono body (X := fun c env' S' => sub c c = true ∧ wHs G sub C c hs X D env' S') (X' := fun c env' S' => sub c c = true ∧ wHs G sub C c hs X' D' env' S') (D := { nx := fun env' S' => wSs G sub C orelse X D env' S', rt := D.rt, ct := D.ct }) (D' := { nx := fun env' S' => wSs G sub C orelse X' D' env' S', rt := D'.rt, ct := D'.ct }) (fun c e S1 h1 => ⟨h1.1, wHs_mono c hs hX hD h1.2⟩) ⟨fun e S1 h1 => wSs_mono orelse hX hD h1, hD.rt, hD.ct⟩ h
  | .cont, X, X', D, D', env, S, hX, hD, h => hD.ct _ _ h
  | .pass, X, X', D, D', env, S, hX, hD, h => hD.nx _ _ h
  | .lck i s, X, X', D, D', env, S, hX, hD, h => by
    simp only [wS] at h ⊢
    obtain ⟨n, kvs, h1, h2, h3⟩ := h
    exact ⟨n, kvs, h1, h2, wS_mono s (D := lckD n kvs D) (D' := lckD n kvs D') hX ⟨fun _ _ h => ⟨h.1, hD.nx _ _ h.2⟩, fun _ _ h => ⟨h.1, hD.rt _ _ h.2⟩, fun _ _ h => ⟨h.1, hD.ct _ _ h.2⟩⟩ h3⟩
theorem wSs_mono : ∀ (ss : Sts) {X X' : XS} {D D' : Sp} {env : Env} {S : Hm}, (∀ c e S, X c e S → X' c e S) → Sp.Le D D' → wSs G sub C ss X D env S → wSs G sub C ss X' D' env S
  | .nil, X, X', D, D', env, S, hX, hD, h => hD.nx _ _ h
  | .cons s ss, X, X', D, D', env, S, hX, hD, h => by
    simp only [wSs] at h ⊢
    exact wS_mono s (D := { nx := fun env' S' => wSs G sub C ss X D env' S', rt := D.rt, ct := D.ct }) (D' := { nx := fun env' S' => wSs G sub C ss X' D' env' S', rt := D'.rt, ct := D'.ct }) hX ⟨fun e S1 h1 => wSs_mono ss hX hD h1, hD.rt, hD.ct⟩ h
theorem wHs_mono (c : String) : ∀ (hs : Hs) {X X' : XS} {D D' : Sp} {env : Env} {S : Hm}, (∀ c e S, X c e S → X' c e S) → Sp.Le D D' → wHs G sub C c hs X D env S → wHs G sub C c hs X' D' env S
  | .nil, X, X', D, D', env, S, hX, hD, h => hX _ _ _ h
  | .cons h' i body rest, X, X', D, D', env, S, hX, hD, h => by
    simp only [wHs] at h ⊢
    split at h
    · rename_i hs
      rw [if_pos hs]
      cases i with
      | none => exact wSs_mono body hX hD h
      | some i => exact wSs_mono body (D := { nx := fun env' S' => back i env S env' S' ∧ D.nx (es env' i none) S', rt := fun _ _ => False }) (D' := { nx := fun env' S' => back i env S env' S' ∧ D'.nx (es env' i none) S', rt := fun _ _ => False }) (fun _ _ _ h => h) ⟨fun e S1 h1 => ⟨h1.1, hD.nx _ _ h1.2⟩, fun _ _ h => h, fun _ _ h => h⟩ h
    · rename_i hs
      rw [if_neg hs]
      exact wHs_mono c rest hX hD h
end
end

/-! ### programs -/
structure FDef where
  params : Nat
  names : List String
  dflt : List Lit
  body : Sts
structure Pg where
  flds : List String
  cls : List String
  tups : List (String × List Lit)
  fn : FK → Option FDef
  con : String → Option Val
  subs : List (String × List String) := []
  hotf : List String := []
def Pg.excs (P : Pg) : List String := P.subs.map (·.1)
def Pg.sub (P : Pg) (a b : String) : Bool := match P.subs.lookup a with
  | some l => l.contains b
  | none => false
theorem Pg.sub_me {P : Pg} {a : String} (h : P.sub a a = true) : a ∈ P.excs := by
  unfold Pg.sub at h
  split at h
  · rename_i l e
    unfold Pg.excs
    generalize P.subs = t at e
    induction t with
    | nil => cases e
    | cons p r ih =>
      obtain ⟨x, y⟩ := p
      rw [List.lookup_cons] at e
      split at e
      · rename_i hb
        have := beq_iff_eq.mp hb
        subst this
        exact List.mem_cons_self
      · exact List.mem_cons_of_mem _ (ih e)
  · cases h
def Pg.isHot (P : Pg) : FK → Bool
  | .f x => P.hotf.contains x
  | .m _ _ => false
def startE (d : FDef) (args : List Val) : Env := args.map some ++ List.replicate (d.names.length - args.length) none
/-- a def's body, run with all its arguments -/
def bodyW (P : Pg) (C : CallW) (d : FDef) (args : List Val) (S : Hm) (Q : Post) (X : XPost) : Prop :=
  args.length = d.params ∧ wSs P.con P.sub C d.body (fun c _ S' => X c S') { nx := fun _ S' => Q .non S', rt := Q } (startE d args) S
def padded (d : FDef) (args : List Val) : List Val := args ++ (d.dflt.drop (args.length + d.dflt.length - d.params)).map Lit.val
def FK.init : FK → Bool
  | .f _ => false
  | .m _ x => x == "__init__"
/-- a call, k deep at most; an __init__ counts twice -/
def callW (P : Pg) : Nat → CallW
  | 0 => fun _ _ _ _ _ => False
  | k + 1 => fun f args S Q X => ∃ d, P.fn f = some d ∧ if f.init = true then (match k with
      | 0 => False
      | k' + 1 => bodyW P (callW P k') d (padded d args) S Q X) else bodyW P (callW P k) d (padded d args) S Q X
theorem bodyW_mono {P : Pg} {C : CallW} (hC : CMono C) {d : FDef} {args : List Val} {S : Hm} {Q Q' : Post} {X X' : XPost} (hq : ∀ v S, Q v S → Q' v S) (hx : ∀ c S, X c S → X' c S) (h : bodyW P C d args S Q X) : bodyW P C d args S Q' X' :=
  ⟨h.1, wSs_mono hC d.body (X := fun c _ S' => X c S') (X' := fun c _ S' => X' c S') (D := { nx := fun _ S' => Q .non S', rt := Q }) (D' := { nx := fun _ S' => Q' .non S', rt := Q' }) (fun c _ S1 => hx c S1) ⟨fun _ S1 => hq _ S1, hq, fun _ _ h => h⟩ h.2⟩
theorem callW_one {P : Pg} {f : FK} {args : List Val} {S : Hm} {Q : Post} {X : XPost} : callW P 1 f args S Q X = ∃ d, P.fn f = some d ∧ if f.init = true then False else bodyW P (callW P 0) d (padded d args) S Q X := rfl
theorem callW_two {P : Pg} {k : Nat} {f : FK} {args : List Val} {S : Hm} {Q : Post} {X : XPost} : callW P (k + 2) f args S Q X = ∃ d, P.fn f = some d ∧ if f.init = true then bodyW P (callW P k) d (padded d args) S Q X else bodyW P (callW P (k + 1)) d (padded d args) S Q X := rfl
theorem callW_mono (P : Pg) : ∀ k, CMono (callW P k)
  | 0 => fun _ _ _ _ _ _ _ _ _ h => h
  | 1 => fun f vs S Q Q' X X' hq hx h => by
      rw [callW_one] at h ⊢
      obtain ⟨d, h1, h2⟩ := h
      refine ⟨d, h1, ?_⟩
      split at h2
      · exact h2.elim
      · rename_i hi
        rw [if_neg hi]
        exact bodyW_mono (callW_mono P 0) hq hx h2
  | k + 2 => fun f vs S Q Q' X X' hq hx h => by
      rw [callW_two] at h ⊢
      obtain ⟨d, h1, h2⟩ := h
      refine ⟨d, h1, ?_⟩
      split at h2
      · rename_i hi
        rw [if_pos hi]
        exact bodyW_mono (callW_mono P k) hq hx h2
      · rename_i hi
        rw [if_neg hi]
        exact bodyW_mono (callW_mono P (k + 1)) hq hx h2
end Mi

set_option maxHeartbeats 2000000
namespace Mi
open PySem PySem.Spec L2 PyProof.Rows

/-- which addresses are instances of which class; which one is the exception at hand -/
structure Cl where
  fn : String → Addr → Prop
  z : Addr → String → Prop
instance : CoeFun Cl (fun _ => String → Addr → Prop) := ⟨Cl.fn⟩
def Cl.at (cl : Cl) (a : Addr) (c : String) : Cl := ⟨cl.fn, fun b d => b = a ∧ d = c⟩
/-- how the small heap lies in the abstract one: em, the addresses of its places; z, the exception at hand -/
structure Sm where
  K : PySem.W.Frag
  H : Hp
  em : List Addr
  z : Option (Addr × String)

mutual
inductive RD (m : Sm) : Val → V → Prop where
  | non : RD m .non .non
  | bl (b : Bool) : RD m (.bl b) (.bl b)
  | int (i : Int) : RD m (.int i) (.int i)
  | str (x : String) : RD m (.str x) (.str (Str.ofString x))
  | tup {a : Addr} {xs : List V} {ds : List Val} : SqT m.K m.H a xs → RDs m ds xs → RD m (.tup ds) (.ref a)
  | ref {n : Nat} {a : Addr} : m.em[n]? = some a → RD m (.ref n) (.ref a)
  | exc {a : Addr} {c : String} : m.z = some (a, c) → RD m (.exc c) (.ref a)
inductive RDs (m : Sm) : List Val → List V → Prop where
  | nil : RDs m [] []
  | cons {d : Val} {x : V} {ds : List Val} {xs : List V} : RD m d x → RDs m ds xs → RDs m (d :: ds) (x :: xs)
end
section
variable {m m' : Sm}
/-- what keeps values: the tuples stay, places are added -/
structure Up (m m' : Sm) : Prop where
  tup : ∀ a xs, SqT m.K m.H a xs → SqT m'.K m'.H a xs
  em : ∃ l, m'.em = m.em ++ l
  z : ∀ p, m.z = some p → m'.z = some p
theorem em_get (h : ∃ l, m'.em = m.em ++ l) {n : Nat} {a : Addr} (e : m.em[n]? = some a) : m'.em[n]? = some a := by
  obtain ⟨l, h⟩ := h
  rw [h, List.getElem?_append_left (List.getElem?_eq_some_iff.mp e).1]
  exact e
mutual
theorem RD.up (u : Up m m') : ∀ {d : Val} {x : V}, RD m d x → RD m' d x
  | _, _, .non => .non
  | _, _, .bl b => .bl b
  | _, _, .int i => .int i
  | _, _, .str x => .str x
  | _, _, .tup h hs => .tup (u.tup _ _ h) (RDs.up u hs)
  | _, _, .ref h => .ref (em_get u.em h)
  | _, _, .exc h => .exc (u.z _ h)
theorem RDs.up (u : Up m m') : ∀ {ds : List Val} {xs : List V}, RDs m ds xs → RDs m' ds xs
  | _, _, .nil => .nil
  | _, _, .cons h hs => .cons (RD.up u h) (RDs.up u hs)
end
theorem RDs.length : ∀ {ds : List Val} {xs : List V}, RDs m ds xs → ds.length = xs.length
  | _, _, .nil => rfl
  | _, _, .cons h hs => by simp [RDs.length hs]
theorem RDs.append : ∀ {ds ds' : List Val} {xs xs' : List V}, RDs m ds xs → RDs m ds' xs' → RDs m (ds ++ ds') (xs ++ xs')
  | _, _, _, _, .nil, h => h
  | _, _, _, _, .cons h hs, h' => .cons h (RDs.append hs h')
theorem RDs.get : ∀ {ds : List Val} {xs : List V} {i : Nat} {d : Val}, RDs m ds xs → ds[i]? = some d → ∃ x, xs[i]? = some x ∧ RD m d x
  | _, _, i, d, .nil, h => by simp at h
  | _, _, 0, d, .cons h hs, e => by simp at e; subst e; exact ⟨_, rfl, h⟩
  | _, _, i + 1, d, .cons h hs, e => by
    obtain ⟨x, h1, h2⟩ := RDs.get (i := i) hs (by simpa using e)
    exact ⟨x, by simpa using h1, h2⟩
theorem RDs.getV : ∀ {ds : List Val} {xs : List V} {i : Nat} {x : V}, RDs m ds xs → xs[i]? = some x → ∃ d, ds[i]? = some d ∧ RD m d x
  | _, _, i, d, .nil, h => by simp at h
  | _, _, 0, d, .cons h hs, e => by simp at e; subst e; exact ⟨_, rfl, h⟩
  | _, _, i + 1, d, .cons h hs, e => by
    obtain ⟨x, h1, h2⟩ := RDs.getV (i := i) hs (by simpa using e)
    exact ⟨x, by simpa using h1, h2⟩
theorem RDs.take : ∀ {ds : List Val} {xs : List V} (n : Nat), RDs m ds xs → RDs m (ds.take n) (xs.take n)
  | _, _, 0, _ => by simp; exact .nil
  | _, _, n + 1, .nil => by simp; exact .nil
  | _, _, n + 1, .cons h hs => .cons h (RDs.take n hs)
theorem RDs.drop : ∀ {ds : List Val} {xs : List V} (n : Nat), RDs m ds xs → RDs m (ds.drop n) (xs.drop n)
  | _, _, 0, h => h
  | _, _, n + 1, .nil => by simp; exact .nil
  | _, _, n + 1, .cons h hs => RDs.drop n hs
theorem RDs.set {d : Val} {x : V} (r : RD m d x) : ∀ {ds : List Val} {xs : List V} (i : Nat), RDs m ds xs → RDs m (ds.set i d) (xs.set i x)
  | _, _, _, .nil => .nil
  | _, _, 0, .cons _ hs => .cons r hs
  | _, _, i + 1, .cons h hs => .cons h (RDs.set r i hs)
theorem RDs.rev : ∀ {ds : List Val} {xs : List V}, RDs m ds xs → RDs m ds.reverse xs.reverse
  | _, _, .nil => .nil
  | _, _, .cons h hs => by
    rw [List.reverse_cons, List.reverse_cons]
    exact (RDs.rev hs).append (.cons h .nil)
theorem RDs.dropLast {ds : List Val} {xs : List V} (h : RDs m ds xs) : RDs m ds.dropLast xs.dropLast := by
  rw [List.dropLast_eq_take, List.dropLast_eq_take, h.length]
  exact h.take _
theorem RDs.erase : ∀ {ds : List Val} {xs : List V} (i : Nat), RDs m ds xs → RDs m (ds.eraseIdx i) (xs.eraseIdx i)
  | _, _, _, .nil => .nil
  | _, _, 0, .cons h hs => hs
  | _, _, i + 1, .cons h hs => .cons h (RDs.erase i hs)
theorem RDs.ints : ∀ {ns : List Int} {xs : List V}, RDs m (ns.map Val.int) xs → xs = ns.map V.int
  | [], _, h => by cases h; rfl
  | n :: ns, _, h => by
    cases h with
    | cons h hs =>
      cases h
      rw [RDs.ints hs]
      rfl
theorem RDs.of_ints : ∀ (ns : List Int), RDs m (ns.map Val.int) (ns.map V.int)
  | [] => .nil
  | n :: ns => .cons (.int n) (RDs.of_ints ns)
theorem RDs.bls : ∀ {ns : List Bool} {xs : List V}, RDs m (ns.map Val.bl) xs → xs = ns.map V.bl
  | [], _, h => by cases h; rfl
  | n :: ns, _, h => by
    cases h with
    | cons h hs =>
      cases h
      rw [RDs.bls hs]
      rfl
theorem RDs.replicate {ds : List Val} {xs : List V} (h : RDs m ds xs) : ∀ n : Nat, RDs m (List.replicate n ds).flatten (List.replicate n xs).flatten
  | 0 => .nil
  | n + 1 => by
    rw [List.replicate_succ, List.replicate_succ, List.flatten_cons, List.flatten_cons]
    exact h.append (RDs.replicate h n)
theorem RDs.isEmpty {ds : List Val} {xs : List V} (h : RDs m ds xs) : xs.isEmpty = ds.isEmpty := by cases h <;> rfl
end

theorem ofString_inj {x y : String} (h : Str.ofString x = Str.ofString y) : x = y := by
  rw [Str.ofString_eq_toList, Str.ofString_eq_toList] at h
  have h1 : x.toList.map Char.toNat = y.toList.map Char.toNat := by
    have := congrArg (fun s : Str => s.cps.toList) h
    simpa using this
  have inj : ∀ a b : Char, a.toNat = b.toNat → a = b := fun a b e => by
    apply Char.ext
    apply UInt32.toNat_inj.mp
    exact e
  have h2 : ∀ l l' : List Char, l.map Char.toNat = l'.map Char.toNat → l = l' := by
    intro l
    induction l with
    | nil => intro l' h; cases l' with
      | nil => rfl
      | cons a r => simp at h
    | cons a r ih => intro l' h; cases l' with
      | nil => simp at h
      | cons b r' =>
        simp only [List.map_cons, List.cons.injEq] at h
        rw [inj a b h.1, ih r' h.2]
  exact String.ext (h2 _ _ h1)
theorem ofString_iff {x y : String} : Str.ofString x = Str.ofString y ↔ x = y := ⟨ofString_inj, fun h => by rw [h]⟩
theorem len_ofString (x : String) : (Str.ofString x).length = x.length := by
  rw [Str.ofString_eq_toList]
  simp [Str.length, String.length_toList]
theorem cps_ofString (x : String) : (Str.ofString x).cps.toList = x.toList.map Char.toNat := by
  rw [Str.ofString_eq_toList]
theorem ofString_append (x y : String) : Str.ofString (x ++ y) = Str.ofString x ++ Str.ofString y := by
  rw [Str.ofString_eq_toList, Str.ofString_eq_toList, Str.ofString_eq_toList, String.toList_append, List.map_append]
  show _ = (⟨_⟩ : Str)
  simp
theorem ofString_ofList (l : List Char) : Str.ofString (String.ofList l) = ⟨(l.map Char.toNat).toArray⟩ := by
  rw [Str.ofString_eq_toList, String.toList_ofList]

def kk : Key → L2.Key
  | .inl i => .inl i
  | .inr x => .inr (Str.ofString x)
theorem kk_inj {a b : Key} (h : kk a = kk b) : a = b := by
  cases a with
  | inl i => cases b with
    | inl j => injection h with h; rw [h]
    | inr y => cases h
  | inr x => cases b with
    | inl j => cases h
    | inr y => injection h with h; rw [ofString_inj h]
theorem key_rd {m : Sm} {v : Val} {x : V} {q : Key} (h : RD m v x) (e : v.key = some q) : x = L2.kV (kk q) := by
  cases h <;> simp [Val.key] at e <;> subst e <;> rfl
theorem rd_key {m : Sm} (q : Key) : RD m (Key.val q) (L2.kV (kk q)) := by
  cases q with
  | inl i => exact .int i
  | inr x => exact .str x

/-! ### objects -/
def RKs (m : Sm) (kvs : List (Key × Val)) (ws : List (L2.Key × V)) : Prop := Paired (fun (p : Key × Val) (q : L2.Key × V) => q.1 = kk p.1 ∧ RD m p.2 q.2) kvs ws
def RFs (m : Sm) (fs : List (String × Val)) (gs : List (Str × V)) : Prop := Paired (fun (p : String × Val) (q : Str × V) => q.1 = Str.ofString p.1 ∧ RD m p.2 q.2) fs gs
section
variable {m m' : Sm}
theorem RKs.up (u : Up m m') {kvs ws} (h : RKs m kvs ws) : RKs m' kvs ws := Paired.mapP h fun _ _ r => ⟨r.1, r.2.up u⟩
theorem RFs.up (u : Up m m') {fs gs} (h : RFs m fs gs) : RFs m' fs gs := Paired.mapP h fun _ _ r => ⟨r.1, r.2.up u⟩
theorem RKs.length {kvs ws} (h : RKs m kvs ws) : kvs.length = ws.length := Paired.length h
theorem RFs.length {kvs ws} (h : RFs m kvs ws) : kvs.length = ws.length := Paired.length h
theorem RKs.look {kvs ws} (h : RKs m kvs ws) (q : Key) : (∃ v x, lookK kvs q = some v ∧ valV ws (kk q) = some x ∧ RD m v x) ∨ (lookK kvs q = none ∧ valV ws (kk q) = none) := by
  unfold RKs at h
  induction h with
  | nil => exact .inr ⟨rfl, rfl⟩
  | @cons p r ps rs h t ih =>
    by_cases e : p.1 = q
    · refine .inl ⟨p.2, r.2, ?_, ?_, h.2⟩
      · simp [lookK, e]
      · have e2 : r.1 = kk q := by rw [h.1, e]
        simp [valV, e2]
    · have e2 : ¬ r.1 = kk q := fun z => e (kk_inj (h.1.symm.trans z))
      have e3 : lookK (p :: ps) q = lookK ps q := by simp [lookK, List.find?_cons, e]
      have e4 : valV (r :: rs) (kk q) = valV rs (kk q) := valV_neg e2
      rw [e3, e4]
      exact ih
theorem RKs.any {kvs ws} (h : RKs m kvs ws) (q : Key) : (kvs.any fun kv => decide (kv.1 = q)) = (ws.any fun kv => decide (kv.1 = kk q)) := by
  unfold RKs at h
  induction h with
  | nil => rfl
  | @cons p r ps rs h t ih =>
    rw [List.any_cons, List.any_cons, ih]
    congr 1
    by_cases e : p.1 = q
    · have e2 : r.1 = kk q := by rw [h.1, e]
      simp [e, e2]
    · have e2 : ¬ r.1 = kk q := fun z => e (kk_inj (h.1.symm.trans z))
      simp [e, e2]
theorem RKs.put {kvs ws} (h : RKs m kvs ws) (q : Key) {v : Val} {x : V} (r : RD m v x) : RKs m (putK kvs q v) (L2.putK ws (kk q) x) := by
  unfold putK L2.putK
  rw [h.any q]
  split
  · rename_i hh
    clear hh
    unfold RKs at h ⊢
    induction h with
    | nil => exact .nil
    | @cons p r' ps rs h t ih =>
      rw [List.map_cons, List.map_cons]
      refine .cons ?_ ih
      by_cases e : p.1 = q
      · have e2 : r'.1 = kk q := by rw [h.1, e]
        simp only [e, e2, if_true]
        exact ⟨trivial, r⟩
      · have e2 : ¬ r'.1 = kk q := fun z => e (kk_inj (h.1.symm.trans z))
        rw [if_neg e, if_neg e2]
        exact h
  · rename_i hh
    clear hh
    unfold RKs at h ⊢
    induction h with
    | nil => exact .cons ⟨rfl, r⟩ .nil
    | cons h t ih => exact .cons h ih
theorem RKs.drop {kvs ws} (h : RKs m kvs ws) (q : Key) : RKs m (dropK kvs q) (L2.dropK ws (kk q)) := by
  unfold dropK L2.dropK
  unfold RKs at h ⊢
  induction h with
  | nil => exact .nil
  | @cons p r' ps rs h t ih =>
    by_cases e : p.1 = q
    · have e2 : r'.1 = kk q := by rw [h.1, e]
      simpa [List.filter_cons, e, e2] using ih
    · have e2 : ¬ r'.1 = kk q := fun z => e (kk_inj (h.1.symm.trans z))
      have e5 : decide (r'.1 ≠ kk q) = true := decide_eq_true e2
      have e6 : (!decide (p.1 = q)) = true := by simp [e]
      rw [List.filter_cons, List.filter_cons, e5, e6]
      exact Paired.cons h ih
theorem RFs.look {fs gs} (h : RFs m fs gs) (f : String) : (∃ v x, fs.lookup f = some v ∧ gs.lookup (Str.ofString f) = some x ∧ RD m v x) ∨ (fs.lookup f = none ∧ gs.lookup (Str.ofString f) = none) := by
  unfold RFs at h
  induction h with
  | nil => exact .inr ⟨rfl, rfl⟩
  | @cons p r ps rs h t ih =>
    obtain ⟨p1, p2⟩ := p
    obtain ⟨r1, r2⟩ := r
    have h1 : r1 = Str.ofString p1 := h.1
    by_cases e : f = p1
    · subst e
      refine .inl ⟨p2, r2, ?_, ?_, h.2⟩
      · simp [List.lookup_cons]
      · simp [List.lookup_cons, h1]
    · have e2 : ¬ Str.ofString f = r1 := fun z => e (ofString_inj (z.trans h1))
      have e3 : (f == p1) = false := by simpa using e
      have e4 : (Str.ofString f == r1) = false := by simpa using e2
      rw [List.lookup_cons, List.lookup_cons, e3, e4]
      exact ih
theorem RFs.put {fs gs} (h : RFs m fs gs) (f : String) {v : Val} {x : V} (r : RD m v x) : RFs m (putF f v fs) (L2.putF (Str.ofString f) x gs) := by
  unfold RFs at h
  induction h with
  | nil => exact .cons ⟨rfl, r⟩ .nil
  | @cons p q ps qs h t ih =>
    obtain ⟨p1, p2⟩ := p
    obtain ⟨q1, q2⟩ := q
    have h1 : q1 = Str.ofString p1 := h.1
    unfold putF L2.putF
    by_cases e : p1 = f
    · have e2 : q1 = Str.ofString f := by rw [h1, e]
      rw [if_pos e, if_pos e2]
      exact .cons ⟨h1, r⟩ t
    · have e2 : ¬ q1 = Str.ofString f := fun z => e (ofString_inj (h1.symm.trans z))
      rw [if_neg e, if_neg e2]
      exact .cons h ih
end

/-- the object at a -/
def RO (mg : Cl) (m : Sm) (a : Addr) : Ob → Prop
  | .lst ds => ∃ vs, m.H a = some (.lst vs) ∧ RDs m ds vs
  | .dic kvs => ∃ ws, m.H a = some (.dK ws) ∧ RKs m kvs ws
  | .ins c fs => ∃ C dx gs, m.H a = some (.ins C dx gs) ∧ mg c C ∧ RFs m fs gs
  | .lck (.lst ds) => (∃ o vs, m.H a = some (.frz o (.lst vs)) ∧ RDs m ds vs) ∨
      ∃ (o : Obj) (its : Array Value) (n : Nat) (vs : List V), m.K.lookup a = some o ∧ o.cls = .type "list" ∧ o.dict = none ∧ o.data = .seq its n ∧ its.size ≤ sizeLine ∧ Vals vs its.toList ∧ RDs m ds vs
  | .lck (.dic kvs) => ∃ o ws, m.H a = some (.frz o (.dK ws)) ∧ RKs m kvs ws
  | .lck _ => False
/-- the written part is not tracked -/
def KF (K : PySem.W.Frag) (H : Hp) : Prop := ∀ a o, K.lookup a = some o → H a = none
structure SH (mg : Cl) (m : Sm) (S : Hm) : Prop where
  len : m.em.length = S.length
  nd : m.em.Nodup
  kf : KF m.K m.H
  ob : ∀ (n : Nat) o a, S[n]? = some o → m.em[n]? = some a → RO mg m a o
  z : ∀ a c, m.z = some (a, c) → mg.z a c
/-- what a piece of code may do: things outside of the small heap stay, new places were free -/
structure Ev (m m' : Sm) : Prop where
  k : m'.K = m.K
  z : m'.z = m.z
  em : ∃ l, m'.em = m.em ++ l
  keep : ∀ b o, m.H b = some o → b ∉ m.em → m'.H b = some o
  new : ∀ b ∈ m'.em, b ∉ m.em → m.H b = none
  frz : ∀ b o u, m.H b = some (.frz o u) → m'.H b = some (.frz o u)
section
variable {mg : Cl} {m m' m1 m2 : Sm} {S S' : Hm} {n : Nat} {a : Addr} {o : Ob}
theorem Ev.refl (m : Sm) : Ev m m := ⟨rfl, rfl, ⟨[], by simp⟩, fun _ _ h _ => h, fun b h h' => absurd h h', fun _ _ _ h => h⟩
theorem Ev.mem (e : Ev m m') {b : Addr} (h : b ∈ m.em) : b ∈ m'.em := by
  obtain ⟨l, q⟩ := e.em
  rw [q]
  exact List.mem_append_left _ h
theorem Ev.trans (e : Ev m m1) (e' : Ev m1 m2) : Ev m m2 where
  k := e'.k.trans e.k
  z := e'.z.trans e.z
  em := by
    obtain ⟨l, q⟩ := e.em
    obtain ⟨l', q'⟩ := e'.em
    exact ⟨l ++ l', by rw [q', q, List.append_assoc]⟩
  keep := fun b o h n => e'.keep b o (e.keep b o h n) fun z => by
    have := e.new b z n
    rw [h] at this
    cases this
  new := fun b h n => by
    by_cases z : b ∈ m1.em
    · exact e.new b z n
    · have h1 := e'.new b h z
      cases q : m.H b with
      | none => rfl
      | some o => rw [e.keep b o q n] at h1; cases h1
  frz := fun b o u h => e'.frz b o u (e.frz b o u h)
theorem SH.at (h : SH mg m S) (e : S[n]? = some o) : ∃ a, m.em[n]? = some a ∧ RO mg m a o := by
  have hn : n < m.em.length := by rw [h.len]; exact (List.getElem?_eq_some_iff.mp e).1
  exact ⟨m.em[n], List.getElem?_eq_getElem hn, h.ob n o _ e (List.getElem?_eq_getElem hn)⟩
theorem SH.lt (h : SH mg m S) (e : m.em[n]? = some a) : ∃ o, S[n]? = some o := by
  have hn : n < S.length := by rw [← h.len]; exact (List.getElem?_eq_some_iff.mp e).1
  exact ⟨S[n], List.getElem?_eq_getElem hn⟩
/-- what stands at a place is no tuple -/
theorem SH.notup (h : SH mg m S) {a : Addr} {xs : List V} (e : m.H a = some (.tup xs) ∨ ∃ o, m.H a = some (.frz o (.tup xs))) : a ∉ m.em := fun z => by
  obtain ⟨n, hn⟩ := List.getElem?_of_mem z
  obtain ⟨o, ho⟩ := h.lt hn
  have r := h.ob n o a ho hn
  cases o with
  | lst ds => obtain ⟨vs, q, _⟩ := r; rcases e with e | ⟨_, e⟩ <;> rw [q] at e <;> cases e
  | dic ds => obtain ⟨vs, q, _⟩ := r; rcases e with e | ⟨_, e⟩ <;> rw [q] at e <;> cases e
  | ins c fs => obtain ⟨C, dx, gs, q, _⟩ := r; rcases e with e | ⟨_, e⟩ <;> rw [q] at e <;> cases e
  | lck o =>
    cases o with
    | lst ds =>
      rcases r with ⟨o, vs, q, _⟩ | ⟨o, its, k, vs, q, _⟩
      · rcases e with e | ⟨_, e⟩ <;> rw [q] at e <;> cases e
      · have := h.kf a o q
        rcases e with e | ⟨_, e⟩ <;> rw [this] at e <;> cases e
    | dic ds => obtain ⟨o, vs, q, _⟩ := r; rcases e with e | ⟨_, e⟩ <;> rw [q] at e <;> cases e
    | ins c fs => exact r
    | lck o => exact r
theorem Ev.up (e : Ev m m') (h : SH mg m S) : Up m m' where
  tup := fun a xs q => by
    rcases q with (q | ⟨o, q⟩) | q
    · exact .inl (.inl (e.keep _ _ q (h.notup (.inl q))))
    · exact .inl (.inr ⟨o, e.keep _ _ q (h.notup (.inr ⟨o, q⟩))⟩)
    · rw [e.k]
      exact .inr q
  em := e.em
  z := fun p q => by rw [e.z]; exact q
theorem SH.inj (h : SH mg m S) {i j : Nat} {a : Addr} (hi : m.em[i]? = some a) (hj : m.em[j]? = some a) : i = j := by
  obtain ⟨h1, e1⟩ := List.getElem?_eq_some_iff.mp hi
  obtain ⟨h2, e2⟩ := List.getElem?_eq_some_iff.mp hj
  exact (List.getElem_inj h.nd).mp (e1.trans e2.symm)
theorem RO.up (u : Up m m') (hk : m'.K = m.K) (hH : m'.H a = m.H a) (r : RO mg m a o) : RO mg m' a o := by
  cases o with
  | lst ds => obtain ⟨vs, q, r⟩ := r; exact ⟨vs, hH.trans q, r.up u⟩
  | dic ds => obtain ⟨vs, q, r⟩ := r; exact ⟨vs, hH.trans q, r.up u⟩
  | ins c fs => obtain ⟨C, dx, gs, q, g, r⟩ := r; exact ⟨C, dx, gs, hH.trans q, g, r.up u⟩
  | lck o =>
    cases o with
    | lst ds =>
      rcases r with ⟨o, vs, q, r⟩ | ⟨o, its, k, vs, q, h1, h2, h3, h4, h5, r⟩
      · exact .inl ⟨o, vs, hH.trans q, r.up u⟩
      · exact .inr ⟨o, its, k, vs, by rw [hk]; exact q, h1, h2, h3, h4, h5, r.up u⟩
    | dic ds => obtain ⟨o, vs, q, r⟩ := r; exact ⟨o, vs, hH.trans q, r.up u⟩
    | ins c fs => exact r
    | lck o => exact r
/-- a new tuple (or any thing outside of the small heap) -/
theorem SH.more (h : SH mg m S) {H' : Hp} (e : Ev m { m with H := H' }) (hH : ∀ b ∈ m.em, H' b = m.H b) (kf : KF m.K H') : SH mg { m with H := H' } S :=
  ⟨h.len, h.nd, kf, fun n o a e1 e2 => (h.ob n o a e1 e2).up (e.up h) rfl (hH a (List.mem_of_getElem? e2)), h.z⟩
theorem SH.free (h : SH mg m S) {p : Addr} (hp : m.H p = none) (kp : m.K.lookup p = none) : p ∉ m.em := fun z => by
  obtain ⟨n, hn⟩ := List.getElem?_of_mem z
  obtain ⟨o, ho⟩ := h.lt hn
  have r := h.ob n o p ho hn
  cases o with
  | lst ds => obtain ⟨vs, q, _⟩ := r; rw [hp] at q; cases q
  | dic ds => obtain ⟨vs, q, _⟩ := r; rw [hp] at q; cases q
  | ins c fs => obtain ⟨C, dx, gs, q, _⟩ := r; rw [hp] at q; cases q
  | lck o =>
    cases o with
    | lst ds =>
      rcases r with ⟨o, vs, q, _⟩ | ⟨o, its, k, vs, q, _⟩
      · rw [hp] at q; cases q
      · rw [kp] at q; cases q
    | dic ds => obtain ⟨o, vs, q, _⟩ := r; rw [hp] at q; cases q
    | ins c fs => exact r
    | lck o => exact r
theorem kf_free {K : PySem.W.Frag} {H : Hp} {p : Addr} {o : HO} (k : KF K H) (h : H p = some o) : K.lookup p = none := by
  cases q : K.lookup p with
  | none => rfl
  | some u => rw [k p u q] at h; cases h
/-- a thing outside of the small heap is made at p -/
theorem Ev.outside {p : Addr} {o : HO} (hp : m.H p = none) : Ev m { m with H := L2.upd m.H p o } :=
  ⟨rfl, rfl, ⟨[], by simp⟩, fun b u h _ => by show L2.upd m.H p o b = _; rw [upd_ne (ne_of_none h hp)]; exact h, fun b h h' => absurd h h', fun b q u h => by show L2.upd m.H p o b = _; rw [upd_ne (ne_of_none h hp)]; exact h⟩
theorem SH.outside (h : SH mg m S) {p : Addr} {o : HO} (hp : m.H p = none) (kf : KF m.K (L2.upd m.H p o)) : SH mg { m with H := L2.upd m.H p o } S := by
  have kp : m.K.lookup p = none := kf_free kf (upd_same (H := m.H) (a := p) (o := o))
  have np := h.free hp kp
  exact h.more (Ev.outside hp) (fun b hb => upd_ne fun z => np (z ▸ hb)) kf
/-- a new object at p comes to the small heap -/
theorem Ev.alloc {p : Addr} {o : HO} (hp : m.H p = none) : Ev m { m with H := L2.upd m.H p o, em := m.em ++ [p] } :=
  ⟨rfl, rfl, ⟨[p], rfl⟩, fun b u h _ => by show L2.upd m.H p o b = _; rw [upd_ne (ne_of_none h hp)]; exact h, fun b h h' => by
    rcases List.mem_append.mp h with z | z
    · exact absurd z h'
    · have : b = p := by simpa using z
      rw [this]; exact hp, fun b q u h => by show L2.upd m.H p o b = _; rw [upd_ne (ne_of_none h hp)]; exact h⟩
theorem SH.alloc (h : SH mg m S) {p : Addr} {o : HO} {ob : Ob} (hp : m.H p = none) (kf : KF m.K (L2.upd m.H p o)) (r : RO mg { m with H := L2.upd m.H p o, em := m.em ++ [p] } p ob) :
    SH mg { m with H := L2.upd m.H p o, em := m.em ++ [p] } (S ++ [ob]) := by
  have kp : m.K.lookup p = none := kf_free kf (upd_same (H := m.H) (a := p) (o := o))
  have np := h.free hp kp
  refine ⟨by simp [h.len], ?_, kf, fun n u a e1 e2 => ?_, h.z⟩
  · show (m.em ++ [p]).Nodup
    rw [List.nodup_append]
    refine ⟨h.nd, by simp, fun x hx y hy => ?_⟩
    have : y = p := by simpa using hy
    rw [this]
    exact fun z => np (z ▸ hx)
  · have e2 : (m.em ++ [p])[n]? = some a := e2
    by_cases hn : n < S.length
    · rw [List.getElem?_append_left hn] at e1
      rw [List.getElem?_append_left (by rw [h.len]; exact hn)] at e2
      exact (h.ob n u a e1 e2).up (m' := { m with H := L2.upd m.H p o, em := m.em ++ [p] }) ((Ev.alloc hp).up h) rfl (upd_ne fun z => np (z ▸ List.mem_of_getElem? e2))
    · have hn2 : n = S.length := by
        have := (List.getElem?_eq_some_iff.mp e1).1
        simp at this
        omega
      subst hn2
      rw [List.getElem?_append_right (Nat.le_refl _)] at e1
      rw [← h.len, List.getElem?_append_right (Nat.le_refl _)] at e2
      simp at e1 e2
      subst e1 e2
      exact r
/-- the object at place n is changed -/
theorem Ev.put {o : HO} (e : Ev m m1) (ha : m.em[n]? = some a) (nf : ∀ q u, m.H a ≠ some (.frz q u)) : Ev m { m1 with H := L2.upd m1.H a o } :=
  ⟨e.k, e.z, e.em, fun b u h nb => by show L2.upd m1.H a o b = _; rw [upd_ne fun z => nb (by rw [z]; exact List.mem_of_getElem? ha)]; exact e.keep b u h nb, e.new, fun b q u h => by show L2.upd m1.H a o b = _; rw [upd_ne fun z => nf q u (by rw [← z]; exact h)]; exact e.frz b q u h⟩
theorem Ev.write {o u : HO} (ha : m.em[n]? = some a) (hu : m.H a = some u) (nf : ∀ q x, u ≠ .frz q x := by intro _ _ h; cases h) : Ev m { m with H := L2.upd m.H a o } := (Ev.refl m).put ha fun q x h => nf q x (by rw [hu] at h; exact Option.some.inj h)
theorem SH.upw (h : SH mg m S) {o : HO} (ha : m.em[n]? = some a) : Up m { m with H := L2.upd m.H a o } where
  tup := fun b xs q => by
    have ne : ∀ b, b ∉ m.em → b ≠ a := fun b nb z => nb (by rw [z]; exact List.mem_of_getElem? ha)
    rcases q with (q | ⟨u, q⟩) | q
    · exact .inl (.inl (by show L2.upd m.H a o b = _; rw [upd_ne (ne b (h.notup (.inl q)))]; exact q))
    · exact .inl (.inr ⟨u, by show L2.upd m.H a o b = _; rw [upd_ne (ne b (h.notup (.inr ⟨u, q⟩)))]; exact q⟩)
    · exact .inr q
  em := ⟨[], by simp⟩
  z := fun _ h => h
theorem SH.write (h : SH mg m S) {o : HO} {u : HO} {ob : Ob} (ha : m.em[n]? = some a) (hu : m.H a = some u) (r : RO mg { m with H := L2.upd m.H a o } a ob) : SH mg { m with H := L2.upd m.H a o } (S.set n ob) := by
  refine ⟨by simp [h.len], h.nd, fun b q e => ?_, fun k v b e1 e2 => ?_, h.z⟩
  · show L2.upd m.H a o b = none
    have hb := h.kf b q e
    rw [upd_ne fun z => by rw [z, hu] at hb; cases hb]
    exact hb
  · by_cases hk : k = n
    · subst hk
      have e2 : m.em[k]? = some b := e2
      rw [ha] at e2
      cases e2
      have hl : k < S.length := by rw [← h.len]; exact (List.getElem?_eq_some_iff.mp ha).1
      rw [List.getElem?_set_self hl] at e1
      cases e1
      exact r
    · rw [List.getElem?_set_ne (Ne.symm hk)] at e1
      exact (h.ob k v b e1 e2).up (m' := { m with H := L2.upd m.H a o }) (h.upw ha) rfl (upd_ne fun z => hk (h.inj e2 (z ▸ ha)))

/-! ### reading -/
theorem SH.lst (h : SH mg m S) {xs : List Val} (e : Hm.lst S n = some xs) (ha : m.em[n]? = some a) : ∃ vs, SqL m.K m.H a vs ∧ RDs m xs vs := by
  obtain ⟨o, ho⟩ := h.lt ha
  have r := h.ob n o a ho ha
  unfold Hm.lst at e
  rw [ho] at e
  cases o with
  | lst ds => cases e; obtain ⟨vs, q, r⟩ := r; exact ⟨vs, .inl (.inl q), r⟩
  | dic ds => cases e
  | ins c fs => cases e
  | lck o =>
    cases o with
    | lst ds =>
      cases e
      rcases r with ⟨o, vs, q, r⟩ | ⟨o, its, k, vs, q, h1, h2, h3, h4, h5, r⟩
      · exact ⟨vs, .inl (.inr ⟨o, q⟩), r⟩
      · exact ⟨vs, .inr ⟨o, its, k, q, h1, h2, h3, h4, h5⟩, r⟩
    | dic ds => cases e
    | ins c fs => cases e
    | lck o => cases e
theorem SH.dic (h : SH mg m S) {xs : List (Key × Val)} (e : Hm.dic S n = some xs) (ha : m.em[n]? = some a) : ∃ ws, Rd m.H a (.dK ws) ∧ RKs m xs ws := by
  obtain ⟨o, ho⟩ := h.lt ha
  have r := h.ob n o a ho ha
  unfold Hm.dic at e
  rw [ho] at e
  cases o with
  | lst ds => cases e
  | dic ds => cases e; obtain ⟨vs, q, r⟩ := r; exact ⟨vs, .inl q, r⟩
  | ins c fs => cases e
  | lck o =>
    cases o with
    | lst ds => cases e
    | dic ds =>
      cases e
      obtain ⟨o, vs, q, r⟩ := r
      exact ⟨vs, .inr ⟨o, q⟩, r⟩
    | ins c fs => cases e
    | lck o => cases e
theorem lst_of (e : S[n]? = some (.lst xs)) : Hm.lst S n = some xs := by unfold Hm.lst; rw [e]
theorem dic_of (e : S[n]? = some (.dic xs)) : Hm.dic S n = some xs := by unfold Hm.dic; rw [e]
/-! ### no exception within -/
mutual
theorem RD.fr {m : Sm} (hz : m.z = none) : ∀ {v : Val} {x : V}, RD m v x → v.fr = true
  | _, _, .non => rfl
  | _, _, .bl _ => rfl
  | _, _, .int _ => rfl
  | _, _, .str _ => rfl
  | _, _, .tup _ hs => by rw [Val.fr]; exact RDs.fr hz hs
  | _, _, .ref _ => rfl
  | _, _, .exc h => by rw [hz] at h; cases h
theorem RDs.fr {m : Sm} (hz : m.z = none) : ∀ {ds : List Val} {xs : List V}, RDs m ds xs → Val.frs ds = true
  | _, _, .nil => rfl
  | _, _, .cons h hs => by rw [Val.frs, RD.fr hz h, RDs.fr hz hs]; rfl
end
mutual
theorem RD.out {m : Sm} : ∀ {v : Val} {x : V}, RD m v x → v.fr = true → RD { m with z := none } v x
  | _, _, .non, _ => .non
  | _, _, .bl b, _ => .bl b
  | _, _, .int i, _ => .int i
  | _, _, .str x, _ => .str x
  | _, _, .tup h hs, e => .tup h (RDs.out hs (by rw [Val.fr] at e; exact e))
  | _, _, .ref h, _ => .ref h
  | _, _, .exc h, e => by cases e
theorem RDs.out {m : Sm} : ∀ {ds : List Val} {xs : List V}, RDs m ds xs → Val.frs ds = true → RDs { m with z := none } ds xs
  | _, _, .nil, _ => .nil
  | _, _, .cons h hs, e => by
    rw [Val.frs, Bool.and_eq_true] at e
    exact .cons (RD.out h e.1) (RDs.out hs e.2)
end
theorem RKs.fr {m : Sm} (hz : m.z = none) {kvs : List (Key × Val)} {ws : List (L2.Key × V)} (h : RKs m kvs ws) : (kvs.all fun p => p.2.fr) = true := by
  unfold RKs at h
  induction h with
  | nil => rfl
  | cons h t ih => rw [List.all_cons, h.2.fr hz, ih]; rfl
theorem RFs.fr {m : Sm} (hz : m.z = none) {fs : List (String × Val)} {gs : List (Str × V)} (h : RFs m fs gs) : (fs.all fun p => p.2.fr) = true := by
  unfold RFs at h
  induction h with
  | nil => rfl
  | cons h t ih => rw [List.all_cons, h.2.fr hz, ih]; rfl
theorem RKs.out {m : Sm} {kvs : List (Key × Val)} {ws : List (L2.Key × V)} (h : RKs m kvs ws) (e : (kvs.all fun p => p.2.fr) = true) : RKs { m with z := none } kvs ws := by
  unfold RKs at h ⊢
  induction h with
  | nil => exact .nil
  | cons h t ih =>
    rw [List.all_cons, Bool.and_eq_true] at e
    exact .cons ⟨h.1, h.2.out e.1⟩ (ih e.2)
theorem RFs.out {m : Sm} {fs : List (String × Val)} {gs : List (Str × V)} (h : RFs m fs gs) (e : (fs.all fun p => p.2.fr) = true) : RFs { m with z := none } fs gs := by
  unfold RFs at h ⊢
  induction h with
  | nil => exact .nil
  | cons h t ih =>
    rw [List.all_cons, Bool.and_eq_true] at e
    exact .cons ⟨h.1, h.2.out e.1⟩ (ih e.2)
theorem RO.fr {cl : Cl} {m : Sm} (hz : m.z = none) {a : Addr} {o : Ob} (h : RO cl m a o) : o.fr = true := by
  cases o with
  | lst ds => obtain ⟨vs, _, r⟩ := h; rw [Ob.fr]; exact r.fr hz
  | dic kvs => obtain ⟨ws, _, r⟩ := h; rw [Ob.fr]; exact r.fr hz
  | ins c fs => obtain ⟨C, dx, gs, _, _, r⟩ := h; rw [Ob.fr]; exact r.fr hz
  | lck o =>
    rw [Ob.fr]
    cases o with
    | lst ds =>
      rcases h with ⟨o, vs, _, r⟩ | ⟨o, its, n, vs, _, _, _, _, _, _, r⟩
      · rw [Ob.fr]; exact r.fr hz
      · rw [Ob.fr]; exact r.fr hz
    | dic kvs => obtain ⟨o, ws, _, r⟩ := h; rw [Ob.fr]; exact r.fr hz
    | ins c fs => exact h.elim
    | lck o => exact h.elim
theorem RO.out {cl : Cl} {b : Addr} {c : String} {m : Sm} {a : Addr} {o : Ob} (h : RO (cl.at b c) m a o) (e : o.fr = true) : RO cl { m with z := none } a o := by
  cases o with
  | lst ds => obtain ⟨vs, q, r⟩ := h; exact ⟨vs, q, r.out (by rw [Ob.fr] at e; exact e)⟩
  | dic kvs => obtain ⟨ws, q, r⟩ := h; exact ⟨ws, q, r.out (by rw [Ob.fr] at e; exact e)⟩
  | ins c fs => obtain ⟨C, dx, gs, q, g, r⟩ := h; exact ⟨C, dx, gs, q, g, r.out (by rw [Ob.fr] at e; exact e)⟩
  | lck o =>
    rw [Ob.fr] at e
    cases o with
    | lst ds =>
      rw [Ob.fr] at e
      rcases h with ⟨o, vs, q, r⟩ | ⟨o, its, n, vs, h1, h2, h3, h4, h5, h6, r⟩
      · exact .inl ⟨o, vs, q, r.out e⟩
      · exact .inr ⟨o, its, n, vs, h1, h2, h3, h4, h5, h6, r.out e⟩
    | dic kvs => rw [Ob.fr] at e; obtain ⟨o, ws, q, r⟩ := h; exact ⟨o, ws, q, r.out e⟩
    | ins c fs => exact h.elim
    | lck o => exact h.elim
/-- into an except suite -/
theorem SH.inz {cl : Cl} {m : Sm} {S : Hm} (h : SH cl m S) (hz : m.z = none) (a : Addr) (c : String) : SH (cl.at a c) { m with z := some (a, c) } S :=
  ⟨h.len, h.nd, h.kf, fun n o b e1 e2 => by
    have u : Up m { m with z := some (a, c) } := ⟨fun _ _ q => q, ⟨[], by simp⟩, fun p q => by rw [hz] at q; cases q⟩
    have r := h.ob n o b e1 e2
    have r2 : RO cl { m with z := some (a, c) } b o := r.up u rfl rfl
    cases o with
    | lst ds => exact r2
    | dic kvs => exact r2
    | ins c fs => exact r2
    | lck o => cases o <;> exact r2, fun b d e => by cases e; exact ⟨rfl, rfl⟩⟩
/-- .. and out of it -/
theorem SH.outz {cl : Cl} {m m2 : Sm} {S S2 : Hm} {a : Addr} {c : String} (h : SH cl m S) (hz : m.z = none) (e : Ev { m with z := some (a, c) } m2) (h2 : SH (cl.at a c) m2 S2) (hl : ∃ l : Hm, S2 = S ++ l ∧ l.all Ob.fr = true) : Ev m { m2 with z := none } ∧ SH cl { m2 with z := none } S2 := by
  refine ⟨⟨e.k, hz.symm, e.em, e.keep, e.new, e.frz⟩, ⟨h2.len, h2.nd, h2.kf, fun n o b e1 e2 => ?_, fun b d q => by cases q⟩⟩
  refine (h2.ob n o b e1 e2).out ?_
  obtain ⟨l, rfl, hf⟩ := hl
  by_cases hn : n < S.length
  · rw [List.getElem?_append_left hn] at e1
    obtain ⟨b', _, r⟩ := h.at e1
    exact r.fr hz
  · rw [List.getElem?_append_right (by omega)] at e1
    rw [List.all_eq_true] at hf
    exact hf o (List.mem_of_getElem? e1)
/-- wishes, lifted -/
def liftQ (mg : Cl) (m : Sm) (Q : VK) : Post := fun v S' => ∀ m' x, Ev m m' → SH mg m' S' → RD m' v x → Q x m'.H
theorem liftQ.ev {Q Q' : VK} (e : Ev m m1) (hq : ∀ x H, KF m.K H → Q x H → Q' x H) {v : Val} {S : Hm} (h : liftQ mg m Q v S) : liftQ mg m1 Q' v S := fun m' x e' hS r => by
  have e2 := e.trans e'
  exact hq _ _ (e2.k ▸ hS.kf) (h m' x e2 hS r)
end
end Mi

set_option maxHeartbeats 2000000
namespace Mi
open PySem PySem.Spec L2 PyProof.Rows
section
variable {X : Cx} {cl : Cl} {pins : List (Addr × Obj)} {σ : L2.St} {H : Hp} {s : Shared} {Q : VK}
theorem kfree (I : Inv X pins σ H s) : KF X.K H := fun a o e => (I.bs a o (I.ok.mod.kin a o e)).2
/-- what follows may use that the written part is not tracked -/
theorem epkf {M : Model} {A : Around} {E : Value → Shared → Prop} {f : Sem Value} (h : wpAny M A f (EP X pins σ fun x H' => KF X.K H' → Q x H') E s) : wpAny M A f (EP X pins σ Q) E s :=
  thn h fun _ _ ⟨v, H', I, r, q⟩ => ⟨v, H', I, r, q (kfree I)⟩
theorem PE.kf {e : Expr} {t : TE} (h : PE X e t) : PE X e (fun σ H Q => t σ H fun x H' => KF X.K H' → Q x H') := ⟨fun pins s σ H Q I hw => epkf (h.run pins s σ H _ I hw)⟩
theorem PE.imp {e : Expr} {t t' : TE} (h : PE X e t) (f : ∀ σ H Q, t' σ H Q → t σ H Q) : PE X e t' := ⟨fun pins s σ H Q I hw => h.run pins s σ H Q I (f _ _ _ hw)⟩
theorem OpR.kf {f : Value → Value → Sem Value} {r : R2} (h : OpR X f r) : OpR X f (fun x y H Q => r x y H fun z H' => KF X.K H' → Q z H') :=
  fun pins s σ H x y v u Q I rx ry hw => epkf (h pins s σ H x y v u _ I rx ry hw)
theorem CallR.kf {f : Value} {r : List V → Hp → VK → Prop} (h : CallR X f r) : CallR X f (fun xs H Q => r xs H fun z H' => KF X.K H' → Q z H') :=
  fun pins s σ H xs us Q I rx hw => epkf (h pins s σ H xs us _ I rx hw)
theorem MtR.kf {id : String} {r : V → List V → Hp → VK → Prop} (h : MtR X id r) : MtR X id (fun x xs H Q => r x xs H fun z H' => KF X.K H' → Q z H') :=
  fun pins s σ H x xs v us Q I rx rs hw => epkf (h pins s σ H x xs v us _ I rx rs hw)

/-! ### making things -/
variable {m : Sm} {S : Hm}
theorem mk_tup (hS : SH cl m S) {ds : List Val} {vs : List V} (r : RDs m ds vs) {p : Addr} (hp : m.H p = none) (kf : KF m.K (L2.upd m.H p (.tup vs))) (h : liftQ cl m Q (.tup ds) S) : Q (.ref p) (L2.upd m.H p (.tup vs)) := by
  have e : Ev m { m with H := L2.upd m.H p (.tup vs) } := Ev.outside hp
  exact h { m with H := L2.upd m.H p (.tup vs) } (.ref p) e (hS.outside hp kf) (.tup (.inl (.inl upd_same)) (r.up (e.up hS)))
theorem mk_lst (hS : SH cl m S) {ds : List Val} {vs : List V} (r : RDs m ds vs) {p : Addr} (hp : m.H p = none) (kf : KF m.K (L2.upd m.H p (.lst vs))) (h : liftQ cl m Q (.ref S.length) (S ++ [.lst ds])) : Q (.ref p) (L2.upd m.H p (.lst vs)) := by
  have e : Ev m { m with H := L2.upd m.H p (.lst vs), em := m.em ++ [p] } := Ev.alloc hp
  refine h { m with H := L2.upd m.H p (.lst vs), em := m.em ++ [p] } (.ref p) e (hS.alloc hp kf ⟨vs, upd_same, r.up (e.up hS)⟩) (.ref ?_)
  show (m.em ++ [p])[S.length]? = some p
  rw [← hS.len]
  simp
theorem mk_dic (hS : SH cl m S) {kvs : List (Key × Val)} {ws : List (L2.Key × V)} (r : RKs m kvs ws) {p : Addr} (hp : m.H p = none) (kf : KF m.K (L2.upd m.H p (.dK ws))) (h : liftQ cl m Q (.ref S.length) (S ++ [.dic kvs])) : Q (.ref p) (L2.upd m.H p (.dK ws)) := by
  have e : Ev m { m with H := L2.upd m.H p (.dK ws), em := m.em ++ [p] } := Ev.alloc hp
  refine h { m with H := L2.upd m.H p (.dK ws), em := m.em ++ [p] } (.ref p) e (hS.alloc hp kf ⟨ws, upd_same, r.up (e.up hS)⟩) (.ref ?_)
  show (m.em ++ [p])[S.length]? = some p
  rw [← hS.len]
  simp
/-- a list changed -/
theorem wr_lst (hS : SH cl m S) {n : Nat} {a : Addr} {u : HO} {ds : List Val} {vs : List V} {v : Val} {x : V} (ha : m.em[n]? = some a) (hu : m.H a = some u) (r : RDs m ds vs) (rx : RD m v x) (h : liftQ cl m Q v (S.set n (.lst ds))) (nf : ∀ q x, u ≠ .frz q x := by intro _ _ h; cases h) : Q x (L2.upd m.H a (.lst vs)) := by
  have e : Ev m { m with H := L2.upd m.H a (.lst vs) } := Ev.write ha hu nf
  exact h { m with H := L2.upd m.H a (.lst vs) } x e (hS.write ha hu ⟨vs, upd_same, r.up (e.up hS)⟩) (rx.up (e.up hS))
theorem wr_dic (hS : SH cl m S) {n : Nat} {a : Addr} {u : HO} {kvs : List (Key × Val)} {ws : List (L2.Key × V)} {v : Val} {x : V} (ha : m.em[n]? = some a) (hu : m.H a = some u) (r : RKs m kvs ws) (rx : RD m v x) (h : liftQ cl m Q v (S.set n (.dic kvs))) (nf : ∀ q x, u ≠ .frz q x := by intro _ _ h; cases h) : Q x (L2.upd m.H a (.dK ws)) := by
  have e : Ev m { m with H := L2.upd m.H a (.dK ws) } := Ev.write ha hu nf
  exact h { m with H := L2.upd m.H a (.dK ws) } x e (hS.write ha hu ⟨ws, upd_same, r.up (e.up hS)⟩) (rx.up (e.up hS))
theorem SH.lst' (h : SH cl m S) {n : Nat} {a : Addr} {xs : List Val} (e : S[n]? = some (.lst xs)) (ha : m.em[n]? = some a) : ∃ vs, m.H a = some (.lst vs) ∧ RDs m xs vs := h.ob n _ a e ha
theorem SH.dic' (h : SH cl m S) {n : Nat} {a : Addr} {xs : List (Key × Val)} (e : S[n]? = some (.dic xs)) (ha : m.em[n]? = some a) : ∃ ws, m.H a = some (.dK ws) ∧ RKs m xs ws := h.ob n _ a e ha
theorem stay (hS : SH cl m S) {v : Val} {x : V} (r : RD m v x) (h : liftQ cl m Q v S) : Q x m.H := h m x (Ev.refl m) hS r

/-! ### == -/
theorem strOk_ofString (x : String) : PyData.strOk (Str.ofString x) = true := by
  unfold PyData.strOk
  rw [← Array.all_toList, cps_ofString, List.all_eq_true]
  intro c hc
  obtain ⟨d, _, rfl⟩ := List.mem_map.mp hc
  have h := d.valid
  simp only [UInt32.isValidChar, Nat.isValidChar] at h
  have : d.toNat = d.val.toNat := rfl
  rw [decide_eq_true_eq]
  omega
theorem mapM_some {α β : Type} {f : α → Option β} : ∀ {xs : List α} {ys : List β}, xs.mapM f = some ys → Paired (fun x y => f x = some y) xs ys
  | [], ys, h => by
    simp at h
    subst h
    exact .nil
  | x :: xs, ys, h => by
    rw [List.mapM_cons] at h
    cases e : f x with
    | none => rw [e] at h; simp at h
    | some y =>
      rw [e] at h
      cases e2 : xs.mapM f with
      | none => rw [e2] at h; simp at h
      | some zs =>
        rw [e2] at h
        simp at h
        subst h
        exact .cons e (mapM_some e2)
theorem some_mapM {α β : Type} {f : α → Option β} {xs : List α} {ys : List β} (h : Paired (fun x y => f x = some y) xs ys) : xs.mapM f = some ys := by
  induction h with
  | nil => rfl
  | cons h t ih => rw [List.mapM_cons, h, ih]; rfl
theorem dat_dp (hS : SH cl m S) : ∀ (k : Nat) {v : Val} {x : V} {d : PyData}, RD m v x → dat S k v = some d → Dp m.K m.H x d ∧ d.canLay0 = true ∧ d.depth ≤ k := by
  have all : ∀ (k : Nat), (∀ {v : Val} {x : V} {d : PyData}, RD m v x → dat S k v = some d → Dp m.K m.H x d ∧ d.canLay0 = true ∧ d.depth ≤ k) →
      ∀ {ds : List Val} {xs : List V} {es : List PyData}, RDs m ds xs → Paired (fun x y => dat S k x = some y) ds es → DpAll m.K m.H xs es ∧ PyData.canLayAll0 es = true ∧ PyData.depthAll es ≤ k := by
    intro k ih ds xs es r p
    induction p generalizing xs with
    | nil => cases r; exact ⟨.nil, by simp [PyData.canLayAll0], by simp [PyData.depthAll]⟩
    | cons h t iht =>
      cases r with
      | cons r rs =>
        obtain ⟨a1, a2, a3⟩ := ih r h
        obtain ⟨b1, b2, b3⟩ := iht rs
        exact ⟨.cons a1 b1, by simp [PyData.canLayAll0, a2, b2], by simp [PyData.depthAll]; omega⟩
  intro k
  induction k with
  | zero =>
    intro v x d r e
    cases r <;> simp [dat] at e
    · subst e; exact ⟨.non, rfl, by simp [PyData.depth]⟩
    · subst e; exact ⟨.bl _, rfl, by simp [PyData.depth]⟩
    · subst e; exact ⟨.int _, rfl, by simp [PyData.depth]⟩
    · subst e; exact ⟨.str _, by simp [PyData.canLay0, strOk_ofString], by simp [PyData.depth]⟩
  | succ k ih =>
    intro v x d r e
    cases r with
    | non => simp [dat] at e; subst e; exact ⟨.non, rfl, by simp [PyData.depth]⟩
    | bl b => simp [dat] at e; subst e; exact ⟨.bl _, rfl, by simp [PyData.depth]⟩
    | int i => simp [dat] at e; subst e; exact ⟨.int _, rfl, by simp [PyData.depth]⟩
    | str x => simp [dat] at e; subst e; exact ⟨.str _, by simp [PyData.canLay0, strOk_ofString], by simp [PyData.depth]⟩
    | @tup a xs ds hq rs =>
      simp only [dat, Option.map_eq_some_iff] at e
      obtain ⟨es, e1, rfl⟩ := e
      obtain ⟨a1, a2, a3⟩ := all k ih rs (mapM_some e1)
      exact ⟨.tup hq a1, by simpa [PyData.canLay0] using a2, by simp [PyData.depth]; exact a3⟩
    | @ref n a ha =>
      simp only [dat] at e
      split at e
      · rename_i xs hl
        rw [Option.map_eq_some_iff] at e
        obtain ⟨es, e1, rfl⟩ := e
        obtain ⟨vs, hq, rs⟩ := hS.lst hl ha
        obtain ⟨a1, a2, a3⟩ := all k ih rs (mapM_some e1)
        exact ⟨.lst hq a1, by simpa [PyData.canLay0] using a2, by simp [PyData.depth]; exact a3⟩
      · cases e
    | exc h => simp [dat] at e
theorem dat_shaped {k : Nat} (hS : SH cl m S) {v : Val} {x : V} {d : PyData} (hk : k ≤ 64) (r : RD m v x) (e : dat S k v = some d) : Dp m.K m.H x d ∧ SeqAt.shaped d = true := by
  obtain ⟨a, b, c⟩ := dat_dp hS k r e
  refine ⟨a, ?_⟩
  unfold SeqAt.shaped
  rw [b, decide_eq_true (by omega)]
  rfl
theorem datAll_dp (hS : SH cl m S) {k : Nat} {ds : List Val} {xs : List V} {es : List PyData} (hk : k + 1 ≤ 64) (r : RDs m ds xs) (e : ds.mapM (dat S k) = some es) : DpAll m.K m.H xs es ∧ SeqAt.shaped (.list es) = true := by
  have p := mapM_some e
  have all : DpAll m.K m.H xs es ∧ PyData.canLayAll0 es = true ∧ PyData.depthAll es ≤ k := by
    clear e
    induction p generalizing xs with
    | nil => cases r; exact ⟨.nil, by simp [PyData.canLayAll0], by simp [PyData.depthAll]⟩
    | cons h t iht =>
      cases r with
      | cons r rs =>
        obtain ⟨a1, a2, a3⟩ := dat_dp hS k r h
        obtain ⟨b1, b2, b3⟩ := iht rs
        exact ⟨.cons a1 b1, by simp [PyData.canLayAll0, a2, b2], by simp [PyData.depthAll]; omega⟩
  refine ⟨all.1, ?_⟩
  unfold SeqAt.shaped
  have h1 : (PyData.list es).canLay0 = true := by simpa [PyData.canLay0] using all.2.1
  have h2 : (PyData.list es).depth ≤ 64 := by simp [PyData.depth]; omega
  rw [h1, decide_eq_true h2]
  rfl
theorem flat_rd {v : Val} {x : V} (r : RD m v x) (h : flat v = true) : flatV x = true := by cases r <;> first | rfl | cases h
theorem feq_rd {v w : Val} {x y : V} (r : RD m v x) (r' : RD m w y) (h : flat v = true) (h' : flat w = true) : eqV x y = feq v w := by
  cases r <;> cases r' <;> first | rfl | cases h | cases h' | skip
  rename_i a b
  show (Str.ofString a == Str.ofString b) = (a == b)
  by_cases e : a = b
  · subst e; simp
  · have e2 : ¬ Str.ofString a = Str.ofString b := fun z => e (ofString_inj z)
    rw [beq_eq_false_iff_ne.mpr e, beq_eq_false_iff_ne.mpr e2]
theorem flats_rd {ds : List Val} {xs : List V} (r : RDs m ds xs) (h : ds.all flat = true) : xs.all flatV = true := by
  induction ds generalizing xs with
  | nil => cases r; rfl
  | cons d ds ih =>
    cases r with
    | cons r rs =>
      rw [List.all_cons, Bool.and_eq_true] at h
      rw [List.all_cons, flat_rd r h.1, ih rs h.2]
      rfl
theorem inV_rd {ds : List Val} {xs : List V} {v : Val} {x : V} (r : RDs m ds xs) (h : ds.all flat = true) (rv : RD m v x) (hv : flat v = true) : inV x xs = ds.any fun y => feq y v := by
  unfold inV
  induction ds generalizing xs with
  | nil => cases r; rfl
  | cons d ds ih =>
    cases r with
    | cons r rs =>
      rw [List.all_cons, Bool.and_eq_true] at h
      rw [List.any_cons, List.any_cons, feq_rd r rv h.1 hv, ih rs h.2]
end
end Mi

set_option maxHeartbeats 4000000
/-! a tuple once, and no times -/
namespace Mi
open PySem PySem.Spec L2 PyProof.Rows
section
variable {l : Addr} {its : Array Value} {n : Nat} {dd : Option Addr} {sl : Array (Option Value)} {x : Int} {u : Tok}
abbrev tOb (its : Array Value) (n : Nat) (dd : Option Addr) (sl : Array (Option Value)) : Obj := { cls := .type "tuple", dict := dd, data := .seq its n, slots := sl }
theorem tm_one (h1 : x = 1) : Meets (Builtin.«tuple.__mul__» ⟨[.ref l, .int x u], []⟩) (fun _ R s => s.heap.get? l = some (tOb its n dd sl) ∧ R (.ok (.ret (Value.ref l))) s) :=
  .of_wp fun prog w A R s h => by
    obtain ⟨hp, g, d, tk, os⟩ := s
    obtain ⟨hl, h⟩ := h
    subst h1
    have f1 := AutoSeq1.idx_int
    have c0 : (decide ((1 : Int) < -(2 ^ 63)) || decide ((1 : Int) ≥ 2 ^ 63)) = false := by decide
    have c1 : (its.isEmpty || (1 : Int) == 1) = true := by rw [Bool.or_eq_true]; exact .inr (by decide)
    wp_walk using wpAny_loadPart' hl
    repeat (first
      | (refine wpAny_ite_false (decide_eq_false (by rw [c0]; exact Bool.false_ne_true)) ?_; wp_walk using wpAny_loadPart' hl)
      | (refine wpAny_ite_true (decide_eq_true c1) ?_; wp_walk using wpAny_loadPart' hl))
    exact ⟨_, rfl, h⟩
theorem tm_none (h0 : x ≤ 0) (hb : -(2 ^ 63) ≤ x) (hn : its.isEmpty = false) : Meets (Builtin.«tuple.__mul__» ⟨[.ref l, .int x u], []⟩) (fun _ R s => s.heap.get? l = some (tOb its n dd sl) ∧ R (.ok (.ret (Value.ref s.heap.objs.size))) { s with heap := s.heap.push { cls := Value.type "tuple", data := Data.seq #[] }, toks := s.toks }) :=
  .of_wp fun prog w A R s h => by
    obtain ⟨hp, g, d, tk, os⟩ := s
    obtain ⟨hl, h⟩ := h
    have f1 := AutoSeq1.idx_int
    have c0 : (decide (x < -(2 ^ 63)) || decide (x ≥ 2 ^ 63)) = false := by rw [decide_eq_false (by omega), decide_eq_false (by omega)] <;> rfl
    have c1 : (its.isEmpty || x == 1) = false := by rw [hn, Bool.false_or]; exact beq_eq_false_iff_ne.mpr (by omega)
    have c2 : (decide (x ≤ 0) || its.isEmpty) = true := by rw [decide_eq_true h0]; rfl
    wp_walk using wpAny_loadPart' hl
    repeat (first
      | (refine wpAny_ite_false (decide_eq_false (by rw [c0]; exact Bool.false_ne_true)) ?_; wp_walk using wpAny_loadPart' hl)
      | (refine wpAny_ite_false (decide_eq_false (by rw [c1]; exact Bool.false_ne_true)) ?_; wp_walk using wpAny_loadPart' hl)
      | (refine wpAny_ite_true (decide_eq_true c2) ?_; wp_walk using wpAny_loadPart' hl))
    exact ⟨_, rfl, h⟩
end
section
variable {X : Cx}
theorem isEmpty_no {xs : List V} {ys : List Value} (r : Vals xs ys) (h : xs ≠ []) : ys.toArray.isEmpty = false := by
  cases r with
  | nil => exact absurd rfl h
  | cons _ _ => rfl
/-- what the number's own way leaves to the tuple -/
theorem rep_pre {s : Shared} {E : Value → Shared → Prop} {R : Value → Shared → Prop} {l : Addr} {k : Int} {t : Tok} {its : Array Value} {n : Nat} {dd : Option Addr} {sl : Array (Option Value)} (ho : s.heap.get? l = some (tOb its n dd sl))
    (h : wpAny (model X.prog X.w) X.A (call (.builtin "tuple.__mul__") [.ref l, .int k t]) R E s) : wpAny (model X.prog X.w) X.A (binaryOp .Mult (.ref l) (.int k t)) R E s := by
  have hl : s.TypeIs (.ref l) "tuple" := ⟨_, ho, rfl⟩
  have hi := fun z => typeIs_int z k t
  refine wpAny_binaryOp_repeat_ref (U := "int") (T := "tuple")
    (by decide) hl hi noFill_tuple_mul F.fills_int_mul F.slot_int_rmul
    repeat_tuple F.slot_int_index.lookup ?_
  refine call_meets F.slot_int_rmul (hi s) F.entry_int_rmul
    (F.args_int_rmul_2 _ _) (int_rmul_tuple k t l its n dd sl) ?_
  exact ⟨ho, rfl, hl, h⟩
theorem op_repT1 : OpR X (binaryOp .Mult) (fun x y H Q => ∃ l xs, x = .ref l ∧ y = .int 1 ∧ SqT X.K H l xs ∧ Q (.ref l) H) := by
  intro pins s σ H x y v u Q I rx ry ⟨l, xs, e1, e2, hT, q⟩
  subst e1 e2
  cases rx
  obtain ⟨t, rfl⟩ := ry
  obtain ⟨its, r, ⟨⟨cls, dd, data, sl⟩, ho, hc, n, hd⟩, hs⟩ := I.tuple hT
  simp only at hc hd
  subst hc hd
  have ty : s.TypeIs (.ref l) "tuple" := ⟨_, ho, rfl⟩
  exact rep_pre ho (call_meets F.slot_tuple_mul ty F.entry_tuple_mul (F.args_tuple_mul_2 _ _)
    (tm_one (n := n) rfl) ⟨ho, .ref l, H, I, rfl, q⟩)
theorem op_repT0 : OpR X (binaryOp .Mult) (fun x y H Q => ∃ l k xs, x = .ref l ∧ y = .int k ∧ SqT X.K H l xs ∧ xs ≠ [] ∧ k ≤ 0 ∧ -(2 ^ 63) ≤ k ∧ ∀ p, H p = none → Q (.ref p) (upd H p (.tup []))) := by
  intro pins s σ H x y v u Q I rx ry ⟨l, k, xs, e1, e2, hT, hne, h1, h2, q⟩
  subst e1 e2
  cases rx
  obtain ⟨t, rfl⟩ := ry
  obtain ⟨its, r, ⟨⟨cls, dd, data, sl⟩, ho, hc, n, hd⟩, hs⟩ := I.tuple hT
  simp only at hc hd
  subst hc hd
  have ty : s.TypeIs (.ref l) "tuple" := ⟨_, ho, rfl⟩
  have new : ObjOk X.prog X.w (upd H s.heap.objs.size (.tup [])) (s.heap.push { cls := Value.type "tuple", data := Data.seq #[] }) s.heap.objs.size (.tup []) :=
    ⟨Nat.zero_le _, [], .nil, IsTup.new _ _⟩
  exact rep_pre ho (call_meets F.slot_tuple_mul ty F.entry_tuple_mul (F.args_tuple_mul_2 _ _)
    (tm_none (n := n) h1 h2 (isEmpty_no r hne)) ⟨ho, .ref s.heap.objs.size, _, I.laid (t' := s.toks) (o := .tup []) (fun b ob z => Heap.get?_push_of_some _ z) (Nat.le_refl _) new, rfl, q _ (I.hok.fresh (Nat.le_refl _))⟩)
end
end Mi

set_option maxHeartbeats 2000000
namespace Mi
open PySem PySem.Spec L2 PyProof.Rows
section
variable {X : Cx} {cl : Cl}
/-- values that lie in the small heap, of which r holds -/
def r2 (X : Cx) (cl : Cl) (r : Val → Val → Hm → Post → Prop) : R2 := fun x y H Q => ∃ m S v w, m.K = X.K ∧ m.H = H ∧ SH cl m S ∧ RD m v x ∧ RD m w y ∧ r v w S (liftQ cl m Q)
/-- an operator with the conditions of one of its kinds -/
theorem opr_of {f : Value → Value → Sem Value} {r : R2} (h : OpR X f r) {pins : List (Addr × Obj)} {s : Shared} {σ : L2.St} {H : Hp} {x y : V} {v u : Value} {Q : VK} (I : Inv X pins σ H s) (rx : RelV x v) (ry : RelV y u)
    (hw : r x y H fun z H' => KF X.K H' → Q z H') : wpAny (model X.prog X.w) X.A (f v u) (EP X pins σ Q) X.xe s := OpR.kf h pins s σ H x y v u Q I rx ry hw
theorem mulOk_X {i j : Int} (h : mulOk i j) : CMulX i j := by
  have b : ∀ x : Int, Builtin.Int.intBits x ≤ x.natAbs.log2 + 1 := fun x => by
    unfold Builtin.Int.intBits
    split <;> omega
  have h1 := b i
  have h2 := b j
  unfold mulOk at h
  unfold CMulX
  omega
theorem rep_cps (a : String) : ∀ n : Nat, (List.replicate n (Str.ofString a).cps).foldl (· ++ ·) #[] = (Str.ofString (strRep a n)).cps
  | 0 => rfl
  | n + 1 => by
    rw [List.replicate_succ', List.foldl_append, rep_cps a n]
    show (Str.ofString (strRep a n)).cps ++ (Str.ofString a).cps = (Str.ofString (strRep a n ++ a)).cps
    rw [ofString_append]
    rfl
theorem mul_rep {a : String} {k : Int} : Txt.mul (Str.ofString a) k = Str.ofString (strRep a k.toNat) := by
  unfold Txt.mul
  by_cases h : k < 1
  · rw [if_pos h]
    have e : k.toNat = 0 := by omega
    rw [e]
    rfl
  · rw [if_neg h]
    by_cases h2 : (k == 1 || (Str.ofString a).length == 0) = true
    · rw [if_pos h2]
      rw [Bool.or_eq_true, beq_iff_eq, beq_iff_eq, len_ofString] at h2
      rcases h2 with h2 | h2
      · subst h2
        show _ = Str.ofString ("" ++ a)
        rw [String.empty_append]
      · have e : a = "" := String.length_eq_zero_iff.mp h2
        subst e
        have : ∀ n : Nat, strRep "" n = "" := fun n => by
          induction n with
          | zero => rfl
          | succ n ih => show strRep "" n ++ "" = ""; rw [ih]; rfl
        rw [this]
    · rw [if_neg h2]
      show (⟨_⟩ : Str) = _
      rw [rep_cps]
theorem op_mulS : OpR X (binaryOp .Mult) (fun x y H Q => ∃ a k, x = .str a ∧ y = .int k ∧ -(2 ^ 63) ≤ k ∧ k ≤ 16777216 ∧ a.length * k.toNat ≤ 16777216 ∧ Q (.str (Txt.mul a k)) H) := by
  intro pins s σ H x y v u Q I rx ry h
  obtain ⟨a, k, rfl, rfl, h1, h2, h3, q⟩ := h
  obtain ⟨t, rfl⟩ := rx
  obtain ⟨t', rfl⟩ := ry
  have ok : MulOk a k := by
    by_cases hk : k < 1
    · refine ⟨?_, fun z => absurd hk z, fun z => absurd hk z⟩
      rw [decide_eq_false (by omega), decide_eq_false (by omega)]
      rfl
    · exact mulOk_of a.length k.toNat (Nat.le_refl _) (by omega) h1 (by omega) h3
  exact SB.mul ok fun t' k' => ⟨.str (Txt.mul a k), H, I.tok _, ⟨_, rfl⟩, q⟩
theorem opr_bin (op : Operator) : OpR X (binaryOp op) (r2 X cl (binW op)) := by
  intro pins s σ H x y v u Q I rx ry h
  obtain ⟨m, S, a, b, hK, rfl, hS, ra, rb, h⟩ := h
  revert h
  unfold binW
  split <;> intro h
  · cases ra; cases rb
    exact opr_of op_add I rx ry ⟨_, _, rfl, rfl, fun _ => stay hS (.int _) h⟩
  · rename_i a b
    cases ra; cases rb
    refine opr_of op_add_str I rx ry ⟨_, _, rfl, rfl, by rw [len_ofString, len_ofString]; exact h.1, fun _ => ?_⟩
    rw [← ofString_append]
    exact stay hS (.str _) h.2
  · rename_i xs ys
    cases ra with
    | @tup a xs' _ ha ras =>
    cases rb with
    | @tup b ys' _ hb rbs =>
    have hl := ras.length
    have hl' := rbs.length
    rw [hK] at ha hb
    refine opr_of op_catA I rx ry ⟨_, _, _, _, rfl, rfl, ha, hb, by rw [← hl, ← hl']; exact h.1, fun e _ => ?_, fun e1 e2 _ => ?_, fun e1 e2 p hp kf => ?_⟩
    · subst e
      have : xs = [] := by cases ras; rfl
      subst this
      exact stay hS (.tup (by rw [hK]; exact hb) rbs) h.2
    · subst e2
      have : ys = [] := by cases rbs; rfl
      subst this
      have h2 := h.2
      rw [List.append_nil] at h2
      exact stay hS (.tup (by rw [hK]; exact ha) ras) h2
    · exact mk_tup hS (ras.append rbs) hp (hK ▸ kf) h.2
  · rename_i n k
    obtain ⟨xs, ys, h1, h2, h3, h4⟩ := h
    cases ra with
    | @ref _ a ha =>
    cases rb with
    | @ref _ b hb =>
    obtain ⟨vs, e1, r1⟩ := hS.lst' h1 ha
    obtain ⟨ws, e2, r2⟩ := hS.lst' h2 hb
    exact opr_of op_cat I rx ry ⟨_, _, _, _, rfl, rfl, e1, e2, by rw [← r1.length, ← r2.length]; exact h3, fun p hp kf => mk_lst hS (r1.append r2) hp (hK ▸ kf) h4⟩
  · cases ra; cases rb
    exact opr_of op_sub I rx ry ⟨_, _, rfl, rfl, fun _ => stay hS (.int _) h⟩
  · cases ra; cases rb
    exact opr_of op_mulX I rx ry ⟨_, _, rfl, rfl, mulOk_X h.1, fun _ => stay hS (.int _) h.2⟩
  · obtain ⟨xs, h1, h2, h3, h4, h5⟩ := h
    cases ra with
    | @ref _ a ha =>
    cases rb
    obtain ⟨vs, e1, r1⟩ := hS.lst' h1 ha
    exact opr_of op_rep I rx ry ⟨_, _, _, rfl, rfl, e1, h2, h3, by rw [← r1.length]; exact h4, fun p hp kf => mk_lst hS (r1.replicate _) hp (hK ▸ kf) h5⟩
  · cases ra; cases rb
    exact opr_of op_mulS I rx ry ⟨_, _, rfl, rfl, h.1, h.2.1, by rw [len_ofString]; exact h.2.2.1, fun _ => by rw [mul_rep]; exact stay hS (.str _) h.2.2.2⟩
  · obtain ⟨h1, h2, h3, h4, h5⟩ := h
    cases ra with
    | @tup a xs' _ ha ras =>
    cases rb
    rw [hK] at ha
    rename_i k
    have hne : xs' ≠ [] := fun e => h1 (by subst e; cases ras; rfl)
    by_cases k0 : k ≤ 0
    · obtain rfl : k = 0 := by omega
      exact opr_of op_repT0 I rx ry ⟨_, _, _, rfl, rfl, ha, hne, Int.le_refl _, by decide, fun p hp kf => mk_tup hS .nil hp (hK ▸ kf) h5⟩
    by_cases k1 : k = 1
    · subst k1
      simp only [show (1 : Int).toNat = 1 from rfl, List.replicate_one, List.flatten_cons, List.flatten_nil, List.append_nil] at h5
      exact opr_of op_repT1 I rx ry ⟨_, _, rfl, rfl, ha, fun _ => stay hS (.tup (by rw [hK]; exact ha) ras) h5⟩
    exact opr_of op_repT I rx ry ⟨_, _, _, rfl, rfl, ha, hne, by omega, h3, by rw [← ras.length]; exact h4, fun p hp kf => mk_tup hS (ras.replicate _) hp (hK ▸ kf) h5⟩
  · cases ra; cases rb
    exact opr_of op_fdivW I rx ry ⟨_, _, rfl, rfl, h.1, fun _ => stay hS (.int _) h.2⟩
  · cases ra; cases rb
    exact opr_of op_mod I rx ry ⟨_, _, rfl, rfl, h.1, fun _ => stay hS (.int _) h.2⟩
  · cases ra; cases rb
    exact opr_of op_pow I rx ry ⟨_, _, rfl, rfl, h.1, fun _ => stay hS (.int _) h.2⟩
  · cases ra; cases rb
    exact opr_of op_shl I rx ry ⟨_, _, rfl, rfl, h.1, fun _ => stay hS (.int _) h.2⟩
  · cases ra; cases rb
    exact opr_of op_shr I rx ry ⟨_, _, rfl, rfl, h.1, fun _ => stay hS (.int _) h.2⟩
  · exact h.elim
theorem opr_ibin (op : Operator) : OpR X (inplaceOp op) (r2 X cl (ibinW op)) := by
  intro pins s σ H x y v u Q I rx ry h
  obtain ⟨m, S, a, b, hK, rfl, hS, ra, rb, h⟩ := h
  revert h
  unfold ibinW
  split <;> intro h
  · cases ra; cases rb
    exact opr_of iop_add I rx ry ⟨_, _, rfl, rfl, fun _ => stay hS (.int _) h⟩
  · rename_i a b
    cases ra; cases rb
    refine opr_of iop_add_str I rx ry ⟨_, _, rfl, rfl, by rw [len_ofString, len_ofString]; exact h.1, fun _ => ?_⟩
    rw [← ofString_append]
    exact stay hS (.str _) h.2
  · cases ra; cases rb
    exact opr_of iop_sub I rx ry ⟨_, _, rfl, rfl, fun _ => stay hS (.int _) h⟩
  · obtain ⟨xs, ys, h1, h2, h3, h4⟩ := h
    cases ra with
    | @ref _ a ha =>
    cases rb with
    | @ref _ b hb =>
    obtain ⟨vs, e1, r1⟩ := hS.lst' h1 ha
    obtain ⟨ws, e2, r2⟩ := hS.lst' h2 hb
    exact opr_of iop_ext I rx ry ⟨_, _, _, _, rfl, rfl, e1, e2, by rw [← r1.length, ← r2.length]; exact h3, fun _ => wr_lst hS ha e1 (r1.append r2) (.ref ha) h4⟩
  · exact h.elim

/-! ### comparisons -/
/-- a dict's values beside another one's, in the state -/
theorem hits_rd {pins : List (Addr × Obj)} {s : Shared} {σ : L2.St} {m : Sm} {S : Hm} (hK : m.K = X.K) (hS : SH cl m S) (I : Inv X pins σ m.H s) (hu : X.A.units + 65 < cLine) {ls : List (Key × Val)} {wl : List (L2.Key × V)} {vb : List (L2.Key × Value)} (rl : RKs m ls wl) (kb : KV wl vb) :
    ∀ {ks : List (Key × Val)} {ws : List (L2.Key × V)} {va : List (L2.Key × Value)} {b : Bool}, RKs m ks ws → KV ws va → dHits S ls ks = some b → PySem.W.KeqHits X.A.in1 s vb va b := by
  intro ks
  induction ks with
  | nil =>
    intro ws va b r ka h
    cases r
    cases ka
    cases h
    exact .nil
  | cons p ks ih =>
    intro ws va b r ka h
    unfold RKs at r
    cases r with
    | @cons _ q _ qs hr tr =>
    unfold KV at ka
    cases ka with
    | @cons _ z _ zs hz tz =>
    obtain ⟨zk, zv⟩ := z
    have e1 : q.1 = zk := hz.1
    have e2 : q.1 = kk p.1 := hr.1
    have ek : zk = kk p.1 := e1.symm.trans e2
    have rr : RelO (valV wl (kk p.1)) (PySem.valueAt vb (kk p.1)) := kb.val (kk p.1)
    simp only [dHits] at h
    rcases rl.look p.1 with ⟨u, x, l1, l2, l3⟩ | ⟨l1, l2⟩
    · rw [l1] at h
      rw [l2] at rr
      obtain ⟨y, hy, ry⟩ := rr.some_of
      cases hd : dat S 58 p.2 with
      | none => simp only [hd] at h; cases h
      | some d =>
      cases he : dat S 58 u with
      | none => simp only [hd, he] at h; cases h
      | some e =>
      cases hb : dHits S ls ks with
      | none => simp only [hd, he, hb] at h; cases h
      | some b' =>
      simp only [hd, he, hb] at h
      cases h
      obtain ⟨p1, p2⟩ := dat_shaped hS (by decide) hr.2 hd
      obtain ⟨q1, q2⟩ := dat_shaped hS (by decide) l3 he
      obtain ⟨as, r1⟩ := Dp.reads I d q.2 zv (hK ▸ p1) hz.2
      obtain ⟨bs, r2⟩ := Dp.reads I e x y (hK ▸ q1) ry
      rw [← ek] at hy
      exact .hit hy (PySem.W.keq_at r1 r2 p2 q2 (by show X.A.units + 1 + 64 < cLine; omega)) (ih tr tz hb)
    · rw [l1] at h
      rw [l2] at rr
      cases h
      have hn : PySem.valueAt vb (kk p.1) = none := by
        cases hv : PySem.valueAt vb (kk p.1) with
        | none => rfl
        | some v => rw [hv] at rr; exact rr.elim
      rw [← ek] at hn
      exact .miss hn
theorem opr_eq (hu : X.A.units + 65 < cLine) : OpR X (compareOp .Eq) (r2 X cl fun v w S Q => eqW v w S fun b => Q (.bl b) S) := by
  intro pins s σ H x y v u Q I rx ry h
  obtain ⟨m, S, a, b, hK, rfl, hS, ra, rb, ⟨d, e, h1, h2, h3⟩ | h⟩ := h
  · obtain ⟨p1, p2⟩ := dat_shaped hS (by decide) ra h1
    obtain ⟨q1, q2⟩ := dat_shaped hS (by decide) rb h2
    exact opr_of (op_eqD (by omega)) I rx ry ⟨d, e, hK ▸ p1, hK ▸ q1, p2, q2, fun _ => stay hS (.bl _) h3⟩
  · revert h
    unfold eqD
    split
    · rintro ⟨ks, ls, bb, h1, h2, h3, h4⟩
      cases ra with
      | @ref _ pa ha =>
      cases rb with
      | @ref _ pb hb =>
      obtain ⟨ws, e1, r1⟩ := hS.dic' h1 ha
      obtain ⟨wl, e2, r2⟩ := hS.dic' h2 hb
      obtain rfl : v = Value.ref pa := rx
      obtain rfl : u = Value.ref pb := ry
      obtain ⟨_, ya, va, ka, da⟩ := (show ObjOk X.prog X.w m.H s.heap pa (.dK ws) from I.hok pa _ e1)
      obtain ⟨_, yb, vb, kb, db⟩ := (show ObjOk X.prog X.w m.H s.heap pb (.dK wl) from I.hok pb _ e2)
      have hits := hits_rd hK hS I hu r2 kb r1 ka h3
      have hl : va.length = ks.length := by rw [← ka.length, ← r1.length]
      have hl2 : vb.length = ls.length := by rw [← kb.length, ← r2.length]
      refine PySem.W.keq_eq (knd := mixKind X.prog X.w) (r := bb) ya yb da db (by omega) (fun _ => hits) ⟨.bl _, m.H, I, rfl, ?_⟩
      have e : (va.length == vb.length && bb) = (decide (ks.length = ls.length) && bb) := by rw [hl, hl2]; by_cases h : ks.length = ls.length <;> simp [h]
      rw [e]
      exact stay hS (.bl _) h4
    · exact fun h => h.elim
theorem opr_ne (hu : X.A.units + 65 < cLine) : OpR X (compareOp .NotEq) (r2 X cl fun v w S Q => eqW v w S fun b => Q (.bl (!b)) S) := by
  intro pins s σ H x y v u Q I rx ry h
  obtain ⟨m, S, a, b, hK, rfl, hS, ra, rb, ⟨d, e, h1, h2, h3⟩ | h⟩ := h
  · obtain ⟨p1, p2⟩ := dat_shaped hS (by decide) ra h1
    obtain ⟨q1, q2⟩ := dat_shaped hS (by decide) rb h2
    exact opr_of (op_neD (by omega)) I rx ry ⟨d, e, hK ▸ p1, hK ▸ q1, p2, q2, fun _ => stay hS (.bl _) h3⟩
  · revert h
    unfold eqD
    split
    · rintro ⟨ks, ls, bb, h1, h2, h3, h4⟩
      cases ra with
      | @ref _ pa ha =>
      cases rb with
      | @ref _ pb hb =>
      obtain ⟨ws, e1, r1⟩ := hS.dic' h1 ha
      obtain ⟨wl, e2, r2⟩ := hS.dic' h2 hb
      obtain rfl : v = Value.ref pa := rx
      obtain rfl : u = Value.ref pb := ry
      obtain ⟨_, ya, va, ka, da⟩ := (show ObjOk X.prog X.w m.H s.heap pa (.dK ws) from I.hok pa _ e1)
      obtain ⟨_, yb, vb, kb, db⟩ := (show ObjOk X.prog X.w m.H s.heap pb (.dK wl) from I.hok pb _ e2)
      have hits := hits_rd hK hS I hu r2 kb r1 ka h3
      have hl : va.length = ks.length := by rw [← ka.length, ← r1.length]
      have hl2 : vb.length = ls.length := by rw [← kb.length, ← r2.length]
      refine PySem.W.keq_ne (knd := mixKind X.prog X.w) (r := bb) ya yb da db (by omega) (fun _ => hits) ⟨.bl _, m.H, I, rfl, ?_⟩
      have e : (!(va.length == vb.length && bb)) = (!(decide (ks.length = ls.length) && bb)) := by rw [hl, hl2]; by_cases h : ks.length = ls.length <;> simp [h]
      rw [e]
      exact stay hS (.bl _) h4
    · exact fun h => h.elim
theorem sign_ofString {x : String} {c : Char} (h : x.toList = [c]) : Str.ofString x = ⟨#[c.toNat]⟩ := by
  rw [Str.ofString_eq_toList, h]
  rfl
theorem char_toNat_inj {a b : Char} (e : a.toNat = b.toNat) : a = b := by
  apply Char.ext
  apply UInt32.toNat_inj.mp
  exact e
theorem mem_cps {c : Char} {y : String} : decide (c.toNat ∈ (Str.ofString y).cps.toList) = decide (c ∈ y.toList) := by
  rw [cps_ofString]
  by_cases h : c ∈ y.toList
  · rw [decide_eq_true h, decide_eq_true (List.mem_map.mpr ⟨c, h, rfl⟩)]
  · rw [decide_eq_false h, decide_eq_false fun z => ?_]
    obtain ⟨d, hd, e⟩ := List.mem_map.mp z
    exact h (char_toNat_inj e ▸ hd)
theorem opr_in (hu : X.A.units + 65 < cLine) : OpR X (compareOp .In) (r2 X cl fun v w S Q => inW v w S fun b => Q (.bl b) S) := by
  intro pins s σ H x y v u Q I rx ry h
  obtain ⟨m, S, a, b, hK, rfl, hS, ra, rb, h⟩ := h
  revert h
  unfold inW
  cases b with
  | str b =>
    cases a with
    | str a =>
      intro h
      cases ra; cases rb
      rcases h with ⟨c, h1, h2⟩ | h
      · rw [sign_ofString h1] at rx
        refine opr_of op_in_sign I rx ry ⟨_, _, rfl, rfl, fun _ => ?_⟩
        rw [mem_cps]
        exact stay hS (.bl _) h2
      · exact opr_of op_in_str I rx ry ⟨_, _, rfl, rfl, fun _ => stay hS (.bl _) h⟩
    | _ => intro h; exact h.elim
  | tup xs =>
    intro h
    cases rb with
    | @tup a' vs _ hq rs =>
    rw [hK] at hq
    refine opr_of op_in_seq I rx ry ⟨_, _, rfl, .inr hq, flat_rd ra h.1, flats_rd rs h.2.1, fun _ => ?_⟩
    show Q (.bl (if false = true then _ else inV _ _)) m.H
    rw [if_neg Bool.false_ne_true, inV_rd rs h.2.1 ra h.1]
    exact stay hS (.bl _) h.2.2
  | ref n =>
    intro h
    cases rb with
    | @ref _ a' ha =>
    rcases h with ⟨xs, h1, ⟨h2, h3, h4⟩ | ⟨d, ds, h2, h3, h4⟩⟩ | ⟨kvs, k, h1, h2, h3⟩
    · obtain ⟨vs, hq, rs⟩ := hS.lst h1 ha
      rw [hK] at hq
      refine opr_of op_in_seq I rx ry ⟨_, _, rfl, .inl hq, flat_rd ra h2, flats_rd rs h3, fun _ => ?_⟩
      show Q (.bl (if false = true then _ else inV _ _)) m.H
      rw [if_neg Bool.false_ne_true, inV_rd rs h3 ra h2]
      exact stay hS (.bl _) h4
    · obtain ⟨vs, hq, rs⟩ := hS.lst h1 ha
      obtain ⟨p1, p2⟩ := dat_shaped hS (by decide) ra h2
      obtain ⟨q1, q2⟩ := datAll_dp hS (by decide) rs h3
      exact opr_of (op_inD hu) I rx ry ⟨d, ds, hK ▸ p1, hK ▸ .lst hq q1, p2, q2, fun _ => stay hS (.bl _) h4⟩
    · obtain ⟨ws, hq, rs⟩ := hS.dic h1 ha
      have ek := key_rd ra h2
      subst ek
      cases (show u = Value.ref a' from ry)
      have g : DGet m.H a' (L2.kV (kk k)) (valV ws (kk k)) := .inl ⟨ws, _, hq, rfl, rfl⟩
      refine d_in (by omega) I g rx fun s' I' => ⟨.bl _, m.H, I', rfl, ?_⟩
      rcases rs.look k with ⟨v, x, e1, e2, _⟩ | ⟨e1, e2⟩
      · rw [e2]; rw [e1] at h3; exact stay hS (.bl _) h3
      · rw [e2]; rw [e1] at h3; exact stay hS (.bl _) h3
  | _ => intro h; exact h.elim
theorem opr_notin (hu : X.A.units + 65 < cLine) : OpR X (compareOp .NotIn) (r2 X cl fun v w S Q => inW v w S fun b => Q (.bl (!b)) S) := by
  intro pins s σ H x y v u Q I rx ry h
  obtain ⟨m, S, a, b, hK, rfl, hS, ra, rb, h⟩ := h
  revert h
  unfold inW
  cases b with
  | str b =>
    cases a with
    | str a =>
      intro h
      cases ra; cases rb
      rcases h with ⟨c, h1, h2⟩ | h
      · rw [sign_ofString h1] at rx
        refine opr_of op_notIn_sign I rx ry ⟨_, _, rfl, rfl, fun _ => ?_⟩
        rw [mem_cps]
        exact stay hS (.bl _) h2
      · exact opr_of op_notin_str I rx ry ⟨_, _, rfl, rfl, fun _ => stay hS (.bl _) h⟩
    | _ => intro h; exact h.elim
  | tup xs =>
    intro h
    cases rb with
    | @tup a' vs _ hq rs =>
    rw [hK] at hq
    refine opr_of op_notIn_seq I rx ry ⟨_, _, rfl, .inr hq, flat_rd ra h.1, flats_rd rs h.2.1, fun _ => ?_⟩
    show Q (.bl (if true = true then !inV _ _ else _)) m.H
    rw [if_pos rfl, inV_rd rs h.2.1 ra h.1]
    exact stay hS (.bl _) h.2.2
  | ref n =>
    intro h
    cases rb with
    | @ref _ a' ha =>
    rcases h with ⟨xs, h1, ⟨h2, h3, h4⟩ | ⟨d, ds, h2, h3, h4⟩⟩ | ⟨kvs, k, h1, h2, h3⟩
    · obtain ⟨vs, hq, rs⟩ := hS.lst h1 ha
      rw [hK] at hq
      refine opr_of op_notIn_seq I rx ry ⟨_, _, rfl, .inl hq, flat_rd ra h2, flats_rd rs h3, fun _ => ?_⟩
      show Q (.bl (if true = true then !inV _ _ else _)) m.H
      rw [if_pos rfl, inV_rd rs h3 ra h2]
      exact stay hS (.bl _) h4
    · obtain ⟨vs, hq, rs⟩ := hS.lst h1 ha
      obtain ⟨p1, p2⟩ := dat_shaped hS (by decide) ra h2
      obtain ⟨q1, q2⟩ := datAll_dp hS (by decide) rs h3
      exact opr_of (op_notInD hu) I rx ry ⟨d, ds, hK ▸ p1, hK ▸ .lst hq q1, p2, q2, fun _ => stay hS (.bl _) h4⟩
    · obtain ⟨ws, hq, rs⟩ := hS.dic h1 ha
      have ek := key_rd ra h2
      subst ek
      cases (show u = Value.ref a' from ry)
      have g : DGet m.H a' (L2.kV (kk k)) (valV ws (kk k)) := .inl ⟨ws, _, hq, rfl, rfl⟩
      refine d_notIn (by omega) I g rx fun s' I' => ⟨.bl _, m.H, I', rfl, ?_⟩
      rcases rs.look k with ⟨v, x, e1, e2, _⟩ | ⟨e1, e2⟩
      · rw [e2]; rw [e1] at h3; exact stay hS (.bl _) h3
      · rw [e2]; rw [e1] at h3; exact stay hS (.bl _) h3
  | _ => intro h; exact h.elim
theorem opr_cmp (hu : X.A.units + 65 < cLine) (op : CmpOp) : OpR X (compareOp op) (r2 X cl fun v w S Q => cmpW op v w S fun b => Q (.bl b) S) := by
  cases op
  case Eq => exact opr_eq hu
  case NotEq => exact opr_ne hu
  case In => exact opr_in hu
  case NotIn => exact opr_notin hu
  case Is => intro pins s σ H x y v u Q I rx ry h; obtain ⟨m, S, a, b, hK, rfl, hS, ra, rb, h⟩ := h; exact h.elim
  case IsNot => intro pins s σ H x y v u Q I rx ry h; obtain ⟨m, S, a, b, hK, rfl, hS, ra, rb, h⟩ := h; exact h.elim
  all_goals
    intro pins s σ H x y v u Q I rx ry h
    obtain ⟨m, S, a, b, hK, rfl, hS, ra, rb, h⟩ := h
    revert h
    unfold cmpW
    cases a <;> cases b <;> intro h <;> try exact h.elim
    cases ra; cases rb
  · exact opr_of op_lt I rx ry ⟨_, _, rfl, rfl, fun _ => stay hS (.bl _) h⟩
  · cases ra; cases rb
    exact opr_of op_lt_str I rx ry ⟨_, _, rfl, rfl, fun _ => stay hS (.bl _) h⟩
  · exact opr_of op_le I rx ry ⟨_, _, rfl, rfl, fun _ => stay hS (.bl _) h⟩
  · exact opr_of op_gt I rx ry ⟨_, _, rfl, rfl, fun _ => stay hS (.bl _) h⟩
  · exact opr_of op_ge I rx ry ⟨_, _, rfl, rfl, fun _ => stay hS (.bl _) h⟩
end
end Mi

set_option maxHeartbeats 2000000
namespace Mi
open PySem PySem.Spec L2 PyProof.Rows
section
variable {X : Cx} {cl : Cl}
theorem ixN_eq (n : Nat) (i : Int) : Mi.ixN n i = L2.ixN n i := rfl
theorem atI_rd {m : Sm} {ds : List Val} {xs : List V} {i : Int} {v : Val} (r : RDs m ds xs) (h : Mi.atI ds i = some v) : ∃ x, L2.atI xs i = some x ∧ RD m v x := by
  unfold Mi.atI at h
  unfold L2.atI
  rw [← r.length, ← ixN_eq]
  cases e : Mi.ixN ds.length i with
  | none => rw [e] at h; cases h
  | some j =>
    rw [e] at h
    exact r.get h
theorem atI_map {α β : Type} (f : α → β) {xs : List α} {i : Int} {c : α} (h : Mi.atI xs i = some c) : L2.atI (xs.map f) i = some (f c) := by
  unfold Mi.atI at h
  unfold L2.atI
  rw [List.length_map, ← ixN_eq]
  cases e : Mi.ixN xs.length i with
  | none => rw [e] at h; cases h
  | some j =>
    rw [e] at h
    have h' : xs[j]? = some c := h
    show (xs.map f)[j]? = some (f c)
    rw [List.getElem?_map, h']
    rfl
theorem ix_dict (hu : X.A.units + 1 < cLine) : IxR X (fun x y H Q => ∃ a v, x = .ref a ∧ DGet H a y (some v) ∧ Q v H) := by
  intro value slice pins s σ H x y v u Q I rx ry h hs
  obtain ⟨a, z, rfl, g, q⟩ := h
  obtain rfl : v = Value.ref a := rx
  have hT := dict_typeIs I g
  unfold subscriptTail
  refine wpAny_bind ?_
  rw [getitemInPython_of_ne hT.not_modules]
  refine wpAny_bind (wpAny_specialOf hT PySem.F.slot_dict_getitem.lookup ?_)
  have fin : wpAny (model X.prog X.w) X.A (subscripted slice false (.ref a) u) (fun r s₃ => wpAny (model X.prog X.w) X.A (letTemporaryGo value (.ref a) r >>= fun _ => pure r) (EP X pins σ Q) X.xe s₃) X.xe s := by
    rw [hs]
    exact wpAny_operating (d_getItem hu I g ry fun w' s3 I3 rw' => wpAny_bind (wpAny_letTemporaryGo (wpAny_pure ⟨z, H, I3, rw', q⟩)))
  first
    | exact wpAny_pure (wpAny_bind fin)
    | exact wpAny_bind (wpAny_pure (wpAny_bind fin))
    | exact wpAny_bind fin
theorem singleton_ofString (c : Char) : Str.ofString (String.singleton c) = ⟨#[c.toNat]⟩ := by
  rw [Str.ofString_eq_toList]
  simp [String.toList_singleton]
theorem ix_ok (hu : X.A.units + 1 < cLine) : IxR X (r2 X cl subW) := by
  intro value slice pins s σ H x y v u Q I rx ry h hs
  obtain ⟨m, S, a, b, hK, rfl, hS, ra, rb, h⟩ := h
  revert h
  unfold subW
  split <;> intro h
  · obtain ⟨w, h1, h2⟩ := h
    cases ra with
    | @tup p xs _ hq rs =>
    cases rb
    rw [hK] at hq
    obtain ⟨z, e, rz⟩ := atI_rd rs h1
    exact ix_tup value slice pins s σ _ _ _ v u Q I rx ry ⟨p, xs, _, z, rfl, rfl, hq, e, stay hS rz h2⟩ hs
  · obtain ⟨hl, c, h1, h2⟩ := h
    cases ra; cases rb
    rename_i x k
    refine ix_str value slice pins s σ _ _ _ v u Q I rx ry ⟨_, _, c.toNat, rfl, rfl, by rw [len_ofString]; exact hl, ?_, ?_⟩ hs
    · rw [cps_ofString]
      exact atI_map Char.toNat h1
    · rw [← singleton_ofString]
      exact stay hS (.str _) h2
  · cases ra with
    | @ref n p hp =>
    rcases h with ⟨xs, j, w, rfl, h1, h2, h3⟩ | ⟨kvs, q, w, h1, h2, h3, h4⟩
    · cases rb
      obtain ⟨vs, hq, rs⟩ := hS.lst h1 hp
      rw [hK] at hq
      obtain ⟨z, e, rz⟩ := atI_rd rs h2
      exact ix_list value slice pins s σ _ _ _ v u Q I rx ry ⟨p, vs, _, z, rfl, rfl, hq, e, stay hS rz h3⟩ hs
    · obtain ⟨ws, hq, rs⟩ := hS.dic h1 hp
      have ek := key_rd rb h2
      subst ek
      rcases rs.look q with ⟨v', x', e1, e2, r⟩ | ⟨e1, e2⟩
      · rw [h3] at e1
        cases e1
        exact ix_dict hu value slice pins s σ _ _ _ v u Q I rx ry ⟨p, x', rfl, .inl ⟨ws, _, hq, rfl, e2.symm⟩, stay hS r h4⟩ hs
      · rw [h3] at e1; cases e1
  · exact h.elim

theorem get_ok (hu : X.A.units + 1 < cLine) : PGet X (fun o i H Q => ∃ m S a b, m.K = X.K ∧ m.H = H ∧ SH cl m S ∧ RD m a o ∧ RD m b i ∧ (∃ n, a = .ref n) ∧ subW a b S (liftQ cl m Q)) := by
  intro pins s σ H x y v u Q I rx ry h
  obtain ⟨m, S, a, b, hK, rfl, hS, ra, rb, ⟨n, rfl⟩, h⟩ := h
  cases ra with
  | @ref _ p hp =>
  rcases h with ⟨xs, j, w, rfl, h1, h2, h3⟩ | ⟨kvs, q, w, h1, h2, h3, h4⟩
  · cases rb
    obtain ⟨vs, hq, rs⟩ := hS.lst h1 hp
    rw [hK] at hq
    obtain ⟨z, e, rz⟩ := atI_rd rs h2
    cases rx
    obtain ⟨t, rfl⟩ := ry
    obtain ⟨its, r, pl, hz⟩ := I.list hq
    obtain ⟨i, e1, e2, e3, e4, e5⟩ := atI_get e
    obtain ⟨w', ew, rw'⟩ := r.get e2
    have hl := r.length
    have hn := line63
    have fin : EP X pins σ Q w' s := ⟨z, m.H, I, rw', stay hS rz h3⟩
    by_cases h0 : 0 ≤ j
    · have hj : j.toNat = i := by
        rw [seqIndex_of h0 e5] at e1
        exact Option.some.inj e1
      exact wpAny_getItem_list pl.isList h0 (by omega) (by rw [hj]; simpa using ew) fin
    · have hj : (j + (its.toArray.size : Int)).toNat = i := by
        rw [seqIndex_neg (by omega) e4] at e1
        rw [List.size_toArray, ← hl]
        exact Option.some.inj e1
      exact wpAny_getItem_list_neg pl.isList (by omega) (by rw [List.size_toArray] <;> omega) (by omega) (by rw [hj]; simpa using ew) fin
  · obtain ⟨ws, hq, rs⟩ := hS.dic h1 hp
    have ek := key_rd rb h2
    subst ek
    rcases rs.look q with ⟨v', x', e1, e2, r⟩ | ⟨e1, e2⟩
    · rw [h3] at e1
      cases e1
      obtain rfl : v = Value.ref p := rx
      exact d_getItem hu I (.inl ⟨ws, _, hq, rfl, e2.symm⟩) ry fun w' s3 I3 rw' => ⟨x', m.H, I3, rw', stay hS r h4⟩
    · rw [h3] at e1; cases e1

/-! ### slices -/
theorem sIx_eq (n d : Nat) (o : Option Int) : Mi.sIx n d o = HT.sIx n d o := by cases o <;> rfl
theorem cut_rd {m : Sm} {ds : List Val} {xs : List V} {lo hi : Option Int} (r : RDs m ds xs) : RDs m (cut ds lo hi) (cutV xs lo hi) := by
  unfold cut cutV
  rw [sIx_eq, sIx_eq, r.length]
  exact (r.drop _).take _
theorem cut_all {α : Type} {xs : List α} {lo hi : Option Int} (h : HT.sIx xs.length 0 lo = 0 ∧ HT.sIx xs.length xs.length hi = xs.length) : cut xs lo hi = xs := by
  unfold cut
  rw [sIx_eq, sIx_eq, h.1, h.2]
  simp
theorem cut_map {α β : Type} (f : α → β) (xs : List α) (lo hi : Option Int) : (cut xs lo hi).map f = (((xs.map f).drop (HT.sIx (xs.map f).length 0 lo)).take (HT.sIx (xs.map f).length (xs.map f).length hi - HT.sIx (xs.map f).length 0 lo)) := by
  unfold cut
  rw [sIx_eq, sIx_eq, List.length_map, List.map_take, List.map_drop]
theorem cutS_ofString (x : String) (lo hi : Option Int) : cutS (Str.ofString x) lo hi = Str.ofString (String.ofList (cut x.toList lo hi)) := by
  rw [ofString_ofList, cut_map]
  unfold cutS
  rw [cps_ofString, len_ofString]
  simp [String.length_toList]
theorem sl_ok : SlR X (fun x lo hi H Q => ∃ m S v, m.K = X.K ∧ m.H = H ∧ SH cl m S ∧ RD m v x ∧ sliceW v lo hi S (liftQ cl m Q)) := by
  have key : ∀ {r : V → Option Int → Option Int → Hp → VK → Prop}, SlR X r → SlR X (fun x lo hi H Q => r x lo hi H fun z H' => KF X.K H' → Q z H') := by
    intro r hr pins s σ H x v vl vu lo hi sl Q I rx hs pl pu h
    obtain ⟨T, id, h1, h2, h3⟩ := hr pins s σ H x v vl vu lo hi sl _ I rx hs pl pu h
    exact ⟨T, id, h1, h2, epkf h3⟩
  intro pins s σ H x v vl vu lo hi sl Q I rx hs pl pu h
  obtain ⟨m, S, a, hK, rfl, hS, ra, h⟩ := h
  revert h
  unfold sliceW
  split <;> intro h
  · rename_i xs
    cases ra with
    | @tup p vs _ hq rs =>
    rw [hK] at hq
    refine key sl_tupA pins s σ _ _ v vl vu lo hi sl Q I rx hs pl pu ⟨p, vs, rfl, hq, fun e _ => ?_, fun e q hq' kf => mk_tup hS (cut_rd rs) hq' (hK ▸ kf) h⟩
    rw [cut_all (by rw [rs.length]; exact e)] at h
    exact stay hS (.tup (by rw [hK]; exact hq) rs) h
  · cases ra
    refine key sl_str pins s σ _ _ v vl vu lo hi sl Q I rx hs pl pu ⟨_, rfl, by rw [len_ofString]; exact h.1, fun _ => ?_⟩
    rw [cutS_ofString]
    exact stay hS (.str _) h.2
  · obtain ⟨xs, h1, h2⟩ := h
    cases ra with
    | @ref n p hp =>
    obtain ⟨vs, hq, rs⟩ := hS.lst h1 hp
    rw [hK] at hq
    exact key sl_list pins s σ _ _ v vl vu lo hi sl Q I rx hs pl pu ⟨p, vs, rfl, hq, fun q hq' kf => mk_lst hS (cut_rd rs) hq' (hK ▸ kf) h2⟩
  · exact h.elim

/-! ### truth -/
theorem truth_rd {m : Sm} {S : Hm} {v : Val} {x : V} {b : Bool} (hS : SH cl m S) (hK : m.K = X.K) (r : RD m v x) (h : truth v S = some b) : TruV X.K x m.H b := by
  cases r with
  | non => simp [truth] at h; exact h.symm ▸ rfl
  | bl c => simp [truth] at h; exact h ▸ rfl
  | int i => simp only [truth, Option.some.injEq] at h; exact h ▸ rfl
  | str z =>
    simp only [truth] at h
    split at h
    case isFalse => cases h
    rename_i hl
    simp only [Option.some.injEq] at h
    refine ⟨by rw [len_ofString]; exact hl, ?_⟩
    rw [len_ofString, ← h]
    by_cases e : z.length = 0
    · simp [e]
    · have e2 : ¬ ((z.length : Nat) : Int) = 0 := by omega
      rw [bne_iff_ne.mpr e, bne_iff_ne.mpr e2]
  | @tup a xs ds hq rs =>
    simp only [truth, Option.some.injEq] at h
    rw [hK] at hq
    exact .inr (.inl ⟨xs, hq, by rw [← h, rs.isEmpty]⟩)
  | @ref n a ha =>
    simp only [truth] at h
    split at h
    · rename_i xs e
      cases h
      obtain ⟨vs, hq, rs⟩ := hS.lst (lst_of e) ha
      rw [hK] at hq
      exact .inl ⟨vs, hq, by rw [rs.isEmpty]⟩
    · rename_i xs e
      cases h
      obtain ⟨vs, hq, rs⟩ := hS.lst (xs := xs) (by unfold Hm.lst; rw [e]) ha
      rw [hK] at hq
      exact .inl ⟨vs, hq, by rw [rs.isEmpty]⟩
    · rename_i xs e
      cases h
      obtain ⟨ws, hq, rs⟩ := hS.dic' e ha
      refine .inr (.inr ⟨ws, hq, ?_⟩)
      unfold RKs at rs
      cases rs <;> rfl
    · cases h
  | exc h' => simp [truth] at h

/-! ### built-in functions -/
def rA (X : Cx) (cl : Cl) (r : List Val → Hm → Post → Prop) : List V → Hp → VK → Prop := fun xs H Q => ∃ m S vs, m.K = X.K ∧ m.H = H ∧ SH cl m S ∧ RDs m vs xs ∧ r vs S (liftQ cl m Q)
def biV : Bi → Value
  | .len => .builtin "len"
  | .abs => .builtin "abs"
  | .min => .builtin "min"
  | .max => .builtin "max"
  | .int => .type "int"
  | .str => .type "str"
  | .list => .type "list"
  | .tuple => .type "tuple"
  | .dict => .type "dict"
  | .sum => .builtin "sum"
  | .sorted => .builtin "sorted"
  | .all => .builtin "all"
  | .any => .builtin "any"
  | .range => .type "range"
  | .listD => .type "list"
  | .sortedS => .builtin "sorted"
theorem perm_map {α β : Type} {f : α → β} {l1 l2 : List β} (h : l1.Perm l2) : ∀ ks : List α, l2 = ks.map f → ∃ ys : List α, ys.Perm ks ∧ l1 = ys.map f := by
  induction h with
  | nil => exact fun ks e => ⟨ks, .refl _, e⟩
  | cons x _ ih =>
    intro ks e
    cases ks with
    | nil => cases e
    | cons k ks =>
      injection e with e1 e2
      obtain ⟨ys, h1, h2⟩ := ih ks e2
      exact ⟨k :: ys, h1.cons k, by rw [e1, h2]; rfl⟩
  | swap x y l =>
    intro ks e
    match ks, e with
    | a :: b :: ks, e =>
      injection e with e1 e2
      injection e2 with e2 e3
      exact ⟨b :: a :: ks, .swap a b ks, by rw [e1, e2, e3]; rfl⟩
  | trans _ _ ih1 ih2 =>
    intro ks e
    obtain ⟨ys, h1, h2⟩ := ih2 ks e
    obtain ⟨zs, h3, h4⟩ := ih1 ys h2
    exact ⟨zs, h3.trans h1, h4⟩
theorem RDs.of_strs {m : Sm} : ∀ (ns : List String), RDs m (ns.map Val.str) (ns.map (V.str ∘ Str.ofString))
  | [] => .nil
  | n :: ns => .cons (.str n) (RDs.of_strs ns)
theorem keys_inr {m : Sm} : ∀ {kvs : List (Key × Val)} {ws : List (L2.Key × V)} {ks : List String}, RKs m kvs ws → kvs.map (·.1) = ks.map Sum.inr → ws.map (·.1) = (ks.map Str.ofString).map Sum.inr
  | [], _, [], .nil, _ => rfl
  | [], _, _ :: _, _, e => by cases e
  | _ :: _, _, [], _, e => by cases e
  | p :: kvs, _, k :: ks, .cons h r, e => by
    simp only [List.map_cons] at e ⊢
    injection e with e1 e2
    rw [keys_inr r e2, h.1, e1]
    rfl
theorem RKs.keyL {m : Sm} : ∀ {kvs : List (Key × Val)} {ws : List (L2.Key × V)}, RKs m kvs ws → RDs m (kvs.map fun kv => kv.1.val) (ws.map fun kv => L2.kV kv.1)
  | [], _, .nil => .nil
  | p :: kvs, _, .cons h r => by
    simp only [List.map_cons]
    rw [h.1]
    exact .cons (rd_key p.1) (RKs.keyL r)
theorem rd_strsF {m : Sm} : ∀ {ys : List String} {xs : List V}, RDs m (ys.map Val.str) xs → xs = (ys.map Str.ofString).map V.str
  | [], _, h => by cases h; rfl
  | y :: ys, _, h => by
    cases h with
    | cons h hs =>
      cases h
      rw [rd_strsF hs]
      rfl
theorem toString_ofString (i : Int) : (toString i : String) = toString i := rfl
theorem bi_ok (hc : X.calm = true) (f : Bi) : CallR X (biV f) (rA X cl (biW f)) := by
  intro pins s σ H xs us Q I r h
  obtain ⟨m, S, vs, hK, rfl, hS, rs, h⟩ := h
  have use : ∀ {f : Value} {r' : List V → Hp → VK → Prop}, CallR X f r' → r' xs m.H (fun z H' => KF X.K H' → Q z H') → wpAny (model X.prog X.w) X.A (call f us) (EP X pins σ Q) X.xe s := fun h1 h2 => CallR.kf h1 pins s σ m.H xs us Q I r h2
  revert h
  unfold biW
  split <;> intro h
  · -- len
    rename_i x
    cases rs with
    | cons r1 r2 =>
    cases r2
    cases r1 with
    | str a => exact use call_len_str ⟨_, rfl, by rw [len_ofString]; exact h.1, fun _ => by rw [len_ofString]; exact stay hS (.int _) h.2⟩
    | @tup p ys ds hq rs => 
      rw [hK] at hq
      exact use call_len_seq ⟨p, ys, rfl, .inr hq, fun _ => by rw [← rs.length]; exact stay hS (.int _) h⟩
    | @ref n p hp =>
      rcases h with ⟨ys, h1, h2⟩ | ⟨kvs, h1, h2⟩
      · obtain ⟨ws, hq, rs⟩ := hS.lst h1 hp
        rw [hK] at hq
        exact use call_len_seq ⟨p, ws, rfl, .inl hq, fun _ => by rw [← rs.length]; exact stay hS (.int _) h2⟩
      · obtain ⟨ws, hq, rs⟩ := hS.dic' h1 hp
        exact use call_lenD ⟨p, ws, rfl, hq, fun _ => by rw [← rs.length]; exact stay hS (.int _) h2⟩
    | _ => exact h.elim
  · -- abs
    cases rs with
    | cons r1 r2 =>
    cases r2; cases r1
    exact use call_abs ⟨_, rfl, fun _ => stay hS (.int _) h⟩
  · -- min
    cases rs with
    | cons r1 r2 =>
    cases r2 with
    | cons r2 r3 =>
    cases r3; cases r1; cases r2
    exact use (call_min2 hc) ⟨_, _, rfl, fun _ => stay hS (.int _) h⟩
  · cases rs with
    | cons r1 r2 =>
    cases r2 with
    | cons r2 r3 =>
    cases r3; cases r1; cases r2
    exact use (call_max2 hc) ⟨_, _, rfl, fun _ => stay hS (.int _) h⟩
  · cases rs with
    | cons r1 r2 =>
    cases r2
    cases r1 with
    | @ref n p hp =>
    obtain ⟨ns, h1, h2, h3⟩ := h
    obtain ⟨ws, hq, rs⟩ := hS.lst h1 hp
    rw [hK] at hq
    have e := rs.ints
    subst e
    exact use (cr_min hc) ⟨p, ns, rfl, hq, List.length_pos_iff.mpr h2, fun k h4 h5 _ => stay hS (.int _) (h3 k h4 h5)⟩
  · cases rs with
    | cons r1 r2 =>
    cases r2
    cases r1 with
    | @ref n p hp =>
    obtain ⟨ns, h1, h2, h3⟩ := h
    obtain ⟨ws, hq, rs⟩ := hS.lst h1 hp
    rw [hK] at hq
    have e := rs.ints
    subst e
    exact use (cr_max hc) ⟨p, ns, rfl, hq, List.length_pos_iff.mpr h2, fun k h4 h5 _ => stay hS (.int _) (h3 k h4 h5)⟩
  · cases rs with
    | cons r1 r2 =>
    cases r2; cases r1
    exact use call_int1 (.inl ⟨_, rfl, fun _ => stay hS (.int _) h⟩)
  · cases rs with
    | cons r1 r2 =>
    cases r2; cases r1
    exact use call_int1 (.inr ⟨_, rfl, fun _ => stay hS (.int _) h⟩)
  · cases rs with
    | cons r1 r2 =>
    cases r2; cases r1
    obtain ⟨n, h1, h2, h3⟩ := h
    exact use call_int_str ⟨_, n, rfl, h1, by rw [len_ofString]; exact h2, fun _ => stay hS (.int _) h3⟩
  · cases rs with
    | cons r1 r2 =>
    cases r2; cases r1
    exact use call_str_int ⟨_, rfl, h.1, fun _ => stay hS (.str _) h.2⟩
  · cases rs with
    | cons r1 r2 =>
    cases r2; cases r1
    exact use SkE.call_str_str ⟨_, rfl, fun _ => stay hS (.str _) h⟩
  · cases rs with
    | cons r1 r2 =>
    cases r2
    cases r1 with
    | @tup p ys ds hq rs =>
    rw [hK] at hq
    exact use call_list_of ⟨p, ys, rfl, .inr hq, fun l hl kf => mk_lst hS rs hl (hK ▸ kf) h⟩
  · cases rs with
    | cons r1 r2 =>
    cases r2
    cases r1 with
    | @ref n p hp =>
    obtain ⟨ys, h1, h2⟩ := h
    obtain ⟨ws, hq, rs⟩ := hS.lst h1 hp
    rw [hK] at hq
    exact use call_list_of ⟨p, ws, rfl, .inl hq, fun l hl kf => mk_lst hS rs hl (hK ▸ kf) h2⟩
  · cases rs with
    | cons r1 r2 =>
    cases r2
    cases r1 with
    | @tup p ys ds hq rs =>
    rw [hK] at hq
    exact use call_tuple_of ⟨p, ys, rfl, .inr ⟨hq, fun _ => stay hS (.tup (by rw [hK]; exact hq) rs) h⟩⟩
  · cases rs with
    | cons r1 r2 =>
    cases r2
    cases r1 with
    | @ref n p hp =>
    obtain ⟨ys, h1, h2⟩ := h
    obtain ⟨ws, hq, rs⟩ := hS.lst h1 hp
    rw [hK] at hq
    exact use call_tuple_of ⟨p, ws, rfl, .inl ⟨hq, fun l hl kf => mk_tup hS rs hl (hK ▸ kf) h2⟩⟩
  · cases rs with
    | cons r1 r2 =>
    cases r2
    cases r1 with
    | @ref n p hp =>
    obtain ⟨kvs, h1, h2⟩ := h
    obtain ⟨ws, hq, rs⟩ := hS.dic h1 hp
    exact use call_dictD ⟨p, ws, rfl, hq, fun l hl kf => mk_dic hS rs hl (hK ▸ kf) h2⟩
  · cases rs with
    | cons r1 r2 =>
    cases r2
    cases r1 with
    | @ref n p hp =>
    obtain ⟨ns, h1, h2⟩ := h
    obtain ⟨ws, hq, rs⟩ := hS.lst h1 hp
    rw [hK] at hq
    have e := rs.ints
    subst e
    exact use (cr_sum hc) ⟨p, ns, rfl, hq, fun _ => stay hS (.int _) h2⟩
  · cases rs with
    | cons r1 r2 =>
    cases r2
    cases r1 with
    | @ref n p hp =>
    obtain ⟨bs, h1, h2⟩ := h
    obtain ⟨ws, hq, rs⟩ := hS.lst h1 hp
    rw [hK] at hq
    have e := rs.bls
    subst e
    exact use (cr_all hc) ⟨p, bs, rfl, hq, fun _ => stay hS (.bl _) h2⟩
  · cases rs with
    | cons r1 r2 =>
    cases r2
    cases r1 with
    | @ref n p hp =>
    obtain ⟨bs, h1, h2⟩ := h
    obtain ⟨ws, hq, rs⟩ := hS.lst h1 hp
    rw [hK] at hq
    have e := rs.bls
    subst e
    exact use (cr_any hc) ⟨p, bs, rfl, hq, fun _ => stay hS (.bl _) h2⟩
  · cases rs with
    | cons r1 r2 =>
    cases r2
    cases r1 with
    | @ref n p hp =>
    rcases h with ⟨ns, h1, h2⟩ | ⟨kvs, ks, h1, h3, h4, h2⟩
    · obtain ⟨ws, hq, rs⟩ := hS.lst h1 hp
      rw [hK] at hq
      have e := rs.ints
      subst e
      exact use cr_sortedI ⟨p, ns, rfl, hq, fun ns' l hp1 hp2 hl kf => mk_lst hS (RDs.of_ints ns') hl (hK ▸ kf) (h2 ns' hp1 hp2)⟩
    · obtain ⟨ws, hq, rs⟩ := hS.dic h1 hp
      refine use (call_sortedD hc) ⟨p, ws, ks.map Str.ofString, rfl, hq, keys_inr rs h3, by rw [List.length_map]; exact h4, fun ys l hp1 _ hl kf => ?_⟩
      obtain ⟨ks', e1, e2⟩ := perm_map hp1 ks rfl
      subst e2
      rw [List.map_map] at kf ⊢
      exact mk_lst hS (RDs.of_strs ks') hl (hK ▸ kf) (h2 ks' e1)
  · cases rs with
    | cons r1 r2 =>
    cases r2
    cases r1 with
    | @ref n p hp =>
    obtain ⟨kvs, h1, h2⟩ := h
    obtain ⟨ws, hq, rs⟩ := hS.dic h1 hp
    exact use (call_listD hc) ⟨p, ws, rfl, hq, fun l hl kf => mk_lst hS rs.keyL hl (hK ▸ kf) h2⟩
  · cases rs with
    | cons r1 r2 =>
    cases r2
    cases r1 with
    | @ref n p hp =>
    obtain ⟨ks, h1, h3, h2⟩ := h
    obtain ⟨ws, hq, rs⟩ := hS.lst h1 hp
    rw [hK] at hq
    have e := rd_strsF rs
    subst e
    refine use cr_sortedS ⟨p, ks.map Str.ofString, rfl, hq, by rw [List.length_map]; exact h3, fun ys l hp1 _ hl kf => ?_⟩
    obtain ⟨ks', e1, e2⟩ := perm_map hp1 ks rfl
    subst e2
    rw [List.map_map] at kf ⊢
    exact mk_lst hS (RDs.of_strs ks') hl (hK ▸ kf) (h2 ks' e1)
  · exact h.elim
end
end Mi

set_option maxHeartbeats 2000000
namespace Mi
open PySem PySem.Spec L2 PyProof.Rows
section
variable {X : Cx} {cl : Cl}
theorem seqIx_eq {n : Nat} {i : Int} {j : Nat} (h : Mi.ixN n i = some j) : seqIndex? i n = some j ∧ j < n ∧ -(n : Int) ≤ i ∧ i < n := ixN_seq (by rw [← ixN_eq]; exact h)
def rM (X : Cx) (cl : Cl) (r : Val → List Val → Hm → Post → Prop) : V → List V → Hp → VK → Prop := fun x xs H Q => ∃ m S v vs, m.K = X.K ∧ m.H = H ∧ SH cl m S ∧ RD m v x ∧ RDs m vs xs ∧ r v vs S (liftQ cl m Q)
/-- the type, the name and the built-in of a method -/
def bmI : Bm → String × String × String
  | .append => ("list", "append", "list.append")
  | .extend => ("list", "extend", "list.extend")
  | .pop => ("list", "pop", "list.pop")
  | .insert => ("list", "insert", "list.insert")
  | .reverse => ("list", "reverse", "list.reverse")
  | .count => ("list", "count", "list.count")
  | .index => ("list", "index", "list.index")
  | .clear => ("list", "clear", "list.clear")
  | .dclear => ("dict", "clear", "dict.clear")
  | .get => ("dict", "get", "dict.get")
  | .setdefault => ("dict", "setdefault", "dict.setdefault")
  | .update => ("dict", "update", "dict.update")
  | .startswith => ("str", "startswith", "str.startswith")
  | .split => ("str", "split", "str.split")
  | .join => ("str", "join", "str.join")
  | .isupper => ("str", "isupper", "str.isupper")
  | .upper => ("str", "upper", "str.upper")
  | .replace => ("str", "replace", "str.replace")
  | .dpop => ("dict", "pop", "dict.pop")
theorem strs_rd {m : Sm} : ∀ (ys : List String), RDs m (ys.map Val.str) ((ys.map Str.ofString).map V.str)
  | [] => .nil
  | y :: ys => .cons (.str y) (strs_rd ys)
theorem rd_strs {m : Sm} : ∀ {ys : List String} {xs : List V}, RDs m (ys.map Val.str) xs → xs = (ys.map Str.ofString).map V.str
  | [], _, h => by cases h; rfl
  | y :: ys, _, h => by
    cases h with
    | cons h hs =>
      cases h
      rw [rd_strs hs]
      rfl
def rCountM (K : PySem.W.Frag) : V → List V → Hp → VK → Prop := fun x xs H Q => ∃ (a : Addr) (ys : List V) (y : V), x = V.ref a ∧ xs = [y] ∧ SqL K H a ys ∧ flatV y = true ∧ ys.all flatV = true ∧ Q (.int (ys.countP fun z => eqV z y : Nat)) H
theorem countU {x : V} : ∀ {xs : List V} {us : List Value}, Vals xs us → xs.all flatV = true → us.countP (eqU x) = xs.countP fun z => eqV z x
  | _, _, .nil, _ => rfl
  | y :: xs, u :: us, .cons r t, f => by
    rw [List.all_cons, Bool.and_eq_true] at f
    rw [List.countP_cons, List.countP_cons, eqU_of r f.1, countU t f.2]
theorem mt_countM : MtR X "list.count" (rCountM X.K) := by
  intro pins s σ H x xs v us Q I rx rxs h
  obtain ⟨a, ys, y, rfl, rfl, hs, fy, fys, q⟩ := h
  cases rx
  cases rxs with
  | cons ry rt =>
    rename_i uy ut
    cases rt
    obtain ⟨its, rv, ⟨⟨cls, dd, data, sl⟩, n, ho, hc, hdn, hd⟩, hlen⟩ := I.list hs
    simp only at hc hd
    subst hc hd
    refine call_meets PySem.F.slot_list_count ⟨_, ho, rfl⟩ PySem.F.entry_list_count (PySem.F.args_list_count_2 _ _)
      (SeqAt.list_countAt a its.toArray n dd sl uy (eqU y)) ⟨ho, fun u' hu' => mem_eqAt ry fy rv fys u' (by simpa using hu'), ?_⟩
    have e : its.toArray.toList.countP (eqU y) = ys.countP fun z => eqV z y := countU rv fys
    rw [e]
    exact ⟨.int _, H, I.tok _, ⟨_, rfl⟩, q⟩
theorem countM {m : Sm} {y : Val} {x : V} (r1 : RD m y x) (h : flat y = true) : ∀ {ds : List Val} {xs : List V}, RDs m ds xs → ds.all flat = true → (xs.countP fun z => eqV z x) = ds.countP fun z => feq z y
  | _, _, .nil, _ => rfl
  | d :: ds, z :: xs, .cons r t, f => by
    rw [List.all_cons, Bool.and_eq_true] at f
    rw [List.countP_cons, List.countP_cons, feq_rd r r1 f.1 h, countM r1 h t f.2]
theorem keys_at {h : Heap} : ∀ (prs : List (L2.Key × Value)) (ps : List Addr), prs.length = ps.length → (∀ (j : Nat) (q : L2.Key × Value), prs[j]? = some q → ∃ (b : Addr) (u : Value), ps[j]? = some b ∧ IsTup h b #[u, q.2] ∧ keyIs q.1 u = true) →
    ∃ ks : List Value, ks.length = prs.length ∧ ∀ (j : Nat) (q : L2.Key × Value), prs[j]? = some q → ∃ u, ks[j]? = some u ∧ keyIs q.1 u = true ∧ ∃ b, ps[j]? = some b ∧ IsTup h b #[u, q.2]
  | [], _, _, _ => ⟨[], rfl, fun j q e => by simp at e⟩
  | q0 :: prs, [], hl, _ => by simp at hl
  | q0 :: prs, p :: ps, hl, hpr => by
    obtain ⟨b, u, e1, e2, e3⟩ := hpr 0 q0 rfl
    have e1 : p = b := Option.some.inj e1
    subst e1
    obtain ⟨ks, k1, k2⟩ := keys_at prs ps (by simpa using hl) fun j q e => by
      obtain ⟨b', u', f1, f2, f3⟩ := hpr (j + 1) q (by simpa using e)
      exact ⟨b', u', by simpa using f1, f2, f3⟩
    refine ⟨u :: ks, by simp [k1], fun j q e => ?_⟩
    cases j with
    | zero =>
      have e : q0 = q := Option.some.inj e
      subst e
      exact ⟨u, rfl, e3, p, rfl, e2⟩
    | succ j =>
      obtain ⟨u', g1, g2, b', g3, g4⟩ := k2 j q (by simpa using e)
      exact ⟨u', by simpa using g1, g2, b', by simpa using g3, g4⟩
/-- d.update(l) of a list of pairs -/
theorem d_upd {pins : List (Addr × Obj)} {σ : L2.St} {H : Hp} {s : Shared} {a l : Addr} {kvs : List (L2.Key × V)} {ps : List Addr} {more : List (L2.Key × V)} {Q : Value → Shared → Prop} (hc : X.calm = true) (I : Inv X pins σ H s) (e : H a = some (.dK kvs)) (hq : SqL X.K H l (ps.map V.ref)) (hp : Paired (fun p (kv : L2.Key × V) => SqT X.K H p [L2.kV kv.1, kv.2]) ps more) (hn : kvs.length + more.length ≤ sizeLine)
    (ha : a ≠ l) (hap : a ∉ ps) (h : ∀ s', Inv X pins σ (upd H a (.dK (mergeK kvs more))) s' → Q .none s') :
    wpAny (model X.prog X.w) X.A (call (.builtin "dict.update") [.ref a, .ref l]) Q X.xe s := by
  obtain ⟨z, hd, vs, rel, dd⟩ := dk_of I.hok e
  obtain ⟨its, rv, pl, hz⟩ := I.list hq
  have ei := refs_at rv
  subst ei
  obtain ⟨prs, rel2, hl, hpr⟩ := pairs_of I hp
  obtain ⟨o, n, ho, hcl, hdc, hdt⟩ := pl
  obtain ⟨ks, hks⟩ := keys_at prs ps hl hpr
  obtain ⟨hk1, hk2⟩ := hks
  have zl : (ks.zip (prs.map (·.2))).length = prs.length := by simp [hk1]
  have zg : ∀ (j : Nat) (k v : Value), (ks.zip (prs.map (·.2)))[j]? = some (k, v) → ∃ q, prs[j]? = some q ∧ q.2 = v ∧ ks[j]? = some k := fun j k v e => by
    have hj := (List.getElem?_eq_some_iff.mp e).1
    rw [zl] at hj
    rw [List.getElem?_zip_eq_some] at e
    obtain ⟨e1, e2⟩ := e
    rw [List.getElem?_map] at e2
    obtain ⟨q, e3, e4⟩ := Option.map_eq_some_iff.mp e2
    exact ⟨q, e3, e4, e1⟩
  refine PySem.call_update_pairs (knd := mixKind X.prog X.w) (kvs := prs) (acc := vs) (PairArg.list l (ps.map Value.ref).toArray (fun j => (ps[j]?).getD 0) (ks.zip (prs.map (·.2)))) (I.ok.hd hc) ⟨⟨o, n, ho, hcl, hdc, hdt⟩, by simp [hk1, hl], fun j k v hj => ?_⟩ ?_ ⟨by rw [zl], fun i key v hr => ?_⟩ dd (by rw [zl, ← rel.length, ← rel2.length]; exact hn) fun h' tk hD kp => ?_
  · obtain ⟨q, e1, e2, e3⟩ := zg j k v hj
    obtain ⟨u, f1, f2, b, f3, f4⟩ := hk2 j q e1
    rw [e3] at f1
    cases f1
    refine ⟨by simp [f3], ?_⟩
    show PairAt _ ((ps[j]?).getD 0) _ _
    rw [f3]
    show PairAt _ b _ _
    obtain ⟨o', ho', hc', n', hd'⟩ := f4
    subst e2
    exact .inl ⟨o', ho', hc', n', hd'⟩
  · intro hm
    rcases List.mem_cons.mp hm with hm | hm
    · exact ha hm
    · obtain ⟨j, hj, ej⟩ := List.mem_map.mp hm
      have hj := List.mem_range.mp hj
      rw [zl] at hj
      obtain ⟨b, hb⟩ : ∃ b, ps[j]? = some b := ⟨_, List.getElem?_eq_getElem (by omega)⟩
      rw [hb] at ej
      exact hap (by rw [← ej]; exact List.mem_of_getElem? hb)
  · obtain ⟨q, e1, e2, e3⟩ := zg i key v hr
    obtain ⟨u, f1, f2, _⟩ := hk2 i q e1
    rw [e3] at f1
    cases f1
    exact ⟨q.1, by rw [e1, ← e2], f2⟩
  · have hlen : (mergeK kvs more).length ≤ sizeLine := Nat.le_trans (length_mergeK more kvs) hn
    have he : ∃ q, h'.get? a = some q := let ⟨q, _, _, hq, _⟩ := hD; ⟨q, hq⟩
    refine h _ (I.write (x := a) (e := a) (by rw [e]; exact True.intro) (.inl rfl) (fun b q hb z => kp b q hb (by simp) z) he (dk_new hlen hd (KV.merge rel2 rel) hD))
theorem RKs.merge {m : Sm} : ∀ {ps : List (Key × Val)} {qs : List (L2.Key × V)} {kvs : List (Key × Val)} {ws : List (L2.Key × V)}, RKs m ps qs → RKs m kvs ws → RKs m (ps.foldl (fun d p => putK d p.1 p.2) kvs) (mergeK ws qs)
  | [], _, _, _, .nil, r => r
  | p :: ps, _, _, _, .cons (b := q) h t, r => by
    obtain ⟨h1, h2⟩ := h
    show RKs m (List.foldl _ (putK _ p.1 p.2) ps) (mergeK (L2.putK _ q.1 q.2) _)
    refine RKs.merge t ?_
    rw [h1]
    exact r.put p.1 h2
theorem paired_mem {α β : Type} {F : α → β → Prop} : ∀ {xs : List α} {ys : List β} {a : α}, Paired F xs ys → a ∈ xs → ∃ b, F a b
  | _, _, _, .nil, h => by cases h
  | x :: xs, y :: ys, a, .cons h t, e => by
    rcases List.mem_cons.mp e with rfl | e
    · exact ⟨y, h⟩
    · exact paired_mem t e
theorem pairs_rd {m : Sm} : ∀ {ps : List (Key × Val)} {xs : List V}, RDs m (ps.map fun p => Val.tup [p.1.val, p.2]) xs → ∃ (bs : List Addr) (qs : List (L2.Key × V)), xs = bs.map V.ref ∧ Paired (fun p (kv : L2.Key × V) => SqT m.K m.H p [L2.kV kv.1, kv.2]) bs qs ∧ RKs m ps qs
  | [], _, .nil => ⟨[], [], rfl, .nil, .nil⟩
  | p :: ps, _, .cons h t => by
    obtain ⟨bs, qs, rfl, h1, h2⟩ := pairs_rd t
    cases h with
    | @tup a xs _ hq rs =>
    cases rs with
    | cons r1 r2 =>
    cases r2 with
    | cons r2 r3 =>
    cases r3
    have ek := key_rd r1 (q := p.1) (by cases p.1 <;> rfl)
    subst ek
    exact ⟨a :: bs, (kk p.1, _) :: qs, rfl, .cons hq h1, .cons ⟨rfl, r2⟩ h2⟩
theorem mt_ok (hu : X.A.units + 1 < cLine) (b : Bm) (hb : b = .update → X.calm = true) : MtR X (bmI b).2.2 (rM X cl (bmW b)) := by
  intro pins s σ H x xs v us Q I rx rxs h
  obtain ⟨m, S, o, vs, hK, rfl, hS, ro, rs, h⟩ := h
  have use : ∀ {id : String} {r' : V → List V → Hp → VK → Prop}, MtR X id r' → r' x xs m.H (fun z H' => KF X.K H' → Q z H') → wpAny (model X.prog X.w) X.A (call (.builtin id) (v :: us)) (EP X pins σ Q) X.xe s := fun h1 h2 => MtR.kf h1 pins s σ m.H x xs v us Q I rx rxs h2
  revert h
  unfold bmW
  split <;> intro h
  · -- append
    obtain ⟨ys, h1, h2, h3⟩ := h
    cases ro with
    | @ref n p hp =>
    cases rs with
    | cons r1 r2 =>
    cases r2
    obtain ⟨ws, hq, rs⟩ := hS.lst' h1 hp
    exact use mt_append ⟨p, ws, _, rfl, rfl, hq, by rw [← rs.length]; exact h2, fun _ => wr_lst hS hp hq (rs.append (.cons r1 .nil)) .non h3⟩
  · -- extend
    obtain ⟨ys, zs, h1, h2, h3, h4⟩ := h
    cases ro with
    | @ref n p hp =>
    cases rs with
    | cons r1 r2 =>
    cases r2
    cases r1 with
    | @ref k q hq' =>
    obtain ⟨ws, hq, rs⟩ := hS.lst' h1 hp
    obtain ⟨wz, hz, rz⟩ := hS.lst' h2 hq'
    exact use mt_extend ⟨p, q, ws, wz, rfl, rfl, hq, hz, by rw [← rs.length, ← rz.length]; exact h3, fun _ => wr_lst hS hp hq (rs.append rz) .non h4⟩
  · -- pop
    obtain ⟨ys, y, h1, h2, h3⟩ := h
    cases ro with
    | @ref n p hp =>
    cases rs
    obtain ⟨ws, hq, rs⟩ := hS.lst' h1 hp
    obtain ⟨z, hz, rz⟩ := rs.get h2
    exact use mt_pop ⟨p, ws, z, rfl, rfl, hq, by rw [← rs.length]; exact hz, fun _ => wr_lst hS hp hq rs.dropLast rz h3⟩
  · obtain ⟨ys, k, y, h1, h2, h3, h4, h5⟩ := h
    cases ro with
    | @ref n p hp =>
    cases rs with
    | cons r1 r2 =>
    cases r2; cases r1
    obtain ⟨ws, hq, rs⟩ := hS.lst' h1 hp
    obtain ⟨z, hz, rz⟩ := rs.get h4
    obtain ⟨q1, q2, q3, q4⟩ := seqIx_eq h2
    have hn := line63
    exact use mt_popAt ⟨p, ws, _, k, z, rfl, rfl, hq, by omega, by omega, by rw [← rs.length]; exact q1, hz, fun _ => wr_lst hS hp hq (rs.erase k) rz h5⟩
  · -- insert
    obtain ⟨ys, h1, h2, h3, h4, h5⟩ := h
    cases ro with
    | @ref n p hp =>
    cases rs with
    | cons r1 r2 =>
    cases r2 with
    | cons r2 r3 =>
    cases r3; cases r1
    obtain ⟨ws, hq, rs⟩ := hS.lst' h1 hp
    exact use mt_insert ⟨p, ws, _, _, rfl, rfl, hq, by rw [← rs.length]; exact h2, h3, h4, fun _ => wr_lst hS hp hq (((rs.take _).append (.cons r2 .nil)).append (rs.drop _)) .non h5⟩
  · -- reverse
    obtain ⟨ys, h1, h2⟩ := h
    cases ro with
    | @ref n p hp =>
    cases rs
    obtain ⟨ws, hq, rs⟩ := hS.lst' h1 hp
    exact use mt_reverse ⟨p, ws, rfl, rfl, hq, fun _ => wr_lst hS hp hq rs.rev .non h2⟩
  · -- index
    obtain ⟨ys, j, z, h1, h2, h3, h4, h5, h6, h7⟩ := h
    cases ro with
    | @ref n p hp =>
    cases rs with
    | cons r1 r2 =>
    cases r2
    obtain ⟨ws, hq, rs⟩ := hS.lst h1 hp
    rw [hK] at hq
    obtain ⟨z', hz, rz⟩ := rs.get h4
    have fl : ∀ (k : Nat) w, ys[k]? = some w → flat w = true := fun k w e => List.all_eq_true.mp h3 w (List.mem_of_getElem? e)
    refine use mt_index ⟨p, ws, _, j, z', rfl, rfl, hq, flat_rd r1 h2, flats_rd rs h3, hz, by rw [feq_rd rz r1 (fl j z h4) h2]; exact h5, fun k w hk hw => ?_, fun _ => stay hS (.int _) h7⟩
    obtain ⟨d, hd, rd⟩ := rs.getV hw
    rw [feq_rd rd r1 (fl k d hd) h2]
    exact h6 k d hk hd
  · -- count
    obtain ⟨ys, h1, h2, h3, h4⟩ := h
    cases ro with
    | @ref n p hp =>
    cases rs with
    | cons r1 r2 =>
    cases r2
    obtain ⟨ws, hq, rs⟩ := hS.lst h1 hp
    rw [hK] at hq
    refine use mt_countM ⟨p, ws, _, rfl, rfl, hq, flat_rd r1 h2, flats_rd rs h3, fun _ => ?_⟩
    rw [countM r1 h2 rs h3]
    exact stay hS (.int _) h4
  · -- dclear
    obtain ⟨kvs, h1, h2⟩ := h
    cases ro with
    | @ref n p hp =>
    cases rs
    cases rxs
    obtain ⟨ws, hq, rs⟩ := hS.dic' h1 hp
    obtain rfl : v = Value.ref p := rx
    exact d_clear I hq fun s' I' => ⟨.non, _, I', rfl, wr_dic hS hp hq .nil .non h2⟩
  · -- get
    obtain ⟨kvs, q, h1, h2, h3⟩ := h
    cases ro with
    | @ref n p hp =>
    cases rs with
    | cons r1 r2 =>
    cases r2
    obtain ⟨ws, hq, rs⟩ := hS.dic h1 hp
    have ek := key_rd r1 h2
    subst ek
    obtain rfl : v = Value.ref p := rx
    cases rxs with
    | cons t1 t2 =>
    cases t2
    refine d_get1 (A := X.A) hu I (.inl ⟨ws, _, hq, rfl, rfl⟩) t1 fun w' s' I' rw' => ?_
    rcases rs.look q with ⟨v', x', e1, e2, r⟩ | ⟨e1, e2⟩
    · rw [e2] at rw'; rw [e1] at h3
      exact ⟨x', m.H, I', rw', stay hS r h3⟩
    · rw [e2] at rw'; rw [e1] at h3
      exact ⟨.non, m.H, I', rw', stay hS .non h3⟩
  · obtain ⟨kvs, q, h1, h2, h3⟩ := h
    cases ro with
    | @ref n p hp =>
    cases rs with
    | cons r1 r2 =>
    cases r2 with
    | cons r2 r3 =>
    cases r3
    obtain ⟨ws, hq, rs⟩ := hS.dic h1 hp
    have ek := key_rd r1 h2
    subst ek
    obtain rfl : v = Value.ref p := rx
    cases rxs with
    | cons t1 t2 =>
    cases t2 with
    | cons t2 t3 =>
    cases t3
    refine d_get2 (A := X.A) hu I (.inl ⟨ws, _, hq, rfl, rfl⟩) t1 t2 fun w' s' I' rw' => ?_
    rcases rs.look q with ⟨v', x', e1, e2, r⟩ | ⟨e1, e2⟩
    · rw [e2] at rw'; rw [e1] at h3
      exact ⟨x', m.H, I', rw', stay hS r h3⟩
    · rw [e2] at rw'; rw [e1] at h3
      exact ⟨_, m.H, I', rw', stay hS r2 h3⟩
  · -- setdefault
    obtain ⟨kvs, q, h1, h2, h3, h4, h5⟩ := h
    cases ro with
    | @ref n p hp =>
    cases rs with
    | cons r1 r2 =>
    cases r2 with
    | cons r2 r3 =>
    cases r3
    obtain ⟨ws, hq, rs⟩ := hS.dic' h1 hp
    have ek := key_rd r1 h2
    subst ek
    obtain rfl : v = Value.ref p := rx
    cases rxs with
    | cons t1 t2 =>
    cases t2 with
    | cons t2 t3 =>
    cases t3
    refine d_setd (A := X.A) I hq t1 t2 (by rw [← rs.length]; exact h3) (fun z hz w' s' I' rw' => ?_) (fun hn w' s' I' rw' => ?_)
    · rcases rs.look q with ⟨v', x', e1, e2, r⟩ | ⟨e1, e2⟩
      · rw [hz] at e2; cases e2
        exact ⟨z, m.H, I', rw', stay hS r (h4 v' e1)⟩
      · rw [hz] at e2; cases e2
    · rcases rs.look q with ⟨v', x', e1, e2, r⟩ | ⟨e1, e2⟩
      · rw [hn] at e2; cases e2
      · exact ⟨_, _, I', rw', wr_dic hS hp hq (rs.put q r2) r2 (h5 e1)⟩
  · -- startswith
    cases ro
    cases rs with
    | cons r1 r2 =>
    cases r2; cases r1
    exact use mt_startswith ⟨_, _, rfl, rfl, fun _ => stay hS (.bl _) h⟩
  · -- split
    obtain ⟨ys, h1, h2, h3, h4⟩ := h
    cases ro
    cases rs with
    | cons r1 r2 =>
    cases r2; cases r1
    refine use mt_split ⟨_, _, rfl, rfl, by rw [len_ofString]; exact beq_eq_false_iff_ne.mpr h2, by rw [len_ofString]; exact h3, fun p hp kf => ?_⟩
    rw [h1] at kf ⊢
    exact mk_lst hS (strs_rd ys) hp (hK ▸ kf) h4
  · obtain ⟨ys, h1, h3, h4⟩ := h
    cases ro
    cases rs
    refine use mt_words ⟨_, rfl, rfl, by rw [len_ofString]; exact h3, fun p hp kf => ?_⟩
    rw [h1] at kf ⊢
    exact mk_lst hS (strs_rd ys) hp (hK ▸ kf) h4
  · -- join
    obtain ⟨ys, y, h1, h2, h3, h4⟩ := h
    cases ro
    cases rs with
    | cons r1 r2 =>
    cases r2
    cases r1 with
    | @ref k q hq' =>
    obtain ⟨ws, hq, rs⟩ := hS.lst h1 hq'
    rw [hK] at hq
    have e := rd_strs rs
    subst e
    refine use mt_join ⟨_, q, ys.map Str.ofString, rfl, rfl, .inl hq, ?_, fun _ => ?_⟩
    · rw [List.length_map, len_ofString, List.map_map]
      have e : ((fun x : Str => x.length) ∘ Str.ofString) = String.length := by funext z; exact len_ofString z
      rw [e]
      exact h3
    · rw [h2]
      exact stay hS (.str _) h4
  · cases ro; cases rs
    exact use mt_isupper ⟨_, rfl, rfl, trivial, fun _ => stay hS (.bl _) h⟩
  · obtain ⟨y, h1, h2, h3⟩ := h
    cases ro; cases rs
    refine use mt_upper ⟨_, rfl, rfl, by rw [len_ofString]; exact h2, fun _ => ?_⟩
    rw [h1]
    exact stay hS (.str _) h3
  · -- update
    obtain ⟨kvs, ps, h1, h2, h3, h4⟩ := h
    cases ro with
    | @ref n p hp =>
    cases rs with
    | cons r1 r2 =>
    cases r2
    cases r1 with
    | @ref k q hq' =>
    obtain ⟨ws, hq, rs⟩ := hS.dic' h1 hp
    obtain ⟨xs', hl, rl⟩ := hS.lst h2 hq'
    obtain rfl : v = Value.ref p := rx
    cases rxs with
    | cons t1 t2 =>
    cases t2
    cases t1
    obtain ⟨bs, qs, rfl, e2, e3⟩ := pairs_rd rl
    have lw := rs.length
    have lq := e3.length
    refine d_upd (hb rfl) I hq (hK ▸ hl) (hK ▸ e2) (by omega) ?_ ?_ fun s' I' => ⟨.non, _, I', rfl, wr_dic hS hp hq (RKs.merge e3 rs) .non h4⟩
    · rintro rfl
      rcases hl with (hl | ⟨_, hl⟩) | ⟨_, _, _, hl, _⟩
      · rw [hq] at hl; cases hl
      · rw [hq] at hl; cases hl
      · rw [hS.kf _ _ hl] at hq; cases hq
    · intro z
      obtain ⟨qq, e4⟩ := paired_mem e2 z
      rcases e4 with (e4 | ⟨_, e4⟩) | ⟨_, _, _, e4, _⟩
      · rw [hq] at e4; cases e4
      · rw [hq] at e4; cases e4
      · rw [hS.kf _ _ e4] at hq; cases hq
  · -- dpop
    obtain ⟨kvs, q, w, h1, h2, h3, h4⟩ := h
    cases ro with
    | @ref n p hp =>
    cases rs with
    | cons r1 r2 =>
    cases r2
    obtain ⟨ws, hq, rs⟩ := hS.dic' h1 hp
    have ek := key_rd r1 h2
    subst ek
    obtain rfl : v = Value.ref p := rx
    cases rxs with
    | cons t1 t2 =>
    cases t2
    rcases rs.look q with ⟨v', x', e1, e2, r⟩ | ⟨e1, e2⟩
    · rw [h3] at e1
      cases e1
      exact d_pop I hq t1 e2 (.inl rfl) fun w' s' I' rw' => ⟨x', _, I', rw', wr_dic hS hp hq (rs.drop q) r h4⟩
    · rw [h3] at e1; cases e1
  · exact h.elim
/-- o[i] = v -/
theorem set_ok (hu : X.A.units + 1 < cLine) : PSet X (fun o i v H Q => ∃ m S a b c, m.K = X.K ∧ m.H = H ∧ SH cl m S ∧ RD m a o ∧ RD m b i ∧ RD m c v ∧ setW a b c S fun S' => ∀ m', Ev m m' → SH cl m' S' → Q m'.H) := by
  intro pins s σ H o i v ov iv u Q I ro ri rv h
  obtain ⟨m, S, a, b, c, hK, rfl, hS, ra, rb, rc, h⟩ := h
  revert h
  unfold setW
  split <;> intro h
  · cases ra with
    | @ref n p hp =>
    rcases h with ⟨xs, k, j, h1, rfl, h2, h3⟩ | ⟨kvs, q, h1, h2, h3, h4⟩
    · cases rb
      obtain ⟨ws, hq, rs⟩ := hS.lst' h1 hp
      refine set_list pins s σ m.H _ _ _ ov iv u Q I ro ri rv ⟨p, ws, k, j, rfl, rfl, hq, by rw [← rs.length, ← ixN_eq]; exact h2, ?_⟩
      have e : Ev m { m with H := L2.upd m.H p (.lst (ws.set j v)) } := Ev.write hp hq
      exact h3 { m with H := L2.upd m.H p (.lst (ws.set j v)) } e (hS.write hp hq ⟨_, upd_same, (rs.set rc j).up (e.up hS)⟩)
    · obtain ⟨ws, hq, rs⟩ := hS.dic' h1 hp
      have ek := key_rd rb h2
      subst ek
      refine set_dict hu pins s σ m.H _ _ _ ov iv u Q I ro ri rv ⟨p, _, rfl, .inl ⟨ws, _, hq, rfl, by rw [← rs.length]; exact h3, rfl⟩, ?_⟩
      have e : Ev m { m with H := L2.upd m.H p (.dK (L2.putK ws (kk q) v)) } := Ev.write hp hq
      exact h4 { m with H := L2.upd m.H p (.dK (L2.putK ws (kk q) v)) } e (hS.write hp hq ⟨_, upd_same, (rs.put q rc).up (e.up hS)⟩)
  · exact h.elim
end
end Mi

set_option maxHeartbeats 4000000
/-! what a call within a comprehension lets out goes on to the block around -/
namespace Mi
open PySem PySem.Spec L2 PyProof.Rows
/-- in the air of X, the frame's own address told by the environment -/
def XF (X : Cx) (W : WX) (u : Value) (t : Shared) : Prop :=
  ∃ (x : Addr) (G : Heap) (sG : Shared) (ps : List (Addr × Obj)) (ρ : L2.St) (K : Hp) (c : Value) (d : Option Addr) (F : Addr), u = .ref x ∧ Inv X ps ρ K sG ∧
    (∀ b o, sG.heap.get? b = some o → b ∉ frs X.stack → G.get? b = some o) ∧ sG.heap.UpToSlots t.heap ∧ X.env.frame = some F ∧ Sky G X.stack x (L2N.Zn c d) F t.heap ∧ K x = none ∧ t.os = sG.os ∧ AllBare t.gens ∧ W c d ρ K
def TkF (X : Cx) (W : WX) : Prop := ∀ u t, XF X W u t → X.xe u t
/-- the frame that X runs in -/
def InFr (X : Cx) : Prop := ∃ (e0 : PySem.Env) (out : List PySem.Env) (F : Addr), X.stack = e0 :: out ∧ e0.frame = some F ∧ X.env.frame = some F
theorem tkF_of {X : Cx} {W : WX} (hf : X.env.frame = some X.env.locals) (tk : L2N.Takes X W) : TkF X W := by
  rintro u t ⟨x, G, sG, ps, ρ, K, c, d, F, rfl, I, nb, up, fr, sky, nx, os, ag, w⟩
  rw [hf] at fr
  obtain rfl := Option.some.inj fr
  exact tk _ _ ⟨x, G, sG, ps, ρ, K, c, d, rfl, I, nb, up, sky, nx, os, ag, w⟩
theorem inFr_of {X : Cx} (hs : X.stack = X.env :: X.outer) (hf : X.env.frame = some X.env.locals) : InFr X := ⟨X.env, X.outer, _, hs, hf, hf⟩
theorem tkF_none {X : Cx} : TkF X (fun _ _ _ _ => False) := fun _ _ ⟨_, _, _, _, _, _, _, _, _, _, _, _, _, _, _, _, _, _, w⟩ => w.elim
/-- what a call lets out stands in the air of X -/
theorem xf_call {X : Cx} {W : WX} {ps : List (Addr × Obj)} {σ : L2.St} {K : Hp} {s t : Shared} {E : XK} {u : Value} (fr : InFr X) (I : Inv X ps σ K s) (hW : ∀ c d K', E c d K' → W c d σ K') (h : L2N.CX X.prog X.w X.stack K s E u t) : XF X W u t := by
  obtain ⟨_, _, F, _, _, hF⟩ := fr
  have xe := L2N.XE.of_call I hW h
  obtain ⟨a, B, _, c', d', rfl, fl, _⟩ := h
  obtain ⟨oe, vs, T, oT, ts, q1, q2, q3, q4, q5, q6, q7, q8, q9⟩ := fl.2.2.2
  obtain ⟨x, G, sG, ps', ρ, K', c, d, e, J, nb, up, sky, rest⟩ := xe
  cases e
  refine ⟨a, G, sG, ps', ρ, K', c, d, F, rfl, J, nb, up, hF, ?_, rest⟩
  rcases sky with ⟨_, _, _, o1, v1, r1, _, r3, r4⟩ | z | ⟨_, _, _, o1, v1, T1, p1, t1, r1, _, r3, r4, _, _, r5, r6, r7⟩
  · rw [q1] at r1
    cases r1
    rw [q3] at r3
    cases r3
    rw [q4] at r4
    cases r4
  · exact .inr (.inl z)
  · rw [q1] at r1
    cases r1
    rw [q3] at r3
    cases r3
    rw [q4] at r4
    cases r4
    rw [q7] at r5
    cases r5
    rw [q8] at r6
    cases r6
    rw [q9] at r7
    exact absurd (Option.some.inj r7) (by simp [rawInt])
theorem passF {X : Cx} {W : WX} (fr : InFr X) (tk : TkF X W) (σ : L2.St) : PassesAt (L2N.CX X.prog X.w) X σ (WE W σ) := fun _ _ _ u t I h => tk u t (xf_call fr I (fun _ _ _ z => z) h)
theorem note_eq {e0 ce : PySem.Env} (u : Value) (h : ce.frame = e0.frame) : noteFrame u ce = noteFrame u e0 := by
  unfold noteFrame PySem.frameOf
  rw [h]
/-- frames' objects that stay as they are, over another ground -/
theorem frames_on {B B' h h' : Heap} : ∀ {l : List PySem.Env}, h.FunFrames B l → (∀ F ∈ frs l, B'.get? F = none ∧ h'.get? F = h.get? F) → h'.FunFrames B' l
  | [], _, _ => trivial
  | e :: l, ff, hh => by
    obtain ⟨k1, ⟨F, o, k2, _, k3, k4⟩, k5⟩ := ff
    have z := hh F (List.mem_filterMap.mpr ⟨e, .head _, k2⟩)
    refine ⟨k1, ⟨F, o, k2, z.1, z.2.trans k3, k4⟩, frames_on k5 fun G hG => ?_⟩
    obtain ⟨e', m, q⟩ := List.mem_filterMap.mp hG
    exact hh G (List.mem_filterMap.mpr ⟨e', .tail _ m, q⟩)
/-- the end of a comprehension's block, the block's own environment kept -/
def blkEnd (M : Model) (A : Around) (E : Value → Shared → Prop) (use : Option (Value → Sem Unit)) (Q : Value → Shared → Prop) (acc : Value) (ce : PySem.Env) (r : Result) (t : Shared) : Prop :=
  match r with
  | .error x => ∃ m, t.heap.Ns ce.locals m ∧ ∀ g, Heap.SameBut ce.locals t.heap g → wpAny M A (passOn "comprehension.variables-let-go" x ce : Sem Value) (fun _ _ => False) E { t with heap := g }
  | .ok f => compPost M A E use Q acc ce.locals (.ok f) t
theorem comp_own {M : Model} {A : Around} {E : Value → Shared → Prop} {s : Shared} {env : PySem.Env} {e : Expr} {scope : Scope} {pos : Pos} {newAcc first : Sem Value} {c : Comprehension} {cs : List Comprehension} {cl : List (Str × Addr)} {use : Option (Value → Sem Unit)} {Q : Value → Shared → Prop}
    (h1 : clausesOf e = c :: cs) (h2 : ∀ x, foldedSetIterable c.iter env x = pure x) (h3 : closureFor scope env = pure cl) (h4 : scope.kind = .function) (h5 : ∀ x ∈ scope.names, x.2 = .local → scope.names.lookup x.1 = some .local)
    (h : wpAny M A first (fun x t1 => wpAny M A (pyIter x) (fun it t2 => wpAny M A newAcc (fun acc t3 => wpAny M A (newFunctionEnv scope env.globals cl [] env.qual none .none (some env)) (fun ce t4 =>
      codeAny M A (.compStart e 0 it acc { ce with scope := relabel scope env }) (blkEnd M A E use Q acc { ce with scope := relabel scope env }) t4) E t3) E t2) E t1) E s) :
    wpAny M A (comprehension e scope env pos newAcc false first use) Q E s := by
  unfold comprehension
  rw [h3, h1]
  have out : ∀ {α : Type} {t : Sem α} {Q1 Q2 : α → Shared → Prop} {s : Shared}, wpAny M A t Q1 E s → (∀ a s', Q1 a s' → Q2 a s') → wpAny M A t Q2 E s := fun w k => wpAny_mono w k fun _ _ z => z
  refine wpAny_bind (out h fun x t1 w1 => ?_)
  refine wpAny_bind (wpAny_standAt (wpAny_bind (wpAny_of_eq (h2 x) (wpAny_bind (wpAny_holding (out w1 fun it t2 w2 => ?_))))))
  refine wpAny_standIf (wpAny_bind (out w2 fun acc t3 w3 => ?_))
  refine wpAny_bind (wpAny_pure (wpAny_bind (out w3 fun ce t4 w4 => ?_)))
  dsimp only
  have own : ∀ y ∈ scope.names.filter (fun y => (y.2 == .local || y.2 == .cell) && y.1 != (".0" : Str)), y.2 = .local → PySem.Env.kindOf { ce with scope := relabel scope env } y.1 = some .local := fun y hy hl => lookup_relabel_local (h5 y (List.mem_filter.mp hy).1 hl)
  have go := @wpAny_comp_letGo
  refine wpAny_holding (wpAny_bind (wpAny_attempt (wpAny_holding (wpAny_run (codeAny_mono w4 fun r t hr => ?_)))))
  cases r with
  | error x =>
    obtain ⟨m, hn, hp⟩ := hr
    have fin := fun (vs : List (Str × NameKind)) hv => wpAny_comp_letGo (M := M) (A := A) (E := E) (cellsOf := fun vs => List.flatMap (fun x => if (x.2 == NameKind.cell) = true then ((ce.cells.lookup x.1).map Value.ref).toList else []) vs) (cenv := { ce with scope := relabel scope env }) h4 (Q := fun _ t' => wpAny M A (passOn "comprehension.variables-let-go" x { ce with scope := relabel scope env } : Sem Value) Q E t') vs t m hv hn fun g _ _ sb => wpAny_mono (hp g sb) (fun _ _ f => f.elim) fun _ _ y => y
    exact wpAny_bind (wpAny_holding (fin _ fun y hy hl => own y (List.mem_reverse.mp hy) hl))
  | ok f =>
    cases use with
    | none =>
      obtain ⟨m, hn, hp⟩ := hr
      exact wpAny_bind (wpAny_holding (wpAny_comp_letGo (cenv := { ce with scope := relabel scope env }) h4 _ t m (fun y hy hl => own y (List.mem_reverse.mp hy) hl) hn fun g _ _ sb => wpAny_pure (hp g sb)))
    | some use =>
      refine wpAny_bind (wpAny_rule (wpAny_bind (wpAny_holding (out hr fun _ t' hr' => ?_))))
      obtain ⟨m, hn, hp⟩ := hr'
      refine wpAny_bind (wpAny_comp_letGo (cenv := { ce with scope := relabel scope env }) h4 _ t' m (fun y hy hl => own y (List.mem_reverse.mp ?_) hl) hn fun g _ _ sb => wpAny_pure (hp g sb))
      rcases List.mem_append.mp hy with z | z
      · exact List.mem_of_mem_drop z
      · exact List.mem_of_mem_take z
end Mi

set_option maxHeartbeats 4000000
namespace Mi
open PySem PySem.Spec L2 PyProof.Rows

/-! ### what the top has left -/
structure Ln (P : Pg) (K : PySem.W.Frag) (mg : Str → Option Value) (cl : Cl) : Prop where
  con : ∀ x v, P.con x = some v → ∃ a u, mg (Str.ofString x) = some u ∧ L2.RelV a u ∧ ∀ m : Sm, m.K = K → RD m v a
  clc : ∀ c C, cl c C → mg (Str.ofString c) = some (.ref C) ∧ Cls K C
  fld : ∀ c C, cl c C → ∀ f ∈ P.flds, NoAttr K C (Str.ofString f)
  has : ∀ c ∈ P.cls, ∃ C, cl c C
  exc : ∀ c ∈ P.excs, ∃ C, mg (Str.ofString c) = some (.ref C) ∧ PySem.W.excIn K C [.type "ValueError", .type "Exception", .type "BaseException", .type "object"] "ValueError.__new__" = true ∧ PySem.W.keepIn K (.ref C) = true ∧ PySem.W.subIn K (.ref C) (.type "BaseException") = some true ∧ PySem.W.typeIn K (.ref C) = some (.type "type")
  bi : ∀ x ∈ ["len", "abs", "min", "max", "int", "str", "list", "tuple", "dict", "sum", "sorted", "all", "any", "range", "enumerate", "zip", "reversed", "isinstance", "bool"], mg (Str.ofString x) = none
/-- .. for isinstance -/
structure LnI (K : PySem.W.Frag) (cl : Cl) : Prop where
  isT : ∀ c C, cl c C → PySem.W.findIn K (.ref C) "__class__" = some (some (.builtin "object.__class__")) ∧ PySem.W.specialIn K (.builtin "object.__class__") "__get__" = some (some (.builtin "getset_descriptor.__get__")) ∧ PySem.W.takesIn K (.builtin "object.__class__") = some true ∧ PySem.W.mroIn K C (.type "object") = some true
  isB : ∀ c C, cl c C → ∀ n ∈ ["int", "bool", "str", "tuple", "list", "dict"], PySem.W.kitOne K (.ref C) (.type n) = some false
  isC : ∀ c C, cl c C → ∀ n ∈ ["NoneType", "int", "bool", "str", "tuple", "list", "dict"], PySem.W.kitOne K (.type n) (.ref C) = some false
  isCC : ∀ c C c' C', cl c C → cl c' C' → PySem.W.kitOne K (.ref C) (.ref C') = some (c == c')
/-- the object of an exception of class c -/
def ExO (P : Pg) (K : PySem.W.Frag) (mg : Str → Option Value) (c : String) (o : Obj) : Prop := c ∈ P.excs ∧ ∃ C, mg (Str.ofString c) = some (.ref C) ∧ L2N.Zn (.ref C) none o ∧ ∃ vs, o.data = .fields vs
/-- what the classes of exceptions say -/
structure LnX (P : Pg) (K : PySem.W.Frag) (mg : Str → Option Value) : Prop where
  ex : ∀ c ∈ P.excs, ∀ C, mg (Str.ofString c) = some (.ref C) → ExcC K C ∧ PySem.W.kitOne K (.ref C) (.type "ValueError") = some (P.sub c "ValueError")
  sb : ∀ c ∈ P.excs, ∀ d ∈ P.excs, ∀ C D, mg (Str.ofString c) = some (.ref C) → mg (Str.ofString d) = some (.ref D) → PySem.W.kitOne K (.ref C) (.ref D) = some (P.sub c d) ∧ PySem.W.subIn K (.ref C) (.ref D) = some (P.sub c d)
  ve : mg (Str.ofString "ValueError") = none
/-- a def's promise where an exception is handled -/
structure FnE (prog : Program) (w : World) (K : PySem.W.Frag) (mg : Str → Option Value) (base : Heap) (f : Addr) (fd : FuncData) (ps : List Str) (sp : Addr × Obj → L2.Sp) : Prop where
  len : ∀ q vs H Q E, sp q vs H Q E → vs.length = ps.length
  run : ∀ (q : Addr × Obj) (A : Around) (outer : List PySem.Env) (s : Shared) (H : Hp) (args : Args) (us : List Value) (vs : List V) (Q : VK) (E : XK), L2H.RoomH 1 A → L2H.Hot1 A q → L2H.PinOk outer H s q → Env0 prog w K mg base A outer s H → BindsTo s fd args (ps.zip us) → Vals vs us → sp q vs H Q E →
    codeAny (model prog w) A (.call (.ref f) args) (CR (L2N.CX prog w) outer prog w H s Q E) s
/-- wishes about exceptions, lifted -/
def liftX (cl : Cl) (mg : Str → Option Value) (m : Sm) (W : Value → Option Addr → Hp → Prop) : XPost := fun c S' => ∀ m' C, Ev m m' → SH cl m' S' → mg (Str.ofString c) = some (.ref C) → W (.ref C) none m'.H
theorem liftX.ev {cl : Cl} {mg : Str → Option Value} {m m1 : Sm} {W : Value → Option Addr → Hp → Prop} (e : Ev m m1) {c : String} {S : Hm} (h : liftX cl mg m W c S) : liftX cl mg m1 W c S :=
  fun m' C e' hS hC => h m' C (e.trans e') hS hC
/-- a def's promise: its body's reading -/
def spF (P : Pg) (cl : Cl) (K : PySem.W.Frag) (mg : Str → Option Value) (k : Nat) (d : FDef) : L2.Sp := fun vs H Q E => ∃ m args S, m.K = K ∧ m.H = H ∧ SH cl m S ∧ RDs m args vs ∧ bodyW P (callW P k) d args S (liftQ cl m Q) (liftX cl mg m E)
def litV : Lit → V
  | .non => .non
  | .bl b => .bl b
  | .int i => .int i
  | .str x => .str (Str.ofString x)
theorem litV_rd {m : Sm} (c : Lit) : RD m c.val (litV c) := by
  cases c with
  | non => exact .non
  | bl b => exact .bl b
  | int i => exact .int i
  | str x => exact .str x
theorem lits_rd {m : Sm} : ∀ cs : List Lit, RDs m (cs.map Lit.val) (cs.map litV)
  | [] => .nil
  | c :: cs => .cons (litV_rd c) (lits_rd cs)
/-- where a def stands -/
structure At (P : Pg) (cl : Cl) (K : PySem.W.Frag) (mg : Str → Option Value) (f : FK) (d : FDef) (a : Addr) (fd : FuncData) (ps : List Str) : Prop where
  nm : match f with
    | .f x => mg (Str.ofString x) = some (.ref a)
    | .m c x => ∀ C, cl c C → Meth K C (Str.ofString x) a ∧ (x = "__init__" → Mk K C a)
  kp : PySem.W.keepIn K (.ref a) = true
  len : ps.length = d.params
  bd : ∀ n, n ≤ d.dflt.length → ∃ ds : List Value, Vals ((d.dflt.drop n).map litV) ds ∧ Binds K fd ps ds
/-- the promise of a def that is called with the handled exception -/
def spH (P : Pg) (cl : Cl) (K : PySem.W.Frag) (mg : Str → Option Value) (j : Nat) (d : FDef) (q : Addr × Obj) : L2.Sp := fun vs H Q E => ∃ c m args S, m.K = K ∧ m.H = H ∧ ExO P K mg c q.2 ∧ SH (cl.at q.1 c) m S ∧ RDs m args vs ∧ bodyW P (callW P j) d args S (liftQ (cl.at q.1 c) m Q) (liftX (cl.at q.1 c) mg m E)
def HotAll (P : Pg) (cl : Cl) (prog : Program) (w : World) (K : PySem.W.Frag) (mg : Str → Option Value) (base : Heap) (fs : List String) : Prop :=
  ∀ f ∈ fs, ∀ d, P.fn (.f f) = some d → d.dflt = [] → ∃ a fd ps, mg (Str.ofString f) = some (.ref a) ∧ PySem.W.keepIn K (.ref a) = true ∧ ps.length = d.params ∧ Binds K fd ps [] ∧ ∀ j, FnE prog w K mg base a fd ps fun q vs H Q E => vs.length = ps.length ∧ (KF K H → spH P cl K mg j d q vs H Q E)
/-- all defs keep their promises below level k -/
def FnAll (P : Pg) (cl : Cl) (prog : Program) (w : World) (K : PySem.W.Frag) (mg : Str → Option Value) (base : Heap) (k : Nat) : Prop :=
  ∀ f d, P.fn f = some d → P.isHot f = false → ∃ a fd ps, At P cl K mg f d a fd ps ∧ ∀ j, j < k → FnOk prog w K mg base (L2N.CX prog w) (j + 1) a fd ps (spF P cl K mg j d)
/-- the names of a text: the slots, the scope, the cells -/
structure Ko where
  N : List Str
  sc : Scope
  cf : Str → Bool
  hot : Bool := false
  hf : List String := []
/-- where a text stands -/
structure XO (P : Pg) (cl : Cl) (X : Cx) (k : Nat) (o : Ko) (W : WX) : Prop where
  ln : Ln P X.K X.mg cl
  nd : X.N.Nodup
  nn : X.N = o.N
  sc : X.env.scope = o.sc
  fnc : ∀ x, o.cf x = true → X.fn x = true
  isi : LnI X.K cl
  lx : LnX P X.K X.mg
  calm : (!o.hot) = true → X.calm = true
  room : (!o.hot) = true → Room k X.A
  un : X.A.units + 200 < cLine
  zc : (!o.hot) = true → ∀ a c, ¬ cl.z a c
  rmh : o.hot = true → o.hf ≠ [] → L2H.RoomH k X.A
  zx : o.hot = true → ∃ (q : Addr × Obj) (c : String), L2H.Hot1 X.A q ∧ q ∈ X.pn ∧ (∀ a d, cl.z a d → a = q.1 ∧ d = c) ∧ ExO P X.K X.mg c q.2
  hots : HotAll P cl X.prog X.w X.K X.mg X.base o.hf
  tk : TkF X W
  fr : InFr X
  fns : (!o.hot) = true → FnAll P cl X.prog X.w X.K X.mg X.base k
/-- the slots -/
def SV (m : Sm) (env : Env) (σ : L2.St) : Prop := env.length = σ.length ∧ ∀ (i : Nat) (v : Val), env[i]? = some (some v) → ∃ x, σ[i]? = some (some x) ∧ RD m v x
theorem SV.up {m m' : Sm} (u : Up m m') {env : Env} {σ : L2.St} (h : SV m env σ) : SV m' env σ := ⟨h.1, fun i v e => let ⟨x, h1, h2⟩ := h.2 i v e; ⟨x, h1, h2.up u⟩⟩
theorem SV.get {m : Sm} {env : Env} {σ : L2.St} (h : SV m env σ) {i : Nat} {v : Val} (e : eg env i = some v) : ∃ x, σ[i]? = some (some x) ∧ RD m v x := by
  refine h.2 i v ?_
  rw [eg_eq] at e
  cases q : env[i]? with
  | none => rw [q] at e; cases e
  | some o => rw [q] at e; simp at e; rw [e]
theorem SV.set {m : Sm} {env : Env} {σ : L2.St} (h : SV m env σ) {i : Nat} {v : Val} {x : V} (r : RD m v x) : SV m (es env i (some v)) (σ.set i (some x)) := by
  rw [es_eq]
  refine ⟨by simp [h.1], fun j w e => ?_⟩
  by_cases hj : j = i
  · subst hj
    have hl : j < env.length := by
      have := (List.getElem?_eq_some_iff.mp e).1
      simpa using this
    rw [List.getElem?_set_self hl] at e
    cases e
    exact ⟨x, by rw [List.getElem?_set_self (by rw [← h.1]; exact hl)], r⟩
  · rw [List.getElem?_set_ne (Ne.symm hj)] at e
    rw [List.getElem?_set_ne (Ne.symm hj)]
    exact h.2 j w e
theorem SV.none {m : Sm} {env : Env} {σ : L2.St} (h : SV m env σ) (i : Nat) : SV m (es env i .none) (σ.set i .none) := by
  rw [es_eq]
  refine ⟨by simp [h.1], fun j w e => ?_⟩
  by_cases hj : j = i
  · subst hj
    have hl : j < env.length := by
      have := (List.getElem?_eq_some_iff.mp e).1
      simpa using this
    rw [List.getElem?_set_self hl] at e
    cases e
  · rw [List.getElem?_set_ne (Ne.symm hj)] at e
    rw [List.getElem?_set_ne (Ne.symm hj)]
    exact h.2 j w e
theorem SV.wipe {m : Sm} {env : Env} {σ : L2.St} (h : SV m env σ) : ∀ vs : List Nat, SV m (ewipe env vs) (L2.wipe σ vs)
  | [] => h
  | v :: vs => (SV.wipe h vs).none v

section
variable (P : Pg) (cl : Cl) (k : Nat) (X : Cx) (W : WX)
/-- the readings -/
def tE (e : E) : TE := fun σ H Q => ∃ m env S, m.K = X.K ∧ m.H = H ∧ SH cl m S ∧ SV m env σ ∧ wE P.con (callW P k) (liftX cl X.mg m fun c d H => W c d σ H) e env S (liftQ cl m Q)
def tEs (e : Es) : TA := fun σ H Q => ∃ m env S, m.K = X.K ∧ m.H = H ∧ SH cl m S ∧ SV m env σ ∧ wEs P.con (callW P k) (liftX cl X.mg m fun c d H => W c d σ H) e env S fun vs S' => ∀ m' xs, Ev m m' → SH cl m' S' → RDs m' vs xs → Q xs m'.H
def tTs (e : T) : TT := fun σ H Q => ∃ m env S, m.K = X.K ∧ m.H = H ∧ SH cl m S ∧ SV m env σ ∧ wT P.con (callW P k) (liftX cl X.mg m fun c d H => W c d σ H) e env S fun b S' => ∀ m', Ev m m' → SH cl m' S' → Q b m'.H
def tCs (e : Ot) : TT := fun σ H Q => ∃ m env S, m.K = X.K ∧ m.H = H ∧ SH cl m S ∧ SV m env σ ∧ wC P.con (callW P k) (liftX cl X.mg m fun c d H => W c d σ H) e env S fun b S' => ∀ m', Ev m m' → SH cl m' S' → Q b m'.H
def tOs (e : Oe) : TO := fun σ H Q => ∃ m env S, m.K = X.K ∧ m.H = H ∧ SH cl m S ∧ SV m env σ ∧ wO P.con (callW P k) (liftX cl X.mg m fun c d H => W c d σ H) e env S fun b S' => ∀ m', Ev m m' → SH cl m' S' → Q b m'.H
end
section
variable {P : Pg} {cl : Cl} {k : Nat} {X : Cx} {W : WX} {m m0 : Sm} {env : Env} {S : Hm} {σ : L2.St}
theorem tE_of {e : E} {Q1 : Post} {R : VK} (hK : m.K = X.K) (hS : SH cl m S) (hV : SV m env σ) (e0 : Ev m0 m) (h : wE P.con (callW P k) (liftX cl X.mg m0 fun c d H => W c d σ H) e env S Q1)
    (hq : ∀ m1 x S1 v, Ev m m1 → SH cl m1 S1 → RD m1 v x → SV m1 env σ → Q1 v S1 → R x m1.H) : tE P cl k X W e σ m.H R :=
  ⟨m, env, S, hK, rfl, hS, hV, wE_mono (callW_mono P k) (fun _ _ h1 => liftX.ev e0 h1) e (fun v S1 h1 m1 x e1 hS1 r1 => hq m1 x S1 v e1 hS1 r1 (hV.up (e1.up hS)) h1) h⟩
theorem tEs_of {e : Es} {Q1 : List Val → Hm → Prop} {R : List V → Hp → Prop} (hK : m.K = X.K) (hS : SH cl m S) (hV : SV m env σ) (e0 : Ev m0 m) (h : wEs P.con (callW P k) (liftX cl X.mg m0 fun c d H => W c d σ H) e env S Q1)
    (hq : ∀ m1 x S1 v, Ev m m1 → SH cl m1 S1 → RDs m1 v x → SV m1 env σ → Q1 v S1 → R x m1.H) : tEs P cl k X W e σ m.H R :=
  ⟨m, env, S, hK, rfl, hS, hV, wEs_mono (callW_mono P k) (fun _ _ h1 => liftX.ev e0 h1) e (fun v S1 h1 m1 x e1 hS1 r1 => hq m1 x S1 v e1 hS1 r1 (hV.up (e1.up hS)) h1) h⟩
theorem tTs_of {e : T} {Q1 : Bool → Hm → Prop} {R : Bool → Hp → Prop} (hK : m.K = X.K) (hS : SH cl m S) (hV : SV m env σ) (e0 : Ev m0 m) (h : wT P.con (callW P k) (liftX cl X.mg m0 fun c d H => W c d σ H) e env S Q1)
    (hq : ∀ m1 S1 b, Ev m m1 → SH cl m1 S1 → SV m1 env σ → Q1 b S1 → R b m1.H) : tTs P cl k X W e σ m.H R :=
  ⟨m, env, S, hK, rfl, hS, hV, wT_mono (callW_mono P k) (fun _ _ h1 => liftX.ev e0 h1) e (fun v S1 h1 m1 e1 hS1 => hq m1 S1 v e1 hS1 (hV.up (e1.up hS)) h1) h⟩
theorem tOs_of {e : Oe} {Q1 : Option Int → Hm → Prop} {R : Option Int → Hp → Prop} (hK : m.K = X.K) (hS : SH cl m S) (hV : SV m env σ) (e0 : Ev m0 m) (h : wO P.con (callW P k) (liftX cl X.mg m0 fun c d H => W c d σ H) e env S Q1)
    (hq : ∀ m1 S1 b, Ev m m1 → SH cl m1 S1 → SV m1 env σ → Q1 b S1 → R b m1.H) : tOs P cl k X W e σ m.H R :=
  ⟨m, env, S, hK, rfl, hS, hV, wO_mono (callW_mono P k) (fun _ _ h1 => liftX.ev e0 h1) e (fun v S1 h1 m1 e1 hS1 => hq m1 S1 v e1 hS1 (hV.up (e1.up hS)) h1) h⟩

/-! ### syntax -/
def notStar : Expr → Bool
  | .Starred _ _ => false
  | _ => true
theorem star_cons {e : Expr} {es : List Expr} {env : PySem.Env} (h : notStar e = true) : starEach (e :: es) env = (false, eval e env) :: starEach es env := by
  cases e <;> first | rfl | cases h
theorem star_any {env : PySem.Env} {pos : Pos} : ∀ {es : List Expr}, es.all notStar = true → (backTo pos (starEach es env)).any (·.1) = false
  | [], _ => rfl
  | e :: es, h => by
    rw [List.all_cons, Bool.and_eq_true] at h
    rw [star_cons h.1]
    show (false || (backTo pos (starEach es env)).any (·.1)) = false
    rw [star_any h.2]
    rfl
theorem star_all {env : PySem.Env} {pos : Pos} : ∀ {es : List Expr}, es.all notStar = true → (backTo pos (starEach es env)).all (fun x => !x.1) = true
  | [], _ => rfl
  | e :: es, h => by
    rw [List.all_cons, Bool.and_eq_true] at h
    rw [star_cons h.1]
    show (true && (backTo pos (starEach es env)).all (fun x => !x.1)) = true
    rw [star_all h.2]
    rfl
def notComp : Expr → Bool
  | .ListComp .. => false
  | .SetComp .. => false
  | .DictComp .. => false
  | _ => true
theorem noswap {e : Expr} {t : Option Expr} {l : Nat} {env : PySem.Env} (h : notComp e = true) : swapsWith e t l env = pure false := by
  cases e <;> first | rfl | cases h
/-- no call of a plain name (super) -/
def plainBase : Expr → Bool
  | .Call (.Name _ _) [] [] _ => false
  | _ => true
theorem base_of {e : Expr} {f : Str} {env : PySem.Env} {w : Sem Value} (h : plainBase e = true) : attributeBase e f env w = w := by
  unfold attributeBase
  split
  · cases h
  · rfl
def plainTest : Expr → Bool
  | .UnaryOp .Not _ _ => false
  | .BoolOp .. => false
  | .IfExp .. => false
  | .Compare .. => false
  | _ => true
theorem test_of {e : Expr} {env : PySem.Env} (h : plainTest e = true) : ∀ whole, isTrue e env whole = (do let v ← whole; standAt e.pos; holding [v] (truthy v)) := by
  intro whole
  cases e with
  | UnaryOp op x p => cases op <;> first | rfl | cases h
  | BoolOp op vs p => cases h
  | IfExp a b c p => cases h
  | Compare a b c p => cases h
  | _ => rfl
def plainIx : Expr → Bool
  | .Slice .. => false
  | _ => true
theorem plainIx_of {e : Expr} (h : plainIx e = true) : PlainIx e := by
  intro o i
  cases e <;> first | rfl | cases h
theorem plainAug_of {e : Expr} (h : plainIx e = true) : ∀ ov iv new, augStore e ov iv new = (do holding [new, ov, iv] (setItem ov iv new); release [new, ov, iv] []; pure .next) := by
  intro o i n
  cases e <;> first | rfl | cases h
def plainAsg : Expr → Bool
  | _ => true
theorem folded_of {e : Expr} {env : PySem.Env} (h : (match e with | .Set .. => false | _ => true) = true) : ∀ x, foldedSetIterable e env x = pure x := by
  intro x
  cases e <;> first | rfl | cases h
/-- a method's call -/
theorem meth_eval {o : Expr} {m : Str} {apos pos : Pos} {args : List Expr} {env : PySem.Env} (hb : plainBase o = true) (hs : args.all notStar = true) (hn : args.length < 29) (hl : (apos.endLine == pos.line) = true) :
    eval (.Call (.Attribute o m apos) args [] pos) env = (do
      let ov ← eval o env
      standAt apos.atName
      let (f, first) ← holding [ov] (getMethod ov m (do return (← importBound o env).getD true))
      callWith pos f first (backTo pos (starEach args env)) (backToKw pos (keywordEach [] env))) := by
  have hform : methodCallForm (args.length + ([] : List Keyword).length) (backTo pos (starEach args env)) (backToKw pos (keywordEach [] env)) = true := by
    unfold methodCallForm
    rw [star_all hs]
    show (true && true && decide (args.length + 0 + (if ([] : List Keyword).isEmpty then 0 else 1) < 30)) = true
    simp
    omega
  have hpos : methodCallPos true o env apos pos = pure pos := by unfold methodCallPos; simp [hl]
  rw [arm_eval_Call, base_of hb]
  unfold methodCall
  rw [hform, hpos]
  rfl
end
end Mi

set_option maxHeartbeats 4000000
namespace Mi
open PySem PySem.Spec L2 PyProof.Rows
section
variable {P : Pg} {cl : Cl} {k : Nat} {X : Cx} {W : WX} {sc : Ko}
theorem PT.kf {e : Expr} {t : TT} (h : PT X e t) : PT X e (fun σ H Q => t σ H fun x H' => KF X.K H' → Q x H') := ⟨fun pins s σ H Q I hw => thn (h.run pins s σ H _ I hw) fun _ _ ⟨H', I', q⟩ => ⟨H', I', q (kfree I')⟩⟩
theorem PT.imp {e : Expr} {t t' : TT} (h : PT X e t) (f : ∀ σ H Q, t' σ H Q → t σ H Q) : PT X e t' := ⟨fun pins s σ H Q I hw => h.run pins s σ H Q I (f _ _ _ hw)⟩
theorem PW.imp {e : Expr} {t t' : TT} (h : PW X e t) (f : ∀ σ H Q, t' σ H Q → t σ H Q) : PW X e t' := ⟨fun wh pins s σ H Q I hw => h.run wh pins s σ H Q I (f _ _ _ hw)⟩
theorem PA.imp {e : List Expr} {t t' : TA} (h : PA X e t) (f : ∀ σ H Q, t' σ H Q → t σ H Q) : PA X e t' := ⟨fun pos pins s σ H Q I hw => h.run pos pins s σ H Q I (f _ _ _ hw)⟩
theorem PA.kf {e : List Expr} {t : TA} (h : PA X e t) : PA X e (fun σ H Q => t σ H fun x H' => KF X.K H' → Q x H') := ⟨fun pos pins s σ H Q I hw => thn (h.run pos pins s σ H _ I hw) fun _ _ ⟨v, H', I', r, q⟩ => ⟨v, H', I', r, q (kfree I')⟩⟩
theorem PO.imp {e : Option Expr} {t t' : TO} (h : PO X e t) (f : ∀ σ H Q, t' σ H Q → t σ H Q) : PO X e t' := ⟨fun pins s σ H Q I hw => h.run pins s σ H Q I (f _ _ _ hw)⟩

/-! ### names, constants -/
theorem e_loc {i : Nat} {x : Str} {pos : Pos} (hN : X.N[i]? = some x) (hv : Vis X.env.scope x) (hd : (x == ("__debug__" : Str)) = false) (hcd : (x == ("__classdict__" : Str)) = false) : PE X (.Name x pos) (tE P cl k X W (.loc i)) :=
  PE.imp (PE.kf (pe_var hN hv hd hcd)) fun σ H Q ⟨m, env, S, hK, eH, hS, hV, h⟩ => by
    subst eH
    simp only [wE] at h
    obtain ⟨v, e, h⟩ := h
    obtain ⟨x, e', r⟩ := hV.get e
    exact ⟨x, e', fun _ => stay hS r h⟩
theorem e_lit {c : Lit} {e : Expr} (h : PE X e (tC (litV c))) : PE X e (tE P cl k X W (.lit c)) :=
  PE.imp (PE.kf h) fun σ H Q ⟨m, env, S, hK, eH, hS, hV, h⟩ => by
    subst eH
    simp only [wE] at h
    exact fun _ => stay hS (litV_rd c) h
theorem e_con {x : String} {v : Val} {pos : Pos} (ln : Ln P X.K X.mg cl) (hg : Gl X (Str.ofString x)) (hc : P.con x = some v) (hd : (Str.ofString x == ("__debug__" : Str)) = false) : PE X (.Name (Str.ofString x) pos) (tE P cl k X W (.con x)) := by
  obtain ⟨a, u, h1, h2, h3⟩ := ln.con x v hc
  refine PE.imp (PE.kf (pe_glob hg h1 h2 hd)) fun σ H Q ⟨m, env, S, hK, eH, hS, hV, h⟩ => ?_
  subst eH
  simp only [wE] at h
  obtain ⟨w, e, h⟩ := h
  rw [hc] at e
  cases e
  exact fun _ => stay hS (h3 m hK) h

/-! ### operators -/
variable {a b c o i : E} {ea eb ec eo ei : Expr} {pos : Pos}
theorem e_bin {op : Operator} (ha : PE X ea (tE P cl k X W a)) (hb : PE X eb (tE P cl k X W b)) : PE X (.BinOp ea op eb pos) (tE P cl k X W (.bin op a b)) :=
  PE.imp (pe_op (opr_bin (cl := cl) op) ha hb) fun σ H Q ⟨m, env, S, hK, eH, hS, hV, h⟩ => by
    subst eH
    simp only [wE] at h
    refine tE_of hK hS hV (Ev.refl m) h fun m1 x S1 v e1 hS1 r1 hV1 h1 => ?_
    refine tE_of (e1.k.trans hK) hS1 hV1 e1 h1 fun m2 y S2 w e2 hS2 r2 hV2 h2 => ?_
    exact ⟨m2, S2, v, w, (e1.trans e2).k.trans hK, rfl, hS2, r1.up (e2.up hS1), r2, binW_mono (fun z S3 h3 => liftQ.ev (e1.trans e2) (fun _ _ _ q => q) h3) h2⟩
theorem e_neg (ha : PE X ea (tE P cl k X W a)) : PE X (.UnaryOp .USub ea pos) (tE P cl k X W (.neg a)) :=
  PE.imp (pe_un un_neg ha) fun σ H Q ⟨m, env, S, hK, eH, hS, hV, h⟩ => by
    subst eH
    simp only [wE] at h
    refine tE_of hK hS hV (Ev.refl m) h fun m1 x S1 v e1 hS1 r1 hV1 h1 => ?_
    obtain ⟨i, rfl, h1⟩ := h1
    cases r1
    exact ⟨i, rfl, h1 m1 (.int (-i)) e1 hS1 (.int _)⟩
theorem e_cmp {op : CmpOp} (hu : X.A.units + 65 < cLine) (hm : behindInMarks op eb = false) (ha : PE X ea (tE P cl k X W a)) (hb : PE X eb (tE P cl k X W b)) : PE X (.Compare ea [op] [eb] pos) (tE P cl k X W (.cmp op a b)) :=
  PE.imp (pe_cmpR (opr_cmp (cl := cl) hu op) ha hb hm) fun σ H Q ⟨m, env, S, hK, eH, hS, hV, h⟩ => by
    subst eH
    simp only [wE] at h
    refine tE_of hK hS hV (Ev.refl m) h fun m1 x S1 v e1 hS1 r1 hV1 h1 => ?_
    refine tE_of (e1.k.trans hK) hS1 hV1 e1 h1 fun m2 y S2 w e2 hS2 r2 hV2 h2 => ?_
    exact ⟨m2, S2, v, w, (e1.trans e2).k.trans hK, rfl, hS2, r1.up (e2.up hS1), r2, cmpW_mono (fun z h3 => liftQ.ev (e1.trans e2) (fun _ _ _ q => q) h3) h2⟩
theorem t_cmp {op : CmpOp} (hu : X.A.units + 65 < cLine) (hm : behindInMarks op eb = false) (ha : PE X ea (tE P cl k X W a)) (hb : PE X eb (tE P cl k X W b)) : PT X (.Compare ea [op] [eb] pos) (tTs P cl k X W (.v (.cmp op a b))) :=
  PT.imp (pt_cmpR (opr_cmp (cl := cl) hu op) ha hb hm) fun σ H Q ⟨m, env, S, hK, eH, hS, hV, h⟩ => by
    subst eH
    simp only [wT, wE] at h
    refine tE_of hK hS hV (Ev.refl m) h fun m1 x S1 v e1 hS1 r1 hV1 h1 => ?_
    refine tE_of (e1.k.trans hK) hS1 hV1 e1 h1 fun m2 y S2 w e2 hS2 r2 hV2 h2 => ?_
    refine ⟨m2, S2, v, w, (e1.trans e2).k.trans hK, rfl, hS2, r1.up (e2.up hS1), r2, cmpW_mono (fun z h3 => ?_) h2⟩
    obtain ⟨d, e, h3⟩ := h3
    cases e
    exact fun m' x e hS r => by cases r; exact ⟨_, rfl, h3 m' ((e1.trans e2).trans e) hS⟩
theorem chain_of {op op' : CmpOp} {σ : L2.St} {m : Sm} {env : Env} {S : Hm} {Q1 : Post} {Q : VK} (hK : m.K = X.K) (hS : SH cl m S) (hV : SV m env σ) (hq : ∀ m' b S', Ev m m' → SH cl m' S' → Q1 (.bl b) S' → Q (.bl b) m'.H)
    (h : wE P.con (callW P k) (liftX cl X.mg m fun c d H => W c d σ H) (.cmp2 op op' a b c) env S Q1) :
    tChain (r2 X cl fun v w S Q => cmpW op v w S fun b => Q (.bl b) S) (r2 X cl fun v w S Q => cmpW op' v w S fun b => Q (.bl b) S) (tE P cl k X W a) (tE P cl k X W b) (tE P cl k X W c) σ m.H Q := by
  simp only [wE] at h
  refine tE_of hK hS hV (Ev.refl m) h fun m1 x S1 v e1 hS1 r1 hV1 h1 => ?_
  refine tE_of (e1.k.trans hK) hS1 hV1 e1 h1 fun m2 y S2 w e2 hS2 r2 hV2 h2 => ?_
  refine ⟨m2, S2, v, w, (e1.trans e2).k.trans hK, rfl, hS2, r1.up (e2.up hS1), r2, cmpW_mono (fun z h3 => ?_) h2⟩
  intro m3 x3 e3 hS3 r3
  cases r3
  refine ⟨z, rfl, ?_⟩
  have e123 := (e1.trans e2).trans e3
  cases z with
  | false =>
    simp only [Bool.false_eq_true, if_false] at h3 ⊢
    exact hq m3 false _ e123 hS3 h3
  | true =>
    simp only [if_true] at h3 ⊢
    refine tE_of (e123.k.trans hK) hS3 (hV2.up (e3.up hS2)) e123 h3 fun m4 y4 S4 w4 e4 hS4 r4 hV4 h4 => ?_
    exact ⟨m4, S4, w, w4, (e123.trans e4).k.trans hK, rfl, hS4, r2.up ((e3.trans e4).up hS2), r4, cmpW_mono (fun z h5 m5 x5 e5 hS5 r5 => by cases r5; exact hq m5 z _ ((e123.trans e4).trans e5) hS5 h5) h4⟩
theorem e_cmp2 {op op' : CmpOp} (hu : X.A.units + 65 < cLine) (hm : lastMarks [op, op'] [eb, ec] = false) (ha : PE X ea (tE P cl k X W a)) (hb : PE X eb (tE P cl k X W b)) (hc : PE X ec (tE P cl k X W c)) : PE X (.Compare ea [op, op'] [eb, ec] pos) (tE P cl k X W (.cmp2 op op' a b c)) :=
  PE.imp (pe_chain (opr_cmp (cl := cl) hu op) (opr_cmp (cl := cl) hu op') ha hb hc hm) fun σ H Q ⟨m, env, S, hK, eH, hS, hV, h⟩ => by
    subst eH
    exact chain_of hK hS hV (fun m' b S' e hS' h => h m' _ e hS' (.bl b)) h
theorem t_cmp2 {op op' : CmpOp} (hu : X.A.units + 65 < cLine) (hm : lastMarks [op, op'] [eb, ec] = false) (ha : PE X ea (tE P cl k X W a)) (hb : PE X eb (tE P cl k X W b)) (hc : PE X ec (tE P cl k X W c)) : PT X (.Compare ea [op, op'] [eb, ec] pos) (tTs P cl k X W (.v (.cmp2 op op' a b c))) :=
  PT.imp (pt_chain (opr_cmp (cl := cl) hu op) (opr_cmp (cl := cl) hu op') ha hb hc hm) fun σ H Q ⟨m, env, S, hK, eH, hS, hV, h⟩ => by
    subst eH
    simp only [wT] at h
    refine chain_of hK hS hV (fun m' b S' e hS' h => ?_) h
    obtain ⟨d, e1, h1⟩ := h
    simp [truth] at e1
    subst e1
    exact ⟨_, rfl, h1 m' e hS'⟩
theorem e_isN {j pos'} (ha : PE X ea (tE P cl k X W a)) : PE X (.Compare ea [.Is] [.Constant .none j pos'] pos) (tE P cl k X W (.isN a)) :=
  PE.imp (pe_cmp (pc_isN ha) rfl) fun σ H Q ⟨m, env, S, hK, eH, hS, hV, h⟩ => by
    subst eH
    simp only [wE] at h
    refine tE_of hK hS hV (Ev.refl m) h fun m1 x S1 v e1 hS1 r1 hV1 h1 => ?_
    have := h1 m1 _ e1 hS1 (.bl _)
    cases r1 <;> simpa using this
theorem e_notN {j pos'} (ha : PE X ea (tE P cl k X W a)) : PE X (.Compare ea [.IsNot] [.Constant .none j pos'] pos) (tE P cl k X W (.notN a)) :=
  PE.imp (pe_cmp (pc_notN ha) rfl) fun σ H Q ⟨m, env, S, hK, eH, hS, hV, h⟩ => by
    subst eH
    simp only [wE] at h
    refine tE_of hK hS hV (Ev.refl m) h fun m1 x S1 v e1 hS1 r1 hV1 h1 => ?_
    have := h1 m1 _ e1 hS1 (.bl _)
    cases r1 <;> simpa using this
theorem t_isN {j pos'} (ha : PE X ea (tE P cl k X W a)) : PT X (.Compare ea [.Is] [.Constant .none j pos'] pos) (tTs P cl k X W (.v (.isN a))) :=
  PT.imp (pt_cmp (pc_isN ha) rfl) fun σ H Q ⟨m, env, S, hK, eH, hS, hV, h⟩ => by
    subst eH
    simp only [wT, wE] at h
    refine tE_of hK hS hV (Ev.refl m) h fun m1 x S1 v e1 hS1 r1 hV1 h1 => ?_
    obtain ⟨d, e, h1⟩ := h1
    have := h1 m1 e1 hS1
    simp [truth] at e
    subst e
    cases r1 <;> exact ⟨_, rfl, by simpa using this⟩
theorem t_notN {j pos'} (ha : PE X ea (tE P cl k X W a)) : PT X (.Compare ea [.IsNot] [.Constant .none j pos'] pos) (tTs P cl k X W (.v (.notN a))) :=
  PT.imp (pt_cmp (pc_notN ha) rfl) fun σ H Q ⟨m, env, S, hK, eH, hS, hV, h⟩ => by
    subst eH
    simp only [wT, wE] at h
    refine tE_of hK hS hV (Ev.refl m) h fun m1 x S1 v e1 hS1 r1 hV1 h1 => ?_
    obtain ⟨d, e, h1⟩ := h1
    have := h1 m1 e1 hS1
    simp [truth] at e
    subst e
    cases r1 <;> exact ⟨_, rfl, by simpa using this⟩
theorem e_isB {b : Bool} {j pos'} (ha : PE X ea (tE P cl k X W a)) : PE X (.Compare ea [.Is] [.Constant (.bool b) j pos'] pos) (tE P cl k X W (.isB a b)) :=
  PE.imp (pe_cmpR (op_is_bl (X := X)) ha (pe_bl (X := X)) rfl) fun σ H Q ⟨m, env, S, hK, eH, hS, hV, h⟩ => by
    subst eH
    simp only [wE] at h
    refine tE_of hK hS hV (Ev.refl m) h fun m1 x S1 v e1 hS1 r1 hV1 h1 => ?_
    obtain ⟨d, rfl, h1⟩ := h1
    cases r1
    have := h1 m1 _ e1 hS1 (.bl _)
    exact ⟨d, b, rfl, rfl, by rw [← Bool.beq_eq_decide_eq]; exact this⟩
theorem t_isB {b : Bool} {j pos'} (ha : PE X ea (tE P cl k X W a)) : PT X (.Compare ea [.Is] [.Constant (.bool b) j pos'] pos) (tTs P cl k X W (.v (.isB a b))) :=
  PT.imp (pt_cmpR (op_is_bl (X := X)) ha (pe_bl (X := X)) rfl) fun σ H Q ⟨m, env, S, hK, eH, hS, hV, h⟩ => by
    subst eH
    simp only [wT, wE] at h
    refine tE_of hK hS hV (Ev.refl m) h fun m1 x S1 v e1 hS1 r1 hV1 h1 => ?_
    obtain ⟨d, rfl, d', e, h1⟩ := h1
    cases r1
    have := h1 m1 e1 hS1
    simp [truth] at e
    subst e
    exact ⟨d, b, rfl, rfl, _, by rw [← Bool.beq_eq_decide_eq], this⟩

theorem e_isnB {b : Bool} {j pos'} (ha : PE X ea (tE P cl k X W a)) : PE X (.Compare ea [.IsNot] [.Constant (.bool b) j pos'] pos) (tE P cl k X W (.not (.isB a b))) :=
  PE.imp (pe_cmpR (op_isnot_bl (X := X)) ha (pe_bl (X := X)) rfl) fun σ H Q ⟨m, env, S, hK, eH, hS, hV, h⟩ => by
    subst eH
    simp only [wE] at h
    refine tE_of hK hS hV (Ev.refl m) h fun m1 x S1 v e1 hS1 r1 hV1 h1 => ?_
    obtain ⟨d, rfl, d', e, h1⟩ := h1
    cases r1
    cases e
    have := h1 m1 _ e1 hS1 (.bl _)
    exact ⟨d, b, rfl, rfl, by rw [← Bool.beq_eq_decide_eq]; exact this⟩
theorem t_isnB {b : Bool} {j pos'} (ha : PE X ea (tE P cl k X W a)) : PT X (.Compare ea [.IsNot] [.Constant (.bool b) j pos'] pos) (tTs P cl k X W (.v (.not (.isB a b)))) :=
  PT.imp (pt_cmpR (op_isnot_bl (X := X)) ha (pe_bl (X := X)) rfl) fun σ H Q ⟨m, env, S, hK, eH, hS, hV, h⟩ => by
    subst eH
    simp only [wT, wE] at h
    refine tE_of hK hS hV (Ev.refl m) h fun m1 x S1 v e1 hS1 r1 hV1 h1 => ?_
    obtain ⟨d, rfl, d', e', d2, e, h1⟩ := h1
    cases r1
    cases e'
    have := h1 m1 e1 hS1
    simp [truth] at e
    exact ⟨d, b, rfl, rfl, d2, by rw [← Bool.beq_eq_decide_eq, e]; simp, this⟩

/-! ### and, or, not, if -/
theorem e_not (ha : PE X ea (tE P cl k X W a)) : PE X (.UnaryOp .Not ea pos) (tE P cl k X W (.not a)) :=
  PE.imp (pe_not ha) fun σ H Q ⟨m, env, S, hK, eH, hS, hV, h⟩ => by
    subst eH
    simp only [wE] at h
    refine tE_of hK hS hV (Ev.refl m) h fun m1 x S1 v e1 hS1 r1 hV1 h1 => ?_
    obtain ⟨d, rfl, h1⟩ := h1
    cases r1
    exact ⟨d, rfl, h1 m1 _ e1 hS1 (.bl _)⟩
theorem and_of {R : VK} {σ : L2.St} {m : Sm} {env : Env} {S : Hm} {Q1 : Post} (hK : m.K = X.K) (hS : SH cl m S) (hV : SV m env σ) (hq : ∀ m' x v S', Ev m m' → SH cl m' S' → RD m' v x → Q1 v S' → R x m'.H)
    (h : wE P.con (callW P k) (liftX cl X.mg m fun c d H => W c d σ H) (.and a b) env S Q1) : tAndV (tE P cl k X W a) (tE P cl k X W b) σ m.H R := by
  simp only [wE] at h
  refine tE_of hK hS hV (Ev.refl m) h fun m1 x S1 v e1 hS1 r1 hV1 h1 => ?_
  obtain ⟨d, rfl, h1⟩ := h1
  cases r1
  refine ⟨d, rfl, ?_⟩
  cases d with
  | false =>
    simp only [Bool.false_eq_true, if_false] at h1 ⊢
    exact hq m1 _ _ _ e1 hS1 (.bl _) h1
  | true =>
    simp only [if_true] at h1 ⊢
    exact tE_of (e1.k.trans hK) hS1 hV1 e1 h1 fun m2 y S2 w e2 hS2 r2 hV2 h2 => hq m2 _ _ _ (e1.trans e2) hS2 r2 h2
theorem or_of {R : VK} {σ : L2.St} {m : Sm} {env : Env} {S : Hm} {Q1 : Post} (hK : m.K = X.K) (hS : SH cl m S) (hV : SV m env σ) (hq : ∀ m' x v S', Ev m m' → SH cl m' S' → RD m' v x → Q1 v S' → R x m'.H)
    (h : wE P.con (callW P k) (liftX cl X.mg m fun c d H => W c d σ H) (.or a b) env S Q1) : tOrV (tE P cl k X W a) (tE P cl k X W b) σ m.H R := by
  simp only [wE] at h
  refine tE_of hK hS hV (Ev.refl m) h fun m1 x S1 v e1 hS1 r1 hV1 h1 => ?_
  obtain ⟨d, rfl, h1⟩ := h1
  cases r1
  refine ⟨d, rfl, ?_⟩
  cases d with
  | true =>
    simp only [if_true] at h1 ⊢
    exact hq m1 _ _ _ e1 hS1 (.bl _) h1
  | false =>
    simp only [Bool.false_eq_true, if_false] at h1 ⊢
    exact tE_of (e1.k.trans hK) hS1 hV1 e1 h1 fun m2 y S2 w e2 hS2 r2 hV2 h2 => hq m2 _ _ _ (e1.trans e2) hS2 r2 h2
variable {rest : List Expr}
theorem e_and (ha : PE X ea (tE P cl k X W a)) (hb : PE X (.BoolOp .And (eb :: rest) pos) (tE P cl k X W b)) : PE X (.BoolOp .And (ea :: eb :: rest) pos) (tE P cl k X W (.and a b)) :=
  PE.imp (pe_and ha hb) fun σ H Q ⟨m, env, S, hK, eH, hS, hV, h⟩ => by
    subst eH
    exact and_of hK hS hV (fun m' x v S' e hS' r h => h m' x e hS' r) h
theorem e_or (ha : PE X ea (tE P cl k X W a)) (hb : PE X (.BoolOp .Or (eb :: rest) pos) (tE P cl k X W b)) : PE X (.BoolOp .Or (ea :: eb :: rest) pos) (tE P cl k X W (.or a b)) :=
  PE.imp (pe_or ha hb) fun σ H Q ⟨m, env, S, hK, eH, hS, hV, h⟩ => by
    subst eH
    exact or_of hK hS hV (fun m' x v S' e hS' r h => h m' x e hS' r) h
theorem e_ite {c : T} (hc : PT X ec (tTs P cl k X W c)) (ha : PE X ea (tE P cl k X W a)) (hb : PE X eb (tE P cl k X W b)) : PE X (.IfExp ec ea eb pos) (tE P cl k X W (.ite c a b)) :=
  PE.imp (pe_ifExp hc ha hb) fun σ H Q ⟨m, env, S, hK, eH, hS, hV, h⟩ => by
    subst eH
    simp only [wE] at h
    refine tTs_of hK hS hV (Ev.refl m) h fun m1 S1 d e1 hS1 hV1 h1 => ?_
    cases d with
    | false =>
      simp only [Bool.false_eq_true, if_false] at h1 ⊢
      exact tE_of (e1.k.trans hK) hS1 hV1 e1 h1 fun m2 y S2 w e2 hS2 r2 hV2 h2 => h2 m2 _ (e1.trans e2) hS2 r2
    | true =>
      simp only [if_true] at h1 ⊢
      exact tE_of (e1.k.trans hK) hS1 hV1 e1 h1 fun m2 y S2 w e2 hS2 r2 hV2 h2 => h2 m2 _ (e1.trans e2) hS2 r2

/-! ### tests -/
theorem t_val (ha : PE X ea (tE P cl k X W a)) (hp : plainTest ea = true) : PT X ea (tTs P cl k X W (.v a)) :=
  PT.imp (pt_truth ha (test_of hp)) fun σ H Q ⟨m, env, S, hK, eH, hS, hV, h⟩ => by
    subst eH
    simp only [wT] at h
    refine tE_of hK hS hV (Ev.refl m) h fun m1 x S1 v e1 hS1 r1 hV1 h1 => ?_
    obtain ⟨d, e, h1⟩ := h1
    exact ⟨d, truth_rd hS1 (e1.k.trans hK) r1 e, h1 m1 e1 hS1⟩
variable {ta tb : T}
theorem t_not (ha : PT X ea (tTs P cl k X W ta)) : PT X (.UnaryOp .Not ea pos) (tTs P cl k X W (.not ta)) :=
  PT.imp (pt_not ha) fun σ H Q ⟨m, env, S, hK, eH, hS, hV, h⟩ => by
    subst eH
    simp only [wT] at h
    exact tTs_of hK hS hV (Ev.refl m) h fun m1 S1 d e1 hS1 hV1 h1 => h1 m1 e1 hS1
theorem t_and1 (ha : PT X ea (tTs P cl k X W ta)) : PW X (.BoolOp .And [ea] pos) (tTs P cl k X W ta) := pw_and1 ha
theorem t_or1 (ha : PT X ea (tTs P cl k X W ta)) : PW X (.BoolOp .Or [ea] pos) (tTs P cl k X W ta) := pw_or1 ha
theorem t_and (ha : PT X ea (tTs P cl k X W ta)) (hb : PW X (.BoolOp .And (eb :: rest) pos) (tTs P cl k X W tb)) : PW X (.BoolOp .And (ea :: eb :: rest) pos) (tTs P cl k X W (.and ta tb)) :=
  PW.imp (pw_and ha hb) fun σ H Q ⟨m, env, S, hK, eH, hS, hV, h⟩ => by
    subst eH
    simp only [wT] at h
    refine tTs_of hK hS hV (Ev.refl m) h fun m1 S1 d e1 hS1 hV1 h1 => ?_
    cases d with
    | false =>
      simp only [Bool.false_eq_true, if_false] at h1 ⊢
      exact h1 m1 e1 hS1
    | true =>
      simp only [if_true] at h1 ⊢
      exact tTs_of (e1.k.trans hK) hS1 hV1 e1 h1 fun m2 S2 w e2 hS2 hV2 h2 => h2 m2 (e1.trans e2) hS2
theorem t_or (ha : PT X ea (tTs P cl k X W ta)) (hb : PW X (.BoolOp .Or (eb :: rest) pos) (tTs P cl k X W tb)) : PW X (.BoolOp .Or (ea :: eb :: rest) pos) (tTs P cl k X W (.or ta tb)) :=
  PW.imp (pw_or ha hb) fun σ H Q ⟨m, env, S, hK, eH, hS, hV, h⟩ => by
    subst eH
    simp only [wT] at h
    refine tTs_of hK hS hV (Ev.refl m) h fun m1 S1 d e1 hS1 hV1 h1 => ?_
    cases d with
    | true =>
      simp only [if_true] at h1 ⊢
      exact h1 m1 e1 hS1
    | false =>
      simp only [Bool.false_eq_true, if_false] at h1 ⊢
      exact tTs_of (e1.k.trans hK) hS1 hV1 e1 h1 fun m2 S2 w e2 hS2 hV2 h2 => h2 m2 (e1.trans e2) hS2
theorem t_ite {c : T} (hc : PT X ec (tTs P cl k X W c)) (ha : PT X ea (tTs P cl k X W (.v a))) (hb : PT X eb (tTs P cl k X W (.v b))) : True := True.intro

/-! ### lists of expressions, displays -/
variable {es' : Es} {xs : List Expr}
theorem a_nil : PA X [] (tEs P cl k X W .nil) :=
  PA.imp pa_nil fun σ H Q ⟨m, env, S, hK, eH, hS, hV, h⟩ => by
    subst eH
    simp only [wEs] at h
    exact h m [] (Ev.refl m) hS .nil
theorem a_cons (ha : PE X ea (tE P cl k X W a)) (hs : notStar ea = true) (hr : PA X xs (tEs P cl k X W es')) : PA X (ea :: xs) (tEs P cl k X W (.cons a es')) :=
  PA.imp (pa_cons ha hr (star_cons hs)) fun σ H Q ⟨m, env, S, hK, eH, hS, hV, h⟩ => by
    subst eH
    simp only [wEs] at h
    refine tE_of hK hS hV (Ev.refl m) h fun m1 x S1 v e1 hS1 r1 hV1 h1 => ?_
    refine tEs_of (e1.k.trans hK) hS1 hV1 e1 h1 fun m2 y S2 w e2 hS2 r2 hV2 h2 => ?_
    exact h2 m2 _ (e1.trans e2) hS2 (.cons (r1.up (e2.up hS1)) r2)
theorem e_tup {kk} (ha : PA X xs (tEs P cl k X W es')) : PE X (.Tuple xs kk pos) (tE P cl k X W (.tup es')) :=
  PE.imp (PE.kf (pe_tup ha)) fun σ H Q ⟨m, env, S, hK, eH, hS, hV, h⟩ => by
    subst eH
    simp only [wE] at h
    refine tEs_of hK hS hV (Ev.refl m) h fun m1 x S1 v e1 hS1 r1 hV1 h1 => ?_
    exact ⟨by rw [← r1.length]; exact h1.1, fun p hp kf => mk_tup hS1 r1 hp (by rw [e1.k, hK]; exact kf) (liftQ.ev e1 (fun _ _ _ q => q) h1.2)⟩
theorem e_lst (ha : PA X xs (tEs P cl k X W es')) : PE X (.List xs pos) (tE P cl k X W (.lst es')) :=
  PE.imp (PE.kf (pe_lst ha)) fun σ H Q ⟨m, env, S, hK, eH, hS, hV, h⟩ => by
    subst eH
    simp only [wE] at h
    refine tEs_of hK hS hV (Ev.refl m) h fun m1 x S1 v e1 hS1 r1 hV1 h1 => ?_
    exact ⟨by rw [← r1.length]; exact h1.1, fun p hp kf => mk_lst hS1 r1 hp (by rw [e1.k, hK]; exact kf) (liftQ.ev e1 (fun _ _ _ q => q) h1.2)⟩
end
end Mi

set_option maxHeartbeats 4000000
namespace Mi
open PySem PySem.Spec L2 PyProof.Rows
def Es.len : Es → Nat
  | .nil => 0
  | .cons _ es => es.len + 1
theorem wEs_len {G : String → Option Val} {C : CallW} (hC : CMono C) {X : XPost} : ∀ (es : Es) {env : Env} {S : Hm} {Q : List Val → Hm → Prop}, wEs G C X es env S Q → wEs G C X es env S fun vs S' => vs.length = es.len ∧ Q vs S'
  | .nil, env, S, Q, h => by
    simp only [wEs] at h ⊢
    exact ⟨rfl, h⟩
  | .cons e es, env, S, Q, h => by
    simp only [wEs] at h ⊢
    exact wE_mono hC (fun _ _ h => h) e (fun v S1 h1 => wEs_mono hC (fun _ _ h => h) es (fun vs S2 h2 => ⟨by rw [List.length_cons, h2.1]; rfl, h2.2⟩) (wEs_len hC es h1)) h
/-- a promise one level below -/
def spK (P : Pg) (cl : Cl) (K : PySem.W.Frag) (mg : Str → Option Value) : Nat → FDef → L2.Sp
  | 0, _ => fun _ _ _ _ => False
  | k + 1, d => spF P cl K mg k d
def spI (P : Pg) (cl : Cl) (K : PySem.W.Frag) (mg : Str → Option Value) : Nat → FDef → L2.Sp
  | k + 2, d => spF P cl K mg k d
  | _, _ => fun _ _ _ _ => False
section
variable {P : Pg} {cl : Cl} {k : Nat} {X : Cx} {W : WX} {sc : Ko}
theorem FnOk.never {P : Program} {w : World} {K : PySem.W.Frag} {mg : Str → Option Value} {base : Heap} {CX : CXT} {k : Nat} {f : Addr} {fd : FuncData} {ps : List Str} : FnOk P w K mg base CX k f fd ps fun _ _ _ _ => False :=
  ⟨fun _ _ _ _ h => h.elim, fun _ _ _ _ _ _ _ _ _ _ _ _ _ h => h.elim⟩
theorem XO.fnK (xo : XO P cl X k sc W) (hc : (!sc.hot) = true) {f : FK} {d : FDef} (h : P.fn f = some d) (hh : P.isHot f = false) : ∃ a fd ps, At P cl X.K X.mg f d a fd ps ∧ FnOk X.prog X.w X.K X.mg X.base (L2N.CX X.prog X.w) k a fd ps (spK P cl X.K X.mg k d) := by
  obtain ⟨a, fd, ps, h1, h2⟩ := xo.fns hc f d h hh
  refine ⟨a, fd, ps, h1, ?_⟩
  cases k with
  | zero => exact FnOk.never
  | succ k => exact h2 k (Nat.lt_succ_self _)
theorem XO.fnI (xo : XO P cl X k sc W) (hc : (!sc.hot) = true) {f : FK} {d : FDef} (h : P.fn f = some d) (hh : P.isHot f = false) : ∃ a fd ps, At P cl X.K X.mg f d a fd ps ∧ FnOk X.prog X.w X.K X.mg X.base (L2N.CX X.prog X.w) (k - 1) a fd ps (spI P cl X.K X.mg k d) := by
  obtain ⟨a, fd, ps, h1, h2⟩ := xo.fns hc f d h hh
  refine ⟨a, fd, ps, h1, ?_⟩
  match k, h2 with
  | 0, _ => exact FnOk.never
  | 1, _ => exact FnOk.never
  | k + 2, h2 => exact h2 k (by omega)
theorem callW_body {f : FK} {d : FDef} (hf : f.init = false) (hd : P.fn f = some d) {args : List Val} {S : Hm} {m m1 : Sm} {xs : List V} {H : Hp} {Q : VK} {E : Value → Option Addr → Hp → Prop} (e : Ev m m1) (hK : m1.K = X.K) (hH : m1.H = H) (hS : SH cl m1 S) (r : RDs m1 (padded d args) xs)
    (h : callW P k f args S (liftQ cl m Q) (liftX cl X.mg m E)) : spK P cl X.K X.mg k d xs H Q E := by
  have key : ∀ j, bodyW P (callW P j) d (padded d args) S (liftQ cl m Q) (liftX cl X.mg m E) → spF P cl X.K X.mg j d xs H Q E := fun j h =>
    ⟨m1, padded d args, S, hK, hH, hS, r, bodyW_mono (callW_mono P j) (fun v S' h' => liftQ.ev e (fun _ _ _ q => q) h') (fun c S' h' => liftX.ev e h') h⟩
  match k, h with
  | 0, h => exact h
  | 1, h =>
    rw [callW_one] at h
    obtain ⟨d', h1, h2⟩ := h
    rw [hd] at h1
    cases h1
    rw [hf] at h2
    exact key 0 h2
  | k + 2, h =>
    rw [callW_two] at h
    obtain ⟨d', h1, h2⟩ := h
    rw [hd] at h1
    cases h1
    rw [hf] at h2
    exact key (k + 1) h2
theorem callW_init {f : FK} {d : FDef} (hf : f.init = true) (hd : P.fn f = some d) {args : List Val} {S : Hm} {m m1 : Sm} {xs : List V} {H : Hp} {Q : VK} {Q0 : Post} {E : Value → Option Addr → Hp → Prop} (e : Ev m m1) (hK : m1.K = X.K) (hH : m1.H = H) (hS : SH cl m1 S) (r : RDs m1 (padded d args) xs) (hq : ∀ v S', Q0 v S' → liftQ cl m1 Q v S')
    (h : callW P k f args S Q0 (liftX cl X.mg m E)) : spI P cl X.K X.mg k d xs H Q E := by
  match k, h with
  | 0, h => exact h
  | 1, h =>
    rw [callW_one] at h
    obtain ⟨d', h1, h2⟩ := h
    rw [hf] at h2
    exact h2
  | k + 2, h =>
    rw [callW_two] at h
    obtain ⟨d', h1, h2⟩ := h
    rw [hd] at h1
    cases h1
    rw [hf] at h2
    exact ⟨m1, padded d args, S, hK, hH, hS, r, bodyW_mono (callW_mono P k) hq (fun c S' h' => liftX.ev e h') h2⟩
/-- how many defaults are dropped -/
def FDef.cut (d : FDef) (n : Nat) : Nat := n + d.dflt.length - d.params
theorem padded_rd {m : Sm} {d : FDef} {args : List Val} {xs : List V} {n : Nat} (hn : args.length = n) (r : RDs m args xs) : RDs m (padded d args) (xs ++ (d.dflt.drop (d.cut n)).map litV) := by
  unfold padded
  subst hn
  exact r.append (lits_rd _)

variable {a b c o i : E} {ea eb ec eo ei : Expr} {pos : Pos} {es' : Es} {xs : List Expr}
/-! ### calls -/
theorem pe_call0SD {sp : L2.Sp} {CX : CXT} {f : Addr} {fd : FuncData} {ps : List Str} {dvs : List V} {ds : List Value} {E : L2.St → XK} {x : Str} {p : Pos} (F : FnOk X.prog X.w X.K X.mg X.base CX k f fd ps sp) (hr : Room k X.A) (hg : Gl X x) (hm : X.mg x = some (.ref f)) (hk : PySem.W.keepIn X.K (.ref f) = true) (hb : Binds X.K fd ps ds) (hd : Vals dvs ds) (hx : ∀ σ, PassesAt CX X σ (E σ))
    (hdb : (x == ("__debug__" : Str)) = false) : PE X (.Call (.Name x p) [] [] pos) (tCallSD sp dvs E tNil) := by
  refine ⟨fun pins s σ H Q I h => ?_⟩
  refine wpAny_Call_Name_kw (ld_glob I hg hm ?_ hdb)
  exact PySem.W.callWith_K0 I.kIn hk (run_fnSD (us := []) F hr hb hd (hx σ) I .nil h)
theorem e_call {f : String} {d : FDef} {p : Pos} (xo : XO P cl X k sc W) (hc : (!sc.hot) = true) (hh : P.isHot (.f f) = false) (hg : Gl X (Str.ofString f)) (hdb : (Str.ofString f == ("__debug__" : Str)) = false) (hd : P.fn (.f f) = some d) (hn : es'.len ≤ d.params) (hs : xs.all notStar = true) (h0 : xs = [] → es' = .nil) (ha : PA X xs (tEs P cl k X W es')) :
    PE X (.Call (.Name (Str.ofString f) p) xs [] pos) (tE P cl k X W (.call f es')) := by
  obtain ⟨g, fd, ps, at', F⟩ := xo.fnK hc hd hh
  obtain ⟨ds, vd, hb⟩ := at'.bd (d.cut es'.len) (by unfold FDef.cut; omega)
  have hm : X.mg (Str.ofString f) = some (.ref g) := at'.nm
  have fin : ∀ {σ : L2.St} {m : Sm} {env : Env} {S : Hm} {Q : VK} {m1 : Sm} {S1 : Hm} {vs : List Val} {xs : List V}, m.K = X.K → Ev m m1 → SH cl m1 S1 → RDs m1 vs xs → vs.length = es'.len → callW P k (.f f) vs S1 (liftQ cl m Q) (liftX cl X.mg m fun c d H => W c d σ H) →
      spK P cl X.K X.mg k d (xs ++ (d.dflt.drop (d.cut es'.len)).map litV) m1.H Q (WE W σ) := fun {σ m env S Q m1 S1 vs xs} hK e1 hS1 r1 hl h1 => callW_body (k := k) rfl hd e1 (e1.k.trans hK) rfl hS1 (padded_rd hl r1) h1
  cases xs with
  | nil =>
    refine PE.imp (pe_call0SD (E := WE W) F (xo.room hc) hg hm at'.kp hb vd (fun σ => passF xo.fr xo.tk σ) hdb) fun σ H Q ⟨m, env, S, hK, eH, hS, hV, h⟩ => ?_
    subst eH
    simp only [wE] at h
    have h := wEs_len (callW_mono P k) es' h
    rw [h0 rfl] at h fin
    simp only [wEs] at h
    have z := fin (env := env) (S := S) (Q := Q) hK (Ev.refl m) hS .nil h.1 h.2
    rw [h0 rfl]
    exact z
  | cons e es =>
    rw [List.all_cons, Bool.and_eq_true] at hs
    refine PE.imp (pe_callSD (E := WE W) F (xo.room hc) hg hm at'.kp hb vd (fun σ => passF xo.fr xo.tk σ) ha hdb (star_cons hs.1) (star_any hs.2)) fun σ H Q ⟨m, env, S, hK, eH, hS, hV, h⟩ => ?_
    subst eH
    simp only [wE] at h
    refine tEs_of hK hS hV (Ev.refl m) (wEs_len (callW_mono P k) es' h) fun m1 x S1 v e1 hS1 r1 hV1 h1 => ?_
    exact fin (env := env) (S := S) hK e1 hS1 r1 h1.1 h1.2

/-! ### calls with the handled exception -/
theorem SH.at_of {m : Sm} {S : Hm} {b : Addr} {c : String} (h : SH cl m S) (hz : ∀ a d, cl.z a d → a = b ∧ d = c) : SH (cl.at b c) m S := ⟨h.len, h.nd, h.kf, h.ob, fun a d e => hz a d (h.z a d e)⟩
theorem SH.of_at {m m' : Sm} {S S' : Hm} {b : Addr} {c : String} (h0 : SH cl m S) (e : Ev m m') (h : SH (cl.at b c) m' S') : SH cl m' S' := ⟨h.len, h.nd, h.kf, h.ob, fun a d z => h0.z a d (by rw [← e.z]; exact z)⟩
theorem run_fnE {sp : Addr × Obj → L2.Sp} {f : Addr} {fd : FuncData} {ps : List Str} {q : Addr × Obj} {pins : List (Addr × Obj)} {σ : L2.St} {H : Hp} {s : Shared} {Q : VK} {us : List Value} {vs : List V} (F : FnE X.prog X.w X.K X.mg X.base f fd ps sp) (hr : L2H.RoomH 1 X.A) (h1 : L2H.Hot1 X.A q) (hq : q ∈ X.pn) (hb : Binds X.K fd ps []) (fr : InFr X) (tk : TkF X W)
    (I : Inv X pins σ H s) (r : Vals vs us) (h : sp q vs H Q (WE W σ)) : wpAny (model X.prog X.w) X.A (call (.ref f) us) (EP X pins σ Q) X.xe s := by
  have hl : us.length = ps.length := by rw [← r.length]; exact F.len q _ _ _ _ h
  have hbind := hb s us I.kIn (by simpa using hl)
  rw [List.append_nil] at hbind
  obtain ⟨g1, g2, g3, g4, g5⟩ := I.pin q (List.mem_append_left _ hq)
  have hp : L2H.PinOk X.stack H s q := ⟨g1, g2, fun z => (List.mem_cons.mp (I.stkSub q.1 z)).elim g3 g4, g5⟩
  refine wpAny_call (codeAny_mono (F.run q X.A X.stack s H ⟨us, []⟩ us vs Q (WE W σ) hr h1 hp I.env0 hbind r h) fun res s' hres => ?_)
  match res, hres with
  | .error e, he => exact passF fr tk σ pins H s e s' I he
  | .ok (.ret u), he => exact I.after he
theorem e_callH {f : String} {d : FDef} {p : Pos} (xo : XO P cl X k sc W) (hot : sc.hot = true) (hf : f ∈ sc.hf) (hg : Gl X (Str.ofString f)) (hdb : (Str.ofString f == ("__debug__" : Str)) = false) (hd : P.fn (.f f) = some d) (hn : es'.len = d.params) (hd0 : d.dflt = []) (hs : xs.all notStar = true) (h0 : xs ≠ []) (ha : PA X xs (tEs P cl k X W es')) :
    PE X (.Call (.Name (Str.ofString f) p) xs [] pos) (tE P cl k X W (.call f es')) := by
  obtain ⟨g, fd, ps, hm, kp, hl, hb, F⟩ := xo.hots f hf d hd hd0
  obtain ⟨q, c, h1, hq, hz, ho⟩ := xo.zx hot
  have rK := xo.rmh hot (fun e => by rw [e] at hf; cases hf)
  cases xs with
  | nil => exact absurd rfl h0
  | cons e es =>
  rw [List.all_cons, Bool.and_eq_true] at hs
  refine ⟨fun pins s σ H Q I ⟨m, env, S, hK, eH, hS, hV, h⟩ => ?_⟩
  subst eH
  simp only [wE] at h
  refine wpAny_Call_Name_kw (ld_glob I hg hm ?_ hdb)
  have want := tEs_of hK hS hV (Ev.refl m) (wEs_len (callW_mono P k) es' h) (R := fun ys H1 => ∃ m1 S1 vs, Ev m m1 ∧ m1.H = H1 ∧ SH cl m1 S1 ∧ RDs m1 vs ys ∧ vs.length = es'.len ∧ callW P k (.f f) vs S1 (liftQ cl m Q) (liftX cl X.mg m fun c d H => W c d σ H)) fun m1 x S1 v e1 hS1 r1 hV1 h1 => ⟨m1, S1, v, e1, rfl, hS1, r1, h1.1, h1.2⟩
  refine PySem.W.callWith_K (h₀ := X.base) I.ok.mod.kin kp (thn (ha.run pos pins s σ m.H _ I want) fun us s1 ⟨ys, H1, I1, r, m1, S1, vs, e1, eH, hS1, r1, l1, hw⟩ => ⟨I1.kIn, ?_⟩) (star_cons hs.1) (star_any hs.2)
  subst eH
  have hpad : padded d vs = vs := by unfold padded; rw [hd0]; simp
  have body : 1 ≤ k → ∀ j, bodyW P (callW P j) d (padded d vs) S1 (liftQ cl m Q) (liftX cl X.mg m fun c d H => W c d σ H) → wpAny (model X.prog X.w) X.A (call (.ref g) us) (EP X pins σ Q) X.xe s1 := fun k1 j hj => by
    rw [hpad] at hj
    refine run_fnE (F j) (rK.mono k1) h1 hq hb xo.fr xo.tk I1 r ⟨by rw [← r1.length, l1, hn, hl], fun _ => ⟨c, m1, vs, S1, e1.k.trans hK, rfl, ho, hS1.at_of hz, r1, bodyW_mono (callW_mono P j) (fun v S' h' m' x e' hS' r' => h' m' x (e1.trans e') (hS1.of_at e' hS') r') (fun c' S' h' m' C e' hS' hC => h' m' C (e1.trans e') (hS1.of_at e' hS') hC) hj⟩⟩
  match k, hw with
  | 0, hw => exact hw.elim
  | 1, hw =>
    rw [callW_one] at hw
    obtain ⟨d', g1, g2⟩ := hw
    rw [hd] at g1
    cases g1
    exact body (by omega) 0 g2
  | k + 2, hw =>
    rw [callW_two] at hw
    obtain ⟨d', g1, g2⟩ := hw
    rw [hd] at g1
    cases g1
    exact body (by omega) (k + 1) g2

/-- what is between an instance's making and its end -/
theorem run_mk {C f : Addr} {sp : L2.Sp} {fd : FuncData} {ps : List Str} {dvs : List V} {ds : List Value} {kk : Nat} {pins : List (Addr × Obj)} {σ : L2.St} {H : Hp} {s : Shared} {Q : VK} {us : List Value} {vs : List V} (M : Mk X.K C f) (F : FnOk X.prog X.w X.K X.mg X.base (L2N.CX X.prog X.w) kk f fd ps sp) (hr : ∀ vs H Q E, sp vs H Q E → Room (kk + 1) X.A)
    (hb : Binds X.K fd ps ds) (hd : Vals dvs ds) (fr : InFr X) (tk : TkF X W) (I : Inv X pins σ H s) (r : Vals vs us)
    (h : ∀ x dx, H x = none → H dx = none → dx ≠ x → KF X.K (upd (upd H dx (.own x)) x (.ins C dx [])) → sp (.ref x :: (vs ++ dvs)) (upd (upd H dx (.own x)) x (.ins C dx [])) (fun v H2 => v = .non ∧ Q (.ref x) H2) (WE W σ)) :
    wpAny (model X.prog X.w) X.A (call (.ref C) us) (EP X pins σ Q) X.xe s := by
  have I2 := Inv.made (C := C) I
  have hq := h (s.heap.objs.size + 1) s.heap.objs.size (I.hok.fresh (Nat.le_succ _)) (I.hok.fresh (Nat.le_refl _)) (Nat.ne_of_lt (Nat.lt_succ_self _)) (kfree I2)
  have r2 : Vals (V.ref (s.heap.objs.size + 1) :: (vs ++ dvs)) (Value.ref (s.heap.objs.size + 1) :: (us ++ ds)) := .cons rfl (r.append hd)
  have hl : (Value.ref (s.heap.objs.size + 1) :: us ++ ds).length = ps.length := r2.length.symm.trans (F.len _ _ _ _ hq)
  have body := F.run _ X.stack _ _ ⟨Value.ref (s.heap.objs.size + 1) :: us, []⟩ (Value.ref (s.heap.objs.size + 1) :: (us ++ ds)) _ _ (WE W σ) ((hr _ _ _ _ hq).make C us []) (I2.env0.make C us []) (hb _ (Value.ref (s.heap.objs.size + 1) :: us) I2.kIn hl) r2 hq
  refine wpAny_call (make_map (f := f) I.kIn M.makes M.init (beq_iff_eq.mp M.fn) (codeAny_mono body fun r s' h1 => ?_))
  match r, h1 with
  | .error e, h1 => exact passF fr tk σ pins _ _ e s' I2 h1
  | .ok (.ret u), h1 =>
    obtain ⟨v, H', I3, rv, ev, q3⟩ := I2.after h1
    subst ev
    exact ⟨rv, V.ref (s.heap.objs.size + 1), H', I3, rfl, q3⟩
def tMk (K : PySem.W.Frag) (C : Addr) (sp : L2.Sp) (dvs : List V) (W : WX) (t : TA) : TE := fun σ H Q => t σ H fun vs H1 => ∀ x dx, H1 x = none → H1 dx = none → dx ≠ x → KF K (upd (upd H1 dx (.own x)) x (.ins C dx [])) →
  sp (.ref x :: (vs ++ dvs)) (upd (upd H1 dx (.own x)) x (.ins C dx [])) (fun v H2 => v = .non ∧ Q (.ref x) H2) (WE W σ)
theorem pe_mk {C f : Addr} {sp : L2.Sp} {fd : FuncData} {ps : List Str} {dvs : List V} {ds : List Value} {kk : Nat} {x : Str} {p : Pos} {t : TA} (M : Mk X.K C f) (F : FnOk X.prog X.w X.K X.mg X.base (L2N.CX X.prog X.w) kk f fd ps sp) (hr : ∀ vs H Q E, sp vs H Q E → Room (kk + 1) X.A) (hg : Gl X x) (hm : X.mg x = some (.ref C))
    (hb : Binds X.K fd ps ds) (hd : Vals dvs ds) (fr : InFr X) (tk : TkF X W) (ha : PA X xs t) (hs : xs.all notStar = true) (hdb : (x == ("__debug__" : Str)) = false) (h0 : xs = [] → ∀ σ H Q, t σ H Q → Q [] H) :
    PE X (.Call (.Name x p) xs [] pos) (tMk X.K C sp dvs W t) := by
  refine ⟨fun pins s σ H Q I h => ?_⟩
  refine wpAny_Call_Name_kw (ld_glob I hg hm ?_ hdb)
  cases xs with
  | nil => exact PySem.W.callWith_K0 I.kIn M.kp (run_mk (us := []) M F hr hb hd fr tk I .nil (h0 rfl _ _ _ h))
  | cons e es =>
    rw [List.all_cons, Bool.and_eq_true] at hs
    exact PySem.W.callWith_K (h₀ := X.base) I.ok.mod.kin M.kp (thn (ha.run pos pins s σ H _ I h) fun us s1 ⟨vs, H1, I1, r, q⟩ => ⟨I1.kIn, run_mk M F hr hb hd fr tk I1 r q⟩) (star_cons hs.1) (star_any hs.2)
theorem kf_under {K : PySem.W.Frag} {H : Hp} {x dx : Addr} {o o' : HO} (h : KF K (upd (upd H dx o) x o')) : KF K (upd H dx o) := fun b u e => by
  have := h b u e
  by_cases z : b = x
  · subst z; rw [upd_same] at this; cases this
  · rwa [upd_ne z] at this
theorem e_make {c : String} {C : Addr} {d : FDef} {p : Pos} (xo : XO P cl X k sc W) (hc : (!sc.hot) = true) (hg : Gl X (Str.ofString c)) (hdb : (Str.ofString c == ("__debug__" : Str)) = false) (hd : P.fn (.m c "__init__") = some d) (hC : cl c C) (hn : es'.len + 1 ≤ d.params) (hs : xs.all notStar = true) (h0 : xs = [] → es' = .nil) (ha : PA X xs (tEs P cl k X W es')) :
    PE X (.Call (.Name (Str.ofString c) p) xs [] pos) (tE P cl k X W (.make c es')) := by
  obtain ⟨g, fd, ps, at', F⟩ := xo.fnI hc hd rfl
  obtain ⟨ds, vd, hb⟩ := at'.bd (d.cut (es'.len + 1)) (by unfold FDef.cut; omega)
  obtain ⟨hm, cls⟩ := xo.ln.clc c C hC
  have M : Mk X.K C g := (at'.nm C hC).2 rfl
  have hr : ∀ vs H Q E, spI P cl X.K X.mg k d vs H Q E → Room (k - 1 + 1) X.A := fun vs H Q E h => by
    match k, h, xo.room hc with
    | 0, h, _ => exact h.elim
    | k + 1, _, r => exact r
  refine PE.imp (pe_mk M F hr hg hm hb vd xo.fr xo.tk ha hs hdb fun hx σ H Q ⟨m, env, S, hK, eH, hS, hV, h⟩ => ?_) fun σ H Q ⟨m, env, S, hK, eH, hS, hV, h⟩ => ?_
  · subst eH
    rw [h0 hx] at h
    simp only [wEs] at h
    exact h m [] (Ev.refl m) hS .nil
  · subst eH
    simp only [wE] at h
    refine tEs_of hK hS hV (Ev.refl m) (wEs_len (callW_mono P k) es' h) fun m1 x S1 v e1 hS1 r1 hV1 h1 => ?_
    intro y dy hy hdy hne kf
    rw [← hK, ← e1.k] at kf
    have e2 : Ev m1 { m1 with H := upd m1.H dy (.own y) } := Ev.outside hdy
    have hS2 := hS1.outside hdy (kf_under kf)
    have hy2 : upd m1.H dy (.own y) y = none := by rw [upd_ne (Ne.symm hne)]; exact hy
    have e3 : Ev { m1 with H := upd m1.H dy (.own y) } { m1 with H := upd (upd m1.H dy (.own y)) y (.ins C dy []), em := m1.em ++ [y] } := Ev.alloc (m := { m1 with H := upd m1.H dy (.own y) }) hy2
    have hS3 : SH cl { m1 with H := upd (upd m1.H dy (.own y)) y (.ins C dy []), em := m1.em ++ [y] } (S1 ++ [.ins c []]) := hS2.alloc hy2 kf ⟨C, dy, [], upd_same, hC, .nil⟩
    have e13 := (e1.trans e2).trans e3
    have r3 : RDs { m1 with H := upd (upd m1.H dy (.own y)) y (.ins C dy []), em := m1.em ++ [y] } (.ref S1.length :: v) (.ref y :: x) := .cons (.ref (by show (m1.em ++ [y])[S1.length]? = some y; rw [← hS1.len]; simp)) (r1.up ((e2.trans e3).up hS1))
    refine callW_init (f := .m c "__init__") (k := k) rfl hd e13 (e13.k.trans hK) rfl hS3 (padded_rd (n := es'.len + 1) (by rw [List.length_cons, h1.1]) r3) (fun v' S' hv => ?_) h1.2
    obtain ⟨rfl, hv⟩ := hv
    intro m' x' e' hS' r'
    cases r'
    refine ⟨rfl, hv m' (.ref y) (e13.trans e') hS' (.ref (em_get e'.em ?_))⟩
    show (m1.em ++ [y])[S1.length]? = some y
    rw [← hS1.len]
    simp
/-- o.m(..) -/
theorem e_meth {c mt : String} {d : FDef} {apos : Pos} (xo : XO P cl X k sc W) (hc : (!sc.hot) = true) (hd : P.fn (.m c mt) = some d) (hni : (mt == "__init__") = false) (hn : es'.len + 1 ≤ d.params) (hb : plainBase eo = true) (hl : (apos.endLine == pos.line) = true) (hlen : xs.length < 29) (hs : xs.all notStar = true) (h0 : xs = [] → es' = .nil) (ho : PE X eo (tE P cl k X W o)) (ha : PA X xs (tEs P cl k X W es')) :
    PE X (.Call (.Attribute eo (Str.ofString mt) apos) xs [] pos) (tE P cl k X W (.meth c mt o es')) := by
  obtain ⟨g, fd, ps, at', F⟩ := xo.fnK hc hd rfl
  obtain ⟨ds, vd, hbd⟩ := at'.bd (d.cut (es'.len + 1)) (by unfold FDef.cut; omega)
  refine ⟨fun pins s σ H Q I ⟨m, env, S, hK, eH, hS, hV, h⟩ => ?_⟩
  subst eH
  simp only [wE] at h
  refine methcall_of ho I (tE_of hK hS hV (Ev.refl m) h fun m1 x S1 v e1 hS1 r1 hV1 h1 => ?_) (meth_eval hb hs hlen hl)
  obtain ⟨n, fs, rfl, h2, h3, h4⟩ := h1
  obtain ⟨y, hy, C, dx, gs, hy2, hC, rf⟩ := hS1.at h2
  cases r1 with
  | @ref _ y' hy' =>
  rw [hy] at hy'
  cases hy'
  obtain ⟨hm, cls⟩ := xo.ln.clc c C hC
  have mt' : Meth X.K C (Str.ofString mt) g := (at'.nm C hC).1
  have lk : gs.lookup (Str.ofString mt) = none := by
    rcases rf.look mt with ⟨v, x, q, _⟩ | ⟨_, q⟩
    · rw [h3] at q; cases q
    · exact q
  refine ⟨y, C, dx, gs, g, rfl, hy2, cls, mt', lk, fun s1 I1 => ?_⟩
  have fin : ∀ {m2 : Sm} {S2 : Hm} {vs : List Val} {xs : List V}, Ev m1 m2 → SH cl m2 S2 → RDs m2 vs xs → vs.length = es'.len → callW P k (.m c mt) (.ref n :: vs) S2 (liftQ cl m Q) (liftX cl X.mg m fun c d H => W c d σ H) →
      spK P cl X.K X.mg k d ((.ref y :: xs) ++ (d.dflt.drop (d.cut (es'.len + 1))).map litV) m2.H Q (WE W σ) := fun {m2 S2 vs xs} e2 hS2 r2 hl h5 =>
        callW_body (k := k) (f := .m c mt) hni hd (e1.trans e2) ((e1.trans e2).k.trans hK) rfl hS2 (padded_rd (n := es'.len + 1) (by rw [List.length_cons, hl]) (.cons (.ref (em_get e2.em hy)) r2)) h5
  cases xs with
  | nil =>
    have h4 := wEs_len (callW_mono P k) es' h4
    rw [h0 rfl] at h4 fin
    simp only [wEs] at h4
    exact PySem.W.callWith_K0 (first := [.ref y]) I1.kIn mt'.kp (run_fnSD (us := [.ref y]) (vs := [.ref y]) (E := WE W) F (xo.room hc) hbd (by rw [h0 rfl] at vd; exact vd) (passF xo.fr xo.tk σ) I1 (.cons rfl .nil) (fin (Ev.refl m1) hS1 .nil h4.1 h4.2))
  | cons e es =>
    rw [List.all_cons, Bool.and_eq_true] at hs
    refine PySem.W.callWith_K (first := [.ref y]) (h₀ := X.base) I1.ok.mod.kin mt'.kp (thn (ha.run pos pins s1 σ m1.H (fun xs H => spK P cl X.K X.mg k d ((.ref y :: xs) ++ (d.dflt.drop (d.cut (es'.len + 1))).map litV) H Q (WE W σ)) I1 ?_) fun us s2 ⟨vs, H2, I2, r, q⟩ => ⟨I2.kIn, ?_⟩) (star_cons hs.1) (star_any hs.2)
    · exact tEs_of (e1.k.trans hK) hS1 hV1 e1 (wEs_len (callW_mono P k) es' h4) fun m2 x2 S2 v2 e2 hS2 r2 hV2 h5 => fin e2 hS2 r2 h5.1 h5.2
    · exact run_fnSD (us := .ref y :: us) (vs := .ref y :: vs) (E := WE W) F (xo.room hc) hbd vd (passF xo.fr xo.tk σ) I2 (.cons rfl r) q
end
end Mi

set_option maxHeartbeats 4000000
namespace Mi
open PySem PySem.Spec L2 PyProof.Rows
/-! ### built-in functions: names -/
def biN : Bi → String
  | .len => "len"
  | .abs => "abs"
  | .min => "min"
  | .max => "max"
  | .int => "int"
  | .str => "str"
  | .list => "list"
  | .tuple => "tuple"
  | .dict => "dict"
  | .sum => "sum"
  | .sorted => "sorted"
  | .all => "all"
  | .any => "any"
  | .range => "range"
  | .listD => "list"
  | .sortedS => "sorted"
theorem bi_boot (f : Bi) : bootBuiltins (Str.ofString (biN f)) = some (biV f) := by cases f <;> decide +kernel
theorem bi_mem (f : Bi) : biN f ∈ ["len", "abs", "min", "max", "int", "str", "list", "tuple", "dict", "sum", "sorted", "all", "any", "range", "enumerate", "zip", "reversed", "isinstance", "bool"] := by cases f <;> decide
theorem bi_name (f : Bi) : Str.ofString (biN f) ≠ ("__name__" : Str) := by cases f <;> decide +kernel
theorem bi_debug (f : Bi) : (Str.ofString (biN f) == ("__debug__" : Str)) = false := by cases f <;> decide +kernel
theorem bm_pa (b : Bm) : PlainAttrs (bmI b).1 := by cases b <;> first | exact PySem.F.plainAttrs_list | exact PySem.F.plainAttrs_dict | exact PySem.F.plainAttrs_str
theorem bm_slot (b : Bm) : Slot (bmI b).1 (Str.ofString (bmI b).2.1) (bmI b).2.2 := by
  cases b
  · exact PySem.F.slot_list_append
  · exact PySem.F.slot_list_extend
  · exact PySem.F.slot_list_pop
  · exact PySem.F.slot_list_insert
  · exact PySem.F.slot_list_reverse
  · exact PySem.F.slot_list_count
  · exact PySem.F.slot_list_index
  · exact PySem.F.slot_list_clear
  · exact PySem.F.slot_dict_clear
  · exact PySem.F.slot_dict_get
  · exact PySem.F.slot_dict_setdefault
  · exact PySem.F.slot_dict_update
  · exact PySem.F.slot_str_startswith
  · exact PySem.F.slot_str_split
  · exact PySem.F.slot_str_join
  · exact PySem.F.slot_str_isupper
  · exact PySem.F.slot_str_upper
  · exact PySem.F.slot_str_replace
  · exact PySem.F.slot_dict_pop
theorem bm_type (b : Bm) : typeOf (.builtin (bmI b).2.2) = pure (.type "method_descriptor") := by
  cases b
  · exact PySem.F.type_list_append
  · exact PySem.F.type_list_extend
  · exact PySem.F.type_list_pop
  · exact PySem.F.type_list_insert
  · exact PySem.F.type_list_reverse
  · exact PySem.F.type_list_count
  · exact PySem.F.type_list_index
  · exact PySem.F.type_list_clear
  · exact PySem.F.type_dict_clear
  · exact PySem.F.type_dict_get
  · exact PySem.F.type_dict_setdefault
  · exact PySem.F.type_dict_update
  · exact PySem.F.type_str_startswith
  · exact PySem.F.type_str_split
  · exact PySem.F.type_str_join
  · exact PySem.F.type_str_isupper
  · exact PySem.F.type_str_upper
  · exact PySem.F.type_str_replace
  · exact PySem.F.type_dict_pop
section
variable {P : Pg} {cl : Cl} {k : Nat} {X : Cx} {W : WX} {sc : Ko}
variable {a b c o i : E} {ea eb ec eo ei : Expr} {pos : Pos} {es' : Es} {xs : List Expr}
theorem e_fld {f : String} (xo : XO P cl X k sc W) (hf : f ∈ P.flds) (hb : plainBase eo = true) (ho : PE X eo (tE P cl k X W o)) : PE X (.Attribute eo (Str.ofString f) pos) (tE P cl k X W (.fld o f)) :=
  PE.imp (PE.kf (pe_fld ho (base_of hb))) fun σ H Q ⟨m, env, S, hK, eH, hS, hV, h⟩ => by
    subst eH
    simp only [wE] at h
    refine tE_of hK hS hV (Ev.refl m) h fun m1 x S1 v e1 hS1 r1 hV1 h1 => ?_
    obtain ⟨n, c, fs, w, rfl, h2, h3, h4⟩ := h1
    cases r1 with
    | @ref _ y hy =>
    obtain ⟨C, dx, gs, hy2, hC, rf⟩ := hS1.ob n _ y h2 hy
    rcases rf.look f with ⟨v, x, q1, q2, q3⟩ | ⟨q, _⟩
    · rw [h3] at q1
      cases q1
      exact ⟨y, C, dx, gs, x, rfl, hy2, (xo.ln.clc c C hC).2, xo.ln.fld c C hC f hf, q2, fun _ => h4 m1 x e1 hS1 q3⟩
    · rw [h3] at q; cases q
theorem e_sub (hu : X.A.units + 1 < cLine) (hi : plainIx ei = true) (ho : PE X eo (tE P cl k X W o)) (hx : PE X ei (tE P cl k X W i)) : PE X (.Subscript eo ei pos) (tE P cl k X W (.sub o i)) :=
  PE.imp (pe_ix (ix_ok (cl := cl) hu) ho hx (plainIx_of hi)) fun σ H Q ⟨m, env, S, hK, eH, hS, hV, h⟩ => by
    subst eH
    simp only [wE] at h
    refine tE_of hK hS hV (Ev.refl m) h fun m1 x S1 v e1 hS1 r1 hV1 h1 => ?_
    refine tE_of (e1.k.trans hK) hS1 hV1 e1 h1 fun m2 y S2 w e2 hS2 r2 hV2 h2 => ?_
    exact ⟨m2, S2, v, w, (e1.trans e2).k.trans hK, rfl, hS2, r1.up (e2.up hS1), r2, subW_mono (fun z S3 h3 => liftQ.ev (e1.trans e2) (fun _ _ _ q => q) h3) h2⟩
theorem o_none : PO X none (tOs P cl k X W .none) :=
  PO.imp po_none fun σ H Q ⟨m, env, S, hK, eH, hS, hV, h⟩ => by
    subst eH
    simp only [wO] at h
    exact h m (Ev.refl m) hS
theorem o_some (ha : PE X ea (tE P cl k X W a)) : PO X (some ea) (tOs P cl k X W (.some a)) :=
  PO.imp (po_some ha) fun σ H Q ⟨m, env, S, hK, eH, hS, hV, h⟩ => by
    subst eH
    simp only [wO] at h
    refine tE_of hK hS hV (Ev.refl m) h fun m1 x S1 v e1 hS1 r1 hV1 h1 => ?_
    obtain ⟨j, rfl, h1⟩ := h1
    cases r1
    exact ⟨j, rfl, h1 m1 e1 hS1⟩
theorem e_slice {lo hi : Oe} {el eh : Option Expr} {p2 : Pos} (ho : PE X eo (tE P cl k X W o)) (hl : PO X el (tOs P cl k X W lo)) (hh : PO X eh (tOs P cl k X W hi)) : PE X (.Subscript eo (.Slice el eh none p2) pos) (tE P cl k X W (.slice o lo hi)) :=
  PE.imp (pe_slice (sl_ok (cl := cl)) ho hl hh) fun σ H Q ⟨m, env, S, hK, eH, hS, hV, h⟩ => by
    subst eH
    simp only [wE] at h
    refine tE_of hK hS hV (Ev.refl m) h fun m1 x S1 v e1 hS1 r1 hV1 h1 => ?_
    refine tOs_of (e1.k.trans hK) hS1 hV1 e1 h1 fun m2 S2 l e2 hS2 hV2 h2 => ?_
    refine tOs_of ((e1.trans e2).k.trans hK) hS2 hV2 (e1.trans e2) h2 fun m3 S3 u e3 hS3 hV3 h3 => ?_
    exact ⟨m3, S3, v, ((e1.trans e2).trans e3).k.trans hK, rfl, hS3, r1.up ((e2.trans e3).up hS1), sliceW_mono (fun z S4 h4 => liftQ.ev ((e1.trans e2).trans e3) (fun _ _ _ q => q) h4) h3⟩
theorem e_bi {f : Bi} {p : Pos} {e : Expr} {es : List Expr} (xo : XO P cl X k sc W) (hc : (!sc.hot) = true) (hg : Gl X (Str.ofString (biN f))) (hs : (e :: es).all notStar = true) (ha : PA X (e :: es) (tEs P cl k X W es')) :
    PE X (.Call (.Name (Str.ofString (biN f)) p) (e :: es) [] pos) (tE P cl k X W (.bi f es')) := by
  have hm := xo.ln.bi (biN f) (bi_mem f)
  rw [List.all_cons, Bool.and_eq_true] at hs
  have ok := bi_ok (cl := cl) (xo.calm hc) f
  have hv := bi_boot f
  have rd : PE X (.Call (.Name (Str.ofString (biN f)) p) (e :: es) [] pos) (tCB (rA X cl (biW f)) (tEs P cl k X W es')) := by
    cases f <;> first
      | exact pe_callB ok hg hm hv ha (bi_name _) (bi_debug _) (star_cons hs.1) (star_any hs.2)
      | exact pe_callTy ok hg hm hv ha (bi_name _) (bi_debug _) (star_cons hs.1) (star_any hs.2)
  refine PE.imp rd fun σ H Q ⟨m, env, S, hK, eH, hS, hV, h⟩ => ?_
  subst eH
  simp only [wE] at h
  refine tEs_of hK hS hV (Ev.refl m) h fun m1 x S1 v e1 hS1 r1 hV1 h1 => ?_
  exact ⟨m1, S1, v, e1.k.trans hK, rfl, hS1, r1, biW_mono (fun z S3 h3 => liftQ.ev e1 (fun _ _ _ q => q) h3) h1⟩
theorem bmT_rd {b : Bm} {m : Sm} {S : Hm} {v : Val} {x : V} (hS : SH cl m S) (r : RD m v x) (h : bmT b v S) : tyV m.K (bmI b).1 x m.H := by
  cases b <;> simp only [bmT, bmI] at h ⊢
  all_goals first
    | (obtain ⟨n, xs, rfl, h⟩ := h
       cases r with
       | @ref _ y hy =>
       first
         | (obtain ⟨vs, hq, _⟩ := hS.lst h hy
            exact .inl ⟨rfl, vs, hq⟩)
         | (obtain ⟨vs, hq, _⟩ := hS.dic' h hy
            exact .inr (.inr (.inl ⟨rfl, .inl ⟨vs, hq⟩⟩))))
    | (obtain ⟨z, rfl⟩ := h
       cases r
       rfl)
theorem e_bm0 {bm : Bm} {apos : Pos} (hu : bm = .update → X.calm = true) (xo : XO P cl X k sc W) (hb : plainBase eo = true) (hl : (apos.endLine == pos.line) = true) (ho : PE X eo (tE P cl k X W o)) :
    PE X (.Call (.Attribute eo (Str.ofString (bmI bm).2.1) apos) [] [] pos) (tE P cl k X W (.bm bm o .nil)) :=
  PE.imp (pe_bm0 (bm_pa bm) (bm_slot bm) (bm_type bm) (mt_ok (cl := cl) (by have := xo.un; omega) bm hu) ho (base_of hb) hl) fun σ H Q ⟨m, env, S, hK, eH, hS, hV, h⟩ => by
    subst eH
    simp only [wE, wEs] at h
    refine tE_of hK hS hV (Ev.refl m) h fun m1 x S1 v e1 hS1 r1 hV1 h1 => ?_
    refine ⟨by rw [← hK, ← e1.k]; exact bmT_rd hS1 r1 h1.1, m1, S1, v, [], e1.k.trans hK, rfl, hS1, r1, .nil, bmW_mono (fun z S3 h3 => liftQ.ev e1 (fun _ _ _ q => q) h3) h1.2⟩
theorem e_bm {bm : Bm} {apos : Pos} {e : Expr} {es : List Expr} (hu : bm = .update → X.calm = true) (xo : XO P cl X k sc W) (hb : plainBase eo = true) (hl : (apos.endLine == pos.line) = true) (hs : (e :: es).all notStar = true) (hlen : (e :: es).length < 29) (ho : PE X eo (tE P cl k X W o)) (ha : PA X (e :: es) (tEs P cl k X W es')) :
    PE X (.Call (.Attribute eo (Str.ofString (bmI bm).2.1) apos) (e :: es) [] pos) (tE P cl k X W (.bm bm o es')) := by
  have hs' := hs
  rw [List.all_cons, Bool.and_eq_true] at hs
  refine PE.imp (pe_bm (bm_pa bm) (bm_slot bm) (bm_type bm) (mt_ok (cl := cl) (by have := xo.un; omega) bm hu) ho ha (base_of hb) ?_ hl (star_cons hs.1) (star_any hs.2)) fun σ H Q ⟨m, env, S, hK, eH, hS, hV, h⟩ => ?_
  · rw [star_all hs']
    show (true && true && decide ((e :: es).length + 0 + 0 < 30)) = true
    simp
    simp at hlen
    omega
  · subst eH
    simp only [wE] at h
    refine tE_of hK hS hV (Ev.refl m) h fun m1 x S1 v e1 hS1 r1 hV1 h1 => ?_
    refine ⟨by rw [← hK, ← e1.k]; exact bmT_rd hS1 r1 h1.1, ?_⟩
    refine tEs_of (e1.k.trans hK) hS1 hV1 e1 h1.2 fun m2 y S2 w e2 hS2 r2 hV2 h2 => ?_
    exact ⟨m2, S2, v, w, (e1.trans e2).k.trans hK, rfl, hS2, r1.up (e2.up hS1), r2, bmW_mono (fun z S3 h3 => liftQ.ev (e1.trans e2) (fun _ _ _ q => q) h3) h2⟩
end
end Mi

set_option maxHeartbeats 4000000
namespace Mi
open PySem PySem.Spec L2 PyProof.Rows
/-! ### isinstance -/
def tyS : Ty → String
  | .int => "int"
  | .bool => "bool"
  | .str => "str"
  | .tuple => "tuple"
  | .list => "list"
  | .dict => "dict"
  | .cls c => c
  | .exc c _ => c
def TyU (cl : Cl) : Ty → Value → Prop
  | .cls c, u => ∃ C, cl c C ∧ u = .ref C
  | .exc _ _, _ => True
  | t, u => u = .type (tyS t)
section
variable {P : Pg} {cl : Cl} {k : Nat} {X : Cx} {W : WX} {sc : Ko} {m : Sm} {S : Hm}
theorem tag_B {K : PySem.W.Frag} (ln : LnI K cl) {v : Val} {tag : String} (ht : tag ∈ ["NoneType", "int", "bool", "str", "tuple", "list", "dict"]) (hx : ∀ c sb, isTy v S (.exc c sb) = none) (hc : ∀ c b, isTy v S (.cls c) = some b → b = false)
    (h1 : ∀ b, isTy v S .int = some b → kitB tag "int" = some b) (h2 : ∀ b, isTy v S .bool = some b → kitB tag "bool" = some b) (h3 : ∀ b, isTy v S .str = some b → kitB tag "str" = some b)
    (h4 : ∀ b, isTy v S .tuple = some b → kitB tag "tuple" = some b) (h5 : ∀ b, isTy v S .list = some b → kitB tag "list" = some b) (h6 : ∀ b, isTy v S .dict = some b → kitB tag "dict" = some b) :
    ∀ t b u, isTy v S t = some b → TyU cl t u → PySem.W.kitOne K (.type tag) u = some b := by
  intro t b u h hu
  cases t with
  | cls c =>
    obtain ⟨C, hC, rfl⟩ := hu
    rw [hc c b h]
    exact ln.isC c C hC tag ht
  | exc c sb => rw [hx] at h; cases h
  | int => cases hu; exact kit_ty (h1 b h)
  | bool => cases hu; exact kit_ty (h2 b h)
  | str => cases hu; exact kit_ty (h3 b h)
  | tuple => cases hu; exact kit_ty (h4 b h)
  | list => cases hu; exact kit_ty (h5 b h)
  | dict => cases hu; exact kit_ty (h6 b h)
theorem kbs : kitB "NoneType" "int" = some false ∧ kitB "NoneType" "bool" = some false ∧ kitB "NoneType" "str" = some false ∧ kitB "NoneType" "tuple" = some false ∧ kitB "NoneType" "list" = some false ∧ kitB "NoneType" "dict" = some false := by decide +kernel
theorem kbb : kitB "bool" "int" = some true ∧ kitB "bool" "bool" = some true ∧ kitB "bool" "str" = some false ∧ kitB "bool" "tuple" = some false ∧ kitB "bool" "list" = some false ∧ kitB "bool" "dict" = some false := by decide +kernel
theorem kbi : kitB "int" "int" = some true ∧ kitB "int" "bool" = some false ∧ kitB "int" "str" = some false ∧ kitB "int" "tuple" = some false ∧ kitB "int" "list" = some false ∧ kitB "int" "dict" = some false := by decide +kernel
theorem kbt : kitB "str" "int" = some false ∧ kitB "str" "bool" = some false ∧ kitB "str" "str" = some true ∧ kitB "str" "tuple" = some false ∧ kitB "str" "list" = some false ∧ kitB "str" "dict" = some false := by decide +kernel
theorem kbu : kitB "tuple" "int" = some false ∧ kitB "tuple" "bool" = some false ∧ kitB "tuple" "str" = some false ∧ kitB "tuple" "tuple" = some true ∧ kitB "tuple" "list" = some false ∧ kitB "tuple" "dict" = some false := by decide +kernel
theorem kbl : kitB "list" "int" = some false ∧ kitB "list" "bool" = some false ∧ kitB "list" "str" = some false ∧ kitB "list" "tuple" = some false ∧ kitB "list" "list" = some true ∧ kitB "list" "dict" = some false := by decide +kernel
theorem kbd : kitB "dict" "int" = some false ∧ kitB "dict" "bool" = some false ∧ kitB "dict" "str" = some false ∧ kitB "dict" "tuple" = some false ∧ kitB "dict" "list" = some false ∧ kitB "dict" "dict" = some true := by decide +kernel
theorem tag_rd (ln : LnI m.K cl) (lc : ∀ c C, cl c C → Cls m.K C) (hS : SH cl m S) {v : Val} {x : V} (r : RD m v x) (hv : ∀ c, v ≠ .exc c) {t : Ty} {b : Bool} (h : isTy v S t = some b) : ∃ tg, TyX m.K m.H x tg ∧ ∀ t b u, isTy v S t = some b → TyU cl t u → PySem.W.kitOne m.K tg u = some b := by
  cases r with
  | non => exact ⟨_, .base .non, tag_B ln (by decide) (fun _ _ => rfl) (fun c b h => by simp [isTy] at h; exact h) (fun b h => by simp [isTy] at h; subst h; exact kbs.1) (fun b h => by simp [isTy] at h; subst h; exact kbs.2.1) (fun b h => by simp [isTy] at h; subst h; exact kbs.2.2.1) (fun b h => by simp [isTy] at h; subst h; exact kbs.2.2.2.1) (fun b h => by simp [isTy] at h; subst h; exact kbs.2.2.2.2.1) (fun b h => by simp [isTy] at h; subst h; exact kbs.2.2.2.2.2)⟩
  | bl z => exact ⟨_, .base (.bl z), tag_B ln (by decide) (fun _ _ => rfl) (fun c b h => by simp [isTy] at h; exact h) (fun b h => by simp [isTy] at h; subst h; exact kbb.1) (fun b h => by simp [isTy] at h; subst h; exact kbb.2.1) (fun b h => by simp [isTy] at h; subst h; exact kbb.2.2.1) (fun b h => by simp [isTy] at h; subst h; exact kbb.2.2.2.1) (fun b h => by simp [isTy] at h; subst h; exact kbb.2.2.2.2.1) (fun b h => by simp [isTy] at h; subst h; exact kbb.2.2.2.2.2)⟩
  | int z => exact ⟨_, .base (.int z), tag_B ln (by decide) (fun _ _ => rfl) (fun c b h => by simp [isTy] at h; exact h) (fun b h => by simp [isTy] at h; subst h; exact kbi.1) (fun b h => by simp [isTy] at h; subst h; exact kbi.2.1) (fun b h => by simp [isTy] at h; subst h; exact kbi.2.2.1) (fun b h => by simp [isTy] at h; subst h; exact kbi.2.2.2.1) (fun b h => by simp [isTy] at h; subst h; exact kbi.2.2.2.2.1) (fun b h => by simp [isTy] at h; subst h; exact kbi.2.2.2.2.2)⟩
  | str z => exact ⟨_, .base (.str _), tag_B ln (by decide) (fun _ _ => rfl) (fun c b h => by simp [isTy] at h; exact h) (fun b h => by simp [isTy] at h; subst h; exact kbt.1) (fun b h => by simp [isTy] at h; subst h; exact kbt.2.1) (fun b h => by simp [isTy] at h; subst h; exact kbt.2.2.1) (fun b h => by simp [isTy] at h; subst h; exact kbt.2.2.2.1) (fun b h => by simp [isTy] at h; subst h; exact kbt.2.2.2.2.1) (fun b h => by simp [isTy] at h; subst h; exact kbt.2.2.2.2.2)⟩
  | @tup a xs ds hq rs =>
    have fin : ∀ t b u, isTy (.tup ds) S t = some b → TyU cl t u → PySem.W.kitOne m.K (.type "tuple") u = some b := tag_B ln (by decide) (fun _ _ => rfl) (fun c b h => by simp [isTy] at h; exact h) (fun b h => by simp [isTy] at h; subst h; exact kbu.1) (fun b h => by simp [isTy] at h; subst h; exact kbu.2.1) (fun b h => by simp [isTy] at h; subst h; exact kbu.2.2.1) (fun b h => by simp [isTy] at h; subst h; exact kbu.2.2.2.1) (fun b h => by simp [isTy] at h; subst h; exact kbu.2.2.2.2.1) (fun b h => by simp [isTy] at h; subst h; exact kbu.2.2.2.2.2)
    rcases hq with (hq | ⟨o, hq⟩) | ⟨o, its, n, hk, hc, hd, hz, hv⟩
    · exact ⟨_, .base (.tup hq), fin⟩
    · exact ⟨_, .fTuple hq, fin⟩
    · exact ⟨_, .kTuple hk hc, fin⟩
  | @ref n a ha =>
    have fl : (∀ c b, isTy (.ref n) S (.cls c) = some b → b = false) → (∀ b, isTy (.ref n) S .list = some b → b = true) → (∀ b, isTy (.ref n) S .dict = some b → b = false) → ∀ t b u, isTy (.ref n) S t = some b → TyU cl t u → PySem.W.kitOne m.K (.type "list") u = some b := fun hc h1 h2 =>
      tag_B ln (by decide) (fun _ _ => rfl) hc (fun b h => by simp [isTy] at h; subst h; exact kbl.1) (fun b h => by simp [isTy] at h; subst h; exact kbl.2.1) (fun b h => by simp [isTy] at h; subst h; exact kbl.2.2.1) (fun b h => by simp [isTy] at h; subst h; exact kbl.2.2.2.1) (fun b h => by rw [h1 b h]; exact kbl.2.2.2.2.1) (fun b h => by rw [h2 b h]; exact kbl.2.2.2.2.2)
    have fd : (∀ c b, isTy (.ref n) S (.cls c) = some b → b = false) → (∀ b, isTy (.ref n) S .list = some b → b = false) → (∀ b, isTy (.ref n) S .dict = some b → b = true) → ∀ t b u, isTy (.ref n) S t = some b → TyU cl t u → PySem.W.kitOne m.K (.type "dict") u = some b := fun hc h1 h2 =>
      tag_B ln (by decide) (fun _ _ => rfl) hc (fun b h => by simp [isTy] at h; subst h; exact kbd.1) (fun b h => by simp [isTy] at h; subst h; exact kbd.2.1) (fun b h => by simp [isTy] at h; subst h; exact kbd.2.2.1) (fun b h => by simp [isTy] at h; subst h; exact kbd.2.2.2.1) (fun b h => by rw [h1 b h]; exact kbd.2.2.2.2.1) (fun b h => by rw [h2 b h]; exact kbd.2.2.2.2.2)
    have hn : n < S.length := by rw [← hS.len]; exact (List.getElem?_eq_some_iff.mp ha).1
    have hob := hS.ob n S[n] a (List.getElem?_eq_getElem hn) ha
    have e : S[n]? = some S[n] := List.getElem?_eq_getElem hn
    generalize hoo : S[n] = oo at hob e
    cases oo with
    | lst ds =>
      obtain ⟨vs, hq, _⟩ := hob
      exact ⟨_, .base (.lst hq), fl (fun c b h => by simp [isTy, e] at h; exact h) (fun b h => by simp [isTy, e] at h; exact h) (fun b h => by simp [isTy, e] at h; exact h)⟩
    | dic ds =>
      obtain ⟨vs, hq, _⟩ := hob
      exact ⟨_, .base (.dK hq), fd (fun c b h => by simp [isTy, e] at h; exact h) (fun b h => by simp [isTy, e] at h; exact h) (fun b h => by simp [isTy, e] at h; exact h)⟩
    | ins c fs =>
      obtain ⟨C, dx, gs, hq, hC, _⟩ := hob
      obtain ⟨i1, i2, i3, i4⟩ := ln.isT c C hC
      refine ⟨_, .base (.ins hq (lc c C hC) i1 i2 i3 i4), fun t b u h hu => ?_⟩
      have nb : ∀ s ∈ ["int", "bool", "str", "tuple", "list", "dict"], PySem.W.kitOne m.K (.ref C) (.type s) = some false := ln.isB c C hC
      cases t with
      | cls c' =>
        obtain ⟨C', hC', rfl⟩ := hu
        simp [isTy, e] at h
        rw [← h]
        exact ln.isCC c C c' C' hC hC'
      | int => cases hu; simp [isTy, e] at h; subst h; exact nb _ (by decide)
      | bool => cases hu; simp [isTy, e] at h; subst h; exact nb _ (by decide)
      | str => cases hu; simp [isTy, e] at h; subst h; exact nb _ (by decide)
      | tuple => cases hu; simp [isTy, e] at h; subst h; exact nb _ (by decide)
      | list => cases hu; simp [isTy, e] at h; subst h; exact nb _ (by decide)
      | dict => cases hu; simp [isTy, e] at h; subst h; exact nb _ (by decide)
      | exc c' sb => simp [isTy] at h
    | lck o =>
      cases o with
      | lst ds =>
        have fin : ∀ t b u, isTy (.ref n) S t = some b → TyU cl t u → PySem.W.kitOne m.K (.type "list") u = some b := fl (fun c b h => by simp [isTy, e] at h) (fun b h => by simp [isTy, e] at h; exact h) (fun b h => by simp [isTy, e] at h; exact h)
        rcases hob with ⟨o, vs, hq, _⟩ | ⟨o, its, n', vs, hk, hc, _⟩
        · exact ⟨_, .base (.frz hq), fin⟩
        · exact ⟨_, .kList hk hc, fin⟩
      | dic ds =>
        obtain ⟨o, vs, hq, _⟩ := hob
        exact ⟨_, .fDict hq, fd (fun c b h => by simp [isTy, e] at h) (fun b h => by simp [isTy, e] at h; exact h) (fun b h => by simp [isTy, e] at h; exact h)⟩
      | _ => exact hob.elim
  | exc hz => exact absurd rfl (hv _)
/-- a type's name, as an expression -/
structure TyN (P : Pg) (X : Cx) (cl : Cl) (t : Ty) (e : Expr) (c : V) (u : Value) : Prop where
  pe : PE X e (tC c)
  un : TyU cl t u
  cv : ClsV c u
  ux : ∀ n sb, t = .exc n sb → ∀ d ∈ P.excs, ∀ D, X.mg (Str.ofString d) = some (.ref D) → PySem.W.kitOne X.K (.ref D) u = some (decide (d ∈ sb))
theorem tyN_B {t : Ty} {s : String} {p : Pos} (xo : XO P cl X k sc W) (hs : s ∈ ["len", "abs", "min", "max", "int", "str", "list", "tuple", "dict", "sum", "sorted", "all", "any", "range", "enumerate", "zip", "reversed", "isinstance", "bool"]) (hg : Gl X (Str.ofString s)) (hb : bootBuiltins (Str.ofString s) = some (.type s)) (hn : Str.ofString s ≠ ("__name__" : Str)) (hd : (Str.ofString s == ("__debug__" : Str)) = false) (hu : TyU cl t (.type s)) (hx : ∀ n sb, t ≠ .exc n sb) :
    TyN P X cl t (.Name (Str.ofString s) p) (.ty s) (.type s) := ⟨pe_bltn hg (xo.ln.bi s hs) hb rfl hn hd, hu, .ty s, fun n sb e => absurd e (hx n sb)⟩
theorem ty_boot (t : Ty) (h : ∀ c, t ≠ .cls c) (h' : ∀ c sb, t ≠ .exc c sb) : bootBuiltins (Str.ofString (tyS t)) = some (.type (tyS t)) ∧ Str.ofString (tyS t) ≠ ("__name__" : Str) ∧ (Str.ofString (tyS t) == ("__debug__" : Str)) = false ∧ tyS t ∈ ["len", "abs", "min", "max", "int", "str", "list", "tuple", "dict", "sum", "sorted", "all", "any", "range", "enumerate", "zip", "reversed", "isinstance", "bool"] := by
  cases t with
  | cls c => exact absurd rfl (h c)
  | exc c sb => exact absurd rfl (h' c sb)
  | int => decide +kernel
  | bool => decide +kernel
  | str => decide +kernel
  | tuple => decide +kernel
  | list => decide +kernel
  | dict => decide +kernel
theorem ve_boot : bootBuiltins (Str.ofString "ValueError") = some (.type "ValueError") ∧ Str.ofString "ValueError" ≠ ("__name__" : Str) ∧ (Str.ofString "ValueError" == ("__debug__" : Str)) = false := by decide +kernel
theorem tyN_of {t : Ty} {p : Pos} (xo : XO P cl X k sc W) (hg : Gl X (Str.ofString (tyS t))) (hcls : ∀ c, t = .cls c → (∃ C, cl c C) ∧ (Str.ofString c == ("__debug__" : Str)) = false) (hexc : ∀ c sb, t = .exc c sb → sb = P.excs.filter (P.sub · c) ∧ (c = "ValueError" ∨ c ∈ P.excs ∧ (Str.ofString c == ("__debug__" : Str)) = false)) : ∃ c u, TyN P X cl t (.Name (Str.ofString (tyS t)) p) c u := by
  cases t with
  | cls c =>
    obtain ⟨⟨C, hC⟩, hd⟩ := hcls c rfl
    exact ⟨_, _, pe_glob hg (xo.ln.clc c C hC).1 (v := .ref C) rfl hd, ⟨C, hC, rfl⟩, .own C, fun n sb e => by cases e⟩
  | exc c sb =>
    obtain ⟨rfl, h⟩ := hexc c sb rfl
    have mem : ∀ d, decide (d ∈ P.excs.filter (P.sub · c)) = (decide (d ∈ P.excs) && P.sub d c) := fun d => by
      by_cases h1 : d ∈ P.excs <;> by_cases h2 : P.sub d c = true <;> simp [h1, h2]
    rcases h with rfl | ⟨hc, hd⟩
    · refine ⟨.ty "ValueError", _, pe_bltn hg xo.lx.ve ve_boot.1 rfl ve_boot.2.1 ve_boot.2.2, trivial, .ty "ValueError", fun n sb e d hd D hD => ?_⟩
      cases e
      rw [mem, decide_eq_true hd, Bool.true_and]
      exact (xo.lx.ex d hd D hD).2
    · obtain ⟨C, hC, _⟩ := xo.ln.exc c hc
      refine ⟨_, _, pe_glob hg hC (v := .ref C) rfl hd, trivial, .own C, fun n sb e d hd D hD => ?_⟩
      cases e
      rw [mem, decide_eq_true hd, Bool.true_and]
      exact (xo.lx.sb d hd c hc D C hD hC).1
  | int => obtain ⟨h1, h2, h3, h4⟩ := ty_boot .int (by simp) (by simp); exact ⟨_, _, tyN_B xo h4 hg h1 h2 h3 rfl (by simp)⟩
  | bool => obtain ⟨h1, h2, h3, h4⟩ := ty_boot .bool (by simp) (by simp); exact ⟨_, _, tyN_B xo h4 hg h1 h2 h3 rfl (by simp)⟩
  | str => obtain ⟨h1, h2, h3, h4⟩ := ty_boot .str (by simp) (by simp); exact ⟨_, _, tyN_B xo h4 hg h1 h2 h3 rfl (by simp)⟩
  | tuple => obtain ⟨h1, h2, h3, h4⟩ := ty_boot .tuple (by simp) (by simp); exact ⟨_, _, tyN_B xo h4 hg h1 h2 h3 rfl (by simp)⟩
  | list => obtain ⟨h1, h2, h3, h4⟩ := ty_boot .list (by simp) (by simp); exact ⟨_, _, tyN_B xo h4 hg h1 h2 h3 rfl (by simp)⟩
  | dict => obtain ⟨h1, h2, h3, h4⟩ := ty_boot .dict (by simp) (by simp); exact ⟨_, _, tyN_B xo h4 hg h1 h2 h3 rfl (by simp)⟩
/-- a value's type, also of the handled exception -/
def TyQ (X : Cx) (H : Hp) (x : V) (t : Value) : Prop := TyX X.K H x t ∨ ∃ (q : Addr × Obj) (D : Addr), q ∈ X.pn ∧ x = .ref q.1 ∧ t = .ref D ∧ ExcC X.K D ∧ L2N.Zn (.ref D) none q.2 ∧ ∃ vs, q.2.data = .fields vs
theorem kit_q {pins : List (Addr × Obj)} {σ : L2.St} {H : Hp} {s : Shared} {x : V} {u t : Value} (I : Inv X pins σ H s) (r : RelV x u) (h : TyQ X H x t) : ∃ Z : Heap → Prop, PySem.W.KitX X.K u t Z ∧ Z s.heap ∧ u ≠ .builtin "__main__.__loader__#opaque" := by
  rcases h with h | ⟨q, D, hq, rfl, rfl, C, hz, vs, hv⟩
  · exact kit_of I r h
  · obtain rfl : u = .ref q.1 := r
    have hget := (I.pin q (List.mem_append_left _ hq)).1
    refine ⟨_, PySem.W.handS_kitx_exc C.hg C.hk C.hs C.hd C.ha C.hn C.ht C.hm (ox := q.2), ?_, fun z => nomatch z⟩
    obtain ⟨a, oc, od, oda, osl⟩ := q
    obtain ⟨h1, h2, _⟩ := hz
    dsimp only at h1 h2 hv
    subst h1 h2 hv
    exact ⟨hget, rfl, rfl, trivial⟩
theorem isq_one : CallR X (.builtin "isinstance") fun xs H Q => ∃ (x c : V) (t u : Value) (b : Bool), xs = [x, c] ∧ ClsV c u ∧ TyQ X H x t ∧ PySem.W.kitOne X.K t u = some b ∧ Q (.bl b) H := by
  rintro pins s σ H xs us Q I r ⟨x, c, t, u, b, rfl, hk, ht, he, hq⟩
  obtain ⟨v1, v2, rfl, ra, rb⟩ := vals2 r
  obtain rfl := hk.eq rb
  obtain ⟨Z, z1, z2, z3⟩ := kit_q I ra ht
  exact PySem.W.kia_one z1 I.kIn z2 he z3 fun tk => ⟨.bl b, _, I.tok tk, rfl, hq⟩
theorem isq_tup : CallR X (.builtin "isinstance") fun xs H Q => ∃ (x : V) (tp : Addr) (cs : List V) (t : Value) (us : List Value) (b : Bool), xs = [x, .ref tp] ∧ H tp = some (.tup cs) ∧ Paired ClsV cs us ∧ TyQ X H x t ∧ PySem.W.kitAny X.K t us = some b ∧ Q (.bl b) H := by
  rintro pins s σ H xs us Q I r ⟨x, tp, cs, t, ws, b, rfl, hT, hk, ht, he, hq⟩
  obtain ⟨v1, v2, rfl, ra, rb⟩ := vals2 r
  obtain rfl : v2 = .ref tp := rb
  obtain ⟨Z, z1, z2, z3⟩ := kit_q I ra ht
  obtain ⟨_, its, rv, ob, g1, g2, n, g3⟩ := (show ObjOk X.prog X.w H s.heap tp (.tup cs) from I.hok tp _ hT)
  obtain rfl := ClsV.all hk rv
  obtain ⟨oc, od, dt, sl⟩ := ob
  dsimp only at g2 g3
  subst g2 g3
  exact PySem.W.kia_tup z1 I.kIn z2 g1 he z3 fun tk => ⟨.bl b, _, I.tok tk, rfl, hq⟩
theorem tag_q (xo : XO P cl X k sc W) (hK : m.K = X.K) (hS : SH cl m S) {v : Val} {x : V} (r : RD m v x) {t : Ty} {b : Bool} (h : isTy v S t = some b) : ∃ tg, TyQ X m.H x tg ∧ ∀ t b e c u, isTy v S t = some b → TyN P X cl t e c u → PySem.W.kitOne X.K tg u = some b := by
  by_cases hv : ∃ c, v = .exc c
  · obtain ⟨c, rfl⟩ := hv
    cases r with
    | @exc a _ hz =>
      have hcl := hS.z a c hz
      cases hh : sc.hot with
      | false => exact absurd hcl (xo.zc (by rw [hh]; rfl) a c)
      | true =>
        obtain ⟨q, c0, _, hq, hu, ho, D, hD, hzn, hf⟩ := xo.zx hh
        obtain ⟨rfl, rfl⟩ := hu a c hcl
        refine ⟨.ref D, .inr ⟨q, D, hq, rfl, rfl, (xo.lx.ex c ho D hD).1, hzn, hf⟩, fun t b e c' u h1 h2 => ?_⟩
        cases t with
        | exc n sb =>
          have := h2.ux n sb rfl c ho D hD
          simp only [isTy, Option.some.injEq] at h1
          rw [this, h1]
        | _ => simp [isTy] at h1
  · have hv' : ∀ c, v ≠ .exc c := fun c e => hv ⟨c, e⟩
    obtain ⟨tg, h1, h2⟩ := tag_rd (by rw [hK]; exact xo.isi) (fun c C hC => by rw [hK]; exact (xo.ln.clc c C hC).2) hS r hv' h
    rw [hK] at h1 h2
    exact ⟨tg, .inl h1, fun t b e c u h3 h4 => h2 t b u h3 h4.un⟩
variable {a b c o i : E} {ea eb ec eo ei : Expr} {pos : Pos}
theorem isi_boot : bootBuiltins (Str.ofString "isinstance") = some (.builtin "isinstance") := by decide +kernel
theorem e_isi1 {t : Ty} {et : Expr} {p : Pos} {cv : V} {u : Value} (xo : XO P cl X k sc W) (hg : Gl X (Str.ofString "isinstance")) (ht : TyN P X cl t et cv u) (hs : notStar ea = true) (hs2 : notStar et = true) (ha : PE X ea (tE P cl k X W a)) :
    PE X (.Call (.Name (Str.ofString "isinstance") p) [ea, et] [] pos) (tE P cl k X W (.isi a [t])) := by
  have hA : PA X [ea, et] (tCons (tE P cl k X W a) (tCons (tC cv) tNil)) := pa_cons ha (pa_cons ht.pe pa_nil (star_cons hs2)) (star_cons hs)
  refine PE.imp (pe_callB isq_one hg (xo.ln.bi "isinstance" (by decide)) isi_boot hA (by decide +kernel) (by decide +kernel) (star_cons hs) (star_any (by simp [hs2]))) fun σ H Q ⟨m, env, S, hK, eH, hS, hV, h⟩ => ?_
  subst eH
  simp only [wE] at h
  refine tE_of hK hS hV (Ev.refl m) h fun m1 x S1 v e1 hS1 r1 hV1 h1 => ?_
  obtain ⟨bs, h2, h3⟩ := h1
  rw [List.mapM_cons] at h2
  cases hb : isTy v S1 t with
  | none => rw [hb] at h2; simp at h2
  | some b =>
    rw [hb] at h2
    simp at h2
    subst h2
    have hK1 := e1.k.trans hK
    obtain ⟨tg, ty, kt⟩ := tag_q xo hK1 hS1 r1 hb
    refine ⟨x, cv, tg, u, b, rfl, ht.cv, ty, kt t b _ _ u hb ht, ?_⟩
    have := h3 m1 _ e1 hS1 (.bl _)
    simpa using this
/-- several types -/
inductive TyNs (P : Pg) (X : Cx) (cl : Cl) : List Ty → List Expr → List V → List Value → Prop where
  | nil : TyNs P X cl [] [] [] []
  | cons {t e c u ts es cs us} : TyN P X cl t e c u → notStar e = true → TyNs P X cl ts es cs us → TyNs P X cl (t :: ts) (e :: es) (c :: cs) (u :: us)
def tVs : List V → TA
  | [] => tNil
  | c :: cs => tCons (tC c) (tVs cs)
theorem TyNs.pa {ts es cs us} (h : TyNs P X cl ts es cs us) : PA X es (tVs cs) := by
  induction h with
  | nil => exact pa_nil
  | cons h1 h2 h3 ih => exact pa_cons h1.pe ih (star_cons h2)
theorem tVs_run : ∀ (cs : List V) (σ : L2.St) (H : Hp) (Q : List V → Hp → Prop), Q cs H → tVs cs σ H Q
  | [], σ, H, Q, h => h
  | c :: cs, σ, H, Q, h => tVs_run cs σ H _ h
theorem TyNs.cls {ts es cs us} (h : TyNs P X cl ts es cs us) : Paired ClsV cs us := by
  induction h with
  | nil => exact .nil
  | cons h1 _ _ ih => exact .cons h1.cv ih
theorem TyNs.len {ts es cs us} (h : TyNs P X cl ts es cs us) : cs.length = ts.length := by
  induction h with
  | nil => rfl
  | cons _ _ _ ih => simp [ih]
theorem TyNs.any {ts es cs us} (h : TyNs P X cl ts es cs us) {K : PySem.W.Frag} {tg : Value} {v : Val} (kt : ∀ t b e c u, isTy v S t = some b → TyN P X cl t e c u → PySem.W.kitOne K tg u = some b) : ∀ {bs : List Bool}, ts.mapM (isTy v S) = some bs → PySem.W.kitAny K tg us = some (bs.any id) := by
  induction h with
  | nil => intro bs h; simp at h; subst h; rfl
  | @cons t e c u ts es cs us h1 h2 h3 ih =>
    intro bs h
    rw [List.mapM_cons] at h
    cases hb : isTy v S t with
    | none => rw [hb] at h; simp at h
    | some b =>
      rw [hb] at h
      cases hr : ts.mapM (isTy v S) with
      | none => rw [hr] at h; simp at h
      | some bs' =>
        rw [hr] at h
        simp at h
        subst h
        refine kitAny_cons (kt t b _ _ u hb h1) (fun e => ?_) (fun e => by subst e; simp)
        subst e
        simpa using ih hr
theorem TyX.up {K : PySem.W.Frag} {H : Hp} {p : Addr} {o : HO} (hp : H p = none) {x : V} {t : Value} (h : TyX K H x t) : TyX K (upd H p o) x t := by
  have k : ∀ {a : Addr} {u : HO}, H a = some u → upd H p o a = some u := fun {a u} e => by rw [upd_ne (ne_of_none e hp)]; exact e
  cases h with
  | base b =>
    cases b with
    | non => exact .base .non
    | bl y => exact .base (.bl y)
    | int i => exact .base (.int i)
    | str y => exact .base (.str y)
    | flt y => exact .base (.flt y)
    | lst e => exact .base (.lst (k e))
    | frz e => exact .base (.frz (k e))
    | tup e => exact .base (.tup (k e))
    | dK e => exact .base (.dK (k e))
    | dT e => exact .base (.dT (k e))
    | ins e c h1 h2 h3 h4 => exact .base (.ins (k e) c h1 h2 h3 h4)
  | byt b => exact .byt b
  | set e => exact .set (k e)
  | kList e c => exact .kList e c
  | kTuple e c => exact .kTuple e c
  | kDict e c => exact .kDict e c
  | fTuple e => exact .fTuple (k e)
  | fDict e => exact .fDict (k e)
theorem e_isiT {ts : List Ty} {es : List Expr} {cs : List V} {us : List Value} {p p2 : Pos} {kk} (xo : XO P cl X k sc W) (hg : Gl X (Str.ofString "isinstance")) (ht : TyNs P X cl ts es cs us) (h0 : ts ≠ []) (hlen : ts.length ≤ sizeLine) (hs : notStar ea = true) (ha : PE X ea (tE P cl k X W a)) :
    PE X (.Call (.Name (Str.ofString "isinstance") p) [ea, .Tuple es kk p2] [] pos) (tE P cl k X W (.isi a ts)) := by
  have hA : PA X [ea, .Tuple es kk p2] (tCons (tE P cl k X W a) (tCons (tTup (tVs cs)) tNil)) := pa_cons ha (pa_cons (pe_tup ht.pa) pa_nil (star_cons rfl)) (star_cons hs)
  refine PE.imp (PE.kf (pe_callB isq_tup hg (xo.ln.bi "isinstance" (by decide)) isi_boot hA (by decide +kernel) (by decide +kernel) (star_cons hs) (star_any (by simp [notStar])))) fun σ H Q ⟨m, env, S, hK, eH, hS, hV, h⟩ => ?_
  subst eH
  simp only [wE] at h
  refine tE_of hK hS hV (Ev.refl m) h fun m1 x S1 v e1 hS1 r1 hV1 h1 => ?_
  obtain ⟨bs, h2, h3⟩ := h1
  refine tVs_run cs σ m1.H _ ⟨by rw [ht.len]; exact hlen, fun p hp => ?_⟩
  have hK1 := e1.k.trans hK
  cases ts with
  | nil => exact absurd rfl h0
  | cons t ts =>
  have hb : ∃ b, isTy v S1 t = some b := by
    rw [List.mapM_cons] at h2
    cases hb : isTy v S1 t with
    | none => rw [hb] at h2; simp at h2
    | some b => exact ⟨b, rfl⟩
  obtain ⟨b, hb⟩ := hb
  obtain ⟨tg, ty, kt⟩ := tag_q xo hK1 hS1 r1 hb
  refine ⟨x, p, cs, tg, us, bs.any id, rfl, upd_same, ht.cls, ty.imp (TyX.up hp) id, ht.any kt h2, fun kf => ?_⟩
  exact h3 { m1 with H := upd m1.H p (.tup cs) } _ (e1.trans (Ev.outside hp)) (hS1.outside hp (by rw [hK1]; exact kf)) (.bl _)
/-! ### dict displays -/
variable {ps : Ps} {pos : Pos}
theorem e_dic0 : PE X (.Dict [] [] pos) (tE P cl k X W (.dic .nil)) :=
  PE.imp (PE.kf pe_dnewK) fun σ H Q ⟨m, env, S, hK, eH, hS, hV, h⟩ => by
    subst eH
    simp only [wE, wPs] at h
    exact fun p hp kf => mk_dic hS .nil hp (by rw [hK]; exact kf) h
/-- the pairs' readings -/
def tPs (P : Pg) (cl : Cl) (k : Nat) (X : Cx) (W : WX) : Ps → List (TE × TE)
  | .nil => []
  | .cons a b ps => (tE P cl k X W a, tE P cl k X W b) :: tPs P cl k X W ps
def Ps.len : Ps → Nat
  | .nil => 0
  | .cons _ _ ps => ps.len + 1
theorem tPs_of : ∀ (ps : Ps) {m m0 : Sm} {env : Env} {S : Hm} {σ : L2.St} {Q1 : List (Key × Val) → Hm → Prop} {R : List (V × V) → Hp → Prop}, m.K = X.K → SH cl m S → SV m env σ → Ev m0 m → wPs P.con (callW P k) (liftX cl X.mg m0 fun c d H => W c d σ H) ps env S Q1 →
    (∀ m1 kvs (ws : List (L2.Key × V)) S1, Ev m m1 → SH cl m1 S1 → RKs m1 kvs ws → kvs.length = ps.len → Q1 kvs S1 → R (ws.map fun kv => (kV kv.1, kv.2)) m1.H) → tPairs (tPs P cl k X W ps) σ m.H R
  | .nil, m, m0, env, S, σ, Q1, R, hK, hS, hV, e0, h, hq => by
    simp only [wPs] at h
    exact hq m [] [] S (Ev.refl m) hS .nil rfl h
  | .cons a b ps, m, m0, env, S, σ, Q1, R, hK, hS, hV, e0, h, hq => by
    simp only [wPs] at h
    refine tE_of hK hS hV e0 h fun m1 x S1 v e1 hS1 r1 hV1 h1 => ?_
    refine tE_of (e1.k.trans hK) hS1 hV1 (e0.trans e1) h1 fun m2 y S2 w e2 hS2 r2 hV2 h2 => ?_
    obtain ⟨q, hk, h2⟩ := h2
    have ex := key_rd r1 hk
    refine tPs_of ps ((e1.trans e2).k.trans hK) hS2 hV2 ((e0.trans e1).trans e2) h2 fun m3 kvs ws S3 e3 hS3 r3 hl h3 => ?_
    have := hq m3 ((q, w) :: kvs) ((kk q, y) :: ws) S3 ((e1.trans e2).trans e3) hS3 (.cons ⟨rfl, r2.up (e3.up hS2)⟩ r3) (by rw [List.length_cons, hl]; rfl) h3
    rw [ex]
    exact this
theorem merge_rd {m : Sm} : ∀ {kvs : List (Key × Val)} {ws : List (L2.Key × V)} {d : List (Key × Val)} {e : List (L2.Key × V)}, RKs m kvs ws → RKs m d e → RKs m (kvs.foldl (fun d p => putK d p.1 p.2) d) (mergeK e ws) := by
  intro kvs ws d e r
  unfold RKs at r
  induction r generalizing d e with
  | nil => intro h; exact h
  | @cons p q ps qs h t ih =>
    intro h0
    have := h0.put p.1 h.2
    rw [← h.1] at this
    exact ih this
/-- .. with the written part in mind -/
theorem pe_dispK {keys : List (Option Expr)} {values : List Expr} {trs : List (TE × TE)} (h : PPs X pos keys values trs) (hall : keys.all (·.isSome) = true) (hl : keys.length = values.length) (h0 : keys ≠ []) (h15 : keys.length ≤ 15) :
    PE X (.Dict keys values pos) (fun σ H Q => ∀ p, H p = none → KF X.K (upd H p (.dK [])) → tPairs trs σ (upd H p (.dK [])) fun ps H2 => H2 p = some (.dK []) ∧ ∃ kvs : List (L2.Key × V), ps = kvs.map (fun kv => (kV kv.1, kv.2)) ∧ kvs.length ≤ 15 ∧ (KF X.K (upd H2 p (.dK (mergeK [] kvs))) → Q (.ref p) (upd H2 p (.dK (mergeK [] kvs))))) := by
  refine ⟨fun pins s σ H Q I q => ?_⟩
  have I1 := I.laid (a := s.heap.objs.size) (o := .dK []) (h' := s.heap.push { cls := .type "dict", data := .dict #[] }) (t' := s.toks) (fun _ _ q => Heap.get?_push_of_some _ q) (Nat.le_refl _) (dk_empty s.heap I.big)
  have q1 := q _ (I.hok.fresh (Nat.le_refl s.heap.objs.size)) (kfree I1)
  refine wpAny_Dict_walk (knd := mixKind X.prog X.w) hall hl h0 h15 (thn (h.run pins _ σ _ _ I1 q1) fun ws s2 ⟨ps, H2, I2, rel, e, kvs, ep, lk, q2⟩ => ?_)
  subst ep
  obtain ⟨rs, c, rk⟩ := carries_of (P := X.prog) (w := X.w) rel
  obtain ⟨z, hd, vs0, r0, dd⟩ := dk_of I2.hok e
  cases r0
  refine ⟨rs, c, dd, fun h' dd' hs => ?_⟩
  have hz : (mergeK [] kvs).length ≤ sizeLine := by
    have h1 := length_mergeK kvs []
    rw [sizeLine_eq]
    simp at h1
    omega
  have I3 := d_write (t' := s2.toks + ws.length) I2 (by rw [e]; exact True.intro) hs (let ⟨q, _, _, hq, _⟩ := dd'; ⟨q, hq⟩) (dk_new hz hd (rk.merge .nil) dd')
  exact ⟨.ref s.heap.objs.size, _, I3, rfl, q2 (kfree I3)⟩
theorem e_dic {keys : List (Option Expr)} {values : List Expr} (h : PPs X pos keys values (tPs P cl k X W ps)) (hall : keys.all (·.isSome) = true) (hl : keys.length = values.length) (h0 : keys ≠ []) (h15 : keys.length ≤ 15) (hlen : ps.len ≤ 15) :
    PE X (.Dict keys values pos) (tE P cl k X W (.dic ps)) :=
  PE.imp (pe_dispK h hall hl h0 h15) fun σ H Q ⟨m, env, S, hK, eH, hS, hV, h⟩ p hp kf => by
    subst eH
    simp only [wE] at h
    rw [← hK] at kf
    have e1 : Ev m { m with H := upd m.H p (.dK []) } := Ev.outside hp
    have hS1 := hS.outside hp kf
    have np1 : p ∉ m.em := hS.free hp (kf_free kf (upd_same (H := m.H) (a := p)))
    refine tPs_of (m := { m with H := upd m.H p (.dK []) }) ps hK hS1 (hV.up (e1.up hS)) e1 h fun m2 kvs ws S2 e2 hS2 r2 hlk h2 => ?_
    have hp2 : m2.H p = some (.dK []) := e2.keep p _ (upd_same (H := m.H) (a := p)) np1
    have np2 : p ∉ m2.em := fun z => by
      have := e2.new p z np1
      rw [show (({ m with H := upd m.H p (.dK []) } : Sm).H p) = some (.dK []) from upd_same (H := m.H) (a := p)] at this
      cases this
    refine ⟨hp2, ws, rfl, by rw [← r2.length, hlk]; exact hlen, fun kf2 => ?_⟩
    have e12 := e1.trans e2
    have e3 : Ev m { m2 with H := upd m2.H p (.dK (mergeK [] ws)), em := m2.em ++ [p] } := by
      obtain ⟨l, hl⟩ := e12.em
      refine ⟨e12.k, e12.z, ⟨l ++ [p], ?_⟩, fun b o hb nb => ?_, fun b hb nb => ?_, fun b q u hb => ?_⟩
      rotate_right
      · show upd m2.H p _ b = some _
        rw [upd_ne (ne_of_none hb hp)]
        exact e12.frz b q u hb
      · show m2.em ++ [p] = m.em ++ (l ++ [p])
        rw [hl, List.append_assoc]
      · show upd m2.H p _ b = some o
        rw [upd_ne (ne_of_none hb hp)]
        exact e12.keep b o hb nb
      · rcases List.mem_append.mp hb with z | z
        · exact e12.new b z nb
        · have : b = p := by simpa using z
          rw [this]; exact hp
    have up3 : Up m2 { m2 with H := upd m2.H p (.dK (mergeK [] ws)), em := m2.em ++ [p] } := by
      refine ⟨fun a xs h => ?_, ⟨[p], rfl⟩, fun _ h => h⟩
      rcases h with (h | ⟨o, h⟩) | h
      · have : a ≠ p := fun z => by rw [z, hp2] at h; cases h
        exact .inl (.inl (by show upd m2.H p _ a = _; rw [upd_ne this]; exact h))
      · have : a ≠ p := fun z => by rw [z, hp2] at h; cases h
        exact .inl (.inr ⟨o, by show upd m2.H p _ a = _; rw [upd_ne this]; exact h⟩)
      · exact .inr h
    have hS3 : SH cl { m2 with H := upd m2.H p (.dK (mergeK [] ws)), em := m2.em ++ [p] } (S2 ++ [.dic (kvs.foldl (fun d p => putK d p.1 p.2) [])]) := by
      refine ⟨by simp [hS2.len], ?_, by rw [e12.k, hK]; exact kf2, fun n u a e1 e2 => ?_, hS2.z⟩
      · show (m2.em ++ [p]).Nodup
        rw [List.nodup_append]
        refine ⟨hS2.nd, by simp, fun x hx y hy => ?_⟩
        have : y = p := by simpa using hy
        rw [this]
        exact fun z => np2 (z ▸ hx)
      · have e2 : (m2.em ++ [p])[n]? = some a := e2
        by_cases hn : n < S2.length
        · rw [List.getElem?_append_left hn] at e1
          rw [List.getElem?_append_left (by rw [hS2.len]; exact hn)] at e2
          exact (hS2.ob n u a e1 e2).up (m' := { m2 with H := upd m2.H p (.dK (mergeK [] ws)), em := m2.em ++ [p] }) up3 rfl (upd_ne fun z => np2 (z ▸ List.mem_of_getElem? e2))
        · have hn2 : n = S2.length := by
            have := (List.getElem?_eq_some_iff.mp e1).1
            simp at this
            omega
          subst hn2
          rw [List.getElem?_append_right (Nat.le_refl _)] at e1
          rw [← hS2.len, List.getElem?_append_right (Nat.le_refl _)] at e2
          simp at e1 e2
          subst e1 e2
          exact ⟨_, upd_same, merge_rd (r2.up up3) .nil⟩
    refine h2 { m2 with H := upd m2.H p (.dK (mergeK [] ws)), em := m2.em ++ [p] } (.ref p) e3 hS3 (.ref ?_)
    show (m2.em ++ [p])[S2.length]? = some p
    rw [← hS2.len]
    simp
end
end Mi

set_option maxHeartbeats 4000000
/-! zip of two, each a list or a tuple -/
namespace Mi
open PySem PySem.Spec L2 PyProof.Rows
/-- t: a tuple; else a list -/
def Sqx (t : Bool) (K : PySem.W.Frag) (H : Hp) (a : Addr) (xs : List V) : Prop := if t = true then SqT K H a xs else SqL K H a xs
def IterX (t : Bool) (h : Heap) (it a : Addr) (i : Nat) : Prop := if t = true then h.IsTupleIter it a i else h.IsListIter it a i
def AtX (t : Bool) (h : Heap) (a : Addr) (its : Array Value) : Prop := if t = true then h.IsTuple a its else h.IsList a its
theorem Sqx.inv {X : Cx} {pins : List (Addr × Obj)} {σ : L2.St} {H : Hp} {s : Shared} {t : Bool} {a : Addr} {xs : List V} (I : Inv X pins σ H s) (h : Sqx t X.K H a xs) : ∃ its : List Value, Vals xs its ∧ AtX t s.heap a its.toArray := by
  cases t with
  | true => obtain ⟨its, r, p, _⟩ := I.tuple h; exact ⟨its, r, p⟩
  | false => obtain ⟨its, r, p, _⟩ := I.list h; exact ⟨its, r, p.isList⟩
theorem Sqx.inj {X : Cx} {pins : List (Addr × Obj)} {σ : L2.St} {H : Hp} {s : Shared} {t : Bool} {a : Addr} {xs ys : List V} (I : Inv X pins σ H s) (h : Sqx t X.K H a xs) (h' : Sqx t X.K H a ys) : xs = ys := by
  cases t with
  | true => exact I.tuple_inj h h'
  | false => exact I.list_inj h h'
theorem IterX.obj {t : Bool} {h : Heap} {it a : Addr} {i : Nat} (st : IterX t h it a i) : ∃ o, h.get? it = some o ∧ ∀ v, o.data ≠ .cell v := by
  cases t with
  | true => obtain ⟨o, e, _, d⟩ := st; exact ⟨o, e, fun v q => by rw [d] at q; cases q⟩
  | false => obtain ⟨o, e, _, d⟩ := st; exact ⟨o, e, fun v q => by rw [d] at q; cases q⟩
theorem IterX.at {t : Bool} {h h' : Heap} {it a : Addr} {i : Nat} (st : IterX t h it a i) (k : ∀ o, h.get? it = some o → h'.get? it = some o) : IterX t h' it a i := by
  cases t with
  | true => exact Heap.IsTupleIter.at st k
  | false => exact Heap.IsListIter.at st k
theorem AtX.lt {t : Bool} {h : Heap} {a : Addr} {its : Array Value} (p : AtX t h a its) : a < h.objs.size := by
  cases t with
  | true => obtain ⟨o, e, _⟩ := id p; exact Heap.lt_size e
  | false => obtain ⟨o, e, _⟩ := id p; exact Heap.lt_size e
theorem drawsX {prog : Program} {w : World} {A : Around} (hh : A.handled = none) (t : Bool) (it a : Addr) (hne : a ≠ it) (items : Array Value) :
    Draws prog w A it [it, a] items.size (fun i v => items[i]? = some v) (fun i h => IterX t h it a i ∧ AtX t h a items) := by
  cases t with
  | true => exact Draws.tuple hh it a hne items
  | false => exact Draws.list hh it a hne items
theorem sep_of {z TI TO i1 i2 a b : Addr} (D : ZipApart z TI TO i1 i2 a b) : ZipSep2 z TI TO i1 i2 [i1, a] [i2, b] where
  TIz := D.TIz
  TOz := D.TOz
  TITO := D.TITO
  TIi1 := D.TIi1
  mem1 := by simp
  zf1 := by simp [D.i1z.symm, D.l1z.symm]
  Tf1 := by simp [D.TOi1, D.l1TO.symm]
  TIi2 := D.TIi2
  mem2 := by simp
  zf2 := by simp [D.i2z.symm, D.l2z.symm]
  Tf2 := by simp [D.TOi2, D.l2TO.symm]
  sep1_2 := by simp [D.i12, D.l2i1.symm]
  sep2_1 := by simp [D.i12.symm, D.l1i2.symm]
/-- the items at a and b as they stand at each turn, in new pairs -/
def Itx (K : PySem.W.Frag) (t u : Bool) (a b : Addr) : It :=
  ⟨fun i H => ∃ (xs ys : List V) (x y : V), Sqx t K H a xs ∧ Sqx u K H b ys ∧ xs[i]? = some x ∧ ys[i]? = some y,
    fun i H v H' => ∃ T x y, v = .ref T ∧ H T = none ∧ H' = upd H T (.tup [x, y]) ∧ (∀ xs, Sqx t K H a xs → xs[i]? = some x) ∧ ∀ ys, Sqx u K H b ys → ys[i]? = some y,
    fun i H => ∃ xs ys : List V, Sqx t K H a xs ∧ Sqx u K H b ys ∧ ((xs.length = i ∧ i ≤ ys.length) ∨ (ys.length = i ∧ i ≤ xs.length))⟩
theorem turn_zipX {P : Program} {w : World} {K : PySem.W.Frag} {elts : List Expr} {kk : Nat} {tpos : Pos} {t u : Bool} {a b z TI TO i1 i2 : Addr} (D : ZipApart z TI TO i1 i2 a b) :
    Turn P w K (.Tuple elts kk tpos) (Itx K t u a b) [z, TI, TO, i1, i2] z (fun i h => IsZip h z TI TO .none ∧ IsPair h TI (.ref i1) (.ref i2) ∧ (∃ x y, IsPair h TO x y) ∧ IterX t h i1 a i ∧ IterX u h i2 b i) where
  mem := .head _
  obj := fun i h st c hc => by
    obtain ⟨hz, hTI, ⟨x, y, hTO⟩, h1, h2⟩ := st
    simp only [List.mem_cons, List.not_mem_nil, or_false] at hc
    rcases hc with rfl | rfl | rfl | rfl | rfl
    · exact ⟨_, hz, fun v q => nomatch q⟩
    · exact ⟨_, hTI, fun v q => nomatch q⟩
    · exact ⟨_, hTO, fun v q => nomatch q⟩
    · exact h1.obj
    · exact h2.obj
  keep := fun i h h' ⟨hz, hTI, ⟨x, y, hTO⟩, h1, h2⟩ k => ⟨k z (by simp) _ hz, k TI (by simp) _ hTI, ⟨x, y, k TO (by simp) _ hTO⟩, h1.at fun o => k i1 (by simp) o, h2.at fun o => k i2 (by simp) o⟩
  item := by
    intro X hP hw hK calm i pins s σ H E I free st go
    subst hP hw hK
    obtain ⟨hz, hTI, ⟨x0, y0, hTO⟩, h1, h2⟩ := st
    obtain ⟨xs, ys, x, y, q1, q2, hx, hy⟩ := go
    obtain ⟨us, r1, p1⟩ := q1.inv I
    obtain ⟨vs, r2, p2⟩ := q2.inv I
    obtain ⟨c, hc, rc⟩ := r1.get hx
    obtain ⟨d, hd, rd⟩ := r2.get hy
    have zl : z < s.heap.objs.size := Heap.lt_size hz
    have hh : X.A.in1.handled = none := I.ok.hd calm
    refine wpAny_pyNext_zipD2_item (i := i) (sep_of D) (drawsX hh t i1 a D.l1i1 us.toArray) (drawsX hh u i2 b D.l2i2 vs.toArray) hz hTI hTO ⟨h1, p1⟩ ⟨h2, p2⟩ (by simpa using (List.getElem?_eq_some_iff.mp hc).1) (by simpa using (List.getElem?_eq_some_iff.mp hd).1) fun c' d' h' tk ec ed z' TO' ⟨n1, _⟩ ⟨n2, _⟩ hT hsz hk => ?_
    have ec : c' = c := by
      have ec : us.toArray[i]? = some c' := ec
      have hc' : us.toArray[i]? = some c := by simpa using hc
      rw [hc'] at ec
      exact (Option.some.inj ec).symm
    have ed : d' = d := by
      have ed : vs.toArray[i]? = some d' := ed
      have hd' : vs.toArray[i]? = some d := by simpa using hd
      rw [hd'] at ed
      exact (Option.some.inj ed).symm
    subst ec ed
    refine ⟨_, rfl, wpAny_letOwnedTupleGo_zip (s := { s with heap := h', toks := tk }) z' fun g zg sb => ?_⟩
    have sb2 : ∀ c, c ≠ z → g.get? c = h'.get? c := sb.2
    have tup : ObjOk X.prog X.w (upd H s.heap.objs.size (.tup [x, y])) g s.heap.objs.size (.tup [x, y]) :=
      ⟨by show 2 ≤ sizeLine; decide, _, .cons rc (.cons rd .nil), ⟨_, (sb2 _ (Nat.ne_of_gt zl)).trans hT, rfl, _, rfl⟩⟩
    have I1 : Inv X pins σ (upd H s.heap.objs.size (.tup [x, y])) { s with heap := g, toks := tk } :=
      I.turnedNew (t' := tk) (ch := [z, TI, TO, i1, i2]) (fun c o hb q => by
        simp only [List.mem_cons, List.not_mem_nil, or_false, not_or] at hb
        exact (sb2 c hb.1).trans (hk c o hb.1 hb.2.2.1 hb.2.2.2.1 hb.2.2.2.2 q)) free (Nat.le_refl _) tup
    refine ⟨.ref s.heap.objs.size, _, I1, rfl, ⟨_, x, y, rfl, I.hok.fresh (Nat.le_refl _), rfl, fun l hl => by rw [Sqx.inj I hl q1]; exact hx, fun l hl => by rw [Sqx.inj I hl q2]; exact hy⟩,
      ⟨zg, (sb2 _ D.TIz).trans (hk _ _ D.TIz D.TITO D.TIi1 D.TIi2 hTI), ⟨_, _, (sb2 _ D.TOz).trans TO'⟩, n1.at fun o q => (sb2 _ D.i1z).trans q, n2.at fun o q => (sb2 _ D.i2z).trans q⟩, fun c hcm => ?_⟩
    have lt : c < s.heap.objs.size := by
      simp only [List.mem_cons, List.not_mem_nil, or_false] at hcm
      rcases hcm with rfl | rfl | rfl | rfl | rfl
      · exact zl
      · exact Heap.lt_size hTI
      · exact Heap.lt_size hTO
      · exact let ⟨_, e, _⟩ := h1.obj; Heap.lt_size e
      · exact let ⟨_, e, _⟩ := h2.obj; Heap.lt_size e
    rw [upd_ne (Nat.ne_of_lt lt)]
    exact (free c hcm).1
  done := by
    intro X hP hw hK calm i pins s σ H E I free st stop
    subst hP hw hK
    obtain ⟨hz, hTI, ⟨x0, y0, hTO⟩, h1, h2⟩ := st
    obtain ⟨xs, ys, q1, q2, over⟩ := stop
    obtain ⟨us, r1, p1⟩ := q1.inv I
    obtain ⟨vs, r2, p2⟩ := q2.inv I
    have l1 := r1.length
    have l2 := r2.length
    have hh : X.A.in1.handled = none := I.ok.hd calm
    refine wpAny_pyNext_zipD2_end (i := i) (sep_of D) (drawsX hh t i1 a D.l1i1 us.toArray) (drawsX hh u i2 b D.l2i2 vs.toArray) hz hTI hTO ⟨h1, p1⟩ ⟨h2, p2⟩ (by rw [List.size_toArray]; omega) (by rw [List.size_toArray]; omega) (by rw [List.size_toArray, List.size_toArray]; omega) fun h' tk hk => ⟨rfl, ?_⟩
    exact I.turnedL (t' := tk) (ch := [z, TI, TO, i1, i2]) (fun c o hb q => by
      simp only [List.mem_cons, List.not_mem_nil, or_false, not_or] at hb
      exact hk c o hb.1 hb.2.2.1 hb.2.2.2.1 hb.2.2.2.2 q) free
  self := fun A i s Q E st h => wpAny_pyIter_zip st.1 h
theorem beginsX (t : Bool) (a : Addr) (items : Array Value) : ∃ o, Begins (.ref a) o (fun h => AtX t h a items) ∧ ∀ h it, h.get? it = some o → IterX t h it a 0 := by
  cases t with
  | true => exact ⟨_, begins_tuple a items, fun h it e => ⟨_, e, rfl, rfl⟩⟩
  | false => exact ⟨_, begins_list a items, fun h it e => ⟨_, e, rfl, rfl⟩⟩
def iZipX (K : PySem.W.Frag) (ta : TA) : TI := fun σ H R => ta σ H fun vs H1 => ∃ t u a b xs ys, vs = [.ref a, .ref b] ∧ Sqx t K H1 a xs ∧ Sqx u K H1 b ys ∧ R (Itx K t u a b) H1
theorem pi_zipX {X : Cx} {e e2 : Expr} {ta : TA} {p pos tpos : Pos} {elts : List Expr} {kk : Nat} (hg : Gl X "zip") (hm : X.mg "zip" = none) (ha : PA X [e, e2] ta)
    (hs : starEach [e, e2] X.env = (false, eval e X.env) :: starEach [e2] X.env) (hpl : (backTo pos (starEach [e2] X.env)).any (·.1) = false) :
    PI X (.Tuple elts kk tpos) (.Call (.Name "zip" p) [e, e2] [] pos) (iZipX X.K ta) := by
  refine ⟨fun pins s σ H R I h => ?_⟩
  refine Call_ (ld_blt I hg hm PyProof.Rows.boot_zip (PyProof.Rows.callWith_type1 (thn (ha.run pos pins s σ H _ I h) fun us s1 ⟨vs, H1, I1, r1, q1⟩ => ?_) hs hpl))
  obtain ⟨t, u, a, b, xs, ys, rfl, q1, q2, go⟩ := q1
  cases r1 with
  | cons ra r1 =>
    cases r1 with
    | cons rb r1 =>
      cases r1
      cases ra
      cases rb
      obtain ⟨us, _, p1⟩ := q1.inv I1
      obtain ⟨vs, _, p2⟩ := q2.inv I1
      obtain ⟨o1, B1, it1⟩ := beginsX t a us.toArray
      obtain ⟨o2, B2, it2⟩ := beginsX u b vs.toArray
      have new : ∀ c, c ∈ [s1.heap.objs.size + 4, s1.heap.objs.size + 2, s1.heap.objs.size + 3, s1.heap.objs.size, s1.heap.objs.size + 1] → FpOk X pins H1 c := fun c hc => by
        have le : s1.heap.objs.size ≤ c := by
          simp only [List.mem_cons, List.not_mem_nil, or_false] at hc
          rcases hc with rfl | rfl | rfl | rfl | rfl
          · exact Nat.le_add_right _ _
          · exact Nat.le_add_right _ _
          · exact Nat.le_add_right _ _
          · exact Nat.le_refl _
          · exact Nat.le_add_right _ _
        exact I1.fpOk le (I1.hok.fresh le)
      refine zip_begins2 B1 B2 p1 p2 fun h' hz hTI hTO g1 g2 hsz hk => wpAny_pyIter_zip hz ?_
      exact ⟨_, _, _, _, H1, rfl, I1.kept (t' := s1.toks) hk, turn_zipX (PySem.W.ktu_apart s1.heap.objs.size a b p1.lt p2.lt), ⟨hz, hTI, ⟨_, _, hTO⟩, it1 _ _ g1, it2 _ _ g2⟩, new, go⟩
end Mi

set_option maxHeartbeats 4000000
/-! list(zip(a, b)), each a list or a tuple: the pairs stay, so zip makes a new tuple at each turn behind the first -/
namespace Mi
open PySem PySem.Spec L2 PyProof.Rows
/-- a zip on its way: its tuple free, or the one given out last still there -/
structure ZS (t u : Bool) (z TI TO i1 i2 a b : Addr) (us vs : Array Value) (i : Nat) (h : Heap) : Prop where
  zp : IsZip h z TI TO .none ∨ ∃ T f oT, IsZipHeld h z TI TO T f ∧ h.get? T = some oT ∧ T ≠ z ∧ T ≠ i1 ∧ T ≠ i2
  ti : IsPair h TI (.ref i1) (.ref i2)
  to : ∃ x y, IsPair h TO x y
  g1 : IterX t h i1 a i
  g2 : IterX u h i2 b i
  a1 : AtX t h a us
  a2 : AtX u h b vs
section
variable {prog : Program} {w : World} {A : Around} {E : Value → Shared → Prop} {s : Shared} {t u : Bool} {z TI TO i1 i2 a b : Addr} {us vs : Array Value} {i : Nat}
theorem AtX.at {t : Bool} {h h' : Heap} {a : Addr} {its : Array Value} (p : AtX t h a its) (k : ∀ o, h.get? a = some o → h'.get? a = some o) : AtX t h' a its := by
  cases t with
  | true => exact Heap.IsTuple.at p k
  | false => exact Heap.IsList.at p k
theorem ZS.keep {h h' : Heap} (st : ZS t u z TI TO i1 i2 a b us vs i h) (k : ∀ c o, h.get? c = some o → h'.get? c = some o) : ZS t u z TI TO i1 i2 a b us vs i h' := by
  obtain ⟨zp, ti, ⟨x, y, to⟩, g1, g2, a1, a2⟩ := st
  refine ⟨?_, k _ _ ti, ⟨x, y, k _ _ to⟩, g1.at fun o => k _ o, g2.at fun o => k _ o, a1.at fun o => k _ o, a2.at fun o => k _ o⟩
  rcases zp with e | ⟨T, f, oT, e1, e2, e3⟩
  · exact .inl (k _ _ e)
  · exact .inr ⟨T, f, oT, k _ _ e1, k _ _ e2, e3⟩
theorem held_item (D : ZipApart z TI TO i1 i2 a b) (hh : A.handled = none) {T : Addr} {f : Bool} {oT : Obj} {x y : Value} {Q : Value → Shared → Prop} (iz : IsZipHeld s.heap z TI TO T f) (aT : s.heap.get? T = some oT) (ti : IsPair s.heap TI (.ref i1) (.ref i2))
    (g1 : IterX t s.heap i1 a i) (a1 : AtX t s.heap a us) (g2 : IterX u s.heap i2 b i) (a2 : AtX u s.heap b vs) (ex : us[i]? = some x) (ey : vs[i]? = some y)
    (hQ : ∀ h' tk, IsZipHeld h' z TI TO T true → IterX t h' i1 a (i + 1) → IterX u h' i2 b (i + 1) → IsPair h' s.heap.objs.size x y → h'.objs.size = s.heap.objs.size + 1 →
      (∀ c o, c ≠ z → c ≠ i1 → c ≠ i2 → s.heap.get? c = some o → h'.get? c = some o) → Q (.ref s.heap.objs.size) { s with heap := h', toks := tk }) :
    wpAny (model prog w) A (Builtin.«zip.__next__» ⟨[.ref z], []⟩) (fun fin s' => ∃ v, fin = .done (.ret v) ∧ Q v s') E s := by
  obtain ⟨hp, g, d, tk0, os⟩ := s
  have il1 : i < us.size := (Array.getElem?_eq_some_iff.mp ex).1
  have il2 : i < vs.size := (Array.getElem?_eq_some_iff.mp ey).1
  show wpAny _ _ (field (.ref z) 2 >>= _) _ _ _; refine wpAny_bind (wpAny_field iz rfl (x := .bool false) rfl ?_)
  show wpAny _ _ (field (.ref z) 3 >>= _) _ _ _; refine wpAny_bind (wpAny_field iz rfl (x := .ref TI) rfl ?_)
  refine wpAny_bind (wpAny_seqItems ti rfl ?_); show wpAny _ _ (Builtin.SmallTypes.ownedTupleIsFree (.ref z) >>= _) _ _ _
  refine wpAny_bind (wpAny_tupleHeld_zip iz aT fun q1 iz1 sb1 => ?_)
  replace sb1 : Heap.SameBut z hp q1 := sb1
  simp only [Bool.false_eq_true, if_false]; refine wpAny_bind ?_
  rw [← Array.forIn_toList]; simp only [List.forIn_cons, List.forIn_nil]
  refine wpAny_bind (wpAny_bind (wpAny_holding ?_)); show wpAny _ _ (Builtin.SmallTypes.nextOf (.ref i1) >>= _) _ _ ⟨q1, g, d, tk0, os⟩
  refine wpAny_bind ((drawsX hh t i1 a D.l1i1 us).item i _ _ _ il1 ⟨g1.at fun o e => sb1.extBut _ _ D.i1z e, a1.at fun o e => sb1.extBut _ _ D.l1z e⟩ fun x' q2 tk2 ex' ⟨n1, _⟩ sb2 => wpAny_pure ?_)
  replace sb2 : Heap.SameBut i1 q1 q2 := sb2
  refine wpAny_pure (wpAny_bind (wpAny_bind (wpAny_holding ?_))); show wpAny _ _ (Builtin.SmallTypes.nextOf (.ref i2) >>= _) _ _ ⟨q2, g, d, tk2, os⟩
  refine wpAny_bind ((drawsX hh u i2 b D.l2i2 vs).item i _ _ _ il2 ⟨(g2.at fun o e => sb1.extBut _ _ D.i2z e).at fun o e => sb2.extBut _ _ D.i12.symm e, (a2.at fun o e => sb1.extBut _ _ D.l2z e).at fun o e => sb2.extBut _ _ D.l2i1 e⟩ fun y' q3 tk3 ey' ⟨n2, _⟩ sb3 => wpAny_pure ?_)
  replace sb3 : Heap.SameBut i2 q2 q3 := sb3
  refine wpAny_pure (wpAny_pure ?_)
  obtain rfl : x' = x := by
    have e : us[i]? = some x' := ex'
    rw [ex] at e
    exact (Option.some.inj e).symm
  obtain rfl : y' = y := by
    have e : vs[i]? = some y' := ey'
    rw [ey] at e
    exact (Option.some.inj e).symm
  show wpAny _ _ (newTuple [x', y'] >>= _) _ _ _; refine wpAny_bind (wpAny_newTuple ?_)
  have zq : q3.objs.size = hp.objs.size := by rw [sb3.1, sb2.1, sb1.1]
  have kq : ∀ c o, c ≠ z → c ≠ i1 → c ≠ i2 → hp.get? c = some o → q3.get? c = some o := fun c o c1 c2 c3 e => sb3.extBut _ _ c3 (sb2.extBut _ _ c2 (sb1.extBut _ _ c1 e))
  have iz3 : IsZipHeld q3 z TI TO T true := sb3.extBut _ _ D.i2z.symm (sb2.extBut _ _ D.i1z.symm iz1)
  refine wpAny_pure ⟨_, rfl, ?_⟩; show Q (.ref q3.objs.size) ⟨q3.push _, g, d, tk3, os⟩
  have zp : (q3.push { cls := .type "tuple", data := .seq #[x', y'] }).objs.size = q3.objs.size + 1 := Heap.size_push ..
  have np : IsPair (q3.push { cls := .type "tuple", data := .seq #[x', y'] }) q3.objs.size x' y' := Heap.get?_push_size _ rfl
  rw [zq] at zp np ⊢
  exact hQ _ _ (Heap.get?_push_of_some _ iz3) ((n1.at fun o e => sb3.extBut _ _ D.i12 e).at fun o e => Heap.get?_push_of_some _ e) (n2.at fun o e => Heap.get?_push_of_some _ e) np zp fun c o c1 c2 c3 e => Heap.get?_push_of_some _ (kq c o c1 c2 c3 e)
theorem held_end (D : ZipApart z TI TO i1 i2 a b) (hh : A.handled = none) {T : Addr} {f : Bool} {oT : Obj} {Q : Fin → Shared → Prop} (iz : IsZipHeld s.heap z TI TO T f) (aT : s.heap.get? T = some oT) (ti : IsPair s.heap TI (.ref i1) (.ref i2))
    (g1 : IterX t s.heap i1 a i) (a1 : AtX t s.heap a us) (g2 : IterX u s.heap i2 b i) (a2 : AtX u s.heap b vs) (l1 : i ≤ us.size) (l2 : i ≤ vs.size) (over : i = us.size ∨ i = vs.size)
    (hE : ∀ h' tk e, (∀ c o, c ≠ z → c ≠ i1 → c ≠ i2 → s.heap.get? c = some o → h'.get? c = some o) → (∃ o, h'.get? e = some o ∧ o.cls = .type "StopIteration") → E (.ref e) { s with heap := h', toks := tk }) :
    wpAny (model prog w) A (Builtin.«zip.__next__» ⟨[.ref z], []⟩) Q E s := by
  obtain ⟨hp, g, d, tk0, os⟩ := s
  show wpAny _ _ (field (.ref z) 2 >>= _) _ _ _; refine wpAny_bind (wpAny_field iz rfl (x := .bool false) rfl ?_)
  show wpAny _ _ (field (.ref z) 3 >>= _) _ _ _; refine wpAny_bind (wpAny_field iz rfl (x := .ref TI) rfl ?_)
  refine wpAny_bind (wpAny_seqItems ti rfl ?_); show wpAny _ _ (Builtin.SmallTypes.ownedTupleIsFree (.ref z) >>= _) _ _ _
  refine wpAny_bind (wpAny_tupleHeld_zip iz aT fun q1 iz1 sb1 => ?_)
  replace sb1 : Heap.SameBut z hp q1 := sb1
  simp only [Bool.false_eq_true, if_false]; refine wpAny_bind ?_
  rw [← Array.forIn_toList]; simp only [List.forIn_cons, List.forIn_nil]
  refine wpAny_bind (wpAny_bind (wpAny_holding ?_)); show wpAny _ _ (Builtin.SmallTypes.nextOf (.ref i1) >>= _) _ _ ⟨q1, g, d, tk0, os⟩
  have d1 := drawsX (prog := prog) (w := w) hh t i1 a D.l1i1 us
  have d2 := drawsX (prog := prog) (w := w) hh u i2 b D.l2i2 vs
  have st1 : IterX t q1 i1 a i ∧ AtX t q1 a us := ⟨g1.at fun o e => sb1.extBut _ _ D.i1z e, a1.at fun o e => sb1.extBut _ _ D.l1z e⟩
  by_cases hi : i < us.size
  · refine wpAny_bind (d1.item i _ _ _ hi st1 fun x' q2 tk2 ex' ⟨n1, _⟩ sb2 => wpAny_pure ?_)
    replace sb2 : Heap.SameBut i1 q1 q2 := sb2
    have e2 : i = vs.size := by omega
    refine wpAny_pure (wpAny_bind (wpAny_bind (wpAny_holding ?_))); show wpAny _ _ (Builtin.SmallTypes.nextOf (.ref i2) >>= _) _ _ ⟨q2, g, d, tk2, os⟩
    refine wpAny_bind (d2.done ⟨q2, g, d, tk2, os⟩ _ _ (by rw [← e2]; exact ⟨(g2.at fun o e => sb1.extBut _ _ D.i2z e).at fun o e => sb2.extBut _ _ D.i12.symm e, (a2.at fun o e => sb1.extBut _ _ D.l2z e).at fun o e => sb2.extBut _ _ D.l2i1 e⟩) fun q3 e eb st => ?_)
    exact hE q3 tk2 e (fun c o c1 c2 c3 q => eb c o c3 (sb2.extBut _ _ c2 (sb1.extBut _ _ c1 q))) st
  · have e1 : i = us.size := by omega
    refine wpAny_bind (d1.done ⟨q1, g, d, tk0, os⟩ _ _ (by rw [← e1]; exact st1) fun q3 e eb st => ?_)
    exact hE q3 tk0 e (fun c o c1 c2 c3 q => eb c o c2 (sb1.extBut _ _ c1 q)) st
/-- the next pair -/
theorem zs_item (D : ZipApart z TI TO i1 i2 a b) (hh : A.handled = none) {x y : Value} {Q : Option Value → Shared → Prop} (st : ZS t u z TI TO i1 i2 a b us vs i s.heap) (ex : us[i]? = some x) (ey : vs[i]? = some y)
    (hQ : ∀ h' tk, ZS t u z TI TO i1 i2 a b us vs (i + 1) h' → IsPair h' s.heap.objs.size x y → h'.objs.size = s.heap.objs.size + 1 →
      (∀ c o, c ≠ z → c ≠ TO → c ≠ i1 → c ≠ i2 → s.heap.get? c = some o → h'.get? c = some o) → Q (some (.ref s.heap.objs.size)) { s with heap := h', toks := tk }) : wpAny (model prog w) A (pyNext (.ref z)) Q E s := by
  obtain ⟨zp, ti, ⟨x0, y0, to⟩, g1, g2, a1, a2⟩ := st
  have lt : ∀ {c : Addr} {o : Obj}, s.heap.get? c = some o → s.heap.objs.size ≠ c := fun e => Nat.ne_of_gt (Heap.lt_size e)
  have l1 : s.heap.objs.size ≠ i1 := by obtain ⟨_, e, _⟩ := g1.obj; exact lt e
  have l2 : s.heap.objs.size ≠ i2 := by obtain ⟨_, e, _⟩ := g2.obj; exact lt e
  rcases zp with iz | ⟨T, f, oT, iz, aT, Tz, T1, T2⟩
  · refine wpAny_pyNext_zipD2_item (i := i) (sep_of D) (drawsX (A := A.in1) hh t i1 a D.l1i1 us) (drawsX (A := A.in1) hh u i2 b D.l2i2 vs) iz ti to ⟨g1, a1⟩ ⟨g2, a2⟩ (Array.getElem?_eq_some_iff.mp ex).1 (Array.getElem?_eq_some_iff.mp ey).1 fun x' y' h' tk ex' ey' z' to' ⟨n1, m1⟩ ⟨n2, m2⟩ np sz kp => ?_
    obtain rfl : x' = x := by
      have e : us[i]? = some x' := ex'
      rw [ex] at e
      exact (Option.some.inj e).symm
    obtain rfl : y' = y := by
      have e : vs[i]? = some y' := ey'
      rw [ey] at e
      exact (Option.some.inj e).symm
    exact hQ h' tk ⟨.inr ⟨_, false, _, z', np, lt iz, l1, l2⟩, kp _ _ D.TIz D.TITO D.TIi1 D.TIi2 ti, ⟨_, _, to'⟩, n1, n2, m1, m2⟩ np sz kp
  · have ty : s.TypeIs (.ref z) "zip" := ⟨_, iz, rfl⟩
    unfold pyNext
    refine wpAny_bind (wpAny_attempt (wpAny_callSpecial?_slot (name := Str.ofString "__next__") ty F.slot_zip_next
      (wpAny_call_entry F.slot_zip_next ty F.entry_zip_next (held_item (A := A.in1) D hh iz aT ti g1 a1 g2 a2 ex ey fun h' tk z' n1 n2 np sz kp => wpAny_pure (hQ h' tk ⟨.inr ⟨T, true, oT, z', kp _ _ Tz T1 T2 aT, Tz, T1, T2⟩, kp _ _ D.TIz D.TIi1 D.TIi2 ti, ⟨_, _, kp _ _ D.TOz D.TOi1 D.TOi2 to⟩, n1, n2, a1.at fun o e => kp _ _ D.l1z D.l1i1 D.l1i2 e, a2.at fun o e => kp _ _ D.l2z D.l2i1 D.l2i2 e⟩ np sz fun c o c1 _ c2 c3 e => kp c o c1 c2 c3 e)) (F.args_zip_next_1 _))))
theorem zs_end (D : ZipApart z TI TO i1 i2 a b) (hh : A.handled = none) {Q : Option Value → Shared → Prop} (st : ZS t u z TI TO i1 i2 a b us vs i s.heap) (l1 : i ≤ us.size) (l2 : i ≤ vs.size) (over : i = us.size ∨ i = vs.size)
    (hQ : ∀ h' tk, (∀ c o, c ≠ z → c ≠ TO → c ≠ i1 → c ≠ i2 → s.heap.get? c = some o → h'.get? c = some o) → Q none { s with heap := h', toks := tk }) : wpAny (model prog w) A (pyNext (.ref z)) Q E s := by
  obtain ⟨zp, ti, ⟨x0, y0, to⟩, g1, g2, a1, a2⟩ := st
  rcases zp with iz | ⟨T, f, oT, iz, aT, Tz, T1, T2⟩
  · exact wpAny_pyNext_zipD2_end (i := i) (sep_of D) (drawsX (A := A.in1) hh t i1 a D.l1i1 us) (drawsX (A := A.in1) hh u i2 b D.l2i2 vs) iz ti to ⟨g1, a1⟩ ⟨g2, a2⟩ l1 l2 over hQ
  · have ty : s.TypeIs (.ref z) "zip" := ⟨_, iz, rfl⟩
    unfold pyNext
    refine wpAny_bind (wpAny_attempt (wpAny_callSpecial?_slot (name := Str.ofString "__next__") ty F.slot_zip_next
      (wpAny_call_entry F.slot_zip_next ty F.entry_zip_next (held_end (A := A.in1) D hh iz aT ti g1 a1 g2 a2 l1 l2 over fun h' tk e kp ⟨o, he, hc⟩ => ?_) (F.args_zip_next_1 _))))
    refine wpAny_bind (wpAny_isInstance (T := "StopIteration") (b := true) ⟨o, he, hc⟩ isSubtype_stop ?_)
    exact wpAny_pure (hQ h' tk fun c o c1 _ c2 c3 e => kp c o c1 c2 c3 e)
end
theorem zip_no_len : typeLookup (.type "zip") "__len__" = pure none := am_miss_of_fast (by decide +kernel)
theorem zip_no_hint : typeLookup (.type "zip") "__length_hint__" = pure none := am_miss_of_fast (by decide +kernel)
/-- the pairs made so far: rising addresses above lo -/
structure PGz (us vs : Array Value) (lo : Addr) (h : Heap) (ps : List Addr) : Prop where
  up : ps.Pairwise (· < ·)
  hi : ∀ c ∈ ps, lo < c
  tup : ∀ (j : Nat) (c : Addr), ps[j]? = some c → ∃ x y, us[j]? = some x ∧ vs[j]? = some y ∧ IsPair h c x y
theorem PGz.lt {us vs : Array Value} {lo : Addr} {h : Heap} {ps : List Addr} (g : PGz us vs lo h ps) {c : Addr} (hc : c ∈ ps) : c < h.objs.size := by
  obtain ⟨j, hj⟩ := List.mem_iff_getElem?.mp hc
  obtain ⟨_, _, _, _, e⟩ := g.tup j c hj
  exact Heap.lt_size e
theorem PGz.mono {us vs : Array Value} {lo lo' : Addr} {h : Heap} {ps : List Addr} (g : PGz us vs lo h ps) (hl : lo' ≤ lo) : PGz us vs lo' h ps := ⟨g.up, fun c hc => Nat.lt_of_le_of_lt hl (g.hi c hc), g.tup⟩
section
variable {prog : Program} {w : World} {A : Around} {s : Shared} {R : Result → Shared → Prop} {t u : Bool} {z TI TO i1 i2 a b : Addr} {us vs : Array Value}
/-- the cells of a zip lie below a list -/
def Lo (z TI TO i1 i2 a b S : Addr) : Prop := z < S ∧ TI < S ∧ TO < S ∧ i1 < S ∧ i2 < S ∧ a < S ∧ b < S
theorem zl_loop {S : Addr} (D : ZipApart z TI TO i1 i2 a b) (hh : A.handled = none) (lo : Lo z TI TO i1 i2 a b S) (hn : us.size ≤ sizeLine) (res : Value) {h0 : Heap}
    (hR : ∀ h' tk acc c ps, (∀ q o, q ≠ S → q ≠ z → q ≠ TO → q ≠ i1 → q ≠ i2 → h0.get? q = some o → h'.get? q = some o) → h'.get? S = some { cls := .type "list", dict := none, data := .seq acc c, slots := #[] } → ps.length = min us.size vs.size → PGz us vs S h' ps →
      acc.toList = ps.map Value.ref → R (.ok (.ret res)) { s with heap := h', toks := tk }) :
    ∀ (k i : Nat) (h : Heap) (tk c : Nat) (acc : Array Value) (ps : List Addr), min us.size vs.size - i = k → i ≤ min us.size vs.size → ZS t u z TI TO i1 i2 a b us vs i h → (∀ q o, q ≠ S → q ≠ z → q ≠ TO → q ≠ i1 → q ≠ i2 → h0.get? q = some o → h.get? q = some o) →
      h.get? S = some { cls := .type "list", dict := none, data := .seq acc c, slots := #[] } → acc.toList = ps.map Value.ref → ps.length = i → PGz us vs S h ps → codeAny (model prog w) A (.builtin "list.extend.loop" ⟨[.ref S, .ref z, res], []⟩) R { s with heap := h, toks := tk } := by
  obtain ⟨lz, lT, lO, l1, l2, la, lb⟩ := lo
  have ne : ∀ {q : Addr}, q < S → S ≠ q := fun h => Nat.ne_of_gt h
  have nq : ∀ {c q : Addr}, c < S → S < q → q ≠ c := fun h1 h2 => Nat.ne_of_gt (Nat.lt_trans h1 h2)
  have nl : ∀ {q : Addr}, q < S → q ≠ S := fun h => Nat.ne_of_lt h
  intro k
  induction k with
  | zero =>
    intro i h tk c acc ps hk hi st kp gS ea el pg
    refine codeAny_builtin (R := R) F.entry_extend_loop ?_
    rw [Around.under_plainId (A := A) F.plain_extend_loop _]
    show wpAny _ A.in1 (pyNext (.ref z) >>= _) _ _ _
    refine wpAny_bind (zs_end (A := A.in1) (s := { s with heap := h, toks := tk }) D hh st (by omega) (by omega) (by omega) fun h' tk' kp' => ?_)
    refine wpAny_pure (hR h' tk' acc c ps (fun q o n0 n1 n2 n3 n4 e => kp' q o n1 n2 n3 n4 (kp q o n0 n1 n2 n3 n4 e)) (kp' S _ (ne lz) (ne lO) (ne l1) (ne l2) gS) (by omega) ⟨pg.up, pg.hi, fun j q hj => ?_⟩ ea)
    obtain ⟨x, y, ex, ey, e⟩ := pg.tup j q hj
    have hq := pg.hi q (List.mem_of_getElem? hj)
    exact ⟨x, y, ex, ey, kp' q _ (nq lz hq) (nq lO hq) (nq l1 hq) (nq l2 hq) e⟩
  | succ k ih =>
    intro i h tk c acc ps hk hi st kp gS ea el pg
    have s1 : i < us.size := by omega
    have s2 : i < vs.size := by omega
    have as : acc.size = i := by rw [← Array.length_toList, ea, List.length_map, el]
    have lS := Heap.lt_size gS
    refine codeAny_builtin (R := R) F.entry_extend_loop ?_
    rw [Around.under_plainId (A := A) F.plain_extend_loop _]
    show wpAny _ A.in1 (pyNext (.ref z) >>= _) _ _ _
    refine wpAny_bind (zs_item (A := A.in1) (s := { s with heap := h, toks := tk }) D hh st (Array.getElem?_eq_getElem s1) (Array.getElem?_eq_getElem s2) fun h' tk' st' np sz kp' => ?_)
    dsimp only at np sz kp' ⊢
    have gS' := kp' S _ (ne lz) (ne lO) (ne l1) (ne l2) gS
    have up : ∀ q o, q ≠ S → h'.get? q = some o → (h'.update S (Obj.mapSeq (·.push (Value.ref h.objs.size)))).get? q = some o := fun q o n e => (Heap.get?_update_other _ _ (Ne.symm n)).trans e
    show wpAny _ A.in1 (updateSeq S (·.push (Value.ref h.objs.size)) >>= _) _ _ _
    refine wpAny_bind (wpAny_updateSeq gS' rfl (wpAny_pure ⟨plainId_quiet F.plain_extend_loop _, ih (i + 1) _ tk' _ (acc.push (Value.ref h.objs.size)) (ps ++ [h.objs.size]) (by omega) (by omega) ?_
      (fun q o n0 n1 n2 n3 n4 e => up q o n0 (kp' q o n1 n2 n3 n4 (kp q o n0 n1 n2 n3 n4 e))) (Heap.get?_update_self _ gS' rfl) (by rw [Array.toList_push, ea, List.map_append]; rfl) (by rw [List.length_append, el]; rfl) ⟨?_, ?_, ?_⟩⟩) (by rw [as]; omega) (by show (acc.push (Value.ref h.objs.size)).size ≤ sizeLine + 1; rw [Array.size_push, as]; omega))
    · obtain ⟨zp, ti, ⟨x, y, to⟩, g1, g2, a1, a2⟩ := st'
      refine ⟨?_, up _ _ (nl lT) ti, ⟨x, y, up _ _ (nl lO) to⟩, g1.at fun o => up _ o (nl l1), g2.at fun o => up _ o (nl l2), a1.at fun o => up _ o (nl la), a2.at fun o => up _ o (nl lb)⟩
      rcases zp with e | ⟨T, f, oT, e1, e2, e3⟩
      · exact .inl (up _ _ (nl lz) e)
      · by_cases hTS : T = S
        · subst hTS
          exact .inr ⟨T, f, _, up _ _ (nl lz) e1, Heap.get?_update_self _ gS' rfl, e3⟩
        · exact .inr ⟨T, f, oT, up _ _ (nl lz) e1, up _ _ hTS e2, e3⟩
    · refine List.pairwise_append.mpr ⟨pg.up, List.pairwise_singleton _ _, fun c hc d hd => ?_⟩
      rw [List.mem_singleton.mp hd]
      exact pg.lt hc
    · intro q hq
      rcases List.mem_append.mp hq with hq | hq
      · exact pg.hi q hq
      · rw [List.mem_singleton.mp hq]; exact lS
    · intro j q hj
      rcases Nat.lt_trichotomy j ps.length with c1 | c1 | c1
      · rw [List.getElem?_append_left c1] at hj
        obtain ⟨x, y, ex, ey, e⟩ := pg.tup j q hj
        have hq := pg.hi q (List.mem_of_getElem? hj)
        exact ⟨x, y, ex, ey, up _ _ (Nat.ne_of_gt hq) (kp' q _ (nq lz hq) (nq lO hq) (nq l1 hq) (nq l2 hq) e)⟩
      · subst c1
        have e : h.objs.size = q := by simpa using hj
        subst e
        subst el
        exact ⟨_, _, Array.getElem?_eq_getElem s1, Array.getElem?_eq_getElem s2, up _ _ (Nat.ne_of_gt lS) np⟩
      · have e : (ps ++ [h.objs.size])[j]? = none := List.getElem?_eq_none (by rw [List.length_append, List.length_singleton]; omega)
        rw [e] at hj; cases hj
end
section
variable {prog : Program} {w : World} {A : Around} {E : Value → Shared → Prop} {s : Shared} {R : Result → Shared → Prop} {t u : Bool} {z TI TO i1 i2 a b : Addr} {us vs : Array Value}
theorem zs_typ {i : Nat} {s : Shared} (st : ZS t u z TI TO i1 i2 a b us vs i s.heap) : s.TypeIs (.ref z) "zip" := by
  rcases st.zp with e | ⟨T, f, oT, e, _⟩
  · exact ⟨_, e, rfl⟩
  · exact ⟨_, e, rfl⟩
theorem ZS.off {S i : Nat} {h h' : Heap} (lo : Lo z TI TO i1 i2 a b S) (iz : IsZip h z TI TO .none) (st : ZS t u z TI TO i1 i2 a b us vs i h) (up : ∀ c o, c ≠ S → h.get? c = some o → h'.get? c = some o) : ZS t u z TI TO i1 i2 a b us vs i h' := by
  obtain ⟨lz, lT, lO, l1, l2, la, lb⟩ := lo
  obtain ⟨_, ti, ⟨x, y, to⟩, g1, g2, a1, a2⟩ := st
  exact ⟨.inl (up _ _ (Nat.ne_of_lt lz) iz), up _ _ (Nat.ne_of_lt lT) ti, ⟨x, y, up _ _ (Nat.ne_of_lt lO) to⟩, g1.at fun o => up _ o (Nat.ne_of_lt l1), g2.at fun o => up _ o (Nat.ne_of_lt l2), a1.at fun o => up _ o (Nat.ne_of_lt la), a2.at fun o => up _ o (Nat.ne_of_lt lb)⟩
abbrev ZR (us vs : Array Value) (z TO i1 i2 S : Addr) (s : Shared) (res : Value) (R : Result → Shared → Prop) : Prop := ∀ h' tk acc c ps, (∀ q o, q ≠ S → q ≠ z → q ≠ TO → q ≠ i1 → q ≠ i2 → s.heap.get? q = some o → h'.get? q = some o) → h'.get? S = some { cls := .type "list", dict := none, data := .seq acc c, slots := #[] } → ps.length = min us.size vs.size → PGz us vs S h' ps →
      acc.toList = ps.map Value.ref → R (.ok (.ret res)) { s with heap := h', toks := tk }
theorem zl_extend {S c0 : Nat} (D : ZipApart z TI TO i1 i2 a b) (hh : A.handled = none) (lo : Lo z TI TO i1 i2 a b S) (hn : us.size ≤ sizeLine) (res : Value) (iz : IsZip s.heap z TI TO .none) (st : ZS t u z TI TO i1 i2 a b us vs 0 s.heap) (gS : s.heap.get? S = some { cls := .type "list", data := .seq #[] c0 })
    (hR : ZR us vs z TO i1 i2 S s res R) :
    wpAny (model prog w) A.in1 (Builtin.List.listExtendWith (.ref S) (.ref z) res)
      (fun fin s' => match fin with | .done f => R (.ok f) s' | .again c' => c'.quiet = true ∧ codeAny (model prog w) A c' R s') (fun e s' => R (.error e) s') s := by
  have zS : z < S := lo.1
  unfold Builtin.List.listExtendWith
  refine wpAny_bind (wpAny_typeOf (zs_typ st) ?_)
  have f1 : Builtin.List.listSameRef (.ref S) (.ref z) = false := by simp [Builtin.List.listSameRef, Nat.ne_of_gt zS]
  have f2 : (Value.type "zip" == Value.type "list") = false := by decide
  have f3 : (Value.type "zip" == Value.type "tuple") = false := by decide
  simp only [f1, f2, f3, Bool.or_false, Bool.false_eq_true, if_false]
  refine wpAny_bind (wpAny_pyIter_zip iz ?_)
  refine wpAny_bind (wpAny_holding ?_)
  unfold Builtin.List.listLengthHint
  refine wpAny_bind (wpAny_specialOf (zs_typ st) zip_no_len ?_)
  show wpAny _ A.in1 (specialOf (Value.ref z) (Str.ofString "__length_hint__") >>= _) _ _ _
  refine wpAny_bind (wpAny_specialOf (zs_typ st) zip_no_hint ?_)
  refine wpAny_pure ?_
  show wpAny _ A.in1 (rule "list.extend.makes-room" >>= fun _ => Builtin.List.listTouch (.ref S) >>= fun _ => again (.builtin "list.extend.loop" ⟨[.ref S, .ref z, res], []⟩)) _ _ _
  refine wpAny_bind (wpAny_rule (wpAny_bind ?_))
  show wpAny _ A.in1 (updateSeq S (·.push .none) >>= fun _ => updateSeq S (·.pop)) _ _ _
  refine wpAny_bind (wpAny_updateSeq gS rfl ?_)
  have gS2 := Heap.get?_update_self (Obj.mapSeq (·.push Value.none)) gS rfl
  refine wpAny_updateSeq (hz := by seq_fits) gS2 rfl ?_
  have gS3 := Heap.get?_update_self (Obj.mapSeq (·.pop)) gS2 rfl
  have oth : ∀ q o, q ≠ S → s.heap.get? q = some o → ((s.heap.update S (Obj.mapSeq (·.push Value.none))).update S (Obj.mapSeq (·.pop))).get? q = some o := fun q o n e => (Heap.get?_update_other _ _ (Ne.symm n)).trans ((Heap.get?_update_other _ _ (Ne.symm n)).trans e)
  exact wpAny_pure ⟨plainId_quiet F.plain_extend_loop _, zl_loop (s := s) (h0 := s.heap) D hh lo hn res hR _ 0 _ s.toks _ #[] [] rfl (Nat.zero_le _) (st.off lo iz oth) (fun q o n _ _ _ _ e => oth q o n e) gS3 rfl rfl
    ⟨List.Pairwise.nil, (fun _ hc => nomatch hc), (fun j c hj => by simp at hj)⟩⟩
theorem zl_init {S : Nat} (D : ZipApart z TI TO i1 i2 a b) (hh : A.handled = none) (lo : Lo z TI TO i1 i2 a b S) (hn : us.size ≤ sizeLine) (iz : IsZip s.heap z TI TO .none) (st : ZS t u z TI TO i1 i2 a b us vs 0 s.heap) (gS : s.heap.get? S = some { cls := .type "list", data := .seq #[] })
    (hR : ZR us vs z TO i1 i2 S s .none R) :
    wpAny (model prog w) A.in1 (Builtin.«list.__init__» ⟨[.ref S, .ref z], []⟩)
      (fun fin s' => match fin with | .done f => R (.ok f) s' | .again c' => c'.quiet = true ∧ codeAny (model prog w) A c' R s') (fun e s' => R (.error e) s') s := by
  show wpAny _ _ (do let was ← Builtin.List.listItems (.ref S); Builtin.List.listUpdate (.ref S) (fun _ => #[]); letGo was.toList.reverse; Builtin.List.listExtendWith (.ref S) (.ref z) .none) _ _ s
  refine wpAny_bind ?_
  unfold Builtin.List.listItems
  refine wpAny_bind (wpAny_seqItems gS rfl (wpAny_pure ?_))
  show wpAny _ _ (updateSeq S (fun _ => #[]) >>= fun _ => letGo (#[] : Array Value).toList.reverse >>= fun _ => Builtin.List.listExtendWith (.ref S) (.ref z) .none) _ _ s
  refine wpAny_bind (wpAny_updateSeq gS rfl ?_)
  have gS2 := Heap.get?_update_self (Obj.mapSeq (fun _ => (#[] : Array Value))) gS rfl
  have oth : ∀ q o, q ≠ S → s.heap.get? q = some o → (s.heap.update S (Obj.mapSeq (fun _ => (#[] : Array Value)))).get? q = some o := fun q o n e => (Heap.get?_update_other _ _ (Ne.symm n)).trans e
  refine wpAny_bind (wpAny_letGo ?_)
  exact zl_extend D hh lo hn .none (oth _ _ (Nat.ne_of_lt lo.1) iz) (st.off lo iz oth) gS2 fun h' tk acc c ps kp g el pg ea => hR h' tk acc c ps (fun q o n n1 n2 n3 n4 e => kp q o n n1 n2 n3 n4 (oth q o n e)) g el pg ea
theorem zl_call {Q : Value → Shared → Prop} (D : ZipApart z TI TO i1 i2 a b) (hh : A.handled = none) (lo : Lo z TI TO i1 i2 a b s.heap.objs.size) (hn : us.size ≤ sizeLine) (iz : IsZip s.heap z TI TO .none) (st : ZS t u z TI TO i1 i2 a b us vs 0 s.heap)
    (hQ : ∀ h' tk acc c ps, (∀ q o, q ≠ z → q ≠ TO → q ≠ i1 → q ≠ i2 → s.heap.get? q = some o → h'.get? q = some o) → h'.get? s.heap.objs.size = some { cls := .type "list", dict := none, data := .seq acc c, slots := #[] } → ps.length = min us.size vs.size → PGz us vs s.heap.objs.size h' ps →
      acc.toList = ps.map Value.ref → Q (.ref s.heap.objs.size) { s with heap := h', toks := tk }) :
    wpAny (model prog w) A (call (.type "list") [.ref z]) Q E s := by
  refine callType_codes (Q₁ := fun obj s₁ => obj = .ref s.heap.objs.size ∧ s₁ = { s with heap := s.heap.push { cls := .type "list", data := .seq #[] } }) F.called_list (F.typeCall_list_1 _) F.entry_list_init (code_list_new _ ⟨rfl, rfl⟩) fun obj s₁ h₁ => ?_
  obtain ⟨rfl, rfl⟩ := h₁
  have gS : (s.heap.push { cls := .type "list", data := .seq #[] }).get? s.heap.objs.size = some { cls := .type "list", data := .seq #[] } := Heap.get?_push_size _ rfl
  refine ⟨⟨_, gS, rfl⟩, F.args_list_init_2 _ _, zl_init (A := A.in1) D hh lo hn (Heap.get?_push_of_some _ iz) (st.keep fun c o e => Heap.get?_push_of_some _ e) gS fun h' tk acc c ps kp g el pg ea => ?_⟩
  exact ⟨rfl, hQ h' tk acc c ps (fun q o n1 n2 n3 n4 e => kp q o (Nat.ne_of_lt (Heap.lt_size e)) n1 n2 n3 n4 (Heap.get?_push_of_some _ e)) g el pg ea⟩
end
end Mi
namespace Mi
open PySem PySem.Spec L2 PyProof.Rows
/-! the pairs tracked -/
def putP : Hp → List Addr → List (V × V) → Hp
  | H, c :: cs, q :: qs => putP (L2.upd H c (.tup [q.1, q.2])) cs qs
  | H, _, _ => H
theorem putP_off {d : Addr} : ∀ (cs : List Addr) (qs : List (V × V)) (H : Hp), d ∉ cs → putP H cs qs d = H d
  | [], _, _, _ => rfl
  | _ :: _, [], _, _ => rfl
  | c :: cs, q :: qs, H, h => by
    show putP (L2.upd H c _) cs qs d = H d
    rw [putP_off cs qs _ (fun z => h (List.mem_cons_of_mem _ z)), L2.upd_ne (fun z => h (by rw [z]; exact List.mem_cons_self))]
theorem putP_at : ∀ (cs : List Addr) (qs : List (V × V)) (H : Hp), cs.length = qs.length → cs.Nodup → ∀ (j : Nat) (c : Addr), cs[j]? = some c → ∃ q, qs[j]? = some q ∧ putP H cs qs c = some (.tup [q.1, q.2])
  | [], _, _, _, _, j, c, hj => by simp at hj
  | _ :: _, [], _, h, _, _, _, _ => by cases h
  | c :: cs, q :: qs, H, h, nd, 0, d, hj => by
    obtain rfl : c = d := by simpa using hj
    refine ⟨q, rfl, ?_⟩
    show putP (L2.upd H c _) cs qs c = _
    rw [putP_off cs qs _ (List.nodup_cons.mp nd).1, L2.upd_same]
  | c :: cs, q :: qs, H, h, nd, j + 1, d, hj => putP_at cs qs _ (Nat.succ.inj h) (List.nodup_cons.mp nd).2 j d (by simpa using hj)
def tListZip (K : PySem.W.Frag) (ta : TA) : TE := fun σ H Q => ta σ H fun vs H1 => ∃ t u a b xs ys, vs = [.ref a, .ref b] ∧ Sqx t K H1 a xs ∧ Sqx u K H1 b ys ∧ (xs.length ≤ sizeLine →
  ∀ (p : Addr) (ps : List Addr), ps.length = (xs.zip ys).length → ps.Nodup → (∀ c ∈ ps, H1 c = none) → p ∉ ps → H1 p = none → Q (.ref p) (L2.upd (putP H1 ps (xs.zip ys)) p (.lst (ps.map V.ref))))
theorem zip_laid {X : Cx} {t u : Bool} {a b : Addr} {pins : List (Addr × Obj)} {σ : L2.St} {H : Hp} {s : Shared} {h' : Heap} {tk : Nat} {xs ys : List V} {us vs : List Value} {acc : Array Value} {c S : Nat} {ps : List Addr} (I : Inv X pins σ H s) (hz : xs.length ≤ sizeLine) (r1 : Vals xs us) (r2 : Vals ys vs) (hS0 : s.heap.objs.size ≤ S)
    (hk : ∀ b o, s.heap.get? b = some o → h'.get? b = some o) (hS : h'.get? S = some { cls := .type "list", dict := none, data := .seq acc c, slots := #[] }) (hl : ps.length = min us.length vs.length) (pg : PGz us.toArray vs.toArray S h' ps) (ea : acc.toList = ps.map Value.ref) :
    ps.length = (xs.zip ys).length ∧ ps.Nodup ∧ (∀ c ∈ ps, H c = none) ∧ S ∉ ps ∧ H S = none ∧ Inv X pins σ (L2.upd (putP H ps (xs.zip ys)) S (.lst (ps.map V.ref))) { s with heap := h', toks := tk } := by
  have lu := r1.length
  have lv := r2.length
  have ln : ps.length = (xs.zip ys).length := by rw [List.length_zip, hl, lu, lv]
  have nd : ps.Nodup := List.Pairwise.imp (fun {a b} (h : a < b) => Nat.ne_of_lt h) pg.up
  have new : ∀ c ∈ ps, H c = none := fun c hc => I.hok.fresh (Nat.le_trans hS0 (Nat.le_of_lt (pg.hi c hc)))
  have Sn : S ∉ ps := fun z => Nat.lt_irrefl _ (pg.hi _ z)
  have newS : H S = none := I.hok.fresh hS0
  have atp := putP_at ps (xs.zip ys) H ln nd
  have eqS : L2.upd (putP H ps (xs.zip ys)) S (.lst (ps.map V.ref)) S = some (.lst (ps.map V.ref)) := L2.upd_same
  have off : ∀ q, q ∉ ps → q ≠ S → L2.upd (putP H ps (xs.zip ys)) S (.lst (ps.map V.ref)) q = H q := fun q h1 h2 => by rw [L2.upd_ne h2, putP_off ps _ _ h1]
  have low : ∀ q o, s.heap.get? q = some o → q ∉ ps ∧ q ≠ S := fun q o e => ⟨fun z => absurd (Heap.lt_size e) (Nat.not_lt.mpr (Nat.le_trans hS0 (Nat.le_of_lt (pg.hi q z)))), fun z => absurd (Heap.lt_size e) (Nat.not_lt.mpr (z ▸ hS0))⟩
  have kp : ∀ q o, H q = some o → L2.upd (putP H ps (xs.zip ys)) S (.lst (ps.map V.ref)) q = some o := fun q o e => by
    rw [off q (fun z => by rw [new q z] at e; cases e) (fun z => by rw [z, newS] at e; cases e)]
    exact e
  refine ⟨ln, nd, new, Sn, newS, ?_⟩
  generalize hH : L2.upd (putP H ps (xs.zip ys)) S (.lst (ps.map V.ref)) = H' at eqS off kp ⊢
  refine I.call' (ch := []) rfl ⟨fun q o e _ _ _ => hk q o e, fun q o e _ _ _ => ⟨o.slots, hk q o e⟩, fun q o e n _ => ?_, fun q o e _ => ⟨o, hk q o e⟩, fun q xs e => kp q _ e, fun q o u e => kp q _ e, fun q ps e => ⟨#[], by rw [kp q _ e]; simp⟩⟩ (fun q o e => ?_) I.bare fun q z => by simp at z
  · obtain ⟨z1, z2⟩ := low q o e
    rw [off q z1 z2]
    exact n
  · by_cases hq : q ∈ ps
    · obtain ⟨j, hj⟩ := List.mem_iff_getElem?.mp hq
      obtain ⟨pr, e1, e2⟩ := atp j q hj
      have hqS : q ≠ S := fun z => Sn (z ▸ hq)
      rw [← hH, L2.upd_ne hqS, e2] at e
      cases e
      obtain ⟨x, y, f1, f2, f3⟩ := pg.tup j q hj
      rw [List.getElem?_zip_eq_some] at e1
      obtain ⟨x', g1, rx⟩ := r1.get e1.1
      obtain ⟨y', g2, ry⟩ := r2.get e1.2
      have f1 : us[j]? = some x := by simpa using f1
      have f2 : vs[j]? = some y := by simpa using f2
      rw [f1] at g1
      rw [f2] at g2
      cases g1
      cases g2
      exact ⟨by show 2 ≤ sizeLine; decide, [x, y], .cons rx (.cons ry .nil), ⟨_, f3, rfl, _, rfl⟩⟩
    · by_cases hq2 : q = S
      · subst hq2
        rw [eqS] at e
        cases e
        refine ⟨by rw [List.length_map]; omega, acc.toList, c, by rw [ea]; exact LiI.vals_refs ps, ?_⟩
        rw [Array.toArray_toList]
        exact hS
      · rw [off q hq hq2] at e
        exact (I.hok q o e).stay (fun d v _ y => hk d v y) (fun d y => kp d _ y) fun d xs y => kp d _ y
theorem Sqx.size {X : Cx} {pins : List (Addr × Obj)} {σ : L2.St} {H : Hp} {s : Shared} {t : Bool} {a : Addr} {xs : List V} (I : Inv X pins σ H s) (h : Sqx t X.K H a xs) : xs.length ≤ sizeLine := by
  cases t with
  | true => obtain ⟨_, _, _, e⟩ := I.tuple h; exact e
  | false => obtain ⟨_, _, _, e⟩ := I.list h; exact e
theorem pe_listZip {X : Cx} {e e2 : Expr} {ta : TA} {p p2 pos pos2 : Pos} (hc : X.calm = true) (hg : Gl X "list") (hm : X.mg "list" = none) (hg2 : Gl X "zip") (hm2 : X.mg "zip" = none) (ha : PA X [e, e2] ta)
    (hs : starEach [e, e2] X.env = (false, eval e X.env) :: starEach [e2] X.env) (hpl : (backTo pos2 (starEach [e2] X.env)).any (·.1) = false) :
    PE X (.Call (.Name "list" p) [.Call (.Name "zip" p2) [e, e2] [] pos2] [] pos) (tListZip X.K ta) := by
  refine ⟨fun pins s σ H Q I h => ?_⟩
  refine wpAny_Call_Name_kw (ld_blt I hg hm PyProof.Rows.boot_list ?_)
  refine PyProof.Rows.callWith_type1 ?_ rfl rfl
  show wpAny _ _ (spliced [(false, eval (.Call (.Name "zip" p2) [e, e2] [] pos2) X.env)]) _ _ s
  refine Calls.spliced_cons ?_
  refine Call_ (ld_blt I hg2 hm2 PyProof.Rows.boot_zip (PyProof.Rows.callWith_type1 (thn (ha.run pos2 pins s σ H _ I h) fun us s1 ⟨vs, H1, I1, r1, q1⟩ => ?_) hs hpl))
  obtain ⟨t, u, a, b, xs, ys, rfl, q1, q2, go⟩ := q1
  cases r1 with
  | cons ra r1 =>
    cases r1 with
    | cons rb r1 =>
      cases r1
      cases ra
      cases rb
      obtain ⟨us, v1, p1⟩ := q1.inv I1
      obtain ⟨vs, v2, p2⟩ := q2.inv I1
      obtain ⟨o1, B1, it1⟩ := beginsX t a us.toArray
      obtain ⟨o2, B2, it2⟩ := beginsX u b vs.toArray
      refine zip_begins2 B1 B2 p1 p2 fun h' hz hTI hTO g1 g2 hsz hk => ?_
      refine Calls.spliced_nil ?_
      have la := p1.lt
      have lb := p2.lt
      have lx := q1.size I1
      have D := PySem.W.ktu_apart s1.heap.objs.size a b la lb
      refine zl_call (A := X.A) (s := { s1 with heap := h' }) (t := t) (u := u) (us := us.toArray) (vs := vs.toArray) D (I1.ok.hd hc) ?_ (by rw [List.size_toArray, ← v1.length]; exact lx) hz ⟨.inl hz, hTI, ⟨_, _, hTO⟩, it1 _ _ g1, it2 _ _ g2, p1.at fun o => hk _ o, p2.at fun o => hk _ o⟩ fun h2 tk acc c ps kp gS el pg ea => ?_
      · show Lo _ _ _ _ _ _ _ h'.objs.size
        rw [hsz]
        exact ⟨Nat.lt_succ_self _, Nat.add_lt_add_left (by decide) _, Nat.add_lt_add_left (by decide) _, Nat.lt_add_of_pos_right (by decide), Nat.add_lt_add_left (by decide) _, Nat.lt_of_lt_of_le la (Nat.le_add_right _ _), Nat.lt_of_lt_of_le lb (Nat.le_add_right _ _)⟩
      · have kk : ∀ q o, s1.heap.get? q = some o → h2.get? q = some o := fun q o e => by
          have l := Heap.lt_size e
          exact kp q o (Nat.ne_of_lt (Nat.lt_of_lt_of_le l (Nat.le_add_right _ _))) (Nat.ne_of_lt (Nat.lt_of_lt_of_le l (Nat.le_add_right _ _))) (Nat.ne_of_lt l) (Nat.ne_of_lt (Nat.lt_of_lt_of_le l (Nat.le_add_right _ _))) (hk q o e)
        have S0 : s1.heap.objs.size ≤ h'.objs.size := by rw [hsz]; exact Nat.le_add_right _ _
        rw [List.size_toArray, List.size_toArray] at el
        obtain ⟨k1, k2, k3, k4, k5, J⟩ := zip_laid (t := t) (u := u) (a := a) (b := b) (tk := tk) I1 lx v1 v2 S0 kk gS el pg ea
        exact ⟨.ref _, _, J, rfl, go lx h'.objs.size ps k1 k2 k3 k4 k5⟩
/-! the same in the small heap -/
section
variable {cl : Cl} {S : Hm}
theorem putP_free {d : Addr} : ∀ (cs : List Addr) (qs : List (V × V)) (H : Hp), putP H cs qs d = none → H d = none
  | [], _, _, h => h
  | _ :: _, [], _, h => h
  | c :: cs, q :: qs, H, h => by
    have h1 := putP_free cs qs (L2.upd H c (.tup [q.1, q.2])) h
    by_cases e : d = c
    · subst e; rw [L2.upd_same] at h1; cases h1
    · rw [L2.upd_ne e] at h1; exact h1
theorem put_pairs : ∀ (ps : List Addr) {m : Sm} {xs ys : List Val} {us vs : List V}, SH cl m S → RDs m xs us → RDs m ys vs → ps.length = (us.zip vs).length → ps.Nodup → (∀ c ∈ ps, m.H c = none) → KF m.K (putP m.H ps (us.zip vs)) →
    ∃ m', Ev m m' ∧ m'.H = putP m.H ps (us.zip vs) ∧ m'.em = m.em ∧ m'.K = m.K ∧ SH cl m' S ∧ RDs m' ((xs.zip ys).map fun q => .tup [q.1, q.2]) (ps.map V.ref)
  | [], m, xs, ys, us, vs, hS, r1, r2, hl, nd, nw, kf => by
    have e : (xs.zip ys) = [] := by
      cases r1 with
      | nil => rfl
      | cons a r1 =>
        cases r2 with
        | nil => rfl
        | cons b r2 => simp at hl
    exact ⟨m, Ev.refl m, by cases us.zip vs <;> rfl, rfl, rfl, hS, by rw [e]; exact .nil⟩
  | c :: cs, m, xs, ys, us, vs, hS, r1, r2, hl, nd, nw, kf => by
    cases r1 with
    | nil => simp at hl
    | @cons x u xs us a r1 =>
      cases r2 with
      | nil => simp at hl
      | @cons y v ys vs b r2 =>
        have hc := nw c List.mem_cons_self
        have nd' := List.nodup_cons.mp nd
        have kf1 : KF m.K (L2.upd m.H c (.tup [u, v])) := fun q o e => putP_free cs (us.zip vs) _ (kf q o e)
        have e1 : Ev m { m with H := L2.upd m.H c (.tup [u, v]) } := Ev.outside hc
        have hS1 := hS.outside hc kf1
        have up := e1.up hS
        obtain ⟨m', e2, f1, f2, f3, f4, f5⟩ := put_pairs cs (m := { m with H := L2.upd m.H c (.tup [u, v]) }) hS1 (r1.up up) (r2.up up) (by simpa using hl) nd'.2 (fun q hq => by
          show L2.upd m.H c _ q = none
          have ne : q ≠ c := fun z => nd'.1 (by rw [← z]; exact hq)
          rw [L2.upd_ne ne]
          exact nw q (List.mem_cons_of_mem _ hq)) kf
        refine ⟨m', e1.trans e2, f1, f2, f3, f4, ?_⟩
        show RDs m' (.tup [x, y] :: _) (.ref c :: _)
        exact .cons (.tup (.inl (.inl (by rw [f1]; exact (putP_off cs (us.zip vs) _ nd'.1).trans L2.upd_same))) (.cons ((a.up up).up (e2.up hS1)) (.cons ((b.up up).up (e2.up hS1)) .nil))) f5
end
end Mi
namespace Mi
open PySem PySem.Spec L2 PyProof.Rows
theorem pairL_zip : ∀ xs ys : List Val, pairL xs ys = (xs.zip ys).map fun q => .tup [q.1, q.2]
  | [], _ => by simp [pairL]
  | _ :: _, [] => by simp [pairL]
  | x :: xs, y :: ys => by simp [pairL, pairL_zip xs ys]
section
variable {P : Pg} {cl : Cl} {k : Nat} {X : Cx} {W : WX} {o : Ko} {a b : E} {ea eb : Expr}
theorem lt_rd {m : Sm} {S : Hm} {v : Val} {x : V} {K : List Val → (Hm → Prop) → Prop} (hS : SH cl m S) (r : RD m v x) (h : ltOf v S K) : ∃ t q xs ws g, x = .ref q ∧ K xs g ∧ Sqx t m.K m.H q ws ∧ RDs m xs ws := by
  cases v with
  | tup xs =>
    cases r with
    | @tup q vs _ hv rs => exact ⟨true, q, xs, vs, _, rfl, h, hv, rs⟩
  | ref n =>
    obtain ⟨xs, h1, h2⟩ := h
    cases r with
    | @ref _ q hq =>
    obtain ⟨vs, hv, rs⟩ := hS.lst h1 hq
    exact ⟨false, q, xs, vs, _, rfl, h2, hv, rs⟩
  | _ => exact h.elim
theorem e_listZip {p p2 pos pos2 : Pos} (xo : XO P cl X k o W) (hc : (!o.hot) = true) (hg : Gl X (Str.ofString "list")) (hg2 : Gl X (Str.ofString "zip")) (hs : notStar ea = true) (hs2 : notStar eb = true) (ha : PE X ea (tE P cl k X W a)) (hb : PE X eb (tE P cl k X W b)) :
    PE X (.Call (.Name (Str.ofString "list") p) [.Call (.Name (Str.ofString "zip") p2) [ea, eb] [] pos2] [] pos) (tE P cl k X W (.vi .listZip (.cons a (.cons b .nil)))) :=
  PE.imp (PE.kf (pe_listZip (xo.calm hc) hg (xo.ln.bi "list" (by decide)) hg2 (xo.ln.bi "zip" (by decide)) (pa_cons ha (pa_cons hb pa_nil (star_cons hs2)) (star_cons hs)) (star_cons hs) (star_any (by simp [hs2])))) fun σ H Q ⟨m, env, S, hK, eH, hS, hV, h⟩ => by
    subst eH
    simp only [wE, wEs] at h
    refine tE_of hK hS hV (Ev.refl m) h fun m1 x S1 v e1 hS1 r1 hV1 h1 => ?_
    refine tE_of (e1.k.trans hK) hS1 hV1 e1 h1 fun m2 y S2 w e2 hS2 r2 hV2 h2 => ?_
    have hK2 := (e1.trans e2).k.trans hK
    have h2 : ltOf v S2 (fun xs _ => ltOf w S2 fun ys _ => liftQ cl m Q (.ref S2.length) (S2 ++ [.lst (pairL xs ys)])) := h2
    obtain ⟨t, q, xs, us, g, rfl, h3, q1, s1⟩ := lt_rd hS2 (r1.up (e2.up hS1)) h2
    obtain ⟨u, q', ys, vs, g', rfl, h4, q2, s2⟩ := lt_rd hS2 r2 h3
    rw [hK2] at q1 q2
    refine ⟨t, u, q, q', us, vs, rfl, q1, q2, fun _ p ps ln nd nw pn np kf => ?_⟩
    rw [← hK2] at kf
    have kf1 : KF m2.K (putP m2.H ps (us.zip vs)) := fun c o e => by
      have z := kf c o e
      by_cases ec : c = p
      · subst ec; rw [L2.upd_same] at z; cases z
      · rw [L2.upd_ne ec] at z; exact z
    obtain ⟨m3, e3, f1, f2, f3, hS3, r3⟩ := put_pairs ps hS2 s1 s2 ln nd nw kf1
    rw [← f1] at kf ⊢
    have np3 : m3.H p = none := by rw [f1, putP_off ps _ _ pn]; exact np
    refine mk_lst hS3 r3 np3 (by rw [f3]; exact kf) ?_
    rw [← pairL_zip]
    exact liftQ.ev ((e1.trans e2).trans e3) (fun _ _ _ q => q) h4
end
end Mi

set_option maxHeartbeats 2000000
/-! list(d.items()) -/
namespace Mi
open PySem PySem.Spec L2 PyProof.Rows
section
variable {P : Pg} {cl : Cl} {k : Nat} {X : Cx} {W : WX} {o : Ko} {a : E} {ea : Expr}
theorem pairs_up {m m' : Sm} (u : Up m m') {kvs : List (Key × Val)} {ws : List (L2.Key × V)} (r : RKs m kvs ws) : ∀ {ts : List Addr}, Paired (fun (t : Addr) (q : L2.Key × V) => m'.H t = some (.tup [L2.kV q.1, q.2])) ts ws → RDs m' (kvs.map fun p => .tup [p.1.val, p.2]) (ts.map V.ref) := by
  unfold RKs at r
  induction r with
  | nil => intro ts h; cases h; exact .nil
  | @cons p q kvs ws hd _ ih =>
    intro ts h
    cases h with
    | @cons t _ ts _ ht h =>
    refine .cons (.tup (.inl (.inl ht)) (.cons ?_ (.cons (hd.2.up u) .nil))) (ih h)
    rw [hd.1]
    cases p.1 with
    | inl i => exact .int i
    | inr x => exact .str x
theorem e_listItems {p apos cpos pos : Pos} (xo : XO P cl X k o W) (hc : (!o.hot) = true) (hg : Gl X (Str.ofString "list")) (hb : plainBase ea = true) (hl : (apos.endLine == cpos.line) = true) (ha : PE X ea (tE P cl k X W a)) :
    PE X (.Call (.Name (Str.ofString "list") p) [.Call (.Attribute ea (Str.ofString "items") apos) [] [] cpos] [] pos) (tE P cl k X W (.vi .listItems (.cons a .nil))) :=
  PE.imp (PE.kf (LiI.pe_listItems (xo.calm hc) ha hg (xo.ln.bi "list" (by decide)) PyProof.Rows.boot_list (base_of hb) hl (star_cons rfl))) fun σ H Q ⟨m, env, S, hK, eH, hS, hV, h⟩ => by
    subst eH
    simp only [wE, wEs] at h
    refine tE_of hK hS hV (Ev.refl m) h fun m1 x S1 v e1 hS1 r1 hV1 h1 => ?_
    cases r1 with
    | @ref n q hq =>
      obtain ⟨kvs, hd, h1⟩ := h1
      obtain ⟨ws, hw, rk⟩ := hS1.ob n _ q hd hq
      refine ⟨q, ws, rfl, hw, fun H' p ts grow pn tn pt hp hpr kf => ?_⟩
      rw [← hK, ← e1.k] at kf
      have kp : m1.K.lookup p = none := kf_free kf hp
      have np := hS1.free pn kp
      have e2 : Ev m1 { m1 with H := H', em := m1.em ++ [p] } := ⟨rfl, rfl, ⟨[p], rfl⟩, fun b u h _ => grow b u h, fun b h h' => by
        rcases List.mem_append.mp h with z | z
        · exact absurd z h'
        · have : b = p := by simpa using z
          rw [this]; exact pn, fun b q u h => grow b _ h⟩
      have hS2 : SH cl { m1 with H := H', em := m1.em ++ [p] } (S1 ++ [.lst (kvs.map fun p => .tup [p.1.val, p.2])]) := by
        refine ⟨by simp [hS1.len], ?_, kf, fun n u a g1 g2 => ?_, hS1.z⟩
        · show (m1.em ++ [p]).Nodup
          rw [List.nodup_append]
          refine ⟨hS1.nd, by simp, fun x hx y hy => ?_⟩
          have : y = p := by simpa using hy
          rw [this]
          exact fun z => np (z ▸ hx)
        · by_cases hn : n < S1.length
          · rw [List.getElem?_append_left hn] at g1
            have g2' : m1.em[n]? = some a := by
              have : (m1.em ++ [p])[n]? = some a := g2
              rw [List.getElem?_append_left (by rw [hS1.len]; exact hn)] at this
              exact this
            have r := hS1.ob n u a g1 g2'
            have ex : H' a = m1.H a := by
              have sm : ∀ z, m1.H a = some z → H' a = m1.H a := fun z hz => (grow a z hz).trans hz.symm
              cases u with
              | lst ds => obtain ⟨vs, q, _⟩ := r; exact sm _ q
              | dic ds => obtain ⟨vs, q, _⟩ := r; exact sm _ q
              | ins c fs => obtain ⟨C, dx, gs, q, _⟩ := r; exact sm _ q
              | lck u => cases u with
                | lst ds =>
                  rcases r with ⟨o, vs, q, _⟩ | ⟨o, its, n, vs, q, _⟩
                  · exact sm _ q
                  · rw [kf a o q, hS1.kf a o q]
                | dic ds => obtain ⟨o, vs, q, _⟩ := r; exact sm _ q
                | _ => exact r.elim
            exact r.up (e2.up hS1) rfl ex
          · have hn2 : n = S1.length := by
              have := (List.getElem?_eq_some_iff.mp g1).1
              simp at this
              omega
            subst hn2
            have g1' : u = .lst (kvs.map fun p => .tup [p.1.val, p.2]) := by simpa using g1.symm
            subst g1'
            have g2' : a = p := by
              have : (m1.em ++ [p])[S1.length]? = some a := g2
              rw [← hS1.len] at this
              simpa using this.symm
            subst g2'
            exact ⟨_, hp, pairs_up (e2.up hS1) rk hpr⟩
      exact liftQ.ev e1 (fun _ _ _ q => q) h1 _ (.ref p) e2 hS2 (.ref (by
        show (m1.em ++ [p])[S1.length]? = some p
        rw [← hS1.len]
        simp))
    | _ => exact h1.elim
end
end Mi

set_option maxHeartbeats 4000000
/-! enumerate of a list or a tuple -/
namespace Mi
open PySem PySem.Spec L2 PyProof.Rows
theorem meets_enum1 {v : Value} {o : Obj} {H : Heap → Prop} (B : Begins v o H) :
    Meets (Builtin.«enumerate.__new__» ⟨[.type "enumerate", v], []⟩) (fun _ R s => H s.heap ∧ R (.ok (.ret (.ref (s.heap.push o).objs.size))) { s with heap := (s.heap.push o).push { cls := .type "enumerate", data := .fields #[.none, .bool false, .ref s.heap.objs.size, rawInt 0, .none, .none] } }) :=
  .of_wp fun prog w A R s ⟨hb, h⟩ => by
    obtain ⟨hp, g, d, tk, os⟩ := s
    have sub := sub_enumerate
    have go : ∀ {A' : Around} {E : Value → Shared → Prop} {Q : Value → Shared → Prop}, Q (.ref hp.objs.size) ⟨hp.push o, g, d, tk, os⟩ → wpAny (model prog w) A' (pyIter v) Q E ⟨hp, g, d, tk, os⟩ := fun q => B.iter prog w _ _ ⟨hp, g, d, tk, os⟩ _ hb q
    wp_walk using go
    refine wpAny_stack_any fun st => wpAny_pure ?_
    split
    · rename_i c _ _ _ _ _
      cases (c == Value.type "enumerate") <;> (wp_walk using go) <;> exact ⟨_, rfl, h⟩
    · wp_walk using go
      exact ⟨_, rfl, h⟩
section
variable {prog : Program} {w : World} {A : Around} {E : Value → Shared → Prop} {s : Shared}
theorem enum1_begins {v : Value} {o : Obj} {H : Heap → Prop} {Q : Value → Shared → Prop} (B : Begins v o H) (hb : H s.heap)
    (h : ∀ h', IsEnum h' (s.heap.objs.size + 1) s.heap.objs.size 0 .none → h'.get? s.heap.objs.size = some o → (∀ q u, s.heap.get? q = some u → h'.get? q = some u) → Q (.ref (s.heap.objs.size + 1)) { s with heap := h' }) :
    wpAny (model prog w) A (call (.type "enumerate") [v]) Q E s := by
  refine callType_new F.called_enumerate (by decide) (F.typeCall_enumerate_1 _) (F.newCall_enumerate_1 _) (fun obj => F.args_object_init_2 obj _) F.entry_enumerate_new (meets_enum1 B) ⟨hb, ?_⟩
  have sz : (s.heap.push o).objs.size = s.heap.objs.size + 1 := Heap.size_push ..
  show _ ∧ _
  rw [sz]
  have ie := Heap.get?_push_size (s.heap.push o) (o := { cls := .type "enumerate", data := .fields #[.none, .bool false, .ref s.heap.objs.size, rawInt 0, .none, .none] }) rfl
  rw [sz] at ie
  exact ⟨⟨_, ie, rfl⟩, h _ ie (Heap.get?_push_of_some _ (Heap.get?_push_size _ B.free)) fun q u x => Heap.get?_push_of_some _ (Heap.get?_push_of_some _ x)⟩
end
/-- the items at a as they stand at each turn, counted, in new pairs -/
def Iex (K : PySem.W.Frag) (t : Bool) (a : Addr) : It :=
  ⟨fun i H => ∃ (xs : List V) (x : V), Sqx t K H a xs ∧ xs[i]? = some x,
    fun i H v H' => ∃ T x, v = .ref T ∧ H T = none ∧ H' = upd H T (.tup [.int (i : Nat), x]) ∧ ∀ xs, Sqx t K H a xs → xs[i]? = some x,
    fun i H => ∃ xs : List V, Sqx t K H a xs ∧ xs.length = i⟩
theorem turn_enumX {P : Program} {w : World} {K : PySem.W.Frag} {elts : List Expr} {kk : Nat} {tpos : Pos} {t : Bool} {a e it : Addr} (ai : a ≠ it) (ae : a ≠ e) :
    Turn P w K (.Tuple elts kk tpos) (Iex K t a) [e, it] e (fun i h => (∃ old, IsEnum h e it ((i : Nat) : Int) old) ∧ IterX t h it a i ∧ e ≠ it) where
  mem := .head _
  obj := fun i h st c hc => by
    obtain ⟨⟨old, he⟩, hi, _⟩ := st
    simp only [List.mem_cons, List.not_mem_nil, or_false] at hc
    rcases hc with rfl | rfl
    · exact ⟨_, he, fun v q => nomatch q⟩
    · exact hi.obj
  keep := fun i h h' ⟨⟨old, he⟩, hi, ne⟩ k => ⟨⟨old, k e (by simp) _ he⟩, hi.at fun o => k it (by simp) o, ne⟩
  item := by
    intro X hP hw hK calm i pins s σ H E I free st go
    subst hP hw hK
    obtain ⟨⟨old, he⟩, hi, ne⟩ := st
    obtain ⟨xs, x, q1, hx⟩ := go
    obtain ⟨us, r1, p1⟩ := q1.inv I
    obtain ⟨c, hc, rc⟩ := r1.get hx
    have el : e < s.heap.objs.size := Heap.lt_size he
    have il : it < s.heap.objs.size := let ⟨_, z, _⟩ := hi.obj; Heap.lt_size z
    have hh : X.A.in1.handled = none := I.ok.hd calm
    refine wpAny_pyNext_enum_itemD (drawsX hh t it a ai us.toArray) he ⟨hi, p1⟩ (by simpa using (List.getElem?_eq_some_iff.mp hc).1) ne (by simp [ne, Ne.symm ae]) fun c' h' tk ec ho ⟨n1, _⟩ hT hsz hk => ?_
    obtain rfl : c' = c := by
      have ec : us.toArray[i]? = some c' := ec
      have hc' : us.toArray[i]? = some c := by simpa using hc
      rw [hc'] at ec
      exact (Option.some.inj ec).symm
    refine ⟨_, rfl, wpAny_letOwnedTupleGo_enum (s := { s with heap := h', toks := tk + 1 }) ho fun g eg sb => ?_⟩
    have sb2 : ∀ c, c ≠ e → g.get? c = h'.get? c := sb.2
    have tup : ObjOk X.prog X.w (upd H s.heap.objs.size (.tup [.int (i : Nat), x])) g s.heap.objs.size (.tup [.int (i : Nat), x]) :=
      ⟨by show 2 ≤ sizeLine; decide, _, .cons ⟨tk, rfl⟩ (.cons rc .nil), ⟨_, (sb2 _ (Nat.ne_of_gt el)).trans hT, rfl, _, rfl⟩⟩
    have I1 : Inv X pins σ (upd H s.heap.objs.size (.tup [.int (i : Nat), x])) { s with heap := g, toks := tk + 1 } :=
      I.turnedNew (t' := tk + 1) (ch := [e, it]) (fun c o hb q => by
        simp only [List.mem_cons, List.not_mem_nil, or_false, not_or] at hb
        exact (sb2 c hb.1).trans (hk c o hb.1 hb.2 q)) free (Nat.le_refl _) tup
    have ei : ((i + 1 : Nat) : Int) = (i : Int) + 1 := by omega
    refine ⟨.ref s.heap.objs.size, _, I1, rfl, ⟨_, x, rfl, I.hok.fresh (Nat.le_refl _), rfl, fun l hl => by rw [Sqx.inj I hl q1]; exact hx⟩, ⟨⟨_, by rw [ei]; exact eg⟩, n1.at fun o q => (sb2 _ (Ne.symm ne)).trans q, ne⟩, fun c hcm => ?_⟩
    have lt : c < s.heap.objs.size := by
      simp only [List.mem_cons, List.not_mem_nil, or_false] at hcm
      rcases hcm with rfl | rfl
      · exact el
      · exact il
    rw [upd_ne (Nat.ne_of_lt lt)]
    exact (free c hcm).1
  done := by
    intro X hP hw hK calm i pins s σ H E I free st stop
    subst hP hw hK
    obtain ⟨⟨old, he⟩, hi, ne⟩ := st
    obtain ⟨xs, q1, over⟩ := stop
    obtain ⟨us, r1, p1⟩ := q1.inv I
    have l1 := r1.length
    have hh : X.A.in1.handled = none := I.ok.hd calm
    refine wpAny_pyNext_enum_endD (drawsX hh t it a ai us.toArray) he ⟨by rw [List.size_toArray, ← l1, over]; exact hi, p1⟩ fun h' eb => ⟨rfl, ?_⟩
    exact I.turnedL (t' := s.toks) (ch := [e, it]) (fun c o hb q => by
      simp only [List.mem_cons, List.not_mem_nil, or_false, not_or] at hb
      exact eb c o hb.2 q) free
  self := fun A i s Q E st h => let ⟨⟨_, he⟩, _⟩ := st; wpAny_pyIter_enum he h
def iEnumX (K : PySem.W.Frag) (ta : TA) : TI := fun σ H R => ta σ H fun vs H1 => ∃ t a xs, vs = [.ref a] ∧ Sqx t K H1 a xs ∧ R (Iex K t a) H1
theorem pi_enumX {X : Cx} {e : Expr} {ta : TA} {p pos tpos : Pos} {elts : List Expr} {kk : Nat} (hg : Gl X "enumerate") (hm : X.mg "enumerate" = none) (ha : PA X [e] ta) (hs : starEach [e] X.env = (false, eval e X.env) :: starEach [] X.env) :
    PI X (.Tuple elts kk tpos) (.Call (.Name "enumerate" p) [e] [] pos) (iEnumX X.K ta) := by
  refine ⟨fun pins s σ H R I h => ?_⟩
  refine Call_ (ld_blt I hg hm PyProof.Rows.boot_enumerate (PyProof.Rows.callWith_type1 (thn (ha.run pos pins s σ H _ I h) fun us s1 ⟨vs, H1, I1, r1, q1⟩ => ?_) hs rfl))
  obtain ⟨t, a, xs, rfl, q1, go⟩ := q1
  cases r1 with
  | cons ra r1 =>
    cases r1
    cases ra
    obtain ⟨us, _, p1⟩ := q1.inv I1
    obtain ⟨o1, B1, it1⟩ := beginsX t a us.toArray
    have al := p1.lt
    refine enum1_begins B1 p1 fun h' ie g1 hk => wpAny_pyIter_enum ie ?_
    exact ⟨_, _, _, _, H1, rfl, I1.kept (t' := s1.toks) hk, turn_enumX (t := t) (a := a) (e := s1.heap.objs.size + 1) (it := s1.heap.objs.size) (Nat.ne_of_lt al) (Nat.ne_of_lt (Nat.lt_succ_of_lt al)), ⟨⟨.none, ie⟩, it1 _ _ g1, Nat.succ_ne_self _⟩, fun c hc => by
      have le : s1.heap.objs.size ≤ c := by
        simp only [List.mem_cons, List.not_mem_nil, or_false] at hc
        rcases hc with rfl | rfl
        · exact Nat.le_add_right _ _
        · exact Nat.le_refl _
      exact I1.fpOk le (I1.hok.fresh le), go⟩
end Mi

set_option maxHeartbeats 4000000
namespace Mi
open PySem PySem.Spec L2 PyProof.Rows
/-! ### what an iterator over items is -/
structure ItOk (cl : Cl) (m0 : Sm) (J : It) (items : List Val) (g : Hm → Prop) : Prop where
  go : ∀ i m S v, Ev m0 m → SH cl m S → g S → items[i]? = some v → J.go i m.H
  stop : ∀ i m S, Ev m0 m → SH cl m S → g S → items.length = i → J.stop i m.H
  yld : ∀ i m S v x H', Ev m0 m → SH cl m S → g S → items[i]? = some v → J.yld i m.H x H' → KF m.K H' → ∃ m', m'.H = H' ∧ Ev m m' ∧ SH cl m' S ∧ RD m' v x
  go0 : ∀ D o v, m0.H D = none → items[0]? = some v → J.go 0 (upd m0.H D o)
  stop0 : ∀ D o, m0.H D = none → items.length = 0 → J.stop 0 (upd m0.H D o)
  kfb : ∀ i H x H', J.yld i H x H' → KF m0.K H' → KF m0.K H
theorem getElem?_getD {α : Type} {xs : List α} {i : Nat} {x : α} (h : xs[i]? = some x) : i < xs.length := (List.getElem?_eq_some_iff.mp h).1
section
variable {cl : Cl} {m0 : Sm} {S0 : Hm}
theorem sqlUp {K : PySem.W.Frag} {H : Hp} {a D : Addr} {o : HO} {xs : List V} (h : SqL K H a xs) (hD : H D = none) : SqL K (upd H D o) a xs := by
  rcases h with (h | ⟨u, h⟩) | h
  · exact .inl (.inl (by rw [upd_ne (ne_of_none h hD)]; exact h))
  · exact .inl (.inr ⟨u, by rw [upd_ne (ne_of_none h hD)]; exact h⟩)
  · exact .inr h
theorem sqtUp {K : PySem.W.Frag} {H : Hp} {a D : Addr} {o : HO} {xs : List V} (h : SqT K H a xs) (hD : H D = none) : SqT K (upd H D o) a xs := by
  rcases h with (h | ⟨u, h⟩) | h
  · exact .inl (.inl (by rw [upd_ne (ne_of_none h hD)]; exact h))
  · exact .inl (.inr ⟨u, by rw [upd_ne (ne_of_none h hD)]; exact h⟩)
  · exact .inr h
theorem kf_outside {K : PySem.W.Frag} {H : Hp} {T : Addr} {o : HO} (hT : H T = none) (h : KF K (upd H T o)) : KF K H := fun b u e => by
  have := h b u e
  by_cases z : b = T
  · rw [z]; exact hT
  · rwa [upd_ne z] at this
theorem it_lst {n : Nat} {a : Addr} {items : List Val} {vs : List V} (ha : m0.em[n]? = some a) (h0 : SqL m0.K m0.H a vs) (hl : items.length = vs.length) : ItOk cl m0 (Itl m0.K a) items (fun S => Hm.lst S n = some items) where
  go := fun i m S v e hS g hv => by
    obtain ⟨vs, hq, rs⟩ := hS.lst g (em_get e.em ha)
    obtain ⟨x, hx, _⟩ := rs.get hv
    rw [e.k] at hq
    exact ⟨vs, x, hq, hx⟩
  stop := fun i m S e hS g hi => by
    obtain ⟨vs, hq, rs⟩ := hS.lst g (em_get e.em ha)
    rw [e.k] at hq
    exact ⟨vs, hq, by rw [← rs.length]; omega⟩
  yld := fun i m S v x H' e hS g hv y kf => by
    obtain ⟨rfl, y⟩ := y
    obtain ⟨vs, hq, rs⟩ := hS.lst g (em_get e.em ha)
    rw [e.k] at hq
    obtain ⟨x', hx, r⟩ := rs.get hv
    rw [y vs hq] at hx
    cases hx
    exact ⟨m, rfl, Ev.refl m, hS, r⟩
  go0 := fun D o v hD hv => by
    have hlt : 0 < vs.length := by rw [← hl]; exact getElem?_getD hv
    exact ⟨vs, vs[0], (sqlUp h0 hD), List.getElem?_eq_getElem hlt⟩
  stop0 := fun D o hD hi => ⟨vs, (sqlUp h0 hD), by omega⟩
  kfb := fun i H x H' y kf => by obtain ⟨rfl, _⟩ := y; exact kf
theorem it_tup {a : Addr} {items : List Val} {vs : List V} (hS0 : SH cl m0 S0) (h0 : SqT m0.K m0.H a vs) (r0 : RDs m0 items vs) : ItOk cl m0 (Itt m0.K a) items (fun _ => True) where
  go := fun i m S v e hS g hv => by
    have u := e.up hS0
    obtain ⟨x, hx, _⟩ := r0.get hv
    have := u.tup a vs h0
    rw [e.k] at this
    exact ⟨vs, x, this, hx⟩
  stop := fun i m S e hS g hi => by
    have u := e.up hS0
    have := u.tup a vs h0
    rw [e.k] at this
    exact ⟨vs, this, by rw [← r0.length]; omega⟩
  yld := fun i m S v x H' e hS g hv y kf => by
    obtain ⟨rfl, y⟩ := y
    have u := e.up hS0
    have hq := u.tup a vs h0
    rw [e.k] at hq
    obtain ⟨x', hx, r⟩ := r0.get hv
    rw [y vs hq] at hx
    cases hx
    exact ⟨m, rfl, Ev.refl m, hS, r.up u⟩
  go0 := fun D o v hD hv => by
    have hlt : 0 < vs.length := by rw [← r0.length]; exact getElem?_getD hv
    exact ⟨vs, vs[0], (sqtUp h0 hD), List.getElem?_eq_getElem hlt⟩
  stop0 := fun D o hD hi => ⟨vs, (sqtUp h0 hD), by rw [← r0.length]; omega⟩
  kfb := fun i H x H' y kf => by obtain ⟨rfl, _⟩ := y; exact kf
theorem it_str (z : String) : ItOk cl m0 (Its (Str.ofString z)) (z.toList.map fun c => .str (String.singleton c)) (fun _ => True) := by
  have hsz : (Str.ofString z).cps.size = z.toList.length := by
    have := congrArg List.length (cps_ofString z)
    simpa using this
  refine ⟨fun i m S v e hS g hv => ?_, fun i m S e hS g hi => ?_, fun i m S v x H' e hS g hv y kf => ?_, fun D o v hD hv => ?_, fun D o hD hi => ?_, fun i H x H' y kf => by obtain ⟨rfl, _⟩ := y; exact kf⟩
  · have := getElem?_getD hv
    rw [List.length_map] at this
    exact show i < (Str.ofString z).cps.size by rw [hsz]; exact this
  · rw [List.length_map] at hi
    exact show (Str.ofString z).cps.size ≤ i by rw [hsz]; exact (Nat.le_of_eq hi)
  · obtain ⟨rfl, c, hc, rfl⟩ := y
    refine ⟨m, rfl, Ev.refl m, hS, ?_⟩
    rw [List.getElem?_map] at hv
    cases hz : z.toList[i]? with
    | none => rw [hz] at hv; cases hv
    | some d =>
      rw [hz] at hv
      cases hv
      have : (Str.ofString z).cps.toList[i]? = some d.toNat := by rw [cps_ofString, List.getElem?_map, hz]; rfl
      rw [Array.getElem?_toList, hc] at this
      cases this
      rw [← singleton_ofString]
      exact .str _
  · have := getElem?_getD hv
    rw [List.length_map] at this
    exact show 0 < (Str.ofString z).cps.size by rw [hsz]; exact this
  · rw [List.length_map] at hi
    exact show (Str.ofString z).cps.size ≤ 0 by rw [hsz]; omega
theorem rangeL_get : ∀ (lo : Int) (n i : Nat), (rangeL lo 1 n)[i]? = if i < n then some (.int (lo + i)) else none
  | lo, 0, i => by simp [rangeL]
  | lo, n + 1, 0 => by simp [rangeL]
  | lo, n + 1, i + 1 => by
    rw [rangeL, List.getElem?_cons_succ, rangeL_get]
    by_cases h : i < n
    · rw [if_pos h, if_pos (by omega)]
      congr 2
      push_cast
      omega
    · rw [if_neg h, if_neg (by omega)]
theorem rangeL_len : ∀ (lo st : Int) (n : Nat), (rangeL lo st n).length = n
  | lo, st, 0 => rfl
  | lo, st, n + 1 => by rw [rangeL, List.length_cons, rangeL_len]
theorem it_rng (lo : Int) (n : Nat) : ItOk cl m0 (Itr lo n) (rangeL lo 1 n) (fun _ => True) := by
  refine ⟨fun i m S v e hS g hv => ?_, fun i m S e hS g hi => ?_, fun i m S v x H' e hS g hv y kf => ?_, fun D o v hD hv => ?_, fun D o hD hi => ?_, fun i H x H' y kf => by obtain ⟨rfl, _⟩ := y; exact kf⟩
  · have := getElem?_getD hv
    rw [rangeL_len] at this
    exact this
  · rw [rangeL_len] at hi
    exact Nat.le_of_eq hi
  · obtain ⟨rfl, rfl⟩ := y
    refine ⟨m, rfl, Ev.refl m, hS, ?_⟩
    rw [rangeL_get] at hv
    split at hv
    · cases hv
      exact .int _
    · cases hv
  · have := getElem?_getD hv
    rw [rangeL_len] at this
    exact this
  · rw [rangeL_len] at hi
    exact show n ≤ 0 by omega
theorem it_rev {n : Nat} {a : Addr} {items : List Val} {vs : List V} (ha : m0.em[n]? = some a) (h0 : SqL m0.K m0.H a vs) (hl : items.length = vs.length) : ItOk cl m0 (Itv m0.K a vs.length) items.reverse (fun S => Hm.lst S n = some items) where
  go := fun i m S v e hS g hv => by
    obtain ⟨ws, hq, rs⟩ := hS.lst g (em_get e.em ha)
    rw [e.k] at hq
    have hi := getElem?_getD hv
    rw [List.length_reverse] at hi
    rw [List.getElem?_reverse hi] at hv
    obtain ⟨x, hx, _⟩ := rs.get hv
    rw [hl] at hx
    exact ⟨by omega, ws, x, hq, hx⟩
  stop := fun i m S e hS g hi => by
    rw [List.length_reverse] at hi
    exact show vs.length ≤ i by omega
  yld := fun i m S v x H' e hS g hv y kf => by
    obtain ⟨rfl, y⟩ := y
    obtain ⟨ws, hq, rs⟩ := hS.lst g (em_get e.em ha)
    rw [e.k] at hq
    have hi := getElem?_getD hv
    rw [List.length_reverse] at hi
    rw [List.getElem?_reverse hi] at hv
    obtain ⟨x', hx, r⟩ := rs.get hv
    rw [hl, y ws hq] at hx
    cases hx
    exact ⟨m, rfl, Ev.refl m, hS, r⟩
  go0 := fun D o v hD hv => by
    have hi := getElem?_getD hv
    rw [List.length_reverse] at hi
    have hlt : vs.length - 1 - 0 < vs.length := by omega
    exact ⟨by omega, vs, vs[vs.length - 1 - 0], (sqlUp h0 hD), List.getElem?_eq_getElem hlt⟩
  stop0 := fun D o hD hi => by
    rw [List.length_reverse] at hi
    exact show vs.length ≤ 0 by omega
  kfb := fun i H x H' y kf => by obtain ⟨rfl, _⟩ := y; exact kf
theorem it_revT {a : Addr} {items : List Val} {vs : List V} (hS0 : SH cl m0 S0) (h0 : SqT m0.K m0.H a vs) (r0 : RDs m0 items vs) : ItOk cl m0 (RT.ItvT m0.K a vs.length) items.reverse (fun _ => True) where
  go := fun i m S v e hS g hv => by
    have hq := (e.up hS0).tup a vs h0
    rw [e.k] at hq
    have hi := getElem?_getD hv
    rw [List.length_reverse] at hi
    rw [List.getElem?_reverse hi] at hv
    obtain ⟨x, hx, _⟩ := r0.get hv
    have hl := r0.length
    rw [hl] at hx
    exact ⟨by omega, vs, x, hq, hx⟩
  stop := fun i m S e hS g hi => by
    have hl := r0.length
    rw [List.length_reverse] at hi
    exact show vs.length ≤ i by omega
  yld := fun i m S v x H' e hS g hv y kf => by
    obtain ⟨rfl, y⟩ := y
    have hq := (e.up hS0).tup a vs h0
    rw [e.k] at hq
    have hi := getElem?_getD hv
    rw [List.length_reverse] at hi
    rw [List.getElem?_reverse hi] at hv
    obtain ⟨x', hx, r⟩ := r0.get hv
    have hl := r0.length
    rw [hl, y vs hq] at hx
    cases hx
    exact ⟨m, rfl, Ev.refl m, hS, r.up (e.up hS0)⟩
  go0 := fun D o v hD hv => by
    have hl := r0.length
    have hi := getElem?_getD hv
    rw [List.length_reverse] at hi
    have hlt : vs.length - 1 - 0 < vs.length := by omega
    exact ⟨by omega, vs, vs[vs.length - 1 - 0], (sqtUp h0 hD), List.getElem?_eq_getElem hlt⟩
  stop0 := fun D o hD hi => by
    have hl := r0.length
    rw [List.length_reverse] at hi
    exact show vs.length ≤ 0 by omega
  kfb := fun i H x H' y kf => by obtain ⟨rfl, _⟩ := y; exact kf
theorem enumL_len : ∀ (n : Nat) (xs : List Val), (enumL n xs).length = xs.length
  | n, [] => rfl
  | n, x :: xs => by rw [enumL, List.length_cons, List.length_cons, enumL_len]
theorem enumL_get : ∀ (n : Nat) (xs : List Val) (i : Nat), (enumL n xs)[i]? = (xs[i]?).map fun x => .tup [.int ((n + i : Nat) : Int), x]
  | n, [], i => by simp [enumL]
  | n, x :: xs, 0 => by simp [enumL]
  | n, x :: xs, i + 1 => by
    rw [enumL, List.getElem?_cons_succ, List.getElem?_cons_succ, enumL_get]
    have : n + 1 + i = n + (i + 1) := by omega
    rw [this]
theorem pairL_len : ∀ (xs ys : List Val), (pairL xs ys).length = min xs.length ys.length
  | [], ys => by simp [pairL]
  | x :: xs, [] => by simp [pairL]
  | x :: xs, y :: ys => by simp only [pairL, List.length_cons, pairL_len]; omega
theorem pairL_get : ∀ (xs ys : List Val) (i : Nat) {v : Val}, (pairL xs ys)[i]? = some v → ∃ x y, xs[i]? = some x ∧ ys[i]? = some y ∧ v = .tup [x, y]
  | [], ys, i, v, h => by simp [pairL] at h
  | x :: xs, [], i, v, h => by simp [pairL] at h
  | x :: xs, y :: ys, 0, v, h => by simp [pairL] at h; exact ⟨x, y, rfl, rfl, h.symm⟩
  | x :: xs, y :: ys, i + 1, v, h => by
    rw [pairL, List.getElem?_cons_succ] at h
    rw [List.getElem?_cons_succ, List.getElem?_cons_succ]
    exact pairL_get xs ys i h
theorem RKs.get {m : Sm} {kvs : List (Key × Val)} {ws : List (L2.Key × V)} (h : RKs m kvs ws) {i : Nat} : ∀ {p : Key × Val}, kvs[i]? = some p → ∃ q, ws[i]? = some q ∧ q.1 = kk p.1 ∧ RD m p.2 q.2 := by
  unfold RKs at h
  induction h generalizing i with
  | nil => intro p e; simp at e
  | @cons p r ps rs h t ih =>
    intro q e
    cases i with
    | zero => simp at e; subst e; exact ⟨r, rfl, h⟩
    | succ i => simpa using ih (i := i) (by simpa using e)
section
variable {n : Nat} {a : Addr} {o : Obj} {ws : List (L2.Key × V)} {kvs : List (Key × Val)}
theorem frz_at {m : Sm} {S : Hm} (ha : m0.em[n]? = some a) (h0 : m0.H a = some (.frz o (.dK ws))) (e : Ev m0 m) (hS : SH cl m S) (g : S[n]? = some (.lck (.dic kvs))) : m.H a = some (.frz o (.dK ws)) ∧ RKs m kvs ws := by
  have h1 := e.frz a o _ h0
  obtain ⟨o', ws', h2, h3⟩ := hS.ob n _ a g (em_get e.em ha)
  rw [h1] at h2
  cases h2
  exact ⟨h1, h3⟩
theorem it_keys (ha : m0.em[n]? = some a) (h0 : m0.H a = some (.frz o (.dK ws))) (hl : kvs.length = ws.length) : ItOk cl m0 (Itk a o ws) (kvs.map (·.1.val)) (fun S => S[n]? = some (.lck (.dic kvs))) where
  go := fun i m S v e hS g hv => by
    have := getElem?_getD hv
    rw [List.length_map] at this
    exact ⟨(frz_at ha h0 e hS g).1, by omega⟩
  stop := fun i m S e hS g hi => by
    rw [List.length_map] at hi
    exact ⟨(frz_at ha h0 e hS g).1, by omega⟩
  yld := fun i m S v x H' e hS g hv y kf => by
    obtain ⟨rfl, k, u, hw, rfl⟩ := y
    rw [List.getElem?_map] at hv
    obtain ⟨p, hp, rfl⟩ := Option.map_eq_some_iff.mp hv
    obtain ⟨q, hq, e1, _⟩ := (frz_at ha h0 e hS g).2.get hp
    rw [hw] at hq
    cases hq
    refine ⟨m, rfl, Ev.refl m, hS, ?_⟩
    show RD m _ (kV k)
    rw [show k = kk p.1 from e1]
    exact rd_key p.1
  go0 := fun D u v hD hv => by
    have := getElem?_getD hv
    rw [List.length_map] at this
    exact ⟨by rw [upd_ne (ne_of_none h0 hD)]; exact h0, by omega⟩
  stop0 := fun D u hD hi => by
    rw [List.length_map] at hi
    exact ⟨by rw [upd_ne (ne_of_none h0 hD)]; exact h0, by omega⟩
  kfb := fun i H x H' y kf => by obtain ⟨rfl, _⟩ := y; exact kf
theorem it_vals (ha : m0.em[n]? = some a) (h0 : m0.H a = some (.frz o (.dK ws))) (hl : kvs.length = ws.length) : ItOk cl m0 (Itd a o ws) (kvs.map (·.2)) (fun S => S[n]? = some (.lck (.dic kvs))) where
  go := fun i m S v e hS g hv => by
    have := getElem?_getD hv
    rw [List.length_map] at this
    exact ⟨(frz_at ha h0 e hS g).1, by omega⟩
  stop := fun i m S e hS g hi => by
    rw [List.length_map] at hi
    exact ⟨(frz_at ha h0 e hS g).1, by omega⟩
  yld := fun i m S v x H' e hS g hv y kf => by
    obtain ⟨rfl, k, hw⟩ := y
    rw [List.getElem?_map] at hv
    obtain ⟨p, hp, rfl⟩ := Option.map_eq_some_iff.mp hv
    obtain ⟨q, hq, _, r⟩ := (frz_at ha h0 e hS g).2.get hp
    rw [hw] at hq
    cases hq
    exact ⟨m, rfl, Ev.refl m, hS, r⟩
  go0 := fun D u v hD hv => by
    have := getElem?_getD hv
    rw [List.length_map] at this
    exact ⟨by rw [upd_ne (ne_of_none h0 hD)]; exact h0, by omega⟩
  stop0 := fun D u hD hi => by
    rw [List.length_map] at hi
    exact ⟨by rw [upd_ne (ne_of_none h0 hD)]; exact h0, by omega⟩
  kfb := fun i H x H' y kf => by obtain ⟨rfl, _⟩ := y; exact kf
theorem it_items (ha : m0.em[n]? = some a) (h0 : m0.H a = some (.frz o (.dK ws))) (hl : kvs.length = ws.length) : ItOk cl m0 (Iti a o ws) (kvs.map fun p => .tup [p.1.val, p.2]) (fun S => S[n]? = some (.lck (.dic kvs))) where
  go := fun i m S v e hS g hv => by
    have := getElem?_getD hv
    rw [List.length_map] at this
    exact ⟨(frz_at ha h0 e hS g).1, by omega⟩
  stop := fun i m S e hS g hi => by
    rw [List.length_map] at hi
    exact ⟨(frz_at ha h0 e hS g).1, by omega⟩
  yld := fun i m S v x H' e hS g hv y kf => by
    obtain ⟨T, k, z, hw, rfl, hT, rfl⟩ := y
    rw [List.getElem?_map] at hv
    obtain ⟨p, hp, rfl⟩ := Option.map_eq_some_iff.mp hv
    obtain ⟨q, hq, e1, r⟩ := (frz_at ha h0 e hS g).2.get hp
    rw [hw] at hq
    cases hq
    have e2 : Ev m { m with H := upd m.H T (.tup [kV k, z]) } := Ev.outside hT
    refine ⟨{ m with H := upd m.H T (.tup [kV k, z]) }, rfl, e2, hS.outside hT kf, .tup (.inl (.inl upd_same)) (.cons ?_ (.cons (r.up (e2.up hS)) .nil))⟩
    rw [show k = kk p.1 from e1]
    exact rd_key p.1
  go0 := fun D u v hD hv => by
    have := getElem?_getD hv
    rw [List.length_map] at this
    exact ⟨by rw [upd_ne (ne_of_none h0 hD)]; exact h0, by omega⟩
  stop0 := fun D u hD hi => by
    rw [List.length_map] at hi
    exact ⟨by rw [upd_ne (ne_of_none h0 hD)]; exact h0, by omega⟩
  kfb := fun i H x H' y kf => by obtain ⟨T, k, z, _, rfl, hT, rfl⟩ := y; exact kf_outside hT kf
end
/-- where a sequence's items stand, whatever comes between -/
structure SqOk (cl : Cl) (m0 : Sm) (t : Bool) (a : Addr) (xs : List Val) (g : Hm → Prop) : Prop where
  at_ : ∀ m S, Ev m0 m → SH cl m S → g S → ∃ ws, Sqx t m0.K m.H a ws ∧ RDs m xs ws
  at0 : ∀ D o, m0.H D = none → ∃ ws, Sqx t m0.K (upd m0.H D o) a ws ∧ ws.length = xs.length
theorem it_enumX {t : Bool} {a : Addr} {items : List Val} {g : Hm → Prop} (A : SqOk cl m0 t a items g) : ItOk cl m0 (Iex m0.K t a) (enumL 0 items) g where
  go := fun i m S v e hS g hv => by
    obtain ⟨ws, q, rs⟩ := A.at_ m S e hS g
    rw [enumL_get] at hv
    cases hi : items[i]? with
    | none => rw [hi] at hv; cases hv
    | some d =>
      obtain ⟨x, hx, _⟩ := rs.get hi
      exact ⟨ws, x, q, hx⟩
  stop := fun i m S e hS g hi => by
    obtain ⟨ws, q, rs⟩ := A.at_ m S e hS g
    rw [enumL_len] at hi
    exact ⟨ws, q, by rw [← rs.length]; omega⟩
  yld := fun i m S v x H' e hS g hv y kf => by
    obtain ⟨T, z, rfl, hT, rfl, y⟩ := y
    obtain ⟨ws, q, rs⟩ := A.at_ m S e hS g
    rw [enumL_get] at hv
    cases hi : items[i]? with
    | none => rw [hi] at hv; cases hv
    | some d =>
      rw [hi] at hv
      cases hv
      obtain ⟨x', hx, r⟩ := rs.get hi
      rw [y ws q] at hx
      cases hx
      have e1 : Ev m { m with H := upd m.H T (.tup [.int (i : Nat), z]) } := Ev.outside hT
      refine ⟨{ m with H := upd m.H T (.tup [.int (i : Nat), z]) }, rfl, e1, hS.outside hT kf, .tup (.inl (.inl upd_same)) ?_⟩
      rw [Nat.zero_add]
      exact .cons (.int _) (.cons (r.up (e1.up hS)) .nil)
  go0 := fun D o v hD hv => by
    obtain ⟨ws, q, l⟩ := A.at0 D o hD
    have hi := getElem?_getD hv
    rw [enumL_len] at hi
    have h2 : 0 < ws.length := by omega
    exact ⟨ws, ws[0], q, List.getElem?_eq_getElem h2⟩
  stop0 := fun D o hD hi => by
    obtain ⟨ws, q, l⟩ := A.at0 D o hD
    rw [enumL_len] at hi
    exact ⟨ws, q, by omega⟩
  kfb := fun i H x H' y kf => by obtain ⟨T, z, rfl, hT, rfl, y⟩ := y; exact kf_outside hT kf
theorem it_zipX {t u : Bool} {a b : Addr} {xs ys : List Val} {g g' : Hm → Prop} (A : SqOk cl m0 t a xs g) (B : SqOk cl m0 u b ys g') : ItOk cl m0 (Itx m0.K t u a b) (pairL xs ys) (fun S => g S ∧ g' S) where
  go := fun i m S v e hS g hv => by
    obtain ⟨ps, q1, r1⟩ := A.at_ m S e hS g.1
    obtain ⟨qs, q2, r2⟩ := B.at_ m S e hS g.2
    obtain ⟨d, d', h2, h3, rfl⟩ := pairL_get xs ys i hv
    obtain ⟨x, hx, _⟩ := r1.get h2
    obtain ⟨x', hx', _⟩ := r2.get h3
    exact ⟨ps, qs, x, x', q1, q2, hx, hx'⟩
  stop := fun i m S e hS g hi => by
    obtain ⟨ps, q1, r1⟩ := A.at_ m S e hS g.1
    obtain ⟨qs, q2, r2⟩ := B.at_ m S e hS g.2
    rw [pairL_len] at hi
    have l1 := r1.length
    have l2 := r2.length
    exact ⟨ps, qs, q1, q2, by omega⟩
  yld := fun i m S v x H' e hS g hv y kf => by
    obtain ⟨T, z, z', rfl, hT, rfl, y, y'⟩ := y
    obtain ⟨ps, q1, r1⟩ := A.at_ m S e hS g.1
    obtain ⟨qs, q2, r2⟩ := B.at_ m S e hS g.2
    obtain ⟨d, d', h2, h3, rfl⟩ := pairL_get xs ys i hv
    obtain ⟨x, hx, r⟩ := r1.get h2
    obtain ⟨x', hx', r'⟩ := r2.get h3
    rw [y ps q1] at hx
    rw [y' qs q2] at hx'
    cases hx
    cases hx'
    have e1 : Ev m { m with H := upd m.H T (.tup [z, z']) } := Ev.outside hT
    exact ⟨{ m with H := upd m.H T (.tup [z, z']) }, rfl, e1, hS.outside hT kf, .tup (.inl (.inl upd_same)) (.cons (r.up (e1.up hS)) (.cons (r'.up (e1.up hS)) .nil))⟩
  go0 := fun D o v hD hv => by
    obtain ⟨ps, q1, l1⟩ := A.at0 D o hD
    obtain ⟨qs, q2, l2⟩ := B.at0 D o hD
    have hi := getElem?_getD hv
    rw [pairL_len] at hi
    have h2 : 0 < ps.length := by omega
    have h3 : 0 < qs.length := by omega
    exact ⟨ps, qs, ps[0], qs[0], q1, q2, List.getElem?_eq_getElem h2, List.getElem?_eq_getElem h3⟩
  stop0 := fun D o hD hi => by
    obtain ⟨ps, q1, l1⟩ := A.at0 D o hD
    obtain ⟨qs, q2, l2⟩ := B.at0 D o hD
    rw [pairL_len] at hi
    exact ⟨ps, qs, q1, q2, by omega⟩
  kfb := fun i H x H' y kf => by obtain ⟨T, z, z', rfl, hT, rfl, y⟩ := y; exact kf_outside hT kf
/-- a list or a tuple, as zip takes it -/
theorem sq_of {v : Val} {x : V} {S : Hm} {K : List Val → (Hm → Prop) → Prop} (hS : SH cl m0 S) (r : RD m0 v x) (h : ltOf v S K) : ∃ t a xs g, x = .ref a ∧ SqOk cl m0 t a xs g ∧ K xs g ∧ ∃ ws, Sqx t m0.K m0.H a ws := by
  cases v with
  | tup xs =>
    cases r with
    | @tup q vs _ hv rs =>
    have h : K xs fun _ => True := h
    exact ⟨true, q, xs, _, rfl, ⟨fun m S' e _ _ => ⟨vs, by have z := (e.up hS).tup q vs hv; rw [e.k] at z; exact z, rs.up (e.up hS)⟩, fun D o hD => ⟨vs, sqtUp hv hD, rs.length.symm⟩⟩, h, vs, hv⟩
  | ref n =>
    obtain ⟨xs, h1, h2⟩ := h
    cases r with
    | @ref _ q hq =>
    obtain ⟨vs, hv, rs⟩ := hS.lst h1 hq
    exact ⟨false, q, xs, _, rfl, ⟨fun m S' e hS' g => by
      obtain ⟨ws, z, rz⟩ := hS'.lst g (em_get e.em hq)
      rw [e.k] at z
      exact ⟨ws, z, rz⟩, fun D o hD => ⟨vs, sqlUp hv hD, rs.length.symm⟩⟩, h2, vs, hv⟩
  | _ => exact h.elim
end
end Mi

set_option maxHeartbeats 4000000
namespace Mi
open PySem PySem.Spec L2 PyProof.Rows
section
variable (P : Pg) (cl : Cl) (k : Nat) (X : Cx) (W : WX)
def tSrc (src : Src) : TI := fun σ H R => ∃ m env S, m.K = X.K ∧ m.H = H ∧ SH cl m S ∧ SV m env σ ∧ wSrc P.con (callW P k) (liftX cl X.mg m fun c d H => W c d σ H) src env S fun items g S' => ∀ m' J, Ev m m' → SH cl m' S' → ItOk cl m' J items g → R J m'.H
end
section
variable {P : Pg} {cl : Cl} {k : Nat} {X : Cx} {W : WX} {sc : Ko} {m m0 : Sm} {env : Env} {S : Hm} {σ : L2.St}
theorem tSrc_of {src : Src} {Q1 : List Val → (Hm → Prop) → Hm → Prop} {R : It → Hp → Prop} (hK : m.K = X.K) (hS : SH cl m S) (hV : SV m env σ) (e0 : Ev m0 m) (h : wSrc P.con (callW P k) (liftX cl X.mg m0 fun c d H => W c d σ H) src env S Q1)
    (hq : ∀ m1 J S1 items g, Ev m m1 → SH cl m1 S1 → ItOk cl m1 J items g → SV m1 env σ → Q1 items g S1 → R J m1.H) : tSrc P cl k X W src σ m.H R :=
  ⟨m, env, S, hK, rfl, hS, hV, wSrc_mono (callW_mono P k) (fun _ _ h1 => liftX.ev e0 h1) src (fun items g S1 h1 m1 J e1 hS1 ok => hq m1 J S1 items g e1 hS1 ok (hV.up (e1.up hS)) h1) h⟩
theorem PI.imp {tg e : Expr} {t t' : TI} (h : PI X tg e t) (f : ∀ σ H Q, t' σ H Q → t σ H Q) : PI X tg e t' := ⟨fun pins s σ H R I hw => h.run pins s σ H R I (f _ _ _ hw)⟩
variable {a b : E} {ea eb tg : Expr} {pos p : Pos}
/-- a list, a tuple or a text, walked -/
theorem pi_seq {e : Expr} {te : TE} (he : PE X e te) : PI X tg e (fun σ H R => te σ H fun x H1 => (∃ a xs, x = .ref a ∧ SqL X.K H1 a xs ∧ R (Itl X.K a) H1) ∨ (∃ a xs, x = .ref a ∧ SqT X.K H1 a xs ∧ R (Itt X.K a) H1) ∨ ∃ z, x = .str z ∧ R (Its z) H1) := by
  refine ⟨fun pins s σ H R I h => thn (he.run pins s σ H _ I h) fun v s1 ⟨x, H1, I1, r1, q1⟩ => ?_⟩
  rcases q1 with ⟨a, xs, rfl, hq, q⟩ | ⟨a, xs, rfl, hq, q⟩ | ⟨z, rfl, q⟩
  · cases r1
    obtain ⟨its, rv, p, _⟩ := I1.list hq
    exact wpAny_pyIter_list p.isList (pi_one (tk := s1.toks) I1 _ (turn_list a _) ⟨_, Heap.get?_push_size _ rfl, rfl, rfl⟩ q)
  · cases r1
    obtain ⟨its, rv, p, _⟩ := I1.tuple hq
    exact wpAny_pyIter_tuple (show s1.heap.IsTuple a its.toArray from p) (pi_one (tk := s1.toks) I1 _ (turn_tuple a _) ⟨_, Heap.get?_push_size _ rfl, rfl, rfl⟩ q)
  · obtain ⟨t, rfl⟩ := r1
    cases hz : z.cps.all (· < 128)
    · exact wpAny_pyIter_wide hz (pi_one (tk := s1.toks) I1 _ (turn_str _ z t "str_iterator" (.inr rfl)) ⟨_, Heap.get?_push_size _ rfl, rfl, rfl⟩ q)
    · exact wpAny_pyIter_ascii hz (pi_one (tk := s1.toks) I1 _ (turn_str _ z t "str_ascii_iterator" (.inl rfl)) ⟨_, Heap.get?_push_size _ rfl, rfl, rfl⟩ q)
theorem s_seq (ha : PE X ea (tE P cl k X W a)) : PI X tg ea (tSrc P cl k X W (.seq a)) :=
  PI.imp (pi_seq ha) fun σ H Q ⟨m, env, S, hK, eH, hS, hV, h⟩ => by
    subst eH
    simp only [wSrc] at h
    refine tE_of hK hS hV (Ev.refl m) h fun m1 x S1 v e1 hS1 r1 hV1 h1 => ?_
    have hK1 := e1.k.trans hK
    cases r1 with
    | str z => exact .inr (.inr ⟨_, rfl, h1 m1 _ e1 hS1 (it_str z)⟩)
    | @tup q xs ds hq rs =>
      have hq' := hq
      rw [hK1] at hq'
      refine .inr (.inl ⟨q, xs, rfl, hq', ?_⟩)
      have := it_tup hS1 hq rs
      rw [hK1] at this
      exact h1 m1 _ e1 hS1 this
    | @ref n q hq =>
      obtain ⟨ds, h2, h3⟩ := h1
      obtain ⟨vs, hv, rs⟩ := hS1.lst h2 hq
      have hv' := hv
      rw [hK1] at hv'
      refine .inl ⟨q, vs, rfl, hv', ?_⟩
      have := it_lst (cl := cl) hq hv rs.length
      rw [hK1] at this
      exact h3 m1 _ e1 hS1 this
    | _ => exact h1.elim
theorem s_rng1 (xo : XO P cl X k sc W) (hg : Gl X (Str.ofString "range")) (hs : notStar ea = true) (ha : PE X ea (tE P cl k X W a)) : PI X tg (.Call (.Name (Str.ofString "range") p) [ea] [] pos) (tSrc P cl k X W (.rng1 a)) :=
  PI.imp (pi_range1 hg (xo.ln.bi "range" (by decide)) (pa_cons ha pa_nil (star_cons hs)) (star_cons hs)) fun σ H Q ⟨m, env, S, hK, eH, hS, hV, h⟩ => by
    subst eH
    simp only [wSrc] at h
    refine tE_of hK hS hV (Ev.refl m) h fun m1 x S1 v e1 hS1 r1 hV1 h1 => ?_
    obtain ⟨j, rfl, h2, h3⟩ := h1
    cases r1
    exact ⟨j, rfl, h2.1, h2.2, h3 m1 _ e1 hS1 (it_rng 0 j.toNat)⟩
theorem s_rng2 (xo : XO P cl X k sc W) (hg : Gl X (Str.ofString "range")) (hs : notStar ea = true) (hs2 : notStar eb = true) (ha : PE X ea (tE P cl k X W a)) (hb : PE X eb (tE P cl k X W b)) : PI X tg (.Call (.Name (Str.ofString "range") p) [ea, eb] [] pos) (tSrc P cl k X W (.rng2 a b)) :=
  PI.imp (pi_range2 hg (xo.ln.bi "range" (by decide)) (pa_cons ha (pa_cons hb pa_nil (star_cons hs2)) (star_cons hs)) (by rw [star_cons hs, star_cons hs2]; rfl) (star_cons hs2)) fun σ H Q ⟨m, env, S, hK, eH, hS, hV, h⟩ => by
    subst eH
    simp only [wSrc] at h
    refine tE_of hK hS hV (Ev.refl m) h fun m1 x S1 v e1 hS1 r1 hV1 h1 => ?_
    refine tE_of (e1.k.trans hK) hS1 hV1 e1 h1 fun m2 y S2 w e2 hS2 r2 hV2 h2 => ?_
    obtain ⟨i, j, rfl, rfl, h3, h4, h5⟩ := h2
    cases r1
    cases r2
    exact ⟨i, j, rfl, ⟨h3.1, h3.2, h4.1, h4.2⟩, h5 m2 _ (e1.trans e2) hS2 (it_rng i (j - i).toNat)⟩
theorem s_rev (xo : XO P cl X k sc W) (hg : Gl X (Str.ofString "reversed")) (hs : notStar ea = true) (ha : PE X ea (tE P cl k X W a)) : PI X tg (.Call (.Name (Str.ofString "reversed") p) [ea] [] pos) (tSrc P cl k X W (.rev a)) :=
  PI.imp (RT.pi_revA hg (xo.ln.bi "reversed" (by decide)) ha (star_cons hs)) fun σ H Q ⟨m, env, S, hK, eH, hS, hV, h⟩ => by
    subst eH
    simp only [wSrc] at h
    refine tE_of hK hS hV (Ev.refl m) h fun m1 x S1 v e1 hS1 r1 hV1 h1 => ?_
    have hK1 := e1.k.trans hK
    cases r1 with
    | @tup q xs ds hq rs =>
      have hq' := hq
      rw [hK1] at hq'
      refine ⟨q, xs, rfl, .inr ⟨hq', ?_⟩⟩
      have := it_revT hS1 hq rs
      rw [hK1] at this
      exact h1 m1 _ e1 hS1 this
    | @ref n q hq =>
      obtain ⟨ds, h2, h3⟩ := h1
      obtain ⟨vs, hv, rs⟩ := hS1.lst h2 hq
      have hv' := hv
      rw [hK1] at hv'
      refine ⟨q, vs, rfl, .inl ⟨hv', ?_⟩⟩
      have := it_rev (cl := cl) hq hv rs.length
      rw [hK1] at this
      exact h3 m1 _ e1 hS1 this
    | _ => exact h1.elim
variable {elts : List Expr} {kk : Nat} {tpos : Pos}
theorem s_enum (xo : XO P cl X k sc W) (hg : Gl X (Str.ofString "enumerate")) (hs : notStar ea = true) (ha : PE X ea (tE P cl k X W a)) : PI X (.Tuple elts kk tpos) (.Call (.Name (Str.ofString "enumerate") p) [ea] [] pos) (tSrc P cl k X W (.enum a)) :=
  PI.imp (pi_enumX hg (xo.ln.bi "enumerate" (by decide)) (pa_cons ha pa_nil (star_cons hs)) (star_cons hs)) fun σ H Q ⟨m, env, S, hK, eH, hS, hV, h⟩ => by
    subst eH
    simp only [wSrc] at h
    refine tE_of hK hS hV (Ev.refl m) h fun m1 x S1 v e1 hS1 r1 hV1 h1 => ?_
    have hK1 := e1.k.trans hK
    obtain ⟨t, a, xs, g, rfl, A, h3, ps, q1⟩ := sq_of hS1 r1 h1
    rw [hK1] at q1
    have it := it_enumX A
    rw [hK1] at it
    exact ⟨t, a, ps, rfl, q1, h3 m1 _ e1 hS1 it⟩
theorem s_keys (ha : PE X ea (tE P cl k X W a)) : PI X tg ea (tSrc P cl k X W (.keys a)) :=
  PI.imp (pi_keys ha) fun σ H Q ⟨m, env, S, hK, eH, hS, hV, h⟩ => by
    subst eH
    simp only [wSrc] at h
    refine tE_of hK hS hV (Ev.refl m) h fun m1 x S1 v e1 hS1 r1 hV1 h1 => ?_
    obtain ⟨n, kvs, rfl, h2, h3⟩ := h1
    cases r1 with
    | @ref _ q hq =>
    obtain ⟨o, ws, h4, r⟩ := hS1.ob n _ q h2 hq
    exact ⟨q, o, rfl, .inl ⟨ws, h4, h3 m1 _ e1 hS1 (it_keys hq h4 r.length)⟩⟩
theorem s_vals {e : Expr} {apos cpos : Pos} (ha : PE X e (tE P cl k X W a)) (hbase : attributeBase e "values" X.env (eval e X.env) = eval e X.env) (hline : (apos.endLine == cpos.line) = true) : PI X tg (.Call (.Attribute e "values" apos) [] [] cpos) (tSrc P cl k X W (.values a)) :=
  PI.imp (pi_values ha hbase hline) fun σ H Q ⟨m, env, S, hK, eH, hS, hV, h⟩ => by
    subst eH
    simp only [wSrc] at h
    refine tE_of hK hS hV (Ev.refl m) h fun m1 x S1 v e1 hS1 r1 hV1 h1 => ?_
    obtain ⟨n, kvs, rfl, h2, h3⟩ := h1
    cases r1 with
    | @ref _ q hq =>
    obtain ⟨o, ws, h4, r⟩ := hS1.ob n _ q h2 hq
    exact ⟨q, o, ws, rfl, h4, h3 m1 _ e1 hS1 (it_vals hq h4 r.length)⟩
theorem s_items {e : Expr} {apos cpos : Pos} (ha : PE X e (tE P cl k X W a)) (hbase : attributeBase e "items" X.env (eval e X.env) = eval e X.env) (hline : (apos.endLine == cpos.line) = true) : PI X (.Tuple elts kk tpos) (.Call (.Attribute e "items" apos) [] [] cpos) (tSrc P cl k X W (.items a)) :=
  PI.imp (pi_items ha hbase hline) fun σ H Q ⟨m, env, S, hK, eH, hS, hV, h⟩ => by
    subst eH
    simp only [wSrc] at h
    refine tE_of hK hS hV (Ev.refl m) h fun m1 x S1 v e1 hS1 r1 hV1 h1 => ?_
    obtain ⟨n, kvs, rfl, h2, h3⟩ := h1
    cases r1 with
    | @ref _ q hq =>
    obtain ⟨o, ws, h4, r⟩ := hS1.ob n _ q h2 hq
    exact ⟨q, o, ws, rfl, h4, h3 m1 _ e1 hS1 (it_items hq h4 r.length)⟩
theorem s_zip (xo : XO P cl X k sc W) (hg : Gl X (Str.ofString "zip")) (hs : notStar ea = true) (hs2 : notStar eb = true) (ha : PE X ea (tE P cl k X W a)) (hb : PE X eb (tE P cl k X W b)) : PI X (.Tuple elts kk tpos) (.Call (.Name (Str.ofString "zip") p) [ea, eb] [] pos) (tSrc P cl k X W (.zip a b)) :=
  PI.imp (pi_zipX hg (xo.ln.bi "zip" (by decide)) (pa_cons ha (pa_cons hb pa_nil (star_cons hs2)) (star_cons hs)) (star_cons hs) (star_any (by simp [hs2]))) fun σ H Q ⟨m, env, S, hK, eH, hS, hV, h⟩ => by
    subst eH
    simp only [wSrc] at h
    refine tE_of hK hS hV (Ev.refl m) h fun m1 x S1 v e1 hS1 r1 hV1 h1 => ?_
    refine tE_of (e1.k.trans hK) hS1 hV1 e1 h1 fun m2 y S2 w e2 hS2 r2 hV2 h2 => ?_
    have hK2 := (e1.trans e2).k.trans hK
    obtain ⟨t, a, xs, g, rfl, A, h3, ps, q1⟩ := sq_of hS2 (r1.up (e2.up hS1)) h2
    obtain ⟨u, b, ys, g', rfl, B, h4, qs, q2⟩ := sq_of hS2 r2 h3
    rw [hK2] at q1 q2
    have it := it_zipX A B
    rw [hK2] at it
    exact ⟨t, u, a, b, ps, qs, rfl, q1, q2, h4 m2 _ (e1.trans e2) hS2 it⟩

/-! ### targets -/
def setN : List Nat → List V → L2.St → L2.St
  | i :: is, x :: xs, σ => setN is xs (σ.set i (some x))
  | _, _, σ => σ
def Tg.slots : Tg → List Nat
  | .nm i => [i]
  | .tp is => is
def tG (K : PySem.W.Frag) : Tg → TG
  | .nm i => fun v σ H Q => Q (σ.set i (some v)) H
  | .tp is => fun v σ H Q => ∃ a xs, v = .ref a ∧ SqT K H a xs ∧ xs.length = is.length ∧ Q (setN is xs σ) H
theorem PG.imp {tg : Expr} {t t' : TG} (h : PG X tg t) (f : ∀ v σ H Q, t' v σ H Q → t v σ H Q) : PG X tg t' := ⟨fun pins s σ H v u Q I r hw => h.run pins s σ H v u Q I r (f _ _ _ _ hw)⟩
theorem PG.pre {tg : Expr} {t : TG} (h : PG X tg t) : PG X tg (fun v σ H Q => KF X.K H → t v σ H Q) := ⟨fun pins s σ H v u Q I r hw => h.run pins s σ H v u Q I r (hw (kfree I))⟩
/-- a name that is stored -/
structure NmOk (X : Cx) (i : Nat) (e : Expr) : Prop where
  ok : ∃ x pos, e = .Name x pos ∧ X.N[i]? = some x ∧ Loc X.env.scope x ∧ (X.fn x = true ∨ X.env.scope.names.lookup x = some .local)
theorem g_nm {i : Nat} {e : Expr} (hN : X.N.Nodup) (h : NmOk X i e) : PG X e (gName i) := by
  obtain ⟨x, pos, rfl, h1, h2, h3⟩ := h.ok
  exact pg_name hN h1 h2 h3
def gNs : List Nat → TGs
  | [] => gNil
  | i :: is => gCons (gName i) (gNs is)
inductive NmsOk (X : Cx) : List Nat → List Expr → Prop where
  | nil : NmsOk X [] []
  | cons {i e is es} : NmOk X i e → NmsOk X is es → NmsOk X (i :: is) (e :: es)
theorem NmsOk.pgs {is es} (hN : X.N.Nodup) (h : NmsOk X is es) : PGs X es (gNs is) := by
  induction h with
  | nil => exact pgs_nil
  | cons h1 h2 ih =>
    refine pgs_cons (g_nm hN h1) ih ?_
    obtain ⟨x, pos, rfl, _⟩ := h1.ok
    rfl
theorem NmsOk.len {is es} (h : NmsOk X is es) : (assignEach es X.env).length = is.length := by
  induction h with
  | nil => rfl
  | cons h1 h2 ih =>
    obtain ⟨x, pos, rfl, _⟩ := h1.ok
    show (assignEach _ X.env).length + 1 = _
    rw [ih]
    rfl
theorem NmsOk.star {is es} (h : NmsOk X is es) : (assignEach es X.env).findIdx? (·.1) = none := by
  rw [List.findIdx?_eq_none_iff]
  induction h with
  | nil => intro x hx; cases hx
  | cons h1 h2 ih =>
    obtain ⟨x, pos, rfl, _⟩ := h1.ok
    intro y hy
    rcases List.mem_cons.mp hy with rfl | hy
    · rfl
    · exact ih y hy
theorem gNs_of : ∀ (is : List Nat) (xs : List V) (σ : L2.St) (H : Hp) (Q : L2.St → Hp → Prop), xs.length = is.length → Q (setN is xs σ) H → gNs is xs σ H Q
  | [], xs, σ, H, Q, hl, h => by
    cases xs with
    | nil => exact ⟨rfl, h⟩
    | cons _ _ => cases hl
  | i :: is, [], σ, H, Q, hl, h => by cases hl
  | i :: is, x :: xs, σ, H, Q, hl, h => ⟨x, xs, rfl, gNs_of is xs _ H Q (by simpa using hl) h⟩
inductive TgOk (X : Cx) : Tg → Expr → Prop where
  | nm {i e} : NmOk X i e → TgOk X (.nm i) e
  | tp {is es kk pos} : NmsOk X is es → TgOk X (.tp is) (.Tuple es kk pos)
theorem TgOk.pg {t e} (hN : X.N.Nodup) (hc : X.calm = true) (h : TgOk X t e) : PG X e (tG X.K t) := by
  cases h with
  | nm h => exact g_nm hN h
  | tp h => exact PG.imp (pg_tup hc (h.pgs hN) h.len h.star) fun v σ H Q ⟨a, xs, h1, h2, h3, h4⟩ => ⟨a, xs, h1, h2, h3, gNs_of _ _ _ _ _ h3 h4⟩
theorem SV.setN : ∀ {is : List Nat} {ds : List Val} {xs : List V} {env : Env} {σ : L2.St}, SV m env σ → RDs m ds xs → SV m ((is.zip ds).foldl (fun e p => es e p.1 (some p.2)) env) (setN is xs σ)
  | [], ds, xs, env, σ, h, r => by simpa [Mi.setN] using h
  | i :: is, _, _, env, σ, h, .nil => by simpa [Mi.setN] using h
  | i :: is, _, _, env, σ, h, .cons r rs => by
    simp only [List.zip_cons_cons, List.foldl_cons, Mi.setN]
    exact SV.setN (h.set r) rs
theorem tG_of {t : Tg} {d : Val} {x : V} {K1 : Env → Prop} {Q : L2.St → Hp → Prop} (hK : m.K = X.K) (r : RD m d x) (hV : SV m env σ) (h : tgW t d env K1) (hq : ∀ env' xs, K1 env' → SV m env' (setN t.slots xs σ) → Q (setN t.slots xs σ) m.H) : tG X.K t x σ m.H Q := by
  cases t with
  | nm i =>
    have := hq _ [x] h (by simpa [Tg.slots, setN] using hV.set r)
    simpa [Tg.slots, setN, tG] using this
  | tp is =>
    obtain ⟨ds, rfl, hl, h⟩ := h
    cases r with
    | @tup a xs _ hq' rs =>
    rw [hK] at hq'
    exact ⟨a, xs, rfl, hq', by rw [← rs.length]; exact hl, hq _ xs h (hV.setN rs)⟩
theorem wipe_get (σ : L2.St) : ∀ (vs : List Nat) (j : Nat), (L2.wipe σ vs)[j]? = if j ∈ vs then (σ[j]?).map fun _ => none else σ[j]?
  | [], j => by simp [L2.wipe]
  | v :: vs, j => by
    unfold L2.wipe
    rw [List.getElem?_set]
    by_cases h : v = j
    · subst h
      rw [if_pos rfl, if_pos List.mem_cons_self, L2.wipe_length]
      by_cases hl : v < σ.length
      · rw [if_pos hl, List.getElem?_eq_getElem hl]; rfl
      · rw [if_neg hl, List.getElem?_eq_none (by omega)]; rfl
    · rw [if_neg h, wipe_get]
      by_cases h2 : j ∈ vs
      · rw [if_pos h2, if_pos (List.mem_cons_of_mem _ h2)]
      · rw [if_neg h2, if_neg (by
          intro z
          rcases List.mem_cons.mp z with z | z
          · exact h z.symm
          · exact h2 z)]
theorem wipe_set {σ τ : L2.St} {vs : List Nat} {i : Nat} {x : Option V} (hi : i ∈ vs) (h : L2.wipe τ vs = L2.wipe σ vs) : L2.wipe (τ.set i x) vs = L2.wipe σ vs := by
  rw [← h]
  apply List.ext_getElem?
  intro j
  rw [wipe_get, wipe_get]
  by_cases hj : j ∈ vs
  · rw [if_pos hj, if_pos hj, List.getElem?_set]
    by_cases e : i = j
    · subst e
      rw [if_pos rfl]
      by_cases hl : i < τ.length
      · rw [if_pos hl, List.getElem?_eq_getElem hl]; rfl
      · rw [if_neg hl, List.getElem?_eq_none (by omega)]
    · rw [if_neg e]
  · rw [if_neg hj, if_neg hj, List.getElem?_set, if_neg (show ¬ i = j from fun e => hj (e ▸ hi))]
theorem wipe_wipe {σ : L2.St} {vs : List Nat} : L2.wipe (L2.wipe σ vs) vs = L2.wipe σ vs := by
  apply List.ext_getElem?
  intro j
  rw [wipe_get, wipe_get]
  by_cases hj : j ∈ vs
  · rw [if_pos hj, if_pos hj]
    cases σ[j]? <;> rfl
  · rw [if_neg hj, if_neg hj]
theorem wipe_setN {vs : List Nat} : ∀ {is : List Nat} {xs : List V} {σ τ : L2.St}, (∀ i ∈ is, i ∈ vs) → L2.wipe τ vs = L2.wipe σ vs → L2.wipe (setN is xs τ) vs = L2.wipe σ vs
  | [], _, σ, τ, _, h => by simpa [setN] using h
  | i :: is, [], σ, τ, _, h => by simpa [setN] using h
  | i :: is, x :: xs, σ, τ, hi, h => by
    simp only [setN]
    exact wipe_setN (fun j hj => hi j (List.mem_cons_of_mem _ hj)) (wipe_set (hi i List.mem_cons_self) h)
end
end Mi

set_option maxHeartbeats 4000000
namespace Mi
open PySem PySem.Spec L2 PyProof.Rows
/-- a wish that looks at the slots σ, whatever the block's own ones are -/
abbrev atS (W : WX) (σ : L2.St) : WX := fun c d _ H => W c d σ H
/-- the block of a comprehension, what calls let out within it goes to W at the slots σ -/
abbrev Cx.blkE (X : Cx) (W : WX) (σ : L2.St) (s : Shared) (H : Hp) (scope : Scope) (ce : PySem.Env) (fp : List Addr) : Cx :=
  (X.blk s H scope ce fp).tr [] (XF (X.blk s H scope ce fp) (atS W σ))
section
variable {X : Cx} {W : WX} {σ : L2.St} {pins : List (Addr × Obj)} {H : Hp} {s : Shared} {scope : Scope} {ce : PySem.Env} {fp : List Addr}
theorem toE {ρ : L2.St} {H' : Hp} {t : Shared} (I : Inv (X.blk s H scope ce fp) [] ρ H' t) : Inv (Cx.blkE X W σ s H scope ce fp) [] ρ H' t := I.toTry _
theorem ofE {ps : List (Addr × Obj)} {ρ : L2.St} {H' : Hp} {t : Shared} (I : Inv (Cx.blkE X W σ s H scope ce fp) ps ρ H' t) : Inv (X.blk s H scope ce fp) [] ρ H' t := Inv.ofTry (X := X.blk s H scope ce fp) (pins := []) I I.ok.ofTry
theorem blkE_tk : TkF (Cx.blkE X W σ s H scope ce fp) (atS W σ) := by
  rintro u t ⟨x, G, sG, ps, ρ, K, c, d, F, rfl, I, nb, up, fr, sky, nx, os, ag, w⟩
  exact ⟨x, G, sG, [], ρ, K, c, d, F, rfl, ofE I, nb, up, fr, sky, nx, os, ag, w⟩
theorem blkE_fr (fr : InFr X) (hf : ce.frame = X.env.frame) : InFr (Cx.blkE X W σ s H scope ce fp) := by
  obtain ⟨e0, out, F, h1, h2, h3⟩ := fr
  exact ⟨e0, out, F, h1, h2, hf.trans h3⟩
/-- what flies within the block goes on around it -/
theorem blk_err {L C : Addr} {u : Value} {t : Shared} {use : Option (Value → Sem Unit)} {Q : Value → Shared → Prop} {acc : Value} (fr : InFr X) (tk : TkF X W) (I : Inv X pins σ H s) (hf : ce.frame = X.env.frame) (hC : ce.locals = s.heap.objs.size)
    (hfp : ∀ b ∈ fp, FpOk X pins H b) (x : XF (X.blk s H scope ce fp) (atS W σ) u t) :
    notedBy (model X.prog X.w) X.A ce (fun e t' => blkEnd (model X.prog X.w) X.A X.xe use Q acc ce (.error e) t') u t := by
  obtain ⟨e0, out, F0, hs, hf0, hXf⟩ := fr
  have hfr : X.A.frames = some (e0 :: out) := by rw [I.ok.frames, hs]
  obtain ⟨a, B, sB, ps, ρ, K, c, d, F, rfl, J, nb, up, fr, sky, na, os, ag, w⟩ := x
  have hcf : ce.frame = some F := fr
  have eF : F = F0 := by
    rw [hf, hXf] at hcf
    exact (Option.some.inj hcf).symm
  subst eF
  have sky : Sky B (e0 :: out) a (L2N.Zn c d) F t.heap := by rw [← hs]; exact sky
  have nC : s.heap.objs.size ∉ frs X.stack := fun hm => by
    obtain ⟨_, o, ho, _⟩ := I.stack.mem hm
    exact absurd (Heap.lt_size ho) (Nat.lt_irrefl _)
  obtain ⟨m0, hn0, _⟩ := J.loc
  have hn0 : sB.heap.Ns ce.locals m0 := hn0
  rw [hC] at hn0
  obtain ⟨oC, _, _, hoC, _⟩ := hn0
  have inB : B.get? s.heap.objs.size = some oC := nb _ _ hoC nC
  show wpAny _ _ (noteFrame (.ref a) ce) _ _ t
  rw [note_eq (e0 := e0) (.ref a) (hcf.trans hf0.symm)]
  have fin : ∀ h1, HandSPX.HeldZ B (e0 :: out) a (L2N.Zn c d) F h1 → t.heap.UpToSlots h1 → blkEnd (model X.prog X.w) X.A X.xe use Q acc ce (.error (.ref a)) { t with heap := h1 } := fun h1 hh up1 => by
    have JL := J.landed (s' := { t with heap := h1 }) nb hh.1 (up.trans up1) os ag
    obtain ⟨m, hn, _⟩ := JL.loc
    refine ⟨m, hn, fun g sb => ?_⟩
    rw [hC] at sb
    obtain ⟨z1, z2, z3, oe, vs, T, oT, ts, q1, q2, q3, q4, q5, q6, q7, q8, q9⟩ := hh
    have aC : a ≠ s.heap.objs.size := fun z => by rw [z, inB] at z2; cases z2
    have tC : T ≠ s.heap.objs.size := fun z => by rw [z, inB] at q5; cases q5
    have B1 : ∀ b o, (PySem.W.hideAll B [s.heap.objs.size]).get? b = some o → B.get? b = some o ∧ b ≠ s.heap.objs.size := fun b o e => ⟨PySem.W.of_hideAll _ e, fun z => by
      rw [z, PySem.W.hideAll_none _ (.head _)] at e
      cases e⟩
    have B2 : ∀ b, B.get? b = none → (PySem.W.hideAll B [s.heap.objs.size]).get? b = none := fun b e => by
      cases q : (PySem.W.hideAll B [s.heap.objs.size]).get? b with
      | none => rfl
      | some o => rw [(B1 b o q).1] at e; cases e
    have hold : HandSPX.HeldZ (PySem.W.hideAll B [s.heap.objs.size]) (e0 :: out) a (L2N.Zn c d) F g :=
      ⟨fun b o e => (sb.2 b (B1 b o e).2).trans (z1 b o (B1 b o e).1), B2 a z2, frames_on z3 fun G hG => ⟨B2 G (z3.mem hG).1, sb.2 G fun z => nC (by rw [← z, hs]; exact hG)⟩,
        oe, vs, T, oT, ts, (sb.2 a aC).trans q1, q2, q3, q4, B2 T q5, q6, (sb.2 T tC).trans q7, q8, q9⟩
    obtain ⟨_, _, _, oe, vs, T, oT, ts, q1, q2, q3, q4, _⟩ := id hold
    unfold PySem.passOn
    refine wpAny_bind (wpAny_field q1 q3 q4 ?_)
    rw [if_neg (show ¬ ((Value.ref T == Value.none) = true) from fun z => by cases z)]
    have go : wpAny (model X.prog X.w) X.A (setFlight (.ref a) ce.frame) (fun _ t4 => wpAny (model X.prog X.w) X.A (throw (.ref a) : Sem Value) (fun _ _ => False) X.xe t4) X.xe { t with heap := g } := by
      rw [hcf]
      refine HandSPX.setFlight_onZ hold fun g4 hold4 up4 => wpAny_throw (tk _ _ ?_)
      have K0 : Inv X pins σ K sB := I.call' (ch := fp) J.os J.base J.hok J.bare fun b hb => ⟨(hfp b hb).2.2.2.1, (hfp b hb).2.1, (hfp b hb).2.2.2.2.1, (hfp b hb).2.2.2.2.2⟩
      have nK : K s.heap.objs.size = none := by
        have z : K ce.locals = none := J.free
        rwa [hC] at z
      obtain ⟨f0, f1, _, f3, f4, f5⟩ := I.fpOk (Nat.le_refl _) nK
      have K1 := K0.turned (t' := sB.toks) (h' := PySem.W.hideAll sB.heap [s.heap.objs.size]) (fun b o hb e => PySem.W.hideAll_get _ e (by simpa using hb)) f0 f1 f3 f4 f5
      have S1 : ∀ b o, (PySem.W.hideAll sB.heap [s.heap.objs.size]).get? b = some o → sB.heap.get? b = some o ∧ b ≠ s.heap.objs.size := fun b o e => ⟨PySem.W.of_hideAll _ e, fun z => by
        rw [z, PySem.W.hideAll_none _ (.head _)] at e
        cases e⟩
      refine ⟨a, PySem.W.hideAll B [s.heap.objs.size], _, pins, σ, K, c, d, F, rfl, K1, fun b o e hb => ?_, fun b o e nf => ?_, hXf, .inr (.inr (by rw [hs]; exact hold4)), na, os, ag, w⟩
      · obtain ⟨e1, hb1⟩ := S1 b o e
        exact PySem.W.hideAll_get _ (nb b o e1 hb) (by simpa using hb1)
      · obtain ⟨e1, hb1⟩ := S1 b o e
        obtain ⟨sl, e2⟩ := (up.trans up1) b o e1 nf
        have e3 : g.get? b = some { o with slots := sl } := (sb.2 b hb1).trans e2
        obtain ⟨sl2, e4⟩ := up4 b _ e3 nf
        exact ⟨sl2, e4⟩
    first
      | exact wpAny_bind (wpAny_pure (wpAny_bind go))
      | exact wpAny_bind go
  rcases sky with ⟨z1, z2, z3, oe, vs, q1, q2, q3, q4⟩ | fl | hh
  · exact PXN.look_newZ L2N.Zn.steady hfr z3 hf0 q1 z1 z2 q3 q4 q2 fin
  · exact PXN.looks_onZ L2N.Zn.steady hfr hf0 fl fin
  · exact HandSPX.againZ hf0 hh.2.2.2 (fin t.heap hh (Heap.UpToSlots.refl _))
end
end Mi

set_option maxHeartbeats 4000000
namespace Mi
open PySem PySem.Spec L2 PyProof.Rows
section
variable {X : Cx} {W : WX}
theorem no_err {α : Type} {M : Model} {A : Around} {t : Sem α} {Q1 Q2 : α → Shared → Prop} {E : Value → Shared → Prop} {s : Shared} (w : wpAny M A t Q1 (fun _ _ => False) s) (k : ∀ a s', Q1 a s' → Q2 a s') : wpAny M A t Q2 E s := wpAny_mono w k fun _ _ z => z.elim
theorem lcE_core {pins : List (Addr × Obj)} {s : Shared} {σ : L2.St} {H : Hp} {Q : VK} {elt tg iter : Expr} {ifs : List Expr} {scope : Scope} {own : List (Str × Nat)} {pos pos' : Pos} {wi : TI} {g : TG} {tt : TT} {te : TE} {use : Option (Value → Sem Unit)} {Qf : Value → Shared → Prop}
    (calm : X.calm = true) (nd : X.N.Nodup) (fr : InFr X) (tk : TkF X W) (I : Inv X pins σ H s) (src : PI X tg iter wi) (ok : BlkOk X.N X.env.scope scope own)
    (pgs : ∀ (s : Shared) (H : Hp) (C : Addr) (cs : List (Str × Addr)) (fp : List Addr), PG (Cx.blkE X W σ s H scope (compEnvC scope cs C X.env) fp) tg g)
    (pts : ∀ (s : Shared) (H : Hp) (C : Addr) (cs : List (Str × Addr)) (fp : List Addr), PTs (Cx.blkE X W σ s H scope (compEnvC scope cs C X.env) fp) ifs tt)
    (pes : ∀ (s : Shared) (H : Hp) (C : Addr) (cs : List (Str × Addr)) (fp : List Addr), PE (Cx.blkE X W σ s H scope (compEnvC scope cs C X.env) fp) elt te)
    (plain : ∀ x, foldedSetIterable iter X.env x = pure x) (want : tLc wi g tt te (own.map (·.2)) σ H Q)
    (done : ∀ D C t m K, Inv X pins σ K t → Q (.ref D) K → t.heap.Ns C m → FpOk X pins K C → compPost (model X.prog X.w) X.A X.xe use Qf (.ref D) C (.ok .next) t) :
    wpAny (model X.prog X.w) X.A (comprehension (.ListComp elt [⟨tg, iter, ifs, 0⟩] scope pos) scope X.env pos' (newList []) false (eval iter X.env) use) Qf X.xe s := by
  have cells : ∀ y ∈ scope.names, y.2 = .free → ∃ c, X.env.cells.lookup y.1 = some c := fun y hy e => I.ok.has _ (ok.free y hy e)
  refine comp_own rfl plain (closure_ok cells) ok.kind (fun y hy e => (ok.uniq y hy).trans (by rw [e])) (thn (src.run pins s σ H _ I want) fun xv t1 w1 => thn w1 fun itv t2 w2 => ?_)
  obtain ⟨it, fp, tn, J, K2, rfl, I2, T, at0, fp2, w3⟩ := w2
  refine wpAny_newObj_type (newEnv_comp ?_) (by show 0 ≤ sizeLine; decide)
  generalize eD : t2.heap.objs.size = D
  have noD : K2 D = none := I2.hok.fresh (Nat.le_of_eq eD)
  obtain ⟨V, ⟨n0, v0⟩, turn⟩ := w3 D noD
  generalize e3 : ({ t2 with heap := t2.heap.push { cls := .type "list", data := .seq ([] : List Value).toArray } } : Shared) = t3
  have h3 : t3.heap = t2.heap.push { cls := .type "list", data := .seq ([] : List Value).toArray } := by rw [← e3]
  have keep3 : ∀ b o, t2.heap.get? b = some o → t3.heap.get? b = some o := fun b o e => by rw [h3]; exact Heap.get?_push_of_some _ e
  have I3 : Inv X pins σ (upd K2 D (.lst [])) t3 := by
    rw [← e3]
    refine I2.laid (t' := t2.toks) (fun b o e => Heap.get?_push_of_some _ e) (Nat.le_of_eq eD) ⟨Nat.zero_le _, [], 0, .nil, ?_⟩
    rw [← eD]
    exact Heap.get?_push_size _ rfl
  have small : ∀ b ∈ fp, b < t2.heap.objs.size := fun b hb => let ⟨_, e, _⟩ := T.obj _ _ at0 b hb; Heap.lt_size e
  have fp3 : ∀ b ∈ fp, FpOk X pins (upd K2 D (.lst [])) b ∧ b < t3.heap.objs.size := fun b hb => by
    have lt := small b hb
    obtain ⟨y1, y2⟩ := fp2 b hb
    exact ⟨⟨by rw [upd_ne (fun z => by rw [z, eD] at lt; exact Nat.lt_irrefl _ lt)]; exact y1, y2⟩, by rw [h3, Heap.size_push]; exact Nat.lt_succ_of_lt lt⟩
  have at3 : tn 0 t3.heap := T.keep _ _ _ at0 fun b _ o e => keep3 b o e
  have I4 := block_start I3 ok nd fp3
  have pg := pgs t3 (upd K2 D (.lst [])) t3.heap.objs.size (cellsFrom (t3.heap.objs.size + 1) scope.names (cloFrom X.env.cells scope.names [])) fp
  have pt := pts t3 (upd K2 D (.lst [])) t3.heap.objs.size (cellsFrom (t3.heap.objs.size + 1) scope.names (cloFrom X.env.cells scope.names [])) fp
  have pe := pes t3 (upd K2 D (.lst [])) t3.heap.objs.size (cellsFrom (t3.heap.objs.size + 1) scope.names (cloFrom X.env.cells scope.names [])) fp
  show codeAny _ _ (.compStart _ 0 (.ref it) (.ref D) (compEnvC scope (cellsFrom (t3.heap.objs.size + 1) scope.names (cloFrom X.env.cells scope.names [])) t3.heap.objs.size X.env))
    (blkEnd (model X.prog X.w) X.A X.xe use Qf (.ref D) (compEnvC scope (cellsFrom (t3.heap.objs.size + 1) scope.names (cloFrom X.env.cells scope.names [])) t3.heap.objs.size X.env)) { t3 with heap := pushCells (t3.heap.push { cls := .type "dict", data := .dict #[] }) scope.names }
  have none3 : ∀ b ∈ fp, (upd K2 D (.lst [])) b = none := fun b hb => (fp3 b hb).1.1
  generalize ece : compEnvC scope (cellsFrom (t3.heap.objs.size + 1) scope.names (cloFrom X.env.cells scope.names [])) t3.heap.objs.size X.env = ce at I4 pg pt pe ⊢
  have ceL : ce.locals = t3.heap.objs.size := by rw [← ece]; rfl
  have ceF : ce.frame = X.env.frame := by rw [← ece]; rfl
  generalize eK : upd K2 D (.lst []) = K3 at I3 I4 pg pt pe v0 none3 fp3
  have I4 : Inv (Cx.blkE X W σ t3 K3 scope ce fp) [] (wipe σ (own.map (·.2))) K3 _ := toE I4
  generalize e4 : ({ t3 with heap := pushCells (t3.heap.push { cls := .type "dict", data := .dict #[] }) scope.names } : Shared) = t4 at I4 ⊢
  have at4 : tn 0 t4.heap := T.keep _ _ _ at3 fun b _ o e => by rw [← e4]; exact pushCells_keeps _ _ _ _ (Heap.get?_push_of_some _ e)
  have still : ∀ {ρ : L2.St} {K : Hp} {t : Shared}, Inv (Cx.blkE X W σ t3 K3 scope ce fp) [] ρ K t → (∀ b ∈ fp, K b = none) → ∀ b ∈ fp, FpOk (Cx.blkE X W σ t3 K3 scope ce fp) [] K b := fun {ρ K t} J n b hb =>
    ⟨n b hb, (J.ok.exf b hb).1, J.ok.exfs b hb, .inl hb, fun x c e => (J.ok.exf b hb).2 x c e, fun p hp => absurd (show p ∈ ([] : List (Addr × Obj)) ++ [] from hp) (by simp)⟩
  have err : ∀ u t, XF (X.blk t3 K3 scope ce fp) (atS W σ) u t → notedBy (model X.prog X.w) X.A ce (fun e t' => blkEnd (model X.prog X.w) X.A X.xe use Qf (.ref D) ce (.error e) t') u t := fun u t x => blk_err (L := it) (C := it) fr tk I3 ceF ceL (fun b hb => (fp3 b hb).1) x
  have also : ∀ {α : Type} {m : Sem α} {Q1 Q2 : α → Shared → Prop} {t : Shared}, wpAny (model X.prog X.w) X.A m Q1 (XF (X.blk t3 K3 scope ce fp) (atS W σ)) t → (∀ a t', Q1 a t' → Q2 a t') →
      wpAny (model X.prog X.w) X.A m Q2 (notedBy (model X.prog X.w) X.A ce fun e t' => blkEnd (model X.prog X.w) X.A X.xe use Qf (.ref D) ce (.error e) t') t := fun w k => wpAny_mono w k err
  have loop : codeAny (model X.prog X.w) X.A (.compLoop (.ListComp elt [⟨tg, iter, ifs, 0⟩] scope pos) 0 (.ref it) (.ref D) ce) (blkEnd (model X.prog X.w) X.A X.xe use Qf (.ref D) ce) t4 := by
    refine compLoop_any (fun n t => ∃ i K, Inv (Cx.blkE X W σ t3 K3 scope ce fp) [] (wipe σ (own.map (·.2))) K t ∧ tn i t.heap ∧ (∀ b ∈ fp, K b = none) ∧ V i n K) ?_ n0 ⟨0, K3, I4, at4, none3, v0⟩
    rintro n t5 ⟨i, K5, I5, at5, none5, v5⟩
    rcases turn i n K5 v5 with ⟨stop, q⟩ | ⟨go, Nx, nx, step⟩
    · refine no_err (T.done (Cx.blkE X W σ t3 K3 scope ce fp) rfl rfl rfl calm i [] t5 _ K5 (fun _ _ => False) I5 (still I5 none5) at5 stop) fun r t6 ⟨er, I6⟩ => ?_
      subst er
      have I7 : Inv X pins σ K5 t6 := I3.call' (ch := fp) I6.os I6.base I6.hok I6.bare fun b hb => ⟨(fp3 b hb).1.2.2.2.1, (fp3 b hb).1.2.1, (fp3 b hb).1.2.2.2.2.1, (fp3 b hb).1.2.2.2.2.2⟩
      obtain ⟨m, ns, _⟩ := I6.loc
      have nC : K5 ce.locals = none := I6.free
      have ns : t6.heap.Ns ce.locals m := ns
      show compPost _ _ _ _ _ _ ce.locals _ _
      rw [ceL] at nC ns ⊢
      exact done D _ t6 m K5 I7 q ns (I3.fpOk (Nat.le_refl _) nC)
    · refine no_err (T.item (Cx.blkE X W σ t3 K3 scope ce fp) rfl rfl rfl calm i [] t5 _ K5 (fun _ _ => False) I5 (still I5 none5) at5 go) fun r t6 ⟨u, er, w6⟩ => ?_
      subst er
      refine no_err w6 fun _ t7 ⟨x, K7, I7, r7, y7, at7, none7⟩ => ?_
      refine also (pg.run _ t7 _ K7 x u _ (I7.pinned (still I7 none7) (T.obj _ _ at7)) r7 (step x K7 y7)) fun _ t8 ⟨σ8, K8, I8, wipe8, w8⟩ => ?_
      refine also (pt.run _ t8 σ8 K8 _ I8 w8) fun b t9 ⟨K9, I9, w9⟩ => ?_
      have turned : ∀ {t : Shared} {K : Hp}, Inv (Cx.blkE X W σ t3 K3 scope ce fp) ([] ++ pinsAt fp t7.heap) σ8 K t → Nx K → ∃ m, m < n ∧ ∃ i K, Inv (Cx.blkE X W σ t3 K3 scope ce fp) [] (wipe σ (own.map (·.2))) K t ∧ tn i t.heap ∧ (∀ b ∈ fp, K b = none) ∧ V i m K := fun {t K} J z => by
        obtain ⟨m, lt, v⟩ := nx K z
        have fix : ∀ b ∈ fp, ∀ o, t7.heap.get? b = some o → t.heap.get? b = some o ∧ K b = none := fun b hb o e => let y := J.pin (b, o) (List.mem_append_right _ (List.mem_append_right _ (mem_pinsAt hb e))); ⟨y.1, y.2.1⟩
        refine ⟨m, lt, i + 1, K, (J.unpinned (pins := [])).weak (by rw [← wipe8, wipe_length]) (fun j v e => (wipe_some (by rw [wipe8]; exact e)).1), T.keep _ _ _ at7 fun b hb o e => (fix b hb o e).1, fun b hb => ?_, v⟩
        obtain ⟨o, e, _⟩ := T.obj _ _ at7 b hb
        exact (fix b hb o e).2
      cases b with
      | false =>
        simp only [Bool.false_eq_true, if_false] at w9 ⊢
        exact turned I9 w9
      | true =>
        simp only [if_true] at w9 ⊢
        refine also (pe.run _ t9 σ8 K9 _ I9 w9) fun z t10 ⟨y, K10, I10, r10, acc, l10, sz10, w10⟩ => ?_
        exact app_ok (X := Cx.blkE X W σ t3 K3 scope ce fp) I10 l10 sz10 r10 fun t11 I11 => turned I11 w10
  exact codeAny_compStart_list loop (T.self X.A 0 _ _ _ at4 loop)
/-- the block's slots σ held to -/
def tLcE (wi : TI) (g : TG) (tt : L2.St → TT) (te : L2.St → TE) (vs : List Nat) : TE := fun σ H Q => tLc wi g (tt σ) (te σ) vs σ H Q
theorem peE_lc {elt tg iter : Expr} {ifs : List Expr} {scope : Scope} {own : List (Str × Nat)} {pos : Pos} {wi : TI} {g : TG} {tt : L2.St → TT} {te : L2.St → TE} (calm : X.calm = true) (nd : X.N.Nodup) (fr : InFr X) (tk : TkF X W) (src : PI X tg iter wi) (ok : BlkOk X.N X.env.scope scope own)
    (pgs : ∀ (σ : L2.St) (s : Shared) (H : Hp) (C : Addr) (cs : List (Str × Addr)) (fp : List Addr), PG (Cx.blkE X W σ s H scope (compEnvC scope cs C X.env) fp) tg g)
    (pts : ∀ (σ : L2.St) (s : Shared) (H : Hp) (C : Addr) (cs : List (Str × Addr)) (fp : List Addr), PTs (Cx.blkE X W σ s H scope (compEnvC scope cs C X.env) fp) ifs (tt σ))
    (pes : ∀ (σ : L2.St) (s : Shared) (H : Hp) (C : Addr) (cs : List (Str × Addr)) (fp : List Addr), PE (Cx.blkE X W σ s H scope (compEnvC scope cs C X.env) fp) elt (te σ))
    (plain : ∀ x, foldedSetIterable iter X.env x = pure x) : PE X (.ListComp elt [⟨tg, iter, ifs, 0⟩] scope pos) (tLcE wi g tt te (own.map (·.2))) := by
  refine ⟨fun pins s σ H Q I want => ?_⟩
  rw [eval_ListComp]
  refine lcE_core calm nd fr tk I src ok (pgs σ) (pts σ) (pes σ) plain want fun D C t m K I' q ns ⟨f0, f1, f2, f3, f4, f5⟩ => ⟨m, ns, fun g sb => ?_⟩
  exact ⟨.ref D, K, I'.turned (t' := t.toks) (fun b o hb e => (sb.2 b hb).trans e) f0 f1 f3 f4 f5, rfl, q⟩
/-- name = [..] on one line, the name a local -/
theorem psE_setLc {i : Nat} {y : Str} {py : Pos} {elt tg iter : Expr} {ifs : List Expr} {scope : Scope} {own : List (Str × Nat)} {pos spos : Pos} {wi : TI} {g : TG} {tt : L2.St → TT} {te : L2.St → TE} (calm : X.calm = true) (nd : X.N.Nodup) (fr : InFr X) (tk : TkF X W) (hy : X.N[i]? = some y)
    (hyl : X.env.scope.names.lookup y = some .local) (sw : swapsWith (.ListComp elt [⟨tg, iter, ifs, 0⟩] scope pos) (some (.Name y py)) spos.line X.env = pure true) (src : PI X tg iter wi) (ok : BlkOk X.N X.env.scope scope own)
    (pgs : ∀ (σ : L2.St) (s : Shared) (H : Hp) (C : Addr) (cs : List (Str × Addr)) (fp : List Addr), PG (Cx.blkE X W σ s H scope (compEnvC scope cs C X.env) fp) tg g)
    (pts : ∀ (σ : L2.St) (s : Shared) (H : Hp) (C : Addr) (cs : List (Str × Addr)) (fp : List Addr), PTs (Cx.blkE X W σ s H scope (compEnvC scope cs C X.env) fp) ifs (tt σ))
    (pes : ∀ (σ : L2.St) (s : Shared) (H : Hp) (C : Addr) (cs : List (Str × Addr)) (fp : List Addr), PE (Cx.blkE X W σ s H scope (compEnvC scope cs C X.env) fp) elt (te σ))
    (plain : ∀ x, foldedSetIterable iter X.env x = pure x) : PS X (.Assign [.Name y py] (.ListComp elt [⟨tg, iter, ifs, 0⟩] scope pos) spos) (tAsg (tLcE wi g tt te (own.map (·.2))) (gName i)) := by
  refine ⟨fun pins s σ H D I want => ?_⟩
  rw [exec_Assign_Name_used _ _ _ _ sw]
  refine wpAny_bind (wpAny_standAt (wpAny_bind ?_))
  show wpAny _ X.A (do let _ ← comprehension _ scope X.env (firstIterPos [⟨tg, iter, ifs, 0⟩] pos) (newList []) false (eval iter X.env) (some (assign (.Name y py) X.env))) _ _ s
  have want : tLc wi g (tt σ) (te σ) (own.map (·.2)) σ H (fun x K => gName i x σ K D.nx) := want
  refine wpAny_bind (thn (lcE_core (Qf := fun _ t => SP X pins D .next t) calm nd fr tk I src ok (pgs σ) (pts σ) (pes σ) plain want fun L C t m K I' q ns ⟨f0, f1, f2, f3, f4, f5⟩ => ?_) fun _ t q => wpAny_pure (wpAny_pure q))
  show wpAny _ _ (assign (.Name y py) X.env (.ref L)) _ _ _
  refine wpAny_assign_Name (store_ok2 (v := V.ref L) I' nd hy (.inl hyl) rfl (fun t2 I2 ⟨a, sb, ha⟩ => ?_) (.inr hyl))
  have Ca : C ≠ a := by
    rcases ha with z | z
    · rw [z]; exact f1
    · exact fun e => f4 y a z e.symm
  exact ⟨m, ns.sameBut sb Ca, fun g3 sb3 => ⟨_, K, I2.turned (t' := t2.toks) (fun b o hb e => (sb3.2 b hb).trans e) f0 f1 f3 f4 f5, q⟩⟩
end
end Mi

set_option maxHeartbeats 4000000
/-! sum([int(x) for x in xs]) while an exception is handled, xs a list of bools -/
namespace Mi
open PySem PySem.Spec L2 PyProof.Rows HotX
section
variable {prog : Program} {w : World} {A : Around} {E : Value → Shared → Prop} {s : Shared}
theorem list_end_hot {it l x1 : Addr} {i : Nat} {items : Array Value} {Q : Option Value → Shared → Prop} (hot : HotAt A x1 s.heap) (hne : x1 ≠ it) (hit : s.heap.IsListIter it l i) (hl : s.heap.IsList l items) (hx : items[i]? = none)
    (hQ : ∀ h', (∀ b o, b ≠ it → s.heap.get? b = some o → h'.get? b = some o) → Q none { s with heap := h' }) : wpAny (model prog w) A (pyNext (.ref it)) Q E s := by
  obtain ⟨hh, o1, vs1, h1, d1, c1⟩ := hot
  obtain ⟨o, ho, hc, hd⟩ := id hit
  obtain ⟨ol, hol, _, nl, hdl⟩ := hl
  unfold pyNext
  refine wpAny_bind (wpAny_attempt (wpAny_callSpecial?_slot (name := Str.ofString "__next__") hit.typeIs slot_listiter_next
    (wpAny_call_entry slot_listiter_next hit.typeIs entry_listiter_next ?_ (args_listiter_next _))))
  show wpAny _ _ (field (.ref it) 0 >>= _) _ _ s
  refine wpAny_bind (wpAny_field ho hd (x := .ref l) rfl ?_)
  show wpAny _ _ (if (Value.ref l == Value.none) = true then _ else _) _ _ s
  rw [if_neg (show ¬ ((Value.ref l == Value.none) = true) from Bool.false_ne_true)]
  show wpAny _ _ (field (.ref it) 1 >>= _) _ _ s
  refine wpAny_bind (wpAny_field ho hd (x := .int i 0) rfl ?_)
  show wpAny _ _ (seqItems? (.ref l) >>= _) _ _ s
  refine wpAny_bind (wpAny_seqItems hol hdl ?_)
  simp only [Int.toNat_natCast, hx]
  refine wpAny_bind (wpAny_rule (wpAny_bind (wpAny_setField ho hd (by simp) ?_)))
  show wpAny _ _ (newExc (.type "StopIteration") [] >>= _) _ _ _
  refine wpAny_bind ?_
  simp only [newExc, newTuple]
  refine wpAny_bind (wpAny_newObj_type ?_ (by size_fits))
  refine wpAny_bind (m := firstArgMember _ _) (wpAny_of_eq (a := Value.none) (by first | rfl | (simp only [firstArgMember]; rfl)) ?_)
  refine wpAny_newObj_type ?_ (by size_fits)
  have k0 : ∀ b ob, b ≠ it → s.heap.get? b = some ob → (s.heap.update it (Obj.mapFields (·.setIfInBounds 0 .none))).get? b = some ob := fun b ob hb e => (Heap.get?_update_other _ _ (Ne.symm hb)).trans e
  have h1' := k0 _ _ hne h1
  refine raiseNew_hot ⟨hh, o1, vs1, Heap.get?_push_of_some _ (Heap.get?_push_of_some _ h1'), d1, c1⟩ (Nat.ne_of_lt (Heap.lt_size (Heap.get?_push_of_some _ h1'))) (Heap.get?_push_size _ rfl) rfl (by first | (simp; done) | (simp; omega) | (simp only [Array.size_append]; simp; omega)) ?_
  refine wpAny_bind (wpAny_isInstance (T := "StopIteration") (b := true) ⟨_, Heap.get?_update_self _ (Heap.get?_push_size _ rfl) rfl, rfl⟩ isSubtype_stop ?_)
  refine wpAny_pure (hQ _ fun b ob hb e => ?_)
  have e := k0 _ _ hb e
  rw [Heap.get?_update_other _ _ (Nat.ne_of_gt (Heap.lt_size (Heap.get?_push_of_some _ e)))]
  exact Heap.get?_push_of_some _ (Heap.get?_push_of_some _ e)
theorem walks_hot {x1 : Addr} {ox : Obj} {vx : Array Value} (hh : A.handled = some (.ref x1)) (dx : ox.data = .fields vx) (cx : vx[2]? = some .none) (I l : Addr) (hne : l ≠ I) (hx : x1 ≠ I) (items : Array Value) :
    Walks prog w A I [I, l, x1] [I] items.size (fun i v => items[i]? = some v) (fun i h => h.IsListIter I l i ∧ h.IsList l items ∧ h.get? x1 = some ox) where
  sub := fun b hb => by simp at hb; simp [hb]
  frame := fun _ _ _ st hk => ⟨st.1.at fun o e => hk I (by simp) o e, st.2.1.at fun o e => hk l (by simp) o e, hk x1 (by simp) _ st.2.2⟩
  item := fun i s Q E hi st hQ => by
    refine wpAny_pyNext_list_item st.1 st.2.1 (x := items[i]) (by simp [hi]) fun h' hit' hs' => ?_
    exact hQ _ h' s.toks (by simp [hi]) ⟨hit', st.2.1.extBut hs'.extBut hne, hs'.extBut _ _ hx st.2.2⟩ fun b o hb e => hs'.extBut b o (fun h => hb (by simp [h])) e
  done := fun s Q E st hQ => list_end_hot ⟨hh, ox, vx, st.2.2, dx, cx⟩ hx st.1 st.2.1 (by simp) fun h' he' => hQ h' s.toks fun b o hb e => he' b o (fun h => hb (by simp [h])) e
  self := fun _ _ _ _ st hQ => wpAny_pyIter_listiter st.1 hQ
end
theorem paired_get {α β : Type} {F : α → β → Prop} : ∀ {xs : List α} {ys : List β} {i : Nat} {a : α}, Paired F xs ys → xs[i]? = some a → ∃ b, ys[i]? = some b ∧ F a b
  | _, _, 0, _, .cons h _, e => by simp at e; subst e; exact ⟨_, rfl, h⟩
  | _, _, i + 1, _, .cons _ h, e => by
    obtain ⟨b, h1, h2⟩ := paired_get (i := i) h (by simpa using e)
    exact ⟨b, by simpa using h1, h2⟩
/-- how many are true -/
def onesV (bs : List Bool) : Nat → Int := fun i => if bs[i]? = some true then 1 else 0
/-- a comprehension's own names: x a local, int the built-in -/
structure SumSc (scope : Scope) (x : Str) : Prop where
  kind : scope.kind = .function
  free : ∀ y ∈ scope.names, y.2 ≠ .free
  cell : ∀ y ∈ scope.names, y.2 ≠ .cell
  uniq : ∀ y ∈ scope.names, y.2 = .local → scope.names.lookup y.1 = some .local
  loc : scope.names.lookup x = some .local
  int : scope.names.lookup (Str.ofString "int") = some .globalImplicit
def tSumI (K : PySem.W.Frag) (ta : TE) : TE := fun σ H Q => ta σ H fun v H1 => ∃ (a : Addr) (bs : List Bool), v = .ref a ∧ SqL K H1 a (bs.map V.bl) ∧ Q (.int (preSum (onesV bs) bs.length)) H1
theorem pe_sumInts {X : Cx} {iter : Expr} {ta : TE} {x : Str} {scope : Scope} {p0 p1 p2 p3 p4 p5 pos : Pos} (hc : L2H.HotC X) (hgs : Gl X "sum") (hms : X.mg "sum" = none) (hmi : X.mg "int" = none) (ss : SumSc scope x) (hxd : (x == ("__debug__" : Str)) = false) (ha : PE X iter ta) (hf : ∀ z, foldedSetIterable iter X.env z = pure z) :
    PE X (.Call (.Name "sum" p0) [.ListComp (.Call (.Name "int" p1) [.Name x p2] [] p3) [⟨.Name x p4, iter, [], 0⟩] scope p5] [] pos) (tSumI X.K ta) := by
  refine ⟨fun pins s σ H Q I h => ?_⟩
  obtain ⟨p, ⟨hh, vx, dx, cx⟩, hp⟩ := hc
  refine wpAny_Call_Name_kw (ld_blt I hgs hms boot_sum ?_)
  refine PyProof.Rows.callWith_builtin1 ?_ rfl rfl
  show wpAny _ _ (spliced [(false, eval (.ListComp (.Call (.Name "int" p1) [.Name x p2] [] p3) [⟨.Name x p4, iter, [], 0⟩] scope p5) X.env)]) _ _ s
  refine Calls.spliced_cons ?_
  refine wpAny_ListComp_walk (fun _ => true) (fun v y => ∃ (b : Bool) (t : Tok), v = .bool b ∧ y = .int (if b then 1 else 0) t) ss.free ss.cell ss.kind ss.uniq ss.loc (thn (ha.run pins s σ H _ I h) fun u s1 ⟨v, H1, I1, r1, q1⟩ => ?_) hf
  obtain ⟨a, bs, ev, hq, q⟩ := q1
  subst ev
  obtain rfl : u = Value.ref a := r1
  obtain ⟨its, rv, pl, hsz⟩ := I1.list hq
  have hl : s1.heap.IsList a its.toArray := pl.isList
  have hx1 := (I1.pin p (List.mem_append_left _ hp)).1
  have la : a < s1.heap.objs.size := let ⟨_, e, _⟩ := hl; Heap.lt_size e
  have lx : p.1 < s1.heap.objs.size := Heap.lt_size hx1
  refine wpAny_pyIter_list hl ?_
  have hlen : its.length = bs.length := by rw [← rv.length, List.length_map]
  have item : ∀ (i : Nat) (v : Value), its.toArray[i]? = some v → ∃ b, bs[i]? = some b ∧ v = .bool b := fun i v e => by
    have e : its[i]? = some v := by simpa using e
    have hi : i < bs.length := by rw [← hlen]; exact (List.getElem?_eq_some_iff.mp e).1
    obtain ⟨u2, e2, r2⟩ := rv.get (i := i) (x := V.bl bs[i]) (by rw [List.getElem?_map, List.getElem?_eq_getElem hi]; rfl)
    rw [e] at e2
    cases e2
    exact ⟨bs[i], List.getElem?_eq_getElem hi, r2⟩
  have keep0 : ∀ b o, s1.heap.get? b = some o → (s1.heap.push { cls := .type "list_iterator", data := .fields #[.ref a, .int 0 0] }).get? b = some o := fun b o e => Heap.get?_push_of_some _ e
  refine ⟨s1.heap.objs.size, _, _, _, _, _, rfl, walks_hot (ox := p.2) hh dx cx _ a (Nat.ne_of_lt la) (Nat.ne_of_lt lx) its.toArray, by rw [List.size_toArray, hlen, ← List.length_map (f := V.bl)]; exact hsz, ⟨⟨_, Heap.get?_push_size _ rfl, rfl, rfl⟩, hl.push _, keep0 _ _ hx1⟩, fun b hb => ?_, ⟨fun C i v s₃ m₃ E' _ _ _ _ _ => ?_, fun C i v s₃ m₃ E' hv _ hn hm hk _ => ?_⟩, fun D h' tk ys vs hD hlD _ hvl hvP hF hk => ?_⟩
  · show b < (s1.heap.push _).objs.size
    rw [Heap.size_push]
    simp only [List.mem_cons, List.not_mem_nil, or_false] at hb
    rcases hb with rfl | rfl | rfl
    · exact Nat.lt_succ_self _
    · exact Nat.lt_succ_of_lt la
    · exact Nat.lt_succ_of_lt lx
  · simp only [List.forIn_nil]
    exact wpAny_pure ⟨rfl, _, _, rfl, fun _ _ e => e⟩
  · obtain ⟨b, _, rfl⟩ := item i v hv
    obtain ⟨mb, z1, z2⟩ := I1.mod.blt
    have bk : ∀ b o, X.base.get? b = some o → s₃.heap.get? b = some o := fun b o e => by
      have e1 := I1.bk b o e
      exact hk b o (fun z => by rw [List.mem_singleton.mp z] at e1; exact absurd (Heap.lt_size e1) (Nat.lt_irrefl _)) (keep0 _ _ e1)
    refine wpAny_Call_Name_kw (Calls.Name_function_global (env := compEnv scope C X.env) ss.kind ss.int (Calls.loadGlobal_builtin (by show s₃.heap.Ns X.env.globals _; rw [I1.ok.glob]; exact I1.mod.glob.keeps bk) hmi (by show s₃.heap.Ns X.env.builtins _; rw [I1.ok.blt]; exact z1.keeps bk) ((z2 "int" (by decide)).trans PyProof.Rows.boot_int) ?_) (by decide))
    refine PyProof.Rows.callWith_type1 ?_ rfl rfl
    show wpAny _ _ (spliced [(false, eval (.Name x p2) (compEnv scope C X.env))]) _ _ s₃
    refine Calls.spliced_cons (wpAny_Name (wpAny_loadName_local ss.kind ss.loc hn hm (Calls.spliced_nil ?_)) hxd)
    exact call_int_bool ⟨⟨b, _, rfl, rfl⟩, _, _, rfl, fun _ _ e => e⟩
  · refine Calls.spliced_nil ?_
    have hold : ∀ b o, s1.heap.get? b = some o → h'.get? b = some o := fun b o e => hk b o (fun z => by rw [List.mem_singleton.mp z] at e; exact absurd (Heap.lt_size e) (Nat.lt_irrefl _)) (keep0 _ _ e)
    have hx2 := hold _ _ hx1
    have lD : D < h'.objs.size := let ⟨_, e, _⟩ := hlD; Heap.lt_size e
    have ft : vs.filter (fun _ => true) = vs := List.filter_eq_self.mpr fun _ _ => rfl
    rw [ft] at hF
    have ylen : ys.size = bs.length := by
      have e1 := hF.length
      have e2 : ys.toList.length = ys.size := by simp
      rw [List.size_toArray] at hvl
      omega
    have yitem : ∀ (i : Nat) (v : Value), ys[i]? = some v → ∃ t, v = .int (onesV bs i) t := fun i v e => by
      have hi : i < ys.size := (Array.getElem?_eq_some_iff.mp e).1
      have hiv : i < vs.length := by rw [hvl, List.size_toArray, hlen, ← ylen]; exact hi
      obtain ⟨y, e2, b, t, e3, e4⟩ := paired_get hF (List.getElem?_eq_getElem hiv)
      have e5 : ys.toList[i]? = some v := by simpa using e
      rw [e5] at e2
      cases e2
      obtain ⟨b', e6, e7⟩ := item i _ (hvP i _ (List.getElem?_eq_getElem hiv))
      rw [e7] at e3
      cases e3
      refine ⟨t, ?_⟩
      rw [e4]
      unfold onesV
      rw [e6]
      cases b <;> rfl
    refine call_sum_walkG (wpAny_pyIter_list hlD ?_)
    refine ⟨h'.objs.size, _, _, _, _, _, onesV bs, rfl, walks_hot (A := X.A.in1) (ox := p.2) hh dx cx _ D (Nat.ne_of_lt lD) (Nat.ne_of_lt (Heap.lt_size hx2)) ys, ⟨⟨_, Heap.get?_push_size _ rfl, rfl, rfl⟩, hlD.push _, Heap.get?_push_of_some _ hx2⟩, fun b hb => ?_, yitem, fun h'' tk'' t'' hk'' => ?_⟩
    · show b < (h'.push _).objs.size
      rw [Heap.size_push]
      simp only [List.mem_cons, List.not_mem_nil, or_false] at hb
      rcases hb with rfl | rfl | rfl
      · exact Nat.lt_succ_self _
      · exact Nat.lt_succ_of_lt lD
      · exact Nat.lt_succ_of_lt (Heap.lt_size hx2)
    · refine ⟨.int (preSum (onesV bs) bs.length), H1, ?_, ⟨t'', by rw [ylen]⟩, q⟩
      exact I1.kept (t' := tk'') fun b o e => hk'' b o (fun z => by rw [List.mem_singleton.mp z] at e; exact absurd (Heap.lt_size (hold _ _ e)) (Nat.lt_irrefl _)) (Heap.get?_push_of_some _ (hold _ _ e))
end Mi
namespace Mi
open PySem PySem.Spec L2 PyProof.Rows
theorem ones_app : ∀ (bs : List Bool) (b : Bool), onesB (bs ++ [b]) = onesB bs + if b then 1 else 0
  | [], b => by simp [onesB]
  | c :: bs, b => by simp only [List.cons_append, onesB, ones_app bs b]; omega
theorem ones_take (bs : List Bool) : ∀ n, n ≤ bs.length → preSum (onesV bs) n = onesB (bs.take n)
  | 0, _ => rfl
  | n + 1, h => by
    have hi : bs[n]? = some bs[n] := List.getElem?_eq_getElem h
    rw [preSum, ones_take bs n (by omega), List.take_add_one, hi]
    show _ = onesB (bs.take n ++ [bs[n]])
    rw [ones_app]
    unfold onesV
    rw [hi]
    cases bs[n] <;> rfl
theorem ones_all (bs : List Bool) : preSum (onesV bs) bs.length = onesB bs := by rw [ones_take bs _ (Nat.le_refl _), List.take_length]
section
variable {P : Pg} {cl : Cl} {k : Nat} {X : Cx} {W : WX} {o : Ko} {a : E} {ea : Expr}
theorem bls_rd {m : Sm} : ∀ {bs : List Bool} {vs : List V}, RDs m (bs.map Val.bl) vs → vs = bs.map V.bl
  | [], _, .nil => rfl
  | b :: bs, _, .cons h r => by
    cases h
    rw [bls_rd r]
    rfl
theorem e_sumInts {x : Str} {scope : Scope} {p0 p1 p2 p3 p4 p5 pos : Pos} (xo : XO P cl X k o W) (hot : o.hot = true) (hgs : Gl X (Str.ofString "sum")) (ss : SumSc scope x) (hxd : (x == ("__debug__" : Str)) = false) (ha : PE X ea (tE P cl k X W a)) (hf : ∀ z, foldedSetIterable ea X.env z = pure z) :
    PE X (.Call (.Name (Str.ofString "sum") p0) [.ListComp (.Call (.Name (Str.ofString "int") p1) [.Name x p2] [] p3) [⟨.Name x p4, ea, [], 0⟩] scope p5] [] pos) (tE P cl k X W (.vi .sumInts (.cons a .nil))) := by
  have hc : L2H.HotC X := by
    obtain ⟨q, c, h1, h2, _⟩ := xo.zx hot
    exact ⟨q, h1, h2⟩
  refine PE.imp (PE.kf (pe_sumInts hc hgs (xo.ln.bi "sum" (by decide)) (xo.ln.bi "int" (by decide)) ss hxd ha hf)) fun σ H Q ⟨m, env, S, hK, eH, hS, hV, h⟩ => by
    subst eH
    simp only [wE, wEs] at h
    refine tE_of hK hS hV (Ev.refl m) h fun m1 x S1 v e1 hS1 r1 hV1 h1 => ?_
    cases r1 with
    | @ref n q hq =>
      obtain ⟨bs, hb, h1⟩ := h1
      obtain ⟨vs, h2, h3⟩ := hS1.lst hb hq
      rw [bls_rd h3, e1.k, hK] at h2
      refine ⟨q, bs, rfl, h2, fun kf => ?_⟩
      rw [ones_all]
      exact h1 m1 (.int (onesB bs)) e1 hS1 (.int _)
    | _ => exact h1.elim
end
end Mi
/-! dict(xs), xs an empty list -/
namespace Mi
open PySem PySem.Spec L2 PyProof.Rows
def tDictL (K : PySem.W.Frag) (te : TE) : TE := fun σ H Q => te σ H fun v H1 => ∃ a : Addr, v = .ref a ∧ SqL K H1 a [] ∧ ∀ q, H1 q = none → Q (.ref q) (upd H1 q (.dK []))
theorem pe_dictL {X : Cx} {e : Expr} {te : TE} {p pos : Pos} (hc : X.calm = true) (hg : Gl X "dict") (hm : X.mg "dict" = none) (he : PE X e te) (hs : starEach [e] X.env = (false, eval e X.env) :: starEach [] X.env) :
    PE X (.Call (.Name "dict" p) [e] [] pos) (tDictL X.K te) := by
  refine ⟨fun pins s σ H Q I h => ?_⟩
  refine Call_ (ld_blt I hg hm PyProof.Rows.boot_dict (PyProof.Rows.callWith_type1 (args_cons (thn (he.run pins s σ H _ I h) fun u z ⟨v, H1, I1, r1, q1⟩ => args_nil ?_) hs) hs rfl))
  obtain ⟨a, ev, hq, q⟩ := q1
  subst ev
  obtain rfl : u = Value.ref a := r1
  obtain ⟨its, rv, pl, hz⟩ := I1.list hq
  cases rv
  obtain ⟨o, n, ho, hcl, hdc, hdt⟩ := pl
  refine call_dict_pairs (knd := mixKind X.prog X.w) (kvs := []) (PairArg.list a #[] (fun _ => 0) []) (I1.ok.hd hc) ⟨⟨o, n, ho, hcl, hdc, hdt⟩, rfl, fun j k v hj => by simp at hj⟩ ⟨rfl, fun i key v hr => by simp [PairRel] at hr⟩ (by simp) fun h' tk hD kp => ?_
  have hsys : (z.heap.objs.size == sysModules) = false := beq_eq_false_iff_ne.mpr (Ne.symm (Nat.ne_of_lt I1.big))
  exact ⟨.ref z.heap.objs.size, _, I1.laid (t' := tk) (o := .dK []) (fun b o e => kp b o (by simp) e) (Nat.le_refl _) (dk_new (Nat.zero_le _) hsys .nil hD), rfl, q _ (I1.hok.fresh (Nat.le_refl _))⟩
section
variable {P : Pg} {cl : Cl} {k : Nat} {X : Cx} {W : WX} {o : Ko} {a : E} {ea : Expr}
theorem e_dictL {p pos : Pos} (xo : XO P cl X k o W) (hc : (!o.hot) = true) (hg : Gl X (Str.ofString "dict")) (hs : notStar ea = true) (ha : PE X ea (tE P cl k X W a)) :
    PE X (.Call (.Name (Str.ofString "dict") p) [ea] [] pos) (tE P cl k X W (.vi .dictL (.cons a .nil))) :=
  PE.imp (PE.kf (pe_dictL (xo.calm hc) hg (xo.ln.bi "dict" (by decide)) ha (star_cons hs))) fun σ H Q ⟨m, env, S, hK, eH, hS, hV, h⟩ => by
    subst eH
    simp only [wE, wEs] at h
    refine tE_of hK hS hV (Ev.refl m) h fun m1 x S1 v e1 hS1 r1 hV1 h1 => ?_
    cases r1 with
    | @ref n q hq =>
      obtain ⟨hb, h1⟩ := h1
      obtain ⟨vs, h2, h3⟩ := hS1.lst hb hq
      cases h3
      rw [e1.k, hK] at h2
      exact ⟨q, rfl, h2, fun p hp kf => mk_dic hS1 .nil hp (by rw [e1.k, hK]; exact kf) (liftQ.ev e1 (fun _ _ _ q => q) h1)⟩
    | _ => exact h1.elim
end
end Mi
/-! dict(xs), xs a list of pairs -/
namespace Mi
open PySem PySem.Spec L2 PyProof.Rows
def tDictP (K : PySem.W.Frag) (te : TE) : TE := fun σ H Q => te σ H fun v H1 => ∃ (a : Addr) (ps : List Addr) (more : List (L2.Key × V)), v = .ref a ∧ SqL K H1 a (ps.map V.ref) ∧ Paired (fun p (kv : L2.Key × V) => SqT K H1 p [L2.kV kv.1, kv.2]) ps more ∧ more.length ≤ sizeLine ∧ ∀ q, H1 q = none → Q (.ref q) (upd H1 q (.dK (mergeK [] more)))
theorem pe_dictP {X : Cx} {e : Expr} {te : TE} {p pos : Pos} (hc : X.calm = true) (hg : Gl X "dict") (hm : X.mg "dict" = none) (he : PE X e te) (hs : starEach [e] X.env = (false, eval e X.env) :: starEach [] X.env) :
    PE X (.Call (.Name "dict" p) [e] [] pos) (tDictP X.K te) := by
  refine ⟨fun pins s σ H Q I h => ?_⟩
  refine Call_ (ld_blt I hg hm PyProof.Rows.boot_dict (PyProof.Rows.callWith_type1 (args_cons (thn (he.run pins s σ H _ I h) fun u z ⟨v, H1, I1, r1, q1⟩ => args_nil ?_) hs) hs rfl))
  obtain ⟨a, ps, more, ev, hq, hp, hn, q⟩ := q1
  subst ev
  obtain rfl : u = Value.ref a := r1
  obtain ⟨its, rv, pl, hz⟩ := I1.list hq
  have ei := refs_at rv
  subst ei
  obtain ⟨prs, rel2, hl, hpr⟩ := pairs_of I1 hp
  obtain ⟨o, n, ho, hcl, hdc, hdt⟩ := pl
  obtain ⟨ks, hks⟩ := keys_at prs ps hl hpr
  obtain ⟨hk1, hk2⟩ := hks
  have zl : (ks.zip (prs.map (·.2))).length = prs.length := by simp [hk1]
  have zg : ∀ (j : Nat) (k v : Value), (ks.zip (prs.map (·.2)))[j]? = some (k, v) → ∃ q, prs[j]? = some q ∧ q.2 = v ∧ ks[j]? = some k := fun j k v e => by
    have hj := (List.getElem?_eq_some_iff.mp e).1
    rw [zl] at hj
    rw [List.getElem?_zip_eq_some] at e
    obtain ⟨e1, e2⟩ := e
    rw [List.getElem?_map] at e2
    obtain ⟨q, e3, e4⟩ := Option.map_eq_some_iff.mp e2
    exact ⟨q, e3, e4, e1⟩
  refine call_dict_pairs (knd := mixKind X.prog X.w) (kvs := prs) (PairArg.list a (ps.map Value.ref).toArray (fun j => (ps[j]?).getD 0) (ks.zip (prs.map (·.2)))) (I1.ok.hd hc) ⟨⟨o, n, ho, hcl, hdc, hdt⟩, by simp [hk1, hl], fun j k v hj => ?_⟩ ⟨by rw [zl], fun i key v hr => ?_⟩ (by rw [zl, ← rel2.length]; exact hn) fun h' tk hD kp => ?_
  · obtain ⟨q, e1, e2, e3⟩ := zg j k v hj
    obtain ⟨u, f1, f2, b, f3, f4⟩ := hk2 j q e1
    rw [e3] at f1
    cases f1
    refine ⟨by simp [f3], ?_⟩
    show PairAt _ ((ps[j]?).getD 0) _ _
    rw [f3]
    show PairAt _ b _ _
    obtain ⟨o', ho', hc', n', hd'⟩ := f4
    subst e2
    exact .inl ⟨o', ho', hc', n', hd'⟩
  · obtain ⟨q, e1, e2, e3⟩ := zg i key v hr
    obtain ⟨u, f1, f2, _⟩ := hk2 i q e1
    rw [e3] at f1
    cases f1
    exact ⟨q.1, by rw [e1, ← e2], f2⟩
  have hsys : (z.heap.objs.size == sysModules) = false := beq_eq_false_iff_ne.mpr (Ne.symm (Nat.ne_of_lt I1.big))
  have hlen : (mergeK [] more).length ≤ sizeLine := Nat.le_trans (length_mergeK more []) (by simpa using hn)
  exact ⟨.ref z.heap.objs.size, _, I1.laid (t' := tk) (o := .dK (mergeK [] more)) (fun b o e => kp b o (by simp) e) (Nat.le_refl _) (dk_new hlen hsys (KV.merge rel2 .nil) hD), rfl, q _ (I1.hok.fresh (Nat.le_refl _))⟩
section
variable {P : Pg} {cl : Cl} {k : Nat} {X : Cx} {W : WX} {o : Ko} {a : E} {ea : Expr}
theorem e_dictP {p pos : Pos} (xo : XO P cl X k o W) (hc : (!o.hot) = true) (hg : Gl X (Str.ofString "dict")) (hs : notStar ea = true) (ha : PE X ea (tE P cl k X W a)) :
    PE X (.Call (.Name (Str.ofString "dict") p) [ea] [] pos) (tE P cl k X W (.vi .dictP (.cons a .nil))) :=
  PE.imp (PE.kf (pe_dictP (xo.calm hc) hg (xo.ln.bi "dict" (by decide)) ha (star_cons hs))) fun σ H Q ⟨m, env, S, hK, eH, hS, hV, h⟩ => by
    subst eH
    simp only [wE, wEs] at h
    refine tE_of hK hS hV (Ev.refl m) h fun m1 x S1 v e1 hS1 r1 hV1 h1 => ?_
    cases r1 with
    | @ref n q hq =>
      obtain ⟨ps, hb, hl, h1⟩ := h1
      obtain ⟨vs, h2, h3⟩ := hS1.lst hb hq
      obtain ⟨bs, qs, rfl, h4, h5⟩ := pairs_rd h3
      have lq := h5.length
      rw [e1.k, hK] at h2 h4
      exact ⟨q, bs, qs, rfl, h2, h4, by rw [sizeLine_eq]; omega, fun p hp kf => mk_dic hS1 (RKs.merge h5 .nil) hp (by rw [e1.k, hK]; exact kf) (liftQ.ev e1 (fun _ _ _ q => q) h1)⟩
    | _ => exact h1.elim
end
end Mi

set_option maxHeartbeats 4000000
/-! dict(zip(a, b)), each a list or a tuple -/
namespace Mi
open PySem PySem.Spec L2 PyProof.Rows
/-- a zip on its way, whose held tuple is not a certain object -/
def ZD (t u : Bool) (z TI TO i1 i2 a b : Addr) (us vs : Array Value) (d : Addr) (i : Nat) (h : Heap) : Prop :=
  IsPair h TI (.ref i1) (.ref i2) ∧ IterX t h i1 a i ∧ IterX u h i2 b i ∧ AtX t h a us ∧ AtX u h b vs ∧
    ((IsZip h z TI TO .none ∧ ∃ x y, IsPair h TO x y) ∨ ∃ T f oT, IsZipHeld h z TI TO T f ∧ (∃ x y, IsPair h TO x y) ∧ h.get? T = some oT ∧ T ≠ z ∧ T ≠ i1 ∧ T ≠ i2 ∧ T ≠ d)
section
variable {prog : Program} {w : World} {A : Around} {E : Value → Shared → Prop} {s : Shared} {t u : Bool} {z TI TO i1 i2 a b d : Addr} {us vs : Array Value} {i : Nat}
theorem ZD.zs {h : Heap} (st : ZD t u z TI TO i1 i2 a b us vs d i h) : ZS t u z TI TO i1 i2 a b us vs i h := by
  obtain ⟨ti, g1, g2, a1, a2, zp⟩ := st
  rcases zp with ⟨e, to⟩ | ⟨T, f, oT, e1, to, e2, e3, e4, e5, _⟩
  · exact ⟨.inl e, ti, to, g1, g2, a1, a2⟩
  · exact ⟨.inr ⟨T, f, oT, e1, e2, e3, e4, e5⟩, ti, to, g1, g2, a1, a2⟩
theorem zd_item (D : ZipApart z TI TO i1 i2 a b) (hh : A.handled = none) {x y : Value} {Q : Option Value → Shared → Prop} (st : ZD t u z TI TO i1 i2 a b us vs d i s.heap) (hd : d < s.heap.objs.size) (ex : us[i]? = some x) (ey : vs[i]? = some y)
    (hQ : ∀ h' tk, ZD t u z TI TO i1 i2 a b us vs d (i + 1) h' → IsPair h' s.heap.objs.size x y →
      (∀ c o, c ≠ z → c ≠ TO → c ≠ i1 → c ≠ i2 → s.heap.get? c = some o → h'.get? c = some o) → Q (some (.ref s.heap.objs.size)) { s with heap := h', toks := tk }) : wpAny (model prog w) A (pyNext (.ref z)) Q E s := by
  obtain ⟨ti, g1, g2, a1, a2, zp⟩ := st
  have lt : ∀ {c : Addr} {o : Obj}, s.heap.get? c = some o → s.heap.objs.size ≠ c := fun e => Nat.ne_of_gt (Heap.lt_size e)
  have l1 : s.heap.objs.size ≠ i1 := by obtain ⟨_, e, _⟩ := g1.obj; exact lt e
  have l2 : s.heap.objs.size ≠ i2 := by obtain ⟨_, e, _⟩ := g2.obj; exact lt e
  rcases zp with ⟨iz, x0, y0, to⟩ | ⟨T, f, oT, iz, ⟨x0, y0, to⟩, aT, Tz, T1, T2, Td⟩
  · refine wpAny_pyNext_zipD2_item (i := i) (sep_of D) (drawsX (A := A.in1) hh t i1 a D.l1i1 us) (drawsX (A := A.in1) hh u i2 b D.l2i2 vs) iz ti to ⟨g1, a1⟩ ⟨g2, a2⟩ (Array.getElem?_eq_some_iff.mp ex).1 (Array.getElem?_eq_some_iff.mp ey).1 fun x' y' h' tk ex' ey' z' to' ⟨n1, m1⟩ ⟨n2, m2⟩ np sz kp => ?_
    obtain rfl : x' = x := by
      have e : us[i]? = some x' := ex'
      rw [ex] at e
      exact (Option.some.inj e).symm
    obtain rfl : y' = y := by
      have e : vs[i]? = some y' := ey'
      rw [ey] at e
      exact (Option.some.inj e).symm
    exact hQ h' tk ⟨kp _ _ D.TIz D.TITO D.TIi1 D.TIi2 ti, n1, n2, m1, m2, .inr ⟨_, false, _, z', ⟨_, _, to'⟩, np, lt iz, l1, l2, Nat.ne_of_gt hd⟩⟩ np kp
  · have ty : s.TypeIs (.ref z) "zip" := ⟨_, iz, rfl⟩
    unfold pyNext
    refine wpAny_bind (wpAny_attempt (wpAny_callSpecial?_slot (name := Str.ofString "__next__") ty F.slot_zip_next
      (wpAny_call_entry F.slot_zip_next ty F.entry_zip_next (held_item (A := A.in1) D hh iz aT ti g1 a1 g2 a2 ex ey fun h' tk z' n1 n2 np sz kp => wpAny_pure (hQ h' tk ⟨kp _ _ D.TIz D.TIi1 D.TIi2 ti, n1, n2, a1.at fun o e => kp _ _ D.l1z D.l1i1 D.l1i2 e, a2.at fun o e => kp _ _ D.l2z D.l2i1 D.l2i2 e, .inr ⟨T, true, oT, z', ⟨_, _, kp _ _ D.TOz D.TOi1 D.TOi2 to⟩, kp _ _ Tz T1 T2 aT, Tz, T1, T2, Td⟩⟩ np fun c o c1 _ c2 c3 e => kp c o c1 c2 c3 e)) (F.args_zip_next_1 _))))
end
theorem AtX.ex {t : Bool} {h : Heap} {a : Addr} {its : Array Value} (p : AtX t h a its) : ∃ o, h.get? a = some o := by
  cases t with
  | true => obtain ⟨o, e, _⟩ := id p; exact ⟨o, e⟩
  | false => obtain ⟨o, e, _⟩ := id p; exact ⟨o, e⟩
/-- zip of two, each a list or a tuple, as what dict takes its pairs from -/
theorem pairZipX {prog : Program} {w : World} (t u : Bool) (z TI TO i1 i2 a b : Addr) (D : ZipApart z TI TO i1 i2 a b) (us vs : Array Value) :
    PairArg prog w "zip" z [z, TI, TO, i1, i2, a, b] [z, TO, i1, i2] (min us.size vs.size) (fun i k v => us[i]? = some k ∧ vs[i]? = some v)
      (fun h => IsZip h z TI TO .none ∧ IsPair h TI (.ref i1) (.ref i2) ∧ (∃ x y, IsPair h TO x y) ∧ IterX t h i1 a 0 ∧ IterX u h i2 b 0 ∧ AtX t h a us ∧ AtX u h b vs) where
  type := fun s ok => ⟨_, ok.1, rfl⟩
  notDict := by decide
  keep := fun h h' ok hk => by
    obtain ⟨hz, hTI, ⟨x, y, hTO⟩, h1, h2, hl1, hl2⟩ := ok
    exact ⟨hk _ _ hz, hk _ _ hTI, ⟨x, y, hk _ _ hTO⟩, h1.at fun o e => hk _ o e, h2.at fun o e => hk _ o e, hl1.at fun o e => hk _ o e, hl2.at fun o e => hk _ o e⟩
  there := fun h ok q hq => by
    obtain ⟨hz, hTI, ⟨x, y, hTO⟩, h1, h2, hl1, hl2⟩ := ok
    obtain ⟨o1, h1, _⟩ := h1.obj
    obtain ⟨o2, h2, _⟩ := h2.obj
    obtain ⟨o3, hl1⟩ := hl1.ex
    obtain ⟨o4, hl2⟩ := hl2.ex
    simp only [List.mem_cons, List.not_mem_nil, or_false] at hq
    rcases hq with rfl | rfl | rfl | rfl | rfl | rfl | rfl
    all_goals first | exact ⟨_, hz⟩ | exact ⟨_, hTI⟩ | exact ⟨_, hTO⟩ | exact ⟨_, h1⟩ | exact ⟨_, h2⟩ | exact ⟨_, hl1⟩ | exact ⟨_, hl2⟩
  sub := fun q hq => by simp at hq ⊢; rcases hq with rfl | rfl | rfl | rfl <;> simp
  noKeys := fun A s Q E hA ok h => getAttrOr_miss_zip ok.1 rfl rfl rfl zip_no_keys (by decide +kernel) hA h
  iter := fun A s d Q E hA ok hd hdf h => by
    obtain ⟨hz, hTI, hTO, h1, h2, hl1, hl2⟩ := ok
    simp only [List.mem_cons, List.not_mem_nil, or_false, not_or] at hdf
    obtain ⟨dz, dTI, dTO, di1, di2, dl1, dl2⟩ := hdf
    refine wpAny_pyIter_zip hz (h z [z, TO, i1, i2] (fun i h => ZD t u z TI TO i1 i2 a b us vs d i h) s.heap s.toks ?_ ⟨hTI, h1, h2, hl1, hl2, .inl ⟨hz, hTO⟩⟩ (fun _ _ e => e) fun b hb => .inl hb)
    exact {
      off := fun hm => by
        simp only [List.mem_cons, List.not_mem_nil, or_false] at hm
        rcases hm with e | e | e | e
        · exact dz e
        · exact dTO e
        · exact di1 e
        · exact di2 e
      frame := fun i h₁ h₂ st hk => by
        obtain ⟨hTI, h1, h2, hl1, hl2, hz⟩ := st
        refine ⟨hk _ _ (Ne.symm dTI) hTI, h1.at fun o e => hk _ o (Ne.symm di1) e, h2.at fun o e => hk _ o (Ne.symm di2) e, hl1.at fun o e => hk _ o (Ne.symm dl1) e, hl2.at fun o e => hk _ o (Ne.symm dl2) e, ?_⟩
        rcases hz with ⟨hz, x, y, hTO⟩ | ⟨T, f, oT, hz, ⟨x, y, hTO⟩, hT, r1, r2, r3, r4⟩
        · exact .inl ⟨hk _ _ (Ne.symm dz) hz, x, y, hk _ _ (Ne.symm dTO) hTO⟩
        · exact .inr ⟨T, f, oT, hk _ _ (Ne.symm dz) hz, ⟨x, y, hk _ _ (Ne.symm dTO) hTO⟩, hk _ _ r4 hT, r1, r2, r3, r4⟩
      item := fun i s₁ Q₁ E₁ hi st hds hQ => by
        have hix : i < us.size := Nat.lt_of_lt_of_le hi (Nat.min_le_left ..)
        have hiy : i < vs.size := Nat.lt_of_lt_of_le hi (Nat.min_le_right ..)
        have ex := Array.getElem?_eq_getElem hix
        have ey := Array.getElem?_eq_getElem hiy
        refine zd_item D hA st hds ex ey fun h' tk st' np kp => ?_
        exact hQ s₁.heap.objs.size _ _ h' tk ⟨ex, ey⟩ (.inl ⟨_, np, rfl, _, rfl⟩) st' fun c o hc e => kp c o (fun x => hc (by simp [x])) (fun x => hc (by simp [x])) (fun x => hc (by simp [x])) (fun x => hc (by simp [x])) e
      done := fun s₁ Q₁ E₁ st hQ => by
        refine zs_end D hA st.zs (Nat.min_le_left ..) (Nat.min_le_right ..) (by omega) fun h' tk kp => ?_
        exact hQ h' tk fun c o hc e => kp c o (fun x => hc (by simp [x])) (fun x => hc (by simp [x])) (fun x => hc (by simp [x])) (fun x => hc (by simp [x])) e }
/-! the dict -/
def tDictZ (K : PySem.W.Frag) (ta : TA) : TE := fun σ H Q => ta σ H fun vs H1 => ∃ t u a b xs ys, ∃ more : List (L2.Key × V), vs = [.ref a, .ref b] ∧ Sqx t K H1 a xs ∧ Sqx u K H1 b ys ∧ more.length = min xs.length ys.length ∧ (∀ (j : Nat) (kv : L2.Key × V), more[j]? = some kv → xs[j]? = some (L2.kV kv.1) ∧ ys[j]? = some kv.2) ∧
  ∀ q, H1 q = none → Q (.ref q) (upd H1 q (.dK (mergeK [] more)))
/-- the pairs' values -/
theorem kv_of (P : Program) (w : World) : ∀ {more : List (L2.Key × V)} {xs ys : List V} {us vs : List Value}, Vals xs us → Vals ys vs → more.length = min xs.length ys.length → (∀ (j : Nat) (kv : L2.Key × V), more[j]? = some kv → xs[j]? = some (L2.kV kv.1) ∧ ys[j]? = some kv.2) →
    ∃ prs : List (L2.Key × Value), KV more prs ∧ prs.length = min us.length vs.length ∧ ∀ (i : Nat) (key v : Value), us[i]? = some key → vs[i]? = some v → ∃ k, prs[i]? = some (k, v) ∧ keyIs k key = true
  | [], xs, ys, us, vs, r1, r2, hl, h => by
    have l1 := r1.length
    have l2 := r2.length
    simp only [List.length_nil] at hl
    refine ⟨[], .nil, by simp only [List.length_nil]; omega, fun i key v e1 e2 => ?_⟩
    have := (List.getElem?_eq_some_iff.mp e1).1
    have := (List.getElem?_eq_some_iff.mp e2).1
    omega
  | kv :: more, xs, ys, us, vs, r1, r2, hl, h => by
    cases r1 with
    | nil => simp at hl
    | @cons x u xs us a r1 =>
      cases r2 with
      | nil => simp at hl
      | @cons y v ys vs b r2 =>
        obtain ⟨prs, p1, p2, p3⟩ := kv_of P w (more := more) r1 r2 (by simp only [List.length_cons] at hl; omega) fun j q e => by
          have := h (j + 1) q (by simpa using e)
          simpa using this
        obtain ⟨h0, h1⟩ := h 0 kv rfl
        simp only [List.getElem?_cons_zero, Option.some.injEq] at h0 h1
        subst h0 h1
        refine ⟨(kv.1, v) :: prs, .cons ⟨rfl, b⟩ p1, by simp only [List.length_cons]; omega, fun i key w e1 e2 => ?_⟩
        cases i with
        | zero =>
          simp only [List.getElem?_cons_zero, Option.some.injEq] at e1 e2
          subst e1 e2
          exact ⟨kv.1, rfl, @kV_is P w kv.1 u a⟩
        | succ i =>
          obtain ⟨k, e3, e4⟩ := p3 i key w (by simpa using e1) (by simpa using e2)
          exact ⟨k, by simpa using e3, e4⟩
theorem pe_dictZ {X : Cx} {e e2 : Expr} {ta : TA} {p p2 pos pos2 : Pos} (hc : X.calm = true) (hg : Gl X "dict") (hm : X.mg "dict" = none) (hg2 : Gl X "zip") (hm2 : X.mg "zip" = none) (ha : PA X [e, e2] ta)
    (hs : starEach [e, e2] X.env = (false, eval e X.env) :: starEach [e2] X.env) (hpl : (backTo pos2 (starEach [e2] X.env)).any (·.1) = false) :
    PE X (.Call (.Name "dict" p) [.Call (.Name "zip" p2) [e, e2] [] pos2] [] pos) (tDictZ X.K ta) := by
  refine ⟨fun pins s σ H Q I h => ?_⟩
  refine wpAny_Call_Name_kw (ld_blt I hg hm PyProof.Rows.boot_dict ?_)
  refine PyProof.Rows.callWith_type1 ?_ rfl rfl
  show wpAny _ _ (spliced [(false, eval (.Call (.Name "zip" p2) [e, e2] [] pos2) X.env)]) _ _ s
  refine Calls.spliced_cons ?_
  refine Call_ (ld_blt I hg2 hm2 PyProof.Rows.boot_zip (PyProof.Rows.callWith_type1 (thn (ha.run pos2 pins s σ H _ I h) fun us s1 ⟨vs, H1, I1, r1, q1⟩ => ?_) hs hpl))
  obtain ⟨t, u, a, b, xs, ys, more, rfl, q1, q2, ml, mh, go⟩ := q1
  cases r1 with
  | cons ra r1 =>
    cases r1 with
    | cons rb r1 =>
      cases r1
      cases ra
      cases rb
      obtain ⟨us, v1, p1⟩ := q1.inv I1
      obtain ⟨vs, v2, p2⟩ := q2.inv I1
      obtain ⟨o1, B1, it1⟩ := beginsX t a us.toArray
      obtain ⟨o2, B2, it2⟩ := beginsX u b vs.toArray
      refine zip_begins2 B1 B2 p1 p2 fun h' hz hTI hTO g1 g2 hsz hk => ?_
      refine Calls.spliced_nil ?_
      have la := p1.lt
      have lb := p2.lt
      have lx := q1.size I1
      have D := PySem.W.ktu_apart s1.heap.objs.size a b la lb
      obtain ⟨prs, k1, k2, k3⟩ := kv_of X.prog X.w v1 v2 ml mh
      have lx1 := v1.length
      refine call_dict_pairs (A := X.A) (s := { s1 with heap := h' }) (knd := mixKind X.prog X.w) (kvs := prs) (pairZipX t u _ _ _ _ _ a b D us.toArray vs.toArray) (I1.ok.hd hc) ⟨hz, hTI, ⟨_, _, hTO⟩, it1 _ _ g1, it2 _ _ g2, p1.at fun o => hk _ o, p2.at fun o => hk _ o⟩ ⟨by rw [k2]; simp, fun i key v hr => ?_⟩ (by simp; omega) fun h2 tk hD kp => ?_
      · obtain ⟨e1, e2⟩ := hr
        exact k3 i key v (by simpa using e1) (by simpa using e2)
      · have kk : ∀ q o, s1.heap.get? q = some o → h2.get? q = some o := fun q o e => by
          have l := Heap.lt_size e
          refine kp q o ?_ (hk q o e)
          simp only [List.mem_cons, List.not_mem_nil, or_false, not_or]
          exact ⟨Nat.ne_of_lt (Nat.lt_of_lt_of_le l (Nat.le_add_right _ _)), Nat.ne_of_lt (Nat.lt_of_lt_of_le l (Nat.le_add_right _ _)), Nat.ne_of_lt l, Nat.ne_of_lt (Nat.lt_of_lt_of_le l (Nat.le_add_right _ _))⟩
        have S0 : s1.heap.objs.size ≤ h'.objs.size := by rw [hsz]; exact Nat.le_add_right _ _
        have hsys : (h'.objs.size == sysModules) = false := beq_eq_false_iff_ne.mpr (Ne.symm (Nat.ne_of_lt (Nat.lt_of_lt_of_le I1.big S0)))
        have hlen : (mergeK [] more).length ≤ sizeLine := Nat.le_trans (length_mergeK more []) (by simp only [List.length_nil]; omega)
        exact ⟨.ref h'.objs.size, _, I1.laid (t' := tk) (o := .dK (mergeK [] more)) kk S0 (dk_new hlen hsys (KV.merge k1 .nil) hD), rfl, go _ (I1.hok.fresh S0)⟩
section
variable {P : Pg} {cl : Cl} {k : Nat} {X : Cx} {W : WX} {o : Ko} {a b : E} {ea eb : Expr}
theorem rk_of {m : Sm} : ∀ {ps : List (Key × Val)} {xs ys : List Val} {us vs : List V}, RDs m xs us → RDs m ys vs → pairL xs ys = (ps.map fun p => .tup [p.1.val, p.2]) →
    ∃ more : List (L2.Key × V), RKs m ps more ∧ more.length = min us.length vs.length ∧ ∀ (j : Nat) (kv : L2.Key × V), more[j]? = some kv → us[j]? = some (L2.kV kv.1) ∧ vs[j]? = some kv.2
  | [], xs, ys, us, vs, r1, r2, h => by
    refine ⟨[], .nil, ?_, fun j kv e => by simp at e⟩
    cases r1 with
    | nil => simp
    | cons a r1 =>
      cases r2 with
      | nil => simp
      | cons b r2 => simp [pairL] at h
  | p :: ps, xs, ys, us, vs, r1, r2, h => by
    cases r1 with
    | nil => simp [pairL] at h
    | @cons x u xs us a r1 =>
      cases r2 with
      | nil => simp [pairL] at h
      | @cons y v ys vs b r2 =>
        simp only [pairL, List.map_cons, List.cons.injEq, Val.tup.injEq, and_true] at h
        obtain ⟨⟨rfl, rfl⟩, h⟩ := h
        obtain ⟨more, m1, m2, m3⟩ := rk_of r1 r2 h
        have ek : u = L2.kV (kk p.1) := by
          obtain ⟨q, w⟩ := p
          cases q with
          | inl i => cases a; rfl
          | inr x => cases a; rfl
        refine ⟨(kk p.1, v) :: more, .cons ⟨rfl, b⟩ m1, by simp only [List.length_cons]; omega, fun j kv e => ?_⟩
        cases j with
        | zero =>
          simp only [List.getElem?_cons_zero, Option.some.injEq] at e ⊢
          subst e
          exact ⟨ek, rfl⟩
        | succ j =>
          simp only [List.getElem?_cons_succ] at e ⊢
          exact m3 j kv e
theorem e_dictZ {p p2 pos pos2 : Pos} (xo : XO P cl X k o W) (hc : (!o.hot) = true) (hg : Gl X (Str.ofString "dict")) (hg2 : Gl X (Str.ofString "zip")) (hs : notStar ea = true) (hs2 : notStar eb = true) (ha : PE X ea (tE P cl k X W a)) (hb : PE X eb (tE P cl k X W b)) :
    PE X (.Call (.Name (Str.ofString "dict") p) [.Call (.Name (Str.ofString "zip") p2) [ea, eb] [] pos2] [] pos) (tE P cl k X W (.vi .dictZ (.cons a (.cons b .nil)))) :=
  PE.imp (PE.kf (pe_dictZ (xo.calm hc) hg (xo.ln.bi "dict" (by decide)) hg2 (xo.ln.bi "zip" (by decide)) (pa_cons ha (pa_cons hb pa_nil (star_cons hs2)) (star_cons hs)) (star_cons hs) (star_any (by simp [hs2])))) fun σ H Q ⟨m, env, S, hK, eH, hS, hV, h⟩ => by
    subst eH
    simp only [wE, wEs] at h
    refine tE_of hK hS hV (Ev.refl m) h fun m1 x S1 v e1 hS1 r1 hV1 h1 => ?_
    refine tE_of (e1.k.trans hK) hS1 hV1 e1 h1 fun m2 y S2 w e2 hS2 r2 hV2 h2 => ?_
    have hK2 := (e1.trans e2).k.trans hK
    have h2 : ltOf v S2 (fun xs _ => ltOf w S2 fun ys _ => ∃ ps : List (Key × Val), pairL xs ys = (ps.map fun p => .tup [p.1.val, p.2]) ∧ liftQ cl m Q (.ref S2.length) (S2 ++ [.dic (ps.foldl (fun d p => putK d p.1 p.2) [])])) := h2
    obtain ⟨t, q, xs, us, g, rfl, h3, q1, s1⟩ := lt_rd hS2 (r1.up (e2.up hS1)) h2
    obtain ⟨u, q', ys, vs, g', rfl, h4, q2, s2⟩ := lt_rd hS2 r2 h3
    obtain ⟨ps, hp, h4⟩ := h4
    obtain ⟨more, m1, m2, m3⟩ := rk_of s1 s2 hp
    rw [hK2] at q1 q2
    exact ⟨t, u, q, q', us, vs, more, rfl, q1, q2, m2, m3, fun p hp kf => mk_dic hS2 (RKs.merge m1 .nil) hp (by rw [hK2]; exact kf) (liftQ.ev (e1.trans e2) (fun _ _ _ q => q) h4)⟩
end
end Mi

set_option maxHeartbeats 4000000
namespace Mi
open PySem PySem.Spec L2 PyProof.Rows
section
variable {cl : Cl} {m m0 : Sm} {S : Hm} {D : Addr} {ob : Ob}
theorem up_em : Up m { m with em := m.em ++ [D] } := ⟨fun _ _ h => h, ⟨[D], rfl⟩, fun _ h => h⟩
/-- an object that stood outside comes in -/
theorem SH.adopt (h : SH cl m S) (hD : D ∉ m.em) (r : RO cl m D ob) : SH cl { m with em := m.em ++ [D] } (S ++ [ob]) := by
  refine ⟨by simp [h.len], ?_, h.kf, fun n u a e1 e2 => ?_, h.z⟩
  · show (m.em ++ [D]).Nodup
    rw [List.nodup_append]
    refine ⟨h.nd, by simp, fun x hx y hy => ?_⟩
    have : y = D := by simpa using hy
    rw [this]
    exact fun z => hD (z ▸ hx)
  · have e2 : (m.em ++ [D])[n]? = some a := e2
    by_cases hn : n < S.length
    · rw [List.getElem?_append_left hn] at e1
      rw [List.getElem?_append_left (by rw [h.len]; exact hn)] at e2
      exact (h.ob n u a e1 e2).up up_em rfl rfl
    · have hn2 : n = S.length := by
        have := (List.getElem?_eq_some_iff.mp e1).1
        simp at this
        omega
      subst hn2
      rw [List.getElem?_append_right (Nat.le_refl _)] at e1
      rw [← h.len, List.getElem?_append_right (Nat.le_refl _)] at e2
      simp at e1 e2
      subst e1 e2
      exact r.up up_em rfl rfl
theorem Ev.adopt (e : Ev m0 m) (hD : m0.H D = none) : Ev m0 { m with em := m.em ++ [D] } := by
  obtain ⟨l, hl⟩ := e.em
  refine ⟨e.k, e.z, ⟨l ++ [D], ?_⟩, e.keep, fun b hb nb => ?_, e.frz⟩
  · show m.em ++ [D] = m0.em ++ (l ++ [D])
    rw [hl, List.append_assoc]
  · rcases List.mem_append.mp hb with z | z
    · exact e.new b z nb
    · have : b = D := by simpa using z
      rw [this]; exact hD
/-- a list outside is changed -/
theorem up_poke {ws ws' : List V} (hl : m.H D = some (.lst ws)) : Up m { m with H := L2.upd m.H D (.lst ws') } := by
  refine ⟨fun a xs h => ?_, ⟨[], by simp⟩, fun _ h => h⟩
  rcases h with (h | ⟨o, h⟩) | h
  · have : a ≠ D := fun z => by rw [z, hl] at h; cases h
    exact .inl (.inl (by show upd m.H D _ a = _; rw [upd_ne this]; exact h))
  · have : a ≠ D := fun z => by rw [z, hl] at h; cases h
    exact .inl (.inr ⟨o, by show upd m.H D _ a = _; rw [upd_ne this]; exact h⟩)
  · exact .inr h
theorem SH.poke {ws ws' : List V} (h : SH cl m S) (hD : D ∉ m.em) (hl : m.H D = some (.lst ws)) : SH cl { m with H := L2.upd m.H D (.lst ws') } S := by
  refine ⟨h.len, h.nd, fun b o e => ?_, fun n o a e1 e2 => ?_, h.z⟩
  · show upd m.H D _ b = none
    have hb := h.kf b o e
    rw [upd_ne (fun z => by rw [z, hl] at hb; cases hb)]
    exact hb
  · exact (h.ob n o a e1 e2).up (up_poke hl) rfl (upd_ne fun z => hD (z ▸ List.mem_of_getElem? e2))
theorem Ev.poke {o : HO} (e : Ev m0 m) (hD : m0.H D = none) : Ev m0 { m with H := L2.upd m.H D o } :=
  ⟨e.k, e.z, e.em, fun b u h nb => by show upd m.H D o b = _; rw [upd_ne (ne_of_none h hD)]; exact e.keep b u h nb, e.new, fun b q u h => by show L2.upd m.H D o b = _; rw [upd_ne (ne_of_none h hD)]; exact e.frz b q u h⟩
theorem Ev.out {u : HO} {m' : Sm} (e : Ev m m') (hl : m.H D = some u) (hD : D ∉ m.em) : m'.H D = some u ∧ D ∉ m'.em :=
  ⟨e.keep D _ hl hD, fun z => by
    have := e.new D z hD
    rw [hl] at this
    cases this⟩
end
section
variable {P : Pg} {cl : Cl} {k : Nat} {X : Cx} {W : WX} {sc : Ko}
abbrev noW : WX := fun _ _ _ _ => False
theorem lcLoop_guard {turn : Val → Hm → (Option Val → Hm → Prop) → Prop} {g : Hm → Prop} {vs acc : List Val} {S : Hm} {Q : List Val → Hm → Prop} (h : lcLoop turn g vs acc S Q) : g S := by
  cases vs <;> exact h.1
/-- one turn of a comprehension -/
def lcTurn (P : Pg) (k : Nat) (X0 : XPost) (elt : E) (tgt : Tg) (cond : Ot) (env : Env) (vs : List Nat) : Val → Hm → (Option Val → Hm → Prop) → Prop :=
  fun v S K => tgW tgt v (ewipe env vs) fun env2 => wC P.con (callW P k) X0 cond env2 S fun b S2 => if b = true then wE P.con (callW P k) X0 elt env2 S2 fun x S3 => K (some x) S3 else K none S2
/-- the new list stands at D, i items are through -/
def LW (cl : Cl) (X : Cx) (m1 : Sm) (turn : Val → Hm → (Option Val → Hm → Prop) → Prop) (g : Hm → Prop) (items : List Val) (Q1 : List Val → Hm → Prop) (D : Addr) (i : Nat) (H : Hp) : Prop :=
  ∃ m S acc ws, m.K = X.K ∧ m.H = H ∧ Ev m1 m ∧ SH cl m S ∧ D ∉ m.em ∧ H D = some (.lst ws) ∧ RDs m acc ws ∧ lcLoop turn g (items.drop i) acc S Q1
theorem lc_run {elt : E} {tgt : Tg} {src : Src} {cond : Ot} {own : List (String × Nat)} {σ : L2.St} {m : Sm} {env : Env} {S : Hm} {Q : VK} (hK : m.K = X.K) (hS : SH cl m S) (hV : SV m env σ) (hslots : ∀ i ∈ tgt.slots, i ∈ own.map (·.2)) (hQ : ∀ v S', Q1 v S' → ∀ m' x, Ev m m' → SH cl m' S' → RD m' v x → Q x m'.H)
    (h : wE P.con (callW P k) (liftX cl X.mg m fun c d H => W c d σ H) (.lc elt tgt src cond own) env S Q1) :
    tLc (tSrc P cl k X W src) (fun v σ H Q => KF X.K H → tG X.K tgt v σ H Q) (tCs P cl k X (atS W σ) cond) (tE P cl k X (atS W σ) elt) (own.map (·.2)) σ m.H (fun x H' => KF X.K H' → Q x H') := by
  simp only [wE] at h
  refine tSrc_of hK hS hV (Ev.refl m) h fun m1 J S1 items g e1 hS1 ok hV1 h1 => ?_
  intro D hD
  have hK1 := e1.k.trans hK
  -- the invariant
  let turn := lcTurn P k (liftX cl X.mg m fun c d H => W c d σ H) elt tgt cond env (own.map (·.2))
  let Q2 : List Val → Hm → Prop := fun acc S2 => Q1 (.ref S2.length) (S2 ++ [.lst acc])
  have h1 : lcLoop turn g items [] S1 Q2 := h1
  have adv : ∀ i H, i ≤ items.length → LW cl X m1 turn g items Q2 D i H → (i < items.length → J.go i H) ∧ (i = items.length → J.stop i H) := by
    rintro i H hi ⟨m2, S2, acc, ws, hK2, rfl, e2, hS2, nD, hDl, ra, hl⟩
    have hg := lcLoop_guard hl
    exact ⟨fun hlt => ok.go i m2 S2 items[i] e2 hS2 hg (List.getElem?_eq_getElem hlt), fun he => ok.stop i m2 S2 e2 hS2 hg (by omega)⟩
  refine ⟨fun i μ H => μ = items.length - i ∧ i ≤ items.length ∧ (i < items.length → J.go i H) ∧ (i = items.length → J.stop i H) ∧ (KF X.K H → LW cl X m1 turn g items Q2 D i H), ⟨items.length, by simp, Nat.zero_le _, fun hlt => ?_, fun he => ?_, fun kf => ?_⟩, ?_⟩
  · exact ok.go0 D _ items[0] hD (List.getElem?_eq_getElem hlt)
  · exact ok.stop0 D _ hD (by omega)
  · rw [← hK1] at kf
    have e2 : Ev m1 { m1 with H := upd m1.H D (.lst []) } := Ev.outside hD
    exact ⟨{ m1 with H := upd m1.H D (.lst []) }, S1, [], [], hK1, rfl, e2, hS1.outside hD kf, hS1.free hD (kf_free kf (upd_same (H := m1.H) (a := D))), upd_same, .nil, h1⟩
  · rintro i μ H ⟨rfl, hi, hgo, hstop, lw⟩
    by_cases he : i = items.length
    · refine .inl ⟨hstop he, fun kf => ?_⟩
      obtain ⟨m2, S2, acc, ws, hK2, rfl, e2, hS2, nD, hDl, ra, hl⟩ := lw kf
      rw [List.drop_eq_nil_of_le (by omega)] at hl
      obtain ⟨_, hl⟩ := hl
      have e3 := (e1.trans (e2.adopt hD))
      refine hQ _ _ hl { m2 with em := m2.em ++ [D] } (.ref D) e3 (hS2.adopt nD ⟨ws, hDl, ra⟩) (.ref ?_)
      show (m2.em ++ [D])[S2.length]? = some D
      rw [← hS2.len]
      simp
    · have hlt : i < items.length := by omega
      refine .inr ⟨hgo hlt, LW cl X m1 turn g items Q2 D (i + 1), fun H' lw' => ?_, fun x H' y => ?_⟩
      · obtain ⟨a1, a2⟩ := adv (i + 1) H' (by omega) lw'
        exact ⟨items.length - (i + 1), by omega, rfl, by omega, a1, a2, fun _ => lw'⟩
      · intro kf'
        have kf := ok.kfb i H x H' y (by rw [hK1]; exact kf')
        rw [hK1] at kf
        obtain ⟨m2, S2, acc, ws, hK2, rfl, e2, hS2, nD, hDl, ra, hl⟩ := lw kf
        rw [List.drop_eq_getElem_cons hlt] at hl
        obtain ⟨hg, hl⟩ := hl
        obtain ⟨m3, rfl, e3, hS3, rv⟩ := ok.yld i m2 S2 items[i] x H' e2 hS2 hg (List.getElem?_eq_getElem hlt) y (by rw [hK2]; exact kf')
        have e23 := e2.trans e3
        obtain ⟨hDl3, nD3⟩ := e3.out hDl nD
        have hV3 := ((hV1.up (e23.up hS1)).wipe (own.map (·.2)))
        refine tG_of (e23.k.trans hK1) rv hV3 hl fun env2 xs ht hV4 => ⟨wipe_setN (fun i hi => hslots i hi) wipe_wipe, ?_⟩
        refine ⟨m3, env2, S2, e23.k.trans hK1, rfl, hS3, hV4, wC_mono (callW_mono P k) (fun _ _ h => liftX.ev (e1.trans e23) h) cond (fun b S4 h4 m4 e4 hS4 => ?_) ht⟩
        obtain ⟨hDl4, nD4⟩ := e4.out hDl3 nD3
        have e24 := e23.trans e4
        cases b with
        | false =>
          simp only [Bool.false_eq_true, if_false] at h4 ⊢
          exact ⟨m4, S4, acc, ws, e24.k.trans hK1, rfl, e24, hS4, nD4, hDl4, ra.up ((e3.trans e4).up hS2), h4⟩
        | true =>
          simp only [if_true] at h4 ⊢
          refine ⟨m4, env2, S4, e24.k.trans hK1, rfl, hS4, hV4.up (e4.up hS3), wE_mono (callW_mono P k) (fun _ _ h => liftX.ev (e1.trans e24) h) elt (fun v S5 h5 m5 x5 e5 hS5 r5 => ?_) h4⟩
          obtain ⟨hDl5, nD5⟩ := e5.out hDl4 nD4
          have e25 := e24.trans e5
          have ra5 := ra.up (((e3.trans e4).trans e5).up hS2)
          have u6 := up_poke (ws' := ws ++ [x5]) hDl5
          refine ⟨ws, hDl5, by rw [← ra5.length]; exact h5.1, { m5 with H := upd m5.H D (.lst (ws ++ [x5])) }, S5, acc ++ [v], ws ++ [x5], e25.k.trans hK1, rfl, e25.poke hD, hS5.poke nD5 hDl5, nD5, upd_same, ra5.append (.cons r5 .nil) |>.up u6, h5.2⟩
theorem PTs.imp {e : List Expr} {t t' : TT} (h : PTs X e t) (f : ∀ σ H Q, t' σ H Q → t σ H Q) : PTs X e t' := ⟨fun pins s σ H Q I hw => h.run pins s σ H Q I (f _ _ _ hw)⟩
theorem c_none : PTs X [] (tCs P cl k X W .none) :=
  PTs.imp pts_nil fun σ H Q ⟨m, env, S, hK, eH, hS, hV, h⟩ => by
    subst eH
    simp only [wC] at h
    exact h m (Ev.refl m) hS
theorem c_some {t : T} {e : Expr} (h : PT X e (tTs P cl k X W t)) : PTs X [e] (tCs P cl k X W (.some t)) :=
  PTs.imp (pts_one h) fun σ H Q ⟨m, env, S, hK, eH, hS, hV, h⟩ => ⟨m, env, S, hK, eH, hS, hV, by simpa only [wC] using h⟩
structure LcOk (P : Pg) (cl : Cl) (k : Nat) (X : Cx) (W : WX) (elt : E) (tgt : Tg) (cond : Ot) (own : List (String × Nat)) (eelt tg : Expr) (ifs : List Expr) (scope : Scope) : Prop where
  ok : BlkOk X.N X.env.scope scope (own.map fun p => (Str.ofString p.1, p.2))
  sl : ∀ i ∈ tgt.slots, i ∈ own.map (·.2)
  tg : ∀ σ s H C c fp, TgOk (Cx.blkE X W σ s H scope (compEnvC scope c C X.env) fp) tgt tg
  cd : ∀ σ s H C c fp, PTs (Cx.blkE X W σ s H scope (compEnvC scope c C X.env) fp) ifs (tCs P cl k X (atS W σ) cond)
  el : ∀ σ s H C c fp, PE (Cx.blkE X W σ s H scope (compEnvC scope c C X.env) fp) eelt (tE P cl k X (atS W σ) elt)
variable {elt : E} {tgt : Tg} {src : Src} {cond : Ot} {own : List (String × Nat)} {eelt tg iter : Expr} {ifs : List Expr} {scope : Scope} {pos : Pos}
theorem own_snd : (own.map fun p => (Str.ofString p.1, p.2)).map (·.2) = own.map (·.2) := by rw [List.map_map]; rfl
theorem LcOk.pg (xo : XO P cl X k sc W) (hc : (!sc.hot) = true) (L : LcOk P cl k X W elt tgt cond own eelt tg ifs scope) (σ : L2.St) (s : Shared) (H : Hp) (C : Addr) (c : List (Str × Addr)) (fp : List Addr) : PG (Cx.blkE X W σ s H scope (compEnvC scope c C X.env) fp) tg (fun v σ H Q => KF X.K H → tG X.K tgt v σ H Q) :=
  PG.pre (X := Cx.blkE X W σ s H scope (compEnvC scope c C X.env) fp) ((L.tg σ s H C c fp).pg xo.nd (xo.calm hc))
theorem e_lc (xo : XO P cl X k sc W) (hc : (!sc.hot) = true) (hsrc : PI X tg iter (tSrc P cl k X W src)) (hfold : ∀ x, foldedSetIterable iter X.env x = pure x) (L : LcOk P cl k X W elt tgt cond own eelt tg ifs scope) :
    PE X (.ListComp eelt [⟨tg, iter, ifs, 0⟩] scope pos) (tE P cl k X W (.lc elt tgt src cond own)) :=
  PE.imp (PE.kf (peE_lc (xo.calm hc) xo.nd xo.fr xo.tk hsrc L.ok (L.pg xo hc) L.cd L.el hfold)) fun σ H Q ⟨m, env, S, hK, eH, hS, hV, h⟩ => by
    subst eH
    rw [own_snd]
    exact lc_run hK hS hV L.sl (fun v S' h m' x e hS' r => h m' x e hS' r) h
/-- a dict is locked while an expression runs -/
theorem lock_sh {cl : Cl} {m : Sm} {S : Hm} {n : Nat} {a : Addr} {kvs : List (Key × Val)} {ws : List (L2.Key × V)} {od : Obj} (hS : SH cl m S) (ha : m.em[n]? = some a) (h : m.H a = some (.dK ws)) (r : RKs m kvs ws) :
    Ev m { m with H := upd m.H a (.frz od (.dK ws)) } ∧ SH cl { m with H := upd m.H a (.frz od (.dK ws)) } (S.set n (.lck (.dic kvs))) :=
  have e : Ev m { m with H := upd m.H a (.frz od (.dK ws)) } := Ev.write ha h
  ⟨e, hS.write ha h ⟨od, ws, upd_same, r.up (e.up hS)⟩⟩
theorem unlock_sh {cl : Cl} {m m2 : Sm} {S2 : Hm} {n : Nat} {a : Addr} {kvs : List (Key × Val)} {ws : List (L2.Key × V)} {od : Obj} (ha : m.em[n]? = some a) (h : m.H a = some (.dK ws)) (e : Ev { m with H := upd m.H a (.frz od (.dK ws)) } m2) (hS2 : SH cl m2 S2) (h2 : S2[n]? = some (.lck (.dic kvs))) :
    m2.H a = some (.frz od (.dK ws)) ∧ Up m2 { m2 with H := upd m2.H a (.dK ws) } ∧ Ev m { m2 with H := upd m2.H a (.dK ws) } ∧ SH cl { m2 with H := upd m2.H a (.dK ws) } (S2.set n (.dic kvs)) := by
  obtain ⟨h3, r⟩ := frz_at (m0 := { m with H := upd m.H a (.frz od (.dK ws)) }) ha (show (({ m with H := upd m.H a (.frz od (.dK ws)) } : Sm).H a) = _ from upd_same) e hS2 h2
  have e1 : Ev m { m with H := upd m.H a (.frz od (.dK ws)) } := Ev.write ha h
  have ha2 := em_get e.em ha
  exact ⟨h3, hS2.upw ha2, (e1.trans e).put ha (fun q u z => by rw [h] at z; cases z), hS2.write ha2 h3 ⟨ws, upd_same, r.up (hS2.upw ha2)⟩⟩
theorem e_lck {i : Nat} {e : E} {ex : Expr} (he : PE X ex (tE P cl k X W e)) : PE X ex (tE P cl k X W (.lck i e)) :=
  PE.imp (pe_lock he) fun σ H Q ⟨m, env, S, hK, eH, hS, hV, h⟩ => by
    subst eH
    simp only [wE] at h
    obtain ⟨n, kvs, h1, h2, h3⟩ := h
    obtain ⟨v, hv, rv⟩ := hV.get h1
    cases rv with
    | @ref _ a ha =>
    obtain ⟨ws, h4, r⟩ := hS.ob n _ a h2 ha
    refine ⟨a, _, h4, trivial, fun od => ?_⟩
    obtain ⟨e1, hS1⟩ := lock_sh (od := od) hS ha h4 r
    refine tE_of (m0 := m) (m := { m with H := upd m.H a (.frz od (.dK ws)) }) hK hS1 (hV.up (e1.up hS)) e1 h3 fun m2 x S2 v e2 hS2 r2 hV2 h5 => ?_
    obtain ⟨h6, up, e3, hS3⟩ := unlock_sh ha h4 e2 hS2 h5.1
    exact ⟨h6, h5.2 _ x e3 hS3 (r2.up up)⟩
theorem e_lckA {e : E} {ex : Expr} (he : PE X ex (tE P cl k X W e)) : PE X ex (tE P cl k X W (.lckA e)) :=
  PE.imp (pe_lock he) fun σ H Q ⟨m, env, S, hK, eH, hS, hV, h⟩ => by
    subst eH
    simp only [wE] at h
    obtain ⟨n, kvs, h2, h3⟩ := h
    obtain ⟨a, ha, _⟩ := hS.at h2
    obtain ⟨ws, h4, r⟩ := hS.ob n _ a h2 ha
    refine ⟨a, _, h4, trivial, fun od => ?_⟩
    obtain ⟨e1, hS1⟩ := lock_sh (od := od) hS ha h4 r
    refine tE_of (m0 := m) (m := { m with H := upd m.H a (.frz od (.dK ws)) }) hK hS1 (hV.up (e1.up hS)) e1 h3 fun m2 x S2 v e2 hS2 r2 hV2 h5 => ?_
    obtain ⟨h6, up, e3, hS3⟩ := unlock_sh ha h4 e2 hS2 h5.1
    exact ⟨h6, h5.2 _ x e3 hS3 (r2.up up)⟩
end
end Mi

set_option maxHeartbeats 4000000
/-! MiT: list(reversed(x)). -/
namespace Mi
open PySem PySem.Spec L2 PyProof.Rows
section
variable {prog : Program} {w : World} {A : Around} {E : Value → Shared → Prop} {s : Shared} {T : String} {r : Addr} {fp : List Addr} {n : Nat} {P : Nat → Value → Prop} {St : Nat → Heap → Prop}
/-- an iterator that is its own iter -/
structure OwnW (prog : Program) (w : World) (T : String) (r : Addr) (fp : List Addr) (n : Nat) (P : Nat → Value → Prop) (St : Nat → Heap → Prop) : Prop where
  W : ∀ A : Around, A.handled = none → Walks prog w A r fp [r] n P St
  ty : ∀ s : Shared, St 0 s.heap → s.TypeIs (.ref r) T
  nl : (Value.type T == Value.type "list") = false
  nt : (Value.type T == Value.type "tuple") = false
  hint : ∀ (A : Around) (E : Value → Shared → Prop) (s : Shared) (Q : Bool → Shared → Prop), St 0 s.heap → (∀ b tk, Q b { s with toks := tk }) → wpAny (model prog w) A (Builtin.List.listLengthHint (.ref r)) Q E s
  rf : r ∈ fp
theorem own_ext {R : Result → Shared → Prop} (K : OwnW prog w T r fp n P St) (hh : A.handled = none) (hst : St 0 s.heap) (L : Addr) (hL : L ∉ fp) (res : Value) (c₀ : Nat) (h0 : s.heap.get? L = some { cls := .type "list", data := .seq #[] c₀ }) (hn : n ≤ sizeLine)
    (hR : ∀ h' tk acc c, (∀ b o, b ≠ L → b ≠ r → s.heap.get? b = some o → h'.get? b = some o) → h'.get? L = some { cls := .type "list", dict := none, data := .seq acc c, slots := #[] } → ItemsOf P acc n → R (.ok (.ret res)) { s with heap := h', toks := tk }) :
    wpAny (model prog w) A.in1 (Builtin.List.listExtendWith (.ref L) (.ref r) res)
      (fun fin s' => match fin with | .done f => R (.ok f) s' | .again c' => c'.quiet = true ∧ codeAny (model prog w) A c' R s') (fun e s' => R (.error e) s') s := by
  have hLr : L ≠ r := fun e => hL (e ▸ K.rf)
  have go : ∀ (h : Heap) (c tk0 : Nat), St 0 h → (∀ b o, b ≠ L → s.heap.get? b = some o → h.get? b = some o) →
      h.get? L = some { cls := .type "list", data := .seq #[] c } → codeAny (model prog w) A (.builtin "list.extend.loop" ⟨[.ref L, .ref r, res], []⟩) R { s with heap := h, toks := tk0 } := by
    intro h c tk0 st kp e0
    refine codeAny_extend_loopS (K.W A.in1 hh).toS hn L hL res n 0 _ #[] c rfl (Nat.zero_le _) st e0 (ItemsOf.nil _) fun z accz cz mz ez iz => ?_
    rw [Moved.eq_with mz]
    refine hR z.heap z.toks accz cz (fun b o n1 n2 e => mz.heap b o (fun hm => ?_) (kp b o n1 e)) ez iz
    rcases List.mem_cons.mp hm with x | x
    · exact n1 x
    · exact n2 (List.mem_singleton.mp x)
  unfold Builtin.List.listExtendWith
  refine wpAny_bind (wpAny_typeOf (T := T) (K.ty s hst) ?_)
  have q1 : Builtin.List.listSameRef (.ref L) (.ref r) = false := by simp [Builtin.List.listSameRef, hLr]
  simp only [q1, K.nl, K.nt, Bool.or_false, Bool.false_eq_true, if_false]
  refine wpAny_bind ((K.W A.in1 hh).self 0 _ _ _ hst ?_)
  refine wpAny_bind (wpAny_holding (K.hint _ _ _ _ hst fun b tk => ?_))
  refine wpAny_ite_split (fun _ => ?_) (fun _ => wpAny_pure ⟨plainId_quiet PySem.F.plain_extend_loop _, go s.heap c₀ tk hst (fun _ _ _ e => e) h0⟩)
  refine wpAny_bind (wpAny_rule (wpAny_bind ?_))
  show wpAny _ _ (updateSeq L (·.push .none) >>= fun _ => updateSeq L (·.pop)) _ _ _
  refine wpAny_bind (wpAny_updateSeq h0 rfl ?_)
  have u1 := Heap.get?_update_self (Obj.mapSeq (·.push Value.none)) h0 rfl
  refine wpAny_updateSeq (hz := by seq_fits) u1 rfl ?_
  have u2 := Heap.get?_update_self (Obj.mapSeq (·.pop)) u1 rfl
  have oth : ∀ b o, b ≠ L → s.heap.get? b = some o → ((s.heap.update L (Obj.mapSeq (·.push Value.none))).update L (Obj.mapSeq (·.pop))).get? b = some o :=
    fun b o hb e => (Heap.get?_update_other _ _ (Ne.symm hb)).trans ((Heap.get?_update_other _ _ (Ne.symm hb)).trans e)
  exact wpAny_pure ⟨plainId_quiet PySem.F.plain_extend_loop _, go _ _ _ ((K.W A hh).frame 0 _ _ hst fun b hb o e => oth b o (fun z => hL (z ▸ hb)) e) oth u2⟩
/-- list(it) -/
theorem call_list_self {Q : Value → Shared → Prop} (K : OwnW prog w T r fp n P St) (hh : A.handled = none) (hst : St 0 s.heap) (hfp : ∀ b ∈ fp, b < s.heap.objs.size) (hn : n ≤ sizeLine)
    (hQ : ∀ h' tk acc c, (∀ b o, b ≠ r → s.heap.get? b = some o → h'.get? b = some o) → h'.get? s.heap.objs.size = some { cls := .type "list", dict := none, data := .seq acc c, slots := #[] } → ItemsOf P acc n → Q (.ref s.heap.objs.size) { s with heap := h', toks := tk }) :
    wpAny (model prog w) A (call (.type "list") [.ref r]) Q E s := by
  have hL : s.heap.objs.size ∉ fp := fun hm => Nat.lt_irrefl _ (hfp _ hm)
  refine callType_codes (Q₁ := fun obj z => obj = .ref s.heap.objs.size ∧ z = { s with heap := s.heap.push { cls := .type "list", data := .seq #[] } }) PySem.F.called_list (PySem.F.typeCall_list_1 _) PySem.F.entry_list_init (code_list_new _ ⟨rfl, rfl⟩) fun obj z hz => ?_
  obtain ⟨rfl, rfl⟩ := hz
  have e0 : (s.heap.push { cls := .type "list", data := .seq #[] }).get? s.heap.objs.size = some { cls := .type "list", data := .seq #[] } := Heap.get?_push_size _ rfl
  have st1 : St 0 (s.heap.push { cls := .type "list", data := .seq #[] }) := (K.W A hh).frame 0 _ _ hst fun b _ o e => Heap.get?_push_of_some _ e
  refine ⟨⟨_, e0, rfl⟩, PySem.F.args_list_init_2 _ _, ?_⟩
  show wpAny _ _ (do let old ← Builtin.List.listItems (.ref s.heap.objs.size); Builtin.List.listUpdate (.ref s.heap.objs.size) (fun _ => #[]); letGo old.toList.reverse; Builtin.List.listExtendWith (.ref s.heap.objs.size) (.ref r) .none) _ _ _
  refine wpAny_bind ?_
  unfold Builtin.List.listItems
  refine wpAny_bind (wpAny_seqItems e0 rfl (wpAny_pure ?_))
  show wpAny _ _ (updateSeq s.heap.objs.size (fun _ => #[]) >>= fun _ => letGo (#[] : Array Value).toList.reverse >>= fun _ => Builtin.List.listExtendWith (.ref s.heap.objs.size) (.ref r) .none) _ _ _
  refine wpAny_bind (wpAny_updateSeq e0 rfl ?_)
  have u1 := Heap.get?_update_self (Obj.mapSeq (fun _ => (#[] : Array Value))) e0 rfl
  have oth : ∀ b o, b ≠ s.heap.objs.size → (s.heap.push { cls := .type "list", data := .seq #[] }).get? b = some o → ((s.heap.push { cls := .type "list", data := .seq #[] }).update s.heap.objs.size (Obj.mapSeq (fun _ => (#[] : Array Value)))).get? b = some o :=
    fun b o hb e => (Heap.get?_update_other _ _ (Ne.symm hb)).trans e
  refine wpAny_bind (wpAny_letGo ?_)
  refine own_ext (A := A.in1) K hh ((K.W A hh).frame 0 _ _ st1 fun b hb o e => oth b o (fun z => hL (z ▸ hb)) e) _ hL .none _ u1 hn fun h' tk acc c kp e1 iz => ?_
  exact ⟨rfl, hQ h' tk acc c (fun b o hb e => kp b o (Nat.ne_of_lt (Heap.lt_size e)) hb (oth b o (Nat.ne_of_lt (Heap.lt_size e)) (Heap.get?_push_of_some _ e))) e1 iz⟩
end
section
open RT
variable {prog : Program} {w : World}
theorem tupAt {h h' : Heap} {t : Addr} {its : Array Value} (x : IsTup h t its) (k : ∀ o, h.get? t = some o → h'.get? t = some o) : IsTup h' t its := let ⟨o, ho, hc, hd⟩ := x; ⟨o, k o ho, hc, hd⟩
theorem slot_rt_hint : Slot "reversed" "__length_hint__" "reversed.__length_hint__" :=
  .of (owner := "reversed") (n := "__length_hint__") (by rw [typeLookup_type, builtinLookup_eq_fast]; kernel_rfl) (by decide +kernel) (by decide +kernel) (by decide +kernel) (by first | exact .inl (by decide +kernel) | exact .inr (by decide +kernel)) (by rw [isSubtype_type]; kernel_rfl)
theorem entry_rt_hint : entryFor table "reversed.__length_hint__" = some Builtin.«reversed.__length_hint__» := entryFor_of_tree (by kernel_rfl)
theorem args_rt_hint (a : Value) : argsOk "reversed.__length_hint__" ⟨[a], []⟩ := by
  unfold argsOk
  rw [signature?_of (id := "reversed.__length_hint__") (n := ['_', '_', 't', 'n', 'i', 'h', '_', 'h', 't', 'g', 'n', 'e', 'l', '_', '_']) (o := ['d', 'e', 's', 'r', 'e', 'v', 'e', 'r']) (by kernel_rfl) owner_rt]
  kernel_rfl
theorem nolen_rt : typeLookup (.type "reversed") "__len__" = pure none := by rw [typeLookup_type, builtinLookup_eq_fast]; kernel_rfl
theorem hint_rt : typeLookup (.type "reversed") "__length_hint__" = pure (some (.builtin "reversed.__length_hint__")) := by rw [typeLookup_type, builtinLookup_eq_fast]; kernel_rfl
theorem ownW_rt {t r : Addr} {its : Array Value} (hne : t ≠ r) (hz : its.size ≤ sizeLine) : OwnW prog w "reversed" r [r, t] its.size (fun i v => its[its.size - 1 - i]? = some v) (fun i h => i ≤ its.size ∧ IsRt h r t ((its.size : Int) - 1 - (i : Nat)) ∧ IsTup h t its) where
  W := fun A hh => {
    sub := fun b hb => by simp at hb; simp [hb]
    frame := fun _ _ _ x hk => ⟨x.1, x.2.1.at fun o e => hk r (by simp) o e, tupAt x.2.2 fun o e => hk t (by simp) o e⟩
    item := fun i s Q E hi x hQ => by
      have e : (its.size : Int) - 1 - (i : Int) = ((its.size - 1 - i : Nat) : Int) := by omega
      have hit := x.2.1
      rw [e] at hit
      have hx : its[its.size - 1 - i]? = some (its[its.size - 1 - i]'(by omega)) := Array.getElem?_eq_getElem (by omega)
      refine next_rt_item hit x.2.2 hx hz fun h' hit' hs' => ?_
      have e2 : ((its.size - 1 - i : Nat) : Int) - 1 = (its.size : Int) - 1 - ((i + 1 : Nat) : Int) := by omega
      rw [e2] at hit'
      exact hQ _ h' _ hx ⟨hi, hit', tupAt x.2.2 fun o eo => (hs'.2 t hne).trans eo⟩ fun b o hb eo => hs'.extBut b o (fun h => hb (by simp [h])) eo
    done := fun s Q E x hQ => by
      have e : (its.size : Int) - 1 - (its.size : Int) = -1 := by omega
      have hit := x.2.1
      rw [e] at hit
      exact next_rt_end hh hit fun h' hk => hQ h' s.toks fun b o hb eo => hk b o (fun h => hb (by simp [h])) eo
    self := fun i s Q E x hQ => iter_rt x.2.1 hQ }
  ty := fun s x => x.2.1.typeIs
  nl := by decide
  nt := by decide
  hint := fun A E s Q x hQ => by
    have hT : s.TypeIs (.ref r) "reversed" := x.2.1.typeIs
    unfold Builtin.List.listLengthHint
    refine wpAny_bind (wpAny_specialOf hT nolen_rt ?_)
    show wpAny _ A (specialOf (Value.ref r) (Str.ofString "__length_hint__") >>= _) _ _ _
    refine wpAny_bind (wpAny_specialOf hT hint_rt ?_)
    generalize hid : ("reversed.__length_hint__" : String) = id0
    wp_delta
    rw [show splitId id0 = some ("reversed", "__length_hint__") from by subst hid; decide +kernel]
    subst hid
    refine wpAny_bind (wpAny_isInstance (b := true) hT (by rw [isSubtype_type]; kernel_rfl) ?_)
    rw [if_neg (by decide)]
    dsimp only
    rw [if_neg (by decide +kernel)]
    refine wpAny_bind (wpAny_rule ?_)
    rw [slot_rt_hint.bind]
    refine wpAny_bind (wpAny_pure ?_)
    dsimp only
    obtain ⟨o, ho, hc, hd⟩ := id x.2.1
    have hln : its.size < 2 ^ 63 := by rw [sizeLine_eq] at hz; omega
    refine wpAny_bind (wpAny_attempt (wpAny_call_entry slot_rt_hint hT entry_rt_hint ?_ (args_rt_hint _)))
    unfold Builtin.«reversed.__length_hint__»
    refine wpAny_bind (wpAny_of_eq (a := Value.ref r) rfl ?_)
    refine wpAny_bind (wpAny_field ho hd (x := .ref t) rfl ?_)
    rw [if_neg (by simp)]
    dsimp only
    refine wpAny_bind (len_tuple x.2.2 (by omega) ?_)
    refine wpAny_bind (wpAny_of_eq (a := some ((its.size : Nat) : Int)) rfl ?_)
    dsimp only
    refine wpAny_bind (wpAny_field ho hd (x := rawInt (((its.size : Nat) : Int) - 1 - ((0 : Nat) : Int))) rfl ?_)
    show wpAny _ _ (if ((its.size : Nat) : Int) < (((its.size : Nat) : Int) - 1 - ((0 : Nat) : Int)) + 1 then _ else _) _ _ _
    rw [if_neg (by omega)]
    unfold retInt
    refine wpAny_bind (wpAny_mkInt (wpAny_pure ⟨_, rfl, ?_⟩))
    dsimp only
    refine wpAny_bind (wpAny_of_eq (a := some (((its.size : Nat) : Int) - 1 - ((0 : Nat) : Int) + 1)) rfl ?_)
    dsimp only
    have f1 : Builtin.List.listFitsIndex (((its.size : Nat) : Int) - 1 - ((0 : Nat) : Int) + 1) = true := by
      unfold Builtin.List.listFitsIndex
      rw [Bool.and_eq_true, decide_eq_true_eq, decide_eq_true_eq]
      omega
    have f2 : Builtin.List.listTooLong (((its.size : Nat) : Int) - 1 - ((0 : Nat) : Int) + 1).toNat = false := by
      unfold Builtin.List.listTooLong
      rw [decide_eq_false]
      omega
    rw [if_neg (by rw [f1]; decide), if_neg (by omega), if_neg (by rw [f2]; decide)]
    exact wpAny_pure (hQ _ _)
  rf := by simp
end
section
variable {X : Cx}
/-- list(reversed(x)), x a tuple: a new list -/
def tLstRev (K : PySem.W.Frag) (te : TE) : TE := fun σ H Q => te σ H fun v H1 => ∃ (a : Addr) (xs : List V), v = .ref a ∧ SqT K H1 a xs ∧ ∀ q, H1 q = none → Q (.ref q) (upd H1 q (.lst xs.reverse))
theorem pe_lstRev {e : Expr} {te : TE} {p p2 pos pos2 : Pos} (hc : X.calm = true) (hg : Gl X "list") (hm : X.mg "list" = none) (hg2 : Gl X "reversed") (hm2 : X.mg "reversed" = none) (he : PE X e te) (hs : starEach [e] X.env = (false, eval e X.env) :: starEach [] X.env) :
    PE X (.Call (.Name "list" p) [.Call (.Name "reversed" p2) [e] [] pos2] [] pos) (tLstRev X.K te) := by
  have hs2 : starEach [.Call (.Name "reversed" p2) [e] [] pos2] X.env = (false, eval (.Call (.Name "reversed" p2) [e] [] pos2) X.env) :: starEach [] X.env := by rfl
  refine ⟨fun pins s σ H Q I h => ?_⟩
  refine Call_ (ld_blt I hg hm boot_list (PyProof.Rows.callWith_type1 (args_cons (Call_ (ld_blt I hg2 hm2 PyProof.Rows.boot_reversed (PyProof.Rows.callWith_type1 (args_cons (thn (he.run pins s σ H _ I h) fun u z ⟨v, H1, I1, r1, q1⟩ => args_nil ?_) hs) hs rfl))) hs2) hs2 rfl))
  obtain ⟨a, xs, ev, hq, q⟩ := q1
  subst ev
  obtain rfl : u = Value.ref a := r1
  obtain ⟨its, rv, p', hz⟩ := I1.tuple hq
  have hsz : its.toArray.size ≤ sizeLine := by rw [List.size_toArray, ← rv.length]; exact hz
  have hn63 := line63
  have hlen := rv.length
  refine RT.call_reversed_tup p' (fun A E Q k => len_tuple p' (by simp only [List.size_toArray] <;> omega) k) (args_nil ?_)
  have k0 : ∀ b o, z.heap.get? b = some o → (z.heap.push (RT.rtObj a ((its.toArray.size : Int) - 1))).get? b = some o := fun b o e => Heap.get?_push_of_some _ e
  obtain ⟨ot, hot, _⟩ := id p'
  have hlt : a < z.heap.objs.size := Heap.lt_size hot
  have e1 : ((its.toArray.size : Nat) : Int) - 1 = (its.toArray.size : Int) - 1 - ((0 : Nat) : Int) := by omega
  have hps : (z.heap.push (RT.rtObj a ((its.toArray.size : Int) - 1))).objs.size = z.heap.objs.size + 1 := Heap.size_push ..
  refine call_list_self (s := { z with heap := z.heap.push (RT.rtObj a ((its.toArray.size : Int) - 1)), toks := z.toks + 1 + 1 }) (ownW_rt (t := a) (r := z.heap.objs.size) (Nat.ne_of_lt hlt) hsz) (I1.ok.hd hc) ⟨Nat.zero_le _, by rw [← e1]; exact ⟨_, Heap.get?_push_size _ rfl, rfl, rfl⟩, tupAt p' fun o e => k0 _ _ e⟩ (fun b hb => ?_) hsz fun h' tk acc c kp eL hi => ?_
  · show b < (z.heap.push _).objs.size
    rw [hps]
    rcases List.mem_cons.mp hb with x | x
    · rw [x]; exact Nat.lt_succ_self _
    · rw [List.mem_singleton.mp x]; exact Nat.lt_succ_of_lt hlt
  · have hkeep : ∀ b o, z.heap.get? b = some o → h'.get? b = some o := fun b o e => kp b o (Nat.ne_of_lt (Heap.lt_size e)) (k0 b o e)
    refine ⟨.ref (z.heap.push (RT.rtObj a ((its.toArray.size : Int) - 1))).objs.size, upd H1 (z.heap.push (RT.rtObj a ((its.toArray.size : Int) - 1))).objs.size (.lst xs.reverse), I1.laid (t' := tk) hkeep (by rw [hps]; exact Nat.le_succ _) (show ObjOk X.prog X.w _ _ _ (.lst xs.reverse) from ⟨by rw [List.length_reverse]; exact hz, acc.toList, c, RT.vals_rev rv hi, ?_⟩), rfl, q _ (I1.hok.fresh (by rw [hps]; exact Nat.le_succ _))⟩
    rw [Array.toArray_toList]
    exact eL
end
section
variable {P : Pg} {cl : Cl} {k : Nat} {X : Cx} {W : WX} {o : Ko} {a : E} {ea : Expr} {pos pos2 p p2 : Pos}
theorem e_listRev (xo : XO P cl X k o W) (hc : (!o.hot) = true) (hg : Gl X (Str.ofString "list")) (hg2 : Gl X (Str.ofString "reversed")) (hs : notStar ea = true) (ha : PE X ea (tE P cl k X W a)) :
    PE X (.Call (.Name (Str.ofString "list") p) [.Call (.Name (Str.ofString "reversed") p2) [ea] [] pos2] [] pos) (tE P cl k X W (.vi .listRev (.cons a .nil))) :=
  PE.imp (PE.kf (pe_lstRev (xo.calm hc) hg (xo.ln.bi "list" (by decide)) hg2 (xo.ln.bi "reversed" (by decide)) ha (star_cons hs))) fun σ H Q ⟨m, env, S, hK, eH, hS, hV, h⟩ => by
    subst eH
    simp only [wE, wEs] at h
    refine tE_of hK hS hV (Ev.refl m) h fun m1 x S1 v e1 hS1 r1 hV1 h1 => ?_
    cases r1 with
    | @tup q xs ds hq rs =>
      rw [e1.k, hK] at hq
      exact ⟨q, xs, rfl, hq, fun p hp kf => mk_lst hS1 rs.rev hp (by rw [e1.k, hK]; exact kf) (liftQ.ev e1 (fun _ _ _ q => q) h1)⟩
    | _ => exact h1.elim
theorem e_tupRev (xo : XO P cl X k o W) (hc : (!o.hot) = true) (hg : Gl X (Str.ofString "tuple")) (hg2 : Gl X (Str.ofString "reversed")) (hs : notStar ea = true) (ha : PE X ea (tE P cl k X W a)) :
    PE X (.Call (.Name (Str.ofString "tuple") p) [.Call (.Name (Str.ofString "reversed") p2) [ea] [] pos2] [] pos) (tE P cl k X W (.vi .tupRev (.cons a .nil))) :=
  PE.imp (PE.kf (RT.pe_tupRev (xo.calm hc) hg (xo.ln.bi "tuple" (by decide)) hg2 (xo.ln.bi "reversed" (by decide)) ha (star_cons hs))) fun σ H Q ⟨m, env, S, hK, eH, hS, hV, h⟩ => by
    subst eH
    simp only [wE, wEs] at h
    refine tE_of hK hS hV (Ev.refl m) h fun m1 x S1 v e1 hS1 r1 hV1 h1 => ?_
    cases r1 with
    | @ref n q hq =>
      obtain ⟨xs, hb, h1⟩ := h1
      obtain ⟨vs, h2, h3⟩ := hS1.lst hb hq
      rw [e1.k, hK] at h2
      exact ⟨q, vs, rfl, h2, fun p hp kf => mk_tup hS1 h3.rev hp (by rw [e1.k, hK]; exact kf) (liftQ.ev e1 (fun _ _ _ q => q) h1)⟩
    | _ => exact h1.elim
end
end Mi

set_option maxHeartbeats 4000000
namespace Mi
open PySem PySem.Spec L2 PyProof.Rows
/-! ### the text and the small text: checked -/
def nmEq (s : String) (x : Str) : Bool := Str.ofString s == x
theorem nm_of {s : String} {x : Str} (h : nmEq s x = true) : x = Str.ofString s := (beq_iff_eq.mp h).symm
def visB (sc : Scope) (x : Str) : Bool := match sc.names.lookup x with
  | some .local => true
  | some .cell => true
  | some .free => true
  | _ => false
theorem vis_of {sc : Scope} {x : Str} (h : visB sc x = true) : Vis sc x := by
  unfold visB at h
  split at h <;> first | exact .inl (by assumption) | exact .inr (.inl (by assumption)) | exact .inr (.inr (by assumption)) | cases h
def locB (sc : Scope) (x : Str) : Bool := match sc.names.lookup x with
  | some .local => true
  | some .cell => true
  | _ => false
theorem loc_of {sc : Scope} {x : Str} (h : locB sc x = true) : Loc sc x := by
  unfold locB at h
  split at h <;> first | exact .inl (by assumption) | exact .inr (by assumption) | cases h
def glB (sc : Scope) (x : Str) : Bool := decide (sc.names.lookup x = some .globalImplicit)
def sumSc (sc : Scope) (x : Str) : Bool := decide (sc.kind = .function) && (sc.names.all fun y => decide (y.2 ≠ .free) && decide (y.2 ≠ .cell) && (!decide (y.2 = .local) || decide (sc.names.lookup y.1 = some .local))) && decide (sc.names.lookup x = some .local) && decide (sc.names.lookup (Str.ofString "int") = some .globalImplicit)
theorem sumSc_of {sc : Scope} {x : Str} (h : sumSc sc x = true) : SumSc sc x := by
  simp only [sumSc, Bool.and_eq_true, decide_eq_true_eq, List.all_eq_true, Bool.or_eq_true, Bool.not_eq_true', decide_eq_false_iff_not] at h
  obtain ⟨⟨⟨h1, h2⟩, h3⟩, h4⟩ := h
  exact ⟨h1, fun y hy => (h2 y hy).1.1, fun y hy => (h2 y hy).1.2, fun y hy e => (h2 y hy).2.resolve_left fun z => z e, h3, h4⟩
def ndb (x : Str) : Bool := !(x == ("__debug__" : Str))
def ncd (x : Str) : Bool := !(x == ("__classdict__" : Str))
theorem ndb_of {x : Str} (h : ndb x = true) : (x == ("__debug__" : Str)) = false := by simpa [ndb] using h
theorem ncd_of {x : Str} (h : ncd x = true) : (x == ("__classdict__" : Str)) = false := by simpa [ncd] using h
def litB : Lit → Const → Bool
  | .non, .none => true
  | .bl b, .bool c => b == c
  | .int i, .int j => i == j
  | .str s, .str x => nmEq s x
  | _, _ => false
def nmB (o : Ko) (i : Nat) (e : Expr) : Bool := match e with
  | .Name x _ => decide (o.N[i]? = some x) && locB o.sc x && (o.cf x || decide (o.sc.names.lookup x = some .local))
  | _ => false
def nmsB (o : Ko) : List Nat → List Expr → Bool
  | [], [] => true
  | i :: is, e :: es => nmB o i e && nmsB o is es
  | _, _ => false
def tgB (o : Ko) : Tg → Expr → Bool
  | .nm i, e => nmB o i e
  | .tp is, e => match e with
    | .Tuple es _ _ => nmsB o is es
    | _ => false
def isTup : Expr → Bool
  | .Tuple .. => true
  | _ => false
def notSet : Expr → Bool
  | .Set .. => false
  | _ => true
def isCmp : Expr → Bool
  | .Compare .. => true
  | _ => false
def isBool : Expr → Bool
  | .BoolOp .. => true
  | _ => false
def tyB (P : Pg) (o : Ko) (t : Ty) (e : Expr) : Bool := match e with
  | .Name x _ => nmEq (tyS t) x && glB o.sc x && (match t with | .cls c => P.cls.contains c && ndb x | .exc c sb => decide (sb = P.excs.filter (P.sub · c)) && (decide (c = "ValueError") || (P.excs.contains c && ndb x)) | _ => true)
  | _ => false
def tysB (P : Pg) (o : Ko) : List Ty → List Expr → Bool
  | [], [] => true
  | t :: ts, e :: es => tyB P o t e && tysB P o ts es
  | _, _ => false
def dOk (d : Option FDef) (n : Nat) : Bool := match d with
  | some d => decide (n ≤ d.params)
  | none => false
def dOk1 (d : Option FDef) (n : Nat) : Bool := match d with
  | some d => decide (n = d.params) && d.dflt.isEmpty
  | none => false
theorem dOk1_of {d : Option FDef} {n : Nat} (h : dOk1 d n = true) : ∃ d', d = some d' ∧ n = d'.params ∧ d'.dflt = [] := by
  cases d with
  | none => cases h
  | some d =>
    simp only [dOk1, Bool.and_eq_true, decide_eq_true_eq, List.isEmpty_iff] at h
    exact ⟨d, rfl, h.1, h.2⟩
theorem dOk_of {d : Option FDef} {n : Nat} (h : dOk d n = true) : ∃ d', d = some d' ∧ n ≤ d'.params := by
  cases d with
  | none => cases h
  | some d => exact ⟨d, rfl, of_decide_eq_true h⟩
def lcKo (o : Ko) (scope : Scope) : Ko := ⟨o.N, relS scope o.sc, fun x => scope.names.lookup x == some .cell, false, o.hf⟩
section
variable (P : Pg)
mutual
def chkE : Ko → E → Expr → Bool
  | o, .loc i, e => match e with
    | .Name x _ => decide (o.N[i]? = some x) && visB o.sc x && ndb x && ncd x
    | _ => false
  | o, .lit c, e => match e with
    | .Constant v _ _ => litB c v
    | _ => false
  | o, .con y, e => match e with
    | .Name x _ => nmEq y x && glB o.sc x && ndb x && (P.con y).isSome
    | _ => false
  | o, .bin op a b, e => match e with
    | .BinOp l op' r _ => decide (op = op') && chkE o a l && chkE o b r
    | _ => false
  | o, .neg a, e => match e with
    | .UnaryOp .USub x _ => chkE o a x
    | _ => false
  | o, .cmp op a b, e => match e with
    | .Compare l [op'] [r] _ => decide (op = op') && !behindInMarks op r && chkE o a l && chkE o b r
    | _ => false
  | o, .cmp2 op op2 a b c, e => match e with
    | .Compare l [op', op2'] [r, r2] _ => decide (op = op') && decide (op2 = op2') && !lastMarks [op, op2] [r, r2] && chkE o a l && chkE o b r && chkE o c r2
    | _ => false
  | o, .isN a, e => match e with
    | .Compare l [.Is] [.Constant .none _ _] _ => chkE o a l
    | _ => false
  | o, .notN a, e => match e with
    | .Compare l [.IsNot] [.Constant .none _ _] _ => chkE o a l
    | _ => false
  | o, .isB a b, e => match e with
    | .Compare l [.Is] [.Constant (.bool c) _ _] _ => (b == c) && chkE o a l
    | _ => false
  | o, .not a, e => match e with
    | .UnaryOp .Not x _ => chkE o a x
    | .Compare l [.IsNot] [.Constant (.bool c) _ _] _ => (match a with
      | .isB a' b => (b == c) && chkE o a' l
      | _ => false)
    | _ => false
  | o, .and a b, e => match e with
    | .BoolOp .And [x, y] pos => chkE o a x && chkE o b y
    | .BoolOp .And (x :: y :: z :: rest) pos => chkE o a x && chkE o b (.BoolOp .And (y :: z :: rest) pos)
    | _ => false
  | o, .or a b, e => match e with
    | .BoolOp .Or [x, y] pos => chkE o a x && chkE o b y
    | .BoolOp .Or (x :: y :: z :: rest) pos => chkE o a x && chkE o b (.BoolOp .Or (y :: z :: rest) pos)
    | _ => false
  | o, .ite c a b, e => match e with
    | .IfExp t x y _ => chkT o c t && chkE o a x && chkE o b y
    | _ => false
  | o, .tup es, e => match e with
    | .Tuple xs _ _ => chkEs o es xs
    | _ => false
  | o, .lst es, e => match e with
    | .List xs _ => chkEs o es xs
    | _ => false
  | o, .dic ps, e => match e with
    | .Dict ks vs _ => decide (ks.length ≤ 15) && chkPs o ps ks vs
    | _ => false
  | o, .call f es, e => match e with
    | .Call (.Name x _) xs [] _ => (if o.hot = true then o.hf.contains f && !xs.isEmpty && dOk1 (P.fn (.f f)) es.len else !(P.isHot (.f f))) && (nmEq f x && glB o.sc x && ndb x && dOk (P.fn (.f f)) es.len && xs.all notStar && chkEs o es xs)
    | _ => false
  | o, .make c es, e => match e with
    | .Call (.Name x _) xs [] _ => !o.hot && (nmEq c x && glB o.sc x && ndb x && P.cls.contains c && dOk (P.fn (.m c "__init__")) (es.len + 1) && xs.all notStar && chkEs o es xs)
    | _ => false
  | o, .meth c m a es, e => match e with
    | .Call (.Attribute eo x apos) xs [] pos => !o.hot && (nmEq m x && dOk (P.fn (.m c m)) (es.len + 1) && !(m == "__init__") && plainBase eo && (apos.endLine == pos.line) && decide (xs.length < 29) && xs.all notStar && chkE o a eo && chkEs o es xs)
    | _ => false
  | o, .fld a f, e => match e with
    | .Attribute eo x _ => nmEq f x && P.flds.contains f && plainBase eo && chkE o a eo
    | _ => false
  | o, .sub a i, e => match e with
    | .Subscript eo ei _ => plainIx ei && chkE o a eo && chkE o i ei
    | _ => false
  | o, .slice a lo hi, e => match e with
    | .Subscript eo (.Slice l h none _) _ => chkE o a eo && chkOe o lo l && chkOe o hi h
    | _ => false
  | o, .bi f es, e => match e with
    | .Call (.Name x _) (y :: ys) [] _ => !o.hot && (nmEq (biN f) x && glB o.sc x && (y :: ys).all notStar && chkEs o es (y :: ys))
    | _ => false
  | o, .vi f es, e => match es with
    | .nil => (match e with
      | .Call _ _ _ _ => true
      | _ => false)
    | .cons a .nil => (match f with
      | .listRev => (match e with
        | .Call (.Name x _) [.Call (.Name y _) [ea] [] _] [] _ => !o.hot && (nmEq "list" x && nmEq "reversed" y && glB o.sc x && glB o.sc y && notStar ea && chkE o a ea)
        | _ => false)
      | .tupRev => (match e with
        | .Call (.Name x _) [.Call (.Name y _) [ea] [] _] [] _ => !o.hot && (nmEq "tuple" x && nmEq "reversed" y && glB o.sc x && glB o.sc y && notStar ea && chkE o a ea)
        | _ => false)
      | .dictL => (match e with
        | .Call (.Name x _) [ea] [] _ => !o.hot && (nmEq "dict" x && glB o.sc x && notStar ea && chkE o a ea)
        | _ => false)
      | .dictP => (match e with
        | .Call (.Name x _) [ea] [] _ => !o.hot && (nmEq "dict" x && glB o.sc x && notStar ea && chkE o a ea)
        | _ => false)
      | .sumInts => (match e with
        | .Call (.Name x _) [.ListComp (.Call (.Name y _) [.Name v _] [] _) [⟨.Name v2 _, ea, [], ia⟩] scope _] [] _ => o.hot && (nmEq "sum" x && nmEq "int" y && decide (v = v2) && (ia == 0) && glB o.sc x && ndb v && sumSc scope v && notSet ea && chkE o a ea)
        | _ => false)
      | .listItems => (match e with
        | .Call (.Name x _) [.Call (.Attribute ea y apos) [] [] cpos] [] _ => !o.hot && (nmEq "list" x && nmEq "items" y && plainBase ea && (apos.endLine == cpos.line) && glB o.sc x && chkE o a ea)
        | _ => false)
      | .listZip => false
      | .dictZ => false)
    | .cons a (.cons b .nil) => (match f with
      | .listZip => (match e with
        | .Call (.Name x _) [.Call (.Name y _) [ea, eb] [] _] [] _ => !o.hot && (nmEq "list" x && nmEq "zip" y && glB o.sc x && glB o.sc y && notStar ea && notStar eb && chkE o a ea && chkE o b eb)
        | _ => false)
      | .dictZ => (match e with
        | .Call (.Name x _) [.Call (.Name y _) [ea, eb] [] _] [] _ => !o.hot && (nmEq "dict" x && nmEq "zip" y && glB o.sc x && glB o.sc y && notStar ea && notStar eb && chkE o a ea && chkE o b eb)
        | _ => false)
      | _ => false)
    | _ => false
  | o, .bm m a es, e => match e with
    | .Call (.Attribute eo x apos) [] [] pos => (!decide (m = .update) || !o.hot) && nmEq (bmI m).2.1 x && plainBase eo && (apos.endLine == pos.line) && chkE o a eo && chkEs o es []
    | .Call (.Attribute eo x apos) (y :: ys) [] pos => (!decide (m = .update) || !o.hot) && nmEq (bmI m).2.1 x && plainBase eo && (apos.endLine == pos.line) && (y :: ys).all notStar && decide ((y :: ys).length < 29) && chkE o a eo && chkEs o es (y :: ys)
    | _ => false
  | o, .isi a ts, e => match e with
    | .Call (.Name x _) [ea, .Tuple es _ _] [] _ => nmEq "isinstance" x && glB o.sc x && !ts.isEmpty && decide (ts.length ≤ 60) && notStar ea && tysB P o ts es && chkE o a ea
    | .Call (.Name x _) [ea, et] [] _ => (match ts with
      | [t] => nmEq "isinstance" x && glB o.sc x && notStar ea && notStar et && tyB P o t et && chkE o a ea
      | _ => false)
    | _ => false
  | o, .lc elt tgt src cond own, e => match e with
    | .ListComp eelt [⟨tg, iter, ifs, ia⟩] scope pos => !o.hot && ((ia == 0) && notSet iter && blkC o.N o.sc scope (own.map fun p => (Str.ofString p.1, p.2)) && (tgt.slots.all fun i => (own.map (·.2)).contains i) && chkSrc o src tg iter && tgB (lcKo o scope) tgt tg && chkOt (lcKo o scope) cond ifs && chkE (lcKo o scope) elt eelt)
    | _ => false
  | o, .lck _ a, e => !isCmp e && chkE o a e
  | o, .lckA a, e => !isCmp e && chkE o a e
def chkT : Ko → T → Expr → Bool
  | o, .v a, e => (plainTest e || isCmp e) && chkE o a e
  | o, .not t, e => match e with
    | .UnaryOp .Not x _ => chkT o t x
    | _ => false
  | o, .and a b, e => match e with
    | .BoolOp .And [x, y] pos => chkT o a x && chkT o b y
    | .BoolOp .And (x :: y :: z :: rest) pos => chkT o a x && chkT o b (.BoolOp .And (y :: z :: rest) pos)
    | _ => false
  | o, .or a b, e => match e with
    | .BoolOp .Or [x, y] pos => chkT o a x && chkT o b y
    | .BoolOp .Or (x :: y :: z :: rest) pos => chkT o a x && chkT o b (.BoolOp .Or (y :: z :: rest) pos)
    | _ => false
def chkEs : Ko → Es → List Expr → Bool
  | o, .nil, xs => match xs with
    | [] => true
    | _ => false
  | o, .cons a es, xs => match xs with
    | x :: xs => notStar x && chkE o a x && chkEs o es xs
    | _ => false
def chkPs : Ko → Ps → List (Option Expr) → List Expr → Bool
  | o, .nil, ks, vs => match ks, vs with
    | [], [] => true
    | _, _ => false
  | o, .cons a b ps, ks, vs => match ks, vs with
    | some x :: ks, y :: vs => chkE o a x && chkE o b y && chkPs o ps ks vs
    | _, _ => false
def chkOe : Ko → Oe → Option Expr → Bool
  | o, .none, e => match e with
    | none => true
    | _ => false
  | o, .some a, e => match e with
    | some x => chkE o a x
    | none => false
def chkOt : Ko → Ot → List Expr → Bool
  | o, .none, xs => match xs with
    | [] => true
    | _ => false
  | o, .some t, xs => match xs with
    | [x] => chkT o t x
    | _ => false
def chkSrc : Ko → Src → Expr → Expr → Bool
  | o, .seq a, tg, e => chkE o a e
  | o, .rng1 a, tg, e => match e with
    | .Call (.Name x _) [ea] [] _ => nmEq "range" x && glB o.sc x && notStar ea && chkE o a ea
    | _ => false
  | o, .rng2 a b, tg, e => match e with
    | .Call (.Name x _) [ea, eb] [] _ => nmEq "range" x && glB o.sc x && notStar ea && notStar eb && chkE o a ea && chkE o b eb
    | _ => false
  | o, .enum a, tg, e => match e with
    | .Call (.Name x _) [ea] [] _ => nmEq "enumerate" x && isTup tg && glB o.sc x && notStar ea && chkE o a ea
    | _ => false
  | o, .zip a b, tg, e => match e with
    | .Call (.Name x _) [ea, eb] [] _ => nmEq "zip" x && isTup tg && glB o.sc x && notStar ea && notStar eb && chkE o a ea && chkE o b eb
    | _ => false
  | o, .rev a, tg, e => match e with
    | .Call (.Name x _) [ea] [] _ => nmEq "reversed" x && glB o.sc x && notStar ea && chkE o a ea
    | _ => false
  | _, .rng3 _ _ _, _, _ => false
  | o, .items a, tg, e => match e with
    | .Call (.Attribute eo x apos) [] [] pos => nmEq "items" x && isTup tg && plainBase eo && (apos.endLine == pos.line) && chkE o a eo
    | _ => false
  | o, .values a, tg, e => match e with
    | .Call (.Attribute eo x apos) [] [] pos => nmEq "values" x && plainBase eo && (apos.endLine == pos.line) && chkE o a eo
    | _ => false
  | o, .keys a, tg, e => chkE o a e
end
end
section
variable {P : Pg} {cl : Cl} {k : Nat} {X : Cx} {W : WX} {o : Ko}
theorem gl_of (xo : XO P cl X k o W) {x : Str} (h : glB o.sc x = true) : Gl X x := by
  show X.env.scope.names.lookup x = _
  rw [xo.sc]
  exact of_decide_eq_true h
theorem nmB_of (xo : XO P cl X k o W) {i : Nat} {e : Expr} (h : nmB o i e = true) : NmOk X i e := by
  unfold nmB at h
  split at h
  · simp only [Bool.and_eq_true, Bool.or_eq_true, decide_eq_true_eq] at h
    refine ⟨_, _, rfl, by rw [xo.nn]; exact h.1.1, by rw [xo.sc]; exact loc_of h.1.2, ?_⟩
    rcases h.2 with h | h
    · exact .inl (xo.fnc _ h)
    · exact .inr (by rw [xo.sc]; exact h)
  · cases h
theorem nmsB_of (xo : XO P cl X k o W) : ∀ {is : List Nat} {es : List Expr}, nmsB o is es = true → NmsOk X is es
  | [], [], _ => .nil
  | i :: is, e :: es, h => by
    simp only [nmsB, Bool.and_eq_true] at h
    exact .cons (nmB_of xo h.1) (nmsB_of xo h.2)
  | [], _ :: _, h => by cases h
  | _ :: _, [], h => by cases h
theorem tgB_of (xo : XO P cl X k o W) {t : Tg} {e : Expr} (h : tgB o t e = true) : TgOk X t e := by
  cases t with
  | nm i => exact .nm (nmB_of xo h)
  | tp is =>
    simp only [tgB] at h
    split at h
    · exact .tp (nmsB_of xo h)
    · cases h
theorem tyB_of (xo : XO P cl X k o W) {t : Ty} {e : Expr} (h : tyB P o t e = true) : notStar e = true ∧ ∃ c u, TyN P X cl t e c u := by
  unfold tyB at h
  split at h
  · simp only [Bool.and_eq_true] at h
    obtain ⟨⟨h1, h2⟩, h3⟩ := h
    have := nm_of h1
    subst this
    refine ⟨rfl, tyN_of xo (gl_of xo h2) (fun c e => ?_) fun c sb e => ?_⟩
    · subst e
      simp only [Bool.and_eq_true] at h3
      exact ⟨xo.ln.has c (by simpa using h3.1), ndb_of h3.2⟩
    · subst e
      simp only [Bool.and_eq_true, Bool.or_eq_true, decide_eq_true_eq] at h3
      refine ⟨h3.1, h3.2.imp id fun h => ⟨by simpa using h.1, ndb_of h.2⟩⟩
  · cases h
theorem tysB_of (xo : XO P cl X k o W) : ∀ {ts : List Ty} {es : List Expr}, tysB P o ts es = true → ∃ cs us, TyNs P X cl ts es cs us
  | [], [], _ => ⟨_, _, .nil⟩
  | t :: ts, e :: es, h => by
    simp only [tysB, Bool.and_eq_true] at h
    obtain ⟨hs, c, u, h1⟩ := tyB_of xo h.1
    obtain ⟨cs, us, h2⟩ := tysB_of xo h.2
    exact ⟨_, _, .cons h1 hs h2⟩
  | [], _ :: _, h => by cases h
  | _ :: _, [], h => by cases h
theorem es_nil {es : Es} {xs : List Expr} (h : chkEs P o es xs = true) : xs = [] → es = .nil := by
  intro e
  subst e
  cases es with
  | nil => rfl
  | cons a es => simp [chkEs] at h
theorem XO.lc (xo : XO P cl X k o W) (hc : (!o.hot) = true) (σ : L2.St) (scope : Scope) (s : Shared) (H : Hp) (C : Addr) (c : List (Str × Addr)) (fp : List Addr) : XO P cl (Cx.blkE X W σ s H scope (compEnvC scope c C X.env) fp) k (lcKo o scope) (atS W σ) where
  ln := xo.ln
  nd := xo.nd
  nn := xo.nn
  sc := by
    show relS scope X.env.scope = relS scope o.sc
    rw [xo.sc]
  fnc := fun x h => h
  isi := xo.isi
  lx := xo.lx
  calm := fun _ => xo.calm hc
  room := fun _ => xo.room hc
  un := xo.un
  zc := fun _ => xo.zc hc
  rmh := fun h => nomatch h
  zx := fun h => nomatch h
  hots := xo.hots
  tk := blkE_tk
  fr := blkE_fr xo.fr rfl
  fns := fun _ => xo.fns hc
theorem XO.u65 (xo : XO P cl X k o W) : X.A.units + 65 < cLine := by have := xo.un; omega
theorem XO.u1 (xo : XO P cl X k o W) : X.A.units + 1 < cLine := by have := xo.un; omega
theorem lit_of {c : Lit} {v : Const} {j : Nat} {pos : Pos} (h : litB c v = true) : PE X (.Constant v j pos) (tC (litV c)) := by
  cases c <;> cases v <;> first | cases h | skip
  · exact pe_non
  · have := (beq_iff_eq.mp h); subst this; exact pe_bl
  · have := (beq_iff_eq.mp h); subst this; exact pe_int
  · have := nm_of h; subst this; exact pe_str
theorem ps_len : ∀ (ps : Ps) {ks : List (Option Expr)} {vs : List Expr}, chkPs P o ps ks vs = true → ks.all (·.isSome) = true ∧ ks.length = vs.length ∧ ps.len = ks.length
  | .nil, ks, vs, h => by
    cases ks <;> cases vs <;> simp [chkPs] at h
    exact ⟨rfl, rfl, rfl⟩
  | .cons a b ps, ks, vs, h => by
    simp only [chkPs] at h
    split at h
    · simp only [Bool.and_eq_true] at h
      obtain ⟨h1, h2, h3⟩ := ps_len ps h.2
      exact ⟨by simp [h1], by simp [h2], by simp [Ps.len, h3]⟩
    · cases h
mutual
theorem chkE_ok : ∀ (e : E) {o : Ko} {x : Expr}, chkE P o e x = true → ∀ {X : Cx} {k : Nat} {W : WX}, XO P cl X k o W → PE X x (tE P cl k X W e) ∧ (isCmp x = true → PT X x (tTs P cl k X W (.v e)))
  | .loc i, o, x, h, X, k, W, xo => by
    simp only [chkE] at h
    split at h
    · simp only [Bool.and_eq_true, decide_eq_true_eq] at h
      obtain ⟨⟨⟨h1, h2⟩, h3⟩, h4⟩ := h
      exact ⟨e_loc (by rw [xo.nn]; exact h1) (by rw [xo.sc]; exact vis_of h2) (ndb_of h3) (ncd_of h4), fun h => nomatch h⟩
    · cases h
  | .lit c, o, x, h, X, k, W, xo => by
    simp only [chkE] at h
    split at h
    · exact ⟨e_lit (lit_of h), fun h => nomatch h⟩
    · cases h
  | .con y, o, x, h, X, k, W, xo => by
    simp only [chkE] at h
    split at h
    · simp only [Bool.and_eq_true] at h
      obtain ⟨⟨⟨h1, h2⟩, h3⟩, h4⟩ := h
      have := nm_of h1
      subst this
      obtain ⟨v, hv⟩ := Option.isSome_iff_exists.mp h4
      exact ⟨e_con xo.ln (gl_of xo h2) hv (ndb_of h3), fun h => nomatch h⟩
    · cases h
  | .bin op a b, o, x, h, X, k, W, xo => by
    simp only [chkE] at h
    split at h
    · simp only [Bool.and_eq_true, decide_eq_true_eq] at h
      obtain ⟨⟨rfl, h1⟩, h2⟩ := h
      exact ⟨e_bin (chkE_ok a h1 xo).1 (chkE_ok b h2 xo).1, fun h => nomatch h⟩
    · cases h
  | .neg a, o, x, h, X, k, W, xo => by
    simp only [chkE] at h
    split at h
    · exact ⟨e_neg (chkE_ok a h xo).1, fun h => nomatch h⟩
    · cases h
  | .cmp op a b, o, x, h, X, k, W, xo => by
    simp only [chkE] at h
    split at h
    · simp only [Bool.and_eq_true, decide_eq_true_eq, Bool.not_eq_true'] at h
      obtain ⟨⟨⟨rfl, h0⟩, h1⟩, h2⟩ := h
      exact ⟨e_cmp xo.u65 h0 (chkE_ok a h1 xo).1 (chkE_ok b h2 xo).1, fun _ => t_cmp xo.u65 h0 (chkE_ok a h1 xo).1 (chkE_ok b h2 xo).1⟩
    · cases h
  | .cmp2 op op2 a b c, o, x, h, X, k, W, xo => by
    simp only [chkE] at h
    split at h
    · simp only [Bool.and_eq_true, decide_eq_true_eq, Bool.not_eq_true'] at h
      obtain ⟨⟨⟨⟨⟨rfl, rfl⟩, h0⟩, h1⟩, h2⟩, h3⟩ := h
      exact ⟨e_cmp2 xo.u65 h0 (chkE_ok a h1 xo).1 (chkE_ok b h2 xo).1 (chkE_ok c h3 xo).1, fun _ => t_cmp2 xo.u65 h0 (chkE_ok a h1 xo).1 (chkE_ok b h2 xo).1 (chkE_ok c h3 xo).1⟩
    · cases h
  | .isN a, o, x, h, X, k, W, xo => by
    simp only [chkE] at h
    split at h
    · exact ⟨e_isN (chkE_ok a h xo).1, fun _ => t_isN (chkE_ok a h xo).1⟩
    · cases h
  | .notN a, o, x, h, X, k, W, xo => by
    simp only [chkE] at h
    split at h
    · exact ⟨e_notN (chkE_ok a h xo).1, fun _ => t_notN (chkE_ok a h xo).1⟩
    · cases h
  | .isB a b, o, x, h, X, k, W, xo => by
    simp only [chkE] at h
    split at h
    · simp only [Bool.and_eq_true, beq_iff_eq] at h
      obtain ⟨rfl, h⟩ := h
      exact ⟨e_isB (chkE_ok a h xo).1, fun _ => t_isB (chkE_ok a h xo).1⟩
    · cases h
  | .not a, o, x, h, X, k, W, xo => by
    unfold chkE at h
    split at h
    · exact ⟨e_not (chkE_ok a h xo).1, fun h => nomatch h⟩
    · split at h
      · rename_i a' b
        simp only [Bool.and_eq_true, beq_iff_eq] at h
        obtain ⟨rfl, h⟩ := h
        exact ⟨e_isnB (chkE_ok a' h xo).1, fun _ => t_isnB (chkE_ok a' h xo).1⟩
      · cases h
    · cases h
  | .and a b, o, x, h, X, k, W, xo => by
    simp only [chkE] at h
    split at h
    · simp only [Bool.and_eq_true] at h
      exact ⟨e_and (chkE_ok a h.1 xo).1 (pe_one (chkE_ok b h.2 xo).1), fun h => nomatch h⟩
    · simp only [Bool.and_eq_true] at h
      exact ⟨e_and (chkE_ok a h.1 xo).1 (chkE_ok b h.2 xo).1, fun h => nomatch h⟩
    · cases h
  | .or a b, o, x, h, X, k, W, xo => by
    simp only [chkE] at h
    split at h
    · simp only [Bool.and_eq_true] at h
      exact ⟨e_or (chkE_ok a h.1 xo).1 (pe_one (chkE_ok b h.2 xo).1), fun h => nomatch h⟩
    · simp only [Bool.and_eq_true] at h
      exact ⟨e_or (chkE_ok a h.1 xo).1 (chkE_ok b h.2 xo).1, fun h => nomatch h⟩
    · cases h
  | .ite c a b, o, x, h, X, k, W, xo => by
    simp only [chkE] at h
    split at h
    · simp only [Bool.and_eq_true] at h
      exact ⟨e_ite (chkT_ok c h.1.1 xo).1 (chkE_ok a h.1.2 xo).1 (chkE_ok b h.2 xo).1, fun h => nomatch h⟩
    · cases h
  | .tup es, o, x, h, X, k, W, xo => by
    simp only [chkE] at h
    split at h
    · exact ⟨e_tup (chkEs_ok es h xo), fun h => nomatch h⟩
    · cases h
  | .lst es, o, x, h, X, k, W, xo => by
    simp only [chkE] at h
    split at h
    · exact ⟨e_lst (chkEs_ok es h xo), fun h => nomatch h⟩
    · cases h
  | .dic ps, o, x, h, X, k, W, xo => by
    simp only [chkE] at h
    split at h
    · rename_i ks vs pos
      simp only [Bool.and_eq_true, decide_eq_true_eq] at h
      refine ⟨?_, fun h => nomatch h⟩
      cases ps with
      | nil =>
        have := h.2
        cases ks <;> cases vs <;> simp [chkPs] at this
        exact e_dic0
      | cons a b ps =>
        obtain ⟨h1, h2, h3⟩ := ps_len _ h.2
        refine e_dic (chkPs_ok (.cons a b ps) h.2 xo) h1 h2 (fun e => ?_) h.1 (by rw [h3]; exact h.1)
        subst e
        simp [Ps.len] at h3
    · cases h
  | .call f es, o, x, h, X, k, W, xo => by
    simp only [chkE] at h
    split at h
    · simp only [Bool.and_eq_true] at h
      obtain ⟨h00, ⟨⟨⟨⟨⟨h1, h2⟩, h3⟩, h4⟩, h5⟩, h6⟩⟩ := h
      have := nm_of h1
      subst this
      obtain ⟨d, hd, hn⟩ := dOk_of h4
      by_cases hot : o.hot = true
      · rw [if_pos hot] at h00
        simp only [Bool.and_eq_true] at h00
        obtain ⟨d', hd', hn', hd0⟩ := dOk1_of h00.2
        exact ⟨e_callH xo hot (by simpa using h00.1.1) (gl_of xo h2) (ndb_of h3) hd' hn' hd0 h5 (by intro e; subst e; simp at h00) (chkEs_ok es h6 xo), fun h => nomatch h⟩
      rw [if_neg hot] at h00
      have hcold : (!o.hot) = true := by simpa using hot
      have hnh : P.isHot (.f f) = false := by simpa using h00
      exact ⟨e_call xo hcold hnh (gl_of xo h2) (ndb_of h3) hd hn h5 (es_nil h6) (chkEs_ok es h6 xo), fun h => nomatch h⟩
    · cases h
  | .make c es, o, x, h, X, k, W, xo => by
    simp only [chkE] at h
    split at h
    · simp only [Bool.and_eq_true] at h
      obtain ⟨h00, ⟨⟨⟨⟨⟨⟨h1, h2⟩, h3⟩, h0⟩, h4⟩, h5⟩, h6⟩⟩ := h
      have := nm_of h1
      subst this
      obtain ⟨d, hd, hn⟩ := dOk_of h4
      obtain ⟨C, hC⟩ := xo.ln.has c (by simpa using h0)
      exact ⟨e_make xo h00 (gl_of xo h2) (ndb_of h3) hd hC hn h5 (es_nil h6) (chkEs_ok es h6 xo), fun h => nomatch h⟩
    · cases h
  | .meth c m a es, o, x, h, X, k, W, xo => by
    simp only [chkE] at h
    split at h
    · simp only [Bool.and_eq_true, decide_eq_true_eq, Bool.not_eq_true'] at h
      obtain ⟨h00, ⟨⟨⟨⟨⟨⟨⟨⟨h1, h2⟩, h3⟩, h4⟩, h5⟩, h6⟩, h7⟩, h8⟩, h9⟩⟩ := h
      have := nm_of h1
      subst this
      obtain ⟨d, hd, hn⟩ := dOk_of h2
      exact ⟨e_meth xo (by rw [h00]; rfl) hd h3 hn h4 h5 h6 h7 (es_nil h9) (chkE_ok a h8 xo).1 (chkEs_ok es h9 xo), fun h => nomatch h⟩
    · cases h
  | .fld a f, o, x, h, X, k, W, xo => by
    simp only [chkE] at h
    split at h
    · simp only [Bool.and_eq_true] at h
      obtain ⟨⟨⟨h1, h2⟩, h3⟩, h4⟩ := h
      have := nm_of h1
      subst this
      exact ⟨e_fld xo (by simpa using h2) h3 (chkE_ok a h4 xo).1, fun h => nomatch h⟩
    · cases h
  | .sub a i, o, x, h, X, k, W, xo => by
    simp only [chkE] at h
    split at h
    · simp only [Bool.and_eq_true] at h
      obtain ⟨⟨h1, h2⟩, h3⟩ := h
      exact ⟨e_sub xo.u1 h1 (chkE_ok a h2 xo).1 (chkE_ok i h3 xo).1, fun h => nomatch h⟩
    · cases h
  | .slice a lo hi, o, x, h, X, k, W, xo => by
    simp only [chkE] at h
    split at h
    · simp only [Bool.and_eq_true] at h
      obtain ⟨⟨h1, h2⟩, h3⟩ := h
      exact ⟨e_slice (chkE_ok a h1 xo).1 (chkOe_ok lo h2 xo) (chkOe_ok hi h3 xo), fun h => nomatch h⟩
    · cases h
  | .bi f es, o, x, h, X, k, W, xo => by
    simp only [chkE] at h
    split at h
    · simp only [Bool.and_eq_true] at h
      obtain ⟨h00, ⟨⟨⟨h1, h2⟩, h3⟩, h4⟩⟩ := h
      have := nm_of h1
      subst this
      exact ⟨e_bi xo h00 (gl_of xo h2) h3 (chkEs_ok es h4 xo), fun h => nomatch h⟩
    · cases h
  | .vi f es, o, x, h, X, k, W, xo => by
    unfold chkE at h
    split at h
    · split at h
      · refine ⟨⟨fun pins s σ H Q I z => ?_⟩, fun z => nomatch z⟩
        obtain ⟨m, env, S, _, _, _, _, z⟩ := z
        simp only [wE, wEs] at z
        cases f <;> exact z.elim
      · cases h
    · rename_i a
      cases f with
      | listRev =>
        dsimp only at h
        split at h
        · simp only [Bool.and_eq_true] at h
          obtain ⟨h00, ⟨⟨⟨⟨⟨h1, h2⟩, h3⟩, h4⟩, h5⟩, h6⟩⟩ := h
          have := nm_of h1
          subst this
          have := nm_of h2
          subst this
          exact ⟨e_listRev xo h00 (gl_of xo h3) (gl_of xo h4) h5 (chkE_ok a h6 xo).1, fun h => nomatch h⟩
        · cases h
      | tupRev =>
        dsimp only at h
        split at h
        · simp only [Bool.and_eq_true] at h
          obtain ⟨h00, ⟨⟨⟨⟨⟨h1, h2⟩, h3⟩, h4⟩, h5⟩, h6⟩⟩ := h
          have := nm_of h1
          subst this
          have := nm_of h2
          subst this
          exact ⟨e_tupRev xo h00 (gl_of xo h3) (gl_of xo h4) h5 (chkE_ok a h6 xo).1, fun h => nomatch h⟩
        · cases h
      | dictL =>
        dsimp only at h
        split at h
        · simp only [Bool.and_eq_true] at h
          obtain ⟨h00, ⟨⟨⟨h1, h2⟩, h3⟩, h4⟩⟩ := h
          have := nm_of h1
          subst this
          exact ⟨e_dictL xo h00 (gl_of xo h2) h3 (chkE_ok a h4 xo).1, fun h => nomatch h⟩
        · cases h
      | dictP =>
        dsimp only at h
        split at h
        · simp only [Bool.and_eq_true] at h
          obtain ⟨h00, ⟨⟨⟨h1, h2⟩, h3⟩, h4⟩⟩ := h
          have := nm_of h1
          subst this
          exact ⟨e_dictP xo h00 (gl_of xo h2) h3 (chkE_ok a h4 xo).1, fun h => nomatch h⟩
        · cases h
      | sumInts =>
        dsimp only at h
        split at h
        · simp only [Bool.and_eq_true, decide_eq_true_eq, beq_iff_eq] at h
          obtain ⟨h00, ⟨⟨⟨⟨⟨⟨⟨⟨h1, h2⟩, h3⟩, h4⟩, h5⟩, h6⟩, h7⟩, h8⟩, h9⟩⟩ := h
          have := nm_of h1
          subst this
          have := nm_of h2
          subst this
          subst h3
          subst h4
          exact ⟨e_sumInts xo h00 (gl_of xo h5) (sumSc_of h7) (ndb_of h6) (chkE_ok a h9 xo).1 (folded_of (by revert h8; unfold notSet; split <;> simp)), fun h => nomatch h⟩
        · cases h
      | listItems =>
        dsimp only at h
        split at h
        · simp only [Bool.and_eq_true] at h
          obtain ⟨h00, ⟨⟨⟨⟨⟨h1, h2⟩, h3⟩, h4⟩, h5⟩, h6⟩⟩ := h
          have := nm_of h1
          subst this
          have := nm_of h2
          subst this
          exact ⟨e_listItems xo h00 (gl_of xo h5) h3 h4 (chkE_ok a h6 xo).1, fun h => nomatch h⟩
        · cases h
      | listZip => cases h
      | dictZ => cases h
    · rename_i a b
      cases f with
      | listZip =>
        dsimp only at h
        split at h
        · simp only [Bool.and_eq_true] at h
          obtain ⟨h00, ⟨⟨⟨⟨⟨⟨⟨h1, h2⟩, h3⟩, h4⟩, h5⟩, h6⟩, h7⟩, h8⟩⟩ := h
          have := nm_of h1
          subst this
          have := nm_of h2
          subst this
          exact ⟨e_listZip xo h00 (gl_of xo h3) (gl_of xo h4) h5 h6 (chkE_ok a h7 xo).1 (chkE_ok b h8 xo).1, fun h => nomatch h⟩
        · cases h
      | dictZ =>
        dsimp only at h
        split at h
        · simp only [Bool.and_eq_true] at h
          obtain ⟨h00, ⟨⟨⟨⟨⟨⟨⟨h1, h2⟩, h3⟩, h4⟩, h5⟩, h6⟩, h7⟩, h8⟩⟩ := h
          have := nm_of h1
          subst this
          have := nm_of h2
          subst this
          exact ⟨e_dictZ xo h00 (gl_of xo h3) (gl_of xo h4) h5 h6 (chkE_ok a h7 xo).1 (chkE_ok b h8 xo).1, fun h => nomatch h⟩
        · cases h
      | _ => cases h
    · cases h
  | .bm m a es, o, x, h, X, k, W, xo => by
    simp only [chkE] at h
    split at h
    · simp only [Bool.and_eq_true] at h
      obtain ⟨⟨⟨⟨⟨h0, h1⟩, h2⟩, h3⟩, h4⟩, h5⟩ := h
      have := nm_of h1
      subst this
      have := es_nil h5 rfl
      subst this
      exact ⟨e_bm0 (fun e => xo.calm (by subst e; simpa using h0)) xo h2 h3 (chkE_ok a h4 xo).1, fun h => nomatch h⟩
    · simp only [Bool.and_eq_true, decide_eq_true_eq] at h
      obtain ⟨⟨⟨⟨⟨⟨⟨h0, h1⟩, h2⟩, h3⟩, h4⟩, h5⟩, h6⟩, h7⟩ := h
      have := nm_of h1
      subst this
      exact ⟨e_bm (fun e => xo.calm (by subst e; simpa using h0)) xo h2 h3 h4 h5 (chkE_ok a h6 xo).1 (chkEs_ok es h7 xo), fun h => nomatch h⟩
    · cases h
  | .isi a ts, o, x, h, X, k, W, xo => by
    simp only [chkE] at h
    split at h
    · simp only [Bool.and_eq_true, decide_eq_true_eq, Bool.not_eq_true'] at h
      obtain ⟨⟨⟨⟨⟨⟨h1, h2⟩, h3⟩, h4⟩, h5⟩, h6⟩, h7⟩ := h
      have := nm_of h1
      subst this
      obtain ⟨cs, us, hT⟩ := tysB_of xo h6
      exact ⟨e_isiT xo (gl_of xo h2) hT (fun e => by subst e; cases h3) (by rw [sizeLine_eq]; omega) h5 (chkE_ok a h7 xo).1, fun h => nomatch h⟩
    · split at h
      · simp only [Bool.and_eq_true] at h
        obtain ⟨⟨⟨⟨⟨h1, h2⟩, h3⟩, h4⟩, h5⟩, h6⟩ := h
        have := nm_of h1
        subst this
        obtain ⟨_, c, u, hT⟩ := tyB_of xo h5
        exact ⟨e_isi1 xo (gl_of xo h2) hT h3 h4 (chkE_ok a h6 xo).1, fun h => nomatch h⟩
      · cases h
    · cases h
  | .lc elt tgt src cond own, o, x, h, X, k, W, xo => by
    simp only [chkE] at h
    split at h
    · rename_i eelt tg iter ifs ia scope pos
      simp only [Bool.and_eq_true, beq_iff_eq] at h
      obtain ⟨h00, ⟨⟨⟨⟨⟨⟨⟨rfl, h1⟩, h2⟩, h3⟩, h4⟩, h5⟩, h6⟩, h7⟩⟩ := h
      refine ⟨e_lc xo h00 (chkSrc_ok src h4 xo) (folded_of (by cases iter <;> first | rfl | cases h1)) ⟨?_, ?_, fun σ s H C c fp => ?_, fun σ s H C c fp => ?_, fun σ s H C c fp => ?_⟩, fun h => nomatch h⟩
      · rw [xo.nn, xo.sc]
        exact blkOk_by h2
      · intro i hi
        rw [List.all_eq_true] at h3
        simpa using h3 i hi
      · exact tgB_of (xo.lc h00 σ scope s H C c fp) h5
      · exact chkOt_ok cond h6 (xo.lc h00 σ scope s H C c fp)
      · exact (chkE_ok elt h7 (xo.lc h00 σ scope s H C c fp)).1
    · cases h
  | .lck i a, o, x, h, X, k, W, xo => by
    simp only [chkE, Bool.and_eq_true, Bool.not_eq_true'] at h
    exact ⟨e_lck (chkE_ok a h.2 xo).1, fun hc => by rw [h.1] at hc; cases hc⟩
  | .lckA a, o, x, h, X, k, W, xo => by
    simp only [chkE, Bool.and_eq_true, Bool.not_eq_true'] at h
    exact ⟨e_lckA (chkE_ok a h.2 xo).1, fun hc => by rw [h.1] at hc; cases hc⟩
theorem chkT_ok : ∀ (t : T) {o : Ko} {x : Expr}, chkT P o t x = true → ∀ {X : Cx} {k : Nat} {W : WX}, XO P cl X k o W → PT X x (tTs P cl k X W t) ∧ (isBool x = true → PW X x (tTs P cl k X W t))
  | .v a, o, x, h, X, k, W, xo => by
    simp only [chkT, Bool.and_eq_true, Bool.or_eq_true] at h
    obtain ⟨h1 | h1, h2⟩ := h
    · refine ⟨t_val (chkE_ok a h2 xo).1 h1, fun h => ?_⟩
      cases x <;> first | exact (Bool.false_ne_true h).elim | exact (Bool.false_ne_true h1).elim
    · refine ⟨(chkE_ok a h2 xo).2 h1, fun h => ?_⟩
      cases x <;> first | exact (Bool.false_ne_true h).elim | exact (Bool.false_ne_true h1).elim
  | .not t, o, x, h, X, k, W, xo => by
    simp only [chkT] at h
    split at h
    · exact ⟨t_not (chkT_ok t h xo).1, fun h => nomatch h⟩
    · cases h
  | .and a b, o, x, h, X, k, W, xo => by
    simp only [chkT] at h
    split at h
    · simp only [Bool.and_eq_true] at h
      have := t_and (pos := ‹Pos›) (chkT_ok a h.1 xo).1 (t_and1 (chkT_ok b h.2 xo).1)
      exact ⟨this.pt, fun _ => this⟩
    · simp only [Bool.and_eq_true] at h
      have := t_and (chkT_ok a h.1 xo).1 ((chkT_ok b h.2 xo).2 rfl)
      exact ⟨this.pt, fun _ => this⟩
    · cases h
  | .or a b, o, x, h, X, k, W, xo => by
    simp only [chkT] at h
    split at h
    · simp only [Bool.and_eq_true] at h
      have := t_or (pos := ‹Pos›) (chkT_ok a h.1 xo).1 (t_or1 (chkT_ok b h.2 xo).1)
      exact ⟨this.pt, fun _ => this⟩
    · simp only [Bool.and_eq_true] at h
      have := t_or (chkT_ok a h.1 xo).1 ((chkT_ok b h.2 xo).2 rfl)
      exact ⟨this.pt, fun _ => this⟩
    · cases h
theorem chkEs_ok : ∀ (es : Es) {o : Ko} {xs : List Expr}, chkEs P o es xs = true → ∀ {X : Cx} {k : Nat} {W : WX}, XO P cl X k o W → PA X xs (tEs P cl k X W es)
  | .nil, o, xs, h, X, k, W, xo => by
    simp only [chkEs] at h
    split at h
    · exact a_nil
    · cases h
  | .cons a es, o, xs, h, X, k, W, xo => by
    simp only [chkEs] at h
    split at h
    · simp only [Bool.and_eq_true] at h
      exact a_cons (chkE_ok a h.1.2 xo).1 h.1.1 (chkEs_ok es h.2 xo)
    · cases h
theorem chkPs_ok : ∀ (ps : Ps) {o : Ko} {ks : List (Option Expr)} {vs : List Expr} {pos : Pos}, chkPs P o ps ks vs = true → ∀ {X : Cx} {k : Nat} {W : WX}, XO P cl X k o W → PPs X pos ks vs (tPs P cl k X W ps)
  | .nil, o, ks, vs, pos, h, X, k, W, xo => by
    simp only [chkPs] at h
    split at h
    · exact pps_nil
    · cases h
  | .cons a b ps, o, ks, vs, pos, h, X, k, W, xo => by
    simp only [chkPs] at h
    split at h
    · simp only [Bool.and_eq_true] at h
      exact pps_cons (chkE_ok a h.1.1 xo).1 (chkE_ok b h.1.2 xo).1 (chkPs_ok ps h.2 xo)
    · cases h
theorem chkOe_ok : ∀ (e : Oe) {o : Ko} {x : Option Expr}, chkOe P o e x = true → ∀ {X : Cx} {k : Nat} {W : WX}, XO P cl X k o W → PO X x (tOs P cl k X W e)
  | .none, o, x, h, X, k, W, xo => by
    cases x with
    | none => exact o_none
    | some x => simp [chkOe] at h
  | .some a, o, x, h, X, k, W, xo => by
    cases x with
    | none => simp [chkOe] at h
    | some x =>
      simp only [chkOe] at h
      exact o_some (chkE_ok a h xo).1
theorem chkOt_ok : ∀ (e : Ot) {o : Ko} {x : List Expr}, chkOt P o e x = true → ∀ {X : Cx} {k : Nat} {W : WX}, XO P cl X k o W → PTs X x (tCs P cl k X W e)
  | .none, o, x, h, X, k, W, xo => by
    simp only [chkOt] at h
    split at h
    · exact c_none
    · cases h
  | .some a, o, x, h, X, k, W, xo => by
    simp only [chkOt] at h
    split at h
    · exact c_some (chkT_ok a h xo).1
    · cases h
theorem chkSrc_ok : ∀ (src : Src) {o : Ko} {tg e : Expr}, chkSrc P o src tg e = true → ∀ {X : Cx} {k : Nat} {W : WX}, XO P cl X k o W → PI X tg e (tSrc P cl k X W src)
  | .seq a, o, tg, e, h, X, k, W, xo => by
    simp only [chkSrc] at h
    exact s_seq (chkE_ok a h xo).1
  | .rng1 a, o, tg, e, h, X, k, W, xo => by
    simp only [chkSrc] at h
    split at h
    · simp only [Bool.and_eq_true] at h
      obtain ⟨⟨⟨h1, h2⟩, h3⟩, h4⟩ := h
      have := nm_of h1
      subst this
      exact s_rng1 xo (gl_of xo h2) h3 (chkE_ok a h4 xo).1
    · cases h
  | .rng2 a b, o, tg, e, h, X, k, W, xo => by
    simp only [chkSrc] at h
    split at h
    · simp only [Bool.and_eq_true] at h
      obtain ⟨⟨⟨⟨⟨h1, h2⟩, h3⟩, h3'⟩, h4⟩, h5⟩ := h
      have := nm_of h1
      subst this
      exact s_rng2 xo (gl_of xo h2) h3 h3' (chkE_ok a h4 xo).1 (chkE_ok b h5 xo).1
    · cases h
  | .enum a, o, tg, e, h, X, k, W, xo => by
    simp only [chkSrc] at h
    split at h
    · simp only [Bool.and_eq_true] at h
      obtain ⟨⟨⟨⟨h1, h0⟩, h2⟩, h3⟩, h4⟩ := h
      have := nm_of h1
      subst this
      cases tg <;> first | exact s_enum xo (gl_of xo h2) h3 (chkE_ok a h4 xo).1 | cases h0
    · cases h
  | .zip a b, o, tg, e, h, X, k, W, xo => by
    simp only [chkSrc] at h
    split at h
    · simp only [Bool.and_eq_true] at h
      obtain ⟨⟨⟨⟨⟨⟨h1, h0⟩, h2⟩, h3⟩, h3'⟩, h4⟩, h5⟩ := h
      have := nm_of h1
      subst this
      cases tg <;> first | exact s_zip xo (gl_of xo h2) h3 h3' (chkE_ok a h4 xo).1 (chkE_ok b h5 xo).1 | cases h0
    · cases h
  | .rev a, o, tg, e, h, X, k, W, xo => by
    simp only [chkSrc] at h
    split at h
    · simp only [Bool.and_eq_true] at h
      obtain ⟨⟨⟨h1, h2⟩, h3⟩, h4⟩ := h
      have := nm_of h1
      subst this
      exact s_rev xo (gl_of xo h2) h3 (chkE_ok a h4 xo).1
    · cases h
  | .rng3 _ _ _, o, tg, e, h, X, k, W, xo => by simp [chkSrc] at h
  | .items a, o, tg, e, h, X, k, W, xo => by
    simp only [chkSrc] at h
    split at h
    · simp only [Bool.and_eq_true] at h
      obtain ⟨⟨⟨⟨h1, h0⟩, h2⟩, h3⟩, h4⟩ := h
      have := nm_of h1
      subst this
      cases tg <;> first | exact s_items (chkE_ok a h4 xo).1 (base_of h2) h3 | cases h0
    · cases h
  | .values a, o, tg, e, h, X, k, W, xo => by
    simp only [chkSrc] at h
    split at h
    · simp only [Bool.and_eq_true] at h
      obtain ⟨⟨⟨h1, h2⟩, h3⟩, h4⟩ := h
      have := nm_of h1
      subst this
      exact s_vals (chkE_ok a h4 xo).1 (base_of h2) h3
    · cases h
  | .keys a, o, tg, e, h, X, k, W, xo => s_keys (chkE_ok a (by simpa only [chkSrc] using h) xo).1
end
end
end Mi

set_option maxHeartbeats 4000000
namespace Mi
open PySem PySem.Spec L2 PyProof.Rows
/-! ### statements -/
section
variable (cl : Cl) (mg : Str → Option Value) (m : Sm)
def liftXS (W : WX) : XS := fun c env S' => ∀ m' σ' C, Ev m m' → SH cl m' S' → SV m' env σ' → mg (Str.ofString c) = some (.ref C) → W (.ref C) none σ' m'.H
def liftE (Q : L2.St → Hp → Prop) : Env → Hm → Prop := fun env S' => ∀ m' σ', Ev m m' → SH cl m' S' → SV m' env σ' → Q σ' m'.H
def liftD (D : Ends) : Mi.Sp := { nx := liftE cl m D.nx, rt := liftQ cl m D.rt, ct := liftE cl m D.ct }
end
section
variable (P : Pg) (cl : Cl) (k : Nat) (X : Cx) (W : WX)
def tSt (s : Mi.St) : TS := fun D σ H => ∃ m env S, m.K = X.K ∧ m.H = H ∧ SH cl m S ∧ SV m env σ ∧ wS P.con P.sub (callW P k) s (liftXS cl X.mg m W) (liftD cl m D) env S
def tSts (s : Sts) : TS := fun D σ H => ∃ m env S, m.K = X.K ∧ m.H = H ∧ SH cl m S ∧ SV m env σ ∧ wSs P.con P.sub (callW P k) s (liftXS cl X.mg m W) (liftD cl m D) env S
end
section
variable {P : Pg} {cl : Cl} {k : Nat} {X : Cx} {W : WX} {o : Ko} {m m0 m1 : Sm} {env : Env} {S : Hm} {σ : L2.St} {D : Ends}
theorem liftXS.ev {mg : Str → Option Value} (e : Ev m m1) {c : String} {env : Env} {S : Hm} (h : liftXS cl mg m W c env S) : liftXS cl mg m1 W c env S :=
  fun m' σ' C e' hS hV hC => h m' σ' C (e.trans e') hS hV hC
theorem liftE.ev {Q : L2.St → Hp → Prop} (e : Ev m m1) {env : Env} {S : Hm} (h : liftE cl m Q env S) : liftE cl m1 Q env S := fun m' σ' e' hS hV => h m' σ' (e.trans e') hS hV
theorem liftD.ev (e : Ev m m1) : Sp.Le (liftD cl m D) (liftD cl m1 D) := ⟨fun _ _ h => liftE.ev e h, fun _ _ h => liftQ.ev e (fun _ _ _ q => q) h, fun _ _ h => liftE.ev e h⟩
theorem lx (e0 : Ev m0 m) (hS : SH cl m S) (hV : SV m env σ) {c : String} {S1 : Hm} (h1 : liftXS cl X.mg m0 W c env S1) : liftX cl X.mg m (fun c d H => W c d σ H) c S1 := fun m' C e1 hS1 hC => h1 m' σ C (e0.trans e1) hS1 (hV.up (e1.up hS)) hC
theorem sE_of {e : E} {Q1 : Post} {R : VK} (hK : m.K = X.K) (hS : SH cl m S) (hV : SV m env σ) (e0 : Ev m0 m) (h : wE P.con (callW P k) (fun c S' => liftXS cl X.mg m0 W c env S') e env S Q1)
    (hq : ∀ m1 x S1 v, Ev m m1 → SH cl m1 S1 → RD m1 v x → SV m1 env σ → Q1 v S1 → R x m1.H) : tE P cl k X W e σ m.H R :=
  tE_of (m0 := m) hK hS hV (Ev.refl m) (wE_mono (callW_mono P k) (fun c S1 h1 => lx e0 hS hV h1) e (fun _ _ h => h) h) hq
theorem sEs_of {e : Es} {Q1 : List Val → Hm → Prop} {R : List V → Hp → Prop} (hK : m.K = X.K) (hS : SH cl m S) (hV : SV m env σ) (e0 : Ev m0 m) (h : wEs P.con (callW P k) (fun c S' => liftXS cl X.mg m0 W c env S') e env S Q1)
    (hq : ∀ m1 x S1 v, Ev m m1 → SH cl m1 S1 → RDs m1 v x → SV m1 env σ → Q1 v S1 → R x m1.H) : tEs P cl k X W e σ m.H R :=
  tEs_of (m0 := m) hK hS hV (Ev.refl m) (wEs_mono (callW_mono P k) (fun c S1 h1 => lx e0 hS hV h1) e (fun _ _ h => h) h) hq
theorem sT_of {e : T} {Q1 : Bool → Hm → Prop} {R : Bool → Hp → Prop} (hK : m.K = X.K) (hS : SH cl m S) (hV : SV m env σ) (e0 : Ev m0 m) (h : wT P.con (callW P k) (fun c S' => liftXS cl X.mg m0 W c env S') e env S Q1)
    (hq : ∀ m1 S1 b, Ev m m1 → SH cl m1 S1 → SV m1 env σ → Q1 b S1 → R b m1.H) : tTs P cl k X W e σ m.H R :=
  tTs_of (m0 := m) hK hS hV (Ev.refl m) (wT_mono (callW_mono P k) (fun c S1 h1 => lx e0 hS hV h1) e (fun _ _ h => h) h) hq
theorem sSrc_of {src : Src} {Q1 : List Val → (Hm → Prop) → Hm → Prop} {R : It → Hp → Prop} (hK : m.K = X.K) (hS : SH cl m S) (hV : SV m env σ) (e0 : Ev m0 m) (h : wSrc P.con (callW P k) (fun c S' => liftXS cl X.mg m0 W c env S') src env S Q1)
    (hq : ∀ m1 J S1 items g, Ev m m1 → SH cl m1 S1 → ItOk cl m1 J items g → SV m1 env σ → Q1 items g S1 → R J m1.H) : tSrc P cl k X W src σ m.H R :=
  tSrc_of (m0 := m) hK hS hV (Ev.refl m) (wSrc_mono (callW_mono P k) (fun c S1 h1 => lx e0 hS hV h1) src (fun _ _ _ h => h) h) hq
theorem PS.imp {st : Stmt} {t t' : TS} (h : PS X st t) (f : ∀ D σ H, t' D σ H → t D σ H) : PS X st t' := ⟨fun pins s σ H D I hw => h.run pins s σ H D I (f _ _ _ hw)⟩
theorem PSs.imp {st : List Stmt} {t t' : TS} (h : PSs X st t) (f : ∀ D σ H, t' D σ H → t D σ H) : PSs X st t' := ⟨fun pins s σ H D I hw => h.run pins s σ H D I (f _ _ _ hw)⟩
/-- .. with the written part in mind -/
theorem PS.kf {st : Stmt} {t : TS} (h : PS X st t) : PS X st (fun D σ H => t { D with nx := fun σ' H' => KF X.K H' → D.nx σ' H' } σ H) := ⟨fun pins s σ H D I hw => thn (h.run pins s σ H _ I hw) fun f s1 q => by
  cases f with
  | next => obtain ⟨σ', H', I', q⟩ := q; exact ⟨σ', H', I', q (kfree I')⟩
  | ret v => exact q
  | brk => exact q
  | cont => exact q⟩

/-- a statement's context -/
structure XSt (P : Pg) (cl : Cl) (X : Cx) (k : Nat) (o : Ko) (W : WX) : Prop where
  xo : XO P cl X k o W
  po : (!o.hot) = true → PassesOwn (model X.prog X.w) X.A X.env X.xe
  tks : L2N.Takes X W
  stk : X.stack = X.env :: X.outer
  frm : X.env.frame = some X.env.locals
  fk : o.sc.kind = .function
variable {e a c : E} {ex : Expr} {pos p' : Pos} {st : Stmt} {rest : List Stmt} {s : Mi.St} {ss : Sts}
theorem ss_nil : PSs X [] (tSts P cl k X W .nil) :=
  PSs.imp pss_nil fun D σ H ⟨m, env, S, hK, eH, hS, hV, h⟩ => by
    subst eH
    simp only [wSs] at h
    exact h m σ (Ev.refl m) hS hV
theorem ss_cons (h1 : PS X st (tSt P cl k X W s)) (h2 : PSs X rest (tSts P cl k X W ss)) : PSs X (st :: rest) (tSts P cl k X W (.cons s ss)) :=
  PSs.imp (pss_cons h1 h2) fun D σ H ⟨m, env, S, hK, eH, hS, hV, h⟩ => by
    subst eH
    simp only [wSs] at h
    refine ⟨m, env, S, hK, rfl, hS, hV, wS_mono (callW_mono P k) s (D := { nx := fun env' S' => wSs P.con P.sub (callW P k) ss (liftXS cl X.mg m W) (liftD cl m D) env' S', rt := (liftD cl m D).rt, ct := (liftD cl m D).ct }) (D' := liftD cl m { D with nx := tSts P cl k X W ss D }) (fun _ _ _ h => h) ⟨fun env' S' h1 m' σ' e' hS' hV' => ?_, fun _ _ h => h, fun _ _ h => h⟩ h⟩
    exact ⟨m', env', S', e'.k.trans hK, rfl, hS', hV', wSs_mono (callW_mono P k) ss (fun _ _ _ h => liftXS.ev e' h) (liftD.ev e') h1⟩
theorem s_set {i : Nat} {x : Str} (xo : XO P cl X k o W) (hn : NmOk X i (.Name x p')) (hs : swapsWith ex (some (.Name x p')) pos.line X.env = pure false) (he : PE X ex (tE P cl k X W e)) : PS X (.Assign [.Name x p'] ex pos) (tSt P cl k X W (.set i e)) := by
  obtain ⟨x', pos', h0, h1, h2, h3⟩ := hn.ok
  cases h0
  refine PS.imp (ps_set xo.nd h1 h2 he hs h3) fun D σ H ⟨m, env, S, hK, eH, hS, hV, h⟩ => ?_
  subst eH
  simp only [wS] at h
  exact sE_of hK hS hV (Ev.refl m) h fun m1 x S1 v e1 hS1 r1 hV1 h1 => h1 m1 _ e1 hS1 (hV1.set r1)
variable {elt : E} {tgt : Tg} {src : Src} {cond : Ot} {own : List (String × Nat)} {eelt tg iter : Expr} {ifs : List Expr} {scope : Scope} {spos : Pos}
theorem s_setLc {i : Nat} {y : Str} (xo : XO P cl X k o W) (hcold : (!o.hot) = true) (hy : X.N[i]? = some y) (hyl : X.env.scope.names.lookup y = some .local) (hsw : swapsWith (.ListComp eelt [⟨tg, iter, ifs, 0⟩] scope pos) (some (.Name y p')) spos.line X.env = pure true)
    (hsrc : PI X tg iter (tSrc P cl k X W src)) (hfold : ∀ x, foldedSetIterable iter X.env x = pure x) (L : LcOk P cl k X W elt tgt cond own eelt tg ifs scope) : PS X (.Assign [.Name y p'] (.ListComp eelt [⟨tg, iter, ifs, 0⟩] scope pos) spos) (tSt P cl k X W (.set i (.lc elt tgt src cond own))) :=
  PS.imp (PS.kf (psE_setLc (xo.calm hcold) xo.nd xo.fr xo.tk hy hyl hsw hsrc L.ok (L.pg xo hcold) L.cd L.el hfold)) fun D σ H ⟨m, env, S, hK, eH, hS, hV, h⟩ => by
    subst eH
    rw [own_snd]
    simp only [wS] at h
    exact lc_run hK hS hV L.sl (Q := fun x H1 => D.nx (σ.set i (some x)) H1) (fun v S' h m' x e hS' r => h m' _ e hS' ((hV.up (e.up hS)).set r))
      (wE_mono (callW_mono P k) (fun c S1 h1 => lx (Ev.refl m) hS hV h1) _ (fun _ _ h => h) h)
theorem s_setT {is : List Nat} (xo : XO P cl X k o W) (hcold : (!o.hot) = true) (hn : TgOk X (.tp is) tg) (hs : swapsWith ex (some tg) pos.line X.env = pure false) (hw : swappedStores [tg] ex X.env = pure none) (ha : (assignEach [tg] X.env).map (·.2) = [assign tg X.env]) (he : PE X ex (tE P cl k X W e)) : PS X (.Assign [tg] ex pos) (tSt P cl k X W (.setT is e)) :=
  PS.imp (ps_asg he (hn.pg xo.nd (xo.calm hcold)) hs hw ha) fun D σ H ⟨m, env, S, hK, eH, hS, hV, h⟩ => by
    subst eH
    simp only [wS] at h
    refine sE_of hK hS hV (Ev.refl m) h fun m1 x S1 v e1 hS1 r1 hV1 h1 => ?_
    exact tG_of (e1.k.trans hK) r1 hV1 h1 fun env' xs h2 hV2 => h2 m1 _ e1 hS1 hV2
/-- (a, b, ..) = a list of that length -/
def gLs (K : PySem.W.Frag) (n : Nat) (t : TGs) : TG := fun v σ H Q => ∃ a xs, v = .ref a ∧ SqL K H a xs ∧ xs.length = n ∧ t xs σ H Q
theorem pg_lst {es : List Expr} {kk : Nat} {t : TGs} {n : Nat} (calm : X.calm = true) (h : PGs X es t) (hn : (assignEach es X.env).length = n) (hst : (assignEach es X.env).findIdx? (·.1) = none) : PG X (.Tuple es kk pos) (gLs X.K n t) := by
  refine ⟨fun pn s σ H v u Q I r hw => ?_⟩
  obtain ⟨a, xs, rfl, hq, hl, hw⟩ := hw
  cases r
  obtain ⟨its, rv, p, _⟩ := I.list hq
  have sz : its.toArray.size = (assignEach es X.env).length := by
    have := rv.length
    simp only [List.size_toArray]
    omega
  rw [assign_Tuple]
  refine wpAny_bind (wpAny_standAt ?_)
  unfold unpack
  rw [hst, ← sz]
  refine wpAny_bind (wpAny_holding (PySem.W.kun_itemsOf (I.ok.hd calm) p.isList fun h1 hx => ?_))
  have I1 : Inv X pn σ H { s with heap := h1 } := I.kept (t' := s.toks) fun b o e => hx b o (Nat.ne_of_lt (Heap.lt_size e)) e
  exact h.run pn _ σ H xs _ Q I1 rv hw
theorem s_setL {is : List Nat} (xo : XO P cl X k o W) (hcold : (!o.hot) = true) {tes : List Expr} {kk : Nat} {tpos : Pos} (hn : NmsOk X is tes) (hs : swapsWith ex (some (.Tuple tes kk tpos)) pos.line X.env = pure false) (hw : swappedStores [.Tuple tes kk tpos] ex X.env = pure none) (ha : (assignEach [.Tuple tes kk tpos] X.env).map (·.2) = [assign (.Tuple tes kk tpos) X.env]) (he : PE X ex (tE P cl k X W e)) : PS X (.Assign [.Tuple tes kk tpos] ex pos) (tSt P cl k X W (.setL is e)) :=
  PS.imp (ps_asg he (pg_lst (n := is.length) (xo.calm hcold) (hn.pgs xo.nd) hn.len hn.star) hs hw ha) fun D σ H ⟨m, env, S, hK, eH, hS, hV, h⟩ => by
    subst eH
    simp only [wS] at h
    refine sE_of hK hS hV (Ev.refl m) h fun m1 x S1 v e1 hS1 r1 hV1 ⟨n, ds, h1, h2, h3, h4⟩ => ?_
    subst h1
    cases r1 with
    | ref ha =>
      obtain ⟨vs, q, r⟩ := hS1.lst h2 ha
      have ek : m1.K = X.K := e1.k.trans hK
      rw [ek] at q
      exact ⟨_, vs, rfl, q, by rw [← r.length]; exact h3, gNs_of _ _ _ _ _ (by rw [← r.length]; exact h3) (h4 m1 _ e1 hS1 (hV1.setN r))⟩
theorem s_par {i j : Nat} {x y : Str} {ea eb : Expr} {es' : Es} {px py pt : Pos} {kt k2 pt2} (xo : XO P cl X k o W) (hcold : (!o.hot) = true) (hi : X.N[i]? = some x) (hj : X.N[j]? = some y) (hij : i ≠ j)
    (hx : X.env.scope.names.lookup x = some .local) (hy : X.env.scope.names.lookup y = some .local) (ha : PA X [ea, eb] (tEs P cl k X W es'))
    (hw : swappedStores [.Tuple [.Name x px, .Name y py] kt pt] (.Tuple [ea, eb] k2 pt2) X.env = pure (some [x, y])) :
    PS X (.Assign [.Tuple [.Name x px, .Name y py] kt pt] (.Tuple [ea, eb] k2 pt2) pos) (tSt P cl k X W (.par [i, j] es')) :=
  PS.imp (ps_par (xo.calm hcold) xo.nd hi hj hij hx hy ha hw) fun D σ H ⟨m, env, S, hK, eH, hS, hV, h⟩ => by
    subst eH
    simp only [wS] at h
    refine sEs_of hK hS hV (Ev.refl m) h fun m1 x S1 v e1 hS1 r1 hV1 h1 => ?_
    obtain ⟨hl, h1⟩ := h1
    cases r1 with
    | nil => cases hl
    | cons ra r1 =>
      cases r1 with
      | nil => cases hl
      | cons rb r1 =>
        cases r1 with
        | nil => exact ⟨_, _, rfl, h1 m1 _ e1 hS1 ((hV1.set ra).set rb)⟩
        | cons _ _ => simp at hl
def tPar3 (i j l : Nat) (ta : TA) : TS := fun D e H => ta e H fun vs H1 => ∃ v1 v2 v3, vs = [v1, v2, v3] ∧ D.nx (((e.set i (some v1)).set j (some v2)).set l (some v3)) H1
theorem set_turn {α : Type} {e : List α} {i j l : Nat} {a b c : α} (ij : i ≠ j) (il : i ≠ l) (jl : j ≠ l) : ((e.set l c).set j b).set i a = ((e.set i a).set j b).set l c := by
  rw [List.set_comm (l := e.set l c) b a ij.symm, List.set_comm (l := e) c a il.symm, List.set_comm (l := e.set i a) c b jl.symm]
theorem three_of {vs : List V} {us : List Value} {v1 v2 v3 : V} (ev : vs = [v1, v2, v3]) (r : Vals vs us) : ∃ u1 u2 u3, us = [u1, u2, u3] ∧ RelV v1 u1 ∧ RelV v2 u2 ∧ RelV v3 u3 := by
  subst ev
  rcases r with _ | ⟨p1, _ | ⟨p2, _ | ⟨p3, _ | ⟨_, _⟩⟩⟩⟩
  exact ⟨_, _, _, rfl, p1, p2, p3⟩
theorem ps_par3 {i j l : Nat} {x y z : Str} {ea eb ec : Expr} {ta : TA} {px py pz pt : Pos} {kt k2 pt2} (calm : X.calm = true) (nd : X.N.Nodup) (hi : X.N[i]? = some x) (hj : X.N[j]? = some y) (hl : X.N[l]? = some z) (hij : i ≠ j) (hil : i ≠ l) (hjl : j ≠ l)
    (hx : X.env.scope.names.lookup x = some .local) (hy : X.env.scope.names.lookup y = some .local) (hz : X.env.scope.names.lookup z = some .local) (ha : PA X [ea, eb, ec] ta)
    (hw : swappedStores [.Tuple [.Name x px, .Name y py, .Name z pz] kt pt] (.Tuple [ea, eb, ec] k2 pt2) X.env = pure (some [x, y, z])) :
    PS X (.Assign [.Tuple [.Name x px, .Name y py, .Name z pz] kt pt] (.Tuple [ea, eb, ec] k2 pt2) pos) (tPar3 i j l ta) := by
  refine ⟨fun pn t e H Z J g => ?_⟩
  rw [exec_Assign_arm]
  refine wpAny_bind (wpAny_standAt (wpAny_bind ?_))
  rw [show swapsWithSole [.Tuple [.Name x px, .Name y py, .Name z pz] kt pt] (.Tuple [ea, eb, ec] k2 pt2) pos.line X.env = pure false from rfl]
  refine wpAny_pure ?_
  rw [if_neg Bool.false_ne_true]
  refine wpAny_bind (Tuple_ (thn (ha.run _ pn t e H _ J g) fun us t1 ⟨vs, H1, J1, r1, v1, v2, v3, ev, q⟩ => ?_))
  obtain ⟨u1, u2, u3, rfl, r11, r12, r13⟩ := three_of ev r1
  refine wpAny_newObj_type ?_ (show 3 ≤ sizeLine from by decide)
  have J2 : Inv X pn e H1 { t1 with heap := t1.heap.push { cls := .type "tuple", data := .seq [u1, u2, u3].toArray } } := J1.kept (t' := t1.toks) fun _ _ w => Heap.get?_push_of_some _ w
  rw [hw]
  refine wpAny_bind (wpAny_pure ?_)
  show wpAny _ X.A (do rule "assign.swapped-stores"; let us ← unpackItems (.ref t1.heap.objs.size) 3 none; assignInOrder [fun v => bindName X.env z v, fun v => bindName X.env y v, fun v => bindName X.env x v] us.reverse; pure Flow.next) _ _ _
  refine wpAny_bind (wpAny_rule (wpAny_bind ?_))
  refine unpackItems_tuple (items := #[u1, u2, u3]) (J.ok.hd calm) (IsTup.new t1.heap _) fun h3 k3 => ?_
  have J3 := J2.kept (h' := h3) (t' := t1.toks) fun n o w => k3 n o (Nat.ne_of_lt (Heap.lt_size w)) w
  show wpAny _ _ (assignInOrder [fun v => bindName X.env z v, fun v => bindName X.env y v, fun v => bindName X.env x v] [u3, u2, u1] >>= fun _ => pure Flow.next) _ _ _
  refine wpAny_bind (assignInOrder_cons (wpAny_bindName (store_ok J3 nd hl (.inl hz) r13 (fun t4 J4 => ?_) (.inr hz))))
  refine assignInOrder_cons (wpAny_bindName (store_ok J4 nd hj (.inl hy) r12 (fun t5 J5 => ?_) (.inr hy)))
  refine assignInOrder_cons (wpAny_bindName (store_ok J5 nd hi (.inl hx) r11 (fun t6 J6 => assignInOrder_nil (wpAny_pure ?_)) (.inr hx)))
  rw [set_turn hij hil hjl] at J6
  exact ⟨_, H1, J6, q⟩
theorem s_par3 {i j l : Nat} {x y z : Str} {ea eb ec : Expr} {es' : Es} {px py pz pt : Pos} {kt k2 pt2} (xo : XO P cl X k o W) (hcold : (!o.hot) = true) (hi : X.N[i]? = some x) (hj : X.N[j]? = some y) (hl : X.N[l]? = some z) (hij : i ≠ j) (hil : i ≠ l) (hjl : j ≠ l)
    (hx : X.env.scope.names.lookup x = some .local) (hy : X.env.scope.names.lookup y = some .local) (hz : X.env.scope.names.lookup z = some .local) (ha : PA X [ea, eb, ec] (tEs P cl k X W es'))
    (hw : swappedStores [.Tuple [.Name x px, .Name y py, .Name z pz] kt pt] (.Tuple [ea, eb, ec] k2 pt2) X.env = pure (some [x, y, z])) :
    PS X (.Assign [.Tuple [.Name x px, .Name y py, .Name z pz] kt pt] (.Tuple [ea, eb, ec] k2 pt2) pos) (tSt P cl k X W (.par [i, j, l] es')) :=
  PS.imp (ps_par3 (xo.calm hcold) xo.nd hi hj hl hij hil hjl hx hy hz ha hw) fun D σ H ⟨m, env, S, hK, eH, hS, hV, h⟩ => by
    subst eH
    simp only [wS] at h
    refine sEs_of hK hS hV (Ev.refl m) h fun m1 x S1 v e1 hS1 r1 hV1 h1 => ?_
    obtain ⟨hlen, h1⟩ := h1
    rcases r1 with _ | ⟨ra, _ | ⟨rb, _ | ⟨rc, _ | ⟨_, _⟩⟩⟩⟩
    · cases hlen
    · cases hlen
    · cases hlen
    · exact ⟨_, _, _, rfl, h1 m1 _ e1 hS1 (((hV1.set ra).set rb).set rc)⟩
    · simp at hlen
theorem noswap_sub {ex a b : Expr} {c : Pos} {l : Nat} {env : PySem.Env} : swapsWith ex (some (.Subscript a b c)) l env = pure false := by
  cases ex <;> rfl
theorem s_setI {oo i : E} {eo ei : Expr} {p2 : Pos} (xo : XO P cl X k o W) (hi : plainIx ei = true) (ho : PE X eo (tE P cl k X W oo)) (hx : PE X ei (tE P cl k X W i)) (he : PE X ex (tE P cl k X W e)) : PS X (.Assign [.Subscript eo ei p2] ex pos) (tSt P cl k X W (.setI oo i e)) :=
  PS.imp (ps_asg he (pg_sub ho hx (set_ok (cl := cl) xo.u1) (by cases ei <;> first | (intro _; rfl) | cases hi)) (by simpa only [swapsWithSole] using noswap_sub (ex := ex) (a := eo) (b := ei) (c := p2) (l := pos.line) (env := X.env)) (by cases ex <;> rfl)) fun D σ H ⟨m, env, S, hK, eH, hS, hV, h⟩ => by
    subst eH
    simp only [wS] at h
    refine sE_of hK hS hV (Ev.refl m) h fun m1 x S1 v e1 hS1 r1 hV1 h1 => ?_
    refine sE_of (e1.k.trans hK) hS1 hV1 e1 h1 fun m2 y S2 w e2 hS2 r2 hV2 h2 => ?_
    refine sE_of ((e1.trans e2).k.trans hK) hS2 hV2 (e1.trans e2) h2 fun m3 z S3 u e3 hS3 r3 hV3 h3 => ?_
    have e13 := (e1.trans e2).trans e3
    exact ⟨m3, S3, w, u, v, e13.k.trans hK, rfl, hS3, r2.up (e3.up hS2), r3, r1.up ((e2.trans e3).up hS1), setW_mono (fun S4 h4 m' e4 hS4 => h4 m' σ (e13.trans e4) hS4 (hV3.up (e4.up hS3))) h3⟩
theorem s_setF {oo : E} {eo : Expr} {f : String} (xo : XO P cl X k o W) (hf : f ∈ P.flds) (hc : swapsWith ex (some (.Attribute eo (Str.ofString f) p')) pos.line X.env = pure false) (ho : PE X eo (tE P cl k X W oo)) (he : PE X ex (tE P cl k X W e)) : PS X (.Assign [.Attribute eo (Str.ofString f) p'] ex pos) (tSt P cl k X W (.setF oo f e)) :=
  PS.imp (ps_fld ho he hc) fun D σ H ⟨m, env, S, hK, eH, hS, hV, h⟩ => by
    subst eH
    simp only [wS] at h
    refine sE_of hK hS hV (Ev.refl m) h fun m1 x S1 v e1 hS1 r1 hV1 h1 => ?_
    refine sE_of (e1.k.trans hK) hS1 hV1 e1 h1 fun m2 y S2 w e2 hS2 r2 hV2 h2 => ?_
    obtain ⟨n, c, fs, rfl, h3, h4, h5⟩ := h2
    cases r2 with
    | @ref _ y hy =>
    obtain ⟨C, dx, gs, hy2, hC, rf⟩ := hS2.ob n _ y h3 hy
    have r1' := r1.up (e2.up hS1)
    have e3 : Ev m2 { m2 with H := upd m2.H y (.ins C dx (L2.putF (Str.ofString f) x gs)) } := Ev.write hy hy2
    have hS3 : SH cl { m2 with H := upd m2.H y (.ins C dx (L2.putF (Str.ofString f) x gs)) } (S2.set n (.ins c (putF f v fs))) := hS2.write hy hy2 ⟨C, dx, _, upd_same, hC, (rf.put f r1').up (e3.up hS2)⟩
    exact ⟨y, C, dx, gs, rfl, hy2, (xo.ln.clc c C hC).2, xo.ln.fld c C hC f hf, by rw [← rf.length]; exact h4, h5 _ σ ((e1.trans e2).trans e3) hS3 (hV2.up (e3.up hS2))⟩
theorem s_aug {i : Nat} {x : Str} {op : Operator} (xo : XO P cl X k o W) (hn : NmOk X i (.Name x p')) (he : PE X ex (tE P cl k X W e)) : PS X (.AugAssign (.Name x p') op ex pos) (tSt P cl k X W (.aug i op e)) := by
  obtain ⟨x', pos', h0, h1, h2, h3⟩ := hn.ok
  cases h0
  refine PS.imp (ps_aug xo.nd h1 h2 he (opr_ibin (cl := cl) op) h3) fun D σ H ⟨m, env, S, hK, eH, hS, hV, h⟩ => ?_
  subst eH
  simp only [wS] at h
  obtain ⟨v, hv, h⟩ := h
  obtain ⟨x, hx, rx⟩ := hV.get hv
  refine ⟨x, hx, sE_of hK hS hV (Ev.refl m) h fun m1 y S1 w e1 hS1 r1 hV1 h1 => ?_⟩
  exact ⟨m1, S1, v, w, e1.k.trans hK, rfl, hS1, rx.up (e1.up hS), r1, ibinW_mono (fun z S2 h2 m2 y2 e2 hS2 r2 => h2 m2 _ (e1.trans e2) hS2 ((hV1.up (e2.up hS1)).set r2)) h1⟩
theorem s_augI {oo i : E} {eo ei : Expr} {p2 : Pos} {op : Operator} (xo : XO P cl X k o W) (hi : plainIx ei = true) (ho : PE X eo (tE P cl k X W oo)) (hx : PE X ei (tE P cl k X W i)) (he : PE X ex (tE P cl k X W e)) : PS X (.AugAssign (.Subscript eo ei p2) op ex pos) (tSt P cl k X W (.augI oo i op e)) :=
  PS.imp (ps_augS ho hx (get_ok (cl := cl) xo.u1) he (opr_ibin (cl := cl) op) (set_ok (cl := cl) xo.u1) (by cases ei <;> first | (intros; rfl) | cases hi)) fun D σ H ⟨m, env, S, hK, eH, hS, hV, h⟩ => by
    subst eH
    simp only [wS] at h
    refine sE_of hK hS hV (Ev.refl m) h fun m1 x S1 v e1 hS1 r1 hV1 h1 => ?_
    refine sE_of (e1.k.trans hK) hS1 hV1 e1 h1 fun m2 y S2 w e2 hS2 r2 hV2 h2 => ?_
    have e12 := e1.trans e2
    refine ⟨m2, S2, v, w, e12.k.trans hK, rfl, hS2, r1.up (e2.up hS1), r2, h2.1, subW_mono (fun old S3 h3 m3 z e3 hS3 r3 => ?_) h2.2⟩
    have e13 := e12.trans e3
    refine sE_of (e13.k.trans hK) hS3 (hV2.up (e3.up hS2)) e13 h3 fun m4 z4 S4 v4 e4 hS4 r4 hV4 h4 => ?_
    have e14 := e13.trans e4
    refine ⟨m4, S4, old, v4, e14.k.trans hK, rfl, hS4, r3.up (e4.up hS3), r4, ibinW_mono (fun r S5 h5 m5 z5 e5 hS5 r5 => ?_) h4⟩
    have e15 := e14.trans e5
    exact ⟨m5, S5, v, w, r, e15.k.trans hK, rfl, hS5, (((r1.up (e2.up hS1)).up (e3.up hS2)).up (e4.up hS3)).up (e5.up hS4), ((r2.up (e3.up hS2)).up (e4.up hS3)).up (e5.up hS4), r5, setW_mono (fun S6 h6 m' e6 hS6 => h6 m' σ (e15.trans e6) hS6 ((hV4.up (e5.up hS4)).up (e6.up hS5))) h5⟩
theorem s_augF {oo : E} {eo : Expr} {f : String} {op : Operator} (xo : XO P cl X k o W) (hf : f ∈ P.flds) (ho : PE X eo (tE P cl k X W oo)) (he : PE X ex (tE P cl k X W e)) : PS X (.AugAssign (.Attribute eo (Str.ofString f) p') op ex pos) (tSt P cl k X W (.augF oo f op e)) :=
  PS.imp (ps_fldaug ho he (opr_ibin (cl := cl) op)) fun D σ H ⟨m, env, S, hK, eH, hS, hV, h⟩ => by
    subst eH
    simp only [wS] at h
    refine sE_of hK hS hV (Ev.refl m) h fun m1 y S1 w e1 hS1 r1 hV1 h1 => ?_
    obtain ⟨n, c, fs, v, rfl, h3, h4, h5⟩ := h1
    cases r1 with
    | @ref _ y hy =>
    obtain ⟨C, dx, gs, hy2, hC, rf⟩ := hS1.ob n _ y h3 hy
    rcases rf.look f with ⟨v', x, q1, q2, q3⟩ | ⟨q, _⟩
    · rw [h4] at q1
      cases q1
      refine ⟨y, C, dx, gs, x, rfl, hy2, (xo.ln.clc c C hC).2, xo.ln.fld c C hC f hf, q2, ?_⟩
      refine sE_of (e1.k.trans hK) hS1 hV1 e1 h5 fun m2 z S2 u e2 hS2 r2 hV2 h6 => ?_
      refine ⟨m2, S2, v, u, (e1.trans e2).k.trans hK, rfl, hS2, q3.up (e2.up hS1), r2, ibinW_mono (fun r S3 h7 m3 z3 e3 hS3 r3 => ?_) h6⟩
      obtain ⟨fs', h8, h9, h10⟩ := h7
      have hy3 := em_get (e2.trans e3).em hy
      obtain ⟨C', dx', gs', hy4, hC', rf'⟩ := hS3.ob n _ y h8 hy3
      have hCC : C' = C := by
        have a1 := (xo.ln.clc c C hC).1
        have a2 := (xo.ln.clc c C' hC').1
        rw [a1] at a2
        cases a2
        rfl
      subst hCC
      have e4 : Ev m3 { m3 with H := upd m3.H y (.ins C' dx' (L2.putF (Str.ofString f) z3 gs')) } := Ev.write hy3 hy4
      have hS4 : SH cl { m3 with H := upd m3.H y (.ins C' dx' (L2.putF (Str.ofString f) z3 gs')) } (S3.set n (.ins c (putF f r fs'))) := hS3.write hy3 hy4 ⟨C', dx', _, upd_same, hC', (rf'.put f r3).up (e4.up hS3)⟩
      exact ⟨dx', gs', hy4, by rw [← rf'.length]; exact h9, h10 _ σ (((e1.trans e2).trans e3).trans e4) hS4 (hV2.up ((e3.trans e4).up hS2))⟩
    · rw [h4] at q; cases q
theorem s_expr (hc : notComp ex = true) (he : PE X ex (tE P cl k X W e)) : PS X (.Expr ex pos) (tSt P cl k X W (.expr e)) :=
  PS.imp (ps_expr he (noswap hc)) fun D σ H ⟨m, env, S, hK, eH, hS, hV, h⟩ => by
    subst eH
    simp only [wS] at h
    exact sE_of hK hS hV (Ev.refl m) h fun m1 x S1 v e1 hS1 r1 hV1 h1 => h1 m1 _ e1 hS1 hV1
theorem s_next (h : PS X st tNext) : PS X st (tSt P cl k X W .pass) :=
  PS.imp h fun D σ H ⟨m, env, S, hK, eH, hS, hV, h⟩ => by
    subst eH
    simp only [wS] at h
    exact h m _ (Ev.refl m) hS hV
theorem s_raise {c : String} {msg : Str} {j : Nat} {p p2 : Pos} (xo : XO P cl X k o W) (tks : L2N.Takes X W) (hcold : (!o.hot) = true) (hg : Gl X (Str.ofString c)) (hdb : (Str.ofString c == ("__debug__" : Str)) = false) (hc : c ∈ P.excs) : PS X (.Raise (some (.Call (.Name (Str.ofString c) p) [.Constant (.str msg) j p2] [] p')) none pos) (tSt P cl k X W (.raise c)) := by
  obtain ⟨C, g, q, kp, sb, ty⟩ := xo.ln.exc c hc
  refine PS.imp (L2N.ps_raise (xo.calm hcold) tks (L2N.pmk_own PySem.F.excBase_ValueError q g kp (raises_own sb ty) hg hdb)) fun D σ H ⟨m, env, S, hK, eH, hS, hV, h⟩ => ?_
  subst eH
  simp only [wS] at h
  exact h m σ C (Ev.refl m) hS hV g
theorem s_lck {i : Nat} (hs : PS X st (tSt P cl k X W s)) : PS X st (tSt P cl k X W (.lck i s)) :=
  PS.imp (ps_lock hs) fun D σ H ⟨m, env, S, hK, eH, hS, hV, h⟩ => by
    subst eH
    simp only [wS] at h
    obtain ⟨n, kvs, h1, h2, h3⟩ := h
    obtain ⟨v, hv, rv⟩ := hV.get h1
    cases rv with
    | @ref _ a ha =>
    obtain ⟨ws, h4, r⟩ := hS.ob n _ a h2 ha
    refine ⟨a, _, h4, trivial, fun od => ?_⟩
    obtain ⟨e1, hS1⟩ := lock_sh (od := od) hS ha h4 r
    refine ⟨{ m with H := upd m.H a (.frz od (.dK ws)) }, env, _, hK, rfl, hS1, hV.up (e1.up hS), wS_mono (callW_mono P k) s (fun _ _ _ h => liftXS.ev e1 h) ⟨fun env' S' h m' σ' e' hS' hV' => ?_, fun v S' h m' x e' hS' r' => ?_, fun env' S' h m' σ' e' hS' hV' => ?_⟩ h3⟩
    · obtain ⟨h6, up, e3, hS3⟩ := unlock_sh ha h4 e' hS' h.1
      exact ⟨h6, h.2 _ σ' e3 hS3 (hV'.up up)⟩
    · obtain ⟨h6, up, e3, hS3⟩ := unlock_sh ha h4 e' hS' h.1
      exact ⟨h6, h.2 _ x e3 hS3 (r'.up up)⟩
    · obtain ⟨h6, up, e3, hS3⟩ := unlock_sh ha h4 e' hS' h.1
      exact ⟨h6, h.2 _ σ' e3 hS3 (hV'.up up)⟩
theorem s_cont : PS X (.Continue pos) (tSt P cl k X W .cont) :=
  PS.imp ps_continue fun D σ H ⟨m, env, S, hK, eH, hS, hV, h⟩ => by
    subst eH
    simp only [wS] at h
    exact h m _ (Ev.refl m) hS hV
theorem s_ret (he : PE X ex (tE P cl k X W e)) : PS X (.Return (some ex) pos) (tSt P cl k X W (.ret e)) :=
  PS.imp (ps_ret he) fun D σ H ⟨m, env, S, hK, eH, hS, hV, h⟩ => by
    subst eH
    simp only [wS] at h
    exact sE_of hK hS hV (Ev.refl m) h fun m1 x S1 v e1 hS1 r1 hV1 h1 => h1 m1 _ e1 hS1 r1
theorem s_retN : PS X (.Return none pos) (tSt P cl k X W .retN) :=
  PS.imp ps_retN fun D σ H ⟨m, env, S, hK, eH, hS, hV, h⟩ => by
    subst eH
    simp only [wS] at h
    exact h m _ (Ev.refl m) hS .non
variable {sa sb : Sts} {xa xb : List Stmt} {t : T}
theorem s_if (hc : PT X ex (tTs P cl k X W t)) (ha : PSs X xa (tSts P cl k X W sa)) (hb : PSs X xb (tSts P cl k X W sb)) : PS X (.If ex xa xb pos) (tSt P cl k X W (.ife t sa sb)) :=
  PS.imp (ps_if hc ha hb) fun D σ H ⟨m, env, S, hK, eH, hS, hV, h⟩ => by
    subst eH
    simp only [wS] at h
    refine sT_of hK hS hV (Ev.refl m) h fun m1 S1 b e1 hS1 hV1 h1 => ?_
    cases b with
    | true =>
      simp only [if_true] at h1 ⊢
      exact ⟨m1, env, S1, e1.k.trans hK, rfl, hS1, hV1, wSs_mono (callW_mono P k) sa (fun _ _ _ h => liftXS.ev e1 h) (liftD.ev e1) h1⟩
    | false =>
      simp only [Bool.false_eq_true, if_false] at h1 ⊢
      exact ⟨m1, env, S1, e1.k.trans hK, rfl, hS1, hV1, wSs_mono (callW_mono P k) sb (fun _ _ _ h => liftXS.ev e1 h) (liftD.ev e1) h1⟩
theorem s_while (xs : XSt P cl X k o W) (hcold : (!o.hot) = true) (hc : PT X ex (tTs P cl k X W t)) (ha : PSs X xa (tSts P cl k X W sa)) : PS X (.While ex xa [] pos) (tSt P cl k X W (.while t sa)) :=
  PS.imp (ps_while (xs.po hcold) hc ha) fun D σ H ⟨m, env, S, hK, eH, hS, hV, h⟩ => by
    subst eH
    simp only [wS] at h
    obtain ⟨n, h⟩ := h
    let wN : Nat → Env → Hm → Prop := whileN (fun env S K => wT P.con (callW P k) (fun c S' => liftXS cl X.mg m W c env S') t env S K) (wSs P.con P.sub (callW P k) sa (liftXS cl X.mg m W)) (liftD cl m D)
    refine ⟨fun μ σ' H' => ∃ m1 env1 S1, m1.K = X.K ∧ m1.H = H' ∧ Ev m m1 ∧ SH cl m1 S1 ∧ SV m1 env1 σ' ∧ wN μ env1 S1, ⟨n, m, env, S, hK, rfl, Ev.refl m, hS, hV, h⟩, ?_⟩
    rintro μ σ1 H1 ⟨m1, env1, S1, hK1, rfl, e1, hS1, hV1, h1⟩
    cases μ with
    | zero => exact h1.elim
    | succ μ =>
      refine sT_of hK1 hS1 hV1 e1 h1 fun m2 S2 b e2 hS2 hV2 h2 => ?_
      have e12 := e1.trans e2
      cases b with
      | false =>
        simp only [Bool.false_eq_true, if_false] at h2 ⊢
        exact h2 m2 _ e12 hS2 hV2
      | true =>
        simp only [if_true] at h2 ⊢
        refine ⟨fun σ' H' => ∃ m1 env1 S1, m1.K = X.K ∧ m1.H = H' ∧ Ev m m1 ∧ SH cl m1 S1 ∧ SV m1 env1 σ' ∧ wN μ env1 S1, fun σ' H' hn => ⟨μ, Nat.lt_succ_self _, hn⟩, ?_⟩
        refine ⟨m2, env1, S2, e2.k.trans hK1, rfl, hS2, hV2, wSs_mono (callW_mono P k) sa (fun _ _ _ h => liftXS.ev e12 h) ⟨fun env3 S3 h3 m3 σ3 e3 hS3 hV3 => ?_, fun _ _ h => liftQ.ev e12 (fun _ _ _ q => q) h, fun env3 S3 h3 m3 σ3 e3 hS3 hV3 => ?_⟩ h2⟩
        · exact ⟨m3, env3, S3, (e12.trans e3).k.trans hK, rfl, e12.trans e3, hS3, hV3, h3⟩
        · exact ⟨m3, env3, S3, (e12.trans e3).k.trans hK, rfl, e12.trans e3, hS3, hV3, h3⟩
theorem forL_guard {tg : Tg} {g : Hm → Prop} {body : Mi.Sp → Env → Hm → Prop} {D : Mi.Sp} {vs : List Val} {env : Env} {S : Hm} (h : forL tg g body D vs env S) : g S := by
  cases vs <;> exact h.1
theorem s_for {tgt : Tg} {src : Src} (xs : XSt P cl X k o W) (hcold : (!o.hot) = true) (hi : PI X tg iter (tSrc P cl k X W src)) (hfold : ∀ x, foldedSetIterable iter X.env x = pure x) (ht : TgOk X tgt tg) (ha : PSs X xa (tSts P cl k X W sa)) : PS X (.For tg iter xa [] pos) (tSt P cl k X W (.for tgt src sa)) :=
  PS.imp (ps_for (xs.po hcold) (xs.xo.calm hcold) hi (PG.pre (ht.pg xs.xo.nd (xs.xo.calm hcold))) ha hfold) fun D σ H ⟨m, env, S, hK, eH, hS, hV, h⟩ => by
    subst eH
    simp only [wS] at h
    refine sSrc_of hK hS hV (Ev.refl m) h fun m1 J S1 items g e1 hS1 ok hV1 h1 => ?_
    have hK1 := e1.k.trans hK
    let fL : List Val → Env → Hm → Prop := forL tgt g (wSs P.con P.sub (callW P k) sa (liftXS cl X.mg m W)) (liftD cl m D)
    let LW : Nat → L2.St → Hp → Prop := fun i σ' H' => ∃ m2 env2 S2, m2.K = X.K ∧ m2.H = H' ∧ Ev m1 m2 ∧ SH cl m2 S2 ∧ SV m2 env2 σ' ∧ fL (items.drop i) env2 S2
    refine ⟨fun i μ σ' H' => μ = items.length - i ∧ i ≤ items.length ∧ LW i σ' H', ⟨items.length, by simp, Nat.zero_le _, m1, env, S1, hK1, rfl, Ev.refl m1, hS1, hV1, h1⟩, ?_⟩
    rintro i μ σ2 H2 ⟨rfl, hi, m2, env2, S2, hK2, rfl, e2, hS2, hV2, h2⟩
    have hg : g S2 := forL_guard h2
    have e12 := e1.trans e2
    by_cases he : i = items.length
    · refine .inl ⟨ok.stop i m2 S2 e2 hS2 hg (by omega), ?_⟩
      rw [List.drop_eq_nil_of_le (by omega)] at h2
      exact h2.2 m2 _ e12 hS2 hV2
    · have hlt : i < items.length := by omega
      refine .inr ⟨ok.go i m2 S2 items[i] e2 hS2 hg (List.getElem?_eq_getElem hlt), LW (i + 1), fun σ' H' lw => ⟨items.length - (i + 1), by omega, rfl, by omega, lw⟩, fun x H' y kf => ?_⟩
      rw [List.drop_eq_getElem_cons hlt] at h2
      obtain ⟨_, h2⟩ := h2
      obtain ⟨m3, rfl, e3, hS3, rv⟩ := ok.yld i m2 S2 items[i] x H' e2 hS2 hg (List.getElem?_eq_getElem hlt) y (by rw [hK2]; exact kf)
      have e13 := e12.trans e3
      refine tG_of (e13.k.trans hK) rv (hV2.up (e3.up hS2)) h2 fun env4 xs4 h4 hV4 => ?_
      refine ⟨m3, env4, S2, e13.k.trans hK, rfl, hS3, hV4, wSs_mono (callW_mono P k) sa (fun _ _ _ h => liftXS.ev e13 h) ⟨fun env5 S5 h5 m5 σ5 e5 hS5 hV5 => ?_, fun _ _ h => liftQ.ev e13 (fun _ _ _ q => q) h, fun env5 S5 h5 m5 σ5 e5 hS5 hV5 => ?_⟩ h4⟩
      · exact ⟨m5, env5, S5, (e13.trans e5).k.trans hK, rfl, (e2.trans e3).trans e5, hS5, hV5, h5⟩
      · exact ⟨m5, env5, S5, (e13.trans e5).k.trans hK, rfl, (e2.trans e3).trans e5, hS5, hV5, h5⟩
/-! ### try -/
theorem XSt.tr (xs : XSt P cl X k o W) (hcold : (!o.hot) = true) {W' : WX} {pn : List (Addr × Obj)} {xe : Value → Shared → Prop} (tk : L2N.Takes (X.tr pn xe) W') (po : PassesOwn (model X.prog X.w) X.A X.env xe) : XSt P cl (X.tr pn xe) k o W' where
  xo := { ln := xs.xo.ln, nd := xs.xo.nd, nn := xs.xo.nn, sc := xs.xo.sc, fnc := xs.xo.fnc, isi := xs.xo.isi, lx := xs.xo.lx, calm := xs.xo.calm, room := xs.xo.room, un := xs.xo.un, zc := xs.xo.zc, rmh := fun h => (by rw [h] at hcold; cases hcold), zx := fun h => (by rw [h] at hcold; cases hcold), hots := xs.xo.hots, tk := tkF_of xs.frm tk, fr := xs.xo.fr, fns := xs.xo.fns }
  tks := tk
  po := fun _ => po
  stk := xs.stk
  frm := xs.frm
  fk := xs.fk
def Ko.heat (o : Ko) : Ko := { o with hot := true }
theorem XSt.suite (xs : XSt P cl X k o W) (hcold : (!o.hot) = true) {a : Addr} {oe : Obj} {pn : List (Addr × Obj)} {c : String} (hc : ExO P X.K X.mg c oe) : XSt P (cl.at a c) (X.suite a ((a, oe) :: pn)) k o.heat noW where
  xo :=
    { ln := ⟨xs.xo.ln.con, xs.xo.ln.clc, xs.xo.ln.fld, xs.xo.ln.has, xs.xo.ln.exc, xs.xo.ln.bi⟩
      nd := xs.xo.nd
      nn := xs.xo.nn
      sc := xs.xo.sc
      fnc := xs.xo.fnc
      isi := ⟨xs.xo.isi.isT, xs.xo.isi.isB, xs.xo.isi.isC, xs.xo.isi.isCC⟩
      lx := xs.xo.lx
      calm := fun h => nomatch h
      room := fun h => nomatch h
      un := xs.xo.un
      zc := fun h => nomatch h
      rmh := fun _ _ => ⟨(xs.xo.room hcold).dp, (xs.xo.room hcold).un⟩
      zx := fun _ => by
        obtain ⟨ho, C, hC, hz, vs, hv⟩ := hc
        exact ⟨(a, oe), c, ⟨rfl, vs, hv, hz.2.2 vs hv⟩, List.mem_cons_self, fun b d h => h, ho, C, hC, hz, vs, hv⟩
      hots := xs.xo.hots
      tk := tkF_none
      fr := xs.xo.fr
      fns := fun h => nomatch h }
  tks := fun _ _ ⟨_, _, _, _, _, _, _, _, _, _, _, _, _, _, _, _, w⟩ => w.elim
  po := fun h => nomatch h
  stk := xs.stk
  frm := xs.frm
  fk := xs.fk
theorem es_get {env : Env} {i j : Nat} {v : Val} (h : eg (es env i none) j = some v) : j ≠ i ∧ eg env j = some v := by
  rw [eg_eq, es_eq] at h
  rw [eg_eq]
  by_cases hj : j = i
  · subst hj
    by_cases hl : j < env.length
    · rw [List.getElem?_set_self hl] at h; cases h
    · rw [List.getElem?_eq_none (by simp; omega)] at h; cases h
  · rw [List.getElem?_set_ne (Ne.symm hj)] at h
    exact ⟨hj, h⟩
theorem s_try {c x : String} {i : Nat} {n : Str} {body suite : Sts} {xb : List Stmt} {b0 : Stmt} {xsu : List Stmt} {np p' : Pos} (xs : XSt P cl X k o W) (hcold : (!o.hot) = true) (hi : X.N[i]? = some n) (hln : X.env.kindOf n = some .local) (hg : Gl X (Str.ofString c)) (hdb : (Str.ofString c == ("__debug__" : Str)) = false) (hc : c ∈ P.excs)
    (hb : ∀ {X' : Cx} {W' : WX}, XSt P cl X' k o W' → PSs X' xb (tSts P cl k X' W' body)) (hs : ∀ {X' : Cx} {cl' : Cl}, XSt P cl' X' k o.heat noW → PSs X' (b0 :: xsu) (tSts P cl' k X' noW suite)) :
    PS X (.Try xb [.ExceptHandler (some (.Name (Str.ofString c) np)) (some n) (b0 :: xsu) p'] [] [] pos) (tSt P cl k X W (.try body (.cons c (some i) suite .nil) .nil)) := by
  obtain ⟨C, hC, _, _, hsB, hty⟩ := xs.xo.ln.exc c hc
  have hE := (xs.xo.lx.ex c hc C hC).1
  let ts : Addr → Value → Option Addr → TS := fun a cls d D σ H => ∃ c0 C0, c0 ∈ P.excs ∧ X.mg (Str.ofString c0) = some (.ref C0) ∧ cls = .ref C0 ∧ d = none ∧ tSts P (cl.at a c0) k X noW suite D σ H
  refine PS.imp (L2N.ps_try_as (c := .ref C) (ts := ts) (tb := fun W' => tSts P cl k X W' body) xs.stk xs.frm xs.xo.nd hi hln ⟨hg, hdb, .inl hC⟩ xs.tks (fun W' pn xe tk po => hb (xs.tr hcold tk po)) fun a oe cls d pn hz hf => ?_) fun D σ H ⟨m, env, S, hK, eH, hS, hV, h⟩ => ?_
  · refine ⟨fun pins s σ H D I ⟨c0, C0, h1, h2, h3, h4, h5⟩ => ?_⟩
    subst h3 h4
    exact (hs (xs.suite hcold (pn := pn) (c := c0) ⟨h1, C0, h2, hz, hf⟩)).run pins s σ H D I h5
  · subst eH
    simp only [wS] at h
    refine ⟨m, env, S, hK, rfl, hS, hV, wSs_mono (callW_mono P k) body (fun c0 e0 S0 hw => ?_) ⟨fun e1 S1 h1 => by simpa only [wSs] using h1, fun _ _ h => h, fun _ _ h => h⟩ h⟩
    obtain ⟨hsub, hw⟩ := hw
    intro m' σ' C0 e' hS' hV' hC0
    have h0 := Pg.sub_me hsub
    have hsb := (xs.xo.lx.sb c0 h0 c hc C0 C hC0 hC).2
    have hz : m.z = none := by
      cases q : m.z with
      | none => rfl
      | some p => exact absurd (hS.z p.1 p.2 q) (xs.xo.zc hcold _ _)
    have hz' : m'.z = none := e'.z.trans hz
    refine ⟨P.sub c0 c, PySem.W.exm_ref hE.hs hE.hd hty hsb, fun hb a na => ?_, fun hb => ?_⟩
    · simp only [wHs, hb, if_true] at hw
      have hup : Up m' { m' with z := some (a, c0) } := ⟨fun _ _ q => q, ⟨[], by simp⟩, fun p q => by rw [hz'] at q; cases q⟩
      refine ⟨c0, C0, h0, hC0, rfl, rfl, { m' with z := some (a, c0) }, es e0 i (some (.exc c0)), S0, e'.k.trans hK, rfl, hS'.inz hz' a c0, (hV'.up hup).set (.exc rfl), wSs_mono (callW_mono P k) suite (X := fun _ _ _ => False) (D := { nx := fun env' S' => back i e0 S0 env' S' ∧ (liftD cl m D).nx (es env' i none) S', rt := fun _ _ => False }) (fun _ _ _ h => h.elim) ⟨fun e2 S2 h2 m2 σ2 ev2 hS2 hV2 => ?_, fun _ _ h => h.elim, fun _ _ h => h.elim⟩ hw⟩
      obtain ⟨⟨hl, hlen, hfr⟩, hn⟩ := h2
      obtain ⟨e3, hS3⟩ := hS'.outz hz' ev2 hS2 hl
      refine hn { m2 with z := none } (σ2.set i none) (e'.trans e3) hS3 ⟨by rw [es_eq]; simp [hV2.1], fun j v hj => ?_⟩
      obtain ⟨hji, hj2⟩ := es_get (by rw [eg_eq, hj]; rfl)
      obtain ⟨y, hy, ry⟩ := hV2.get hj2
      refine ⟨y, by rw [List.getElem?_set_ne (Ne.symm hji)]; exact hy, ry.out ?_⟩
      rcases hfr j v hji hj2 with h5 | h5
      · obtain ⟨_, _, r5⟩ := hV'.get h5
        exact r5.fr hz'
      · exact h5
    · simp only [wHs, hb] at hw
      exact hw m' σ' C0 e' hS' hV' hC0
end
end Mi

set_option maxHeartbeats 4000000
namespace Mi
open PySem PySem.Spec L2 PyProof.Rows
/-! ### statements, checked -/
/-- how a comprehension's value is stored: 1: the name is a local on its line; 2: it is a cell -/
def lcSet (o : Ko) (x : Str) (p' : Pos) (ex : Expr) : Nat := match ex with
  | .ListComp _ _ scope cpos => if decide (o.sc.names.lookup x = some .local) && (p'.line == cpos.line) && !(scope.names.any fun (n, k) => n == x && (k == .local || k == .cell)) then 1 else if decide (o.sc.names.lookup x = some .cell) then 2 else 0
  | _ => 0
def isLck : E → Bool
  | .lck _ _ => true
  | .lckA _ => true
  | _ => false
def notTup : Expr → Bool
  | .Tuple .. => false
  | _ => true
def isDoc : Expr → Bool
  | .Constant (.str _) _ _ => true
  | _ => false
section
variable (P : Pg)
mutual
def chkS : Ko → Mi.St → Stmt → Bool
  | o, .set i e, st => match st with
    | .Assign [.Name x p'] ex pos => nmB o i (.Name x p') && chkE P o e ex && (notComp ex || (!isLck e && decide (lcSet o x p' ex ≠ 0)))
    | _ => false
  | o, .setT is e, st => match st with
    | .Assign [.Tuple es k p] ex pos => !o.hot && (nmsB o is es && chkE P o e ex && notComp ex && notTup ex)
    | _ => false
  | o, .setL is e, st => match st with
    | .Assign [.Tuple es k p] ex pos => !o.hot && (nmsB o is es && chkE P o e ex && notComp ex && notTup ex)
    | _ => false
  | o, .par is es, st => match st with
    | .Assign [.Tuple [.Name x px, .Name y py] kt pt] (.Tuple [ea, eb] k2 pt2) pos => (match is with
      | [i, j] => !o.hot && (decide (o.N[i]? = some x) && decide (o.N[j]? = some y) && decide (i ≠ j) && decide (x ≠ y) && decide (o.sc.names.lookup x = some .local) && decide (o.sc.names.lookup y = some .local) && (px.line == py.line) && notStar ea && notStar eb &&
          !([ea, eb].all (foldedForSure 8)) && !([ea, eb].all (constantsAlone 8)) && chkEs P o es [ea, eb])
      | _ => false)
    | .Assign [.Tuple [.Name x px, .Name y py, .Name z pz] kt pt] (.Tuple [ea, eb, ec] k2 pt2) pos => (match is with
      | [i, j, l] => !o.hot && (decide (o.N[i]? = some x) && decide (o.N[j]? = some y) && decide (o.N[l]? = some z) && decide (i ≠ j) && decide (i ≠ l) && decide (j ≠ l) && decide (x ≠ y) && decide (x ≠ z) && decide (y ≠ z) &&
          decide (o.sc.names.lookup x = some .local) && decide (o.sc.names.lookup y = some .local) && decide (o.sc.names.lookup z = some .local) && (px.line == py.line) && (px.line == pz.line) && notStar ea && notStar eb && notStar ec &&
          !([ea, eb, ec].all (foldedForSure 8)) && !([ea, eb, ec].all (constantsAlone 8)) && chkEs P o es [ea, eb, ec])
      | _ => false)
    | _ => false
  | o, .setI a i e, st => match st with
    | .Assign [.Subscript eo ei _] ex _ => plainIx ei && chkE P o a eo && chkE P o i ei && chkE P o e ex
    | _ => false
  | o, .setF a f e, st => match st with
    | .Assign [.Attribute eo x p'] ex _ => nmEq f x && P.flds.contains f && chkE P o a eo && chkE P o e ex
    | _ => false
  | o, .aug i op e, st => match st with
    | .AugAssign (.Name x p') op' ex _ => decide (op = op') && nmB o i (.Name x p') && chkE P o e ex
    | _ => false
  | o, .augI a i op e, st => match st with
    | .AugAssign (.Subscript eo ei _) op' ex _ => decide (op = op') && plainIx ei && chkE P o a eo && chkE P o i ei && chkE P o e ex
    | _ => false
  | o, .augF a f op e, st => match st with
    | .AugAssign (.Attribute eo x _) op' ex _ => decide (op = op') && nmEq f x && P.flds.contains f && chkE P o a eo && chkE P o e ex
    | _ => false
  | o, .expr e, st => match st with
    | .Expr ex _ => notComp ex && chkE P o e ex
    | _ => false
  | o, .ret e, st => match st with
    | .Return (some ex) _ => chkE P o e ex
    | _ => false
  | o, .retN, st => match st with
    | .Return none _ => true
    | _ => false
  | o, .ife c a b, st => match st with
    | .If ex xa xb _ => chkT P o c ex && chkSs o a xa && chkSs o b xb
    | _ => false
  | o, .for tg src body, st => match st with
    | .For etg iter xa [] _ => !o.hot && (tgB o tg etg && notSet iter && chkSrc P o src etg iter && chkSs o body xa)
    | _ => false
  | o, .while c body, st => match st with
    | .While ex xa [] _ => !o.hot && (chkT P o c ex && chkSs o body xa)
    | _ => false
  | o, .raise c, st => match st with
    | .Raise (some (.Call (.Name x _) [.Constant (.str _) _ _] [] _)) none _ => !o.hot && (nmEq c x && glB o.sc x && ndb x && P.excs.contains c)
    | _ => false
  | o, .try body hs orelse, st => match hs, orelse with
    | .cons c (some i) suite .nil, .nil => (match st with
      | .Try xb [.ExceptHandler (some (.Name x _)) (some n) (b0 :: xsu) _] [] [] _ => !o.hot && (nmEq c x && glB o.sc x && ndb x && P.excs.contains c && decide (o.N[i]? = some n) && decide (o.sc.names.lookup n = some .local) && chkSs o body xb && chkSs o.heat suite (b0 :: xsu))
      | _ => false)
    | _, _ => false
  | o, .cont, st => match st with
    | .Continue _ => true
    | _ => false
  | o, .pass, st => match st with
    | .Pass _ => true
    | .Expr ex _ => isDoc ex
    | _ => false
  | o, .lck _ s, st => chkS o s st
def chkSs : Ko → Sts → List Stmt → Bool
  | o, .nil, sts => match sts with
    | [] => true
    | _ => false
  | o, .cons s ss, sts => match sts with
    | st :: rest => chkS o s st && chkSs o ss rest
    | _ => false
end
end
section
variable {P : Pg} {cl : Cl} {k : Nat} {X : Cx} {W : WX} {o : Ko}
theorem lc_parts {e : E} {eelt : Expr} {gens : List Comprehension} {scope : Scope} {pos : Pos} (h : chkE P o e (.ListComp eelt gens scope pos) = true) (hl : isLck e = false) (xo : XO P cl X k o W) :
    ∃ elt tgt src cond own tg iter ifs, e = .lc elt tgt src cond own ∧ gens = [⟨tg, iter, ifs, 0⟩] ∧ PI X tg iter (tSrc P cl k X W src) ∧ (∀ x, foldedSetIterable iter X.env x = pure x) ∧ LcOk P cl k X W elt tgt cond own eelt tg ifs scope ∧ (!o.hot) = true := by
  cases e with
  | lc elt tgt src cond own =>
    simp only [chkE] at h
    split at h
    · rename_i x1 x2 x3 x4 x5 x6 x7 heq
      cases heq
      simp only [Bool.and_eq_true, beq_iff_eq] at h
      obtain ⟨h00, ⟨⟨⟨⟨⟨⟨⟨rfl, h1⟩, h2⟩, h3⟩, h4⟩, h5⟩, h6⟩, h7⟩⟩ := h
      refine ⟨elt, tgt, src, cond, own, _, _, _, rfl, rfl, chkSrc_ok src h4 xo, folded_of (by revert h1; unfold notSet; split <;> simp), ⟨?_, ?_, fun σ s H C c fp => ?_, fun σ s H C c fp => ?_, fun σ s H C c fp => ?_⟩, h00⟩
      · rw [xo.nn, xo.sc]
        exact blkOk_by h2
      · intro i hi
        rw [List.all_eq_true] at h3
        simpa using h3 i hi
      · exact tgB_of (xo.lc h00 σ scope s H C c fp) h5
      · exact chkOt_ok cond h6 (xo.lc h00 σ scope s H C c fp)
      · exact (chkE_ok elt h7 (xo.lc h00 σ scope s H C c fp)).1
    · cases h
  | lck _ _ => cases hl
  | lckA _ => cases hl
  | not a => unfold chkE at h; simp at h
  | vi f es => unfold chkE at h; split at h <;> first | (cases h; done) | (cases f <;> cases h; done) | (simp at h; done)
  | _ => simp [chkE] at h
theorem sw_cell {elt : Expr} {gs : List Comprehension} {scope : Scope} {pos py : Pos} {y : Str} {l : Nat} {env : PySem.Env} (hy : env.scope.names.lookup y = some .cell) : swapsWith (.ListComp elt gs scope pos) (some (.Name y py)) l env = pure false := by
  have ky : env.kindOf y = some .cell := hy
  unfold swapsWith
  simp only [ky]
  have e1 : ((some NameKind.cell : Option NameKind) == some .local) = false := by decide
  simp only [e1, Bool.and_false, Bool.false_and]
theorem sw_fld {ex eo : Expr} {f : Str} {p : Pos} {l : Nat} {env : PySem.Env} : swapsWith ex (some (.Attribute eo f p)) l env = pure false := by cases ex <;> rfl
theorem sw_tup {ex : Expr} {es : List Expr} {kk : Nat} {p : Pos} {l : Nat} {env : PySem.Env} : swapsWith ex (some (.Tuple es kk p)) l env = pure false := by cases ex <;> rfl
theorem stores_none {ex : Expr} {es : List Expr} {kk : Nat} {p : Pos} {env : PySem.Env} (h : notTup ex = true) : swappedStores [.Tuple es kk p] ex env = pure none := by cases ex <;> first | rfl | cases h
theorem stores_two {x y : Str} {px py pt pt2 : Pos} {kt k2 : Nat} {ea eb : Expr} {env : PySem.Env} (hb : env.scope.kind = .function) (hx : env.scope.names.lookup x = some .local) (hy : env.scope.names.lookup y = some .local) (hl : (px.line == py.line) = true) (hne : x ≠ y)
    (s1 : notStar ea = true) (s2 : notStar eb = true) (hf : [ea, eb].all (foldedForSure 8) = false) (hc : [ea, eb].all (constantsAlone 8) = false) : swappedStores [.Tuple [.Name x px, .Name y py] kt pt] (.Tuple [ea, eb] k2 pt2) env = pure (some [x, y]) := by
  have kx : env.kindOf x = some .local := hx
  have ky : env.kindOf y = some .local := hy
  have hbk : env.blockKind = .function := by unfold Env.blockKind; rw [hb]; rfl
  have hl' : py.line = px.line := (beq_iff_eq.mp hl).symm
  have hyx : ¬ y = x := fun e => hne e.symm
  have ed : [x, y].eraseDups = [x, y] := by
    simp [List.eraseDups_cons, hyx]
  unfold swappedStores
  simp only [hbk]
  rw [if_neg (show ¬ ((!([Expr.Name x px, Expr.Name y py].length == 2 || [Expr.Name x px, Expr.Name y py].length == 3) || [ea, eb].length != [Expr.Name x px, Expr.Name y py].length || ScopeKind.function != ScopeKind.function) = true) from Bool.false_ne_true), if_neg (by
    simp only [List.any_cons, List.any_nil, Bool.or_false, Bool.or_eq_true, not_or]
    exact ⟨by cases ea <;> first | exact Bool.false_ne_true | exact (Bool.false_ne_true s1).elim, by cases eb <;> first | exact Bool.false_ne_true | exact (Bool.false_ne_true s2).elim⟩)]
  simp only [List.filterMap_cons, List.filterMap_nil, Option.map_some, List.head?_cons, Option.getD_some, Expr.pos, kx, ky, hl', beq_self_eq_true, Bool.and_self, if_true, ed, hf, hc]
  rfl
theorem stores_three {x y z : Str} {px py pz pt pt2 : Pos} {kt k2 : Nat} {ea eb ec : Expr} {env : PySem.Env} (hb : env.scope.kind = .function) (hx : env.scope.names.lookup x = some .local) (hy : env.scope.names.lookup y = some .local) (hz : env.scope.names.lookup z = some .local) (hl : (px.line == py.line) = true) (hl2 : (px.line == pz.line) = true) (xy : x ≠ y) (xz : x ≠ z) (yz : y ≠ z)
    (s1 : notStar ea = true) (s2 : notStar eb = true) (s3 : notStar ec = true) (hf : [ea, eb, ec].all (foldedForSure 8) = false) (hc : [ea, eb, ec].all (constantsAlone 8) = false) : swappedStores [.Tuple [.Name x px, .Name y py, .Name z pz] kt pt] (.Tuple [ea, eb, ec] k2 pt2) env = pure (some [x, y, z]) := by
  have kx : env.kindOf x = some .local := hx
  have ky : env.kindOf y = some .local := hy
  have kz : env.kindOf z = some .local := hz
  have hbk : env.blockKind = .function := by unfold Env.blockKind; rw [hb]; rfl
  have hl' : py.line = px.line := (beq_iff_eq.mp hl).symm
  have hl2' : pz.line = px.line := (beq_iff_eq.mp hl2).symm
  have ed : [x, y, z].eraseDups = [x, y, z] := by
    simp [List.eraseDups_cons, xy.symm, xz.symm, yz.symm]
  have ns : ∀ {e : Expr}, notStar e = true → ¬ ((match e with | .Starred .. => true | _ => false) = true) := fun {e} h => by
    cases e <;> first | exact Bool.false_ne_true | exact (Bool.false_ne_true h).elim
  unfold swappedStores
  simp only [hbk]
  rw [if_neg (show ¬ ((!([Expr.Name x px, Expr.Name y py, Expr.Name z pz].length == 2 || [Expr.Name x px, Expr.Name y py, Expr.Name z pz].length == 3) || [ea, eb, ec].length != [Expr.Name x px, Expr.Name y py, Expr.Name z pz].length || ScopeKind.function != ScopeKind.function) = true) from Bool.false_ne_true), if_neg (by
    simp only [List.any_cons, List.any_nil, Bool.or_false, Bool.or_eq_true, not_or]
    exact ⟨ns s1, ns s2, ns s3⟩)]
  simp only [List.filterMap_cons, List.filterMap_nil, Option.map_some, List.head?_cons, Option.getD_some, Expr.pos, kx, ky, kz, hl', hl2', beq_self_eq_true, Bool.and_self, if_true, ed, hf, hc]
  rfl
mutual
theorem chkS_ok : ∀ (s : Mi.St) {o : Ko} {st : Stmt}, chkS P o s st = true → ∀ {cl : Cl} {X : Cx} {k : Nat} {W : WX}, XSt P cl X k o W → PS X st (tSt P cl k X W s)
  | .set i e, o, st, h, cl, X, k, W, xs => by
    simp only [chkS] at h
    split at h
    · rename_i x p' ex pos
      simp only [Bool.and_eq_true, Bool.or_eq_true, decide_eq_true_eq, Bool.not_eq_true'] at h
      obtain ⟨⟨h1, h2⟩, h3⟩ := h
      have nm := nmB_of xs.xo h1
      rcases h3 with h3 | ⟨hnl, h3⟩
      · exact s_set xs.xo nm (noswap h3) (chkE_ok e h2 xs.xo).1
      · unfold lcSet at h3
        split at h3
        · rename_i eelt gens scope cpos
          split at h3
          · rename_i hc
            simp only [Bool.and_eq_true, decide_eq_true_eq, Bool.not_eq_true'] at hc
            obtain ⟨⟨c1, c2⟩, c3⟩ := hc
            obtain ⟨elt, tgt, src, cond, own, tg, iter, ifs, rfl, rfl, hsrc, hf, L, h00⟩ := lc_parts h2 hnl xs.xo
            obtain ⟨x', pos', e0, n1, n2, n3⟩ := nm.ok
            cases e0
            have hl : X.env.scope.names.lookup x = some .local := by rw [xs.xo.sc]; exact c1
            exact s_setLc xs.xo h00 n1 hl (sw_true (by rw [xs.xo.sc]; exact xs.fk) hl c2 c3) hsrc hf L
          · split at h3
            · rename_i hc
              have hc := of_decide_eq_true hc
              exact s_set xs.xo nm (sw_cell (by rw [xs.xo.sc]; exact hc)) (chkE_ok e h2 xs.xo).1
            · exact absurd rfl h3
        · exact absurd rfl h3
    · cases h
  | .setT is e, o, st, h, cl, X, k, W, xs => by
    simp only [chkS] at h
    split at h
    · simp only [Bool.and_eq_true] at h
      obtain ⟨h00, ⟨⟨⟨h1, h2⟩, h3⟩, h4⟩⟩ := h
      exact s_setT xs.xo h00 (.tp (nmsB_of xs.xo h1)) (noswap h3) (stores_none h4) rfl (chkE_ok e h2 xs.xo).1
    · cases h
  | .setL is e, o, st, h, cl, X, k, W, xs => by
    simp only [chkS] at h
    split at h
    · simp only [Bool.and_eq_true] at h
      obtain ⟨h00, ⟨⟨⟨h1, h2⟩, h3⟩, h4⟩⟩ := h
      exact s_setL xs.xo h00 (nmsB_of xs.xo h1) (noswap h3) (stores_none h4) rfl (chkE_ok e h2 xs.xo).1
    · cases h
  | .par is es, o, st, h, cl, X, k, W, xs => by
    simp only [chkS] at h
    split at h
    · split at h
      · simp only [Bool.and_eq_true, decide_eq_true_eq, Bool.not_eq_true'] at h
        obtain ⟨h00, h⟩ := h
        obtain ⟨⟨⟨⟨⟨⟨⟨⟨⟨⟨⟨h1, h2⟩, h3⟩, h4⟩, h5⟩, h6⟩, h7⟩, h8⟩, h9⟩, h10⟩, h11⟩, h12⟩ := h
        exact s_par xs.xo (by rw [h00]; rfl) (by rw [xs.xo.nn]; exact h1) (by rw [xs.xo.nn]; exact h2) h3 (by rw [xs.xo.sc]; exact h5) (by rw [xs.xo.sc]; exact h6) (chkEs_ok es h12 xs.xo) (stores_two (by rw [xs.xo.sc]; exact xs.fk) (by rw [xs.xo.sc]; exact h5) (by rw [xs.xo.sc]; exact h6) h7 h4 h8 h9 h10 h11)
      · cases h
    · split at h
      · simp only [Bool.and_eq_true, decide_eq_true_eq, Bool.not_eq_true'] at h
        obtain ⟨h00, h⟩ := h
        obtain ⟨⟨⟨⟨⟨⟨⟨⟨⟨⟨⟨⟨⟨⟨⟨⟨⟨⟨⟨a1, a2⟩, a3⟩, a4⟩, a5⟩, a6⟩, a7⟩, a8⟩, a9⟩, a10⟩, a11⟩, a12⟩, a13⟩, a14⟩, a15⟩, a16⟩, a17⟩, a18⟩, a19⟩, a20⟩ := h
        exact s_par3 xs.xo (by rw [h00]; rfl) (by rw [xs.xo.nn]; exact a1) (by rw [xs.xo.nn]; exact a2) (by rw [xs.xo.nn]; exact a3) a4 a5 a6 (by rw [xs.xo.sc]; exact a10) (by rw [xs.xo.sc]; exact a11) (by rw [xs.xo.sc]; exact a12) (chkEs_ok es a20 xs.xo)
          (stores_three (by rw [xs.xo.sc]; exact xs.fk) (by rw [xs.xo.sc]; exact a10) (by rw [xs.xo.sc]; exact a11) (by rw [xs.xo.sc]; exact a12) a13 a14 a7 a8 a9 a15 a16 a17 a18 a19)
      · cases h
    · cases h
  | .setI a i e, o, st, h, cl, X, k, W, xs => by
    simp only [chkS] at h
    split at h
    · simp only [Bool.and_eq_true] at h
      obtain ⟨⟨⟨h1, h3⟩, h4⟩, h5⟩ := h
      exact s_setI xs.xo h1 (chkE_ok a h3 xs.xo).1 (chkE_ok i h4 xs.xo).1 (chkE_ok e h5 xs.xo).1
    · cases h
  | .setF a f e, o, st, h, cl, X, k, W, xs => by
    simp only [chkS] at h
    split at h
    · simp only [Bool.and_eq_true] at h
      obtain ⟨⟨⟨h1, h2⟩, h3⟩, h4⟩ := h
      have := nm_of h1
      subst this
      exact s_setF xs.xo (by simpa using h2) sw_fld (chkE_ok a h3 xs.xo).1 (chkE_ok e h4 xs.xo).1
    · cases h
  | .aug i op e, o, st, h, cl, X, k, W, xs => by
    simp only [chkS] at h
    split at h
    · simp only [Bool.and_eq_true, decide_eq_true_eq] at h
      obtain ⟨⟨rfl, h2⟩, h3⟩ := h
      exact s_aug xs.xo (nmB_of xs.xo h2) (chkE_ok e h3 xs.xo).1
    · cases h
  | .augI a i op e, o, st, h, cl, X, k, W, xs => by
    simp only [chkS] at h
    split at h
    · simp only [Bool.and_eq_true, decide_eq_true_eq] at h
      obtain ⟨⟨⟨⟨rfl, h1⟩, h2⟩, h3⟩, h4⟩ := h
      exact s_augI xs.xo h1 (chkE_ok a h2 xs.xo).1 (chkE_ok i h3 xs.xo).1 (chkE_ok e h4 xs.xo).1
    · cases h
  | .augF a f op e, o, st, h, cl, X, k, W, xs => by
    simp only [chkS] at h
    split at h
    · simp only [Bool.and_eq_true, decide_eq_true_eq] at h
      obtain ⟨⟨⟨⟨rfl, h1⟩, h2⟩, h3⟩, h4⟩ := h
      have := nm_of h1
      subst this
      exact s_augF xs.xo (by simpa using h2) (chkE_ok a h3 xs.xo).1 (chkE_ok e h4 xs.xo).1
    · cases h
  | .expr e, o, st, h, cl, X, k, W, xs => by
    simp only [chkS] at h
    split at h
    · simp only [Bool.and_eq_true] at h
      exact s_expr h.1 (chkE_ok e h.2 xs.xo).1
    · cases h
  | .ret e, o, st, h, cl, X, k, W, xs => by
    simp only [chkS] at h
    split at h
    · exact s_ret (chkE_ok e h xs.xo).1
    · cases h
  | .retN, o, st, h, cl, X, k, W, xs => by
    simp only [chkS] at h
    split at h
    · exact s_retN
    · cases h
  | .ife c a b, o, st, h, cl, X, k, W, xs => by
    simp only [chkS] at h
    split at h
    · simp only [Bool.and_eq_true] at h
      exact s_if (chkT_ok c h.1.1 xs.xo).1 (chkSs_ok a h.1.2 xs) (chkSs_ok b h.2 xs)
    · cases h
  | .for tg src body, o, st, h, cl, X, k, W, xs => by
    simp only [chkS] at h
    split at h
    · simp only [Bool.and_eq_true] at h
      obtain ⟨h00, ⟨⟨⟨h1, h2⟩, h3⟩, h4⟩⟩ := h
      exact s_for xs h00 (chkSrc_ok src h3 xs.xo) (folded_of (by revert h2; unfold notSet; split <;> simp)) (tgB_of xs.xo h1) (chkSs_ok body h4 xs)
    · cases h
  | .while c body, o, st, h, cl, X, k, W, xs => by
    simp only [chkS] at h
    split at h
    · simp only [Bool.and_eq_true] at h
      exact s_while xs h.1 (chkT_ok c h.2.1 xs.xo).1 (chkSs_ok body h.2.2 xs)
    · cases h
  | .raise c, o, st, h, cl, X, k, W, xs => by
    simp only [chkS] at h
    split at h
    · simp only [Bool.and_eq_true] at h
      obtain ⟨h00, ⟨⟨⟨h1, h2⟩, h3⟩, h4⟩⟩ := h
      have := nm_of h1
      subst this
      exact s_raise xs.xo xs.tks h00 (gl_of xs.xo h2) (ndb_of h3) (by simpa using h4)
    · cases h
  | .try body hs orelse, o, st, h, cl, X, k, W, xs => by
    unfold chkS at h
    split at h
    · rename_i c i suite
      split at h
      · simp only [Bool.and_eq_true, decide_eq_true_eq] at h
        obtain ⟨h00, ⟨⟨⟨⟨⟨⟨⟨h1, h2⟩, h3⟩, h4⟩, h5⟩, h6⟩, h7⟩, h8⟩⟩ := h
        have := nm_of h1
        subst this
        exact s_try (x := c) xs h00 (by rw [xs.xo.nn]; exact h5) (by show X.env.scope.names.lookup _ = _; rw [xs.xo.sc]; exact h6) (gl_of xs.xo h2) (ndb_of h3) (by simpa using h4) (fun xs' => chkSs_ok body h7 xs') (fun xs' => chkSs_ok suite h8 xs')
      · cases h
    · cases h
  | .cont, o, st, h, cl, X, k, W, xs => by
    simp only [chkS] at h
    split at h
    · exact s_cont
    · cases h
  | .pass, o, st, h, cl, X, k, W, xs => by
    simp only [chkS] at h
    split at h
    · exact s_next ps_pass
    · unfold isDoc at h
      split at h
      · exact s_next ps_doc
      · cases h
    · cases h
  | .lck i s, o, st, h, cl, X, k, W, xs => by
    simp only [chkS] at h
    exact s_lck (chkS_ok s h xs)
theorem chkSs_ok : ∀ (ss : Sts) {o : Ko} {sts : List Stmt}, chkSs P o ss sts = true → ∀ {cl : Cl} {X : Cx} {k : Nat} {W : WX}, XSt P cl X k o W → PSs X sts (tSts P cl k X W ss)
  | .nil, o, sts, h, cl, X, k, W, xs => by
    simp only [chkSs] at h
    split at h
    · exact ss_nil
    · cases h
  | .cons s ss, o, sts, h, cl, X, k, W, xs => by
    simp only [chkSs] at h
    split at h
    · simp only [Bool.and_eq_true] at h
      exact ss_cons (chkS_ok s h.1 xs) (chkSs_ok ss h.2 xs)
    · cases h
end
end
end Mi

set_option maxHeartbeats 4000000
namespace Mi
open PySem PySem.Spec L2 PyProof.Rows
/-! ### defs -/
structure Rw where
  fk : FK
  d : FDef
  dd : He.DefD
def atOf : FK → Str × Option Str
  | .f x => (Str.ofString x, none)
  | .m c x => (Str.ofString c, some (Str.ofString x))
def Rw.N (r : Rw) : List Str := r.d.names.map Str.ofString
def Rw.ps (r : Rw) : List Str := r.N.take r.d.params
def scB (N ps : List Str) (sc : Scope) : Bool := decide (sc.kind = .function) && !sc.isCoroutine && !sc.isGenerator && decide N.Nodup && (ps.all fun x => locB sc x) && (sc.names.all fun y => decide (y.2 ≠ .free))
def dflB : List Lit → List He.Dv → Bool
  | [], [] => true
  | .non :: r, .non :: q => dflB r q
  | .bl b :: r, .bl c :: q => (b == c) && dflB r q
  | .int b :: r, .int c :: q => (b == c) && dflB r q
  | .str b :: r, .str c :: q => nmEq b c && dflB r q
  | _, _ => false
theorem dflB_of {K : PySem.W.Frag} : ∀ {ls : List Lit} {ds : List He.Dv}, dflB ls ds = true → ds.map (He.Dv.v K) = ls.map litV
  | [], [], _ => rfl
  | .non :: r, .non :: q, h => by simp only [dflB] at h; rw [List.map_cons, List.map_cons, dflB_of h]; rfl
  | .bl b :: r, .bl c :: q, h => by
    simp only [dflB, Bool.and_eq_true, beq_iff_eq] at h
    rw [List.map_cons, List.map_cons, dflB_of h.2, h.1]; rfl
  | .int b :: r, .int c :: q, h => by
    simp only [dflB, Bool.and_eq_true, beq_iff_eq] at h
    rw [List.map_cons, List.map_cons, dflB_of h.2, h.1]; rfl
  | .str b :: r, .str c :: q, h => by
    simp only [dflB, Bool.and_eq_true] at h
    rw [List.map_cons, List.map_cons, dflB_of h.2, nm_of h.1]; rfl
  | [], _ :: _, h => by cases h
  | l :: _, [], h => by cases l <;> cases h
  | .non :: _, .bl _ :: _, h | .non :: _, .int _ :: _, h | .non :: _, .str _ :: _, h | .non :: _, .byt _ :: _, h | .non :: _, .flt _ :: _, h | .non :: _, .ty _ :: _, h | .non :: _, .glo _ :: _, h | .non :: _, .adr _ :: _, h => by cases h
  | .bl _ :: _, .non :: _, h | .bl _ :: _, .int _ :: _, h | .bl _ :: _, .str _ :: _, h | .bl _ :: _, .byt _ :: _, h | .bl _ :: _, .flt _ :: _, h | .bl _ :: _, .ty _ :: _, h | .bl _ :: _, .glo _ :: _, h | .bl _ :: _, .adr _ :: _, h => by cases h
  | .int _ :: _, .non :: _, h | .int _ :: _, .bl _ :: _, h | .int _ :: _, .str _ :: _, h | .int _ :: _, .byt _ :: _, h | .int _ :: _, .flt _ :: _, h | .int _ :: _, .ty _ :: _, h | .int _ :: _, .glo _ :: _, h | .int _ :: _, .adr _ :: _, h => by cases h
  | .str _ :: _, .non :: _, h | .str _ :: _, .bl _ :: _, h | .str _ :: _, .int _ :: _, h | .str _ :: _, .byt _ :: _, h | .str _ :: _, .flt _ :: _, h | .str _ :: _, .ty _ :: _, h | .str _ :: _, .glo _ :: _, h | .str _ :: _, .adr _ :: _, h => by cases h
def Rw.ko (P : Pg) (r : Rw) : Ko := ⟨r.N, r.dd.scope, fun _ => true, P.isHot r.fk, if P.isHot r.fk = true then [] else P.hotf⟩
def Rw.ok (P : Pg) (r : Rw) : Bool := decide (r.dd.at_ = atOf r.fk) && scB r.N r.ps r.dd.scope && dflB r.d.dflt r.dd.dfl && r.dd.kwd.isEmpty && decide (r.d.dflt.length ≤ r.d.params) && decide (r.d.params ≤ r.d.names.length) && chkSs P (r.ko P) r.d.body r.dd.body
theorem len1 {α : Type} {l : List α} (h : l.length = 1) : ∃ a, l = [a] := by
  match l, h with
  | [a], _ => exact ⟨a, rfl⟩
theorem len2 {α : Type} {l : List α} (h : l.length = 2) : ∃ a b, l = [a, b] := by
  match l, h with
  | [a, b], _ => exact ⟨a, b, rfl⟩
theorem len3 {α : Type} {l : List α} (h : l.length = 3) : ∃ a b c, l = [a, b, c] := by
  match l, h with
  | [a, b, c], _ => exact ⟨a, b, c, rfl⟩
theorem len4 {α : Type} {l : List α} (h : l.length = 4) : ∃ a b c d, l = [a, b, c, d] := by
  match l, h with
  | [a, b, c, d], _ => exact ⟨a, b, c, d, rfl⟩
theorem len5 {α : Type} {l : List α} (h : l.length = 5) : ∃ a b c d e, l = [a, b, c, d, e] := by
  match l, h with
  | [a, b, c, d, e], _ => exact ⟨a, b, c, d, e, rfl⟩
/-- how its arguments bind -/
structure BindP (r : Rw) : Prop where
  none : r.dd.dfl = [] → ∀ (kV doc pm : Value) (an : Option Addr) (cdv ct : Value) (us : List Value), us.length = r.ps.length → bindArgs (PySem.W.fnOf r.dd.name r.dd.qual r.dd.params r.dd.body r.dd.scope .none kV doc pm an cdv ct) ⟨us, []⟩ = pure (r.ps.zip us)
  some : r.dd.dfl ≠ [] → ∀ j, j ≤ r.dd.dfl.length → ∀ (T : Addr) (kV doc pm : Value) (an : Option Addr) (cdv ct : Value) (us its : List Value), us.length + (r.dd.dfl.length - j) = r.ps.length → its.length = r.dd.dfl.length →
    ∃ k, bindArgs (PySem.W.fnOf r.dd.name r.dd.qual r.dd.params r.dd.body r.dd.scope (.ref T) kV doc pm an cdv ct) ⟨us, []⟩ = seqItems? (.ref T) >>= k ∧ k (some its.toArray) = pure (r.ps.zip (us ++ its.drop j))
theorem BindP.of0 {r : Rw} (h0 : r.dd.dfl = []) (h : ∀ (kV doc pm : Value) (an : Option Addr) (cdv ct : Value) (us : List Value), us.length = r.ps.length → bindArgs (PySem.W.fnOf r.dd.name r.dd.qual r.dd.params r.dd.body r.dd.scope .none kV doc pm an cdv ct) ⟨us, []⟩ = pure (r.ps.zip us)) : BindP r := ⟨fun _ => h, fun z => absurd h0 z⟩
section
variable {P : Pg} {cl : Cl} {prog : Program} {w : World} {K : PySem.W.Frag} {mg : Str → Option Value} {base : Heap} {k : Nat}
theorem start_sv {m : Sm} {d : FDef} {args : List Val} {vs : List V} {N : List Str} (r : RDs m args vs) (hN : N.length = d.names.length) (hl : args.length ≤ d.names.length) : SV m (startE d args) (L2.start N vs) := by
  have e := r.length
  refine ⟨by unfold startE L2.start; simp [hN, e], fun i v h => ?_⟩
  unfold startE at h
  unfold L2.start
  by_cases hi : i < args.length
  · rw [List.getElem?_append_left (by simpa using hi)] at h
    rw [List.getElem?_append_left (by simpa [← e] using hi)]
    rw [List.getElem?_map] at h ⊢
    cases q : args[i]? with
    | none => rw [q] at h; cases h
    | some u =>
      rw [q] at h
      cases h
      obtain ⟨x, h1, h2⟩ := r.get q
      exact ⟨x, by rw [h1]; rfl, h2⟩
  · rw [List.getElem?_append_right (by simpa using hi)] at h
    rw [List.getElem?_replicate] at h
    split at h <;> cases h
theorem Rw.parts {r : Rw} (h : r.ok P = true) : r.dd.at_ = atOf r.fk ∧ scB r.N r.ps r.dd.scope = true ∧ dflB r.d.dflt r.dd.dfl = true ∧ r.dd.kwd = [] ∧ r.d.dflt.length ≤ r.d.params ∧ r.d.params ≤ r.d.names.length ∧ chkSs P (r.ko P) r.d.body r.dd.body = true := by
  unfold Rw.ok at h
  simp only [Bool.and_eq_true, decide_eq_true_eq, List.isEmpty_iff] at h
  obtain ⟨⟨⟨⟨⟨⟨h1, h2⟩, h3⟩, h4⟩, h5⟩, h6⟩, h7⟩ := h
  exact ⟨h1, h2, h3, h4, h5, h6, h7⟩
theorem Rw.psl {r : Rw} (h : r.ok P = true) : r.ps.length = r.d.params := by
  obtain ⟨_, _, _, _, _, h6, _⟩ := Rw.parts h
  unfold Rw.ps Rw.N
  rw [List.length_take, List.length_map]
  omega
theorem Rw.scope {r : Rw} (h : r.ok P = true) : FnScope r.N r.ps r.dd.scope := by
  obtain ⟨_, h2, _⟩ := Rw.parts h
  unfold scB at h2
  simp only [Bool.and_eq_true, decide_eq_true_eq, Bool.not_eq_true', List.all_eq_true] at h2
  obtain ⟨⟨⟨⟨⟨k1, k2⟩, k3⟩, k4⟩, k5⟩, k6⟩ := h2
  exact ⟨k1, k2, k3, k4, by rw [Rw.psl h]; rfl, fun x hx => loc_of (k5 x hx), fun y hy => k6 y hy⟩
theorem PSs.pre {X : Cx} {st : List Stmt} {t : TS} (h : PSs X st t) : PSs X st (fun D σ H => KF X.K H → t D σ H) := ⟨fun pins s σ H D I hw => h.run pins s σ H D I (hw (kfree I))⟩
/-- a def keeps its promise, if those below do -/
theorem row_ok {r : Rw} {fd : FuncData} {a : Addr} (hr : r.ok P = true) (F : FunD K r.dd.name r.dd.qual r.dd.params r.dd.body r.dd.scope (r.dd.dvs K) (r.dd.kws K) a fd) (ln : Ln P K mg cl) (li : LnI K cl) (lx : LnX P K mg) (hcl : ∀ a c, ¬ cl.z a c) (hh : P.isHot r.fk = false) (ho : HotAll P cl prog w K mg base P.hotf) (fa : FnAll P cl prog w K mg base k) :
    FnOk prog w K mg base (L2N.CX prog w) (k + 1) a fd r.ps (fun vs H Q E => vs.length = r.ps.length ∧ (KF K H → spF P cl K mg k r.d vs H Q E)) := by
  have S := Rw.scope hr
  obtain ⟨_, _, _, _, _, h6, h7⟩ := Rw.parts hr
  refine F.ok S (fun vs H Q E h => h.1) fun cdv A outer s H vs Q E hroom h => ?_
  generalize hX : cxOf (L2N.CX prog w) prog w K mg base r.N r.dd.qual r.dd.scope a cdv A outer s H E = X
  have hhot : (r.ko P).hot = false := hh
  have xs : XSt P cl X k (r.ko P) (fun cls d _ H => E cls d H) := by
    subst hX
    exact { xo := { ln := ln, nd := S.nd, nn := rfl, sc := rfl, fnc := fun _ _ => rfl, isi := li, lx := lx, calm := fun _ => rfl, room := fun _ => hroom, un := Nat.lt_of_le_of_lt (Nat.add_le_add_right (Nat.le_add_right _ _) 200) hroom.un, zc := fun _ => hcl, rmh := fun h => (by rw [hhot] at h; cases h), zx := fun h => (by rw [hhot] at h; cases h), hots := (by unfold Rw.ko; rw [hh]; exact ho), tk := tkF_of rfl (L2N.takes_of rfl rfl rfl rfl), fr := inFr_of rfl rfl, fns := fun _ => fa }, tks := L2N.takes_of rfl rfl rfl rfl, po := fun _ => passes_of rfl, stk := rfl, frm := rfl, fk := S.kind }
  refine ⟨_, PSs.pre (chkSs_ok r.d.body h7 xs), fun kf => ?_⟩
  have hXK : X.K = K := by subst hX; rfl
  have hXm : X.mg = mg := by subst hX; rfl
  rw [hXK] at kf
  obtain ⟨m, args, S', hK, hH, hS, rr, hl, hw⟩ := h.2 kf
  refine ⟨m, startE r.d args, S', by rw [hXK]; exact hK, hH, hS, start_sv rr (by unfold Rw.N; simp) (by omega), ?_⟩
  rw [hXm]
  exact wSs_mono (callW_mono P k) r.d.body (X := fun c _ S' => liftX cl mg m E c S') (D := { nx := fun _ S' => liftQ cl m Q .non S', rt := liftQ cl m Q })
    (fun c e S1 h1 m' σ' C e1 hS1 hV1 hC => h1 m' C e1 hS1 hC) ⟨fun e S1 h1 m' σ' e1 hS1 hV1 => h1 m' .non e1 hS1 .non, fun v S1 h1 => h1, fun _ _ h1 => h1.elim⟩ hw
/-- where the table's defs stand -/
theorem at_of {r : Rw} {fd : FuncData} (hr : r.ok P = true) (hb : BindP r) (F : FunD K r.dd.name r.dd.qual r.dd.params r.dd.body r.dd.scope (r.dd.dvs K) (r.dd.kws K) (He.fAd K r.dd.at_) fd)
    (hnm : match r.fk with
      | .f x => mg (Str.ofString x) = some (.ref (He.fAd K r.dd.at_))
      | .m c x => ∀ C, cl c C → Meth K C (Str.ofString x) (He.fAd K r.dd.at_) ∧ (x = "__init__" → Mk K C (He.fAd K r.dd.at_))) : At P cl K mg r.fk r.d (He.fAd K r.dd.at_) fd r.ps := by
  obtain ⟨h1, h2, h3, h4, h5, h6, h7⟩ := Rw.parts hr
  have hps := Rw.psl hr
  have hdv : r.dd.dvs K = r.d.dflt.map litV := dflB_of h3
  refine ⟨hnm, F.kp, hps, fun n hn => ?_⟩
  have hl : r.dd.dfl.length = r.d.dflt.length := by
    have := congrArg List.length hdv
    unfold He.DefD.dvs at this
    simpa using this
  have hkw : r.dd.kws K = [] := by unfold He.DefD.kws; rw [h4]; rfl
  by_cases hd : r.dd.dfl = []
  · have hd2 : r.d.dflt = [] := by
      rw [hd] at hl
      exact List.length_eq_zero_iff.mp hl.symm
    have hd3 : r.dd.dvs K = [] := by rw [hdv, hd2]; rfl
    rw [hkw, hd3] at F
    rw [hd2]
    simp only [List.drop_nil, List.map_nil]
    exact ⟨[], .nil, F.bindsN (hb.none hd)⟩
  · have hdl : (r.dd.dvs K).length = r.dd.dfl.length := by unfold He.DefD.dvs; simp
    have hd4 : r.dd.dvs K ≠ [] := fun e => by
      rw [e] at hdl
      exact hd (List.length_eq_zero_iff.mp hdl.symm)
    rw [hkw] at F
    have := F.binds1 (ps := r.ps) (r.ps.length - (r.dd.dfl.length - n)) n hd4 (by rw [hdl, hps]; omega) fun T kV doc pm an cdv ct us its hu hi => hb.some hd n (by omega) T kV doc pm an cdv ct us its (by rw [hu, hps]; omega) (by rw [hi, hdl])
    rw [hdv] at this
    rw [← List.map_drop] at this
    exact this
end
/-! ### facts -/
abbrev biNames : List String := ["len", "abs", "min", "max", "int", "str", "list", "tuple", "dict", "sum", "sorted", "all", "any", "range", "enumerate", "zip", "reversed", "isinstance", "bool"]
def faRow (r : Rw) : List He.Fa := match r.fk with
  | .f x => [.glo (Str.ofString x)]
  | .m c x => .meth (Str.ofString c) (Str.ofString x) :: (if x = "__init__" then [.mkr (Str.ofString c)] else [])
def faCls (flds : List String) (c : String) : List He.Fa := .glo (Str.ofString c) :: .cls (Str.ofString c) :: flds.map fun f => .noat (Str.ofString c) (Str.ofString f)
def faCon (p : String × Lit) : List He.Fa := match p.2 with
  | .int i => [.int (Str.ofString p.1) i]
  | .str z => [.str (Str.ofString p.1) (Str.ofString z)]
  | _ => []
def conOk (p : String × Lit) : Bool := match p.2 with
  | .int _ => true
  | .str _ => true
  | _ => false
def faOf (P : Pg) (tab : List Rw) (con : List (String × Lit)) : List He.Fa := tab.flatMap faRow ++ (P.cls.flatMap (faCls P.flds) ++ (con.flatMap faCon ++ (("ValueError" :: biNames).map (fun x => He.Fa.free (Str.ofString x)) ++ (P.excs.flatMap (fun c => [.glo (Str.ofString c), .exc (Str.ofString c)]) ++ P.tups.map fun p => .glo (Str.ofString p.1)))))
/-- literals beside values -/
def litVB : Value → Lit → Bool
  | .none, .non => true
  | .bool a, .bl b => a == b
  | .int i _, .int j => decide (i = j)
  | .str x _, .str y => decide (x = Str.ofString y)
  | _, _ => false
def litsVB : List Value → List Lit → Bool
  | [], [] => true
  | u :: us, l :: ls => litVB u l && litsVB us ls
  | _, _ => false
theorem litsVB_of : ∀ {us : List Value} {ls : List Lit}, litsVB us ls = true → Vals (ls.map litV) us
  | [], [], _ => .nil
  | u :: us, l :: ls, h => by
    simp only [litsVB, Bool.and_eq_true] at h
    refine .cons ?_ (litsVB_of h.2)
    have h1 := h.1
    unfold litVB at h1
    split at h1
    · rfl
    · rw [beq_iff_eq.mp h1]; rfl
    · rw [of_decide_eq_true h1]; exact ⟨_, rfl⟩
    · rw [of_decide_eq_true h1]; exact ⟨_, rfl⟩
    · cases h1
  | [], _ :: _, h => by cases h
  | _ :: _, [], h => by cases h
/-- a tuple of literals at the top -/
def tupB (K : PySem.W.Frag) (p : String × List Lit) : Bool := match K.lookup (He.ga K (Str.ofString p.1)) with
  | some o => decide (o.cls = .type "tuple") && (match o.data with
    | .seq its _ => decide (its.size ≤ sizeLine) && litsVB its.toList p.2
    | _ => false)
  | none => false
theorem tupB_of {K : PySem.W.Frag} {p : String × List Lit} (h : tupB K p = true) (H : Hp) : SqT K H (He.ga K (Str.ofString p.1)) (p.2.map litV) := by
  unfold tupB at h
  split at h
  · rename_i o ho
    simp only [Bool.and_eq_true, decide_eq_true_eq] at h
    obtain ⟨h1, h2⟩ := h
    split at h2
    · rename_i its n hd
      simp only [Bool.and_eq_true, decide_eq_true_eq] at h2
      exact .inr ⟨o, its, n, ho, h1, hd, h2.1, litsVB_of h2.2⟩
    · cases h2
  · cases h
def clOf (P : Pg) (K : PySem.W.Frag) : Cl := ⟨fun c C => c ∈ P.cls ∧ C = He.ga K (Str.ofString c), fun _ _ => False⟩
def lniB (cls : List String) (K : PySem.W.Frag) : Bool :=
  cls.all fun c => decide (PySem.W.findIn K (.ref (He.ga K (Str.ofString c))) "__class__" = some (some (.builtin "object.__class__"))) && decide (PySem.W.specialIn K (.builtin "object.__class__") "__get__" = some (some (.builtin "getset_descriptor.__get__"))) && decide (PySem.W.takesIn K (.builtin "object.__class__") = some true) && decide (PySem.W.mroIn K (He.ga K (Str.ofString c)) (.type "object") = some true) &&
    (["int", "bool", "str", "tuple", "list", "dict"].all fun n => decide (PySem.W.kitOne K (.ref (He.ga K (Str.ofString c))) (.type n) = some false)) &&
    (["NoneType", "int", "bool", "str", "tuple", "list", "dict"].all fun n => decide (PySem.W.kitOne K (.type n) (.ref (He.ga K (Str.ofString c))) = some false)) &&
    (cls.all fun c' => decide (PySem.W.kitOne K (.ref (He.ga K (Str.ofString c))) (.ref (He.ga K (Str.ofString c'))) = some (c == c')))
theorem lni_of {P : Pg} {K : PySem.W.Frag} (h : lniB P.cls K = true) : LnI K (clOf P K) := by
  unfold lniB at h
  simp only [List.all_eq_true, Bool.and_eq_true, decide_eq_true_eq] at h
  refine ⟨?_, ?_, ?_, ?_⟩
  · rintro c C ⟨hc, rfl⟩
    obtain ⟨⟨⟨⟨⟨⟨h1, h2⟩, h3⟩, h4⟩, h5⟩, h6⟩, h7⟩ := h c hc
    exact ⟨h1, h2, h3, h4⟩
  · rintro c C ⟨hc, rfl⟩ n hn
    obtain ⟨⟨⟨⟨⟨⟨h1, h2⟩, h3⟩, h4⟩, h5⟩, h6⟩, h7⟩ := h c hc
    exact h5 n hn
  · rintro c C ⟨hc, rfl⟩ n hn
    obtain ⟨⟨⟨⟨⟨⟨h1, h2⟩, h3⟩, h4⟩, h5⟩, h6⟩, h7⟩ := h c hc
    exact h6 n hn
  · rintro c C c' C' ⟨hc, rfl⟩ ⟨hc', rfl⟩
    obtain ⟨⟨⟨⟨⟨⟨h1, h2⟩, h3⟩, h4⟩, h5⟩, h6⟩, h7⟩ := h c hc
    exact h7 c' hc'
/-- .. about exceptions -/
def lnxB (P : Pg) (K : PySem.W.Frag) : Bool := P.excs.all fun c =>
  decide (PySem.W.findIn K (.ref (He.ga K (Str.ofString c))) "__getattribute__" = some (some (.builtin "BaseException.__getattribute__"))) && decide (PySem.W.findIn K (.ref (He.ga K (Str.ofString c))) "__getattr__" = some none) && decide (PySem.W.subIn K (.ref (He.ga K (Str.ofString c))) (.type "BaseException") = some true) && PySem.W.hasDictIn K (He.ga K (Str.ofString c)) &&
    decide (PySem.W.findIn K (.ref (He.ga K (Str.ofString c))) "__class__" = some (some (.builtin "object.__class__"))) && decide (PySem.W.specialIn K (.builtin "object.__class__") "__get__" = some (some (.builtin "getset_descriptor.__get__"))) && decide (PySem.W.takesIn K (.builtin "object.__class__") = some true) && decide (PySem.W.mroIn K (He.ga K (Str.ofString c)) (.type "object") = some true) &&
    decide (PySem.W.kitOne K (.ref (He.ga K (Str.ofString c))) (.type "ValueError") = some (P.sub c "ValueError")) && (P.excs.all fun d => decide (PySem.W.kitOne K (.ref (He.ga K (Str.ofString c))) (.ref (He.ga K (Str.ofString d))) = some (P.sub c d)) && decide (PySem.W.subIn K (.ref (He.ga K (Str.ofString c))) (.ref (He.ga K (Str.ofString d))) = some (P.sub c d)))
def exB (P : Pg) (K : PySem.W.Frag) : Bool := lniB P.cls K && (lnxB P K && P.tups.all (tupB K))
section
variable {P : Pg} {tab : List Rw} {con : List (String × Lit)} {K : PySem.W.Frag} {mg : Str → Option Value} {h : Heap}
theorem fact_of (c : He.SaysD (faOf P tab con) (tab.map (·.dd)) K) {f : He.Fa} (hf : f ∈ faOf P tab con) : f.ok K = true := c.facts hf
theorem ln_of (KX : K.In h) (G : h.Ns mainGlobals mg) (c : He.SaysD (faOf P tab con) (tab.map (·.dd)) K) (hcon : ∀ x v, P.con x = some v → (∃ l, (x, l) ∈ con ∧ v = Lit.val l) ∨ ∃ ls, (x, ls) ∈ P.tups ∧ v = .tup (ls.map Lit.val)) (hc : con.all conOk = true) (ht : P.tups.all (tupB K) = true) : Ln P K mg (clOf P K) := by
  refine ⟨?_, ?_, ?_, ?_, ?_, ?_⟩
  · intro x v hx
    rcases hcon x v hx with ⟨l, hl, rfl⟩ | ⟨ls, hl, rfl⟩
    rotate_left
    · have sq := tupB_of (List.all_eq_true.mp ht _ hl)
      refine ⟨.ref (He.ga K (Str.ofString x)), _, He.glo_ok KX G (fact_of c (f := .glo (Str.ofString x)) (List.mem_append_right _ (List.mem_append_right _ (List.mem_append_right _ (List.mem_append_right _ (List.mem_append_right _ (List.mem_map.mpr ⟨_, hl, rfl⟩))))))), rfl, fun m hm => .tup (by rw [hm]; exact sq m.H) (lits_rd ls)⟩
    have ok := List.all_eq_true.mp hc _ hl
    have mem : ∀ f ∈ faCon (x, l), f ∈ faOf P tab con := fun f hf => List.mem_append_right _ (List.mem_append_right _ (List.mem_append_left _ (List.mem_flatMap.mpr ⟨_, hl, hf⟩)))
    cases l with
    | int i =>
      obtain ⟨t, e⟩ := He.int_ok KX G (fact_of c (mem (.int (Str.ofString x) i) (by simp [faCon])))
      exact ⟨.int i, _, e, ⟨t, rfl⟩, fun m _ => .int i⟩
    | str z =>
      obtain ⟨t, e⟩ := He.str_ok KX G (fact_of c (mem (.str (Str.ofString x) (Str.ofString z)) (by simp [faCon])))
      exact ⟨.str _, _, e, ⟨t, rfl⟩, fun m _ => .str z⟩
    | non => cases ok
    | bl b => cases ok
  · rintro c' C ⟨hc', rfl⟩
    have mem : ∀ f ∈ faCls P.flds c', f ∈ faOf P tab con := fun f hf => List.mem_append_right _ (List.mem_append_left _ (List.mem_flatMap.mpr ⟨_, hc', hf⟩))
    exact ⟨He.glo_ok KX G (fact_of c (mem (.glo _) (by simp [faCls]))), He.cls_ok (fact_of c (mem (.cls _) (by simp [faCls])))⟩
  · rintro c' C ⟨hc', rfl⟩ f hf
    have mem : ∀ f ∈ faCls P.flds c', f ∈ faOf P tab con := fun f hf => List.mem_append_right _ (List.mem_append_left _ (List.mem_flatMap.mpr ⟨_, hc', hf⟩))
    exact He.noat_ok (fact_of c (mem (.noat _ (Str.ofString f)) (by simp [faCls]; exact ⟨f, hf, rfl⟩)))
  · intro c' hc'
    exact ⟨_, hc', rfl⟩
  · intro c' hc'
    have mem : ∀ f ∈ [He.Fa.glo (Str.ofString c'), .exc (Str.ofString c')], f ∈ faOf P tab con := fun f hf => List.mem_append_right _ (List.mem_append_right _ (List.mem_append_right _ (List.mem_append_right _ (List.mem_append_left _ (List.mem_flatMap.mpr ⟨c', hc', hf⟩)))))
    obtain ⟨e1, e2, e3, e4⟩ := He.exc_ok (fact_of c (mem (.exc (Str.ofString c')) (by simp)))
    exact ⟨_, He.glo_ok KX G (fact_of c (mem (.glo (Str.ofString c')) (by simp))), e1, e2, e3, e4⟩
  · intro x hx
    exact He.free_ok KX G (fact_of c (List.mem_append_right _ (List.mem_append_right _ (List.mem_append_right _ (List.mem_append_left _ (List.mem_map.mpr ⟨x, List.mem_cons_of_mem _ hx, rfl⟩))))))
theorem lnx_of (KX : K.In h) (G : h.Ns mainGlobals mg) (c : He.SaysD (faOf P tab con) (tab.map (·.dd)) K) (hx : lnxB P K = true) : LnX P K mg := by
  have at_ : ∀ d ∈ P.excs, ∀ D, mg (Str.ofString d) = some (.ref D) → D = He.ga K (Str.ofString d) := fun d hd D hD => by
    have mem : ∀ f ∈ [He.Fa.glo (Str.ofString d), .exc (Str.ofString d)], f ∈ faOf P tab con := fun f hf => List.mem_append_right _ (List.mem_append_right _ (List.mem_append_right _ (List.mem_append_right _ (List.mem_append_left _ (List.mem_flatMap.mpr ⟨d, hd, hf⟩)))))
    have := He.glo_ok KX G (fact_of c (mem (.glo (Str.ofString d)) (by simp)))
    rw [this] at hD
    cases hD
    rfl
  unfold lnxB at hx
  simp only [List.all_eq_true, Bool.and_eq_true, decide_eq_true_eq] at hx
  refine ⟨fun d hd D hD => ?_, fun d hd d2 hd2 D D2 hD hD2 => ?_, ?_⟩
  · rw [at_ d hd D hD]
    obtain ⟨⟨⟨⟨⟨⟨⟨⟨⟨h1, h2⟩, h3⟩, h4⟩, h5⟩, h6⟩, h7⟩, h8⟩, h9⟩, _⟩ := hx d hd
    exact ⟨⟨h1, h2, h3, h4, h5, h6, h7, h8⟩, h9⟩
  · rw [at_ d hd D hD, at_ d2 hd2 D2 hD2]
    exact (hx d hd).2 d2 hd2
  · exact He.free_ok KX G (fact_of c (List.mem_append_right _ (List.mem_append_right _ (List.mem_append_right _ (List.mem_append_left _ (List.mem_map.mpr ⟨"ValueError", List.mem_cons_self, rfl⟩))))))
/-- a def keeps its promise where an exception is handled -/
theorem fn_ofE {prog : Program} {w : World} {base : Heap} {x qual : Str} {params : Arguments} {body : List Stmt} {scope : Scope} {dvs : List V} {kws : List (Str × V)} {f : Addr} {fd : FuncData} {N ps : List Str} {sp : Addr × Obj → L2.Sp} (F : FunD K x qual params body scope dvs kws f fd) (S : FnScope N ps scope) (len : ∀ q vs H Q E, sp q vs H Q E → vs.length = ps.length)
    (hbody : ∀ (cdv : Value) (q : Addr × Obj) (A : Around) (outer : List PySem.Env) (s : Shared) (H : Hp) (vs : List V) (Q : VK) (E : XK), L2H.Hot1 A q → L2H.RoomH 1 A → sp q vs H Q E →
      ∃ t, PSs (L2H.cxH (L2N.CX prog w) prog w K mg base N qual scope f cdv A outer s H E q) body t ∧ t { nx := fun _ H' => Q .non H', rt := Q } (L2.start N vs) H) : FnE prog w K mg base f fd ps sp := by
  obtain ⟨oc, od, dV, kV, doc, pm, an, cdv, ct, osl, rfl, lk, hcd, _, _⟩ := F.ex
  refine ⟨len, fun q A outer s H args us vs Q E rm hot1 pin e0 hb r hsp => ?_⟩
  have kin := e0.mod.kin.keeps fun b o e => (e0.bs b o e).1
  have nolim := e0.mod.nolimit.keeps fun b o e => (e0.bs b o e).1
  have kinds : ∀ y ∈ ps.zip us, scope.names.lookup y.1 = some .local ∨ (scope.names.lookup y.1 = some .cell ∧ ((cellsFrom (s.heap.objs.size + 1) scope.names []).lookup y.1).isSome = true) := by
    rintro ⟨n, v⟩ hy
    exact (S.par n (List.of_mem_zip hy).1).imp id fun z => ⟨z, PySem.W.cellsFrom_some _ _ _ (.inl z)⟩
  refine codeAny_call_function (by have := rm.dp; omega) (kin _ _ lk) rfl S.co S.gen rfl (PySem.W.codeRec_of kin hcd) (hb _ _ _ _ ?_)
  refine wpAny_newFunctionEnv_cells S.kind kinds fun env he s1 hx => ?_
  subst he
  refine ⟨nolim.keeps hx.toInCall.keep, codeAny_func ?_⟩
  obtain ⟨t, ht, hq⟩ := hbody cdv q A outer s H vs Q E hot1 rm hsp
  have J := L2H.inv_startH (CX := L2N.CX prog w) (cd := cdv) (E := E) S pin e0 (len _ _ _ _ _ hsp) r hx
  refine wpAny_mono (ht.run [] s1 (L2.start N vs) H _ J hq) (fun fl s' hs => ?_) fun _ _ h => h
  have done : ∀ {σ' : L2.St} {H' : Hp} {v : V} {u : Value}, Inv (L2H.cxH (L2N.CX prog w) prog w K mg base N qual scope f cdv A outer s H E q) [] σ' H' s' → RelV v u → Q v H' → CE outer prog w H s Q u s' :=
    fun {_ H' v _} J2 rv q2 => ⟨v, H', J2.os, J2.bare, J2.base, J2.hok, rv, q2⟩
  cases fl with
  | ret u => obtain ⟨v, σ', H', J2, rv, q2⟩ := hs; exact done J2 rv q2
  | next => obtain ⟨σ', H', J2, q2⟩ := hs; exact done (v := V.non) (u := Value.none) J2 rfl q2
  | brk => obtain ⟨_, _, _, z⟩ := hs; exact z.elim
  | cont => obtain ⟨_, _, _, z⟩ := hs; exact z.elim
theorem row_okE {prog : Program} {w : World} {base : Heap} {cl : Cl} {r : Rw} {fd : FuncData} {a : Addr} (hr : r.ok P = true) (F : FunD K r.dd.name r.dd.qual r.dd.params r.dd.body r.dd.scope (r.dd.dvs K) (r.dd.kws K) a fd) (ln : Ln P K mg cl) (li : LnI K cl) (lx : LnX P K mg) (hh : P.isHot r.fk = true) (j : Nat) :
    FnE prog w K mg base a fd r.ps fun q vs H Q E => vs.length = r.ps.length ∧ (KF K H → spH P cl K mg j r.d q vs H Q E) := by
  have S := Rw.scope hr
  obtain ⟨_, _, _, _, _, h6, h7⟩ := Rw.parts hr
  refine fn_ofE F S (fun q vs H Q E h => h.1) fun cdv q A outer s H vs Q E hot1 rm h => ?_
  generalize hX : L2H.cxH (L2N.CX prog w) prog w K mg base r.N r.dd.qual r.dd.scope a cdv A outer s H E q = X
  have hhot : (r.ko P).hot = true := hh
  have hhf : (r.ko P).hf = [] := by unfold Rw.ko; rw [hh]; rfl
  have hXK : X.K = K := by subst hX; rfl
  have hXm : X.mg = mg := by subst hX; rfl
  have xs : ∀ c, ExO P K mg c q.2 → XSt P (cl.at q.1 c) X j (r.ko P) (fun cls d _ H => E cls d H) := fun c ho => by
    subst hX
    exact {
      xo := {
        ln := ⟨ln.con, ln.clc, ln.fld, ln.has, ln.exc, ln.bi⟩
        nd := S.nd
        nn := rfl
        sc := rfl
        fnc := fun _ _ => rfl
        isi := ⟨li.isT, li.isB, li.isC, li.isCC⟩
        lx := lx
        calm := fun h => by rw [hhot] at h; cases h
        room := fun h => by rw [hhot] at h; cases h
        un := by
          have := rm.un
          show A.units + 3 + 200 < cLine
          omega
        zc := fun h => by rw [hhot] at h; cases h
        rmh := fun _ h => absurd hhf h
        zx := fun _ => ⟨q, c, hot1, List.mem_singleton.mpr rfl, fun _ _ h => h, ho⟩
        hots := by
          rw [hhf]
          intro f hf
          cases hf
        tk := tkF_of rfl (L2N.takes_of rfl rfl rfl rfl)
        fr := inFr_of rfl rfl
        fns := fun h => by rw [hhot] at h; cases h }
      po := fun h => by rw [hhot] at h; cases h
      tks := L2N.takes_of rfl rfl rfl rfl
      stk := rfl
      frm := rfl
      fk := S.kind }
  refine ⟨_, PSs.pre (t := fun D σ H => ∃ c, ExO P K mg c q.2 ∧ tSts P (cl.at q.1 c) j X (fun cls d _ H => E cls d H) r.d.body D σ H) ⟨fun pins s σ H D I ⟨c, ho, ht⟩ => (chkSs_ok r.d.body h7 (xs c ho)).run pins s σ H D I ht⟩, fun kf => ?_⟩
  rw [hXK] at kf
  obtain ⟨c, m, args, S', hK, hH, ho, hS, rr, hl, hw⟩ := h.2 kf
  refine ⟨c, ho, m, startE r.d args, S', by rw [hXK]; exact hK, hH, hS, start_sv rr (by unfold Rw.N; simp) (by omega), ?_⟩
  rw [hXm]
  exact wSs_mono (callW_mono P j) r.d.body (X := fun c' _ S' => liftX (cl.at q.1 c) mg m E c' S') (D := { nx := fun _ S' => liftQ (cl.at q.1 c) m Q .non S', rt := liftQ (cl.at q.1 c) m Q })
    (fun c' e S1 h1 m' σ' C e1 hS1 hV1 hC => h1 m' C e1 hS1 hC) ⟨fun e S1 h1 m' σ' e1 hS1 hV1 => h1 m' .non e1 hS1 .non, fun v S1 h1 => h1, fun _ _ h1 => h1.elim⟩ hw
theorem hotAll_of {prog : Program} {w : World} {base : Heap} (KX : K.In h) (G : h.Ns mainGlobals mg) (c : He.SaysD (faOf P tab con) (tab.map (·.dd)) K) (ln : Ln P K mg (clOf P K)) (li : LnI K (clOf P K)) (lx : LnX P K mg) (hrow : ∀ r ∈ tab, r.ok P = true) (hbind : ∀ r ∈ tab, BindP r) (hfn : ∀ f d, P.fn f = some d → ∃ r ∈ tab, r.fk = f ∧ r.d = d) : HotAll P (clOf P K) prog w K mg base P.hotf := by
  intro f hf d hd hd0
  obtain ⟨r, hr, hfk, rfl⟩ := hfn (.f f) d hd
  obtain ⟨fd, F⟩ := c.defs (d := r.dd) (List.mem_map.mpr ⟨r, hr, rfl⟩)
  have hglo : mg (Str.ofString f) = some (.ref (He.fAd K r.dd.at_)) := by
    have := He.glo_ok KX G (fact_of c (f := .glo (Str.ofString f)) (List.mem_append_left _ (List.mem_flatMap.mpr ⟨r, hr, by unfold faRow; rw [hfk]; simp⟩)))
    rw [(Rw.parts (hrow r hr)).1, hfk]
    exact this
  have hat : At P (clOf P K) K mg r.fk r.d (He.fAd K r.dd.at_) fd r.ps := at_of (hrow r hr) (hbind r hr) F (by rw [hfk]; exact hglo)
  obtain ⟨ds, hv, hb⟩ := hat.bd 0 (Nat.zero_le _)
  rw [hd0] at hv
  cases hv
  refine ⟨_, fd, r.ps, hglo, F.kp, Rw.psl (hrow r hr), hb, fun j => row_okE (hrow r hr) F ln li lx (by rw [hfk]; simpa [Pg.isHot] using hf) j⟩
theorem fnAll_of {prog : Program} {w : World} {base : Heap} (KX : K.In h) (G : h.Ns mainGlobals mg) (c : He.SaysD (faOf P tab con) (tab.map (·.dd)) K) (ln : Ln P K mg (clOf P K)) (li : LnI K (clOf P K)) (lx : LnX P K mg) (hrow : ∀ r ∈ tab, r.ok P = true) (hbind : ∀ r ∈ tab, BindP r) (hfn : ∀ f d, P.fn f = some d → ∃ r ∈ tab, r.fk = f ∧ r.d = d) : ∀ k, FnAll P (clOf P K) prog w K mg base k
  | 0 => fun f d hd _ => by
    obtain ⟨r, hr, rfl, rfl⟩ := hfn f d hd
    obtain ⟨fd, F⟩ := c.defs (d := r.dd) (List.mem_map.mpr ⟨r, hr, rfl⟩)
    refine ⟨_, fd, r.ps, at_of (hrow r hr) (hbind r hr) F ?_, fun j hj => absurd hj (Nat.not_lt_zero _)⟩
    have mem : ∀ f ∈ faRow r, f ∈ faOf P tab con := fun f hf => List.mem_append_left _ (List.mem_flatMap.mpr ⟨_, hr, hf⟩)
    rw [(Rw.parts (hrow r hr)).1]
    revert mem
    unfold faRow
    cases r.fk with
    | f x =>
      intro mem
      exact He.glo_ok KX G (fact_of c (mem (.glo _) (by simp)))
    | m c' x =>
      rintro mem C ⟨hc', rfl⟩
      refine ⟨He.meth_ok (fact_of c (mem (.meth _ _) (by simp))), fun e => ?_⟩
      subst e
      exact He.mkr_ok (fact_of c (mem (.mkr _) (by simp)))
  | k + 1 => fun f d hd hh => by
    have ih := fnAll_of (prog := prog) (w := w) (base := base) KX G c ln li lx hrow hbind hfn k
    obtain ⟨r, hr, rfl, rfl⟩ := hfn f d hd
    obtain ⟨fd, F⟩ := c.defs (d := r.dd) (List.mem_map.mpr ⟨r, hr, rfl⟩)
    refine ⟨_, fd, r.ps, at_of (hrow r hr) (hbind r hr) F ?_, fun j hj => ?_⟩
    · have mem : ∀ f ∈ faRow r, f ∈ faOf P tab con := fun f hf => List.mem_append_left _ (List.mem_flatMap.mpr ⟨_, hr, hf⟩)
      rw [(Rw.parts (hrow r hr)).1]
      revert mem
      unfold faRow
      cases r.fk with
      | f x =>
        intro mem
        exact He.glo_ok KX G (fact_of c (mem (.glo _) (by simp)))
      | m c' x =>
        rintro mem C ⟨hc', rfl⟩
        refine ⟨He.meth_ok (fact_of c (mem (.meth _ _) (by simp))), fun e => ?_⟩
        subst e
        exact He.mkr_ok (fact_of c (mem (.mkr _) (by simp)))
    · have fj : FnAll P (clOf P K) prog w K mg base j := fun f d hd hh => by
        obtain ⟨a, fd, ps, h1, h2⟩ := ih f d hd hh
        exact ⟨a, fd, ps, h1, fun i hi => h2 i (by omega)⟩
      refine (row_ok (hrow r hr) F ln li lx (fun _ _ h => h) hh (hotAll_of KX G c ln li lx hrow hbind hfn) fj).imp fun vs H Q E hsp => ⟨?_, fun _ => hsp⟩
      obtain ⟨m, args, S, hK, hH, hS, rr, hb⟩ := hsp
      rw [Rw.psl (hrow r hr), ← rr.length]
      exact hb.1
end
def fnOfT (tab : List Rw) : FK → Option FDef := fun f => (tab.find? fun r => decide (r.fk = f)).map (·.d)
theorem fnOfT_of {tab : List Rw} {f : FK} {d : FDef} (h : fnOfT tab f = some d) : ∃ r ∈ tab, r.fk = f ∧ r.d = d := by
  unfold fnOfT at h
  cases e : tab.find? fun r => decide (r.fk = f) with
  | none => rw [e] at h; cases h
  | some r =>
    rw [e] at h
    cases h
    exact ⟨r, List.mem_of_find?_eq_some e, of_decide_eq_true (List.find?_some (p := fun r : Rw => decide (r.fk = f)) e), rfl⟩
theorem look_mem {x : String} {l : Lit} : ∀ {con : List (String × Lit)}, con.lookup x = some l → (x, l) ∈ con
  | [], e => by cases e
  | (y, m) :: r, e => by
    rw [List.lookup_cons] at e
    split at e
    · rename_i hb
      have := beq_iff_eq.mp hb
      subst this
      cases e
      exact List.mem_cons_self
    · exact List.mem_cons_of_mem _ (look_mem e)
theorem lookT_mem {x : String} {l : List Lit} : ∀ {con : List (String × List Lit)}, con.lookup x = some l → (x, l) ∈ con
  | [], e => by cases e
  | (y, m) :: r, e => by
    rw [List.lookup_cons] at e
    split at e
    · rename_i hb
      have := beq_iff_eq.mp hb
      subst this
      cases e
      exact List.mem_cons_self
    · exact List.mem_cons_of_mem _ (lookT_mem e)
def conV (con : List (String × Lit)) (tups : List (String × List Lit)) (x : String) : Option Val := match con.lookup x with
  | some l => some l.val
  | none => (tups.lookup x).map fun ls => .tup (ls.map Lit.val)
theorem conV_of {con : List (String × Lit)} {tups : List (String × List Lit)} {x : String} {v : Val} (h : conV con tups x = some v) : (∃ l, (x, l) ∈ con ∧ v = Lit.val l) ∨ ∃ ls, (x, ls) ∈ tups ∧ v = .tup (ls.map Lit.val) := by
  unfold conV at h
  split at h
  · rename_i l e
    cases h
    exact .inl ⟨l, look_mem e, rfl⟩
  · cases e : tups.lookup x with
    | none => rw [e] at h; cases h
    | some ls =>
      rw [e] at h
      cases h
      exact .inr ⟨ls, lookT_mem e, rfl⟩
theorem con_of {con : List (String × Lit)} {x : String} {v : Val} (h : (con.lookup x).map Lit.val = some v) : ∃ l, (x, l) ∈ con ∧ v = Lit.val l := by
  cases e : con.lookup x with
  | none => rw [e] at h; cases h
  | some l =>
    rw [e] at h
    cases h
    exact ⟨l, look_mem e, rfl⟩
/-- THE END: a law's text holds, if its small text does -/
theorem mi_hc {l : PySem.W.OpenLaw} {q : Program} {loose : List Str} {XP : (Str → Option Value) → Heap → Prop} {d : DefRec} {P : Pg} {tab : List Rw} {con : List (String × Lit)} {n j : Nat} {r : Rw} {x : Str}
    (hn : l.most = some 63) (hdf : d.params.defaults = []) (hname : d.name = Str.ofString "law") (hroom : Room (j + 1) callerA)
    (hrow : ∀ r ∈ tab, r.ok P = true) (hbind : ∀ r ∈ tab, BindP r) (hfn : ∀ f d, P.fn f = some d → ∃ r ∈ tab, r.fk = f ∧ r.d = d) (hcon : ∀ x v, P.con x = some v → (∃ l, (x, l) ∈ con ∧ v = Lit.val l) ∨ ∃ ls, (x, ls) ∈ P.tups ∧ v = .tup (ls.map Lit.val)) (hc : con.all conOk = true)
    (hr : r ∈ tab) (hfk : r.fk = .f "law") (hlaw : P.isHot r.fk = false) (hdl : r.dd.dfl = []) (hps : r.ps = [x])
    (law : ∀ ns : List Int, ns.length ≤ 63 → bodyW P (callW P j) r.d [.ref 0] [.lck (.lst (ns.map Val.int))] (fun v _ => v = .bl true) (fun _ _ => False)) :
    PySem.W.WalkO q loose XP (He.hookX n (faOf P tab con) (tab.map (·.dd)) [] [] (exB P)).says l.row.toRowW d [] (fun f vs => PySem.call f vs) := by
  refine Att.attach_call hn hdf fun w t₀ t₁ mg mb f0 ob pm cd doc a us ns G Y ho hd hcd hmg hobj hints hlen hgen => ?_
  obtain ⟨K, KX, sx⟩ := Y
  have c : He.SaysD (faOf P tab con) (tab.map (·.dd)) K := sx.t.d
  have sm : exB P K = true := sx.more
  rw [exB, Bool.and_eq_true, Bool.and_eq_true] at sm
  have ln := ln_of KX G.T.g c hcon hc sm.2.2
  have lx := lnx_of KX G.T.g c sm.2.1
  have li := lni_of (P := P) sm.1
  obtain ⟨fd, F⟩ := c.defs (d := r.dd) (List.mem_map.mpr ⟨r, hr, rfl⟩)
  have hok := hrow r hr
  obtain ⟨h1, h2, h3, h4, h5, h6, h7⟩ := Rw.parts hok
  have hfa : mg (Str.ofString "law") = some (.ref (He.fAd K r.dd.at_)) := by
    have := He.glo_ok KX G.T.g (fact_of c (f := .glo (Str.ofString "law")) (List.mem_append_left _ (List.mem_flatMap.mpr ⟨r, hr, by unfold faRow; rw [hfk]; simp⟩)))
    rw [h1, hfk]
    exact this
  rw [hname, hfa] at hmg
  cases hmg
  have hdv : r.dd.dvs K = [] := by unfold He.DefD.dvs; rw [hdl]; rfl
  have hkw : r.dd.kws K = [] := by unfold He.DefD.kws; rw [h4]; rfl
  have F' := F
  rw [hdv, hkw] at F'
  have bA := FunD.bindsA (ps := r.ps) F' ((hbind r hr).none hdl)
  rw [hps] at bA
  refine law_call (CX := L2N.CX l.prog w) (x := x) (fd := fd) (k := j + 1) (sp := fun vs H Q E => vs.length = r.ps.length ∧ (KF K H → spF P (clOf P K) K mg j r.d vs H Q E)) KX G.T.g G.T.b G.T.builtins G.T.nolimit hgen hobj hints (Nat.le_trans hlen (by rw [sizeLine_eq]; omega)) hroom (fun base hKb hNs => ?_) (fun s u => bA s [u] rfl) (fun H hO hS => ⟨by rw [hps]; rfl, fun kf => ?_⟩) ?_
  · rw [← hps]
    exact row_ok hok F ln li lx (fun _ _ h => h) hlaw (hotAll_of KX G.T.g c ln li lx hrow hbind hfn) (fnAll_of KX G.T.g c ln li lx hrow hbind hfn j)
  · have SH0 : SH (clOf P K) ⟨K, H, [a], none⟩ [.lck (.lst (ns.map Val.int))] := by
      refine ⟨rfl, by simp, kf, fun i o b e1 e2 => ?_, fun _ _ h => nomatch h⟩
      cases i with
      | succ i => simp at e1
      | zero =>
        simp at e1 e2
        subst e1 e2
        rcases hS with (hS | ⟨o, hS⟩) | ⟨o, its, n', hk, hc, hdct, hdat, hsz, hv⟩
        · rcases hO a with h | ⟨o, xs, h⟩
          · rw [h] at hS; cases hS
          · rw [h] at hS; cases hS
        · exact .inl ⟨o, _, hS, RDs.of_ints ns⟩
        · exact .inr ⟨o, its, n', _, hk, hc, hdct, hdat, hsz, hv, RDs.of_ints ns⟩
    refine ⟨⟨K, H, [a], none⟩, [.ref 0], [.lck (.lst (ns.map Val.int))], rfl, rfl, SH0, .cons (.ref rfl) .nil, bodyW_mono (callW_mono P j) (fun v S' hv m' y e hS' rv => ?_) (fun _ _ h => h.elim) (law ns hlen)⟩
    subst hv
    cases rv
    rfl
  · intro H e s' hx
    obtain ⟨b, B, H', cls, dd, e1, e2, e3, e4, e5, e6, e7, e8⟩ := hx
    exact e8
end Mi

set_option maxHeartbeats 1000000
namespace Mi
open PySem
/-! ### how one reasons about the small text -/
abbrev noX : XPost := fun _ _ => False
section
variable {P : Pg} {k : Nat} {f : FK} {d : FDef} {args : List Val} {S : Hm} {Q Q0 : Post} {X : XPost}
theorem call_open {x : String} (hd : P.fn (.f x) = some d) (h : bodyW P (callW P k) d (padded d args) S Q X) : callW P (k + 1) (.f x) args S Q X := by
  cases k with
  | zero => exact ⟨d, hd, by simpa [FK.init] using h⟩
  | succ k =>
    rw [callW_two]
    exact ⟨d, hd, by simpa [FK.init] using h⟩
/-- a function that is known not to raise -/
theorem call_use (h : callW P k f args S Q0 noX) (hq : ∀ v S', Q0 v S' → Q v S') : callW P k f args S Q X := callW_mono P k f args S _ _ _ _ hq (fun _ _ h => h.elim) h
end
section
variable {S : Hm} {Q : Bool → Prop}
theorem eqW_int {a b : Int} : eqW (.int a) (.int b) S Q = Q (decide (a = b)) := by
  simp only [eqW, eqD, or_false, dat, Option.some.injEq, exists_eq_left', exists_and_left]
  have : PyData.eqv (.int a) (.int b) = decide (a = b) := by
    simp only [PyData.eqv]
    first | rfl | (by_cases h : a = b <;> simp [h])
  rw [this]
theorem eqW_str {a b : String} : eqW (.str a) (.str b) S Q = Q (decide (a = b)) := by
  simp only [eqW, eqD, or_false, dat, Option.some.injEq, exists_eq_left', exists_and_left]
  have : PyData.eqv (.str (Str.ofString a)) (.str (Str.ofString b)) = decide (a = b) := by
    simp only [PyData.eqv]
    by_cases h : a = b
    · subst h; simp
    · have : ¬ Str.ofString a = Str.ofString b := fun z => h (ofString_inj z)
      simp [h, this]
  rw [this]
end
section
variable {S : Hm} {Q : Post} {n : Nat} {kvs : List (Key × Val)} {xs : List Val}
theorem lst_at (h : S[n]? = some (.lst xs)) : Hm.lst S n = some xs := by simp only [Hm.lst, h]
theorem lst_lck (h : S[n]? = some (.lck (.lst xs))) : Hm.lst S n = some xs := by simp only [Hm.lst, h]
theorem dic_at (h : S[n]? = some (.dic kvs)) : Hm.dic S n = some kvs := by simp only [Hm.dic, h]
theorem nodic_of (h : S[n]? = some (.lst xs)) : Hm.dic S n = none := by simp only [Hm.dic, h]
theorem nolst_of (h : S[n]? = some (.dic kvs)) : Hm.lst S n = none := by simp only [Hm.lst, h]
theorem subW_dic {k : Val} {q : Key} {v : Val} (h : S[n]? = some (.dic kvs)) (hk : k.key = some q) (hv : lookK kvs q = some v) (hq : Q v S) : subW (.ref n) k S Q := .inr ⟨kvs, q, v, dic_at h, hk, hv, hq⟩
theorem subW_lst {i : Int} {v : Val} (h : Hm.lst S n = some xs) (hv : atI xs i = some v) (hq : Q v S) : subW (.ref n) (.int i) S Q := .inl ⟨xs, i, v, rfl, h, hv, hq⟩
theorem setW_dic {k v : Val} {q : Key} {Q : Hm → Prop} (h : S[n]? = some (.dic kvs)) (hk : k.key = some q) (hl : kvs.length < sizeLine) (hq : Q (S.set n (.dic (putK kvs q v)))) : setW (.ref n) k v S Q := .inr ⟨kvs, q, h, hk, hl, hq⟩
theorem setW_lst {i : Int} {j : Nat} {v : Val} {Q : Hm → Prop} (h : S[n]? = some (.lst xs)) (hj : ixN xs.length i = some j) (hq : Q (S.set n (.lst (xs.set j v)))) : setW (.ref n) (.int i) v S Q := .inl ⟨xs, i, j, h, rfl, hj, hq⟩
theorem lenW_lst (h : Hm.lst S n = some xs) (hq : Q (.int xs.length) S) : biW .len [.ref n] S Q := .inl ⟨xs, h, hq⟩
theorem lenW_dic (h : S[n]? = some (.dic kvs)) (hq : Q (.int kvs.length) S) : biW .len [.ref n] S Q := .inr ⟨kvs, h, hq⟩
end
/-! ### loops -/
/-- behind a loop's turn -/
abbrev lp (I : Env → Hm → Prop) (D : Mi.Sp) : Mi.Sp := { nx := I, rt := D.rt, ct := I }
section
variable {G : String → Option Val} {sub : String → String → Bool} {C : CallW} (hC : CMono C)
include hC
theorem for_inv {tg : Tg} {guard : Hm → Prop} {body : Sts} {X : XS} {D : Mi.Sp} {items : List Val} (I : Nat → Env → Hm → Prop)
    (step : ∀ i v env S, items[i]? = some v → I i env S → guard S ∧ tgW tg v env fun env2 => wSs G sub C body X (lp (I (i + 1)) D) env2 S)
    (fin : ∀ env S, I items.length env S → guard S ∧ D.nx env S) {env : Env} {S : Hm} (h : I 0 env S) : forL tg guard (wSs G sub C body X) D items env S := by
  have key : ∀ (n i : Nat) (env : Env) (S : Hm), items.length - i = n → i ≤ items.length → I i env S → forL tg guard (wSs G sub C body X) D (items.drop i) env S := by
    intro n
    induction n with
    | zero =>
      intro i env S hn hi h
      have e : i = items.length := by omega
      subst e
      rw [List.drop_length]
      exact fin env S h
    | succ n ih =>
      intro i env S hn hi h
      have hlt : i < items.length := by omega
      rw [List.drop_eq_getElem_cons hlt]
      obtain ⟨h1, h2⟩ := step i items[i] env S (List.getElem?_eq_getElem hlt) h
      refine ⟨h1, tgW_mono (fun env2 h3 => ?_) h2⟩
      exact wSs_mono hC body (D := lp (I (i + 1)) D) (fun _ _ _ h => h) ⟨fun e S1 h4 => ih (i + 1) e S1 (by omega) (by omega) h4, fun _ _ h => h, fun e S1 h4 => ih (i + 1) e S1 (by omega) (by omega) h4⟩ h3
  have := key items.length 0 env S (by omega) (by omega) h
  simpa using this
theorem while_inv {c : T} {body : Sts} {X : XS} {D : Mi.Sp} (I : Nat → Env → Hm → Prop)
    (step : ∀ n env S, I n env S → wT G C (fun c S' => X c env S') c env S fun b S1 => if b = true then wSs G sub C body X (lp (fun e S => ∃ m, m < n ∧ I m e S) D) env S1 else D.nx env S1)
    {n : Nat} {env : Env} {S : Hm} (h : I n env S) : ∃ N, whileN (fun env S K => wT G C (fun c S' => X c env S') c env S K) (wSs G sub C body X) D N env S := by
  have le : ∀ (a : Nat) {env : Env} {S : Hm}, whileN (fun env S K => wT G C (fun c S' => X c env S') c env S K) (wSs G sub C body X) D a env S → whileN (fun env S K => wT G C (fun c S' => X c env S') c env S K) (wSs G sub C body X) D (a + 1) env S := by
    intro a
    induction a with
    | zero => intro env S h; exact h.elim
    | succ a ih =>
      intro env S h
      refine wT_mono hC (fun _ _ h => h) c (fun b S1 h1 => ?_) h
      cases b with
      | false => simpa using h1
      | true =>
        simp only [if_true] at h1 ⊢
        exact wSs_mono hC body (D := lp (whileN (fun env S K => wT G C (fun c S' => X c env S') c env S K) (wSs G sub C body X) D a) D) (fun _ _ _ h => h) ⟨fun e S2 h2 => ih h2, fun _ _ h => h, fun e S2 h2 => ih h2⟩ h1
  have les : ∀ (a b : Nat), a ≤ b → ∀ {env : Env} {S : Hm}, whileN (fun env S K => wT G C (fun c S' => X c env S') c env S K) (wSs G sub C body X) D a env S → whileN (fun env S K => wT G C (fun c S' => X c env S') c env S K) (wSs G sub C body X) D b env S := by
    intro a b hab
    induction hab with
    | refl => intro env S h; exact h
    | step _ ih => intro env S h; exact le _ (ih h)
  have key : ∀ n env S, I n env S → whileN (fun env S K => wT G C (fun c S' => X c env S') c env S K) (wSs G sub C body X) D (n + 1) env S := by
    intro n
    induction n using Nat.strongRecOn with
    | _ n ih =>
      intro env S h
      refine wT_mono hC (fun _ _ h => h) c (fun b S1 h1 => ?_) (step n env S h)
      cases b with
      | false => simpa using h1
      | true =>
        simp only [if_true] at h1 ⊢
        exact wSs_mono hC body (D := lp (fun e S => ∃ m, m < n ∧ I m e S) D) (fun _ _ _ h => h) ⟨fun e S2 ⟨m, hm, h2⟩ => les (m + 1) n hm (ih m hm e S2 h2), fun _ _ h => h, fun e S2 ⟨m, hm, h2⟩ => les (m + 1) n hm (ih m hm e S2 h2)⟩ h1
  exact ⟨n + 1, key n env S h⟩
/-- a comprehension's turn, as the reading has it -/
theorem lc_inv {X : XPost} {elt : E} {tg : Tg} {cond : Ot} {env : Env} {vs : List Nat} {guard : Hm → Prop} {items : List Val} {Q : List Val → Hm → Prop} (I : Nat → List Val → Hm → Prop)
    (step : ∀ i v acc S, items[i]? = some v → I i acc S → guard S ∧ tgW tg v (ewipe env vs) fun env2 => wC G C X cond env2 S fun b S2 => if b = true then wE G C X elt env2 S2 fun x S3 => acc.length < sizeLine ∧ I (i + 1) (acc ++ [x]) S3 else I (i + 1) acc S2)
    (fin : ∀ acc S, I items.length acc S → guard S ∧ Q acc S) {S : Hm} (h : I 0 [] S) :
    lcLoop (fun v S K => tgW tg v (ewipe env vs) fun env2 => wC G C X cond env2 S fun b S2 => if b = true then wE G C X elt env2 S2 fun x S3 => K (some x) S3 else K none S2) guard items [] S Q := by
  have key : ∀ (n i : Nat) (acc : List Val) (S : Hm), items.length - i = n → i ≤ items.length → I i acc S → lcLoop (fun v S K => tgW tg v (ewipe env vs) fun env2 => wC G C X cond env2 S fun b S2 => if b = true then wE G C X elt env2 S2 fun x S3 => K (some x) S3 else K none S2) guard (items.drop i) acc S Q := by
    intro n
    induction n with
    | zero =>
      intro i acc S hn hi h
      have e : i = items.length := by omega
      subst e
      rw [List.drop_length]
      exact fin acc S h
    | succ n ih =>
      intro i acc S hn hi h
      have hlt : i < items.length := by omega
      rw [List.drop_eq_getElem_cons hlt]
      obtain ⟨h1, h2⟩ := step i items[i] acc S (List.getElem?_eq_getElem hlt) h
      refine ⟨h1, tgW_mono (fun env2 h3 => wC_mono hC (fun _ _ h => h) cond (fun b S2 h4 => ?_) h3) h2⟩
      cases b with
      | false =>
        simp only [Bool.false_eq_true, if_false] at h4 ⊢
        exact ih (i + 1) acc S2 (by omega) (by omega) h4
      | true =>
        simp only [if_true] at h4 ⊢
        exact wE_mono hC (fun _ _ h => h) elt (fun x S3 h5 => ⟨h5.1, ih (i + 1) _ S3 (by omega) (by omega) h5.2⟩) h4
  have := key items.length 0 [] S (by omega) (by omega) h
  simpa using this
end

/-! ### rewriting -/
def lstO : Option Ob → Option (List Val)
  | some (.lst xs) => some xs
  | some (.lck (.lst xs)) => some xs
  | _ => none
def dicO : Option Ob → Option (List (Key × Val))
  | some (.dic xs) => some xs
  | some (.lck (.dic xs)) => some xs
  | _ => none
theorem Hm.lst_eq {S : Hm} {n : Nat} : Hm.lst S n = lstO S[n]? := by
  unfold Hm.lst lstO
  rfl
theorem Hm.dic_eq {S : Hm} {n : Nat} : Hm.dic S n = dicO S[n]? := by
  unfold Hm.dic dicO
  rfl
section
variable {S : Hm} {n : Nat} {k v : Val} {Q : Post} {R : Hm → Prop}
def subD (o : Option Ob) (k : Val) (S : Hm) (Q : Post) : Prop := match o with
  | some (.dic kvs) => ∃ q, k.key = some q ∧ ∃ v, lookK kvs q = some v ∧ Q v S
  | some (.lst xs) => ∃ j, k = .int j ∧ ∃ v, atI xs j = some v ∧ Q v S
  | some (.lck (.lst xs)) => ∃ j, k = .int j ∧ ∃ v, atI xs j = some v ∧ Q v S
  | some (.lck (.dic kvs)) => ∃ q, k.key = some q ∧ ∃ v, lookK kvs q = some v ∧ Q v S
  | _ => False
theorem subW_ref : subW (.ref n) k S Q = subD S[n]? k S Q := by
  apply propext
  simp only [subW, Hm.lst_eq, Hm.dic_eq]
  generalize S[n]? = o
  unfold subD lstO dicO
  constructor
  · intro h
    split <;> simp_all <;> grind
  · intro h
    split at h <;> simp_all <;> grind
def setD (o : Option Ob) (n : Nat) (k v : Val) (S : Hm) (R : Hm → Prop) : Prop := match o with
  | some (.dic kvs) => ∃ q, k.key = some q ∧ kvs.length < sizeLine ∧ R (S.set n (.dic (putK kvs q v)))
  | some (.lst xs) => ∃ j, k = .int j ∧ ∃ i, ixN xs.length j = some i ∧ R (S.set n (.lst (xs.set i v)))
  | _ => False
theorem setW_ref : setW (.ref n) k v S R = setD S[n]? n k v S R := by
  apply propext
  simp only [setW]
  generalize S[n]? = o
  unfold setD
  constructor
  · intro h
    split <;> simp_all <;> grind
  · intro h
    split at h <;> simp_all <;> grind
theorem get_set {o : Ob} : (S.set n o)[n]? = (S[n]?).map fun _ => o := by
  by_cases h : n < S.length
  · rw [List.getElem?_set_self h, List.getElem?_eq_getElem h]; rfl
  · rw [List.getElem?_eq_none (by simp; omega), List.getElem?_eq_none (by omega)]; rfl
theorem get_ne {m : Nat} {o : Ob} (h : m ≠ n) : (S.set n o)[m]? = S[m]? := List.getElem?_set_ne (Ne.symm h)
theorem get_app {m : Nat} {o : Ob} {l : Hm} (h : S[m]? = some o) : (S ++ l)[m]? = some o := by
  rw [List.getElem?_append_left (List.getElem?_eq_some_iff.mp h).1]; exact h
theorem get_new {o : Ob} : (S ++ [o])[S.length]? = some o := by simp
def lenD (o : Option Ob) (S : Hm) (Q : Post) : Prop := match o with
  | some (.dic kvs) => Q (.int kvs.length) S
  | some (.lst xs) => Q (.int xs.length) S
  | some (.lck (.lst xs)) => Q (.int xs.length) S
  | _ => False
theorem lenW_ref : biW .len [.ref n] S Q = lenD S[n]? S Q := by
  apply propext
  simp only [biW, Hm.lst_eq]
  generalize S[n]? = o
  unfold lenD lstO
  constructor
  · intro h
    split <;> simp_all <;> grind
  · intro h
    split at h <;> simp_all <;> grind
end

/-! ### whole numbers alone -/
def opI : Operator → Int → Int → Option Int
  | .Add, i, j => some (i + j)
  | .Sub, i, j => some (i - j)
  | .Mult, i, j => some (i * j)
  | .FloorDiv, i, j => some (i / j)
  | .Mod, i, j => some (i % j)
  | .Pow, i, j => some (i ^ j.toNat)
  | _, _, _ => none
def okI : Operator → Int → Int → Prop
  | .Mult, i, j => mulOk i j
  | .FloorDiv, _, j => divOk j
  | .Mod, _, j => 0 < j
  | .Pow, i, j => powOk i j
  | _, _, _ => True
def vI : Option Val → Option Int
  | some (.int n) => some n
  | _ => none
def iv (env : Env) : E → Option Int
  | .loc i => vI (eg env i)
  | .lit (.int n) => some n
  | .neg a => match iv env a with
    | some i => some (-i)
    | none => none
  | .bin op a b => match iv env a with
    | some i => match iv env b with
      | some j => opI op i j
      | none => none
    | none => none
  | _ => none
def ik (env : Env) : E → Prop
  | .neg a => ik env a
  | .bin op a b => ik env a ∧ ik env b ∧ match iv env a with
    | some i => match iv env b with
      | some j => okI op i j
      | none => True
    | none => True
  | _ => True
theorem wE_iv {G : String → Option Val} {C : CallW} {X : XPost} {env : Env} : ∀ (e : E) {n : Int} {S : Hm} {Q : Post}, iv env e = some n → ik env e → Q (.int n) S → wE G C X e env S Q
  | .loc i, n, S, Q, h, hk, hq => by
    simp only [iv] at h
    unfold vI at h
    split at h
    · rename_i m hm
      cases h
      simp only [wE]
      exact ⟨_, hm, hq⟩
    · cases h
  | .lit c, n, S, Q, h, hk, hq => by
    cases c <;> simp only [iv] at h
    · cases h
    · cases h
    · cases h; simp only [wE]; exact hq
    · cases h
  | .neg a, n, S, Q, h, hk, hq => by
    simp only [iv] at h
    split at h
    · rename_i i hi
      cases h
      simp only [wE]
      exact wE_iv a hi hk ⟨_, rfl, hq⟩
    · cases h
  | .bin op a b, n, S, Q, h, hk, hq => by
    simp only [iv] at h
    simp only [ik] at hk
    split at h
    · rename_i i hi
      split at h
      · rename_i j hj
        obtain ⟨k1, k2, k3⟩ := hk
        rw [hi, hj] at k3
        simp only [wE]
        refine wE_iv a hi k1 (wE_iv b hj k2 ?_)
        cases op <;> simp only [opI] at h <;> first | (cases h; done) | skip
        all_goals (cases h; simp only [binW]; first | exact hq | exact ⟨k3, hq⟩)
      · cases h
    · cases h
  | .con _, n, S, Q, h, _, _ => by simp [iv] at h
  | .cmp _ _ _, n, S, Q, h, _, _ => by simp [iv] at h
  | .cmp2 _ _ _ _ _, n, S, Q, h, _, _ => by simp [iv] at h
  | .isN _, n, S, Q, h, _, _ => by simp [iv] at h
  | .notN _, n, S, Q, h, _, _ => by simp [iv] at h
  | .isB _ _, n, S, Q, h, _, _ => by simp [iv] at h
  | .not _, n, S, Q, h, _, _ => by simp [iv] at h
  | .and _ _, n, S, Q, h, _, _ => by simp [iv] at h
  | .or _ _, n, S, Q, h, _, _ => by simp [iv] at h
  | .ite _ _ _, n, S, Q, h, _, _ => by simp [iv] at h
  | .tup _, n, S, Q, h, _, _ => by simp [iv] at h
  | .lst _, n, S, Q, h, _, _ => by simp [iv] at h
  | .dic _, n, S, Q, h, _, _ => by simp [iv] at h
  | .call _ _, n, S, Q, h, _, _ => by simp [iv] at h
  | .make _ _, n, S, Q, h, _, _ => by simp [iv] at h
  | .meth _ _ _ _, n, S, Q, h, _, _ => by simp [iv] at h
  | .fld _ _, n, S, Q, h, _, _ => by simp [iv] at h
  | .sub _ _, n, S, Q, h, _, _ => by simp [iv] at h
  | .slice _ _ _, n, S, Q, h, _, _ => by simp [iv] at h
  | .bi _ _, n, S, Q, h, _, _ => by simp [iv] at h
  | .vi _ _, n, S, Q, h, _, _ => by simp [iv] at h
  | .bm _ _ _, n, S, Q, h, _, _ => by simp [iv] at h
  | .isi _ _, n, S, Q, h, _, _ => by simp [iv] at h
  | .lc _ _ _ _ _, n, S, Q, h, _, _ => by simp [iv] at h
  | .lck _ _, n, S, Q, h, _, _ => by simp [iv] at h
  | .lckA _, n, S, Q, h, _, _ => by simp [iv] at h
/-! ### one form at a time; a comprehension stays folded -/
section
variable {G : String → Option Val} {C : CallW} {X : XPost} {env : Env} {S : Hm} {Q : Post}
/-- a comprehension's run -/
def lcRun (G : String → Option Val) (C : CallW) (X : XPost) (elt : E) (tg : Tg) (cond : Ot) (env : Env) (vs : List Nat) (guard : Hm → Prop) (items acc : List Val) (S : Hm) (Q : List Val → Hm → Prop) : Prop :=
  lcLoop (fun v S K => tgW tg v (ewipe env vs) fun env2 => wC G C X cond env2 S fun b S2 => if b = true then wE G C X elt env2 S2 fun x S3 => K (some x) S3 else K none S2) guard items acc S Q
theorem wE_lc {elt : E} {tg : Tg} {src : Src} {cond : Ot} {own : List (String × Nat)} : wE G C X (.lc elt tg src cond own) env S Q = wSrc G C X src env S fun items guard S1 => lcRun G C X elt tg cond env (own.map (·.2)) guard items [] S1 fun acc S2 => Q (.ref S2.length) (S2 ++ [.lst acc]) := by simp only [wE, lcRun]
theorem wE_lck {i : Nat} {e : E} : wE G C X (.lck i e) env S Q = (∃ n kvs, eg env i = some (.ref n) ∧ S[n]? = some (.dic kvs) ∧ wE G C X e env (S.set n (.lck (.dic kvs))) fun v S' => S'[n]? = some (.lck (.dic kvs)) ∧ Q v (S'.set n (.dic kvs))) := by simp only [wE]
theorem wE_lckA {e : E} : wE G C X (.lckA e) env S Q = (∃ n kvs, S[n]? = some (.dic kvs) ∧ wE G C X e env (S.set n (.lck (.dic kvs))) fun v S' => S'[n]? = some (.lck (.dic kvs)) ∧ Q v (S'.set n (.dic kvs))) := by simp only [wE]
theorem wE_loc {i : Nat} : wE G C X (.loc i) env S Q = (∃ v, eg env i = some v ∧ Q v S) := by simp only [wE]
theorem wE_lit {c : Lit} : wE G C X (.lit c) env S Q = (Q c.val S) := by simp only [wE]
theorem wE_con {x : String} : wE G C X (.con x) env S Q = (∃ v, G x = some v ∧ Q v S) := by simp only [wE]
theorem wE_bin {op : Operator} {a b : E} : wE G C X (.bin op a b) env S Q = (wE G C X a env S fun x S1 => wE G C X b env S1 fun y S2 => binW op x y S2 Q) := by simp only [wE]
theorem wE_neg {a : E} : wE G C X (.neg a) env S Q = (wE G C X a env S fun x S1 => ∃ i, x = .int i ∧ Q (.int (-i)) S1) := by simp only [wE]
theorem wE_cmp {op : CmpOp} {a b : E} : wE G C X (.cmp op a b) env S Q = (wE G C X a env S fun x S1 => wE G C X b env S1 fun y S2 => cmpW op x y S2 fun r => Q (.bl r) S2) := by simp only [wE]
theorem wE_cmp2 {op op' : CmpOp} {a b c : E} : wE G C X (.cmp2 op op' a b c) env S Q = (wE G C X a env S fun x S1 => wE G C X b env S1 fun y S2 => cmpW op x y S2 fun r => if r = true then wE G C X c env S2 fun z S3 => cmpW op' y z S3 fun r' => Q (.bl r') S3 else Q (.bl false) S2) := by simp only [wE]
def isNon : Val → Bool
  | .non => true
  | _ => false
theorem wE_isN {a : E} : wE G C X (.isN a) env S Q = (wE G C X a env S fun x S1 => Q (.bl (isNon x)) S1) := by
  simp only [wE]
  congr 1 <;> (funext x S1; cases x <;> rfl)
theorem wE_notN {a : E} : wE G C X (.notN a) env S Q = (wE G C X a env S fun x S1 => Q (.bl (!isNon x)) S1) := by
  simp only [wE]
  congr 1 <;> (funext x S1; cases x <;> rfl)
theorem wE_isB {a : E} {b : Bool} : wE G C X (.isB a b) env S Q = (wE G C X a env S fun x S1 => ∃ c, x = .bl c ∧ Q (.bl (c == b)) S1) := by simp only [wE]
theorem wE_not {a : E} : wE G C X (.not a) env S Q = (wE G C X a env S fun x S1 => ∃ b, x = .bl b ∧ Q (.bl (!b)) S1) := by simp only [wE]
theorem wE_and {a b : E} : wE G C X (.and a b) env S Q = (wE G C X a env S fun x S1 => ∃ c, x = .bl c ∧ if c = true then wE G C X b env S1 Q else Q (.bl false) S1) := by simp only [wE]
theorem wE_or {a b : E} : wE G C X (.or a b) env S Q = (wE G C X a env S fun x S1 => ∃ c, x = .bl c ∧ if c = true then Q (.bl true) S1 else wE G C X b env S1 Q) := by simp only [wE]
theorem wE_ite {c : T} {a b : E} : wE G C X (.ite c a b) env S Q = (wT G C X c env S fun r S1 => if r = true then wE G C X a env S1 Q else wE G C X b env S1 Q) := by simp only [wE]
theorem wE_tup {es : Es} : wE G C X (.tup es) env S Q = (wEs G C X es env S fun vs S1 => vs.length ≤ sizeLine ∧ Q (.tup vs) S1) := by simp only [wE]
theorem wE_lst {es : Es} : wE G C X (.lst es) env S Q = (wEs G C X es env S fun vs S1 => vs.length ≤ sizeLine ∧ Q (.ref S1.length) (S1 ++ [.lst vs])) := by simp only [wE]
theorem wE_dic {ps : Ps} : wE G C X (.dic ps) env S Q = (wPs G C X ps env S fun kvs S1 => Q (.ref S1.length) (S1 ++ [.dic (kvs.foldl (fun d p => putK d p.1 p.2) [])])) := by simp only [wE]
theorem wE_call {f : String} {es : Es} : wE G C X (.call f es) env S Q = (wEs G C X es env S fun vs S1 => C (.f f) vs S1 Q X) := by simp only [wE]
theorem wE_make {c : String} {es : Es} : wE G C X (.make c es) env S Q = (wEs G C X es env S fun vs S1 => C (.m c "__init__") (.ref S1.length :: vs) (S1 ++ [.ins c []]) (fun v S2 => v = .non ∧ Q (.ref S1.length) S2) X) := by simp only [wE]
theorem wE_meth {c m : String} {o : E} {es : Es} : wE G C X (.meth c m o es) env S Q = (wE G C X o env S fun x S1 => ∃ n fs, x = .ref n ∧ S1[n]? = some (.ins c fs) ∧ fs.lookup m = none ∧ wEs G C X es env S1 fun vs S2 => C (.m c m) (x :: vs) S2 Q X) := by simp only [wE]
theorem wE_fld {o : E} {f : String} : wE G C X (.fld o f) env S Q = (wE G C X o env S fun x S1 => ∃ n c fs v, x = .ref n ∧ S1[n]? = some (.ins c fs) ∧ fs.lookup f = some v ∧ Q v S1) := by simp only [wE]
theorem wE_sub {o i : E} : wE G C X (.sub o i) env S Q = (wE G C X o env S fun x S1 => wE G C X i env S1 fun y S2 => subW x y S2 Q) := by simp only [wE]
theorem wE_slice {o : E} {lo hi : Oe} : wE G C X (.slice o lo hi) env S Q = (wE G C X o env S fun x S1 => wO G C X lo env S1 fun a S2 => wO G C X hi env S2 fun b S3 => sliceW x a b S3 Q) := by simp only [wE]
theorem wE_bi {f : Bi} {es : Es} : wE G C X (.bi f es) env S Q = (wEs G C X es env S fun vs S1 => biW f vs S1 Q) := by simp only [wE]
theorem wE_vi {f : Vi} {es : Es} : wE G C X (.vi f es) env S Q = (wEs G C X es env S fun vs S1 => viW f vs S1 Q) := by simp only [wE]
theorem wE_bm {m : Bm} {o : E} {es : Es} : wE G C X (.bm m o es) env S Q = (wE G C X o env S fun x S1 => bmT m x S1 ∧ wEs G C X es env S1 fun vs S2 => bmW m x vs S2 Q) := by simp only [wE]
theorem wE_isi {a : E} {ts : List Ty} : wE G C X (.isi a ts) env S Q = (wE G C X a env S fun x S1 => ∃ bs, ts.mapM (isTy x S1) = some bs ∧ Q (.bl (bs.any id)) S1) := by simp only [wE]
end
section
variable {G : String → Option Val} {C : CallW} (hC : CMono C)
include hC
theorem lcr_inv {X : XPost} {elt : E} {tg : Tg} {cond : Ot} {env : Env} {vs : List Nat} {guard : Hm → Prop} {items : List Val} {Q : List Val → Hm → Prop} (I : Nat → List Val → Hm → Prop)
    (step : ∀ i v acc S, items[i]? = some v → I i acc S → guard S ∧ tgW tg v (ewipe env vs) fun env2 => wC G C X cond env2 S fun b S2 => if b = true then wE G C X elt env2 S2 fun x S3 => acc.length < sizeLine ∧ I (i + 1) (acc ++ [x]) S3 else I (i + 1) acc S2)
    (fin : ∀ acc S, I items.length acc S → guard S ∧ Q acc S) {S : Hm} (h : I 0 [] S) : lcRun G C X elt tg cond env vs guard items [] S Q := lc_inv hC I step fin h
end
end Mi

set_option maxHeartbeats 1000000
namespace Mi
open PySem
/-! MiV: what texts are split into -/
def splitC (c : Char) : List Char → List (List Char)
  | [] => [[]]
  | x :: r => if x = c then [] :: splitC c r else match splitC c r with
    | [] => [[x]]
    | p :: ps => (x :: p) :: ps
theorem splitC_ne (c : Char) : ∀ l, splitC c l ≠ []
  | [] => by simp [splitC]
  | x :: r => by
    unfold splitC
    split
    · simp
    · split <;> simp
theorem splitC_free (c : Char) : ∀ l, ∀ p ∈ splitC c l, c ∉ p
  | [], p, h => by
    have : p = [] := by simpa [splitC] using h
    subst this; simp
  | x :: r, p, h => by
    unfold splitC at h
    split at h
    · rcases List.mem_cons.mp h with rfl | h
      · simp
      · exact splitC_free c r p h
    · rename_i hx
      have ih := splitC_free c r
      split at h
      · have : p = [x] := by simpa using h
        subst this
        simpa using fun z => hx z.symm
      · rename_i q qs e
        rw [e] at ih
        rcases List.mem_cons.mp h with rfl | h
        · intro hc
          rcases List.mem_cons.mp hc with hc | hc
          · exact hx hc.symm
          · exact ih q List.mem_cons_self hc
        · exact ih p (List.mem_cons_of_mem _ h)
def joinN (c : Nat) : List (List Nat) → List Nat
  | [] => []
  | [p] => p
  | p :: q :: r => p ++ c :: joinN c (q :: r)
theorem joinN_cons {c : Nat} {p : List Nat} {r : List (List Nat)} (h : r ≠ []) : joinN c (p :: r) = p ++ c :: joinN c r := by
  cases r with
  | nil => exact absurd rfl h
  | cons q s => rfl
theorem splitC_join (c : Char) : ∀ l, joinN c.toNat ((splitC c l).map (·.map Char.toNat)) = l.map Char.toNat
  | [] => rfl
  | x :: r => by
    have ih := splitC_join c r
    have ne := splitC_ne c r
    unfold splitC
    split
    · rename_i e
      subst e
      rw [List.map_cons, joinN_cons (by simpa using ne), ih]
      rfl
    · split
      · rename_i e
        exact absurd e ne
      · rename_i p ps e
        rw [e] at ih
        cases ps with
        | nil => simpa [joinN] using ih
        | cons q qs =>
          rw [List.map_cons, joinN_cons (by simp)] at ih ⊢
          rw [List.map_cons (l := r), ← ih]
          rfl
theorem cut_uniq {c : Nat} : ∀ {p q a b : List Nat}, c ∉ p → c ∉ q → p ++ c :: a = q ++ c :: b → p = q ∧ a = b
  | [], [], a, b, _, _, h => by simpa using h
  | [], y :: q, a, b, _, hq, h => by
    simp only [List.nil_append, List.cons_append, List.cons.injEq] at h
    exact absurd (by rw [h.1]; exact List.mem_cons_self) hq
  | x :: p, [], a, b, hp, _, h => by
    simp only [List.nil_append, List.cons_append, List.cons.injEq] at h
    exact absurd (by rw [← h.1]; exact List.mem_cons_self) hp
  | x :: p, y :: q, a, b, hp, hq, h => by
    simp only [List.cons_append, List.cons.injEq] at h
    obtain ⟨h1, h2⟩ := cut_uniq (fun z => hp (List.mem_cons_of_mem _ z)) (fun z => hq (List.mem_cons_of_mem _ z)) h.2
    rw [h.1, h1]
    exact ⟨rfl, h2⟩
theorem join_uniq {c : Nat} : ∀ {L M : List (List Nat)}, L ≠ [] → M ≠ [] → (∀ p ∈ L, c ∉ p) → (∀ p ∈ M, c ∉ p) → joinN c L = joinN c M → L = M
  | [], _, h, _, _, _, _ => absurd rfl h
  | _ :: _, [], _, h, _, _, _ => absurd rfl h
  | [p], [q], _, _, _, _, h => by
    simp only [joinN] at h
    rw [h]
  | [p], q :: r :: s, _, _, hp, _, h => by
    rw [joinN_cons (c := c) (p := q) (by simp)] at h
    simp only [joinN] at h
    exact absurd (by rw [h]; simp) (hp p List.mem_cons_self)
  | q :: r :: s, [p], _, _, _, hp, h => by
    rw [joinN_cons (c := c) (p := q) (by simp)] at h
    simp only [joinN] at h
    exact absurd (by rw [← h]; simp) (hp p List.mem_cons_self)
  | p :: r :: s, q :: r' :: s', _, _, hL, hM, h => by
    rw [joinN_cons (c := c) (p := p) (by simp), joinN_cons (c := c) (p := q) (by simp)] at h
    obtain ⟨h1, h2⟩ := cut_uniq (hL p List.mem_cons_self) (hM q List.mem_cons_self) h
    rw [h1, join_uniq (by simp) (by simp) (fun x hx => hL x (List.mem_cons_of_mem _ hx)) (fun x hx => hM x (List.mem_cons_of_mem _ hx)) h2]
theorem strjoin_cps {c : Nat} : ∀ L : List Str, (Str.join ⟨#[c]⟩ L).cps.toList = joinN c (L.map (·.cps.toList))
  | [] => rfl
  | [x] => rfl
  | x :: y :: r => by
    have ih := strjoin_cps (c := c) (y :: r)
    rw [List.map_cons, joinN_cons (by simp), ← ih]
    show (x ++ ⟨#[c]⟩ ++ Str.join ⟨#[c]⟩ (y :: r)).cps.toList = _
    show (x.cps ++ #[c] ++ (Str.join ⟨#[c]⟩ (y :: r)).cps).toList = _
    simp
theorem str_cps {a b : Str} (h : a.cps.toList = b.cps.toList) : a = b := Str.ext' (Array.toList_inj.mp h)
theorem map_cps_inj : ∀ {L M : List Str}, L.map (·.cps.toList) = M.map (·.cps.toList) → L = M
  | [], [], _ => rfl
  | [], _ :: _, h => by cases h
  | _ :: _, [], h => by cases h
  | a :: l, b :: m, h => by
    simp only [List.map_cons, List.cons.injEq] at h
    rw [str_cps h.1, map_cps_inj h.2]
theorem ofs_one (c : Char) : Str.ofString (String.singleton c) = ⟨#[c.toNat]⟩ := by
  apply str_cps
  rw [cps_ofString]
  simp
theorem char_mem {c : Char} {l : List Char} (h : c.toNat ∈ l.map Char.toNat) : c ∈ l := by
  obtain ⟨d, h1, h2⟩ := List.mem_map.mp h
  have : d = c := Char.ext (UInt32.toNat_inj.mp h2)
  exact this ▸ h1
/-- a text split by one sign -/
theorem split_eq (s : String) (c : Char) : Txt.split (Str.ofString s) (Str.ofString (String.singleton c)) = ((splitC c s.toList).map String.ofList).map Str.ofString := by
  rw [ofs_one]
  apply map_cps_inj
  refine join_uniq (c := c.toNat) ?_ ?_ ?_ ?_ ?_
  · intro h
    have h1 := PyProof.Rows.split_pos (Str.ofString s) ⟨#[c.toNat]⟩
    rw [List.map_eq_nil_iff] at h
    rw [h] at h1
    cases h1
  · intro h
    rw [List.map_eq_nil_iff, List.map_eq_nil_iff, List.map_eq_nil_iff] at h
    exact splitC_ne c _ h
  · intro p hp
    obtain ⟨q, h1, rfl⟩ := List.mem_map.mp hp
    exact StrLaws.split_free _ _ q h1
  · intro p hp
    obtain ⟨q, h1, rfl⟩ := List.mem_map.mp hp
    obtain ⟨z, h2, rfl⟩ := List.mem_map.mp h1
    obtain ⟨l, h3, rfl⟩ := List.mem_map.mp h2
    intro h4
    rw [cps_ofString, String.toList_ofList] at h4
    exact splitC_free c _ l h3 (char_mem h4)
  · rw [← strjoin_cps, StrLaws.join_split, cps_ofString, ← splitC_join c]
    congr 1
    rw [List.map_map, List.map_map]
    apply List.map_congr_left
    intro l _
    show _ = (Str.ofString (String.ofList l)).cps.toList
    rw [cps_ofString, String.toList_ofList]
/-- no sign, no cut -/
theorem splitC_none {c : Char} : ∀ {l : List Char}, c ∉ l → splitC c l = [l]
  | [], _ => rfl
  | x :: r, h => by
    have hx : x ≠ c := fun z => h (by rw [z]; exact List.mem_cons_self)
    rw [splitC, if_neg hx, splitC_none fun z => h (List.mem_cons_of_mem _ z)]
theorem splitC_at {c : Char} : ∀ {l r : List Char}, c ∉ l → splitC c (l ++ c :: r) = l :: splitC c r
  | [], r, _ => by rw [List.nil_append, splitC, if_pos rfl]
  | x :: l, r, h => by
    have hx : x ≠ c := fun z => h (by rw [z]; exact List.mem_cons_self)
    rw [List.cons_append, splitC, if_neg hx, splitC_at fun z => h (List.mem_cons_of_mem _ z)]
/-! ### more of heaps -/
theorem dic_lck {S : Hm} {n : Nat} {kvs : List (Key × Val)} (h : S[n]? = some (.lck (.dic kvs))) : Hm.dic S n = some kvs := by simp only [Hm.dic, h]
theorem ix_zero {α : Type} {x : α} {xs : List α} : atI (x :: xs) 0 = some x := by simp [atI, ixN]
theorem ix_nat {α : Type} {xs : List α} {i : Nat} {x : α} (h : xs[i]? = some x) : atI xs (i : Int) = some x := by
  have := (List.getElem?_eq_some_iff.mp h).1
  simp only [atI, ixN]
  rw [if_pos (Int.natCast_nonneg i), if_pos (by omega)]
  simpa using h
theorem cut_from {α : Type} {xs : List α} {i : Nat} : cut xs (some (i : Int)) none = xs.drop i := by
  unfold cut sIx
  simp only [Int.not_lt.mpr (Int.natCast_nonneg i), if_false, Int.toNat_natCast]
  rcases Nat.le_total i xs.length with h | h
  · rw [Nat.min_eq_left h, List.take_of_length_le (by simp)]
  · rw [Nat.min_eq_right h]; simp [List.drop_eq_nil_of_le h]
theorem cut_to {α : Type} {xs : List α} {i : Nat} : cut xs none (some (i : Int)) = xs.take i := by
  unfold cut sIx
  simp only [Int.not_lt.mpr (Int.natCast_nonneg i), if_false, Int.toNat_natCast]
  rcases Nat.le_total i xs.length with h | h
  · rw [Nat.min_eq_left h]; simp
  · rw [Nat.min_eq_right h]; simp [List.take_of_length_le h]
theorem cut_ft {α : Type} {xs : List α} {i j : Nat} : cut xs (some (i : Int)) (some (j : Int)) = (xs.drop i).take (j - i) := by
  unfold cut sIx
  simp only [Int.not_lt.mpr (Int.natCast_nonneg i), Int.not_lt.mpr (Int.natCast_nonneg j), if_false, Int.toNat_natCast]
  rcases Nat.le_total i xs.length with h | h
  · rw [Nat.min_eq_left h]
    rcases Nat.le_total j xs.length with h2 | h2
    · rw [Nat.min_eq_left h2]
    · rw [Nat.min_eq_right h2, List.take_of_length_le (by simp), List.take_of_length_le (by simp; omega)]
  · rw [Nat.min_eq_right h, List.drop_eq_nil_of_le h, List.drop_eq_nil_of_le (Nat.le_refl _)]
    simp
theorem lt_get {α : Type} {S : List α} {n : Nat} {o : α} (h : S[n]? = some o) : n < S.length := (List.getElem?_eq_some_iff.mp h).1
theorem rng_get {lo : Int} {n i : Nat} {v : Val} (h : (rangeL lo 1 n)[i]? = some v) : i < n ∧ v = .int (lo + i) := by
  rw [rangeL_get] at h
  split at h
  · exact ⟨by assumption, by cases h; rfl⟩
  · cases h
/-! ### one step of reckoning -/
section
variable {S : Hm} {Q : Post} {i j : Int}
theorem bmul (h : mulOk i j) (q : Q (.int (i * j)) S) : binW .Mult (.int i) (.int j) S Q := ⟨h, q⟩
theorem badd (q : Q (.int (i + j)) S) : binW .Add (.int i) (.int j) S Q := q
theorem bsub (q : Q (.int (i - j)) S) : binW .Sub (.int i) (.int j) S Q := q
theorem bmod (h : 0 < j) (q : Q (.int (i % j)) S) : binW .Mod (.int i) (.int j) S Q := ⟨h, q⟩
theorem bdiv (h : divOk j) (q : Q (.int (i / j)) S) : binW .FloorDiv (.int i) (.int j) S Q := ⟨h, q⟩
theorem bpow (h : powOk i j) (q : Q (.int (i ^ j.toNat)) S) : binW .Pow (.int i) (.int j) S Q := ⟨h, q⟩
theorem saddW {a b : String} (h : a.length + b.length ≤ sizeLine) (q : Q (.str (a ++ b)) S) : binW .Add (.str a) (.str b) S Q := ⟨h, q⟩
theorem log_le {a : Int} {n : Nat} (h : a.natAbs < 2 ^ (n + 1)) : a.natAbs.log2 ≤ n := by
  by_cases h0 : a.natAbs = 0
  · rw [h0]; exact Nat.zero_le _
  · have := (Nat.log2_lt h0 (k := n + 1)).mpr h
    omega
theorem mul_ok {n m : Nat} (h : i.natAbs < 2 ^ (n + 1)) (h2 : j.natAbs < 2 ^ (m + 1)) (hs : n + m < 100000000) : mulOk i j := by
  have := log_le h
  have := log_le h2
  unfold mulOk
  omega
theorem div_ok {n : Nat} (h : 0 < j) (h2 : j.natAbs < 2 ^ (n + 1)) (hs : n < 9000) : divOk j := by
  have := log_le h2
  exact ⟨h, by omega⟩
theorem nbs_lt {n : Nat} (h0 : 0 ≤ i) (h1 : i < 2 ^ n) : i.natAbs < 2 ^ n := by
  have : ((i.natAbs : Nat) : Int) = i := Int.natAbs_of_nonneg h0
  have h2 : ((i.natAbs : Nat) : Int) < ((2 ^ n : Nat) : Int) := by rw [this]; simpa using h1
  exact_mod_cast h2
end
/-! ### frames: all but one place stay -/
def Fm (p : Nat) (S S' : Hm) : Prop := S.length ≤ S'.length ∧ ∀ n, n < S.length → n ≠ p → S'[n]? = S[n]?
theorem Fm.refl (p : Nat) (S : Hm) : Fm p S S := ⟨Nat.le_refl _, fun _ _ _ => rfl⟩
theorem Fm.trans {p : Nat} {S S1 S2 : Hm} (a : Fm p S S1) (b : Fm p S1 S2) : Fm p S S2 := ⟨Nat.le_trans a.1 b.1, fun n h hn => (b.2 n (Nat.lt_of_lt_of_le h a.1) hn).trans (a.2 n h hn)⟩
theorem Fm.get {p : Nat} {S S1 : Hm} (a : Fm p S S1) {n : Nat} {o : Ob} (hn : n ≠ p) (h : S[n]? = some o) : S1[n]? = some o := (a.2 n (lt_get h) hn).trans h
theorem Fm.app {p : Nat} {S : Hm} (l : Hm) : Fm p S (S ++ l) := ⟨by simp, fun n h _ => List.getElem?_append_left h⟩
theorem Fm.set {p : Nat} {S S' : Hm} {n : Nat} {o : Ob} (h : Fm p S S') (hn : S.length ≤ n) : Fm p S (S'.set n o) := ⟨by simpa using h.1, fun m hm hp => by rw [get_ne (by omega)]; exact h.2 m hm hp⟩
theorem Fm.own {p : Nat} {S : Hm} {o : Ob} : Fm p S (S.set p o) := ⟨by simp, fun m _ hp => get_ne hp⟩
end Mi

set_option maxHeartbeats 1000000
namespace Mi
open PySem
/-! ### cells: a heap told by a list of places, each place once -/
structure Lay (S : Hm) (cs : List (Nat × Ob)) : Prop where
  nd : (cs.map (·.1)).Nodup
  at_ : ∀ c ∈ cs, S[c.1]? = some c.2
section
variable {S : Hm} {cs cs' A B : List (Nat × Ob)} {j : Nat} {o o' : Ob} {a b c d e n : Nat × Ob}
theorem Lay.get (h : Lay S cs) (m : (j, o) ∈ cs) : S[j]? = some o := h.at_ _ m
theorem Lay.lt (h : Lay S cs) (m : (j, o) ∈ cs) : j < S.length := lt_get (h.get m)
theorem Lay.perm (h : Lay S cs) (p : cs.Perm cs') : Lay S cs' := ⟨(p.map _).nodup_iff.mp h.nd, fun c m => h.at_ c (p.mem_iff.mpr m)⟩
theorem Lay.sub (h : Lay S cs) (p : cs'.Sublist cs) : Lay S cs' := ⟨(p.map _).nodup h.nd, fun c m => h.at_ c (p.subset m)⟩
theorem Lay.put (h : Lay S (A ++ (j, o) :: B)) : Lay (S.set j o') (A ++ (j, o') :: B) := by
  have e : (A ++ (j, o') :: B).map (·.1) = (A ++ (j, o) :: B).map (·.1) := by simp
  refine ⟨by rw [e]; exact h.nd, fun c m => ?_⟩
  have nd := h.nd
  rw [List.map_append, List.map_cons, List.nodup_append] at nd
  obtain ⟨_, n2, n3⟩ := nd
  rw [List.nodup_cons] at n2
  rcases List.mem_append.mp m with m | m
  · have : c.1 ≠ j := fun z => n3 c.1 (List.mem_map.mpr ⟨c, m, rfl⟩) j List.mem_cons_self z
    rw [get_ne this]
    exact h.at_ c (List.mem_append_left _ m)
  · rcases List.mem_cons.mp m with rfl | m
    · show (S.set j o')[j]? = some o'
      rw [get_set, h.get (j := j) (o := o) (by simp)]
      rfl
    · have : c.1 ≠ j := fun z => n2.1 (List.mem_map.mpr ⟨c, m, z⟩)
      rw [get_ne this]
      exact h.at_ c (List.mem_append_right _ (List.mem_cons_of_mem _ m))
theorem Lay.p0 (h : Lay S ((j, o) :: B)) : Lay (S.set j o') ((j, o') :: B) := Lay.put (A := []) h
theorem Lay.p1 (h : Lay S (a :: (j, o) :: B)) : Lay (S.set j o') (a :: (j, o') :: B) := Lay.put (A := [a]) h
theorem Lay.p2 (h : Lay S (a :: b :: (j, o) :: B)) : Lay (S.set j o') (a :: b :: (j, o') :: B) := Lay.put (A := [a, b]) h
theorem Lay.p3 (h : Lay S (a :: b :: c :: (j, o) :: B)) : Lay (S.set j o') (a :: b :: c :: (j, o') :: B) := Lay.put (A := [a, b, c]) h
theorem Lay.p4 (h : Lay S (a :: b :: c :: d :: (j, o) :: B)) : Lay (S.set j o') (a :: b :: c :: d :: (j, o') :: B) := Lay.put (A := [a, b, c, d]) h
theorem Lay.p5 (h : Lay S (a :: b :: c :: d :: e :: (j, o) :: B)) : Lay (S.set j o') (a :: b :: c :: d :: e :: (j, o') :: B) := Lay.put (A := [a, b, c, d, e]) h
theorem Lay.new (h : Lay S cs) : Lay (S ++ [o]) ((S.length, o) :: cs) := by
  refine ⟨?_, fun c m => ?_⟩
  · rw [List.map_cons, List.nodup_cons]
    refine ⟨fun z => ?_, h.nd⟩
    obtain ⟨c, m, hc⟩ := List.mem_map.mp z
    have := h.lt (j := c.1) (o := c.2) m
    simp only at hc
    omega
  · rcases List.mem_cons.mp m with rfl | m
    · exact get_new
    · exact get_app (h.at_ c m)
theorem Lay.ins (h : Lay S (n :: (A ++ B))) : Lay S (A ++ n :: B) := h.perm List.perm_middle.symm
theorem Lay.to4 (h : Lay S (n :: a :: b :: c :: d :: B)) : Lay S (a :: b :: c :: d :: n :: B) := Lay.ins (A := [a, b, c, d]) h
theorem Lay.all (S : Hm) : Lay S (S.zipIdx.map fun p => (p.2, p.1)) := by
  refine ⟨?_, fun c m => ?_⟩
  · rw [List.map_map]
    have : ((fun x : Nat × Ob => x.1) ∘ fun p : Ob × Nat => (p.2, p.1)) = fun p : Ob × Nat => p.2 := rfl
    rw [this, List.zipIdx_map_snd]
    exact List.nodup_range'
  · obtain ⟨p, hp, rfl⟩ := List.mem_map.mp m
    have := List.mem_zipIdx_iff_getElem?.mp hp
    simpa using this
theorem Lay.all_mem (h : S[j]? = some o) : (j, o) ∈ S.zipIdx.map fun p => (p.2, p.1) := List.mem_map.mpr ⟨(o, j), List.mem_zipIdx_iff_getElem?.mpr (by simpa using h), rfl⟩
end
section
variable {P : Pg} {k : Nat} {d : FDef} {args : List Val} {S : Hm} {Q Q0 : Post} {X : XPost} {c x : String}
theorem call_openM (hd : P.fn (.m c x) = some d) (hx : (x == "__init__") = false) (h : bodyW P (callW P k) d (padded d args) S Q X) : callW P (k + 1) (.m c x) args S Q X := by
  cases k with
  | zero => exact ⟨d, hd, by simpa [FK.init, hx] using h⟩
  | succ k =>
    rw [callW_two]
    exact ⟨d, hd, by simpa [FK.init, hx] using h⟩
theorem call_openI (hd : P.fn (.m c "__init__") = some d) (h : bodyW P (callW P k) d (padded d args) S Q X) : callW P (k + 2) (.m c "__init__") args S Q X := by
  rw [callW_two]
  exact ⟨d, hd, by simpa [FK.init] using h⟩
end
theorem atI_last {α : Type} {l : List α} {x : α} : atI (l ++ [x]) (-1) = some x := by
  have : ixN (l ++ [x]).length (-1) = some l.length := by
    unfold ixN
    rw [if_neg (by decide), if_pos (by simp; omega)]
    congr 1
    rw [List.length_append]
    simp only [List.length_cons, List.length_nil]
    omega
  unfold atI
  rw [this]
  simp
theorem popW {S : Hm} {n : Nat} {xs : List Val} {y : Val} {Q : Post} (h : S[n]? = some (.lst (xs ++ [y]))) (hq : Q y (S.set n (.lst xs))) : bmW .pop (.ref n) [] S Q := by
  simp only [bmW]
  refine ⟨_, y, h, by simp, ?_⟩
  rw [List.dropLast_concat]
  exact hq
theorem appW {S : Hm} {n : Nat} {xs : List Val} {y : Val} {Q : Post} (h : S[n]? = some (.lst xs)) (hl : xs.length < sizeLine) (hq : Q .non (S.set n (.lst (xs ++ [y])))) : bmW .append (.ref n) [y] S Q := by
  simp only [bmW]
  exact ⟨_, h, hl, hq⟩
theorem popT {S : Hm} {n : Nat} {xs : List Val} (h : S[n]? = some (.lst xs)) : bmT .pop (.ref n) S := ⟨n, xs, rfl, lst_at h⟩
theorem appT {S : Hm} {n : Nat} {xs : List Val} (h : S[n]? = some (.lst xs)) : bmT .append (.ref n) S := ⟨n, xs, rfl, lst_at h⟩
theorem last_get {α : Type} {l : List α} {x : α} : (l ++ [x])[(l ++ [x]).length - 1]? = some x := by simp
end Mi

set_option maxHeartbeats 1000000
namespace Mi
open PySem
section
variable {S : Hm} {Q : Post} {a b c d : Val} {xs : List Val}
theorem tup0 : subW (.tup (a :: xs)) (.int 0) S Q = Q a S := by
  apply propext
  simp only [subW]
  have : atI (a :: xs) 0 = some a := ix_zero
  rw [this]
  constructor
  · rintro ⟨v, h, q⟩; cases h; exact q
  · intro q; exact ⟨a, rfl, q⟩
theorem tup1 : subW (.tup (a :: b :: xs)) (.int 1) S Q = Q b S := by
  apply propext
  simp only [subW]
  have : atI (a :: b :: xs) 1 = some b := ix_nat (i := 1) rfl
  rw [this]
  constructor
  · rintro ⟨v, h, q⟩; cases h; exact q
  · intro q; exact ⟨b, rfl, q⟩
theorem tup2 : subW (.tup (a :: b :: c :: xs)) (.int 2) S Q = Q c S := by
  apply propext
  simp only [subW]
  have : atI (a :: b :: c :: xs) 2 = some c := ix_nat (i := 2) rfl
  rw [this]
  constructor
  · rintro ⟨v, h, q⟩; cases h; exact q
  · intro q; exact ⟨c, rfl, q⟩
theorem tup3 : subW (.tup (a :: b :: c :: d :: xs)) (.int 3) S Q = Q d S := by
  apply propext
  simp only [subW]
  have : atI (a :: b :: c :: d :: xs) 3 = some d := ix_nat (i := 3) rfl
  rw [this]
  constructor
  · rintro ⟨v, h, q⟩; cases h; exact q
  · intro q; exact ⟨d, rfl, q⟩
end
section
variable {α : Type} {q q' : Key} {v : α}
theorem look_cons {a : Key} {b : α} {r : List (Key × α)} : lookK ((a, b) :: r) q = if a = q then some b else lookK r q := by
  unfold lookK
  rw [List.find?_cons]
  by_cases h : a = q
  · simp [h]
  · simp [h]
theorem look_map : ∀ (kvs : List (Key × α)), lookK (kvs.map fun kv => if kv.1 = q then (kv.1, v) else kv) q' = if q' = q then (lookK kvs q).map (fun _ => v) else lookK kvs q'
  | [] => by simp [lookK]
  | (a, b) :: r => by
    rw [List.map_cons]
    have ih := look_map r
    by_cases h : a = q
    · subst h
      rw [if_pos rfl, look_cons, look_cons, look_cons, ih]
      by_cases h2 : a = q'
      · subst h2; simp
      · rw [if_neg h2, if_neg h2, if_neg (Ne.symm h2), if_neg (Ne.symm h2)]
    · rw [if_neg h, look_cons, look_cons, look_cons, ih]
      by_cases h2 : a = q'
      · subst h2; simp [h]
      · rw [if_neg h2, if_neg h2, if_neg h]
theorem look_app : ∀ (kvs : List (Key × α)), lookK (kvs ++ [(q, v)]) q' = match lookK kvs q' with | some x => some x | none => if q = q' then some v else none
  | [] => by
    rw [List.nil_append, look_cons]
    simp [lookK]
  | (a, b) :: r => by
    rw [List.cons_append, look_cons, look_cons, look_app r]
    by_cases h2 : a = q'
    · rw [if_pos h2, if_pos h2]
    · rw [if_neg h2, if_neg h2]
theorem look_any : ∀ (kvs : List (Key × α)), (kvs.any fun kv => decide (kv.1 = q)) = (lookK kvs q).isSome
  | [] => rfl
  | (a, b) :: r => by
    rw [List.any_cons, look_cons, look_any r]
    by_cases h : a = q <;> simp [h]
theorem look_put {kvs : List (Key × α)} : lookK (putK kvs q v) q' = if q' = q then some v else lookK kvs q' := by
  unfold putK
  by_cases h : (kvs.any fun kv => decide (kv.1 = q)) = true
  · rw [if_pos h, look_map]
    rw [look_any] at h
    by_cases h2 : q' = q
    · rw [if_pos h2, if_pos h2]
      cases e : lookK kvs q with
      | none => rw [e] at h; cases h
      | some x => rfl
    · rw [if_neg h2, if_neg h2]
  · rw [if_neg h, look_app]
    rw [look_any] at h
    by_cases h2 : q' = q
    · subst h2
      cases e : lookK kvs q' with
      | none => simp
      | some x => rw [e] at h; simp at h
    · rw [if_neg h2, if_neg (Ne.symm h2)]
      cases lookK kvs q' <;> rfl
theorem put_len {kvs : List (Key × α)} : (putK kvs q v).length ≤ kvs.length + 1 := by
  unfold putK
  split
  · simp
  · simp
end
theorem repr_len {n d : Nat} (hd : 0 < d) : (toString (n : Int)).length ≤ d ↔ n < 10 ^ d := by
  have e : (toString (n : Int)).length = (Nat.toDigits 10 n).length := by
    rw [← String.length_toList]
    show (Nat.repr n).toList.length = _
    rw [Nat.toList_repr]
  rw [e]
  exact Nat.length_toDigits_le_iff (by decide) hd
/-! ### data that stays the same -/
def pureV : Nat → Val → Bool
  | _, .non => true
  | _, .bl _ => true
  | _, .int _ => true
  | _, .str _ => true
  | k + 1, .tup xs => xs.all (pureV k)
  | _, _ => false
theorem dat_pure {S : Hm} : ∀ (k : Nat) (v : Val), pureV k v = true → ∃ x, dat S k v = some x ∧ PyData.eqv x x = true
  | 0, .non, _ => ⟨_, rfl, by simp only [PyData.eqv]⟩
  | 0, .bl b, _ => ⟨_, rfl, by simp [PyData.eqv]⟩
  | 0, .int b, _ => ⟨_, rfl, by simp [PyData.eqv]⟩
  | 0, .str b, _ => ⟨_, rfl, by simp [PyData.eqv]⟩
  | k + 1, .non, _ => ⟨_, rfl, by simp only [PyData.eqv]⟩
  | k + 1, .bl b, _ => ⟨_, rfl, by simp [PyData.eqv]⟩
  | k + 1, .int b, _ => ⟨_, rfl, by simp [PyData.eqv]⟩
  | k + 1, .str b, _ => ⟨_, rfl, by simp [PyData.eqv]⟩
  | k + 1, .tup xs, h => by
    simp only [pureV, List.all_eq_true] at h
    have all : ∀ (ws : List Val), (∀ w ∈ ws, pureV k w = true) → ∃ ys, ws.mapM (dat S k) = some ys ∧ PyData.eqvAll ys ys = true := by
      intro ws
      induction ws with
      | nil => intro _; exact ⟨[], rfl, by simp only [PyData.eqvAll]⟩
      | cons w r ih =>
        intro hh
        obtain ⟨y, e1, e2⟩ := dat_pure (S := S) k w (hh w List.mem_cons_self)
        obtain ⟨ys, e3, e4⟩ := ih fun w hw => hh w (List.mem_cons_of_mem _ hw)
        refine ⟨y :: ys, ?_, ?_⟩
        · rw [List.mapM_cons, e1, e3]; rfl
        · simp only [PyData.eqvAll, e2, e4, Bool.and_self]
    obtain ⟨ys, e1, e2⟩ := all xs h
    refine ⟨.tuple ys, ?_, ?_⟩
    · simp only [dat, e1, Option.map_some]
    · simp only [PyData.eqv, e2]
theorem same_ne {S : Hm} {v : Val} {Q : Bool → Prop} (h : pureV 60 v = true) (hq : Q false) : cmpW .NotEq v v S Q := by
  obtain ⟨x, e1, e2⟩ := dat_pure (S := S) 60 v h
  simp only [cmpW]
  refine .inl ⟨x, x, e1, e1, ?_⟩
  rw [e2]
  exact hq
theorem same_eq {S : Hm} {v : Val} {Q : Bool → Prop} (h : pureV 60 v = true) (hq : Q true) : eqW v v S Q := by
  obtain ⟨x, e1, e2⟩ := dat_pure (S := S) 60 v h
  refine .inl ⟨x, x, e1, e1, ?_⟩
  rw [e2]
  exact hq
theorem pure_mono : ∀ (k j : Nat) (v : Val), k ≤ j → pureV k v = true → pureV j v = true
  | k, j, .non, _, _ => by cases j <;> rfl
  | k, j, .bl _, _, _ => by cases j <;> rfl
  | k, j, .int _, _, _ => by cases j <;> rfl
  | k, j, .str _, _, _ => by cases j <;> rfl
  | k + 1, j + 1, .tup xs, hk, h => by
    simp only [pureV, List.all_eq_true] at h ⊢
    exact fun x hx => pure_mono k j x (by omega) (h x hx)
  | k + 1, 0, .tup xs, hk, h => by omega
  | 0, _, .tup _, _, h => by simp [pureV] at h
  | 0, _, .ref _, _, h => by simp [pureV] at h
  | k + 1, _, .ref _, _, h => by simp [pureV] at h
  | 0, _, .exc _, _, h => by simp [pureV] at h
  | k + 1, _, .exc _, _, h => by simp [pureV] at h
theorem mapM_map {α β γ : Type} {f : β → Option γ} {g : α → β} {h : α → γ} : ∀ (l : List α), (∀ x, f (g x) = some (h x)) → (l.map g).mapM f = some (l.map h)
  | [], _ => rfl
  | x :: r, e => by
    rw [List.map_cons, List.mapM_cons, e x, mapM_map r e]
    rfl
theorem mapM_app {β γ : Type} {f : β → Option γ} : ∀ {a b : List β} {c d : List γ}, a.mapM f = some c → b.mapM f = some d → (a ++ b).mapM f = some (c ++ d)
  | [], b, c, d, h1, h2 => by
    simp only [List.mapM_nil] at h1
    cases h1
    exact h2
  | x :: a, b, c, d, h1, h2 => by
    rw [List.mapM_cons] at h1
    rw [List.cons_append, List.mapM_cons]
    cases e : f x with
    | none => rw [e] at h1; cases h1
    | some y =>
      rw [e] at h1
      cases e2 : a.mapM f with
      | none => rw [e2] at h1; cases h1
      | some ys =>
        rw [e2] at h1
        cases h1
        rw [mapM_app e2 h2]
        rfl
theorem eqD_nil {ds : List PyData} : PyData.eqv (.list ds) (.list []) = ds.isEmpty := by cases ds <;> rfl
/-- l != [] -/
theorem ne_nil {S : Hm} {a b : Nat} {xs : List Val} {ds : List PyData} {Q : Bool → Prop} (ha : S[a]? = some (.lst xs)) (hb : S[b]? = some (.lst [])) (hd : xs.mapM (dat S 59) = some ds) (hq : Q (!xs.isEmpty)) : cmpW .NotEq (.ref a) (.ref b) S Q := by
  simp only [cmpW]
  refine .inl ⟨.list ds, .list [], ?_, ?_, ?_⟩
  · simp only [dat, lst_at ha, hd, Option.map_some]
  · simp only [dat, lst_at hb]; rfl
  · rw [eqD_nil]
    have : ds.isEmpty = xs.isEmpty := by
      cases xs with
      | nil => simp only [List.mapM_nil] at hd; cases hd; rfl
      | cons x r =>
        rw [List.mapM_cons] at hd
        cases e : dat S 59 x with
        | none => rw [e] at hd; cases hd
        | some y =>
          rw [e] at hd
          cases e2 : r.mapM (dat S 59) with
          | none => rw [e2] at hd; cases hd
          | some ys => rw [e2] at hd; cases hd; rfl
    rw [this]
    exact hq
theorem set_mid {α : Type} {A B : List α} {a b : α} : (A ++ a :: B).set A.length b = A ++ b :: B := by simp
theorem set_at {α : Type} {A B : List α} {a b : α} {n : Nat} (h : n = A.length) : (A ++ a :: B).set n b = A ++ b :: B := by subst h; simp
theorem ixN_nat {n j : Nat} (h : j < n) : ixN n (j : Int) = some j := by
  unfold ixN
  rw [if_pos (by omega), if_pos (by omega), Int.toNat_natCast]
section
variable {S : Hm}
theorem at_mem {n : Nat} {xs : List Val} {r : Int} {Q : Post} (h : S[n]? = some (.lst xs)) (h0 : 0 ≤ r) (h1 : r < xs.length) (hq : ∀ v ∈ xs, Q v S) : subW (.ref n) (.int r) S Q := by
  obtain ⟨j, rfl⟩ := Int.eq_ofNat_of_zero_le h0
  have hj : j < xs.length := by omega
  exact subW_lst (lst_at h) (ix_nat (List.getElem?_eq_getElem hj)) (hq _ (List.getElem_mem hj))
end
end Mi

set_option maxHeartbeats 4000000
namespace K43
open Mi PySem PySem.Spec L2 PyProof.Rows
abbrev pw : Program := PySem.Challenge.pw_facework_k43_faces_shown
def top (i : Nat) : Stmt := pw.main.body.getD i (.Pass ⟨0, 0, 0, 0⟩)
def mth (i j : Nat) : Stmt := match top i with
  | .ClassDef _ _ _ b _ _ _ _ _ _ _ => b.getD j (.Pass ⟨0, 0, 0, 0⟩)
  | _ => .Pass ⟨0, 0, 0, 0⟩
def s1_f_wall : Sts := (.cons .pass .nil)
def s2_f_wall : Sts := (.cons (.while (.v (.lit (.bl true))) s1_f_wall) .nil)
def d_f_wall : FDef := { params := 1, names := ["k"], dflt := [], body :=
    s2_f_wall }
def r_f_wall : Rw := ⟨.f "_wall", d_f_wall, ⟨("_wall", none), "_wall", "_wall", defArgs (top 0), defBody (top 0), defScope (top 0), [], []⟩⟩
theorem b_f_wall : BindP r_f_wall := .of0 rfl fun _ _ _ _ _ _ us hl => match us, hl with | [_], _ => rfl
def s1_f_is_variable : Sts := (.cons (.ret (.and (.isi (.loc 0) [.str]) (.bm .startswith (.loc 0) (.cons (.lit (.str "?")) .nil)))) .nil)
def d_f_is_variable : FDef := { params := 1, names := ["kind"], dflt := [], body :=
    s1_f_is_variable }
def r_f_is_variable : Rw := ⟨.f "is_variable", d_f_is_variable, ⟨("is_variable", none), "is_variable", "is_variable", defArgs (top 2), defBody (top 2), defScope (top 2), [], []⟩⟩
theorem b_f_is_variable : BindP r_f_is_variable := .of0 rfl fun _ _ _ _ _ _ us hl => match us, hl with | [_], _ => rfl
def s1_f_within : Sts := (.cons (.ret (.slice (.loc 0) (.some (.lit (.int 1))) .none)) .nil)
def s2_f_within : Sts := (.cons (.ret (.tup .nil)) .nil)
def s3_f_within : Sts := (.cons (.ife (.v (.isi (.loc 0) [.tuple])) s1_f_within .nil) s2_f_within)
def d_f_within : FDef := { params := 1, names := ["kind"], dflt := [], body :=
    s3_f_within }
def r_f_within : Rw := ⟨.f "within", d_f_within, ⟨("within", none), "within", "within", defArgs (top 3), defBody (top 3), defScope (top 3), [], []⟩⟩
theorem b_f_within : BindP r_f_within := .of0 rfl fun _ _ _ _ _ _ us hl => match us, hl with | [_], _ => rfl
def s1_f_gather : Sts := (.cons (.expr (.bm .append (.loc 1) (.cons (.loc 0) .nil))) .nil)
def s2_f_gather : Sts := (.cons (.expr (.call "gather" (.cons (.loc 2) (.cons (.loc 1) .nil)))) .nil)
def s3_f_gather : Sts := (.cons (.for (.nm 2) (.seq (.call "within" (.cons (.loc 0) .nil))) s2_f_gather) .nil)
def s4_f_gather : Sts := (.cons (.ife (.and (.v (.call "is_variable" (.cons (.loc 0) .nil))) (.v (.cmp .NotIn (.loc 0) (.loc 1)))) s1_f_gather .nil) s3_f_gather)
def d_f_gather : FDef := { params := 2, names := ["kind", "found", "part"], dflt := [], body :=
    s4_f_gather }
def r_f_gather : Rw := ⟨.f "gather", d_f_gather, ⟨("gather", none), "gather", "gather", defArgs (top 4), defBody (top 4), defScope (top 4), [], []⟩⟩
theorem b_f_gather : BindP r_f_gather := .of0 rfl fun _ _ _ _ _ _ us hl => match us, hl with | [_, _], _ => rfl
def s1_f_variables : Sts := (.cons (.ret (.loc 1)) .nil)
def s2_f_variables : Sts := (.cons (.set 1 (.lst .nil)) (.cons (.expr (.call "gather" (.cons (.loc 0) (.cons (.loc 1) .nil)))) s1_f_variables))
def d_f_variables : FDef := { params := 1, names := ["kind", "found"], dflt := [], body :=
    s2_f_variables }
def r_f_variables : Rw := ⟨.f "variables", d_f_variables, ⟨("variables", none), "variables", "variables", defArgs (top 5), defBody (top 5), defScope (top 5), [], []⟩⟩
theorem b_f_variables : BindP r_f_variables := .of0 rfl fun _ _ _ _ _ _ us hl => match us, hl with | [_], _ => rfl
def s1_f_put : Sts := (.cons (.ret (.bm .get (.loc 1) (.cons (.loc 0) (.cons (.loc 0) .nil)))) .nil)
def s2_f_put : Sts := (.cons (.ret (.bin .Add (.slice (.loc 0) .none (.some (.lit (.int 1)))) (.bi .tuple (.cons (.lc (.call "put" (.cons (.loc 2) (.cons (.loc 1) .nil))) (.nm 2) (.seq (.slice (.loc 0) (.some (.lit (.int 1))) .none)) .none [("part", 2)]) .nil)))) .nil)
def s3_f_put : Sts := (.cons (.ret (.loc 0)) .nil)
def s4_f_put : Sts := (.cons (.ife (.v (.isi (.loc 0) [.tuple])) s2_f_put .nil) s3_f_put)
def s5_f_put : Sts := (.cons (.ife (.v (.call "is_variable" (.cons (.loc 0) .nil))) s1_f_put .nil) s4_f_put)
def d_f_put : FDef := { params := 2, names := ["kind", "by", "part"], dflt := [], body :=
    s5_f_put }
def r_f_put : Rw := ⟨.f "put", d_f_put, ⟨("put", none), "put", "put", defArgs (top 6), defBody (top 6), defScope (top 6), [], []⟩⟩
theorem b_f_put : BindP r_f_put := .of0 rfl fun _ _ _ _ _ _ us hl => match us, hl with | [_, _], _ => rfl
def s1_f_reference : Sts := (.cons (.ret (.tup (.cons (.loc 0) .nil))) .nil)
def s2_f_reference : Sts := (.cons (.ret (.loc 0)) .nil)
def s3_f_reference : Sts := (.cons (.ife (.v (.isi (.loc 0) [.str])) s1_f_reference .nil) s2_f_reference)
def d_f_reference : FDef := { params := 1, names := ["thing"], dflt := [], body :=
    s3_f_reference }
def r_f_reference : Rw := ⟨.f "reference", d_f_reference, ⟨("reference", none), "reference", "reference", defArgs (top 8), defBody (top 8), defScope (top 8), [], []⟩⟩
theorem b_f_reference : BindP r_f_reference := .of0 rfl fun _ _ _ _ _ _ us hl => match us, hl with | [_], _ => rfl
def s1_f_moved_word : Sts := (.cons (.ret (.loc 0)) .nil)
def s2_f_moved_word : Sts := (.cons (.setL [2, 3] (.bm .split (.loc 0) (.cons (.lit (.str ".")) .nil))) (.cons (.ret (.bin .Add (.bin .Add (.bm .get (.loc 1) (.cons (.loc 2) (.cons (.loc 2) .nil))) (.lit (.str "."))) (.loc 3))) .nil))
def s3_f_moved_word : Sts := (.cons (.ife (.or (.v (.bm .startswith (.loc 0) (.cons (.lit (.str "?")) .nil))) (.v (.cmp .NotIn (.lit (.str ".")) (.loc 0)))) s1_f_moved_word .nil) s2_f_moved_word)
def d_f_moved_word : FDef := { params := 2, names := ["word", "by", "head", "tail"], dflt := [], body :=
    s3_f_moved_word }
def r_f_moved_word : Rw := ⟨.f "moved_word", d_f_moved_word, ⟨("moved_word", none), "moved_word", "moved_word", defArgs (top 9), defBody (top 9), defScope (top 9), [], []⟩⟩
theorem b_f_moved_word : BindP r_f_moved_word := .of0 rfl fun _ _ _ _ _ _ us hl => match us, hl with | [_, _], _ => rfl
def s1_f_moved_reference : Sts := (.cons (.ret (.bin .Add (.slice (.loc 0) .none (.some (.lit (.int 1)))) (.bi .tuple (.cons (.lc (.bm .get (.loc 1) (.cons (.loc 2) (.cons (.loc 2) .nil))) (.nm 2) (.seq (.slice (.loc 0) (.some (.lit (.int 1))) .none)) .none [("part", 2)]) .nil)))) .nil)
def d_f_moved_reference : FDef := { params := 2, names := ["one", "by", "part"], dflt := [], body :=
    s1_f_moved_reference }
def r_f_moved_reference : Rw := ⟨.f "moved_reference", d_f_moved_reference, ⟨("moved_reference", none), "moved_reference", "moved_reference", defArgs (top 10), defBody (top 10), defScope (top 10), [], []⟩⟩
theorem b_f_moved_reference : BindP r_f_moved_reference := .of0 rfl fun _ _ _ _ _ _ us hl => match us, hl with | [_, _], _ => rfl
def s1_f_unfolded : Sts := (.cons (.set 3 (.sub (.loc 0) (.lit (.int 0)))) (.cons (.set 4 (.bi .tuple (.cons (.lc (.call "unfolded" (.cons (.loc 7) (.cons (.loc 1) (.cons (.loc 2) .nil)))) (.nm 7) (.seq (.slice (.loc 0) (.some (.lit (.int 1))) .none)) .none [("one", 7)]) .nil))) .nil))
def s2_f_unfolded : Sts := (.cons (.setT [5, 6] (.sub (.loc 2) (.loc 3))) (.cons (.ret (.call "put" (.cons (.loc 6) (.cons (.vi .dictZ (.cons (.loc 5) (.cons (.loc 4) .nil))) .nil)))) .nil))
def s3_f_unfolded : Sts := (.cons (.ret (.loc 3)) .nil)
def s4_f_unfolded : Sts := (.cons (.ret (.bin .Add (.tup (.cons (.loc 3) .nil)) (.loc 4))) .nil)
def s5_f_unfolded : Sts := (.cons (.ife (.v (.cmp .Eq (.loc 4) (.tup .nil))) s3_f_unfolded .nil) s4_f_unfolded)
def s6_f_unfolded : Sts := (.cons (.set 3 (.call "moved_word" (.cons (.loc 3) (.cons (.loc 1) .nil)))) s5_f_unfolded)
def s7_f_unfolded : Sts := (.cons (.ife (.v (.cmp .In (.loc 3) (.loc 2))) s2_f_unfolded .nil) s6_f_unfolded)
def s8_f_unfolded : Sts := (.cons (.set 3 (.loc 0)) (.cons (.set 4 (.tup .nil)) (.cons (.ife (.v (.isi (.loc 0) [.tuple])) s1_f_unfolded .nil) s7_f_unfolded)))
def d_f_unfolded : FDef := { params := 3, names := ["kind", "by", "hides", "head", "kinds", "names", "inner", "one"], dflt := [], body :=
    s8_f_unfolded }
def r_f_unfolded : Rw := ⟨.f "unfolded", d_f_unfolded, ⟨("unfolded", none), "unfolded", "unfolded", defArgs (top 11), defBody (top 11), defScope (top 11), [], []⟩⟩
theorem b_f_unfolded : BindP r_f_unfolded := .of0 rfl fun _ _ _ _ _ _ us hl => match us, hl with | [_, _, _], _ => rfl
def s1_f_path_kind : Sts := (.cons (.ret (.loc 0)) .nil)
def s2_f_path_kind : Sts := (.cons (.ret (.bin .Add (.tup (.cons (.loc 0) .nil)) (.loc 1))) .nil)
def s3_f_path_kind : Sts := (.cons (.ife (.v (.cmp .Eq (.loc 1) (.tup .nil))) s1_f_path_kind .nil) s2_f_path_kind)
def d_f_path_kind : FDef := { params := 2, names := ["path", "names"], dflt := [], body :=
    s3_f_path_kind }
def r_f_path_kind : Rw := ⟨.f "path_kind", d_f_path_kind, ⟨("path_kind", none), "path_kind", "path_kind", defArgs (top 12), defBody (top 12), defScope (top 12), [], []⟩⟩
theorem b_f_path_kind : BindP r_f_path_kind := .of0 rfl fun _ _ _ _ _ _ us hl => match us, hl with | [_, _], _ => rfl
def s1_f_given_by : Sts := (.cons (.setI (.loc 2) (.sub (.loc 3) (.lit (.int 0))) (.loc 4)) .nil)
def s2_f_given_by : Sts := (.cons (.ret (.loc 2)) .nil)
def s3_f_given_by : Sts := (.cons (.set 2 (.dic .nil)) (.cons (.for (.tp [3, 4]) (.zip (.loc 0) (.loc 1)) s1_f_given_by) s2_f_given_by))
def d_f_given_by : FDef := { params := 2, names := ["givers", "parts", "by", "giver", "part"], dflt := [], body :=
    s3_f_given_by }
def r_f_given_by : Rw := ⟨.f "given_by", d_f_given_by, ⟨("given_by", none), "given_by", "given_by", defArgs (top 13), defBody (top 13), defScope (top 13), [], []⟩⟩
theorem b_f_given_by : BindP r_f_given_by := .of0 rfl fun _ _ _ _ _ _ us hl => match us, hl with | [_, _], _ => rfl
def s1_f_law_state : Sts := (.cons (.ret (.lst (.cons (.bin .Mod (.loc 0) (.bin .Pow (.lit (.int 10)) (.lit (.int 60)))) (.cons (.loc 2) .nil)))) .nil)
def s2_f_law_state : Sts := (.cons (.ret (.lst (.cons (.lit (.int 0)) (.cons (.loc 2) .nil)))) .nil)
def s3_f_law_state : Sts := (.cons (.set 2 (.bin .Mod (.bin .Add (.bin .Mult (.bin .Mod (.loc 0) (.lit (.int 2305843009213693951))) (.lit (.int 1000000007))) (.lit (.int 104729))) (.lit (.int 2305843009213693951)))) (.cons (.ife (.v (.cmp .Eq (.bin .Mod (.loc 1) (.lit (.int 2))) (.lit (.int 0)))) s1_f_law_state .nil) s2_f_law_state))
def d_f_law_state : FDef := { params := 2, names := ["_law_cell", "_law_way", "_law_mixed"], dflt := [], body :=
    s3_f_law_state }
def r_f_law_state : Rw := ⟨.f "_law_state", d_f_law_state, ⟨("_law_state", none), "_law_state", "_law_state", defArgs (top 16), defBody (top 16), defScope (top 16), [], []⟩⟩
theorem b_f_law_state : BindP r_f_law_state := .of0 rfl fun _ _ _ _ _ _ us hl => match us, hl with | [_, _], _ => rfl
def s1_f_law_next : Sts := (.cons (.set 2 (.bin .Mod (.sub (.loc 0) (.lit (.int 0))) (.loc 1))) (.cons (.setI (.loc 0) (.lit (.int 0)) (.bin .FloorDiv (.sub (.loc 0) (.lit (.int 0))) (.loc 1))) (.cons (.ret (.loc 2)) .nil)))
def s2_f_law_next : Sts := (.cons (.setI (.loc 0) (.lit (.int 1)) (.bin .Mod (.bin .Add (.bin .Mult (.sub (.loc 0) (.lit (.int 1))) (.lit (.int 1181783497276652981))) (.lit (.int 12345678910987))) (.lit (.int 2305843009213693951)))) (.cons (.ret (.bin .Mod (.bin .FloorDiv (.sub (.loc 0) (.lit (.int 1))) (.lit (.int 65537))) (.loc 1))) .nil))
def s3_f_law_next : Sts := (.cons (.ife (.v (.cmp .Gt (.sub (.loc 0) (.lit (.int 0))) (.lit (.int 0)))) s1_f_law_next .nil) s2_f_law_next)
def d_f_law_next : FDef := { params := 2, names := ["_law_state_here", "_law_many", "_law_got"], dflt := [], body :=
    s3_f_law_next }
def r_f_law_next : Rw := ⟨.f "_law_next", d_f_law_next, ⟨("_law_next", none), "_law_next", "_law_next", defArgs (top 17), defBody (top 17), defScope (top 17), [], []⟩⟩
theorem b_f_law_next : BindP r_f_law_next := .of0 rfl fun _ _ _ _ _ _ us hl => match us, hl with | [_, _], _ => rfl
def s1_f_law_sum : Sts := (.cons (.set 1 (.bin .Mod (.bin .Add (.bin .Mult (.loc 1) (.lit (.int 1000003))) (.loc 2)) (.bin .Pow (.lit (.int 10)) (.lit (.int 60))))) .nil)
def s2_f_law_sum : Sts := (.cons (.ret (.loc 1)) .nil)
def s3_f_law_sum : Sts := (.cons (.set 1 (.bi .len (.cons (.loc 0) .nil))) (.cons (.for (.nm 2) (.seq (.slice (.loc 0) .none (.some (.lit (.int 200))))) s1_f_law_sum) s2_f_law_sum))
def d_f_law_sum : FDef := { params := 1, names := ["_law_script", "_law_total", "_law_cell"], dflt := [], body :=
    s3_f_law_sum }
def r_f_law_sum : Rw := ⟨.f "_law_sum", d_f_law_sum, ⟨("_law_sum", none), "_law_sum", "_law_sum", defArgs (top 18), defBody (top 18), defScope (top 18), [], []⟩⟩
theorem b_f_law_sum : BindP r_f_law_sum := .of0 rfl fun _ _ _ _ _ _ us hl => match us, hl with | [_], _ => rfl
def s1_f_law_sorts : Sts := (.cons (.ret (.lst (.cons (.tup (.cons (.lit (.str "kind")) (.cons (.lit (.str "col")) (.cons (.tup .nil) (.cons (.tup (.cons (.lit (.str "Red")) .nil)) (.cons (.tup (.cons (.lit (.str "Blue")) .nil)) .nil)))))) (.cons (.tup (.cons (.lit (.str "kind")) (.cons (.lit (.str "opt")) (.cons (.tup (.cons (.lit (.str "?a")) .nil)) (.cons (.tup (.cons (.lit (.str "No")) .nil)) (.cons (.tup (.cons (.lit (.str "Yes")) (.cons (.lit (.str "?a")) .nil))) .nil)))))) (.cons (.tup (.cons (.lit (.str "record")) (.cons (.lit (.str "duo")) (.cons (.tup (.cons (.lit (.str "?a")) (.cons (.lit (.str "?b")) .nil))) (.cons (.tup (.cons (.lit (.str "left")) (.cons (.lit (.str "?a")) .nil))) (.cons (.tup (.cons (.lit (.str "right")) (.cons (.lit (.str "?b")) .nil))) .nil)))))) .nil))))) .nil)
def d_f_law_sorts : FDef := { params := 0, names := [], dflt := [], body :=
    s1_f_law_sorts }
def r_f_law_sorts : Rw := ⟨.f "_law_sorts", d_f_law_sorts, ⟨("_law_sorts", none), "_law_sorts", "_law_sorts", defArgs (top 19), defBody (top 19), defScope (top 19), [], []⟩⟩
theorem b_f_law_sorts : BindP r_f_law_sorts := .of0 rfl fun _ _ _ _ _ _ us hl => match us, hl with | [], _ => rfl
def s1_f_law_put : Sts := (.cons (.ret (.bm .get (.loc 1) (.cons (.loc 0) (.cons (.loc 0) .nil)))) .nil)
def s2_f_law_put : Sts := (.cons (.ret (.bin .Add (.slice (.loc 0) .none (.some (.lit (.int 1)))) (.bi .tuple (.cons (.lc (.call "_law_put" (.cons (.loc 2) (.cons (.loc 1) .nil))) (.nm 2) (.seq (.slice (.loc 0) (.some (.lit (.int 1))) .none)) .none [("_law_part", 2)]) .nil)))) .nil)
def s3_f_law_put : Sts := (.cons (.ife (.v (.isi (.loc 0) [.str])) s1_f_law_put .nil) s2_f_law_put)
def d_f_law_put : FDef := { params := 2, names := ["_law_kind", "_law_by_here", "_law_part"], dflt := [], body :=
    s3_f_law_put }
def r_f_law_put : Rw := ⟨.f "_law_put", d_f_law_put, ⟨("_law_put", none), "_law_put", "_law_put", defArgs (top 20), defBody (top 20), defScope (top 20), [], []⟩⟩
theorem b_f_law_put : BindP r_f_law_put := .of0 rfl fun _ _ _ _ _ _ us hl => match us, hl with | [_, _], _ => rfl
def s1_f_law_word : Sts := (.cons (.ret (.loc 0)) .nil)
def s2_f_law_word : Sts := (.cons (.setL [2, 3] (.bm .split (.loc 0) (.cons (.lit (.str ".")) .nil))) (.cons (.ret (.bin .Add (.bin .Add (.bm .get (.loc 1) (.cons (.loc 2) (.cons (.loc 2) .nil))) (.lit (.str "."))) (.loc 3))) .nil))
def s3_f_law_word : Sts := (.cons (.ife (.v (.cmp .NotIn (.lit (.str ".")) (.loc 0))) s1_f_law_word .nil) s2_f_law_word)
def d_f_law_word : FDef := { params := 2, names := ["_law_word_here", "_law_by_here", "_law_head", "_law_tail"], dflt := [], body :=
    s3_f_law_word }
def r_f_law_word : Rw := ⟨.f "_law_word", d_f_law_word, ⟨("_law_word", none), "_law_word", "_law_word", defArgs (top 21), defBody (top 21), defScope (top 21), [], []⟩⟩
theorem b_f_law_word : BindP r_f_law_word := .of0 rfl fun _ _ _ _ _ _ us hl => match us, hl with | [_, _], _ => rfl
def s1_f_law_turned : Sts := (.cons (.ret (.sub (.sub (.loc 2) (.loc 0)) (.lit (.int 1)))) .nil)
def s2_f_law_turned : Sts := (.cons (.ret (.call "_law_word" (.cons (.loc 0) (.cons (.loc 1) .nil)))) .nil)
def s3_f_law_turned : Sts := (.cons (.ife (.v (.cmp .In (.loc 0) (.loc 2))) s1_f_law_turned .nil) s2_f_law_turned)
def s4_f_law_turned : Sts := (.cons (.setT [5, 6] (.sub (.loc 2) (.sub (.loc 0) (.lit (.int 0))))) (.cons (.ret (.call "_law_put" (.cons (.loc 6) (.cons (.vi .dictZ (.cons (.loc 5) (.cons (.loc 3) .nil))) .nil)))) .nil))
def s5_f_law_turned : Sts := (.cons (.ret (.bin .Add (.tup (.cons (.call "_law_word" (.cons (.sub (.loc 0) (.lit (.int 0))) (.cons (.loc 1) .nil))) .nil)) (.bi .tuple (.cons (.loc 3) .nil)))) .nil)
def s6_f_law_turned : Sts := (.cons (.ife (.v (.cmp .In (.sub (.loc 0) (.lit (.int 0))) (.loc 2))) s4_f_law_turned .nil) s5_f_law_turned)
def s7_f_law_turned : Sts := (.cons (.set 3 (.lc (.call "_law_turned" (.cons (.loc 4) (.cons (.loc 1) (.cons (.loc 2) .nil)))) (.nm 4) (.seq (.slice (.loc 0) (.some (.lit (.int 1))) .none)) .none [("_law_part", 4)])) s6_f_law_turned)
def s8_f_law_turned : Sts := (.cons (.ife (.v (.isi (.loc 0) [.str])) s3_f_law_turned .nil) s7_f_law_turned)
def d_f_law_turned : FDef := { params := 3, names := ["_law_kind", "_law_by_here", "_law_hides", "_law_parts", "_law_part", "_law_put_letters", "_law_inner"], dflt := [], body :=
    s8_f_law_turned }
def r_f_law_turned : Rw := ⟨.f "_law_turned", d_f_law_turned, ⟨("_law_turned", none), "_law_turned", "_law_turned", defArgs (top 22), defBody (top 22), defScope (top 22), [], []⟩⟩
theorem b_f_law_turned : BindP r_f_law_turned := .of0 rfl fun _ _ _ _ _ _ us hl => match us, hl with | [_, _, _], _ => rfl
def s1_f_law_variables : Sts := (.cons (.ret (.slice (.lst (.cons (.loc 0) .nil)) .none (.some (.bi .int (.cons (.bm .startswith (.loc 0) (.cons (.lit (.str "?")) .nil)) .nil))))) .nil)
def s2_f_law_variables : Sts := (.cons (.set 1 (.bin .Add (.loc 1) (.lc (.loc 3) (.nm 3) (.seq (.call "_law_variables" (.cons (.loc 2) .nil))) (.some (.v (.cmp .NotIn (.loc 3) (.loc 1)))) [("_law_one", 3)]))) .nil)
def s3_f_law_variables : Sts := (.cons (.ret (.loc 1)) .nil)
def s4_f_law_variables : Sts := (.cons (.set 1 (.lst .nil)) (.cons (.for (.nm 2) (.seq (.slice (.loc 0) (.some (.lit (.int 1))) .none)) s2_f_law_variables) s3_f_law_variables))
def s5_f_law_variables : Sts := (.cons (.ife (.v (.isi (.loc 0) [.str])) s1_f_law_variables .nil) s4_f_law_variables)
def d_f_law_variables : FDef := { params := 1, names := ["_law_kind", "_law_got", "_law_part", "_law_one"], dflt := [], body :=
    s5_f_law_variables }
def r_f_law_variables : Rw := ⟨.f "_law_variables", d_f_law_variables, ⟨("_law_variables", none), "_law_variables", "_law_variables", defArgs (top 23), defBody (top 23), defScope (top 23), [], []⟩⟩
theorem b_f_law_variables : BindP r_f_law_variables := .of0 rfl fun _ _ _ _ _ _ us hl => match us, hl with | [_], _ => rfl
def s1_f_law_scheme : Sts := (.cons (.ret (.tup (.cons (.bi .tuple (.cons (.call "_law_variables" (.cons (.loc 0) .nil)) .nil)) (.cons (.loc 0) .nil)))) .nil)
def d_f_law_scheme : FDef := { params := 1, names := ["_law_kind"], dflt := [], body :=
    s1_f_law_scheme }
def r_f_law_scheme : Rw := ⟨.f "_law_scheme", d_f_law_scheme, ⟨("_law_scheme", none), "_law_scheme", "_law_scheme", defArgs (top 24), defBody (top 24), defScope (top 24), [], []⟩⟩
theorem b_f_law_scheme : BindP r_f_law_scheme := .of0 rfl fun _ _ _ _ _ _ us hl => match us, hl with | [_], _ => rfl
def s1_f_law_path : Sts := (.cons (.ret (.bin .Add (.bin .Add (.loc 0) (.lit (.str "."))) (.loc 1))) .nil)
def s2_f_law_path : Sts := (.cons (.ret (.bin .Add (.tup (.cons (.bin .Add (.bin .Add (.loc 0) (.lit (.str "."))) (.loc 1)) .nil)) (.slice (.tup (.cons (.lit (.str "?a")) (.cons (.lit (.str "?b")) .nil))) .none (.some (.loc 2))))) .nil)
def s3_f_law_path : Sts := (.cons (.ife (.v (.cmp .Eq (.loc 2) (.lit (.int 0)))) s1_f_law_path .nil) s2_f_law_path)
def d_f_law_path : FDef := { params := 3, names := ["_law_name", "_law_hide", "_law_many"], dflt := [], body :=
    s3_f_law_path }
def r_f_law_path : Rw := ⟨.f "_law_path", d_f_law_path, ⟨("_law_path", none), "_law_path", "_law_path", defArgs (top 25), defBody (top 25), defScope (top 25), [], []⟩⟩
theorem b_f_law_path : BindP r_f_law_path := .of0 rfl fun _ _ _ _ _ _ us hl => match us, hl with | [_, _, _], _ => rfl
def s1_f_law_by : Sts := (.cons (.setI (.loc 2) (.sub (.loc 3) (.lit (.int 0))) (.loc 4)) .nil)
def s2_f_law_by : Sts := (.cons (.ret (.loc 2)) .nil)
def s3_f_law_by : Sts := (.cons (.set 2 (.dic .nil)) (.cons (.for (.tp [3, 4]) (.zip (.loc 0) (.loc 1)) s1_f_law_by) s2_f_law_by))
def d_f_law_by : FDef := { params := 2, names := ["_law_givers", "_law_parts", "_law_by_here", "_law_giver", "_law_part"], dflt := [], body :=
    s3_f_law_by }
def r_f_law_by : Rw := ⟨.f "_law_by", d_f_law_by, ⟨("_law_by", none), "_law_by", "_law_by", defArgs (top 26), defBody (top 26), defScope (top 26), [], []⟩⟩
theorem b_f_law_by : BindP r_f_law_by := .of0 rfl fun _ _ _ _ _ _ us hl => match us, hl with | [_, _], _ => rfl
def s1_f_law_shown : Sts := (.cons (.setI (.loc 4) (.loc 9) (.tup (.cons (.slice (.tup (.cons (.lit (.str "?a")) (.cons (.lit (.str "?b")) .nil))) .none (.some (.loc 10))) (.cons (.call "_law_path" (.cons (.loc 1) (.cons (.loc 9) (.cons (.loc 10) .nil)))) .nil)))) .nil)
def s2_f_law_shown : Sts := (.cons (.setI (.loc 5) (.bin .Add (.bin .Add (.loc 1) (.lit (.str "."))) (.loc 9)) (.call "_law_scheme" (.cons (.call "_law_turned" (.cons (.loc 10) (.cons (.loc 3) (.cons (.loc 4) .nil)))) .nil))) .nil)
def s3_f_law_shown : Sts := (.cons (.ife (.v (.cmp .Eq (.loc 8) (.lit (.str "hide")))) s1_f_law_shown s2_f_law_shown) .nil)
def s4_f_law_shown : Sts := (.cons (.ret (.loc 5)) .nil)
def s5_f_law_shown : Sts := (.cons (.set 4 (.dic .nil)) (.cons (.set 5 (.dic .nil)) (.cons (.for (.tp [8, 9, 10]) (.seq (.loc 7)) s3_f_law_shown) s4_f_law_shown)))
def s6_f_law_shown : Sts := (.cons (.setT [6, 7] (.sub (.loc 0) (.sub (.loc 2) (.lit (.int 0))))) (.cons (.set 3 (.call "_law_by" (.cons (.loc 6) (.cons (.slice (.loc 2) (.some (.lit (.int 1))) .none) .nil)))) s5_f_law_shown))
def d_f_law_shown : FDef := { params := 3, names := ["_law_faces", "_law_name", "_law_form", "_law_by_here", "_law_hides", "_law_seen_rows", "_law_givers", "_law_items_here", "_law_word_here", "_law_small", "_law_told_here"], dflt := [], body :=
    s6_f_law_shown }
def r_f_law_shown : Rw := ⟨.f "_law_shown", d_f_law_shown, ⟨("_law_shown", none), "_law_shown", "_law_shown", defArgs (top 27), defBody (top 27), defScope (top 27), [], []⟩⟩
theorem b_f_law_shown : BindP r_f_law_shown := .of0 rfl fun _ _ _ _ _ _ us hl => match us, hl with | [_, _, _], _ => rfl
def s1_f_law_number_body : Sts := (.cons (.expr (.bm .append (.loc 1) (.cons (.tup (.cons (.lit (.str "hide")) (.cons (.loc 3) (.cons (.slice (.tup (.cons (.lit (.str "?a")) (.cons (.lit (.str "?b")) .nil))) .none (.some (.loc 4))) (.cons (.lit (.str "num")) .nil))))) .nil))) .nil)
def s2_f_law_number_body : Sts := (.cons (.expr (.bm .append (.loc 1) (.cons (.tup (.cons (.lit (.str "val")) (.cons (.loc 3) (.cons (.bin .Add (.lit (.int 3)) (.bi .len (.cons (.loc 1) .nil))) .nil)))) .nil))) .nil)
def s3_f_law_number_body : Sts := (.cons (.ife (.v (.cmp .Eq (.loc 2) (.lit (.str "hide")))) s1_f_law_number_body s2_f_law_number_body) .nil)
def s4_f_law_number_body : Sts := (.cons (.ret (.bi .tuple (.cons (.loc 1) .nil))) .nil)
def s5_f_law_number_body : Sts := (.cons (.set 1 (.lst .nil)) (.cons (.for (.tp [2, 3, 4]) (.seq (.loc 0)) s3_f_law_number_body) s4_f_law_number_body))
def d_f_law_number_body : FDef := { params := 1, names := ["_law_items_here", "_law_rows_here", "_law_word_here", "_law_small", "_law_told_here"], dflt := [], body :=
    s5_f_law_number_body }
def r_f_law_number_body : Rw := ⟨.f "_law_number_body", d_f_law_number_body, ⟨("_law_number_body", none), "_law_number_body", "_law_number_body", defArgs (top 28), defBody (top 28), defScope (top 28), [], []⟩⟩
theorem b_f_law_number_body : BindP r_f_law_number_body := .of0 rfl fun _ _ _ _ _ _ us hl => match us, hl with | [_], _ => rfl
def s1_f_law_drawn_kind : Sts := (.cons (.ret (.sub (.loc 4) (.call "_law_next" (.cons (.loc 0) (.cons (.bi .len (.cons (.loc 4) .nil)) .nil))))) .nil)
def s2_f_law_drawn_kind : Sts := (.cons (.set 4 (.lc (.loc 5) (.tp [5, 6]) (.seq (.loc 1)) (.some (.v (.cmp .Eq (.loc 6) (.lit (.int 0))))) [("_law_word_here", 5), ("_law_many", 6)])) s1_f_law_drawn_kind)
def s3_f_law_drawn_kind : Sts := (.cons (.ret (.tup (.cons (.lit (.str "->")) (.cons (.call "_law_drawn_kind" (.cons (.loc 0) (.cons (.loc 1) (.cons (.bin .Sub (.loc 2) (.lit (.int 1))) .nil)))) (.cons (.call "_law_drawn_kind" (.cons (.loc 0) (.cons (.loc 1) (.cons (.bin .Sub (.loc 2) (.lit (.int 1))) .nil)))) .nil))))) .nil)
def s4_f_law_drawn_kind : Sts := (.cons (.ret (.loc 5)) .nil)
def s5_f_law_drawn_kind : Sts := (.cons (.ret (.bin .Add (.tup (.cons (.loc 5) .nil)) (.bi .tuple (.cons (.lc (.call "_law_drawn_kind" (.cons (.loc 0) (.cons (.loc 1) (.cons (.bin .Sub (.loc 2) (.lit (.int 1))) .nil)))) (.nm 7) (.rng1 (.loc 6)) .none [("_law_k", 7)]) .nil)))) .nil)
def s6_f_law_drawn_kind : Sts := (.cons (.setT [5, 6] (.sub (.loc 1) (.loc 3))) (.cons (.ife (.v (.cmp .Eq (.loc 6) (.lit (.int 0)))) s4_f_law_drawn_kind .nil) s5_f_law_drawn_kind))
def s7_f_law_drawn_kind : Sts := (.cons (.ife (.v (.cmp .GtE (.loc 3) (.bi .len (.cons (.loc 1) .nil)))) s3_f_law_drawn_kind .nil) s6_f_law_drawn_kind)
def s8_f_law_drawn_kind : Sts := (.cons (.set 3 (.call "_law_next" (.cons (.loc 0) (.cons (.bin .Add (.bi .len (.cons (.loc 1) .nil)) (.lit (.int 2))) .nil)))) s7_f_law_drawn_kind)
def s9_f_law_drawn_kind : Sts := (.cons (.ife (.or (.v (.cmp .Lt (.loc 2) (.lit (.int 1)))) (.v (.cmp .Eq (.call "_law_next" (.cons (.loc 0) (.cons (.lit (.int 3)) .nil))) (.lit (.int 0))))) s2_f_law_drawn_kind .nil) s8_f_law_drawn_kind)
def d_f_law_drawn_kind : FDef := { params := 3, names := ["_law_state_here", "_law_atoms", "_law_deep", "_law_way", "_law_flat", "_law_word_here", "_law_many", "_law_k"], dflt := [], body :=
    s9_f_law_drawn_kind }
def r_f_law_drawn_kind : Rw := ⟨.f "_law_drawn_kind", d_f_law_drawn_kind, ⟨("_law_drawn_kind", none), "_law_drawn_kind", "_law_drawn_kind", defArgs (top 29), defBody (top 29), defScope (top 29), [], []⟩⟩
theorem b_f_law_drawn_kind : BindP r_f_law_drawn_kind := .of0 rfl fun _ _ _ _ _ _ us hl => match us, hl with | [_, _, _], _ => rfl
def s1_f_law_items : Sts := (.cons (.expr (.bm .append (.loc 5) (.cons (.tup (.cons (.lit (.str "val")) (.cons (.bin .Add (.lit (.str "v")) (.sub (.loc 2) (.loc 6))) (.cons (.call "_law_drawn_kind" (.cons (.loc 0) (.cons (.bin .Add (.loc 1) (.loc 4)) (.cons (.lit (.int 3)) .nil)))) .nil)))) .nil))) .nil)
def s2_f_law_items : Sts := (.cons (.ret (.tup (.cons (.loc 5) (.cons (.loc 4) .nil)))) .nil)
def s3_f_law_items : Sts := (.cons (.for (.nm 6) (.rng1 (.bin .Add (.loc 3) (.call "_law_next" (.cons (.loc 0) (.cons (.lit (.int 6)) .nil))))) s1_f_law_items) s2_f_law_items)
def s4_f_law_items : Sts := (.cons (.set 5 (.lc (.tup (.cons (.lit (.str "hide")) (.cons (.loc 7) (.cons (.loc 8) .nil)))) (.tp [7, 8]) (.seq (.loc 4)) .none [("_law_word_here", 7), ("_law_many", 8)])) s3_f_law_items)
def s5_f_law_items : Sts := (.cons (.set 4 (.lc (.tup (.cons (.bin .Add (.lit (.str "h")) (.sub (.loc 2) (.loc 6))) (.cons (.call "_law_next" (.cons (.loc 0) (.cons (.lit (.int 3)) .nil))) .nil))) (.nm 6) (.rng1 (.bin .Add (.loc 3) (.call "_law_next" (.cons (.loc 0) (.cons (.lit (.int 5)) .nil))))) .none [("_law_k", 6)])) s4_f_law_items)
def s6_f_law_items : Sts := (.cons (.set 2 (.lit (.str "abcdefghijkl"))) (.cons (.set 3 (.bin .Mult (.lit (.int 6)) (.bi .int (.cons (.cmp .Eq (.call "_law_next" (.cons (.loc 0) (.cons (.lit (.int 8)) .nil))) (.lit (.int 3))) .nil)))) s5_f_law_items))
def d_f_law_items : FDef := { params := 2, names := ["_law_state_here", "_law_atoms", "_law_letters", "_law_more", "_law_hides", "_law_items_here", "_law_k", "_law_word_here", "_law_many"], dflt := [], body :=
    s6_f_law_items }
def r_f_law_items : Rw := ⟨.f "_law_items", d_f_law_items, ⟨("_law_items", none), "_law_items", "_law_items", defArgs (top 30), defBody (top 30), defScope (top 30), [], []⟩⟩
theorem b_f_law_items : BindP r_f_law_items := .of0 rfl fun _ _ _ _ _ _ us hl => match us, hl with | [_, _], _ => rfl
def s1_f_law_drawn_faces : Sts := (.cons (.ret (.lst (.cons (.bin .Add (.tup (.cons (.lit (.str "face")) (.cons (.lit (.str "Fa")) (.cons (.tup .nil) .nil)))) (.bi .tuple (.cons (.loc 4) .nil))) (.cons (.bin .Add (.tup (.cons (.lit (.str "face")) (.cons (.lit (.str "Fb")) (.cons (.tup (.cons (.tup (.cons (.lit (.str "X")) (.cons (.lit (.str "Fa")) .nil))) .nil)) .nil)))) (.bi .tuple (.cons (.loc 6) .nil))) (.cons (.bin .Add (.tup (.cons (.lit (.str "face")) (.cons (.lit (.str "Fc")) (.cons (.tup (.cons (.tup (.cons (.lit (.str "X")) (.cons (.lit (.str "Fa")) .nil))) (.cons (.tup (.cons (.lit (.str "Z")) (.cons (.tup (.cons (.lit (.str "Fb")) (.cons (.lit (.str "X")) .nil))) .nil))) .nil))) .nil)))) (.bi .tuple (.cons (.loc 3) .nil))) .nil))))) .nil)
def s2_f_law_drawn_faces : Sts := (.cons (.set 3 (.sub (.call "_law_items" (.cons (.loc 0) (.cons (.bin .Add (.bin .Add (.loc 1) (.loc 2)) (.lc (.tup (.cons (.bin .Add (.lit (.str "Z.")) (.loc 8)) (.cons (.loc 9) .nil))) (.tp [8, 9]) (.seq (.loc 7)) .none [("_law_word_here", 8), ("_law_many", 9)])) .nil))) (.lit (.int 0)))) s1_f_law_drawn_faces)
def s3_f_law_drawn_faces : Sts := (.cons (.setT [6, 7] (.call "_law_items" (.cons (.loc 0) (.cons (.bin .Add (.loc 1) (.loc 2)) .nil)))) s2_f_law_drawn_faces)
def s4_f_law_drawn_faces : Sts := (.cons (.set 2 (.lc (.tup (.cons (.bin .Add (.lit (.str "X.")) (.loc 8)) (.cons (.loc 9) .nil))) (.tp [8, 9]) (.seq (.loc 5)) .none [("_law_word_here", 8), ("_law_many", 9)])) s3_f_law_drawn_faces)
def s5_f_law_drawn_faces : Sts := (.cons (.set 1 (.lst (.cons (.tup (.cons (.lit (.str "num")) (.cons (.lit (.int 0)) .nil))) (.cons (.tup (.cons (.lit (.str "?a")) (.cons (.lit (.int 0)) .nil))) (.cons (.tup (.cons (.lit (.str "?b")) (.cons (.lit (.int 0)) .nil))) (.cons (.tup (.cons (.lit (.str "opt")) (.cons (.lit (.int 1)) .nil))) (.cons (.tup (.cons (.lit (.str "duo")) (.cons (.lit (.int 2)) .nil))) .nil))))))) (.cons (.setT [4, 5] (.call "_law_items" (.cons (.loc 0) (.cons (.loc 1) .nil)))) s4_f_law_drawn_faces))
def d_f_law_drawn_faces : FDef := { params := 1, names := ["_law_state_here", "_law_flat", "_law_there", "_law_third", "_law_first", "_law_one", "_law_second", "_law_two", "_law_word_here", "_law_many"], dflt := [], body :=
    s5_f_law_drawn_faces }
def r_f_law_drawn_faces : Rw := ⟨.f "_law_drawn_faces", d_f_law_drawn_faces, ⟨("_law_drawn_faces", none), "_law_drawn_faces", "_law_drawn_faces", defArgs (top 31), defBody (top 31), defScope (top 31), [], []⟩⟩
theorem b_f_law_drawn_faces : BindP r_f_law_drawn_faces := .of0 rfl fun _ _ _ _ _ _ us hl => match us, hl with | [_], _ => rfl
def s1_f_law_told : Sts := (.cons (.ret (.sub (.loc 0) (.lit (.int 0)))) .nil)
def s2_f_law_told : Sts := (.cons (.ret (.loc 0)) .nil)
def s3_f_law_told : Sts := (.cons (.ife (.v (.cmp .Eq (.bi .len (.cons (.loc 0) .nil)) (.lit (.int 1)))) s1_f_law_told .nil) s2_f_law_told)
def d_f_law_told : FDef := { params := 1, names := ["_law_form"], dflt := [], body :=
    s3_f_law_told }
def r_f_law_told : Rw := ⟨.f "_law_told", d_f_law_told, ⟨("_law_told", none), "_law_told", "_law_told", defArgs (top 32), defBody (top 32), defScope (top 32), [], []⟩⟩
theorem b_f_law_told : BindP r_f_law_told := .of0 rfl fun _ _ _ _ _ _ us hl => match us, hl with | [_], _ => rfl
def s1_f_law_rows : Sts := (.cons (.expr (.bm .append (.loc 5) (.cons (.tup (.cons (.loc 6) (.cons (.tup (.cons (.lit (.str "Fb")) (.cons (.sub (.loc 4) (.call "_law_next" (.cons (.loc 0) (.cons (.bi .len (.cons (.loc 4) .nil)) .nil)))) .nil))) .nil))) .nil))) .nil)
def s2_f_law_rows : Sts := (.cons (.setI (.loc 2) (.loc 6) (.loc 10)) .nil)
def s3_f_law_rows : Sts := (.cons (.expr (.bm .append (.loc 3) (.cons (.bin .Add (.tup (.cons (.lit (.str "part")) (.cons (.loc 6) (.cons (.call "_law_told" (.cons (.loc 10) .nil)) .nil)))) (.call "_law_number_body" (.cons (.sub (.sub (.loc 1) (.sub (.loc 10) (.lit (.int 0)))) (.lit (.int 1))) .nil))) .nil))) s2_f_law_rows)
def s4_f_law_rows : Sts := (.cons (.set 3 (.bin .Add (.loc 3) (.lst (.cons (.tup (.cons (.lit (.str "apply")) (.cons (.lit (.str "Qa")) (.cons (.lit (.str "Ma")) (.cons (.loc 8) .nil))))) (.cons (.tup (.cons (.lit (.str "apply")) (.cons (.lit (.str "Qb")) (.cons (.lit (.str "Mb")) (.cons (.loc 9) (.cons (.lit (.str "Qa")) .nil)))))) .nil))))) (.cons (.setI (.loc 2) (.lit (.str "Qa")) (.tup (.cons (.lit (.str "Fb")) (.cons (.loc 8) .nil)))) (.cons (.setI (.loc 2) (.lit (.str "Qb")) (.tup (.cons (.lit (.str "Fc")) (.cons (.loc 9) (.cons (.lit (.str "Qa")) .nil))))) (.cons (.ret (.tup (.cons (.loc 3) (.cons (.loc 2) .nil)))) .nil))))
def s5_f_law_rows : Sts := (.cons (.set 9 (.sub (.loc 4) (.call "_law_next" (.cons (.loc 0) (.cons (.bi .len (.cons (.loc 4) .nil)) .nil))))) s4_f_law_rows)
def s6_f_law_rows : Sts := (.cons (.set 8 (.sub (.loc 4) (.call "_law_next" (.cons (.loc 0) (.cons (.bi .len (.cons (.loc 4) .nil)) .nil))))) s5_f_law_rows)
def s7_f_law_rows : Sts := (.cons (.set 7 (.tup (.cons (.tup (.cons (.lit (.str "Z")) (.cons (.lit (.str "Fa")) .nil))) (.cons (.tup (.cons (.lit (.str "X")) (.cons (.tup (.cons (.lit (.str "Fb")) (.cons (.lit (.str "Z")) .nil))) .nil))) .nil)))) (.cons (.expr (.bm .append (.loc 3) (.cons (.bin .Add (.tup (.cons (.lit (.str "maker")) (.cons (.lit (.str "Mb")) (.cons (.loc 7) (.cons (.tup (.cons (.lit (.str "Fc")) (.cons (.lit (.str "Z")) (.cons (.lit (.str "X")) .nil)))) .nil))))) (.call "_law_number_body" (.cons (.sub (.sub (.loc 1) (.lit (.str "Fc"))) (.lit (.int 1))) .nil))) .nil))) s6_f_law_rows))
def s8_f_law_rows : Sts := (.cons (.expr (.bm .append (.loc 3) (.cons (.bin .Add (.tup (.cons (.lit (.str "maker")) (.cons (.lit (.str "Ma")) (.cons (.tup (.cons (.tup (.cons (.lit (.str "Y")) (.cons (.lit (.str "Fa")) .nil))) .nil)) (.cons (.tup (.cons (.lit (.str "Fb")) (.cons (.lit (.str "Y")) .nil))) .nil))))) (.call "_law_number_body" (.cons (.sub (.sub (.loc 1) (.lit (.str "Fb"))) (.lit (.int 1))) .nil))) .nil))) s7_f_law_rows)
def s9_f_law_rows : Sts := (.cons (.for (.tp [6, 10]) (.seq (.loc 5)) s3_f_law_rows) s8_f_law_rows)
def s10_f_law_rows : Sts := (.cons (.expr (.bm .append (.loc 5) (.cons (.tup (.cons (.lit (.str "Pe")) (.cons (.tup (.cons (.lit (.str "Fc")) (.cons (.sub (.loc 4) (.call "_law_next" (.cons (.loc 0) (.cons (.bi .len (.cons (.loc 4) .nil)) .nil)))) (.cons (.lit (.str "Pc")) .nil)))) .nil))) .nil))) s9_f_law_rows)
def s11_f_law_rows : Sts := (.cons (.for (.nm 6) (.seq (.slice (.lst (.cons (.lit (.str "Pc")) (.cons (.lit (.str "Pd")) .nil))) .none (.some (.bin .Add (.lit (.int 1)) (.call "_law_next" (.cons (.loc 0) (.cons (.lit (.int 2)) .nil))))))) s1_f_law_rows) s10_f_law_rows)
def s12_f_law_rows : Sts := (.cons (.set 5 (.lc (.tup (.cons (.loc 6) (.cons (.tup (.cons (.lit (.str "Fa")) .nil)) .nil))) (.nm 6) (.seq (.loc 4)) .none [("_law_name", 6)])) s11_f_law_rows)
def s13_f_law_rows : Sts := (.cons (.set 2 (.dic .nil)) (.cons (.set 3 (.lst .nil)) (.cons (.set 4 (.slice (.lst (.cons (.lit (.str "Pa")) (.cons (.lit (.str "Pb")) .nil))) .none (.some (.bin .Add (.lit (.int 1)) (.call "_law_next" (.cons (.loc 0) (.cons (.lit (.int 2)) .nil))))))) s12_f_law_rows)))
def d_f_law_rows : FDef := { params := 2, names := ["_law_state_here", "_law_faces", "_law_due", "_law_rows_here", "_law_firsts", "_law_wanted", "_law_name", "_law_givers", "_law_part", "_law_other", "_law_form"], dflt := [], body :=
    s13_f_law_rows }
def r_f_law_rows : Rw := ⟨.f "_law_rows", d_f_law_rows, ⟨("_law_rows", none), "_law_rows", "_law_rows", defArgs (top 33), defBody (top 33), defScope (top 33), [], []⟩⟩
theorem b_f_law_rows : BindP r_f_law_rows := .of0 rfl fun _ _ _ _ _ _ us hl => match us, hl with | [_, _], _ => rfl
def s1_f_law : Sts := (.cons (.setI (.loc 3) (.sub (.loc 4) (.lit (.int 1))) (.tup (.cons (.sub (.loc 4) (.lit (.int 2))) (.cons (.slice (.loc 4) (.some (.lit (.int 3))) .none) .nil)))) .nil)
def s2_f_law : Sts := (.cons (.ret (.lit (.bl false))) .nil)
def s3_f_law : Sts := (.cons (.ret (.lit (.bl false))) .nil)
def s4_f_law : Sts := (.cons (.setI (.loc 12) (.lit (.str "x")) (.lit (.int 0))) .nil)
def s5_f_law : Sts := (.cons (.ife (.v (.cmp .NotEq (.loc 12) (.call "_law_shown" (.cons (.loc 3) (.cons (.loc 10) (.cons (.loc 11) .nil)))))) s3_f_law .nil) s4_f_law)
def s6_f_law : Sts := (.cons (.ife (.or (.v (.cmp .NotEq (.meth "Faces" "face_of" (.loc 6) (.cons (.loc 10) .nil)) (.loc 11))) (.not (.v (.isi (.loc 12) [.dict])))) s2_f_law .nil) s5_f_law)
def s7_f_law : Sts := (.cons (.set 12 (.meth "Faces" "shows" (.loc 6) (.cons (.loc 10) .nil))) s6_f_law)
def s8_f_law : Sts := (.cons (.lck 9 (.for (.tp [10, 11]) (.items (.loc 9)) s7_f_law)) .nil)
def s9_f_law : Sts := (.cons (.ret (.lit (.bl true))) .nil)
def s10_f_law : Sts := (.cons (.for (.nm 7) (.rng1 (.lit (.int 2))) s8_f_law) s9_f_law)
def s11_f_law : Sts := (.cons (.set 6 (.make "Faces" (.cons (.loc 5) .nil))) s10_f_law)
def s12_f_law : Sts := (.cons (.set 5 (.bi .tuple (.cons (.bin .Add (.bin .Add (.bin .Add (.call "_law_sorts" .nil) (.loc 2)) (.loc 8)) (.lst (.cons (.tup (.cons (.lit (.str "main")) (.cons (.lit (.int 5)) .nil))) .nil))) .nil))) s11_f_law)
def s13_f_law : Sts := (.cons (.setT [8, 9] (.call "_law_rows" (.cons (.loc 1) (.cons (.loc 3) .nil)))) s12_f_law)
def s14_f_law : Sts := (.cons (.set 3 (.dic .nil)) (.cons (.for (.nm 4) (.seq (.loc 2)) s1_f_law) s13_f_law))
def s15_f_law : Sts := (.cons (.set 2 (.call "_law_drawn_faces" (.cons (.loc 1) .nil))) s14_f_law)
def s16_f_law : Sts := (.cons (.set 1 (.call "_law_state" (.cons (.call "_law_sum" (.cons (.loc 0) .nil)) (.cons (.bi .len (.cons (.loc 0) .nil)) .nil)))) s15_f_law)
def d_f_law : FDef := { params := 1, names := ["_law_script", "_law_state_here", "_law_told_here", "_law_faces", "_law_row", "_law_program", "_law_got", "_law_turn", "_law_rows_here", "_law_due", "_law_name", "_law_form", "_law_seen_rows"], dflt := [], body :=
    s16_f_law }
def r_f_law : Rw := ⟨.f "law", d_f_law, ⟨("law", none), "law", "law", defArgs (top 34), defBody (top 34), defScope (top 34), [], []⟩⟩
theorem b_f_law : BindP r_f_law := .of0 rfl fun _ _ _ _ _ _ us hl => match us, hl with | [_], _ => rfl
def s1_m_Faces_init : Sts := (.cons (.setI (.fld (.loc 0) "forms") (.sub (.loc 2) (.lit (.int 1))) (.tup (.cons (.sub (.loc 2) (.lit (.int 2))) (.cons (.slice (.loc 2) (.some (.lit (.int 3))) .none) .nil)))) .nil)
def s2_m_Faces_init : Sts := (.cons (.setI (.fld (.loc 0) "wanted") (.sub (.loc 2) (.lit (.int 1))) (.call "reference" (.cons (.sub (.loc 2) (.lit (.int 2))) .nil))) .nil)
def s3_m_Faces_init : Sts := (.cons (.setI (.fld (.loc 0) "makers") (.sub (.loc 2) (.lit (.int 1))) (.tup (.cons (.sub (.loc 2) (.lit (.int 2))) (.cons (.call "reference" (.cons (.sub (.loc 2) (.lit (.int 3))) .nil)) .nil)))) .nil)
def s4_m_Faces_init : Sts := (.cons (.setT [3, 4] (.sub (.fld (.loc 0) "makers") (.sub (.loc 2) (.lit (.int 2))))) (.cons (.setI (.fld (.loc 0) "wanted") (.sub (.loc 2) (.lit (.int 1))) (.call "moved_reference" (.cons (.loc 4) (.cons (.call "given_by" (.cons (.loc 3) (.cons (.slice (.loc 2) (.some (.lit (.int 3))) .none) .nil))) .nil)))) .nil))
def s5_m_Faces_init : Sts := (.cons (.ife (.v (.cmp .Eq (.sub (.loc 2) (.lit (.int 0))) (.lit (.str "apply")))) s4_m_Faces_init .nil) .nil)
def s6_m_Faces_init : Sts := (.cons (.ife (.v (.cmp .Eq (.sub (.loc 2) (.lit (.int 0))) (.lit (.str "maker")))) s3_m_Faces_init s5_m_Faces_init) .nil)
def s7_m_Faces_init : Sts := (.cons (.ife (.v (.cmp .Eq (.sub (.loc 2) (.lit (.int 0))) (.lit (.str "part")))) s2_m_Faces_init s6_m_Faces_init) .nil)
def s8_m_Faces_init : Sts := (.cons (.ife (.v (.cmp .Eq (.sub (.loc 2) (.lit (.int 0))) (.lit (.str "face")))) s1_m_Faces_init s7_m_Faces_init) .nil)
def s9_m_Faces_init : Sts := (.cons (.setF (.loc 0) "forms" (.dic .nil)) (.cons (.setF (.loc 0) "makers" (.dic .nil)) (.cons (.setF (.loc 0) "wanted" (.dic .nil)) (.cons (.for (.nm 2) (.seq (.loc 1)) s8_m_Faces_init) .nil))))
def d_m_Faces_init : FDef := { params := 2, names := ["self", "program", "one", "givers", "form"], dflt := [], body :=
    s9_m_Faces_init }
def r_m_Faces_init : Rw := ⟨.m "Faces" "__init__", d_m_Faces_init, ⟨("Faces", some "__init__"), "__init__", "Faces.__init__", defArgs (mth 14 0), defBody (mth 14 0), defScope (mth 14 0), [], []⟩⟩
theorem b_m_Faces_init : BindP r_m_Faces_init := .of0 rfl fun _ _ _ _ _ _ us hl => match us, hl with | [_, _], _ => rfl
def s1_m_Faces_face_of : Sts := (.cons (.ret (.sub (.fld (.loc 0) "wanted") (.loc 1))) .nil)
def d_m_Faces_face_of : FDef := { params := 2, names := ["self", "part"], dflt := [], body :=
    s1_m_Faces_face_of }
def r_m_Faces_face_of : Rw := ⟨.m "Faces" "face_of", d_m_Faces_face_of, ⟨("Faces", some "face_of"), "face_of", "Faces.face_of", defArgs (mth 14 1), defBody (mth 14 1), defScope (mth 14 1), [], []⟩⟩
theorem b_m_Faces_face_of : BindP r_m_Faces_face_of := .of0 rfl fun _ _ _ _ _ _ us hl => match us, hl with | [_, _], _ => rfl
def s1_m_Faces_shows : Sts := (.cons (.ret (.meth "Faces" "shown_as" (.loc 0) (.cons (.loc 1) (.cons (.sub (.fld (.loc 0) "wanted") (.loc 1)) .nil)))) .nil)
def d_m_Faces_shows : FDef := { params := 2, names := ["self", "part"], dflt := [], body :=
    s1_m_Faces_shows }
def r_m_Faces_shows : Rw := ⟨.m "Faces" "shows", d_m_Faces_shows, ⟨("Faces", some "shows"), "shows", "Faces.shows", defArgs (mth 14 2), defBody (mth 14 2), defScope (mth 14 2), [], []⟩⟩
theorem b_m_Faces_shows : BindP r_m_Faces_shows := .of0 rfl fun _ _ _ _ _ _ us hl => match us, hl with | [_, _], _ => rfl
def s1_m_Faces_shown_as : Sts := (.cons (.set 11 (.slice (.tup (.cons (.lit (.str "?a")) (.cons (.lit (.str "?b")) .nil))) .none (.some (.loc 10)))) (.cons (.setI (.loc 4) (.loc 9) (.tup (.cons (.loc 11) (.cons (.call "path_kind" (.cons (.bin .Add (.bin .Add (.loc 1) (.lit (.str "."))) (.loc 9)) (.cons (.loc 11) .nil))) .nil)))) .nil))
def s2_m_Faces_shown_as : Sts := (.cons (.setI (.loc 5) (.bin .Add (.bin .Add (.loc 1) (.lit (.str "."))) (.loc 9)) (.tup (.cons (.bi .tuple (.cons (.call "variables" (.cons (.loc 12) .nil)) .nil)) (.cons (.loc 12) .nil)))) .nil)
def s3_m_Faces_shown_as : Sts := (.cons (.set 12 (.call "unfolded" (.cons (.loc 10) (.cons (.loc 3) (.cons (.loc 4) .nil))))) s2_m_Faces_shown_as)
def s4_m_Faces_shown_as : Sts := (.cons (.ife (.v (.cmp .Eq (.loc 8) (.lit (.str "hide")))) s1_m_Faces_shown_as s3_m_Faces_shown_as) .nil)
def s5_m_Faces_shown_as : Sts := (.cons (.ret (.loc 5)) .nil)
def s6_m_Faces_shown_as : Sts := (.cons (.set 4 (.dic .nil)) (.cons (.set 5 (.dic .nil)) (.cons (.for (.tp [8, 9, 10]) (.seq (.loc 7)) s4_m_Faces_shown_as) s5_m_Faces_shown_as)))
def s7_m_Faces_shown_as : Sts := (.cons (.setT [6, 7] (.sub (.fld (.loc 0) "forms") (.sub (.loc 2) (.lit (.int 0))))) (.cons (.set 3 (.call "given_by" (.cons (.loc 6) (.cons (.slice (.loc 2) (.some (.lit (.int 1))) .none) .nil)))) s6_m_Faces_shown_as))
def d_m_Faces_shown_as : FDef := { params := 3, names := ["self", "name", "form", "by", "hides", "shown", "givers", "items", "word", "small", "told", "names", "kind"], dflt := [], body :=
    s7_m_Faces_shown_as }
def r_m_Faces_shown_as : Rw := ⟨.m "Faces" "shown_as", d_m_Faces_shown_as, ⟨("Faces", some "shown_as"), "shown_as", "Faces.shown_as", defArgs (mth 14 3), defBody (mth 14 3), defScope (mth 14 3), [], []⟩⟩
theorem b_m_Faces_shown_as : BindP r_m_Faces_shown_as := .of0 rfl fun _ _ _ _ _ _ us hl => match us, hl with | [_, _, _], _ => rfl
def s1_m_Faces_look_given : Sts := (.cons (.expr (.call "_wall" (.cons (.lit (.int 0)) .nil))) .nil)
def d_m_Faces_look_given : FDef := { params := 4, names := ["self", "givers", "parts", "known"], dflt := [], body :=
    s1_m_Faces_look_given }
def r_m_Faces_look_given : Rw := ⟨.m "Faces" "look_given", d_m_Faces_look_given, ⟨("Faces", some "look_given"), "look_given", "Faces.look_given", defArgs (mth 14 4), defBody (mth 14 4), defScope (mth 14 4), [], []⟩⟩
theorem b_m_Faces_look_given : BindP r_m_Faces_look_given := .of0 rfl fun _ _ _ _ _ _ us hl => match us, hl with | [_, _, _, _], _ => rfl
def s1_m_Faces_look_sound : Sts := (.cons (.expr (.call "_wall" (.cons (.lit (.int 1)) .nil))) .nil)
def d_m_Faces_look_sound : FDef := { params := 3, names := ["self", "form", "known"], dflt := [], body :=
    s1_m_Faces_look_sound }
def r_m_Faces_look_sound : Rw := ⟨.m "Faces" "look_sound", d_m_Faces_look_sound, ⟨("Faces", some "look_sound"), "look_sound", "Faces.look_sound", defArgs (mth 14 5), defBody (mth 14 5), defScope (mth 14 5), [], []⟩⟩
theorem b_m_Faces_look_sound : BindP r_m_Faces_look_sound := .of0 rfl fun _ _ _ _ _ _ us hl => match us, hl with | [_, _, _], _ => rfl
def s1_m_Faces_with_givers : Sts := (.cons (.expr (.call "_wall" (.cons (.lit (.int 2)) .nil))) .nil)
def d_m_Faces_with_givers : FDef := { params := 3, names := ["self", "givers", "known"], dflt := [], body :=
    s1_m_Faces_with_givers }
def r_m_Faces_with_givers : Rw := ⟨.m "Faces" "with_givers", d_m_Faces_with_givers, ⟨("Faces", some "with_givers"), "with_givers", "Faces.with_givers", defArgs (mth 14 6), defBody (mth 14 6), defScope (mth 14 6), [], []⟩⟩
theorem b_m_Faces_with_givers : BindP r_m_Faces_with_givers := .of0 rfl fun _ _ _ _ _ _ us hl => match us, hl with | [_, _, _], _ => rfl
def s1_m_Faces_names_of : Sts := (.cons (.expr (.call "_wall" (.cons (.lit (.int 3)) .nil))) .nil)
def d_m_Faces_names_of : FDef := { params := 2, names := ["self", "known"], dflt := [], body :=
    s1_m_Faces_names_of }
def r_m_Faces_names_of : Rw := ⟨.m "Faces" "names_of", d_m_Faces_names_of, ⟨("Faces", some "names_of"), "names_of", "Faces.names_of", defArgs (mth 14 7), defBody (mth 14 7), defScope (mth 14 7), [], []⟩⟩
theorem b_m_Faces_names_of : BindP r_m_Faces_names_of := .of0 rfl fun _ _ _ _ _ _ us hl => match us, hl with | [_, _], _ => rfl
def tab : List Rw := [r_f_wall, r_f_is_variable, r_f_within, r_f_gather, r_f_variables, r_f_put, r_f_reference, r_f_moved_word, r_f_moved_reference, r_f_unfolded, r_f_path_kind, r_f_given_by, r_f_law_state, r_f_law_next, r_f_law_sum, r_f_law_sorts, r_f_law_put, r_f_law_word, r_f_law_turned, r_f_law_variables, r_f_law_scheme, r_f_law_path, r_f_law_by, r_f_law_shown, r_f_law_number_body, r_f_law_drawn_kind, r_f_law_items, r_f_law_drawn_faces, r_f_law_told, r_f_law_rows, r_f_law, r_m_Faces_init, r_m_Faces_face_of, r_m_Faces_shows, r_m_Faces_shown_as, r_m_Faces_look_given, r_m_Faces_look_sound, r_m_Faces_with_givers, r_m_Faces_names_of]
def con : List (String × Lit) := []
def tups : List (String × List Lit) := []
def P : Pg := { flds := ["forms", "makers", "wanted"], cls := ["Faces"], tups := tups, fn := fnOfT tab, con := conV con tups, subs := [], hotf := [] }
theorem fn_f_wall : P.fn (.f "_wall") = some d_f_wall := by kernel_rfl
theorem fn_f_is_variable : P.fn (.f "is_variable") = some d_f_is_variable := by kernel_rfl
theorem fn_f_within : P.fn (.f "within") = some d_f_within := by kernel_rfl
theorem fn_f_gather : P.fn (.f "gather") = some d_f_gather := by kernel_rfl
theorem fn_f_variables : P.fn (.f "variables") = some d_f_variables := by kernel_rfl
theorem fn_f_put : P.fn (.f "put") = some d_f_put := by kernel_rfl
theorem fn_f_reference : P.fn (.f "reference") = some d_f_reference := by kernel_rfl
theorem fn_f_moved_word : P.fn (.f "moved_word") = some d_f_moved_word := by kernel_rfl
theorem fn_f_moved_reference : P.fn (.f "moved_reference") = some d_f_moved_reference := by kernel_rfl
theorem fn_f_unfolded : P.fn (.f "unfolded") = some d_f_unfolded := by kernel_rfl
theorem fn_f_path_kind : P.fn (.f "path_kind") = some d_f_path_kind := by kernel_rfl
theorem fn_f_given_by : P.fn (.f "given_by") = some d_f_given_by := by kernel_rfl
theorem fn_f_law_state : P.fn (.f "_law_state") = some d_f_law_state := by kernel_rfl
theorem fn_f_law_next : P.fn (.f "_law_next") = some d_f_law_next := by kernel_rfl
theorem fn_f_law_sum : P.fn (.f "_law_sum") = some d_f_law_sum := by kernel_rfl
theorem fn_f_law_sorts : P.fn (.f "_law_sorts") = some d_f_law_sorts := by kernel_rfl
theorem fn_f_law_put : P.fn (.f "_law_put") = some d_f_law_put := by kernel_rfl
theorem fn_f_law_word : P.fn (.f "_law_word") = some d_f_law_word := by kernel_rfl
theorem fn_f_law_turned : P.fn (.f "_law_turned") = some d_f_law_turned := by kernel_rfl
theorem fn_f_law_variables : P.fn (.f "_law_variables") = some d_f_law_variables := by kernel_rfl
theorem fn_f_law_scheme : P.fn (.f "_law_scheme") = some d_f_law_scheme := by kernel_rfl
theorem fn_f_law_path : P.fn (.f "_law_path") = some d_f_law_path := by kernel_rfl
theorem fn_f_law_by : P.fn (.f "_law_by") = some d_f_law_by := by kernel_rfl
theorem fn_f_law_shown : P.fn (.f "_law_shown") = some d_f_law_shown := by kernel_rfl
theorem fn_f_law_number_body : P.fn (.f "_law_number_body") = some d_f_law_number_body := by kernel_rfl
theorem fn_f_law_drawn_kind : P.fn (.f "_law_drawn_kind") = some d_f_law_drawn_kind := by kernel_rfl
theorem fn_f_law_items : P.fn (.f "_law_items") = some d_f_law_items := by kernel_rfl
theorem fn_f_law_drawn_faces : P.fn (.f "_law_drawn_faces") = some d_f_law_drawn_faces := by kernel_rfl
theorem fn_f_law_told : P.fn (.f "_law_told") = some d_f_law_told := by kernel_rfl
theorem fn_f_law_rows : P.fn (.f "_law_rows") = some d_f_law_rows := by kernel_rfl
theorem fn_f_law : P.fn (.f "law") = some d_f_law := by kernel_rfl
theorem fn_m_Faces_init : P.fn (.m "Faces" "__init__") = some d_m_Faces_init := by kernel_rfl
theorem fn_m_Faces_face_of : P.fn (.m "Faces" "face_of") = some d_m_Faces_face_of := by kernel_rfl
theorem fn_m_Faces_shows : P.fn (.m "Faces" "shows") = some d_m_Faces_shows := by kernel_rfl
theorem fn_m_Faces_shown_as : P.fn (.m "Faces" "shown_as") = some d_m_Faces_shown_as := by kernel_rfl
theorem fn_m_Faces_look_given : P.fn (.m "Faces" "look_given") = some d_m_Faces_look_given := by kernel_rfl
theorem fn_m_Faces_look_sound : P.fn (.m "Faces" "look_sound") = some d_m_Faces_look_sound := by kernel_rfl
theorem fn_m_Faces_with_givers : P.fn (.m "Faces" "with_givers") = some d_m_Faces_with_givers := by kernel_rfl
theorem fn_m_Faces_names_of : P.fn (.m "Faces" "names_of") = some d_m_Faces_names_of := by kernel_rfl
theorem rows_ok : tab.all (Rw.ok P) = true := by kernel_rfl
theorem bind_ok : ∀ r ∈ tab, BindP r := by
  intro r hr
  simp only [tab, List.mem_cons, List.not_mem_nil, or_false] at hr
  rcases hr with rfl | rfl | rfl | rfl | rfl | rfl | rfl | rfl | rfl | rfl | rfl | rfl | rfl | rfl | rfl | rfl | rfl | rfl | rfl | rfl | rfl | rfl | rfl | rfl | rfl | rfl | rfl | rfl | rfl | rfl | rfl | rfl | rfl | rfl | rfl | rfl | rfl | rfl | rfl
  · exact b_f_wall
  · exact b_f_is_variable
  · exact b_f_within
  · exact b_f_gather
  · exact b_f_variables
  · exact b_f_put
  · exact b_f_reference
  · exact b_f_moved_word
  · exact b_f_moved_reference
  · exact b_f_unfolded
  · exact b_f_path_kind
  · exact b_f_given_by
  · exact b_f_law_state
  · exact b_f_law_next
  · exact b_f_law_sum
  · exact b_f_law_sorts
  · exact b_f_law_put
  · exact b_f_law_word
  · exact b_f_law_turned
  · exact b_f_law_variables
  · exact b_f_law_scheme
  · exact b_f_law_path
  · exact b_f_law_by
  · exact b_f_law_shown
  · exact b_f_law_number_body
  · exact b_f_law_drawn_kind
  · exact b_f_law_items
  · exact b_f_law_drawn_faces
  · exact b_f_law_told
  · exact b_f_law_rows
  · exact b_f_law
  · exact b_m_Faces_init
  · exact b_m_Faces_face_of
  · exact b_m_Faces_shows
  · exact b_m_Faces_shown_as
  · exact b_m_Faces_look_given
  · exact b_m_Faces_look_sound
  · exact b_m_Faces_with_givers
  · exact b_m_Faces_names_of
abbrev R : PySem.W.OpenRow := PySem.W.OpenLaw.row PySem.Challenge.rw_facework_k43_faces_shown
abbrev fas : List He.Fa := faOf P tab con
abbrev fns : List He.DefD := tab.map (·.dd)
abbrev ex : PySem.W.Frag → Bool := exB P
abbrev hk : PySem.W.Hook := He.hookX 5 fas fns [] [] ex
def ob (s : PySem.W.SharedT) : He.AlX := He.obsX 5 fas fns [] [] ex (HandSHeadRun.getT s)
theorem ob_eq (s : PySem.W.SharedT) : ob s = hk.obs s.abs := He.obsX_eq (HandSHeadRun.getT_eq s)
def loose0 : List PySem.Str := ["_wall", "is_variable", "within", "gather", "variables", "put", "reference", "moved_word", "moved_reference", "unfolded", "path_kind", "given_by", "Faces", "_law_state", "_law_next", "_law_sum", "_law_sorts", "_law_put", "_law_word", "_law_turned", "_law_variables", "_law_scheme", "_law_path", "_law_by", "_law_shown", "_law_number_body", "_law_drawn_kind", "_law_items", "_law_drawn_faces", "_law_told"]
def loose1 : List PySem.Str := ["_law_rows"]
abbrev loose : List PySem.Str := loose0 ++ loose1
end K43

set_option maxHeartbeats 0
namespace K43
open PySem PySem.W PySem.Calls PyProof.Rows
theorem run (w : World) : HandSHeadRun.RunEq R (view R.prog [34]) hk ob 5850 loose w := by
  intro os
  kernel_rfl
end K43

set_option maxHeartbeats 4000000
namespace K43
open Mi PySem
def Fr (p : Nat) (S S' : Hm) : Prop := S.length ≤ S'.length ∧ ∀ n, n < S.length → n ≠ p → S'[n]? = S[n]?
theorem lt_of_get {α : Type} {S : List α} {n : Nat} {o : α} (h : S[n]? = some o) : n < S.length := (List.getElem?_eq_some_iff.mp h).1
theorem Fr.refl (p : Nat) (S : Hm) : Fr p S S := ⟨Nat.le_refl _, fun _ _ _ => rfl⟩
theorem Fr.trans {p : Nat} {S S1 S2 : Hm} (a : Fr p S S1) (b : Fr p S1 S2) : Fr p S S2 := ⟨Nat.le_trans a.1 b.1, fun n h hn => (b.2 n (Nat.lt_of_lt_of_le h a.1) hn).trans (a.2 n h hn)⟩
theorem Fr.get {p : Nat} {S S1 : Hm} (a : Fr p S S1) {n : Nat} {o : Ob} (hn : n ≠ p) (h : S[n]? = some o) : S1[n]? = some o := (a.2 n (lt_of_get h) hn).trans h
theorem Fr.app {p : Nat} {S : Hm} (l : Hm) : Fr p S (S ++ l) := ⟨by simp, fun n h _ => List.getElem?_append_left h⟩
/-- no question mark -/
def NQ (s : String) : Prop := ∀ ch ∈ s.toList, ch ≠ '?'
theorem NQ.app {a b : String} (h : NQ a) (h' : NQ b) : NQ (a ++ b) := by
  intro ch hc
  rw [String.toList_append] at hc
  rcases List.mem_append.mp hc with z | z
  · exact h _ z
  · exact h' _ z
def VQ (s : String) : Prop := ∃ r, s.toList = '?' :: r
theorem VQ.app {s t : String} (h : VQ s) : VQ (s ++ t) := by
  obtain ⟨r, e⟩ := h
  exact ⟨r ++ t.toList, by rw [String.toList_append, e]; rfl⟩
theorem flat_strs (ws : List String) : (ws.map Val.str).all flat = true := by
  rw [List.all_eq_true]
  intro v hv
  obtain ⟨w, _, rfl⟩ := List.mem_map.mp hv
  rfl
theorem any_str {ws : List String} {w : String} : (ws.map Val.str).any (fun y => feq y (.str w)) = decide (w ∈ ws) := by
  induction ws with
  | nil => rfl
  | cons a r ih =>
    rw [List.map_cons, List.any_cons, ih]
    show ((a == w) || decide (w ∈ r)) = decide (w ∈ a :: r)
    by_cases h : a = w
    · subst h; simp
    · have : ¬ w = a := fun e => h e.symm
      have e2 : (a == w) = false := by simpa using h
      rw [e2, Bool.false_or]
      simp [this]
/-- kinds -/
inductive IsK : Nat → Val → Prop where
  | var {n s} : VQ s → IsK n (.str s)
  | nam {n s} : NQ s → 0 < s.length → IsK n (.str s)
  | tup {n h vs} : NQ h → 0 < h.length → (∀ v ∈ vs, IsK n v) → vs.length ≤ 3 → IsK (n + 1) (.tup (.str h :: vs))
theorem IsK.le {n m : Nat} {v : Val} (h : IsK n v) (hm : n ≤ m) : IsK m v := by
  induction h generalizing m with
  | var q => exact .var q
  | nam q l => exact .nam q l
  | tup q0 l0 hv hl ih =>
    cases m with
    | zero => omega
    | succ m => exact .tup q0 l0 (fun v hv' => ih v hv' (by omega)) hl
theorem starts_var {s : String} (h : VQ s) : Txt.startswith (Str.ofString s) (Str.ofString "?") = true := by
  obtain ⟨r, e⟩ := h
  unfold Txt.startswith
  rw [StrLaws.subAt_eq, len_ofString, len_ofString, cps_ofString, cps_ofString]
  have hl : s.length = r.length + 1 := by rw [← String.length_toList, e]; rfl
  rw [e, hl]
  have h1 : "?".length = 1 := by decide
  have h2 : "?".toList = ['?'] := by decide
  rw [h1, h2]
  simp
theorem starts_nam {s : String} (h : NQ s) (h0 : 0 < s.length) : Txt.startswith (Str.ofString s) (Str.ofString "?") = false := by
  unfold Txt.startswith
  rw [StrLaws.subAt_eq, len_ofString, len_ofString, cps_ofString, cps_ofString]
  have h1 : "?".length = 1 := by decide
  have h2 : "?".toList = ['?'] := by decide
  rw [h1, h2]
  cases e : s.toList with
  | nil =>
    rw [← String.length_toList, e] at h0
    cases h0
  | cons c r =>
    have hc : c ≠ '?' := h c (by rw [e]; exact List.mem_cons_self)
    have : c.toNat ≠ '?'.toNat := fun z => hc (Char.ext (UInt32.toNat_inj.mp z))
    simp
    intro _
    exact this
theorem nq_vq {s : String} (h : NQ s) (v : VQ s) : False := by
  obtain ⟨r, e⟩ := v
  exact h '?' (by rw [e]; exact List.mem_cons_self) rfl
theorem isvar_str {k : Nat} {s : String} {S : Hm} : callW P (k + 1) (.f "is_variable") [.str s] S (fun v S' => S' = S ∧ v = .bl (Txt.startswith (Str.ofString s) (Str.ofString "?"))) noX := by
  refine call_open fn_f_is_variable ⟨rfl, ?_⟩
  show wSs _ _ _ s1_f_is_variable _ _ [some (.str s)] S
  simp only [s1_f_is_variable, wSs, wS, wT, wEs, wO, wPs, wC, wSrc, wE_loc, wE_lit, wE_con, wE_bin, wE_neg, wE_cmp, wE_cmp2, wE_isN, wE_notN, wE_isB, wE_not, wE_and, wE_or, wE_ite, wE_tup, wE_lst, wE_dic, wE_call, wE_make, wE_meth, wE_fld, wE_sub, wE_slice, wE_bi, wE_vi, wE_bm, wE_isi, wE_lc, wE_lck, eg, es, Option.some.injEq, exists_eq_left', Lit.val]
  simp [isTy, bmT, bmW]
theorem isvar_tup {k : Nat} {vs : List Val} {S : Hm} : callW P (k + 1) (.f "is_variable") [.tup vs] S (fun v S' => S' = S ∧ v = .bl false) noX := by
  refine call_open fn_f_is_variable ⟨rfl, ?_⟩
  show wSs _ _ _ s1_f_is_variable _ _ [some (.tup vs)] S
  simp only [s1_f_is_variable, wSs, wS, wT, wEs, wO, wPs, wC, wSrc, wE_loc, wE_lit, wE_con, wE_bin, wE_neg, wE_cmp, wE_cmp2, wE_isN, wE_notN, wE_isB, wE_not, wE_and, wE_or, wE_ite, wE_tup, wE_lst, wE_dic, wE_call, wE_make, wE_meth, wE_fld, wE_sub, wE_slice, wE_bi, wE_vi, wE_bm, wE_isi, wE_lc, wE_lck, eg, es, Option.some.injEq, exists_eq_left', Lit.val]
  simp [isTy, bmT, bmW]
theorem sub_app {S S1 : Hm} {l : Hm} (h : S1 = S ++ l) {n : Nat} {o : Ob} (e : S[n]? = some o) : S1[n]? = some o := by subst h; exact get_app e
theorem cut_tl {α : Type} (h : α) (vs : List α) : cut (h :: vs) (some 1) none = vs := by
  unfold cut sIx
  simp
theorem cut_hd {α : Type} (h : α) (vs : List α) : cut (h :: vs) none (some 1) = [h] := by
  unfold cut sIx
  simp
theorem cut_strs {ls : List String} {lo hi : Option Int} : cut (ls.map Val.str) lo hi = (cut ls lo hi).map Val.str := by
  unfold cut
  rw [List.length_map, List.map_take, List.map_drop]
def qv (s : String) : Bool := Txt.startswith (Str.ofString s) (Str.ofString "?")
mutual
def gat : Val → List String → List String
  | .str s, acc => if qv s = true ∧ s ∉ acc then acc ++ [s] else acc
  | .tup xs, acc => gatT xs acc
  | _, acc => acc
def gatT : List Val → List String → List String
  | [], acc => acc
  | _ :: vs, acc => gats vs acc
def gats : List Val → List String → List String
  | [], acc => acc
  | v :: vs, acc => gats vs (gat v acc)
end
mutual
def nod : Val → Nat
  | .tup xs => 1 + nodT xs
  | _ => 1
def nodT : List Val → Nat
  | [] => 0
  | _ :: vs => nods vs
def nods : List Val → Nat
  | [] => 0
  | v :: vs => nod v + nods vs
end
theorem gat_tup {h : Val} {vs : List Val} {acc : List String} : gat (.tup (h :: vs)) acc = gats vs acc := by rw [gat, gatT]
theorem gats_app : ∀ (us vs : List Val) (acc : List String), gats (us ++ vs) acc = gats vs (gats us acc)
  | [], vs, acc => by rw [gats]; rfl
  | u :: us, vs, acc => by rw [List.cons_append, gats, gats, gats_app us vs]
theorem nods_app : ∀ (us vs : List Val), nods (us ++ vs) = nods us + nods vs
  | [], vs => by rw [nods]; simp
  | u :: us, vs => by rw [List.cons_append, nods, nods, nods_app us vs]; omega
theorem nods_rev : ∀ (us : List Val), nods us.reverse = nods us
  | [] => rfl
  | u :: us => by rw [List.reverse_cons, nods_app, nods_rev us, nods, nods, nods]; omega
theorem nod_pos (v : Val) : 1 ≤ nod v := by cases v <;> simp [nod]
theorem nods_len : ∀ (us : List Val), us.length ≤ nods us
  | [] => by simp
  | u :: us => by
    have := nod_pos u
    have := nods_len us
    rw [nods, List.length_cons]
    omega
theorem nod_isK {d : Nat} {v : Val} (h : IsK d v) : nod v ≤ 4 ^ d := by
  have pw : ∀ n : Nat, 1 ≤ 4 ^ n := fun n => Nat.pow_pos (by decide)
  induction h with
  | var q => rw [nod]; exact pw _; intro _ z; cases z
  | nam q l => rw [nod]; exact pw _; intro _ z; cases z
  | @tup n h vs q0 l0 hv hl ih =>
    have all : ∀ ws : List Val, (∀ w ∈ ws, nod w ≤ 4 ^ n) → nods ws ≤ ws.length * 4 ^ n := by
      intro ws
      induction ws with
      | nil => intro _; simp [nods]
      | cons w r ih2 =>
        intro hw
        have h1 := hw w List.mem_cons_self
        have h2 := ih2 fun u hu => hw u (List.mem_cons_of_mem _ hu)
        rw [nods, List.length_cons, Nat.succ_mul]
        omega
    have h1 := all vs ih
    have h2 : vs.length * 4 ^ n ≤ 3 * 4 ^ n := Nat.mul_le_mul_right _ hl
    have h3 := pw n
    rw [nod, nodT, Nat.pow_succ]
    omega
theorem gat_len : ∀ (v : Val) (acc : List String), (gat v acc).length ≤ acc.length + nod v := by
  have key : ∀ (n : Nat), (∀ (v : Val) (acc : List String), nod v ≤ n → (gat v acc).length ≤ acc.length + nod v) := by
    intro n
    induction n using Nat.strongRecOn with
    | _ n ih =>
    intro v acc hn
    have str : ∀ s, (gat (.str s) acc).length ≤ acc.length + nod (.str s) := by
      intro s
      rw [gat]
      split <;> simp [nod]
    cases v with
    | str s => exact str s
    | tup xs =>
      cases xs with
      | nil => simp [gat, gatT, nod]
      | cons h vs =>
        rw [gat_tup, nod, nodT]
        rw [nod, nodT] at hn
        have all : ∀ (ws : List Val) (acc : List String), nods ws < n → (gats ws acc).length ≤ acc.length + nods ws := by
          intro ws
          induction ws with
          | nil => intro acc _; simp [gats]
          | cons w r ih2 =>
            intro acc hw
            rw [nods] at hw
            have h1 := ih (nod w) (by have := nod_pos w; omega) w acc (Nat.le_refl _)
            have h2 := ih2 (gat w acc) (by omega)
            rw [gats, nods]
            omega
        have := all vs acc (by omega)
        omega
    | _ => simp [gat, nod]
  exact fun v acc => key (nod v) v acc (Nat.le_refl _)
theorem within_str {k : Nat} {s : String} {S : Hm} : callW P (k + 1) (.f "within") [.str s] S (fun v S' => S' = S ∧ v = .tup []) noX := by
  refine call_open fn_f_within ⟨rfl, ?_⟩
  show wSs _ _ _ s3_f_within _ _ [some (.str s)] S
  simp only [s3_f_within, s2_f_within, wSs, wS, wT, wEs, wO, wPs, wC, wSrc, wE_loc, wE_lit, wE_con, wE_bin, wE_neg, wE_cmp, wE_cmp2, wE_isN, wE_notN, wE_isB, wE_not, wE_and, wE_or, wE_ite, wE_tup, wE_lst, wE_dic, wE_call, wE_make, wE_meth, wE_fld, wE_sub, wE_slice, wE_bi, wE_vi, wE_bm, wE_isi, wE_lc, wE_lck, eg, es, Option.some.injEq, exists_eq_left', Lit.val]
  simp [isTy, truth]
theorem within_tup {k : Nat} {h : Val} {vs : List Val} {S : Hm} : callW P (k + 1) (.f "within") [.tup (h :: vs)] S (fun v S' => S' = S ∧ v = .tup vs) noX := by
  refine call_open fn_f_within ⟨rfl, ?_⟩
  show wSs _ _ _ s3_f_within _ _ [some (.tup (h :: vs))] S
  simp only [s3_f_within, wSs, wS, wT, wEs, wO, wPs, wC, wSrc, wE_loc, wE_lit, wE_con, wE_bin, wE_neg, wE_cmp, wE_cmp2, wE_isN, wE_notN, wE_isB, wE_not, wE_and, wE_or, wE_ite, wE_tup, wE_lst, wE_dic, wE_call, wE_make, wE_meth, wE_fld, wE_sub, wE_slice, wE_bi, wE_vi, wE_bm, wE_isi, wE_lc, wE_lck, eg, es, Option.some.injEq, exists_eq_left', Lit.val]
  simp [isTy, truth]
  simp only [s1_f_within, wSs, wS, wT, wEs, wO, wPs, wC, wSrc, wE_loc, wE_lit, wE_con, wE_bin, wE_neg, wE_cmp, wE_cmp2, wE_isN, wE_notN, wE_isB, wE_not, wE_and, wE_or, wE_ite, wE_tup, wE_lst, wE_dic, wE_call, wE_make, wE_meth, wE_fld, wE_sub, wE_slice, wE_bi, wE_vi, wE_bm, wE_isi, wE_lc, wE_lck, eg, es, Option.some.injEq, exists_eq_left', Lit.val, sliceW]
  exact ⟨1, rfl, trivial, by rw [cut_tl]⟩
theorem notin_str {S : Hm} {n : Nat} {acc : List String} {s : String} {Q : Bool → Prop} (h : S[n]? = some (.lst (acc.map .str))) (hq : Q (!decide (s ∈ acc))) : inW (.str s) (.ref n) S fun b => Q (!b) := by
  refine .inl ⟨_, lst_at h, .inl ⟨rfl, flat_strs acc, ?_⟩⟩
  rw [any_str]
  exact hq
theorem gat_s {s : String} (hs : VQ s ∨ NQ s ∧ 0 < s.length) {acc : List String} : (VQ s ∧ gat (.str s) acc = if s ∈ acc then acc else acc ++ [s]) ∨ (qv s = false ∧ gat (.str s) acc = acc) := by
  rcases hs with q | ⟨q, l⟩
  · refine .inl ⟨q, ?_⟩
    have : qv s = true := starts_var q
    rw [gat, this]
    by_cases h : s ∈ acc <;> simp [h]
  · refine .inr ⟨starts_nam q l, ?_⟩
    have : qv s = false := starts_nam q l
    rw [gat, this]
    simp
theorem gat_str {f k : Nat} {s : String} (hs : VQ s ∨ NQ s ∧ 0 < s.length) {acc : List String} {S : Hm} (hf : S[f]? = some (.lst (acc.map .str))) (hb : acc.length < 10 ^ 6) : callW P (k + 2) (.f "gather") [.str s, .ref f] S (fun _ S' => S'[f]? = some (.lst ((gat (.str s) acc).map .str)) ∧ Fr f S S') noX := by
  have fl := lt_of_get hf
  refine call_open (k := k + 1) fn_f_gather ⟨rfl, ?_⟩
  show wSs _ _ _ s4_f_gather _ _ [some (.str s), some (.ref f), none] S
  simp only [s4_f_gather, wSs, wS, wT, wEs, wO, wPs, wC, wSrc, wE_loc, wE_lit, wE_con, wE_bin, wE_neg, wE_cmp, wE_cmp2, wE_isN, wE_notN, wE_isB, wE_not, wE_and, wE_or, wE_ite, wE_tup, wE_lst, wE_dic, wE_call, wE_make, wE_meth, wE_fld, wE_sub, wE_slice, wE_bi, wE_vi, wE_bm, wE_isi, wE_lc, wE_lck, eg, es, Option.some.injEq, exists_eq_left', Lit.val]
  have tail : ∀ S' : Hm, S'[f]? = some (.lst ((gat (.str s) acc).map .str)) ∧ Fr f S S' → wSs P.con P.sub (callW P (k + 1)) s3_f_gather (fun c x S' => noX c S') { nx := fun _ S' => S'[f]? = some (.lst ((gat (.str s) acc).map .str)) ∧ Fr f S S', rt := fun _ S' => S'[f]? = some (.lst ((gat (.str s) acc).map .str)) ∧ Fr f S S' } [some (.str s), some (.ref f), none] S' := by
    intro S' hS
    simp only [s3_f_gather, wSs, wS, wT, wEs, wO, wPs, wC, wSrc, wE_loc, wE_lit, wE_con, wE_bin, wE_neg, wE_cmp, wE_cmp2, wE_isN, wE_notN, wE_isB, wE_not, wE_and, wE_or, wE_ite, wE_tup, wE_lst, wE_dic, wE_call, wE_make, wE_meth, wE_fld, wE_sub, wE_slice, wE_bi, wE_vi, wE_bm, wE_isi, wE_lc, wE_lck, eg, es, Option.some.injEq, exists_eq_left', Lit.val]
    refine call_use (within_str (k := k)) ?_
    rintro _ S2 ⟨e2, rfl⟩
    rw [e2]
    simp only [seqOf, forL]
    exact ⟨trivial, hS⟩
  refine call_use (isvar_str (k := k)) ?_
  rintro _ S1 ⟨eS, rfl⟩
  rw [eS]
  rcases gat_s hs (acc := acc) with ⟨q, e⟩ | ⟨q, e⟩
  · rw [starts_var q]
    simp only [truth, Option.some.injEq, exists_eq_left', if_true, cmpW]
    refine .inl ⟨_, lst_at hf, .inl ⟨rfl, flat_strs acc, ?_⟩⟩
    rw [any_str]
    by_cases hm : s ∈ acc
    · rw [if_pos hm] at e
      simp only [hm, decide_true, Bool.not_true, Bool.false_eq_true, if_false]
      exact tail S ⟨by rw [e]; exact hf, Fr.refl _ _⟩
    · rw [if_neg hm] at e
      simp only [hm, decide_false, Bool.not_false, if_true, s1_f_gather, wSs, wS, wT, wEs, wO, wPs, wC, wSrc, wE_loc, wE_lit, wE_con, wE_bin, wE_neg, wE_cmp, wE_cmp2, wE_isN, wE_notN, wE_isB, wE_not, wE_and, wE_or, wE_ite, wE_tup, wE_lst, wE_dic, wE_call, wE_make, wE_meth, wE_fld, wE_sub, wE_slice, wE_bi, wE_vi, wE_bm, wE_isi, wE_lc, wE_lck, eg, es, Option.some.injEq, exists_eq_left', Lit.val, bmT, bmW]
      refine ⟨⟨_, _, rfl, lst_at hf⟩, _, hf, by rw [sizeLine_eq]; simp; omega, tail _ ?_⟩
      refine ⟨by rw [e, get_set, hf]; simp, by simp, fun n _ hn => get_ne hn⟩
  · have q' : Txt.startswith (Str.ofString s) (Str.ofString "?") = false := q
    rw [q']
    simp only [truth, Option.some.injEq, exists_eq_left', if_false, Bool.false_eq_true]
    exact tail S ⟨by rw [e]; exact hf, Fr.refl _ _⟩
theorem gats_take {vs : List Val} {acc : List String} {i : Nat} {w : Val} (h : vs[i]? = some w) : gats (vs.take (i + 1)) acc = gat w (gats (vs.take i) acc) := by
  rw [List.take_add_one, h, gats_app]
  simp [gats]
theorem nods_take {vs : List Val} {i : Nat} : nods (vs.take i) ≤ nods vs := by
  conv => rhs; rw [← List.take_append_drop i vs]
  rw [nods_app]
  omega
theorem nods_take1 {vs : List Val} {i : Nat} {w : Val} (h : vs[i]? = some w) : nods (vs.take i) + nod w ≤ nods vs := by
  have := nods_take (vs := vs) (i := i + 1)
  rw [List.take_add_one, h, nods_app] at this
  simpa [nods] using this
theorem gats_len : ∀ (ws : List Val) (acc : List String), (gats ws acc).length ≤ acc.length + nods ws
  | [], acc => by simp [gats]
  | w :: r, acc => by
    have h1 := gat_len w acc
    have h2 := gats_len r (gat w acc)
    rw [gats, nods]
    omega
theorem gather_ok {f : Nat} : ∀ (d : Nat) (v : Val), IsK d v → ∀ (k : Nat) (acc : List String) (S : Hm), S[f]? = some (.lst (acc.map .str)) → acc.length + nod v ≤ 10 ^ 6 → callW P (k + d + 2) (.f "gather") [v, .ref f] S (fun _ S' => S'[f]? = some (.lst ((gat v acc).map .str)) ∧ Fr f S S') noX := by
  intro d
  induction d using Nat.strongRecOn with
  | _ d ih =>
  intro v hv k acc S hf hb
  have np := nod_pos v
  cases hv with
  | @var _ s q => exact gat_str (.inl q) hf (by omega)
  | @nam _ s q l => exact gat_str (.inr ⟨q, l⟩) hf (by omega)
  | @tup e h vs q0 l0 hvs hl =>
  refine call_open (k := k + e + 2) fn_f_gather ⟨rfl, ?_⟩
  show wSs _ _ _ s4_f_gather _ _ [some _, some (.ref f), none] S
  simp only [s4_f_gather, wSs, wS, wT, wEs, wO, wPs, wC, wSrc, wE_loc, wE_lit, wE_con, wE_bin, wE_neg, wE_cmp, wE_cmp2, wE_isN, wE_notN, wE_isB, wE_not, wE_and, wE_or, wE_ite, wE_tup, wE_lst, wE_dic, wE_call, wE_make, wE_meth, wE_fld, wE_sub, wE_slice, wE_bi, wE_vi, wE_bm, wE_isi, wE_lc, wE_lck, eg, es, Option.some.injEq, exists_eq_left', Lit.val]
  refine call_use (isvar_tup (k := k + e + 1)) ?_
  rintro _ S1 ⟨eS, rfl⟩
  rw [eS]
  simp only [truth, Option.some.injEq, exists_eq_left', if_false, Bool.false_eq_true, s3_f_gather, wSs, wS, wT, wEs, wO, wPs, wC, wSrc, wE_loc, wE_lit, wE_con, wE_bin, wE_neg, wE_cmp, wE_cmp2, wE_isN, wE_notN, wE_isB, wE_not, wE_and, wE_or, wE_ite, wE_tup, wE_lst, wE_dic, wE_call, wE_make, wE_meth, wE_fld, wE_sub, wE_slice, wE_bi, wE_vi, wE_bm, wE_isi, wE_lc, wE_lck, eg, es, Option.some.injEq, exists_eq_left', Lit.val]
  refine call_use (within_tup (k := k + e + 1)) ?_
  rintro _ S2 ⟨e2, rfl⟩
  rw [e2]
  simp only [seqOf]
  rw [nod, nodT] at hb
  refine for_inv (callW_mono P _) (fun i env S' => ∃ x2, env = [some (.tup (.str h :: vs)), some (.ref f), x2] ∧ S'[f]? = some (.lst ((gats (vs.take i) acc).map .str)) ∧ Fr f S S') ?_ ?_ ⟨_, rfl, by simpa [gats] using hf, Fr.refl _ _⟩
  · rintro i w env S' hi ⟨x2, rfl, g1, g2⟩
    refine ⟨trivial, ?_⟩
    simp only [tgW, s2_f_gather, wSs, wS, wT, wEs, wO, wPs, wC, wSrc, wE_loc, wE_lit, wE_con, wE_bin, wE_neg, wE_cmp, wE_cmp2, wE_isN, wE_notN, wE_isB, wE_not, wE_and, wE_or, wE_ite, wE_tup, wE_lst, wE_dic, wE_call, wE_make, wE_meth, wE_fld, wE_sub, wE_slice, wE_bi, wE_vi, wE_bm, wE_isi, wE_lc, wE_lck, eg, es, Option.some.injEq, exists_eq_left', Lit.val]
    have hb1 := gats_len (vs.take i) acc
    have hb2 := nods_take1 hi
    refine call_use (ih e (by omega) w (hvs w (List.mem_of_getElem? hi)) k _ S' g1 (by omega)) ?_
    rintro _ S3 ⟨g3, g4⟩
    exact ⟨_, rfl, by rw [gats_take hi]; exact g3, g2.trans g4⟩
  · rintro env S' ⟨x2, rfl, g1, g2⟩
    rw [List.take_length] at g1
    exact ⟨trivial, by rw [gat_tup]; exact g1, g2⟩
theorem variables_ok {d k : Nat} {v : Val} (hv : IsK d v) (hd : d ≤ 4) {S : Hm} {f : Nat} (hf : f = S.length) : callW P (k + d + 3) (.f "variables") [v] S (fun x S' => x = .ref f ∧ S'[f]? = some (.lst ((gat v []).map .str)) ∧ S.length < S'.length ∧ ∀ n, n < S.length → S'[n]? = S[n]?) noX := by
  refine call_open (k := k + d + 2) fn_f_variables ⟨rfl, ?_⟩
  show wSs _ _ _ s2_f_variables _ _ [some v, none] S
  simp only [s2_f_variables, wSs, wS, wT, wEs, wO, wPs, wC, wSrc, wE_loc, wE_lit, wE_con, wE_bin, wE_neg, wE_cmp, wE_cmp2, wE_isN, wE_notN, wE_isB, wE_not, wE_and, wE_or, wE_ite, wE_tup, wE_lst, wE_dic, wE_call, wE_make, wE_meth, wE_fld, wE_sub, wE_slice, wE_bi, wE_vi, wE_bm, wE_isi, wE_lc, wE_lck, eg, es, Option.some.injEq, exists_eq_left', Lit.val]
  have hb := nod_isK hv
  have hb2 : 4 ^ d ≤ 4 ^ 4 := Nat.pow_le_pow_right (by decide) hd
  refine ⟨by rw [sizeLine_eq]; simp, ?_⟩
  rw [← hf]
  refine call_use (gather_ok (f := f) d v hv k [] _ (by rw [hf]; exact get_new) (by simp; omega)) ?_
  rintro _ S1 ⟨g1, g2⟩
  simp only [s1_f_variables, wSs, wS, wT, wEs, wO, wPs, wC, wSrc, wE_loc, wE_lit, wE_con, wE_bin, wE_neg, wE_cmp, wE_cmp2, wE_isN, wE_notN, wE_isB, wE_not, wE_and, wE_or, wE_ite, wE_tup, wE_lst, wE_dic, wE_call, wE_make, wE_meth, wE_fld, wE_sub, wE_slice, wE_bi, wE_vi, wE_bm, wE_isi, wE_lc, wE_lck, eg, es, Option.some.injEq, exists_eq_left', Lit.val]
  refine ⟨trivial, g1, by have := g2.1; simp at this; omega, fun n hn => ?_⟩
  rw [g2.2 n (by simp; omega) (by omega)]
  exact List.getElem?_append_left (by omega)
mutual
def sb (m : List (Key × Val)) : Val → Val
  | .str s => (lookK m (.inr s)).getD (.str s)
  | .tup xs => .tup (sbT m xs)
  | v => v
def sbT (m : List (Key × Val)) : List Val → List Val
  | [] => []
  | h :: vs => h :: sbs m vs
def sbs (m : List (Key × Val)) : List Val → List Val
  | [] => []
  | v :: vs => sb m v :: sbs m vs
end
theorem sbs_eq {m : List (Key × Val)} : ∀ vs, sbs m vs = vs.map (sb m)
  | [] => rfl
  | v :: vs => by rw [sbs, sbs_eq vs]; rfl
theorem sb_tup {m : List (Key × Val)} {h : Val} {vs : List Val} : sb m (.tup (h :: vs)) = .tup (h :: vs.map (sb m)) := by
  rw [sb, sbT, sbs_eq]
/-- a dict over variables -/
def DOk (m : List (Key × Val)) : Prop := ∀ kv ∈ m, ∃ s, kv.1 = .inr s ∧ VQ s
theorem look_mem' {m : List (Key × Val)} {k : Key} {v : Val} (h : lookK m k = some v) : (k, v) ∈ m := by
  unfold lookK at h
  cases e : m.find? fun kv => decide (kv.1 = k) with
  | none => rw [e] at h; cases h
  | some kv =>
    rw [e] at h
    cases h
    have h1 := List.find?_some (p := fun kv : Key × Val => decide (kv.1 = k)) e
    have h2 := List.mem_of_find?_eq_some e
    have : kv.1 = k := of_decide_eq_true h1
    subst this
    exact h2
theorem look_nam {m : List (Key × Val)} (hm : DOk m) {s : String} (h : NQ s) : lookK m (.inr s) = none := by
  cases e : lookK m (.inr s) with
  | none => rfl
  | some v =>
    obtain ⟨t, h1, h2⟩ := hm _ (look_mem' e)
    cases h1
    exact (nq_vq h h2).elim
theorem put_ok {b : Nat} {m : List (Key × Val)} (hm : DOk m) : ∀ (d : Nat) (v : Val), IsK d v → ∀ (k : Nat) (S : Hm), S[b]? = some (.dic m) → callW P (k + d + 2) (.f "put") [v, .ref b] S (fun r S' => r = sb m v ∧ ∃ l, S' = S ++ l) noX := by
  intro d
  induction d using Nat.strongRecOn with
  | _ d ih =>
  intro v hv k S hb
  refine call_open (k := k + d + 1) fn_f_put ⟨rfl, ?_⟩
  show wSs _ _ _ s5_f_put _ _ [some v, some (.ref b), none] S
  simp only [s5_f_put, wSs, wS, wT, wEs, wO, wPs, wC, wSrc, wE_loc, wE_lit, wE_con, wE_bin, wE_neg, wE_cmp, wE_cmp2, wE_isN, wE_notN, wE_isB, wE_not, wE_and, wE_or, wE_ite, wE_tup, wE_lst, wE_dic, wE_call, wE_make, wE_meth, wE_fld, wE_sub, wE_slice, wE_bi, wE_vi, wE_bm, wE_isi, wE_lc, wE_lck, eg, es, Option.some.injEq, exists_eq_left', Lit.val]
  cases hv with
  | @var _ s q =>
    refine call_use (isvar_str (k := k + d)) ?_
    rintro _ S1 ⟨eS, rfl⟩
    rw [eS]
    rw [starts_var q]
    simp only [truth, Option.some.injEq, exists_eq_left', if_true, s1_f_put, wSs, wS, wT, wEs, wO, wPs, wC, wSrc, wE_loc, wE_lit, wE_con, wE_bin, wE_neg, wE_cmp, wE_cmp2, wE_isN, wE_notN, wE_isB, wE_not, wE_and, wE_or, wE_ite, wE_tup, wE_lst, wE_dic, wE_call, wE_make, wE_meth, wE_fld, wE_sub, wE_slice, wE_bi, wE_vi, wE_bm, wE_isi, wE_lc, wE_lck, eg, es, Option.some.injEq, exists_eq_left', Lit.val, bmT, bmW]
    exact ⟨⟨_, _, rfl, hb⟩, m, .inr s, dic_at hb, rfl, by rw [sb], [], by simp⟩
  | @nam _ s q l =>
    refine call_use (isvar_str (k := k + d)) ?_
    rintro _ S1 ⟨eS, rfl⟩
    rw [eS]
    rw [starts_nam q l]
    simp only [truth, Option.some.injEq, exists_eq_left', if_false, Bool.false_eq_true, s4_f_put, wSs, wS, wT, wEs, wO, wPs, wC, wSrc, wE_loc, wE_lit, wE_con, wE_bin, wE_neg, wE_cmp, wE_cmp2, wE_isN, wE_notN, wE_isB, wE_not, wE_and, wE_or, wE_ite, wE_tup, wE_lst, wE_dic, wE_call, wE_make, wE_meth, wE_fld, wE_sub, wE_slice, wE_bi, wE_vi, wE_bm, wE_isi, wE_lc, wE_lck, eg, es, Option.some.injEq, exists_eq_left', Lit.val]
    simp [isTy, truth]
    simp only [s3_f_put, wSs, wS, wT, wEs, wO, wPs, wC, wSrc, wE_loc, wE_lit, wE_con, wE_bin, wE_neg, wE_cmp, wE_cmp2, wE_isN, wE_notN, wE_isB, wE_not, wE_and, wE_or, wE_ite, wE_tup, wE_lst, wE_dic, wE_call, wE_make, wE_meth, wE_fld, wE_sub, wE_slice, wE_bi, wE_vi, wE_bm, wE_isi, wE_lc, wE_lck, eg, es, Option.some.injEq, exists_eq_left', Lit.val]
    exact ⟨by rw [sb, look_nam hm q]; rfl, [], by simp⟩
  | @tup e h vs q0 l0 hvs hl =>
    refine call_use (isvar_tup (k := k + (e + 1))) ?_
    rintro _ S1 ⟨eS, rfl⟩
    rw [eS]
    simp only [truth, Option.some.injEq, exists_eq_left', if_false, Bool.false_eq_true, s4_f_put, wSs, wS, wT, wEs, wO, wPs, wC, wSrc, wE_loc, wE_lit, wE_con, wE_bin, wE_neg, wE_cmp, wE_cmp2, wE_isN, wE_notN, wE_isB, wE_not, wE_and, wE_or, wE_ite, wE_tup, wE_lst, wE_dic, wE_call, wE_make, wE_meth, wE_fld, wE_sub, wE_slice, wE_bi, wE_vi, wE_bm, wE_isi, wE_lc, wE_lck, eg, es, Option.some.injEq, exists_eq_left', Lit.val]
    simp [isTy, truth]
    simp only [s2_f_put, wSs, wS, wT, wEs, wO, wPs, wC, wSrc, wE_loc, wE_lit, wE_con, wE_bin, wE_neg, wE_cmp, wE_cmp2, wE_isN, wE_notN, wE_isB, wE_not, wE_and, wE_or, wE_ite, wE_tup, wE_lst, wE_dic, wE_call, wE_make, wE_meth, wE_fld, wE_sub, wE_slice, wE_bi, wE_vi, wE_bm, wE_isi, wE_lc, wE_lck, eg, es, Option.some.injEq, exists_eq_left', Lit.val, sliceW, seqOf, cut_tl, cut_hd]
    refine ⟨1, rfl, 1, rfl, ?_⟩
    simp only [cut_hd, cut_tl]
    refine lcr_inv (callW_mono P _) (fun i acc S' => acc = (vs.take i).map (sb m) ∧ ∃ l, S' = S ++ l) ?_ ?_ ⟨by simp, [], by simp⟩
    · rintro i v acc S' hi ⟨rfl, l, rfl⟩
      have hi' := lt_of_get hi
      refine ⟨trivial, ?_⟩
      simp only [tgW, List.map_cons, List.map_nil, ewipe, wSs, wS, wT, wEs, wO, wPs, wC, wSrc, wE_loc, wE_lit, wE_con, wE_bin, wE_neg, wE_cmp, wE_cmp2, wE_isN, wE_notN, wE_isB, wE_not, wE_and, wE_or, wE_ite, wE_tup, wE_lst, wE_dic, wE_call, wE_make, wE_meth, wE_fld, wE_sub, wE_slice, wE_bi, wE_vi, wE_bm, wE_isi, wE_lc, wE_lck, eg, es, Option.some.injEq, exists_eq_left', Lit.val, if_true]
      refine call_use (ih e (by omega) v (hvs v (List.mem_of_getElem? hi)) k _ (get_app hb)) ?_
      rintro r S2 ⟨rfl, l2, rfl⟩
      refine ⟨by rw [sizeLine_eq]; simp; omega, ?_, l ++ l2, by simp⟩
      rw [List.take_add_one, hi]
      simp
    · rintro acc S' ⟨rfl, l, rfl⟩
      refine ⟨trivial, ?_⟩
      simp only [biW]
      refine ⟨_, lst_at get_new, ?_⟩
      simp only [binW]
      refine ⟨by rw [sizeLine_eq]; simp; omega, by rw [sb_tup]; simp, l ++ [_], by simp; rfl⟩
theorem sb_isK {e : Nat} {m : List (Key × Val)} (hm : ∀ kv ∈ m, IsK e kv.2) {d : Nat} {v : Val} (h : IsK d v) : IsK (d + e) (sb m v) := by
  have str : ∀ (s : String) (n : Nat), IsK n (.str s) → IsK (n + e) (sb m (.str s)) := by
    intro s n hs
    rw [sb]
    cases q : lookK m (.inr s) with
    | none => exact hs.le (by omega)
    | some x => exact (hm _ (look_mem' q)).le (by omega)
  induction h with
  | var q => exact str _ _ (.var q)
  | nam q l => exact str _ _ (.nam q l)
  | @tup n h vs q0 l0 hv hl ih =>
    rw [sb_tup, show n + 1 + e = n + e + 1 from by omega]
    refine .tup q0 l0 (fun v hv' => ?_) (by simpa using hl)
    obtain ⟨x, hx, rfl⟩ := List.mem_map.mp hv'
    exact ih x hx
/-- the data of a kind -/
theorem dat_isK {S : Hm} {d : Nat} {v : Val} (h : IsK d v) : ∀ k, d ≤ k → ∃ x, dat S k v = some x ∧ PyData.eqv x x = true := by
  have str : ∀ (s : String) (k : Nat), ∃ x, dat S k (.str s) = some x ∧ PyData.eqv x x = true := fun s k => by
    refine ⟨.str (Str.ofString s), by cases k <;> rfl, ?_⟩
    simp only [PyData.eqv, beq_self_eq_true]
  induction h with
  | var q => intro k _; exact str _ k
  | nam q l => intro k _; exact str _ k
  | @tup n h vs q0 l0 hv hl ih =>
    intro k hk
    obtain ⟨k, rfl⟩ : ∃ j, k = j + 1 := ⟨k - 1, by omega⟩
    have all : ∀ (ws : List Val), (∀ w ∈ ws, ∃ x, dat S k w = some x ∧ PyData.eqv x x = true) → ∃ xs, ws.mapM (dat S k) = some xs ∧ PyData.eqvAll xs xs = true := by
      intro ws
      induction ws with
      | nil => intro _; exact ⟨[], rfl, by simp only [PyData.eqvAll]⟩
      | cons w r ihw =>
        intro hw
        obtain ⟨x, e1, e2⟩ := hw w List.mem_cons_self
        obtain ⟨xs, e3, e4⟩ := ihw fun u hu => hw u (List.mem_cons_of_mem _ hu)
        refine ⟨x :: xs, ?_, ?_⟩
        · rw [List.mapM_cons, e1, e3]; rfl
        · simp only [PyData.eqvAll, e2, e4, Bool.and_self]
    obtain ⟨xs, e1, e2⟩ := all (.str h :: vs) (fun w hw => by
      rcases List.mem_cons.mp hw with rfl | hw
      · exact str _ k
      · exact ih w hw k (by omega))
    refine ⟨.tuple xs, ?_, ?_⟩
    · simp only [dat]
      rw [e1]; rfl
    · simp only [PyData.eqv]
      exact e2
end K43

set_option maxHeartbeats 4000000
namespace K43
open Mi PySem
theorem path_list (p n : String) : (p ++ "." ++ n).toList = p.toList ++ '.' :: n.toList := by simp
theorem path_len (p n : String) : (p ++ "." ++ n).length = p.length + 1 + n.length := by
  rw [String.length_append, String.length_append]
  rfl
theorem path_split {p n : String} (hp : '.' ∉ p.toList) (hn : '.' ∉ n.toList) : Txt.split (Str.ofString (p ++ "." ++ n)) (Str.ofString ".") = [p, n].map Str.ofString := by
  have := split_eq (p ++ "." ++ n) '.'
  rw [path_list, splitC_at hp, splitC_none hn] at this
  rw [show (".": String) = String.singleton '.' from rfl]
  refine this.trans ?_
  simp
theorem dot_in {s : String} {b : Bool} {S : Hm} {Q : Bool → Prop} (h : b = decide ('.' ∈ s.toList)) (hq : Q b) : inW (.str ".") (.str s) S Q := .inl ⟨'.', by decide, by rw [← h]; exact hq⟩
theorem in_dic {n : Nat} {m : List (Key × Val)} {s : String} {S : Hm} {Q : Bool → Prop} (h : S[n]? = some (.dic m)) (hq : Q (lookK m (.inr s)).isSome) : inW (.str s) (.ref n) S Q := .inr ⟨m, .inr s, dic_at h, rfl, hq⟩
/-! ### kinds turned -/
def ltr (m : Nat) : List Val := [Val.str "?a", Val.str "?b"].take m
def pk (p : String) (m : Nat) : Val := if m = 0 then .str p else .tup (.str p :: ltr m)
def lkS (m : List (Key × Val)) (h : String) : String := match lookK m (.inr h) with
  | some (.str b) => b
  | _ => h
def mw (m : List (Key × Val)) (s : String) : String := match splitC '.' s.toList with
  | [h, t] => lkS m (String.ofList h) ++ "." ++ String.ofList t
  | _ => s
theorem mw_no {m : List (Key × Val)} {s : String} (h : '.' ∉ s.toList) : mw m s = s := by
  unfold mw
  rw [splitC_none h]
theorem mw_at {m : List (Key × Val)} {h t : String} (h1 : '.' ∉ h.toList) (h2 : '.' ∉ t.toList) : mw m (h ++ "." ++ t) = lkS m h ++ "." ++ t := by
  unfold mw
  rw [path_list, splitC_at h1, splitC_none h2]
  simp
def DW (s : String) : Prop := '.' ∉ s.toList ∨ ∃ h t, s = h ++ "." ++ t ∧ '.' ∉ h.toList ∧ '.' ∉ t.toList
def VV (s : String) : Prop := s = "?a" ∨ s = "?b"
def NW (s : String) : Prop := NQ s ∧ 0 < s.length ∧ DW s ∧ s.length ≤ 30
theorem VV.v {s : String} (h : VV s) : VQ s := by
  rcases h with rfl | rfl
  · exact ⟨['a'], by decide⟩
  · exact ⟨['b'], by decide⟩
theorem VV.no {s : String} (h : VV s) : '.' ∉ s.toList := by
  rcases h with rfl | rfl <;> decide
/-- kinds as they are told -/
inductive KF : Nat → Val → Prop where
  | var {n s} : VV s → KF n (.str s)
  | nam {n s} : NW s → KF n (.str s)
  | tup {n h vs} : NW h → (∀ v ∈ vs, KF n v) → vs.length ≤ 3 → 0 < vs.length → KF (n + 1) (.tup (.str h :: vs))
def BOk (m : List (Key × Val)) : Prop := ∀ kv ∈ m, ∃ a b, kv = (.inr a, .str b) ∧ NQ b ∧ 0 < b.length ∧ b.length ≤ 30
def HOk (hd : List (Key × Val)) : Prop := ∀ kv ∈ hd, ∃ x m p, kv = (.inr x, .tup [.tup (ltr m), pk p m]) ∧ m ≤ 2 ∧ NQ p ∧ 0 < p.length ∧ p.length ≤ 100
theorem NQ.dot : NQ "." := by intro c hc; have : c = '.' := by simpa using hc
                              rw [this]; decide
theorem NQ.left {a b : String} (h : NQ (a ++ b)) : NQ a := fun c hc => h c (by rw [String.toList_append]; exact List.mem_append_left _ hc)
theorem NQ.right {a b : String} (h : NQ (a ++ b)) : NQ b := fun c hc => h c (by rw [String.toList_append]; exact List.mem_append_right _ hc)
theorem lkS_ok {m : List (Key × Val)} (hm : BOk m) {h : String} (hq : NQ h) (hl : h.length ≤ 30) : NQ (lkS m h) ∧ (lkS m h).length ≤ 30 := by
  unfold lkS
  cases e : lookK m (.inr h) with
  | none => exact ⟨hq, hl⟩
  | some v =>
    obtain ⟨a, b, e1, e2, e3, e4⟩ := hm _ (look_mem' e)
    cases e1
    exact ⟨e2, e4⟩
theorem mw_ok {m : List (Key × Val)} (hm : BOk m) {s : String} (h : NW s) : NQ (mw m s) ∧ 0 < (mw m s).length ∧ (mw m s).length ≤ 100 := by
  obtain ⟨q, l0, d, l1⟩ := h
  rcases d with d | ⟨h, t, rfl, d1, d2⟩
  · rw [mw_no d]; exact ⟨q, l0, by omega⟩
  · rw [mw_at d1 d2]
    rw [path_len] at l1
    obtain ⟨a, b⟩ := lkS_ok hm (h := h) q.left.left (by omega)
    exact ⟨(a.app NQ.dot).app q.right, by rw [path_len]; omega, by rw [path_len]; omega⟩
/-- the letters' kinds -/
def dz (m : Nat) (ks : List Val) : List (Key × Val) := ((["?a", "?b"].take m).zip ks).foldl (fun d p => putK d (.inr p.1) p.2) []
mutual
def tr (by_ hd : List (Key × Val)) : Val → Val
  | .str s => match lookK hd (.inr s) with
    | some (.tup [_, inner]) => inner
    | _ => .str (mw by_ s)
  | .tup xs => trT by_ hd xs
  | v => v
def trT (by_ hd : List (Key × Val)) : List Val → Val
  | .str h :: vs => match lookK hd (.inr h) with
    | some (.tup [.tup ls, inner]) => sb (dz ls.length (trs by_ hd vs)) inner
    | _ => .tup (.str (mw by_ h) :: trs by_ hd vs)
  | xs => .tup xs
def trs (by_ hd : List (Key × Val)) : List Val → List Val
  | [] => []
  | v :: vs => tr by_ hd v :: trs by_ hd vs
end
theorem trs_eq {b h : List (Key × Val)} : ∀ vs, trs b h vs = vs.map (tr b h)
  | [] => rfl
  | v :: vs => by rw [trs, trs_eq vs]; rfl
theorem ltr_len {m : Nat} (h : m ≤ 2) : (ltr m).length = m := by simp [ltr]; omega
theorem ltr_isK {m n : Nat} : ∀ v ∈ ltr m, IsK n v := by
  intro v hv
  have := List.mem_of_mem_take hv
  simp only [List.mem_cons, List.not_mem_nil, or_false] at this
  rcases this with rfl | rfl
  · exact .var ⟨['a'], by decide⟩
  · exact .var ⟨['b'], by decide⟩
theorem pk_isK {p : String} {m : Nat} (hm : m ≤ 2) (h : NQ p) (h0 : 0 < p.length) : IsK 1 (pk p m) := by
  unfold pk
  split
  · exact .nam h h0
  · exact .tup h h0 ltr_isK (by rw [ltr_len hm]; omega)
theorem pk_isK0 {p : String} (h : NQ p) (h0 : 0 < p.length) : IsK 0 (pk p 0) := .nam h h0
theorem putK_mem {m : List (Key × Val)} {k : Key} {v : Val} {kv : Key × Val} (h : kv ∈ putK m k v) : kv ∈ m ∨ kv = (k, v) := by
  unfold putK at h
  split at h
  · obtain ⟨q, h1, h2⟩ := List.mem_map.mp h
    split at h2
    · right
      rename_i e
      rw [← h2, e]
    · exact .inl (h2 ▸ h1)
  · rcases List.mem_append.mp h with z | z
    · exact .inl z
    · exact .inr (by simpa using z)
theorem dz_mem {m : Nat} {ks : List Val} {kv : Key × Val} (h : kv ∈ dz m ks) : (kv.1 = .inr "?a" ∨ kv.1 = .inr "?b") ∧ kv.2 ∈ ks := by
  have key : ∀ (l : List (String × Val)) (acc : List (Key × Val)), kv ∈ l.foldl (fun d p => putK d (.inr p.1) p.2) acc → kv ∈ acc ∨ ∃ p ∈ l, kv = (.inr p.1, p.2) := by
    intro l
    induction l with
    | nil => intro acc h; exact .inl h
    | cons p r ih =>
      intro acc h
      rcases ih _ h with z | ⟨q, h1, h2⟩
      · rcases putK_mem z with z | z
        · exact .inl z
        · exact .inr ⟨p, List.mem_cons_self, z⟩
      · exact .inr ⟨q, List.mem_cons_of_mem _ h1, h2⟩
  rcases key _ _ h with z | ⟨p, h1, h2⟩
  · cases z
  · obtain ⟨z1, z2⟩ := List.of_mem_zip h1
    have z1 := List.mem_of_mem_take z1
    subst h2
    refine ⟨?_, z2⟩
    simp only [List.mem_cons, List.not_mem_nil, or_false] at z1
    rcases z1 with e | e <;> rw [e] <;> simp
theorem dz_ok {m : Nat} {ks : List Val} : DOk (dz m ks) := fun kv h => by
  rcases (dz_mem h).1 with e | e
  · exact ⟨_, e, ⟨['a'], by decide⟩⟩
  · exact ⟨_, e, ⟨['b'], by decide⟩⟩
theorem hd_look {hd : List (Key × Val)} (hh : HOk hd) {s : String} {v : Val} (e : lookK hd (.inr s) = some v) : ∃ m p, v = .tup [.tup (ltr m), pk p m] ∧ m ≤ 2 ∧ NQ p ∧ 0 < p.length ∧ p.length ≤ 100 := by
  obtain ⟨x, m, p, e1, e2⟩ := hh _ (look_mem' e)
  cases e1
  exact ⟨m, p, rfl, e2⟩
theorem tr_isK {b hd : List (Key × Val)} (hb : BOk b) (hh : HOk hd) {d : Nat} {v : Val} (h : KF d v) : IsK (d + 1) (tr b hd v) := by
  have str : ∀ (s : String) (n : Nat), (VV s ∨ NW s) → IsK (n + 1) (tr b hd (.str s)) := by
    intro s n hs
    rw [tr]
    cases e : lookK hd (.inr s) with
    | none =>
      rcases hs with hs | hs
      · show IsK _ (.str (mw b s))
        rw [mw_no hs.no]
        exact .var hs.v
      · obtain ⟨a, c, _⟩ := mw_ok hb hs
        exact .nam a c
    | some v =>
      obtain ⟨m, p, rfl, e2, e3, e4, _⟩ := hd_look hh e
      exact (pk_isK e2 e3 e4).le (by omega)
  induction h with
  | var q => exact str _ _ (.inl q)
  | nam q => exact str _ _ (.inr q)
  | @tup n h vs q hv hl h0 ih =>
    rw [tr, trT, trs_eq]
    have all : ∀ x ∈ vs.map (tr b hd), IsK (n + 1) x := fun x hx => by
      obtain ⟨v, hv, rfl⟩ := List.mem_map.mp hx
      exact ih v hv
    cases e : lookK hd (.inr h) with
    | none =>
      obtain ⟨a, c, _⟩ := mw_ok hb q
      exact .tup a c all (by simpa using hl)
    | some v =>
      obtain ⟨m, p, rfl, e2, e3, e4, _⟩ := hd_look hh e
      show IsK _ (sb (dz (ltr m).length (vs.map (tr b hd))) (pk p m))
      have := sb_isK (m := dz (ltr m).length (vs.map (tr b hd))) (e := n + 1) (fun kv hk => all _ (dz_mem hk).2) (pk_isK e2 e3 e4)
      exact this.le (by omega)
end K43

set_option maxHeartbeats 4000000
namespace K43
open Mi PySem
theorem lift_to {k j : Nat} (e : k = j) {f : FK} {args : List Val} {S : Hm} {Q : Post} {X : XPost} (h : callW P k f args S Q X) : callW P j f args S Q X := e ▸ h
theorem ltr_map {m : Nat} : ltr m = (["?a", "?b"].take m).map .str := by
  unfold ltr
  rw [show [Val.str "?a", Val.str "?b"] = ["?a", "?b"].map .str from rfl, List.map_take]
def psz (m : Nat) (ks : List Val) : List (Key × Val) := ((["?a", "?b"].take m).zip ks).map fun q => (.inr q.1, q.2)
theorem psz_pair {m : Nat} {ks : List Val} : pairL (ltr m) ks = (psz m ks).map fun p => .tup [p.1.val, p.2] := by
  rw [pairL_zip, ltr_map, psz, List.map_map, List.zip_map_left, List.map_map]
  rfl
theorem psz_fold {m : Nat} {ks : List Val} : (psz m ks).foldl (fun d p => putK d p.1 p.2) [] = dz m ks := by
  rw [psz, dz, List.foldl_map]
theorem dz_nil {m : Nat} : dz m [] = [] := by simp [dz]
theorem nofree {w : String} {hd : List (Key × Val)} {v : Val} (e : lookK hd (.inr w) = some v) : (lookK hd (.inr w)).isSome = true := by rw [e]; rfl
theorem VV.v2 {s : String} (h : VV s ∨ NW s) : (VQ s ∧ VV s) ∨ (NW s ∧ NQ s ∧ 0 < s.length) := by
  rcases h with h | h
  · exact .inl ⟨h.v, h⟩
  · exact .inr ⟨h, h.1, h.2.1⟩
theorem DW.cases {s : String} (h : VV s ∨ NW s) : ('.' ∉ s.toList) ∨ (NQ s ∧ 0 < s.length ∧ s.length ≤ 30 ∧ ∃ p t, s = p ++ "." ++ t ∧ '.' ∉ p.toList ∧ '.' ∉ t.toList) := by
  rcases h with h | ⟨a, b, c, d⟩
  · exact .inl h.no
  · rcases c with c | c
    · exact .inl c
    · exact .inr ⟨a, b, d, c⟩
section
variable {k b h : Nat} {m hd : List (Key × Val)} {S : Hm}
theorem get_lk (hm : BOk m) {p : String} : (lookK m (.inr p)).getD (.str p) = .str (lkS m p) := by
  unfold lkS
  cases e : lookK m (.inr p) with
  | none => rfl
  | some v =>
    obtain ⟨a, b, e1, _⟩ := hm _ (look_mem' e)
    cases e1
    rfl
theorem split_two {p t : String} {Q : Post} (h1 : '.' ∉ p.toList) (h2 : '.' ∉ t.toList) (hl : (p ++ "." ++ t).length ≤ 1000) (hq : Q (.ref S.length) (S ++ [.lst [.str p, .str t]])) : bmW .split (.str (p ++ "." ++ t)) [.str "."] S Q :=
  ⟨[p, t], path_split h1 h2, by decide, by rw [sizeLine_eq]; omega, hq⟩
theorem moved_ok {s : String} (hs : VV s ∨ NW s) (hm : BOk m) (hb : S[b]? = some (.dic m)) : callW P (k + 1) (.f "moved_word") [.str s, .ref b] S (fun v S' => v = .str (mw m s) ∧ ∃ l, S' = S ++ l) noX := by
  refine call_open fn_f_moved_word ⟨rfl, ?_⟩
  show wSs _ _ _ s3_f_moved_word _ _ [some (.str s), some (.ref b), none, none] S
  rw [s3_f_moved_word]
  generalize hV : s2_f_moved_word = V
  generalize hU : s1_f_moved_word = U
  simp only [wSs, wS, wT, wEs, wO, wPs, wC, wSrc, wE_loc, wE_lit, wE_con, wE_bin, wE_neg, wE_cmp, wE_cmp2, wE_isN, wE_notN, wE_isB, wE_not, wE_and, wE_or, wE_ite, wE_tup, wE_lst, wE_dic, wE_call, wE_make, wE_meth, wE_fld, wE_sub, wE_slice, wE_bi, wE_vi, wE_bm, wE_isi, wE_lc, wE_lck, eg, es, Option.some.injEq, exists_eq_left', Lit.val]
  refine ⟨⟨_, rfl⟩, ?_⟩
  have A : ∀ (Y : XS) (D : Mi.Sp), D.rt = (fun v S' => v = .str (mw m s) ∧ ∃ l, S' = S ++ l) → '.' ∉ s.toList → wSs P.con P.sub (callW P k) U Y D [some (.str s), some (.ref b), none, none] S := by
    intro Y D eD hn
    subst hU
    simp only [s1_f_moved_word, wSs, wS, wT, wEs, wO, wPs, wC, wSrc, wE_loc, wE_lit, wE_con, wE_bin, wE_neg, wE_cmp, wE_cmp2, wE_isN, wE_notN, wE_isB, wE_not, wE_and, wE_or, wE_ite, wE_tup, wE_lst, wE_dic, wE_call, wE_make, wE_meth, wE_fld, wE_sub, wE_slice, wE_bi, wE_vi, wE_bm, wE_isi, wE_lc, wE_lck, eg, es, Option.some.injEq, exists_eq_left', Lit.val]
    rw [eD]
    exact ⟨by rw [mw_no hn], [], by simp⟩
  show ∃ b_1, truth (.bl (Txt.startswith (Str.ofString s) (Str.ofString "?"))) S = some b_1 ∧ _
  simp only [truth, Option.some.injEq, exists_eq_left']
  rcases DW.cases hs with hn | ⟨q, l0, l1, p, t, rfl, h1, h2⟩
  · by_cases hq : Txt.startswith (Str.ofString s) (Str.ofString "?") = true
    · rw [if_pos hq, if_pos trivial]
      exact A _ _ rfl hn
    · rw [if_neg hq]
      simp only [cmpW]
      exact dot_in (b := false) (by simp [hn]) (A _ _ rfl hn)
  · rw [starts_nam q l0, if_neg (by decide)]
    simp only [cmpW]
    refine dot_in (b := true) (by simp) ?_
    show wSs P.con P.sub (callW P k) V _ _ _ _
    subst hV
    simp only [s2_f_moved_word, wSs, wS, wT, wEs, wO, wPs, wC, wSrc, wE_loc, wE_lit, wE_con, wE_bin, wE_neg, wE_cmp, wE_cmp2, wE_isN, wE_notN, wE_isB, wE_not, wE_and, wE_or, wE_ite, wE_tup, wE_lst, wE_dic, wE_call, wE_make, wE_meth, wE_fld, wE_sub, wE_slice, wE_bi, wE_vi, wE_bm, wE_isi, wE_lc, wE_lck, eg, es, Option.some.injEq, exists_eq_left', Lit.val]
    refine ⟨⟨_, rfl⟩, split_two h1 h2 (by omega) ⟨_, _, rfl, lst_at get_new, rfl, ?_⟩⟩
    simp only [List.zip_cons_cons, List.zip_nil_right, List.foldl_cons, List.foldl_nil, es, wSs, wS, wT, wEs, wO, wPs, wC, wSrc, wE_loc, wE_lit, wE_con, wE_bin, wE_neg, wE_cmp, wE_cmp2, wE_isN, wE_notN, wE_isB, wE_not, wE_and, wE_or, wE_ite, wE_tup, wE_lst, wE_dic, wE_call, wE_make, wE_meth, wE_fld, wE_sub, wE_slice, wE_bi, wE_vi, wE_bm, wE_isi, wE_lc, wE_lck, eg, es, Option.some.injEq, exists_eq_left', Lit.val, bmT, bmW]
    have hb2 := get_app (l := [Ob.lst [.str p, .str t]]) hb
    have pl : (p ++ "." ++ t).length ≤ 30 := l1
    rw [path_len] at pl
    obtain ⟨z1, z2⟩ := lkS_ok hm (h := p) (q.left.left) (by omega)
    have hd1 : ".".length = 1 := by decide
    refine ⟨⟨_, _, rfl, hb2⟩, m, .inr p, dic_at hb2, rfl, ?_⟩
    rw [get_lk hm]
    refine ⟨by rw [sizeLine_eq]; omega, by rw [sizeLine_eq, String.length_append]; omega, ?_⟩
    exact ⟨by rw [mw_at h1 h2], _, rfl⟩
theorem lword_ok {s : String} (hs : VV s ∨ NW s) (hm : BOk m) (hb : S[b]? = some (.dic m)) : callW P (k + 1) (.f "_law_word") [.str s, .ref b] S (fun v S' => v = .str (mw m s) ∧ ∃ l, S' = S ++ l) noX := by
  refine call_open fn_f_law_word ⟨rfl, ?_⟩
  show wSs _ _ _ s3_f_law_word _ _ [some (.str s), some (.ref b), none, none] S
  rw [s3_f_law_word]
  generalize hV : s2_f_law_word = V
  generalize hU : s1_f_law_word = U
  simp only [wSs, wS, wT, wEs, wO, wPs, wC, wSrc, wE_loc, wE_lit, wE_con, wE_bin, wE_neg, wE_cmp, wE_cmp2, wE_isN, wE_notN, wE_isB, wE_not, wE_and, wE_or, wE_ite, wE_tup, wE_lst, wE_dic, wE_call, wE_make, wE_meth, wE_fld, wE_sub, wE_slice, wE_bi, wE_vi, wE_bm, wE_isi, wE_lc, wE_lck, eg, es, Option.some.injEq, exists_eq_left', Lit.val, cmpW]
  rcases DW.cases hs with hn | ⟨q, l0, l1, p, t, rfl, h1, h2⟩
  · refine dot_in (b := false) (by simp [hn]) ?_
    simp only [truth, Option.some.injEq, exists_eq_left']
    rw [if_pos (by decide)]
    subst hU
    simp only [s1_f_law_word, wSs, wS, wT, wEs, wO, wPs, wC, wSrc, wE_loc, wE_lit, wE_con, wE_bin, wE_neg, wE_cmp, wE_cmp2, wE_isN, wE_notN, wE_isB, wE_not, wE_and, wE_or, wE_ite, wE_tup, wE_lst, wE_dic, wE_call, wE_make, wE_meth, wE_fld, wE_sub, wE_slice, wE_bi, wE_vi, wE_bm, wE_isi, wE_lc, wE_lck, eg, es, Option.some.injEq, exists_eq_left', Lit.val]
    exact ⟨by rw [mw_no hn], [], by simp⟩
  · refine dot_in (b := true) (by simp) ?_
    simp only [truth, Option.some.injEq, exists_eq_left']
    rw [if_neg (by decide)]
    subst hV
    simp only [s2_f_law_word, wSs, wS, wT, wEs, wO, wPs, wC, wSrc, wE_loc, wE_lit, wE_con, wE_bin, wE_neg, wE_cmp, wE_cmp2, wE_isN, wE_notN, wE_isB, wE_not, wE_and, wE_or, wE_ite, wE_tup, wE_lst, wE_dic, wE_call, wE_make, wE_meth, wE_fld, wE_sub, wE_slice, wE_bi, wE_vi, wE_bm, wE_isi, wE_lc, wE_lck, eg, es, Option.some.injEq, exists_eq_left', Lit.val]
    refine ⟨⟨_, rfl⟩, split_two h1 h2 (by omega) ⟨_, _, rfl, lst_at get_new, rfl, ?_⟩⟩
    simp only [List.zip_cons_cons, List.zip_nil_right, List.foldl_cons, List.foldl_nil, es, wSs, wS, wT, wEs, wO, wPs, wC, wSrc, wE_loc, wE_lit, wE_con, wE_bin, wE_neg, wE_cmp, wE_cmp2, wE_isN, wE_notN, wE_isB, wE_not, wE_and, wE_or, wE_ite, wE_tup, wE_lst, wE_dic, wE_call, wE_make, wE_meth, wE_fld, wE_sub, wE_slice, wE_bi, wE_vi, wE_bm, wE_isi, wE_lc, wE_lck, eg, es, Option.some.injEq, exists_eq_left', Lit.val, bmT, bmW]
    have hb2 := get_app (l := [Ob.lst [.str p, .str t]]) hb
    have pl : (p ++ "." ++ t).length ≤ 30 := l1
    rw [path_len] at pl
    obtain ⟨z1, z2⟩ := lkS_ok hm (h := p) (q.left.left) (by omega)
    have hd1 : ".".length = 1 := by decide
    refine ⟨⟨_, _, rfl, hb2⟩, m, .inr p, dic_at hb2, rfl, ?_⟩
    rw [get_lk hm]
    refine ⟨by rw [sizeLine_eq]; omega, by rw [sizeLine_eq, String.length_append]; omega, ?_⟩
    exact ⟨by rw [mw_at h1 h2], _, rfl⟩
theorem lput_ok (hm : DOk m) : ∀ (d : Nat) (v : Val), IsK d v → ∀ (k : Nat) (S : Hm), S[b]? = some (.dic m) → callW P (k + d + 1) (.f "_law_put") [v, .ref b] S (fun r S' => r = sb m v ∧ ∃ l, S' = S ++ l) noX := by
  intro d
  induction d using Nat.strongRecOn with
  | _ d ih =>
  intro v hv k S hb
  refine call_open (k := k + d) fn_f_law_put ⟨rfl, ?_⟩
  show wSs _ _ _ s3_f_law_put _ _ [some v, some (.ref b), none] S
  simp only [s3_f_law_put, wSs, wS, wT, wEs, wO, wPs, wC, wSrc, wE_loc, wE_lit, wE_con, wE_bin, wE_neg, wE_cmp, wE_cmp2, wE_isN, wE_notN, wE_isB, wE_not, wE_and, wE_or, wE_ite, wE_tup, wE_lst, wE_dic, wE_call, wE_make, wE_meth, wE_fld, wE_sub, wE_slice, wE_bi, wE_vi, wE_bm, wE_isi, wE_lc, wE_lck, eg, es, Option.some.injEq, exists_eq_left', Lit.val]
  have str : ∀ (s : String) X nx, wSs P.con P.sub (callW P (k + d)) s1_f_law_put X { nx := nx, rt := fun r S' => r = sb m (.str s) ∧ ∃ l, S' = S ++ l } [some (.str s), some (.ref b), none] S := by
    intro s X nx
    simp only [s1_f_law_put, wSs, wS, wT, wEs, wO, wPs, wC, wSrc, wE_loc, wE_lit, wE_con, wE_bin, wE_neg, wE_cmp, wE_cmp2, wE_isN, wE_notN, wE_isB, wE_not, wE_and, wE_or, wE_ite, wE_tup, wE_lst, wE_dic, wE_call, wE_make, wE_meth, wE_fld, wE_sub, wE_slice, wE_bi, wE_vi, wE_bm, wE_isi, wE_lc, wE_lck, eg, es, Option.some.injEq, exists_eq_left', Lit.val, bmT, bmW]
    exact ⟨⟨_, _, rfl, hb⟩, m, .inr s, dic_at hb, rfl, by rw [sb], [], by simp⟩
  cases hv with
  | @var _ s q =>
    simp [isTy, truth]
    exact str s _ _
  | @nam _ s q l =>
    simp [isTy, truth]
    exact str s _ _
  | @tup e h vs q0 l0 hvs hl =>
    simp [isTy, truth]
    simp only [s2_f_law_put, wSs, wS, wT, wEs, wO, wPs, wC, wSrc, wE_loc, wE_lit, wE_con, wE_bin, wE_neg, wE_cmp, wE_cmp2, wE_isN, wE_notN, wE_isB, wE_not, wE_and, wE_or, wE_ite, wE_tup, wE_lst, wE_dic, wE_call, wE_make, wE_meth, wE_fld, wE_sub, wE_slice, wE_bi, wE_vi, wE_bm, wE_isi, wE_lc, wE_lck, eg, es, Option.some.injEq, exists_eq_left', Lit.val, sliceW, seqOf, cut_tl, cut_hd]
    refine ⟨1, rfl, 1, rfl, ?_⟩
    simp only [cut_hd, cut_tl]
    refine lcr_inv (callW_mono P _) (fun i acc S' => acc = (vs.take i).map (sb m) ∧ ∃ l, S' = S ++ l) ?_ ?_ ⟨by simp, [], by simp⟩
    · rintro i v acc S' hi ⟨rfl, l, rfl⟩
      have hi' := lt_of_get hi
      refine ⟨trivial, ?_⟩
      simp only [tgW, List.map_cons, List.map_nil, ewipe, wSs, wS, wT, wEs, wO, wPs, wC, wSrc, wE_loc, wE_lit, wE_con, wE_bin, wE_neg, wE_cmp, wE_cmp2, wE_isN, wE_notN, wE_isB, wE_not, wE_and, wE_or, wE_ite, wE_tup, wE_lst, wE_dic, wE_call, wE_make, wE_meth, wE_fld, wE_sub, wE_slice, wE_bi, wE_vi, wE_bm, wE_isi, wE_lc, wE_lck, eg, es, Option.some.injEq, exists_eq_left', Lit.val, if_true]
      refine call_use (ih e (by omega) v (hvs v (List.mem_of_getElem? hi)) k _ (get_app hb)) ?_
      rintro r S2 ⟨rfl, l2, rfl⟩
      refine ⟨by rw [sizeLine_eq]; simp; omega, ?_, l ++ l2, by simp⟩
      rw [List.take_add_one, hi]
      simp
    · rintro acc S' ⟨rfl, l, rfl⟩
      refine ⟨trivial, ?_⟩
      simp only [biW]
      refine ⟨_, lst_at get_new, ?_⟩
      simp only [binW]
      refine ⟨by rw [sizeLine_eq]; simp; omega, by rw [sb_tup]; simp, l ++ [_], by simp; rfl⟩
/-! unfolded -/
def hdR (m hd : List (Key × Val)) (w : String) (ks : List Val) : Val := match lookK hd (.inr w) with
  | some (.tup [.tup ls, inner]) => sb (dz ls.length ks) inner
  | _ => if ks = [] then .str (mw m w) else .tup (.str (mw m w) :: ks)
theorem tr_str (hh : HOk hd) {s : String} : tr m hd (.str s) = hdR m hd s [] := by
  rw [tr, hdR]
  cases e : lookK hd (.inr s) with
  | none => rfl
  | some v =>
    obtain ⟨n, p, rfl, e2, e3, e4, _⟩ := hd_look hh e
    show pk p n = sb (dz _ []) (pk p n)
    rw [dz_nil]
    have self : ∀ {d : Nat} {v : Val}, IsK d v → sb [] v = v := by
      intro d v h
      have str : ∀ s, sb [] (.str s) = .str s := fun s => by rw [sb]; rfl
      induction h with
      | var q => exact str _
      | nam q l => exact str _
      | @tup n h vs q0 l0 hv hl ih =>
        rw [sb_tup]
        congr 2
        conv => rhs; rw [← List.map_id vs]
        exact List.map_congr_left fun x hx => ih x hx
    exact (self (pk_isK e2 e3 e4)).symm
theorem tr_tup (hh : HOk hd) {s : String} {vs : List Val} (h : 0 < vs.length) : tr m hd (.tup (.str s :: vs)) = hdR m hd s (vs.map (tr m hd)) := by
  have ne : vs.map (tr m hd) ≠ [] := by
    intro z
    rw [List.map_eq_nil_iff] at z
    rw [z] at h
    cases h
  rw [tr, trT, hdR, trs_eq]
  simp only [if_neg ne] <;>
  (cases e : lookK hd (.inr s) with
  | none => rfl
  | some v =>
    obtain ⟨n, p, rfl, _⟩ := hd_look hh e
    rfl)
theorem eq_emp {ks : List Val} {Q : Bool → Prop} (hk : ∀ x ∈ ks, IsK 20 x) (hq : Q (decide (ks = []))) : eqW (.tup ks) (.tup []) S Q := by
  have all : ∀ (ws : List Val), (∀ w ∈ ws, IsK 20 w) → ∃ xs, ws.mapM (dat S 59) = some xs ∧ xs.length = ws.length := by
    intro ws
    induction ws with
    | nil => intro _; exact ⟨[], rfl, rfl⟩
    | cons w r ihw =>
      intro hw
      obtain ⟨x, e1, e2⟩ := dat_isK (S := S) (hw w List.mem_cons_self) 59 (by omega)
      obtain ⟨xs, e3, e4⟩ := ihw fun u hu => hw u (List.mem_cons_of_mem _ hu)
      exact ⟨x :: xs, by rw [List.mapM_cons, e1, e3]; rfl, by simp [e4]⟩
  obtain ⟨xs, e1, e2⟩ := all ks hk
  refine .inl ⟨.tuple xs, .tuple [], ?_, rfl, ?_⟩
  · simp only [dat]; rw [e1]; rfl
  · cases ks with
    | nil =>
      have : xs = [] := by simpa using e2
      subst this
      exact hq
    | cons a r =>
      cases xs with
      | nil => simp at e2
      | cons x xs =>
        have hq : Q false := by simpa using hq
        show Q (PyData.eqvAll (x :: xs) [])
        simpa [PyData.eqvAll] using hq
theorem unf7 {w : String} {ks : List Val} {kd : Val} {x5 x6 : Option Val} {D : Mi.Sp} {Y : XS} (hs : VV w ∨ NW w) (hks : ∀ x ∈ ks, IsK 5 x) (hm : BOk m) (hh : HOk hd) (hb : S[b]? = some (.dic m)) (hg : S[h]? = some (.dic hd)) (hl : ks.length ≤ 3) (hY : Y = fun c _ S' => noX c S') (hD : ∀ l, D.rt (hdR m hd w ks) (S ++ l)) :
    wSs P.con P.sub (callW P (k + 3)) s7_f_unfolded Y D [some kd, some (.ref b), some (.ref h), some (.str w), some (.tup ks), x5, x6, none] S := by
  subst hY
  rw [s7_f_unfolded]
  generalize hV : s6_f_unfolded = V
  generalize hU : s2_f_unfolded = U
  simp only [wSs, wS, wT, wEs, wO, wPs, wC, wSrc, wE_loc, wE_lit, wE_con, wE_bin, wE_neg, wE_cmp, wE_cmp2, wE_isN, wE_notN, wE_isB, wE_not, wE_and, wE_or, wE_ite, wE_tup, wE_lst, wE_dic, wE_call, wE_make, wE_meth, wE_fld, wE_sub, wE_slice, wE_bi, wE_vi, wE_bm, wE_isi, wE_lc, wE_lck, eg, es, Option.some.injEq, exists_eq_left', Lit.val, cmpW]
  refine in_dic hg ?_
  simp only [truth, Option.some.injEq, exists_eq_left']
  cases e : lookK hd (.inr w) with
  | some v =>
    obtain ⟨n, p, rfl, e2, e3, e4, _⟩ := hd_look hh e
    rw [if_pos (by simp)]
    subst hU
    simp only [s2_f_unfolded, wSs, wS, wT, wEs, wO, wPs, wC, wSrc, wE_loc, wE_lit, wE_con, wE_bin, wE_neg, wE_cmp, wE_cmp2, wE_isN, wE_notN, wE_isB, wE_not, wE_and, wE_or, wE_ite, wE_tup, wE_lst, wE_dic, wE_call, wE_make, wE_meth, wE_fld, wE_sub, wE_slice, wE_bi, wE_vi, wE_bm, wE_isi, wE_lc, wE_lck, eg, es, Option.some.injEq, exists_eq_left', Lit.val]
    refine subW_dic (q := .inr w) hg rfl e ⟨_, rfl, rfl, ?_⟩
    simp only [List.zip_cons_cons, List.zip_nil_right, List.foldl_cons, List.foldl_nil, es, wSs, wS, wT, wEs, wO, wPs, wC, wSrc, wE_loc, wE_lit, wE_con, wE_bin, wE_neg, wE_cmp, wE_cmp2, wE_isN, wE_notN, wE_isB, wE_not, wE_and, wE_or, wE_ite, wE_tup, wE_lst, wE_dic, wE_call, wE_make, wE_meth, wE_fld, wE_sub, wE_slice, wE_bi, wE_vi, wE_bm, wE_isi, wE_lc, wE_lck, eg, es, Option.some.injEq, exists_eq_left', Lit.val]
    refine ⟨psz n ks, psz_pair, ?_⟩
    rw [psz_fold]
    refine call_use (put_ok dz_ok 1 _ (pk_isK e2 e3 e4) k _ get_new) ?_
    rintro _ S2 ⟨rfl, l, rfl⟩
    have := hD ([Ob.dic (dz n ks)] ++ l)
    rw [hdR, e] at this
    simp only [ltr_len e2] at this
    rw [List.append_assoc]
    exact this
  | none =>
    rw [if_neg (by simp)]
    subst hV
    rw [s6_f_unfolded]
    generalize hV : s5_f_unfolded = V
    simp only [wSs, wS, wT, wEs, wO, wPs, wC, wSrc, wE_loc, wE_lit, wE_con, wE_bin, wE_neg, wE_cmp, wE_cmp2, wE_isN, wE_notN, wE_isB, wE_not, wE_and, wE_or, wE_ite, wE_tup, wE_lst, wE_dic, wE_call, wE_make, wE_meth, wE_fld, wE_sub, wE_slice, wE_bi, wE_vi, wE_bm, wE_isi, wE_lc, wE_lck, eg, es, Option.some.injEq, exists_eq_left', Lit.val]
    refine call_use (moved_ok (k := k + 2) hs hm hb) ?_
    rintro _ S2 ⟨rfl, l, rfl⟩
    subst hV
    rw [s5_f_unfolded]
    generalize hV : s4_f_unfolded = V
    generalize hU : s3_f_unfolded = U
    simp only [wSs, wS, wT, wEs, wO, wPs, wC, wSrc, wE_loc, wE_lit, wE_con, wE_bin, wE_neg, wE_cmp, wE_cmp2, wE_isN, wE_notN, wE_isB, wE_not, wE_and, wE_or, wE_ite, wE_tup, wE_lst, wE_dic, wE_call, wE_make, wE_meth, wE_fld, wE_sub, wE_slice, wE_bi, wE_vi, wE_bm, wE_isi, wE_lc, wE_lck, eg, es, Option.some.injEq, exists_eq_left', Lit.val, cmpW]
    refine ⟨by rw [sizeLine_eq]; simp, eq_emp (fun x hx => (hks x hx).le (by decide)) ?_⟩
    simp only [truth, Option.some.injEq, exists_eq_left']
    have := hD l
    rw [hdR, e] at this
    by_cases h0 : ks = []
    · rw [if_pos (by simpa using h0)]
      subst hU
      simp only [s3_f_unfolded, wSs, wS, wT, wEs, wO, wPs, wC, wSrc, wE_loc, wE_lit, wE_con, wE_bin, wE_neg, wE_cmp, wE_cmp2, wE_isN, wE_notN, wE_isB, wE_not, wE_and, wE_or, wE_ite, wE_tup, wE_lst, wE_dic, wE_call, wE_make, wE_meth, wE_fld, wE_sub, wE_slice, wE_bi, wE_vi, wE_bm, wE_isi, wE_lc, wE_lck, eg, es, Option.some.injEq, exists_eq_left', Lit.val]
      simpa [h0] using this
    · rw [if_neg (by simpa using h0)]
      subst hV
      simp only [s4_f_unfolded, wSs, wS, wT, wEs, wO, wPs, wC, wSrc, wE_loc, wE_lit, wE_con, wE_bin, wE_neg, wE_cmp, wE_cmp2, wE_isN, wE_notN, wE_isB, wE_not, wE_and, wE_or, wE_ite, wE_tup, wE_lst, wE_dic, wE_call, wE_make, wE_meth, wE_fld, wE_sub, wE_slice, wE_bi, wE_vi, wE_bm, wE_isi, wE_lc, wE_lck, eg, es, Option.some.injEq, exists_eq_left', Lit.val, binW]
      refine ⟨by rw [sizeLine_eq]; simp, by rw [sizeLine_eq]; simp; omega, ?_⟩
      simpa [h0] using this
theorem unfolded_ok (hm : BOk m) (hh : HOk hd) : ∀ (d : Nat) (v : Val), KF d v → d ≤ 4 → ∀ (k : Nat) (S : Hm), S[b]? = some (.dic m) → S[h]? = some (.dic hd) → callW P (k + d + 4) (.f "unfolded") [v, .ref b, .ref h] S (fun r S' => r = tr m hd v ∧ ∃ l, S' = S ++ l) noX := by
  intro d
  induction d using Nat.strongRecOn with
  | _ d ih =>
  intro v hv hd4 k S hb hg
  refine call_open (k := k + d + 3) fn_f_unfolded ⟨rfl, ?_⟩
  show wSs _ _ _ s8_f_unfolded _ _ [some v, some (.ref b), some (.ref h), none, none, none, none, none] S
  rw [s8_f_unfolded]
  generalize hV : s7_f_unfolded = V
  generalize hU : s1_f_unfolded = U
  have str : ∀ (s : String) (Y : XS) (D : Mi.Sp), (VV s ∨ NW s) → Y = (fun c _ S' => noX c S') → D.rt = (fun r S' => r = tr m hd (.str s) ∧ ∃ l, S' = S ++ l) → wSs P.con P.sub (callW P (k + d + 3)) V Y D [some (.str s), some (.ref b), some (.ref h), some (.str s), some (.tup []), none, none, none] S := by
    intro s Y D hs eY eD
    subst hV
    refine unf7 (k := k + d) hs (by simp) hm hh hb hg (by simp) eY fun l => ?_
    rw [eD]
    exact ⟨(tr_str hh).symm, _, rfl⟩
  cases hv with
  | @var _ s q =>
    simp only [wSs, wS, wT, wEs, wO, wPs, wC, wSrc, wE_loc, wE_lit, wE_con, wE_bin, wE_neg, wE_cmp, wE_cmp2, wE_isN, wE_notN, wE_isB, wE_not, wE_and, wE_or, wE_ite, wE_tup, wE_lst, wE_dic, wE_call, wE_make, wE_meth, wE_fld, wE_sub, wE_slice, wE_bi, wE_vi, wE_bm, wE_isi, wE_lc, wE_lck, eg, es, Option.some.injEq, exists_eq_left', Lit.val]
    simp [isTy, truth]
    exact str s _ _ (.inl q) rfl rfl
  | @nam _ s q =>
    simp only [wSs, wS, wT, wEs, wO, wPs, wC, wSrc, wE_loc, wE_lit, wE_con, wE_bin, wE_neg, wE_cmp, wE_cmp2, wE_isN, wE_notN, wE_isB, wE_not, wE_and, wE_or, wE_ite, wE_tup, wE_lst, wE_dic, wE_call, wE_make, wE_meth, wE_fld, wE_sub, wE_slice, wE_bi, wE_vi, wE_bm, wE_isi, wE_lc, wE_lck, eg, es, Option.some.injEq, exists_eq_left', Lit.val]
    simp [isTy, truth]
    exact str s _ _ (.inr q) rfl rfl
  | @tup e s vs q hvs hl h0 =>
    simp only [wSs, wS, wT, wEs, wO, wPs, wC, wSrc, wE_loc, wE_lit, wE_con, wE_bin, wE_neg, wE_cmp, wE_cmp2, wE_isN, wE_notN, wE_isB, wE_not, wE_and, wE_or, wE_ite, wE_tup, wE_lst, wE_dic, wE_call, wE_make, wE_meth, wE_fld, wE_sub, wE_slice, wE_bi, wE_vi, wE_bm, wE_isi, wE_lc, wE_lck, eg, es, Option.some.injEq, exists_eq_left', Lit.val]
    simp [isTy, truth]
    subst hU
    simp only [s1_f_unfolded, wSs, wS, wT, wEs, wO, wPs, wC, wSrc, wE_loc, wE_lit, wE_con, wE_bin, wE_neg, wE_cmp, wE_cmp2, wE_isN, wE_notN, wE_isB, wE_not, wE_and, wE_or, wE_ite, wE_tup, wE_lst, wE_dic, wE_call, wE_make, wE_meth, wE_fld, wE_sub, wE_slice, wE_bi, wE_vi, wE_bm, wE_isi, wE_lc, wE_lck, eg, es, Option.some.injEq, exists_eq_left', Lit.val, sliceW, seqOf]
    rw [tup0]
    refine ⟨1, rfl, ?_⟩
    rw [cut_tl]
    refine lcr_inv (callW_mono P _) (fun i acc S' => acc = (vs.take i).map (tr m hd) ∧ ∃ l, S' = S ++ l) ?_ ?_ ⟨by simp, [], by simp⟩
    · rintro i v acc S' hi ⟨rfl, l, rfl⟩
      have hi' := lt_of_get hi
      refine ⟨trivial, ?_⟩
      simp only [tgW, List.map_cons, List.map_nil, ewipe, wSs, wS, wT, wEs, wO, wPs, wC, wSrc, wE_loc, wE_lit, wE_con, wE_bin, wE_neg, wE_cmp, wE_cmp2, wE_isN, wE_notN, wE_isB, wE_not, wE_and, wE_or, wE_ite, wE_tup, wE_lst, wE_dic, wE_call, wE_make, wE_meth, wE_fld, wE_sub, wE_slice, wE_bi, wE_vi, wE_bm, wE_isi, wE_lc, wE_lck, eg, es, Option.some.injEq, exists_eq_left', Lit.val, if_true]
      refine call_use (lift_to (by omega) (ih e (by omega) v (hvs v (List.mem_of_getElem? hi)) (by omega) k _ (get_app hb) (get_app hg))) ?_
      rintro r S2 ⟨rfl, l2, rfl⟩
      refine ⟨by rw [sizeLine_eq]; simp; omega, ?_, l ++ l2, by simp⟩
      rw [List.take_add_one, hi]
      simp
    · rintro acc S' ⟨rfl, l, rfl⟩
      refine ⟨trivial, ?_⟩
      rw [List.take_length]
      simp only [biW]
      refine ⟨_, lst_at get_new, ?_⟩
      subst hV
      refine unf7 (k := k + (e + 1)) (.inr q) (fun x hx => ?_) hm hh (get_app (get_app hb)) (get_app (get_app hg)) (by simpa using hl) rfl fun l2 => ⟨(tr_tup hh h0).symm, l ++ [Ob.lst (vs.map (tr m hd))] ++ l2, by simp⟩
      obtain ⟨v, hv, rfl⟩ := List.mem_map.mp hx
      exact (tr_isK hm hh (hvs v hv)).le (by omega)
/-! the law's own -/
theorem lturned_ok (hm : BOk m) (hh : HOk hd) : ∀ (d : Nat) (v : Val), KF d v → d ≤ 4 → ∀ (k : Nat) (S : Hm), S[b]? = some (.dic m) → S[h]? = some (.dic hd) → callW P (k + d + 4) (.f "_law_turned") [v, .ref b, .ref h] S (fun r S' => r = tr m hd v ∧ ∃ l, S' = S ++ l) noX := by
  intro d
  induction d using Nat.strongRecOn with
  | _ d ih =>
  intro v hv hd4 k S hb hg
  refine call_open (k := k + d + 3) fn_f_law_turned ⟨rfl, ?_⟩
  show wSs _ _ _ s8_f_law_turned _ _ [some v, some (.ref b), some (.ref h), none, none, none, none] S
  rw [s8_f_law_turned]
  generalize hV : s7_f_law_turned = V
  generalize hU : s3_f_law_turned = U
  have str : ∀ (s : String) (Y : XS) (D : Mi.Sp), (VV s ∨ NW s) → Y = (fun c _ S' => noX c S') → D.rt = (fun r S' => r = tr m hd (.str s) ∧ ∃ l, S' = S ++ l) → wSs P.con P.sub (callW P (k + d + 3)) U Y D [some (.str s), some (.ref b), some (.ref h), none, none, none, none] S := by
    intro s Y D hs eY eD
    subst hU eY
    rw [s3_f_law_turned]
    generalize hV : s2_f_law_turned = V
    generalize hU : s1_f_law_turned = U
    simp only [wSs, wS, wT, wEs, wO, wPs, wC, wSrc, wE_loc, wE_lit, wE_con, wE_bin, wE_neg, wE_cmp, wE_cmp2, wE_isN, wE_notN, wE_isB, wE_not, wE_and, wE_or, wE_ite, wE_tup, wE_lst, wE_dic, wE_call, wE_make, wE_meth, wE_fld, wE_sub, wE_slice, wE_bi, wE_vi, wE_bm, wE_isi, wE_lc, wE_lck, eg, es, Option.some.injEq, exists_eq_left', Lit.val, cmpW]
    refine in_dic hg ?_
    simp only [truth, Option.some.injEq, exists_eq_left']
    cases e : lookK hd (.inr s) with
    | some v =>
      obtain ⟨n, p, rfl, e2, e3, e4, _⟩ := hd_look hh e
      rw [if_pos (by simp)]
      subst hU
      simp only [s1_f_law_turned, wSs, wS, wT, wEs, wO, wPs, wC, wSrc, wE_loc, wE_lit, wE_con, wE_bin, wE_neg, wE_cmp, wE_cmp2, wE_isN, wE_notN, wE_isB, wE_not, wE_and, wE_or, wE_ite, wE_tup, wE_lst, wE_dic, wE_call, wE_make, wE_meth, wE_fld, wE_sub, wE_slice, wE_bi, wE_vi, wE_bm, wE_isi, wE_lc, wE_lck, eg, es, Option.some.injEq, exists_eq_left', Lit.val]
      refine subW_dic (q := .inr s) hg rfl e ?_
      rw [tup1, eD]
      exact ⟨by rw [tr, e], [], by simp⟩
    | none =>
      rw [if_neg (by simp)]
      subst hV
      simp only [s2_f_law_turned, wSs, wS, wT, wEs, wO, wPs, wC, wSrc, wE_loc, wE_lit, wE_con, wE_bin, wE_neg, wE_cmp, wE_cmp2, wE_isN, wE_notN, wE_isB, wE_not, wE_and, wE_or, wE_ite, wE_tup, wE_lst, wE_dic, wE_call, wE_make, wE_meth, wE_fld, wE_sub, wE_slice, wE_bi, wE_vi, wE_bm, wE_isi, wE_lc, wE_lck, eg, es, Option.some.injEq, exists_eq_left', Lit.val]
      refine call_use (lword_ok (k := k + d + 2) hs hm hb) ?_
      rintro _ S2 ⟨rfl, l, rfl⟩
      rw [eD]
      exact ⟨by rw [tr, e], l, rfl⟩
  cases hv with
  | @var _ s q =>
    simp only [wSs, wS, wT, wEs, wO, wPs, wC, wSrc, wE_loc, wE_lit, wE_con, wE_bin, wE_neg, wE_cmp, wE_cmp2, wE_isN, wE_notN, wE_isB, wE_not, wE_and, wE_or, wE_ite, wE_tup, wE_lst, wE_dic, wE_call, wE_make, wE_meth, wE_fld, wE_sub, wE_slice, wE_bi, wE_vi, wE_bm, wE_isi, wE_lc, wE_lck, eg, es, Option.some.injEq, exists_eq_left', Lit.val]
    simp [isTy, truth]
    exact str s _ _ (.inl q) rfl rfl
  | @nam _ s q =>
    simp only [wSs, wS, wT, wEs, wO, wPs, wC, wSrc, wE_loc, wE_lit, wE_con, wE_bin, wE_neg, wE_cmp, wE_cmp2, wE_isN, wE_notN, wE_isB, wE_not, wE_and, wE_or, wE_ite, wE_tup, wE_lst, wE_dic, wE_call, wE_make, wE_meth, wE_fld, wE_sub, wE_slice, wE_bi, wE_vi, wE_bm, wE_isi, wE_lc, wE_lck, eg, es, Option.some.injEq, exists_eq_left', Lit.val]
    simp [isTy, truth]
    exact str s _ _ (.inr q) rfl rfl
  | @tup e s vs q hvs hl h0 =>
    simp only [wSs, wS, wT, wEs, wO, wPs, wC, wSrc, wE_loc, wE_lit, wE_con, wE_bin, wE_neg, wE_cmp, wE_cmp2, wE_isN, wE_notN, wE_isB, wE_not, wE_and, wE_or, wE_ite, wE_tup, wE_lst, wE_dic, wE_call, wE_make, wE_meth, wE_fld, wE_sub, wE_slice, wE_bi, wE_vi, wE_bm, wE_isi, wE_lc, wE_lck, eg, es, Option.some.injEq, exists_eq_left', Lit.val]
    simp [isTy, truth]
    subst hV
    rw [s7_f_law_turned]
    generalize hV : s6_f_law_turned = V
    simp only [wSs, wS, wT, wEs, wO, wPs, wC, wSrc, wE_loc, wE_lit, wE_con, wE_bin, wE_neg, wE_cmp, wE_cmp2, wE_isN, wE_notN, wE_isB, wE_not, wE_and, wE_or, wE_ite, wE_tup, wE_lst, wE_dic, wE_call, wE_make, wE_meth, wE_fld, wE_sub, wE_slice, wE_bi, wE_vi, wE_bm, wE_isi, wE_lc, wE_lck, eg, es, Option.some.injEq, exists_eq_left', Lit.val, sliceW, seqOf]
    refine ⟨1, rfl, ?_⟩
    rw [cut_tl]
    refine lcr_inv (callW_mono P _) (fun i acc S' => acc = (vs.take i).map (tr m hd) ∧ ∃ l, S' = S ++ l) ?_ ?_ ⟨by simp, [], by simp⟩
    · rintro i v acc S' hi ⟨rfl, l, rfl⟩
      have hi' := lt_of_get hi
      refine ⟨trivial, ?_⟩
      simp only [tgW, List.map_cons, List.map_nil, ewipe, wSs, wS, wT, wEs, wO, wPs, wC, wSrc, wE_loc, wE_lit, wE_con, wE_bin, wE_neg, wE_cmp, wE_cmp2, wE_isN, wE_notN, wE_isB, wE_not, wE_and, wE_or, wE_ite, wE_tup, wE_lst, wE_dic, wE_call, wE_make, wE_meth, wE_fld, wE_sub, wE_slice, wE_bi, wE_vi, wE_bm, wE_isi, wE_lc, wE_lck, eg, es, Option.some.injEq, exists_eq_left', Lit.val, if_true]
      refine call_use (lift_to (by omega) (ih e (by omega) v (hvs v (List.mem_of_getElem? hi)) (by omega) k _ (get_app hb) (get_app hg))) ?_
      rintro r S2 ⟨rfl, l2, rfl⟩
      refine ⟨by rw [sizeLine_eq]; simp; omega, ?_, l ++ l2, by simp⟩
      rw [List.take_add_one, hi]
      simp
    · rintro acc S' ⟨rfl, l, rfl⟩
      refine ⟨trivial, ?_⟩
      rw [List.take_length]
      have hb2 := get_app (l := [Ob.lst (vs.map (tr m hd))]) (get_app (l := l) hb)
      have hg2 := get_app (l := [Ob.lst (vs.map (tr m hd))]) (get_app (l := l) hg)
      have gl : (S ++ l ++ [Ob.lst (vs.map (tr m hd))])[(S ++ l).length]? = some (.lst (vs.map (tr m hd))) := get_new
      have key : ∀ l2 : Hm, (S ++ l ++ [Ob.lst (vs.map (tr m hd))] ++ l2) = S ++ (l ++ [Ob.lst (vs.map (tr m hd))] ++ l2) := fun l2 => by simp
      subst hV
      rw [s6_f_law_turned]
      generalize hV : s5_f_law_turned = V
      generalize hU : s4_f_law_turned = U
      simp only [wSs, wS, wT, wEs, wO, wPs, wC, wSrc, wE_loc, wE_lit, wE_con, wE_bin, wE_neg, wE_cmp, wE_cmp2, wE_isN, wE_notN, wE_isB, wE_not, wE_and, wE_or, wE_ite, wE_tup, wE_lst, wE_dic, wE_call, wE_make, wE_meth, wE_fld, wE_sub, wE_slice, wE_bi, wE_vi, wE_bm, wE_isi, wE_lc, wE_lck, eg, es, Option.some.injEq, exists_eq_left', Lit.val, cmpW, tup0]
      refine in_dic hg2 ?_
      simp only [truth, Option.some.injEq, exists_eq_left']
      have et : tr m hd (.tup (.str s :: vs)) = hdR m hd s (vs.map (tr m hd)) := tr_tup hh h0
      rw [et]
      have ne : vs.map (tr m hd) ≠ [] := by
        intro z
        rw [List.map_eq_nil_iff] at z
        rw [z] at h0
        cases h0
      cases e2 : lookK hd (.inr s) with
      | some v =>
        obtain ⟨n, p, rfl, e3, e4, e5, _⟩ := hd_look hh e2
        rw [if_pos (by simp)]
        subst hU
        simp only [s4_f_law_turned, wSs, wS, wT, wEs, wO, wPs, wC, wSrc, wE_loc, wE_lit, wE_con, wE_bin, wE_neg, wE_cmp, wE_cmp2, wE_isN, wE_notN, wE_isB, wE_not, wE_and, wE_or, wE_ite, wE_tup, wE_lst, wE_dic, wE_call, wE_make, wE_meth, wE_fld, wE_sub, wE_slice, wE_bi, wE_vi, wE_bm, wE_isi, wE_lc, wE_lck, eg, es, Option.some.injEq, exists_eq_left', Lit.val, tup0]
        refine subW_dic (q := .inr s) hg2 rfl e2 ⟨_, rfl, rfl, ?_⟩
        simp only [List.zip_cons_cons, List.zip_nil_right, List.foldl_cons, List.foldl_nil, es, wSs, wS, wT, wEs, wO, wPs, wC, wSrc, wE_loc, wE_lit, wE_con, wE_bin, wE_neg, wE_cmp, wE_cmp2, wE_isN, wE_notN, wE_isB, wE_not, wE_and, wE_or, wE_ite, wE_tup, wE_lst, wE_dic, wE_call, wE_make, wE_meth, wE_fld, wE_sub, wE_slice, wE_bi, wE_vi, wE_bm, wE_isi, wE_lc, wE_lck, eg, es, Option.some.injEq, exists_eq_left', Lit.val]
        refine ⟨_, lst_at gl, psz n (vs.map (tr m hd)), psz_pair, ?_⟩
        rw [psz_fold]
        refine call_use (lift_to (by omega) (lput_ok dz_ok 1 _ (pk_isK e3 e4 e5) (k + e + 2) _ get_new)) ?_
        rintro _ S2 ⟨rfl, l2, rfl⟩
        refine ⟨by rw [hdR, e2]; show _ = sb (dz (ltr n).length _) _; rw [ltr_len e3], _, by rw [List.append_assoc]; exact key _⟩
      | none =>
        rw [if_neg (by simp)]
        subst hV
        simp only [s5_f_law_turned, wSs, wS, wT, wEs, wO, wPs, wC, wSrc, wE_loc, wE_lit, wE_con, wE_bin, wE_neg, wE_cmp, wE_cmp2, wE_isN, wE_notN, wE_isB, wE_not, wE_and, wE_or, wE_ite, wE_tup, wE_lst, wE_dic, wE_call, wE_make, wE_meth, wE_fld, wE_sub, wE_slice, wE_bi, wE_vi, wE_bm, wE_isi, wE_lc, wE_lck, eg, es, Option.some.injEq, exists_eq_left', Lit.val, tup0]
        refine call_use (lword_ok (k := k + e + 3) (.inr q) hm hb2) ?_
        rintro _ S2 ⟨rfl, l2, rfl⟩
        refine ⟨by rw [sizeLine_eq]; simp, _, lst_at (get_app gl), ?_⟩
        simp only [binW]
        refine ⟨by rw [sizeLine_eq]; simp; omega, ?_, _, key _⟩
        rw [hdR, e2]
        simp [ne]
end
end K43

set_option maxHeartbeats 4000000
namespace K43
open Mi PySem
def Sta (p : Nat) (S : Hm) : Prop := ∃ a b : Int, S[p]? = some (.lst [.int a, .int b]) ∧ 0 ≤ a ∧ a < 10 ^ 60 ∧ 0 ≤ b ∧ b < 2 ^ 61
section
variable {p k : Nat} {S S' : Hm}
theorem Sta.app (h : Sta p S) (l : Hm) : Sta p (S ++ l) := by
  obtain ⟨a, b, g, r⟩ := h
  exact ⟨a, b, get_app g, r⟩
theorem Sta.set (h : Sta p S) {n : Nat} {o : Ob} (hn : p ≠ n) : Sta p (S.set n o) := by
  obtain ⟨a, b, g, r⟩ := h
  exact ⟨a, b, by rw [get_ne hn]; exact g, r⟩
theorem log_lt {a : Int} {n : Nat} (h : a.natAbs < 2 ^ (n + 1)) : a.natAbs.log2 ≤ n := by
  by_cases h0 : a.natAbs = 0
  · rw [h0]; exact Nat.zero_le _
  · have := (Nat.log2_lt h0).mpr h
    omega
theorem mul_ok {a b : Int} {n m : Nat} (h : a.natAbs < 2 ^ (n + 1)) (h2 : b.natAbs < 2 ^ (m + 1)) (hs : n + m < 100000000) : mulOk a b := by
  have h1 := log_lt h
  have h3 := log_lt h2
  unfold mulOk
  omega
theorem div_ok {a : Int} {n : Nat} (h0 : 0 < a) (h : a.natAbs < 2 ^ (n + 1)) (hs : n < 9000) : divOk a := by
  have h1 := log_lt h
  exact ⟨h0, by omega⟩
theorem next_ok {m : Int} (h : Sta p S) (hm : 0 < m) (hm2 : m < 2 ^ 63) : callW P (k + 1) (.f "_law_next") [.ref p, .int m] S (fun v S' => (∃ r : Nat, v = .int r ∧ (r : Int) < m) ∧ Sta p S' ∧ Fr p S S') noX := by
  obtain ⟨a, b, g, a0, a1, b0, b1⟩ := h
  refine call_open fn_f_law_next ⟨rfl, ?_⟩
  show wSs _ _ _ s3_f_law_next _ _ [some (.ref p), some (.int m), none] S
  rw [s3_f_law_next]
  generalize hV : s2_f_law_next = V
  generalize hU : s1_f_law_next = U
  simp only [wSs, wS, wT, wEs, wO, wPs, wC, wSrc, wE_loc, wE_lit, wE_con, wE_bin, wE_neg, wE_cmp, wE_cmp2, wE_isN, wE_notN, wE_isB, wE_not, wE_and, wE_or, wE_ite, wE_tup, wE_lst, wE_dic, wE_call, wE_make, wE_meth, wE_fld, wE_sub, wE_slice, wE_bi, wE_vi, wE_bm, wE_isi, wE_lc, wE_lck, eg, es, Option.some.injEq, exists_eq_left', Lit.val]
  refine subW_lst (lst_at g) (v := .int a) (by simp [atI, ixN]) ?_
  simp only [cmpW, truth, Option.some.injEq, exists_eq_left']
  by_cases h0 : 0 < a
  · rw [if_pos (by simpa using h0)]
    subst hU
    simp only [s1_f_law_next, wSs, wS, wT, wEs, wO, wPs, wC, wSrc, wE_loc, wE_lit, wE_con, wE_bin, wE_neg, wE_cmp, wE_cmp2, wE_isN, wE_notN, wE_isB, wE_not, wE_and, wE_or, wE_ite, wE_tup, wE_lst, wE_dic, wE_call, wE_make, wE_meth, wE_fld, wE_sub, wE_slice, wE_bi, wE_vi, wE_bm, wE_isi, wE_lc, wE_lck, eg, es, Option.some.injEq, exists_eq_left', Lit.val]
    refine subW_lst (lst_at g) (v := .int a) (by simp [atI, ixN]) ⟨hm, ?_⟩
    refine subW_lst (lst_at g) (v := .int a) (by simp [atI, ixN]) ⟨div_ok (n := 62) hm (by omega) (by decide), ?_⟩
    refine setW_lst (j := 0) g (by simp [ixN]) ?_
    have r0 := Int.emod_nonneg a (Int.ne_of_gt hm)
    have r1 := Int.emod_lt_of_pos a hm
    refine ⟨⟨(a % m).toNat, by rw [Int.toNat_of_nonneg r0], by rw [Int.toNat_of_nonneg r0]; exact r1⟩, ⟨a / m, b, by rw [get_set, g]; rfl, Int.ediv_nonneg a0 (Int.le_of_lt hm), ?_, b0, b1⟩, ⟨by simp, fun n _ hn => get_ne hn⟩⟩
    have := Int.ediv_le_self m a0
    omega
  · rw [if_neg (by simpa using h0)]
    subst hV
    simp only [s2_f_law_next, wSs, wS, wT, wEs, wO, wPs, wC, wSrc, wE_loc, wE_lit, wE_con, wE_bin, wE_neg, wE_cmp, wE_cmp2, wE_isN, wE_notN, wE_isB, wE_not, wE_and, wE_or, wE_ite, wE_tup, wE_lst, wE_dic, wE_call, wE_make, wE_meth, wE_fld, wE_sub, wE_slice, wE_bi, wE_vi, wE_bm, wE_isi, wE_lc, wE_lck, eg, es, Option.some.injEq, exists_eq_left', Lit.val]
    refine subW_lst (lst_at g) (v := .int b) (by simp [atI, ixN]) ⟨mul_ok (n := 61) (m := 61) (by omega) (by decide) (by decide), ⟨by decide, ?_⟩⟩
    refine setW_lst (j := 1) g (by simp [ixN]) ?_
    generalize hz : (b * 1181783497276652981 + 12345678910987) % 2305843009213693951 = z
    have z0 : 0 ≤ z := by rw [← hz]; exact Int.emod_nonneg _ (by decide)
    have z1 : z < 2305843009213693951 := by rw [← hz]; exact Int.emod_lt_of_pos _ (by decide)
    have g2 : (S.set p (.lst ([Val.int a, .int b].set 1 (.int z))))[p]? = some (.lst [.int a, .int z]) := by rw [get_set, g]; rfl
    refine subW_lst (lst_at g2) (v := .int z) (by simp [atI, ixN]) ⟨div_ok (n := 62) (by decide) (by decide) (by decide), hm, ?_⟩
    have r0 := Int.emod_nonneg (z / 65537) (Int.ne_of_gt hm)
    have r1 := Int.emod_lt_of_pos (z / 65537) hm
    exact ⟨⟨(z / 65537 % m).toNat, by rw [Int.toNat_of_nonneg r0], by rw [Int.toNat_of_nonneg r0]; exact r1⟩, ⟨a, z, g2, a0, a1, z0, by omega⟩, ⟨by simp, fun n _ hn => get_ne hn⟩⟩
theorem nx {m : Int} {K : Nat} {Q : Post} {X : XPost} (hK : 1 ≤ K) (h : Sta p S) (hm : 0 < m) (hm2 : m < 2 ^ 63) (hq : ∀ (r : Nat) S', (r : Int) < m → Sta p S' → Fr p S S' → Q (.int r) S') : callW P K (.f "_law_next") [.ref p, .int m] S Q X := by
  obtain ⟨k, rfl⟩ : ∃ k, K = k + 1 := ⟨K - 1, by omega⟩
  refine call_use (next_ok h hm hm2) ?_
  rintro _ S1 ⟨⟨r, rfl, r1⟩, h1, f1⟩
  exact hq r S1 r1 h1 f1
/-- the script's sum -/
theorem sum_ok {ns : List Int} {n : Nat} (hn : S[n]? = some (.lck (.lst (ns.map .int)))) (hl : ns.length ≤ 63) : callW P (k + 1) (.f "_law_sum") [.ref n] S (fun v S' => ∃ z : Int, v = .int z ∧ 0 ≤ z ∧ z < 10 ^ 60 ∧ ∃ l, S' = S ++ l) noX := by
  refine call_open fn_f_law_sum ⟨rfl, ?_⟩
  show wSs _ _ _ s3_f_law_sum _ _ [some (.ref n), none, none] S
  rw [s3_f_law_sum]
  generalize hV : s2_f_law_sum = V
  generalize hU : s1_f_law_sum = U
  simp only [wSs, wS, wT, wEs, wO, wPs, wC, wSrc, wE_loc, wE_lit, wE_con, wE_bin, wE_neg, wE_cmp, wE_cmp2, wE_isN, wE_notN, wE_isB, wE_not, wE_and, wE_or, wE_ite, wE_tup, wE_lst, wE_dic, wE_call, wE_make, wE_meth, wE_fld, wE_sub, wE_slice, wE_bi, wE_vi, wE_bm, wE_isi, wE_lc, wE_lck, eg, es, Option.some.injEq, exists_eq_left', Lit.val, seqOf]
  refine lenW_lst (lst_lck hn) ?_
  refine ⟨200, rfl, ?_⟩
  simp only [sliceW]
  refine ⟨_, lst_lck hn, ?_⟩
  rw [show (200 : Int) = ((200 : Nat) : Int) from rfl, cut_to, ← List.map_take]
  have g1 : (S ++ [Ob.lst ((ns.take 200).map .int)])[S.length]? = some (.lst ((ns.take 200).map .int)) := get_new
  refine ⟨_, lst_at g1, ?_⟩
  refine for_inv (callW_mono P _) (fun i env S' => (∃ (z : Int) (x2 : Option Val), env = [some (.ref n), some (.int z), x2] ∧ 0 ≤ z ∧ z < 10 ^ 60) ∧ S' = S ++ [Ob.lst ((ns.take 200).map .int)]) ?_ ?_ ⟨⟨_, _, rfl, by simp, by simp; omega⟩, rfl⟩
  · rintro i v env S' hi ⟨⟨z, x2, rfl, z0, z1⟩, rfl⟩
    rw [List.getElem?_map] at hi
    obtain ⟨c, hc, rfl⟩ := Option.map_eq_some_iff.mp hi
    refine ⟨lst_at g1, ?_⟩
    subst hU
    simp only [tgW, es, s1_f_law_sum, wSs, wS, wT, wEs, wO, wPs, wC, wSrc, wE_loc, wE_lit, wE_con, wE_bin, wE_neg, wE_cmp, wE_cmp2, wE_isN, wE_notN, wE_isB, wE_not, wE_and, wE_or, wE_ite, wE_tup, wE_lst, wE_dic, wE_call, wE_make, wE_meth, wE_fld, wE_sub, wE_slice, wE_bi, wE_vi, wE_bm, wE_isi, wE_lc, wE_lck, eg, es, Option.some.injEq, exists_eq_left', Lit.val]
    refine ⟨mul_ok (n := 200) (m := 20) (by omega) (by decide) (by decide), ?_⟩
    refine ⟨⟨by decide, by decide, by decide⟩, ⟨by decide, ?_⟩⟩
    have e : ((10 : Int) ^ (60 : Int).toNat) = 10 ^ 60 := rfl
    rw [e]
    exact ⟨⟨_, _, rfl, Int.emod_nonneg _ (by decide), Int.emod_lt_of_pos _ (by decide)⟩, rfl⟩
  · rintro env S' ⟨⟨z, x2, rfl, z0, z1⟩, rfl⟩
    refine ⟨lst_at g1, ?_⟩
    subst hV
    simp only [s2_f_law_sum, wSs, wS, wT, wEs, wO, wPs, wC, wSrc, wE_loc, wE_lit, wE_con, wE_bin, wE_neg, wE_cmp, wE_cmp2, wE_isN, wE_notN, wE_isB, wE_not, wE_and, wE_or, wE_ite, wE_tup, wE_lst, wE_dic, wE_call, wE_make, wE_meth, wE_fld, wE_sub, wE_slice, wE_bi, wE_vi, wE_bm, wE_isi, wE_lc, wE_lck, eg, es, Option.some.injEq, exists_eq_left', Lit.val]
    exact ⟨z, rfl, z0, z1, _, rfl⟩
theorem state_ok {c : Int} {w : Int} (c0 : 0 ≤ c) (c1 : c < 10 ^ 60) : callW P (k + 1) (.f "_law_state") [.int c, .int w] S (fun v S' => v = .ref S.length ∧ Sta S.length S' ∧ ∃ l, S' = S ++ l) noX := by
  refine call_open fn_f_law_state ⟨rfl, ?_⟩
  show wSs _ _ _ s3_f_law_state _ _ [some (.int c), some (.int w), none] S
  rw [s3_f_law_state]
  generalize hV : s2_f_law_state = V
  generalize hU : s1_f_law_state = U
  simp only [wSs, wS, wT, wEs, wO, wPs, wC, wSrc, wE_loc, wE_lit, wE_con, wE_bin, wE_neg, wE_cmp, wE_cmp2, wE_isN, wE_notN, wE_isB, wE_not, wE_and, wE_or, wE_ite, wE_tup, wE_lst, wE_dic, wE_call, wE_make, wE_meth, wE_fld, wE_sub, wE_slice, wE_bi, wE_vi, wE_bm, wE_isi, wE_lc, wE_lck, eg, es, Option.some.injEq, exists_eq_left', Lit.val]
  have r0 := Int.emod_nonneg c (b := 2305843009213693951) (by decide)
  have r1 := Int.emod_lt_of_pos c (b := 2305843009213693951) (by decide)
  refine ⟨by decide, mul_ok (n := 61) (m := 61) (by omega) (by decide) (by decide), by decide, ?_⟩
  generalize hz : (c % 2305843009213693951 * 1000000007 + 104729) % 2305843009213693951 = z
  have z0 : 0 ≤ z := by rw [← hz]; exact Int.emod_nonneg _ (by decide)
  have z1 : z < 2305843009213693951 := by rw [← hz]; exact Int.emod_lt_of_pos _ (by decide)
  refine ⟨by decide, ?_⟩
  simp only [cmpW, eqW_int, truth, Option.some.injEq, exists_eq_left']
  by_cases hw : w % 2 = 0
  · rw [if_pos (by simpa using hw)]
    subst hU
    simp only [s1_f_law_state, wSs, wS, wT, wEs, wO, wPs, wC, wSrc, wE_loc, wE_lit, wE_con, wE_bin, wE_neg, wE_cmp, wE_cmp2, wE_isN, wE_notN, wE_isB, wE_not, wE_and, wE_or, wE_ite, wE_tup, wE_lst, wE_dic, wE_call, wE_make, wE_meth, wE_fld, wE_sub, wE_slice, wE_bi, wE_vi, wE_bm, wE_isi, wE_lc, wE_lck, eg, es, Option.some.injEq, exists_eq_left', Lit.val]
    refine ⟨⟨by decide, by decide, by decide⟩, by decide, by rw [sizeLine_eq]; simp, ?_⟩
    have e : ((10 : Int) ^ (60 : Int).toNat) = 10 ^ 60 := rfl
    rw [e]
    exact ⟨rfl, ⟨_, _, get_new, Int.emod_nonneg _ (by decide), Int.emod_lt_of_pos _ (by decide), z0, by omega⟩, _, rfl⟩
  · rw [if_neg (by simpa using hw)]
    subst hV
    simp only [s2_f_law_state, wSs, wS, wT, wEs, wO, wPs, wC, wSrc, wE_loc, wE_lit, wE_con, wE_bin, wE_neg, wE_cmp, wE_cmp2, wE_isN, wE_notN, wE_isB, wE_not, wE_and, wE_or, wE_ite, wE_tup, wE_lst, wE_dic, wE_call, wE_make, wE_meth, wE_fld, wE_sub, wE_slice, wE_bi, wE_vi, wE_bm, wE_isi, wE_lc, wE_lck, eg, es, Option.some.injEq, exists_eq_left', Lit.val]
    refine ⟨by rw [sizeLine_eq]; simp, trivial, ⟨_, _, get_new, by decide, by decide, z0, by omega⟩, _, rfl⟩
end
end K43

set_option maxHeartbeats 4000000
namespace K43
open Mi PySem
def ncV (q : String × Nat) : Val := .tup [.str q.1, .int (q.2 : Nat)]
structure AOk (al : List (String × Nat)) : Prop where
  w : ∀ q ∈ al, (VV q.1 ∧ q.2 = 0) ∨ (NW q.1 ∧ q.2 ≤ 2)
  z : ∃ q ∈ al, q.2 = 0
  l : al.length ≤ 100
theorem nw_arrow : NW "->" := ⟨by intro c hc; have : ("->" : String).toList = ['-', '>'] := by decide
                                  rw [this] at hc
                                  simp only [List.mem_cons, List.not_mem_nil, or_false] at hc
                                  rcases hc with rfl | rfl <;> decide, by decide, .inl (by decide), by decide⟩
theorem KF.le {n m : Nat} {v : Val} (h : KF n v) (hm : n ≤ m) : KF m v := by
  induction h generalizing m with
  | var q => exact .var q
  | nam q => exact .nam q
  | tup q hv hl h0 ih =>
    cases m with
    | zero => omega
    | succ m => exact .tup q (fun v hv' => ih v hv' (by omega)) hl h0
theorem at_mem {n : Nat} {xs : List Val} {r : Int} {S : Hm} {Q : Post} (h : S[n]? = some (.lst xs)) (h0 : 0 ≤ r) (h1 : r < xs.length) (hq : ∀ v ∈ xs, Q v S) : subW (.ref n) (.int r) S Q := by
  obtain ⟨j, rfl⟩ := Int.eq_ofNat_of_zero_le h0
  have hj : j < xs.length := by omega
  exact subW_lst (lst_at h) (ix_nat (List.getElem?_eq_getElem hj)) (hq _ (List.getElem_mem hj))
section
variable {p a k : Nat} {al : List (String × Nat)} {S S' : Hm}
theorem dk_flat {d : Int} {n : Nat} {D : Mi.Sp} {x3 x4 : Option Val} {S0 : Hm} (ao : AOk al) (hk : 1 ≤ k) (hS : Sta p S) (ha : S[a]? = some (.lst (al.map ncV))) (hp : a ≠ p) (f0 : Fr p S0 S) (eD : D.rt = fun v S' => KF n v ∧ Sta p S' ∧ Fr p S0 S') :
    wSs P.con P.sub (callW P k) s2_f_law_drawn_kind (fun c _ S' => noX c S') D [some (.ref p), some (.ref a), some (.int d), x3, x4, none, none, none] S := by
  have al1 := ao.l
  rw [s2_f_law_drawn_kind]
  generalize hV : s1_f_law_drawn_kind = V
  simp only [wSs, wS, wT, wEs, wO, wPs, wC, wSrc, wE_loc, wE_lit, wE_con, wE_bin, wE_neg, wE_cmp, wE_cmp2, wE_isN, wE_notN, wE_isB, wE_not, wE_and, wE_or, wE_ite, wE_tup, wE_lst, wE_dic, wE_call, wE_make, wE_meth, wE_fld, wE_sub, wE_slice, wE_bi, wE_vi, wE_bm, wE_isi, wE_lc, wE_lck, eg, es, Option.some.injEq, exists_eq_left', Lit.val, seqOf]
  refine ⟨_, lst_at ha, ?_⟩
  refine lcr_inv (callW_mono P _) (fun i acc S' => S' = S ∧ acc = ((al.take i).filter fun q => decide (q.2 = 0)).map fun q => Val.str q.1) ?_ ?_ ⟨rfl, by simp⟩
  · rintro i v acc S' hi ⟨rfl, rfl⟩
    rw [List.getElem?_map] at hi
    obtain ⟨q, hq, rfl⟩ := Option.map_eq_some_iff.mp hi
    have il := lt_of_get hq
    refine ⟨lst_at ha, ?_⟩
    simp only [tgW, ncV]
    refine ⟨_, rfl, rfl, ?_⟩
    simp only [List.zip_cons_cons, List.zip_nil_right, List.foldl_cons, List.foldl_nil, ewipe, List.map_cons, List.map_nil, es, wSs, wS, wT, wEs, wO, wPs, wC, wSrc, wE_loc, wE_lit, wE_con, wE_bin, wE_neg, wE_cmp, wE_cmp2, wE_isN, wE_notN, wE_isB, wE_not, wE_and, wE_or, wE_ite, wE_tup, wE_lst, wE_dic, wE_call, wE_make, wE_meth, wE_fld, wE_sub, wE_slice, wE_bi, wE_vi, wE_bm, wE_isi, wE_lc, wE_lck, eg, es, Option.some.injEq, exists_eq_left', Lit.val, cmpW, eqW_int, truth, Option.some.injEq, exists_eq_left']
    have tk2 : (al.take (i + 1)).filter (fun q => decide (q.2 = 0)) = (al.take i).filter (fun q => decide (q.2 = 0)) ++ (if q.2 = 0 then [q] else []) := by
      rw [List.take_add_one, hq, List.filter_append]
      by_cases h : q.2 = 0 <;> simp [h]
    rw [tk2]
    have fl := List.length_filter_le (fun q : String × Nat => decide (q.2 = 0)) (al.take i)
    rw [List.length_take] at fl
    by_cases h : q.2 = 0
    · rw [if_pos (by simp [h])]
      refine ⟨by rw [sizeLine_eq, List.length_map]; omega, by first | rfl | trivial, ?_⟩
      simp [h]
    · rw [if_neg (by simp [h])]
      simp [h]
  rintro acc S' ⟨rfl, rfl⟩
  refine ⟨lst_at ha, ?_⟩
  rw [List.length_map, List.take_length]
  have gl := get_new (S := S') (o := Ob.lst ((al.filter fun q => decide (q.2 = 0)).map fun q => Val.str q.1))
  have s1 := hS.app [Ob.lst ((al.filter fun q => decide (q.2 = 0)).map fun q => Val.str q.1)]
  have lp : p < S'.length := by obtain ⟨_, _, g, _⟩ := hS; exact lt_of_get g
  have f1 : Fr p S0 (S' ++ [Ob.lst ((al.filter fun q => decide (q.2 = 0)).map fun q => Val.str q.1)]) := f0.trans (Fr.app _)
  have n0 : 0 < (al.filter fun q => decide (q.2 = 0)).length := by
    obtain ⟨q, h1, h2⟩ := ao.z
    exact List.length_pos_of_mem (List.mem_filter.mpr ⟨h1, by simpa using h2⟩)
  have n1 := List.length_filter_le (fun q : String × Nat => decide (q.2 = 0)) al
  subst hV
  simp only [s1_f_law_drawn_kind, wSs, wS, wT, wEs, wO, wPs, wC, wSrc, wE_loc, wE_lit, wE_con, wE_bin, wE_neg, wE_cmp, wE_cmp2, wE_isN, wE_notN, wE_isB, wE_not, wE_and, wE_or, wE_ite, wE_tup, wE_lst, wE_dic, wE_call, wE_make, wE_meth, wE_fld, wE_sub, wE_slice, wE_bi, wE_vi, wE_bm, wE_isi, wE_lc, wE_lck, eg, es, Option.some.injEq, exists_eq_left', Lit.val]
  refine lenW_lst (lst_at gl) ?_
  refine nx hk s1 (by rw [List.length_map]; omega) (by rw [List.length_map]; omega) fun r S2 hr s2 f2 => ?_
  refine K43.at_mem (f2.get (by omega) gl) (by omega) hr fun v hv => ?_
  obtain ⟨q, hq, rfl⟩ := List.mem_map.mp hv
  obtain ⟨h1, h2⟩ := List.mem_filter.mp hq
  rw [eD]
  refine ⟨?_, s2, f1.trans f2⟩
  rcases ao.w q h1 with z | z
  · exact .var z.1
  · exact .nam z.1
theorem dk_ok (ao : AOk al) (hp : a ≠ p) : ∀ (d k : Nat) (S : Hm), Sta p S → S[a]? = some (.lst (al.map ncV)) → callW P (k + d + 2) (.f "_law_drawn_kind") [.ref p, .ref a, .int d] S (fun v S' => KF d v ∧ Sta p S' ∧ Fr p S S') noX := by
  have al1 := ao.l
  intro d
  induction d with
  | zero =>
    intro k S hS ha
    refine call_open (k := k + 0 + 1) fn_f_law_drawn_kind ⟨rfl, ?_⟩
    show wSs _ _ _ s9_f_law_drawn_kind _ _ [some (.ref p), some (.ref a), some (.int ((0 : Nat) : Int)), none, none, none, none, none] S
    rw [s9_f_law_drawn_kind]
    generalize hV : s8_f_law_drawn_kind = V
    generalize hU : s2_f_law_drawn_kind = U
    simp only [wSs, wS, wT, wEs, wO, wPs, wC, wSrc, wE_loc, wE_lit, wE_con, wE_bin, wE_neg, wE_cmp, wE_cmp2, wE_isN, wE_notN, wE_isB, wE_not, wE_and, wE_or, wE_ite, wE_tup, wE_lst, wE_dic, wE_call, wE_make, wE_meth, wE_fld, wE_sub, wE_slice, wE_bi, wE_vi, wE_bm, wE_isi, wE_lc, wE_lck, eg, es, Option.some.injEq, exists_eq_left', Lit.val, cmpW, truth, Option.some.injEq, exists_eq_left']
    rw [if_pos (by decide), if_pos trivial]
    subst hU
    exact dk_flat ao (by omega) hS ha hp (Fr.refl _ _) rfl
  | succ d ih =>
    intro k S hS ha
    refine call_open (k := k + (d + 1) + 1) fn_f_law_drawn_kind ⟨rfl, ?_⟩
    show wSs _ _ _ s9_f_law_drawn_kind _ _ [some (.ref p), some (.ref a), some (.int ((d + 1 : Nat) : Int)), none, none, none, none, none] S
    rw [s9_f_law_drawn_kind]
    generalize hV : s8_f_law_drawn_kind = V
    generalize hU : s2_f_law_drawn_kind = U
    simp only [wSs, wS, wT, wEs, wO, wPs, wC, wSrc, wE_loc, wE_lit, wE_con, wE_bin, wE_neg, wE_cmp, wE_cmp2, wE_isN, wE_notN, wE_isB, wE_not, wE_and, wE_or, wE_ite, wE_tup, wE_lst, wE_dic, wE_call, wE_make, wE_meth, wE_fld, wE_sub, wE_slice, wE_bi, wE_vi, wE_bm, wE_isi, wE_lc, wE_lck, eg, es, Option.some.injEq, exists_eq_left', Lit.val, cmpW, truth, Option.some.injEq, exists_eq_left']
    rw [if_neg (by simp; omega)]
    refine nx (by omega) hS (by decide) (by decide) fun r S1 hr s1 f1 => ?_
    have ha1 := f1.get hp ha
    simp only [eqW_int, Option.some.injEq, exists_eq_left']
    have ed : ((d + 1 : Nat) : Int) - 1 = (d : Int) := by omega
    by_cases hr0 : (r : Int) = 0
    · rw [if_pos (by simpa using hr0)]
      subst hU
      exact dk_flat ao (by omega) s1 ha1 hp f1 rfl
    · rw [if_neg (by simpa using hr0)]
      subst hV
      rw [s8_f_law_drawn_kind]
      generalize hV : s7_f_law_drawn_kind = V
      simp only [wSs, wS, wT, wEs, wO, wPs, wC, wSrc, wE_loc, wE_lit, wE_con, wE_bin, wE_neg, wE_cmp, wE_cmp2, wE_isN, wE_notN, wE_isB, wE_not, wE_and, wE_or, wE_ite, wE_tup, wE_lst, wE_dic, wE_call, wE_make, wE_meth, wE_fld, wE_sub, wE_slice, wE_bi, wE_vi, wE_bm, wE_isi, wE_lc, wE_lck, eg, es, Option.some.injEq, exists_eq_left', Lit.val]
      refine lenW_lst (lst_at ha1) ?_
      rw [List.length_map]
      simp only [binW]
      refine nx (by omega) s1 (by omega) (by omega) fun r2 S2 hr2 s2 f2 => ?_
      have ha2 := f2.get hp ha1
      have f02 := f1.trans f2
      subst hV
      rw [s7_f_law_drawn_kind]
      generalize hV : s6_f_law_drawn_kind = V
      generalize hU : s3_f_law_drawn_kind = U
      simp only [wSs, wS, wT, wEs, wO, wPs, wC, wSrc, wE_loc, wE_lit, wE_con, wE_bin, wE_neg, wE_cmp, wE_cmp2, wE_isN, wE_notN, wE_isB, wE_not, wE_and, wE_or, wE_ite, wE_tup, wE_lst, wE_dic, wE_call, wE_make, wE_meth, wE_fld, wE_sub, wE_slice, wE_bi, wE_vi, wE_bm, wE_isi, wE_lc, wE_lck, eg, es, Option.some.injEq, exists_eq_left', Lit.val]
      refine lenW_lst (lst_at ha2) ?_
      rw [List.length_map]
      simp only [cmpW, truth, Option.some.injEq, exists_eq_left']
      by_cases hge : (al.length : Int) ≤ r2
      · rw [if_pos (by simpa using hge)]
        subst hU
        simp only [s3_f_law_drawn_kind, wSs, wS, wT, wEs, wO, wPs, wC, wSrc, wE_loc, wE_lit, wE_con, wE_bin, wE_neg, wE_cmp, wE_cmp2, wE_isN, wE_notN, wE_isB, wE_not, wE_and, wE_or, wE_ite, wE_tup, wE_lst, wE_dic, wE_call, wE_make, wE_meth, wE_fld, wE_sub, wE_slice, wE_bi, wE_vi, wE_bm, wE_isi, wE_lc, wE_lck, eg, es, Option.some.injEq, exists_eq_left', Lit.val, binW]
        rw [ed]
        refine call_use (lift_to (by omega) (ih k S2 s2 ha2)) ?_
        rintro u S3 ⟨ku, s3, f3⟩
        refine call_use (lift_to (by omega) (ih k S3 s3 (f3.get hp ha2))) ?_
        rintro v S4 ⟨kv, s4, f4⟩
        refine ⟨by rw [sizeLine_eq]; simp, .tup nw_arrow (fun x hx => ?_) (by simp) (by simp), s4, f02.trans (f3.trans f4)⟩
        simp only [List.mem_cons, List.not_mem_nil, or_false] at hx
        rcases hx with rfl | rfl
        · exact ku
        · exact kv
      · rw [if_neg (by simpa using hge)]
        subst hV
        rw [s6_f_law_drawn_kind]
        generalize hV : s5_f_law_drawn_kind = V
        generalize hU : s4_f_law_drawn_kind = U
        simp only [wSs, wS, wT, wEs, wO, wPs, wC, wSrc, wE_loc, wE_lit, wE_con, wE_bin, wE_neg, wE_cmp, wE_cmp2, wE_isN, wE_notN, wE_isB, wE_not, wE_and, wE_or, wE_ite, wE_tup, wE_lst, wE_dic, wE_call, wE_make, wE_meth, wE_fld, wE_sub, wE_slice, wE_bi, wE_vi, wE_bm, wE_isi, wE_lc, wE_lck, eg, es, Option.some.injEq, exists_eq_left', Lit.val]
        refine K43.at_mem ha2 (by omega) (by rw [List.length_map]; omega) fun v hv => ?_
        obtain ⟨q, hq, rfl⟩ := List.mem_map.mp hv
        simp only [ncV, tgW]
        refine ⟨_, rfl, rfl, ?_⟩
        simp only [List.zip_cons_cons, List.zip_nil_right, List.foldl_cons, List.foldl_nil, es, wSs, wS, wT, wEs, wO, wPs, wC, wSrc, wE_loc, wE_lit, wE_con, wE_bin, wE_neg, wE_cmp, wE_cmp2, wE_isN, wE_notN, wE_isB, wE_not, wE_and, wE_or, wE_ite, wE_tup, wE_lst, wE_dic, wE_call, wE_make, wE_meth, wE_fld, wE_sub, wE_slice, wE_bi, wE_vi, wE_bm, wE_isi, wE_lc, wE_lck, eg, es, Option.some.injEq, exists_eq_left', Lit.val, cmpW, eqW_int, truth, Option.some.injEq, exists_eq_left']
        have qw := ao.w q hq
        by_cases hq0 : q.2 = 0
        · rw [if_pos (by simp [hq0])]
          subst hU
          simp only [s4_f_law_drawn_kind, wSs, wS, wT, wEs, wO, wPs, wC, wSrc, wE_loc, wE_lit, wE_con, wE_bin, wE_neg, wE_cmp, wE_cmp2, wE_isN, wE_notN, wE_isB, wE_not, wE_and, wE_or, wE_ite, wE_tup, wE_lst, wE_dic, wE_call, wE_make, wE_meth, wE_fld, wE_sub, wE_slice, wE_bi, wE_vi, wE_bm, wE_isi, wE_lc, wE_lck, eg, es, Option.some.injEq, exists_eq_left', Lit.val]
          refine ⟨?_, s2, f02⟩
          rcases qw with z | z
          · exact .var z.1
          · exact .nam z.1
        · rw [if_neg (by simp [hq0])]
          have qn : NW q.1 ∧ q.2 ≤ 2 := by
            rcases qw with z | z
            · exact absurd z.2 hq0
            · exact z
          subst hV
          simp only [s5_f_law_drawn_kind, wSs, wS, wT, wEs, wO, wPs, wC, wSrc, wE_loc, wE_lit, wE_con, wE_bin, wE_neg, wE_cmp, wE_cmp2, wE_isN, wE_notN, wE_isB, wE_not, wE_and, wE_or, wE_ite, wE_tup, wE_lst, wE_dic, wE_call, wE_make, wE_meth, wE_fld, wE_sub, wE_slice, wE_bi, wE_vi, wE_bm, wE_isi, wE_lc, wE_lck, eg, es, Option.some.injEq, exists_eq_left', Lit.val]
          refine ⟨by rw [sizeLine_eq]; simp, q.2, rfl, ⟨by omega, by omega⟩, ?_⟩
          refine lcr_inv (callW_mono P _) (fun i acc S' => (∀ v ∈ acc, KF d v) ∧ acc.length = i ∧ Sta p S' ∧ Fr p S S') ?_ ?_ ⟨by simp, rfl, s2, f02⟩
          · rintro i v acc S' hi ⟨hacc, hal, s3, f3⟩
            have hil := lt_of_get hi
            rw [rangeL_len] at hil
            refine ⟨trivial, ?_⟩
            simp only [tgW, List.map_cons, List.map_nil, ewipe, es, wSs, wS, wT, wEs, wO, wPs, wC, wSrc, wE_loc, wE_lit, wE_con, wE_bin, wE_neg, wE_cmp, wE_cmp2, wE_isN, wE_notN, wE_isB, wE_not, wE_and, wE_or, wE_ite, wE_tup, wE_lst, wE_dic, wE_call, wE_make, wE_meth, wE_fld, wE_sub, wE_slice, wE_bi, wE_vi, wE_bm, wE_isi, wE_lc, wE_lck, eg, es, Option.some.injEq, exists_eq_left', Lit.val, if_true, binW]
            rw [ed]
            refine call_use (lift_to (by omega) (ih k S' s3 (f3.get hp ha))) ?_
            rintro u S4 ⟨ku, s4, f4⟩
            refine ⟨by rw [sizeLine_eq]; omega, fun x hx => ?_, by simp [hal], s4, f3.trans f4⟩
            rcases List.mem_append.mp hx with z | z
            · exact hacc x z
            · rw [List.mem_singleton.mp z]; exact ku
          · rintro acc S' ⟨hacc, hal, s3, f3⟩
            refine ⟨trivial, ?_⟩
            rw [rangeL_len] at hal
            rw [Int.toNat_natCast] at hal
            have kf : KF (d + 1) (.tup (.str q.1 :: acc)) := .tup qn.1 hacc (by omega) (by omega)
            simp only [biW, binW]
            exact ⟨_, lst_at get_new, by rw [sizeLine_eq]; simp; omega, kf, s3.app _, f3.trans (Fr.app _)⟩
end
end K43

set_option maxHeartbeats 4000000
namespace K43
open Mi PySem
theorem subS {s : String} {i : Nat} {c : Char} {S : Hm} {Q : Post} (h : s.toList[i]? = some c) (hl : s.length ≤ 1000) (q : Q (.str (String.singleton c)) S) : subW (.str s) (.int i) S Q := by
  simp only [subW]
  exact ⟨by rw [sizeLine_eq]; omega, c, ix_nat h, q⟩
theorem addL {S : Hm} {n m : Nat} {xs ys : List Val} {Q : Post} (h1 : S[n]? = some (.lst xs)) (h2 : S[m]? = some (.lst ys)) (hl : xs.length + ys.length ≤ 1000) (hq : Q (.ref S.length) (S ++ [.lst (xs ++ ys)])) : binW .Add (.ref n) (.ref m) S Q := ⟨xs, ys, h1, h2, by rw [sizeLine_eq]; omega, hq⟩
theorem Fr.set {p n : Nat} {S S' : Hm} {o : Ob} (h : Fr p S S') (hn : S.length ≤ n) : Fr p S (S'.set n o) := ⟨by simpa using h.1, fun m hm hp => by rw [get_ne (by omega)]; exact h.2 m hm hp⟩
def LET : String := "abcdefghijkl"
/-- a plain small word -/
def PW (x : String) : Prop := NQ x ∧ 0 < x.length ∧ x.length ≤ 20 ∧ '.' ∉ x.toList
theorem PW.nw {x : String} (h : PW x) : NW x := ⟨h.1, h.2.1, .inl h.2.2.2, by have := h.2.2.1; omega⟩
theorem let_ok {pre : String} {c : Char} (hp : PW pre ∧ pre.length ≤ 5) (hc : c ∈ LET.toList) : PW (pre ++ String.singleton c) := by
  have h : ∀ c ∈ LET.toList, c ≠ '?' ∧ c ≠ '.' := by decide
  obtain ⟨h1, h2⟩ := h c hc
  obtain ⟨⟨a, b, d, e⟩, f⟩ := hp
  have l1 : (String.singleton c).length = 1 := by simp
  refine ⟨fun x hx => ?_, by rw [String.length_append]; omega, by rw [String.length_append]; omega, fun hx => ?_⟩
  · rw [String.toList_append, List.mem_append] at hx
    rcases hx with z | z
    · exact a x z
    · have : x = c := by simpa using z
      rw [this]; exact h1
  · rw [String.toList_append, List.mem_append] at hx
    rcases hx with z | z
    · exact e z
    · have : '.' = c := by simpa using z
      exact h2 this.symm
theorem pw_h : PW "h" ∧ ("h" : String).length ≤ 5 := by
  refine ⟨⟨fun c hc => ?_, by decide, by decide, by decide⟩, by decide⟩
  have : c = 'h' := by simpa using hc
  rw [this]; decide
theorem pw_v : PW "v" ∧ ("v" : String).length ≤ 5 := by
  refine ⟨⟨fun c hc => ?_, by decide, by decide, by decide⟩, by decide⟩
  have : c = 'v' := by simpa using hc
  rw [this]; decide
inductive It where
  | hide (x : String) (m : Nat) | val (x : String) (v : Val)
def It.enc : It → Val
  | .hide x m => .tup [.str "hide", .str x, .int (m : Nat)]
  | .val x v => .tup [.str "val", .str x, v]
def IOk : It → Prop
  | .hide x m => PW x ∧ m ≤ 2
  | .val x v => PW x ∧ KF 3 v
def HdO (q : String × Nat) : Prop := PW q.1 ∧ q.2 ≤ 2
section
variable {p a k : Nat} {al : List (String × Nat)} {S S' : Hm} {X : XPost} {Q : Post} {K : Nat}
theorem nx' {m : Int} {D : Hm → Prop} (hK : 1 ≤ K) (h : Sta p S) (hm : 0 < m) (hm2 : m < 2 ^ 63) (hq : ∀ (r : Nat) S', (r : Int) < m → Sta p S' → Fr p S S' → Q (.int r) S') : callW P K (.f "_law_next") [.ref p, .int m] S Q X := nx hK h hm hm2 hq
theorem AOk.app {hs : List (String × Nat)} (h : AOk al) (hh : ∀ q ∈ hs, NW q.1 ∧ q.2 ≤ 2) (hl : al.length + hs.length ≤ 100) : AOk (al ++ hs) := by
  refine ⟨fun q hq => ?_, ?_, by simpa using hl⟩
  · rcases List.mem_append.mp hq with z | z
    · exact h.w q z
    · exact .inr (hh q z)
  · obtain ⟨q, h1, h2⟩ := h.z
    exact ⟨q, List.mem_append_left _ h1, h2⟩
def imEnv (p a : Nat) (mo : Int) (hp : Nat) (ip : Option Val) (x6 : Option Val) : Mi.Env := [some (.ref p), some (.ref a), some (.str LET), some (.int mo), some (.ref hp), ip, x6, none, none]
theorem items_ok (ao : AOk al) (hap : a ≠ p) (hal : al.length ≤ 60) (hS : Sta p S) (ha : S[a]? = some (.lst (al.map ncV)))
    (hq : ∀ (ip hp : Nat) (is : List It) (hs : List (String × Nat)) (S' : Hm), S'[ip]? = some (.lst (is.map It.enc)) → S'[hp]? = some (.lst (hs.map ncV)) → S.length ≤ ip → S.length ≤ hp → (∀ x ∈ is, IOk x) → is.length ≤ 25 → (∀ q ∈ hs, HdO q) → hs.length ≤ 12 → Sta p S' → Fr p S S' → Q (.tup [.ref ip, .ref hp]) S') :
    callW P (k + 7) (.f "_law_items") [.ref p, .ref a] S Q X := by
  refine call_open (k := k + 6) fn_f_law_items ⟨rfl, ?_⟩
  show wSs _ _ _ s6_f_law_items _ _ [some (.ref p), some (.ref a), none, none, none, none, none, none, none] S
  rw [s6_f_law_items]
  generalize hV : s5_f_law_items = V
  simp only [wSs, wS, wT, wEs, wO, wPs, wC, wSrc, wE_loc, wE_lit, wE_con, wE_bin, wE_neg, wE_cmp, wE_cmp2, wE_isN, wE_notN, wE_isB, wE_not, wE_and, wE_or, wE_ite, wE_tup, wE_lst, wE_dic, wE_call, wE_make, wE_meth, wE_fld, wE_sub, wE_slice, wE_bi, wE_vi, wE_bm, wE_isi, wE_lc, wE_lck, eg, es, Option.some.injEq, exists_eq_left', Lit.val]
  refine nx (by omega) hS (by decide) (by decide) fun r S1 hr s1 f1 => ?_
  simp only [cmpW, eqW_int, biW, binW]
  obtain ⟨mo, emo, hmo⟩ : ∃ mo : Nat, (6 : Int) * (if decide ((r : Int) = 3) = true then 1 else 0) = (mo : Nat) ∧ mo ≤ 6 := by
    by_cases h : (r : Int) = 3
    · exact ⟨6, by simp [h], by decide⟩
    · exact ⟨0, by simp [h], by decide⟩
  refine ⟨mul_ok (n := 3) (m := 3) (by decide) (by split <;> decide) (by decide), ?_⟩
  rw [emo]
  subst hV
  rw [s5_f_law_items]
  generalize hV : s4_f_law_items = V
  simp only [wSs, wS, wT, wEs, wO, wPs, wC, wSrc, wE_loc, wE_lit, wE_con, wE_bin, wE_neg, wE_cmp, wE_cmp2, wE_isN, wE_notN, wE_isB, wE_not, wE_and, wE_or, wE_ite, wE_tup, wE_lst, wE_dic, wE_call, wE_make, wE_meth, wE_fld, wE_sub, wE_slice, wE_bi, wE_vi, wE_bm, wE_isi, wE_lc, wE_lck, eg, es, Option.some.injEq, exists_eq_left', Lit.val]
  refine nx (by omega) s1 (by decide) (by decide) fun r2 S2 hr2 s2 f2 => ?_
  simp only [binW]
  refine ⟨mo + r2, by simp, ⟨by omega, by omega⟩, ?_⟩
  have f02 := f1.trans f2
  have letl : ∀ i : Nat, i < 12 → ∃ c, LET.toList[i]? = some c ∧ c ∈ LET.toList := fun i hi => by
    have : i < LET.toList.length := by
      have : LET.toList.length = 12 := by decide
      omega
    exact ⟨_, List.getElem?_eq_getElem this, List.getElem_mem this⟩
  refine lcr_inv (callW_mono P _) (fun i acc S' => (∃ hs : List (String × Nat), acc = hs.map ncV ∧ hs.length = i ∧ ∀ q ∈ hs, HdO q) ∧ Sta p S' ∧ Fr p S S') ?_ ?_ ⟨⟨[], rfl, rfl, by simp⟩, s2, f02⟩
  · rintro i v acc S' hi ⟨⟨hs, rfl, hsl, hso⟩, s3, f3⟩
    obtain ⟨hil, rfl⟩ : i < mo + r2 ∧ v = .int (i : Nat) := by
      rw [rangeL_get] at hi
      split at hi
      · cases hi
        rename_i h
        refine ⟨by omega, by simp⟩
      · cases hi
    refine ⟨trivial, ?_⟩
    obtain ⟨c, hc, hc2⟩ := letl i (by omega)
    simp only [tgW, List.map_cons, List.map_nil, ewipe, es, wSs, wS, wT, wEs, wO, wPs, wC, wSrc, wE_loc, wE_lit, wE_con, wE_bin, wE_neg, wE_cmp, wE_cmp2, wE_isN, wE_notN, wE_isB, wE_not, wE_and, wE_or, wE_ite, wE_tup, wE_lst, wE_dic, wE_call, wE_make, wE_meth, wE_fld, wE_sub, wE_slice, wE_bi, wE_vi, wE_bm, wE_isi, wE_lc, wE_lck, eg, es, Option.some.injEq, exists_eq_left', Lit.val, if_true]
    refine subS hc (by decide) ?_
    have hl1 : ("h" : String).length = 1 := by decide
    have hl2 : (String.singleton c).length = 1 := by simp
    refine ⟨by rw [sizeLine_eq]; omega, ?_⟩
    refine nx (by omega) s3 (by decide) (by decide) fun r3 S4 hr3 s4 f4 => ?_
    refine ⟨by rw [sizeLine_eq]; simp, by rw [sizeLine_eq, List.length_map]; omega, ⟨hs ++ [("h" ++ String.singleton c, r3)], by simp [ncV], by simp [hsl], fun q hq => ?_⟩, s4, f3.trans f4⟩
    rcases List.mem_append.mp hq with z | z
    · exact hso q z
    · rw [List.mem_singleton.mp z]
      exact ⟨let_ok pw_h hc2, by show r3 ≤ 2; omega⟩
  rintro acc S' ⟨⟨hs, rfl, hsl, hso⟩, s3, f3⟩
  refine ⟨trivial, ?_⟩
  rw [rangeL_len] at hsl
  have hsl : hs.length ≤ 12 := by omega
  have ghp : (S' ++ [Ob.lst (hs.map ncV)])[S'.length]? = some (.lst (hs.map ncV)) := get_new
  have s3 := s3.app [Ob.lst (hs.map ncV)]
  have lS : S.length ≤ S'.length := f3.1
  have f3 : Fr p S (S' ++ [Ob.lst (hs.map ncV)]) := f3.trans (Fr.app _)
  have pl : p < S.length := by obtain ⟨_, _, g, _⟩ := hS; exact lt_of_get g
  generalize S' ++ [Ob.lst (hs.map ncV)] = S3 at s3 f3 ghp ⊢
  generalize S'.length = hp at ghp lS ⊢
  subst hV
  rw [s4_f_law_items]
  generalize hV : s3_f_law_items = V
  simp only [wSs, wS, wT, wEs, wO, wPs, wC, wSrc, wE_loc, wE_lit, wE_con, wE_bin, wE_neg, wE_cmp, wE_cmp2, wE_isN, wE_notN, wE_isB, wE_not, wE_and, wE_or, wE_ite, wE_tup, wE_lst, wE_dic, wE_call, wE_make, wE_meth, wE_fld, wE_sub, wE_slice, wE_bi, wE_vi, wE_bm, wE_isi, wE_lc, wE_lck, eg, es, Option.some.injEq, exists_eq_left', Lit.val, seqOf]
  refine ⟨_, lst_at ghp, ?_⟩
  refine lcr_inv (callW_mono P _) (fun i acc S' => S' = S3 ∧ acc = (hs.take i).map fun q => It.enc (.hide q.1 q.2)) ?_ ?_ ⟨rfl, by simp⟩
  · rintro i v acc S' hi ⟨rfl, rfl⟩
    rw [List.getElem?_map] at hi
    obtain ⟨q, hqi, rfl⟩ := Option.map_eq_some_iff.mp hi
    have il := lt_of_get hqi
    refine ⟨lst_at ghp, ?_⟩
    simp only [tgW, ncV]
    refine ⟨_, rfl, rfl, ?_⟩
    simp only [List.zip_cons_cons, List.zip_nil_right, List.foldl_cons, List.foldl_nil, ewipe, List.map_cons, List.map_nil, es, wSs, wS, wT, wEs, wO, wPs, wC, wSrc, wE_loc, wE_lit, wE_con, wE_bin, wE_neg, wE_cmp, wE_cmp2, wE_isN, wE_notN, wE_isB, wE_not, wE_and, wE_or, wE_ite, wE_tup, wE_lst, wE_dic, wE_call, wE_make, wE_meth, wE_fld, wE_sub, wE_slice, wE_bi, wE_vi, wE_bm, wE_isi, wE_lc, wE_lck, eg, es, Option.some.injEq, exists_eq_left', Lit.val]
    refine ⟨by rw [sizeLine_eq]; simp, by rw [sizeLine_eq, List.length_map, List.length_take]; omega, by first | rfl | trivial, ?_⟩
    rw [List.take_add_one, hqi]
    simp [It.enc]
  rintro acc Sx ⟨rfl, rfl⟩
  refine ⟨lst_at ghp, ?_⟩
  rw [List.length_map, List.take_length]
  have gip : (Sx ++ [Ob.lst (hs.map fun q => It.enc (.hide q.1 q.2))])[Sx.length]? = some (.lst ((hs.map fun q => It.hide q.1 q.2).map It.enc)) := by rw [get_new, List.map_map]; rfl
  have s4 := s3.app [Ob.lst (hs.map fun q => It.enc (.hide q.1 q.2))]
  have lip : S.length ≤ Sx.length := f3.1
  have hne : hp ≠ Sx.length := by have := lt_of_get ghp; omega
  have f4 : Fr p S (Sx ++ [Ob.lst (hs.map fun q => It.enc (.hide q.1 q.2))]) := f3.trans (Fr.app _)
  have ghp := get_app (l := [Ob.lst (hs.map fun q => It.enc (.hide q.1 q.2))]) ghp
  generalize Sx ++ [Ob.lst (hs.map fun q => It.enc (.hide q.1 q.2))] = S4 at s4 f4 gip ghp ⊢
  generalize Sx.length = ip at gip lip hne ⊢
  subst hV
  rw [s3_f_law_items]
  generalize hV : s2_f_law_items = V
  generalize hU : s1_f_law_items = U
  simp only [wSs, wS, wT, wEs, wO, wPs, wC, wSrc, wE_loc, wE_lit, wE_con, wE_bin, wE_neg, wE_cmp, wE_cmp2, wE_isN, wE_notN, wE_isB, wE_not, wE_and, wE_or, wE_ite, wE_tup, wE_lst, wE_dic, wE_call, wE_make, wE_meth, wE_fld, wE_sub, wE_slice, wE_bi, wE_vi, wE_bm, wE_isi, wE_lc, wE_lck, eg, es, Option.some.injEq, exists_eq_left', Lit.val]
  refine nx (by omega) s4 (by decide) (by decide) fun r5 S5 hr5 s5 f5 => ?_
  simp only [binW]
  refine ⟨mo + r5, by simp, ⟨by omega, by omega⟩, ?_⟩
  refine for_inv (callW_mono P _) (fun i env S6 => i ≤ mo + r5 ∧ (∃ x6, env = imEnv p a mo hp (some (.ref ip)) x6) ∧ (∃ is : List It, S6[ip]? = some (.lst (is.map It.enc)) ∧ is.length = hs.length + i ∧ ∀ x ∈ is, IOk x) ∧ S6[hp]? = some (.lst (hs.map ncV)) ∧ Sta p S6 ∧ Fr p S S6) ?_ ?_ ⟨by omega, ⟨_, rfl⟩, ⟨hs.map fun q => It.hide q.1 q.2, f5.get (by omega) gip, by simp, fun x hx => ?_⟩, f5.get (by omega) ghp, s5, f4.trans f5⟩
  · rintro i v env S6 hi ⟨_, ⟨x6, rfl⟩, ⟨is, gi, il, io⟩, gh, s6, f6⟩
    obtain ⟨hil, rfl⟩ : i < mo + r5 ∧ v = .int (i : Nat) := by
      rw [rangeL_get] at hi
      split at hi
      · cases hi
        rename_i h
        refine ⟨by omega, by simp⟩
      · cases hi
    refine ⟨trivial, ?_⟩
    obtain ⟨c, hc, hc2⟩ := letl i (by omega)
    subst hU
    simp only [tgW, imEnv, es, s1_f_law_items, wSs, wS, wT, wEs, wO, wPs, wC, wSrc, wE_loc, wE_lit, wE_con, wE_bin, wE_neg, wE_cmp, wE_cmp2, wE_isN, wE_notN, wE_isB, wE_not, wE_and, wE_or, wE_ite, wE_tup, wE_lst, wE_dic, wE_call, wE_make, wE_meth, wE_fld, wE_sub, wE_slice, wE_bi, wE_vi, wE_bm, wE_isi, wE_lc, wE_lck, eg, es, Option.some.injEq, exists_eq_left', Lit.val, bmT]
    refine ⟨⟨_, _, rfl, lst_at gi⟩, ?_⟩
    refine subS hc (by decide) ?_
    have hl1 : ("v" : String).length = 1 := by decide
    have hl2 : (String.singleton c).length = 1 := by simp
    refine ⟨by rw [sizeLine_eq]; omega, ?_⟩
    have ha6 := f6.get hap ha
    refine addL ha6 gh (by simp; omega) ?_
    rw [← List.map_append]
    have ao2 : AOk (al ++ hs) := ao.app (fun q hq => ⟨(hso q hq).1.nw, (hso q hq).2⟩) (by omega)
    have l6 := f6.1
    refine call_use (lift_to (by omega) (dk_ok ao2 (p := p) (a := S6.length) (by omega) 3 (k + 1) _ (s6.app _) get_new)) ?_
    rintro u S7 ⟨ku, s7, f7⟩
    have f67 := (Fr.app (p := p) (S := S6) [Ob.lst ((al ++ hs).map ncV)]).trans f7
    have gi7 := f67.get (by omega) gi
    have gh7 := f67.get (by omega) gh
    refine ⟨by rw [sizeLine_eq]; simp, ?_⟩
    simp only [bmW]
    refine ⟨_, gi7, by rw [sizeLine_eq, List.length_map]; omega, ?_⟩
    rw [show is.map It.enc ++ [Val.tup [.str "val", .str ("v" ++ String.singleton c), u]] = (is ++ [It.val ("v" ++ String.singleton c) u]).map It.enc by simp [It.enc]]
    refine ⟨by omega, ⟨_, rfl⟩, ⟨is ++ [It.val ("v" ++ String.singleton c) u], by rw [get_set, gi7]; rfl, by simp; omega, fun x hx => ?_⟩, by rw [get_ne hne]; exact gh7, s7.set (by omega), (f6.trans f67).set lip⟩
    rcases List.mem_append.mp hx with z | z
    · exact io x z
    · rw [List.mem_singleton.mp z]
      exact ⟨let_ok pw_v hc2, ku⟩
  · rintro env S6 ⟨_, ⟨x6, rfl⟩, ⟨is, gi, il, io⟩, gh, s6, f6⟩
    refine ⟨trivial, ?_⟩
    rw [rangeL_len] at il
    subst hV
    simp only [s2_f_law_items, imEnv, wSs, wS, wT, wEs, wO, wPs, wC, wSrc, wE_loc, wE_lit, wE_con, wE_bin, wE_neg, wE_cmp, wE_cmp2, wE_isN, wE_notN, wE_isB, wE_not, wE_and, wE_or, wE_ite, wE_tup, wE_lst, wE_dic, wE_call, wE_make, wE_meth, wE_fld, wE_sub, wE_slice, wE_bi, wE_vi, wE_bm, wE_isi, wE_lc, wE_lck, eg, es, Option.some.injEq, exists_eq_left', Lit.val]
    exact ⟨by rw [sizeLine_eq]; simp, hq ip hp is hs S6 gi gh lip lS io (by omega) hso hsl s6 f6⟩
  · obtain ⟨q, hq, rfl⟩ := List.mem_map.mp hx
    exact hso q hq
end
end K43

set_option maxHeartbeats 4000000
namespace K43
open Mi PySem
theorem lc_gen {α : Type} {k : Nat} {X : XPost} {elt : E} {tg : Tg} {env : Mi.Env} {vs : List Nat} {guard : Hm → Prop} {S : Hm} {Q : List Val → Hm → Prop} (hg : guard S) (l : List α) (enc f : α → Val) (hl : l.length ≤ 1000000) (h : ∀ a ∈ l, ∀ Q' : Post, Q' (f a) S → tgW tg (enc a) (ewipe env vs) fun env2 => wE P.con (callW P k) X elt env2 S Q') (hq : Q (l.map f) S) : lcRun P.con (callW P k) X elt tg .none env vs guard (l.map enc) [] S Q := by
  refine lcr_inv (callW_mono P _) (fun i acc S' => S' = S ∧ acc = (l.take i).map f) ?_ ?_ ⟨rfl, by simp⟩
  · rintro i v acc S' hi ⟨rfl, rfl⟩
    rw [List.getElem?_map] at hi
    obtain ⟨a, ha, rfl⟩ := Option.map_eq_some_iff.mp hi
    have il := lt_of_get ha
    refine ⟨hg, ?_⟩
    simp only [wC, if_true]
    refine h a (List.mem_of_getElem? ha) _ ⟨by rw [sizeLine_eq, List.length_map, List.length_take]; omega, rfl, ?_⟩
    rw [List.take_add_one, ha]
    simp
  · rintro acc S' ⟨rfl, rfl⟩
    rw [List.length_map, List.take_length]
    exact ⟨hg, hq⟩
def flat0 : List (String × Nat) := [("num", 0), ("?a", 0), ("?b", 0), ("opt", 1), ("duo", 2)]
theorem pw_of {s : String} (h1 : ∀ c ∈ s.toList, c ≠ '?') (h2 : 0 < s.length) (h3 : s.length ≤ 20) (h4 : '.' ∉ s.toList) : PW s := ⟨h1, h2, h3, h4⟩
theorem flat_ok : AOk flat0 := by
  refine ⟨fun q hq => ?_, ⟨("num", 0), by simp [flat0], rfl⟩, by decide⟩
  simp only [flat0, List.mem_cons, List.not_mem_nil, or_false] at hq
  rcases hq with rfl | rfl | rfl | rfl | rfl
  · exact .inr ⟨(pw_of (by decide) (by decide) (by decide) (by decide)).nw, by decide⟩
  · exact .inl ⟨.inl rfl, rfl⟩
  · exact .inl ⟨.inr rfl, rfl⟩
  · exact .inr ⟨(pw_of (by decide) (by decide) (by decide) (by decide)).nw, by decide⟩
  · exact .inr ⟨(pw_of (by decide) (by decide) (by decide) (by decide)).nw, by decide⟩
def dotL (pre : String) (hs : List (String × Nat)) : List (String × Nat) := hs.map fun q => (pre ++ q.1, q.2)
theorem dot_nw {x y : String} (hx : x = "X" ∨ x = "Z") (h : PW y) : NW (x ++ "." ++ y) := by
  obtain ⟨a, b, c, d⟩ := h
  have hx2 : NQ x ∧ x.length = 1 ∧ '.' ∉ x.toList := by rcases hx with rfl | rfl <;> refine ⟨?_, by decide, by decide⟩ <;> (intro c hc; revert c; decide)
  exact ⟨(hx2.1.app NQ.dot).app a, by rw [path_len]; omega, .inr ⟨x, y, rfl, hx2.2.2, d⟩, by rw [path_len]; omega⟩
theorem dotL_ok {pre x : String} (hp : pre = x ++ ".") (hx : x = "X" ∨ x = "Z") {hs : List (String × Nat)} (h : ∀ q ∈ hs, HdO q) : ∀ q ∈ dotL pre hs, NW q.1 ∧ q.2 ≤ 2 := by
  intro q hq
  obtain ⟨u, hu, rfl⟩ := List.mem_map.mp hq
  exact ⟨by show NW (pre ++ u.1); rw [hp]; exact dot_nw hx (h u hu).1, (h u hu).2⟩
def gA : Val := .tup []
def gB : Val := .tup [.tup [.str "X", .str "Fa"]]
def gC : Val := .tup [.tup [.str "X", .str "Fa"], .tup [.str "Z", .tup [.str "Fb", .str "X"]]]
def faV (f : String) (g : Val) (is : List It) : Val := .tup ([.str "face", .str f, g] ++ is.map It.enc)
theorem SZ3 {n : Nat} (h : n ≤ 1000) : n ≤ sizeLine := by rw [sizeLine_eq]; omega
section
variable {p k : Nat} {S S' : Hm} {X : XPost} {Q : Post} {K : Nat}
theorem Sta.lt (h : Sta p S) : p < S.length := by obtain ⟨_, _, g, _⟩ := h; exact lt_of_get g
theorem faces_ok (hS : Sta p S) (hq : ∀ (n : Nat) (i1 i2 i3 : List It) (S' : Hm), S'[n]? = some (.lst [faV "Fa" gA i1, faV "Fb" gB i2, faV "Fc" gC i3]) → S.length ≤ n → (i1.length ≤ 25 ∧ i2.length ≤ 25 ∧ i3.length ≤ 25) → (∀ x ∈ i1, IOk x) → (∀ x ∈ i2, IOk x) → (∀ x ∈ i3, IOk x) → Sta p S' → Fr p S S' → Q (.ref n) S') :
    callW P (k + 8) (.f "_law_drawn_faces") [.ref p] S Q X := by
  refine call_open (k := k + 7) fn_f_law_drawn_faces ⟨rfl, ?_⟩
  show wSs _ _ _ s5_f_law_drawn_faces _ _ [some (.ref p), none, none, none, none, none, none, none, none, none] S
  have pl := hS.lt
  rw [s5_f_law_drawn_faces]
  generalize hV : s4_f_law_drawn_faces = V
  simp only [wSs, wS, wT, wEs, wO, wPs, wC, wSrc, wE_loc, wE_lit, wE_con, wE_bin, wE_neg, wE_cmp, wE_cmp2, wE_isN, wE_notN, wE_isB, wE_not, wE_and, wE_or, wE_ite, wE_tup, wE_lst, wE_dic, wE_call, wE_make, wE_meth, wE_fld, wE_sub, wE_slice, wE_bi, wE_vi, wE_bm, wE_isi, wE_lc, wE_lck, eg, es, Option.some.injEq, exists_eq_left', Lit.val]
  refine ⟨SZ3 (by simp), SZ3 (by simp), SZ3 (by simp), SZ3 (by simp), SZ3 (by simp), SZ3 (by simp), ?_⟩
  have ga : (S ++ [Ob.lst [.tup [.str "num", .int 0], .tup [.str "?a", .int 0], .tup [.str "?b", .int 0], .tup [.str "opt", .int 1], .tup [.str "duo", .int 2]]])[S.length]? = some (.lst (flat0.map ncV)) := by rw [get_new]; rfl
  have s1 := hS.app [Ob.lst [.tup [.str "num", .int 0], .tup [.str "?a", .int 0], .tup [.str "?b", .int 0], .tup [.str "opt", .int 1], .tup [.str "duo", .int 2]]]
  have f1 : Fr p S (S ++ [Ob.lst [.tup [.str "num", .int 0], .tup [.str "?a", .int 0], .tup [.str "?b", .int 0], .tup [.str "opt", .int 1], .tup [.str "duo", .int 2]]]) := Fr.app _
  generalize S ++ [Ob.lst [.tup [.str "num", .int 0], .tup [.str "?a", .int 0], .tup [.str "?b", .int 0], .tup [.str "opt", .int 1], .tup [.str "duo", .int 2]]] = S1 at ga s1 f1 ⊢
  generalize hfa : S.length = fa at ga
  have fap : fa ≠ p := by omega
  refine items_ok (k := k) flat_ok fap (by decide) s1 ga fun ip1 hp1 i1 h1 S2 gi1 gh1 li1 lh1 io1 il1 ho1 hl1 s2 f2 => ?_
  refine ⟨_, rfl, rfl, ?_⟩
  simp only [List.zip_cons_cons, List.zip_nil_right, List.foldl_cons, List.foldl_nil, es]
  have ga2 := f2.get fap ga
  have l12 := f1.1
  have f02 := f1.trans f2
  subst hV
  rw [s4_f_law_drawn_faces]
  generalize hV : s3_f_law_drawn_faces = V
  simp only [wSs, wS, wT, wEs, wO, wPs, wC, wSrc, wE_loc, wE_lit, wE_con, wE_bin, wE_neg, wE_cmp, wE_cmp2, wE_isN, wE_notN, wE_isB, wE_not, wE_and, wE_or, wE_ite, wE_tup, wE_lst, wE_dic, wE_call, wE_make, wE_meth, wE_fld, wE_sub, wE_slice, wE_bi, wE_vi, wE_bm, wE_isi, wE_lc, wE_lck, eg, es, Option.some.injEq, exists_eq_left', Lit.val, seqOf]
  refine ⟨_, lst_at gh1, ?_⟩
  refine lc_gen (lst_at gh1) h1 ncV (fun q => ncV ("X." ++ q.1, q.2)) (by omega) (fun q hq1 Q' hQ => ?_) ?_
  · simp only [tgW, ncV]
    refine ⟨_, rfl, rfl, ?_⟩
    simp only [List.zip_cons_cons, List.zip_nil_right, List.foldl_cons, List.foldl_nil, ewipe, List.map_cons, List.map_nil, es, wSs, wS, wT, wEs, wO, wPs, wC, wSrc, wE_loc, wE_lit, wE_con, wE_bin, wE_neg, wE_cmp, wE_cmp2, wE_isN, wE_notN, wE_isB, wE_not, wE_and, wE_or, wE_ite, wE_tup, wE_lst, wE_dic, wE_call, wE_make, wE_meth, wE_fld, wE_sub, wE_slice, wE_bi, wE_vi, wE_bm, wE_isi, wE_lc, wE_lck, eg, es, Option.some.injEq, exists_eq_left', Lit.val, binW]
    have := (ho1 q hq1).1.2.2.1
    have e : ("X." : String).length = 2 := by decide
    exact ⟨SZ3 (by omega), SZ3 (by simp), hQ⟩
  rw [show (h1.map fun q => ncV ("X." ++ q.1, q.2)) = (dotL "X." h1).map ncV by simp [dotL, Function.comp_def]]
  have gt : (S2 ++ [Ob.lst ((dotL "X." h1).map ncV)])[S2.length]? = some (.lst ((dotL "X." h1).map ncV)) := get_new
  have s3 := s2.app [Ob.lst ((dotL "X." h1).map ncV)]
  have f3 : Fr p S (S2 ++ [Ob.lst ((dotL "X." h1).map ncV)]) := f02.trans (Fr.app _)
  have ga3 := get_app (l := [Ob.lst ((dotL "X." h1).map ncV)]) ga2
  have gi3 := get_app (l := [Ob.lst ((dotL "X." h1).map ncV)]) gi1
  have ltp : S2.length ≠ p := by have := s2.lt; omega
  have dl1 : (dotL "X." h1).length ≤ 12 := by simpa [dotL] using hl1
  generalize S2 ++ [Ob.lst ((dotL "X." h1).map ncV)] = S3 at gt s3 f3 ga3 gi3 ⊢
  generalize S2.length = tp at gt ltp ⊢
  have a2 : AOk (flat0 ++ dotL "X." h1) := flat_ok.app (dotL_ok (x := "X") (by decide) (.inl rfl) ho1) (by have : flat0.length = 5 := rfl; omega)
  have fl5 : flat0.length = 5 := rfl
  subst hV
  rw [s3_f_law_drawn_faces]
  generalize hV : s2_f_law_drawn_faces = V
  simp only [wSs, wS, wT, wEs, wO, wPs, wC, wSrc, wE_loc, wE_lit, wE_con, wE_bin, wE_neg, wE_cmp, wE_cmp2, wE_isN, wE_notN, wE_isB, wE_not, wE_and, wE_or, wE_ite, wE_tup, wE_lst, wE_dic, wE_call, wE_make, wE_meth, wE_fld, wE_sub, wE_slice, wE_bi, wE_vi, wE_bm, wE_isi, wE_lc, wE_lck, eg, es, Option.some.injEq, exists_eq_left', Lit.val]
  refine addL ga3 gt (by simp; omega) ?_
  rw [← List.map_append]
  have l3 := f3.1
  refine items_ok (k := k) a2 (a := S3.length) (by omega) (by simp; omega) (s3.app _) get_new fun ip2 hp2 i2 h2 S4 gi2 gh2 li2 lh2 io2 il2 ho2 hl2 s4 f4 => ?_
  have f34 := (Fr.app (p := p) (S := S3) [Ob.lst ((flat0 ++ dotL "X." h1).map ncV)]).trans f4
  refine ⟨_, rfl, rfl, ?_⟩
  simp only [List.zip_cons_cons, List.zip_nil_right, List.foldl_cons, List.foldl_nil, es]
  have ga4 := f34.get fap ga3
  have gt4 := f34.get ltp gt
  have gi4 := f34.get (by have := hS.lt; omega) gi3
  have f04 := f3.trans f34
  subst hV
  rw [s2_f_law_drawn_faces]
  generalize hV : s1_f_law_drawn_faces = V
  simp only [wSs, wS, wT, wEs, wO, wPs, wC, wSrc, wE_loc, wE_lit, wE_con, wE_bin, wE_neg, wE_cmp, wE_cmp2, wE_isN, wE_notN, wE_isB, wE_not, wE_and, wE_or, wE_ite, wE_tup, wE_lst, wE_dic, wE_call, wE_make, wE_meth, wE_fld, wE_sub, wE_slice, wE_bi, wE_vi, wE_bm, wE_isi, wE_lc, wE_lck, eg, es, Option.some.injEq, exists_eq_left', Lit.val, seqOf]
  refine addL ga4 gt4 (by simp; omega) ?_
  rw [← List.map_append]
  have gh4 := get_app (l := [Ob.lst ((flat0 ++ dotL "X." h1).map ncV)]) gh2
  refine ⟨_, lst_at gh4, ?_⟩
  refine lc_gen (lst_at gh4) h2 ncV (fun q => ncV ("Z." ++ q.1, q.2)) (by omega) (fun q hq1 Q' hQ => ?_) ?_
  · simp only [tgW, ncV]
    refine ⟨_, rfl, rfl, ?_⟩
    simp only [List.zip_cons_cons, List.zip_nil_right, List.foldl_cons, List.foldl_nil, ewipe, List.map_cons, List.map_nil, es, wSs, wS, wT, wEs, wO, wPs, wC, wSrc, wE_loc, wE_lit, wE_con, wE_bin, wE_neg, wE_cmp, wE_cmp2, wE_isN, wE_notN, wE_isB, wE_not, wE_and, wE_or, wE_ite, wE_tup, wE_lst, wE_dic, wE_call, wE_make, wE_meth, wE_fld, wE_sub, wE_slice, wE_bi, wE_vi, wE_bm, wE_isi, wE_lc, wE_lck, eg, es, Option.some.injEq, exists_eq_left', Lit.val, binW]
    have := (ho2 q hq1).1.2.2.1
    have e : ("Z." : String).length = 2 := by decide
    exact ⟨SZ3 (by omega), SZ3 (by simp), hQ⟩
  rw [show (h2.map fun q => ncV ("Z." ++ q.1, q.2)) = (dotL "Z." h2).map ncV by simp [dotL, Function.comp_def]]
  have dl2 : (dotL "Z." h2).length ≤ 12 := by simpa [dotL] using hl2
  refine addL (get_app get_new) get_new (by simp; omega) ?_
  rw [← List.map_append]
  have a3 : AOk (flat0 ++ dotL "X." h1 ++ dotL "Z." h2) := a2.app (dotL_ok (x := "Z") (by decide) (.inr rfl) ho2) (by simp; omega)
  have s5 := ((s4.app [Ob.lst ((flat0 ++ dotL "X." h1).map ncV)]).app [Ob.lst ((dotL "Z." h2).map ncV)]).app [Ob.lst ((flat0 ++ dotL "X." h1 ++ dotL "Z." h2).map ncV)]
  have f45 : Fr p S4 (S4 ++ [Ob.lst ((flat0 ++ dotL "X." h1).map ncV)] ++ [Ob.lst ((dotL "Z." h2).map ncV)] ++ [Ob.lst ((flat0 ++ dotL "X." h1 ++ dotL "Z." h2).map ncV)]) := (Fr.app _).trans ((Fr.app _).trans (Fr.app _))
  have l4 := f04.1
  refine items_ok (k := k) a3 (a := (S4 ++ [Ob.lst ((flat0 ++ dotL "X." h1).map ncV)] ++ [Ob.lst ((dotL "Z." h2).map ncV)]).length) (by simp; omega) (by simp; omega) s5 get_new fun ip3 hp3 i3 h3 S6 gi5 gh5 li3 lh3 io3 il3 ho3 hl3 s6 f6 => ?_
  have f46 := f45.trans f6
  rw [tup0]
  subst hV
  simp only [s1_f_law_drawn_faces, wSs, wS, wT, wEs, wO, wPs, wC, wSrc, wE_loc, wE_lit, wE_con, wE_bin, wE_neg, wE_cmp, wE_cmp2, wE_isN, wE_notN, wE_isB, wE_not, wE_and, wE_or, wE_ite, wE_tup, wE_lst, wE_dic, wE_call, wE_make, wE_meth, wE_fld, wE_sub, wE_slice, wE_bi, wE_vi, wE_bm, wE_isi, wE_lc, wE_lck, eg, es, Option.some.injEq, exists_eq_left', Lit.val, biW, ltOf]
  have q1 := f46.get (by omega) gi4
  have li2 : S3.length + 1 ≤ ip2 := by simpa using li2
  have q2 := f46.get (by omega) gi2
  refine ⟨SZ3 (by simp), SZ3 (by simp), _, lst_at q1, SZ3 (by simp; omega), SZ3 (by simp), SZ3 (by simp), SZ3 (by simp), _, lst_at q2, SZ3 (by simp; omega), SZ3 (by simp), SZ3 (by simp), SZ3 (by simp), SZ3 (by simp), SZ3 (by simp), _, lst_at gi5, SZ3 (by simp; omega), SZ3 (by simp), ?_⟩
  have l6 := f46.1
  exact hq S6.length i1 i2 i3 _ get_new (by omega) ⟨il1, il2, il3⟩ io1 io2 io3 (s6.app _) (f04.trans (f46.trans (Fr.app _)))
end
end K43

set_option maxHeartbeats 4000000
namespace K43
open Mi PySem
def toldV (f : List String) : Val := if f.length = 1 then .str (f.headD "") else .tup (f.map .str)
def FmO (f : List String) : Prop := f = ["Fa"] ∨ (∃ x, f = ["Fb", x] ∧ PW x) ∨ ∃ x y, f = ["Fc", x, y] ∧ PW x ∧ PW y
structure Pt where
  (n : String) (f : List String) (b : List Val)
def Pt.enc (q : Pt) : Val := .tup ([.str "part", .str q.n, toldV q.f] ++ q.b)
def Pt.ok (q : Pt) : Prop := PW q.n ∧ FmO q.f
def dueD (l : List (String × List String)) : List (Key × Val) := l.foldl (fun d q => putK d (.inr q.1) (.tup (q.2.map .str))) []
theorem dueD_snoc {l : List (String × List String)} {q : String × List String} : dueD (l ++ [q]) = putK (dueD l) (.inr q.1) (.tup (q.2.map .str)) := by
  simp [dueD]
theorem putK_len {m : List (Key × Val)} {k : Key} {v : Val} : (putK m k v).length ≤ m.length + 1 := by
  unfold putK
  split <;> simp
theorem dueD_len : ∀ (l : List (String × List String)), (dueD l).length ≤ l.length := by
  have key : ∀ (l : List (String × List String)) (acc : List (Key × Val)), (l.foldl (fun d q => putK d (.inr q.1) (.tup (q.2.map .str))) acc).length ≤ acc.length + l.length := by
    intro l
    induction l with
    | nil => intro acc; simp
    | cons q r ih =>
      intro acc
      have h1 := ih (putK acc (.inr q.1) (.tup (q.2.map .str)))
      have h2 := putK_len (m := acc) (k := .inr q.1) (v := .tup (q.2.map .str))
      simp only [List.foldl_cons, List.length_cons]
      omega
  intro l
  have := key l []
  simpa [dueD] using this
def fD (i1 i2 i3 : List It) : List (Key × Val) := [(.inr "Fa", .tup [gA, .tup (i1.map It.enc)]), (.inr "Fb", .tup [gB, .tup (i2.map It.enc)]), (.inr "Fc", .tup [gC, .tup (i3.map It.enc)])]
def mkV (m : String) (g : Val) (f : List String) (b : List Val) : Val := .tup ([.str "maker", .str m, g, .tup (f.map .str)] ++ b)
def gMa : Val := .tup [.tup [.str "Y", .str "Fa"]]
def gMb : Val := .tup [.tup [.str "Z", .str "Fa"], .tup [.str "X", .tup [.str "Fb", .str "Z"]]]
def apV (q m : String) (ps : List String) : Val := .tup ([.str "apply", .str q, .str m] ++ ps.map .str)
section
variable {p k : Nat} {S S' : Hm} {X : XPost} {Q : Post} {K : Nat}
theorem body_ok {is : List It} (hl : is.length ≤ 25) (hq : ∀ xs l, xs.length ≤ 25 → Q (.tup xs) (S ++ l)) : callW P (k + 1) (.f "_law_number_body") [.tup (is.map It.enc)] S Q X := by
  refine call_open fn_f_law_number_body ⟨rfl, ?_⟩
  show wSs _ _ _ s5_f_law_number_body _ _ [some (.tup (is.map It.enc)), none, none, none, none] S
  rw [s5_f_law_number_body]
  generalize hV : s4_f_law_number_body = V
  generalize hU : s3_f_law_number_body = U
  simp only [wSs, wS, wT, wEs, wO, wPs, wC, wSrc, wE_loc, wE_lit, wE_con, wE_bin, wE_neg, wE_cmp, wE_cmp2, wE_isN, wE_notN, wE_isB, wE_not, wE_and, wE_or, wE_ite, wE_tup, wE_lst, wE_dic, wE_call, wE_make, wE_meth, wE_fld, wE_sub, wE_slice, wE_bi, wE_vi, wE_bm, wE_isi, wE_lc, wE_lck, eg, es, Option.some.injEq, exists_eq_left', Lit.val, seqOf]
  refine ⟨SZ3 (by simp), ?_⟩
  refine for_inv (callW_mono P _) (fun i env S' => (∃ x2 x3 x4, env = [some (.tup (is.map It.enc)), some (.ref S.length), x2, x3, x4]) ∧ ∃ xs : List Val, S' = S ++ [Ob.lst xs] ∧ xs.length = i) ?_ ?_ ⟨⟨_, _, _, rfl⟩, [], rfl, rfl⟩
  · rintro i v env S' hi ⟨⟨x2, x3, x4, rfl⟩, xs, rfl, hx⟩
    rw [List.getElem?_map] at hi
    obtain ⟨it, hi2, rfl⟩ := Option.map_eq_some_iff.mp hi
    have il := lt_of_get hi2
    have gx : (S ++ [Ob.lst xs])[S.length]? = some (.lst xs) := get_new
    have put : ∀ v, (S ++ [Ob.lst xs]).set S.length (.lst (xs ++ [v])) = S ++ [Ob.lst (xs ++ [v])] := fun v => by simp
    refine ⟨trivial, ?_⟩
    subst hU
    cases it with
    | hide x m =>
      simp only [It.enc, tgW]
      refine ⟨_, rfl, rfl, ?_⟩
      simp only [List.zip_cons_cons, List.zip_nil_right, List.foldl_cons, List.foldl_nil, es]
      rw [s3_f_law_number_body]
      generalize hU1 : s1_f_law_number_body = U1
      generalize hU2 : s2_f_law_number_body = U2
      simp only [wSs, wS, wT, wEs, wO, wPs, wC, wSrc, wE_loc, wE_lit, wE_con, wE_bin, wE_neg, wE_cmp, wE_cmp2, wE_isN, wE_notN, wE_isB, wE_not, wE_and, wE_or, wE_ite, wE_tup, wE_lst, wE_dic, wE_call, wE_make, wE_meth, wE_fld, wE_sub, wE_slice, wE_bi, wE_vi, wE_bm, wE_isi, wE_lc, wE_lck, eg, es, Option.some.injEq, exists_eq_left', Lit.val, cmpW, eqW_str, truth, Option.some.injEq, exists_eq_left']
      rw [if_pos (by decide)]
      subst hU1
      simp only [s1_f_law_number_body, wSs, wS, wT, wEs, wO, wPs, wC, wSrc, wE_loc, wE_lit, wE_con, wE_bin, wE_neg, wE_cmp, wE_cmp2, wE_isN, wE_notN, wE_isB, wE_not, wE_and, wE_or, wE_ite, wE_tup, wE_lst, wE_dic, wE_call, wE_make, wE_meth, wE_fld, wE_sub, wE_slice, wE_bi, wE_vi, wE_bm, wE_isi, wE_lc, wE_lck, eg, es, Option.some.injEq, exists_eq_left', Lit.val, sliceW]
      refine ⟨appT gx, SZ3 (by simp), m, rfl, SZ3 (by simp), ?_⟩
      refine appW gx (by rw [sizeLine_eq]; omega) ?_
      rw [put]
      exact ⟨⟨_, _, _, rfl⟩, _, rfl, by simp [hx]⟩
    | val x v =>
      simp only [It.enc, tgW]
      refine ⟨_, rfl, rfl, ?_⟩
      simp only [List.zip_cons_cons, List.zip_nil_right, List.foldl_cons, List.foldl_nil, es]
      rw [s3_f_law_number_body]
      generalize hU1 : s1_f_law_number_body = U1
      generalize hU2 : s2_f_law_number_body = U2
      simp only [wSs, wS, wT, wEs, wO, wPs, wC, wSrc, wE_loc, wE_lit, wE_con, wE_bin, wE_neg, wE_cmp, wE_cmp2, wE_isN, wE_notN, wE_isB, wE_not, wE_and, wE_or, wE_ite, wE_tup, wE_lst, wE_dic, wE_call, wE_make, wE_meth, wE_fld, wE_sub, wE_slice, wE_bi, wE_vi, wE_bm, wE_isi, wE_lc, wE_lck, eg, es, Option.some.injEq, exists_eq_left', Lit.val, cmpW, eqW_str, truth, Option.some.injEq, exists_eq_left']
      rw [if_neg (by decide)]
      subst hU2
      simp only [s2_f_law_number_body, wSs, wS, wT, wEs, wO, wPs, wC, wSrc, wE_loc, wE_lit, wE_con, wE_bin, wE_neg, wE_cmp, wE_cmp2, wE_isN, wE_notN, wE_isB, wE_not, wE_and, wE_or, wE_ite, wE_tup, wE_lst, wE_dic, wE_call, wE_make, wE_meth, wE_fld, wE_sub, wE_slice, wE_bi, wE_vi, wE_bm, wE_isi, wE_lc, wE_lck, eg, es, Option.some.injEq, exists_eq_left', Lit.val]
      refine ⟨appT gx, lenW_lst (lst_at gx) ?_⟩
      simp only [binW]
      refine ⟨SZ3 (by simp), ?_⟩
      refine appW gx (by rw [sizeLine_eq]; omega) ?_
      rw [put]
      exact ⟨⟨_, _, _, rfl⟩, _, rfl, by simp [hx]⟩
  · rintro env S' ⟨⟨x2, x3, x4, rfl⟩, xs, rfl, hx⟩
    refine ⟨trivial, ?_⟩
    subst hV
    simp only [s4_f_law_number_body, wSs, wS, wT, wEs, wO, wPs, wC, wSrc, wE_loc, wE_lit, wE_con, wE_bin, wE_neg, wE_cmp, wE_cmp2, wE_isN, wE_notN, wE_isB, wE_not, wE_and, wE_or, wE_ite, wE_tup, wE_lst, wE_dic, wE_call, wE_make, wE_meth, wE_fld, wE_sub, wE_slice, wE_bi, wE_vi, wE_bm, wE_isi, wE_lc, wE_lck, eg, es, Option.some.injEq, exists_eq_left', Lit.val, biW, ltOf]
    rw [List.length_map] at hx
    exact ⟨_, lst_at get_new, hq xs _ (by omega)⟩
theorem told_ok {f : List String} (hf : FmO f) (hq : Q (toldV f) S) : callW P (k + 1) (.f "_law_told") [.tup (f.map .str)] S Q X := by
  refine call_open fn_f_law_told ⟨rfl, ?_⟩
  show wSs _ _ _ s3_f_law_told _ _ [some (.tup (f.map .str))] S
  rw [s3_f_law_told]
  generalize hV : s2_f_law_told = V
  generalize hU : s1_f_law_told = U
  simp only [wSs, wS, wT, wEs, wO, wPs, wC, wSrc, wE_loc, wE_lit, wE_con, wE_bin, wE_neg, wE_cmp, wE_cmp2, wE_isN, wE_notN, wE_isB, wE_not, wE_and, wE_or, wE_ite, wE_tup, wE_lst, wE_dic, wE_call, wE_make, wE_meth, wE_fld, wE_sub, wE_slice, wE_bi, wE_vi, wE_bm, wE_isi, wE_lc, wE_lck, eg, es, Option.some.injEq, exists_eq_left', Lit.val, biW, cmpW, eqW_int, truth, Option.some.injEq, exists_eq_left']
  rcases hf with rfl | ⟨x, rfl, _⟩ | ⟨x, y, rfl, _⟩
  · rw [if_pos (by decide)]
    subst hU
    simp only [s1_f_law_told, wSs, wS, wT, wEs, wO, wPs, wC, wSrc, wE_loc, wE_lit, wE_con, wE_bin, wE_neg, wE_cmp, wE_cmp2, wE_isN, wE_notN, wE_isB, wE_not, wE_and, wE_or, wE_ite, wE_tup, wE_lst, wE_dic, wE_call, wE_make, wE_meth, wE_fld, wE_sub, wE_slice, wE_bi, wE_vi, wE_bm, wE_isi, wE_lc, wE_lck, eg, es, Option.some.injEq, exists_eq_left', Lit.val, List.map_cons, tup0]
    exact hq
  · rw [if_neg (by simp)]
    subst hV
    simp only [s2_f_law_told, wSs, wS, wT, wEs, wO, wPs, wC, wSrc, wE_loc, wE_lit, wE_con, wE_bin, wE_neg, wE_cmp, wE_cmp2, wE_isN, wE_notN, wE_isB, wE_not, wE_and, wE_or, wE_ite, wE_tup, wE_lst, wE_dic, wE_call, wE_make, wE_meth, wE_fld, wE_sub, wE_slice, wE_bi, wE_vi, wE_bm, wE_isi, wE_lc, wE_lck, eg, es, Option.some.injEq, exists_eq_left', Lit.val]
    exact hq
  · rw [if_neg (by simp)]
    subst hV
    simp only [s2_f_law_told, wSs, wS, wT, wEs, wO, wPs, wC, wSrc, wE_loc, wE_lit, wE_con, wE_bin, wE_neg, wE_cmp, wE_cmp2, wE_isN, wE_notN, wE_isB, wE_not, wE_and, wE_or, wE_ite, wE_tup, wE_lst, wE_dic, wE_call, wE_make, wE_meth, wE_fld, wE_sub, wE_slice, wE_bi, wE_vi, wE_bm, wE_isi, wE_lc, wE_lck, eg, es, Option.some.injEq, exists_eq_left', Lit.val]
    exact hq
theorem fD_at {i1 i2 i3 : List It} {f : List String} (hf : FmO f) : ∃ g is, f.headD "" = (f.headD "") ∧ lookK (fD i1 i2 i3) (.inr (f.headD "")) = some (.tup [g, .tup (is.map It.enc)]) ∧ (is = i1 ∨ is = i2 ∨ is = i3) := by
  rcases hf with rfl | ⟨x, rfl, _⟩ | ⟨x, y, rfl, _⟩
  · exact ⟨gA, i1, rfl, by simp [fD, lookK], .inl rfl⟩
  · exact ⟨gB, i2, rfl, by simp [fD, lookK], .inr (.inl rfl)⟩
  · exact ⟨gC, i3, rfl, by simp [fD, lookK], .inr (.inr rfl)⟩
theorem FmO.hd {f : List String} (hf : FmO f) : ∃ h r, f = h :: r := by
  rcases hf with rfl | ⟨x, rfl, _⟩ | ⟨x, y, rfl, _⟩ <;> exact ⟨_, _, rfl⟩
theorem FmO.len {f : List String} (hf : FmO f) : f.length ≤ 3 := by
  rcases hf with rfl | ⟨x, rfl, _⟩ | ⟨x, y, rfl, _⟩ <;> simp
end
end K43

set_option maxHeartbeats 4000000
namespace K43
open Mi PySem
section
variable {p k f : Nat} {i1 i2 i3 : List It} {S S' : Hm} {X : XPost} {Q : Post} {K : Nat}
def wnV (q : String × List String) : Val := .tup [.str q.1, .tup (q.2.map .str)]
def rwEnv (p f dp rp : Nat) (x4 x5 x6 x7 x8 x9 x10 : Option Val) : Mi.Env := [some (.ref p), some (.ref f), some (.ref dp), some (.ref rp), x4, x5, x6, x7, x8, x9, x10]
/-- the parts' rows -/
theorem parts_go {dp rp wp : Nat} {x4 x7 x8 x9 : Option Val} {wl : List (String × List String)} (hl : i1.length ≤ 25 ∧ i2.length ≤ 25 ∧ i3.length ≤ 25) (wo : ∀ q ∈ wl, PW q.1 ∧ FmO q.2) (wl1 : wl.length ≤ 10) (hne : dp ≠ rp ∧ dp ≠ wp ∧ rp ≠ wp ∧ f ≠ dp ∧ f ≠ rp ∧ p ≠ dp ∧ p ≠ rp) (hS : Sta p S) (gf : S[f]? = some (.dic (fD i1 i2 i3))) (gd : S[dp]? = some (.dic [])) (gr : S[rp]? = some (.lst [])) (gw : S[wp]? = some (.lst (wl.map wnV))) {D : Mi.Sp} {x6 x10 : Option Val} {n4 : Nat} {o4 : Ob} (g4 : S[n4]? = some o4) (h4 : n4 ≠ dp ∧ n4 ≠ rp)
    (hq : ∀ (pr : List Pt) x6 x10 S', pr.map (fun q => (q.n, q.f)) = wl → (∀ q ∈ pr, q.b.length ≤ 25) → S'[rp]? = some (.lst (pr.map Pt.enc)) → S'[dp]? = some (.dic (dueD wl)) → S'[f]? = some (.dic (fD i1 i2 i3)) → S'[n4]? = some o4 → Sta p S' → S.length ≤ S'.length → (∀ n, n < S.length → n ≠ dp → n ≠ rp → S'[n]? = S[n]?) → D.nx (rwEnv p f dp rp x4 (some (.ref wp)) x6 x7 x8 x9 x10) S') :
    forL (.tp [6, 10]) (fun S => Hm.lst S wp = some (wl.map wnV)) (wSs P.con P.sub (callW P (k + 3)) s3_f_law_rows fun c _ S' => noX c S') D (wl.map wnV) (rwEnv p f dp rp x4 (some (.ref wp)) x6 x7 x8 x9 x10) S := by
  refine for_inv (callW_mono P _) (fun i env S' => (∃ x6 x10, env = rwEnv p f dp rp x4 (some (.ref wp)) x6 x7 x8 x9 x10) ∧ (∃ pr : List Pt, pr.map (fun q => (q.n, q.f)) = wl.take i ∧ (∀ q ∈ pr, q.b.length ≤ 25) ∧ S'[rp]? = some (.lst (pr.map Pt.enc))) ∧ S'[dp]? = some (.dic (dueD (wl.take i))) ∧ Sta p S' ∧ S.length ≤ S'.length ∧ ∀ n, n < S.length → n ≠ dp → n ≠ rp → S'[n]? = S[n]?) ?_ ?_ ⟨⟨_, _, rfl⟩, ⟨[], rfl, by simp, gr⟩, gd, hS, Nat.le_refl _, fun _ _ _ _ => rfl⟩
  · rintro i v env S1 hi ⟨⟨y6, y10, rfl⟩, ⟨pr, pn, pb, gr1⟩, gd1, s1, l1, k1⟩
    rw [List.getElem?_map] at hi
    obtain ⟨q, hi2, rfl⟩ := Option.map_eq_some_iff.mp hi
    have il := lt_of_get hi2
    obtain ⟨qn, qf⟩ := wo q (List.mem_of_getElem? hi2)
    have gw1 : S1[wp]? = some (.lst (wl.map wnV)) := (k1 wp (lt_of_get gw) (Ne.symm hne.2.1) (Ne.symm hne.2.2.1)).trans gw
    have gf1 : S1[f]? = some (.dic (fD i1 i2 i3)) := (k1 f (lt_of_get gf) hne.2.2.2.1 hne.2.2.2.2.1).trans gf
    have prl : pr.length = i := by have := congrArg List.length pn; simp at this; omega
    refine ⟨lst_at gw1, ?_⟩
    simp only [tgW, wnV]
    refine ⟨_, rfl, rfl, ?_⟩
    simp only [List.zip_cons_cons, List.zip_nil_right, List.foldl_cons, List.foldl_nil, rwEnv, es]
    rw [s3_f_law_rows]
    generalize hV : s2_f_law_rows = V
    simp only [wSs, wS, wT, wEs, wO, wPs, wC, wSrc, wE_loc, wE_lit, wE_con, wE_bin, wE_neg, wE_cmp, wE_cmp2, wE_isN, wE_notN, wE_isB, wE_not, wE_and, wE_or, wE_ite, wE_tup, wE_lst, wE_dic, wE_call, wE_make, wE_meth, wE_fld, wE_sub, wE_slice, wE_bi, wE_vi, wE_bm, wE_isi, wE_lc, wE_lck, eg, es, Option.some.injEq, exists_eq_left', Lit.val]
    refine ⟨appT gr1, ?_⟩
    refine told_ok qf ⟨SZ3 (by simp), ?_⟩
    obtain ⟨h, r, eh⟩ := qf.hd
    obtain ⟨g, is, _, ek, eis⟩ := fD_at (i1 := i1) (i2 := i2) (i3 := i3) qf
    rw [eh] at ek
    rw [eh]
    simp only [List.map_cons, tup0]
    refine subW_dic (q := .inr h) gf1 rfl ek ?_
    rw [tup1]
    have isl : is.length ≤ 25 := by rcases eis with rfl | rfl | rfl <;> omega
    refine body_ok isl fun xs l xl => ?_
    simp only [binW]
    have gr2 := get_app (l := l) gr1
    have gd2 := get_app (l := l) gd1
    refine ⟨SZ3 (by simp; omega), ?_⟩
    refine appW gr2 (by rw [sizeLine_eq, List.length_map]; omega) ?_
    have e : pr.map Pt.enc ++ [Val.tup ([.str "part", .str q.1, toldV (h :: r)] ++ xs)] = (pr ++ [Pt.mk q.1 q.2 xs]).map Pt.enc := by
      rw [List.map_append, eh.symm]
      rfl
    rw [e]
    have gd3 : ((S1 ++ l).set rp (.lst ((pr ++ [Pt.mk q.1 q.2 xs]).map Pt.enc)))[dp]? = some (.dic (dueD (wl.take i))) := by rw [get_ne hne.1]; exact gd2
    have gr3 : ((S1 ++ l).set rp (.lst ((pr ++ [Pt.mk q.1 q.2 xs]).map Pt.enc)))[rp]? = some (.lst ((pr ++ [Pt.mk q.1 q.2 xs]).map Pt.enc)) := by rw [get_set, gr2]; rfl
    subst hV
    simp only [s2_f_law_rows, wSs, wS, wT, wEs, wO, wPs, wC, wSrc, wE_loc, wE_lit, wE_con, wE_bin, wE_neg, wE_cmp, wE_cmp2, wE_isN, wE_notN, wE_isB, wE_not, wE_and, wE_or, wE_ite, wE_tup, wE_lst, wE_dic, wE_call, wE_make, wE_meth, wE_fld, wE_sub, wE_slice, wE_bi, wE_vi, wE_bm, wE_isi, wE_lc, wE_lck, eg, es, Option.some.injEq, exists_eq_left', Lit.val]
    have dl := dueD_len (wl.take i)
    rw [List.length_take] at dl
    refine setW_dic (q := .inr q.1) gd3 rfl (by rw [sizeLine_eq]; omega) ?_
    have tk : wl.take (i + 1) = wl.take i ++ [q] := by rw [List.take_add_one, hi2]; rfl
    rw [show Val.tup (Val.str h :: r.map .str) = .tup (q.2.map .str) by rw [eh]; rfl, ← dueD_snoc, ← tk]
    refine ⟨⟨_, _, rfl⟩, ⟨pr ++ [Pt.mk q.1 q.2 xs], by rw [List.map_append, pn, tk]; rfl, fun u hu => ?_, by rw [get_ne (Ne.symm hne.1)]; exact gr3⟩, by rw [get_set, gd3]; rfl, ((s1.app l).set hne.2.2.2.2.2.2).set hne.2.2.2.2.2.1, by simp; omega, fun n hn h1 h2 => ?_⟩
    · rcases List.mem_append.mp hu with z | z
      · exact pb u z
      · rw [List.mem_singleton.mp z]; exact xl
    · rw [get_ne h1, get_ne h2, List.getElem?_append_left (by omega)]
      exact k1 n hn h1 h2
  · rintro env S1 ⟨⟨y6, y10, rfl⟩, ⟨pr, pn, pb, gr1⟩, gd1, s1, l1, k1⟩
    rw [List.length_map, List.take_length] at pn gd1
    have gw1 : S1[wp]? = some (.lst (wl.map wnV)) := (k1 wp (lt_of_get gw) (Ne.symm hne.2.1) (Ne.symm hne.2.2.1)).trans gw
    have gf1 : S1[f]? = some (.dic (fD i1 i2 i3)) := (k1 f (lt_of_get gf) hne.2.2.2.1 hne.2.2.2.2.1).trans gf
    exact ⟨lst_at gw1, hq pr _ _ S1 pn pb gr1 gd1 gf1 ((k1 n4 (lt_of_get g4) h4.1 h4.2).trans g4) s1 l1 k1⟩
end
end K43

set_option maxHeartbeats 4000000
namespace K43
open Mi PySem
theorem pw_2 {s : String} (h : s ∈ ["Pa", "Pb", "Pc", "Pd", "Pe", "Qa", "Qb"]) : PW s := by
  simp only [List.mem_cons, List.not_mem_nil, or_false] at h
  rcases h with rfl | rfl | rfl | rfl | rfl | rfl | rfl <;> exact pw_of (by decide) (by decide) (by decide) (by decide)
section
variable {p k f : Nat} {i1 i2 i3 : List It} {S S' : Hm} {X : XPost} {Q : Post} {K : Nat}
/-- one of the first parts -/
theorem first_ok {fp : Nat} {fl : List String} {R : Post} (hS : Sta p S) (gl : S[fp]? = some (.lst (fl.map .str))) (hne : fp ≠ p) (h0 : 0 < fl.length) (h2 : fl.length ≤ 2) (hq : ∀ x S', x ∈ fl → Sta p S' → Fr p S S' → R (.str x) S') :
    biW .len [.ref fp] S fun v S1 => callW P (k + 1) (.f "_law_next") [.ref p, v] S1 (fun j S2 => subW (.ref fp) j S2 R) X := by
  refine lenW_lst (lst_at gl) ?_
  refine nx (by omega) hS (by rw [List.length_map]; omega) (by rw [List.length_map]; omega) fun r S1 hr s1 f1 => ?_
  refine K43.at_mem (f1.get hne gl) (by omega) hr fun v hv => ?_
  obtain ⟨x, hx, rfl⟩ := List.mem_map.mp hv
  exact hq x S1 hx s1 f1
theorem lrows_ok (hS : Sta p S) (gf : S[f]? = some (.dic (fD i1 i2 i3))) (hfp : f ≠ p) (hl : i1.length ≤ 25 ∧ i2.length ≤ 25 ∧ i3.length ≤ 25)
    (hq : ∀ (rp dp : Nat) (pr : List Pt) (bA bB : List Val) (x y : String) (S' : Hm), S'[rp]? = some (.lst (pr.map Pt.enc ++ [mkV "Ma" gMa ["Fb", "Y"] bA] ++ [mkV "Mb" gMb ["Fc", "Z", "X"] bB] ++ [apV "Qa" "Ma" [x], apV "Qb" "Mb" [y, "Qa"]])) → S'[dp]? = some (.dic (dueD (pr.map (fun q => (q.n, q.f)) ++ [("Qa", ["Fb", x])] ++ [("Qb", ["Fc", y, "Qa"])]))) → (∀ q ∈ pr, Pt.ok q ∧ q.b.length ≤ 25) → pr.length ≤ 6 → bA.length ≤ 25 → bB.length ≤ 25 → PW x → PW y → Sta p S' → Fr p S S' → S.length ≤ dp → S'[f]? = some (.dic (fD i1 i2 i3)) → Q (.tup [.ref rp, .ref dp]) S') :
    callW P (k + 4) (.f "_law_rows") [.ref p, .ref f] S Q noX := by
  refine call_open (k := k + 3) fn_f_law_rows ⟨rfl, ?_⟩
  show wSs _ _ _ s13_f_law_rows _ _ [some (.ref p), some (.ref f), none, none, none, none, none, none, none, none, none] S
  have pl := hS.lt
  have fl0 := lt_of_get gf
  rw [s13_f_law_rows]
  generalize hV : s12_f_law_rows = V
  simp only [wSs, wS, wT, wEs, wO, wPs, wC, wSrc, wE_loc, wE_lit, wE_con, wE_bin, wE_neg, wE_cmp, wE_cmp2, wE_isN, wE_notN, wE_isB, wE_not, wE_and, wE_or, wE_ite, wE_tup, wE_lst, wE_dic, wE_call, wE_make, wE_meth, wE_fld, wE_sub, wE_slice, wE_bi, wE_vi, wE_bm, wE_isi, wE_lc, wE_lck, eg, es, Option.some.injEq, exists_eq_left', Lit.val]
  refine ⟨SZ3 (by simp), SZ3 (by simp), ?_⟩
  simp only [List.foldl_nil]
  have l1 : (S ++ [Ob.dic []]).length = S.length + 1 := by simp
  have l2 : (S ++ [Ob.dic []] ++ [Ob.lst []]).length = S.length + 2 := by simp
  have gd : (S ++ [Ob.dic []] ++ [Ob.lst []] ++ [Ob.lst [.str "Pa", .str "Pb"]])[S.length]? = some (.dic []) := get_app (get_app get_new)
  have gr : (S ++ [Ob.dic []] ++ [Ob.lst []] ++ [Ob.lst [.str "Pa", .str "Pb"]])[S.length + 1]? = some (.lst []) := by
    have := get_app (l := [Ob.lst [.str "Pa", .str "Pb"]]) (get_new (S := S ++ [Ob.dic []]) (o := Ob.lst []))
    rw [l1] at this
    exact this
  have gp : (S ++ [Ob.dic []] ++ [Ob.lst []] ++ [Ob.lst [.str "Pa", .str "Pb"]])[S.length + 2]? = some (.lst (["Pa", "Pb"].map .str)) := by
    have := get_new (S := S ++ [Ob.dic []] ++ [Ob.lst []]) (o := Ob.lst [.str "Pa", .str "Pb"])
    rw [l2] at this
    exact this
  rw [l1, l2]
  have s1 := ((hS.app [Ob.dic []]).app [Ob.lst []]).app [Ob.lst [.str "Pa", .str "Pb"]]
  have f1 : Fr p S (S ++ [Ob.dic []] ++ [Ob.lst []] ++ [Ob.lst [.str "Pa", .str "Pb"]]) := (Fr.app _).trans ((Fr.app _).trans (Fr.app _))
  generalize S ++ [Ob.dic []] ++ [Ob.lst []] ++ [Ob.lst [.str "Pa", .str "Pb"]] = S1 at gd gr gp s1 f1 ⊢
  refine nx (by omega) s1 (by decide) (by decide) fun r S2 hr s2 f2 => ?_
  have gd2 := f2.get (by omega) gd
  have gr2 := f2.get (by omega) gr
  have gp2 := f2.get (by omega) gp
  simp only [binW, sliceW]
  refine ⟨_, rfl, _, lst_at gp2, ?_⟩
  rw [show (1 : Int) + (r : Int) = ((1 + r : Nat) : Int) by omega, cut_to, ← List.map_take]
  have a0 : 0 < (["Pa", "Pb"].take (1 + r)).length := by simp; omega
  have a2 : (["Pa", "Pb"].take (1 + r)).length ≤ 2 := by simp; omega
  have aw : ∀ x ∈ ["Pa", "Pb"].take (1 + r), PW x := fun x hx => by
    have := List.mem_of_mem_take hx
    refine pw_2 ?_
    simp only [List.mem_cons, List.not_mem_nil, or_false] at this ⊢
    rcases this with e | e <;> simp [e]
  generalize ["Pa", "Pb"].take (1 + r) = fl at a0 a2 aw ⊢
  have g3 : (S2 ++ [Ob.lst (fl.map .str)])[S2.length]? = some (.lst (fl.map .str)) := get_new
  have gd3 := get_app (l := [Ob.lst (fl.map .str)]) gd2
  have gr3 := get_app (l := [Ob.lst (fl.map .str)]) gr2
  have s3 := s2.app [Ob.lst (fl.map .str)]
  have f3 : Fr p S (S2 ++ [Ob.lst (fl.map .str)]) := f1.trans (f2.trans (Fr.app _))
  have lgp := lt_of_get gp2
  have ne3 : S2.length ≠ p := by have := s2.lt; omega
  generalize S2 ++ [Ob.lst (fl.map .str)] = S3 at g3 gd3 gr3 s3 f3 ⊢
  have lfp : S.length + 2 < S2.length := by omega
  generalize S2.length = fp at g3 ne3 lfp ⊢
  subst hV
  rw [s12_f_law_rows]
  generalize hV : s11_f_law_rows = V
  simp only [wSs, wS, wT, wEs, wO, wPs, wC, wSrc, wE_loc, wE_lit, wE_con, wE_bin, wE_neg, wE_cmp, wE_cmp2, wE_isN, wE_notN, wE_isB, wE_not, wE_and, wE_or, wE_ite, wE_tup, wE_lst, wE_dic, wE_call, wE_make, wE_meth, wE_fld, wE_sub, wE_slice, wE_bi, wE_vi, wE_bm, wE_isi, wE_lc, wE_lck, eg, es, Option.some.injEq, exists_eq_left', Lit.val, seqOf]
  refine ⟨_, lst_at g3, ?_⟩
  refine lc_gen (lst_at g3) fl .str (fun x => wnV (x, ["Fa"])) (by omega) (fun q hq1 Q' hQ => ?_) ?_
  · simp only [tgW, ewipe, List.map_cons, List.map_nil, es, wSs, wS, wT, wEs, wO, wPs, wC, wSrc, wE_loc, wE_lit, wE_con, wE_bin, wE_neg, wE_cmp, wE_cmp2, wE_isN, wE_notN, wE_isB, wE_not, wE_and, wE_or, wE_ite, wE_tup, wE_lst, wE_dic, wE_call, wE_make, wE_meth, wE_fld, wE_sub, wE_slice, wE_bi, wE_vi, wE_bm, wE_isi, wE_lc, wE_lck, eg, es, Option.some.injEq, exists_eq_left', Lit.val]
    exact ⟨SZ3 (by simp), SZ3 (by simp), hQ⟩
  rw [show (fl.map fun x => wnV (x, ["Fa"])) = (fl.map fun x => (x, ["Fa"])).map wnV by simp [Function.comp_def]]
  have wo0 : ∀ q ∈ fl.map (fun x => (x, ["Fa"])), PW q.1 ∧ FmO q.2 := fun q hq => by
    obtain ⟨x, hx, rfl⟩ := List.mem_map.mp hq
    exact ⟨aw x hx, .inl rfl⟩
  have wl0 : (fl.map fun x => (x, ["Fa"])).length ≤ 2 := by simpa using a2
  generalize (fl.map fun x => (x, ["Fa"])) = w0 at wo0 wl0 ⊢
  have gw : (S3 ++ [Ob.lst (w0.map wnV)])[S3.length]? = some (.lst (w0.map wnV)) := get_new
  have g4 := get_app (l := [Ob.lst (w0.map wnV)]) g3
  have gd4 := get_app (l := [Ob.lst (w0.map wnV)]) gd3
  have gr4 := get_app (l := [Ob.lst (w0.map wnV)]) gr3
  have s4 := s3.app [Ob.lst (w0.map wnV)]
  have f4 : Fr p S (S3 ++ [Ob.lst (w0.map wnV)]) := f3.trans (Fr.app _)
  have lwp : fp < S3.length := lt_of_get g3
  have ne4 : S3.length ≠ p := by have := s3.lt; omega
  generalize S3 ++ [Ob.lst (w0.map wnV)] = S4 at gw g4 gd4 gr4 s4 f4 ⊢
  generalize S3.length = wp at gw lwp ne4 ⊢
  subst hV
  rw [s11_f_law_rows]
  generalize hV : s10_f_law_rows = V
  generalize hU : s1_f_law_rows = U
  simp only [wSs, wS, wT, wEs, wO, wPs, wC, wSrc, wE_loc, wE_lit, wE_con, wE_bin, wE_neg, wE_cmp, wE_cmp2, wE_isN, wE_notN, wE_isB, wE_not, wE_and, wE_or, wE_ite, wE_tup, wE_lst, wE_dic, wE_call, wE_make, wE_meth, wE_fld, wE_sub, wE_slice, wE_bi, wE_vi, wE_bm, wE_isi, wE_lc, wE_lck, eg, es, Option.some.injEq, exists_eq_left', Lit.val, seqOf]
  refine ⟨SZ3 (by simp), ?_⟩
  have gc : (S4 ++ [Ob.lst [.str "Pc", .str "Pd"]])[S4.length]? = some (.lst (["Pc", "Pd"].map .str)) := get_new
  have lw4 := lt_of_get gw
  refine nx (by omega) (s4.app _) (by decide) (by decide) fun r2 S5 hr2 s5 f5 => ?_
  have f45 := (Fr.app (p := p) (S := S4) [Ob.lst [.str "Pc", .str "Pd"]]).trans f5
  simp only [binW, sliceW]
  refine ⟨_, rfl, _, lst_at (f5.get (by have := s4.lt; omega) gc), ?_⟩
  rw [show (1 : Int) + (r2 : Int) = ((1 + r2 : Nat) : Int) by omega, cut_to, ← List.map_take]
  have b2 : (["Pc", "Pd"].take (1 + r2)).length ≤ 2 := by simp; omega
  have bw : ∀ x ∈ ["Pc", "Pd"].take (1 + r2), PW x := fun x hx => by
    have := List.mem_of_mem_take hx
    refine pw_2 ?_
    simp only [List.mem_cons, List.not_mem_nil, or_false] at this ⊢
    rcases this with e | e <;> simp [e]
  generalize ["Pc", "Pd"].take (1 + r2) = cl at b2 bw ⊢
  have gcl : (S5 ++ [Ob.lst (cl.map .str)])[S5.length]? = some (.lst (cl.map .str)) := get_new
  have f56 := f45.trans (Fr.app (p := p) (S := S5) [Ob.lst (cl.map .str)])
  have gw6 := f56.get ne4 gw
  have g6 := f56.get ne3 g4
  have gd6 := f56.get (by omega) gd4
  have gr6 := f56.get (by omega) gr4
  have s6 := s5.app [Ob.lst (cl.map .str)]
  have f6 := f4.trans f56
  have lcl : S4.length < S5.length := by have := f5.1; simp at this; omega
  generalize S5 ++ [Ob.lst (cl.map .str)] = S6 at gcl gw6 g6 gd6 gr6 s6 f6 ⊢
  generalize S5.length = cp at gcl lcl ⊢
  have necp : cp ≠ p := by have := s4.lt; omega
  refine ⟨_, lst_at gcl, ?_⟩
  refine for_inv (callW_mono P _) (fun i env S7 => (∃ x6, env = rwEnv p f S.length (S.length + 1) (some (.ref fp)) (some (.ref wp)) x6 none none none none) ∧ (∃ w1 : List (String × List String), S7[wp]? = some (.lst (w1.map wnV)) ∧ w1.length ≤ 2 + i ∧ ∀ q ∈ w1, PW q.1 ∧ FmO q.2) ∧ S7[fp]? = some (.lst (fl.map .str)) ∧ S7[cp]? = some (.lst (cl.map .str)) ∧ S7[S.length]? = some (.dic []) ∧ S7[S.length + 1]? = some (.lst []) ∧ Sta p S7 ∧ Fr p S S7) ?_ ?_ ⟨⟨_, rfl⟩, ⟨w0, gw6, by omega, wo0⟩, g6, gcl, gd6, gr6, s6, f6⟩
  · rintro i v env S7 hi ⟨⟨x6, rfl⟩, ⟨w1, gw7, wl7, wo7⟩, g7, gc7, gd7, gr7, s7, f7⟩
    rw [List.getElem?_map] at hi
    obtain ⟨x, hi2, rfl⟩ := Option.map_eq_some_iff.mp hi
    have il := lt_of_get hi2
    refine ⟨lst_at gc7, ?_⟩
    subst hU
    simp only [tgW, rwEnv, es, s1_f_law_rows, wSs, wS, wT, wEs, wO, wPs, wC, wSrc, wE_loc, wE_lit, wE_con, wE_bin, wE_neg, wE_cmp, wE_cmp2, wE_isN, wE_notN, wE_isB, wE_not, wE_and, wE_or, wE_ite, wE_tup, wE_lst, wE_dic, wE_call, wE_make, wE_meth, wE_fld, wE_sub, wE_slice, wE_bi, wE_vi, wE_bm, wE_isi, wE_lc, wE_lck, eg, es, Option.some.injEq, exists_eq_left', Lit.val]
    refine ⟨appT gw7, ?_⟩
    refine first_ok (k := k + 2) s7 g7 ne3 a0 a2 fun y S8 hy s8 f8 => ⟨SZ3 (by simp), SZ3 (by simp), ?_⟩
    have gw8 := f8.get ne4 gw7
    refine appW gw8 (by rw [sizeLine_eq, List.length_map]; omega) ?_
    rw [show w1.map wnV ++ [Val.tup [.str x, .tup [.str "Fb", .str y]]] = (w1 ++ [(x, ["Fb", y])]).map wnV by simp [wnV]]
    have k8 : ∀ {n : Nat} {o : Ob}, n ≠ wp → n ≠ p → S7[n]? = some o → (S8.set wp (.lst ((w1 ++ [(x, ["Fb", y])]).map wnV)))[n]? = some o := fun h1 h2 ho => by rw [get_ne h1]; exact f8.get h2 ho
    refine ⟨⟨_, rfl⟩, ⟨w1 ++ [(x, ["Fb", y])], by rw [get_set, gw8]; rfl, by simp; omega, fun q hq => ?_⟩, k8 (by omega) ne3 g7, k8 (by omega) necp gc7, k8 (by omega) (by omega) gd7, k8 (by omega) (by omega) gr7, s8.set (by omega), (f7.trans f8).set (by omega)⟩
    rcases List.mem_append.mp hq with z | z
    · exact wo7 q z
    · rw [List.mem_singleton.mp z]
      exact ⟨bw x (List.mem_of_getElem? hi2), .inr (.inl ⟨y, rfl, aw y hy⟩)⟩
  rintro env S7 ⟨⟨x6, rfl⟩, ⟨w1, gw7, wl7, wo7⟩, g7, gc7, gd7, gr7, s7, f7⟩
  refine ⟨lst_at gc7, ?_⟩
  rw [List.length_map] at wl7
  have wl7 : w1.length ≤ 4 := by omega
  subst hV
  rw [s10_f_law_rows]
  generalize hV : s9_f_law_rows = V
  simp only [rwEnv, wSs, wS, wT, wEs, wO, wPs, wC, wSrc, wE_loc, wE_lit, wE_con, wE_bin, wE_neg, wE_cmp, wE_cmp2, wE_isN, wE_notN, wE_isB, wE_not, wE_and, wE_or, wE_ite, wE_tup, wE_lst, wE_dic, wE_call, wE_make, wE_meth, wE_fld, wE_sub, wE_slice, wE_bi, wE_vi, wE_bm, wE_isi, wE_lc, wE_lck, eg, es, Option.some.injEq, exists_eq_left', Lit.val]
  refine ⟨appT gw7, ?_⟩
  refine first_ok (k := k + 2) s7 g7 ne3 a0 a2 fun y S8 hy s8 f8 => ⟨SZ3 (by simp), SZ3 (by simp), ?_⟩
  have gw8 := f8.get ne4 gw7
  refine appW gw8 (by rw [sizeLine_eq, List.length_map]; omega) ?_
  rw [show w1.map wnV ++ [Val.tup [.str "Pe", .tup [.str "Fc", .str y, .str "Pc"]]] = (w1 ++ [("Pe", ["Fc", y, "Pc"])]).map wnV by simp [wnV]]
  have k8 : ∀ {n : Nat} {o : Ob}, n ≠ wp → n ≠ p → S7[n]? = some o → (S8.set wp (.lst ((w1 ++ [("Pe", ["Fc", y, "Pc"])]).map wnV)))[n]? = some o := fun h1 h2 ho => by rw [get_ne h1]; exact f8.get h2 ho
  have gw9 : (S8.set wp (.lst ((w1 ++ [("Pe", ["Fc", y, "Pc"])]).map wnV)))[wp]? = some (.lst ((w1 ++ [("Pe", ["Fc", y, "Pc"])]).map wnV)) := by rw [get_set, gw8]; rfl
  have g9 := k8 (by omega) ne3 g7
  have gd9 := k8 (by omega) (by omega) gd7
  have gr9 := k8 (by omega) (by omega) gr7
  have s9 := s8.set (n := wp) (o := .lst ((w1 ++ [("Pe", ["Fc", y, "Pc"])]).map wnV)) (by omega)
  have f9 := (f7.trans f8).set (n := wp) (o := .lst ((w1 ++ [("Pe", ["Fc", y, "Pc"])]).map wnV)) (by omega)
  have wo9 : ∀ q ∈ w1 ++ [("Pe", ["Fc", y, "Pc"])], PW q.1 ∧ FmO q.2 := fun q hq => by
    rcases List.mem_append.mp hq with z | z
    · exact wo7 q z
    · rw [List.mem_singleton.mp z]
      exact ⟨pw_2 (by simp), .inr (.inr ⟨y, "Pc", rfl, aw y hy, pw_2 (by simp)⟩)⟩
  have wl9 : (w1 ++ [("Pe", ["Fc", y, "Pc"])]).length ≤ 5 := by simp; omega
  generalize (w1 ++ [("Pe", ["Fc", y, "Pc"])]) = wl at gw9 g9 gd9 gr9 s9 f9 wo9 wl9 ⊢
  generalize S8.set wp (.lst (wl.map wnV)) = S9 at gw9 g9 gd9 gr9 s9 f9 ⊢
  have gf9 := f9.get hfp gf
  subst hV
  rw [s9_f_law_rows]
  generalize hV : s8_f_law_rows = V
  generalize hU : s3_f_law_rows = U
  simp only [wSs, wS, wT, wEs, wO, wPs, wC, wSrc, wE_loc, wE_lit, wE_con, wE_bin, wE_neg, wE_cmp, wE_cmp2, wE_isN, wE_notN, wE_isB, wE_not, wE_and, wE_or, wE_ite, wE_tup, wE_lst, wE_dic, wE_call, wE_make, wE_meth, wE_fld, wE_sub, wE_slice, wE_bi, wE_vi, wE_bm, wE_isi, wE_lc, wE_lck, eg, es, Option.some.injEq, exists_eq_left', Lit.val, seqOf]
  refine ⟨_, lst_at gw9, ?_⟩
  subst hU
  refine parts_go (k := k) (x7 := none) (x8 := none) (x9 := none) (x4 := some (.ref fp)) (x6 := x6) (x10 := none) (n4 := fp) hl wo9 (by omega) ⟨by omega, by omega, by omega, by omega, by omega, by omega, by omega⟩ s9 gf9 gd9 gr9 gw9 g9 ⟨by omega, by omega⟩ fun pr y6 y10 S10 pn pb gr10 gd10 gf10 g10 s10 l10 k10 => ?_
  have f10 : Fr p S S10 := ⟨Nat.le_trans f9.1 l10, fun n hn hp => (k10 n (by have := f9.1; omega) (by omega) (by omega)).trans (f9.2 n hn hp)⟩
  have prl : pr.length ≤ 5 := by have := congrArg List.length pn; simp at this; omega
  have pok : ∀ q ∈ pr, Pt.ok q ∧ q.b.length ≤ 25 := fun q hq => ⟨by
    have : (q.n, q.f) ∈ wl := by rw [← pn]; exact List.mem_map_of_mem (f := fun q : Pt => (q.n, q.f)) hq
    exact wo9 _ this, pb q hq⟩
  have dl := dueD_len wl
  -- the first maker
  subst hV
  rw [s8_f_law_rows]
  generalize hV : s7_f_law_rows = V
  simp only [rwEnv, wSs, wS, wT, wEs, wO, wPs, wC, wSrc, wE_loc, wE_lit, wE_con, wE_bin, wE_neg, wE_cmp, wE_cmp2, wE_isN, wE_notN, wE_isB, wE_not, wE_and, wE_or, wE_ite, wE_tup, wE_lst, wE_dic, wE_call, wE_make, wE_meth, wE_fld, wE_sub, wE_slice, wE_bi, wE_vi, wE_bm, wE_isi, wE_lc, wE_lck, eg, es, Option.some.injEq, exists_eq_left', Lit.val]
  refine ⟨appT gr10, SZ3 (by simp), SZ3 (by simp), SZ3 (by simp), SZ3 (by simp), ?_⟩
  refine subW_dic (q := .inr "Fb") gf10 rfl (v := .tup [gB, .tup (i2.map It.enc)]) (by simp [fD, lookK]) ?_
  rw [tup1]
  refine body_ok (k := k + 2) hl.2.1 fun bA lA bAl => ?_
  simp only [binW]
  refine ⟨SZ3 (by simp; omega), ?_⟩
  refine appW (get_app gr10) (by rw [sizeLine_eq, List.length_map]; omega) ?_
  have eA : Val.tup ([Val.str "maker", .str "Ma", .tup [.tup [.str "Y", .str "Fa"]], .tup [.str "Fb", .str "Y"]] ++ bA) = mkV "Ma" gMa ["Fb", "Y"] bA := rfl
  rw [eA]
  have gr11 : ((S10 ++ lA).set (S.length + 1) (.lst (pr.map Pt.enc ++ [mkV "Ma" gMa ["Fb", "Y"] bA])))[S.length + 1]? = some (.lst (pr.map Pt.enc ++ [mkV "Ma" gMa ["Fb", "Y"] bA])) := by rw [get_set, get_app gr10]; rfl
  have k11 : ∀ {n : Nat} {o : Ob}, n ≠ S.length + 1 → S10[n]? = some o → ((S10 ++ lA).set (S.length + 1) (.lst (pr.map Pt.enc ++ [mkV "Ma" gMa ["Fb", "Y"] bA])))[n]? = some o := fun h1 ho => by rw [get_ne h1]; exact get_app ho
  have s11 := (s10.app lA).set (n := S.length + 1) (o := .lst (pr.map Pt.enc ++ [mkV "Ma" gMa ["Fb", "Y"] bA])) (by omega)
  have f11 := (f10.trans (Fr.app lA)).set (n := S.length + 1) (o := .lst (pr.map Pt.enc ++ [mkV "Ma" gMa ["Fb", "Y"] bA])) (by omega)
  have gd11 := k11 (by omega) gd10
  have gf11 := k11 (by omega) gf10
  have g11 := k11 (by omega) g10
  generalize (S10 ++ lA).set (S.length + 1) (.lst (pr.map Pt.enc ++ [mkV "Ma" gMa ["Fb", "Y"] bA])) = S11 at gr11 s11 f11 gd11 gf11 g11 ⊢
  clear k11
  -- the second
  subst hV
  rw [s7_f_law_rows]
  generalize hV : s6_f_law_rows = V
  simp only [wSs, wS, wT, wEs, wO, wPs, wC, wSrc, wE_loc, wE_lit, wE_con, wE_bin, wE_neg, wE_cmp, wE_cmp2, wE_isN, wE_notN, wE_isB, wE_not, wE_and, wE_or, wE_ite, wE_tup, wE_lst, wE_dic, wE_call, wE_make, wE_meth, wE_fld, wE_sub, wE_slice, wE_bi, wE_vi, wE_bm, wE_isi, wE_lc, wE_lck, eg, es, Option.some.injEq, exists_eq_left', Lit.val]
  refine ⟨SZ3 (by simp), SZ3 (by simp), SZ3 (by simp), SZ3 (by simp), appT gr11, SZ3 (by simp), SZ3 (by simp), ?_⟩
  refine subW_dic (q := .inr "Fc") gf11 rfl (v := .tup [gC, .tup (i3.map It.enc)]) (by simp [fD, lookK]) ?_
  rw [tup1]
  refine body_ok (k := k + 2) hl.2.2 fun bB lB bBl => ?_
  simp only [binW]
  refine ⟨SZ3 (by simp; omega), ?_⟩
  refine appW (get_app gr11) (by rw [sizeLine_eq]; simp; omega) ?_
  have eB : Val.tup ([Val.str "maker", .str "Mb", .tup [.tup [.str "Z", .str "Fa"], .tup [.str "X", .tup [.str "Fb", .str "Z"]]], .tup [.str "Fc", .str "Z", .str "X"]] ++ bB) = mkV "Mb" gMb ["Fc", "Z", "X"] bB := rfl
  rw [eB]
  generalize hR : pr.map Pt.enc ++ [mkV "Ma" gMa ["Fb", "Y"] bA] ++ [mkV "Mb" gMb ["Fc", "Z", "X"] bB] = R
  have Rl : R.length ≤ 10 := by rw [← hR]; simp; omega
  have gr12 : ((S11 ++ lB).set (S.length + 1) (.lst R))[S.length + 1]? = some (.lst R) := by rw [get_set, get_app gr11]; rfl
  have k12 : ∀ {n : Nat} {o : Ob}, n ≠ S.length + 1 → S11[n]? = some o → ((S11 ++ lB).set (S.length + 1) (.lst R))[n]? = some o := fun h1 ho => by rw [get_ne h1]; exact get_app ho
  have s12 := (s11.app lB).set (n := S.length + 1) (o := .lst R) (by omega)
  have f12 := (f11.trans (Fr.app lB)).set (n := S.length + 1) (o := .lst R) (by omega)
  have gd12 := k12 (by omega) gd11
  have gf12 := k12 (by omega) gf11
  have g12 := k12 (by omega) g11
  generalize (S11 ++ lB).set (S.length + 1) (.lst R) = S12 at gr12 s12 f12 gd12 gf12 g12 ⊢
  clear k12
  subst hV
  rw [s6_f_law_rows]
  generalize hV : s5_f_law_rows = V
  simp only [wSs, wS, wT, wEs, wO, wPs, wC, wSrc, wE_loc, wE_lit, wE_con, wE_bin, wE_neg, wE_cmp, wE_cmp2, wE_isN, wE_notN, wE_isB, wE_not, wE_and, wE_or, wE_ite, wE_tup, wE_lst, wE_dic, wE_call, wE_make, wE_meth, wE_fld, wE_sub, wE_slice, wE_bi, wE_vi, wE_bm, wE_isi, wE_lc, wE_lck, eg, es, Option.some.injEq, exists_eq_left', Lit.val]
  refine first_ok (k := k + 2) s12 g12 ne3 a0 a2 fun x S13 hx s13 f13 => ?_
  have g13 := f13.get ne3 g12
  subst hV
  rw [s5_f_law_rows]
  generalize hV : s4_f_law_rows = V
  simp only [wSs, wS, wT, wEs, wO, wPs, wC, wSrc, wE_loc, wE_lit, wE_con, wE_bin, wE_neg, wE_cmp, wE_cmp2, wE_isN, wE_notN, wE_isB, wE_not, wE_and, wE_or, wE_ite, wE_tup, wE_lst, wE_dic, wE_call, wE_make, wE_meth, wE_fld, wE_sub, wE_slice, wE_bi, wE_vi, wE_bm, wE_isi, wE_lc, wE_lck, eg, es, Option.some.injEq, exists_eq_left', Lit.val]
  refine first_ok (k := k + 2) s13 g13 ne3 a0 a2 fun z S14 hz s14 f14 => ?_
  have f124 := f13.trans f14
  have gr14 := f124.get (by omega) gr12
  have gd14 := f124.get (by omega) gd12
  have gf14 := f124.get hfp gf12
  have f14' := f12.trans f124
  subst hV
  simp only [s4_f_law_rows, wSs, wS, wT, wEs, wO, wPs, wC, wSrc, wE_loc, wE_lit, wE_con, wE_bin, wE_neg, wE_cmp, wE_cmp2, wE_isN, wE_notN, wE_isB, wE_not, wE_and, wE_or, wE_ite, wE_tup, wE_lst, wE_dic, wE_call, wE_make, wE_meth, wE_fld, wE_sub, wE_slice, wE_bi, wE_vi, wE_bm, wE_isi, wE_lc, wE_lck, eg, es, Option.some.injEq, exists_eq_left', Lit.val]
  refine ⟨SZ3 (by simp), SZ3 (by simp), SZ3 (by simp), ?_⟩
  refine addL (get_app gr14) get_new (by simp; omega) ?_
  have l14 := f14'.1
  have gd15 := get_app (l := [Ob.lst (R ++ [.tup [.str "apply", .str "Qa", .str "Ma", .str x], .tup [.str "apply", .str "Qb", .str "Mb", .str z, .str "Qa"]])]) (get_app (l := [Ob.lst [.tup [.str "apply", .str "Qa", .str "Ma", .str x], .tup [.str "apply", .str "Qb", .str "Mb", .str z, .str "Qa"]]]) gd14)
  have gR : (S14 ++ [Ob.lst [.tup [.str "apply", .str "Qa", .str "Ma", .str x], .tup [.str "apply", .str "Qb", .str "Mb", .str z, .str "Qa"]]] ++ [Ob.lst (R ++ [.tup [.str "apply", .str "Qa", .str "Ma", .str x], .tup [.str "apply", .str "Qb", .str "Mb", .str z, .str "Qa"]])])[(S14 ++ [Ob.lst [.tup [.str "apply", .str "Qa", .str "Ma", .str x], .tup [.str "apply", .str "Qb", .str "Mb", .str z, .str "Qa"]]]).length]? = some (.lst (R ++ [apV "Qa" "Ma" [x], apV "Qb" "Mb" [z, "Qa"]])) := by rw [get_new]; rfl
  have gf15 := get_app (l := [Ob.lst (R ++ [.tup [.str "apply", .str "Qa", .str "Ma", .str x], .tup [.str "apply", .str "Qb", .str "Mb", .str z, .str "Qa"]])]) (get_app (l := [Ob.lst [.tup [.str "apply", .str "Qa", .str "Ma", .str x], .tup [.str "apply", .str "Qb", .str "Mb", .str z, .str "Qa"]]]) gf14)
  have s15 := (s14.app [Ob.lst [.tup [.str "apply", .str "Qa", .str "Ma", .str x], .tup [.str "apply", .str "Qb", .str "Mb", .str z, .str "Qa"]]]).app [Ob.lst (R ++ [.tup [.str "apply", .str "Qa", .str "Ma", .str x], .tup [.str "apply", .str "Qb", .str "Mb", .str z, .str "Qa"]])]
  have f15 : Fr p S (S14 ++ [Ob.lst [.tup [.str "apply", .str "Qa", .str "Ma", .str x], .tup [.str "apply", .str "Qb", .str "Mb", .str z, .str "Qa"]]] ++ [Ob.lst (R ++ [.tup [.str "apply", .str "Qa", .str "Ma", .str x], .tup [.str "apply", .str "Qb", .str "Mb", .str z, .str "Qa"]])]) := f14'.trans ((Fr.app _).trans (Fr.app _))
  have lR : S.length < (S14 ++ [Ob.lst [.tup [.str "apply", .str "Qa", .str "Ma", .str x], .tup [.str "apply", .str "Qb", .str "Mb", .str z, .str "Qa"]]]).length := by simp; omega
  generalize (S14 ++ [Ob.lst [.tup [.str "apply", .str "Qa", .str "Ma", .str x], .tup [.str "apply", .str "Qb", .str "Mb", .str z, .str "Qa"]]]).length = rp at gR lR ⊢
  generalize S14 ++ [Ob.lst [.tup [.str "apply", .str "Qa", .str "Ma", .str x], .tup [.str "apply", .str "Qb", .str "Mb", .str z, .str "Qa"]]] ++ [Ob.lst (R ++ [.tup [.str "apply", .str "Qa", .str "Ma", .str x], .tup [.str "apply", .str "Qb", .str "Mb", .str z, .str "Qa"]])] = S15 at gd15 gR gf15 s15 f15 ⊢
  refine ⟨SZ3 (by simp), ?_⟩
  refine setW_dic (q := .inr "Qa") gd15 rfl (by rw [sizeLine_eq]; omega) ?_
  have gd16 : (S15.set S.length (.dic (putK (dueD wl) (.inr "Qa") (.tup [.str "Fb", .str x]))))[S.length]? = some (.dic (dueD (wl ++ [("Qa", ["Fb", x])]))) := by rw [get_set, gd15, dueD_snoc]; rfl
  refine ⟨SZ3 (by simp), ?_⟩
  have dl2 := dueD_len (wl ++ [("Qa", ["Fb", x])])
  simp only [List.length_append, List.length_singleton] at dl2
  refine setW_dic (q := .inr "Qb") gd16 rfl (by rw [sizeLine_eq]; omega) ?_
  refine ⟨SZ3 (by simp), ?_⟩
  refine hq rp S.length pr bA bB x z _ ?_ ?_ pok (by omega) bAl bBl (aw x hx) (aw z hz) ((s15.set (by omega)).set (by omega)) ((f15.set (Nat.le_refl _)).set (Nat.le_refl _)) (Nat.le_refl _) ?_
  · rw [get_ne (by omega), get_ne (by omega), hR]; exact gR
  · rw [get_set, gd16, pn, dueD_snoc (q := ("Qb", ["Fc", z, "Qa"]))]; rfl
  · rw [get_ne (by omega), get_ne (by omega)]; exact gf15
end
end K43

set_option maxHeartbeats 4000000
namespace K43
open Mi PySem
def gvV (q : String × Val) : Val := .tup [.str q.1, q.2]
def byD (gs : List (String × Val)) (ps : List String) : List (Key × Val) := (gs.zip ps).foldl (fun d q => putK d (.inr q.1.1) (.str q.2)) []
theorem by_ok {gs : List (String × Val)} {ps : List String} (hp : ∀ x ∈ ps, PW x) : BOk (byD gs ps) := by
  have key : ∀ (l : List ((String × Val) × String)) (acc : List (Key × Val)), (∀ q ∈ l, PW q.2) → BOk acc → BOk (l.foldl (fun d q => putK d (.inr q.1.1) (.str q.2)) acc) := by
    intro l
    induction l with
    | nil => intro acc _ h; exact h
    | cons q r ih =>
      intro acc hq h
      refine ih _ (fun u hu => hq u (List.mem_cons_of_mem _ hu)) fun kv hk => ?_
      rcases putK_mem hk with z | z
      · exact h kv z
      · have := hq q List.mem_cons_self
        exact ⟨q.1.1, q.2, z, this.1, this.2.1, by have := this.2.2.1; omega⟩
  exact key _ [] (fun q hq => hp _ (List.of_mem_zip hq).2) (by intro kv h; cases h)
section
variable {k : Nat} {S S' : Hm} {X : XPost} {Q : Post}
theorem reference_ok {f : List String} (hf : f.length ≠ 1 ∨ ∃ x, f = [x]) (hq : Q (.tup (f.map .str)) S) : callW P (k + 1) (.f "reference") [toldV f] S Q X := by
  refine call_open fn_f_reference ⟨rfl, ?_⟩
  show wSs _ _ _ s3_f_reference _ _ [some (toldV f)] S
  rw [s3_f_reference]
  generalize hV : s2_f_reference = V
  generalize hU : s1_f_reference = U
  simp only [wSs, wS, wT, wEs, wO, wPs, wC, wSrc, wE_loc, wE_lit, wE_con, wE_bin, wE_neg, wE_cmp, wE_cmp2, wE_isN, wE_notN, wE_isB, wE_not, wE_and, wE_or, wE_ite, wE_tup, wE_lst, wE_dic, wE_call, wE_make, wE_meth, wE_fld, wE_sub, wE_slice, wE_bi, wE_vi, wE_bm, wE_isi, wE_lc, wE_lck, eg, es, Option.some.injEq, exists_eq_left', Lit.val]
  unfold toldV
  by_cases h1 : f.length = 1
  · obtain ⟨x, rfl⟩ : ∃ x, f = [x] := by
      rcases hf with z | z
      · exact absurd h1 z
      · exact z
    rw [if_pos h1]
    simp [isTy, truth]
    subst hU
    simp only [s1_f_reference, wSs, wS, wT, wEs, wO, wPs, wC, wSrc, wE_loc, wE_lit, wE_con, wE_bin, wE_neg, wE_cmp, wE_cmp2, wE_isN, wE_notN, wE_isB, wE_not, wE_and, wE_or, wE_ite, wE_tup, wE_lst, wE_dic, wE_call, wE_make, wE_meth, wE_fld, wE_sub, wE_slice, wE_bi, wE_vi, wE_bm, wE_isi, wE_lc, wE_lck, eg, es, Option.some.injEq, exists_eq_left', Lit.val]
    exact ⟨SZ3 (by simp), hq⟩
  · rw [if_neg h1]
    simp [isTy, truth]
    subst hV
    simp only [s2_f_reference, wSs, wS, wT, wEs, wO, wPs, wC, wSrc, wE_loc, wE_lit, wE_con, wE_bin, wE_neg, wE_cmp, wE_cmp2, wE_isN, wE_notN, wE_isB, wE_not, wE_and, wE_or, wE_ite, wE_tup, wE_lst, wE_dic, wE_call, wE_make, wE_meth, wE_fld, wE_sub, wE_slice, wE_bi, wE_vi, wE_bm, wE_isi, wE_lc, wE_lck, eg, es, Option.some.injEq, exists_eq_left', Lit.val]
    exact hq
theorem reference_t {xs : List Val} (hq : Q (.tup xs) S) : callW P (k + 1) (.f "reference") [.tup xs] S Q X := by
  refine call_open fn_f_reference ⟨rfl, ?_⟩
  show wSs _ _ _ s3_f_reference _ _ [some (.tup xs)] S
  rw [s3_f_reference]
  generalize hV : s2_f_reference = V
  generalize hU : s1_f_reference = U
  simp only [wSs, wS, wT, wEs, wO, wPs, wC, wSrc, wE_loc, wE_lit, wE_con, wE_bin, wE_neg, wE_cmp, wE_cmp2, wE_isN, wE_notN, wE_isB, wE_not, wE_and, wE_or, wE_ite, wE_tup, wE_lst, wE_dic, wE_call, wE_make, wE_meth, wE_fld, wE_sub, wE_slice, wE_bi, wE_vi, wE_bm, wE_isi, wE_lc, wE_lck, eg, es, Option.some.injEq, exists_eq_left', Lit.val]
  simp [isTy, truth]
  subst hV
  simp only [s2_f_reference, wSs, wS, wT, wEs, wO, wPs, wC, wSrc, wE_loc, wE_lit, wE_con, wE_bin, wE_neg, wE_cmp, wE_cmp2, wE_isN, wE_notN, wE_isB, wE_not, wE_and, wE_or, wE_ite, wE_tup, wE_lst, wE_dic, wE_call, wE_make, wE_meth, wE_fld, wE_sub, wE_slice, wE_bi, wE_vi, wE_bm, wE_isi, wE_lc, wE_lck, eg, es, Option.some.injEq, exists_eq_left', Lit.val]
  exact hq
theorem zl_items {gs : List (String × Val)} {ps : List String} : pairL (gs.map gvV) (ps.map .str) = (gs.zip ps).map fun q => .tup [gvV q.1, .str q.2] := by
  rw [pairL_zip, List.zip_map, List.map_map]
  rfl
theorem byD_take {gs : List (String × Val)} {ps : List String} {i : Nat} {q : (String × Val) × String} (h : (gs.zip ps)[i]? = some q) : ((gs.zip ps).take (i + 1)).foldl (fun d q => putK d (.inr q.1.1) (.str q.2)) ([] : List (Key × Val)) = putK (((gs.zip ps).take i).foldl (fun d q => putK d (.inr q.1.1) (.str q.2)) []) (.inr q.1.1) (.str q.2) := by
  rw [List.take_add_one, h, List.foldl_append]
  rfl
theorem fold_len {l : List ((String × Val) × String)} : (l.foldl (fun d q => putK d (.inr q.1.1) (.str q.2)) ([] : List (Key × Val))).length ≤ l.length := by
  have key : ∀ (l : List ((String × Val) × String)) (acc : List (Key × Val)), (l.foldl (fun d q => putK d (.inr q.1.1) (.str q.2)) acc).length ≤ acc.length + l.length := by
    intro l
    induction l with
    | nil => intro acc; simp
    | cons q r ih =>
      intro acc
      have h1 := ih (putK acc (.inr q.1.1) (.str q.2))
      have h2 := putK_len (m := acc) (k := .inr q.1.1) (v := .str q.2)
      simp only [List.foldl_cons, List.length_cons]
      omega
  simpa using key l []
theorem given_by_ok {gs : List (String × Val)} {ps : List String} (hl : gs.length ≤ 10) (hq : Q (.ref S.length) (S ++ [.dic (byD gs ps)])) : callW P (k + 1) (.f "given_by") [.tup (gs.map gvV), .tup (ps.map .str)] S Q X := by
  refine call_open fn_f_given_by ⟨rfl, ?_⟩
  show wSs _ _ _ s3_f_given_by _ _ [some (.tup (gs.map gvV)), some (.tup (ps.map .str)), none, none, none] S
  rw [s3_f_given_by]
  generalize hV : s2_f_given_by = V
  generalize hU : s1_f_given_by = U
  simp only [wSs, wS, wT, wEs, wO, wPs, wC, wSrc, wE_loc, wE_lit, wE_con, wE_bin, wE_neg, wE_cmp, wE_cmp2, wE_isN, wE_notN, wE_isB, wE_not, wE_and, wE_or, wE_ite, wE_tup, wE_lst, wE_dic, wE_call, wE_make, wE_meth, wE_fld, wE_sub, wE_slice, wE_bi, wE_vi, wE_bm, wE_isi, wE_lc, wE_lck, eg, es, Option.some.injEq, exists_eq_left', Lit.val, zipOf, ltOf]
  rw [zl_items]
  simp only [List.foldl_nil]
  refine for_inv (callW_mono P _) (fun i env S' => (∃ x3 x4, env = [some (.tup (gs.map gvV)), some (.tup (ps.map .str)), some (.ref S.length), x3, x4]) ∧ S' = S ++ [.dic (((gs.zip ps).take i).foldl (fun d q => putK d (.inr q.1.1) (.str q.2)) [])]) ?_ ?_ ⟨⟨_, _, rfl⟩, by simp⟩
  · rintro i v env S' hi ⟨⟨x3, x4, rfl⟩, rfl⟩
    rw [List.getElem?_map] at hi
    obtain ⟨q, hi2, rfl⟩ := Option.map_eq_some_iff.mp hi
    refine ⟨⟨trivial, trivial⟩, ?_⟩
    subst hU
    simp only [tgW]
    refine ⟨_, rfl, rfl, ?_⟩
    simp only [List.zip_cons_cons, List.zip_nil_right, List.foldl_cons, List.foldl_nil, es, s1_f_given_by, wSs, wS, wT, wEs, wO, wPs, wC, wSrc, wE_loc, wE_lit, wE_con, wE_bin, wE_neg, wE_cmp, wE_cmp2, wE_isN, wE_notN, wE_isB, wE_not, wE_and, wE_or, wE_ite, wE_tup, wE_lst, wE_dic, wE_call, wE_make, wE_meth, wE_fld, wE_sub, wE_slice, wE_bi, wE_vi, wE_bm, wE_isi, wE_lc, wE_lck, eg, es, Option.some.injEq, exists_eq_left', Lit.val, gvV, tup0]
    have fl := fold_len (l := (gs.zip ps).take i)
    rw [List.length_take, List.length_zip] at fl
    refine setW_dic (q := .inr q.1.1) get_new rfl (by rw [sizeLine_eq]; omega) ?_
    refine ⟨⟨_, _, rfl⟩, ?_⟩
    rw [byD_take hi2]
    simp
  · rintro env S' ⟨⟨x3, x4, rfl⟩, rfl⟩
    refine ⟨⟨trivial, trivial⟩, ?_⟩
    rw [List.length_map, List.take_length]
    subst hV
    simp only [s2_f_given_by, wSs, wS, wT, wEs, wO, wPs, wC, wSrc, wE_loc, wE_lit, wE_con, wE_bin, wE_neg, wE_cmp, wE_cmp2, wE_isN, wE_notN, wE_isB, wE_not, wE_and, wE_or, wE_ite, wE_tup, wE_lst, wE_dic, wE_call, wE_make, wE_meth, wE_fld, wE_sub, wE_slice, wE_bi, wE_vi, wE_bm, wE_isi, wE_lc, wE_lck, eg, es, Option.some.injEq, exists_eq_left', Lit.val]
    exact hq
theorem lby_ok {gs : List (String × Val)} {ps : List String} (hl : gs.length ≤ 10) (hq : Q (.ref S.length) (S ++ [.dic (byD gs ps)])) : callW P (k + 1) (.f "_law_by") [.tup (gs.map gvV), .tup (ps.map .str)] S Q X := by
  refine call_open fn_f_law_by ⟨rfl, ?_⟩
  show wSs _ _ _ s3_f_law_by _ _ [some (.tup (gs.map gvV)), some (.tup (ps.map .str)), none, none, none] S
  rw [s3_f_law_by]
  generalize hV : s2_f_law_by = V
  generalize hU : s1_f_law_by = U
  simp only [wSs, wS, wT, wEs, wO, wPs, wC, wSrc, wE_loc, wE_lit, wE_con, wE_bin, wE_neg, wE_cmp, wE_cmp2, wE_isN, wE_notN, wE_isB, wE_not, wE_and, wE_or, wE_ite, wE_tup, wE_lst, wE_dic, wE_call, wE_make, wE_meth, wE_fld, wE_sub, wE_slice, wE_bi, wE_vi, wE_bm, wE_isi, wE_lc, wE_lck, eg, es, Option.some.injEq, exists_eq_left', Lit.val, zipOf, ltOf]
  rw [zl_items]
  simp only [List.foldl_nil]
  refine for_inv (callW_mono P _) (fun i env S' => (∃ x3 x4, env = [some (.tup (gs.map gvV)), some (.tup (ps.map .str)), some (.ref S.length), x3, x4]) ∧ S' = S ++ [.dic (((gs.zip ps).take i).foldl (fun d q => putK d (.inr q.1.1) (.str q.2)) [])]) ?_ ?_ ⟨⟨_, _, rfl⟩, by simp⟩
  · rintro i v env S' hi ⟨⟨x3, x4, rfl⟩, rfl⟩
    rw [List.getElem?_map] at hi
    obtain ⟨q, hi2, rfl⟩ := Option.map_eq_some_iff.mp hi
    refine ⟨⟨trivial, trivial⟩, ?_⟩
    subst hU
    simp only [tgW]
    refine ⟨_, rfl, rfl, ?_⟩
    simp only [List.zip_cons_cons, List.zip_nil_right, List.foldl_cons, List.foldl_nil, es, s1_f_law_by, wSs, wS, wT, wEs, wO, wPs, wC, wSrc, wE_loc, wE_lit, wE_con, wE_bin, wE_neg, wE_cmp, wE_cmp2, wE_isN, wE_notN, wE_isB, wE_not, wE_and, wE_or, wE_ite, wE_tup, wE_lst, wE_dic, wE_call, wE_make, wE_meth, wE_fld, wE_sub, wE_slice, wE_bi, wE_vi, wE_bm, wE_isi, wE_lc, wE_lck, eg, es, Option.some.injEq, exists_eq_left', Lit.val, gvV, tup0]
    have fl := fold_len (l := (gs.zip ps).take i)
    rw [List.length_take, List.length_zip] at fl
    refine setW_dic (q := .inr q.1.1) get_new rfl (by rw [sizeLine_eq]; omega) ?_
    refine ⟨⟨_, _, rfl⟩, ?_⟩
    rw [byD_take hi2]
    simp
  · rintro env S' ⟨⟨x3, x4, rfl⟩, rfl⟩
    refine ⟨⟨trivial, trivial⟩, ?_⟩
    rw [List.length_map, List.take_length]
    subst hV
    simp only [s2_f_law_by, wSs, wS, wT, wEs, wO, wPs, wC, wSrc, wE_loc, wE_lit, wE_con, wE_bin, wE_neg, wE_cmp, wE_cmp2, wE_isN, wE_notN, wE_isB, wE_not, wE_and, wE_or, wE_ite, wE_tup, wE_lst, wE_dic, wE_call, wE_make, wE_meth, wE_fld, wE_sub, wE_slice, wE_bi, wE_vi, wE_bm, wE_isi, wE_lc, wE_lck, eg, es, Option.some.injEq, exists_eq_left', Lit.val]
    exact hq
def mvF (m : List (Key × Val)) : List String → List String
  | [] => []
  | h :: r => h :: r.map (lkS m)
theorem moved_ref_ok {b : Nat} {m : List (Key × Val)} {f : List String} (hm : BOk m) (hb : S[b]? = some (.dic m)) (hl : f.length ≤ 10) (hf : f ≠ []) (hq : ∀ l, Q (.tup ((mvF m f).map .str)) (S ++ l)) : callW P (k + 1) (.f "moved_reference") [.tup (f.map .str), .ref b] S Q X := by
  refine call_open fn_f_moved_reference ⟨rfl, ?_⟩
  show wSs _ _ _ s1_f_moved_reference _ _ [some (.tup (f.map .str)), some (.ref b), none] S
  cases f with
  | nil => exact absurd rfl hf
  | cons h r =>
    simp only [s1_f_moved_reference, wSs, wS, wT, wEs, wO, wPs, wC, wSrc, wE_loc, wE_lit, wE_con, wE_bin, wE_neg, wE_cmp, wE_cmp2, wE_isN, wE_notN, wE_isB, wE_not, wE_and, wE_or, wE_ite, wE_tup, wE_lst, wE_dic, wE_call, wE_make, wE_meth, wE_fld, wE_sub, wE_slice, wE_bi, wE_vi, wE_bm, wE_isi, wE_lc, wE_lck, eg, es, Option.some.injEq, exists_eq_left', Lit.val, sliceW, seqOf, List.map_cons]
    refine ⟨1, rfl, 1, rfl, ?_⟩
    rw [cut_tl, cut_hd]
    refine lc_gen (guard := fun _ => True) trivial r .str (fun x => .str (lkS m x)) (by simp at hl; omega) (fun q hq1 Q' hQ => ?_) ?_
    · simp only [tgW, ewipe, List.map_cons, List.map_nil, es, wSs, wS, wT, wEs, wO, wPs, wC, wSrc, wE_loc, wE_lit, wE_con, wE_bin, wE_neg, wE_cmp, wE_cmp2, wE_isN, wE_notN, wE_isB, wE_not, wE_and, wE_or, wE_ite, wE_tup, wE_lst, wE_dic, wE_call, wE_make, wE_meth, wE_fld, wE_sub, wE_slice, wE_bi, wE_vi, wE_bm, wE_isi, wE_lc, wE_lck, eg, es, Option.some.injEq, exists_eq_left', Lit.val, bmT, bmW]
      refine ⟨⟨_, _, rfl, hb⟩, m, .inr q, dic_at hb, rfl, ?_⟩
      rw [get_lk hm]
      exact hQ
    simp only [biW, binW]
    refine ⟨_, lst_at get_new, SZ3 (by simp at hl ⊢; omega), ?_⟩
    have := hq [Ob.lst (r.map fun x => Val.str (lkS m x))]
    simp only [mvF, List.map_cons, List.map_map] at this
    exact this
theorem path_kind_ok {x : String} {m : Nat} (hm : m ≤ 2) (hq : Q (pk x m) S) : callW P (k + 1) (.f "path_kind") [.str x, .tup (ltr m)] S Q X := by
  refine call_open fn_f_path_kind ⟨rfl, ?_⟩
  show wSs _ _ _ s3_f_path_kind _ _ [some (.str x), some (.tup (ltr m))] S
  rw [s3_f_path_kind]
  generalize hV : s2_f_path_kind = V
  generalize hU : s1_f_path_kind = U
  simp only [wSs, wS, wT, wEs, wO, wPs, wC, wSrc, wE_loc, wE_lit, wE_con, wE_bin, wE_neg, wE_cmp, wE_cmp2, wE_isN, wE_notN, wE_isB, wE_not, wE_and, wE_or, wE_ite, wE_tup, wE_lst, wE_dic, wE_call, wE_make, wE_meth, wE_fld, wE_sub, wE_slice, wE_bi, wE_vi, wE_bm, wE_isi, wE_lc, wE_lck, eg, es, Option.some.injEq, exists_eq_left', Lit.val, cmpW]
  refine ⟨SZ3 (by simp), eq_emp ltr_isK ?_⟩
  simp only [truth, Option.some.injEq, exists_eq_left']
  have ll := ltr_len hm
  unfold pk at hq
  by_cases h0 : m = 0
  · have e : ltr m = [] := List.eq_nil_of_length_eq_zero (by omega)
    rw [if_pos (by simpa using e)]
    subst hU
    simp only [s1_f_path_kind, wSs, wS, wT, wEs, wO, wPs, wC, wSrc, wE_loc, wE_lit, wE_con, wE_bin, wE_neg, wE_cmp, wE_cmp2, wE_isN, wE_notN, wE_isB, wE_not, wE_and, wE_or, wE_ite, wE_tup, wE_lst, wE_dic, wE_call, wE_make, wE_meth, wE_fld, wE_sub, wE_slice, wE_bi, wE_vi, wE_bm, wE_isi, wE_lc, wE_lck, eg, es, Option.some.injEq, exists_eq_left', Lit.val]
    rw [if_pos h0] at hq
    exact hq
  · have e : ltr m ≠ [] := fun z => by rw [z] at ll; simp at ll; omega
    rw [if_neg (by simpa using e)]
    subst hV
    simp only [s2_f_path_kind, wSs, wS, wT, wEs, wO, wPs, wC, wSrc, wE_loc, wE_lit, wE_con, wE_bin, wE_neg, wE_cmp, wE_cmp2, wE_isN, wE_notN, wE_isB, wE_not, wE_and, wE_or, wE_ite, wE_tup, wE_lst, wE_dic, wE_call, wE_make, wE_meth, wE_fld, wE_sub, wE_slice, wE_bi, wE_vi, wE_bm, wE_isi, wE_lc, wE_lck, eg, es, Option.some.injEq, exists_eq_left', Lit.val, binW]
    rw [if_neg h0] at hq
    exact ⟨SZ3 (by simp), SZ3 (by simp; omega), hq⟩
theorem lpath_ok {nm x : String} {m : Nat} (hm : m ≤ 2) (hl : nm.length + x.length ≤ 500) (hq : Q (pk (nm ++ "." ++ x) m) S) : callW P (k + 1) (.f "_law_path") [.str nm, .str x, .int m] S Q X := by
  refine call_open fn_f_law_path ⟨rfl, ?_⟩
  show wSs _ _ _ s3_f_law_path _ _ [some (.str nm), some (.str x), some (.int m)] S
  rw [s3_f_law_path]
  generalize hV : s2_f_law_path = V
  generalize hU : s1_f_law_path = U
  simp only [wSs, wS, wT, wEs, wO, wPs, wC, wSrc, wE_loc, wE_lit, wE_con, wE_bin, wE_neg, wE_cmp, wE_cmp2, wE_isN, wE_notN, wE_isB, wE_not, wE_and, wE_or, wE_ite, wE_tup, wE_lst, wE_dic, wE_call, wE_make, wE_meth, wE_fld, wE_sub, wE_slice, wE_bi, wE_vi, wE_bm, wE_isi, wE_lc, wE_lck, eg, es, Option.some.injEq, exists_eq_left', Lit.val, cmpW, eqW_int, truth, Option.some.injEq, exists_eq_left']
  have hd1 : ".".length = 1 := by decide
  unfold pk at hq
  by_cases h0 : m = 0
  · rw [if_pos (by simp [h0])]
    subst hU
    simp only [s1_f_law_path, wSs, wS, wT, wEs, wO, wPs, wC, wSrc, wE_loc, wE_lit, wE_con, wE_bin, wE_neg, wE_cmp, wE_cmp2, wE_isN, wE_notN, wE_isB, wE_not, wE_and, wE_or, wE_ite, wE_tup, wE_lst, wE_dic, wE_call, wE_make, wE_meth, wE_fld, wE_sub, wE_slice, wE_bi, wE_vi, wE_bm, wE_isi, wE_lc, wE_lck, eg, es, Option.some.injEq, exists_eq_left', Lit.val, binW]
    rw [if_pos h0] at hq
    exact ⟨SZ3 (by omega), SZ3 (by rw [String.length_append]; omega), hq⟩
  · rw [if_neg (by simp [h0])]
    subst hV
    simp only [s2_f_law_path, wSs, wS, wT, wEs, wO, wPs, wC, wSrc, wE_loc, wE_lit, wE_con, wE_bin, wE_neg, wE_cmp, wE_cmp2, wE_isN, wE_notN, wE_isB, wE_not, wE_and, wE_or, wE_ite, wE_tup, wE_lst, wE_dic, wE_call, wE_make, wE_meth, wE_fld, wE_sub, wE_slice, wE_bi, wE_vi, wE_bm, wE_isi, wE_lc, wE_lck, eg, es, Option.some.injEq, exists_eq_left', Lit.val, binW, sliceW]
    rw [if_neg h0] at hq
    refine ⟨SZ3 (by omega), SZ3 (by rw [String.length_append]; omega), SZ3 (by simp), SZ3 (by simp), m, rfl, ?_⟩
    rw [cut_to]
    have ll := ltr_len hm
    unfold ltr at ll hq
    exact ⟨SZ3 (by simp only [List.length_singleton]; omega), hq⟩
/-! variables -/
theorem gat_app : ∀ (v : Val) (acc : List String), gat v acc = acc ++ (gat v []).filter fun x => !decide (x ∈ acc) := by
  have key : ∀ (n : Nat), (∀ (v : Val), nod v ≤ n → ∀ acc, gat v acc = acc ++ (gat v []).filter fun x => !decide (x ∈ acc)) := by
    intro n
    induction n using Nat.strongRecOn with
    | _ n ih =>
    intro v hn acc
    have str : ∀ s, gat (.str s) acc = acc ++ (gat (.str s) []).filter fun x => !decide (x ∈ acc) := by
      intro s
      rw [gat, gat]
      by_cases hq : qv s = true
      · by_cases hm : s ∈ acc
        · simp [hq, hm]
        · simp [hq, hm]
      · simp [hq]
    cases v with
    | str s => exact str s
    | tup xs =>
      cases xs with
      | nil => simp [gat, gatT]
      | cons h vs =>
        rw [gat_tup, gat_tup]
        rw [nod, nodT] at hn
        have all : ∀ (ws : List Val), nods ws < n → ∀ acc, gats ws acc = acc ++ (gats ws []).filter fun x => !decide (x ∈ acc) := by
          intro ws
          induction ws with
          | nil => intro _ acc; simp [gats]
          | cons w r ih2 =>
            intro hw acc
            rw [nods] at hw
            have np := nod_pos w
            have h1 := ih (nod w) (by omega) w (Nat.le_refl _)
            have h2 := ih2 (by omega)
            rw [gats, gats, h2 (gat w acc), h2 (gat w []), h1 acc, List.filter_append, List.append_assoc]
            congr 2
            rw [List.filter_filter]
            apply List.filter_congr
            intro x _
            by_cases a : x ∈ acc <;> by_cases b : x ∈ gat w [] <;> simp [a, b]
        exact all vs (by omega) acc
    | _ => simp [gat]
  exact fun v acc => key (nod v) v (Nat.le_refl _) acc
theorem notin_ok {n : Nat} {acc : List String} {s : String} {R : Bool → Prop} (h : S[n]? = some (.lst (acc.map .str))) (hq : R (!decide (s ∈ acc))) : cmpW .NotIn (.str s) (.ref n) S R := notin_str h hq
def LV (v : Val) (S : Hm) : Post := fun x S' => ∃ n l, x = .ref n ∧ S' = S ++ l ∧ S'[n]? = some (.lst ((gat v []).map .str))
theorem lvars_ok : ∀ (d : Nat) (v : Val), IsK d v → d ≤ 5 → ∀ (k : Nat) (S : Hm), callW P (k + d + 1) (.f "_law_variables") [v] S (LV v S) noX := by
  intro d
  induction d using Nat.strongRecOn with
  | _ d ih =>
  intro v hv hd k S
  refine call_open (k := k + d) fn_f_law_variables ⟨rfl, ?_⟩
  show wSs _ _ _ s5_f_law_variables _ _ [some v, none, none, none] S
  rw [s5_f_law_variables]
  generalize hV : s4_f_law_variables = V
  generalize hU : s1_f_law_variables = U
  have str : ∀ (s : String) (Y : XS) (D : Mi.Sp), (VQ s ∨ NQ s ∧ 0 < s.length) → Y = (fun c _ S' => noX c S') → D.rt = LV (.str s) S → wSs P.con P.sub (callW P (k + d)) U Y D [some (.str s), none, none, none] S := by
    intro s Y D hs eY eD
    subst hU
    simp only [s1_f_law_variables, wSs, wS, wT, wEs, wO, wPs, wC, wSrc, wE_loc, wE_lit, wE_con, wE_bin, wE_neg, wE_cmp, wE_cmp2, wE_isN, wE_notN, wE_isB, wE_not, wE_and, wE_or, wE_ite, wE_tup, wE_lst, wE_dic, wE_call, wE_make, wE_meth, wE_fld, wE_sub, wE_slice, wE_bi, wE_vi, wE_bm, wE_isi, wE_lc, wE_lck, eg, es, Option.some.injEq, exists_eq_left', Lit.val, bmT, sliceW]
    refine ⟨SZ3 (by simp), ⟨_, rfl⟩, ?_⟩
    simp only [bmW, biW]
    refine ⟨_, rfl, _, lst_at get_new, ?_⟩
    rw [eD]
    rcases gat_s hs (acc := []) with ⟨q, e⟩ | ⟨q, e⟩
    · rw [starts_var q, if_pos rfl, show (1 : Int) = ((1 : Nat) : Int) from rfl, cut_to]
      refine ⟨_, _, rfl, by rw [List.append_assoc], ?_⟩
      rw [get_new, e]
      rfl
    · have q' : Txt.startswith (Str.ofString s) (Str.ofString "?") = false := q
      rw [q', if_neg (by decide), show (0 : Int) = ((0 : Nat) : Int) from rfl, cut_to]
      refine ⟨_, _, rfl, by rw [List.append_assoc], ?_⟩
      rw [get_new, e]
      rfl
  cases hv with
  | @var _ s q =>
    simp only [wSs, wS, wT, wEs, wO, wPs, wC, wSrc, wE_loc, wE_lit, wE_con, wE_bin, wE_neg, wE_cmp, wE_cmp2, wE_isN, wE_notN, wE_isB, wE_not, wE_and, wE_or, wE_ite, wE_tup, wE_lst, wE_dic, wE_call, wE_make, wE_meth, wE_fld, wE_sub, wE_slice, wE_bi, wE_vi, wE_bm, wE_isi, wE_lc, wE_lck, eg, es, Option.some.injEq, exists_eq_left', Lit.val]
    simp [isTy, truth]
    exact str s _ _ (.inl q) rfl rfl
  | @nam _ s q l =>
    simp only [wSs, wS, wT, wEs, wO, wPs, wC, wSrc, wE_loc, wE_lit, wE_con, wE_bin, wE_neg, wE_cmp, wE_cmp2, wE_isN, wE_notN, wE_isB, wE_not, wE_and, wE_or, wE_ite, wE_tup, wE_lst, wE_dic, wE_call, wE_make, wE_meth, wE_fld, wE_sub, wE_slice, wE_bi, wE_vi, wE_bm, wE_isi, wE_lc, wE_lck, eg, es, Option.some.injEq, exists_eq_left', Lit.val]
    simp [isTy, truth]
    exact str s _ _ (.inr ⟨q, l⟩) rfl rfl
  | @tup e h vs q0 l0 hvs hl =>
    simp only [wSs, wS, wT, wEs, wO, wPs, wC, wSrc, wE_loc, wE_lit, wE_con, wE_bin, wE_neg, wE_cmp, wE_cmp2, wE_isN, wE_notN, wE_isB, wE_not, wE_and, wE_or, wE_ite, wE_tup, wE_lst, wE_dic, wE_call, wE_make, wE_meth, wE_fld, wE_sub, wE_slice, wE_bi, wE_vi, wE_bm, wE_isi, wE_lc, wE_lck, eg, es, Option.some.injEq, exists_eq_left', Lit.val]
    simp [isTy, truth]
    subst hV
    rw [s4_f_law_variables]
    generalize hV : s3_f_law_variables = V
    generalize hU : s2_f_law_variables = U
    simp only [wSs, wS, wT, wEs, wO, wPs, wC, wSrc, wE_loc, wE_lit, wE_con, wE_bin, wE_neg, wE_cmp, wE_cmp2, wE_isN, wE_notN, wE_isB, wE_not, wE_and, wE_or, wE_ite, wE_tup, wE_lst, wE_dic, wE_call, wE_make, wE_meth, wE_fld, wE_sub, wE_slice, wE_bi, wE_vi, wE_bm, wE_isi, wE_lc, wE_lck, eg, es, Option.some.injEq, exists_eq_left', Lit.val, sliceW, seqOf]
    refine ⟨SZ3 (by simp), 1, rfl, ?_⟩
    rw [cut_tl]
    have hb : ∀ i, (gats (vs.take i) []).length ≤ 4 ^ 6 := fun i => by
      have h1 := gats_len (vs.take i) []
      have h2 := nods_take (vs := vs) (i := i)
      have h3 := nod_isK (IsK.tup q0 l0 hvs hl)
      rw [nod, nodT] at h3
      have h4 : 4 ^ (e + 1) ≤ 4 ^ 6 := Nat.pow_le_pow_right (by decide) (by omega)
      simp at h1
      omega
    have pw6 : 4 ^ 6 = 4096 := by decide
    refine for_inv (callW_mono P _) (fun i env S' => ∃ g x2 l, env = [some (.tup (.str h :: vs)), some (.ref g), x2, none] ∧ S' = S ++ l ∧ S'[g]? = some (.lst ((gats (vs.take i) []).map .str))) ?_ ?_ ⟨S.length, _, _, rfl, rfl, by rw [get_new]; simp [gats]⟩
    · rintro i w env S' hi ⟨g, x2, l, rfl, rfl, gg⟩
      refine ⟨trivial, ?_⟩
      subst hU
      simp only [tgW, es, s2_f_law_variables, wSs, wS, wT, wEs, wO, wPs, wC, wSrc, wE_loc, wE_lit, wE_con, wE_bin, wE_neg, wE_cmp, wE_cmp2, wE_isN, wE_notN, wE_isB, wE_not, wE_and, wE_or, wE_ite, wE_tup, wE_lst, wE_dic, wE_call, wE_make, wE_meth, wE_fld, wE_sub, wE_slice, wE_bi, wE_vi, wE_bm, wE_isi, wE_lc, wE_lck, eg, es, Option.some.injEq, exists_eq_left', Lit.val]
      refine call_use (lift_to (by omega) (ih e (by omega) w (hvs w (List.mem_of_getElem? hi)) (by omega) k _)) ?_
      rintro _ S2 ⟨n2, l2, rfl, rfl, g2⟩
      have gg2 := get_app (l := l2) gg
      simp only [seqOf]
      refine ⟨_, lst_at g2, ?_⟩
      have hw6 : (gat w []).length ≤ 4 ^ 6 := by
        have h1 := gat_len w []
        have h2 := nod_isK (hvs w (List.mem_of_getElem? hi))
        have h4 : 4 ^ e ≤ 4 ^ 6 := Nat.pow_le_pow_right (by decide) (by omega)
        simp at h1
        omega
      have hb1 := hb i
      refine lcr_inv (callW_mono P _) (fun j acc S' => S' = S ++ l ++ l2 ∧ acc = (((gat w []).take j).filter fun x => !decide (x ∈ gats (vs.take i) [])).map .str) ?_ ?_ ⟨rfl, by simp⟩
      · rintro j v acc S' hj ⟨rfl, rfl⟩
        rw [List.getElem?_map] at hj
        obtain ⟨x, hx, rfl⟩ := Option.map_eq_some_iff.mp hj
        have jl := lt_of_get hx
        refine ⟨lst_at g2, ?_⟩
        simp only [tgW, ewipe, List.map_cons, List.map_nil, es, wSs, wS, wT, wEs, wO, wPs, wC, wSrc, wE_loc, wE_lit, wE_con, wE_bin, wE_neg, wE_cmp, wE_cmp2, wE_isN, wE_notN, wE_isB, wE_not, wE_and, wE_or, wE_ite, wE_tup, wE_lst, wE_dic, wE_call, wE_make, wE_meth, wE_fld, wE_sub, wE_slice, wE_bi, wE_vi, wE_bm, wE_isi, wE_lc, wE_lck, eg, es, Option.some.injEq, exists_eq_left', Lit.val]
        refine notin_ok gg2 ?_
        simp only [truth, Option.some.injEq, exists_eq_left']
        have tk2 : ((gat w []).take (j + 1)).filter (fun x => !decide (x ∈ gats (vs.take i) [])) = ((gat w []).take j).filter (fun x => !decide (x ∈ gats (vs.take i) [])) ++ (if x ∈ gats (vs.take i) [] then [] else [x]) := by
          rw [List.take_add_one, hx, List.filter_append]
          by_cases h : x ∈ gats (vs.take i) [] <;> simp [h]
        rw [tk2]
        have fl := List.length_filter_le (fun x => !decide (x ∈ gats (vs.take i) [])) ((gat w []).take j)
        rw [List.length_take] at fl
        by_cases h : x ∈ gats (vs.take i) []
        · rw [if_neg (by simp [h])]
          simp [h]
        · rw [if_pos (by simp [h])]
          refine ⟨by rw [sizeLine_eq, List.length_map]; omega, by first | rfl | trivial, ?_⟩
          simp [h]
      · rintro acc S' ⟨rfl, rfl⟩
        refine ⟨lst_at g2, ?_⟩
        rw [List.length_map, List.take_length]
        have fl := List.length_filter_le (fun x => !decide (x ∈ gats (vs.take i) [])) (gat w [])
        refine ⟨_, _, get_app gg2, get_new, by rw [sizeLine_eq]; simp; omega, ?_⟩
        refine ⟨_, _, _, rfl, by rw [List.append_assoc, List.append_assoc, List.append_assoc], ?_⟩
        rw [get_new, gats_take hi, gat_app w (gats (vs.take i) []), List.map_append]
    · rintro env S' ⟨g, x2, l, rfl, rfl, gg⟩
      refine ⟨trivial, ?_⟩
      rw [List.take_length] at gg
      subst hV
      simp only [s3_f_law_variables, wSs, wS, wT, wEs, wO, wPs, wC, wSrc, wE_loc, wE_lit, wE_con, wE_bin, wE_neg, wE_cmp, wE_cmp2, wE_isN, wE_notN, wE_isB, wE_not, wE_and, wE_or, wE_ite, wE_tup, wE_lst, wE_dic, wE_call, wE_make, wE_meth, wE_fld, wE_sub, wE_slice, wE_bi, wE_vi, wE_bm, wE_isi, wE_lc, wE_lck, eg, es, Option.some.injEq, exists_eq_left', Lit.val]
      exact ⟨g, l, rfl, rfl, by rw [gat_tup]; exact gg⟩
def schV (v : Val) : Val := .tup [.tup ((gat v []).map .str), v]
theorem scheme_ok {d : Nat} {v : Val} (hv : IsK d v) (hd : d ≤ 5) (hq : ∀ l, Q (schV v) (S ++ l)) : callW P (k + d + 2) (.f "_law_scheme") [v] S Q noX := by
  refine call_open (k := k + d + 1) fn_f_law_scheme ⟨rfl, ?_⟩
  show wSs _ _ _ s1_f_law_scheme _ _ [some v] S
  simp only [s1_f_law_scheme, wSs, wS, wT, wEs, wO, wPs, wC, wSrc, wE_loc, wE_lit, wE_con, wE_bin, wE_neg, wE_cmp, wE_cmp2, wE_isN, wE_notN, wE_isB, wE_not, wE_and, wE_or, wE_ite, wE_tup, wE_lst, wE_dic, wE_call, wE_make, wE_meth, wE_fld, wE_sub, wE_slice, wE_bi, wE_vi, wE_bm, wE_isi, wE_lc, wE_lck, eg, es, Option.some.injEq, exists_eq_left', Lit.val, biW, ltOf]
  refine call_use (lvars_ok d v hv hd k S) ?_
  rintro _ S1 ⟨n, l, rfl, rfl, g⟩
  exact ⟨_, lst_at g, SZ3 (by simp), hq l⟩
end
end K43

set_option maxHeartbeats 4000000
namespace K43
open Mi PySem
def Sm (S S' : Hm) : Prop := S.length ≤ S'.length ∧ ∀ n, n < S.length → S'[n]? = S[n]?
theorem Sm.refl (S : Hm) : Sm S S := ⟨Nat.le_refl _, fun _ _ => rfl⟩
theorem Sm.trans {A B D : Hm} (a : Sm A B) (b : Sm B D) : Sm A D := ⟨Nat.le_trans a.1 b.1, fun n h => (b.2 n (Nat.lt_of_lt_of_le h a.1)).trans (a.2 n h)⟩
theorem Sm.app {S : Hm} (l : Hm) : Sm S (S ++ l) := ⟨by simp, fun n h => List.getElem?_append_left h⟩
theorem Sm.set {S S' : Hm} {n : Nat} {o : Ob} (h : Sm S S') (hn : S.length ≤ n) : Sm S (S'.set n o) := ⟨by simpa using h.1, fun m hm => by rw [get_ne (by omega)]; exact h.2 m hm⟩
theorem Sm.get {S S' : Hm} (h : Sm S S') {n : Nat} {o : Ob} (g : S[n]? = some o) : S'[n]? = some o := (h.2 n (lt_of_get g)).trans g
abbrev HS := List (Key × Val) × List (Key × Val)
def stp (nm : String) (by_ : List (Key × Val)) (q : HS) : It → HS
  | .hide x m => (putK q.1 (.inr x) (.tup [.tup (ltr m), pk (nm ++ "." ++ x) m]), q.2)
  | .val x v => (q.1, putK q.2 (.inr (nm ++ "." ++ x)) (schV (tr by_ q.1 v)))
def shF (nm : String) (by_ : List (Key × Val)) (is : List It) : HS := is.foldl (stp nm by_) ([], [])
theorem shF_take {nm : String} {b : List (Key × Val)} {is : List It} {i : Nat} {it : It} (h : is[i]? = some it) : shF nm b (is.take (i + 1)) = stp nm b (shF nm b (is.take i)) it := by
  unfold shF
  rw [List.take_add_one, h, List.foldl_append]
  rfl
theorem path_ok {nm x : String} (h1 : PW nm) (h2 : PW x) : NQ (nm ++ "." ++ x) ∧ 0 < (nm ++ "." ++ x).length ∧ (nm ++ "." ++ x).length ≤ 100 := by
  obtain ⟨a, b, c, d⟩ := h1
  obtain ⟨a', b', c', d'⟩ := h2
  exact ⟨(a.app NQ.dot).app a', by rw [path_len]; omega, by rw [path_len]; omega⟩
theorem stp_ok {nm : String} {b : List (Key × Val)} (h1 : PW nm) {q : HS} {it : It} (hi : IOk it) (h : HOk q.1) : HOk (stp nm b q it).1 ∧ (stp nm b q it).1.length ≤ q.1.length + 1 ∧ (stp nm b q it).2.length ≤ q.2.length + 1 := by
  cases it with
  | hide x m =>
    obtain ⟨p1, p2, p3⟩ := path_ok h1 hi.1
    refine ⟨fun kv hk => ?_, putK_len, Nat.le_succ _⟩
    rcases putK_mem hk with z | z
    · exact h kv z
    · exact ⟨x, m, _, z, hi.2, p1, p2, p3⟩
  | val x v => exact ⟨h, Nat.le_succ _, putK_len⟩
theorem shF_ok {nm : String} {b : List (Key × Val)} (h1 : PW nm) {is : List It} (hi : ∀ x ∈ is, IOk x) : ∀ i, HOk (shF nm b (is.take i)).1 ∧ (shF nm b (is.take i)).1.length ≤ i ∧ (shF nm b (is.take i)).2.length ≤ i := by
  intro i
  induction i with
  | zero => exact ⟨by intro kv h; simp [shF] at h, by simp [shF], by simp [shF]⟩
  | succ i ih =>
    cases e : is[i]? with
    | none =>
      have hl : is.length ≤ i := by simpa using e
      rw [List.take_of_length_le (by omega)]
      rw [List.take_of_length_le hl] at ih
      exact ⟨ih.1, by omega, by omega⟩
    | some it =>
      rw [shF_take e]
      obtain ⟨a, c, d⟩ := stp_ok (nm := nm) (b := b) h1 (hi it (List.mem_of_getElem? e)) ih.1
      exact ⟨a, by omega, by omega⟩
def flF (fo mk wa : Nat) : List (String × Val) := [("forms", .ref fo), ("makers", .ref mk), ("wanted", .ref wa)]
section
variable {k : Nat} {S S' : Hm} {X : XPost} {Q : Post}
def pgEnv (o : Nat) (nm : String) (fm : Val) (bp hp sp : Nat) (x6 x7 x8 x9 x10 x11 x12 : Option Val) : Mi.Env := [some (.ref o), some (.str nm), some fm, some (.ref bp), some (.ref hp), some (.ref sp), x6, x7, x8, x9, x10, x11, x12]
theorem cutm {m : Nat} : cut [Val.str "?a", .str "?b"] none (some (m : Int)) = ltr m := by rw [cut_to]; rfl
theorem prog_it {o bp hp sp i : Nat} {nm : String} {fm : Val} {b : List (Key × Val)} {q : HS} {it : It} {x6 x7 x8 x9 x10 x11 x12 : Option Val} {D : Mi.Sp} (hnm : PW nm) (hi : IOk it) (hb : BOk b) (hh : HOk q.1) (l1 : q.1.length ≤ 100) (l2 : q.2.length ≤ 100) (gb : S[bp]? = some (.dic b)) (gh : S[hp]? = some (.dic q.1)) (gs : S[sp]? = some (.dic q.2)) (hne : hp ≠ sp ∧ hp ≠ bp ∧ sp ≠ bp)
    (hq : ∀ x8 x9 x10 x11 x12 S1, Sm S S1 → ∀ S2, (S2 = S1.set hp (.dic (stp nm b q it).1) ∨ S2 = S1.set sp (.dic (stp nm b q it).2)) → S2[hp]? = some (.dic (stp nm b q it).1) → S2[sp]? = some (.dic (stp nm b q it).2) → S2[bp]? = some (.dic b) → D.nx (pgEnv o nm fm bp hp sp x6 x7 x8 x9 x10 x11 x12) S2) :
    tgW (.tp [8, 9, 10]) it.enc (pgEnv o nm fm bp hp sp x6 x7 x8 x9 x10 x11 x12) fun env2 => wSs P.con P.sub (callW P (k + 8)) s4_m_Faces_shown_as (fun c _ S' => noX c S') D env2 S := by
  cases it with
  | hide x m =>
    obtain ⟨p1, p2, p3⟩ := path_ok hnm hi.1
    have l3 : nm.length + x.length ≤ 100 := by rw [path_len] at p3; omega
    have hd1 : ".".length = 1 := by decide
    simp only [It.enc, tgW]
    refine ⟨_, rfl, rfl, ?_⟩
    simp only [List.zip_cons_cons, List.zip_nil_right, List.foldl_cons, List.foldl_nil, pgEnv, es]
    rw [s4_m_Faces_shown_as]
    generalize hU1 : s1_m_Faces_shown_as = U1
    generalize hU3 : s3_m_Faces_shown_as = U3
    simp only [wSs, wS, wT, wEs, wO, wPs, wC, wSrc, wE_loc, wE_lit, wE_con, wE_bin, wE_neg, wE_cmp, wE_cmp2, wE_isN, wE_notN, wE_isB, wE_not, wE_and, wE_or, wE_ite, wE_tup, wE_lst, wE_dic, wE_call, wE_make, wE_meth, wE_fld, wE_sub, wE_slice, wE_bi, wE_vi, wE_bm, wE_isi, wE_lc, wE_lck, eg, es, Option.some.injEq, exists_eq_left', Lit.val, cmpW, eqW_str, truth, Option.some.injEq, exists_eq_left']
    rw [if_pos (by decide)]
    subst hU1
    simp only [s1_m_Faces_shown_as, wSs, wS, wT, wEs, wO, wPs, wC, wSrc, wE_loc, wE_lit, wE_con, wE_bin, wE_neg, wE_cmp, wE_cmp2, wE_isN, wE_notN, wE_isB, wE_not, wE_and, wE_or, wE_ite, wE_tup, wE_lst, wE_dic, wE_call, wE_make, wE_meth, wE_fld, wE_sub, wE_slice, wE_bi, wE_vi, wE_bm, wE_isi, wE_lc, wE_lck, eg, es, Option.some.injEq, exists_eq_left', Lit.val, sliceW]
    refine ⟨SZ3 (by simp), m, rfl, ?_⟩
    rw [cutm]
    simp only [binW]
    refine ⟨SZ3 (by omega), SZ3 (by rw [String.length_append]; omega), ?_⟩
    refine path_kind_ok (k := k + 7) hi.2 ⟨SZ3 (by simp), ?_⟩
    refine setW_dic (q := .inr x) gh rfl (by rw [sizeLine_eq]; omega) ?_
    have := hq (some (.str "hide")) (some (.str x)) (some (.int m)) (some (.tup (ltr m))) x12 S (Sm.refl _)
    exact this _ (.inl rfl) (by rw [get_set, gh]; rfl) (by rw [get_ne (Ne.symm hne.1)]; exact gs) (by rw [get_ne (Ne.symm hne.2.1)]; exact gb)
  | val x v =>
    obtain ⟨p1, p2, p3⟩ := path_ok hnm hi.1
    have l3 : nm.length + x.length ≤ 100 := by rw [path_len] at p3; omega
    have hd1 : ".".length = 1 := by decide
    simp only [It.enc, tgW]
    refine ⟨_, rfl, rfl, ?_⟩
    simp only [List.zip_cons_cons, List.zip_nil_right, List.foldl_cons, List.foldl_nil, pgEnv, es]
    rw [s4_m_Faces_shown_as]
    generalize hU1 : s1_m_Faces_shown_as = U1
    generalize hU3 : s3_m_Faces_shown_as = U3
    simp only [wSs, wS, wT, wEs, wO, wPs, wC, wSrc, wE_loc, wE_lit, wE_con, wE_bin, wE_neg, wE_cmp, wE_cmp2, wE_isN, wE_notN, wE_isB, wE_not, wE_and, wE_or, wE_ite, wE_tup, wE_lst, wE_dic, wE_call, wE_make, wE_meth, wE_fld, wE_sub, wE_slice, wE_bi, wE_vi, wE_bm, wE_isi, wE_lc, wE_lck, eg, es, Option.some.injEq, exists_eq_left', Lit.val, cmpW, eqW_str, truth, Option.some.injEq, exists_eq_left']
    rw [if_neg (by decide)]
    subst hU3
    rw [s3_m_Faces_shown_as]
    generalize hV : s2_m_Faces_shown_as = V
    simp only [wSs, wS, wT, wEs, wO, wPs, wC, wSrc, wE_loc, wE_lit, wE_con, wE_bin, wE_neg, wE_cmp, wE_cmp2, wE_isN, wE_notN, wE_isB, wE_not, wE_and, wE_or, wE_ite, wE_tup, wE_lst, wE_dic, wE_call, wE_make, wE_meth, wE_fld, wE_sub, wE_slice, wE_bi, wE_vi, wE_bm, wE_isi, wE_lc, wE_lck, eg, es, Option.some.injEq, exists_eq_left', Lit.val]
    refine call_use (lift_to (by omega) (unfolded_ok hb hh 3 v hi.2 (by decide) (k + 1) S gb gh)) ?_
    rintro _ S1 ⟨rfl, l, rfl⟩
    subst hV
    simp only [s2_m_Faces_shown_as, wSs, wS, wT, wEs, wO, wPs, wC, wSrc, wE_loc, wE_lit, wE_con, wE_bin, wE_neg, wE_cmp, wE_cmp2, wE_isN, wE_notN, wE_isB, wE_not, wE_and, wE_or, wE_ite, wE_tup, wE_lst, wE_dic, wE_call, wE_make, wE_meth, wE_fld, wE_sub, wE_slice, wE_bi, wE_vi, wE_bm, wE_isi, wE_lc, wE_lck, eg, es, Option.some.injEq, exists_eq_left', Lit.val, binW, biW, ltOf]
    have ik : IsK 4 (tr b q.1 v) := tr_isK hb hh hi.2
    refine call_use (lift_to (by omega) (variables_ok (k := k + 1) ik (by decide) rfl)) ?_
    rintro _ S2 ⟨rfl, g2, l2', k2⟩
    refine ⟨_, lst_at g2, SZ3 (by simp), SZ3 (by omega), SZ3 (by rw [String.length_append]; omega), ?_⟩
    have sm : Sm S S2 := (Sm.app l).trans ⟨Nat.le_of_lt l2', k2⟩
    have gs2 := sm.get gs
    refine setW_dic (q := .inr (nm ++ "." ++ x)) gs2 rfl (by rw [sizeLine_eq]; omega) ?_
    exact hq _ _ _ _ _ S2 sm _ (.inr rfl) (by rw [get_ne hne.1]; exact sm.get gh) (by rw [get_set, gs2]; rfl) (by rw [get_ne (Ne.symm hne.2.2)]; exact sm.get gb)
theorem law_it {fa bp hp sp i : Nat} {nm : String} {fm : Val} {b : List (Key × Val)} {q : HS} {it : It} {x6 x7 x8 x9 x10 : Option Val} {D : Mi.Sp} (hnm : PW nm) (hi : IOk it) (hb : BOk b) (hh : HOk q.1) (l1 : q.1.length ≤ 100) (l2 : q.2.length ≤ 100) (gb : S[bp]? = some (.dic b)) (gh : S[hp]? = some (.dic q.1)) (gs : S[sp]? = some (.dic q.2)) (hne : hp ≠ sp ∧ hp ≠ bp ∧ sp ≠ bp)
    (hq : ∀ x8 x9 x10 S1, Sm S S1 → ∀ S2, (S2 = S1.set hp (.dic (stp nm b q it).1) ∨ S2 = S1.set sp (.dic (stp nm b q it).2)) → S2[hp]? = some (.dic (stp nm b q it).1) → S2[sp]? = some (.dic (stp nm b q it).2) → S2[bp]? = some (.dic b) → D.nx [some (.ref fa), some (.str nm), some fm, some (.ref bp), some (.ref hp), some (.ref sp), x6, x7, x8, x9, x10] S2) :
    tgW (.tp [8, 9, 10]) it.enc [some (.ref fa), some (.str nm), some fm, some (.ref bp), some (.ref hp), some (.ref sp), x6, x7, x8, x9, x10] fun env2 => wSs P.con P.sub (callW P (k + 8)) s3_f_law_shown (fun c _ S' => noX c S') D env2 S := by
  cases it with
  | hide x m =>
    obtain ⟨p1, p2, p3⟩ := path_ok hnm hi.1
    have l3 : nm.length + x.length ≤ 100 := by rw [path_len] at p3; omega
    have hd1 : ".".length = 1 := by decide
    simp only [It.enc, tgW]
    refine ⟨_, rfl, rfl, ?_⟩
    simp only [List.zip_cons_cons, List.zip_nil_right, List.foldl_cons, List.foldl_nil, es]
    rw [s3_f_law_shown]
    generalize hU1 : s1_f_law_shown = U1
    generalize hU3 : s2_f_law_shown = U3
    simp only [wSs, wS, wT, wEs, wO, wPs, wC, wSrc, wE_loc, wE_lit, wE_con, wE_bin, wE_neg, wE_cmp, wE_cmp2, wE_isN, wE_notN, wE_isB, wE_not, wE_and, wE_or, wE_ite, wE_tup, wE_lst, wE_dic, wE_call, wE_make, wE_meth, wE_fld, wE_sub, wE_slice, wE_bi, wE_vi, wE_bm, wE_isi, wE_lc, wE_lck, eg, es, Option.some.injEq, exists_eq_left', Lit.val, cmpW, eqW_str, truth, Option.some.injEq, exists_eq_left']
    rw [if_pos (by decide)]
    subst hU1
    simp only [s1_f_law_shown, wSs, wS, wT, wEs, wO, wPs, wC, wSrc, wE_loc, wE_lit, wE_con, wE_bin, wE_neg, wE_cmp, wE_cmp2, wE_isN, wE_notN, wE_isB, wE_not, wE_and, wE_or, wE_ite, wE_tup, wE_lst, wE_dic, wE_call, wE_make, wE_meth, wE_fld, wE_sub, wE_slice, wE_bi, wE_vi, wE_bm, wE_isi, wE_lc, wE_lck, eg, es, Option.some.injEq, exists_eq_left', Lit.val, sliceW]
    refine ⟨SZ3 (by simp), m, rfl, ?_⟩
    rw [cutm]
    refine lpath_ok (k := k + 7) hi.2 (by omega) ⟨SZ3 (by simp), ?_⟩
    refine setW_dic (q := .inr x) gh rfl (by rw [sizeLine_eq]; omega) ?_
    exact hq (some (.str "hide")) (some (.str x)) (some (.int m)) S (Sm.refl _) _ (.inl rfl) (by rw [get_set, gh]; rfl) (by rw [get_ne (Ne.symm hne.1)]; exact gs) (by rw [get_ne (Ne.symm hne.2.1)]; exact gb)
  | val x v =>
    obtain ⟨p1, p2, p3⟩ := path_ok hnm hi.1
    have l3 : nm.length + x.length ≤ 100 := by rw [path_len] at p3; omega
    have hd1 : ".".length = 1 := by decide
    simp only [It.enc, tgW]
    refine ⟨_, rfl, rfl, ?_⟩
    simp only [List.zip_cons_cons, List.zip_nil_right, List.foldl_cons, List.foldl_nil, es]
    rw [s3_f_law_shown]
    generalize hU1 : s1_f_law_shown = U1
    generalize hU3 : s2_f_law_shown = U3
    simp only [wSs, wS, wT, wEs, wO, wPs, wC, wSrc, wE_loc, wE_lit, wE_con, wE_bin, wE_neg, wE_cmp, wE_cmp2, wE_isN, wE_notN, wE_isB, wE_not, wE_and, wE_or, wE_ite, wE_tup, wE_lst, wE_dic, wE_call, wE_make, wE_meth, wE_fld, wE_sub, wE_slice, wE_bi, wE_vi, wE_bm, wE_isi, wE_lc, wE_lck, eg, es, Option.some.injEq, exists_eq_left', Lit.val, cmpW, eqW_str, truth, Option.some.injEq, exists_eq_left']
    rw [if_neg (by decide)]
    subst hU3
    simp only [s2_f_law_shown, wSs, wS, wT, wEs, wO, wPs, wC, wSrc, wE_loc, wE_lit, wE_con, wE_bin, wE_neg, wE_cmp, wE_cmp2, wE_isN, wE_notN, wE_isB, wE_not, wE_and, wE_or, wE_ite, wE_tup, wE_lst, wE_dic, wE_call, wE_make, wE_meth, wE_fld, wE_sub, wE_slice, wE_bi, wE_vi, wE_bm, wE_isi, wE_lc, wE_lck, eg, es, Option.some.injEq, exists_eq_left', Lit.val, binW]
    refine call_use (lift_to (by omega) (lturned_ok hb hh 3 v hi.2 (by decide) (k + 1) S gb gh)) ?_
    rintro _ S1 ⟨rfl, l, rfl⟩
    have ik : IsK 4 (tr b q.1 v) := tr_isK hb hh hi.2
    refine lift_to (by omega) (scheme_ok (k := k + 2) ik (by decide) fun l2 => ?_)
    refine ⟨SZ3 (by omega), SZ3 (by rw [String.length_append]; omega), ?_⟩
    have sm : Sm S (S ++ l ++ l2) := (Sm.app l).trans (Sm.app l2)
    have gs2 := sm.get gs
    refine setW_dic (q := .inr (nm ++ "." ++ x)) gs2 rfl (by rw [sizeLine_eq]; omega) ?_
    exact hq _ _ _ _ sm _ (.inr rfl) (by rw [get_ne hne.1]; exact sm.get gh) (by rw [get_set, gs2]; rfl) (by rw [get_ne (Ne.symm hne.2.2)]; exact sm.get gb)
end
end K43

set_option maxHeartbeats 4000000
namespace K43
open Mi PySem
section
variable {k : Nat} {S S' : Hm} {X : XPost} {Q : Post}
theorem shown_ok {o fo mk wa : Nat} {nm h : String} {ps : List String} {fd : List (Key × Val)} {gs : List (String × Val)} {is : List It} (hnm : PW nm) (ho : S[o]? = some (.ins "Faces" (flF fo mk wa))) (hf : S[fo]? = some (.dic fd)) (hps : ∀ x ∈ ps, PW x) (hpl : ps.length ≤ 5) (hlk : lookK fd (.inr h) = some (.tup [.tup (gs.map gvV), .tup (is.map It.enc)])) (hgl : gs.length ≤ 10) (hi : ∀ x ∈ is, IOk x) (hil : is.length ≤ 25)
    (hq : ∀ n S', S'[n]? = some (.dic (shF nm (byD gs ps) is).2) → S.length ≤ n → Sm S S' → Q (.ref n) S') : callW P (k + 9) (.m "Faces" "shown_as") [.ref o, .str nm, .tup (.str h :: ps.map .str)] S Q noX := by
  refine call_openM (k := k + 8) fn_m_Faces_shown_as (by decide) ⟨rfl, ?_⟩
  show wSs _ _ _ s7_m_Faces_shown_as _ _ [some (.ref o), some (.str nm), some (.tup (.str h :: ps.map .str)), none, none, none, none, none, none, none, none, none, none] S
  rw [s7_m_Faces_shown_as]
  generalize hV : s6_m_Faces_shown_as = V
  simp only [wSs, wS, wT, wEs, wO, wPs, wC, wSrc, wE_loc, wE_lit, wE_con, wE_bin, wE_neg, wE_cmp, wE_cmp2, wE_isN, wE_notN, wE_isB, wE_not, wE_and, wE_or, wE_ite, wE_tup, wE_lst, wE_dic, wE_call, wE_make, wE_meth, wE_fld, wE_sub, wE_slice, wE_bi, wE_vi, wE_bm, wE_isi, wE_lc, wE_lck, eg, es, Option.some.injEq, exists_eq_left', Lit.val, sliceW, tup0]
  refine ⟨_, _, _, _, rfl, ho, rfl, ?_⟩
  refine subW_dic (q := .inr h) hf rfl hlk ⟨_, rfl, rfl, ?_⟩
  simp only [List.zip_cons_cons, List.zip_nil_right, List.foldl_cons, List.foldl_nil, es, wSs, wS, wT, wEs, wO, wPs, wC, wSrc, wE_loc, wE_lit, wE_con, wE_bin, wE_neg, wE_cmp, wE_cmp2, wE_isN, wE_notN, wE_isB, wE_not, wE_and, wE_or, wE_ite, wE_tup, wE_lst, wE_dic, wE_call, wE_make, wE_meth, wE_fld, wE_sub, wE_slice, wE_bi, wE_vi, wE_bm, wE_isi, wE_lc, wE_lck, eg, es, Option.some.injEq, exists_eq_left', Lit.val]
  refine ⟨1, rfl, ?_⟩
  rw [cut_tl]
  refine given_by_ok (k := k + 7) hgl ?_
  have gb : (S ++ [Ob.dic (byD gs ps)])[S.length]? = some (.dic (byD gs ps)) := get_new
  have m1 : Sm S (S ++ [Ob.dic (byD gs ps)]) := Sm.app _
  have hb : BOk (byD gs ps) := by_ok hps
  have e1 : (S ++ [Ob.dic (byD gs ps)]).length = S.length + 1 := by simp
  generalize S ++ [Ob.dic (byD gs ps)] = S1 at gb m1 e1 ⊢
  subst hV
  rw [s6_m_Faces_shown_as]
  generalize hV : s5_m_Faces_shown_as = V
  generalize hU : s4_m_Faces_shown_as = U
  simp only [wSs, wS, wT, wEs, wO, wPs, wC, wSrc, wE_loc, wE_lit, wE_con, wE_bin, wE_neg, wE_cmp, wE_cmp2, wE_isN, wE_notN, wE_isB, wE_not, wE_and, wE_or, wE_ite, wE_tup, wE_lst, wE_dic, wE_call, wE_make, wE_meth, wE_fld, wE_sub, wE_slice, wE_bi, wE_vi, wE_bm, wE_isi, wE_lc, wE_lck, eg, es, Option.some.injEq, exists_eq_left', Lit.val, seqOf, List.foldl_nil]
  have e2 : (S1 ++ [Ob.dic []]).length = S.length + 2 := by simp [e1]
  have gh : (S1 ++ [Ob.dic []] ++ [Ob.dic []])[S.length + 1]? = some (.dic []) := by
    have := get_app (l := [Ob.dic []]) (get_new (S := S1) (o := Ob.dic []))
    rw [e1] at this
    exact this
  have gs2 : (S1 ++ [Ob.dic []] ++ [Ob.dic []])[S.length + 2]? = some (.dic []) := by
    have := get_new (S := S1 ++ [Ob.dic []]) (o := Ob.dic [])
    rw [e2] at this
    exact this
  have gb2 := get_app (l := [Ob.dic []]) (get_app (l := [Ob.dic []]) gb)
  have m2 : Sm S (S1 ++ [Ob.dic []] ++ [Ob.dic []]) := m1.trans ((Sm.app _).trans (Sm.app _))
  rw [e1, e2]
  generalize S1 ++ [Ob.dic []] ++ [Ob.dic []] = S2 at gh gs2 gb2 m2 ⊢
  refine for_inv (callW_mono P _) (fun i env S' => (∃ x8 x9 x10 x11 x12, env = pgEnv o nm (.tup (.str h :: ps.map .str)) S.length (S.length + 1) (S.length + 2) (some (.tup (gs.map gvV))) (some (.tup (is.map It.enc))) x8 x9 x10 x11 x12) ∧ S'[S.length]? = some (.dic (byD gs ps)) ∧ S'[S.length + 1]? = some (.dic (shF nm (byD gs ps) (is.take i)).1) ∧ S'[S.length + 2]? = some (.dic (shF nm (byD gs ps) (is.take i)).2) ∧ Sm S S') ?_ ?_ ⟨⟨_, _, _, _, _, rfl⟩, gb2, by simpa [shF] using gh, by simpa [shF] using gs2, m2⟩
  · rintro i v env S' hi2 ⟨⟨x8, x9, x10, x11, x12, rfl⟩, g1, g2, g3, m3⟩
    rw [List.getElem?_map] at hi2
    obtain ⟨it, hi3, rfl⟩ := Option.map_eq_some_iff.mp hi2
    have il := lt_of_get hi3
    obtain ⟨a, c, d⟩ := shF_ok (b := byD gs ps) hnm hi i
    refine ⟨trivial, ?_⟩
    subst hU
    refine prog_it (k := k) (i := i) hnm (hi it (List.mem_of_getElem? hi3)) hb a (by omega) (by omega) g1 g2 g3 ⟨by omega, by omega, by omega⟩ fun y8 y9 y10 y11 y12 S1 sm S2 hS2 q1 q2 q3 => ?_
    rw [shF_take hi3]
    refine ⟨⟨_, _, _, _, _, rfl⟩, q3, q1, q2, ?_⟩
    rcases hS2 with rfl | rfl
    · exact (m3.trans sm).set (by omega)
    · exact (m3.trans sm).set (by omega)
  · rintro env S' ⟨⟨x8, x9, x10, x11, x12, rfl⟩, g1, g2, g3, m3⟩
    refine ⟨trivial, ?_⟩
    rw [List.length_map, List.take_length] at g3
    subst hV
    simp only [s5_m_Faces_shown_as, pgEnv, wSs, wS, wT, wEs, wO, wPs, wC, wSrc, wE_loc, wE_lit, wE_con, wE_bin, wE_neg, wE_cmp, wE_cmp2, wE_isN, wE_notN, wE_isB, wE_not, wE_and, wE_or, wE_ite, wE_tup, wE_lst, wE_dic, wE_call, wE_make, wE_meth, wE_fld, wE_sub, wE_slice, wE_bi, wE_vi, wE_bm, wE_isi, wE_lc, wE_lck, eg, es, Option.some.injEq, exists_eq_left', Lit.val]
    exact hq _ S' g3 (by omega) m3
theorem lshown_ok {fa : Nat} {nm h : String} {ps : List String} {fd : List (Key × Val)} {gs : List (String × Val)} {is : List It} (hnm : PW nm) (hf : S[fa]? = some (.dic fd)) (hps : ∀ x ∈ ps, PW x) (hpl : ps.length ≤ 5) (hlk : lookK fd (.inr h) = some (.tup [.tup (gs.map gvV), .tup (is.map It.enc)])) (hgl : gs.length ≤ 10) (hi : ∀ x ∈ is, IOk x) (hil : is.length ≤ 25)
    (hq : ∀ n S', S'[n]? = some (.dic (shF nm (byD gs ps) is).2) → S.length ≤ n → Sm S S' → Q (.ref n) S') : callW P (k + 9) (.f "_law_shown") [.ref fa, .str nm, .tup (.str h :: ps.map .str)] S Q noX := by
  refine call_open (k := k + 8) fn_f_law_shown ⟨rfl, ?_⟩
  show wSs _ _ _ s6_f_law_shown _ _ [some (.ref fa), some (.str nm), some (.tup (.str h :: ps.map .str)), none, none, none, none, none, none, none, none] S
  rw [s6_f_law_shown]
  generalize hV : s5_f_law_shown = V
  simp only [wSs, wS, wT, wEs, wO, wPs, wC, wSrc, wE_loc, wE_lit, wE_con, wE_bin, wE_neg, wE_cmp, wE_cmp2, wE_isN, wE_notN, wE_isB, wE_not, wE_and, wE_or, wE_ite, wE_tup, wE_lst, wE_dic, wE_call, wE_make, wE_meth, wE_fld, wE_sub, wE_slice, wE_bi, wE_vi, wE_bm, wE_isi, wE_lc, wE_lck, eg, es, Option.some.injEq, exists_eq_left', Lit.val, sliceW, tup0]
  refine subW_dic (q := .inr h) hf rfl hlk ⟨_, rfl, rfl, ?_⟩
  simp only [List.zip_cons_cons, List.zip_nil_right, List.foldl_cons, List.foldl_nil, es, wSs, wS, wT, wEs, wO, wPs, wC, wSrc, wE_loc, wE_lit, wE_con, wE_bin, wE_neg, wE_cmp, wE_cmp2, wE_isN, wE_notN, wE_isB, wE_not, wE_and, wE_or, wE_ite, wE_tup, wE_lst, wE_dic, wE_call, wE_make, wE_meth, wE_fld, wE_sub, wE_slice, wE_bi, wE_vi, wE_bm, wE_isi, wE_lc, wE_lck, eg, es, Option.some.injEq, exists_eq_left', Lit.val]
  refine ⟨1, rfl, ?_⟩
  rw [cut_tl]
  refine lby_ok (k := k + 7) hgl ?_
  have gb : (S ++ [Ob.dic (byD gs ps)])[S.length]? = some (.dic (byD gs ps)) := get_new
  have m1 : Sm S (S ++ [Ob.dic (byD gs ps)]) := Sm.app _
  have hb : BOk (byD gs ps) := by_ok hps
  have e1 : (S ++ [Ob.dic (byD gs ps)]).length = S.length + 1 := by simp
  generalize S ++ [Ob.dic (byD gs ps)] = S1 at gb m1 e1 ⊢
  subst hV
  rw [s5_f_law_shown]
  generalize hV : s4_f_law_shown = V
  generalize hU : s3_f_law_shown = U
  simp only [wSs, wS, wT, wEs, wO, wPs, wC, wSrc, wE_loc, wE_lit, wE_con, wE_bin, wE_neg, wE_cmp, wE_cmp2, wE_isN, wE_notN, wE_isB, wE_not, wE_and, wE_or, wE_ite, wE_tup, wE_lst, wE_dic, wE_call, wE_make, wE_meth, wE_fld, wE_sub, wE_slice, wE_bi, wE_vi, wE_bm, wE_isi, wE_lc, wE_lck, eg, es, Option.some.injEq, exists_eq_left', Lit.val, seqOf, List.foldl_nil]
  have e2 : (S1 ++ [Ob.dic []]).length = S.length + 2 := by simp [e1]
  have gh : (S1 ++ [Ob.dic []] ++ [Ob.dic []])[S.length + 1]? = some (.dic []) := by
    have := get_app (l := [Ob.dic []]) (get_new (S := S1) (o := Ob.dic []))
    rw [e1] at this
    exact this
  have gs2 : (S1 ++ [Ob.dic []] ++ [Ob.dic []])[S.length + 2]? = some (.dic []) := by
    have := get_new (S := S1 ++ [Ob.dic []]) (o := Ob.dic [])
    rw [e2] at this
    exact this
  have gb2 := get_app (l := [Ob.dic []]) (get_app (l := [Ob.dic []]) gb)
  have m2 : Sm S (S1 ++ [Ob.dic []] ++ [Ob.dic []]) := m1.trans ((Sm.app _).trans (Sm.app _))
  rw [e1, e2]
  generalize S1 ++ [Ob.dic []] ++ [Ob.dic []] = S2 at gh gs2 gb2 m2 ⊢
  refine for_inv (callW_mono P _) (fun i env S' => (∃ x8 x9 x10, env = [some (.ref fa), some (.str nm), some (.tup (.str h :: ps.map .str)), some (.ref S.length), some (.ref (S.length + 1)), some (.ref (S.length + 2)), some (.tup (gs.map gvV)), some (.tup (is.map It.enc)), x8, x9, x10]) ∧ S'[S.length]? = some (.dic (byD gs ps)) ∧ S'[S.length + 1]? = some (.dic (shF nm (byD gs ps) (is.take i)).1) ∧ S'[S.length + 2]? = some (.dic (shF nm (byD gs ps) (is.take i)).2) ∧ Sm S S') ?_ ?_ ⟨⟨_, _, _, rfl⟩, gb2, by simpa [shF] using gh, by simpa [shF] using gs2, m2⟩
  · rintro i v env S' hi2 ⟨⟨x8, x9, x10, rfl⟩, g1, g2, g3, m3⟩
    rw [List.getElem?_map] at hi2
    obtain ⟨it, hi3, rfl⟩ := Option.map_eq_some_iff.mp hi2
    have il := lt_of_get hi3
    obtain ⟨a, c, d⟩ := shF_ok (b := byD gs ps) hnm hi i
    refine ⟨trivial, ?_⟩
    subst hU
    refine law_it (k := k) (i := i) hnm (hi it (List.mem_of_getElem? hi3)) hb a (by omega) (by omega) g1 g2 g3 ⟨by omega, by omega, by omega⟩ fun y8 y9 y10 S1 sm S2 hS2 q1 q2 q3 => ?_
    rw [shF_take hi3]
    refine ⟨⟨_, _, _, rfl⟩, q3, q1, q2, ?_⟩
    rcases hS2 with rfl | rfl
    · exact (m3.trans sm).set (by omega)
    · exact (m3.trans sm).set (by omega)
  · rintro env S' ⟨⟨x8, x9, x10, rfl⟩, g1, g2, g3, m3⟩
    refine ⟨trivial, ?_⟩
    rw [List.length_map, List.take_length] at g3
    subst hV
    simp only [s4_f_law_shown, wSs, wS, wT, wEs, wO, wPs, wC, wSrc, wE_loc, wE_lit, wE_con, wE_bin, wE_neg, wE_cmp, wE_cmp2, wE_isN, wE_notN, wE_isB, wE_not, wE_and, wE_or, wE_ite, wE_tup, wE_lst, wE_dic, wE_call, wE_make, wE_meth, wE_fld, wE_sub, wE_slice, wE_bi, wE_vi, wE_bm, wE_isi, wE_lc, wE_lck, eg, es, Option.some.injEq, exists_eq_left', Lit.val]
    exact hq _ S' g3 (by omega) m3
end
/-! dicts compared -/
theorem putK_keys {m : List (Key × Val)} {k : Key} {v : Val} (h : (m.map (·.1)).Nodup) : ((putK m k v).map (·.1)).Nodup := by
  unfold putK
  split
  · rw [List.map_map]
    have : ((fun x : Key × Val => x.1) ∘ fun kv : Key × Val => if kv.1 = k then (kv.1, v) else kv) = fun x => x.1 := by
      funext x
      simp only [Function.comp]
      split <;> rfl
    rw [this]
    exact h
  · rename_i hn
    rw [List.map_append, List.nodup_append]
    refine ⟨h, by simp, fun a ha b hb e => ?_⟩
    simp at hb
    subst hb
    subst e
    obtain ⟨kv, h1, h2⟩ := List.mem_map.mp ha
    exact hn (List.any_eq_true.mpr ⟨kv, h1, by simpa using h2⟩)
theorem look_nd : ∀ {m : List (Key × Val)}, (m.map (·.1)).Nodup → ∀ kv ∈ m, lookK m kv.1 = some kv.2
  | [], _, kv, h => by cases h
  | a :: r, hn, kv, h => by
    rw [List.map_cons, List.nodup_cons] at hn
    unfold lookK
    rcases List.mem_cons.mp h with rfl | h
    · simp
    · have ne : a.1 ≠ kv.1 := fun e => hn.1 (by rw [e]; exact List.mem_map_of_mem (f := (·.1)) h)
      have := look_nd hn.2 kv h
      unfold lookK at this
      rw [List.find?_cons_of_neg (by simpa using ne)]
      exact this
theorem hits_self {S : Hm} {m : List (Key × Val)} (hn : (m.map (·.1)).Nodup) (hd : ∀ kv ∈ m, ∃ x, dat S 58 kv.2 = some x ∧ PyData.eqv x x = true) : dHits S m m = some true := by
  have all : ∀ r : List (Key × Val), (∀ kv ∈ r, kv ∈ m) → dHits S m r = some true := by
    intro r
    induction r with
    | nil => intro _; rfl
    | cons kv r ih =>
      intro h
      have hm := h kv List.mem_cons_self
      obtain ⟨x, e1, e2⟩ := hd kv hm
      simp only [dHits, look_nd hn kv hm, e1, ih fun u hu => h u (List.mem_cons_of_mem _ hu), e2, Bool.and_self]
  exact all m fun _ h => h
theorem dat_strs {S : Hm} {n : Nat} : ∀ (xs : List String), ∃ ys, (xs.map Val.str).mapM (dat S n) = some ys ∧ PyData.eqvAll ys ys = true
  | [] => ⟨[], rfl, by simp only [PyData.eqvAll]⟩
  | x :: r => by
    obtain ⟨ys, e1, e2⟩ := dat_strs (S := S) (n := n) r
    refine ⟨.str (Str.ofString x) :: ys, ?_, ?_⟩
    · rw [List.map_cons, List.mapM_cons, e1]
      cases n <;> rfl
    · simp only [PyData.eqvAll, PyData.eqv, e2, beq_self_eq_true, Bool.and_self]
theorem dat_sch {S : Hm} {v : Val} (h : IsK 4 v) : ∃ x, dat S 58 (schV v) = some x ∧ PyData.eqv x x = true := by
  obtain ⟨x, e1, e2⟩ := dat_isK (S := S) h 57 (by omega)
  obtain ⟨ys, e3, e4⟩ := dat_strs (S := S) (n := 56) (gat v [])
  refine ⟨.tuple [.tuple ys, x], ?_, ?_⟩
  · have e5 : dat S 57 (.tup ((gat v []).map .str)) = some (.tuple ys) := by simp only [dat]; rw [e3]; rfl
    show ([Val.tup ((gat v []).map .str), v].mapM (dat S 57)).map PyData.tuple = _
    rw [List.mapM_cons, e5, List.mapM_cons, e1]
    rfl
  · simp only [PyData.eqv, PyData.eqvAll, e4, e2, Bool.and_self]
theorem sh_dat {nm : String} {b : List (Key × Val)} (h1 : PW nm) (hb : BOk b) {is : List It} (hi : ∀ x ∈ is, IOk x) : ∀ i, ((shF nm b (is.take i)).2.map (·.1)).Nodup ∧ ∀ kv ∈ (shF nm b (is.take i)).2, ∃ v, kv.2 = schV v ∧ IsK 4 v := by
  intro i
  induction i with
  | zero => exact ⟨by simp [shF], by intro kv h; simp [shF] at h⟩
  | succ i ih =>
    cases e : is[i]? with
    | none =>
      have hl : is.length ≤ i := by simpa using e
      rw [List.take_of_length_le (by omega)]
      rw [List.take_of_length_le hl] at ih
      exact ih
    | some it =>
      rw [shF_take e]
      have a := (shF_ok (b := b) h1 hi i).1
      have io := hi it (List.mem_of_getElem? e)
      cases it with
      | hide x m => exact ih
      | val x v =>
        refine ⟨putK_keys ih.1, fun kv hk => ?_⟩
        rcases putK_mem hk with z | z
        · exact ih.2 kv z
        · exact ⟨_, by rw [z], tr_isK hb a io.2⟩
theorem sh_ne {S : Hm} {nm : String} {b : List (Key × Val)} (h1 : PW nm) (hb : BOk b) {is : List It} (hi : ∀ x ∈ is, IOk x) {n m : Nat} (gn : S[n]? = some (.dic (shF nm b is).2)) (gm : S[m]? = some (.dic (shF nm b is).2)) {R : Bool → Prop} (hq : R false) : cmpW .NotEq (.ref n) (.ref m) S R := by
  obtain ⟨a, c⟩ := sh_dat h1 hb hi is.length
  rw [List.take_length] at a c
  refine .inr ⟨_, _, true, gn, gm, hits_self a fun kv hk => ?_, ?_⟩
  · obtain ⟨v, e, h⟩ := c kv hk
    rw [e]
    exact dat_sch h
  · simpa using hq
end K43

set_option maxHeartbeats 4000000
namespace K43
open Mi PySem
theorem cut3 {a b c : Val} {xs : List Val} : cut (a :: b :: c :: xs) (some 3) none = xs := by
  unfold cut sIx
  simp
theorem for_step {tg : Tg} {guard : Hm → Prop} {body : Mi.Sp → Mi.Env → Hm → Prop} {D : Mi.Sp} {v : Val} {vs : List Val} {env : Mi.Env} {S : Hm} (hg : guard S) (h : ∀ D' : Mi.Sp, D'.nx = forL tg guard body D vs → D'.rt = D.rt → tgW tg v env fun env2 => body D' env2 S) : forL tg guard body D (v :: vs) env S :=
  ⟨hg, h { nx := forL tg guard body D vs, rt := D.rt, ct := forL tg guard body D vs } rfl rfl⟩
inductive Row where
  | oth (w : String) (r : List Val) | face (f : String) (g : Val) (is : List It) | part (q : Pt) | maker (m : String) (g : Val) (f : List String) (b : List Val)
def Row.enc : Row → Val
  | .oth w r => .tup (.str w :: r)
  | .face f g is => faV f g is
  | .part q => q.enc
  | .maker m g f b => mkV m g f b
def Row.ok : Row → Prop
  | .oth w _ => w ≠ "face" ∧ w ≠ "part" ∧ w ≠ "maker" ∧ w ≠ "apply"
  | .part q => FmO q.f
  | _ => True
structure D3 where
  (fo ma wa : List (Key × Val))
def Row.st (d : D3) : Row → D3
  | .oth _ _ => d
  | .face f g is => { d with fo := putK d.fo (.inr f) (.tup [g, .tup (is.map It.enc)]) }
  | .part q => { d with wa := putK d.wa (.inr q.n) (.tup (q.f.map .str)) }
  | .maker m g f _ => { d with ma := putK d.ma (.inr m) (.tup [g, .tup (f.map .str)]) }
structure FO (n : Nat) (d : D3) (S : Hm) : Prop where
  o : S[n]? = some (.ins "Faces" (flF (n + 1) (n + 2) (n + 3)))
  fo : S[n + 1]? = some (.dic d.fo)
  ma : S[n + 2]? = some (.dic d.ma)
  wa : S[n + 3]? = some (.dic d.wa)
def Lo3 (d : D3) (m : Nat) : Prop := d.fo.length ≤ m ∧ d.ma.length ≤ m ∧ d.wa.length ≤ m
theorem st_len {d : D3} {m : Nat} (h : Lo3 d m) (r : Row) : Lo3 (r.st d) (m + 1) := by
  obtain ⟨a, b, c⟩ := h
  cases r with
  | oth w r => exact ⟨by show d.fo.length ≤ _; omega, by show d.ma.length ≤ _; omega, by show d.wa.length ≤ _; omega⟩
  | face f g is => exact ⟨Nat.le_trans putK_len (by omega), by show d.ma.length ≤ _; omega, by show d.wa.length ≤ _; omega⟩
  | part q => exact ⟨by show d.fo.length ≤ _; omega, by show d.ma.length ≤ _; omega, Nat.le_trans putK_len (by omega)⟩
  | maker m g f b => exact ⟨by show d.fo.length ≤ _; omega, Nat.le_trans putK_len (by omega), by show d.wa.length ≤ _; omega⟩
section
variable {k n : Nat} {S S' : Hm} {X : XPost} {Q : Post}
theorem FO.set_fo {d : D3} (h : FO n d S) {l : List (Key × Val)} : FO n { d with fo := l } (S.set (n + 1) (.dic l)) := ⟨by rw [get_ne (by omega)]; exact h.o, by rw [get_set, h.fo]; rfl, by rw [get_ne (by omega)]; exact h.ma, by rw [get_ne (by omega)]; exact h.wa⟩
theorem FO.set_mk {d : D3} (h : FO n d S) {l : List (Key × Val)} : FO n { d with ma := l } (S.set (n + 2) (.dic l)) := ⟨by rw [get_ne (by omega)]; exact h.o, by rw [get_ne (by omega)]; exact h.fo, by rw [get_set, h.ma]; rfl, by rw [get_ne (by omega)]; exact h.wa⟩
theorem FO.set_wa {d : D3} (h : FO n d S) {l : List (Key × Val)} : FO n { d with wa := l } (S.set (n + 3) (.dic l)) := ⟨by rw [get_ne (by omega)]; exact h.o, by rw [get_ne (by omega)]; exact h.fo, by rw [get_ne (by omega)]; exact h.ma, by rw [get_set, h.wa]; rfl⟩
theorem FO.app {d : D3} (h : FO n d S) (l : Hm) : FO n d (S ++ l) := ⟨get_app h.o, get_app h.fo, get_app h.ma, get_app h.wa⟩
theorem FO.sm {d : D3} (h : FO n d S) (s : Sm S S') : FO n d S' := ⟨s.get h.o, s.get h.fo, s.get h.ma, s.get h.wa⟩
/-- one row -/
theorem init_row {pg : Val} {r : Row} {d : D3} {x2 x3 x4 : Option Val} {D : Mi.Sp} {S0 : Hm} (hn : S0.length ≤ n) (ro : r.ok) (h : FO n d S) (hl : Lo3 d 100) (m0 : Sm S0 S)
    (hq : ∀ S', FO n (r.st d) S' → Sm S0 S' → D.nx [some (.ref n), some pg, some r.enc, x3, x4] S') :
    tgW (.nm 2) r.enc [some (.ref n), some pg, x2, x3, x4] fun env2 => wSs P.con P.sub (callW P (k + 2)) s8_m_Faces_init (fun c _ S' => noX c S') D env2 S := by
  obtain ⟨l1, l2, l3⟩ := hl
  simp only [tgW, es]
  rw [s8_m_Faces_init]
  generalize hU1 : s1_m_Faces_init = U1
  generalize hU7 : s7_m_Faces_init = U7
  cases r with
  | face f g is =>
    simp only [Row.enc, faV, List.cons_append, List.nil_append, wSs, wS, wT, wEs, wO, wPs, wC, wSrc, wE_loc, wE_lit, wE_con, wE_bin, wE_neg, wE_cmp, wE_cmp2, wE_isN, wE_notN, wE_isB, wE_not, wE_and, wE_or, wE_ite, wE_tup, wE_lst, wE_dic, wE_call, wE_make, wE_meth, wE_fld, wE_sub, wE_slice, wE_bi, wE_vi, wE_bm, wE_isi, wE_lc, wE_lck, eg, es, Option.some.injEq, exists_eq_left', Lit.val, tup0, cmpW, eqW_str, truth, Option.some.injEq, exists_eq_left']
    rw [if_pos (by decide)]
    subst hU1
    simp only [s1_m_Faces_init, wSs, wS, wT, wEs, wO, wPs, wC, wSrc, wE_loc, wE_lit, wE_con, wE_bin, wE_neg, wE_cmp, wE_cmp2, wE_isN, wE_notN, wE_isB, wE_not, wE_and, wE_or, wE_ite, wE_tup, wE_lst, wE_dic, wE_call, wE_make, wE_meth, wE_fld, wE_sub, wE_slice, wE_bi, wE_vi, wE_bm, wE_isi, wE_lc, wE_lck, eg, es, Option.some.injEq, exists_eq_left', Lit.val, tup1, tup2, sliceW]
    refine ⟨3, rfl, SZ3 (by simp), _, _, _, _, rfl, h.o, rfl, ?_⟩
    rw [cut3]
    refine setW_dic (q := .inr f) h.fo rfl (by rw [sizeLine_eq]; omega) ?_
    exact hq _ h.set_fo (m0.set (by omega))
  | part q =>
    simp only [Row.enc, Pt.enc, List.cons_append, List.nil_append, wSs, wS, wT, wEs, wO, wPs, wC, wSrc, wE_loc, wE_lit, wE_con, wE_bin, wE_neg, wE_cmp, wE_cmp2, wE_isN, wE_notN, wE_isB, wE_not, wE_and, wE_or, wE_ite, wE_tup, wE_lst, wE_dic, wE_call, wE_make, wE_meth, wE_fld, wE_sub, wE_slice, wE_bi, wE_vi, wE_bm, wE_isi, wE_lc, wE_lck, eg, es, Option.some.injEq, exists_eq_left', Lit.val, tup0, cmpW, eqW_str, truth, Option.some.injEq, exists_eq_left']
    rw [if_neg (by decide)]
    subst hU7
    rw [s7_m_Faces_init]
    generalize hU2 : s2_m_Faces_init = U2
    generalize hU6 : s6_m_Faces_init = U6
    simp only [wSs, wS, wT, wEs, wO, wPs, wC, wSrc, wE_loc, wE_lit, wE_con, wE_bin, wE_neg, wE_cmp, wE_cmp2, wE_isN, wE_notN, wE_isB, wE_not, wE_and, wE_or, wE_ite, wE_tup, wE_lst, wE_dic, wE_call, wE_make, wE_meth, wE_fld, wE_sub, wE_slice, wE_bi, wE_vi, wE_bm, wE_isi, wE_lc, wE_lck, eg, es, Option.some.injEq, exists_eq_left', Lit.val, tup0, cmpW, eqW_str, truth, Option.some.injEq, exists_eq_left']
    rw [if_pos (by decide)]
    subst hU2
    simp only [s2_m_Faces_init, wSs, wS, wT, wEs, wO, wPs, wC, wSrc, wE_loc, wE_lit, wE_con, wE_bin, wE_neg, wE_cmp, wE_cmp2, wE_isN, wE_notN, wE_isB, wE_not, wE_and, wE_or, wE_ite, wE_tup, wE_lst, wE_dic, wE_call, wE_make, wE_meth, wE_fld, wE_sub, wE_slice, wE_bi, wE_vi, wE_bm, wE_isi, wE_lc, wE_lck, eg, es, Option.some.injEq, exists_eq_left', Lit.val, tup1, tup2]
    have ro : FmO q.f := ro
    refine reference_ok (k := k + 1) (f := q.f) ?_ ⟨_, _, _, _, rfl, h.o, rfl, ?_⟩
    · rcases ro with e | ⟨x, e, _⟩ | ⟨x, y, e, _⟩
      · exact .inr ⟨_, e⟩
      · exact .inl (by rw [e]; simp)
      · exact .inl (by rw [e]; simp)
    refine setW_dic (q := .inr q.n) h.wa rfl (by rw [sizeLine_eq]; omega) ?_
    exact hq _ h.set_wa (m0.set (by omega))
  | maker m g f b =>
    simp only [Row.enc, mkV, List.cons_append, List.nil_append, wSs, wS, wT, wEs, wO, wPs, wC, wSrc, wE_loc, wE_lit, wE_con, wE_bin, wE_neg, wE_cmp, wE_cmp2, wE_isN, wE_notN, wE_isB, wE_not, wE_and, wE_or, wE_ite, wE_tup, wE_lst, wE_dic, wE_call, wE_make, wE_meth, wE_fld, wE_sub, wE_slice, wE_bi, wE_vi, wE_bm, wE_isi, wE_lc, wE_lck, eg, es, Option.some.injEq, exists_eq_left', Lit.val, tup0, cmpW, eqW_str, truth, Option.some.injEq, exists_eq_left']
    rw [if_neg (by decide)]
    subst hU7
    rw [s7_m_Faces_init]
    generalize hU2 : s2_m_Faces_init = U2
    generalize hU6 : s6_m_Faces_init = U6
    simp only [wSs, wS, wT, wEs, wO, wPs, wC, wSrc, wE_loc, wE_lit, wE_con, wE_bin, wE_neg, wE_cmp, wE_cmp2, wE_isN, wE_notN, wE_isB, wE_not, wE_and, wE_or, wE_ite, wE_tup, wE_lst, wE_dic, wE_call, wE_make, wE_meth, wE_fld, wE_sub, wE_slice, wE_bi, wE_vi, wE_bm, wE_isi, wE_lc, wE_lck, eg, es, Option.some.injEq, exists_eq_left', Lit.val, tup0, cmpW, eqW_str, truth, Option.some.injEq, exists_eq_left']
    rw [if_neg (by decide)]
    subst hU6
    rw [s6_m_Faces_init]
    generalize hU3 : s3_m_Faces_init = U3
    generalize hU5 : s5_m_Faces_init = U5
    simp only [wSs, wS, wT, wEs, wO, wPs, wC, wSrc, wE_loc, wE_lit, wE_con, wE_bin, wE_neg, wE_cmp, wE_cmp2, wE_isN, wE_notN, wE_isB, wE_not, wE_and, wE_or, wE_ite, wE_tup, wE_lst, wE_dic, wE_call, wE_make, wE_meth, wE_fld, wE_sub, wE_slice, wE_bi, wE_vi, wE_bm, wE_isi, wE_lc, wE_lck, eg, es, Option.some.injEq, exists_eq_left', Lit.val, tup0, cmpW, eqW_str, truth, Option.some.injEq, exists_eq_left']
    rw [if_pos (by decide)]
    subst hU3
    simp only [s3_m_Faces_init, wSs, wS, wT, wEs, wO, wPs, wC, wSrc, wE_loc, wE_lit, wE_con, wE_bin, wE_neg, wE_cmp, wE_cmp2, wE_isN, wE_notN, wE_isB, wE_not, wE_and, wE_or, wE_ite, wE_tup, wE_lst, wE_dic, wE_call, wE_make, wE_meth, wE_fld, wE_sub, wE_slice, wE_bi, wE_vi, wE_bm, wE_isi, wE_lc, wE_lck, eg, es, Option.some.injEq, exists_eq_left', Lit.val, tup1, tup2]
    rw [tup3]
    refine reference_t (k := k + 1) ⟨SZ3 (by simp), _, _, _, _, rfl, h.o, rfl, ?_⟩
    refine setW_dic (q := .inr m) h.ma rfl (by rw [sizeLine_eq]; omega) ?_
    exact hq _ h.set_mk (m0.set (by omega))
  | oth w r =>
    obtain ⟨w1, w2, w3, w4⟩ := ro
    simp only [Row.enc, wSs, wS, wT, wEs, wO, wPs, wC, wSrc, wE_loc, wE_lit, wE_con, wE_bin, wE_neg, wE_cmp, wE_cmp2, wE_isN, wE_notN, wE_isB, wE_not, wE_and, wE_or, wE_ite, wE_tup, wE_lst, wE_dic, wE_call, wE_make, wE_meth, wE_fld, wE_sub, wE_slice, wE_bi, wE_vi, wE_bm, wE_isi, wE_lc, wE_lck, eg, es, Option.some.injEq, exists_eq_left', Lit.val, tup0, cmpW, eqW_str, truth, Option.some.injEq, exists_eq_left']
    rw [if_neg (by simpa using w1)]
    subst hU7
    rw [s7_m_Faces_init]
    generalize hU2 : s2_m_Faces_init = U2
    generalize hU6 : s6_m_Faces_init = U6
    simp only [wSs, wS, wT, wEs, wO, wPs, wC, wSrc, wE_loc, wE_lit, wE_con, wE_bin, wE_neg, wE_cmp, wE_cmp2, wE_isN, wE_notN, wE_isB, wE_not, wE_and, wE_or, wE_ite, wE_tup, wE_lst, wE_dic, wE_call, wE_make, wE_meth, wE_fld, wE_sub, wE_slice, wE_bi, wE_vi, wE_bm, wE_isi, wE_lc, wE_lck, eg, es, Option.some.injEq, exists_eq_left', Lit.val, tup0, cmpW, eqW_str, truth, Option.some.injEq, exists_eq_left']
    rw [if_neg (by simpa using w2)]
    subst hU6
    rw [s6_m_Faces_init]
    generalize hU3 : s3_m_Faces_init = U3
    generalize hU5 : s5_m_Faces_init = U5
    simp only [wSs, wS, wT, wEs, wO, wPs, wC, wSrc, wE_loc, wE_lit, wE_con, wE_bin, wE_neg, wE_cmp, wE_cmp2, wE_isN, wE_notN, wE_isB, wE_not, wE_and, wE_or, wE_ite, wE_tup, wE_lst, wE_dic, wE_call, wE_make, wE_meth, wE_fld, wE_sub, wE_slice, wE_bi, wE_vi, wE_bm, wE_isi, wE_lc, wE_lck, eg, es, Option.some.injEq, exists_eq_left', Lit.val, tup0, cmpW, eqW_str, truth, Option.some.injEq, exists_eq_left']
    rw [if_neg (by simpa using w3)]
    subst hU5
    rw [s5_m_Faces_init]
    generalize hU4 : s4_m_Faces_init = U4
    simp only [wSs, wS, wT, wEs, wO, wPs, wC, wSrc, wE_loc, wE_lit, wE_con, wE_bin, wE_neg, wE_cmp, wE_cmp2, wE_isN, wE_notN, wE_isB, wE_not, wE_and, wE_or, wE_ite, wE_tup, wE_lst, wE_dic, wE_call, wE_make, wE_meth, wE_fld, wE_sub, wE_slice, wE_bi, wE_vi, wE_bm, wE_isi, wE_lc, wE_lck, eg, es, Option.some.injEq, exists_eq_left', Lit.val, tup0, cmpW, eqW_str, truth, Option.some.injEq, exists_eq_left']
    rw [if_neg (by simpa using w4)]
    exact hq _ h m0
theorem init_go {pg : Val} {rest : List Val} {D : Mi.Sp} {S0 : Hm} (hn : S0.length ≤ n) : ∀ (rs : List Row) (d : D3) (m : Nat) (S : Hm) (x2 x3 x4 : Option Val), (∀ r ∈ rs, r.ok) → Lo3 d m → m + rs.length ≤ 100 → FO n d S → Sm S0 S →
    (∀ x2 S', FO n (rs.foldl Row.st d) S' → Sm S0 S' → forL (.nm 2) (fun _ => True) (wSs P.con P.sub (callW P (k + 2)) s8_m_Faces_init fun c _ S' => noX c S') D rest [some (.ref n), some pg, x2, x3, x4] S') →
    forL (.nm 2) (fun _ => True) (wSs P.con P.sub (callW P (k + 2)) s8_m_Faces_init fun c _ S' => noX c S') D (rs.map Row.enc ++ rest) [some (.ref n), some pg, x2, x3, x4] S
  | [], d, m, S, x2, x3, x4, ro, lo, hm, h, m0, hq => hq x2 S h m0
  | r :: rs, d, m, S, x2, x3, x4, ro, lo, hm, h, m0, hq => by
    simp only [List.length_cons] at hm
    refine for_step trivial fun D' eD eR => ?_
    obtain ⟨a, b, c⟩ := lo
    refine init_row (k := k) hn (ro r List.mem_cons_self) h ⟨by omega, by omega, by omega⟩ m0 fun S1 h1 m1 => ?_
    rw [eD]
    exact init_go hn rs (r.st d) (m + 1) S1 _ x3 x4 (fun q hq => ro q (List.mem_cons_of_mem _ hq)) (st_len ⟨a, b, c⟩ r) (by omega) h1 m1 hq
/-- one applied part -/
theorem init_ap {pg : Val} {q m : String} {ps : List String} {gs : List (String × Val)} {f : List String} {d : D3} {x2 x3 x4 : Option Val} {D : Mi.Sp} {S0 : Hm} (hn : S0.length ≤ n) (h : FO n d S) (hl : Lo3 d 100) (m0 : Sm S0 S) (hm : lookK d.ma (.inr m) = some (.tup [.tup (gs.map gvV), .tup (f.map .str)])) (hg : gs.length ≤ 10) (hf : f ≠ []) (hfl : f.length ≤ 10) (hps : ∀ x ∈ ps, PW x)
    (hq : ∀ x3 x4 S', FO n { d with wa := putK d.wa (.inr q) (.tup ((mvF (byD gs ps) f).map .str)) } S' → Sm S0 S' → D.nx [some (.ref n), some pg, some (apV q m ps), x3, x4] S') :
    tgW (.nm 2) (apV q m ps) [some (.ref n), some pg, x2, x3, x4] fun env2 => wSs P.con P.sub (callW P (k + 2)) s8_m_Faces_init (fun c _ S' => noX c S') D env2 S := by
  obtain ⟨l1, l2, l3⟩ := hl
  simp only [tgW, es]
  rw [s8_m_Faces_init]
  generalize hU1 : s1_m_Faces_init = U1
  generalize hU7 : s7_m_Faces_init = U7
  simp only [apV, List.cons_append, List.nil_append, wSs, wS, wT, wEs, wO, wPs, wC, wSrc, wE_loc, wE_lit, wE_con, wE_bin, wE_neg, wE_cmp, wE_cmp2, wE_isN, wE_notN, wE_isB, wE_not, wE_and, wE_or, wE_ite, wE_tup, wE_lst, wE_dic, wE_call, wE_make, wE_meth, wE_fld, wE_sub, wE_slice, wE_bi, wE_vi, wE_bm, wE_isi, wE_lc, wE_lck, eg, es, Option.some.injEq, exists_eq_left', Lit.val, tup0, cmpW, eqW_str, truth, Option.some.injEq, exists_eq_left']
  rw [if_neg (by decide)]
  subst hU7
  rw [s7_m_Faces_init]
  generalize hU2 : s2_m_Faces_init = U2
  generalize hU6 : s6_m_Faces_init = U6
  simp only [wSs, wS, wT, wEs, wO, wPs, wC, wSrc, wE_loc, wE_lit, wE_con, wE_bin, wE_neg, wE_cmp, wE_cmp2, wE_isN, wE_notN, wE_isB, wE_not, wE_and, wE_or, wE_ite, wE_tup, wE_lst, wE_dic, wE_call, wE_make, wE_meth, wE_fld, wE_sub, wE_slice, wE_bi, wE_vi, wE_bm, wE_isi, wE_lc, wE_lck, eg, es, Option.some.injEq, exists_eq_left', Lit.val, tup0, cmpW, eqW_str, truth, Option.some.injEq, exists_eq_left']
  rw [if_neg (by decide)]
  subst hU6
  rw [s6_m_Faces_init]
  generalize hU3 : s3_m_Faces_init = U3
  generalize hU5 : s5_m_Faces_init = U5
  simp only [wSs, wS, wT, wEs, wO, wPs, wC, wSrc, wE_loc, wE_lit, wE_con, wE_bin, wE_neg, wE_cmp, wE_cmp2, wE_isN, wE_notN, wE_isB, wE_not, wE_and, wE_or, wE_ite, wE_tup, wE_lst, wE_dic, wE_call, wE_make, wE_meth, wE_fld, wE_sub, wE_slice, wE_bi, wE_vi, wE_bm, wE_isi, wE_lc, wE_lck, eg, es, Option.some.injEq, exists_eq_left', Lit.val, tup0, cmpW, eqW_str, truth, Option.some.injEq, exists_eq_left']
  rw [if_neg (by decide)]
  subst hU5
  rw [s5_m_Faces_init]
  generalize hU4 : s4_m_Faces_init = U4
  simp only [wSs, wS, wT, wEs, wO, wPs, wC, wSrc, wE_loc, wE_lit, wE_con, wE_bin, wE_neg, wE_cmp, wE_cmp2, wE_isN, wE_notN, wE_isB, wE_not, wE_and, wE_or, wE_ite, wE_tup, wE_lst, wE_dic, wE_call, wE_make, wE_meth, wE_fld, wE_sub, wE_slice, wE_bi, wE_vi, wE_bm, wE_isi, wE_lc, wE_lck, eg, es, Option.some.injEq, exists_eq_left', Lit.val, tup0, cmpW, eqW_str, truth, Option.some.injEq, exists_eq_left']
  rw [if_pos (by decide)]
  subst hU4
  simp only [s4_m_Faces_init, wSs, wS, wT, wEs, wO, wPs, wC, wSrc, wE_loc, wE_lit, wE_con, wE_bin, wE_neg, wE_cmp, wE_cmp2, wE_isN, wE_notN, wE_isB, wE_not, wE_and, wE_or, wE_ite, wE_tup, wE_lst, wE_dic, wE_call, wE_make, wE_meth, wE_fld, wE_sub, wE_slice, wE_bi, wE_vi, wE_bm, wE_isi, wE_lc, wE_lck, eg, es, Option.some.injEq, exists_eq_left', Lit.val, tup2]
  refine ⟨_, _, _, _, rfl, h.o, rfl, ?_⟩
  refine subW_dic (q := .inr m) h.ma rfl hm ⟨_, rfl, rfl, ?_⟩
  simp only [List.zip_cons_cons, List.zip_nil_right, List.foldl_cons, List.foldl_nil, es, wSs, wS, wT, wEs, wO, wPs, wC, wSrc, wE_loc, wE_lit, wE_con, wE_bin, wE_neg, wE_cmp, wE_cmp2, wE_isN, wE_notN, wE_isB, wE_not, wE_and, wE_or, wE_ite, wE_tup, wE_lst, wE_dic, wE_call, wE_make, wE_meth, wE_fld, wE_sub, wE_slice, wE_bi, wE_vi, wE_bm, wE_isi, wE_lc, wE_lck, eg, es, Option.some.injEq, exists_eq_left', Lit.val, sliceW]
  refine ⟨3, rfl, ?_⟩
  rw [cut3]
  refine given_by_ok (k := k + 1) hg ?_
  refine moved_ref_ok (k := k + 1) (by_ok hps) get_new hfl hf fun l => ?_
  have h2 := (h.app [Ob.dic (byD gs ps)]).app l
  refine ⟨_, _, _, _, rfl, h2.o, rfl, ?_⟩
  rw [tup1]
  refine setW_dic (q := .inr q) h2.wa rfl (by rw [sizeLine_eq]; omega) ?_
  exact hq _ _ _ h2.set_wa ((m0.trans ((Sm.app _).trans (Sm.app _))).set (by omega))
end
end K43

set_option maxHeartbeats 4000000
namespace K43
open Mi PySem
def d00 : D3 := ⟨[], [], []⟩
def rsL (i1 i2 i3 : List It) (pr : List Pt) (bA bB : List Val) : List Row :=
  [.oth "kind" [.str "col", .tup [], .tup [.str "Red"], .tup [.str "Blue"]], .oth "kind" [.str "opt", .tup [.str "?a"], .tup [.str "No"], .tup [.str "Yes", .str "?a"]], .oth "record" [.str "duo", .tup [.str "?a", .str "?b"], .tup [.str "left", .str "?a"], .tup [.str "right", .str "?b"]],
   .face "Fa" gA i1, .face "Fb" gB i2, .face "Fc" gC i3] ++ pr.map .part ++ [.maker "Ma" gMa ["Fb", "Y"] bA, .maker "Mb" gMb ["Fc", "Z", "X"] bB]
def mkD : List (Key × Val) := [(.inr "Ma", .tup [gMa, .tup (["Fb", "Y"].map .str)]), (.inr "Mb", .tup [gMb, .tup (["Fc", "Z", "X"].map .str)])]
theorem parts_fold : ∀ (pr : List Pt) (d : D3), (pr.map Row.part).foldl Row.st d = { d with wa := (pr.map fun q => (q.n, q.f)).foldl (fun d q => putK d (.inr q.1) (.tup (q.2.map .str))) d.wa }
  | [], d => rfl
  | q :: r, d => by
    simp only [List.map_cons, List.foldl_cons]
    rw [parts_fold r]
    rfl
theorem rs_fold {i1 i2 i3 : List It} {pr : List Pt} {bA bB : List Val} : (rsL i1 i2 i3 pr bA bB).foldl Row.st d00 = ⟨fD i1 i2 i3, mkD, dueD (pr.map fun q => (q.n, q.f))⟩ := by
  rw [rsL, List.foldl_append, List.foldl_append, parts_fold]
  simp [Row.st, d00, putK, fD, mkD, dueD]
section
variable {k n : Nat} {S S' : Hm} {X : XPost} {Q : Post}
theorem init_ok {i1 i2 i3 : List It} {pr : List Pt} {bA bB : List Val} {x y : String} {S0 : Hm} (hpr : ∀ q ∈ pr, Pt.ok q) (hpl : pr.length ≤ 6) (hx : PW x) (hy : PW y)
    (hq : ∀ S', FO S0.length ⟨fD i1 i2 i3, mkD, dueD (pr.map (fun q => (q.n, q.f)) ++ [("Qa", ["Fb", x])] ++ [("Qb", ["Fc", y, "Qa"])])⟩ S' → Sm S0 S' → Q .non S') :
    callW P (k + 4) (.m "Faces" "__init__") [.ref S0.length, .tup ((rsL i1 i2 i3 pr bA bB).map Row.enc ++ [apV "Qa" "Ma" [x], apV "Qb" "Mb" [y, "Qa"], .tup [.str "main", .int 5]])] (S0 ++ [.ins "Faces" []]) Q noX := by
  refine call_openI (k := k + 2) fn_m_Faces_init ⟨rfl, ?_⟩
  generalize hpg : Val.tup ((rsL i1 i2 i3 pr bA bB).map Row.enc ++ [apV "Qa" "Ma" [x], apV "Qb" "Mb" [y, "Qa"], .tup [.str "main", .int 5]]) = pg
  show wSs _ _ _ s9_m_Faces_init _ _ [some (.ref S0.length), some pg, none, none, none] _
  obtain ⟨n, hn⟩ : ∃ n, n = S0.length := ⟨_, rfl⟩
  rw [← hn] at hq ⊢
  rw [s9_m_Faces_init]
  generalize hU : s8_m_Faces_init = U
  simp only [wSs, wS, wT, wEs, wO, wPs, wC, wSrc, wE_loc, wE_lit, wE_con, wE_bin, wE_neg, wE_cmp, wE_cmp2, wE_isN, wE_notN, wE_isB, wE_not, wE_and, wE_or, wE_ite, wE_tup, wE_lst, wE_dic, wE_call, wE_make, wE_meth, wE_fld, wE_sub, wE_slice, wE_bi, wE_vi, wE_bm, wE_isi, wE_lc, wE_lck, eg, es, Option.some.injEq, exists_eq_left', Lit.val, wPs, List.foldl_nil]
  have e1 : ∀ l : Hm, (S0 ++ l).length = n + l.length := fun l => by simp [hn]
  have set1 : ∀ (a b : Ob) (l : Hm), (S0 ++ a :: l).set n b = S0 ++ b :: l := fun a b l => by rw [hn]; simp
  have get1 : ∀ (a : Ob) (l : Hm), (S0 ++ a :: l)[n]? = some a := fun a l => by rw [hn]; simp
  simp only [List.append_assoc, List.cons_append, List.nil_append, e1, List.length_cons, List.length_nil]
  refine ⟨n, _, _, rfl, get1 _ _, by simp [Mi.putF], ?_⟩
  rw [set1]
  simp only [List.append_assoc, List.cons_append, List.nil_append, e1, List.length_cons, List.length_nil]
  refine ⟨n, _, _, rfl, get1 _ _, by simp [Mi.putF], ?_⟩
  rw [set1]
  simp only [List.append_assoc, List.cons_append, List.nil_append, e1, List.length_cons, List.length_nil]
  refine ⟨n, _, _, rfl, get1 _ _, by simp [Mi.putF], ?_⟩
  rw [set1]
  have eF : putF "wanted" (Val.ref (n + (0 + 1 + 1 + 1))) (putF "makers" (.ref (n + (0 + 1 + 1))) (putF "forms" (.ref (n + (0 + 1))) [])) = flF (n + 1) (n + 2) (n + 3) := by
    simp [putF, flF]
  rw [eF]
  have h1 : FO n d00 (S0 ++ [Ob.ins "Faces" (flF (n + 1) (n + 2) (n + 3)), Ob.dic [], Ob.dic [], Ob.dic []]) := by
    refine ⟨get1 _ _, ?_, ?_, ?_⟩
    · rw [List.getElem?_append_right (by omega), hn]; simp [d00]
    · rw [List.getElem?_append_right (by omega), hn]; simp [d00]
    · rw [List.getElem?_append_right (by omega), hn]; simp [d00]
  have m1 : Sm S0 (S0 ++ [Ob.ins "Faces" (flF (n + 1) (n + 2) (n + 3)), Ob.dic [], Ob.dic [], Ob.dic []]) := Sm.app _
  generalize S0 ++ [Ob.ins "Faces" (flF (n + 1) (n + 2) (n + 3)), Ob.dic [], Ob.dic [], Ob.dic []] = S1 at h1 m1 ⊢
  rw [← hpg]
  simp only [seqOf]
  rw [hpg]
  subst hU
  have rl : (rsL i1 i2 i3 pr bA bB).length = pr.length + 8 := by simp [rsL]
  refine init_go (k := k) (n := n) (S0 := S0) (by omega) (rsL i1 i2 i3 pr bA bB) d00 0 S1 none none none (fun r hr => ?_) ⟨by simp [d00], by simp [d00], by simp [d00]⟩ (by omega) h1 m1 fun x2 S2 h2 m2 => ?_
  · simp only [rsL, List.mem_append, List.mem_cons, List.not_mem_nil, or_false, List.mem_map] at hr
    rcases hr with ((rfl | rfl | rfl | rfl | rfl | rfl) | ⟨q, hq2, rfl⟩) | (rfl | rfl)
    · exact ⟨by decide, by decide, by decide, by decide⟩
    · exact ⟨by decide, by decide, by decide, by decide⟩
    · exact ⟨by decide, by decide, by decide, by decide⟩
    · trivial
    · trivial
    · trivial
    · exact (hpr q hq2).2
    · trivial
    · trivial
  · rw [rs_fold] at h2
    have dl := dueD_len (pr.map fun q => (q.n, q.f))
    rw [List.length_map] at dl
    refine for_step trivial fun D' eD eR => ?_
    refine init_ap (k := k) (n := n) (gs := [("Y", .str "Fa")]) (f := ["Fb", "Y"]) (S0 := S0) (by omega) h2 ⟨by simp [fD], by simp [mkD], by simp only; omega⟩ m2 (by simp [mkD, lookK, gMa, gvV]) (by simp) (by simp) (by simp) (fun z hz => by rw [List.mem_singleton.mp hz]; exact hx) fun x3 x4 S3 h3 m3 => ?_
    rw [eD]
    have ea : mvF (byD [("Y", Val.str "Fa")] [x]) ["Fb", "Y"] = ["Fb", x] := by simp [mvF, byD, putK, lkS, lookK]
    rw [ea] at h3
    simp only at h3
    rw [← dueD_snoc (q := ("Qa", ["Fb", x]))] at h3
    have dl2 := dueD_len (pr.map (fun q => (q.n, q.f)) ++ [("Qa", ["Fb", x])])
    simp only [List.length_append, List.length_map, List.length_singleton] at dl2
    refine for_step trivial fun D2 eD2 eR2 => ?_
    refine init_ap (k := k) (n := n) (gs := [("Z", .str "Fa"), ("X", .tup [.str "Fb", .str "Z"])]) (f := ["Fc", "Z", "X"]) (S0 := S0) (by omega) h3 ⟨by simp [fD], by simp [mkD], by simp only; omega⟩ m3 (by simp [mkD, lookK, gMb, gvV]) (by simp) (by simp) (by simp) (fun z hz => ?_) fun y3 y4 S4 h4 m4 => ?_
    · simp only [List.mem_cons, List.not_mem_nil, or_false] at hz
      rcases hz with rfl | rfl
      · exact hy
      · exact pw_2 (by simp)
    rw [eD2]
    have eb : mvF (byD [("Z", Val.str "Fa"), ("X", .tup [.str "Fb", .str "Z"])] [y, "Qa"]) ["Fc", "Z", "X"] = ["Fc", y, "Qa"] := by simp [mvF, byD, putK, lkS, lookK]
    rw [eb] at h4
    simp only at h4
    rw [← dueD_snoc (q := ("Qb", ["Fc", y, "Qa"]))] at h4
    refine for_step trivial fun D5 eD5 eR5 => ?_
    refine init_row (k := k) (r := .oth "main" [.int 5]) (S0 := S0) (by omega) ⟨by decide, by decide, by decide, by decide⟩ h4 ⟨by simp [fD], by simp [mkD], ?_⟩ m4 fun S5 h5 m5 => ?_
    · have dl3 := dueD_len (pr.map (fun q => (q.n, q.f)) ++ [("Qa", ["Fb", x])] ++ [("Qb", ["Fc", y, "Qa"])])
      simp only [List.length_append, List.length_map, List.length_singleton] at dl3
      simp only
      omega
    rw [eD5]
    exact ⟨trivial, hq S5 h5 m5⟩
end
end K43

set_option maxHeartbeats 4000000
namespace K43
open Mi PySem
def gsOf (f : List String) : List (String × Val) := if f.length = 1 then [] else if f.length = 2 then [("X", .str "Fa")] else [("X", .str "Fa"), ("Z", .tup [.str "Fb", .str "X"])]
theorem fD_look {i1 i2 i3 : List It} {f : List String} (hf : FmO f) : ∃ h ps is, f = h :: ps ∧ (∀ x ∈ ps, PW x) ∧ ps.length ≤ 5 ∧ lookK (fD i1 i2 i3) (.inr h) = some (.tup [.tup ((gsOf f).map gvV), .tup (is.map It.enc)]) ∧ (gsOf f).length ≤ 10 ∧ (is = i1 ∨ is = i2 ∨ is = i3) := by
  rcases hf with rfl | ⟨x, rfl, hx⟩ | ⟨x, y, rfl, hx, hy⟩
  · exact ⟨_, _, i1, rfl, by simp, by simp, by simp [fD, lookK, gsOf, gA], by simp [gsOf], .inl rfl⟩
  · exact ⟨_, _, i2, rfl, by simpa using hx, by simp, by simp [fD, lookK, gsOf, gB, gvV], by simp [gsOf], .inr (.inl rfl)⟩
  · exact ⟨_, _, i3, rfl, by simpa using ⟨hx, hy⟩, by simp, by simp [fD, lookK, gsOf, gC, gvV], by simp [gsOf], .inr (.inr rfl)⟩
theorem due_mem {W : List (String × List String)} {kv : Key × Val} (h : kv ∈ dueD W) : ∃ q ∈ W, kv = (.inr q.1, .tup (q.2.map .str)) := by
  have key : ∀ (l : List (String × List String)) (acc : List (Key × Val)), kv ∈ l.foldl (fun d q => putK d (.inr q.1) (.tup (q.2.map .str))) acc → kv ∈ acc ∨ ∃ q ∈ l, kv = (.inr q.1, .tup (q.2.map .str)) := by
    intro l
    induction l with
    | nil => intro acc h; exact .inl h
    | cons p r ih =>
      intro acc h
      rcases ih _ h with z | ⟨q, h1, h2⟩
      · rcases putK_mem z with z | z
        · exact .inl z
        · exact .inr ⟨p, List.mem_cons_self, z⟩
      · exact .inr ⟨q, List.mem_cons_of_mem _ h1, h2⟩
  rcases key W [] h with z | z
  · cases z
  · exact z
theorem due_nd {W : List (String × List String)} : ((dueD W).map (·.1)).Nodup := by
  have key : ∀ (l : List (String × List String)) (acc : List (Key × Val)), (acc.map (·.1)).Nodup → ((l.foldl (fun d q => putK d (.inr q.1) (.tup (q.2.map .str))) acc).map (·.1)).Nodup := by
    intro l
    induction l with
    | nil => intro acc h; exact h
    | cons p r ih => intro acc h; exact ih _ (putK_keys h)
  exact key W [] (by simp)
theorem strs_ne {S : Hm} {xs : List String} {R : Bool → Prop} (hq : R false) : cmpW .NotEq (.tup (xs.map .str)) (.tup (xs.map .str)) S R := by
  obtain ⟨ys, e1, e2⟩ := dat_strs (S := S) (n := 59) xs
  refine .inl ⟨.tuple ys, .tuple ys, ?_, ?_, ?_⟩
  · simp only [dat]; rw [e1]; rfl
  · simp only [dat]; rw [e1]; rfl
  · have : PyData.eqv (.tuple ys) (.tuple ys) = true := by simp only [PyData.eqv]; exact e2
    rw [this]
    exact hq
section
variable {S S' : Hm}
/-- all that is there for the asking -/
structure LS (o fa dp : Nat) (i1 i2 i3 : List It) (W : List (String × List String)) (S : Hm) : Prop where
  g1 : FO o ⟨fD i1 i2 i3, mkD, dueD W⟩ S
  g2 : S[fa]? = some (.dic (fD i1 i2 i3))
  g3 : S[dp]? = some (.dic (dueD W))
  g4 : dp < o ∧ fa < o ∧ fa ≠ dp
def lwEnv (x0 x1 x2 x4 x5 x8 : Option Val) (o fa dp : Nat) (x7 x10 x11 x12 : Option Val) : Mi.Env := [x0, x1, x2, some (.ref fa), x4, x5, some (.ref o), x7, x8, some (.ref dp), x10, x11, x12]
theorem shows_ok {k o : Nat} {nm h : String} {ps : List String} {fd ma wa : List (Key × Val)} {gs : List (String × Val)} {is : List It} {Q : Post} (hnm : PW nm) (fo : FO o ⟨fd, ma, wa⟩ S) (hl : lookK wa (.inr nm) = some (.tup (.str h :: ps.map .str))) (hps : ∀ x ∈ ps, PW x) (hpl : ps.length ≤ 5) (hlk : lookK fd (.inr h) = some (.tup [.tup (gs.map gvV), .tup (is.map It.enc)])) (hgl : gs.length ≤ 10) (hi : ∀ x ∈ is, IOk x) (hil : is.length ≤ 25)
    (hq : ∀ n S', S'[n]? = some (.dic (shF nm (byD gs ps) is).2) → S.length ≤ n → Sm S S' → Q (.ref n) S') : callW P (k + 10) (.m "Faces" "shows") [.ref o, .str nm] S Q noX := by
  refine call_openM (k := k + 9) fn_m_Faces_shows (by decide) ⟨rfl, ?_⟩
  show wSs _ _ _ s1_m_Faces_shows _ _ [some (.ref o), some (.str nm)] S
  simp only [s1_m_Faces_shows, wSs, wS, wT, wEs, wO, wPs, wC, wSrc, wE_loc, wE_lit, wE_con, wE_bin, wE_neg, wE_cmp, wE_cmp2, wE_isN, wE_notN, wE_isB, wE_not, wE_and, wE_or, wE_ite, wE_tup, wE_lst, wE_dic, wE_call, wE_make, wE_meth, wE_fld, wE_sub, wE_slice, wE_bi, wE_vi, wE_bm, wE_isi, wE_lc, wE_lck, eg, es, Option.some.injEq, exists_eq_left', Lit.val]
  refine ⟨_, _, rfl, fo.o, rfl, ?_⟩
  refine ⟨_, _, _, _, rfl, fo.o, rfl, ?_⟩
  refine subW_dic (q := .inr nm) fo.wa rfl hl ?_
  exact shown_ok (k := k) hnm fo.o fo.fo hps hpl hlk hgl hi hil hq
theorem face_of_ok {k o : Nat} {nm : String} {v : Val} {fd ma wa : List (Key × Val)} {Q : Post} {X : XPost} (fo : FO o ⟨fd, ma, wa⟩ S) (hl : lookK wa (.inr nm) = some v) (hq : Q v S) : callW P (k + 1) (.m "Faces" "face_of") [.ref o, .str nm] S Q X := by
  refine call_openM (k := k) fn_m_Faces_face_of (by decide) ⟨rfl, ?_⟩
  show wSs _ _ _ s1_m_Faces_face_of _ _ [some (.ref o), some (.str nm)] S
  simp only [s1_m_Faces_face_of, wSs, wS, wT, wEs, wO, wPs, wC, wSrc, wE_loc, wE_lit, wE_con, wE_bin, wE_neg, wE_cmp, wE_cmp2, wE_isN, wE_notN, wE_isB, wE_not, wE_and, wE_or, wE_ite, wE_tup, wE_lst, wE_dic, wE_call, wE_make, wE_meth, wE_fld, wE_sub, wE_slice, wE_bi, wE_vi, wE_bm, wE_isi, wE_lc, wE_lck, eg, es, Option.some.injEq, exists_eq_left', Lit.val]
  refine ⟨_, _, _, _, rfl, fo.o, rfl, ?_⟩
  exact subW_dic (q := .inr nm) fo.wa rfl hl hq
theorem ask_ok {o fa : Nat} {i1 i2 i3 : List It} {wa : List (Key × Val)} {ma : List (Key × Val)} {nm : String} {f : List String} {x0 x1 x2 x4 x5 x7 x8 x10 x11 x12 : Option Val} {dp : Nat} {D : Mi.Sp} (fo : FO o ⟨fD i1 i2 i3, ma, wa⟩ S) (ga : S[fa]? = some (.dic (fD i1 i2 i3))) (hn : PW nm) (hf : FmO f) (hl : lookK wa (.inr nm) = some (.tup (f.map .str))) (h1 : ∀ x ∈ i1, IOk x) (h2 : ∀ x ∈ i2, IOk x) (h3 : ∀ x ∈ i3, IOk x) (il : i1.length ≤ 25 ∧ i2.length ≤ 25 ∧ i3.length ≤ 25)
    (hq : ∀ x12 S', Sm S S' → D.nx (lwEnv x0 x1 x2 x4 x5 x8 o fa dp x7 (some (.str nm)) (some (.tup (f.map .str))) x12) S') :
    wSs P.con P.sub (callW P 230) s7_f_law (fun _ _ _ => False) D (lwEnv x0 x1 x2 x4 x5 x8 o fa dp x7 (some (.str nm)) (some (.tup (f.map .str))) x12) S := by
  obtain ⟨h, ps, is, ef, hps, hpl, hlk, hgl, his⟩ := fD_look (i1 := i1) (i2 := i2) (i3 := i3) hf
  have io : ∀ x ∈ is, IOk x := by rcases his with rfl | rfl | rfl <;> assumption
  have isl : is.length ≤ 25 := by rcases his with rfl | rfl | rfl <;> omega
  rw [s7_f_law]
  generalize hV : s6_f_law = V
  simp only [lwEnv, wSs, wS, wT, wEs, wO, wPs, wC, wSrc, wE_loc, wE_lit, wE_con, wE_bin, wE_neg, wE_cmp, wE_cmp2, wE_isN, wE_notN, wE_isB, wE_not, wE_and, wE_or, wE_ite, wE_tup, wE_lst, wE_dic, wE_call, wE_make, wE_meth, wE_fld, wE_sub, wE_slice, wE_bi, wE_vi, wE_bm, wE_isi, wE_lc, wE_lck, eg, es, Option.some.injEq, exists_eq_left', Lit.val]
  -- shows
  subst ef
  refine ⟨_, _, rfl, fo.o, rfl, ?_⟩
  refine call_use (Q0 := fun v S' => ∃ n, v = .ref n ∧ S'[n]? = some (.dic (shF nm (byD (gsOf (h :: ps)) ps) is).2) ∧ S.length ≤ n ∧ Sm S S') (shows_ok (k := 220) hn fo hl hps hpl hlk hgl io isl fun n S' q1 q2 q3 => ⟨n, rfl, q1, q2, q3⟩) ?_
  rintro _ S1 ⟨n1, rfl, g1, n1l, m1⟩
  have fo1 := fo.sm m1
  subst hV
  rw [s6_f_law]
  generalize hV : s5_f_law = V
  generalize hU : s2_f_law = U
  simp only [wSs, wS, wT, wEs, wO, wPs, wC, wSrc, wE_loc, wE_lit, wE_con, wE_bin, wE_neg, wE_cmp, wE_cmp2, wE_isN, wE_notN, wE_isB, wE_not, wE_and, wE_or, wE_ite, wE_tup, wE_lst, wE_dic, wE_call, wE_make, wE_meth, wE_fld, wE_sub, wE_slice, wE_bi, wE_vi, wE_bm, wE_isi, wE_lc, wE_lck, eg, es, Option.some.injEq, exists_eq_left', Lit.val]
  refine ⟨_, _, rfl, fo1.o, rfl, ?_⟩
  refine face_of_ok (k := 229) fo1 hl ?_
  refine strs_ne (xs := h :: ps) ?_
  simp only [truth, Option.some.injEq, exists_eq_left']
  rw [if_neg (by decide)]
  refine ⟨[true], by simp [isTy, g1], ?_⟩
  show wSs P.con P.sub (callW P 230) V _ _ _ _
  subst hV
  rw [s5_f_law]
  generalize hV : s4_f_law = V
  generalize hU : s3_f_law = U
  simp only [wSs, wS, wT, wEs, wO, wPs, wC, wSrc, wE_loc, wE_lit, wE_con, wE_bin, wE_neg, wE_cmp, wE_cmp2, wE_isN, wE_notN, wE_isB, wE_not, wE_and, wE_or, wE_ite, wE_tup, wE_lst, wE_dic, wE_call, wE_make, wE_meth, wE_fld, wE_sub, wE_slice, wE_bi, wE_vi, wE_bm, wE_isi, wE_lc, wE_lck, eg, es, Option.some.injEq, exists_eq_left', Lit.val]
  refine call_use (Q0 := fun v S' => ∃ n, v = .ref n ∧ S'[n]? = some (.dic (shF nm (byD (gsOf (h :: ps)) ps) is).2) ∧ S1.length ≤ n ∧ Sm S1 S') (lshown_ok (k := 221) hn (m1.get ga) hps hpl hlk hgl io isl fun n S' q1 q2 q3 => ⟨n, rfl, q1, q2, q3⟩) ?_
  rintro _ S2 ⟨n2, rfl, g2, n2l, m2⟩
  have g12 := m2.get g1
  refine sh_ne hn (by_ok hps) io g12 g2 ?_
  simp only [truth, Option.some.injEq, exists_eq_left']
  rw [if_neg (by decide)]
  subst hV
  simp only [s4_f_law, wSs, wS, wT, wEs, wO, wPs, wC, wSrc, wE_loc, wE_lit, wE_con, wE_bin, wE_neg, wE_cmp, wE_cmp2, wE_isN, wE_notN, wE_isB, wE_not, wE_and, wE_or, wE_ite, wE_tup, wE_lst, wE_dic, wE_call, wE_make, wE_meth, wE_fld, wE_sub, wE_slice, wE_bi, wE_vi, wE_bm, wE_isi, wE_lc, wE_lck, eg, es, Option.some.injEq, exists_eq_left', Lit.val]
  obtain ⟨_, _, shl⟩ := shF_ok (b := byD (gsOf (h :: ps)) ps) hn io is.length
  rw [List.take_length] at shl
  refine setW_dic (q := .inr "x") g12 rfl (by rw [sizeLine_eq]; omega) ?_
  exact hq _ _ ((m1.trans m2).set n1l)
end
end K43

set_option maxHeartbeats 4000000
namespace K43
open Mi PySem
section
variable {S S' : Hm}
/-- one turn over all parts -/
theorem turn_ok {o fa dp : Nat} {i1 i2 i3 : List It} {W : List (String × List String)} {x0 x1 x2 x4 x5 x7 x8 x10 x11 x12 : Option Val} {D : Mi.Sp} (h : LS o fa dp i1 i2 i3 W S) (hW : ∀ q ∈ W, PW q.1 ∧ FmO q.2) (h1 : ∀ x ∈ i1, IOk x) (h2 : ∀ x ∈ i2, IOk x) (h3 : ∀ x ∈ i3, IOk x) (il : i1.length ≤ 25 ∧ i2.length ≤ 25 ∧ i3.length ≤ 25)
    (hq : ∀ x10 x11 x12 S', LS o fa dp i1 i2 i3 W S' → D.nx (lwEnv x0 x1 x2 x4 x5 x8 o fa dp x7 x10 x11 x12) S') :
    wSs P.con P.sub (callW P 230) s8_f_law (fun _ _ _ => False) D (lwEnv x0 x1 x2 x4 x5 x8 o fa dp x7 x10 x11 x12) S := by
  obtain ⟨fo, gf, gd, n1, n2, n3⟩ := h
  rw [s8_f_law]
  generalize hU : s7_f_law = U
  simp only [lwEnv, wSs, wS, wT, wEs, wO, wPs, wC, wSrc, wE_loc, wE_lit, wE_con, wE_bin, wE_neg, wE_cmp, wE_cmp2, wE_isN, wE_notN, wE_isB, wE_not, wE_and, wE_or, wE_ite, wE_tup, wE_lst, wE_dic, wE_call, wE_make, wE_meth, wE_fld, wE_sub, wE_slice, wE_bi, wE_vi, wE_bm, wE_isi, wE_lc, wE_lck, eg, es, Option.some.injEq, exists_eq_left', Lit.val]
  refine ⟨dp, _, rfl, gd, ?_⟩
  have gl : (S.set dp (.lck (.dic (dueD W))))[dp]? = some (.lck (.dic (dueD W))) := by rw [get_set, gd]; rfl
  have foL : FO o ⟨fD i1 i2 i3, mkD, dueD W⟩ (S.set dp (.lck (.dic (dueD W)))) := ⟨by rw [get_ne (by omega)]; exact fo.o, by rw [get_ne (by omega)]; exact fo.fo, by rw [get_ne (by omega)]; exact fo.ma, by rw [get_ne (by omega)]; exact fo.wa⟩
  have gfL : (S.set dp (.lck (.dic (dueD W))))[fa]? = some (.dic (fD i1 i2 i3)) := by rw [get_ne n3]; exact gf
  generalize S.set dp (.lck (.dic (dueD W))) = SL at gl foL gfL ⊢
  refine ⟨_, _, rfl, gl, ?_⟩
  refine for_inv (callW_mono P _) (fun i env S' => (∃ x10 x11 x12, env = lwEnv x0 x1 x2 x4 x5 x8 o fa dp x7 x10 x11 x12) ∧ Sm SL S') ?_ ?_ ⟨⟨_, _, _, rfl⟩, Sm.refl _⟩
  · rintro i v env S1 hi ⟨⟨y10, y11, y12, rfl⟩, m1⟩
    rw [List.getElem?_map] at hi
    obtain ⟨kv, hk, rfl⟩ := Option.map_eq_some_iff.mp hi
    have hkm := List.mem_of_getElem? hk
    obtain ⟨q, hq1, rfl⟩ := due_mem hkm
    refine ⟨m1.get gl, ?_⟩
    simp only [Key.val, tgW]
    refine ⟨_, rfl, rfl, ?_⟩
    simp only [List.zip_cons_cons, List.zip_nil_right, List.foldl_cons, List.foldl_nil, lwEnv, es]
    subst hU
    have lk := look_nd due_nd _ hkm
    refine ask_ok (dp := dp) (x0 := x0) (x1 := x1) (x2 := x2) (x4 := x4) (x5 := x5) (x7 := x7) (x8 := x8) (x10 := none) (x11 := none) (x12 := y12) (foL.sm m1) (m1.get gfL) (hW q hq1).1 (hW q hq1).2 lk h1 h2 h3 il fun x12 S2 m2 => ?_
    exact ⟨⟨_, _, _, rfl⟩, m1.trans m2⟩
  · rintro env S1 ⟨⟨y10, y11, y12, rfl⟩, m1⟩
    refine ⟨m1.get gl, m1.get gl, ?_⟩
    have fo1 := foL.sm m1
    refine hq _ _ _ _ ⟨⟨by rw [get_ne (by omega)]; exact fo1.o, by rw [get_ne (by omega)]; exact fo1.fo, by rw [get_ne (by omega)]; exact fo1.ma, by rw [get_ne (by omega)]; exact fo1.wa⟩, by rw [get_ne n3]; exact m1.get gfL, by rw [get_set, m1.get gl]; rfl, n1, n2, n3⟩
def sortsV : List Val := [.tup [.str "kind", .str "col", .tup [], .tup [.str "Red"], .tup [.str "Blue"]], .tup [.str "kind", .str "opt", .tup [.str "?a"], .tup [.str "No"], .tup [.str "Yes", .str "?a"]], .tup [.str "record", .str "duo", .tup [.str "?a", .str "?b"], .tup [.str "left", .str "?a"], .tup [.str "right", .str "?b"]]]
theorem sorts_ok {k : Nat} {Q : Post} {X : XPost} (hq : Q (.ref S.length) (S ++ [.lst sortsV])) : callW P (k + 1) (.f "_law_sorts") [] S Q X := by
  refine call_open fn_f_law_sorts ⟨rfl, ?_⟩
  show wSs _ _ _ s1_f_law_sorts _ _ [] S
  simp only [s1_f_law_sorts, wSs, wS, wT, wEs, wO, wPs, wC, wSrc, wE_loc, wE_lit, wE_con, wE_bin, wE_neg, wE_cmp, wE_cmp2, wE_isN, wE_notN, wE_isB, wE_not, wE_and, wE_or, wE_ite, wE_tup, wE_lst, wE_dic, wE_call, wE_make, wE_meth, wE_fld, wE_sub, wE_slice, wE_bi, wE_vi, wE_bm, wE_isi, wE_lc, wE_lck, eg, es, Option.some.injEq, exists_eq_left', Lit.val]
  have z : ∀ l : List Val, l.length ≤ 10 → l.length ≤ sizeLine := fun l h => SZ3 (by omega)
  repeat (refine ⟨z _ (by simp), ?_⟩)
  exact hq
/-- a face's row -/
theorem face_row {fp : Nat} {d : List (Key × Val)} {f : String} {g : Val} {is : List It} {x0 x1 x2 x4 x5 x6 x7 x8 x9 x10 x11 x12 : Option Val} {D : Mi.Sp} (gd : S[fp]? = some (.dic d)) (hl : d.length ≤ 100)
    (hq : D.nx [x0, x1, x2, some (.ref fp), some (faV f g is), x5, x6, x7, x8, x9, x10, x11, x12] (S.set fp (.dic (putK d (.inr f) (.tup [g, .tup (is.map It.enc)]))))) :
    tgW (.nm 4) (faV f g is) [x0, x1, x2, some (.ref fp), x4, x5, x6, x7, x8, x9, x10, x11, x12] fun env2 => wSs P.con P.sub (callW P 230) s1_f_law (fun _ _ _ => False) D env2 S := by
  simp only [tgW, es, s1_f_law, wSs, wS, wT, wEs, wO, wPs, wC, wSrc, wE_loc, wE_lit, wE_con, wE_bin, wE_neg, wE_cmp, wE_cmp2, wE_isN, wE_notN, wE_isB, wE_not, wE_and, wE_or, wE_ite, wE_tup, wE_lst, wE_dic, wE_call, wE_make, wE_meth, wE_fld, wE_sub, wE_slice, wE_bi, wE_vi, wE_bm, wE_isi, wE_lc, wE_lck, eg, es, Option.some.injEq, exists_eq_left', Lit.val, faV, List.cons_append, List.nil_append, tup1, tup2, sliceW]
  refine ⟨3, rfl, SZ3 (by simp), ?_⟩
  rw [cut3]
  refine setW_dic (q := .inr f) gd rfl (by rw [sizeLine_eq]; omega) ?_
  exact hq
end
theorem law_small (ns : List Int) (hl : ns.length ≤ 63) : bodyW P (callW P 230) r_f_law.d [.ref 0] [.lck (.lst (ns.map Val.int))] (fun v _ => v = .bl true) (fun _ _ => False) := by
  refine ⟨rfl, ?_⟩
  show wSs _ _ _ s16_f_law _ _ [some (.ref 0), none, none, none, none, none, none, none, none, none, none, none, none] _
  rw [s16_f_law]
  generalize hV : s15_f_law = V
  simp only [wSs, wS, wT, wEs, wO, wPs, wC, wSrc, wE_loc, wE_lit, wE_con, wE_bin, wE_neg, wE_cmp, wE_cmp2, wE_isN, wE_notN, wE_isB, wE_not, wE_and, wE_or, wE_ite, wE_tup, wE_lst, wE_dic, wE_call, wE_make, wE_meth, wE_fld, wE_sub, wE_slice, wE_bi, wE_vi, wE_bm, wE_isi, wE_lc, wE_lck, eg, es, Option.some.injEq, exists_eq_left', Lit.val]
  have g0 : ([Ob.lck (.lst (ns.map Val.int))] : Hm)[0]? = some (.lck (.lst (ns.map Val.int))) := rfl
  refine call_use (sum_ok (k := 229) g0 hl) ?_
  rintro _ S1 ⟨z, rfl, z0, z1, l, rfl⟩
  refine lenW_lst (lst_lck (get_app g0)) ?_
  refine call_use (state_ok (k := 229) z0 z1) ?_
  rintro _ S2 ⟨rfl, s2, l2, rfl⟩
  generalize hp : ([Ob.lck (.lst (ns.map Val.int))] ++ l : Hm).length = p at s2
  generalize ([Ob.lck (.lst (ns.map Val.int))] ++ l ++ l2 : Hm) = S2 at s2 ⊢
  subst hV
  rw [s15_f_law]
  generalize hV : s14_f_law = V
  simp only [wSs, wS, wT, wEs, wO, wPs, wC, wSrc, wE_loc, wE_lit, wE_con, wE_bin, wE_neg, wE_cmp, wE_cmp2, wE_isN, wE_notN, wE_isB, wE_not, wE_and, wE_or, wE_ite, wE_tup, wE_lst, wE_dic, wE_call, wE_make, wE_meth, wE_fld, wE_sub, wE_slice, wE_bi, wE_vi, wE_bm, wE_isi, wE_lc, wE_lck, eg, es, Option.some.injEq, exists_eq_left', Lit.val]
  refine call_use (Q0 := fun v S' => ∃ (n : Nat) (i1 i2 i3 : List It), v = .ref n ∧ S'[n]? = some (.lst [faV "Fa" gA i1, faV "Fb" gB i2, faV "Fc" gC i3]) ∧ S2.length ≤ n ∧ (i1.length ≤ 25 ∧ i2.length ≤ 25 ∧ i3.length ≤ 25) ∧ (∀ x ∈ i1, IOk x) ∧ (∀ x ∈ i2, IOk x) ∧ (∀ x ∈ i3, IOk x) ∧ Sta p S' ∧ Fr p S2 S') (faces_ok (k := 222) s2 fun n i1 i2 i3 S' a b c d e f g h => ⟨n, i1, i2, i3, rfl, a, b, c, d, e, f, g, h⟩) ?_
  rintro _ S3 ⟨tp, i1, i2, i3, rfl, gt, tpl, il, h1, h2, h3, s3, f3⟩
  subst hV
  rw [s14_f_law]
  generalize hV : s13_f_law = V
  generalize hU : s1_f_law = U
  simp only [wSs, wS, wT, wEs, wO, wPs, wC, wSrc, wE_loc, wE_lit, wE_con, wE_bin, wE_neg, wE_cmp, wE_cmp2, wE_isN, wE_notN, wE_isB, wE_not, wE_and, wE_or, wE_ite, wE_tup, wE_lst, wE_dic, wE_call, wE_make, wE_meth, wE_fld, wE_sub, wE_slice, wE_bi, wE_vi, wE_bm, wE_isi, wE_lc, wE_lck, eg, es, Option.some.injEq, exists_eq_left', Lit.val, seqOf, List.foldl_nil]
  have gf : (S3 ++ [Ob.dic []])[S3.length]? = some (.dic []) := get_new
  have gt3 := get_app (l := [Ob.dic []]) gt
  have s4 := s3.app [Ob.dic []]
  have tl := lt_of_get gt
  have pl := s3.lt
  have ptl : tp ≠ p := by have := s2.lt; omega
  have l4 : (S3 ++ [Ob.dic []]).length = S3.length + 1 := by simp
  generalize S3 ++ [Ob.dic []] = S4 at gf gt3 s4 l4 ⊢
  refine ⟨_, lst_at gt3, ?_⟩
  generalize hfp : S3.length = fp at gf tl pl l4
  subst hU
  have gt4 : ∀ {o : Ob}, (S4.set fp o)[tp]? = S4[tp]? := fun {o} => get_ne (by omega)
  refine for_step (lst_at gt3) fun D1 e1 r1 => face_row gf (by simp) ?_
  rw [e1]
  have ga : (S4.set fp (.dic (putK [] (.inr "Fa") (.tup [gA, .tup (i1.map It.enc)]))))[fp]? = some (.dic (putK [] (.inr "Fa") (.tup [gA, .tup (i1.map It.enc)]))) := by rw [get_set, gf]; rfl
  have gta : (S4.set fp (.dic (putK [] (.inr "Fa") (.tup [gA, .tup (i1.map It.enc)]))))[tp]? = some (.lst [faV "Fa" gA i1, faV "Fb" gB i2, faV "Fc" gC i3]) := by rw [get_ne (by omega)]; exact gt3
  have sa := s4.set (n := fp) (o := .dic (putK [] (.inr "Fa") (.tup [gA, .tup (i1.map It.enc)]))) (by omega)
  have la : (S4.set fp (.dic (putK [] (.inr "Fa") (.tup [gA, .tup (i1.map It.enc)])))).length = S4.length := List.length_set
  generalize S4.set fp (.dic (putK [] (.inr "Fa") (.tup [gA, .tup (i1.map It.enc)]))) = Sa at ga gta sa la ⊢
  refine for_step (lst_at gta) fun D2 e2 r2 => face_row ga (Nat.le_trans putK_len (by simp)) ?_
  rw [e2]
  generalize hda : putK (putK ([] : List (Key × Val)) (.inr "Fa") (Val.tup [gA, .tup (i1.map It.enc)])) (.inr "Fb") (Val.tup [gB, .tup (i2.map It.enc)]) = da
  have dal : da.length ≤ 10 := by rw [← hda]; simp [putK]
  have gb : (Sa.set fp (.dic da))[fp]? = some (.dic da) := by rw [get_set, ga]; rfl
  have gtb : (Sa.set fp (.dic da))[tp]? = some (.lst [faV "Fa" gA i1, faV "Fb" gB i2, faV "Fc" gC i3]) := by rw [get_ne (by omega)]; exact gta
  have sb := sa.set (n := fp) (o := .dic da) (by omega)
  have lb : (Sa.set fp (.dic da)).length = Sa.length := List.length_set
  generalize Sa.set fp (.dic da) = Sb at gb gtb sb lb ⊢
  refine for_step (lst_at gtb) fun D3 e3 r3 => face_row gb (by omega) ?_
  rw [e3]
  have edc : putK da (.inr "Fc") (.tup [gC, .tup (i3.map It.enc)]) = fD i1 i2 i3 := by rw [← hda]; simp [putK, fD]
  rw [edc]
  have gc : (Sb.set fp (.dic (fD i1 i2 i3)))[fp]? = some (.dic (fD i1 i2 i3)) := by rw [get_set, gb]; rfl
  have gtc : (Sb.set fp (.dic (fD i1 i2 i3)))[tp]? = some (.lst [faV "Fa" gA i1, faV "Fb" gB i2, faV "Fc" gC i3]) := by rw [get_ne (by omega)]; exact gtb
  have sc := sb.set (n := fp) (o := .dic (fD i1 i2 i3)) (by omega)
  have lc : (Sb.set fp (.dic (fD i1 i2 i3))).length = Sb.length := List.length_set
  generalize Sb.set fp (.dic (fD i1 i2 i3)) = Sc at gc gtc sc lc ⊢
  refine ⟨lst_at gtc, ?_⟩
  subst hV
  rw [s13_f_law]
  generalize hV : s12_f_law = V
  simp only [wSs, wS, wT, wEs, wO, wPs, wC, wSrc, wE_loc, wE_lit, wE_con, wE_bin, wE_neg, wE_cmp, wE_cmp2, wE_isN, wE_notN, wE_isB, wE_not, wE_and, wE_or, wE_ite, wE_tup, wE_lst, wE_dic, wE_call, wE_make, wE_meth, wE_fld, wE_sub, wE_slice, wE_bi, wE_vi, wE_bm, wE_isi, wE_lc, wE_lck, eg, es, Option.some.injEq, exists_eq_left', Lit.val]
  refine call_use (Q0 := fun v S' => ∃ (rp dp : Nat) (pr : List Pt) (bA bB : List Val) (x y : String), v = .tup [.ref rp, .ref dp] ∧ S'[rp]? = some (.lst (pr.map Pt.enc ++ [mkV "Ma" gMa ["Fb", "Y"] bA] ++ [mkV "Mb" gMb ["Fc", "Z", "X"] bB] ++ [apV "Qa" "Ma" [x], apV "Qb" "Mb" [y, "Qa"]])) ∧ S'[dp]? = some (.dic (dueD (pr.map (fun q => (q.n, q.f)) ++ [("Qa", ["Fb", x])] ++ [("Qb", ["Fc", y, "Qa"])]))) ∧ (∀ q ∈ pr, Pt.ok q ∧ q.b.length ≤ 25) ∧ pr.length ≤ 6 ∧ bA.length ≤ 25 ∧ bB.length ≤ 25 ∧ PW x ∧ PW y ∧ Sta p S' ∧ Fr p Sc S' ∧ Sc.length ≤ dp ∧ S'[fp]? = some (.dic (fD i1 i2 i3))) (lrows_ok (k := 226) sc gc (by omega) il fun rp dp pr bA bB x y S' a b c d e f g h i j k m => ⟨rp, dp, pr, bA, bB, x, y, rfl, a, b, c, d, e, f, g, h, i, j, k, m⟩) ?_
  rintro _ S5 ⟨rp, dp, pr, bA, bB, x, y, rfl, gr, gd, hpr, prl, bal, bbl, hx, hy, s5, f5, dpl, gf5⟩
  refine ⟨_, rfl, rfl, ?_⟩
  simp only [List.zip_cons_cons, List.zip_nil_right, List.foldl_cons, List.foldl_nil, es]
  have gt5 := f5.get ptl gtc
  subst hV
  rw [s12_f_law]
  generalize hV : s11_f_law = V
  simp only [wSs, wS, wT, wEs, wO, wPs, wC, wSrc, wE_loc, wE_lit, wE_con, wE_bin, wE_neg, wE_cmp, wE_cmp2, wE_isN, wE_notN, wE_isB, wE_not, wE_and, wE_or, wE_ite, wE_tup, wE_lst, wE_dic, wE_call, wE_make, wE_meth, wE_fld, wE_sub, wE_slice, wE_bi, wE_vi, wE_bm, wE_isi, wE_lc, wE_lck, eg, es, Option.some.injEq, exists_eq_left', Lit.val]
  have sv3 : sortsV.length = 3 := rfl
  refine sorts_ok (k := 229) ?_
  refine addL get_new (get_app gt5) (by simp [sv3]) ?_
  refine addL get_new (get_app (get_app gr)) (by simp [sv3]; omega) ?_
  refine ⟨SZ3 (by simp), SZ3 (by simp), ?_⟩
  refine addL (get_app get_new) get_new (by simp [sv3]; omega) ?_
  simp only [biW, ltOf]
  refine ⟨_, lst_at get_new, ?_⟩
  have ev : sortsV ++ [faV "Fa" gA i1, faV "Fb" gB i2, faV "Fc" gC i3] ++ (pr.map Pt.enc ++ [mkV "Ma" gMa ["Fb", "Y"] bA] ++ [mkV "Mb" gMb ["Fc", "Z", "X"] bB] ++ [apV "Qa" "Ma" [x], apV "Qb" "Mb" [y, "Qa"]]) ++ [.tup [.str "main", .int 5]] = (rsL i1 i2 i3 pr bA bB).map Row.enc ++ [apV "Qa" "Ma" [x], apV "Qb" "Mb" [y, "Qa"], .tup [.str "main", .int 5]] := by
    simp [rsL, Row.enc, sortsV, Function.comp_def]
  have T : ∀ (S6 : Hm) (D : Mi.Sp) (x4 : Option Val), Sm S5 S6 → D.rt = (fun v _ => v = .bl true) → wSs P.con P.sub (callW P 230) V (fun _ _ _ => False) D [some (.ref 0), some (.ref p), some (.ref tp), some (.ref fp), x4, some (.tup ((rsL i1 i2 i3 pr bA bB).map Row.enc ++ [apV "Qa" "Ma" [x], apV "Qb" "Mb" [y, "Qa"], .tup [.str "main", .int 5]])), none, none, some (.ref rp), some (.ref dp), none, none, none] S6 := by
    intro S6 D x4 m6 eD
    have gd6 := m6.get gd
    have gf6 := m6.get gf5
    subst hV
    rw [s11_f_law]
    generalize hV : s10_f_law = V
    simp only [wSs, wS, wT, wEs, wO, wPs, wC, wSrc, wE_loc, wE_lit, wE_con, wE_bin, wE_neg, wE_cmp, wE_cmp2, wE_isN, wE_notN, wE_isB, wE_not, wE_and, wE_or, wE_ite, wE_tup, wE_lst, wE_dic, wE_call, wE_make, wE_meth, wE_fld, wE_sub, wE_slice, wE_bi, wE_vi, wE_bm, wE_isi, wE_lc, wE_lck, eg, es, Option.some.injEq, exists_eq_left', Lit.val]
    refine call_use (Q0 := fun v S' => v = .non ∧ FO S6.length ⟨fD i1 i2 i3, mkD, dueD (pr.map (fun q => (q.n, q.f)) ++ [("Qa", ["Fb", x])] ++ [("Qb", ["Fc", y, "Qa"])])⟩ S' ∧ Sm S6 S') (init_ok (k := 226) (fun q hq => (hpr q hq).1) prl hx hy fun S' a b => ⟨rfl, a, b⟩) ?_
    rintro _ S7 ⟨rfl, fo7, m7⟩
    refine ⟨rfl, ?_⟩
    have hW : ∀ q ∈ pr.map (fun q => (q.n, q.f)) ++ [("Qa", ["Fb", x])] ++ [("Qb", ["Fc", y, "Qa"])], PW q.1 ∧ FmO q.2 := fun q hq => by
      rcases List.mem_append.mp hq with z | z
      · rcases List.mem_append.mp z with z | z
        · obtain ⟨u, hu, rfl⟩ := List.mem_map.mp z
          exact (hpr u hu).1
        · rw [List.mem_singleton.mp z]
          exact ⟨pw_2 (by simp), .inr (.inl ⟨x, rfl, hx⟩)⟩
      · rw [List.mem_singleton.mp z]
        exact ⟨pw_2 (by simp), .inr (.inr ⟨y, "Qa", rfl, hy, pw_2 (by simp)⟩)⟩
    generalize pr.map (fun q => (q.n, q.f)) ++ [("Qa", ["Fb", x])] ++ [("Qb", ["Fc", y, "Qa"])] = W at fo7 hW gd6
    have ls7 : LS S6.length fp dp i1 i2 i3 W S7 := ⟨fo7, m7.get gf6, m7.get gd6, lt_of_get gd6, lt_of_get gf6, by omega⟩
    subst hV
    rw [s10_f_law]
    generalize hV : s9_f_law = V
    generalize hU : s8_f_law = U
    simp only [wSs, wS, wT, wEs, wO, wPs, wC, wSrc, wE_loc, wE_lit, wE_con, wE_bin, wE_neg, wE_cmp, wE_cmp2, wE_isN, wE_notN, wE_isB, wE_not, wE_and, wE_or, wE_ite, wE_tup, wE_lst, wE_dic, wE_call, wE_make, wE_meth, wE_fld, wE_sub, wE_slice, wE_bi, wE_vi, wE_bm, wE_isi, wE_lc, wE_lck, eg, es, Option.some.injEq, exists_eq_left', Lit.val]
    refine ⟨2, rfl, ⟨by decide, by decide⟩, ?_⟩
    refine for_inv (callW_mono P _) (fun i env S8 => (∃ x7 x10 x11 x12, env = lwEnv (some (.ref 0)) (some (.ref p)) (some (.ref tp)) x4 (some (.tup ((rsL i1 i2 i3 pr bA bB).map Row.enc ++ [apV "Qa" "Ma" [x], apV "Qb" "Mb" [y, "Qa"], .tup [.str "main", .int 5]]))) (some (.ref rp)) S6.length fp dp x7 x10 x11 x12) ∧ LS S6.length fp dp i1 i2 i3 W S8) ?_ ?_ ⟨⟨_, _, _, _, rfl⟩, ls7⟩
    · rintro i v env S8 hi ⟨⟨x7, x10, x11, x12, rfl⟩, ls8⟩
      refine ⟨trivial, ?_⟩
      subst hU
      simp only [tgW, lwEnv, es]
      refine turn_ok (x7 := some v) (x10 := x10) (x11 := x11) (x12 := x12) ls8 hW h1 h2 h3 il fun y10 y11 y12 S9 ls9 => ?_
      exact ⟨⟨_, _, _, _, rfl⟩, ls9⟩
    · rintro env S8 ⟨⟨x7, x10, x11, x12, rfl⟩, ls8⟩
      refine ⟨trivial, ?_⟩
      subst hV
      simp only [s9_f_law, lwEnv, wSs, wS, wT, wEs, wO, wPs, wC, wSrc, wE_loc, wE_lit, wE_con, wE_bin, wE_neg, wE_cmp, wE_cmp2, wE_isN, wE_notN, wE_isB, wE_not, wE_and, wE_or, wE_ite, wE_tup, wE_lst, wE_dic, wE_call, wE_make, wE_meth, wE_fld, wE_sub, wE_slice, wE_bi, wE_vi, wE_bm, wE_isi, wE_lc, wE_lck, eg, es, Option.some.injEq, exists_eq_left', Lit.val]
      rw [eD]
  rw [ev]
  exact T _ _ _ ((Sm.app _).trans ((Sm.app _).trans ((Sm.app _).trans ((Sm.app _).trans (Sm.app _))))) rfl
end K43

set_option maxHeartbeats 0
open PySem PySem.W PySem.Calls PyProof.Rows in
theorem PySem.Challenge.cw_facework_k43_faces_shown_holds : PySem.Challenge.rw_facework_k43_faces_shown.Holds := by
  w_on; o_law
  refine HandSHeadRun.head_any (r := OpenLaw.row PySem.Challenge.rw_facework_k43_faces_shown) (q := view (OpenLaw.row PySem.Challenge.rw_facework_k43_faces_shown).prog [34]) (H := K43.hk) (ob := K43.ob) (M := 5850) (loose := K43.loose) (d := HandSHeadRun.topDef (OpenLaw.row PySem.Challenge.rw_facework_k43_faces_shown).prog 34) (kwd := []) K43.ob_eq
    (by kernel_rfl) (fun s => by kernel_rfl) K43.run (by kernel_rfl) (by kernel_rfl) (by kernel_rfl) (by rfl) (by first | assumption | decide +kernel) (by decide +kernel) ⟨rfl, rfl, rfl, rfl, rfl, by decide +kernel⟩ ?hw ?hc
  case hw => w_witness2
  case hc => exact Mi.mi_hc (P := K43.P) (tab := K43.tab) (con := K43.con) (j := 230) (r := K43.r_f_law) (x := "_law_script") rfl (by decide) (by kernel_rfl) ⟨rfl, by decide, by decide⟩ (List.all_eq_true.mp K43.rows_ok) K43.bind_ok (fun f d h => Mi.fnOfT_of h) (fun x v h => Mi.conV_of h) (by decide +kernel) (by simp [K43.tab]) rfl (by kernel_rfl) rfl (by kernel_rfl) K43.law_small

