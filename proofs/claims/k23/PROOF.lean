import PyProof.Rows.All
import Wide.All
import OpenK.AllK
import Wide.FinOn
import HandS.ForMost
import HandS.ForExc
import HandS.Wide
import HandS.WideBits
import KE.KeyNested
import KE.KDictKeyed
import PyProof.DictFindH
import HandS.ExcCtx
import HandS.TupAny
import HandS.TupMul
import HandS.TupLe
import HandS.Deep
import HandS.Small
import HandS.IsInst
import HandS.Style
import HandS.SetKeys
import HandS.SortInts
import HandS.WordsDict
import HandS.WordsExc
import HandS.More
import HandS.RaiseMore
import PyProof.AutoSeq1
import HandS.Spec
import HandS.StrMore
import KE.KDictPairs
import HandS.CallSlots
import HandS.HotCalls
import HandS.ExcIs
import HandS.Defaults
import HandS.Zip
import KE.GoesMore
import KE.GoesEnum
import KE.KDictZip
import HandS.ListItems
import HandS.Rev
import HandS.Hot
import PyProof.SumWalkG
import HandS.RevTup
import KE.KDictList
import KE.KUnpack
import HandS.Head0
import HandS.Head1
import HandS.Head2
import HandS.HeadEnd
import HandS.HeadHook1
import HandS.HeadHook2
import HandS.HeadHook3
import HandS.HeadHook4
import PyProof.StrLawsTight
import PyProof.StrLawsChain
import KE.KStateDown
import Lean
import PySem.Challenge.RW_facework_k23_joined_is_the_widest
set_option Elab.async false
set_option linter.all false
set_option maxRecDepth 100000
/-! MiA: a small language for the program's own text: values with tuples as data, a heap of lists, dicts and instances, and what must hold so that a piece of text runs. -/
namespace Mi
open PySem

/-- a value: tuples are data, lists, dicts and instances stand at a place of the heap -/
inductive Val where
  | non | bl (b : Bool) | int (i : Int) | str (x : String) | tup (xs : List Val) | ref (n : Nat) | exc (c : String)
  deriving Inhabited

abbrev Key := Sum Int String
def Key.val : Key → Val
  | .inl i => .int i
  | .inr x => .str x
def Val.key : Val → Option Key
  | .int i => some (.inl i)
  | .str x => some (.inr x)
  | _ => none

inductive Ob where
  | lst (xs : List Val)
  | dic (kvs : List (Key × Val))
  | ins (c : String) (fs : List (String × Val))
  | lck (o : Ob)
  deriving Inhabited

abbrev Hm := List Ob
abbrev Env := List (Option Val)
abbrev Post := Val → Hm → Prop
abbrev XPost := String → Hm → Prop

/-- what a function is called by: its name, or its class's and its own -/
inductive FK where
  | f (x : String) | m (c x : String)
  deriving DecidableEq, Repr, Inhabited
abbrev CallW := FK → List Val → Hm → Post → XPost → Prop

inductive Lit where
  | non | bl (b : Bool) | int (i : Int) | str (x : String)
  deriving DecidableEq, Repr, Inhabited
def Lit.val : Lit → Val
  | .non => .non
  | .bl b => .bl b
  | .int i => .int i
  | .str x => .str x

/-- types for isinstance -/
inductive Ty where
  | int | bool | str | tuple | list | dict | cls (c : String) | exc (c : String) (sb : List String)
  deriving DecidableEq, Repr, Inhabited

/-- built-in functions -/
inductive Bi where
  | len | abs | min | max | int | str | list | tuple | dict | sum | sorted | all | any | range | listD | sortedS
  deriving DecidableEq, Repr, Inhabited
/-- methods of built-in types -/
inductive Bm where
  | append | extend | pop | insert | reverse | count | index | clear
  | dclear | get | setdefault | update | startswith | split | join | isupper | upper | replace | dpop
  deriving DecidableEq, Repr, Inhabited

/-- forms of a built-in's call over another one's -/
inductive Vi where
  | listRev
  | tupRev
  | sumInts
  | dictL
  | listZip
  | dictP
  | listItems
  | dictZ
  | kdic
  | kin
  | knin
  | kadd
  deriving DecidableEq, Repr, Inhabited

inductive Tg where
  | nm (i : Nat)
  | tp (is : List Nat)
  deriving DecidableEq, Repr, Inhabited

mutual
inductive E where
  | loc (i : Nat)
  | lit (c : Lit)
  | con (x : String)
  | bin (op : Operator) (a b : E)
  | neg (a : E)
  | cmp (op : CmpOp) (a b : E)
  | cmp2 (op op' : CmpOp) (a b c : E)
  | isN (a : E)
  | notN (a : E)
  | isB (a : E) (b : Bool)
  | not (a : E)
  | and (a b : E)
  | or (a b : E)
  | ite (c : T) (a b : E)
  | tup (es : Es)
  | lst (es : Es)
  | dic (ps : Ps)
  | call (f : String) (es : Es)
  | make (c : String) (es : Es)
  | meth (c m : String) (o : E) (es : Es)
  | fld (o : E) (f : String)
  | sub (o i : E)
  | slice (o : E) (lo hi : Oe)
  | bi (f : Bi) (es : Es)
  | vi (f : Vi) (es : Es)
  | bm (m : Bm) (o : E) (es : Es)
  | isi (a : E) (ts : List Ty)
  | lc (elt : E) (tg : Tg) (src : Src) (cond : Ot) (own : List (String × Nat))
  | lck (i : Nat) (e : E)
  | lckA (e : E)
/-- a test -/
inductive T where
  | v (e : E)
  | not (t : T)
  | and (t u : T)
  | or (t u : T)
inductive Ot where
  | none
  | some (t : T)
inductive Ps where
  | nil
  | cons (k v : E) (ps : Ps)
inductive Es where
  | nil
  | cons (e : E) (es : Es)
inductive Oe where
  | none
  | some (e : E)
/-- what a loop walks -/
inductive Src where
  | seq (e : E)
  | rng1 (a : E)
  | rng2 (a b : E)
  | rng3 (a b c : E)
  | enum (a : E)
  | zip (a b : E)
  | rev (a : E)
  | items (a : E)
  | values (a : E)
  | keys (a : E)
end

mutual
inductive St where
  | set (i : Nat) (e : E)
  | setT (is : List Nat) (e : E)
  | setL (is : List Nat) (e : E)
  | par (is : List Nat) (es : Es)
  | setI (o i e : E)
  | setF (o : E) (f : String) (e : E)
  | aug (i : Nat) (op : Operator) (e : E)
  | augI (o i : E) (op : Operator) (e : E)
  | augF (o : E) (f : String) (op : Operator) (e : E)
  | expr (e : E)
  | ret (e : E)
  | retN
  | ife (c : T) (a b : Sts)
  | for (tg : Tg) (src : Src) (body : Sts)
  | while (c : T) (body : Sts)
  | raise (c : String)
  | try (body : Sts) (hs : Hs) (orelse : Sts)
  | tryK (body : Sts) (c : String) (i t : Nat)
  | cont
  | pass
  | lck (i : Nat) (s : St)
inductive Sts where
  | nil
  | cons (s : St) (ss : Sts)
inductive Hs where
  | nil
  | cons (c : String) (i : Option Nat) (body : Sts) (rest : Hs)
end

/-! ### environments -/
def eg : Env → Nat → Option Val
  | [], _ => none
  | x :: _, 0 => x
  | _ :: r, n + 1 => eg r n
def es : Env → Nat → Option Val → Env
  | [], _, _ => []
  | _ :: r, 0, v => v :: r
  | x :: r, n + 1, v => x :: es r n v
theorem eg_eq : ∀ (e : Env) (i : Nat), eg e i = (e[i]?).join
  | [], i => by simp [eg]
  | x :: r, 0 => by simp [eg]
  | x :: r, n + 1 => by simp [eg, eg_eq r n]
theorem es_eq : ∀ (e : Env) (i : Nat) (v : Option Val), es e i v = e.set i v
  | [], i, v => by simp [es]
  | x :: r, 0, v => by simp [es]
  | x :: r, n + 1, v => by simp [es, es_eq r n]
def ewipe (e : Env) : List Nat → Env
  | [] => e
  | v :: vs => es (ewipe e vs) v none

/-! ### values -/
def Hm.lst (S : Hm) (n : Nat) : Option (List Val) := match S[n]? with
  | some (.lst xs) => some xs
  | some (.lck (.lst xs)) => some xs
  | _ => none
def Hm.dic (S : Hm) (n : Nat) : Option (List (Key × Val)) := match S[n]? with
  | some (.dic xs) => some xs
  | some (.lck (.dic xs)) => some xs
  | _ => none
def lookK {α : Type} (kvs : List (Key × α)) (k : Key) : Option α := (kvs.find? fun kv => decide (kv.1 = k)).map (·.2)
def putK {α : Type} (kvs : List (Key × α)) (k : Key) (v : α) : List (Key × α) :=
  if (kvs.any fun kv => decide (kv.1 = k)) = true then kvs.map (fun kv => if kv.1 = k then (kv.1, v) else kv) else kvs ++ [(k, v)]
def dropK {α : Type} (kvs : List (Key × α)) (k : Key) : List (Key × α) := kvs.filter fun kv => !decide (kv.1 = k)
def putF {α : Type} (f : String) (v : α) : List (String × α) → List (String × α)
  | [] => [(f, v)]
  | (g, x) :: r => if g = f then (g, v) :: r else (g, x) :: putF f v r

def truth (v : Val) (S : Hm) : Option Bool := match v with
  | .non => some false
  | .bl b => some b
  | .int i => some (i != 0)
  | .str x => if x.length ≤ sizeLine then some (x.length != 0) else none
  | .tup xs => some (!xs.isEmpty)
  | .ref n => match S[n]? with
    | some (.lst xs) => some (!xs.isEmpty)
    | some (.lck (.lst xs)) => some (!xs.isEmpty)
    | some (.dic xs) => some (!xs.isEmpty)
    | _ => none
  | .exc _ => none

/-- the place of an index -/
def ixN (n : Nat) (i : Int) : Option Nat := if 0 ≤ i then (if i < n then some i.toNat else none) else if -(n : Int) ≤ i then some (i + n).toNat else none
def atI {α : Type} (xs : List α) (i : Int) : Option α := (ixN xs.length i).bind fun j => xs[j]?
def sIx (n d : Nat) : Option Int → Nat
  | none => d
  | some v => if v < 0 then (v + (n : Int)).toNat else min v.toNat n
def cut {α : Type} (xs : List α) (lo hi : Option Int) : List α := (xs.drop (sIx xs.length 0 lo)).take (sIx xs.length xs.length hi - sIx xs.length 0 lo)


/-- nested data, read through the heap, for == -/
def dat (S : Hm) : Nat → Val → Option PyData
  | _, .non => some .none
  | _, .bl b => some (.bool b)
  | _, .int i => some (.int i)
  | _, .str x => some (.str (Str.ofString x))
  | k + 1, .tup xs => (xs.mapM (dat S k)).map .tuple
  | k + 1, .ref n => match Hm.lst S n with
    | some xs => (xs.mapM (dat S k)).map .list
    | none => none
  | _, _ => none
/-- a dict's values beside another one's -/
def dHits (S : Hm) (ls : List (Key × Val)) : List (Key × Val) → Option Bool
  | [] => some true
  | p :: r => match lookK ls p.1 with
    | none => some false
    | some u => match dat S 58 p.2 with
      | none => none
      | some d => match dat S 58 u with
        | none => none
        | some e => match dHits S ls r with
          | none => none
          | some b => some (PyData.eqv d e && b)
def eqD (x y : Val) (S : Hm) (Q : Bool → Prop) : Prop := match x, y with
  | .ref n, .ref m => ∃ ks ls b, S[n]? = some (.dic ks) ∧ S[m]? = some (.dic ls) ∧ dHits S ls ks = some b ∧ Q (decide (ks.length = ls.length) && b)
  | _, _ => False
def eqW (x y : Val) (S : Hm) (Q : Bool → Prop) : Prop := (∃ d e, dat S 60 x = some d ∧ dat S 60 y = some e ∧ Q (PyData.eqv d e)) ∨ eqD x y S Q

def flat : Val → Bool
  | .non => true
  | .bl _ => true
  | .int _ => true
  | .str _ => true
  | _ => false
/-- == of flat values -/
def feq : Val → Val → Bool
  | .non, .non => true
  | .bl a, .bl b => a == b
  | .bl a, .int b => (if a then 1 else 0) == b
  | .int a, .bl b => a == (if b then 1 else 0)
  | .int a, .int b => a == b
  | .str a, .str b => a == b
  | _, _ => false
/-- a text in a text -/
def subIn (x y : String) : Bool := !(Builtin.Str.occurrences (Str.ofString y) (Str.ofString x) 0 (Str.ofString y).length 1).isEmpty

def inW (x y : Val) (S : Hm) (Q : Bool → Prop) : Prop := match y with
  | .str b => match x with
    | .str a => (∃ c, a.toList = [c] ∧ Q (decide (c ∈ b.toList))) ∨ Q (subIn a b)
    | _ => False
  | .tup xs => flat x = true ∧ xs.all flat = true ∧ Q (xs.any fun y => feq y x)
  | .ref n =>
    (∃ xs, Hm.lst S n = some xs ∧ ((flat x = true ∧ xs.all flat = true ∧ Q (xs.any fun y => feq y x)) ∨ ∃ d ds, dat S 60 x = some d ∧ xs.mapM (dat S 59) = some ds ∧ Q (ds.any fun z => PyData.eqv z d)))
    ∨ ∃ kvs k, Hm.dic S n = some kvs ∧ x.key = some k ∧ Q (lookK kvs k).isSome
  | _ => False

def mulOk (i j : Int) : Prop := i.natAbs.log2 + j.natAbs.log2 < 100000000
def divOk (j : Int) : Prop := 0 < j ∧ j.natAbs.log2 < 9000
def powOk (i j : Int) : Prop := 0 ≤ j ∧ j ≤ 1000000 ∧ i.natAbs < 2 ^ 64
def shlOk (i j : Int) : Prop := 0 ≤ j ∧ j ≤ 1000000 ∧ i.natAbs < 2 ^ 64

/-- a text n times -/
def strRep (a : String) : Nat → String
  | 0 => ""
  | n + 1 => strRep a n ++ a
def binW (op : Operator) (x y : Val) (S : Hm) (Q : Post) : Prop := match op, x, y with
  | .Add, .int i, .int j => Q (.int (i + j)) S
  | .Add, .str a, .str b => a.length + b.length ≤ sizeLine ∧ Q (.str (a ++ b)) S
  | .Add, .tup xs, .tup ys => xs.length + ys.length ≤ sizeLine ∧ Q (.tup (xs ++ ys)) S
  | .Add, .ref n, .ref m => ∃ xs ys, S[n]? = some (.lst xs) ∧ S[m]? = some (.lst ys) ∧ xs.length + ys.length ≤ sizeLine ∧ Q (.ref S.length) (S ++ [.lst (xs ++ ys)])
  | .Sub, .int i, .int j => Q (.int (i - j)) S
  | .Mult, .int i, .int j => mulOk i j ∧ Q (.int (i * j)) S
  | .Mult, .ref n, .int k => ∃ xs, S[n]? = some (.lst xs) ∧ -(2 ^ 63) ≤ k ∧ k < 2 ^ 63 ∧ xs.length * k.toNat ≤ sizeLine ∧ Q (.ref S.length) (S ++ [.lst (List.replicate k.toNat xs).flatten])
  | .Mult, .str a, .int k => -(2 ^ 63) ≤ k ∧ k ≤ 16777216 ∧ a.length * k.toNat ≤ 16777216 ∧ Q (.str (strRep a k.toNat)) S
  | .Mult, .tup xs, .int k => xs ≠ [] ∧ 0 ≤ k ∧ k ≤ 1000 ∧ xs.length ≤ 1000 ∧ Q (.tup (List.replicate k.toNat xs).flatten) S
  | .FloorDiv, .int i, .int j => divOk j ∧ Q (.int (i / j)) S
  | .Mod, .int i, .int j => 0 < j ∧ Q (.int (i % j)) S
  | .Pow, .int i, .int j => powOk i j ∧ Q (.int (i ^ j.toNat)) S
  | .LShift, .int i, .int j => shlOk i j ∧ Q (.int (i * 2 ^ j.toNat)) S
  | .RShift, .int i, .int j => 0 ≤ j ∧ Q (.int (i / 2 ^ j.toNat)) S
  | _, _, _ => False

/-- the same in place -/
def ibinW (op : Operator) (x y : Val) (S : Hm) (Q : Post) : Prop := match op, x, y with
  | .Add, .int i, .int j => Q (.int (i + j)) S
  | .Add, .str a, .str b => a.length + b.length ≤ sizeLine ∧ Q (.str (a ++ b)) S
  | .Sub, .int i, .int j => Q (.int (i - j)) S
  | .Add, .ref n, .ref m => ∃ xs ys, S[n]? = some (.lst xs) ∧ S[m]? = some (.lst ys) ∧ xs.length + ys.length ≤ sizeLine ∧ Q (.ref n) (S.set n (.lst (xs ++ ys)))
  | _, _, _ => False

/-- texts by their signs -/
def ltS (a b : String) : Bool := decide ((Str.ofString a).cps.toList < (Str.ofString b).cps.toList)
def cmpW (op : CmpOp) (x y : Val) (S : Hm) (Q : Bool → Prop) : Prop := match op with
  | .Eq => eqW x y S Q
  | .NotEq => eqW x y S fun b => Q (!b)
  | .In => inW x y S Q
  | .NotIn => inW x y S fun b => Q (!b)
  | .Lt => match x, y with
    | .int i, .int j => Q (decide (i < j))
    | .str a, .str b => Q (ltS a b)
    | _, _ => False
  | .LtE => match x, y with
    | .int i, .int j => Q (decide (i ≤ j))
    | _, _ => False
  | .Gt => match x, y with
    | .int i, .int j => Q (decide (j < i))
    | _, _ => False
  | .GtE => match x, y with
    | .int i, .int j => Q (decide (j ≤ i))
    | _, _ => False
  | _ => False

def subW (o i : Val) (S : Hm) (Q : Post) : Prop := match o, i with
  | .tup xs, .int k => ∃ v, atI xs k = some v ∧ Q v S
  | .str x, .int k => x.length ≤ sizeLine ∧ ∃ c, atI x.toList k = some c ∧ Q (.str (String.singleton c)) S
  | .ref n, k => (∃ xs j v, k = .int j ∧ Hm.lst S n = some xs ∧ atI xs j = some v ∧ Q v S) ∨ ∃ kvs q v, Hm.dic S n = some kvs ∧ k.key = some q ∧ lookK kvs q = some v ∧ Q v S
  | _, _ => False

def sliceW (o : Val) (lo hi : Option Int) (S : Hm) (Q : Post) : Prop := match o with
  | .tup xs => Q (.tup (cut xs lo hi)) S
  | .str x => x.length ≤ sizeLine ∧ Q (.str (String.ofList (cut x.toList lo hi))) S
  | .ref n => ∃ xs, Hm.lst S n = some xs ∧ Q (.ref S.length) (S ++ [.lst (cut xs lo hi)])
  | _ => False

def biW (f : Bi) (args : List Val) (S : Hm) (Q : Post) : Prop := match f, args with
  | .len, [x] => match x with
    | .str a => a.length ≤ sizeLine ∧ Q (.int a.length) S
    | .tup xs => Q (.int xs.length) S
    | .ref n => (∃ xs, Hm.lst S n = some xs ∧ Q (.int xs.length) S) ∨ ∃ kvs, S[n]? = some (.dic kvs) ∧ Q (.int kvs.length) S
    | _ => False
  | .abs, [.int i] => Q (.int (if i < 0 then -i else i)) S
  | .min, [.int i, .int j] => Q (.int (if j < i then j else i)) S
  | .max, [.int i, .int j] => Q (.int (if j > i then j else i)) S
  | .min, [.ref n] => ∃ ns : List Int, Hm.lst S n = some (ns.map Val.int) ∧ ns ≠ [] ∧ ∀ m, m ∈ ns → (∀ y, y ∈ ns → m ≤ y) → Q (.int m) S
  | .max, [.ref n] => ∃ ns : List Int, Hm.lst S n = some (ns.map Val.int) ∧ ns ≠ [] ∧ ∀ m, m ∈ ns → (∀ y, y ∈ ns → y ≤ m) → Q (.int m) S
  | .int, [.int i] => Q (.int i) S
  | .int, [.bl b] => Q (.int (if b then 1 else 0)) S
  | .int, [.str x] => ∃ n, PySem.intText? (Str.ofString x) = some n ∧ x.length ≤ 640 ∧ Q (.int n) S
  | .str, [.int i] => i.natAbs.log2 < 1920 ∧ Q (.str (toString i)) S
  | .str, [.str a] => Q (.str a) S
  | .list, [.tup xs] => Q (.ref S.length) (S ++ [.lst xs])
  | .list, [.ref n] => ∃ xs, Hm.lst S n = some xs ∧ Q (.ref S.length) (S ++ [.lst xs])
  | .tuple, [.tup xs] => Q (.tup xs) S
  | .tuple, [.ref n] => ∃ xs, Hm.lst S n = some xs ∧ Q (.tup xs) S
  | .dict, [.ref n] => ∃ kvs, Hm.dic S n = some kvs ∧ Q (.ref S.length) (S ++ [.dic kvs])
  | .sum, [.ref n] => ∃ ns : List Int, Hm.lst S n = some (ns.map Val.int) ∧ Q (.int ns.sum) S
  | .all, [.ref n] => ∃ bs : List Bool, Hm.lst S n = some (bs.map Val.bl) ∧ Q (.bl (bs.all id)) S
  | .any, [.ref n] => ∃ bs : List Bool, Hm.lst S n = some (bs.map Val.bl) ∧ Q (.bl (bs.any id)) S
  | .sorted, [.ref n] => (∃ ns : List Int, Hm.lst S n = some (ns.map Val.int) ∧ ∀ ns' : List Int, ns'.Perm ns → ns'.Pairwise (· ≤ ·) → Q (.ref S.length) (S ++ [.lst (ns'.map Val.int)])) ∨
    ∃ (kvs : List (Key × Val)) (ks : List String), Hm.dic S n = some kvs ∧ kvs.map (·.1) = ks.map Sum.inr ∧ ks.length < 64 ∧ ∀ ks' : List String, ks'.Perm ks → Q (.ref S.length) (S ++ [.lst (ks'.map Val.str)])
  | .listD, [.ref n] => ∃ kvs, Hm.dic S n = some kvs ∧ Q (.ref S.length) (S ++ [.lst (kvs.map fun kv => kv.1.val)])
  | .sortedS, [.ref n] => ∃ ks : List String, Hm.lst S n = some (ks.map Val.str) ∧ ks.length < 64 ∧ ∀ ks' : List String, ks'.Perm ks → Q (.ref S.length) (S ++ [.lst (ks'.map Val.str)])
  | _, _ => False

/-- how many are true -/
def onesB : List Bool → Int
  | [] => 0
  | b :: r => (if b then 1 else 0) + onesB r
def pairL : List Val → List Val → List Val
  | x :: xs, y :: ys => .tup [x, y] :: pairL xs ys
  | _, _ => []
def ltOf (v : Val) (S : Hm) (K : List Val → (Hm → Prop) → Prop) : Prop := match v with
  | .tup xs => K xs fun _ => True
  | .ref n => ∃ xs, Hm.lst S n = some xs ∧ K xs fun S => Hm.lst S n = some xs
  | _ => False
/-- a key of a table of kinds: texts, tuples of such, so deep -/
def kOk : Nat → Val → Bool
  | _, .str _ => true
  | n + 1, .tup xs => xs.all (kOk n)
  | _, _ => false
def viW (f : Vi) (args : List Val) (S : Hm) (Q : Post) : Prop := match f, args with
  | .listRev, [.tup xs] => Q (.ref S.length) (S ++ [.lst xs.reverse])
  | .tupRev, [.ref n] => ∃ xs, Hm.lst S n = some xs ∧ Q (.tup xs.reverse) S
  | .dictL, [.ref n] => Hm.lst S n = some [] ∧ Q (.ref S.length) (S ++ [.dic []])
  | .listZip, [x, y] => ltOf x S fun xs _ => ltOf y S fun ys _ => Q (.ref S.length) (S ++ [.lst (pairL xs ys)])
  | .sumInts, [.ref n] => ∃ bs : List Bool, Hm.lst S n = some (bs.map Val.bl) ∧ Q (.int (onesB bs)) S
  | .dictP, [.ref n] => ∃ ps : List (Key × Val), Hm.lst S n = some (ps.map fun p => .tup [p.1.val, p.2]) ∧ ps.length ≤ 1000 ∧ Q (.ref S.length) (S ++ [.dic (ps.foldl (fun d p => putK d p.1 p.2) [])])
  | .dictZ, [x, y] => ltOf x S fun xs _ => ltOf y S fun ys _ => ∃ ps : List (Key × Val), pairL xs ys = (ps.map fun p => .tup [p.1.val, p.2]) ∧ Q (.ref S.length) (S ++ [.dic (ps.foldl (fun d p => putK d p.1 p.2) [])])
  | .listItems, [.ref n] => ∃ kvs, S[n]? = some (.dic kvs) ∧ Q (.ref S.length) (S ++ [.lst (kvs.map fun p => .tup [p.1.val, p.2])])
  | .kdic, [] => Q (.ref S.length) (S ++ [.lck (.ins "{}" [])])
  | .kin, [x, .ref n] => ∃ fs, S[n]? = some (.lck (.ins "{}" fs)) ∧ kOk 8 x = true ∧ ∀ b, (b = true ↔ ∃ p ∈ fs, p.2 = x) → Q (.bl b) S
  | .knin, [x, .ref n] => ∃ fs, S[n]? = some (.lck (.ins "{}" fs)) ∧ kOk 8 x = true ∧ ∀ b, (b = true ↔ ∃ p ∈ fs, p.2 = x) → Q (.bl (!b)) S
  | .kadd, [v, .ref n, x] => ∃ fs, S[n]? = some (.lck (.ins "{}" fs)) ∧ kOk 8 x = true ∧ fs.length < sizeLine ∧ ((∃ p ∈ fs, p.2 = x) → Q .non S) ∧ ((¬ ∃ p ∈ fs, p.2 = x) → Q .non (S.set n (.lck (.ins "{}" (fs ++ [("", x)])))))
  | _, _ => False
/-- which objects a method belongs to, and what it does -/
def bmT (m : Bm) (o : Val) (S : Hm) : Prop := match m with
  | .append | .extend | .insert | .reverse | .count | .index | .clear => ∃ n xs, o = .ref n ∧ Hm.lst S n = some xs
  | .pop => ∃ n xs, o = .ref n ∧ Hm.lst S n = some xs
  | .startswith | .split | .join | .isupper | .upper | .replace => ∃ x, o = .str x
  | .dclear | .get | .setdefault | .update | .dpop => ∃ n kvs, o = .ref n ∧ S[n]? = some (.dic kvs)
def bmW (m : Bm) (o : Val) (args : List Val) (S : Hm) (Q : Post) : Prop := match m, o, args with
  | .append, .ref n, [y] => ∃ xs, S[n]? = some (.lst xs) ∧ xs.length < sizeLine ∧ Q .non (S.set n (.lst (xs ++ [y])))
  | .extend, .ref n, [.ref b] => ∃ xs ys, S[n]? = some (.lst xs) ∧ S[b]? = some (.lst ys) ∧ xs.length + ys.length ≤ sizeLine ∧ Q .non (S.set n (.lst (xs ++ ys)))
  | .extend, .ref n, [.tup ys] => ∃ xs, S[n]? = some (.lst xs) ∧ xs.length + ys.length ≤ sizeLine ∧ Q .non (S.set n (.lst (xs ++ ys)))
  | .pop, .ref n, [] => ∃ xs y, S[n]? = some (.lst xs) ∧ xs[xs.length - 1]? = some y ∧ Q y (S.set n (.lst xs.dropLast))
  | .pop, .ref n, [.int i] => ∃ xs k y, S[n]? = some (.lst xs) ∧ ixN xs.length i = some k ∧ xs.length ≤ sizeLine ∧ xs[k]? = some y ∧ Q y (S.set n (.lst (xs.eraseIdx k)))
  | .insert, .ref n, [.int i, y] => ∃ xs, S[n]? = some (.lst xs) ∧ xs.length < sizeLine ∧ 0 ≤ i ∧ i < 2 ^ 63 ∧ Q .non (S.set n (.lst (xs.take i.toNat ++ [y] ++ xs.drop i.toNat)))
  | .reverse, .ref n, [] => ∃ xs, S[n]? = some (.lst xs) ∧ Q .non (S.set n (.lst xs.reverse))
  | .index, .ref n, [y] => ∃ xs j z, Hm.lst S n = some xs ∧ flat y = true ∧ xs.all flat = true ∧ xs[j]? = some z ∧ feq z y = true ∧ (∀ (m : Nat) (z' : Val), m < j → xs[m]? = some z' → feq z' y = false) ∧ Q (.int (j : Nat)) S
  | .count, .ref n, [y] => ∃ xs, Hm.lst S n = some xs ∧ flat y = true ∧ xs.all flat = true ∧ Q (.int (xs.countP fun z => feq z y : Nat)) S
  | .dclear, .ref n, [] => ∃ kvs, S[n]? = some (.dic kvs) ∧ Q .non (S.set n (.dic []))
  | .get, .ref n, [k] => ∃ kvs q, Hm.dic S n = some kvs ∧ k.key = some q ∧ Q ((lookK kvs q).getD .non) S
  | .get, .ref n, [k, d] => ∃ kvs q, Hm.dic S n = some kvs ∧ k.key = some q ∧ Q ((lookK kvs q).getD d) S
  | .setdefault, .ref n, [k, d] => ∃ kvs q, S[n]? = some (.dic kvs) ∧ k.key = some q ∧ kvs.length < sizeLine ∧ (∀ v, lookK kvs q = some v → Q v S) ∧ (lookK kvs q = none → Q d (S.set n (.dic (putK kvs q d))))
  | .startswith, .str a, [.str b] => Q (.bl (Txt.startswith (Str.ofString a) (Str.ofString b))) S
  | .split, .str a, [.str b] => ∃ ys : List String, Txt.split (Str.ofString a) (Str.ofString b) = ys.map Str.ofString ∧ b.length ≠ 0 ∧ a.length + 2 ≤ sizeLine ∧ Q (.ref S.length) (S ++ [.lst (ys.map Val.str)])
  | .split, .str a, [] => ∃ ys : List String, Txt.words (Str.ofString a) = ys.map Str.ofString ∧ a.length + 2 ≤ sizeLine ∧ Q (.ref S.length) (S ++ [.lst (ys.map Val.str)])
  | .join, .str a, [.ref n] => ∃ (ys : List String) (y : String), Hm.lst S n = some (ys.map Val.str) ∧ Txt.join (Str.ofString a) (ys.map Str.ofString) = Str.ofString y ∧ (ys.map String.length).sum + ys.length * a.length ≤ 16777216 ∧ Q (.str y) S
  | .isupper, .str a, [] => Q (.bl (Txt.isupper (Str.ofString a))) S
  | .upper, .str a, [] => ∃ y : String, Txt.upper (Str.ofString a) = Str.ofString y ∧ a.length ≤ 5592405 ∧ Q (.str y) S
  | .update, .ref n, [.ref k] => ∃ (kvs ps : List (Key × Val)), S[n]? = some (.dic kvs) ∧ Hm.lst S k = some (ps.map fun p => .tup [p.1.val, p.2]) ∧ kvs.length + ps.length ≤ sizeLine ∧ Q .non (S.set n (.dic (ps.foldl (fun d p => putK d p.1 p.2) kvs)))
  | .dpop, .ref n, [k] => ∃ kvs q v, S[n]? = some (.dic kvs) ∧ k.key = some q ∧ lookK kvs q = some v ∧ Q v (S.set n (.dic (dropK kvs q)))
  | _, _, _ => False

/-- o[i] = v -/
def setW (o i v : Val) (S : Hm) (Q : Hm → Prop) : Prop := match o with
  | .ref n => (∃ xs k j, S[n]? = some (.lst xs) ∧ i = .int k ∧ ixN xs.length k = some j ∧ Q (S.set n (.lst (xs.set j v)))) ∨ ∃ kvs q, S[n]? = some (.dic kvs) ∧ i.key = some q ∧ kvs.length < sizeLine ∧ Q (S.set n (.dic (putK kvs q v)))
  | _ => False

def isTy (v : Val) (S : Hm) : Ty → Option Bool
  | .int => match v with
    | .int _ | .bl _ => some true
    | .exc _ => none
    | _ => some false
  | .bool => match v with
    | .bl _ => some true
    | .exc _ => none
    | _ => some false
  | .str => match v with
    | .str _ => some true
    | .exc _ => none
    | _ => some false
  | .tuple => match v with
    | .tup _ => some true
    | .exc _ => none
    | _ => some false
  | .list => match v with
    | .ref n => match S[n]? with
      | some (.lst _) | some (.lck (.lst _)) => some true
      | some (.dic _) | some (.lck (.dic _)) | some (.ins _ _) => some false
      | _ => none
    | .exc _ => none
    | _ => some false
  | .dict => match v with
    | .ref n => match S[n]? with
      | some (.dic _) | some (.lck (.dic _)) => some true
      | some (.lst _) | some (.lck (.lst _)) | some (.ins _ _) => some false
      | _ => none
    | .exc _ => none
    | _ => some false
  | .cls c => match v with
    | .ref n => match S[n]? with
      | some (.ins c' _) => some (c' == c)
      | some (.dic _) | some (.lst _) => some false
      | _ => none
    | .exc _ => none
    | _ => some false
  | .exc _ sb => match v with
    | .exc c => some (decide (c ∈ sb))
    | .ref n => match S[n]? with
      | some (.lck (.ins c _)) => if c = "{}" then none else some (decide (c ∈ sb))
      | _ => none
    | _ => none

def tgW : Tg → Val → Env → (Env → Prop) → Prop
  | .nm i, v, env, K => K (es env i (some v))
  | .tp is, v, env, K => ∃ xs, v = .tup xs ∧ xs.length = is.length ∧ K ((is.zip xs).foldl (fun e p => es e p.1 (some p.2)) env)

/-- a comprehension's turns -/
def lcLoop (turn : Val → Hm → (Option Val → Hm → Prop) → Prop) (guard : Hm → Prop) : List Val → List Val → Hm → (List Val → Hm → Prop) → Prop
  | [], acc, S, Q => guard S ∧ Q acc S
  | v :: vs, acc, S, Q => guard S ∧ turn v S fun r S1 => match r with
    | some x => acc.length < sizeLine ∧ lcLoop turn guard vs (acc ++ [x]) S1 Q
    | none => lcLoop turn guard vs acc S1 Q

def rangeL (lo step : Int) : Nat → List Val
  | 0 => []
  | n + 1 => .int lo :: rangeL (lo + step) step n
def enumL : Nat → List Val → List Val
  | _, [] => []
  | i, x :: xs => .tup [.int (i : Nat), x] :: enumL (i + 1) xs
/-- what a list or tuple holds, and what must stay -/
def seqOf (v : Val) (S : Hm) (K : List Val → (Hm → Prop) → Prop) : Prop := match v with
  | .tup xs => K xs fun _ => True
  | .ref n => ∃ xs, Hm.lst S n = some xs ∧ K xs fun S => Hm.lst S n = some xs
  | .str x => K (x.toList.map fun c => .str (String.singleton c)) fun _ => True
  | _ => False
def lstOf (v : Val) (S : Hm) (K : List Val → (Hm → Prop) → Prop) : Prop := match v with
  | .ref n => ∃ xs, Hm.lst S n = some xs ∧ K xs fun S => Hm.lst S n = some xs
  | _ => False
def zipOf (v w : Val) (S : Hm) (K : List Val → (Hm → Prop) → Prop) : Prop := ltOf v S fun xs g => ltOf w S fun ys g' => K (pairL xs ys) fun S => g S ∧ g' S
def rOk (j : Int) : Prop := -(2 ^ 62) ≤ j ∧ j < 2 ^ 62

section
variable (G : String → Option Val) (C : CallW)
mutual
def wE : XPost → E → Env → Hm → Post → Prop
  | X, .loc i, env, S, Q => ∃ v, eg env i = some v ∧ Q v S
  | X, .lit c, _, S, Q => Q c.val S
  | X, .con x, _, S, Q => ∃ v, G x = some v ∧ Q v S
  | X, .bin op a b, env, S, Q => wE X a env S fun x S1 => wE X b env S1 fun y S2 => binW op x y S2 Q
  | X, .neg a, env, S, Q => wE X a env S fun x S1 => ∃ i, x = .int i ∧ Q (.int (-i)) S1
  | X, .cmp op a b, env, S, Q => wE X a env S fun x S1 => wE X b env S1 fun y S2 => cmpW op x y S2 fun r => Q (.bl r) S2
  | X, .cmp2 op op' a b c, env, S, Q => wE X a env S fun x S1 => wE X b env S1 fun y S2 => cmpW op x y S2 fun r => if r = true then wE X c env S2 fun z S3 => cmpW op' y z S3 fun r' => Q (.bl r') S3 else Q (.bl false) S2
  | X, .isN a, env, S, Q => wE X a env S fun x S1 => Q (.bl (match x with | .non => true | _ => false)) S1
  | X, .notN a, env, S, Q => wE X a env S fun x S1 => Q (.bl (match x with | .non => false | _ => true)) S1
  | X, .isB a b, env, S, Q => wE X a env S fun x S1 => ∃ c, x = .bl c ∧ Q (.bl (c == b)) S1
  | X, .not a, env, S, Q => wE X a env S fun x S1 => ∃ b, x = .bl b ∧ Q (.bl (!b)) S1
  | X, .and a b, env, S, Q => wE X a env S fun x S1 => ∃ c, x = .bl c ∧ if c = true then wE X b env S1 Q else Q (.bl false) S1
  | X, .or a b, env, S, Q => wE X a env S fun x S1 => ∃ c, x = .bl c ∧ if c = true then Q (.bl true) S1 else wE X b env S1 Q
  | X, .ite c a b, env, S, Q => wT X c env S fun r S1 => if r = true then wE X a env S1 Q else wE X b env S1 Q
  | X, .tup es, env, S, Q => wEs X es env S fun vs S1 => vs.length ≤ sizeLine ∧ Q (.tup vs) S1
  | X, .lst es, env, S, Q => wEs X es env S fun vs S1 => vs.length ≤ sizeLine ∧ Q (.ref S1.length) (S1 ++ [.lst vs])
  | X, .dic ps, env, S, Q => wPs X ps env S fun kvs S1 => Q (.ref S1.length) (S1 ++ [.dic (kvs.foldl (fun d p => putK d p.1 p.2) [])])
  | X, .call f es, env, S, Q => wEs X es env S fun vs S1 => C (.f f) vs S1 Q X
  | X, .make c es, env, S, Q => wEs X es env S fun vs S1 => C (.m c "__init__") (.ref S1.length :: vs) (S1 ++ [.ins c []]) (fun v S2 => v = .non ∧ Q (.ref S1.length) S2) X
  | X, .meth c m o es, env, S, Q => wE X o env S fun x S1 => ∃ n fs, x = .ref n ∧ S1[n]? = some (.ins c fs) ∧ fs.lookup m = none ∧ wEs X es env S1 fun vs S2 => C (.m c m) (x :: vs) S2 Q X
  | X, .fld o f, env, S, Q => wE X o env S fun x S1 => ∃ n c fs v, x = .ref n ∧ S1[n]? = some (.ins c fs) ∧ fs.lookup f = some v ∧ Q v S1
  | X, .sub o i, env, S, Q => wE X o env S fun x S1 => wE X i env S1 fun y S2 => subW x y S2 Q
  | X, .slice o lo hi, env, S, Q => wE X o env S fun x S1 => wO X lo env S1 fun a S2 => wO X hi env S2 fun b S3 => sliceW x a b S3 Q
  | X, .bi f es, env, S, Q => wEs X es env S fun vs S1 => biW f vs S1 Q
  | X, .vi f es, env, S, Q => wEs X es env S fun vs S1 => viW f vs S1 Q
  | X, .bm m o es, env, S, Q => wE X o env S fun x S1 => bmT m x S1 ∧ wEs X es env S1 fun vs S2 => bmW m x vs S2 Q
  | X, .isi a ts, env, S, Q => wE X a env S fun x S1 => ∃ bs, ts.mapM (isTy x S1) = some bs ∧ Q (.bl (bs.any id)) S1
  | X, .lc elt tg src cond own, env, S, Q => wSrc X src env S fun items guard S1 =>
      lcLoop (fun v S K => tgW tg v (ewipe env (own.map (·.2))) fun env2 => wC X cond env2 S fun b S2 => if b = true then wE X elt env2 S2 fun x S3 => K (some x) S3 else K none S2) guard items [] S1
        fun acc S2 => Q (.ref S2.length) (S2 ++ [.lst acc])
  | X, .lck i e, env, S, Q => ∃ n kvs, eg env i = some (.ref n) ∧ S[n]? = some (.dic kvs) ∧ wE X e env (S.set n (.lck (.dic kvs))) fun v S' => S'[n]? = some (.lck (.dic kvs)) ∧ Q v (S'.set n (.dic kvs))
  | X, .lckA e, env, S, Q => ∃ n kvs, S[n]? = some (.dic kvs) ∧ wE X e env (S.set n (.lck (.dic kvs))) fun v S' => S'[n]? = some (.lck (.dic kvs)) ∧ Q v (S'.set n (.dic kvs))
def wEs : XPost → Es → Env → Hm → (List Val → Hm → Prop) → Prop
  | X, .nil, _, S, Q => Q [] S
  | X, .cons e es, env, S, Q => wE X e env S fun x S1 => wEs X es env S1 fun xs S2 => Q (x :: xs) S2
def wPs : XPost → Ps → Env → Hm → (List (Key × Val) → Hm → Prop) → Prop
  | X, .nil, _, S, Q => Q [] S
  | X, .cons k v ps, env, S, Q => wE X k env S fun x S1 => wE X v env S1 fun y S2 => ∃ q, x.key = some q ∧ wPs X ps env S2 fun r S3 => Q ((q, y) :: r) S3
def wO : XPost → Oe → Env → Hm → (Option Int → Hm → Prop) → Prop
  | X, .none, _, S, Q => Q none S
  | X, .some e, env, S, Q => wE X e env S fun x S1 => ∃ i, x = .int i ∧ Q (some i) S1
/-- a comprehension's test -/
def wC : XPost → Ot → Env → Hm → (Bool → Hm → Prop) → Prop
  | X, .none, _, S, Q => Q true S
  | X, .some t, env, S, Q => wT X t env S Q
def wT : XPost → T → Env → Hm → (Bool → Hm → Prop) → Prop
  | X, .v e, env, S, Q => wE X e env S fun x S1 => ∃ b, truth x S1 = some b ∧ Q b S1
  | X, .not a, env, S, Q => wT X a env S fun b S1 => Q (!b) S1
  | X, .and a b, env, S, Q => wT X a env S fun c S1 => if c = true then wT X b env S1 Q else Q false S1
  | X, .or a b, env, S, Q => wT X a env S fun c S1 => if c = true then Q true S1 else wT X b env S1 Q
def wSrc : XPost → Src → Env → Hm → (List Val → (Hm → Prop) → Hm → Prop) → Prop
  | X, .seq e, env, S, K => wE X e env S fun x S1 => seqOf x S1 fun items guard => K items guard S1
  | X, .rng1 a, env, S, K => wE X a env S fun x S1 => ∃ j, x = .int j ∧ rOk j ∧ K (rangeL 0 1 j.toNat) (fun _ => True) S1
  | X, .rng2 a b, env, S, K => wE X a env S fun x S1 => wE X b env S1 fun y S2 => ∃ i j, x = .int i ∧ y = .int j ∧ rOk i ∧ rOk j ∧ K (rangeL i 1 (j - i).toNat) (fun _ => True) S2
  | X, .enum a, env, S, K => wE X a env S fun x S1 => ltOf x S1 fun items guard => K (enumL 0 items) guard S1
  | X, .zip a b, env, S, K => wE X a env S fun x S1 => wE X b env S1 fun y S2 => zipOf x y S2 fun items guard => K items guard S2
  | X, .rev a, env, S, K => wE X a env S fun x S1 => ltOf x S1 fun items guard => K items.reverse guard S1
  | X, .keys a, env, S, K => wE X a env S fun x S1 => ∃ n kvs, x = .ref n ∧ S1[n]? = some (.lck (.dic kvs)) ∧ K (kvs.map (·.1.val)) (fun S => S[n]? = some (.lck (.dic kvs))) S1
  | X, .values a, env, S, K => wE X a env S fun x S1 => ∃ n kvs, x = .ref n ∧ S1[n]? = some (.lck (.dic kvs)) ∧ K (kvs.map (·.2)) (fun S => S[n]? = some (.lck (.dic kvs))) S1
  | X, .items a, env, S, K => wE X a env S fun x S1 => ∃ n kvs, x = .ref n ∧ S1[n]? = some (.lck (.dic kvs)) ∧ K (kvs.map fun p => .tup [p.1.val, p.2]) (fun S => S[n]? = some (.lck (.dic kvs))) S1
  | _, _, _, _, _ => False
end

/-- what is wanted behind a statement -/
structure Sp where
  nx : Env → Hm → Prop
  rt : Post
  ct : Env → Hm → Prop := fun _ _ => False
/-- .. where the dict at n stays as it is -/
def lckD (n : Nat) (kvs : List (Key × Val)) (D : Sp) : Sp :=
  { nx := fun env' S' => S'[n]? = some (.lck (.dic kvs)) ∧ D.nx env' (S'.set n (.dic kvs)), rt := fun v S' => S'[n]? = some (.lck (.dic kvs)) ∧ D.rt v (S'.set n (.dic kvs)), ct := fun env' S' => S'[n]? = some (.lck (.dic kvs)) ∧ D.ct env' (S'.set n (.dic kvs)) }
def forL (tg : Tg) (guard : Hm → Prop) (body : Sp → Env → Hm → Prop) (D : Sp) : List Val → Env → Hm → Prop
  | [], env, S => guard S ∧ D.nx env S
  | v :: vs, env, S => guard S ∧ tgW tg v env fun env2 => body { nx := forL tg guard body D vs, rt := D.rt, ct := forL tg guard body D vs } env2 S
def whileN (c : Env → Hm → (Bool → Hm → Prop) → Prop) (body : Sp → Env → Hm → Prop) (D : Sp) : Nat → Env → Hm → Prop
  | 0, _, _ => False
  | n + 1, env, S => c env S fun b S1 => if b = true then body { nx := whileN c body D n, rt := D.rt, ct := whileN c body D n } env S1 else D.nx env S1
mutual
/-- no exception within -/
def Val.fr : Val → Bool
  | .exc _ => false
  | .tup xs => Val.frs xs
  | _ => true
def Val.frs : List Val → Bool
  | [] => true
  | x :: xs => x.fr && Val.frs xs
end
def Ob.fr : Ob → Bool
  | .lst xs => Val.frs xs
  | .dic kvs => kvs.all fun p => p.2.fr
  | .ins _ fs => fs.all fun p => p.2.fr
  | .lck o => o.fr
/-- what an except suite may leave: new objects without exceptions, slots without them -/
def back (i : Nat) (env : Env) (S : Hm) (env' : Env) (S' : Hm) : Prop := (∃ l : Hm, S' = S ++ l ∧ l.all Ob.fr = true) ∧ env'.length = env.length ∧ ∀ j v, j ≠ i → eg env' j = some v → eg env j = some v ∨ v.fr = true
/-- an exception of class c leaves, where the names are so -/
abbrev XS := String → Env → Hm → Prop
end
section
variable (G : String → Option Val) (sub : String → String → Bool) (C : CallW)
mutual
def wS : St → XS → Sp → Env → Hm → Prop
  | .set i e, X, D, env, S => wE G C (fun c S' => X c env S') e env S fun v S1 => D.nx (es env i (some v)) S1
  | .setT is e, X, D, env, S => wE G C (fun c S' => X c env S') e env S fun v S1 => tgW (.tp is) v env fun env2 => D.nx env2 S1
  | .setL is e, X, D, env, S => wE G C (fun c S' => X c env S') e env S fun v S1 => ∃ n xs, v = .ref n ∧ Hm.lst S1 n = some xs ∧ xs.length = is.length ∧ D.nx ((is.zip xs).foldl (fun e p => es e p.1 (some p.2)) env) S1
  | .par is es', X, D, env, S => wEs G C (fun c S' => X c env S') es' env S fun vs S1 => vs.length = is.length ∧ D.nx ((is.zip vs).foldl (fun e p => es e p.1 (some p.2)) env) S1
  | .setI o i e, X, D, env, S => wE G C (fun c S' => X c env S') e env S fun v S1 => wE G C (fun c S' => X c env S') o env S1 fun x S2 => wE G C (fun c S' => X c env S') i env S2 fun y S3 => setW x y v S3 fun S4 => D.nx env S4
  | .setF o f e, X, D, env, S => wE G C (fun c S' => X c env S') e env S fun v S1 => wE G C (fun c S' => X c env S') o env S1 fun x S2 => ∃ n c fs, x = .ref n ∧ S2[n]? = some (.ins c fs) ∧ fs.length < 1000 ∧ D.nx env (S2.set n (.ins c (putF f v fs)))
  | .aug i op e, X, D, env, S => ∃ x, eg env i = some x ∧ wE G C (fun c S' => X c env S') e env S fun y S1 => ibinW op x y S1 fun z S2 => D.nx (es env i (some z)) S2
  | .augI o i op e, X, D, env, S => wE G C (fun c S' => X c env S') o env S fun x S1 => wE G C (fun c S' => X c env S') i env S1 fun y S2 => (∃ n, x = .ref n) ∧ subW x y S2 fun old S3 => wE G C (fun c S' => X c env S') e env S3 fun z S4 => ibinW op old z S4 fun r S5 => setW x y r S5 fun S6 => D.nx env S6
  | .augF o f op e, X, D, env, S => wE G C (fun c S' => X c env S') o env S fun x S1 => ∃ n c fs v, x = .ref n ∧ S1[n]? = some (.ins c fs) ∧ fs.lookup f = some v ∧ wE G C (fun c S' => X c env S') e env S1 fun z S2 => ibinW op v z S2 fun r S3 => ∃ fs', S3[n]? = some (.ins c fs') ∧ fs'.length < 1000 ∧ D.nx env (S3.set n (.ins c (putF f r fs')))
  | .expr e, X, D, env, S => wE G C (fun c S' => X c env S') e env S fun _ S1 => D.nx env S1
  | .ret e, X, D, env, S => wE G C (fun c S' => X c env S') e env S D.rt
  | .retN, _, D, _, S => D.rt .non S
  | .ife c a b, X, D, env, S => wT G C (fun c S' => X c env S') c env S fun r S1 => if r = true then wSs a X D env S1 else wSs b X D env S1
  | .for tg src body, X, D, env, S => wSrc G C (fun c S' => X c env S') src env S fun items guard S1 => forL tg guard (wSs body X) D items env S1
  | .while c body, X, D, env, S => ∃ n, whileN (fun env S K => wT G C (fun c S' => X c env S') c env S K) (wSs body X) D n env S
  | .raise c, X, _, env, S => X c env S
  | .try body hs orelse, X, D, env, S => wSs body (fun c env' S' => sub c c = true ∧ wHs c hs X D env' S') { nx := fun env' S' => wSs orelse X D env' S', rt := D.rt, ct := D.ct } env S
  | .tryK body c i t, _, D, env, S => wSs body (fun c0 env' S' => sub c0 c0 = true ∧ sub c0 c = true ∧ i < env'.length ∧ D.nx (es (es env' t (some (.ref S'.length))) i none) (S' ++ [.lck (.ins c0 [])])) { nx := D.nx, rt := D.rt, ct := D.ct } env S
  | .cont, _, D, env, S => D.ct env S
  | .pass, _, D, env, S => D.nx env S
  | .lck i s, X, D, env, S => ∃ n kvs, eg env i = some (.ref n) ∧ S[n]? = some (.dic kvs) ∧ wS s X (lckD n kvs D) env (S.set n (.lck (.dic kvs)))
def wSs : Sts → XS → Sp → Env → Hm → Prop
  | .nil, _, D, env, S => D.nx env S
  | .cons s ss, X, D, env, S => wS s X { nx := fun env' S' => wSs ss X D env' S', rt := D.rt, ct := D.ct } env S
def wHs (c : String) : Hs → XS → Sp → Env → Hm → Prop
  | .nil, X, _, env, S => X c env S
  | .cons h i body rest, X, D, env, S => if sub c h = true then (match i with
      | none => wSs body X D env S
      | some i => wSs body (fun _ _ _ => False) { nx := fun env' S' => back i env S env' S' ∧ D.nx (es env' i none) S', rt := fun _ _ => False } (es env i (some (.exc c))) S) else wHs c rest X D env S
end
end
end Mi

set_option maxHeartbeats 2000000
namespace Mi
open PySem
section
variable {Q Q' : Post} {x y z : Val} {S : Hm}
theorem eqD_mono {Q Q' : Bool → Prop} (hq : ∀ b, Q b → Q' b) (h : eqD x y S Q) : eqD x y S Q' := by
  revert h
  unfold eqD
  split
  · rintro ⟨ks, ls, b, h1, h2, h3, h4⟩
    exact ⟨ks, ls, b, h1, h2, h3, hq _ h4⟩
  · exact fun h => h
theorem eqW_mono {Q Q' : Bool → Prop} (hq : ∀ b, Q b → Q' b) (h : eqW x y S Q) : eqW x y S Q' := by
  rcases h with ⟨d, e, h1, h2, h3⟩ | h
  · exact .inl ⟨d, e, h1, h2, hq _ h3⟩
  · exact .inr (eqD_mono hq h)
theorem inW_mono {Q Q' : Bool → Prop} (hq : ∀ b, Q b → Q' b) (h : inW x y S Q) : inW x y S Q' := by
  revert h
  unfold inW
  cases y with
  | str b =>
    cases x with
    | str a =>
      intro h
      rcases h with ⟨c, h1, h2⟩ | h
      · exact .inl ⟨c, h1, hq _ h2⟩
      · exact .inr (hq _ h)
    | _ => intro h; exact h.elim
  | tup xs => exact fun h => ⟨h.1, h.2.1, hq _ h.2.2⟩
  | ref n =>
    intro h
    rcases h with ⟨xs, h1, ⟨h2, h3, h4⟩ | ⟨d, ds, h2, h3, h4⟩⟩ | ⟨kvs, k, h1, h2, h3⟩
    · exact .inl ⟨xs, h1, .inl ⟨h2, h3, hq _ h4⟩⟩
    · exact .inl ⟨xs, h1, .inr ⟨d, ds, h2, h3, hq _ h4⟩⟩
    · exact .inr ⟨kvs, k, h1, h2, hq _ h3⟩
  | _ => intro h; exact h.elim
theorem binW_mono {op : Operator} (hq : ∀ v S, Q v S → Q' v S) (h : binW op x y S Q) : binW op x y S Q' := by
  revert h
  unfold binW
  split <;> intro h <;> grind
theorem ibinW_mono {op : Operator} (hq : ∀ v S, Q v S → Q' v S) (h : ibinW op x y S Q) : ibinW op x y S Q' := by
  revert h
  unfold ibinW
  split <;> intro h <;> grind
theorem cmpW_mono {op : CmpOp} {Q Q' : Bool → Prop} (hq : ∀ b, Q b → Q' b) (h : cmpW op x y S Q) : cmpW op x y S Q' := by
  revert h
  unfold cmpW
  cases op <;> intro h
  case Eq => exact eqW_mono hq h
  case NotEq => exact eqW_mono (fun b => hq _) h
  case In => exact inW_mono hq h
  case NotIn => exact inW_mono (fun b => hq _) h
  all_goals grind
theorem subW_mono (hq : ∀ v S, Q v S → Q' v S) (h : subW x y S Q) : subW x y S Q' := by
  revert h
  unfold subW
  split <;> intro h <;> grind
theorem sliceW_mono {lo hi : Option Int} (hq : ∀ v S, Q v S → Q' v S) (h : sliceW x lo hi S Q) : sliceW x lo hi S Q' := by
  revert h
  unfold sliceW
  split <;> intro h <;> grind
theorem biW_mono {f : Bi} {args : List Val} (hq : ∀ v S, Q v S → Q' v S) (h : biW f args S Q) : biW f args S Q' := by
  revert h
  unfold biW
  split <;> intro h <;> grind
theorem bmW_mono {m : Bm} {args : List Val} (hq : ∀ v S, Q v S → Q' v S) (h : bmW m x args S Q) : bmW m x args S Q' := by
  revert h
  unfold bmW
  split <;> intro h <;> grind
theorem setW_mono {Q Q' : Hm → Prop} (hq : ∀ S, Q S → Q' S) (h : setW x y z S Q) : setW x y z S Q' := by
  revert h
  unfold setW
  split <;> intro h <;> grind
theorem tgW_mono {tg : Tg} {e : Env} {K K' : Env → Prop} (hq : ∀ e, K e → K' e) (h : tgW tg x e K) : tgW tg x e K' := by
  revert h
  unfold tgW
  split <;> intro h <;> grind
theorem seqOf_mono {K K' : List Val → (Hm → Prop) → Prop} (hq : ∀ xs g, K xs g → K' xs g) (h : seqOf x S K) : seqOf x S K' := by
  revert h
  unfold seqOf
  split <;> intro h <;> grind
theorem ltOf_mono {K K' : List Val → (Hm → Prop) → Prop} (hq : ∀ xs g, K xs g → K' xs g) (h : ltOf x S K) : ltOf x S K' := by
  revert h
  unfold ltOf
  split <;> intro h
  · exact hq _ _ h
  · exact let ⟨xs, h1, h2⟩ := h; ⟨xs, h1, hq _ _ h2⟩
  · exact h
theorem viW_mono {f : Vi} {vs : List Val} {S : Hm} {Q Q' : Post} (hq : ∀ v S, Q v S → Q' v S) (h : viW f vs S Q) : viW f vs S Q' := by
  revert h
  unfold viW
  split <;> intro h
  · exact hq _ _ h
  · obtain ⟨xs, h1, h2⟩ := h
    exact ⟨xs, h1, hq _ _ h2⟩
  · exact ⟨h.1, hq _ _ h.2⟩
  · exact ltOf_mono (fun _ _ h => ltOf_mono (fun _ _ h => hq _ _ h) h) h
  · obtain ⟨bs, h1, h2⟩ := h
    exact ⟨bs, h1, hq _ _ h2⟩
  · obtain ⟨ps, h1, h2, h3⟩ := h
    exact ⟨ps, h1, h2, hq _ _ h3⟩
  · exact ltOf_mono (fun _ _ h => ltOf_mono (fun _ _ h => let ⟨ps, h1, h2⟩ := h; ⟨ps, h1, hq _ _ h2⟩) h) h
  · obtain ⟨kvs, h1, h2⟩ := h
    exact ⟨kvs, h1, hq _ _ h2⟩
  · exact hq _ _ h
  · obtain ⟨fs, h1, h2, h3⟩ := h
    exact ⟨fs, h1, h2, fun b hb => hq _ _ (h3 b hb)⟩
  · obtain ⟨fs, h1, h2, h3⟩ := h
    exact ⟨fs, h1, h2, fun b hb => hq _ _ (h3 b hb)⟩
  · obtain ⟨fs, h1, h2, h3, h4, h5⟩ := h
    exact ⟨fs, h1, h2, h3, fun z => hq _ _ (h4 z), fun z => hq _ _ (h5 z)⟩
  · exact h
theorem zipOf_mono {y : Val} {K K' : List Val → (Hm → Prop) → Prop} (hq : ∀ xs g, K xs g → K' xs g) (h : zipOf x y S K) : zipOf x y S K' :=
  ltOf_mono (fun _ _ h => ltOf_mono (fun _ _ h => hq _ _ h) h) h
theorem lstOf_mono {K K' : List Val → (Hm → Prop) → Prop} (hq : ∀ xs g, K xs g → K' xs g) (h : lstOf x S K) : lstOf x S K' := by
  revert h
  unfold lstOf
  split <;> intro h <;> grind
theorem lcLoop_mono {turn turn' : Val → Hm → (Option Val → Hm → Prop) → Prop} {guard : Hm → Prop} (ht : ∀ v S K K', (∀ r S, K r S → K' r S) → turn v S K → turn' v S K') : ∀ {vs acc : List Val} {S : Hm} {Q Q' : List Val → Hm → Prop}, (∀ a S, Q a S → Q' a S) → lcLoop turn guard vs acc S Q → lcLoop turn' guard vs acc S Q'
  | [], acc, S, Q, Q', hq, h => ⟨h.1, hq _ _ h.2⟩
  | v :: vs, acc, S, Q, Q', hq, h => by
    refine ⟨h.1, ht _ _ _ _ (fun r S1 h1 => ?_) h.2⟩
    cases r with
    | none => exact lcLoop_mono ht hq h1
    | some x => exact ⟨h1.1, lcLoop_mono ht hq h1.2⟩
end
/-- a call's reading, with more wished for -/
def CMono (C : CallW) : Prop := ∀ f vs S Q Q' X X', (∀ v S, Q v S → Q' v S) → (∀ c S, X c S → X' c S) → C f vs S Q X → C f vs S Q' X'
section
variable {G : String → Option Val} {C : CallW} (hC : CMono C)
include hC
mutual
theorem wE_mono : ∀ {X X' : XPost}, (∀ c S, X c S → X' c S) → ∀ (e : E) {env : Env} {S : Hm} {Q Q' : Post}, (∀ v S, Q v S → Q' v S) → wE G C X e env S Q → wE G C X' e env S Q'
  | X, X', hX, .loc i, env, S, Q, Q', hq, h => by
    simp only [wE] at h ⊢
    obtain ⟨v, h1, h2⟩ := h
    exact ⟨v, h1, hq _ _ h2⟩
  | X, X', hX, .lit c, env, S, Q, Q', hq, h => hq _ _ h
  | X, X', hX, .con x, env, S, Q, Q', hq, h => by
    simp only [wE] at h ⊢
    obtain ⟨v, h1, h2⟩ := h
    exact ⟨v, h1, hq _ _ h2⟩
  | X, X', hX, .bin op a b, env, S, Q, Q', hq, h => by
    simp only [wE] at h ⊢
    exact wE_mono hX a (fun x S1 h1 => wE_mono hX b (fun y S2 h2 => binW_mono hq h2) h1) h
  | X, X', hX, .neg a, env, S, Q, Q', hq, h => by
    simp only [wE] at h ⊢
    exact wE_mono hX a (fun x S1 ⟨i, h1, h2⟩ => ⟨i, h1, hq _ _ h2⟩) h
  | X, X', hX, .cmp op a b, env, S, Q, Q', hq, h => by
    simp only [wE] at h ⊢
    exact wE_mono hX a (fun x S1 h1 => wE_mono hX b (fun y S2 h2 => cmpW_mono (fun r h3 => hq _ _ h3) h2) h1) h
  | X, X', hX, .cmp2 op op' a b c, env, S, Q, Q', hq, h => by
    simp only [wE] at h ⊢
    refine wE_mono hX a (fun x S1 h1 => wE_mono hX b (fun y S2 h2 => cmpW_mono (fun r h3 => ?_) h2) h1) h
    cases r with
    | true =>
      simp only [if_true] at h3 ⊢
      exact wE_mono hX c (fun z S3 h4 => cmpW_mono (fun r' h5 => hq _ _ h5) h4) h3
    | false =>
      simp only [Bool.false_eq_true, if_false] at h3 ⊢
      exact hq _ _ h3
  | X, X', hX, .isN a, env, S, Q, Q', hq, h => by
    simp only [wE] at h ⊢
    exact wE_mono hX a (fun x S1 h1 => hq _ _ h1) h
  | X, X', hX, .notN a, env, S, Q, Q', hq, h => by
    simp only [wE] at h ⊢
    exact wE_mono hX a (fun x S1 h1 => hq _ _ h1) h
  | X, X', hX, .isB a b, env, S, Q, Q', hq, h => by
    simp only [wE] at h ⊢
    exact wE_mono hX a (fun x S1 ⟨c, h1, h2⟩ => ⟨c, h1, hq _ _ h2⟩) h
  | X, X', hX, .not a, env, S, Q, Q', hq, h => by
    simp only [wE] at h ⊢
    exact wE_mono hX a (fun x S1 ⟨c, h1, h2⟩ => ⟨c, h1, hq _ _ h2⟩) h
  | X, X', hX, .and a b, env, S, Q, Q', hq, h => by
    simp only [wE] at h ⊢
    refine wE_mono hX a (fun x S1 ⟨c, h1, h2⟩ => ⟨c, h1, ?_⟩) h
    cases c with
    | true =>
      simp only [if_true] at h2 ⊢
      exact wE_mono hX b hq h2
    | false =>
      simp only [Bool.false_eq_true, if_false] at h2 ⊢
      exact hq _ _ h2
  | X, X', hX, .or a b, env, S, Q, Q', hq, h => by
    simp only [wE] at h ⊢
    refine wE_mono hX a (fun x S1 ⟨c, h1, h2⟩ => ⟨c, h1, ?_⟩) h
    cases c with
    | true =>
      simp only [if_true] at h2 ⊢
      exact hq _ _ h2
    | false =>
      simp only [Bool.false_eq_true, if_false] at h2 ⊢
      exact wE_mono hX b hq h2
  | X, X', hX, .ite c a b, env, S, Q, Q', hq, h => by
    simp only [wE] at h ⊢
    refine wT_mono hX c (fun r S1 h1 => ?_) h
    cases r with
    | true =>
      simp only [if_true] at h1 ⊢
      exact wE_mono hX a hq h1
    | false =>
      simp only [Bool.false_eq_true, if_false] at h1 ⊢
      exact wE_mono hX b hq h1
  | X, X', hX, .tup es, env, S, Q, Q', hq, h => by
    simp only [wE] at h ⊢
    exact wEs_mono hX es (fun vs S1 h1 => ⟨h1.1, hq _ _ h1.2⟩) h
  | X, X', hX, .lst es, env, S, Q, Q', hq, h => by
    simp only [wE] at h ⊢
    exact wEs_mono hX es (fun vs S1 h1 => ⟨h1.1, hq _ _ h1.2⟩) h
  | X, X', hX, .dic ps, env, S, Q, Q', hq, h => by
    simp only [wE] at h ⊢
    exact wPs_mono hX ps (fun vs S1 h1 => hq _ _ h1) h
  | X, X', hX, .call f es, env, S, Q, Q', hq, h => by
    simp only [wE] at h ⊢
    exact wEs_mono hX es (fun vs S1 h1 => hC _ _ _ _ _ _ _ hq hX h1) h
  | X, X', hX, .make c es, env, S, Q, Q', hq, h => by
    simp only [wE] at h ⊢
    exact wEs_mono hX es (fun vs S1 h1 => hC _ _ _ _ _ _ _ (fun v S2 h2 => ⟨h2.1, hq _ _ h2.2⟩) hX h1) h
  | X, X', hX, .meth c m o es, env, S, Q, Q', hq, h => by
    simp only [wE] at h ⊢
    exact wE_mono hX o (fun x S1 ⟨n, fs, h1, h2, h3, h4⟩ => ⟨n, fs, h1, h2, h3, wEs_mono hX es (fun vs S2 h5 => hC _ _ _ _ _ _ _ hq hX h5) h4⟩) h
  | X, X', hX, .fld o f, env, S, Q, Q', hq, h => by
    simp only [wE] at h ⊢
    exact wE_mono hX o (fun x S1 ⟨n, c, fs, v, h1, h2, h3, h4⟩ => ⟨n, c, fs, v, h1, h2, h3, hq _ _ h4⟩) h
  | X, X', hX, .sub o i, env, S, Q, Q', hq, h => by
    simp only [wE] at h ⊢
    exact wE_mono hX o (fun x S1 h1 => wE_mono hX i (fun y S2 h2 => subW_mono hq h2) h1) h
  | X, X', hX, .slice o lo hi, env, S, Q, Q', hq, h => by
    simp only [wE] at h ⊢
    exact wE_mono hX o (fun x S1 h1 => wO_mono hX lo (fun a S2 h2 => wO_mono hX hi (fun b S3 h3 => sliceW_mono hq h3) h2) h1) h
  | X, X', hX, .bi f es, env, S, Q, Q', hq, h => by
    simp only [wE] at h ⊢
    exact wEs_mono hX es (fun vs S1 h1 => biW_mono hq h1) h
  | X, X', hX, .vi f es, env, S, Q, Q', hq, h => by
    simp only [wE] at h ⊢
    exact wEs_mono hX es (fun vs S1 h1 => viW_mono hq h1) h
  | X, X', hX, .bm m o es, env, S, Q, Q', hq, h => by
    simp only [wE] at h ⊢
    exact wE_mono hX o (fun x S1 h1 => ⟨h1.1, wEs_mono hX es (fun vs S2 h2 => bmW_mono hq h2) h1.2⟩) h
  | X, X', hX, .isi a ts, env, S, Q, Q', hq, h => by
    simp only [wE] at h ⊢
    exact wE_mono hX a (fun x S1 ⟨bs, h1, h2⟩ => ⟨bs, h1, hq _ _ h2⟩) h
  | X, X', hX, .lc elt tg src cond own, env, S, Q, Q', hq, h => by
    simp only [wE] at h ⊢
    refine wSrc_mono hX src (fun items guard S1 h1 => lcLoop_mono (fun v S2 K K' hk h2 => tgW_mono (fun e2 h3 => wC_mono hX cond (fun b S3 h4 => ?_) h3) h2) (fun acc S2 h2 => hq _ _ h2) h1) h
    cases b with
    | true =>
      simp only [if_true] at h4 ⊢
      exact wE_mono hX elt (fun x S4 h5 => hk _ _ h5) h4
    | false =>
      simp only [Bool.false_eq_true, if_false] at h4 ⊢
      exact hk _ _ h4
  | X, X', hX, .lck i e, env, S, Q, Q', hq, h => by
    simp only [wE] at h ⊢
    obtain ⟨n, kvs, h1, h2, h3⟩ := h
    exact ⟨n, kvs, h1, h2, wE_mono hX e (fun v S1 h4 => ⟨h4.1, hq _ _ h4.2⟩) h3⟩
  | X, X', hX, .lckA e, env, S, Q, Q', hq, h => by
    simp only [wE] at h ⊢
    obtain ⟨n, kvs, h2, h3⟩ := h
    exact ⟨n, kvs, h2, wE_mono hX e (fun v S1 h4 => ⟨h4.1, hq _ _ h4.2⟩) h3⟩
theorem wEs_mono : ∀ {X X' : XPost}, (∀ c S, X c S → X' c S) → ∀ (es : Es) {env : Env} {S : Hm} {Q Q' : List Val → Hm → Prop}, (∀ v S, Q v S → Q' v S) → wEs G C X es env S Q → wEs G C X' es env S Q'
  | X, X', hX, .nil, env, S, Q, Q', hq, h => hq _ _ h
  | X, X', hX, .cons e es, env, S, Q, Q', hq, h => by
    simp only [wEs] at h ⊢
    exact wE_mono hX e (fun x S1 h1 => wEs_mono hX es (fun xs S2 h2 => hq _ _ h2) h1) h
theorem wPs_mono : ∀ {X X' : XPost}, (∀ c S, X c S → X' c S) → ∀ (ps : Ps) {env : Env} {S : Hm} {Q Q' : List (Key × Val) → Hm → Prop}, (∀ v S, Q v S → Q' v S) → wPs G C X ps env S Q → wPs G C X' ps env S Q'
  | X, X', hX, .nil, env, S, Q, Q', hq, h => hq _ _ h
  | X, X', hX, .cons k v ps, env, S, Q, Q', hq, h => by
    simp only [wPs] at h ⊢
    exact wE_mono hX k (fun x S1 h1 => wE_mono hX v (fun y S2 ⟨q, h2, h3⟩ => ⟨q, h2, wPs_mono hX ps (fun r S3 h4 => hq _ _ h4) h3⟩) h1) h
theorem wO_mono : ∀ {X X' : XPost}, (∀ c S, X c S → X' c S) → ∀ (o : Oe) {env : Env} {S : Hm} {Q Q' : Option Int → Hm → Prop}, (∀ v S, Q v S → Q' v S) → wO G C X o env S Q → wO G C X' o env S Q'
  | X, X', hX, .none, env, S, Q, Q', hq, h => hq _ _ h
  | X, X', hX, .some e, env, S, Q, Q', hq, h => by
    simp only [wO] at h ⊢
    exact wE_mono hX e (fun x S1 ⟨i, h1, h2⟩ => ⟨i, h1, hq _ _ h2⟩) h
theorem wC_mono : ∀ {X X' : XPost}, (∀ c S, X c S → X' c S) → ∀ (o : Ot) {env : Env} {S : Hm} {Q Q' : Bool → Hm → Prop}, (∀ v S, Q v S → Q' v S) → wC G C X o env S Q → wC G C X' o env S Q'
  | X, X', hX, .none, env, S, Q, Q', hq, h => hq _ _ h
  | X, X', hX, .some t, env, S, Q, Q', hq, h => by
    simp only [wC] at h ⊢
    exact wT_mono hX t hq h
theorem wT_mono : ∀ {X X' : XPost}, (∀ c S, X c S → X' c S) → ∀ (t : T) {env : Env} {S : Hm} {Q Q' : Bool → Hm → Prop}, (∀ v S, Q v S → Q' v S) → wT G C X t env S Q → wT G C X' t env S Q'
  | X, X', hX, .v e, env, S, Q, Q', hq, h => by
    simp only [wT] at h ⊢
    exact wE_mono hX e (fun x S1 ⟨b, h1, h2⟩ => ⟨b, h1, hq _ _ h2⟩) h
  | X, X', hX, .not a, env, S, Q, Q', hq, h => by
    simp only [wT] at h ⊢
    exact wT_mono hX a (fun b S1 h1 => hq _ _ h1) h
  | X, X', hX, .and a b, env, S, Q, Q', hq, h => by
    simp only [wT] at h ⊢
    refine wT_mono hX a (fun c S1 h1 => ?_) h
    cases c with
    | true =>
      simp only [if_true] at h1 ⊢
      exact wT_mono hX b hq h1
    | false =>
      simp only [Bool.false_eq_true, if_false] at h1 ⊢
      exact hq _ _ h1
  | X, X', hX, .or a b, env, S, Q, Q', hq, h => by
    simp only [wT] at h ⊢
    refine wT_mono hX a (fun c S1 h1 => ?_) h
    cases c with
    | true =>
      simp only [if_true] at h1 ⊢
      exact hq _ _ h1
    | false =>
      simp only [Bool.false_eq_true, if_false] at h1 ⊢
      exact wT_mono hX b hq h1
theorem wSrc_mono : ∀ {X X' : XPost}, (∀ c S, X c S → X' c S) → ∀ (s : Src) {env : Env} {S : Hm} {K K' : List Val → (Hm → Prop) → Hm → Prop}, (∀ xs g S, K xs g S → K' xs g S) → wSrc G C X s env S K → wSrc G C X' s env S K'
  | X, X', hX, .seq e, env, S, K, K', hk, h => by
    simp only [wSrc] at h ⊢
    exact wE_mono hX e (fun x S1 h1 => seqOf_mono (fun xs g h2 => hk _ _ _ h2) h1) h
  | X, X', hX, .rng1 a, env, S, K, K', hk, h => by
    simp only [wSrc] at h ⊢
    exact wE_mono hX a (fun x S1 ⟨j, h1, h2, h3⟩ => ⟨j, h1, h2, hk _ _ _ h3⟩) h
  | X, X', hX, .rng2 a b, env, S, K, K', hk, h => by
    simp only [wSrc] at h ⊢
    exact wE_mono hX a (fun x S1 h1 => wE_mono hX b (fun y S2 ⟨i, j, h2, h3, h4, h5, h6⟩ => ⟨i, j, h2, h3, h4, h5, hk _ _ _ h6⟩) h1) h
  | X, X', hX, .enum a, env, S, K, K', hk, h => by
    simp only [wSrc] at h ⊢
    exact wE_mono hX a (fun x S1 h1 => ltOf_mono (fun xs g h2 => hk _ _ _ h2) h1) h
  | X, X', hX, .zip a b, env, S, K, K', hk, h => by
    simp only [wSrc] at h ⊢
    exact wE_mono hX a (fun x S1 h1 => wE_mono hX b (fun y S2 h2 => zipOf_mono (fun xs g h3 => hk _ _ _ h3) h2) h1) h
  | X, X', hX, .rev a, env, S, K, K', hk, h => by
    simp only [wSrc] at h ⊢
    exact wE_mono hX a (fun x S1 h1 => ltOf_mono (fun xs g h2 => hk _ _ _ h2) h1) h
  | X, X', hX, .rng3 a b c, env, S, K, K', hk, h => by simp only [wSrc] at h
  | X, X', hX, .items a, env, S, K, K', hk, h => by
    simp only [wSrc] at h ⊢
    exact wE_mono hX a (fun x S1 ⟨n, kvs, h1, h2, h3⟩ => ⟨n, kvs, h1, h2, hk _ _ _ h3⟩) h
  | X, X', hX, .values a, env, S, K, K', hk, h => by
    simp only [wSrc] at h ⊢
    exact wE_mono hX a (fun x S1 ⟨n, kvs, h1, h2, h3⟩ => ⟨n, kvs, h1, h2, hk _ _ _ h3⟩) h
  | X, X', hX, .keys a, env, S, K, K', hk, h => by
    simp only [wSrc] at h ⊢
    exact wE_mono hX a (fun x S1 ⟨n, kvs, h1, h2, h3⟩ => ⟨n, kvs, h1, h2, hk _ _ _ h3⟩) h
end
end

/-- more is wished for behind a statement -/
structure Sp.Le (D D' : Sp) : Prop where
  nx : ∀ e S, D.nx e S → D'.nx e S
  rt : ∀ v S, D.rt v S → D'.rt v S
  ct : ∀ e S, D.ct e S → D'.ct e S
theorem forL_mono {tg : Tg} {guard : Hm → Prop} {body body' : Sp → Env → Hm → Prop} (hb : ∀ D D' e S, Sp.Le D D' → body D e S → body' D' e S) {D D' : Sp} (hD : Sp.Le D D') : ∀ {vs : List Val} {e : Env} {S : Hm}, forL tg guard body D vs e S → forL tg guard body' D' vs e S
  | [], e, S, h => ⟨h.1, hD.nx _ _ h.2⟩
  | v :: vs, e, S, h => ⟨h.1, tgW_mono (fun e2 h2 => hb { nx := forL tg guard body D vs, rt := D.rt, ct := forL tg guard body D vs } { nx := forL tg guard body' D' vs, rt := D'.rt, ct := forL tg guard body' D' vs } _ _ ⟨fun _ _ => forL_mono hb hD, hD.rt, fun _ _ => forL_mono hb hD⟩ h2) h.2⟩
theorem whileN_mono {c c' : Env → Hm → (Bool → Hm → Prop) → Prop} (hc : ∀ e S Q Q', (∀ b S, Q b S → Q' b S) → c e S Q → c' e S Q') {body body' : Sp → Env → Hm → Prop} (hb : ∀ D D' e S, Sp.Le D D' → body D e S → body' D' e S) {D D' : Sp} (hD : Sp.Le D D') :
    ∀ {n : Nat} {e : Env} {S : Hm}, whileN c body D n e S → whileN c' body' D' n e S
  | 0, e, S, h => h
  | n + 1, e, S, h => by
    refine hc _ _ _ _ (fun b S1 h1 => ?_) h
    cases b with
    | true =>
      simp only [if_true] at h1 ⊢
      exact hb { nx := whileN c body D n, rt := D.rt, ct := whileN c body D n } { nx := whileN c' body' D' n, rt := D'.rt, ct := whileN c' body' D' n } _ _ ⟨fun _ _ => whileN_mono hc hb hD, hD.rt, fun _ _ => whileN_mono hc hb hD⟩ h1
    | false =>
      simp only [Bool.false_eq_true, if_false] at h1 ⊢
      exact hD.nx _ _ h1
section
variable {G : String → Option Val} {sub : String → String → Bool} {C : CallW} (hC : CMono C)
include hC
mutual
theorem wS_mono : ∀ (s : St) {X X' : XS} {D D' : Sp} {env : Env} {S : Hm}, (∀ c e S, X c e S → X' c e S) → Sp.Le D D' → wS G sub C s X D env S → wS G sub C s X' D' env S
  | .set i e, X, X', D, D', env, S, hX, hD, h => by
    simp only [wS] at h ⊢
    exact wE_mono hC (fun c S1 => hX c env S1) e (fun v S1 h1 => hD.nx _ _ h1) h
  | .setT is e, X, X', D, D', env, S, hX, hD, h => by
    simp only [wS] at h ⊢
    exact wE_mono hC (fun c S1 => hX c env S1) e (fun v S1 h1 => tgW_mono (fun e2 h2 => hD.nx _ _ h2) h1) h
  | .setL is e, X, X', D, D', env, S, hX, hD, h => by
    simp only [wS] at h ⊢
    exact wE_mono hC (fun c S1 => hX c env S1) e (fun v S1 ⟨n, xs, h1, h2, h3, h4⟩ => ⟨n, xs, h1, h2, h3, hD.nx _ _ h4⟩) h
  | .par is es', X, X', D, D', env, S, hX, hD, h => by
    simp only [wS] at h ⊢
    exact wEs_mono hC (fun c S1 => hX c env S1) es' (fun v S1 h1 => ⟨h1.1, hD.nx _ _ h1.2⟩) h
  | .setI o i e, X, X', D, D', env, S, hX, hD, h => by
    simp only [wS] at h ⊢
    exact wE_mono hC (fun c S1 => hX c env S1) e (fun v S1 h1 => wE_mono hC (fun c S1 => hX c env S1) o (fun x S2 h2 => wE_mono hC (fun c S1 => hX c env S1) i (fun y S3 h3 => setW_mono (fun S4 h4 => hD.nx _ _ h4) h3) h2) h1) h
  | .setF o f e, X, X', D, D', env, S, hX, hD, h => by
    simp only [wS] at h ⊢
    exact wE_mono hC (fun c S1 => hX c env S1) e (fun v S1 h1 => wE_mono hC (fun c S1 => hX c env S1) o (fun x S2 ⟨n, c, fs, h2, h3, h4, h5⟩ => ⟨n, c, fs, h2, h3, h4, hD.nx _ _ h5⟩) h1) h
  | .aug i op e, X, X', D, D', env, S, hX, hD, h => by
    simp only [wS] at h ⊢
    obtain ⟨x, h1, h2⟩ := h
    exact ⟨x, h1, wE_mono hC (fun c S1 => hX c env S1) e (fun y S1 h3 => ibinW_mono (fun z S2 h4 => hD.nx _ _ h4) h3) h2⟩
  | .augI o i op e, X, X', D, D', env, S, hX, hD, h => by
    simp only [wS] at h ⊢
    exact wE_mono hC (fun c S1 => hX c env S1) o (fun x S1 h1 => wE_mono hC (fun c S1 => hX c env S1) i (fun y S2 h2 => ⟨h2.1, subW_mono (fun old S3 h3 => wE_mono hC (fun c S1 => hX c env S1) e (fun z S4 h4 => ibinW_mono (fun r S5 h5 => setW_mono (fun S6 h6 => hD.nx _ _ h6) h5) h4) h3) h2.2⟩) h1) h
  | .augF o f op e, X, X', D, D', env, S, hX, hD, h => by
    simp only [wS] at h ⊢
    exact wE_mono hC (fun c S1 => hX c env S1) o (fun x S1 ⟨n, c, fs, v, h1, h2, h3, h4⟩ => ⟨n, c, fs, v, h1, h2, h3, wE_mono hC (fun c S1 => hX c env S1) e (fun z S2 h5 => ibinW_mono (fun r S3 ⟨fs', h6, h7, h8⟩ => ⟨fs', h6, h7, hD.nx _ _ h8⟩) h5) h4⟩) h
  | .expr e, X, X', D, D', env, S, hX, hD, h => by
    simp only [wS] at h ⊢
    exact wE_mono hC (fun c S1 => hX c env S1) e (fun v S1 h1 => hD.nx _ _ h1) h
  | .ret e, X, X', D, D', env, S, hX, hD, h => by
    simp only [wS] at h ⊢
    exact wE_mono hC (fun c S1 => hX c env S1) e hD.rt h
  | .retN, X, X', D, D', env, S, hX, hD, h => hD.rt _ _ h
  | .ife c a b, X, X', D, D', env, S, hX, hD, h => by
    simp only [wS] at h ⊢
    refine wT_mono hC (fun c S1 => hX c env S1) c (fun r S1 h1 => ?_) h
    cases r with
    | true =>
      simp only [if_true] at h1 ⊢
      exact wSs_mono a hX hD h1
    | false =>
      simp only [Bool.false_eq_true, if_false] at h1 ⊢
      exact wSs_mono b hX hD h1
  | .for tg src body, X, X', D, D', env, S, hX, hD, h => by
    simp only [wS] at h ⊢
    exact wSrc_mono hC (fun c S1 => hX c env S1) src (fun items g S1 h1 => forL_mono (body := wSs G sub C body X) (body' := wSs G sub C body X') (fun D D' e S hd h2 => wSs_mono body hX hd h2) hD h1) h
  | .while c body, X, X', D, D', env, S, hX, hD, h => by
    simp only [wS] at h ⊢
    obtain ⟨n, h⟩ := h
    exact ⟨n, whileN_mono (c := fun env S K => wT G C (fun c S' => X c env S') c env S K) (c' := fun env S K => wT G C (fun c S' => X' c env S') c env S K) (body := wSs G sub C body X) (body' := wSs G sub C body X') (fun e S Q Q' hq h1 => wT_mono hC (fun c S1 => hX c e S1) c hq h1) (fun D D' e S hd h2 => wSs_mono body hX hd h2) hD h⟩
  | .raise c, X, X', D, D', env, S, hX, hD, h => hX _ _ _ h
  | .try body hs orelse, X, X', D, D', env, S, hX, hD, h => by
    simp only [wS] at h ⊢
    exact wSs_mono body (X := fun c env' S' => sub c c = true ∧ wHs G sub C c hs X D env' S') (X' := fun c env' S' => sub c c = true ∧ wHs G sub C c hs X' D' env' S') (D := { nx := fun env' S' => wSs G sub C orelse X D env' S', rt := D.rt, ct := D.ct }) (D' := { nx := fun env' S' => wSs G sub C orelse X' D' env' S', rt := D'.rt, ct := D'.ct }) (fun c e S1 h1 => ⟨h1.1, wHs_mono c hs hX hD h1.2⟩) ⟨fun e S1 h1 => wSs_mono orelse hX hD h1, hD.rt, hD.ct⟩ h
  | .tryK body c i t, X, X', D, D', env, S, hX, hD, h => by
    simp only [wS] at h ⊢
    exact wSs_mono body (fun c e S1 h1 => ⟨h1.1, h1.2.1, h1.2.2.1, hD.nx _ _ h1.2.2.2⟩) ⟨hD.nx, hD.rt, hD.ct⟩ h
  | .cont, X, X', D, D', env, S, hX, hD, h => hD.ct _ _ h
  | .pass, X, X', D, D', env, S, hX, hD, h => hD.nx _ _ h
  | .lck i s, X, X', D, D', env, S, hX, hD, h => by
    simp only [wS] at h ⊢
    obtain ⟨n, kvs, h1, h2, h3⟩ := h
    exact ⟨n, kvs, h1, h2, wS_mono s (D := lckD n kvs D) (D' := lckD n kvs D') hX ⟨fun _ _ h => ⟨h.1, hD.nx _ _ h.2⟩, fun _ _ h => ⟨h.1, hD.rt _ _ h.2⟩, fun _ _ h => ⟨h.1, hD.ct _ _ h.2⟩⟩ h3⟩
theorem wSs_mono : ∀ (ss : Sts) {X X' : XS} {D D' : Sp} {env : Env} {S : Hm}, (∀ c e S, X c e S → X' c e S) → Sp.Le D D' → wSs G sub C ss X D env S → wSs G sub C ss X' D' env S
  | .nil, X, X', D, D', env, S, hX, hD, h => hD.nx _ _ h
  | .cons s ss, X, X', D, D', env, S, hX, hD, h => by
    simp only [wSs] at h ⊢
    exact wS_mono s (D := { nx := fun env' S' => wSs G sub C ss X D env' S', rt := D.rt, ct := D.ct }) (D' := { nx := fun env' S' => wSs G sub C ss X' D' env' S', rt := D'.rt, ct := D'.ct }) hX ⟨fun e S1 h1 => wSs_mono ss hX hD h1, hD.rt, hD.ct⟩ h
theorem wHs_mono (c : String) : ∀ (hs : Hs) {X X' : XS} {D D' : Sp} {env : Env} {S : Hm}, (∀ c e S, X c e S → X' c e S) → Sp.Le D D' → wHs G sub C c hs X D env S → wHs G sub C c hs X' D' env S
  | .nil, X, X', D, D', env, S, hX, hD, h => hX _ _ _ h
  | .cons h' i body rest, X, X', D, D', env, S, hX, hD, h => by
    simp only [wHs] at h ⊢
    split at h
    · rename_i hs
      rw [if_pos hs]
      cases i with
      | none => exact wSs_mono body hX hD h
      | some i => exact wSs_mono body (D := { nx := fun env' S' => back i env S env' S' ∧ D.nx (es env' i none) S', rt := fun _ _ => False }) (D' := { nx := fun env' S' => back i env S env' S' ∧ D'.nx (es env' i none) S', rt := fun _ _ => False }) (fun _ _ _ h => h) ⟨fun e S1 h1 => ⟨h1.1, hD.nx _ _ h1.2⟩, fun _ _ h => h, fun _ _ h => h⟩ h
    · rename_i hs
      rw [if_neg hs]
      exact wHs_mono c rest hX hD h
end
end

/-! ### programs -/
structure FDef where
  params : Nat
  names : List String
  dflt : List Lit
  body : Sts
structure Pg where
  flds : List String
  cls : List String
  tups : List (String × List Lit)
  fn : FK → Option FDef
  con : String → Option Val
  subs : List (String × List String) := []
  hotf : List String := []
  exts : List String := []
def Pg.excs (P : Pg) : List String := P.subs.map (·.1)
def Pg.sub (P : Pg) (a b : String) : Bool := match P.subs.lookup a with
  | some l => l.contains b
  | none => false
theorem Pg.sub_me {P : Pg} {a : String} (h : P.sub a a = true) : a ∈ P.excs := by
  unfold Pg.sub at h
  split at h
  · rename_i l e
    unfold Pg.excs
    generalize P.subs = t at e
    induction t with
    | nil => cases e
    | cons p r ih =>
      obtain ⟨x, y⟩ := p
      rw [List.lookup_cons] at e
      split at e
      · rename_i hb
        have := beq_iff_eq.mp hb
        subst this
        exact List.mem_cons_self
      · exact List.mem_cons_of_mem _ (ih e)
  · cases h
def Pg.isHot (P : Pg) : FK → Bool
  | .f x => P.hotf.contains x
  | .m _ _ => false
def startE (d : FDef) (args : List Val) : Env := args.map some ++ List.replicate (d.names.length - args.length) none
/-- a def's body, run with all its arguments -/
def bodyW (P : Pg) (C : CallW) (d : FDef) (args : List Val) (S : Hm) (Q : Post) (X : XPost) : Prop :=
  args.length = d.params ∧ wSs P.con P.sub C d.body (fun c _ S' => X c S') { nx := fun _ S' => Q .non S', rt := Q } (startE d args) S
def padded (d : FDef) (args : List Val) : List Val := args ++ (d.dflt.drop (args.length + d.dflt.length - d.params)).map Lit.val
def FK.init : FK → Bool
  | .f _ => false
  | .m _ x => x == "__init__"
/-- a call, k deep at most; an __init__ counts twice -/
def callW (P : Pg) : Nat → CallW
  | 0 => fun _ _ _ _ _ => False
  | k + 1 => fun f args S Q X => ∃ d, P.fn f = some d ∧ if f.init = true then (match k with
      | 0 => False
      | k' + 1 => bodyW P (callW P k') d (padded d args) S Q X) else bodyW P (callW P k) d (padded d args) S Q X
theorem bodyW_mono {P : Pg} {C : CallW} (hC : CMono C) {d : FDef} {args : List Val} {S : Hm} {Q Q' : Post} {X X' : XPost} (hq : ∀ v S, Q v S → Q' v S) (hx : ∀ c S, X c S → X' c S) (h : bodyW P C d args S Q X) : bodyW P C d args S Q' X' :=
  ⟨h.1, wSs_mono hC d.body (X := fun c _ S' => X c S') (X' := fun c _ S' => X' c S') (D := { nx := fun _ S' => Q .non S', rt := Q }) (D' := { nx := fun _ S' => Q' .non S', rt := Q' }) (fun c _ S1 => hx c S1) ⟨fun _ S1 => hq _ S1, hq, fun _ _ h => h⟩ h.2⟩
theorem callW_one {P : Pg} {f : FK} {args : List Val} {S : Hm} {Q : Post} {X : XPost} : callW P 1 f args S Q X = ∃ d, P.fn f = some d ∧ if f.init = true then False else bodyW P (callW P 0) d (padded d args) S Q X := rfl
theorem callW_two {P : Pg} {k : Nat} {f : FK} {args : List Val} {S : Hm} {Q : Post} {X : XPost} : callW P (k + 2) f args S Q X = ∃ d, P.fn f = some d ∧ if f.init = true then bodyW P (callW P k) d (padded d args) S Q X else bodyW P (callW P (k + 1)) d (padded d args) S Q X := rfl
theorem callW_mono (P : Pg) : ∀ k, CMono (callW P k)
  | 0 => fun _ _ _ _ _ _ _ _ _ h => h
  | 1 => fun f vs S Q Q' X X' hq hx h => by
      rw [callW_one] at h ⊢
      obtain ⟨d, h1, h2⟩ := h
      refine ⟨d, h1, ?_⟩
      split at h2
      · exact h2.elim
      · rename_i hi
        rw [if_neg hi]
        exact bodyW_mono (callW_mono P 0) hq hx h2
  | k + 2 => fun f vs S Q Q' X X' hq hx h => by
      rw [callW_two] at h ⊢
      obtain ⟨d, h1, h2⟩ := h
      refine ⟨d, h1, ?_⟩
      split at h2
      · rename_i hi
        rw [if_pos hi]
        exact bodyW_mono (callW_mono P k) hq hx h2
      · rename_i hi
        rw [if_neg hi]
        exact bodyW_mono (callW_mono P (k + 1)) hq hx h2
end Mi

set_option maxHeartbeats 2000000
namespace Mi
open PySem PySem.Spec L2 PyProof.Rows
/-! MiKd: dicts whose keys are texts and nested tuples of texts, side by side (the library's keyed dicts have tuples alone) -/
/-- keys beside entries -/
structure KEs (w : World) (h : Heap) (es : Array DictEntry) (ks : List NestedKey) : Prop where
  len : es.size = ks.length
  at_ : ∀ (i : Nat) (e : DictEntry), es[i]? = some e → ∃ k, ks[i]? = some k ∧ NestedIs h k e.key ∧ e.hash = k.hash w ∧ k.depth ≤ 8
  nd : ks.Nodup
section
variable {prog : Program} {w : World} {A : Around} {E : Value → Shared → Prop} {s : Shared} {d : Addr} {o : Obj} {es : Array DictEntry} {ep : Nat} {ks : List NestedKey} {k : NestedKey} {u : Value} {Q : Option Nat → Shared → Prop}
theorem KEs.get {h : Heap} (K : KEs w h es ks) {i : Nat} {q : NestedKey} (e : ks[i]? = some q) : ∃ x, es[i]? = some x ∧ NestedIs h q x.key ∧ x.hash = q.hash w ∧ q.depth ≤ 8 := by
  have hi : i < es.size := by rw [K.len]; exact (List.getElem?_eq_some_iff.mp e).1
  obtain ⟨q', e', r⟩ := K.at_ i es[i] (Array.getElem?_eq_getElem hi)
  rw [e] at e'
  cases e'
  exact ⟨_, Array.getElem?_eq_getElem hi, r⟩
theorem KEs.one {h : Heap} (K : KEs w h es ks) {i j : Nat} {q : NestedKey} (e : ks[i]? = some q) (f : ks[j]? = some q) : i = j :=
  (List.getElem?_inj (List.getElem?_eq_some_iff.mp e).1 K.nd).mp (e.trans f.symm)
theorem kd_quiet {stored : List Value} {R : Bool → Shared → Prop} (hk : NestedIs s.heap k u) (hd : k.depth ≤ 8) (hst : ∀ v ∈ stored, ∃ q, NestedIs s.heap q v ∧ q.depth ≤ 8) (h : R false s) : wpAny (model prog w) A (tableMayTell u stored) R E s := by
  unfold tableMayTell
  by_cases he : stored.isEmpty = true
  · rw [if_pos he]; exact wpAny_pure h
  rw [if_neg he]
  refine wpAny_bind (quiet_key k u 8 s hk hd A E _ ?_)
  rw [if_neg (by decide)]
  refine wpAny_bind (wpAny_forIn_list _ (fun l r t => t = s ∧ r = (none, ()) ∧ ∀ v ∈ l, ∃ q, NestedIs s.heap q v ∧ q.depth ≤ 8) _ ?_ ?_ _ _ ⟨rfl, rfl, hst⟩)
  · rintro x l r t ⟨rfl, rfl, hl⟩
    obtain ⟨q, h1, h2⟩ := hl x List.mem_cons_self
    refine wpAny_bind (quiet_key q x 8 t h1 h2 A E _ ?_)
    rw [if_neg (by decide)]
    exact wpAny_pure ⟨rfl, rfl, fun v hv => hl v (List.mem_cons_of_mem _ hv)⟩
  · rintro r t ⟨rfl, rfl, _⟩
    exact wpAny_pure h
/-- where the walk over the places of one hash stands -/
structure KdW (ks : List NestedKey) (k : NestedKey) (all : List Nat) (l : List Nat) (hit : Option Nat) : Prop where
  cut : ∃ pre, all = pre ++ l ∧ (hit = none → ∀ j ∈ pre, ks[j]? ≠ some k) ∧ ∀ j, hit = some j → ks[j]? = some k ∧ j ∈ pre
theorem KdW.next {all l : List Nat} {hit : Option Nat} {x : Nat} (W : KdW ks k all (x :: l) hit) (hx : ks[x]? ≠ some k) : KdW ks k all l hit := by
  obtain ⟨pre, e, h0, h1⟩ := W.cut
  refine ⟨pre ++ [x], by rw [e]; simp, fun z j hj => ?_, fun j z => ⟨(h1 j z).1, List.mem_append_left _ (h1 j z).2⟩⟩
  rcases List.mem_append.mp hj with hj | hj
  · exact h0 z j hj
  · rw [List.mem_singleton.mp hj]; exact hx
theorem KdW.hit {all l : List Nat} {x : Nat} (W : KdW ks k all (x :: l) none) (hx : ks[x]? = some k) : KdW ks k all l (some x) := by
  obtain ⟨pre, e, h0, h1⟩ := W.cut
  exact ⟨pre ++ [x], by rw [e]; simp, (fun z => by cases z), fun j z => by cases z; exact ⟨hx, by simp⟩⟩
theorem KdW.nohit {h : Heap} {all l : List Nat} {hit : Option Nat} {x : Nat} (W : KdW ks k all (x :: l) hit) (K : KEs w h es ks) (nd : all.Nodup) (hx : ks[x]? = some k) : hit = none := by
  obtain ⟨pre, e, h0, h1⟩ := W.cut
  cases hit with
  | none => rfl
  | some j =>
    obtain ⟨a, b⟩ := h1 j rfl
    have := K.one a hx
    subst this
    rw [e, List.nodup_append] at nd
    exact absurd rfl (nd.2.2 j b j List.mem_cons_self)
theorem KdW.done {h : Heap} {hit : Option Nat} (W : KdW ks k (placesWithHash es.size (fun i => es[i]?.map (·.hash)) (k.hash w)) [] hit) (K : KEs w h es ks) (h0 : k ∉ ks → Q none s) (h1 : ∀ j, ks[j]? = some k → Q (some j) s) : Q hit s := by
  obtain ⟨pre, e, g0, g1⟩ := W.cut
  rw [List.append_nil] at e
  cases hit with
  | some j => exact h1 j (g1 j rfl).1
  | none =>
    refine h0 fun z => ?_
    obtain ⟨j, hj⟩ := List.getElem?_of_mem z
    refine g0 rfl j ?_ hj
    obtain ⟨x, hx, _, hh, _⟩ := K.get hj
    rw [← e]
    unfold placesWithHash
    rw [List.mem_filter]
    refine ⟨List.mem_range.mpr ?_, by dsimp only; rw [hx]; simp [hh]⟩
    rw [K.len]
    exact (List.getElem?_eq_some_iff.mp hj).1
theorem kd_nd {n : Nat} {f : Nat → Option Int} {z : Int} : (placesWithHash n f z).Nodup := by
  unfold placesWithHash
  exact List.nodup_range.sublist List.filter_sublist
theorem kd_eq {a b : NestedKey} {v : Value} {R : Bool → Shared → Prop} (hu : A.units + 9 < cLine) (x : NestedIs s.heap a v) (y : NestedIs s.heap b u) (da : a.depth ≤ 8) (hr : R (decide (a = b)) s) : wpAny (model prog w) A (eqBool v u) R E s :=
  eqAt_key a b A s v u x y (by omega) _ _ _ _ (by rw [← NestedKey.decide_eq]; exact hr)
theorem kd_find (hu : A.units + 9 < cLine) (hg : s.heap.get? d = some o) (hd : o.data = .dict es ep) (K : KEs w s.heap es ks) (hk : NestedIs s.heap k u) (hdp : k.depth ≤ 8) (hv : (∃ x t, u = .str x t) ∨ ∃ a, u = .ref a) (h0 : k ∉ ks → Q none s) (h1 : ∀ j, ks[j]? = some k → Q (some j) s) : wpAny (model prog w) A (dictFind d u (k.hash w)) Q E s := by
  have hst : ∀ v ∈ (placesWithHash es.size (fun i => es[i]?.map (·.hash)) (k.hash w)).filterMap (fun i => es[i]?.map (·.key)), ∃ q, NestedIs s.heap q v ∧ q.depth ≤ 8 := by
    intro v hv
    obtain ⟨i, _, hi⟩ := List.mem_filterMap.mp hv
    obtain ⟨e, he, rfl⟩ := Option.map_eq_some_iff.mp hi
    obtain ⟨q, _, h2, _, h3⟩ := K.at_ i e he
    exact ⟨q, h2, h3⟩
  unfold dictFind
  try with_reducible refine wpAny_holding ?_
  refine wpAny_bind (wpAny_dictEntries hg hd ?_)
  dsimp only
  have K0 : KdW ks k (placesWithHash es.size (fun i => es[i]?.map (·.hash)) (k.hash w)) (placesWithHash es.size (fun i => es[i]?.map (·.hash)) (k.hash w)) none := ⟨[], rfl, (fun _ j hj => by cases hj), (fun j z => by cases z)⟩
  rcases hv with ⟨y, t, rfl⟩ | ⟨a, rfl⟩
  rotate_left
  · dsimp only
    rw [if_neg (by simp [carriedByValue])]
    have hno : ¬ (es.any fun e => e.key == Value.ref a && e.hash != k.hash w) = true := by
      intro z
      obtain ⟨i, hi, _, _, hz⟩ := Array.any_iff_exists.mp z
      obtain ⟨q, _, g2, g3, _⟩ := K.at_ i es[i] (Array.getElem?_eq_getElem (by omega))
      rw [Bool.and_eq_true, beq_iff_eq, bne_iff_ne] at hz
      rw [hz.1] at g2
      exact hz.2 (by rw [g3, NestedIs.inj _ _ _ g2 hk])
    rw [if_neg hno]
    by_cases hone : ((placesWithHash es.size (fun i => es[i]?.map (·.hash)) (k.hash w)).filterMap (fun i => es[i]?.map (·.key)) == [Value.ref a]) = true
    all_goals first | rw [if_pos hone] | rw [if_neg hone]
    all_goals first | refine wpAny_bind (wpAny_pure ?_) | refine wpAny_bind (kd_quiet hk hdp hst ?_)
    all_goals
      rw [if_neg (by simp)]
      refine wpAny_bind (wpAny_forIn_list _ (fun l r t => t = s ∧ r.1 = none ∧ KdW ks k (placesWithHash es.size (fun i => es[i]?.map (·.hash)) (k.hash w)) l r.2) _ ?_ ?_ _ _ ⟨rfl, rfl, K0⟩)
      · rintro x l ⟨r1, r2⟩ t ⟨rfl, hr, W⟩
        dsimp only at hr W ⊢
        subst hr
        have nd : (placesWithHash es.size (fun i => es[i]?.map (·.hash)) (k.hash w)).Nodup := kd_nd
        cases hx : es[x]? with
        | none =>
          refine wpAny_pure ⟨rfl, rfl, W.next fun z => ?_⟩
          obtain ⟨y, hy, _⟩ := K.get z
          rw [hx] at hy; cases hy
        | some e =>
          obtain ⟨q, q1, q2, q3, q4⟩ := K.at_ x e hx
          dsimp only
          by_cases hh : (e.hash == k.hash w) = true
          rotate_left
          · rw [if_neg hh]
            refine wpAny_pure ⟨rfl, rfl, W.next fun z => ?_⟩
            rw [q1] at z
            cases z
            rw [q3] at hh
            exact hh (by simp)
          rw [if_pos hh]
          refine wpAny_bind (wpAny_dictEpoch hg hd (wpAny_bind (kd_eq hu q2 hk q4 (wpAny_bind (wpAny_dictEpoch hg hd ?_)))))
          rw [if_neg (by simp)]
          by_cases hqk : q = k
          · subst hqk
            obtain rfl : r2 = none := W.nohit K nd q1
            rw [decide_eq_true rfl]
            simp only [Option.isSome_none, Bool.false_eq_true, if_false, if_true]
            refine wpAny_bind (wpAny_rule ?_)
            split
            · exact wpAny_pure (wpAny_pure (h1 x q1))
            · exact wpAny_pure ⟨rfl, rfl, W.hit q1⟩
          · rw [decide_eq_false hqk]
            simp only [Bool.false_eq_true, if_false, Bool.false_and]
            refine wpAny_bind (wpAny_rule ?_)
            exact wpAny_pure ⟨rfl, rfl, W.next fun z => hqk (Option.some.inj (q1.symm.trans z))⟩
      · rintro ⟨r1, r2⟩ t ⟨rfl, hr, W⟩
        dsimp only at hr W ⊢
        subst hr
        exact wpAny_pure (W.done K h0 h1)
  · dsimp only
    obtain rfl : k = .text y := by cases hk; rfl
    have isx : ∀ (q : NestedKey) (v : Value), NestedIs s.heap q v → (v.isStr y = true ↔ q = .text y) := by
      intro q v z
      cases z with
      | text z u => simp [Value.isStr]
      | _ => simp [Value.isStr]
    by_cases hall : (es.all fun e => isExactStrKey e.key) = true
    · rw [if_pos hall]
      unfold foundByValue
      cases hf : es.findIdx? (·.key.isStr y) with
      | none =>
        dsimp only
        refine wpAny_pure (h0 fun z => ?_)
        obtain ⟨j, hj⟩ := List.getElem?_of_mem z
        obtain ⟨e, he, h2, _⟩ := K.get hj
        have := Array.findIdx?_eq_none_iff.mp hf e (Array.mem_of_getElem? he)
        rw [(isx _ _ h2).mpr rfl] at this
        cases this
      | some i =>
        obtain ⟨hi, h2, _⟩ := Array.findIdx?_eq_some_iff_getElem.mp hf
        dsimp only
        rw [Array.getElem?_eq_getElem hi]
        dsimp only
        obtain ⟨q, q1, q2, q3, q4⟩ := K.at_ i es[i] (Array.getElem?_eq_getElem hi)
        obtain rfl := (isx _ _ q2).mp h2
        refine wpAny_bind (wpAny_dictEpoch hg hd (wpAny_bind (kd_eq hu q2 hk q4 (wpAny_bind (wpAny_dictEpoch hg hd ?_)))))
        rw [if_neg (by simp), decide_eq_true rfl, if_pos rfl]
        exact wpAny_bind (wpAny_rule (wpAny_pure (h1 i q1)))
    · rw [if_neg hall]
      have nd : (placesWithHash es.size (fun i => es[i]?.map (·.hash)) ((NestedKey.text y).hash w)).Nodup := kd_nd
      by_cases hcv : ((Value.str y t :: (placesWithHash es.size (fun i => es[i]?.map (·.hash)) ((NestedKey.text y).hash w)).filterMap (fun i => es[i]?.map (·.key))).all carriedByValue) = true
      · rw [if_pos hcv]
        unfold dictWalkPlain
        refine wpAny_bind (wpAny_forIn_list _ (fun l r t => t = s ∧ r = (none, ()) ∧ KdW ks (.text y) (placesWithHash es.size (fun i => es[i]?.map (·.hash)) ((NestedKey.text y).hash w)) l none) _ ?_ ?_ _ _ ⟨rfl, rfl, K0⟩)
        · rintro x l r t' ⟨rfl, rfl, W⟩
          cases hx : es[x]? with
          | none =>
            refine wpAny_pure ⟨rfl, rfl, W.next fun z => ?_⟩
            obtain ⟨v, hv, _⟩ := K.get z
            rw [hx] at hv; cases hv
          | some e =>
            obtain ⟨q, q1, q2, q3, q4⟩ := K.at_ x e hx
            dsimp only
            by_cases hh : (e.hash == (NestedKey.text y).hash w) = true
            rotate_left
            · rw [if_neg hh]
              refine wpAny_pure ⟨rfl, rfl, W.next fun z => ?_⟩
              rw [q1] at z
              cases z
              rw [q3] at hh
              exact hh (by simp)
            rw [if_pos hh]
            refine wpAny_bind (wpAny_dictEpoch hg hd (wpAny_bind (kd_eq hu q2 hk q4 (wpAny_bind (wpAny_dictEpoch hg hd ?_)))))
            rw [if_neg (by simp)]
            by_cases hqk : q = .text y
            · subst hqk
              rw [decide_eq_true rfl, if_pos rfl]
              exact wpAny_bind (wpAny_rule (wpAny_pure (wpAny_pure (h1 x q1))))
            · rw [decide_eq_false hqk, if_neg (by decide)]
              exact wpAny_bind (wpAny_rule (wpAny_pure ⟨rfl, rfl, W.next fun z => hqk (Option.some.inj (q1.symm.trans z))⟩))
        · rintro r t' ⟨rfl, rfl, W⟩
          exact wpAny_pure (W.done K h0 h1)
      · rw [if_neg hcv]
        by_cases hone : ((placesWithHash es.size (fun i => es[i]?.map (·.hash)) ((NestedKey.text y).hash w)).filterMap (fun i => es[i]?.map (·.key)) == [Value.str y t]) = true
        all_goals first | rw [if_pos hone] | rw [if_neg hone]
        all_goals first | refine wpAny_bind (wpAny_pure ?_) | refine wpAny_bind (kd_quiet hk hdp hst ?_)
        all_goals
          rw [if_neg (by simp)]
          refine wpAny_bind (wpAny_forIn_list _ (fun l r t => t = s ∧ r.1 = none ∧ KdW ks (.text y) (placesWithHash es.size (fun i => es[i]?.map (·.hash)) ((NestedKey.text y).hash w)) l r.2) _ ?_ ?_ _ _ ⟨rfl, rfl, K0⟩)
          · rintro x l ⟨r1, r2⟩ t ⟨rfl, hr, W⟩
            dsimp only at hr W ⊢
            subst hr
            have nd : (placesWithHash es.size (fun i => es[i]?.map (·.hash)) ((NestedKey.text y).hash w)).Nodup := kd_nd
            cases hx : es[x]? with
            | none =>
              refine wpAny_pure ⟨rfl, rfl, W.next fun z => ?_⟩
              obtain ⟨y, hy, _⟩ := K.get z
              rw [hx] at hy; cases hy
            | some e =>
              obtain ⟨q, q1, q2, q3, q4⟩ := K.at_ x e hx
              dsimp only
              by_cases hh : (e.hash == (NestedKey.text y).hash w) = true
              rotate_left
              · rw [if_neg hh]
                refine wpAny_pure ⟨rfl, rfl, W.next fun z => ?_⟩
                rw [q1] at z
                cases z
                rw [q3] at hh
                exact hh (by simp)
              rw [if_pos hh]
              refine wpAny_bind (wpAny_dictEpoch hg hd (wpAny_bind (kd_eq hu q2 hk q4 (wpAny_bind (wpAny_dictEpoch hg hd ?_)))))
              rw [if_neg (by simp)]
              by_cases hqk : q = .text y
              · subst hqk
                obtain rfl : r2 = none := W.nohit K nd q1
                rw [decide_eq_true rfl]
                simp only [Option.isSome_none, Bool.false_eq_true, if_false, if_true]
                refine wpAny_bind (wpAny_rule ?_)
                split
                · exact wpAny_pure (wpAny_pure (h1 x q1))
                · exact wpAny_pure ⟨rfl, rfl, W.hit q1⟩
              · rw [decide_eq_false hqk]
                simp only [Bool.false_eq_true, if_false, Bool.false_and]
                refine wpAny_bind (wpAny_rule ?_)
                exact wpAny_pure ⟨rfl, rfl, W.next fun z => hqk (Option.some.inj (q1.symm.trans z))⟩
          · rintro ⟨r1, r2⟩ t ⟨rfl, hr, W⟩
            dsimp only at hr W ⊢
            subst hr
            exact wpAny_pure (W.done K h0 h1)
end
/-- what an entry is found by -/
def keyH (e : DictEntry) : Value × Int := (e.key, e.hash)
section
variable {prog : Program} {w : World} {A : Around} {E : Value → Shared → Prop} {s : Shared} {d : Addr} {o : Obj} {es : Array DictEntry} {ep : Nat} {ks : List NestedKey} {k : NestedKey} {u : Value}
theorem kd_get {Q : Option Value → Shared → Prop} (hu : A.units + 9 < cLine) (hg : s.heap.get? d = some o) (hd : o.data = .dict es ep) (K : KEs w s.heap es ks) (hk : NestedIs s.heap k u) (hdp : k.depth ≤ 8) (hv : (∃ x t, u = .str x t) ∨ ∃ a, u = .ref a)
    (h : ∀ r, (r.isSome = true ↔ k ∈ ks) → Q r { s with toks := s.toks + k.draws }) : wpAny (model prog w) A (dictGet d u) Q E s := by
  unfold dictGet
  try with_reducible refine wpAny_holding ?_
  refine wpAny_bind (pyHash_key k u A s _ hk (by omega) (wpAny_bind (kd_find (s := { s with toks := s.toks + k.draws }) hu hg hd K hk hdp hv (fun hn => ?_) fun j hj => ?_)))
  · exact wpAny_pure (h none (by simp [hn]))
  · refine wpAny_bind (wpAny_dictEntries (s := { s with toks := s.toks + k.draws }) hg hd ?_)
    obtain ⟨x, hx, _⟩ := K.get hj
    exact wpAny_pure (h _ (by rw [hx]; simp [List.mem_of_getElem? hj]))
theorem kd_contains {Q : Bool → Shared → Prop} (hu : A.units + 10 < cLine) (hg : s.heap.get? d = some o) (hc : o.ExactDict) (hd : o.data = .dict es ep) (K : KEs w s.heap es ks) (hs : (d == sysModules) = false) (hk : NestedIs s.heap k u) (hdp : k.depth ≤ 8) (hv : (∃ x t, u = .str x t) ∨ ∃ a, u = .ref a)
    (h : ∀ b, (b = true ↔ k ∈ ks) → Q b { s with toks := s.toks + k.draws }) : wpAny (model prog w) A (contains (.ref d) u) Q E s := by
  have hT : s.TypeIs (.ref d) "dict" := ⟨o, hg, hc.1⟩
  refine wpAny_contains_slot hT F.slot_dict_contains ?_
  refine call_meetsIn F.slot_dict_contains hT F.entry_dict_contains (F.args_dict_contains_2 _ _) (S := fun A' R t => A' = A ∧ t = s ∧ ∀ b, (b = true ↔ k ∈ ks) → R (.ok (.ret (.bool b))) { s with toks := s.toks + k.draws }) (fun A' R t hS => ?_) ⟨rfl, rfl, fun b hb => wpAny_truthy_bool (h b hb)⟩
  obtain ⟨rfl, rfl, hq⟩ := hS
  show wpAny _ _ (dictGet d u >>= _) _ _ _
  refine wpAny_bind (kd_get (by simp only [Around.in1_units]; omega) hg hd K hk hdp hv fun r hr => ?_)
  cases r with
  | some x =>
    show wpAny _ _ (ret (.bool true)) _ _ _
    exact wpAny_pure (hq true (by simpa using hr))
  | none =>
    show wpAny _ _ (Builtin.Dict.pendingKey? d u >>= _) _ _ _
    exact wpAny_bind (wpAny_pendingKey_other hs (wpAny_pure (hq false (by simpa using hr))))
theorem kd_in {Q : Value → Shared → Prop} (hu : A.units + 10 < cLine) (hg : s.heap.get? d = some o) (hc : o.ExactDict) (hd : o.data = .dict es ep) (K : KEs w s.heap es ks) (hs : (d == sysModules) = false) (hk : NestedIs s.heap k u) (hdp : k.depth ≤ 8) (hv : (∃ x t, u = .str x t) ∨ ∃ a, u = .ref a)
    (h : ∀ b, (b = true ↔ k ∈ ks) → Q (.bool b) { s with toks := s.toks + k.draws }) : wpAny (model prog w) A (compareOp .In u (.ref d)) Q E s := by
  show wpAny _ _ (do return .bool (← contains (.ref d) u)) Q E s
  exact wpAny_bind (kd_contains hu hg hc hd K hs hk hdp hv fun b hb => wpAny_pure (h b hb))
theorem kd_notIn {Q : Value → Shared → Prop} (hu : A.units + 10 < cLine) (hg : s.heap.get? d = some o) (hc : o.ExactDict) (hd : o.data = .dict es ep) (K : KEs w s.heap es ks) (hs : (d == sysModules) = false) (hk : NestedIs s.heap k u) (hdp : k.depth ≤ 8) (hv : (∃ x t, u = .str x t) ∨ ∃ a, u = .ref a)
    (h : ∀ b, (b = true ↔ k ∈ ks) → Q (.bool (!b)) { s with toks := s.toks + k.draws }) : wpAny (model prog w) A (compareOp .NotIn u (.ref d)) Q E s := by
  show wpAny _ _ (do return .bool (!(← contains (.ref d) u))) Q E s
  exact wpAny_bind (kd_contains hu hg hc hd K hs hk hdp hv fun b hb => wpAny_pure (h b hb))
theorem kd_set {v : Value} {Q : Unit → Shared → Prop} (hu : A.units + 10 < cLine) (hg : s.heap.get? d = some o) (hc : o.ExactDict) (hd : o.data = .dict es ep) (K : KEs w s.heap es ks) (hk : NestedIs s.heap k u) (hdp : k.depth ≤ 8) (hv : (∃ x t, u = .str x t) ∨ ∃ a, u = .ref a) (hz : ks.length < sizeLine)
    (h : ∀ h' o' es' ep', h'.get? d = some o' → o'.ExactDict → o'.data = .dict es' ep' → (k ∈ ks ∧ es'.toList.map keyH = es.toList.map keyH ∨ k ∉ ks ∧ es'.toList.map keyH = es.toList.map keyH ++ [(u, k.hash w)]) → Heap.SameBut d s.heap h' → Q () { s with heap := h', toks := s.toks + k.draws }) :
    wpAny (model prog w) A (setItem (.ref d) u v) Q E s := by
  have hT : s.TypeIs (.ref d) "dict" := ⟨o, hg, hc.1⟩
  unfold setItem
  try with_reducible refine wpAny_holding ?_
  refine wpAny_bind (wpAny_sequenceKey hT (by decide) ?_)
  refine wpAny_bind (wpAny_callSpecial?_slot (name := Str.ofString "__setitem__") hT F.slot_dict_setitem (wpAny_call_entry F.slot_dict_setitem hT F.entry_dict_setitem ?_ (F.args_dict_setitem_3 _ _ _)))
  show wpAny _ _ (Builtin.Dict.notOrdered "__setitem__" ⟨[.ref d, u, v], []⟩ >>= _) _ _ s
  refine wpAny_bind (wpAny_notOrdered_dict hT ?_)
  show wpAny _ _ (dictSet d u v >>= _) _ _ s
  refine wpAny_bind ?_
  unfold dictSet
  try with_reducible refine wpAny_holding ?_
  refine wpAny_bind (pyHash_key k u _ s _ hk (by simp only [Around.in1_units]; omega) ?_)
  unfold dictSetHashed
  try with_reducible refine wpAny_holding ?_
  refine wpAny_bind (kd_find (s := { s with toks := s.toks + k.draws }) (by simp only [Around.in1_units]; omega) hg hd K hk hdp hv (fun hn => ?_) fun j hj => ?_)
  · refine wpAny_bind (wpAny_rule (wpAny_updateDictKeys (hz := by have := K.len; omega) (s := { s with toks := s.toks + k.draws }) hg hd ?_))
    refine wpAny_pure ⟨.none, rfl, wpAny_pure (h _ _ _ _ (Heap.get?_update_self _ hg (Obj.isFreed_of_dict (Obj.data_mapDictKeys hd _))) (hc.mapDictKeys _) (Obj.data_mapDictKeys hd _) (.inr ⟨hn, ?_⟩) (Heap.SameBut.update ..))⟩
    simp [keyH]
  · refine wpAny_bind (wpAny_rule (wpAny_bind (wpAny_updateDict (s := { s with toks := s.toks + k.draws }) hg hd (wpAny_point ?_))))
    refine wpAny_pure ⟨.none, rfl, wpAny_pure (h _ _ _ _ (Heap.get?_update_self _ hg (Obj.isFreed_of_dict (Obj.data_mapDict hd _))) (hc.mapDict _) (Obj.data_mapDict hd _) (.inl ⟨List.mem_of_getElem? hj, ?_⟩) (Heap.SameBut.update ..))⟩
    refine List.ext_getElem? fun i => ?_
    rw [List.getElem?_map, List.getElem?_map, Array.getElem?_toList, Array.getElem?_toList, Array.getElem?_modify]
    split
    · cases es[i]? <;> rfl
    · rfl
end
/-- a key as the library has it -/
def nk : Nat → Val → NestedKey
  | _, .str x => .text (Str.ofString x)
  | n + 1, .tup xs => .tup (xs.map (nk n))
  | _, _ => .none
theorem kOk_fr : ∀ (n : Nat) {v : Val}, kOk n v = true → v.fr = true
  | n, .str _, _ => rfl
  | n + 1, .tup xs, h => by
    rw [Val.fr]
    rw [kOk, List.all_eq_true] at h
    induction xs with
    | nil => rfl
    | cons x r ih => rw [Val.frs, kOk_fr n (h x List.mem_cons_self), ih fun y hy => h y (List.mem_cons_of_mem _ hy)]; rfl
  | 0, .tup xs, h => by simp [kOk] at h
  | _, .non, h => by simp [kOk] at h
  | _, .bl _, h => by simp [kOk] at h
  | _, .int _, h => by simp [kOk] at h
  | _, .ref _, h => by simp [kOk] at h
  | _, .exc _, h => by simp [kOk] at h
theorem depthAll_le : ∀ {ks : List NestedKey} {n : Nat}, (∀ k ∈ ks, k.depth ≤ n) → NestedKey.depthAll ks ≤ n
  | [], _, _ => by simp [NestedKey.depthAll]
  | k :: ks, n, h => by
    have h1 := h k List.mem_cons_self
    have h2 := depthAll_le fun q hq => h q (List.mem_cons_of_mem _ hq)
    simp only [NestedKey.depthAll]
    omega
theorem nk_depth : ∀ (n : Nat) {v : Val}, kOk n v = true → (nk n v).depth ≤ n
  | n, .str _, _ => by cases n <;> simp [nk, NestedKey.depth]
  | n + 1, .tup xs, h => by
    rw [kOk, List.all_eq_true] at h
    rw [nk, NestedKey.depth]
    refine Nat.succ_le_succ (depthAll_le fun q hq => ?_)
    obtain ⟨x, hx, rfl⟩ := List.mem_map.mp hq
    exact nk_depth n (h x hx)
  | 0, .tup xs, h => by simp [kOk] at h
  | _, .non, h => by simp [kOk] at h
  | _, .bl _, h => by simp [kOk] at h
  | _, .int _, h => by simp [kOk] at h
  | _, .ref _, h => by simp [kOk] at h
  | _, .exc _, h => by simp [kOk] at h
/-- the dict at a, by its keys and how they hash -/
def KdAt (w : World) (a : Addr) (es : List (V × NestedKey)) : Heap → Prop := fun h => (a == sysModules) = false ∧ ∃ o arr ep, h.get? a = some o ∧ o.ExactDict ∧ o.data = .dict arr ep ∧
  Paired (fun (p : V × NestedKey) (e : Value × Int) => RelV p.1 e.1 ∧ e.2 = p.2.hash w) es (arr.toList.map keyH)
theorem KdAt.stay {w : World} {a : Addr} {es : List (V × NestedKey)} (h1 h2 : Heap) (x : KdAt w a es h1) (k : ∀ o, h1.get? a = some o → h2.get? a = some o) : KdAt w a es h2 := by
  obtain ⟨hs, o, arr, ep, hg, r⟩ := x
  exact ⟨hs, o, arr, ep, k o hg, r⟩
end Mi

set_option maxHeartbeats 2000000
namespace Mi
open PySem PySem.Spec L2 PyProof.Rows

/-- which addresses are instances of which class; which one is the exception at hand -/
structure Cl where
  fn : String → Addr → Prop
  z : Addr → String → Prop
  ex : String → Addr → Prop
  w : World
instance : CoeFun Cl (fun _ => String → Addr → Prop) := ⟨Cl.fn⟩
def Cl.at (cl : Cl) (a : Addr) (c : String) : Cl := ⟨cl.fn, fun b d => b = a ∧ d = c, cl.ex, cl.w⟩
/-- how the small heap lies in the abstract one: em, the addresses of its places; z, the exception at hand -/
structure Sm where
  K : PySem.W.Frag
  H : Hp
  em : List Addr
  z : Option (Addr × String)

mutual
inductive RD (m : Sm) : Val → V → Prop where
  | non : RD m .non .non
  | bl (b : Bool) : RD m (.bl b) (.bl b)
  | int (i : Int) : RD m (.int i) (.int i)
  | str (x : String) : RD m (.str x) (.str (Str.ofString x))
  | tup {a : Addr} {xs : List V} {ds : List Val} : SqT m.K m.H a xs → RDs m ds xs → RD m (.tup ds) (.ref a)
  | ref {n : Nat} {a : Addr} : m.em[n]? = some a → RD m (.ref n) (.ref a)
  | exc {a : Addr} {c : String} : m.z = some (a, c) → RD m (.exc c) (.ref a)
inductive RDs (m : Sm) : List Val → List V → Prop where
  | nil : RDs m [] []
  | cons {d : Val} {x : V} {ds : List Val} {xs : List V} : RD m d x → RDs m ds xs → RDs m (d :: ds) (x :: xs)
end
section
variable {m m' : Sm}
/-- what keeps values: the tuples stay, places are added -/
structure Up (m m' : Sm) : Prop where
  tup : ∀ a xs, SqT m.K m.H a xs → SqT m'.K m'.H a xs
  em : ∃ l, m'.em = m.em ++ l
  z : ∀ p, m.z = some p → m'.z = some p
theorem em_get (h : ∃ l, m'.em = m.em ++ l) {n : Nat} {a : Addr} (e : m.em[n]? = some a) : m'.em[n]? = some a := by
  obtain ⟨l, h⟩ := h
  rw [h, List.getElem?_append_left (List.getElem?_eq_some_iff.mp e).1]
  exact e
mutual
theorem RD.up (u : Up m m') : ∀ {d : Val} {x : V}, RD m d x → RD m' d x
  | _, _, .non => .non
  | _, _, .bl b => .bl b
  | _, _, .int i => .int i
  | _, _, .str x => .str x
  | _, _, .tup h hs => .tup (u.tup _ _ h) (RDs.up u hs)
  | _, _, .ref h => .ref (em_get u.em h)
  | _, _, .exc h => .exc (u.z _ h)
theorem RDs.up (u : Up m m') : ∀ {ds : List Val} {xs : List V}, RDs m ds xs → RDs m' ds xs
  | _, _, .nil => .nil
  | _, _, .cons h hs => .cons (RD.up u h) (RDs.up u hs)
end
theorem RDs.length : ∀ {ds : List Val} {xs : List V}, RDs m ds xs → ds.length = xs.length
  | _, _, .nil => rfl
  | _, _, .cons h hs => by simp [RDs.length hs]
theorem RDs.append : ∀ {ds ds' : List Val} {xs xs' : List V}, RDs m ds xs → RDs m ds' xs' → RDs m (ds ++ ds') (xs ++ xs')
  | _, _, _, _, .nil, h => h
  | _, _, _, _, .cons h hs, h' => .cons h (RDs.append hs h')
theorem RDs.get : ∀ {ds : List Val} {xs : List V} {i : Nat} {d : Val}, RDs m ds xs → ds[i]? = some d → ∃ x, xs[i]? = some x ∧ RD m d x
  | _, _, i, d, .nil, h => by simp at h
  | _, _, 0, d, .cons h hs, e => by simp at e; subst e; exact ⟨_, rfl, h⟩
  | _, _, i + 1, d, .cons h hs, e => by
    obtain ⟨x, h1, h2⟩ := RDs.get (i := i) hs (by simpa using e)
    exact ⟨x, by simpa using h1, h2⟩
theorem RDs.getV : ∀ {ds : List Val} {xs : List V} {i : Nat} {x : V}, RDs m ds xs → xs[i]? = some x → ∃ d, ds[i]? = some d ∧ RD m d x
  | _, _, i, d, .nil, h => by simp at h
  | _, _, 0, d, .cons h hs, e => by simp at e; subst e; exact ⟨_, rfl, h⟩
  | _, _, i + 1, d, .cons h hs, e => by
    obtain ⟨x, h1, h2⟩ := RDs.getV (i := i) hs (by simpa using e)
    exact ⟨x, by simpa using h1, h2⟩
theorem RDs.take : ∀ {ds : List Val} {xs : List V} (n : Nat), RDs m ds xs → RDs m (ds.take n) (xs.take n)
  | _, _, 0, _ => by simp; exact .nil
  | _, _, n + 1, .nil => by simp; exact .nil
  | _, _, n + 1, .cons h hs => .cons h (RDs.take n hs)
theorem RDs.drop : ∀ {ds : List Val} {xs : List V} (n : Nat), RDs m ds xs → RDs m (ds.drop n) (xs.drop n)
  | _, _, 0, h => h
  | _, _, n + 1, .nil => by simp; exact .nil
  | _, _, n + 1, .cons h hs => RDs.drop n hs
theorem RDs.set {d : Val} {x : V} (r : RD m d x) : ∀ {ds : List Val} {xs : List V} (i : Nat), RDs m ds xs → RDs m (ds.set i d) (xs.set i x)
  | _, _, _, .nil => .nil
  | _, _, 0, .cons _ hs => .cons r hs
  | _, _, i + 1, .cons h hs => .cons h (RDs.set r i hs)
theorem RDs.rev : ∀ {ds : List Val} {xs : List V}, RDs m ds xs → RDs m ds.reverse xs.reverse
  | _, _, .nil => .nil
  | _, _, .cons h hs => by
    rw [List.reverse_cons, List.reverse_cons]
    exact (RDs.rev hs).append (.cons h .nil)
theorem RDs.dropLast {ds : List Val} {xs : List V} (h : RDs m ds xs) : RDs m ds.dropLast xs.dropLast := by
  rw [List.dropLast_eq_take, List.dropLast_eq_take, h.length]
  exact h.take _
theorem RDs.erase : ∀ {ds : List Val} {xs : List V} (i : Nat), RDs m ds xs → RDs m (ds.eraseIdx i) (xs.eraseIdx i)
  | _, _, _, .nil => .nil
  | _, _, 0, .cons h hs => hs
  | _, _, i + 1, .cons h hs => .cons h (RDs.erase i hs)
theorem RDs.ints : ∀ {ns : List Int} {xs : List V}, RDs m (ns.map Val.int) xs → xs = ns.map V.int
  | [], _, h => by cases h; rfl
  | n :: ns, _, h => by
    cases h with
    | cons h hs =>
      cases h
      rw [RDs.ints hs]
      rfl
theorem RDs.of_ints : ∀ (ns : List Int), RDs m (ns.map Val.int) (ns.map V.int)
  | [] => .nil
  | n :: ns => .cons (.int n) (RDs.of_ints ns)
theorem RDs.bls : ∀ {ns : List Bool} {xs : List V}, RDs m (ns.map Val.bl) xs → xs = ns.map V.bl
  | [], _, h => by cases h; rfl
  | n :: ns, _, h => by
    cases h with
    | cons h hs =>
      cases h
      rw [RDs.bls hs]
      rfl
theorem RDs.replicate {ds : List Val} {xs : List V} (h : RDs m ds xs) : ∀ n : Nat, RDs m (List.replicate n ds).flatten (List.replicate n xs).flatten
  | 0 => .nil
  | n + 1 => by
    rw [List.replicate_succ, List.replicate_succ, List.flatten_cons, List.flatten_cons]
    exact h.append (RDs.replicate h n)
theorem RDs.isEmpty {ds : List Val} {xs : List V} (h : RDs m ds xs) : xs.isEmpty = ds.isEmpty := by cases h <;> rfl
end

theorem ofString_inj {x y : String} (h : Str.ofString x = Str.ofString y) : x = y := by
  rw [Str.ofString_eq_toList, Str.ofString_eq_toList] at h
  have h1 : x.toList.map Char.toNat = y.toList.map Char.toNat := by
    have := congrArg (fun s : Str => s.cps.toList) h
    simpa using this
  have inj : ∀ a b : Char, a.toNat = b.toNat → a = b := fun a b e => by
    apply Char.ext
    apply UInt32.toNat_inj.mp
    exact e
  have h2 : ∀ l l' : List Char, l.map Char.toNat = l'.map Char.toNat → l = l' := by
    intro l
    induction l with
    | nil => intro l' h; cases l' with
      | nil => rfl
      | cons a r => simp at h
    | cons a r ih => intro l' h; cases l' with
      | nil => simp at h
      | cons b r' =>
        simp only [List.map_cons, List.cons.injEq] at h
        rw [inj a b h.1, ih r' h.2]
  exact String.ext (h2 _ _ h1)
theorem ofString_iff {x y : String} : Str.ofString x = Str.ofString y ↔ x = y := ⟨ofString_inj, fun h => by rw [h]⟩
theorem len_ofString (x : String) : (Str.ofString x).length = x.length := by
  rw [Str.ofString_eq_toList]
  simp [Str.length, String.length_toList]
theorem cps_ofString (x : String) : (Str.ofString x).cps.toList = x.toList.map Char.toNat := by
  rw [Str.ofString_eq_toList]
theorem ofString_append (x y : String) : Str.ofString (x ++ y) = Str.ofString x ++ Str.ofString y := by
  rw [Str.ofString_eq_toList, Str.ofString_eq_toList, Str.ofString_eq_toList, String.toList_append, List.map_append]
  show _ = (⟨_⟩ : Str)
  simp
theorem ofString_ofList (l : List Char) : Str.ofString (String.ofList l) = ⟨(l.map Char.toNat).toArray⟩ := by
  rw [Str.ofString_eq_toList, String.toList_ofList]

def kk : Key → L2.Key
  | .inl i => .inl i
  | .inr x => .inr (Str.ofString x)
theorem kk_inj {a b : Key} (h : kk a = kk b) : a = b := by
  cases a with
  | inl i => cases b with
    | inl j => injection h with h; rw [h]
    | inr y => cases h
  | inr x => cases b with
    | inl j => cases h
    | inr y => injection h with h; rw [ofString_inj h]
theorem key_rd {m : Sm} {v : Val} {x : V} {q : Key} (h : RD m v x) (e : v.key = some q) : x = L2.kV (kk q) := by
  cases h <;> simp [Val.key] at e <;> subst e <;> rfl
theorem rd_key {m : Sm} (q : Key) : RD m (Key.val q) (L2.kV (kk q)) := by
  cases q with
  | inl i => exact .int i
  | inr x => exact .str x

/-! ### objects -/
def RKs (m : Sm) (kvs : List (Key × Val)) (ws : List (L2.Key × V)) : Prop := Paired (fun (p : Key × Val) (q : L2.Key × V) => q.1 = kk p.1 ∧ RD m p.2 q.2) kvs ws
def RFs (m : Sm) (fs : List (String × Val)) (gs : List (Str × V)) : Prop := Paired (fun (p : String × Val) (q : Str × V) => q.1 = Str.ofString p.1 ∧ RD m p.2 q.2) fs gs
section
variable {m m' : Sm}
theorem RKs.up (u : Up m m') {kvs ws} (h : RKs m kvs ws) : RKs m' kvs ws := Paired.mapP h fun _ _ r => ⟨r.1, r.2.up u⟩
theorem RFs.up (u : Up m m') {fs gs} (h : RFs m fs gs) : RFs m' fs gs := Paired.mapP h fun _ _ r => ⟨r.1, r.2.up u⟩
theorem RKs.length {kvs ws} (h : RKs m kvs ws) : kvs.length = ws.length := Paired.length h
theorem RFs.length {kvs ws} (h : RFs m kvs ws) : kvs.length = ws.length := Paired.length h
theorem RKs.look {kvs ws} (h : RKs m kvs ws) (q : Key) : (∃ v x, lookK kvs q = some v ∧ valV ws (kk q) = some x ∧ RD m v x) ∨ (lookK kvs q = none ∧ valV ws (kk q) = none) := by
  unfold RKs at h
  induction h with
  | nil => exact .inr ⟨rfl, rfl⟩
  | @cons p r ps rs h t ih =>
    by_cases e : p.1 = q
    · refine .inl ⟨p.2, r.2, ?_, ?_, h.2⟩
      · simp [lookK, e]
      · have e2 : r.1 = kk q := by rw [h.1, e]
        simp [valV, e2]
    · have e2 : ¬ r.1 = kk q := fun z => e (kk_inj (h.1.symm.trans z))
      have e3 : lookK (p :: ps) q = lookK ps q := by simp [lookK, List.find?_cons, e]
      have e4 : valV (r :: rs) (kk q) = valV rs (kk q) := valV_neg e2
      rw [e3, e4]
      exact ih
theorem RKs.any {kvs ws} (h : RKs m kvs ws) (q : Key) : (kvs.any fun kv => decide (kv.1 = q)) = (ws.any fun kv => decide (kv.1 = kk q)) := by
  unfold RKs at h
  induction h with
  | nil => rfl
  | @cons p r ps rs h t ih =>
    rw [List.any_cons, List.any_cons, ih]
    congr 1
    by_cases e : p.1 = q
    · have e2 : r.1 = kk q := by rw [h.1, e]
      simp [e, e2]
    · have e2 : ¬ r.1 = kk q := fun z => e (kk_inj (h.1.symm.trans z))
      simp [e, e2]
theorem RKs.put {kvs ws} (h : RKs m kvs ws) (q : Key) {v : Val} {x : V} (r : RD m v x) : RKs m (putK kvs q v) (L2.putK ws (kk q) x) := by
  unfold putK L2.putK
  rw [h.any q]
  split
  · rename_i hh
    clear hh
    unfold RKs at h ⊢
    induction h with
    | nil => exact .nil
    | @cons p r' ps rs h t ih =>
      rw [List.map_cons, List.map_cons]
      refine .cons ?_ ih
      by_cases e : p.1 = q
      · have e2 : r'.1 = kk q := by rw [h.1, e]
        simp only [e, e2, if_true]
        exact ⟨trivial, r⟩
      · have e2 : ¬ r'.1 = kk q := fun z => e (kk_inj (h.1.symm.trans z))
        rw [if_neg e, if_neg e2]
        exact h
  · rename_i hh
    clear hh
    unfold RKs at h ⊢
    induction h with
    | nil => exact .cons ⟨rfl, r⟩ .nil
    | cons h t ih => exact .cons h ih
theorem RKs.drop {kvs ws} (h : RKs m kvs ws) (q : Key) : RKs m (dropK kvs q) (L2.dropK ws (kk q)) := by
  unfold dropK L2.dropK
  unfold RKs at h ⊢
  induction h with
  | nil => exact .nil
  | @cons p r' ps rs h t ih =>
    by_cases e : p.1 = q
    · have e2 : r'.1 = kk q := by rw [h.1, e]
      simpa [List.filter_cons, e, e2] using ih
    · have e2 : ¬ r'.1 = kk q := fun z => e (kk_inj (h.1.symm.trans z))
      have e5 : decide (r'.1 ≠ kk q) = true := decide_eq_true e2
      have e6 : (!decide (p.1 = q)) = true := by simp [e]
      rw [List.filter_cons, List.filter_cons, e5, e6]
      exact Paired.cons h ih
theorem RFs.look {fs gs} (h : RFs m fs gs) (f : String) : (∃ v x, fs.lookup f = some v ∧ gs.lookup (Str.ofString f) = some x ∧ RD m v x) ∨ (fs.lookup f = none ∧ gs.lookup (Str.ofString f) = none) := by
  unfold RFs at h
  induction h with
  | nil => exact .inr ⟨rfl, rfl⟩
  | @cons p r ps rs h t ih =>
    obtain ⟨p1, p2⟩ := p
    obtain ⟨r1, r2⟩ := r
    have h1 : r1 = Str.ofString p1 := h.1
    by_cases e : f = p1
    · subst e
      refine .inl ⟨p2, r2, ?_, ?_, h.2⟩
      · simp [List.lookup_cons]
      · simp [List.lookup_cons, h1]
    · have e2 : ¬ Str.ofString f = r1 := fun z => e (ofString_inj (z.trans h1))
      have e3 : (f == p1) = false := by simpa using e
      have e4 : (Str.ofString f == r1) = false := by simpa using e2
      rw [List.lookup_cons, List.lookup_cons, e3, e4]
      exact ih
theorem RFs.put {fs gs} (h : RFs m fs gs) (f : String) {v : Val} {x : V} (r : RD m v x) : RFs m (putF f v fs) (L2.putF (Str.ofString f) x gs) := by
  unfold RFs at h
  induction h with
  | nil => exact .cons ⟨rfl, r⟩ .nil
  | @cons p q ps qs h t ih =>
    obtain ⟨p1, p2⟩ := p
    obtain ⟨q1, q2⟩ := q
    have h1 : q1 = Str.ofString p1 := h.1
    unfold putF L2.putF
    by_cases e : p1 = f
    · have e2 : q1 = Str.ofString f := by rw [h1, e]
      rw [if_pos e, if_pos e2]
      exact .cons ⟨h1, r⟩ t
    · have e2 : ¬ q1 = Str.ofString f := fun z => e (ofString_inj (h1.symm.trans z))
      rw [if_neg e, if_neg e2]
      exact .cons h ih
end

/-- an exception of the class at C lies at a -/
def IsExn (a C : Addr) : Heap → Prop := fun h => ∃ o, h.get? a = some o ∧ L2N.Zn (.ref C) none o ∧ ∃ vs, o.data = .fields vs
/-- a table of kinds beside what the heap has: its keys, and how they are told apart -/
structure KdR (m : Sm) (fs : List (String × Val)) (es : List (V × NestedKey)) : Prop where
  rd : Paired (fun (p : String × Val) (e : V × NestedKey) => RD m p.2 e.1 ∧ kOk 8 p.2 = true ∧ e.2 = nk 8 p.2) fs es
  nd : (fs.map (·.2)).Nodup
theorem KdR.up {m m' : Sm} (u : Up m m') {fs : List (String × Val)} {es : List (V × NestedKey)} (h : KdR m fs es) : KdR m' fs es := ⟨Paired.mapP h.rd fun _ _ r => ⟨r.1.up u, r.2⟩, h.nd⟩
/-- the object at a -/
def RO (mg : Cl) (m : Sm) (a : Addr) : Ob → Prop
  | .lst ds => ∃ vs, m.H a = some (.lst vs) ∧ RDs m ds vs
  | .dic kvs => ∃ ws, m.H a = some (.dK ws) ∧ RKs m kvs ws
  | .ins c fs => ∃ C dx gs, m.H a = some (.ins C dx gs) ∧ mg c C ∧ RFs m fs gs
  | .lck (.lst ds) => (∃ o vs, m.H a = some (.frz o (.lst vs)) ∧ RDs m ds vs) ∨
      ∃ (o : Obj) (its : Array Value) (n : Nat) (vs : List V), m.K.lookup a = some o ∧ o.cls = .type "list" ∧ o.dict = none ∧ o.data = .seq its n ∧ its.size ≤ sizeLine ∧ Vals vs its.toList ∧ RDs m ds vs
  | .lck (.dic kvs) => ∃ o ws, m.H a = some (.frz o (.dK ws)) ∧ RKs m kvs ws
  | .lck (.ins c fs) => (c ≠ "{}" ∧ fs = [] ∧ ∃ C, m.H a = some (.ext (IsExn a C)) ∧ mg.ex c C) ∨
      c = "{}" ∧ ∃ es, m.H a = some (.ext (KdAt mg.w a es)) ∧ KdR m fs es
  | .lck _ => False
/-- the written part is not tracked -/
def KF (K : PySem.W.Frag) (H : Hp) : Prop := ∀ a o, K.lookup a = some o → H a = none
structure SH (mg : Cl) (m : Sm) (S : Hm) : Prop where
  len : m.em.length = S.length
  nd : m.em.Nodup
  kf : KF m.K m.H
  ob : ∀ (n : Nat) o a, S[n]? = some o → m.em[n]? = some a → RO mg m a o
  z : ∀ a c, m.z = some (a, c) → mg.z a c
/-- what a piece of code may do: things outside of the small heap stay, new places were free -/
structure Ev (m m' : Sm) : Prop where
  k : m'.K = m.K
  z : m'.z = m.z
  em : ∃ l, m'.em = m.em ++ l
  keep : ∀ b o, m.H b = some o → b ∉ m.em → m'.H b = some o
  new : ∀ b ∈ m'.em, b ∉ m.em → m.H b = none
  frz : ∀ b o u, m.H b = some (.frz o u) → m'.H b = some (.frz o u)
section
variable {mg : Cl} {m m' m1 m2 : Sm} {S S' : Hm} {n : Nat} {a : Addr} {o : Ob}
theorem Ev.refl (m : Sm) : Ev m m := ⟨rfl, rfl, ⟨[], by simp⟩, fun _ _ h _ => h, fun b h h' => absurd h h', fun _ _ _ h => h⟩
theorem Ev.mem (e : Ev m m') {b : Addr} (h : b ∈ m.em) : b ∈ m'.em := by
  obtain ⟨l, q⟩ := e.em
  rw [q]
  exact List.mem_append_left _ h
theorem Ev.trans (e : Ev m m1) (e' : Ev m1 m2) : Ev m m2 where
  k := e'.k.trans e.k
  z := e'.z.trans e.z
  em := by
    obtain ⟨l, q⟩ := e.em
    obtain ⟨l', q'⟩ := e'.em
    exact ⟨l ++ l', by rw [q', q, List.append_assoc]⟩
  keep := fun b o h n => e'.keep b o (e.keep b o h n) fun z => by
    have := e.new b z n
    rw [h] at this
    cases this
  new := fun b h n => by
    by_cases z : b ∈ m1.em
    · exact e.new b z n
    · have h1 := e'.new b h z
      cases q : m.H b with
      | none => rfl
      | some o => rw [e.keep b o q n] at h1; cases h1
  frz := fun b o u h => e'.frz b o u (e.frz b o u h)
theorem SH.at (h : SH mg m S) (e : S[n]? = some o) : ∃ a, m.em[n]? = some a ∧ RO mg m a o := by
  have hn : n < m.em.length := by rw [h.len]; exact (List.getElem?_eq_some_iff.mp e).1
  exact ⟨m.em[n], List.getElem?_eq_getElem hn, h.ob n o _ e (List.getElem?_eq_getElem hn)⟩
theorem SH.lt (h : SH mg m S) (e : m.em[n]? = some a) : ∃ o, S[n]? = some o := by
  have hn : n < S.length := by rw [← h.len]; exact (List.getElem?_eq_some_iff.mp e).1
  exact ⟨S[n], List.getElem?_eq_getElem hn⟩
/-- what stands at a place is no tuple -/
theorem SH.notup (h : SH mg m S) {a : Addr} {xs : List V} (e : m.H a = some (.tup xs) ∨ ∃ o, m.H a = some (.frz o (.tup xs))) : a ∉ m.em := fun z => by
  obtain ⟨n, hn⟩ := List.getElem?_of_mem z
  obtain ⟨o, ho⟩ := h.lt hn
  have r := h.ob n o a ho hn
  cases o with
  | lst ds => obtain ⟨vs, q, _⟩ := r; rcases e with e | ⟨_, e⟩ <;> rw [q] at e <;> cases e
  | dic ds => obtain ⟨vs, q, _⟩ := r; rcases e with e | ⟨_, e⟩ <;> rw [q] at e <;> cases e
  | ins c fs => obtain ⟨C, dx, gs, q, _⟩ := r; rcases e with e | ⟨_, e⟩ <;> rw [q] at e <;> cases e
  | lck o =>
    cases o with
    | lst ds =>
      rcases r with ⟨o, vs, q, _⟩ | ⟨o, its, k, vs, q, _⟩
      · rcases e with e | ⟨_, e⟩ <;> rw [q] at e <;> cases e
      · have := h.kf a o q
        rcases e with e | ⟨_, e⟩ <;> rw [this] at e <;> cases e
    | dic ds => obtain ⟨o, vs, q, _⟩ := r; rcases e with e | ⟨_, e⟩ <;> rw [q] at e <;> cases e
    | ins c fs => rcases r with ⟨_, _, C, q, _⟩ | ⟨_, es, q, _⟩ <;> rcases e with e | ⟨_, e⟩ <;> rw [q] at e <;> cases e
    | lck o => exact r
theorem Ev.up (e : Ev m m') (h : SH mg m S) : Up m m' where
  tup := fun a xs q => by
    rcases q with (q | ⟨o, q⟩) | q
    · exact .inl (.inl (e.keep _ _ q (h.notup (.inl q))))
    · exact .inl (.inr ⟨o, e.keep _ _ q (h.notup (.inr ⟨o, q⟩))⟩)
    · rw [e.k]
      exact .inr q
  em := e.em
  z := fun p q => by rw [e.z]; exact q
theorem SH.inj (h : SH mg m S) {i j : Nat} {a : Addr} (hi : m.em[i]? = some a) (hj : m.em[j]? = some a) : i = j := by
  obtain ⟨h1, e1⟩ := List.getElem?_eq_some_iff.mp hi
  obtain ⟨h2, e2⟩ := List.getElem?_eq_some_iff.mp hj
  exact (List.getElem_inj h.nd).mp (e1.trans e2.symm)
theorem RO.up (u : Up m m') (hk : m'.K = m.K) (hH : m'.H a = m.H a) (r : RO mg m a o) : RO mg m' a o := by
  cases o with
  | lst ds => obtain ⟨vs, q, r⟩ := r; exact ⟨vs, hH.trans q, r.up u⟩
  | dic ds => obtain ⟨vs, q, r⟩ := r; exact ⟨vs, hH.trans q, r.up u⟩
  | ins c fs => obtain ⟨C, dx, gs, q, g, r⟩ := r; exact ⟨C, dx, gs, hH.trans q, g, r.up u⟩
  | lck o =>
    cases o with
    | lst ds =>
      rcases r with ⟨o, vs, q, r⟩ | ⟨o, its, k, vs, q, h1, h2, h3, h4, h5, r⟩
      · exact .inl ⟨o, vs, hH.trans q, r.up u⟩
      · exact .inr ⟨o, its, k, vs, by rw [hk]; exact q, h1, h2, h3, h4, h5, r.up u⟩
    | dic ds => obtain ⟨o, vs, q, r⟩ := r; exact ⟨o, vs, hH.trans q, r.up u⟩
    | ins c fs =>
      rcases r with ⟨hn, h0, C, q, g⟩ | ⟨hn, es, q, g⟩
      · exact .inl ⟨hn, h0, C, hH.trans q, g⟩
      · exact .inr ⟨hn, es, hH.trans q, g.up u⟩
    | lck o => exact r
/-- a new tuple (or any thing outside of the small heap) -/
theorem SH.more (h : SH mg m S) {H' : Hp} (e : Ev m { m with H := H' }) (hH : ∀ b ∈ m.em, H' b = m.H b) (kf : KF m.K H') : SH mg { m with H := H' } S :=
  ⟨h.len, h.nd, kf, fun n o a e1 e2 => (h.ob n o a e1 e2).up (e.up h) rfl (hH a (List.mem_of_getElem? e2)), h.z⟩
theorem SH.free (h : SH mg m S) {p : Addr} (hp : m.H p = none) (kp : m.K.lookup p = none) : p ∉ m.em := fun z => by
  obtain ⟨n, hn⟩ := List.getElem?_of_mem z
  obtain ⟨o, ho⟩ := h.lt hn
  have r := h.ob n o p ho hn
  cases o with
  | lst ds => obtain ⟨vs, q, _⟩ := r; rw [hp] at q; cases q
  | dic ds => obtain ⟨vs, q, _⟩ := r; rw [hp] at q; cases q
  | ins c fs => obtain ⟨C, dx, gs, q, _⟩ := r; rw [hp] at q; cases q
  | lck o =>
    cases o with
    | lst ds =>
      rcases r with ⟨o, vs, q, _⟩ | ⟨o, its, k, vs, q, _⟩
      · rw [hp] at q; cases q
      · rw [kp] at q; cases q
    | dic ds => obtain ⟨o, vs, q, _⟩ := r; rw [hp] at q; cases q
    | ins c fs => rcases r with ⟨_, _, C, q, _⟩ | ⟨_, es, q, _⟩ <;> rw [hp] at q <;> cases q
    | lck o => exact r
theorem kf_free {K : PySem.W.Frag} {H : Hp} {p : Addr} {o : HO} (k : KF K H) (h : H p = some o) : K.lookup p = none := by
  cases q : K.lookup p with
  | none => rfl
  | some u => rw [k p u q] at h; cases h
/-- a thing outside of the small heap is made at p -/
theorem Ev.outside {p : Addr} {o : HO} (hp : m.H p = none) : Ev m { m with H := L2.upd m.H p o } :=
  ⟨rfl, rfl, ⟨[], by simp⟩, fun b u h _ => by show L2.upd m.H p o b = _; rw [upd_ne (ne_of_none h hp)]; exact h, fun b h h' => absurd h h', fun b q u h => by show L2.upd m.H p o b = _; rw [upd_ne (ne_of_none h hp)]; exact h⟩
theorem SH.outside (h : SH mg m S) {p : Addr} {o : HO} (hp : m.H p = none) (kf : KF m.K (L2.upd m.H p o)) : SH mg { m with H := L2.upd m.H p o } S := by
  have kp : m.K.lookup p = none := kf_free kf (upd_same (H := m.H) (a := p) (o := o))
  have np := h.free hp kp
  exact h.more (Ev.outside hp) (fun b hb => upd_ne fun z => np (z ▸ hb)) kf
/-- a new object at p comes to the small heap -/
theorem Ev.alloc {p : Addr} {o : HO} (hp : m.H p = none) : Ev m { m with H := L2.upd m.H p o, em := m.em ++ [p] } :=
  ⟨rfl, rfl, ⟨[p], rfl⟩, fun b u h _ => by show L2.upd m.H p o b = _; rw [upd_ne (ne_of_none h hp)]; exact h, fun b h h' => by
    rcases List.mem_append.mp h with z | z
    · exact absurd z h'
    · have : b = p := by simpa using z
      rw [this]; exact hp, fun b q u h => by show L2.upd m.H p o b = _; rw [upd_ne (ne_of_none h hp)]; exact h⟩
theorem SH.alloc (h : SH mg m S) {p : Addr} {o : HO} {ob : Ob} (hp : m.H p = none) (kf : KF m.K (L2.upd m.H p o)) (r : RO mg { m with H := L2.upd m.H p o, em := m.em ++ [p] } p ob) :
    SH mg { m with H := L2.upd m.H p o, em := m.em ++ [p] } (S ++ [ob]) := by
  have kp : m.K.lookup p = none := kf_free kf (upd_same (H := m.H) (a := p) (o := o))
  have np := h.free hp kp
  refine ⟨by simp [h.len], ?_, kf, fun n u a e1 e2 => ?_, h.z⟩
  · show (m.em ++ [p]).Nodup
    rw [List.nodup_append]
    refine ⟨h.nd, by simp, fun x hx y hy => ?_⟩
    have : y = p := by simpa using hy
    rw [this]
    exact fun z => np (z ▸ hx)
  · have e2 : (m.em ++ [p])[n]? = some a := e2
    by_cases hn : n < S.length
    · rw [List.getElem?_append_left hn] at e1
      rw [List.getElem?_append_left (by rw [h.len]; exact hn)] at e2
      exact (h.ob n u a e1 e2).up (m' := { m with H := L2.upd m.H p o, em := m.em ++ [p] }) ((Ev.alloc hp).up h) rfl (upd_ne fun z => np (z ▸ List.mem_of_getElem? e2))
    · have hn2 : n = S.length := by
        have := (List.getElem?_eq_some_iff.mp e1).1
        simp at this
        omega
      subst hn2
      rw [List.getElem?_append_right (Nat.le_refl _)] at e1
      rw [← h.len, List.getElem?_append_right (Nat.le_refl _)] at e2
      simp at e1 e2
      subst e1 e2
      exact r
/-- the object at place n is changed -/
theorem Ev.put {o : HO} (e : Ev m m1) (ha : m.em[n]? = some a) (nf : ∀ q u, m.H a ≠ some (.frz q u)) : Ev m { m1 with H := L2.upd m1.H a o } :=
  ⟨e.k, e.z, e.em, fun b u h nb => by show L2.upd m1.H a o b = _; rw [upd_ne fun z => nb (by rw [z]; exact List.mem_of_getElem? ha)]; exact e.keep b u h nb, e.new, fun b q u h => by show L2.upd m1.H a o b = _; rw [upd_ne fun z => nf q u (by rw [← z]; exact h)]; exact e.frz b q u h⟩
theorem Ev.write {o u : HO} (ha : m.em[n]? = some a) (hu : m.H a = some u) (nf : ∀ q x, u ≠ .frz q x := by intro _ _ h; cases h) : Ev m { m with H := L2.upd m.H a o } := (Ev.refl m).put ha fun q x h => nf q x (by rw [hu] at h; exact Option.some.inj h)
theorem SH.upw (h : SH mg m S) {o : HO} (ha : m.em[n]? = some a) : Up m { m with H := L2.upd m.H a o } where
  tup := fun b xs q => by
    have ne : ∀ b, b ∉ m.em → b ≠ a := fun b nb z => nb (by rw [z]; exact List.mem_of_getElem? ha)
    rcases q with (q | ⟨u, q⟩) | q
    · exact .inl (.inl (by show L2.upd m.H a o b = _; rw [upd_ne (ne b (h.notup (.inl q)))]; exact q))
    · exact .inl (.inr ⟨u, by show L2.upd m.H a o b = _; rw [upd_ne (ne b (h.notup (.inr ⟨u, q⟩)))]; exact q⟩)
    · exact .inr q
  em := ⟨[], by simp⟩
  z := fun _ h => h
theorem SH.write (h : SH mg m S) {o : HO} {u : HO} {ob : Ob} (ha : m.em[n]? = some a) (hu : m.H a = some u) (r : RO mg { m with H := L2.upd m.H a o } a ob) : SH mg { m with H := L2.upd m.H a o } (S.set n ob) := by
  refine ⟨by simp [h.len], h.nd, fun b q e => ?_, fun k v b e1 e2 => ?_, h.z⟩
  · show L2.upd m.H a o b = none
    have hb := h.kf b q e
    rw [upd_ne fun z => by rw [z, hu] at hb; cases hb]
    exact hb
  · by_cases hk : k = n
    · subst hk
      have e2 : m.em[k]? = some b := e2
      rw [ha] at e2
      cases e2
      have hl : k < S.length := by rw [← h.len]; exact (List.getElem?_eq_some_iff.mp ha).1
      rw [List.getElem?_set_self hl] at e1
      cases e1
      exact r
    · rw [List.getElem?_set_ne (Ne.symm hk)] at e1
      exact (h.ob k v b e1 e2).up (m' := { m with H := L2.upd m.H a o }) (h.upw ha) rfl (upd_ne fun z => hk (h.inj e2 (z ▸ ha)))

/-! ### reading -/
theorem SH.lst (h : SH mg m S) {xs : List Val} (e : Hm.lst S n = some xs) (ha : m.em[n]? = some a) : ∃ vs, SqL m.K m.H a vs ∧ RDs m xs vs := by
  obtain ⟨o, ho⟩ := h.lt ha
  have r := h.ob n o a ho ha
  unfold Hm.lst at e
  rw [ho] at e
  cases o with
  | lst ds => cases e; obtain ⟨vs, q, r⟩ := r; exact ⟨vs, .inl (.inl q), r⟩
  | dic ds => cases e
  | ins c fs => cases e
  | lck o =>
    cases o with
    | lst ds =>
      cases e
      rcases r with ⟨o, vs, q, r⟩ | ⟨o, its, k, vs, q, h1, h2, h3, h4, h5, r⟩
      · exact ⟨vs, .inl (.inr ⟨o, q⟩), r⟩
      · exact ⟨vs, .inr ⟨o, its, k, q, h1, h2, h3, h4, h5⟩, r⟩
    | dic ds => cases e
    | ins c fs => cases e
    | lck o => cases e
theorem SH.dic (h : SH mg m S) {xs : List (Key × Val)} (e : Hm.dic S n = some xs) (ha : m.em[n]? = some a) : ∃ ws, Rd m.H a (.dK ws) ∧ RKs m xs ws := by
  obtain ⟨o, ho⟩ := h.lt ha
  have r := h.ob n o a ho ha
  unfold Hm.dic at e
  rw [ho] at e
  cases o with
  | lst ds => cases e
  | dic ds => cases e; obtain ⟨vs, q, r⟩ := r; exact ⟨vs, .inl q, r⟩
  | ins c fs => cases e
  | lck o =>
    cases o with
    | lst ds => cases e
    | dic ds =>
      cases e
      obtain ⟨o, vs, q, r⟩ := r
      exact ⟨vs, .inr ⟨o, q⟩, r⟩
    | ins c fs => cases e
    | lck o => cases e
theorem lst_of (e : S[n]? = some (.lst xs)) : Hm.lst S n = some xs := by unfold Hm.lst; rw [e]
theorem dic_of (e : S[n]? = some (.dic xs)) : Hm.dic S n = some xs := by unfold Hm.dic; rw [e]
/-! ### no exception within -/
mutual
theorem RD.fr {m : Sm} (hz : m.z = none) : ∀ {v : Val} {x : V}, RD m v x → v.fr = true
  | _, _, .non => rfl
  | _, _, .bl _ => rfl
  | _, _, .int _ => rfl
  | _, _, .str _ => rfl
  | _, _, .tup _ hs => by rw [Val.fr]; exact RDs.fr hz hs
  | _, _, .ref _ => rfl
  | _, _, .exc h => by rw [hz] at h; cases h
theorem RDs.fr {m : Sm} (hz : m.z = none) : ∀ {ds : List Val} {xs : List V}, RDs m ds xs → Val.frs ds = true
  | _, _, .nil => rfl
  | _, _, .cons h hs => by rw [Val.frs, RD.fr hz h, RDs.fr hz hs]; rfl
end
mutual
theorem RD.out {m : Sm} : ∀ {v : Val} {x : V}, RD m v x → v.fr = true → RD { m with z := none } v x
  | _, _, .non, _ => .non
  | _, _, .bl b, _ => .bl b
  | _, _, .int i, _ => .int i
  | _, _, .str x, _ => .str x
  | _, _, .tup h hs, e => .tup h (RDs.out hs (by rw [Val.fr] at e; exact e))
  | _, _, .ref h, _ => .ref h
  | _, _, .exc h, e => by cases e
theorem RDs.out {m : Sm} : ∀ {ds : List Val} {xs : List V}, RDs m ds xs → Val.frs ds = true → RDs { m with z := none } ds xs
  | _, _, .nil, _ => .nil
  | _, _, .cons h hs, e => by
    rw [Val.frs, Bool.and_eq_true] at e
    exact .cons (RD.out h e.1) (RDs.out hs e.2)
end
theorem RKs.fr {m : Sm} (hz : m.z = none) {kvs : List (Key × Val)} {ws : List (L2.Key × V)} (h : RKs m kvs ws) : (kvs.all fun p => p.2.fr) = true := by
  unfold RKs at h
  induction h with
  | nil => rfl
  | cons h t ih => rw [List.all_cons, h.2.fr hz, ih]; rfl
theorem RFs.fr {m : Sm} (hz : m.z = none) {fs : List (String × Val)} {gs : List (Str × V)} (h : RFs m fs gs) : (fs.all fun p => p.2.fr) = true := by
  unfold RFs at h
  induction h with
  | nil => rfl
  | cons h t ih => rw [List.all_cons, h.2.fr hz, ih]; rfl
theorem RKs.out {m : Sm} {kvs : List (Key × Val)} {ws : List (L2.Key × V)} (h : RKs m kvs ws) (e : (kvs.all fun p => p.2.fr) = true) : RKs { m with z := none } kvs ws := by
  unfold RKs at h ⊢
  induction h with
  | nil => exact .nil
  | cons h t ih =>
    rw [List.all_cons, Bool.and_eq_true] at e
    exact .cons ⟨h.1, h.2.out e.1⟩ (ih e.2)
theorem RFs.out {m : Sm} {fs : List (String × Val)} {gs : List (Str × V)} (h : RFs m fs gs) (e : (fs.all fun p => p.2.fr) = true) : RFs { m with z := none } fs gs := by
  unfold RFs at h ⊢
  induction h with
  | nil => exact .nil
  | cons h t ih =>
    rw [List.all_cons, Bool.and_eq_true] at e
    exact .cons ⟨h.1, h.2.out e.1⟩ (ih e.2)
theorem kd_fr {m : Sm} {fs : List (String × Val)} {es : List (V × NestedKey)} (g : Paired (fun (p : String × Val) (e : V × NestedKey) => RD m p.2 e.1 ∧ kOk 8 p.2 = true ∧ e.2 = nk 8 p.2) fs es) : (fs.all fun p => p.2.fr) = true := by
  induction g with
  | nil => rfl
  | cons h t ih => rw [List.all_cons, kOk_fr _ h.2.1, ih]; rfl
theorem RO.fr {cl : Cl} {m : Sm} (hz : m.z = none) {a : Addr} {o : Ob} (h : RO cl m a o) : o.fr = true := by
  cases o with
  | lst ds => obtain ⟨vs, _, r⟩ := h; rw [Ob.fr]; exact r.fr hz
  | dic kvs => obtain ⟨ws, _, r⟩ := h; rw [Ob.fr]; exact r.fr hz
  | ins c fs => obtain ⟨C, dx, gs, _, _, r⟩ := h; rw [Ob.fr]; exact r.fr hz
  | lck o =>
    rw [Ob.fr]
    cases o with
    | lst ds =>
      rcases h with ⟨o, vs, _, r⟩ | ⟨o, its, n, vs, _, _, _, _, _, _, r⟩
      · rw [Ob.fr]; exact r.fr hz
      · rw [Ob.fr]; exact r.fr hz
    | dic kvs => obtain ⟨o, ws, _, r⟩ := h; rw [Ob.fr]; exact r.fr hz
    | ins c fs =>
      rcases h with ⟨_, h0, _⟩ | ⟨_, es, _, g⟩
      · subst h0; rfl
      · rw [Ob.fr]
        exact kd_fr g.rd
    | lck o => exact h.elim
theorem RO.out {cl : Cl} {b : Addr} {c : String} {m : Sm} {a : Addr} {o : Ob} (h : RO (cl.at b c) m a o) (e : o.fr = true) : RO cl { m with z := none } a o := by
  cases o with
  | lst ds => obtain ⟨vs, q, r⟩ := h; exact ⟨vs, q, r.out (by rw [Ob.fr] at e; exact e)⟩
  | dic kvs => obtain ⟨ws, q, r⟩ := h; exact ⟨ws, q, r.out (by rw [Ob.fr] at e; exact e)⟩
  | ins c fs => obtain ⟨C, dx, gs, q, g, r⟩ := h; exact ⟨C, dx, gs, q, g, r.out (by rw [Ob.fr] at e; exact e)⟩
  | lck o =>
    rw [Ob.fr] at e
    cases o with
    | lst ds =>
      rw [Ob.fr] at e
      rcases h with ⟨o, vs, q, r⟩ | ⟨o, its, n, vs, h1, h2, h3, h4, h5, h6, r⟩
      · exact .inl ⟨o, vs, q, r.out e⟩
      · exact .inr ⟨o, its, n, vs, h1, h2, h3, h4, h5, h6, r.out e⟩
    | dic kvs => rw [Ob.fr] at e; obtain ⟨o, ws, q, r⟩ := h; exact ⟨o, ws, q, r.out e⟩
    | ins c fs =>
      rcases h with h | ⟨hn, es, q, g⟩
      · exact .inl h
      · exact .inr ⟨hn, es, q, Paired.mapP g.rd fun _ _ r => ⟨r.1.out (kOk_fr _ r.2.1), r.2⟩, g.nd⟩
    | lck o => exact h.elim
/-- into an except suite -/
theorem SH.inz {cl : Cl} {m : Sm} {S : Hm} (h : SH cl m S) (hz : m.z = none) (a : Addr) (c : String) : SH (cl.at a c) { m with z := some (a, c) } S :=
  ⟨h.len, h.nd, h.kf, fun n o b e1 e2 => by
    have u : Up m { m with z := some (a, c) } := ⟨fun _ _ q => q, ⟨[], by simp⟩, fun p q => by rw [hz] at q; cases q⟩
    have r := h.ob n o b e1 e2
    have r2 : RO cl { m with z := some (a, c) } b o := r.up u rfl rfl
    cases o with
    | lst ds => exact r2
    | dic kvs => exact r2
    | ins c fs => exact r2
    | lck o => cases o <;> exact r2, fun b d e => by cases e; exact ⟨rfl, rfl⟩⟩
/-- .. and out of it -/
theorem SH.outz {cl : Cl} {m m2 : Sm} {S S2 : Hm} {a : Addr} {c : String} (h : SH cl m S) (hz : m.z = none) (e : Ev { m with z := some (a, c) } m2) (h2 : SH (cl.at a c) m2 S2) (hl : ∃ l : Hm, S2 = S ++ l ∧ l.all Ob.fr = true) : Ev m { m2 with z := none } ∧ SH cl { m2 with z := none } S2 := by
  refine ⟨⟨e.k, hz.symm, e.em, e.keep, e.new, e.frz⟩, ⟨h2.len, h2.nd, h2.kf, fun n o b e1 e2 => ?_, fun b d q => by cases q⟩⟩
  refine (h2.ob n o b e1 e2).out ?_
  obtain ⟨l, rfl, hf⟩ := hl
  by_cases hn : n < S.length
  · rw [List.getElem?_append_left hn] at e1
    obtain ⟨b', _, r⟩ := h.at e1
    exact r.fr hz
  · rw [List.getElem?_append_right (by omega)] at e1
    rw [List.all_eq_true] at hf
    exact hf o (List.mem_of_getElem? e1)
/-- wishes, lifted -/
def liftQ (mg : Cl) (m : Sm) (Q : VK) : Post := fun v S' => ∀ m' x, Ev m m' → SH mg m' S' → RD m' v x → Q x m'.H
theorem liftQ.ev {Q Q' : VK} (e : Ev m m1) (hq : ∀ x H, KF m.K H → Q x H → Q' x H) {v : Val} {S : Hm} (h : liftQ mg m Q v S) : liftQ mg m1 Q' v S := fun m' x e' hS r => by
  have e2 := e.trans e'
  exact hq _ _ (e2.k ▸ hS.kf) (h m' x e2 hS r)
end
end Mi

set_option maxHeartbeats 2000000
namespace Mi
open PySem PySem.Spec L2 PyProof.Rows
section
variable {X : Cx} {cl : Cl} {pins : List (Addr × Obj)} {σ : L2.St} {H : Hp} {s : Shared} {Q : VK}
theorem kfree (I : Inv X pins σ H s) : KF X.K H := fun a o e => (I.bs a o (I.ok.mod.kin a o e)).2
/-- what follows may use that the written part is not tracked -/
theorem epkf {M : Model} {A : Around} {E : Value → Shared → Prop} {f : Sem Value} (h : wpAny M A f (EP X pins σ fun x H' => KF X.K H' → Q x H') E s) : wpAny M A f (EP X pins σ Q) E s :=
  thn h fun _ _ ⟨v, H', I, r, q⟩ => ⟨v, H', I, r, q (kfree I)⟩
theorem PE.kf {e : Expr} {t : TE} (h : PE X e t) : PE X e (fun σ H Q => t σ H fun x H' => KF X.K H' → Q x H') := ⟨fun pins s σ H Q I hw => epkf (h.run pins s σ H _ I hw)⟩
theorem PE.imp {e : Expr} {t t' : TE} (h : PE X e t) (f : ∀ σ H Q, t' σ H Q → t σ H Q) : PE X e t' := ⟨fun pins s σ H Q I hw => h.run pins s σ H Q I (f _ _ _ hw)⟩
theorem OpR.kf {f : Value → Value → Sem Value} {r : R2} (h : OpR X f r) : OpR X f (fun x y H Q => r x y H fun z H' => KF X.K H' → Q z H') :=
  fun pins s σ H x y v u Q I rx ry hw => epkf (h pins s σ H x y v u _ I rx ry hw)
theorem CallR.kf {f : Value} {r : List V → Hp → VK → Prop} (h : CallR X f r) : CallR X f (fun xs H Q => r xs H fun z H' => KF X.K H' → Q z H') :=
  fun pins s σ H xs us Q I rx hw => epkf (h pins s σ H xs us _ I rx hw)
theorem MtR.kf {id : String} {r : V → List V → Hp → VK → Prop} (h : MtR X id r) : MtR X id (fun x xs H Q => r x xs H fun z H' => KF X.K H' → Q z H') :=
  fun pins s σ H x xs v us Q I rx rs hw => epkf (h pins s σ H x xs v us _ I rx rs hw)

/-! ### making things -/
variable {m : Sm} {S : Hm}
theorem mk_tup (hS : SH cl m S) {ds : List Val} {vs : List V} (r : RDs m ds vs) {p : Addr} (hp : m.H p = none) (kf : KF m.K (L2.upd m.H p (.tup vs))) (h : liftQ cl m Q (.tup ds) S) : Q (.ref p) (L2.upd m.H p (.tup vs)) := by
  have e : Ev m { m with H := L2.upd m.H p (.tup vs) } := Ev.outside hp
  exact h { m with H := L2.upd m.H p (.tup vs) } (.ref p) e (hS.outside hp kf) (.tup (.inl (.inl upd_same)) (r.up (e.up hS)))
theorem mk_lst (hS : SH cl m S) {ds : List Val} {vs : List V} (r : RDs m ds vs) {p : Addr} (hp : m.H p = none) (kf : KF m.K (L2.upd m.H p (.lst vs))) (h : liftQ cl m Q (.ref S.length) (S ++ [.lst ds])) : Q (.ref p) (L2.upd m.H p (.lst vs)) := by
  have e : Ev m { m with H := L2.upd m.H p (.lst vs), em := m.em ++ [p] } := Ev.alloc hp
  refine h { m with H := L2.upd m.H p (.lst vs), em := m.em ++ [p] } (.ref p) e (hS.alloc hp kf ⟨vs, upd_same, r.up (e.up hS)⟩) (.ref ?_)
  show (m.em ++ [p])[S.length]? = some p
  rw [← hS.len]
  simp
theorem mk_dic (hS : SH cl m S) {kvs : List (Key × Val)} {ws : List (L2.Key × V)} (r : RKs m kvs ws) {p : Addr} (hp : m.H p = none) (kf : KF m.K (L2.upd m.H p (.dK ws))) (h : liftQ cl m Q (.ref S.length) (S ++ [.dic kvs])) : Q (.ref p) (L2.upd m.H p (.dK ws)) := by
  have e : Ev m { m with H := L2.upd m.H p (.dK ws), em := m.em ++ [p] } := Ev.alloc hp
  refine h { m with H := L2.upd m.H p (.dK ws), em := m.em ++ [p] } (.ref p) e (hS.alloc hp kf ⟨ws, upd_same, r.up (e.up hS)⟩) (.ref ?_)
  show (m.em ++ [p])[S.length]? = some p
  rw [← hS.len]
  simp
/-- a list changed -/
theorem wr_lst (hS : SH cl m S) {n : Nat} {a : Addr} {u : HO} {ds : List Val} {vs : List V} {v : Val} {x : V} (ha : m.em[n]? = some a) (hu : m.H a = some u) (r : RDs m ds vs) (rx : RD m v x) (h : liftQ cl m Q v (S.set n (.lst ds))) (nf : ∀ q x, u ≠ .frz q x := by intro _ _ h; cases h) : Q x (L2.upd m.H a (.lst vs)) := by
  have e : Ev m { m with H := L2.upd m.H a (.lst vs) } := Ev.write ha hu nf
  exact h { m with H := L2.upd m.H a (.lst vs) } x e (hS.write ha hu ⟨vs, upd_same, r.up (e.up hS)⟩) (rx.up (e.up hS))
theorem wr_dic (hS : SH cl m S) {n : Nat} {a : Addr} {u : HO} {kvs : List (Key × Val)} {ws : List (L2.Key × V)} {v : Val} {x : V} (ha : m.em[n]? = some a) (hu : m.H a = some u) (r : RKs m kvs ws) (rx : RD m v x) (h : liftQ cl m Q v (S.set n (.dic kvs))) (nf : ∀ q x, u ≠ .frz q x := by intro _ _ h; cases h) : Q x (L2.upd m.H a (.dK ws)) := by
  have e : Ev m { m with H := L2.upd m.H a (.dK ws) } := Ev.write ha hu nf
  exact h { m with H := L2.upd m.H a (.dK ws) } x e (hS.write ha hu ⟨ws, upd_same, r.up (e.up hS)⟩) (rx.up (e.up hS))
theorem SH.lst' (h : SH cl m S) {n : Nat} {a : Addr} {xs : List Val} (e : S[n]? = some (.lst xs)) (ha : m.em[n]? = some a) : ∃ vs, m.H a = some (.lst vs) ∧ RDs m xs vs := h.ob n _ a e ha
theorem SH.dic' (h : SH cl m S) {n : Nat} {a : Addr} {xs : List (Key × Val)} (e : S[n]? = some (.dic xs)) (ha : m.em[n]? = some a) : ∃ ws, m.H a = some (.dK ws) ∧ RKs m xs ws := h.ob n _ a e ha
theorem stay (hS : SH cl m S) {v : Val} {x : V} (r : RD m v x) (h : liftQ cl m Q v S) : Q x m.H := h m x (Ev.refl m) hS r

/-! ### == -/
theorem strOk_ofString (x : String) : PyData.strOk (Str.ofString x) = true := by
  unfold PyData.strOk
  rw [← Array.all_toList, cps_ofString, List.all_eq_true]
  intro c hc
  obtain ⟨d, _, rfl⟩ := List.mem_map.mp hc
  have h := d.valid
  simp only [UInt32.isValidChar, Nat.isValidChar] at h
  have : d.toNat = d.val.toNat := rfl
  rw [decide_eq_true_eq]
  omega
theorem mapM_some {α β : Type} {f : α → Option β} : ∀ {xs : List α} {ys : List β}, xs.mapM f = some ys → Paired (fun x y => f x = some y) xs ys
  | [], ys, h => by
    simp at h
    subst h
    exact .nil
  | x :: xs, ys, h => by
    rw [List.mapM_cons] at h
    cases e : f x with
    | none => rw [e] at h; simp at h
    | some y =>
      rw [e] at h
      cases e2 : xs.mapM f with
      | none => rw [e2] at h; simp at h
      | some zs =>
        rw [e2] at h
        simp at h
        subst h
        exact .cons e (mapM_some e2)
theorem some_mapM {α β : Type} {f : α → Option β} {xs : List α} {ys : List β} (h : Paired (fun x y => f x = some y) xs ys) : xs.mapM f = some ys := by
  induction h with
  | nil => rfl
  | cons h t ih => rw [List.mapM_cons, h, ih]; rfl
theorem dat_dp (hS : SH cl m S) : ∀ (k : Nat) {v : Val} {x : V} {d : PyData}, RD m v x → dat S k v = some d → Dp m.K m.H x d ∧ d.canLay0 = true ∧ d.depth ≤ k := by
  have all : ∀ (k : Nat), (∀ {v : Val} {x : V} {d : PyData}, RD m v x → dat S k v = some d → Dp m.K m.H x d ∧ d.canLay0 = true ∧ d.depth ≤ k) →
      ∀ {ds : List Val} {xs : List V} {es : List PyData}, RDs m ds xs → Paired (fun x y => dat S k x = some y) ds es → DpAll m.K m.H xs es ∧ PyData.canLayAll0 es = true ∧ PyData.depthAll es ≤ k := by
    intro k ih ds xs es r p
    induction p generalizing xs with
    | nil => cases r; exact ⟨.nil, by simp [PyData.canLayAll0], by simp [PyData.depthAll]⟩
    | cons h t iht =>
      cases r with
      | cons r rs =>
        obtain ⟨a1, a2, a3⟩ := ih r h
        obtain ⟨b1, b2, b3⟩ := iht rs
        exact ⟨.cons a1 b1, by simp [PyData.canLayAll0, a2, b2], by simp [PyData.depthAll]; omega⟩
  intro k
  induction k with
  | zero =>
    intro v x d r e
    cases r <;> simp [dat] at e
    · subst e; exact ⟨.non, rfl, by simp [PyData.depth]⟩
    · subst e; exact ⟨.bl _, rfl, by simp [PyData.depth]⟩
    · subst e; exact ⟨.int _, rfl, by simp [PyData.depth]⟩
    · subst e; exact ⟨.str _, by simp [PyData.canLay0, strOk_ofString], by simp [PyData.depth]⟩
  | succ k ih =>
    intro v x d r e
    cases r with
    | non => simp [dat] at e; subst e; exact ⟨.non, rfl, by simp [PyData.depth]⟩
    | bl b => simp [dat] at e; subst e; exact ⟨.bl _, rfl, by simp [PyData.depth]⟩
    | int i => simp [dat] at e; subst e; exact ⟨.int _, rfl, by simp [PyData.depth]⟩
    | str x => simp [dat] at e; subst e; exact ⟨.str _, by simp [PyData.canLay0, strOk_ofString], by simp [PyData.depth]⟩
    | @tup a xs ds hq rs =>
      simp only [dat, Option.map_eq_some_iff] at e
      obtain ⟨es, e1, rfl⟩ := e
      obtain ⟨a1, a2, a3⟩ := all k ih rs (mapM_some e1)
      exact ⟨.tup hq a1, by simpa [PyData.canLay0] using a2, by simp [PyData.depth]; exact a3⟩
    | @ref n a ha =>
      simp only [dat] at e
      split at e
      · rename_i xs hl
        rw [Option.map_eq_some_iff] at e
        obtain ⟨es, e1, rfl⟩ := e
        obtain ⟨vs, hq, rs⟩ := hS.lst hl ha
        obtain ⟨a1, a2, a3⟩ := all k ih rs (mapM_some e1)
        exact ⟨.lst hq a1, by simpa [PyData.canLay0] using a2, by simp [PyData.depth]; exact a3⟩
      · cases e
    | exc h => simp [dat] at e
theorem dat_shaped {k : Nat} (hS : SH cl m S) {v : Val} {x : V} {d : PyData} (hk : k ≤ 64) (r : RD m v x) (e : dat S k v = some d) : Dp m.K m.H x d ∧ SeqAt.shaped d = true := by
  obtain ⟨a, b, c⟩ := dat_dp hS k r e
  refine ⟨a, ?_⟩
  unfold SeqAt.shaped
  rw [b, decide_eq_true (by omega)]
  rfl
theorem datAll_dp (hS : SH cl m S) {k : Nat} {ds : List Val} {xs : List V} {es : List PyData} (hk : k + 1 ≤ 64) (r : RDs m ds xs) (e : ds.mapM (dat S k) = some es) : DpAll m.K m.H xs es ∧ SeqAt.shaped (.list es) = true := by
  have p := mapM_some e
  have all : DpAll m.K m.H xs es ∧ PyData.canLayAll0 es = true ∧ PyData.depthAll es ≤ k := by
    clear e
    induction p generalizing xs with
    | nil => cases r; exact ⟨.nil, by simp [PyData.canLayAll0], by simp [PyData.depthAll]⟩
    | cons h t iht =>
      cases r with
      | cons r rs =>
        obtain ⟨a1, a2, a3⟩ := dat_dp hS k r h
        obtain ⟨b1, b2, b3⟩ := iht rs
        exact ⟨.cons a1 b1, by simp [PyData.canLayAll0, a2, b2], by simp [PyData.depthAll]; omega⟩
  refine ⟨all.1, ?_⟩
  unfold SeqAt.shaped
  have h1 : (PyData.list es).canLay0 = true := by simpa [PyData.canLay0] using all.2.1
  have h2 : (PyData.list es).depth ≤ 64 := by simp [PyData.depth]; omega
  rw [h1, decide_eq_true h2]
  rfl
theorem flat_rd {v : Val} {x : V} (r : RD m v x) (h : flat v = true) : flatV x = true := by cases r <;> first | rfl | cases h
theorem feq_rd {v w : Val} {x y : V} (r : RD m v x) (r' : RD m w y) (h : flat v = true) (h' : flat w = true) : eqV x y = feq v w := by
  cases r <;> cases r' <;> first | rfl | cases h | cases h' | skip
  rename_i a b
  show (Str.ofString a == Str.ofString b) = (a == b)
  by_cases e : a = b
  · subst e; simp
  · have e2 : ¬ Str.ofString a = Str.ofString b := fun z => e (ofString_inj z)
    rw [beq_eq_false_iff_ne.mpr e, beq_eq_false_iff_ne.mpr e2]
theorem flats_rd {ds : List Val} {xs : List V} (r : RDs m ds xs) (h : ds.all flat = true) : xs.all flatV = true := by
  induction ds generalizing xs with
  | nil => cases r; rfl
  | cons d ds ih =>
    cases r with
    | cons r rs =>
      rw [List.all_cons, Bool.and_eq_true] at h
      rw [List.all_cons, flat_rd r h.1, ih rs h.2]
      rfl
theorem inV_rd {ds : List Val} {xs : List V} {v : Val} {x : V} (r : RDs m ds xs) (h : ds.all flat = true) (rv : RD m v x) (hv : flat v = true) : inV x xs = ds.any fun y => feq y v := by
  unfold inV
  induction ds generalizing xs with
  | nil => cases r; rfl
  | cons d ds ih =>
    cases r with
    | cons r rs =>
      rw [List.all_cons, Bool.and_eq_true] at h
      rw [List.any_cons, List.any_cons, feq_rd r rv h.1 hv, ih rs h.2]
end
end Mi

set_option maxHeartbeats 4000000
/-! a tuple once, and no times -/
namespace Mi
open PySem PySem.Spec L2 PyProof.Rows
section
variable {l : Addr} {its : Array Value} {n : Nat} {dd : Option Addr} {sl : Array (Option Value)} {x : Int} {u : Tok}
abbrev tOb (its : Array Value) (n : Nat) (dd : Option Addr) (sl : Array (Option Value)) : Obj := { cls := .type "tuple", dict := dd, data := .seq its n, slots := sl }
theorem tm_one (h1 : x = 1) : Meets (Builtin.«tuple.__mul__» ⟨[.ref l, .int x u], []⟩) (fun _ R s => s.heap.get? l = some (tOb its n dd sl) ∧ R (.ok (.ret (Value.ref l))) s) :=
  .of_wp fun prog w A R s h => by
    obtain ⟨hp, g, d, tk, os⟩ := s
    obtain ⟨hl, h⟩ := h
    subst h1
    have f1 := AutoSeq1.idx_int
    have c0 : (decide ((1 : Int) < -(2 ^ 63)) || decide ((1 : Int) ≥ 2 ^ 63)) = false := by decide
    have c1 : (its.isEmpty || (1 : Int) == 1) = true := by rw [Bool.or_eq_true]; exact .inr (by decide)
    wp_walk using wpAny_loadPart' hl
    repeat (first
      | (refine wpAny_ite_false (decide_eq_false (by rw [c0]; exact Bool.false_ne_true)) ?_; wp_walk using wpAny_loadPart' hl)
      | (refine wpAny_ite_true (decide_eq_true c1) ?_; wp_walk using wpAny_loadPart' hl))
    exact ⟨_, rfl, h⟩
theorem tm_none (h0 : x ≤ 0) (hb : -(2 ^ 63) ≤ x) (hn : its.isEmpty = false) : Meets (Builtin.«tuple.__mul__» ⟨[.ref l, .int x u], []⟩) (fun _ R s => s.heap.get? l = some (tOb its n dd sl) ∧ R (.ok (.ret (Value.ref s.heap.objs.size))) { s with heap := s.heap.push { cls := Value.type "tuple", data := Data.seq #[] }, toks := s.toks }) :=
  .of_wp fun prog w A R s h => by
    obtain ⟨hp, g, d, tk, os⟩ := s
    obtain ⟨hl, h⟩ := h
    have f1 := AutoSeq1.idx_int
    have c0 : (decide (x < -(2 ^ 63)) || decide (x ≥ 2 ^ 63)) = false := by rw [decide_eq_false (by omega), decide_eq_false (by omega)] <;> rfl
    have c1 : (its.isEmpty || x == 1) = false := by rw [hn, Bool.false_or]; exact beq_eq_false_iff_ne.mpr (by omega)
    have c2 : (decide (x ≤ 0) || its.isEmpty) = true := by rw [decide_eq_true h0]; rfl
    wp_walk using wpAny_loadPart' hl
    repeat (first
      | (refine wpAny_ite_false (decide_eq_false (by rw [c0]; exact Bool.false_ne_true)) ?_; wp_walk using wpAny_loadPart' hl)
      | (refine wpAny_ite_false (decide_eq_false (by rw [c1]; exact Bool.false_ne_true)) ?_; wp_walk using wpAny_loadPart' hl)
      | (refine wpAny_ite_true (decide_eq_true c2) ?_; wp_walk using wpAny_loadPart' hl))
    exact ⟨_, rfl, h⟩
end
section
variable {X : Cx}
theorem isEmpty_no {xs : List V} {ys : List Value} (r : Vals xs ys) (h : xs ≠ []) : ys.toArray.isEmpty = false := by
  cases r with
  | nil => exact absurd rfl h
  | cons _ _ => rfl
/-- what the number's own way leaves to the tuple -/
theorem rep_pre {s : Shared} {E : Value → Shared → Prop} {R : Value → Shared → Prop} {l : Addr} {k : Int} {t : Tok} {its : Array Value} {n : Nat} {dd : Option Addr} {sl : Array (Option Value)} (ho : s.heap.get? l = some (tOb its n dd sl))
    (h : wpAny (model X.prog X.w) X.A (call (.builtin "tuple.__mul__") [.ref l, .int k t]) R E s) : wpAny (model X.prog X.w) X.A (binaryOp .Mult (.ref l) (.int k t)) R E s := by
  have hl : s.TypeIs (.ref l) "tuple" := ⟨_, ho, rfl⟩
  have hi := fun z => typeIs_int z k t
  refine wpAny_binaryOp_repeat_ref (U := "int") (T := "tuple")
    (by decide) hl hi noFill_tuple_mul F.fills_int_mul F.slot_int_rmul
    repeat_tuple F.slot_int_index.lookup ?_
  refine call_meets F.slot_int_rmul (hi s) F.entry_int_rmul
    (F.args_int_rmul_2 _ _) (int_rmul_tuple k t l its n dd sl) ?_
  exact ⟨ho, rfl, hl, h⟩
theorem op_repT1 : OpR X (binaryOp .Mult) (fun x y H Q => ∃ l xs, x = .ref l ∧ y = .int 1 ∧ SqT X.K H l xs ∧ Q (.ref l) H) := by
  intro pins s σ H x y v u Q I rx ry ⟨l, xs, e1, e2, hT, q⟩
  subst e1 e2
  cases rx
  obtain ⟨t, rfl⟩ := ry
  obtain ⟨its, r, ⟨⟨cls, dd, data, sl⟩, ho, hc, n, hd⟩, hs⟩ := I.tuple hT
  simp only at hc hd
  subst hc hd
  have ty : s.TypeIs (.ref l) "tuple" := ⟨_, ho, rfl⟩
  exact rep_pre ho (call_meets F.slot_tuple_mul ty F.entry_tuple_mul (F.args_tuple_mul_2 _ _)
    (tm_one (n := n) rfl) ⟨ho, .ref l, H, I, rfl, q⟩)
theorem op_repT0 : OpR X (binaryOp .Mult) (fun x y H Q => ∃ l k xs, x = .ref l ∧ y = .int k ∧ SqT X.K H l xs ∧ xs ≠ [] ∧ k ≤ 0 ∧ -(2 ^ 63) ≤ k ∧ ∀ p, H p = none → Q (.ref p) (upd H p (.tup []))) := by
  intro pins s σ H x y v u Q I rx ry ⟨l, k, xs, e1, e2, hT, hne, h1, h2, q⟩
  subst e1 e2
  cases rx
  obtain ⟨t, rfl⟩ := ry
  obtain ⟨its, r, ⟨⟨cls, dd, data, sl⟩, ho, hc, n, hd⟩, hs⟩ := I.tuple hT
  simp only at hc hd
  subst hc hd
  have ty : s.TypeIs (.ref l) "tuple" := ⟨_, ho, rfl⟩
  have new : ObjOk X.prog X.w (upd H s.heap.objs.size (.tup [])) (s.heap.push { cls := Value.type "tuple", data := Data.seq #[] }) s.heap.objs.size (.tup []) :=
    ⟨Nat.zero_le _, [], .nil, IsTup.new _ _⟩
  exact rep_pre ho (call_meets F.slot_tuple_mul ty F.entry_tuple_mul (F.args_tuple_mul_2 _ _)
    (tm_none (n := n) h1 h2 (isEmpty_no r hne)) ⟨ho, .ref s.heap.objs.size, _, I.laid (t' := s.toks) (o := .tup []) (fun b ob z => Heap.get?_push_of_some _ z) (Nat.le_refl _) new, rfl, q _ (I.hok.fresh (Nat.le_refl _))⟩)
end
end Mi

set_option maxHeartbeats 2000000
namespace Mi
open PySem PySem.Spec L2 PyProof.Rows
section
variable {X : Cx} {cl : Cl}
/-- values that lie in the small heap, of which r holds -/
def r2 (X : Cx) (cl : Cl) (r : Val → Val → Hm → Post → Prop) : R2 := fun x y H Q => ∃ m S v w, m.K = X.K ∧ m.H = H ∧ SH cl m S ∧ RD m v x ∧ RD m w y ∧ r v w S (liftQ cl m Q)
/-- an operator with the conditions of one of its kinds -/
theorem opr_of {f : Value → Value → Sem Value} {r : R2} (h : OpR X f r) {pins : List (Addr × Obj)} {s : Shared} {σ : L2.St} {H : Hp} {x y : V} {v u : Value} {Q : VK} (I : Inv X pins σ H s) (rx : RelV x v) (ry : RelV y u)
    (hw : r x y H fun z H' => KF X.K H' → Q z H') : wpAny (model X.prog X.w) X.A (f v u) (EP X pins σ Q) X.xe s := OpR.kf h pins s σ H x y v u Q I rx ry hw
theorem mulOk_X {i j : Int} (h : mulOk i j) : CMulX i j := by
  have b : ∀ x : Int, Builtin.Int.intBits x ≤ x.natAbs.log2 + 1 := fun x => by
    unfold Builtin.Int.intBits
    split <;> omega
  have h1 := b i
  have h2 := b j
  unfold mulOk at h
  unfold CMulX
  omega
theorem rep_cps (a : String) : ∀ n : Nat, (List.replicate n (Str.ofString a).cps).foldl (· ++ ·) #[] = (Str.ofString (strRep a n)).cps
  | 0 => rfl
  | n + 1 => by
    rw [List.replicate_succ', List.foldl_append, rep_cps a n]
    show (Str.ofString (strRep a n)).cps ++ (Str.ofString a).cps = (Str.ofString (strRep a n ++ a)).cps
    rw [ofString_append]
    rfl
theorem mul_rep {a : String} {k : Int} : Txt.mul (Str.ofString a) k = Str.ofString (strRep a k.toNat) := by
  unfold Txt.mul
  by_cases h : k < 1
  · rw [if_pos h]
    have e : k.toNat = 0 := by omega
    rw [e]
    rfl
  · rw [if_neg h]
    by_cases h2 : (k == 1 || (Str.ofString a).length == 0) = true
    · rw [if_pos h2]
      rw [Bool.or_eq_true, beq_iff_eq, beq_iff_eq, len_ofString] at h2
      rcases h2 with h2 | h2
      · subst h2
        show _ = Str.ofString ("" ++ a)
        rw [String.empty_append]
      · have e : a = "" := String.length_eq_zero_iff.mp h2
        subst e
        have : ∀ n : Nat, strRep "" n = "" := fun n => by
          induction n with
          | zero => rfl
          | succ n ih => show strRep "" n ++ "" = ""; rw [ih]; rfl
        rw [this]
    · rw [if_neg h2]
      show (⟨_⟩ : Str) = _
      rw [rep_cps]
theorem op_mulS : OpR X (binaryOp .Mult) (fun x y H Q => ∃ a k, x = .str a ∧ y = .int k ∧ -(2 ^ 63) ≤ k ∧ k ≤ 16777216 ∧ a.length * k.toNat ≤ 16777216 ∧ Q (.str (Txt.mul a k)) H) := by
  intro pins s σ H x y v u Q I rx ry h
  obtain ⟨a, k, rfl, rfl, h1, h2, h3, q⟩ := h
  obtain ⟨t, rfl⟩ := rx
  obtain ⟨t', rfl⟩ := ry
  have ok : MulOk a k := by
    by_cases hk : k < 1
    · refine ⟨?_, fun z => absurd hk z, fun z => absurd hk z⟩
      rw [decide_eq_false (by omega), decide_eq_false (by omega)]
      rfl
    · exact mulOk_of a.length k.toNat (Nat.le_refl _) (by omega) h1 (by omega) h3
  exact SB.mul ok fun t' k' => ⟨.str (Txt.mul a k), H, I.tok _, ⟨_, rfl⟩, q⟩
theorem opr_bin (op : Operator) : OpR X (binaryOp op) (r2 X cl (binW op)) := by
  intro pins s σ H x y v u Q I rx ry h
  obtain ⟨m, S, a, b, hK, rfl, hS, ra, rb, h⟩ := h
  revert h
  unfold binW
  split <;> intro h
  · cases ra; cases rb
    exact opr_of op_add I rx ry ⟨_, _, rfl, rfl, fun _ => stay hS (.int _) h⟩
  · rename_i a b
    cases ra; cases rb
    refine opr_of op_add_str I rx ry ⟨_, _, rfl, rfl, by rw [len_ofString, len_ofString]; exact h.1, fun _ => ?_⟩
    rw [← ofString_append]
    exact stay hS (.str _) h.2
  · rename_i xs ys
    cases ra with
    | @tup a xs' _ ha ras =>
    cases rb with
    | @tup b ys' _ hb rbs =>
    have hl := ras.length
    have hl' := rbs.length
    rw [hK] at ha hb
    refine opr_of op_catA I rx ry ⟨_, _, _, _, rfl, rfl, ha, hb, by rw [← hl, ← hl']; exact h.1, fun e _ => ?_, fun e1 e2 _ => ?_, fun e1 e2 p hp kf => ?_⟩
    · subst e
      have : xs = [] := by cases ras; rfl
      subst this
      exact stay hS (.tup (by rw [hK]; exact hb) rbs) h.2
    · subst e2
      have : ys = [] := by cases rbs; rfl
      subst this
      have h2 := h.2
      rw [List.append_nil] at h2
      exact stay hS (.tup (by rw [hK]; exact ha) ras) h2
    · exact mk_tup hS (ras.append rbs) hp (hK ▸ kf) h.2
  · rename_i n k
    obtain ⟨xs, ys, h1, h2, h3, h4⟩ := h
    cases ra with
    | @ref _ a ha =>
    cases rb with
    | @ref _ b hb =>
    obtain ⟨vs, e1, r1⟩ := hS.lst' h1 ha
    obtain ⟨ws, e2, r2⟩ := hS.lst' h2 hb
    exact opr_of op_cat I rx ry ⟨_, _, _, _, rfl, rfl, e1, e2, by rw [← r1.length, ← r2.length]; exact h3, fun p hp kf => mk_lst hS (r1.append r2) hp (hK ▸ kf) h4⟩
  · cases ra; cases rb
    exact opr_of op_sub I rx ry ⟨_, _, rfl, rfl, fun _ => stay hS (.int _) h⟩
  · cases ra; cases rb
    exact opr_of op_mulX I rx ry ⟨_, _, rfl, rfl, mulOk_X h.1, fun _ => stay hS (.int _) h.2⟩
  · obtain ⟨xs, h1, h2, h3, h4, h5⟩ := h
    cases ra with
    | @ref _ a ha =>
    cases rb
    obtain ⟨vs, e1, r1⟩ := hS.lst' h1 ha
    exact opr_of op_rep I rx ry ⟨_, _, _, rfl, rfl, e1, h2, h3, by rw [← r1.length]; exact h4, fun p hp kf => mk_lst hS (r1.replicate _) hp (hK ▸ kf) h5⟩
  · cases ra; cases rb
    exact opr_of op_mulS I rx ry ⟨_, _, rfl, rfl, h.1, h.2.1, by rw [len_ofString]; exact h.2.2.1, fun _ => by rw [mul_rep]; exact stay hS (.str _) h.2.2.2⟩
  · obtain ⟨h1, h2, h3, h4, h5⟩ := h
    cases ra with
    | @tup a xs' _ ha ras =>
    cases rb
    rw [hK] at ha
    rename_i k
    have hne : xs' ≠ [] := fun e => h1 (by subst e; cases ras; rfl)
    by_cases k0 : k ≤ 0
    · obtain rfl : k = 0 := by omega
      exact opr_of op_repT0 I rx ry ⟨_, _, _, rfl, rfl, ha, hne, Int.le_refl _, by decide, fun p hp kf => mk_tup hS .nil hp (hK ▸ kf) h5⟩
    by_cases k1 : k = 1
    · subst k1
      simp only [show (1 : Int).toNat = 1 from rfl, List.replicate_one, List.flatten_cons, List.flatten_nil, List.append_nil] at h5
      exact opr_of op_repT1 I rx ry ⟨_, _, rfl, rfl, ha, fun _ => stay hS (.tup (by rw [hK]; exact ha) ras) h5⟩
    exact opr_of op_repT I rx ry ⟨_, _, _, rfl, rfl, ha, hne, by omega, h3, by rw [← ras.length]; exact h4, fun p hp kf => mk_tup hS (ras.replicate _) hp (hK ▸ kf) h5⟩
  · cases ra; cases rb
    exact opr_of op_fdivW I rx ry ⟨_, _, rfl, rfl, h.1, fun _ => stay hS (.int _) h.2⟩
  · cases ra; cases rb
    exact opr_of op_mod I rx ry ⟨_, _, rfl, rfl, h.1, fun _ => stay hS (.int _) h.2⟩
  · cases ra; cases rb
    exact opr_of op_pow I rx ry ⟨_, _, rfl, rfl, h.1, fun _ => stay hS (.int _) h.2⟩
  · cases ra; cases rb
    exact opr_of op_shl I rx ry ⟨_, _, rfl, rfl, h.1, fun _ => stay hS (.int _) h.2⟩
  · cases ra; cases rb
    exact opr_of op_shr I rx ry ⟨_, _, rfl, rfl, h.1, fun _ => stay hS (.int _) h.2⟩
  · exact h.elim
theorem opr_ibin (op : Operator) : OpR X (inplaceOp op) (r2 X cl (ibinW op)) := by
  intro pins s σ H x y v u Q I rx ry h
  obtain ⟨m, S, a, b, hK, rfl, hS, ra, rb, h⟩ := h
  revert h
  unfold ibinW
  split <;> intro h
  · cases ra; cases rb
    exact opr_of iop_add I rx ry ⟨_, _, rfl, rfl, fun _ => stay hS (.int _) h⟩
  · rename_i a b
    cases ra; cases rb
    refine opr_of iop_add_str I rx ry ⟨_, _, rfl, rfl, by rw [len_ofString, len_ofString]; exact h.1, fun _ => ?_⟩
    rw [← ofString_append]
    exact stay hS (.str _) h.2
  · cases ra; cases rb
    exact opr_of iop_sub I rx ry ⟨_, _, rfl, rfl, fun _ => stay hS (.int _) h⟩
  · obtain ⟨xs, ys, h1, h2, h3, h4⟩ := h
    cases ra with
    | @ref _ a ha =>
    cases rb with
    | @ref _ b hb =>
    obtain ⟨vs, e1, r1⟩ := hS.lst' h1 ha
    obtain ⟨ws, e2, r2⟩ := hS.lst' h2 hb
    exact opr_of iop_ext I rx ry ⟨_, _, _, _, rfl, rfl, e1, e2, by rw [← r1.length, ← r2.length]; exact h3, fun _ => wr_lst hS ha e1 (r1.append r2) (.ref ha) h4⟩
  · exact h.elim

/-! ### comparisons -/
/-- a dict's values beside another one's, in the state -/
theorem hits_rd {pins : List (Addr × Obj)} {s : Shared} {σ : L2.St} {m : Sm} {S : Hm} (hK : m.K = X.K) (hS : SH cl m S) (I : Inv X pins σ m.H s) (hu : X.A.units + 65 < cLine) {ls : List (Key × Val)} {wl : List (L2.Key × V)} {vb : List (L2.Key × Value)} (rl : RKs m ls wl) (kb : KV wl vb) :
    ∀ {ks : List (Key × Val)} {ws : List (L2.Key × V)} {va : List (L2.Key × Value)} {b : Bool}, RKs m ks ws → KV ws va → dHits S ls ks = some b → PySem.W.KeqHits X.A.in1 s vb va b := by
  intro ks
  induction ks with
  | nil =>
    intro ws va b r ka h
    cases r
    cases ka
    cases h
    exact .nil
  | cons p ks ih =>
    intro ws va b r ka h
    unfold RKs at r
    cases r with
    | @cons _ q _ qs hr tr =>
    unfold KV at ka
    cases ka with
    | @cons _ z _ zs hz tz =>
    obtain ⟨zk, zv⟩ := z
    have e1 : q.1 = zk := hz.1
    have e2 : q.1 = kk p.1 := hr.1
    have ek : zk = kk p.1 := e1.symm.trans e2
    have rr : RelO (valV wl (kk p.1)) (PySem.valueAt vb (kk p.1)) := kb.val (kk p.1)
    simp only [dHits] at h
    rcases rl.look p.1 with ⟨u, x, l1, l2, l3⟩ | ⟨l1, l2⟩
    · rw [l1] at h
      rw [l2] at rr
      obtain ⟨y, hy, ry⟩ := rr.some_of
      cases hd : dat S 58 p.2 with
      | none => simp only [hd] at h; cases h
      | some d =>
      cases he : dat S 58 u with
      | none => simp only [hd, he] at h; cases h
      | some e =>
      cases hb : dHits S ls ks with
      | none => simp only [hd, he, hb] at h; cases h
      | some b' =>
      simp only [hd, he, hb] at h
      cases h
      obtain ⟨p1, p2⟩ := dat_shaped hS (by decide) hr.2 hd
      obtain ⟨q1, q2⟩ := dat_shaped hS (by decide) l3 he
      obtain ⟨as, r1⟩ := Dp.reads I d q.2 zv (hK ▸ p1) hz.2
      obtain ⟨bs, r2⟩ := Dp.reads I e x y (hK ▸ q1) ry
      rw [← ek] at hy
      exact .hit hy (PySem.W.keq_at r1 r2 p2 q2 (by show X.A.units + 1 + 64 < cLine; omega)) (ih tr tz hb)
    · rw [l1] at h
      rw [l2] at rr
      cases h
      have hn : PySem.valueAt vb (kk p.1) = none := by
        cases hv : PySem.valueAt vb (kk p.1) with
        | none => rfl
        | some v => rw [hv] at rr; exact rr.elim
      rw [← ek] at hn
      exact .miss hn
theorem opr_eq (hu : X.A.units + 65 < cLine) : OpR X (compareOp .Eq) (r2 X cl fun v w S Q => eqW v w S fun b => Q (.bl b) S) := by
  intro pins s σ H x y v u Q I rx ry h
  obtain ⟨m, S, a, b, hK, rfl, hS, ra, rb, ⟨d, e, h1, h2, h3⟩ | h⟩ := h
  · obtain ⟨p1, p2⟩ := dat_shaped hS (by decide) ra h1
    obtain ⟨q1, q2⟩ := dat_shaped hS (by decide) rb h2
    exact opr_of (op_eqD (by omega)) I rx ry ⟨d, e, hK ▸ p1, hK ▸ q1, p2, q2, fun _ => stay hS (.bl _) h3⟩
  · revert h
    unfold eqD
    split
    · rintro ⟨ks, ls, bb, h1, h2, h3, h4⟩
      cases ra with
      | @ref _ pa ha =>
      cases rb with
      | @ref _ pb hb =>
      obtain ⟨ws, e1, r1⟩ := hS.dic' h1 ha
      obtain ⟨wl, e2, r2⟩ := hS.dic' h2 hb
      obtain rfl : v = Value.ref pa := rx
      obtain rfl : u = Value.ref pb := ry
      obtain ⟨_, ya, va, ka, da⟩ := (show ObjOk X.prog X.w m.H s.heap pa (.dK ws) from I.hok pa _ e1)
      obtain ⟨_, yb, vb, kb, db⟩ := (show ObjOk X.prog X.w m.H s.heap pb (.dK wl) from I.hok pb _ e2)
      have hits := hits_rd hK hS I hu r2 kb r1 ka h3
      have hl : va.length = ks.length := by rw [← ka.length, ← r1.length]
      have hl2 : vb.length = ls.length := by rw [← kb.length, ← r2.length]
      refine PySem.W.keq_eq (knd := mixKind X.prog X.w) (r := bb) ya yb da db (by omega) (fun _ => hits) ⟨.bl _, m.H, I, rfl, ?_⟩
      have e : (va.length == vb.length && bb) = (decide (ks.length = ls.length) && bb) := by rw [hl, hl2]; by_cases h : ks.length = ls.length <;> simp [h]
      rw [e]
      exact stay hS (.bl _) h4
    · exact fun h => h.elim
theorem opr_ne (hu : X.A.units + 65 < cLine) : OpR X (compareOp .NotEq) (r2 X cl fun v w S Q => eqW v w S fun b => Q (.bl (!b)) S) := by
  intro pins s σ H x y v u Q I rx ry h
  obtain ⟨m, S, a, b, hK, rfl, hS, ra, rb, ⟨d, e, h1, h2, h3⟩ | h⟩ := h
  · obtain ⟨p1, p2⟩ := dat_shaped hS (by decide) ra h1
    obtain ⟨q1, q2⟩ := dat_shaped hS (by decide) rb h2
    exact opr_of (op_neD (by omega)) I rx ry ⟨d, e, hK ▸ p1, hK ▸ q1, p2, q2, fun _ => stay hS (.bl _) h3⟩
  · revert h
    unfold eqD
    split
    · rintro ⟨ks, ls, bb, h1, h2, h3, h4⟩
      cases ra with
      | @ref _ pa ha =>
      cases rb with
      | @ref _ pb hb =>
      obtain ⟨ws, e1, r1⟩ := hS.dic' h1 ha
      obtain ⟨wl, e2, r2⟩ := hS.dic' h2 hb
      obtain rfl : v = Value.ref pa := rx
      obtain rfl : u = Value.ref pb := ry
      obtain ⟨_, ya, va, ka, da⟩ := (show ObjOk X.prog X.w m.H s.heap pa (.dK ws) from I.hok pa _ e1)
      obtain ⟨_, yb, vb, kb, db⟩ := (show ObjOk X.prog X.w m.H s.heap pb (.dK wl) from I.hok pb _ e2)
      have hits := hits_rd hK hS I hu r2 kb r1 ka h3
      have hl : va.length = ks.length := by rw [← ka.length, ← r1.length]
      have hl2 : vb.length = ls.length := by rw [← kb.length, ← r2.length]
      refine PySem.W.keq_ne (knd := mixKind X.prog X.w) (r := bb) ya yb da db (by omega) (fun _ => hits) ⟨.bl _, m.H, I, rfl, ?_⟩
      have e : (!(va.length == vb.length && bb)) = (!(decide (ks.length = ls.length) && bb)) := by rw [hl, hl2]; by_cases h : ks.length = ls.length <;> simp [h]
      rw [e]
      exact stay hS (.bl _) h4
    · exact fun h => h.elim
theorem sign_ofString {x : String} {c : Char} (h : x.toList = [c]) : Str.ofString x = ⟨#[c.toNat]⟩ := by
  rw [Str.ofString_eq_toList, h]
  rfl
theorem char_toNat_inj {a b : Char} (e : a.toNat = b.toNat) : a = b := by
  apply Char.ext
  apply UInt32.toNat_inj.mp
  exact e
theorem mem_cps {c : Char} {y : String} : decide (c.toNat ∈ (Str.ofString y).cps.toList) = decide (c ∈ y.toList) := by
  rw [cps_ofString]
  by_cases h : c ∈ y.toList
  · rw [decide_eq_true h, decide_eq_true (List.mem_map.mpr ⟨c, h, rfl⟩)]
  · rw [decide_eq_false h, decide_eq_false fun z => ?_]
    obtain ⟨d, hd, e⟩ := List.mem_map.mp z
    exact h (char_toNat_inj e ▸ hd)
theorem opr_in (hu : X.A.units + 65 < cLine) : OpR X (compareOp .In) (r2 X cl fun v w S Q => inW v w S fun b => Q (.bl b) S) := by
  intro pins s σ H x y v u Q I rx ry h
  obtain ⟨m, S, a, b, hK, rfl, hS, ra, rb, h⟩ := h
  revert h
  unfold inW
  cases b with
  | str b =>
    cases a with
    | str a =>
      intro h
      cases ra; cases rb
      rcases h with ⟨c, h1, h2⟩ | h
      · rw [sign_ofString h1] at rx
        refine opr_of op_in_sign I rx ry ⟨_, _, rfl, rfl, fun _ => ?_⟩
        rw [mem_cps]
        exact stay hS (.bl _) h2
      · exact opr_of op_in_str I rx ry ⟨_, _, rfl, rfl, fun _ => stay hS (.bl _) h⟩
    | _ => intro h; exact h.elim
  | tup xs =>
    intro h
    cases rb with
    | @tup a' vs _ hq rs =>
    rw [hK] at hq
    refine opr_of op_in_seq I rx ry ⟨_, _, rfl, .inr hq, flat_rd ra h.1, flats_rd rs h.2.1, fun _ => ?_⟩
    show Q (.bl (if false = true then _ else inV _ _)) m.H
    rw [if_neg Bool.false_ne_true, inV_rd rs h.2.1 ra h.1]
    exact stay hS (.bl _) h.2.2
  | ref n =>
    intro h
    cases rb with
    | @ref _ a' ha =>
    rcases h with ⟨xs, h1, ⟨h2, h3, h4⟩ | ⟨d, ds, h2, h3, h4⟩⟩ | ⟨kvs, k, h1, h2, h3⟩
    · obtain ⟨vs, hq, rs⟩ := hS.lst h1 ha
      rw [hK] at hq
      refine opr_of op_in_seq I rx ry ⟨_, _, rfl, .inl hq, flat_rd ra h2, flats_rd rs h3, fun _ => ?_⟩
      show Q (.bl (if false = true then _ else inV _ _)) m.H
      rw [if_neg Bool.false_ne_true, inV_rd rs h3 ra h2]
      exact stay hS (.bl _) h4
    · obtain ⟨vs, hq, rs⟩ := hS.lst h1 ha
      obtain ⟨p1, p2⟩ := dat_shaped hS (by decide) ra h2
      obtain ⟨q1, q2⟩ := datAll_dp hS (by decide) rs h3
      exact opr_of (op_inD hu) I rx ry ⟨d, ds, hK ▸ p1, hK ▸ .lst hq q1, p2, q2, fun _ => stay hS (.bl _) h4⟩
    · obtain ⟨ws, hq, rs⟩ := hS.dic h1 ha
      have ek := key_rd ra h2
      subst ek
      cases (show u = Value.ref a' from ry)
      have g : DGet m.H a' (L2.kV (kk k)) (valV ws (kk k)) := .inl ⟨ws, _, hq, rfl, rfl⟩
      refine d_in (by omega) I g rx fun s' I' => ⟨.bl _, m.H, I', rfl, ?_⟩
      rcases rs.look k with ⟨v, x, e1, e2, _⟩ | ⟨e1, e2⟩
      · rw [e2]; rw [e1] at h3; exact stay hS (.bl _) h3
      · rw [e2]; rw [e1] at h3; exact stay hS (.bl _) h3
  | _ => intro h; exact h.elim
theorem opr_notin (hu : X.A.units + 65 < cLine) : OpR X (compareOp .NotIn) (r2 X cl fun v w S Q => inW v w S fun b => Q (.bl (!b)) S) := by
  intro pins s σ H x y v u Q I rx ry h
  obtain ⟨m, S, a, b, hK, rfl, hS, ra, rb, h⟩ := h
  revert h
  unfold inW
  cases b with
  | str b =>
    cases a with
    | str a =>
      intro h
      cases ra; cases rb
      rcases h with ⟨c, h1, h2⟩ | h
      · rw [sign_ofString h1] at rx
        refine opr_of op_notIn_sign I rx ry ⟨_, _, rfl, rfl, fun _ => ?_⟩
        rw [mem_cps]
        exact stay hS (.bl _) h2
      · exact opr_of op_notin_str I rx ry ⟨_, _, rfl, rfl, fun _ => stay hS (.bl _) h⟩
    | _ => intro h; exact h.elim
  | tup xs =>
    intro h
    cases rb with
    | @tup a' vs _ hq rs =>
    rw [hK] at hq
    refine opr_of op_notIn_seq I rx ry ⟨_, _, rfl, .inr hq, flat_rd ra h.1, flats_rd rs h.2.1, fun _ => ?_⟩
    show Q (.bl (if true = true then !inV _ _ else _)) m.H
    rw [if_pos rfl, inV_rd rs h.2.1 ra h.1]
    exact stay hS (.bl _) h.2.2
  | ref n =>
    intro h
    cases rb with
    | @ref _ a' ha =>
    rcases h with ⟨xs, h1, ⟨h2, h3, h4⟩ | ⟨d, ds, h2, h3, h4⟩⟩ | ⟨kvs, k, h1, h2, h3⟩
    · obtain ⟨vs, hq, rs⟩ := hS.lst h1 ha
      rw [hK] at hq
      refine opr_of op_notIn_seq I rx ry ⟨_, _, rfl, .inl hq, flat_rd ra h2, flats_rd rs h3, fun _ => ?_⟩
      show Q (.bl (if true = true then !inV _ _ else _)) m.H
      rw [if_pos rfl, inV_rd rs h3 ra h2]
      exact stay hS (.bl _) h4
    · obtain ⟨vs, hq, rs⟩ := hS.lst h1 ha
      obtain ⟨p1, p2⟩ := dat_shaped hS (by decide) ra h2
      obtain ⟨q1, q2⟩ := datAll_dp hS (by decide) rs h3
      exact opr_of (op_notInD hu) I rx ry ⟨d, ds, hK ▸ p1, hK ▸ .lst hq q1, p2, q2, fun _ => stay hS (.bl _) h4⟩
    · obtain ⟨ws, hq, rs⟩ := hS.dic h1 ha
      have ek := key_rd ra h2
      subst ek
      cases (show u = Value.ref a' from ry)
      have g : DGet m.H a' (L2.kV (kk k)) (valV ws (kk k)) := .inl ⟨ws, _, hq, rfl, rfl⟩
      refine d_notIn (by omega) I g rx fun s' I' => ⟨.bl _, m.H, I', rfl, ?_⟩
      rcases rs.look k with ⟨v, x, e1, e2, _⟩ | ⟨e1, e2⟩
      · rw [e2]; rw [e1] at h3; exact stay hS (.bl _) h3
      · rw [e2]; rw [e1] at h3; exact stay hS (.bl _) h3
  | _ => intro h; exact h.elim
theorem opr_cmp (hu : X.A.units + 65 < cLine) (op : CmpOp) : OpR X (compareOp op) (r2 X cl fun v w S Q => cmpW op v w S fun b => Q (.bl b) S) := by
  cases op
  case Eq => exact opr_eq hu
  case NotEq => exact opr_ne hu
  case In => exact opr_in hu
  case NotIn => exact opr_notin hu
  case Is => intro pins s σ H x y v u Q I rx ry h; obtain ⟨m, S, a, b, hK, rfl, hS, ra, rb, h⟩ := h; exact h.elim
  case IsNot => intro pins s σ H x y v u Q I rx ry h; obtain ⟨m, S, a, b, hK, rfl, hS, ra, rb, h⟩ := h; exact h.elim
  all_goals
    intro pins s σ H x y v u Q I rx ry h
    obtain ⟨m, S, a, b, hK, rfl, hS, ra, rb, h⟩ := h
    revert h
    unfold cmpW
    cases a <;> cases b <;> intro h <;> try exact h.elim
    cases ra; cases rb
  · exact opr_of op_lt I rx ry ⟨_, _, rfl, rfl, fun _ => stay hS (.bl _) h⟩
  · cases ra; cases rb
    exact opr_of op_lt_str I rx ry ⟨_, _, rfl, rfl, fun _ => stay hS (.bl _) h⟩
  · exact opr_of op_le I rx ry ⟨_, _, rfl, rfl, fun _ => stay hS (.bl _) h⟩
  · exact opr_of op_gt I rx ry ⟨_, _, rfl, rfl, fun _ => stay hS (.bl _) h⟩
  · exact opr_of op_ge I rx ry ⟨_, _, rfl, rfl, fun _ => stay hS (.bl _) h⟩
end
end Mi

set_option maxHeartbeats 2000000
namespace Mi
open PySem PySem.Spec L2 PyProof.Rows
section
variable {X : Cx} {cl : Cl}
theorem ixN_eq (n : Nat) (i : Int) : Mi.ixN n i = L2.ixN n i := rfl
theorem atI_rd {m : Sm} {ds : List Val} {xs : List V} {i : Int} {v : Val} (r : RDs m ds xs) (h : Mi.atI ds i = some v) : ∃ x, L2.atI xs i = some x ∧ RD m v x := by
  unfold Mi.atI at h
  unfold L2.atI
  rw [← r.length, ← ixN_eq]
  cases e : Mi.ixN ds.length i with
  | none => rw [e] at h; cases h
  | some j =>
    rw [e] at h
    exact r.get h
theorem atI_map {α β : Type} (f : α → β) {xs : List α} {i : Int} {c : α} (h : Mi.atI xs i = some c) : L2.atI (xs.map f) i = some (f c) := by
  unfold Mi.atI at h
  unfold L2.atI
  rw [List.length_map, ← ixN_eq]
  cases e : Mi.ixN xs.length i with
  | none => rw [e] at h; cases h
  | some j =>
    rw [e] at h
    have h' : xs[j]? = some c := h
    show (xs.map f)[j]? = some (f c)
    rw [List.getElem?_map, h']
    rfl
theorem ix_dict (hu : X.A.units + 1 < cLine) : IxR X (fun x y H Q => ∃ a v, x = .ref a ∧ DGet H a y (some v) ∧ Q v H) := by
  intro value slice pins s σ H x y v u Q I rx ry h hs
  obtain ⟨a, z, rfl, g, q⟩ := h
  obtain rfl : v = Value.ref a := rx
  have hT := dict_typeIs I g
  unfold subscriptTail
  refine wpAny_bind ?_
  rw [getitemInPython_of_ne hT.not_modules]
  refine wpAny_bind (wpAny_specialOf hT PySem.F.slot_dict_getitem.lookup ?_)
  have fin : wpAny (model X.prog X.w) X.A (subscripted slice false (.ref a) u) (fun r s₃ => wpAny (model X.prog X.w) X.A (letTemporaryGo value (.ref a) r >>= fun _ => pure r) (EP X pins σ Q) X.xe s₃) X.xe s := by
    rw [hs]
    exact wpAny_operating (d_getItem hu I g ry fun w' s3 I3 rw' => wpAny_bind (wpAny_letTemporaryGo (wpAny_pure ⟨z, H, I3, rw', q⟩)))
  first
    | exact wpAny_pure (wpAny_bind fin)
    | exact wpAny_bind (wpAny_pure (wpAny_bind fin))
    | exact wpAny_bind fin
theorem singleton_ofString (c : Char) : Str.ofString (String.singleton c) = ⟨#[c.toNat]⟩ := by
  rw [Str.ofString_eq_toList]
  simp [String.toList_singleton]
theorem ix_ok (hu : X.A.units + 1 < cLine) : IxR X (r2 X cl subW) := by
  intro value slice pins s σ H x y v u Q I rx ry h hs
  obtain ⟨m, S, a, b, hK, rfl, hS, ra, rb, h⟩ := h
  revert h
  unfold subW
  split <;> intro h
  · obtain ⟨w, h1, h2⟩ := h
    cases ra with
    | @tup p xs _ hq rs =>
    cases rb
    rw [hK] at hq
    obtain ⟨z, e, rz⟩ := atI_rd rs h1
    exact ix_tup value slice pins s σ _ _ _ v u Q I rx ry ⟨p, xs, _, z, rfl, rfl, hq, e, stay hS rz h2⟩ hs
  · obtain ⟨hl, c, h1, h2⟩ := h
    cases ra; cases rb
    rename_i x k
    refine ix_str value slice pins s σ _ _ _ v u Q I rx ry ⟨_, _, c.toNat, rfl, rfl, by rw [len_ofString]; exact hl, ?_, ?_⟩ hs
    · rw [cps_ofString]
      exact atI_map Char.toNat h1
    · rw [← singleton_ofString]
      exact stay hS (.str _) h2
  · cases ra with
    | @ref n p hp =>
    rcases h with ⟨xs, j, w, rfl, h1, h2, h3⟩ | ⟨kvs, q, w, h1, h2, h3, h4⟩
    · cases rb
      obtain ⟨vs, hq, rs⟩ := hS.lst h1 hp
      rw [hK] at hq
      obtain ⟨z, e, rz⟩ := atI_rd rs h2
      exact ix_list value slice pins s σ _ _ _ v u Q I rx ry ⟨p, vs, _, z, rfl, rfl, hq, e, stay hS rz h3⟩ hs
    · obtain ⟨ws, hq, rs⟩ := hS.dic h1 hp
      have ek := key_rd rb h2
      subst ek
      rcases rs.look q with ⟨v', x', e1, e2, r⟩ | ⟨e1, e2⟩
      · rw [h3] at e1
        cases e1
        exact ix_dict hu value slice pins s σ _ _ _ v u Q I rx ry ⟨p, x', rfl, .inl ⟨ws, _, hq, rfl, e2.symm⟩, stay hS r h4⟩ hs
      · rw [h3] at e1; cases e1
  · exact h.elim

theorem get_ok (hu : X.A.units + 1 < cLine) : PGet X (fun o i H Q => ∃ m S a b, m.K = X.K ∧ m.H = H ∧ SH cl m S ∧ RD m a o ∧ RD m b i ∧ (∃ n, a = .ref n) ∧ subW a b S (liftQ cl m Q)) := by
  intro pins s σ H x y v u Q I rx ry h
  obtain ⟨m, S, a, b, hK, rfl, hS, ra, rb, ⟨n, rfl⟩, h⟩ := h
  cases ra with
  | @ref _ p hp =>
  rcases h with ⟨xs, j, w, rfl, h1, h2, h3⟩ | ⟨kvs, q, w, h1, h2, h3, h4⟩
  · cases rb
    obtain ⟨vs, hq, rs⟩ := hS.lst h1 hp
    rw [hK] at hq
    obtain ⟨z, e, rz⟩ := atI_rd rs h2
    cases rx
    obtain ⟨t, rfl⟩ := ry
    obtain ⟨its, r, pl, hz⟩ := I.list hq
    obtain ⟨i, e1, e2, e3, e4, e5⟩ := atI_get e
    obtain ⟨w', ew, rw'⟩ := r.get e2
    have hl := r.length
    have hn := line63
    have fin : EP X pins σ Q w' s := ⟨z, m.H, I, rw', stay hS rz h3⟩
    by_cases h0 : 0 ≤ j
    · have hj : j.toNat = i := by
        rw [seqIndex_of h0 e5] at e1
        exact Option.some.inj e1
      exact wpAny_getItem_list pl.isList h0 (by omega) (by rw [hj]; simpa using ew) fin
    · have hj : (j + (its.toArray.size : Int)).toNat = i := by
        rw [seqIndex_neg (by omega) e4] at e1
        rw [List.size_toArray, ← hl]
        exact Option.some.inj e1
      exact wpAny_getItem_list_neg pl.isList (by omega) (by rw [List.size_toArray] <;> omega) (by omega) (by rw [hj]; simpa using ew) fin
  · obtain ⟨ws, hq, rs⟩ := hS.dic h1 hp
    have ek := key_rd rb h2
    subst ek
    rcases rs.look q with ⟨v', x', e1, e2, r⟩ | ⟨e1, e2⟩
    · rw [h3] at e1
      cases e1
      obtain rfl : v = Value.ref p := rx
      exact d_getItem hu I (.inl ⟨ws, _, hq, rfl, e2.symm⟩) ry fun w' s3 I3 rw' => ⟨x', m.H, I3, rw', stay hS r h4⟩
    · rw [h3] at e1; cases e1

/-! ### slices -/
theorem sIx_eq (n d : Nat) (o : Option Int) : Mi.sIx n d o = HT.sIx n d o := by cases o <;> rfl
theorem cut_rd {m : Sm} {ds : List Val} {xs : List V} {lo hi : Option Int} (r : RDs m ds xs) : RDs m (cut ds lo hi) (cutV xs lo hi) := by
  unfold cut cutV
  rw [sIx_eq, sIx_eq, r.length]
  exact (r.drop _).take _
theorem cut_all {α : Type} {xs : List α} {lo hi : Option Int} (h : HT.sIx xs.length 0 lo = 0 ∧ HT.sIx xs.length xs.length hi = xs.length) : cut xs lo hi = xs := by
  unfold cut
  rw [sIx_eq, sIx_eq, h.1, h.2]
  simp
theorem cut_map {α β : Type} (f : α → β) (xs : List α) (lo hi : Option Int) : (cut xs lo hi).map f = (((xs.map f).drop (HT.sIx (xs.map f).length 0 lo)).take (HT.sIx (xs.map f).length (xs.map f).length hi - HT.sIx (xs.map f).length 0 lo)) := by
  unfold cut
  rw [sIx_eq, sIx_eq, List.length_map, List.map_take, List.map_drop]
theorem cutS_ofString (x : String) (lo hi : Option Int) : cutS (Str.ofString x) lo hi = Str.ofString (String.ofList (cut x.toList lo hi)) := by
  rw [ofString_ofList, cut_map]
  unfold cutS
  rw [cps_ofString, len_ofString]
  simp [String.length_toList]
theorem sl_ok : SlR X (fun x lo hi H Q => ∃ m S v, m.K = X.K ∧ m.H = H ∧ SH cl m S ∧ RD m v x ∧ sliceW v lo hi S (liftQ cl m Q)) := by
  have key : ∀ {r : V → Option Int → Option Int → Hp → VK → Prop}, SlR X r → SlR X (fun x lo hi H Q => r x lo hi H fun z H' => KF X.K H' → Q z H') := by
    intro r hr pins s σ H x v vl vu lo hi sl Q I rx hs pl pu h
    obtain ⟨T, id, h1, h2, h3⟩ := hr pins s σ H x v vl vu lo hi sl _ I rx hs pl pu h
    exact ⟨T, id, h1, h2, epkf h3⟩
  intro pins s σ H x v vl vu lo hi sl Q I rx hs pl pu h
  obtain ⟨m, S, a, hK, rfl, hS, ra, h⟩ := h
  revert h
  unfold sliceW
  split <;> intro h
  · rename_i xs
    cases ra with
    | @tup p vs _ hq rs =>
    rw [hK] at hq
    refine key sl_tupA pins s σ _ _ v vl vu lo hi sl Q I rx hs pl pu ⟨p, vs, rfl, hq, fun e _ => ?_, fun e q hq' kf => mk_tup hS (cut_rd rs) hq' (hK ▸ kf) h⟩
    rw [cut_all (by rw [rs.length]; exact e)] at h
    exact stay hS (.tup (by rw [hK]; exact hq) rs) h
  · cases ra
    refine key sl_str pins s σ _ _ v vl vu lo hi sl Q I rx hs pl pu ⟨_, rfl, by rw [len_ofString]; exact h.1, fun _ => ?_⟩
    rw [cutS_ofString]
    exact stay hS (.str _) h.2
  · obtain ⟨xs, h1, h2⟩ := h
    cases ra with
    | @ref n p hp =>
    obtain ⟨vs, hq, rs⟩ := hS.lst h1 hp
    rw [hK] at hq
    exact key sl_list pins s σ _ _ v vl vu lo hi sl Q I rx hs pl pu ⟨p, vs, rfl, hq, fun q hq' kf => mk_lst hS (cut_rd rs) hq' (hK ▸ kf) h2⟩
  · exact h.elim

/-! ### truth -/
theorem truth_rd {m : Sm} {S : Hm} {v : Val} {x : V} {b : Bool} (hS : SH cl m S) (hK : m.K = X.K) (r : RD m v x) (h : truth v S = some b) : TruV X.K x m.H b := by
  cases r with
  | non => simp [truth] at h; exact h.symm ▸ rfl
  | bl c => simp [truth] at h; exact h ▸ rfl
  | int i => simp only [truth, Option.some.injEq] at h; exact h ▸ rfl
  | str z =>
    simp only [truth] at h
    split at h
    case isFalse => cases h
    rename_i hl
    simp only [Option.some.injEq] at h
    refine ⟨by rw [len_ofString]; exact hl, ?_⟩
    rw [len_ofString, ← h]
    by_cases e : z.length = 0
    · simp [e]
    · have e2 : ¬ ((z.length : Nat) : Int) = 0 := by omega
      rw [bne_iff_ne.mpr e, bne_iff_ne.mpr e2]
  | @tup a xs ds hq rs =>
    simp only [truth, Option.some.injEq] at h
    rw [hK] at hq
    exact .inr (.inl ⟨xs, hq, by rw [← h, rs.isEmpty]⟩)
  | @ref n a ha =>
    simp only [truth] at h
    split at h
    · rename_i xs e
      cases h
      obtain ⟨vs, hq, rs⟩ := hS.lst (lst_of e) ha
      rw [hK] at hq
      exact .inl ⟨vs, hq, by rw [rs.isEmpty]⟩
    · rename_i xs e
      cases h
      obtain ⟨vs, hq, rs⟩ := hS.lst (xs := xs) (by unfold Hm.lst; rw [e]) ha
      rw [hK] at hq
      exact .inl ⟨vs, hq, by rw [rs.isEmpty]⟩
    · rename_i xs e
      cases h
      obtain ⟨ws, hq, rs⟩ := hS.dic' e ha
      refine .inr (.inr ⟨ws, hq, ?_⟩)
      unfold RKs at rs
      cases rs <;> rfl
    · cases h
  | exc h' => simp [truth] at h

/-! ### built-in functions -/
def rA (X : Cx) (cl : Cl) (r : List Val → Hm → Post → Prop) : List V → Hp → VK → Prop := fun xs H Q => ∃ m S vs, m.K = X.K ∧ m.H = H ∧ SH cl m S ∧ RDs m vs xs ∧ r vs S (liftQ cl m Q)
def biV : Bi → Value
  | .len => .builtin "len"
  | .abs => .builtin "abs"
  | .min => .builtin "min"
  | .max => .builtin "max"
  | .int => .type "int"
  | .str => .type "str"
  | .list => .type "list"
  | .tuple => .type "tuple"
  | .dict => .type "dict"
  | .sum => .builtin "sum"
  | .sorted => .builtin "sorted"
  | .all => .builtin "all"
  | .any => .builtin "any"
  | .range => .type "range"
  | .listD => .type "list"
  | .sortedS => .builtin "sorted"
theorem perm_map {α β : Type} {f : α → β} {l1 l2 : List β} (h : l1.Perm l2) : ∀ ks : List α, l2 = ks.map f → ∃ ys : List α, ys.Perm ks ∧ l1 = ys.map f := by
  induction h with
  | nil => exact fun ks e => ⟨ks, .refl _, e⟩
  | cons x _ ih =>
    intro ks e
    cases ks with
    | nil => cases e
    | cons k ks =>
      injection e with e1 e2
      obtain ⟨ys, h1, h2⟩ := ih ks e2
      exact ⟨k :: ys, h1.cons k, by rw [e1, h2]; rfl⟩
  | swap x y l =>
    intro ks e
    match ks, e with
    | a :: b :: ks, e =>
      injection e with e1 e2
      injection e2 with e2 e3
      exact ⟨b :: a :: ks, .swap a b ks, by rw [e1, e2, e3]; rfl⟩
  | trans _ _ ih1 ih2 =>
    intro ks e
    obtain ⟨ys, h1, h2⟩ := ih2 ks e
    obtain ⟨zs, h3, h4⟩ := ih1 ys h2
    exact ⟨zs, h3.trans h1, h4⟩
theorem RDs.of_strs {m : Sm} : ∀ (ns : List String), RDs m (ns.map Val.str) (ns.map (V.str ∘ Str.ofString))
  | [] => .nil
  | n :: ns => .cons (.str n) (RDs.of_strs ns)
theorem keys_inr {m : Sm} : ∀ {kvs : List (Key × Val)} {ws : List (L2.Key × V)} {ks : List String}, RKs m kvs ws → kvs.map (·.1) = ks.map Sum.inr → ws.map (·.1) = (ks.map Str.ofString).map Sum.inr
  | [], _, [], .nil, _ => rfl
  | [], _, _ :: _, _, e => by cases e
  | _ :: _, _, [], _, e => by cases e
  | p :: kvs, _, k :: ks, .cons h r, e => by
    simp only [List.map_cons] at e ⊢
    injection e with e1 e2
    rw [keys_inr r e2, h.1, e1]
    rfl
theorem RKs.keyL {m : Sm} : ∀ {kvs : List (Key × Val)} {ws : List (L2.Key × V)}, RKs m kvs ws → RDs m (kvs.map fun kv => kv.1.val) (ws.map fun kv => L2.kV kv.1)
  | [], _, .nil => .nil
  | p :: kvs, _, .cons h r => by
    simp only [List.map_cons]
    rw [h.1]
    exact .cons (rd_key p.1) (RKs.keyL r)
theorem rd_strsF {m : Sm} : ∀ {ys : List String} {xs : List V}, RDs m (ys.map Val.str) xs → xs = (ys.map Str.ofString).map V.str
  | [], _, h => by cases h; rfl
  | y :: ys, _, h => by
    cases h with
    | cons h hs =>
      cases h
      rw [rd_strsF hs]
      rfl
theorem toString_ofString (i : Int) : (toString i : String) = toString i := rfl
theorem bi_ok (hc : X.calm = true) (f : Bi) : CallR X (biV f) (rA X cl (biW f)) := by
  intro pins s σ H xs us Q I r h
  obtain ⟨m, S, vs, hK, rfl, hS, rs, h⟩ := h
  have use : ∀ {f : Value} {r' : List V → Hp → VK → Prop}, CallR X f r' → r' xs m.H (fun z H' => KF X.K H' → Q z H') → wpAny (model X.prog X.w) X.A (call f us) (EP X pins σ Q) X.xe s := fun h1 h2 => CallR.kf h1 pins s σ m.H xs us Q I r h2
  revert h
  unfold biW
  split <;> intro h
  · -- len
    rename_i x
    cases rs with
    | cons r1 r2 =>
    cases r2
    cases r1 with
    | str a => exact use call_len_str ⟨_, rfl, by rw [len_ofString]; exact h.1, fun _ => by rw [len_ofString]; exact stay hS (.int _) h.2⟩
    | @tup p ys ds hq rs => 
      rw [hK] at hq
      exact use call_len_seq ⟨p, ys, rfl, .inr hq, fun _ => by rw [← rs.length]; exact stay hS (.int _) h⟩
    | @ref n p hp =>
      rcases h with ⟨ys, h1, h2⟩ | ⟨kvs, h1, h2⟩
      · obtain ⟨ws, hq, rs⟩ := hS.lst h1 hp
        rw [hK] at hq
        exact use call_len_seq ⟨p, ws, rfl, .inl hq, fun _ => by rw [← rs.length]; exact stay hS (.int _) h2⟩
      · obtain ⟨ws, hq, rs⟩ := hS.dic' h1 hp
        exact use call_lenD ⟨p, ws, rfl, hq, fun _ => by rw [← rs.length]; exact stay hS (.int _) h2⟩
    | _ => exact h.elim
  · -- abs
    cases rs with
    | cons r1 r2 =>
    cases r2; cases r1
    exact use call_abs ⟨_, rfl, fun _ => stay hS (.int _) h⟩
  · -- min
    cases rs with
    | cons r1 r2 =>
    cases r2 with
    | cons r2 r3 =>
    cases r3; cases r1; cases r2
    exact use (call_min2 hc) ⟨_, _, rfl, fun _ => stay hS (.int _) h⟩
  · cases rs with
    | cons r1 r2 =>
    cases r2 with
    | cons r2 r3 =>
    cases r3; cases r1; cases r2
    exact use (call_max2 hc) ⟨_, _, rfl, fun _ => stay hS (.int _) h⟩
  · cases rs with
    | cons r1 r2 =>
    cases r2
    cases r1 with
    | @ref n p hp =>
    obtain ⟨ns, h1, h2, h3⟩ := h
    obtain ⟨ws, hq, rs⟩ := hS.lst h1 hp
    rw [hK] at hq
    have e := rs.ints
    subst e
    exact use (cr_min hc) ⟨p, ns, rfl, hq, List.length_pos_iff.mpr h2, fun k h4 h5 _ => stay hS (.int _) (h3 k h4 h5)⟩
  · cases rs with
    | cons r1 r2 =>
    cases r2
    cases r1 with
    | @ref n p hp =>
    obtain ⟨ns, h1, h2, h3⟩ := h
    obtain ⟨ws, hq, rs⟩ := hS.lst h1 hp
    rw [hK] at hq
    have e := rs.ints
    subst e
    exact use (cr_max hc) ⟨p, ns, rfl, hq, List.length_pos_iff.mpr h2, fun k h4 h5 _ => stay hS (.int _) (h3 k h4 h5)⟩
  · cases rs with
    | cons r1 r2 =>
    cases r2; cases r1
    exact use call_int1 (.inl ⟨_, rfl, fun _ => stay hS (.int _) h⟩)
  · cases rs with
    | cons r1 r2 =>
    cases r2; cases r1
    exact use call_int1 (.inr ⟨_, rfl, fun _ => stay hS (.int _) h⟩)
  · cases rs with
    | cons r1 r2 =>
    cases r2; cases r1
    obtain ⟨n, h1, h2, h3⟩ := h
    exact use call_int_str ⟨_, n, rfl, h1, by rw [len_ofString]; exact h2, fun _ => stay hS (.int _) h3⟩
  · cases rs with
    | cons r1 r2 =>
    cases r2; cases r1
    exact use call_str_int ⟨_, rfl, h.1, fun _ => stay hS (.str _) h.2⟩
  · cases rs with
    | cons r1 r2 =>
    cases r2; cases r1
    exact use SkE.call_str_str ⟨_, rfl, fun _ => stay hS (.str _) h⟩
  · cases rs with
    | cons r1 r2 =>
    cases r2
    cases r1 with
    | @tup p ys ds hq rs =>
    rw [hK] at hq
    exact use call_list_of ⟨p, ys, rfl, .inr hq, fun l hl kf => mk_lst hS rs hl (hK ▸ kf) h⟩
  · cases rs with
    | cons r1 r2 =>
    cases r2
    cases r1 with
    | @ref n p hp =>
    obtain ⟨ys, h1, h2⟩ := h
    obtain ⟨ws, hq, rs⟩ := hS.lst h1 hp
    rw [hK] at hq
    exact use call_list_of ⟨p, ws, rfl, .inl hq, fun l hl kf => mk_lst hS rs hl (hK ▸ kf) h2⟩
  · cases rs with
    | cons r1 r2 =>
    cases r2
    cases r1 with
    | @tup p ys ds hq rs =>
    rw [hK] at hq
    exact use call_tuple_of ⟨p, ys, rfl, .inr ⟨hq, fun _ => stay hS (.tup (by rw [hK]; exact hq) rs) h⟩⟩
  · cases rs with
    | cons r1 r2 =>
    cases r2
    cases r1 with
    | @ref n p hp =>
    obtain ⟨ys, h1, h2⟩ := h
    obtain ⟨ws, hq, rs⟩ := hS.lst h1 hp
    rw [hK] at hq
    exact use call_tuple_of ⟨p, ws, rfl, .inl ⟨hq, fun l hl kf => mk_tup hS rs hl (hK ▸ kf) h2⟩⟩
  · cases rs with
    | cons r1 r2 =>
    cases r2
    cases r1 with
    | @ref n p hp =>
    obtain ⟨kvs, h1, h2⟩ := h
    obtain ⟨ws, hq, rs⟩ := hS.dic h1 hp
    exact use call_dictD ⟨p, ws, rfl, hq, fun l hl kf => mk_dic hS rs hl (hK ▸ kf) h2⟩
  · cases rs with
    | cons r1 r2 =>
    cases r2
    cases r1 with
    | @ref n p hp =>
    obtain ⟨ns, h1, h2⟩ := h
    obtain ⟨ws, hq, rs⟩ := hS.lst h1 hp
    rw [hK] at hq
    have e := rs.ints
    subst e
    exact use (cr_sum hc) ⟨p, ns, rfl, hq, fun _ => stay hS (.int _) h2⟩
  · cases rs with
    | cons r1 r2 =>
    cases r2
    cases r1 with
    | @ref n p hp =>
    obtain ⟨bs, h1, h2⟩ := h
    obtain ⟨ws, hq, rs⟩ := hS.lst h1 hp
    rw [hK] at hq
    have e := rs.bls
    subst e
    exact use (cr_all hc) ⟨p, bs, rfl, hq, fun _ => stay hS (.bl _) h2⟩
  · cases rs with
    | cons r1 r2 =>
    cases r2
    cases r1 with
    | @ref n p hp =>
    obtain ⟨bs, h1, h2⟩ := h
    obtain ⟨ws, hq, rs⟩ := hS.lst h1 hp
    rw [hK] at hq
    have e := rs.bls
    subst e
    exact use (cr_any hc) ⟨p, bs, rfl, hq, fun _ => stay hS (.bl _) h2⟩
  · cases rs with
    | cons r1 r2 =>
    cases r2
    cases r1 with
    | @ref n p hp =>
    rcases h with ⟨ns, h1, h2⟩ | ⟨kvs, ks, h1, h3, h4, h2⟩
    · obtain ⟨ws, hq, rs⟩ := hS.lst h1 hp
      rw [hK] at hq
      have e := rs.ints
      subst e
      exact use cr_sortedI ⟨p, ns, rfl, hq, fun ns' l hp1 hp2 hl kf => mk_lst hS (RDs.of_ints ns') hl (hK ▸ kf) (h2 ns' hp1 hp2)⟩
    · obtain ⟨ws, hq, rs⟩ := hS.dic h1 hp
      refine use (call_sortedD hc) ⟨p, ws, ks.map Str.ofString, rfl, hq, keys_inr rs h3, by rw [List.length_map]; exact h4, fun ys l hp1 _ hl kf => ?_⟩
      obtain ⟨ks', e1, e2⟩ := perm_map hp1 ks rfl
      subst e2
      rw [List.map_map] at kf ⊢
      exact mk_lst hS (RDs.of_strs ks') hl (hK ▸ kf) (h2 ks' e1)
  · cases rs with
    | cons r1 r2 =>
    cases r2
    cases r1 with
    | @ref n p hp =>
    obtain ⟨kvs, h1, h2⟩ := h
    obtain ⟨ws, hq, rs⟩ := hS.dic h1 hp
    exact use (call_listD hc) ⟨p, ws, rfl, hq, fun l hl kf => mk_lst hS rs.keyL hl (hK ▸ kf) h2⟩
  · cases rs with
    | cons r1 r2 =>
    cases r2
    cases r1 with
    | @ref n p hp =>
    obtain ⟨ks, h1, h3, h2⟩ := h
    obtain ⟨ws, hq, rs⟩ := hS.lst h1 hp
    rw [hK] at hq
    have e := rd_strsF rs
    subst e
    refine use cr_sortedS ⟨p, ks.map Str.ofString, rfl, hq, by rw [List.length_map]; exact h3, fun ys l hp1 _ hl kf => ?_⟩
    obtain ⟨ks', e1, e2⟩ := perm_map hp1 ks rfl
    subst e2
    rw [List.map_map] at kf ⊢
    exact mk_lst hS (RDs.of_strs ks') hl (hK ▸ kf) (h2 ks' e1)
  · exact h.elim
end
end Mi

set_option maxHeartbeats 2000000
namespace Mi
open PySem PySem.Spec L2
/-! MiGx: a list lengthened by a tuple -/
theorem ext_tup (l : Addr) (xs : Array Value) (n : Nat) (b : Addr) (o : Obj) (ys : Array Value) (n2 : Nat) (z0 : ¬(!xs.isEmpty && Builtin.List.listTooLong (xs.size + ys.size)) = true) (z1 : xs.size ≤ sizeLine) (z2 : xs.size + ys.size ≤ sizeLine + 1) :
    Meets (Builtin.«list.extend» ⟨[.ref l, .ref b], []⟩) (fun _ R s => s.heap.get? l = some { cls := .type "list", dict := none, data := .seq xs n, slots := #[] } ∧ s.heap.get? b = some o ∧ o.cls = .type "tuple" ∧ o.data = .seq ys n2 ∧ R (.ok (.ret Value.none)) { s with heap := s.heap.update l (Obj.mapSeq fun x => x ++ ys), toks := s.toks }) :=
  .of_wp fun prog w A R s0 h => by
    obtain ⟨hh, gg, dd, tt, oo⟩ := s0
    obtain ⟨oc, od, oda, osl⟩ := o
    obtain ⟨hl, hb, h2, h3, h⟩ := h
    dsimp only at h2 h3
    subst h2 h3
    have g1 := AutoSeq1.sub_tuple_tuple; have g2 := AutoSeq1.sub_list_list; have g3 := AutoSeq1.sub_tuple_list; have g4 := AutoSeq1.sub_list_tuple
    have zz : (xs ++ ys).size ≤ sizeLine + 1 := by rw [Array.size_append]; exact z2
    wp_walk using (wpAny_updateSeq hl rfl (hz := z1) (_hz' := zz)), AutoSeq1.wpAny_loadPart' hl, AutoSeq1.wpAny_loadPart' hb
    exact ⟨_, rfl, h⟩
section
variable {X : Cx}
def rExtT : V → List V → Hp → VK → Prop := fun x vs H Q => ∃ l b xs zs, x = .ref l ∧ vs = [.ref b] ∧ H l = some (.lst xs) ∧ SqT X.K H b zs ∧ xs.length + zs.length ≤ sizeLine ∧ Q .non (L2.upd H l (.lst (xs ++ zs)))
theorem mt_extT : MtM X "list.extend" (rExtT (X := X)) := by
  intro pins s σ H x vs v us Q I rx rv h
  obtain ⟨l, b, xs, zs, rfl, rfl, hH, hB, hz, q⟩ := h
  cases rx
  obtain ⟨u, rfl, ru⟩ := rv.one
  cases ru
  obtain ⟨z, its, n, r, hl, e⟩ := I.lstM hH
  obtain ⟨its2, o2, n2, r2, e2, c2, d2⟩ := sqT_at I.hok I.kIn hB
  have hl2 := r2.length
  have hsz : its.toArray.size + its2.toArray.size ≤ sizeLine := by rw [List.size_toArray, List.size_toArray]; omega
  have hlong : ¬ (!its.toArray.isEmpty && Builtin.List.listTooLong (its.toArray.size + its2.toArray.size)) = true := by
    rw [notLongL hsz, Bool.and_false]; decide
  refine call_meets F.slot_list_extend ⟨_, e, rfl⟩ F.entry_list_extend (F.args_list_extend_2 _ _) (ext_tup l its.toArray n b o2 its2.toArray n2 hlong (by rw [List.size_toArray]; omega) (by omega)) ⟨e, e2, c2, d2, ?_⟩
  exact ⟨.non, _, I.lset (its' := its ++ its2) hH e (by simp) (r.append r2) (by rw [List.length_append]; omega), rfl, q⟩
end
end Mi

set_option maxHeartbeats 2000000
namespace Mi
open PySem PySem.Spec L2 PyProof.Rows
section
variable {X : Cx} {cl : Cl}
theorem seqIx_eq {n : Nat} {i : Int} {j : Nat} (h : Mi.ixN n i = some j) : seqIndex? i n = some j ∧ j < n ∧ -(n : Int) ≤ i ∧ i < n := ixN_seq (by rw [← ixN_eq]; exact h)
def rM (X : Cx) (cl : Cl) (r : Val → List Val → Hm → Post → Prop) : V → List V → Hp → VK → Prop := fun x xs H Q => ∃ m S v vs, m.K = X.K ∧ m.H = H ∧ SH cl m S ∧ RD m v x ∧ RDs m vs xs ∧ r v vs S (liftQ cl m Q)
/-- the type, the name and the built-in of a method -/
def bmI : Bm → String × String × String
  | .append => ("list", "append", "list.append")
  | .extend => ("list", "extend", "list.extend")
  | .pop => ("list", "pop", "list.pop")
  | .insert => ("list", "insert", "list.insert")
  | .reverse => ("list", "reverse", "list.reverse")
  | .count => ("list", "count", "list.count")
  | .index => ("list", "index", "list.index")
  | .clear => ("list", "clear", "list.clear")
  | .dclear => ("dict", "clear", "dict.clear")
  | .get => ("dict", "get", "dict.get")
  | .setdefault => ("dict", "setdefault", "dict.setdefault")
  | .update => ("dict", "update", "dict.update")
  | .startswith => ("str", "startswith", "str.startswith")
  | .split => ("str", "split", "str.split")
  | .join => ("str", "join", "str.join")
  | .isupper => ("str", "isupper", "str.isupper")
  | .upper => ("str", "upper", "str.upper")
  | .replace => ("str", "replace", "str.replace")
  | .dpop => ("dict", "pop", "dict.pop")
theorem strs_rd {m : Sm} : ∀ (ys : List String), RDs m (ys.map Val.str) ((ys.map Str.ofString).map V.str)
  | [] => .nil
  | y :: ys => .cons (.str y) (strs_rd ys)
theorem rd_strs {m : Sm} : ∀ {ys : List String} {xs : List V}, RDs m (ys.map Val.str) xs → xs = (ys.map Str.ofString).map V.str
  | [], _, h => by cases h; rfl
  | y :: ys, _, h => by
    cases h with
    | cons h hs =>
      cases h
      rw [rd_strs hs]
      rfl
def rCountM (K : PySem.W.Frag) : V → List V → Hp → VK → Prop := fun x xs H Q => ∃ (a : Addr) (ys : List V) (y : V), x = V.ref a ∧ xs = [y] ∧ SqL K H a ys ∧ flatV y = true ∧ ys.all flatV = true ∧ Q (.int (ys.countP fun z => eqV z y : Nat)) H
theorem countU {x : V} : ∀ {xs : List V} {us : List Value}, Vals xs us → xs.all flatV = true → us.countP (eqU x) = xs.countP fun z => eqV z x
  | _, _, .nil, _ => rfl
  | y :: xs, u :: us, .cons r t, f => by
    rw [List.all_cons, Bool.and_eq_true] at f
    rw [List.countP_cons, List.countP_cons, eqU_of r f.1, countU t f.2]
theorem mt_countM : MtR X "list.count" (rCountM X.K) := by
  intro pins s σ H x xs v us Q I rx rxs h
  obtain ⟨a, ys, y, rfl, rfl, hs, fy, fys, q⟩ := h
  cases rx
  cases rxs with
  | cons ry rt =>
    rename_i uy ut
    cases rt
    obtain ⟨its, rv, ⟨⟨cls, dd, data, sl⟩, n, ho, hc, hdn, hd⟩, hlen⟩ := I.list hs
    simp only at hc hd
    subst hc hd
    refine call_meets PySem.F.slot_list_count ⟨_, ho, rfl⟩ PySem.F.entry_list_count (PySem.F.args_list_count_2 _ _)
      (SeqAt.list_countAt a its.toArray n dd sl uy (eqU y)) ⟨ho, fun u' hu' => mem_eqAt ry fy rv fys u' (by simpa using hu'), ?_⟩
    have e : its.toArray.toList.countP (eqU y) = ys.countP fun z => eqV z y := countU rv fys
    rw [e]
    exact ⟨.int _, H, I.tok _, ⟨_, rfl⟩, q⟩
theorem countM {m : Sm} {y : Val} {x : V} (r1 : RD m y x) (h : flat y = true) : ∀ {ds : List Val} {xs : List V}, RDs m ds xs → ds.all flat = true → (xs.countP fun z => eqV z x) = ds.countP fun z => feq z y
  | _, _, .nil, _ => rfl
  | d :: ds, z :: xs, .cons r t, f => by
    rw [List.all_cons, Bool.and_eq_true] at f
    rw [List.countP_cons, List.countP_cons, feq_rd r r1 f.1 h, countM r1 h t f.2]
theorem keys_at {h : Heap} : ∀ (prs : List (L2.Key × Value)) (ps : List Addr), prs.length = ps.length → (∀ (j : Nat) (q : L2.Key × Value), prs[j]? = some q → ∃ (b : Addr) (u : Value), ps[j]? = some b ∧ IsTup h b #[u, q.2] ∧ keyIs q.1 u = true) →
    ∃ ks : List Value, ks.length = prs.length ∧ ∀ (j : Nat) (q : L2.Key × Value), prs[j]? = some q → ∃ u, ks[j]? = some u ∧ keyIs q.1 u = true ∧ ∃ b, ps[j]? = some b ∧ IsTup h b #[u, q.2]
  | [], _, _, _ => ⟨[], rfl, fun j q e => by simp at e⟩
  | q0 :: prs, [], hl, _ => by simp at hl
  | q0 :: prs, p :: ps, hl, hpr => by
    obtain ⟨b, u, e1, e2, e3⟩ := hpr 0 q0 rfl
    have e1 : p = b := Option.some.inj e1
    subst e1
    obtain ⟨ks, k1, k2⟩ := keys_at prs ps (by simpa using hl) fun j q e => by
      obtain ⟨b', u', f1, f2, f3⟩ := hpr (j + 1) q (by simpa using e)
      exact ⟨b', u', by simpa using f1, f2, f3⟩
    refine ⟨u :: ks, by simp [k1], fun j q e => ?_⟩
    cases j with
    | zero =>
      have e : q0 = q := Option.some.inj e
      subst e
      exact ⟨u, rfl, e3, p, rfl, e2⟩
    | succ j =>
      obtain ⟨u', g1, g2, b', g3, g4⟩ := k2 j q (by simpa using e)
      exact ⟨u', by simpa using g1, g2, b', by simpa using g3, g4⟩
/-- d.update(l) of a list of pairs -/
theorem d_upd {pins : List (Addr × Obj)} {σ : L2.St} {H : Hp} {s : Shared} {a l : Addr} {kvs : List (L2.Key × V)} {ps : List Addr} {more : List (L2.Key × V)} {Q : Value → Shared → Prop} (hc : X.calm = true) (I : Inv X pins σ H s) (e : H a = some (.dK kvs)) (hq : SqL X.K H l (ps.map V.ref)) (hp : Paired (fun p (kv : L2.Key × V) => SqT X.K H p [L2.kV kv.1, kv.2]) ps more) (hn : kvs.length + more.length ≤ sizeLine)
    (ha : a ≠ l) (hap : a ∉ ps) (h : ∀ s', Inv X pins σ (upd H a (.dK (mergeK kvs more))) s' → Q .none s') :
    wpAny (model X.prog X.w) X.A (call (.builtin "dict.update") [.ref a, .ref l]) Q X.xe s := by
  obtain ⟨z, hd, vs, rel, dd⟩ := dk_of I.hok e
  obtain ⟨its, rv, pl, hz⟩ := I.list hq
  have ei := refs_at rv
  subst ei
  obtain ⟨prs, rel2, hl, hpr⟩ := pairs_of I hp
  obtain ⟨o, n, ho, hcl, hdc, hdt⟩ := pl
  obtain ⟨ks, hks⟩ := keys_at prs ps hl hpr
  obtain ⟨hk1, hk2⟩ := hks
  have zl : (ks.zip (prs.map (·.2))).length = prs.length := by simp [hk1]
  have zg : ∀ (j : Nat) (k v : Value), (ks.zip (prs.map (·.2)))[j]? = some (k, v) → ∃ q, prs[j]? = some q ∧ q.2 = v ∧ ks[j]? = some k := fun j k v e => by
    have hj := (List.getElem?_eq_some_iff.mp e).1
    rw [zl] at hj
    rw [List.getElem?_zip_eq_some] at e
    obtain ⟨e1, e2⟩ := e
    rw [List.getElem?_map] at e2
    obtain ⟨q, e3, e4⟩ := Option.map_eq_some_iff.mp e2
    exact ⟨q, e3, e4, e1⟩
  refine PySem.call_update_pairs (knd := mixKind X.prog X.w) (kvs := prs) (acc := vs) (PairArg.list l (ps.map Value.ref).toArray (fun j => (ps[j]?).getD 0) (ks.zip (prs.map (·.2)))) (I.ok.hd hc) ⟨⟨o, n, ho, hcl, hdc, hdt⟩, by simp [hk1, hl], fun j k v hj => ?_⟩ ?_ ⟨by rw [zl], fun i key v hr => ?_⟩ dd (by rw [zl, ← rel.length, ← rel2.length]; exact hn) fun h' tk hD kp => ?_
  · obtain ⟨q, e1, e2, e3⟩ := zg j k v hj
    obtain ⟨u, f1, f2, b, f3, f4⟩ := hk2 j q e1
    rw [e3] at f1
    cases f1
    refine ⟨by simp [f3], ?_⟩
    show PairAt _ ((ps[j]?).getD 0) _ _
    rw [f3]
    show PairAt _ b _ _
    obtain ⟨o', ho', hc', n', hd'⟩ := f4
    subst e2
    exact .inl ⟨o', ho', hc', n', hd'⟩
  · intro hm
    rcases List.mem_cons.mp hm with hm | hm
    · exact ha hm
    · obtain ⟨j, hj, ej⟩ := List.mem_map.mp hm
      have hj := List.mem_range.mp hj
      rw [zl] at hj
      obtain ⟨b, hb⟩ : ∃ b, ps[j]? = some b := ⟨_, List.getElem?_eq_getElem (by omega)⟩
      rw [hb] at ej
      exact hap (by rw [← ej]; exact List.mem_of_getElem? hb)
  · obtain ⟨q, e1, e2, e3⟩ := zg i key v hr
    obtain ⟨u, f1, f2, _⟩ := hk2 i q e1
    rw [e3] at f1
    cases f1
    exact ⟨q.1, by rw [e1, ← e2], f2⟩
  · have hlen : (mergeK kvs more).length ≤ sizeLine := Nat.le_trans (length_mergeK more kvs) hn
    have he : ∃ q, h'.get? a = some q := let ⟨q, _, _, hq, _⟩ := hD; ⟨q, hq⟩
    refine h _ (I.write (x := a) (e := a) (by rw [e]; exact True.intro) (.inl rfl) (fun b q hb z => kp b q hb (by simp) z) he (dk_new hlen hd (KV.merge rel2 rel) hD))
theorem RKs.merge {m : Sm} : ∀ {ps : List (Key × Val)} {qs : List (L2.Key × V)} {kvs : List (Key × Val)} {ws : List (L2.Key × V)}, RKs m ps qs → RKs m kvs ws → RKs m (ps.foldl (fun d p => putK d p.1 p.2) kvs) (mergeK ws qs)
  | [], _, _, _, .nil, r => r
  | p :: ps, _, _, _, .cons (b := q) h t, r => by
    obtain ⟨h1, h2⟩ := h
    show RKs m (List.foldl _ (putK _ p.1 p.2) ps) (mergeK (L2.putK _ q.1 q.2) _)
    refine RKs.merge t ?_
    rw [h1]
    exact r.put p.1 h2
theorem paired_mem {α β : Type} {F : α → β → Prop} : ∀ {xs : List α} {ys : List β} {a : α}, Paired F xs ys → a ∈ xs → ∃ b, F a b
  | _, _, _, .nil, h => by cases h
  | x :: xs, y :: ys, a, .cons h t, e => by
    rcases List.mem_cons.mp e with rfl | e
    · exact ⟨y, h⟩
    · exact paired_mem t e
theorem pairs_rd {m : Sm} : ∀ {ps : List (Key × Val)} {xs : List V}, RDs m (ps.map fun p => Val.tup [p.1.val, p.2]) xs → ∃ (bs : List Addr) (qs : List (L2.Key × V)), xs = bs.map V.ref ∧ Paired (fun p (kv : L2.Key × V) => SqT m.K m.H p [L2.kV kv.1, kv.2]) bs qs ∧ RKs m ps qs
  | [], _, .nil => ⟨[], [], rfl, .nil, .nil⟩
  | p :: ps, _, .cons h t => by
    obtain ⟨bs, qs, rfl, h1, h2⟩ := pairs_rd t
    cases h with
    | @tup a xs _ hq rs =>
    cases rs with
    | cons r1 r2 =>
    cases r2 with
    | cons r2 r3 =>
    cases r3
    have ek := key_rd r1 (q := p.1) (by cases p.1 <;> rfl)
    subst ek
    exact ⟨a :: bs, (kk p.1, _) :: qs, rfl, .cons hq h1, .cons ⟨rfl, r2⟩ h2⟩
theorem mt_ok (hu : X.A.units + 1 < cLine) (b : Bm) (hb : b = .update → X.calm = true) : MtR X (bmI b).2.2 (rM X cl (bmW b)) := by
  intro pins s σ H x xs v us Q I rx rxs h
  obtain ⟨m, S, o, vs, hK, rfl, hS, ro, rs, h⟩ := h
  have use : ∀ {id : String} {r' : V → List V → Hp → VK → Prop}, MtR X id r' → r' x xs m.H (fun z H' => KF X.K H' → Q z H') → wpAny (model X.prog X.w) X.A (call (.builtin id) (v :: us)) (EP X pins σ Q) X.xe s := fun h1 h2 => MtR.kf h1 pins s σ m.H x xs v us Q I rx rxs h2
  revert h
  unfold bmW
  split <;> intro h
  · -- append
    obtain ⟨ys, h1, h2, h3⟩ := h
    cases ro with
    | @ref n p hp =>
    cases rs with
    | cons r1 r2 =>
    cases r2
    obtain ⟨ws, hq, rs⟩ := hS.lst' h1 hp
    exact use mt_append ⟨p, ws, _, rfl, rfl, hq, by rw [← rs.length]; exact h2, fun _ => wr_lst hS hp hq (rs.append (.cons r1 .nil)) .non h3⟩
  · -- extend
    obtain ⟨ys, zs, h1, h2, h3, h4⟩ := h
    cases ro with
    | @ref n p hp =>
    cases rs with
    | cons r1 r2 =>
    cases r2
    cases r1 with
    | @ref k q hq' =>
    obtain ⟨ws, hq, rs⟩ := hS.lst' h1 hp
    obtain ⟨wz, hz, rz⟩ := hS.lst' h2 hq'
    exact use mt_extend ⟨p, q, ws, wz, rfl, rfl, hq, hz, by rw [← rs.length, ← rz.length]; exact h3, fun _ => wr_lst hS hp hq (rs.append rz) .non h4⟩
  · -- extend, by a tuple
    obtain ⟨zs, h1, h2, h3⟩ := h
    cases ro with
    | @ref n p hp =>
    cases rs with
    | cons r1 r2 =>
    cases r2
    cases r1 with
    | @tup q ys _ hq' rt =>
    obtain ⟨ws, hq, rs⟩ := hS.lst' h1 hp
    exact use mt_extT ⟨p, q, ws, ys, rfl, rfl, hq, hK ▸ hq', by rw [← rs.length, ← rt.length]; exact h2, fun _ => wr_lst hS hp hq (rs.append rt) .non h3⟩
  · -- pop
    obtain ⟨ys, y, h1, h2, h3⟩ := h
    cases ro with
    | @ref n p hp =>
    cases rs
    obtain ⟨ws, hq, rs⟩ := hS.lst' h1 hp
    obtain ⟨z, hz, rz⟩ := rs.get h2
    exact use mt_pop ⟨p, ws, z, rfl, rfl, hq, by rw [← rs.length]; exact hz, fun _ => wr_lst hS hp hq rs.dropLast rz h3⟩
  · obtain ⟨ys, k, y, h1, h2, h3, h4, h5⟩ := h
    cases ro with
    | @ref n p hp =>
    cases rs with
    | cons r1 r2 =>
    cases r2; cases r1
    obtain ⟨ws, hq, rs⟩ := hS.lst' h1 hp
    obtain ⟨z, hz, rz⟩ := rs.get h4
    obtain ⟨q1, q2, q3, q4⟩ := seqIx_eq h2
    have hn := line63
    exact use mt_popAt ⟨p, ws, _, k, z, rfl, rfl, hq, by omega, by omega, by rw [← rs.length]; exact q1, hz, fun _ => wr_lst hS hp hq (rs.erase k) rz h5⟩
  · -- insert
    obtain ⟨ys, h1, h2, h3, h4, h5⟩ := h
    cases ro with
    | @ref n p hp =>
    cases rs with
    | cons r1 r2 =>
    cases r2 with
    | cons r2 r3 =>
    cases r3; cases r1
    obtain ⟨ws, hq, rs⟩ := hS.lst' h1 hp
    exact use mt_insert ⟨p, ws, _, _, rfl, rfl, hq, by rw [← rs.length]; exact h2, h3, h4, fun _ => wr_lst hS hp hq (((rs.take _).append (.cons r2 .nil)).append (rs.drop _)) .non h5⟩
  · -- reverse
    obtain ⟨ys, h1, h2⟩ := h
    cases ro with
    | @ref n p hp =>
    cases rs
    obtain ⟨ws, hq, rs⟩ := hS.lst' h1 hp
    exact use mt_reverse ⟨p, ws, rfl, rfl, hq, fun _ => wr_lst hS hp hq rs.rev .non h2⟩
  · -- index
    obtain ⟨ys, j, z, h1, h2, h3, h4, h5, h6, h7⟩ := h
    cases ro with
    | @ref n p hp =>
    cases rs with
    | cons r1 r2 =>
    cases r2
    obtain ⟨ws, hq, rs⟩ := hS.lst h1 hp
    rw [hK] at hq
    obtain ⟨z', hz, rz⟩ := rs.get h4
    have fl : ∀ (k : Nat) w, ys[k]? = some w → flat w = true := fun k w e => List.all_eq_true.mp h3 w (List.mem_of_getElem? e)
    refine use mt_index ⟨p, ws, _, j, z', rfl, rfl, hq, flat_rd r1 h2, flats_rd rs h3, hz, by rw [feq_rd rz r1 (fl j z h4) h2]; exact h5, fun k w hk hw => ?_, fun _ => stay hS (.int _) h7⟩
    obtain ⟨d, hd, rd⟩ := rs.getV hw
    rw [feq_rd rd r1 (fl k d hd) h2]
    exact h6 k d hk hd
  · -- count
    obtain ⟨ys, h1, h2, h3, h4⟩ := h
    cases ro with
    | @ref n p hp =>
    cases rs with
    | cons r1 r2 =>
    cases r2
    obtain ⟨ws, hq, rs⟩ := hS.lst h1 hp
    rw [hK] at hq
    refine use mt_countM ⟨p, ws, _, rfl, rfl, hq, flat_rd r1 h2, flats_rd rs h3, fun _ => ?_⟩
    rw [countM r1 h2 rs h3]
    exact stay hS (.int _) h4
  · -- dclear
    obtain ⟨kvs, h1, h2⟩ := h
    cases ro with
    | @ref n p hp =>
    cases rs
    cases rxs
    obtain ⟨ws, hq, rs⟩ := hS.dic' h1 hp
    obtain rfl : v = Value.ref p := rx
    exact d_clear I hq fun s' I' => ⟨.non, _, I', rfl, wr_dic hS hp hq .nil .non h2⟩
  · -- get
    obtain ⟨kvs, q, h1, h2, h3⟩ := h
    cases ro with
    | @ref n p hp =>
    cases rs with
    | cons r1 r2 =>
    cases r2
    obtain ⟨ws, hq, rs⟩ := hS.dic h1 hp
    have ek := key_rd r1 h2
    subst ek
    obtain rfl : v = Value.ref p := rx
    cases rxs with
    | cons t1 t2 =>
    cases t2
    refine d_get1 (A := X.A) hu I (.inl ⟨ws, _, hq, rfl, rfl⟩) t1 fun w' s' I' rw' => ?_
    rcases rs.look q with ⟨v', x', e1, e2, r⟩ | ⟨e1, e2⟩
    · rw [e2] at rw'; rw [e1] at h3
      exact ⟨x', m.H, I', rw', stay hS r h3⟩
    · rw [e2] at rw'; rw [e1] at h3
      exact ⟨.non, m.H, I', rw', stay hS .non h3⟩
  · obtain ⟨kvs, q, h1, h2, h3⟩ := h
    cases ro with
    | @ref n p hp =>
    cases rs with
    | cons r1 r2 =>
    cases r2 with
    | cons r2 r3 =>
    cases r3
    obtain ⟨ws, hq, rs⟩ := hS.dic h1 hp
    have ek := key_rd r1 h2
    subst ek
    obtain rfl : v = Value.ref p := rx
    cases rxs with
    | cons t1 t2 =>
    cases t2 with
    | cons t2 t3 =>
    cases t3
    refine d_get2 (A := X.A) hu I (.inl ⟨ws, _, hq, rfl, rfl⟩) t1 t2 fun w' s' I' rw' => ?_
    rcases rs.look q with ⟨v', x', e1, e2, r⟩ | ⟨e1, e2⟩
    · rw [e2] at rw'; rw [e1] at h3
      exact ⟨x', m.H, I', rw', stay hS r h3⟩
    · rw [e2] at rw'; rw [e1] at h3
      exact ⟨_, m.H, I', rw', stay hS r2 h3⟩
  · -- setdefault
    obtain ⟨kvs, q, h1, h2, h3, h4, h5⟩ := h
    cases ro with
    | @ref n p hp =>
    cases rs with
    | cons r1 r2 =>
    cases r2 with
    | cons r2 r3 =>
    cases r3
    obtain ⟨ws, hq, rs⟩ := hS.dic' h1 hp
    have ek := key_rd r1 h2
    subst ek
    obtain rfl : v = Value.ref p := rx
    cases rxs with
    | cons t1 t2 =>
    cases t2 with
    | cons t2 t3 =>
    cases t3
    refine d_setd (A := X.A) I hq t1 t2 (by rw [← rs.length]; exact h3) (fun z hz w' s' I' rw' => ?_) (fun hn w' s' I' rw' => ?_)
    · rcases rs.look q with ⟨v', x', e1, e2, r⟩ | ⟨e1, e2⟩
      · rw [hz] at e2; cases e2
        exact ⟨z, m.H, I', rw', stay hS r (h4 v' e1)⟩
      · rw [hz] at e2; cases e2
    · rcases rs.look q with ⟨v', x', e1, e2, r⟩ | ⟨e1, e2⟩
      · rw [hn] at e2; cases e2
      · exact ⟨_, _, I', rw', wr_dic hS hp hq (rs.put q r2) r2 (h5 e1)⟩
  · -- startswith
    cases ro
    cases rs with
    | cons r1 r2 =>
    cases r2; cases r1
    exact use mt_startswith ⟨_, _, rfl, rfl, fun _ => stay hS (.bl _) h⟩
  · -- split
    obtain ⟨ys, h1, h2, h3, h4⟩ := h
    cases ro
    cases rs with
    | cons r1 r2 =>
    cases r2; cases r1
    refine use mt_split ⟨_, _, rfl, rfl, by rw [len_ofString]; exact beq_eq_false_iff_ne.mpr h2, by rw [len_ofString]; exact h3, fun p hp kf => ?_⟩
    rw [h1] at kf ⊢
    exact mk_lst hS (strs_rd ys) hp (hK ▸ kf) h4
  · obtain ⟨ys, h1, h3, h4⟩ := h
    cases ro
    cases rs
    refine use mt_words ⟨_, rfl, rfl, by rw [len_ofString]; exact h3, fun p hp kf => ?_⟩
    rw [h1] at kf ⊢
    exact mk_lst hS (strs_rd ys) hp (hK ▸ kf) h4
  · -- join
    obtain ⟨ys, y, h1, h2, h3, h4⟩ := h
    cases ro
    cases rs with
    | cons r1 r2 =>
    cases r2
    cases r1 with
    | @ref k q hq' =>
    obtain ⟨ws, hq, rs⟩ := hS.lst h1 hq'
    rw [hK] at hq
    have e := rd_strs rs
    subst e
    refine use mt_join ⟨_, q, ys.map Str.ofString, rfl, rfl, .inl hq, ?_, fun _ => ?_⟩
    · rw [List.length_map, len_ofString, List.map_map]
      have e : ((fun x : Str => x.length) ∘ Str.ofString) = String.length := by funext z; exact len_ofString z
      rw [e]
      exact h3
    · rw [h2]
      exact stay hS (.str _) h4
  · cases ro; cases rs
    exact use mt_isupper ⟨_, rfl, rfl, trivial, fun _ => stay hS (.bl _) h⟩
  · obtain ⟨y, h1, h2, h3⟩ := h
    cases ro; cases rs
    refine use mt_upper ⟨_, rfl, rfl, by rw [len_ofString]; exact h2, fun _ => ?_⟩
    rw [h1]
    exact stay hS (.str _) h3
  · -- update
    obtain ⟨kvs, ps, h1, h2, h3, h4⟩ := h
    cases ro with
    | @ref n p hp =>
    cases rs with
    | cons r1 r2 =>
    cases r2
    cases r1 with
    | @ref k q hq' =>
    obtain ⟨ws, hq, rs⟩ := hS.dic' h1 hp
    obtain ⟨xs', hl, rl⟩ := hS.lst h2 hq'
    obtain rfl : v = Value.ref p := rx
    cases rxs with
    | cons t1 t2 =>
    cases t2
    cases t1
    obtain ⟨bs, qs, rfl, e2, e3⟩ := pairs_rd rl
    have lw := rs.length
    have lq := e3.length
    refine d_upd (hb rfl) I hq (hK ▸ hl) (hK ▸ e2) (by omega) ?_ ?_ fun s' I' => ⟨.non, _, I', rfl, wr_dic hS hp hq (RKs.merge e3 rs) .non h4⟩
    · rintro rfl
      rcases hl with (hl | ⟨_, hl⟩) | ⟨_, _, _, hl, _⟩
      · rw [hq] at hl; cases hl
      · rw [hq] at hl; cases hl
      · rw [hS.kf _ _ hl] at hq; cases hq
    · intro z
      obtain ⟨qq, e4⟩ := paired_mem e2 z
      rcases e4 with (e4 | ⟨_, e4⟩) | ⟨_, _, _, e4, _⟩
      · rw [hq] at e4; cases e4
      · rw [hq] at e4; cases e4
      · rw [hS.kf _ _ e4] at hq; cases hq
  · -- dpop
    obtain ⟨kvs, q, w, h1, h2, h3, h4⟩ := h
    cases ro with
    | @ref n p hp =>
    cases rs with
    | cons r1 r2 =>
    cases r2
    obtain ⟨ws, hq, rs⟩ := hS.dic' h1 hp
    have ek := key_rd r1 h2
    subst ek
    obtain rfl : v = Value.ref p := rx
    cases rxs with
    | cons t1 t2 =>
    cases t2
    rcases rs.look q with ⟨v', x', e1, e2, r⟩ | ⟨e1, e2⟩
    · rw [h3] at e1
      cases e1
      exact d_pop I hq t1 e2 (.inl rfl) fun w' s' I' rw' => ⟨x', _, I', rw', wr_dic hS hp hq (rs.drop q) r h4⟩
    · rw [h3] at e1; cases e1
  · exact h.elim
/-- o[i] = v -/
theorem set_ok (hu : X.A.units + 1 < cLine) : PSet X (fun o i v H Q => ∃ m S a b c, m.K = X.K ∧ m.H = H ∧ SH cl m S ∧ RD m a o ∧ RD m b i ∧ RD m c v ∧ setW a b c S fun S' => ∀ m', Ev m m' → SH cl m' S' → Q m'.H) := by
  intro pins s σ H o i v ov iv u Q I ro ri rv h
  obtain ⟨m, S, a, b, c, hK, rfl, hS, ra, rb, rc, h⟩ := h
  revert h
  unfold setW
  split <;> intro h
  · cases ra with
    | @ref n p hp =>
    rcases h with ⟨xs, k, j, h1, rfl, h2, h3⟩ | ⟨kvs, q, h1, h2, h3, h4⟩
    · cases rb
      obtain ⟨ws, hq, rs⟩ := hS.lst' h1 hp
      refine set_list pins s σ m.H _ _ _ ov iv u Q I ro ri rv ⟨p, ws, k, j, rfl, rfl, hq, by rw [← rs.length, ← ixN_eq]; exact h2, ?_⟩
      have e : Ev m { m with H := L2.upd m.H p (.lst (ws.set j v)) } := Ev.write hp hq
      exact h3 { m with H := L2.upd m.H p (.lst (ws.set j v)) } e (hS.write hp hq ⟨_, upd_same, (rs.set rc j).up (e.up hS)⟩)
    · obtain ⟨ws, hq, rs⟩ := hS.dic' h1 hp
      have ek := key_rd rb h2
      subst ek
      refine set_dict hu pins s σ m.H _ _ _ ov iv u Q I ro ri rv ⟨p, _, rfl, .inl ⟨ws, _, hq, rfl, by rw [← rs.length]; exact h3, rfl⟩, ?_⟩
      have e : Ev m { m with H := L2.upd m.H p (.dK (L2.putK ws (kk q) v)) } := Ev.write hp hq
      exact h4 { m with H := L2.upd m.H p (.dK (L2.putK ws (kk q) v)) } e (hS.write hp hq ⟨_, upd_same, (rs.put q rc).up (e.up hS)⟩)
  · exact h.elim
end
end Mi

set_option maxHeartbeats 4000000
/-! what a call within a comprehension lets out goes on to the block around -/
namespace Mi
open PySem PySem.Spec L2 PyProof.Rows
/-- in the air of X, the frame's own address told by the environment -/
def XF (X : Cx) (W : WX) (u : Value) (t : Shared) : Prop :=
  ∃ (x : Addr) (G : Heap) (sG : Shared) (ps : List (Addr × Obj)) (ρ : L2.St) (K : Hp) (c : Value) (d : Option Addr) (F : Addr), u = .ref x ∧ Inv X ps ρ K sG ∧
    (∀ b o, sG.heap.get? b = some o → b ∉ frs X.stack → G.get? b = some o) ∧ sG.heap.UpToSlots t.heap ∧ X.env.frame = some F ∧ Sky G X.stack x (L2N.Zn c d) F t.heap ∧ K x = none ∧ t.os = sG.os ∧ AllBare t.gens ∧ W c d ρ K
def TkF (X : Cx) (W : WX) : Prop := ∀ u t, XF X W u t → X.xe u t
/-- the frame that X runs in -/
def InFr (X : Cx) : Prop := ∃ (e0 : PySem.Env) (out : List PySem.Env) (F : Addr), X.stack = e0 :: out ∧ e0.frame = some F ∧ X.env.frame = some F
theorem tkF_of {X : Cx} {W : WX} (hf : X.env.frame = some X.env.locals) (tk : L2N.Takes X W) : TkF X W := by
  rintro u t ⟨x, G, sG, ps, ρ, K, c, d, F, rfl, I, nb, up, fr, sky, nx, os, ag, w⟩
  rw [hf] at fr
  obtain rfl := Option.some.inj fr
  exact tk _ _ ⟨x, G, sG, ps, ρ, K, c, d, rfl, I, nb, up, sky, nx, os, ag, w⟩
theorem inFr_of {X : Cx} (hs : X.stack = X.env :: X.outer) (hf : X.env.frame = some X.env.locals) : InFr X := ⟨X.env, X.outer, _, hs, hf, hf⟩
theorem tkF_none {X : Cx} : TkF X (fun _ _ _ _ => False) := fun _ _ ⟨_, _, _, _, _, _, _, _, _, _, _, _, _, _, _, _, _, _, w⟩ => w.elim
/-- what a call lets out stands in the air of X -/
theorem xf_call {X : Cx} {W : WX} {ps : List (Addr × Obj)} {σ : L2.St} {K : Hp} {s t : Shared} {E : XK} {u : Value} (fr : InFr X) (I : Inv X ps σ K s) (hW : ∀ c d K', E c d K' → W c d σ K') (h : L2N.CX X.prog X.w X.stack K s E u t) : XF X W u t := by
  obtain ⟨_, _, F, _, _, hF⟩ := fr
  have xe := L2N.XE.of_call I hW h
  obtain ⟨a, B, _, c', d', rfl, fl, _⟩ := h
  obtain ⟨oe, vs, T, oT, ts, q1, q2, q3, q4, q5, q6, q7, q8, q9⟩ := fl.2.2.2
  obtain ⟨x, G, sG, ps', ρ, K', c, d, e, J, nb, up, sky, rest⟩ := xe
  cases e
  refine ⟨a, G, sG, ps', ρ, K', c, d, F, rfl, J, nb, up, hF, ?_, rest⟩
  rcases sky with ⟨_, _, _, o1, v1, r1, _, r3, r4⟩ | z | ⟨_, _, _, o1, v1, T1, p1, t1, r1, _, r3, r4, _, _, r5, r6, r7⟩
  · rw [q1] at r1
    cases r1
    rw [q3] at r3
    cases r3
    rw [q4] at r4
    cases r4
  · exact .inr (.inl z)
  · rw [q1] at r1
    cases r1
    rw [q3] at r3
    cases r3
    rw [q4] at r4
    cases r4
    rw [q7] at r5
    cases r5
    rw [q8] at r6
    cases r6
    rw [q9] at r7
    exact absurd (Option.some.inj r7) (by simp [rawInt])
theorem passF {X : Cx} {W : WX} (fr : InFr X) (tk : TkF X W) (σ : L2.St) : PassesAt (L2N.CX X.prog X.w) X σ (WE W σ) := fun _ _ _ u t I h => tk u t (xf_call fr I (fun _ _ _ z => z) h)
theorem note_eq {e0 ce : PySem.Env} (u : Value) (h : ce.frame = e0.frame) : noteFrame u ce = noteFrame u e0 := by
  unfold noteFrame PySem.frameOf
  rw [h]
/-- frames' objects that stay as they are, over another ground -/
theorem frames_on {B B' h h' : Heap} : ∀ {l : List PySem.Env}, h.FunFrames B l → (∀ F ∈ frs l, B'.get? F = none ∧ h'.get? F = h.get? F) → h'.FunFrames B' l
  | [], _, _ => trivial
  | e :: l, ff, hh => by
    obtain ⟨k1, ⟨F, o, k2, _, k3, k4⟩, k5⟩ := ff
    have z := hh F (List.mem_filterMap.mpr ⟨e, .head _, k2⟩)
    refine ⟨k1, ⟨F, o, k2, z.1, z.2.trans k3, k4⟩, frames_on k5 fun G hG => ?_⟩
    obtain ⟨e', m, q⟩ := List.mem_filterMap.mp hG
    exact hh G (List.mem_filterMap.mpr ⟨e', .tail _ m, q⟩)
/-- the end of a comprehension's block, the block's own environment kept -/
def blkEnd (M : Model) (A : Around) (E : Value → Shared → Prop) (use : Option (Value → Sem Unit)) (Q : Value → Shared → Prop) (acc : Value) (ce : PySem.Env) (r : Result) (t : Shared) : Prop :=
  match r with
  | .error x => ∃ m, t.heap.Ns ce.locals m ∧ ∀ g, Heap.SameBut ce.locals t.heap g → wpAny M A (passOn "comprehension.variables-let-go" x ce : Sem Value) (fun _ _ => False) E { t with heap := g }
  | .ok f => compPost M A E use Q acc ce.locals (.ok f) t
theorem comp_own {M : Model} {A : Around} {E : Value → Shared → Prop} {s : Shared} {env : PySem.Env} {e : Expr} {scope : Scope} {pos : Pos} {newAcc first : Sem Value} {c : Comprehension} {cs : List Comprehension} {cl : List (Str × Addr)} {use : Option (Value → Sem Unit)} {Q : Value → Shared → Prop}
    (h1 : clausesOf e = c :: cs) (h2 : ∀ x, foldedSetIterable c.iter env x = pure x) (h3 : closureFor scope env = pure cl) (h4 : scope.kind = .function) (h5 : ∀ x ∈ scope.names, x.2 = .local → scope.names.lookup x.1 = some .local)
    (h : wpAny M A first (fun x t1 => wpAny M A (pyIter x) (fun it t2 => wpAny M A newAcc (fun acc t3 => wpAny M A (newFunctionEnv scope env.globals cl [] env.qual none .none (some env)) (fun ce t4 =>
      codeAny M A (.compStart e 0 it acc { ce with scope := relabel scope env }) (blkEnd M A E use Q acc { ce with scope := relabel scope env }) t4) E t3) E t2) E t1) E s) :
    wpAny M A (comprehension e scope env pos newAcc false first use) Q E s := by
  unfold comprehension
  rw [h3, h1]
  have out : ∀ {α : Type} {t : Sem α} {Q1 Q2 : α → Shared → Prop} {s : Shared}, wpAny M A t Q1 E s → (∀ a s', Q1 a s' → Q2 a s') → wpAny M A t Q2 E s := fun w k => wpAny_mono w k fun _ _ z => z
  refine wpAny_bind (out h fun x t1 w1 => ?_)
  refine wpAny_bind (wpAny_standAt (wpAny_bind (wpAny_of_eq (h2 x) (wpAny_bind (wpAny_holding (out w1 fun it t2 w2 => ?_))))))
  refine wpAny_standIf (wpAny_bind (out w2 fun acc t3 w3 => ?_))
  refine wpAny_bind (wpAny_pure (wpAny_bind (out w3 fun ce t4 w4 => ?_)))
  dsimp only
  have own : ∀ y ∈ scope.names.filter (fun y => (y.2 == .local || y.2 == .cell) && y.1 != (".0" : Str)), y.2 = .local → PySem.Env.kindOf { ce with scope := relabel scope env } y.1 = some .local := fun y hy hl => lookup_relabel_local (h5 y (List.mem_filter.mp hy).1 hl)
  have go := @wpAny_comp_letGo
  refine wpAny_holding (wpAny_bind (wpAny_attempt (wpAny_holding (wpAny_run (codeAny_mono w4 fun r t hr => ?_)))))
  cases r with
  | error x =>
    obtain ⟨m, hn, hp⟩ := hr
    have fin := fun (vs : List (Str × NameKind)) hv => wpAny_comp_letGo (M := M) (A := A) (E := E) (cellsOf := fun vs => List.flatMap (fun x => if (x.2 == NameKind.cell) = true then ((ce.cells.lookup x.1).map Value.ref).toList else []) vs) (cenv := { ce with scope := relabel scope env }) h4 (Q := fun _ t' => wpAny M A (passOn "comprehension.variables-let-go" x { ce with scope := relabel scope env } : Sem Value) Q E t') vs t m hv hn fun g _ _ sb => wpAny_mono (hp g sb) (fun _ _ f => f.elim) fun _ _ y => y
    exact wpAny_bind (wpAny_holding (fin _ fun y hy hl => own y (List.mem_reverse.mp hy) hl))
  | ok f =>
    cases use with
    | none =>
      obtain ⟨m, hn, hp⟩ := hr
      exact wpAny_bind (wpAny_holding (wpAny_comp_letGo (cenv := { ce with scope := relabel scope env }) h4 _ t m (fun y hy hl => own y (List.mem_reverse.mp hy) hl) hn fun g _ _ sb => wpAny_pure (hp g sb)))
    | some use =>
      refine wpAny_bind (wpAny_rule (wpAny_bind (wpAny_holding (out hr fun _ t' hr' => ?_))))
      obtain ⟨m, hn, hp⟩ := hr'
      refine wpAny_bind (wpAny_comp_letGo (cenv := { ce with scope := relabel scope env }) h4 _ t' m (fun y hy hl => own y (List.mem_reverse.mp ?_) hl) hn fun g _ _ sb => wpAny_pure (hp g sb))
      rcases List.mem_append.mp hy with z | z
      · exact List.mem_of_mem_drop z
      · exact List.mem_of_mem_take z
end Mi

set_option maxHeartbeats 4000000
namespace Mi
open PySem PySem.Spec L2 PyProof.Rows

/-! ### what the top has left -/
structure Ln (P : Pg) (K : PySem.W.Frag) (mg : Str → Option Value) (cl : Cl) : Prop where
  con : ∀ x v, P.con x = some v → ∃ a u, mg (Str.ofString x) = some u ∧ L2.RelV a u ∧ ∀ m : Sm, m.K = K → RD m v a
  clc : ∀ c C, cl c C → mg (Str.ofString c) = some (.ref C) ∧ Cls K C
  fld : ∀ c C, cl c C → ∀ f ∈ P.flds, NoAttr K C (Str.ofString f)
  has : ∀ c ∈ P.cls, ∃ C, cl c C
  exc : ∀ c ∈ P.excs, ∃ C, mg (Str.ofString c) = some (.ref C) ∧ PySem.W.excIn K C [.type "ValueError", .type "Exception", .type "BaseException", .type "object"] "ValueError.__new__" = true ∧ PySem.W.keepIn K (.ref C) = true ∧ PySem.W.subIn K (.ref C) (.type "BaseException") = some true ∧ PySem.W.typeIn K (.ref C) = some (.type "type")
  bi : ∀ x ∈ ["len", "abs", "min", "max", "int", "str", "list", "tuple", "dict", "sum", "sorted", "all", "any", "range", "enumerate", "zip", "reversed", "isinstance", "bool"], mg (Str.ofString x) = none
/-- .. for isinstance -/
structure LnI (K : PySem.W.Frag) (cl : Cl) : Prop where
  isT : ∀ c C, cl c C → PySem.W.findIn K (.ref C) "__class__" = some (some (.builtin "object.__class__")) ∧ PySem.W.specialIn K (.builtin "object.__class__") "__get__" = some (some (.builtin "getset_descriptor.__get__")) ∧ PySem.W.takesIn K (.builtin "object.__class__") = some true ∧ PySem.W.mroIn K C (.type "object") = some true
  isB : ∀ c C, cl c C → ∀ n ∈ ["int", "bool", "str", "tuple", "list", "dict"], PySem.W.kitOne K (.ref C) (.type n) = some false
  isC : ∀ c C, cl c C → ∀ n ∈ ["NoneType", "int", "bool", "str", "tuple", "list", "dict"], PySem.W.kitOne K (.type n) (.ref C) = some false
  isCC : ∀ c C c' C', cl c C → cl c' C' → PySem.W.kitOne K (.ref C) (.ref C') = some (c == c')
/-- the object of an exception of class c -/
def ExO (P : Pg) (K : PySem.W.Frag) (mg : Str → Option Value) (c : String) (o : Obj) : Prop := c ∈ P.excs ∧ ∃ C, mg (Str.ofString c) = some (.ref C) ∧ L2N.Zn (.ref C) none o ∧ ∃ vs, o.data = .fields vs
/-- what the classes of exceptions say -/
structure LnX (P : Pg) (K : PySem.W.Frag) (mg : Str → Option Value) (cl : Cl) : Prop where
  ex : ∀ c ∈ P.excs, ∀ C, mg (Str.ofString c) = some (.ref C) → ExcC K C ∧ PySem.W.kitOne K (.ref C) (.type "ValueError") = some (P.sub c "ValueError")
  sb : ∀ c ∈ P.excs, ∀ d ∈ P.excs, ∀ C D, mg (Str.ofString c) = some (.ref C) → mg (Str.ofString d) = some (.ref D) → PySem.W.kitOne K (.ref C) (.ref D) = some (P.sub c d) ∧ PySem.W.subIn K (.ref C) (.ref D) = some (P.sub c d)
  ve : mg (Str.ofString "ValueError") = none
  bt : ∀ c ∈ P.excs, ∀ C, mg (Str.ofString c) = some (.ref C) → ∀ n ∈ ["int", "bool", "str", "tuple"], PySem.W.kitOne K (.ref C) (.type n) = some false
  tx : ∀ d ∈ P.exts, ∃ C, mg (Str.ofString d) = some (.ref C) ∧ ∀ c ∈ P.excs, ∀ D, mg (Str.ofString c) = some (.ref D) → PySem.W.kitOne K (.ref D) (.ref C) = some (P.sub c d)
  nk : ∀ c ∈ P.excs, c ≠ "{}"
  kx : ∀ c C, cl.ex c C ↔ c ∈ P.excs ∧ mg (Str.ofString c) = some (.ref C)
/-- a def's promise where an exception is handled -/
structure FnE (prog : Program) (w : World) (K : PySem.W.Frag) (mg : Str → Option Value) (base : Heap) (f : Addr) (fd : FuncData) (ps : List Str) (sp : Addr × Obj → L2.Sp) : Prop where
  len : ∀ q vs H Q E, sp q vs H Q E → vs.length = ps.length
  run : ∀ (q : Addr × Obj) (A : Around) (outer : List PySem.Env) (s : Shared) (H : Hp) (args : Args) (us : List Value) (vs : List V) (Q : VK) (E : XK), L2H.RoomH 1 A → L2H.Hot1 A q → L2H.PinOk outer H s q → Env0 prog w K mg base A outer s H → BindsTo s fd args (ps.zip us) → Vals vs us → sp q vs H Q E →
    codeAny (model prog w) A (.call (.ref f) args) (CR (L2N.CX prog w) outer prog w H s Q E) s
/-- wishes about exceptions, lifted -/
def liftX (cl : Cl) (mg : Str → Option Value) (m : Sm) (W : Value → Option Addr → Hp → Prop) : XPost := fun c S' => ∀ m' C, Ev m m' → SH cl m' S' → mg (Str.ofString c) = some (.ref C) → W (.ref C) none m'.H
theorem liftX.ev {cl : Cl} {mg : Str → Option Value} {m m1 : Sm} {W : Value → Option Addr → Hp → Prop} (e : Ev m m1) {c : String} {S : Hm} (h : liftX cl mg m W c S) : liftX cl mg m1 W c S :=
  fun m' C e' hS hC => h m' C (e.trans e') hS hC
/-- a def's promise: its body's reading -/
def spF (P : Pg) (cl : Cl) (K : PySem.W.Frag) (mg : Str → Option Value) (k : Nat) (d : FDef) : L2.Sp := fun vs H Q E => ∃ m args S, m.K = K ∧ m.H = H ∧ SH cl m S ∧ RDs m args vs ∧ bodyW P (callW P k) d args S (liftQ cl m Q) (liftX cl mg m E)
def litV : Lit → V
  | .non => .non
  | .bl b => .bl b
  | .int i => .int i
  | .str x => .str (Str.ofString x)
theorem litV_rd {m : Sm} (c : Lit) : RD m c.val (litV c) := by
  cases c with
  | non => exact .non
  | bl b => exact .bl b
  | int i => exact .int i
  | str x => exact .str x
theorem lits_rd {m : Sm} : ∀ cs : List Lit, RDs m (cs.map Lit.val) (cs.map litV)
  | [] => .nil
  | c :: cs => .cons (litV_rd c) (lits_rd cs)
/-- where a def stands -/
structure At (P : Pg) (cl : Cl) (K : PySem.W.Frag) (mg : Str → Option Value) (f : FK) (d : FDef) (a : Addr) (fd : FuncData) (ps : List Str) : Prop where
  nm : match f with
    | .f x => mg (Str.ofString x) = some (.ref a)
    | .m c x => ∀ C, cl c C → Meth K C (Str.ofString x) a ∧ (x = "__init__" → Mk K C a)
  kp : PySem.W.keepIn K (.ref a) = true
  len : ps.length = d.params
  bd : ∀ n, n ≤ d.dflt.length → ∃ ds : List Value, Vals ((d.dflt.drop n).map litV) ds ∧ Binds K fd ps ds
/-- the promise of a def that is called with the handled exception -/
def spH (P : Pg) (cl : Cl) (K : PySem.W.Frag) (mg : Str → Option Value) (j : Nat) (d : FDef) (q : Addr × Obj) : L2.Sp := fun vs H Q E => ∃ c m args S, m.K = K ∧ m.H = H ∧ ExO P K mg c q.2 ∧ SH (cl.at q.1 c) m S ∧ RDs m args vs ∧ bodyW P (callW P j) d args S (liftQ (cl.at q.1 c) m Q) (liftX (cl.at q.1 c) mg m E)
def HotAll (P : Pg) (cl : Cl) (prog : Program) (w : World) (K : PySem.W.Frag) (mg : Str → Option Value) (base : Heap) (fs : List String) : Prop :=
  ∀ f ∈ fs, ∀ d, P.fn (.f f) = some d → d.dflt = [] → ∃ a fd ps, mg (Str.ofString f) = some (.ref a) ∧ PySem.W.keepIn K (.ref a) = true ∧ ps.length = d.params ∧ Binds K fd ps [] ∧ ∀ j, FnE prog w K mg base a fd ps fun q vs H Q E => vs.length = ps.length ∧ (KF K H → spH P cl K mg j d q vs H Q E)
/-- all defs keep their promises below level k -/
def FnAll (P : Pg) (cl : Cl) (prog : Program) (w : World) (K : PySem.W.Frag) (mg : Str → Option Value) (base : Heap) (k : Nat) : Prop :=
  ∀ f d, P.fn f = some d → P.isHot f = false → ∃ a fd ps, At P cl K mg f d a fd ps ∧ ∀ j, j < k → FnOk prog w K mg base (L2N.CX prog w) (j + 1) a fd ps (spF P cl K mg j d)
/-- the names of a text: the slots, the scope, the cells -/
structure Ko where
  N : List Str
  sc : Scope
  cf : Str → Bool
  hot : Bool := false
  hf : List String := []
/-- where a text stands -/
structure XO (P : Pg) (cl : Cl) (X : Cx) (k : Nat) (o : Ko) (W : WX) : Prop where
  ln : Ln P X.K X.mg cl
  nd : X.N.Nodup
  nn : X.N = o.N
  sc : X.env.scope = o.sc
  fnc : ∀ x, o.cf x = true → X.fn x = true
  isi : LnI X.K cl
  lx : LnX P X.K X.mg cl
  calm : (!o.hot) = true → X.calm = true
  room : (!o.hot) = true → Room k X.A
  un : X.A.units + 200 < cLine
  zc : (!o.hot) = true → ∀ a c, ¬ cl.z a c
  rmh : o.hot = true → o.hf ≠ [] → L2H.RoomH k X.A
  zx : o.hot = true → ∃ (q : Addr × Obj) (c : String), L2H.Hot1 X.A q ∧ q ∈ X.pn ∧ (∀ a d, cl.z a d → a = q.1 ∧ d = c) ∧ ExO P X.K X.mg c q.2
  hots : HotAll P cl X.prog X.w X.K X.mg X.base o.hf
  tk : TkF X W
  fr : InFr X
  fns : (!o.hot) = true → FnAll P cl X.prog X.w X.K X.mg X.base k
  hw : cl.w = X.w
/-- the slots -/
def SV (m : Sm) (env : Env) (σ : L2.St) : Prop := env.length = σ.length ∧ ∀ (i : Nat) (v : Val), env[i]? = some (some v) → ∃ x, σ[i]? = some (some x) ∧ RD m v x
theorem SV.up {m m' : Sm} (u : Up m m') {env : Env} {σ : L2.St} (h : SV m env σ) : SV m' env σ := ⟨h.1, fun i v e => let ⟨x, h1, h2⟩ := h.2 i v e; ⟨x, h1, h2.up u⟩⟩
theorem SV.get {m : Sm} {env : Env} {σ : L2.St} (h : SV m env σ) {i : Nat} {v : Val} (e : eg env i = some v) : ∃ x, σ[i]? = some (some x) ∧ RD m v x := by
  refine h.2 i v ?_
  rw [eg_eq] at e
  cases q : env[i]? with
  | none => rw [q] at e; cases e
  | some o => rw [q] at e; simp at e; rw [e]
theorem SV.set {m : Sm} {env : Env} {σ : L2.St} (h : SV m env σ) {i : Nat} {v : Val} {x : V} (r : RD m v x) : SV m (es env i (some v)) (σ.set i (some x)) := by
  rw [es_eq]
  refine ⟨by simp [h.1], fun j w e => ?_⟩
  by_cases hj : j = i
  · subst hj
    have hl : j < env.length := by
      have := (List.getElem?_eq_some_iff.mp e).1
      simpa using this
    rw [List.getElem?_set_self hl] at e
    cases e
    exact ⟨x, by rw [List.getElem?_set_self (by rw [← h.1]; exact hl)], r⟩
  · rw [List.getElem?_set_ne (Ne.symm hj)] at e
    rw [List.getElem?_set_ne (Ne.symm hj)]
    exact h.2 j w e
theorem SV.none {m : Sm} {env : Env} {σ : L2.St} (h : SV m env σ) (i : Nat) : SV m (es env i .none) (σ.set i .none) := by
  rw [es_eq]
  refine ⟨by simp [h.1], fun j w e => ?_⟩
  by_cases hj : j = i
  · subst hj
    have hl : j < env.length := by
      have := (List.getElem?_eq_some_iff.mp e).1
      simpa using this
    rw [List.getElem?_set_self hl] at e
    cases e
  · rw [List.getElem?_set_ne (Ne.symm hj)] at e
    rw [List.getElem?_set_ne (Ne.symm hj)]
    exact h.2 j w e
theorem SV.wipe {m : Sm} {env : Env} {σ : L2.St} (h : SV m env σ) : ∀ vs : List Nat, SV m (ewipe env vs) (L2.wipe σ vs)
  | [] => h
  | v :: vs => (SV.wipe h vs).none v

section
variable (P : Pg) (cl : Cl) (k : Nat) (X : Cx) (W : WX)
/-- the readings -/
def tE (e : E) : TE := fun σ H Q => ∃ m env S, m.K = X.K ∧ m.H = H ∧ SH cl m S ∧ SV m env σ ∧ wE P.con (callW P k) (liftX cl X.mg m fun c d H => W c d σ H) e env S (liftQ cl m Q)
def tEs (e : Es) : TA := fun σ H Q => ∃ m env S, m.K = X.K ∧ m.H = H ∧ SH cl m S ∧ SV m env σ ∧ wEs P.con (callW P k) (liftX cl X.mg m fun c d H => W c d σ H) e env S fun vs S' => ∀ m' xs, Ev m m' → SH cl m' S' → RDs m' vs xs → Q xs m'.H
def tTs (e : T) : TT := fun σ H Q => ∃ m env S, m.K = X.K ∧ m.H = H ∧ SH cl m S ∧ SV m env σ ∧ wT P.con (callW P k) (liftX cl X.mg m fun c d H => W c d σ H) e env S fun b S' => ∀ m', Ev m m' → SH cl m' S' → Q b m'.H
def tCs (e : Ot) : TT := fun σ H Q => ∃ m env S, m.K = X.K ∧ m.H = H ∧ SH cl m S ∧ SV m env σ ∧ wC P.con (callW P k) (liftX cl X.mg m fun c d H => W c d σ H) e env S fun b S' => ∀ m', Ev m m' → SH cl m' S' → Q b m'.H
def tOs (e : Oe) : TO := fun σ H Q => ∃ m env S, m.K = X.K ∧ m.H = H ∧ SH cl m S ∧ SV m env σ ∧ wO P.con (callW P k) (liftX cl X.mg m fun c d H => W c d σ H) e env S fun b S' => ∀ m', Ev m m' → SH cl m' S' → Q b m'.H
end
section
variable {P : Pg} {cl : Cl} {k : Nat} {X : Cx} {W : WX} {m m0 : Sm} {env : Env} {S : Hm} {σ : L2.St}
theorem tE_of {e : E} {Q1 : Post} {R : VK} (hK : m.K = X.K) (hS : SH cl m S) (hV : SV m env σ) (e0 : Ev m0 m) (h : wE P.con (callW P k) (liftX cl X.mg m0 fun c d H => W c d σ H) e env S Q1)
    (hq : ∀ m1 x S1 v, Ev m m1 → SH cl m1 S1 → RD m1 v x → SV m1 env σ → Q1 v S1 → R x m1.H) : tE P cl k X W e σ m.H R :=
  ⟨m, env, S, hK, rfl, hS, hV, wE_mono (callW_mono P k) (fun _ _ h1 => liftX.ev e0 h1) e (fun v S1 h1 m1 x e1 hS1 r1 => hq m1 x S1 v e1 hS1 r1 (hV.up (e1.up hS)) h1) h⟩
theorem tEs_of {e : Es} {Q1 : List Val → Hm → Prop} {R : List V → Hp → Prop} (hK : m.K = X.K) (hS : SH cl m S) (hV : SV m env σ) (e0 : Ev m0 m) (h : wEs P.con (callW P k) (liftX cl X.mg m0 fun c d H => W c d σ H) e env S Q1)
    (hq : ∀ m1 x S1 v, Ev m m1 → SH cl m1 S1 → RDs m1 v x → SV m1 env σ → Q1 v S1 → R x m1.H) : tEs P cl k X W e σ m.H R :=
  ⟨m, env, S, hK, rfl, hS, hV, wEs_mono (callW_mono P k) (fun _ _ h1 => liftX.ev e0 h1) e (fun v S1 h1 m1 x e1 hS1 r1 => hq m1 x S1 v e1 hS1 r1 (hV.up (e1.up hS)) h1) h⟩
theorem tTs_of {e : T} {Q1 : Bool → Hm → Prop} {R : Bool → Hp → Prop} (hK : m.K = X.K) (hS : SH cl m S) (hV : SV m env σ) (e0 : Ev m0 m) (h : wT P.con (callW P k) (liftX cl X.mg m0 fun c d H => W c d σ H) e env S Q1)
    (hq : ∀ m1 S1 b, Ev m m1 → SH cl m1 S1 → SV m1 env σ → Q1 b S1 → R b m1.H) : tTs P cl k X W e σ m.H R :=
  ⟨m, env, S, hK, rfl, hS, hV, wT_mono (callW_mono P k) (fun _ _ h1 => liftX.ev e0 h1) e (fun v S1 h1 m1 e1 hS1 => hq m1 S1 v e1 hS1 (hV.up (e1.up hS)) h1) h⟩
theorem tOs_of {e : Oe} {Q1 : Option Int → Hm → Prop} {R : Option Int → Hp → Prop} (hK : m.K = X.K) (hS : SH cl m S) (hV : SV m env σ) (e0 : Ev m0 m) (h : wO P.con (callW P k) (liftX cl X.mg m0 fun c d H => W c d σ H) e env S Q1)
    (hq : ∀ m1 S1 b, Ev m m1 → SH cl m1 S1 → SV m1 env σ → Q1 b S1 → R b m1.H) : tOs P cl k X W e σ m.H R :=
  ⟨m, env, S, hK, rfl, hS, hV, wO_mono (callW_mono P k) (fun _ _ h1 => liftX.ev e0 h1) e (fun v S1 h1 m1 e1 hS1 => hq m1 S1 v e1 hS1 (hV.up (e1.up hS)) h1) h⟩

/-! ### syntax -/
def notStar : Expr → Bool
  | .Starred _ _ => false
  | _ => true
theorem star_cons {e : Expr} {es : List Expr} {env : PySem.Env} (h : notStar e = true) : starEach (e :: es) env = (false, eval e env) :: starEach es env := by
  cases e <;> first | rfl | cases h
theorem star_any {env : PySem.Env} {pos : Pos} : ∀ {es : List Expr}, es.all notStar = true → (backTo pos (starEach es env)).any (·.1) = false
  | [], _ => rfl
  | e :: es, h => by
    rw [List.all_cons, Bool.and_eq_true] at h
    rw [star_cons h.1]
    show (false || (backTo pos (starEach es env)).any (·.1)) = false
    rw [star_any h.2]
    rfl
theorem star_all {env : PySem.Env} {pos : Pos} : ∀ {es : List Expr}, es.all notStar = true → (backTo pos (starEach es env)).all (fun x => !x.1) = true
  | [], _ => rfl
  | e :: es, h => by
    rw [List.all_cons, Bool.and_eq_true] at h
    rw [star_cons h.1]
    show (true && (backTo pos (starEach es env)).all (fun x => !x.1)) = true
    rw [star_all h.2]
    rfl
def notComp : Expr → Bool
  | .ListComp .. => false
  | .SetComp .. => false
  | .DictComp .. => false
  | _ => true
theorem noswap {e : Expr} {t : Option Expr} {l : Nat} {env : PySem.Env} (h : notComp e = true) : swapsWith e t l env = pure false := by
  cases e <;> first | rfl | cases h
/-- no call of a plain name (super) -/
def plainBase : Expr → Bool
  | .Call (.Name _ _) [] [] _ => false
  | _ => true
theorem base_of {e : Expr} {f : Str} {env : PySem.Env} {w : Sem Value} (h : plainBase e = true) : attributeBase e f env w = w := by
  unfold attributeBase
  split
  · cases h
  · rfl
def plainTest : Expr → Bool
  | .UnaryOp .Not _ _ => false
  | .BoolOp .. => false
  | .IfExp .. => false
  | .Compare .. => false
  | _ => true
theorem test_of {e : Expr} {env : PySem.Env} (h : plainTest e = true) : ∀ whole, isTrue e env whole = (do let v ← whole; standAt e.pos; holding [v] (truthy v)) := by
  intro whole
  cases e with
  | UnaryOp op x p => cases op <;> first | rfl | cases h
  | BoolOp op vs p => cases h
  | IfExp a b c p => cases h
  | Compare a b c p => cases h
  | _ => rfl
def plainIx : Expr → Bool
  | .Slice .. => false
  | _ => true
theorem plainIx_of {e : Expr} (h : plainIx e = true) : PlainIx e := by
  intro o i
  cases e <;> first | rfl | cases h
theorem plainAug_of {e : Expr} (h : plainIx e = true) : ∀ ov iv new, augStore e ov iv new = (do holding [new, ov, iv] (setItem ov iv new); release [new, ov, iv] []; pure .next) := by
  intro o i n
  cases e <;> first | rfl | cases h
def plainAsg : Expr → Bool
  | _ => true
theorem folded_of {e : Expr} {env : PySem.Env} (h : (match e with | .Set .. => false | _ => true) = true) : ∀ x, foldedSetIterable e env x = pure x := by
  intro x
  cases e <;> first | rfl | cases h
/-- a method's call -/
theorem meth_eval {o : Expr} {m : Str} {apos pos : Pos} {args : List Expr} {env : PySem.Env} (hb : plainBase o = true) (hs : args.all notStar = true) (hn : args.length < 29) (hl : (apos.endLine == pos.line) = true) :
    eval (.Call (.Attribute o m apos) args [] pos) env = (do
      let ov ← eval o env
      standAt apos.atName
      let (f, first) ← holding [ov] (getMethod ov m (do return (← importBound o env).getD true))
      callWith pos f first (backTo pos (starEach args env)) (backToKw pos (keywordEach [] env))) := by
  have hform : methodCallForm (args.length + ([] : List Keyword).length) (backTo pos (starEach args env)) (backToKw pos (keywordEach [] env)) = true := by
    unfold methodCallForm
    rw [star_all hs]
    show (true && true && decide (args.length + 0 + (if ([] : List Keyword).isEmpty then 0 else 1) < 30)) = true
    simp
    omega
  have hpos : methodCallPos true o env apos pos = pure pos := by unfold methodCallPos; simp [hl]
  rw [arm_eval_Call, base_of hb]
  unfold methodCall
  rw [hform, hpos]
  rfl
end
end Mi

set_option maxHeartbeats 4000000
namespace Mi
open PySem PySem.Spec L2 PyProof.Rows
section
variable {P : Pg} {cl : Cl} {k : Nat} {X : Cx} {W : WX} {sc : Ko}
theorem PT.kf {e : Expr} {t : TT} (h : PT X e t) : PT X e (fun σ H Q => t σ H fun x H' => KF X.K H' → Q x H') := ⟨fun pins s σ H Q I hw => thn (h.run pins s σ H _ I hw) fun _ _ ⟨H', I', q⟩ => ⟨H', I', q (kfree I')⟩⟩
theorem PT.imp {e : Expr} {t t' : TT} (h : PT X e t) (f : ∀ σ H Q, t' σ H Q → t σ H Q) : PT X e t' := ⟨fun pins s σ H Q I hw => h.run pins s σ H Q I (f _ _ _ hw)⟩
theorem PW.imp {e : Expr} {t t' : TT} (h : PW X e t) (f : ∀ σ H Q, t' σ H Q → t σ H Q) : PW X e t' := ⟨fun wh pins s σ H Q I hw => h.run wh pins s σ H Q I (f _ _ _ hw)⟩
theorem PA.imp {e : List Expr} {t t' : TA} (h : PA X e t) (f : ∀ σ H Q, t' σ H Q → t σ H Q) : PA X e t' := ⟨fun pos pins s σ H Q I hw => h.run pos pins s σ H Q I (f _ _ _ hw)⟩
theorem PA.kf {e : List Expr} {t : TA} (h : PA X e t) : PA X e (fun σ H Q => t σ H fun x H' => KF X.K H' → Q x H') := ⟨fun pos pins s σ H Q I hw => thn (h.run pos pins s σ H _ I hw) fun _ _ ⟨v, H', I', r, q⟩ => ⟨v, H', I', r, q (kfree I')⟩⟩
theorem PO.imp {e : Option Expr} {t t' : TO} (h : PO X e t) (f : ∀ σ H Q, t' σ H Q → t σ H Q) : PO X e t' := ⟨fun pins s σ H Q I hw => h.run pins s σ H Q I (f _ _ _ hw)⟩

/-! ### names, constants -/
theorem e_loc {i : Nat} {x : Str} {pos : Pos} (hN : X.N[i]? = some x) (hv : Vis X.env.scope x) (hd : (x == ("__debug__" : Str)) = false) (hcd : (x == ("__classdict__" : Str)) = false) : PE X (.Name x pos) (tE P cl k X W (.loc i)) :=
  PE.imp (PE.kf (pe_var hN hv hd hcd)) fun σ H Q ⟨m, env, S, hK, eH, hS, hV, h⟩ => by
    subst eH
    simp only [wE] at h
    obtain ⟨v, e, h⟩ := h
    obtain ⟨x, e', r⟩ := hV.get e
    exact ⟨x, e', fun _ => stay hS r h⟩
theorem e_lit {c : Lit} {e : Expr} (h : PE X e (tC (litV c))) : PE X e (tE P cl k X W (.lit c)) :=
  PE.imp (PE.kf h) fun σ H Q ⟨m, env, S, hK, eH, hS, hV, h⟩ => by
    subst eH
    simp only [wE] at h
    exact fun _ => stay hS (litV_rd c) h
theorem e_con {x : String} {v : Val} {pos : Pos} (ln : Ln P X.K X.mg cl) (hg : Gl X (Str.ofString x)) (hc : P.con x = some v) (hd : (Str.ofString x == ("__debug__" : Str)) = false) : PE X (.Name (Str.ofString x) pos) (tE P cl k X W (.con x)) := by
  obtain ⟨a, u, h1, h2, h3⟩ := ln.con x v hc
  refine PE.imp (PE.kf (pe_glob hg h1 h2 hd)) fun σ H Q ⟨m, env, S, hK, eH, hS, hV, h⟩ => ?_
  subst eH
  simp only [wE] at h
  obtain ⟨w, e, h⟩ := h
  rw [hc] at e
  cases e
  exact fun _ => stay hS (h3 m hK) h

/-! ### operators -/
variable {a b c o i : E} {ea eb ec eo ei : Expr} {pos : Pos}
theorem e_bin {op : Operator} (ha : PE X ea (tE P cl k X W a)) (hb : PE X eb (tE P cl k X W b)) : PE X (.BinOp ea op eb pos) (tE P cl k X W (.bin op a b)) :=
  PE.imp (pe_op (opr_bin (cl := cl) op) ha hb) fun σ H Q ⟨m, env, S, hK, eH, hS, hV, h⟩ => by
    subst eH
    simp only [wE] at h
    refine tE_of hK hS hV (Ev.refl m) h fun m1 x S1 v e1 hS1 r1 hV1 h1 => ?_
    refine tE_of (e1.k.trans hK) hS1 hV1 e1 h1 fun m2 y S2 w e2 hS2 r2 hV2 h2 => ?_
    exact ⟨m2, S2, v, w, (e1.trans e2).k.trans hK, rfl, hS2, r1.up (e2.up hS1), r2, binW_mono (fun z S3 h3 => liftQ.ev (e1.trans e2) (fun _ _ _ q => q) h3) h2⟩
theorem e_neg (ha : PE X ea (tE P cl k X W a)) : PE X (.UnaryOp .USub ea pos) (tE P cl k X W (.neg a)) :=
  PE.imp (pe_un un_neg ha) fun σ H Q ⟨m, env, S, hK, eH, hS, hV, h⟩ => by
    subst eH
    simp only [wE] at h
    refine tE_of hK hS hV (Ev.refl m) h fun m1 x S1 v e1 hS1 r1 hV1 h1 => ?_
    obtain ⟨i, rfl, h1⟩ := h1
    cases r1
    exact ⟨i, rfl, h1 m1 (.int (-i)) e1 hS1 (.int _)⟩
theorem e_cmp {op : CmpOp} (hu : X.A.units + 65 < cLine) (hm : behindInMarks op eb = false) (ha : PE X ea (tE P cl k X W a)) (hb : PE X eb (tE P cl k X W b)) : PE X (.Compare ea [op] [eb] pos) (tE P cl k X W (.cmp op a b)) :=
  PE.imp (pe_cmpR (opr_cmp (cl := cl) hu op) ha hb hm) fun σ H Q ⟨m, env, S, hK, eH, hS, hV, h⟩ => by
    subst eH
    simp only [wE] at h
    refine tE_of hK hS hV (Ev.refl m) h fun m1 x S1 v e1 hS1 r1 hV1 h1 => ?_
    refine tE_of (e1.k.trans hK) hS1 hV1 e1 h1 fun m2 y S2 w e2 hS2 r2 hV2 h2 => ?_
    exact ⟨m2, S2, v, w, (e1.trans e2).k.trans hK, rfl, hS2, r1.up (e2.up hS1), r2, cmpW_mono (fun z h3 => liftQ.ev (e1.trans e2) (fun _ _ _ q => q) h3) h2⟩
theorem t_cmp {op : CmpOp} (hu : X.A.units + 65 < cLine) (hm : behindInMarks op eb = false) (ha : PE X ea (tE P cl k X W a)) (hb : PE X eb (tE P cl k X W b)) : PT X (.Compare ea [op] [eb] pos) (tTs P cl k X W (.v (.cmp op a b))) :=
  PT.imp (pt_cmpR (opr_cmp (cl := cl) hu op) ha hb hm) fun σ H Q ⟨m, env, S, hK, eH, hS, hV, h⟩ => by
    subst eH
    simp only [wT, wE] at h
    refine tE_of hK hS hV (Ev.refl m) h fun m1 x S1 v e1 hS1 r1 hV1 h1 => ?_
    refine tE_of (e1.k.trans hK) hS1 hV1 e1 h1 fun m2 y S2 w e2 hS2 r2 hV2 h2 => ?_
    refine ⟨m2, S2, v, w, (e1.trans e2).k.trans hK, rfl, hS2, r1.up (e2.up hS1), r2, cmpW_mono (fun z h3 => ?_) h2⟩
    obtain ⟨d, e, h3⟩ := h3
    cases e
    exact fun m' x e hS r => by cases r; exact ⟨_, rfl, h3 m' ((e1.trans e2).trans e) hS⟩
theorem chain_of {op op' : CmpOp} {σ : L2.St} {m : Sm} {env : Env} {S : Hm} {Q1 : Post} {Q : VK} (hK : m.K = X.K) (hS : SH cl m S) (hV : SV m env σ) (hq : ∀ m' b S', Ev m m' → SH cl m' S' → Q1 (.bl b) S' → Q (.bl b) m'.H)
    (h : wE P.con (callW P k) (liftX cl X.mg m fun c d H => W c d σ H) (.cmp2 op op' a b c) env S Q1) :
    tChain (r2 X cl fun v w S Q => cmpW op v w S fun b => Q (.bl b) S) (r2 X cl fun v w S Q => cmpW op' v w S fun b => Q (.bl b) S) (tE P cl k X W a) (tE P cl k X W b) (tE P cl k X W c) σ m.H Q := by
  simp only [wE] at h
  refine tE_of hK hS hV (Ev.refl m) h fun m1 x S1 v e1 hS1 r1 hV1 h1 => ?_
  refine tE_of (e1.k.trans hK) hS1 hV1 e1 h1 fun m2 y S2 w e2 hS2 r2 hV2 h2 => ?_
  refine ⟨m2, S2, v, w, (e1.trans e2).k.trans hK, rfl, hS2, r1.up (e2.up hS1), r2, cmpW_mono (fun z h3 => ?_) h2⟩
  intro m3 x3 e3 hS3 r3
  cases r3
  refine ⟨z, rfl, ?_⟩
  have e123 := (e1.trans e2).trans e3
  cases z with
  | false =>
    simp only [Bool.false_eq_true, if_false] at h3 ⊢
    exact hq m3 false _ e123 hS3 h3
  | true =>
    simp only [if_true] at h3 ⊢
    refine tE_of (e123.k.trans hK) hS3 (hV2.up (e3.up hS2)) e123 h3 fun m4 y4 S4 w4 e4 hS4 r4 hV4 h4 => ?_
    exact ⟨m4, S4, w, w4, (e123.trans e4).k.trans hK, rfl, hS4, r2.up ((e3.trans e4).up hS2), r4, cmpW_mono (fun z h5 m5 x5 e5 hS5 r5 => by cases r5; exact hq m5 z _ ((e123.trans e4).trans e5) hS5 h5) h4⟩
theorem e_cmp2 {op op' : CmpOp} (hu : X.A.units + 65 < cLine) (hm : lastMarks [op, op'] [eb, ec] = false) (ha : PE X ea (tE P cl k X W a)) (hb : PE X eb (tE P cl k X W b)) (hc : PE X ec (tE P cl k X W c)) : PE X (.Compare ea [op, op'] [eb, ec] pos) (tE P cl k X W (.cmp2 op op' a b c)) :=
  PE.imp (pe_chain (opr_cmp (cl := cl) hu op) (opr_cmp (cl := cl) hu op') ha hb hc hm) fun σ H Q ⟨m, env, S, hK, eH, hS, hV, h⟩ => by
    subst eH
    exact chain_of hK hS hV (fun m' b S' e hS' h => h m' _ e hS' (.bl b)) h
theorem t_cmp2 {op op' : CmpOp} (hu : X.A.units + 65 < cLine) (hm : lastMarks [op, op'] [eb, ec] = false) (ha : PE X ea (tE P cl k X W a)) (hb : PE X eb (tE P cl k X W b)) (hc : PE X ec (tE P cl k X W c)) : PT X (.Compare ea [op, op'] [eb, ec] pos) (tTs P cl k X W (.v (.cmp2 op op' a b c))) :=
  PT.imp (pt_chain (opr_cmp (cl := cl) hu op) (opr_cmp (cl := cl) hu op') ha hb hc hm) fun σ H Q ⟨m, env, S, hK, eH, hS, hV, h⟩ => by
    subst eH
    simp only [wT] at h
    refine chain_of hK hS hV (fun m' b S' e hS' h => ?_) h
    obtain ⟨d, e1, h1⟩ := h
    simp [truth] at e1
    subst e1
    exact ⟨_, rfl, h1 m' e hS'⟩
theorem e_isN {j pos'} (ha : PE X ea (tE P cl k X W a)) : PE X (.Compare ea [.Is] [.Constant .none j pos'] pos) (tE P cl k X W (.isN a)) :=
  PE.imp (pe_cmp (pc_isN ha) rfl) fun σ H Q ⟨m, env, S, hK, eH, hS, hV, h⟩ => by
    subst eH
    simp only [wE] at h
    refine tE_of hK hS hV (Ev.refl m) h fun m1 x S1 v e1 hS1 r1 hV1 h1 => ?_
    have := h1 m1 _ e1 hS1 (.bl _)
    cases r1 <;> simpa using this
theorem e_notN {j pos'} (ha : PE X ea (tE P cl k X W a)) : PE X (.Compare ea [.IsNot] [.Constant .none j pos'] pos) (tE P cl k X W (.notN a)) :=
  PE.imp (pe_cmp (pc_notN ha) rfl) fun σ H Q ⟨m, env, S, hK, eH, hS, hV, h⟩ => by
    subst eH
    simp only [wE] at h
    refine tE_of hK hS hV (Ev.refl m) h fun m1 x S1 v e1 hS1 r1 hV1 h1 => ?_
    have := h1 m1 _ e1 hS1 (.bl _)
    cases r1 <;> simpa using this
theorem t_isN {j pos'} (ha : PE X ea (tE P cl k X W a)) : PT X (.Compare ea [.Is] [.Constant .none j pos'] pos) (tTs P cl k X W (.v (.isN a))) :=
  PT.imp (pt_cmp (pc_isN ha) rfl) fun σ H Q ⟨m, env, S, hK, eH, hS, hV, h⟩ => by
    subst eH
    simp only [wT, wE] at h
    refine tE_of hK hS hV (Ev.refl m) h fun m1 x S1 v e1 hS1 r1 hV1 h1 => ?_
    obtain ⟨d, e, h1⟩ := h1
    have := h1 m1 e1 hS1
    simp [truth] at e
    subst e
    cases r1 <;> exact ⟨_, rfl, by simpa using this⟩
theorem t_notN {j pos'} (ha : PE X ea (tE P cl k X W a)) : PT X (.Compare ea [.IsNot] [.Constant .none j pos'] pos) (tTs P cl k X W (.v (.notN a))) :=
  PT.imp (pt_cmp (pc_notN ha) rfl) fun σ H Q ⟨m, env, S, hK, eH, hS, hV, h⟩ => by
    subst eH
    simp only [wT, wE] at h
    refine tE_of hK hS hV (Ev.refl m) h fun m1 x S1 v e1 hS1 r1 hV1 h1 => ?_
    obtain ⟨d, e, h1⟩ := h1
    have := h1 m1 e1 hS1
    simp [truth] at e
    subst e
    cases r1 <;> exact ⟨_, rfl, by simpa using this⟩
theorem e_isB {b : Bool} {j pos'} (ha : PE X ea (tE P cl k X W a)) : PE X (.Compare ea [.Is] [.Constant (.bool b) j pos'] pos) (tE P cl k X W (.isB a b)) :=
  PE.imp (pe_cmpR (op_is_bl (X := X)) ha (pe_bl (X := X)) rfl) fun σ H Q ⟨m, env, S, hK, eH, hS, hV, h⟩ => by
    subst eH
    simp only [wE] at h
    refine tE_of hK hS hV (Ev.refl m) h fun m1 x S1 v e1 hS1 r1 hV1 h1 => ?_
    obtain ⟨d, rfl, h1⟩ := h1
    cases r1
    have := h1 m1 _ e1 hS1 (.bl _)
    exact ⟨d, b, rfl, rfl, by rw [← Bool.beq_eq_decide_eq]; exact this⟩
theorem t_isB {b : Bool} {j pos'} (ha : PE X ea (tE P cl k X W a)) : PT X (.Compare ea [.Is] [.Constant (.bool b) j pos'] pos) (tTs P cl k X W (.v (.isB a b))) :=
  PT.imp (pt_cmpR (op_is_bl (X := X)) ha (pe_bl (X := X)) rfl) fun σ H Q ⟨m, env, S, hK, eH, hS, hV, h⟩ => by
    subst eH
    simp only [wT, wE] at h
    refine tE_of hK hS hV (Ev.refl m) h fun m1 x S1 v e1 hS1 r1 hV1 h1 => ?_
    obtain ⟨d, rfl, d', e, h1⟩ := h1
    cases r1
    have := h1 m1 e1 hS1
    simp [truth] at e
    subst e
    exact ⟨d, b, rfl, rfl, _, by rw [← Bool.beq_eq_decide_eq], this⟩

theorem e_isnB {b : Bool} {j pos'} (ha : PE X ea (tE P cl k X W a)) : PE X (.Compare ea [.IsNot] [.Constant (.bool b) j pos'] pos) (tE P cl k X W (.not (.isB a b))) :=
  PE.imp (pe_cmpR (op_isnot_bl (X := X)) ha (pe_bl (X := X)) rfl) fun σ H Q ⟨m, env, S, hK, eH, hS, hV, h⟩ => by
    subst eH
    simp only [wE] at h
    refine tE_of hK hS hV (Ev.refl m) h fun m1 x S1 v e1 hS1 r1 hV1 h1 => ?_
    obtain ⟨d, rfl, d', e, h1⟩ := h1
    cases r1
    cases e
    have := h1 m1 _ e1 hS1 (.bl _)
    exact ⟨d, b, rfl, rfl, by rw [← Bool.beq_eq_decide_eq]; exact this⟩
theorem t_isnB {b : Bool} {j pos'} (ha : PE X ea (tE P cl k X W a)) : PT X (.Compare ea [.IsNot] [.Constant (.bool b) j pos'] pos) (tTs P cl k X W (.v (.not (.isB a b)))) :=
  PT.imp (pt_cmpR (op_isnot_bl (X := X)) ha (pe_bl (X := X)) rfl) fun σ H Q ⟨m, env, S, hK, eH, hS, hV, h⟩ => by
    subst eH
    simp only [wT, wE] at h
    refine tE_of hK hS hV (Ev.refl m) h fun m1 x S1 v e1 hS1 r1 hV1 h1 => ?_
    obtain ⟨d, rfl, d', e', d2, e, h1⟩ := h1
    cases r1
    cases e'
    have := h1 m1 e1 hS1
    simp [truth] at e
    exact ⟨d, b, rfl, rfl, d2, by rw [← Bool.beq_eq_decide_eq, e]; simp, this⟩

/-! ### and, or, not, if -/
theorem e_not (ha : PE X ea (tE P cl k X W a)) : PE X (.UnaryOp .Not ea pos) (tE P cl k X W (.not a)) :=
  PE.imp (pe_not ha) fun σ H Q ⟨m, env, S, hK, eH, hS, hV, h⟩ => by
    subst eH
    simp only [wE] at h
    refine tE_of hK hS hV (Ev.refl m) h fun m1 x S1 v e1 hS1 r1 hV1 h1 => ?_
    obtain ⟨d, rfl, h1⟩ := h1
    cases r1
    exact ⟨d, rfl, h1 m1 _ e1 hS1 (.bl _)⟩
theorem and_of {R : VK} {σ : L2.St} {m : Sm} {env : Env} {S : Hm} {Q1 : Post} (hK : m.K = X.K) (hS : SH cl m S) (hV : SV m env σ) (hq : ∀ m' x v S', Ev m m' → SH cl m' S' → RD m' v x → Q1 v S' → R x m'.H)
    (h : wE P.con (callW P k) (liftX cl X.mg m fun c d H => W c d σ H) (.and a b) env S Q1) : tAndV (tE P cl k X W a) (tE P cl k X W b) σ m.H R := by
  simp only [wE] at h
  refine tE_of hK hS hV (Ev.refl m) h fun m1 x S1 v e1 hS1 r1 hV1 h1 => ?_
  obtain ⟨d, rfl, h1⟩ := h1
  cases r1
  refine ⟨d, rfl, ?_⟩
  cases d with
  | false =>
    simp only [Bool.false_eq_true, if_false] at h1 ⊢
    exact hq m1 _ _ _ e1 hS1 (.bl _) h1
  | true =>
    simp only [if_true] at h1 ⊢
    exact tE_of (e1.k.trans hK) hS1 hV1 e1 h1 fun m2 y S2 w e2 hS2 r2 hV2 h2 => hq m2 _ _ _ (e1.trans e2) hS2 r2 h2
theorem or_of {R : VK} {σ : L2.St} {m : Sm} {env : Env} {S : Hm} {Q1 : Post} (hK : m.K = X.K) (hS : SH cl m S) (hV : SV m env σ) (hq : ∀ m' x v S', Ev m m' → SH cl m' S' → RD m' v x → Q1 v S' → R x m'.H)
    (h : wE P.con (callW P k) (liftX cl X.mg m fun c d H => W c d σ H) (.or a b) env S Q1) : tOrV (tE P cl k X W a) (tE P cl k X W b) σ m.H R := by
  simp only [wE] at h
  refine tE_of hK hS hV (Ev.refl m) h fun m1 x S1 v e1 hS1 r1 hV1 h1 => ?_
  obtain ⟨d, rfl, h1⟩ := h1
  cases r1
  refine ⟨d, rfl, ?_⟩
  cases d with
  | true =>
    simp only [if_true] at h1 ⊢
    exact hq m1 _ _ _ e1 hS1 (.bl _) h1
  | false =>
    simp only [Bool.false_eq_true, if_false] at h1 ⊢
    exact tE_of (e1.k.trans hK) hS1 hV1 e1 h1 fun m2 y S2 w e2 hS2 r2 hV2 h2 => hq m2 _ _ _ (e1.trans e2) hS2 r2 h2
variable {rest : List Expr}
theorem e_and (ha : PE X ea (tE P cl k X W a)) (hb : PE X (.BoolOp .And (eb :: rest) pos) (tE P cl k X W b)) : PE X (.BoolOp .And (ea :: eb :: rest) pos) (tE P cl k X W (.and a b)) :=
  PE.imp (pe_and ha hb) fun σ H Q ⟨m, env, S, hK, eH, hS, hV, h⟩ => by
    subst eH
    exact and_of hK hS hV (fun m' x v S' e hS' r h => h m' x e hS' r) h
theorem e_or (ha : PE X ea (tE P cl k X W a)) (hb : PE X (.BoolOp .Or (eb :: rest) pos) (tE P cl k X W b)) : PE X (.BoolOp .Or (ea :: eb :: rest) pos) (tE P cl k X W (.or a b)) :=
  PE.imp (pe_or ha hb) fun σ H Q ⟨m, env, S, hK, eH, hS, hV, h⟩ => by
    subst eH
    exact or_of hK hS hV (fun m' x v S' e hS' r h => h m' x e hS' r) h
theorem e_ite {c : T} (hc : PT X ec (tTs P cl k X W c)) (ha : PE X ea (tE P cl k X W a)) (hb : PE X eb (tE P cl k X W b)) : PE X (.IfExp ec ea eb pos) (tE P cl k X W (.ite c a b)) :=
  PE.imp (pe_ifExp hc ha hb) fun σ H Q ⟨m, env, S, hK, eH, hS, hV, h⟩ => by
    subst eH
    simp only [wE] at h
    refine tTs_of hK hS hV (Ev.refl m) h fun m1 S1 d e1 hS1 hV1 h1 => ?_
    cases d with
    | false =>
      simp only [Bool.false_eq_true, if_false] at h1 ⊢
      exact tE_of (e1.k.trans hK) hS1 hV1 e1 h1 fun m2 y S2 w e2 hS2 r2 hV2 h2 => h2 m2 _ (e1.trans e2) hS2 r2
    | true =>
      simp only [if_true] at h1 ⊢
      exact tE_of (e1.k.trans hK) hS1 hV1 e1 h1 fun m2 y S2 w e2 hS2 r2 hV2 h2 => h2 m2 _ (e1.trans e2) hS2 r2

/-! ### tests -/
theorem t_val (ha : PE X ea (tE P cl k X W a)) (hp : plainTest ea = true) : PT X ea (tTs P cl k X W (.v a)) :=
  PT.imp (pt_truth ha (test_of hp)) fun σ H Q ⟨m, env, S, hK, eH, hS, hV, h⟩ => by
    subst eH
    simp only [wT] at h
    refine tE_of hK hS hV (Ev.refl m) h fun m1 x S1 v e1 hS1 r1 hV1 h1 => ?_
    obtain ⟨d, e, h1⟩ := h1
    exact ⟨d, truth_rd hS1 (e1.k.trans hK) r1 e, h1 m1 e1 hS1⟩
variable {ta tb : T}
theorem t_not (ha : PT X ea (tTs P cl k X W ta)) : PT X (.UnaryOp .Not ea pos) (tTs P cl k X W (.not ta)) :=
  PT.imp (pt_not ha) fun σ H Q ⟨m, env, S, hK, eH, hS, hV, h⟩ => by
    subst eH
    simp only [wT] at h
    exact tTs_of hK hS hV (Ev.refl m) h fun m1 S1 d e1 hS1 hV1 h1 => h1 m1 e1 hS1
theorem t_and1 (ha : PT X ea (tTs P cl k X W ta)) : PW X (.BoolOp .And [ea] pos) (tTs P cl k X W ta) := pw_and1 ha
theorem t_or1 (ha : PT X ea (tTs P cl k X W ta)) : PW X (.BoolOp .Or [ea] pos) (tTs P cl k X W ta) := pw_or1 ha
theorem t_and (ha : PT X ea (tTs P cl k X W ta)) (hb : PW X (.BoolOp .And (eb :: rest) pos) (tTs P cl k X W tb)) : PW X (.BoolOp .And (ea :: eb :: rest) pos) (tTs P cl k X W (.and ta tb)) :=
  PW.imp (pw_and ha hb) fun σ H Q ⟨m, env, S, hK, eH, hS, hV, h⟩ => by
    subst eH
    simp only [wT] at h
    refine tTs_of hK hS hV (Ev.refl m) h fun m1 S1 d e1 hS1 hV1 h1 => ?_
    cases d with
    | false =>
      simp only [Bool.false_eq_true, if_false] at h1 ⊢
      exact h1 m1 e1 hS1
    | true =>
      simp only [if_true] at h1 ⊢
      exact tTs_of (e1.k.trans hK) hS1 hV1 e1 h1 fun m2 S2 w e2 hS2 hV2 h2 => h2 m2 (e1.trans e2) hS2
theorem t_or (ha : PT X ea (tTs P cl k X W ta)) (hb : PW X (.BoolOp .Or (eb :: rest) pos) (tTs P cl k X W tb)) : PW X (.BoolOp .Or (ea :: eb :: rest) pos) (tTs P cl k X W (.or ta tb)) :=
  PW.imp (pw_or ha hb) fun σ H Q ⟨m, env, S, hK, eH, hS, hV, h⟩ => by
    subst eH
    simp only [wT] at h
    refine tTs_of hK hS hV (Ev.refl m) h fun m1 S1 d e1 hS1 hV1 h1 => ?_
    cases d with
    | true =>
      simp only [if_true] at h1 ⊢
      exact h1 m1 e1 hS1
    | false =>
      simp only [Bool.false_eq_true, if_false] at h1 ⊢
      exact tTs_of (e1.k.trans hK) hS1 hV1 e1 h1 fun m2 S2 w e2 hS2 hV2 h2 => h2 m2 (e1.trans e2) hS2
theorem t_ite {c : T} (hc : PT X ec (tTs P cl k X W c)) (ha : PT X ea (tTs P cl k X W (.v a))) (hb : PT X eb (tTs P cl k X W (.v b))) : True := True.intro

/-! ### lists of expressions, displays -/
variable {es' : Es} {xs : List Expr}
theorem a_nil : PA X [] (tEs P cl k X W .nil) :=
  PA.imp pa_nil fun σ H Q ⟨m, env, S, hK, eH, hS, hV, h⟩ => by
    subst eH
    simp only [wEs] at h
    exact h m [] (Ev.refl m) hS .nil
theorem a_cons (ha : PE X ea (tE P cl k X W a)) (hs : notStar ea = true) (hr : PA X xs (tEs P cl k X W es')) : PA X (ea :: xs) (tEs P cl k X W (.cons a es')) :=
  PA.imp (pa_cons ha hr (star_cons hs)) fun σ H Q ⟨m, env, S, hK, eH, hS, hV, h⟩ => by
    subst eH
    simp only [wEs] at h
    refine tE_of hK hS hV (Ev.refl m) h fun m1 x S1 v e1 hS1 r1 hV1 h1 => ?_
    refine tEs_of (e1.k.trans hK) hS1 hV1 e1 h1 fun m2 y S2 w e2 hS2 r2 hV2 h2 => ?_
    exact h2 m2 _ (e1.trans e2) hS2 (.cons (r1.up (e2.up hS1)) r2)
theorem e_tup {kk} (ha : PA X xs (tEs P cl k X W es')) : PE X (.Tuple xs kk pos) (tE P cl k X W (.tup es')) :=
  PE.imp (PE.kf (pe_tup ha)) fun σ H Q ⟨m, env, S, hK, eH, hS, hV, h⟩ => by
    subst eH
    simp only [wE] at h
    refine tEs_of hK hS hV (Ev.refl m) h fun m1 x S1 v e1 hS1 r1 hV1 h1 => ?_
    exact ⟨by rw [← r1.length]; exact h1.1, fun p hp kf => mk_tup hS1 r1 hp (by rw [e1.k, hK]; exact kf) (liftQ.ev e1 (fun _ _ _ q => q) h1.2)⟩
theorem e_lst (ha : PA X xs (tEs P cl k X W es')) : PE X (.List xs pos) (tE P cl k X W (.lst es')) :=
  PE.imp (PE.kf (pe_lst ha)) fun σ H Q ⟨m, env, S, hK, eH, hS, hV, h⟩ => by
    subst eH
    simp only [wE] at h
    refine tEs_of hK hS hV (Ev.refl m) h fun m1 x S1 v e1 hS1 r1 hV1 h1 => ?_
    exact ⟨by rw [← r1.length]; exact h1.1, fun p hp kf => mk_lst hS1 r1 hp (by rw [e1.k, hK]; exact kf) (liftQ.ev e1 (fun _ _ _ q => q) h1.2)⟩
end
end Mi

set_option maxHeartbeats 2000000
namespace Mi
open PySem PySem.Spec L2 PyProof.Rows
/-! MiKe: tables of kinds: made, asked, added to -/
theorem nk_inj : ∀ (n : Nat) {v u : Val}, kOk n v = true → kOk n u = true → nk n v = nk n u → v = u
  | n, .str x, .str y, _, _, e => by
    have : NestedKey.text (Str.ofString x) = .text (Str.ofString y) := by cases n <;> simpa [nk] using e
    injection this with this
    rw [ofString_inj this]
  | 0, .str _, .tup _, _, h, _ => by simp [kOk] at h
  | 0, .tup _, _, h, _, _ => by simp [kOk] at h
  | n + 1, .str _, .tup _, _, _, e => by simp [nk] at e
  | n + 1, .tup _, .str _, _, _, e => by simp [nk] at e
  | n + 1, .tup xs, .tup ys, h, h', e => by
    rw [kOk, List.all_eq_true] at h h'
    simp only [nk] at e
    injection e with e
    have : ∀ (xs ys : List Val), (∀ x ∈ xs, kOk n x = true) → (∀ y ∈ ys, kOk n y = true) → xs.map (nk n) = ys.map (nk n) → xs = ys := by
      intro xs
      induction xs with
      | nil => intro ys _ _ e; cases ys with
        | nil => rfl
        | cons y ys => cases e
      | cons x xs ih =>
        intro ys h1 h2 e
        cases ys with
        | nil => cases e
        | cons y ys =>
          simp only [List.map_cons, List.cons.injEq] at e
          rw [nk_inj n (h1 x List.mem_cons_self) (h2 y List.mem_cons_self) e.1, ih ys (fun z hz => h1 z (List.mem_cons_of_mem _ hz)) (fun z hz => h2 z (List.mem_cons_of_mem _ hz)) e.2]
    rw [this xs ys h h' e]
  | _, .non, _, h, _, _ => by simp [kOk] at h
  | _, .bl _, _, h, _, _ => by simp [kOk] at h
  | _, .int _, _, h, _, _ => by simp [kOk] at h
  | _, .ref _, _, h, _, _ => by simp [kOk] at h
  | _, .exc _, _, h, _, _ => by simp [kOk] at h
  | _, .str _, .non, _, h, _ => by simp [kOk] at h
  | _, .str _, .bl _, _, h, _ => by simp [kOk] at h
  | _, .str _, .int _, _, h, _ => by simp [kOk] at h
  | _, .str _, .ref _, _, h, _ => by simp [kOk] at h
  | _, .str _, .exc _, _, h, _ => by simp [kOk] at h
  | _ + 1, .tup _, .non, _, h, _ => by simp [kOk] at h
  | _ + 1, .tup _, .bl _, _, h, _ => by simp [kOk] at h
  | _ + 1, .tup _, .int _, _, h, _ => by simp [kOk] at h
  | _ + 1, .tup _, .ref _, _, h, _ => by simp [kOk] at h
  | _ + 1, .tup _, .exc _, _, h, _ => by simp [kOk] at h
section
variable {X : Cx} {pins : List (Addr × Obj)} {σ : L2.St} {s : Shared} {m : Sm} {cl : Cl}
theorem nst_all {h : Heap} {n : Nat} (ih : ∀ {v : Val} {x : V} {u : Value}, kOk n v = true → RD m v x → RelV x u → NestedIs h (nk n v) u) : ∀ {xs : List Val} {vs : List V} {its : List Value}, (∀ x ∈ xs, kOk n x = true) → RDs m xs vs → Vals vs its → NestedAll h (xs.map (nk n)) its
  | _, _, _, _, .nil, .nil => .nil
  | _, _, _, h, .cons h1 hs, .cons r1 r2 => .cons (ih (h _ List.mem_cons_self) h1 r1) (nst_all ih (fun x hx => h x (List.mem_cons_of_mem _ hx)) hs r2)
theorem set_self {S : Hm} {n : Nat} {o : Ob} (h : S[n]? = some o) : S.set n o = S := by
  refine List.ext_getElem? fun i => ?_
  by_cases hi : i = n
  · subst hi
    rw [List.getElem?_set_self (List.getElem?_eq_some_iff.mp h).1, h]
  · rw [List.getElem?_set_ne (Ne.symm hi)]
theorem nst (hK : m.K = X.K) (I : Inv X pins σ m.H s) : ∀ (n : Nat) {v : Val} {x : V} {u : Value}, kOk n v = true → RD m v x → RelV x u → NestedIs s.heap (nk n v) u
  | n, .str y, _, _, _, .str _, r => by
    obtain ⟨t, rfl⟩ := r
    cases n <;> exact .text _ _
  | n + 1, .tup xs, _, _, h, .tup hq hs, r => by
    rw [kOk, List.all_eq_true] at h
    rw [hK] at hq
    obtain ⟨its, o, z, hv, hg, hc, hd⟩ := sqT_at I.hok I.kIn hq
    cases (show _ = Value.ref _ from r)
    rw [nk]
    refine .tup hg hc hd ?_
    rw [List.toList_toArray]
    exact nst_all (fun h1 r1 r2 => nst hK I n h1 r1 r2) h hs hv
  | 0, .tup xs, _, _, h, _, _ => by simp [kOk] at h
  | _, .non, _, _, h, _, _ => by simp [kOk] at h
  | _, .bl _, _, _, h, _, _ => by simp [kOk] at h
  | _, .int _, _, _, h, _, _ => by simp [kOk] at h
  | _, .ref _, _, _, h, _, _ => by simp [kOk] at h
  | _, .exc _, _, _, h, _, _ => by simp [kOk] at h
theorem kdv_of {v : Val} {x : V} {u : Value} (h : kOk 8 v = true) (rd : RD m v x) (r : RelV x u) : (∃ y t, u = .str y t) ∨ ∃ a, u = .ref a := by
  cases rd with
  | str y => obtain ⟨t, rfl⟩ := r; exact .inl ⟨_, _, rfl⟩
  | tup _ _ => cases (show _ = Value.ref _ from r); exact .inr ⟨_, rfl⟩
  | _ => simp [kOk] at h
theorem kes_of {fs : List (String × Val)} {es : List (V × NestedKey)} {arr : Array DictEntry} {w : World} (hK : m.K = X.K) (I : Inv X pins σ m.H s) (g : KdR m fs es) (hp : Paired (fun (p : V × NestedKey) (e : Value × Int) => RelV p.1 e.1 ∧ e.2 = p.2.hash w) es (arr.toList.map keyH)) : KEs w s.heap arr (fs.map fun p => nk 8 p.2) := by
  have hlen : arr.size = fs.length := by
    rw [Paired.length g.rd, Paired.length hp, List.length_map, Array.length_toList]
  refine ⟨by rw [List.length_map, hlen], fun i e hi => ?_, ?_⟩
  · have hil : i < fs.length := by rw [← hlen]; exact (Array.getElem?_eq_some_iff.mp hi).1
    obtain ⟨q, e1, e2, e3, e4⟩ := paired_get g.rd (List.getElem?_eq_getElem hil)
    obtain ⟨z, z1, z2, z3⟩ := paired_get hp e1
    rw [List.getElem?_map, Array.getElem?_toList, hi] at z1
    cases z1
    refine ⟨nk 8 fs[i].2, by rw [List.getElem?_map, List.getElem?_eq_getElem hil]; rfl, nst hK I 8 e3 e2 z2, ?_, nk_depth 8 e3⟩
    rw [← e4]
    exact z3
  · have h := g.nd
    have hk : ∀ p ∈ fs, kOk 8 p.2 = true := fun p hp => by
      obtain ⟨i, hi⟩ := List.getElem?_of_mem hp
      obtain ⟨q, _, _, h, _⟩ := paired_get g.rd hi
      exact h
    clear hlen hp g
    induction fs with
    | nil => exact List.nodup_nil
    | cons p r ih =>
      rw [List.map_cons, List.nodup_cons] at h ⊢
      refine ⟨fun z => h.1 ?_, ih h.2 fun q hq => hk q (List.mem_cons_of_mem _ hq)⟩
      obtain ⟨q, hq, e⟩ := List.mem_map.mp z
      rw [nk_inj 8 (hk p List.mem_cons_self) (hk q (List.mem_cons_of_mem _ hq)) e.symm]
      exact List.mem_map.mpr ⟨q, hq, rfl⟩
theorem kd_mem {fs : List (String × Val)} {es : List (V × NestedKey)} {v : Val} (g : KdR m fs es) (hv : kOk 8 v = true) : nk 8 v ∈ (fs.map fun p => nk 8 p.2) ↔ ∃ p ∈ fs, p.2 = v := by
  rw [List.mem_map]
  refine ⟨fun ⟨p, hp, e⟩ => ⟨p, hp, ?_⟩, fun ⟨p, hp, e⟩ => ⟨p, hp, by rw [e]⟩⟩
  obtain ⟨i, hi⟩ := List.getElem?_of_mem hp
  obtain ⟨q, _, _, h, _⟩ := paired_get g.rd hi
  exact nk_inj 8 h hv e
/-- {}, a table of kinds -/
theorem pe_knew {pos : Pos} : PE X (.Dict [] [] pos) (fun _ H Q => ∀ p, H p = none → Q (.ref p) (upd H p (.ext (KdAt X.w p [])))) := ⟨fun pins s σ H Q I h =>
  wpAny_Dict_empty ⟨.ref s.heap.objs.size, _, I.laid (a := s.heap.objs.size) (o := .ext (KdAt X.w s.heap.objs.size [])) (t' := s.toks) (fun _ _ q => Heap.get?_push_of_some _ q) (Nat.le_refl _)
    ⟨⟨beq_eq_false_iff_ne.mpr (Ne.symm (Nat.ne_of_lt I.big)), _, #[], 0, Heap.get?_push_size _ rfl, ⟨rfl, rfl, rfl⟩, rfl, .nil⟩, ⟨_, Heap.get?_push_size _ rfl⟩, KdAt.stay⟩, rfl, h _ (I.hok.fresh (Nat.le_refl _))⟩⟩
theorem opr_kin (hu : X.A.units + 65 < cLine) (hw : cl.w = X.w) : OpR X (compareOp .In) (r2 X cl fun v w S Q => ∃ n fs, w = .ref n ∧ S[n]? = some (.lck (.ins "{}" fs)) ∧ kOk 8 v = true ∧ ∀ b, (b = true ↔ ∃ p ∈ fs, p.2 = v) → Q (.bl b) S) := by
  intro pins s σ H x y v u Q I rx ry h
  obtain ⟨m, S, a, b, hK, rfl, hS, ra, rb, n, fs, rfl, hn, hk, h⟩ := h
  cases rb with
  | @ref _ a' ha =>
  rcases hS.ob n _ a' hn ha with ⟨z, _⟩ | ⟨_, es, q, g⟩
  · exact absurd rfl z
  rw [hw] at q
  obtain ⟨⟨hsm, o, arr, ep, hg, hc, hd, hp⟩, _⟩ := I.hok a' _ q
  cases (show u = Value.ref a' from ry)
  refine kd_in (by omega) hg hc hd (kes_of hK I g hp) hsm (nst hK I 8 hk ra rx) (nk_depth 8 hk) (kdv_of hk ra rx) fun r hr => ?_
  rw [kd_mem g hk] at hr
  exact ⟨.bl _, m.H, I.tok _, rfl, stay hS (.bl _) (h r hr)⟩
theorem opr_knin (hu : X.A.units + 65 < cLine) (hw : cl.w = X.w) : OpR X (compareOp .NotIn) (r2 X cl fun v w S Q => ∃ n fs, w = .ref n ∧ S[n]? = some (.lck (.ins "{}" fs)) ∧ kOk 8 v = true ∧ ∀ b, (b = true ↔ ∃ p ∈ fs, p.2 = v) → Q (.bl (!b)) S) := by
  intro pins s σ H x y v u Q I rx ry h
  obtain ⟨m, S, a, b, hK, rfl, hS, ra, rb, n, fs, rfl, hn, hk, h⟩ := h
  cases rb with
  | @ref _ a' ha =>
  rcases hS.ob n _ a' hn ha with ⟨z, _⟩ | ⟨_, es, q, g⟩
  · exact absurd rfl z
  rw [hw] at q
  obtain ⟨⟨hsm, o, arr, ep, hg, hc, hd, hp⟩, _⟩ := I.hok a' _ q
  cases (show u = Value.ref a' from ry)
  refine kd_notIn (by omega) hg hc hd (kes_of hK I g hp) hsm (nst hK I 8 hk ra rx) (nk_depth 8 hk) (kdv_of hk ra rx) fun r hr => ?_
  rw [kd_mem g hk] at hr
  exact ⟨.bl _, m.H, I.tok _, rfl, stay hS (.bl _) (h r hr)⟩
theorem paired_snoc {α β : Type} {F : α → β → Prop} {a : α} {b : β} : ∀ {l : List α} {r : List β}, Paired F l r → F a b → Paired F (l ++ [a]) (r ++ [b])
  | _, _, .nil, h => .cons h .nil
  | _, _, .cons x t, h => .cons x (paired_snoc t h)
theorem set_kd (hu : X.A.units + 65 < cLine) (hw : cl.w = X.w) : PSet X (fun o i v H Q => ∃ m S n fs b c, m.K = X.K ∧ m.H = H ∧ SH cl m S ∧ RD m (.ref n) o ∧ RD m b i ∧ RD m c v ∧ S[n]? = some (.lck (.ins "{}" fs)) ∧ kOk 8 b = true ∧ fs.length < sizeLine ∧
    ((∃ p ∈ fs, p.2 = b) → ∀ m', Ev m m' → SH cl m' S → Q m'.H) ∧ ((¬ ∃ p ∈ fs, p.2 = b) → ∀ m', Ev m m' → SH cl m' (S.set n (.lck (.ins "{}" (fs ++ [("", b)])))) → Q m'.H)) := by
  intro pins s σ H o i v ov iv u Q I ro ri rv h
  obtain ⟨m, S, n, fs, b, c, hK, rfl, hS, ra, rb, rc, hn, hk, hz, h1, h2⟩ := h
  cases ra with
  | @ref _ a ha =>
  rcases hS.ob n _ a hn ha with ⟨z, _⟩ | ⟨_, es, q, g⟩
  · exact absurd rfl z
  obtain ⟨⟨hsm, o, arr, ep, hg, hc, hd, hp⟩, _⟩ := I.hok a _ q
  cases (show ov = Value.ref a from ro)
  rw [hw] at hp
  refine kd_set (by omega) hg hc hd (kes_of hK I g hp) (nst hK I 8 hk rb ri) (nk_depth 8 hk) (kdv_of hk rb ri) (by rw [List.length_map]; exact hz) fun h' o' es' ep' g1 g2 g3 g4 hs => ?_
  have mu : Mut (m.H a) := by rw [q]; exact True.intro
  rw [kd_mem g hk] at g4
  rcases g4 with ⟨g4, g5⟩ | ⟨g4, g5⟩
  · refine ⟨_, d_write (ob := .ext (KdAt cl.w a es)) I mu hs ⟨o', g1⟩ ⟨⟨hsm, o', es', ep', g1, g2, g3, ?_⟩, ⟨o', g1⟩, KdAt.stay⟩, ?_⟩
    · rw [g5, hw]; exact hp
    · have e : Ev m { m with H := L2.upd m.H a (.ext (KdAt cl.w a es)) } := Ev.write ha q
      have hS' := hS.write (ob := .lck (.ins "{}" fs)) (o := .ext (KdAt cl.w a es)) ha q (.inr ⟨rfl, es, upd_same, g.up (e.up hS)⟩)
      refine h1 g4 _ e ?_
      rw [set_self hn] at hS'
      exact hS'
  · refine ⟨_, d_write (ob := .ext (KdAt cl.w a (es ++ [(i, nk 8 b)]))) I mu hs ⟨o', g1⟩ ⟨⟨hsm, o', es', ep', g1, g2, g3, ?_⟩, ⟨o', g1⟩, KdAt.stay⟩, ?_⟩
    · rw [g5, hw]
      exact paired_snoc hp ⟨ri, rfl⟩
    · have e : Ev m { m with H := L2.upd m.H a (.ext (KdAt cl.w a (es ++ [(i, nk 8 b)]))) } := Ev.write ha q
      refine h2 g4 _ e (hS.write ha q (.inr ⟨rfl, _, upd_same, ?_, ?_⟩))
      · exact paired_snoc (g.up (e.up hS)).rd ⟨rb.up (e.up hS), hk, rfl⟩
      · rw [List.map_append, List.nodup_append]
        refine ⟨g.nd, by simp, fun x hx y hy e => ?_⟩
        obtain ⟨p, hp, rfl⟩ := List.mem_map.mp hx
        exact g4 ⟨p, hp, by rw [e]; simpa using hy⟩
end
section
variable {P : Pg} {cl : Cl} {X : Cx} {k : Nat} {W : WX} {o : Ko} {a b : E} {ea eb : Expr} {pos : Pos}
theorem e_kdic (xo : XO P cl X k o W) : PE X (.Dict [] [] pos) (tE P cl k X W (.vi .kdic .nil)) :=
  PE.imp (PE.kf pe_knew) fun σ H Q ⟨m, env, S, hK, eH, hS, hV, h⟩ => by
    subst eH
    simp only [wE, wEs, viW] at h
    intro p hp kf
    have e : Ev m { m with H := L2.upd m.H p (.ext (KdAt X.w p [])), em := m.em ++ [p] } := Ev.alloc hp
    refine h _ (.ref p) e (hS.alloc hp (by rw [hK]; exact kf) (.inr ⟨rfl, [], by rw [xo.hw]; exact upd_same, .nil, List.nodup_nil⟩)) (.ref ?_)
    show (m.em ++ [p])[S.length]? = some p
    rw [← hS.len]
    simp
theorem kin_arg {f : Vi} (hf : f = .kin ∨ f = .knin) {x y : Val} {S : Hm} {Q : Post} (h : viW f [x, y] S Q) : ∃ n, y = .ref n := by
  rcases hf with rfl | rfl <;> cases y <;> first | exact ⟨_, rfl⟩ | cases h
theorem kadd_arg {v x y : Val} {S : Hm} {Q : Post} (h : viW .kadd [v, y, x] S Q) : ∃ n, y = .ref n := by
  cases y <;> first | exact ⟨_, rfl⟩ | cases h
theorem e_kin (xo : XO P cl X k o W) (hm : behindInMarks .In eb = false) (ha : PE X ea (tE P cl k X W a)) (hb : PE X eb (tE P cl k X W b)) : PE X (.Compare ea [.In] [eb] pos) (tE P cl k X W (.vi .kin (.cons a (.cons b .nil)))) :=
  PE.imp (pe_cmpR (opr_kin (cl := cl) (by have := xo.un; omega) xo.hw) ha hb hm) fun σ H Q ⟨m, env, S, hK, eH, hS, hV, h⟩ => by
    subst eH
    simp only [wE, wEs] at h
    refine tE_of hK hS hV (Ev.refl m) h fun m1 x S1 v e1 hS1 r1 hV1 h1 => ?_
    refine tE_of (e1.k.trans hK) hS1 hV1 e1 h1 fun m2 y S2 w e2 hS2 r2 hV2 h2 => ?_
    obtain ⟨n, rfl⟩ := kin_arg (.inl rfl) h2
    obtain ⟨fs, h3, h4, h5⟩ := h2
    exact ⟨m2, S2, v, _, (e1.trans e2).k.trans hK, rfl, hS2, r1.up (e2.up hS1), r2, n, fs, rfl, h3, h4, fun c hc => liftQ.ev (e1.trans e2) (fun _ _ _ q => q) (h5 c hc)⟩
theorem e_knin (xo : XO P cl X k o W) (hm : behindInMarks .NotIn eb = false) (ha : PE X ea (tE P cl k X W a)) (hb : PE X eb (tE P cl k X W b)) : PE X (.Compare ea [.NotIn] [eb] pos) (tE P cl k X W (.vi .knin (.cons a (.cons b .nil)))) :=
  PE.imp (pe_cmpR (opr_knin (cl := cl) (by have := xo.un; omega) xo.hw) ha hb hm) fun σ H Q ⟨m, env, S, hK, eH, hS, hV, h⟩ => by
    subst eH
    simp only [wE, wEs] at h
    refine tE_of hK hS hV (Ev.refl m) h fun m1 x S1 v e1 hS1 r1 hV1 h1 => ?_
    refine tE_of (e1.k.trans hK) hS1 hV1 e1 h1 fun m2 y S2 w e2 hS2 r2 hV2 h2 => ?_
    obtain ⟨n, rfl⟩ := kin_arg (.inr rfl) h2
    obtain ⟨fs, h3, h4, h5⟩ := h2
    exact ⟨m2, S2, v, _, (e1.trans e2).k.trans hK, rfl, hS2, r1.up (e2.up hS1), r2, n, fs, rfl, h3, h4, fun c hc => liftQ.ev (e1.trans e2) (fun _ _ _ q => q) (h5 c hc)⟩
theorem t_kin (xo : XO P cl X k o W) (hm : behindInMarks .In eb = false) (ha : PE X ea (tE P cl k X W a)) (hb : PE X eb (tE P cl k X W b)) : PT X (.Compare ea [.In] [eb] pos) (tTs P cl k X W (.v (.vi .kin (.cons a (.cons b .nil))))) :=
  PT.imp (pt_cmpR (opr_kin (cl := cl) (by have := xo.un; omega) xo.hw) ha hb hm) fun σ H Q ⟨m, env, S, hK, eH, hS, hV, h⟩ => by
    subst eH
    simp only [wT, wE, wEs] at h
    refine tE_of hK hS hV (Ev.refl m) h fun m1 x S1 v e1 hS1 r1 hV1 h1 => ?_
    refine tE_of (e1.k.trans hK) hS1 hV1 e1 h1 fun m2 y S2 w e2 hS2 r2 hV2 h2 => ?_
    obtain ⟨n, rfl⟩ := kin_arg (.inl rfl) h2
    obtain ⟨fs, h3, h4, h5⟩ := h2
    refine ⟨m2, S2, v, _, (e1.trans e2).k.trans hK, rfl, hS2, r1.up (e2.up hS1), r2, n, fs, rfl, h3, h4, fun c hc => ?_⟩
    obtain ⟨d, e, h6⟩ := h5 c hc
    cases e
    exact fun m' x e hS r => by cases r; exact ⟨_, rfl, h6 m' ((e1.trans e2).trans e) hS⟩
theorem t_knin (xo : XO P cl X k o W) (hm : behindInMarks .NotIn eb = false) (ha : PE X ea (tE P cl k X W a)) (hb : PE X eb (tE P cl k X W b)) : PT X (.Compare ea [.NotIn] [eb] pos) (tTs P cl k X W (.v (.vi .knin (.cons a (.cons b .nil))))) :=
  PT.imp (pt_cmpR (opr_knin (cl := cl) (by have := xo.un; omega) xo.hw) ha hb hm) fun σ H Q ⟨m, env, S, hK, eH, hS, hV, h⟩ => by
    subst eH
    simp only [wT, wE, wEs] at h
    refine tE_of hK hS hV (Ev.refl m) h fun m1 x S1 v e1 hS1 r1 hV1 h1 => ?_
    refine tE_of (e1.k.trans hK) hS1 hV1 e1 h1 fun m2 y S2 w e2 hS2 r2 hV2 h2 => ?_
    obtain ⟨n, rfl⟩ := kin_arg (.inr rfl) h2
    obtain ⟨fs, h3, h4, h5⟩ := h2
    refine ⟨m2, S2, v, _, (e1.trans e2).k.trans hK, rfl, hS2, r1.up (e2.up hS1), r2, n, fs, rfl, h3, h4, fun c hc => ?_⟩
    obtain ⟨d, e, h6⟩ := h5 c hc
    cases e
    exact fun m' x e hS r => by cases r; exact ⟨_, rfl, h6 m' ((e1.trans e2).trans e) hS⟩
end
end Mi

set_option maxHeartbeats 4000000
namespace Mi
open PySem PySem.Spec L2 PyProof.Rows
def Es.len : Es → Nat
  | .nil => 0
  | .cons _ es => es.len + 1
theorem wEs_len {G : String → Option Val} {C : CallW} (hC : CMono C) {X : XPost} : ∀ (es : Es) {env : Env} {S : Hm} {Q : List Val → Hm → Prop}, wEs G C X es env S Q → wEs G C X es env S fun vs S' => vs.length = es.len ∧ Q vs S'
  | .nil, env, S, Q, h => by
    simp only [wEs] at h ⊢
    exact ⟨rfl, h⟩
  | .cons e es, env, S, Q, h => by
    simp only [wEs] at h ⊢
    exact wE_mono hC (fun _ _ h => h) e (fun v S1 h1 => wEs_mono hC (fun _ _ h => h) es (fun vs S2 h2 => ⟨by rw [List.length_cons, h2.1]; rfl, h2.2⟩) (wEs_len hC es h1)) h
/-- a promise one level below -/
def spK (P : Pg) (cl : Cl) (K : PySem.W.Frag) (mg : Str → Option Value) : Nat → FDef → L2.Sp
  | 0, _ => fun _ _ _ _ => False
  | k + 1, d => spF P cl K mg k d
def spI (P : Pg) (cl : Cl) (K : PySem.W.Frag) (mg : Str → Option Value) : Nat → FDef → L2.Sp
  | k + 2, d => spF P cl K mg k d
  | _, _ => fun _ _ _ _ => False
section
variable {P : Pg} {cl : Cl} {k : Nat} {X : Cx} {W : WX} {sc : Ko}
theorem FnOk.never {P : Program} {w : World} {K : PySem.W.Frag} {mg : Str → Option Value} {base : Heap} {CX : CXT} {k : Nat} {f : Addr} {fd : FuncData} {ps : List Str} : FnOk P w K mg base CX k f fd ps fun _ _ _ _ => False :=
  ⟨fun _ _ _ _ h => h.elim, fun _ _ _ _ _ _ _ _ _ _ _ _ _ h => h.elim⟩
theorem XO.fnK (xo : XO P cl X k sc W) (hc : (!sc.hot) = true) {f : FK} {d : FDef} (h : P.fn f = some d) (hh : P.isHot f = false) : ∃ a fd ps, At P cl X.K X.mg f d a fd ps ∧ FnOk X.prog X.w X.K X.mg X.base (L2N.CX X.prog X.w) k a fd ps (spK P cl X.K X.mg k d) := by
  obtain ⟨a, fd, ps, h1, h2⟩ := xo.fns hc f d h hh
  refine ⟨a, fd, ps, h1, ?_⟩
  cases k with
  | zero => exact FnOk.never
  | succ k => exact h2 k (Nat.lt_succ_self _)
theorem XO.fnI (xo : XO P cl X k sc W) (hc : (!sc.hot) = true) {f : FK} {d : FDef} (h : P.fn f = some d) (hh : P.isHot f = false) : ∃ a fd ps, At P cl X.K X.mg f d a fd ps ∧ FnOk X.prog X.w X.K X.mg X.base (L2N.CX X.prog X.w) (k - 1) a fd ps (spI P cl X.K X.mg k d) := by
  obtain ⟨a, fd, ps, h1, h2⟩ := xo.fns hc f d h hh
  refine ⟨a, fd, ps, h1, ?_⟩
  match k, h2 with
  | 0, _ => exact FnOk.never
  | 1, _ => exact FnOk.never
  | k + 2, h2 => exact h2 k (by omega)
theorem callW_body {f : FK} {d : FDef} (hf : f.init = false) (hd : P.fn f = some d) {args : List Val} {S : Hm} {m m1 : Sm} {xs : List V} {H : Hp} {Q : VK} {E : Value → Option Addr → Hp → Prop} (e : Ev m m1) (hK : m1.K = X.K) (hH : m1.H = H) (hS : SH cl m1 S) (r : RDs m1 (padded d args) xs)
    (h : callW P k f args S (liftQ cl m Q) (liftX cl X.mg m E)) : spK P cl X.K X.mg k d xs H Q E := by
  have key : ∀ j, bodyW P (callW P j) d (padded d args) S (liftQ cl m Q) (liftX cl X.mg m E) → spF P cl X.K X.mg j d xs H Q E := fun j h =>
    ⟨m1, padded d args, S, hK, hH, hS, r, bodyW_mono (callW_mono P j) (fun v S' h' => liftQ.ev e (fun _ _ _ q => q) h') (fun c S' h' => liftX.ev e h') h⟩
  match k, h with
  | 0, h => exact h
  | 1, h =>
    rw [callW_one] at h
    obtain ⟨d', h1, h2⟩ := h
    rw [hd] at h1
    cases h1
    rw [hf] at h2
    exact key 0 h2
  | k + 2, h =>
    rw [callW_two] at h
    obtain ⟨d', h1, h2⟩ := h
    rw [hd] at h1
    cases h1
    rw [hf] at h2
    exact key (k + 1) h2
theorem callW_init {f : FK} {d : FDef} (hf : f.init = true) (hd : P.fn f = some d) {args : List Val} {S : Hm} {m m1 : Sm} {xs : List V} {H : Hp} {Q : VK} {Q0 : Post} {E : Value → Option Addr → Hp → Prop} (e : Ev m m1) (hK : m1.K = X.K) (hH : m1.H = H) (hS : SH cl m1 S) (r : RDs m1 (padded d args) xs) (hq : ∀ v S', Q0 v S' → liftQ cl m1 Q v S')
    (h : callW P k f args S Q0 (liftX cl X.mg m E)) : spI P cl X.K X.mg k d xs H Q E := by
  match k, h with
  | 0, h => exact h
  | 1, h =>
    rw [callW_one] at h
    obtain ⟨d', h1, h2⟩ := h
    rw [hf] at h2
    exact h2
  | k + 2, h =>
    rw [callW_two] at h
    obtain ⟨d', h1, h2⟩ := h
    rw [hd] at h1
    cases h1
    rw [hf] at h2
    exact ⟨m1, padded d args, S, hK, hH, hS, r, bodyW_mono (callW_mono P k) hq (fun c S' h' => liftX.ev e h') h2⟩
/-- how many defaults are dropped -/
def FDef.cut (d : FDef) (n : Nat) : Nat := n + d.dflt.length - d.params
theorem padded_rd {m : Sm} {d : FDef} {args : List Val} {xs : List V} {n : Nat} (hn : args.length = n) (r : RDs m args xs) : RDs m (padded d args) (xs ++ (d.dflt.drop (d.cut n)).map litV) := by
  unfold padded
  subst hn
  exact r.append (lits_rd _)

variable {a b c o i : E} {ea eb ec eo ei : Expr} {pos : Pos} {es' : Es} {xs : List Expr}
/-! ### calls -/
theorem pe_call0SD {sp : L2.Sp} {CX : CXT} {f : Addr} {fd : FuncData} {ps : List Str} {dvs : List V} {ds : List Value} {E : L2.St → XK} {x : Str} {p : Pos} (F : FnOk X.prog X.w X.K X.mg X.base CX k f fd ps sp) (hr : Room k X.A) (hg : Gl X x) (hm : X.mg x = some (.ref f)) (hk : PySem.W.keepIn X.K (.ref f) = true) (hb : Binds X.K fd ps ds) (hd : Vals dvs ds) (hx : ∀ σ, PassesAt CX X σ (E σ))
    (hdb : (x == ("__debug__" : Str)) = false) : PE X (.Call (.Name x p) [] [] pos) (tCallSD sp dvs E tNil) := by
  refine ⟨fun pins s σ H Q I h => ?_⟩
  refine wpAny_Call_Name_kw (ld_glob I hg hm ?_ hdb)
  exact PySem.W.callWith_K0 I.kIn hk (run_fnSD (us := []) F hr hb hd (hx σ) I .nil h)
theorem e_call {f : String} {d : FDef} {p : Pos} (xo : XO P cl X k sc W) (hc : (!sc.hot) = true) (hh : P.isHot (.f f) = false) (hg : Gl X (Str.ofString f)) (hdb : (Str.ofString f == ("__debug__" : Str)) = false) (hd : P.fn (.f f) = some d) (hn : es'.len ≤ d.params) (hs : xs.all notStar = true) (h0 : xs = [] → es' = .nil) (ha : PA X xs (tEs P cl k X W es')) :
    PE X (.Call (.Name (Str.ofString f) p) xs [] pos) (tE P cl k X W (.call f es')) := by
  obtain ⟨g, fd, ps, at', F⟩ := xo.fnK hc hd hh
  obtain ⟨ds, vd, hb⟩ := at'.bd (d.cut es'.len) (by unfold FDef.cut; omega)
  have hm : X.mg (Str.ofString f) = some (.ref g) := at'.nm
  have fin : ∀ {σ : L2.St} {m : Sm} {env : Env} {S : Hm} {Q : VK} {m1 : Sm} {S1 : Hm} {vs : List Val} {xs : List V}, m.K = X.K → Ev m m1 → SH cl m1 S1 → RDs m1 vs xs → vs.length = es'.len → callW P k (.f f) vs S1 (liftQ cl m Q) (liftX cl X.mg m fun c d H => W c d σ H) →
      spK P cl X.K X.mg k d (xs ++ (d.dflt.drop (d.cut es'.len)).map litV) m1.H Q (WE W σ) := fun {σ m env S Q m1 S1 vs xs} hK e1 hS1 r1 hl h1 => callW_body (k := k) rfl hd e1 (e1.k.trans hK) rfl hS1 (padded_rd hl r1) h1
  cases xs with
  | nil =>
    refine PE.imp (pe_call0SD (E := WE W) F (xo.room hc) hg hm at'.kp hb vd (fun σ => passF xo.fr xo.tk σ) hdb) fun σ H Q ⟨m, env, S, hK, eH, hS, hV, h⟩ => ?_
    subst eH
    simp only [wE] at h
    have h := wEs_len (callW_mono P k) es' h
    rw [h0 rfl] at h fin
    simp only [wEs] at h
    have z := fin (env := env) (S := S) (Q := Q) hK (Ev.refl m) hS .nil h.1 h.2
    rw [h0 rfl]
    exact z
  | cons e es =>
    rw [List.all_cons, Bool.and_eq_true] at hs
    refine PE.imp (pe_callSD (E := WE W) F (xo.room hc) hg hm at'.kp hb vd (fun σ => passF xo.fr xo.tk σ) ha hdb (star_cons hs.1) (star_any hs.2)) fun σ H Q ⟨m, env, S, hK, eH, hS, hV, h⟩ => ?_
    subst eH
    simp only [wE] at h
    refine tEs_of hK hS hV (Ev.refl m) (wEs_len (callW_mono P k) es' h) fun m1 x S1 v e1 hS1 r1 hV1 h1 => ?_
    exact fin (env := env) (S := S) hK e1 hS1 r1 h1.1 h1.2

/-! ### calls with the handled exception -/
theorem SH.at_of {m : Sm} {S : Hm} {b : Addr} {c : String} (h : SH cl m S) (hz : ∀ a d, cl.z a d → a = b ∧ d = c) : SH (cl.at b c) m S := ⟨h.len, h.nd, h.kf, h.ob, fun a d e => hz a d (h.z a d e)⟩
theorem SH.of_at {m m' : Sm} {S S' : Hm} {b : Addr} {c : String} (h0 : SH cl m S) (e : Ev m m') (h : SH (cl.at b c) m' S') : SH cl m' S' := ⟨h.len, h.nd, h.kf, h.ob, fun a d z => h0.z a d (by rw [← e.z]; exact z)⟩
theorem run_fnE {sp : Addr × Obj → L2.Sp} {f : Addr} {fd : FuncData} {ps : List Str} {q : Addr × Obj} {pins : List (Addr × Obj)} {σ : L2.St} {H : Hp} {s : Shared} {Q : VK} {us : List Value} {vs : List V} (F : FnE X.prog X.w X.K X.mg X.base f fd ps sp) (hr : L2H.RoomH 1 X.A) (h1 : L2H.Hot1 X.A q) (hq : q ∈ X.pn) (hb : Binds X.K fd ps []) (fr : InFr X) (tk : TkF X W)
    (I : Inv X pins σ H s) (r : Vals vs us) (h : sp q vs H Q (WE W σ)) : wpAny (model X.prog X.w) X.A (call (.ref f) us) (EP X pins σ Q) X.xe s := by
  have hl : us.length = ps.length := by rw [← r.length]; exact F.len q _ _ _ _ h
  have hbind := hb s us I.kIn (by simpa using hl)
  rw [List.append_nil] at hbind
  obtain ⟨g1, g2, g3, g4, g5⟩ := I.pin q (List.mem_append_left _ hq)
  have hp : L2H.PinOk X.stack H s q := ⟨g1, g2, fun z => (List.mem_cons.mp (I.stkSub q.1 z)).elim g3 g4, g5⟩
  refine wpAny_call (codeAny_mono (F.run q X.A X.stack s H ⟨us, []⟩ us vs Q (WE W σ) hr h1 hp I.env0 hbind r h) fun res s' hres => ?_)
  match res, hres with
  | .error e, he => exact passF fr tk σ pins H s e s' I he
  | .ok (.ret u), he => exact I.after he
theorem e_callH {f : String} {d : FDef} {p : Pos} (xo : XO P cl X k sc W) (hot : sc.hot = true) (hf : f ∈ sc.hf) (hg : Gl X (Str.ofString f)) (hdb : (Str.ofString f == ("__debug__" : Str)) = false) (hd : P.fn (.f f) = some d) (hn : es'.len = d.params) (hd0 : d.dflt = []) (hs : xs.all notStar = true) (h0 : xs ≠ []) (ha : PA X xs (tEs P cl k X W es')) :
    PE X (.Call (.Name (Str.ofString f) p) xs [] pos) (tE P cl k X W (.call f es')) := by
  obtain ⟨g, fd, ps, hm, kp, hl, hb, F⟩ := xo.hots f hf d hd hd0
  obtain ⟨q, c, h1, hq, hz, ho⟩ := xo.zx hot
  have rK := xo.rmh hot (fun e => by rw [e] at hf; cases hf)
  cases xs with
  | nil => exact absurd rfl h0
  | cons e es =>
  rw [List.all_cons, Bool.and_eq_true] at hs
  refine ⟨fun pins s σ H Q I ⟨m, env, S, hK, eH, hS, hV, h⟩ => ?_⟩
  subst eH
  simp only [wE] at h
  refine wpAny_Call_Name_kw (ld_glob I hg hm ?_ hdb)
  have want := tEs_of hK hS hV (Ev.refl m) (wEs_len (callW_mono P k) es' h) (R := fun ys H1 => ∃ m1 S1 vs, Ev m m1 ∧ m1.H = H1 ∧ SH cl m1 S1 ∧ RDs m1 vs ys ∧ vs.length = es'.len ∧ callW P k (.f f) vs S1 (liftQ cl m Q) (liftX cl X.mg m fun c d H => W c d σ H)) fun m1 x S1 v e1 hS1 r1 hV1 h1 => ⟨m1, S1, v, e1, rfl, hS1, r1, h1.1, h1.2⟩
  refine PySem.W.callWith_K (h₀ := X.base) I.ok.mod.kin kp (thn (ha.run pos pins s σ m.H _ I want) fun us s1 ⟨ys, H1, I1, r, m1, S1, vs, e1, eH, hS1, r1, l1, hw⟩ => ⟨I1.kIn, ?_⟩) (star_cons hs.1) (star_any hs.2)
  subst eH
  have hpad : padded d vs = vs := by unfold padded; rw [hd0]; simp
  have body : 1 ≤ k → ∀ j, bodyW P (callW P j) d (padded d vs) S1 (liftQ cl m Q) (liftX cl X.mg m fun c d H => W c d σ H) → wpAny (model X.prog X.w) X.A (call (.ref g) us) (EP X pins σ Q) X.xe s1 := fun k1 j hj => by
    rw [hpad] at hj
    refine run_fnE (F j) (rK.mono k1) h1 hq hb xo.fr xo.tk I1 r ⟨by rw [← r1.length, l1, hn, hl], fun _ => ⟨c, m1, vs, S1, e1.k.trans hK, rfl, ho, hS1.at_of hz, r1, bodyW_mono (callW_mono P j) (fun v S' h' m' x e' hS' r' => h' m' x (e1.trans e') (hS1.of_at e' hS') r') (fun c' S' h' m' C e' hS' hC => h' m' C (e1.trans e') (hS1.of_at e' hS') hC) hj⟩⟩
  match k, hw with
  | 0, hw => exact hw.elim
  | 1, hw =>
    rw [callW_one] at hw
    obtain ⟨d', g1, g2⟩ := hw
    rw [hd] at g1
    cases g1
    exact body (by omega) 0 g2
  | k + 2, hw =>
    rw [callW_two] at hw
    obtain ⟨d', g1, g2⟩ := hw
    rw [hd] at g1
    cases g1
    exact body (by omega) (k + 1) g2

/-- what is between an instance's making and its end -/
theorem run_mk {C f : Addr} {sp : L2.Sp} {fd : FuncData} {ps : List Str} {dvs : List V} {ds : List Value} {kk : Nat} {pins : List (Addr × Obj)} {σ : L2.St} {H : Hp} {s : Shared} {Q : VK} {us : List Value} {vs : List V} (M : Mk X.K C f) (F : FnOk X.prog X.w X.K X.mg X.base (L2N.CX X.prog X.w) kk f fd ps sp) (hr : ∀ vs H Q E, sp vs H Q E → Room (kk + 1) X.A)
    (hb : Binds X.K fd ps ds) (hd : Vals dvs ds) (fr : InFr X) (tk : TkF X W) (I : Inv X pins σ H s) (r : Vals vs us)
    (h : ∀ x dx, H x = none → H dx = none → dx ≠ x → KF X.K (upd (upd H dx (.own x)) x (.ins C dx [])) → sp (.ref x :: (vs ++ dvs)) (upd (upd H dx (.own x)) x (.ins C dx [])) (fun v H2 => v = .non ∧ Q (.ref x) H2) (WE W σ)) :
    wpAny (model X.prog X.w) X.A (call (.ref C) us) (EP X pins σ Q) X.xe s := by
  have I2 := Inv.made (C := C) I
  have hq := h (s.heap.objs.size + 1) s.heap.objs.size (I.hok.fresh (Nat.le_succ _)) (I.hok.fresh (Nat.le_refl _)) (Nat.ne_of_lt (Nat.lt_succ_self _)) (kfree I2)
  have r2 : Vals (V.ref (s.heap.objs.size + 1) :: (vs ++ dvs)) (Value.ref (s.heap.objs.size + 1) :: (us ++ ds)) := .cons rfl (r.append hd)
  have hl : (Value.ref (s.heap.objs.size + 1) :: us ++ ds).length = ps.length := r2.length.symm.trans (F.len _ _ _ _ hq)
  have body := F.run _ X.stack _ _ ⟨Value.ref (s.heap.objs.size + 1) :: us, []⟩ (Value.ref (s.heap.objs.size + 1) :: (us ++ ds)) _ _ (WE W σ) ((hr _ _ _ _ hq).make C us []) (I2.env0.make C us []) (hb _ (Value.ref (s.heap.objs.size + 1) :: us) I2.kIn hl) r2 hq
  refine wpAny_call (make_map (f := f) I.kIn M.makes M.init (beq_iff_eq.mp M.fn) (codeAny_mono body fun r s' h1 => ?_))
  match r, h1 with
  | .error e, h1 => exact passF fr tk σ pins _ _ e s' I2 h1
  | .ok (.ret u), h1 =>
    obtain ⟨v, H', I3, rv, ev, q3⟩ := I2.after h1
    subst ev
    exact ⟨rv, V.ref (s.heap.objs.size + 1), H', I3, rfl, q3⟩
def tMk (K : PySem.W.Frag) (C : Addr) (sp : L2.Sp) (dvs : List V) (W : WX) (t : TA) : TE := fun σ H Q => t σ H fun vs H1 => ∀ x dx, H1 x = none → H1 dx = none → dx ≠ x → KF K (upd (upd H1 dx (.own x)) x (.ins C dx [])) →
  sp (.ref x :: (vs ++ dvs)) (upd (upd H1 dx (.own x)) x (.ins C dx [])) (fun v H2 => v = .non ∧ Q (.ref x) H2) (WE W σ)
theorem pe_mk {C f : Addr} {sp : L2.Sp} {fd : FuncData} {ps : List Str} {dvs : List V} {ds : List Value} {kk : Nat} {x : Str} {p : Pos} {t : TA} (M : Mk X.K C f) (F : FnOk X.prog X.w X.K X.mg X.base (L2N.CX X.prog X.w) kk f fd ps sp) (hr : ∀ vs H Q E, sp vs H Q E → Room (kk + 1) X.A) (hg : Gl X x) (hm : X.mg x = some (.ref C))
    (hb : Binds X.K fd ps ds) (hd : Vals dvs ds) (fr : InFr X) (tk : TkF X W) (ha : PA X xs t) (hs : xs.all notStar = true) (hdb : (x == ("__debug__" : Str)) = false) (h0 : xs = [] → ∀ σ H Q, t σ H Q → Q [] H) :
    PE X (.Call (.Name x p) xs [] pos) (tMk X.K C sp dvs W t) := by
  refine ⟨fun pins s σ H Q I h => ?_⟩
  refine wpAny_Call_Name_kw (ld_glob I hg hm ?_ hdb)
  cases xs with
  | nil => exact PySem.W.callWith_K0 I.kIn M.kp (run_mk (us := []) M F hr hb hd fr tk I .nil (h0 rfl _ _ _ h))
  | cons e es =>
    rw [List.all_cons, Bool.and_eq_true] at hs
    exact PySem.W.callWith_K (h₀ := X.base) I.ok.mod.kin M.kp (thn (ha.run pos pins s σ H _ I h) fun us s1 ⟨vs, H1, I1, r, q⟩ => ⟨I1.kIn, run_mk M F hr hb hd fr tk I1 r q⟩) (star_cons hs.1) (star_any hs.2)
theorem kf_under {K : PySem.W.Frag} {H : Hp} {x dx : Addr} {o o' : HO} (h : KF K (upd (upd H dx o) x o')) : KF K (upd H dx o) := fun b u e => by
  have := h b u e
  by_cases z : b = x
  · subst z; rw [upd_same] at this; cases this
  · rwa [upd_ne z] at this
theorem e_make {c : String} {C : Addr} {d : FDef} {p : Pos} (xo : XO P cl X k sc W) (hc : (!sc.hot) = true) (hg : Gl X (Str.ofString c)) (hdb : (Str.ofString c == ("__debug__" : Str)) = false) (hd : P.fn (.m c "__init__") = some d) (hC : cl c C) (hn : es'.len + 1 ≤ d.params) (hs : xs.all notStar = true) (h0 : xs = [] → es' = .nil) (ha : PA X xs (tEs P cl k X W es')) :
    PE X (.Call (.Name (Str.ofString c) p) xs [] pos) (tE P cl k X W (.make c es')) := by
  obtain ⟨g, fd, ps, at', F⟩ := xo.fnI hc hd rfl
  obtain ⟨ds, vd, hb⟩ := at'.bd (d.cut (es'.len + 1)) (by unfold FDef.cut; omega)
  obtain ⟨hm, cls⟩ := xo.ln.clc c C hC
  have M : Mk X.K C g := (at'.nm C hC).2 rfl
  have hr : ∀ vs H Q E, spI P cl X.K X.mg k d vs H Q E → Room (k - 1 + 1) X.A := fun vs H Q E h => by
    match k, h, xo.room hc with
    | 0, h, _ => exact h.elim
    | k + 1, _, r => exact r
  refine PE.imp (pe_mk M F hr hg hm hb vd xo.fr xo.tk ha hs hdb fun hx σ H Q ⟨m, env, S, hK, eH, hS, hV, h⟩ => ?_) fun σ H Q ⟨m, env, S, hK, eH, hS, hV, h⟩ => ?_
  · subst eH
    rw [h0 hx] at h
    simp only [wEs] at h
    exact h m [] (Ev.refl m) hS .nil
  · subst eH
    simp only [wE] at h
    refine tEs_of hK hS hV (Ev.refl m) (wEs_len (callW_mono P k) es' h) fun m1 x S1 v e1 hS1 r1 hV1 h1 => ?_
    intro y dy hy hdy hne kf
    rw [← hK, ← e1.k] at kf
    have e2 : Ev m1 { m1 with H := upd m1.H dy (.own y) } := Ev.outside hdy
    have hS2 := hS1.outside hdy (kf_under kf)
    have hy2 : upd m1.H dy (.own y) y = none := by rw [upd_ne (Ne.symm hne)]; exact hy
    have e3 : Ev { m1 with H := upd m1.H dy (.own y) } { m1 with H := upd (upd m1.H dy (.own y)) y (.ins C dy []), em := m1.em ++ [y] } := Ev.alloc (m := { m1 with H := upd m1.H dy (.own y) }) hy2
    have hS3 : SH cl { m1 with H := upd (upd m1.H dy (.own y)) y (.ins C dy []), em := m1.em ++ [y] } (S1 ++ [.ins c []]) := hS2.alloc hy2 kf ⟨C, dy, [], upd_same, hC, .nil⟩
    have e13 := (e1.trans e2).trans e3
    have r3 : RDs { m1 with H := upd (upd m1.H dy (.own y)) y (.ins C dy []), em := m1.em ++ [y] } (.ref S1.length :: v) (.ref y :: x) := .cons (.ref (by show (m1.em ++ [y])[S1.length]? = some y; rw [← hS1.len]; simp)) (r1.up ((e2.trans e3).up hS1))
    refine callW_init (f := .m c "__init__") (k := k) rfl hd e13 (e13.k.trans hK) rfl hS3 (padded_rd (n := es'.len + 1) (by rw [List.length_cons, h1.1]) r3) (fun v' S' hv => ?_) h1.2
    obtain ⟨rfl, hv⟩ := hv
    intro m' x' e' hS' r'
    cases r'
    refine ⟨rfl, hv m' (.ref y) (e13.trans e') hS' (.ref (em_get e'.em ?_))⟩
    show (m1.em ++ [y])[S1.length]? = some y
    rw [← hS1.len]
    simp
/-- o.m(..) -/
theorem e_meth {c mt : String} {d : FDef} {apos : Pos} (xo : XO P cl X k sc W) (hc : (!sc.hot) = true) (hd : P.fn (.m c mt) = some d) (hni : (mt == "__init__") = false) (hn : es'.len + 1 ≤ d.params) (hb : plainBase eo = true) (hl : (apos.endLine == pos.line) = true) (hlen : xs.length < 29) (hs : xs.all notStar = true) (h0 : xs = [] → es' = .nil) (ho : PE X eo (tE P cl k X W o)) (ha : PA X xs (tEs P cl k X W es')) :
    PE X (.Call (.Attribute eo (Str.ofString mt) apos) xs [] pos) (tE P cl k X W (.meth c mt o es')) := by
  obtain ⟨g, fd, ps, at', F⟩ := xo.fnK hc hd rfl
  obtain ⟨ds, vd, hbd⟩ := at'.bd (d.cut (es'.len + 1)) (by unfold FDef.cut; omega)
  refine ⟨fun pins s σ H Q I ⟨m, env, S, hK, eH, hS, hV, h⟩ => ?_⟩
  subst eH
  simp only [wE] at h
  refine methcall_of ho I (tE_of hK hS hV (Ev.refl m) h fun m1 x S1 v e1 hS1 r1 hV1 h1 => ?_) (meth_eval hb hs hlen hl)
  obtain ⟨n, fs, rfl, h2, h3, h4⟩ := h1
  obtain ⟨y, hy, C, dx, gs, hy2, hC, rf⟩ := hS1.at h2
  cases r1 with
  | @ref _ y' hy' =>
  rw [hy] at hy'
  cases hy'
  obtain ⟨hm, cls⟩ := xo.ln.clc c C hC
  have mt' : Meth X.K C (Str.ofString mt) g := (at'.nm C hC).1
  have lk : gs.lookup (Str.ofString mt) = none := by
    rcases rf.look mt with ⟨v, x, q, _⟩ | ⟨_, q⟩
    · rw [h3] at q; cases q
    · exact q
  refine ⟨y, C, dx, gs, g, rfl, hy2, cls, mt', lk, fun s1 I1 => ?_⟩
  have fin : ∀ {m2 : Sm} {S2 : Hm} {vs : List Val} {xs : List V}, Ev m1 m2 → SH cl m2 S2 → RDs m2 vs xs → vs.length = es'.len → callW P k (.m c mt) (.ref n :: vs) S2 (liftQ cl m Q) (liftX cl X.mg m fun c d H => W c d σ H) →
      spK P cl X.K X.mg k d ((.ref y :: xs) ++ (d.dflt.drop (d.cut (es'.len + 1))).map litV) m2.H Q (WE W σ) := fun {m2 S2 vs xs} e2 hS2 r2 hl h5 =>
        callW_body (k := k) (f := .m c mt) hni hd (e1.trans e2) ((e1.trans e2).k.trans hK) rfl hS2 (padded_rd (n := es'.len + 1) (by rw [List.length_cons, hl]) (.cons (.ref (em_get e2.em hy)) r2)) h5
  cases xs with
  | nil =>
    have h4 := wEs_len (callW_mono P k) es' h4
    rw [h0 rfl] at h4 fin
    simp only [wEs] at h4
    exact PySem.W.callWith_K0 (first := [.ref y]) I1.kIn mt'.kp (run_fnSD (us := [.ref y]) (vs := [.ref y]) (E := WE W) F (xo.room hc) hbd (by rw [h0 rfl] at vd; exact vd) (passF xo.fr xo.tk σ) I1 (.cons rfl .nil) (fin (Ev.refl m1) hS1 .nil h4.1 h4.2))
  | cons e es =>
    rw [List.all_cons, Bool.and_eq_true] at hs
    refine PySem.W.callWith_K (first := [.ref y]) (h₀ := X.base) I1.ok.mod.kin mt'.kp (thn (ha.run pos pins s1 σ m1.H (fun xs H => spK P cl X.K X.mg k d ((.ref y :: xs) ++ (d.dflt.drop (d.cut (es'.len + 1))).map litV) H Q (WE W σ)) I1 ?_) fun us s2 ⟨vs, H2, I2, r, q⟩ => ⟨I2.kIn, ?_⟩) (star_cons hs.1) (star_any hs.2)
    · exact tEs_of (e1.k.trans hK) hS1 hV1 e1 (wEs_len (callW_mono P k) es' h4) fun m2 x2 S2 v2 e2 hS2 r2 hV2 h5 => fin e2 hS2 r2 h5.1 h5.2
    · exact run_fnSD (us := .ref y :: us) (vs := .ref y :: vs) (E := WE W) F (xo.room hc) hbd vd (passF xo.fr xo.tk σ) I2 (.cons rfl r) q
end
end Mi

set_option maxHeartbeats 4000000
namespace Mi
open PySem PySem.Spec L2 PyProof.Rows
/-! ### built-in functions: names -/
def biN : Bi → String
  | .len => "len"
  | .abs => "abs"
  | .min => "min"
  | .max => "max"
  | .int => "int"
  | .str => "str"
  | .list => "list"
  | .tuple => "tuple"
  | .dict => "dict"
  | .sum => "sum"
  | .sorted => "sorted"
  | .all => "all"
  | .any => "any"
  | .range => "range"
  | .listD => "list"
  | .sortedS => "sorted"
theorem bi_boot (f : Bi) : bootBuiltins (Str.ofString (biN f)) = some (biV f) := by cases f <;> decide +kernel
theorem bi_mem (f : Bi) : biN f ∈ ["len", "abs", "min", "max", "int", "str", "list", "tuple", "dict", "sum", "sorted", "all", "any", "range", "enumerate", "zip", "reversed", "isinstance", "bool"] := by cases f <;> decide
theorem bi_name (f : Bi) : Str.ofString (biN f) ≠ ("__name__" : Str) := by cases f <;> decide +kernel
theorem bi_debug (f : Bi) : (Str.ofString (biN f) == ("__debug__" : Str)) = false := by cases f <;> decide +kernel
theorem bm_pa (b : Bm) : PlainAttrs (bmI b).1 := by cases b <;> first | exact PySem.F.plainAttrs_list | exact PySem.F.plainAttrs_dict | exact PySem.F.plainAttrs_str
theorem bm_slot (b : Bm) : Slot (bmI b).1 (Str.ofString (bmI b).2.1) (bmI b).2.2 := by
  cases b
  · exact PySem.F.slot_list_append
  · exact PySem.F.slot_list_extend
  · exact PySem.F.slot_list_pop
  · exact PySem.F.slot_list_insert
  · exact PySem.F.slot_list_reverse
  · exact PySem.F.slot_list_count
  · exact PySem.F.slot_list_index
  · exact PySem.F.slot_list_clear
  · exact PySem.F.slot_dict_clear
  · exact PySem.F.slot_dict_get
  · exact PySem.F.slot_dict_setdefault
  · exact PySem.F.slot_dict_update
  · exact PySem.F.slot_str_startswith
  · exact PySem.F.slot_str_split
  · exact PySem.F.slot_str_join
  · exact PySem.F.slot_str_isupper
  · exact PySem.F.slot_str_upper
  · exact PySem.F.slot_str_replace
  · exact PySem.F.slot_dict_pop
theorem bm_type (b : Bm) : typeOf (.builtin (bmI b).2.2) = pure (.type "method_descriptor") := by
  cases b
  · exact PySem.F.type_list_append
  · exact PySem.F.type_list_extend
  · exact PySem.F.type_list_pop
  · exact PySem.F.type_list_insert
  · exact PySem.F.type_list_reverse
  · exact PySem.F.type_list_count
  · exact PySem.F.type_list_index
  · exact PySem.F.type_list_clear
  · exact PySem.F.type_dict_clear
  · exact PySem.F.type_dict_get
  · exact PySem.F.type_dict_setdefault
  · exact PySem.F.type_dict_update
  · exact PySem.F.type_str_startswith
  · exact PySem.F.type_str_split
  · exact PySem.F.type_str_join
  · exact PySem.F.type_str_isupper
  · exact PySem.F.type_str_upper
  · exact PySem.F.type_str_replace
  · exact PySem.F.type_dict_pop
section
variable {P : Pg} {cl : Cl} {k : Nat} {X : Cx} {W : WX} {sc : Ko}
variable {a b c o i : E} {ea eb ec eo ei : Expr} {pos : Pos} {es' : Es} {xs : List Expr}
theorem e_fld {f : String} (xo : XO P cl X k sc W) (hf : f ∈ P.flds) (hb : plainBase eo = true) (ho : PE X eo (tE P cl k X W o)) : PE X (.Attribute eo (Str.ofString f) pos) (tE P cl k X W (.fld o f)) :=
  PE.imp (PE.kf (pe_fld ho (base_of hb))) fun σ H Q ⟨m, env, S, hK, eH, hS, hV, h⟩ => by
    subst eH
    simp only [wE] at h
    refine tE_of hK hS hV (Ev.refl m) h fun m1 x S1 v e1 hS1 r1 hV1 h1 => ?_
    obtain ⟨n, c, fs, w, rfl, h2, h3, h4⟩ := h1
    cases r1 with
    | @ref _ y hy =>
    obtain ⟨C, dx, gs, hy2, hC, rf⟩ := hS1.ob n _ y h2 hy
    rcases rf.look f with ⟨v, x, q1, q2, q3⟩ | ⟨q, _⟩
    · rw [h3] at q1
      cases q1
      exact ⟨y, C, dx, gs, x, rfl, hy2, (xo.ln.clc c C hC).2, xo.ln.fld c C hC f hf, q2, fun _ => h4 m1 x e1 hS1 q3⟩
    · rw [h3] at q; cases q
theorem e_sub (hu : X.A.units + 1 < cLine) (hi : plainIx ei = true) (ho : PE X eo (tE P cl k X W o)) (hx : PE X ei (tE P cl k X W i)) : PE X (.Subscript eo ei pos) (tE P cl k X W (.sub o i)) :=
  PE.imp (pe_ix (ix_ok (cl := cl) hu) ho hx (plainIx_of hi)) fun σ H Q ⟨m, env, S, hK, eH, hS, hV, h⟩ => by
    subst eH
    simp only [wE] at h
    refine tE_of hK hS hV (Ev.refl m) h fun m1 x S1 v e1 hS1 r1 hV1 h1 => ?_
    refine tE_of (e1.k.trans hK) hS1 hV1 e1 h1 fun m2 y S2 w e2 hS2 r2 hV2 h2 => ?_
    exact ⟨m2, S2, v, w, (e1.trans e2).k.trans hK, rfl, hS2, r1.up (e2.up hS1), r2, subW_mono (fun z S3 h3 => liftQ.ev (e1.trans e2) (fun _ _ _ q => q) h3) h2⟩
theorem o_none : PO X none (tOs P cl k X W .none) :=
  PO.imp po_none fun σ H Q ⟨m, env, S, hK, eH, hS, hV, h⟩ => by
    subst eH
    simp only [wO] at h
    exact h m (Ev.refl m) hS
theorem o_some (ha : PE X ea (tE P cl k X W a)) : PO X (some ea) (tOs P cl k X W (.some a)) :=
  PO.imp (po_some ha) fun σ H Q ⟨m, env, S, hK, eH, hS, hV, h⟩ => by
    subst eH
    simp only [wO] at h
    refine tE_of hK hS hV (Ev.refl m) h fun m1 x S1 v e1 hS1 r1 hV1 h1 => ?_
    obtain ⟨j, rfl, h1⟩ := h1
    cases r1
    exact ⟨j, rfl, h1 m1 e1 hS1⟩
theorem e_slice {lo hi : Oe} {el eh : Option Expr} {p2 : Pos} (ho : PE X eo (tE P cl k X W o)) (hl : PO X el (tOs P cl k X W lo)) (hh : PO X eh (tOs P cl k X W hi)) : PE X (.Subscript eo (.Slice el eh none p2) pos) (tE P cl k X W (.slice o lo hi)) :=
  PE.imp (pe_slice (sl_ok (cl := cl)) ho hl hh) fun σ H Q ⟨m, env, S, hK, eH, hS, hV, h⟩ => by
    subst eH
    simp only [wE] at h
    refine tE_of hK hS hV (Ev.refl m) h fun m1 x S1 v e1 hS1 r1 hV1 h1 => ?_
    refine tOs_of (e1.k.trans hK) hS1 hV1 e1 h1 fun m2 S2 l e2 hS2 hV2 h2 => ?_
    refine tOs_of ((e1.trans e2).k.trans hK) hS2 hV2 (e1.trans e2) h2 fun m3 S3 u e3 hS3 hV3 h3 => ?_
    exact ⟨m3, S3, v, ((e1.trans e2).trans e3).k.trans hK, rfl, hS3, r1.up ((e2.trans e3).up hS1), sliceW_mono (fun z S4 h4 => liftQ.ev ((e1.trans e2).trans e3) (fun _ _ _ q => q) h4) h3⟩
theorem e_bi {f : Bi} {p : Pos} {e : Expr} {es : List Expr} (xo : XO P cl X k sc W) (hc : (!sc.hot) = true) (hg : Gl X (Str.ofString (biN f))) (hs : (e :: es).all notStar = true) (ha : PA X (e :: es) (tEs P cl k X W es')) :
    PE X (.Call (.Name (Str.ofString (biN f)) p) (e :: es) [] pos) (tE P cl k X W (.bi f es')) := by
  have hm := xo.ln.bi (biN f) (bi_mem f)
  rw [List.all_cons, Bool.and_eq_true] at hs
  have ok := bi_ok (cl := cl) (xo.calm hc) f
  have hv := bi_boot f
  have rd : PE X (.Call (.Name (Str.ofString (biN f)) p) (e :: es) [] pos) (tCB (rA X cl (biW f)) (tEs P cl k X W es')) := by
    cases f <;> first
      | exact pe_callB ok hg hm hv ha (bi_name _) (bi_debug _) (star_cons hs.1) (star_any hs.2)
      | exact pe_callTy ok hg hm hv ha (bi_name _) (bi_debug _) (star_cons hs.1) (star_any hs.2)
  refine PE.imp rd fun σ H Q ⟨m, env, S, hK, eH, hS, hV, h⟩ => ?_
  subst eH
  simp only [wE] at h
  refine tEs_of hK hS hV (Ev.refl m) h fun m1 x S1 v e1 hS1 r1 hV1 h1 => ?_
  exact ⟨m1, S1, v, e1.k.trans hK, rfl, hS1, r1, biW_mono (fun z S3 h3 => liftQ.ev e1 (fun _ _ _ q => q) h3) h1⟩
theorem bmT_rd {b : Bm} {m : Sm} {S : Hm} {v : Val} {x : V} (hS : SH cl m S) (r : RD m v x) (h : bmT b v S) : tyV m.K (bmI b).1 x m.H := by
  cases b <;> simp only [bmT, bmI] at h ⊢
  all_goals first
    | (obtain ⟨n, xs, rfl, h⟩ := h
       cases r with
       | @ref _ y hy =>
       first
         | (obtain ⟨vs, hq, _⟩ := hS.lst h hy
            exact .inl ⟨rfl, vs, hq⟩)
         | (obtain ⟨vs, hq, _⟩ := hS.dic' h hy
            exact .inr (.inr (.inl ⟨rfl, .inl ⟨vs, hq⟩⟩))))
    | (obtain ⟨z, rfl⟩ := h
       cases r
       rfl)
theorem e_bm0 {bm : Bm} {apos : Pos} (hu : bm = .update → X.calm = true) (xo : XO P cl X k sc W) (hb : plainBase eo = true) (hl : (apos.endLine == pos.line) = true) (ho : PE X eo (tE P cl k X W o)) :
    PE X (.Call (.Attribute eo (Str.ofString (bmI bm).2.1) apos) [] [] pos) (tE P cl k X W (.bm bm o .nil)) :=
  PE.imp (pe_bm0 (bm_pa bm) (bm_slot bm) (bm_type bm) (mt_ok (cl := cl) (by have := xo.un; omega) bm hu) ho (base_of hb) hl) fun σ H Q ⟨m, env, S, hK, eH, hS, hV, h⟩ => by
    subst eH
    simp only [wE, wEs] at h
    refine tE_of hK hS hV (Ev.refl m) h fun m1 x S1 v e1 hS1 r1 hV1 h1 => ?_
    refine ⟨by rw [← hK, ← e1.k]; exact bmT_rd hS1 r1 h1.1, m1, S1, v, [], e1.k.trans hK, rfl, hS1, r1, .nil, bmW_mono (fun z S3 h3 => liftQ.ev e1 (fun _ _ _ q => q) h3) h1.2⟩
theorem e_bm {bm : Bm} {apos : Pos} {e : Expr} {es : List Expr} (hu : bm = .update → X.calm = true) (xo : XO P cl X k sc W) (hb : plainBase eo = true) (hl : (apos.endLine == pos.line) = true) (hs : (e :: es).all notStar = true) (hlen : (e :: es).length < 29) (ho : PE X eo (tE P cl k X W o)) (ha : PA X (e :: es) (tEs P cl k X W es')) :
    PE X (.Call (.Attribute eo (Str.ofString (bmI bm).2.1) apos) (e :: es) [] pos) (tE P cl k X W (.bm bm o es')) := by
  have hs' := hs
  rw [List.all_cons, Bool.and_eq_true] at hs
  refine PE.imp (pe_bm (bm_pa bm) (bm_slot bm) (bm_type bm) (mt_ok (cl := cl) (by have := xo.un; omega) bm hu) ho ha (base_of hb) ?_ hl (star_cons hs.1) (star_any hs.2)) fun σ H Q ⟨m, env, S, hK, eH, hS, hV, h⟩ => ?_
  · rw [star_all hs']
    show (true && true && decide ((e :: es).length + 0 + 0 < 30)) = true
    simp
    simp at hlen
    omega
  · subst eH
    simp only [wE] at h
    refine tE_of hK hS hV (Ev.refl m) h fun m1 x S1 v e1 hS1 r1 hV1 h1 => ?_
    refine ⟨by rw [← hK, ← e1.k]; exact bmT_rd hS1 r1 h1.1, ?_⟩
    refine tEs_of (e1.k.trans hK) hS1 hV1 e1 h1.2 fun m2 y S2 w e2 hS2 r2 hV2 h2 => ?_
    exact ⟨m2, S2, v, w, (e1.trans e2).k.trans hK, rfl, hS2, r1.up (e2.up hS1), r2, bmW_mono (fun z S3 h3 => liftQ.ev (e1.trans e2) (fun _ _ _ q => q) h3) h2⟩
end
end Mi

set_option maxHeartbeats 4000000
namespace Mi
open PySem PySem.Spec L2 PyProof.Rows
/-! ### isinstance -/
def tyS : Ty → String
  | .int => "int"
  | .bool => "bool"
  | .str => "str"
  | .tuple => "tuple"
  | .list => "list"
  | .dict => "dict"
  | .cls c => c
  | .exc c _ => c
def TyU (cl : Cl) : Ty → Value → Prop
  | .cls c, u => ∃ C, cl c C ∧ u = .ref C
  | .exc _ _, _ => True
  | t, u => u = .type (tyS t)
section
variable {P : Pg} {cl : Cl} {k : Nat} {X : Cx} {W : WX} {sc : Ko} {m : Sm} {S : Hm}
theorem tag_B {K : PySem.W.Frag} (ln : LnI K cl) {v : Val} {tag : String} (ht : tag ∈ ["NoneType", "int", "bool", "str", "tuple", "list", "dict"]) (hx : ∀ c sb, isTy v S (.exc c sb) = none) (hc : ∀ c b, isTy v S (.cls c) = some b → b = false)
    (h1 : ∀ b, isTy v S .int = some b → kitB tag "int" = some b) (h2 : ∀ b, isTy v S .bool = some b → kitB tag "bool" = some b) (h3 : ∀ b, isTy v S .str = some b → kitB tag "str" = some b)
    (h4 : ∀ b, isTy v S .tuple = some b → kitB tag "tuple" = some b) (h5 : ∀ b, isTy v S .list = some b → kitB tag "list" = some b) (h6 : ∀ b, isTy v S .dict = some b → kitB tag "dict" = some b) :
    ∀ t b u, isTy v S t = some b → TyU cl t u → PySem.W.kitOne K (.type tag) u = some b := by
  intro t b u h hu
  cases t with
  | cls c =>
    obtain ⟨C, hC, rfl⟩ := hu
    rw [hc c b h]
    exact ln.isC c C hC tag ht
  | exc c sb => rw [hx] at h; cases h
  | int => cases hu; exact kit_ty (h1 b h)
  | bool => cases hu; exact kit_ty (h2 b h)
  | str => cases hu; exact kit_ty (h3 b h)
  | tuple => cases hu; exact kit_ty (h4 b h)
  | list => cases hu; exact kit_ty (h5 b h)
  | dict => cases hu; exact kit_ty (h6 b h)
theorem kbs : kitB "NoneType" "int" = some false ∧ kitB "NoneType" "bool" = some false ∧ kitB "NoneType" "str" = some false ∧ kitB "NoneType" "tuple" = some false ∧ kitB "NoneType" "list" = some false ∧ kitB "NoneType" "dict" = some false := by decide +kernel
theorem kbb : kitB "bool" "int" = some true ∧ kitB "bool" "bool" = some true ∧ kitB "bool" "str" = some false ∧ kitB "bool" "tuple" = some false ∧ kitB "bool" "list" = some false ∧ kitB "bool" "dict" = some false := by decide +kernel
theorem kbi : kitB "int" "int" = some true ∧ kitB "int" "bool" = some false ∧ kitB "int" "str" = some false ∧ kitB "int" "tuple" = some false ∧ kitB "int" "list" = some false ∧ kitB "int" "dict" = some false := by decide +kernel
theorem kbt : kitB "str" "int" = some false ∧ kitB "str" "bool" = some false ∧ kitB "str" "str" = some true ∧ kitB "str" "tuple" = some false ∧ kitB "str" "list" = some false ∧ kitB "str" "dict" = some false := by decide +kernel
theorem kbu : kitB "tuple" "int" = some false ∧ kitB "tuple" "bool" = some false ∧ kitB "tuple" "str" = some false ∧ kitB "tuple" "tuple" = some true ∧ kitB "tuple" "list" = some false ∧ kitB "tuple" "dict" = some false := by decide +kernel
theorem kbl : kitB "list" "int" = some false ∧ kitB "list" "bool" = some false ∧ kitB "list" "str" = some false ∧ kitB "list" "tuple" = some false ∧ kitB "list" "list" = some true ∧ kitB "list" "dict" = some false := by decide +kernel
theorem kbd : kitB "dict" "int" = some false ∧ kitB "dict" "bool" = some false ∧ kitB "dict" "str" = some false ∧ kitB "dict" "tuple" = some false ∧ kitB "dict" "list" = some false ∧ kitB "dict" "dict" = some true := by decide +kernel
theorem tag_rd (ln : LnI m.K cl) (lc : ∀ c C, cl c C → Cls m.K C) (hS : SH cl m S) {v : Val} {x : V} (r : RD m v x) (hv : ∀ c, v ≠ .exc c) (hk : ∀ n c fs, v = .ref n → S[n]? ≠ some (.lck (.ins c fs))) {t : Ty} {b : Bool} (h : isTy v S t = some b) : ∃ tg, TyX m.K m.H x tg ∧ ∀ t b u, isTy v S t = some b → TyU cl t u → PySem.W.kitOne m.K tg u = some b := by
  cases r with
  | non => exact ⟨_, .base .non, tag_B ln (by decide) (fun _ _ => rfl) (fun c b h => by simp [isTy] at h; exact h) (fun b h => by simp [isTy] at h; subst h; exact kbs.1) (fun b h => by simp [isTy] at h; subst h; exact kbs.2.1) (fun b h => by simp [isTy] at h; subst h; exact kbs.2.2.1) (fun b h => by simp [isTy] at h; subst h; exact kbs.2.2.2.1) (fun b h => by simp [isTy] at h; subst h; exact kbs.2.2.2.2.1) (fun b h => by simp [isTy] at h; subst h; exact kbs.2.2.2.2.2)⟩
  | bl z => exact ⟨_, .base (.bl z), tag_B ln (by decide) (fun _ _ => rfl) (fun c b h => by simp [isTy] at h; exact h) (fun b h => by simp [isTy] at h; subst h; exact kbb.1) (fun b h => by simp [isTy] at h; subst h; exact kbb.2.1) (fun b h => by simp [isTy] at h; subst h; exact kbb.2.2.1) (fun b h => by simp [isTy] at h; subst h; exact kbb.2.2.2.1) (fun b h => by simp [isTy] at h; subst h; exact kbb.2.2.2.2.1) (fun b h => by simp [isTy] at h; subst h; exact kbb.2.2.2.2.2)⟩
  | int z => exact ⟨_, .base (.int z), tag_B ln (by decide) (fun _ _ => rfl) (fun c b h => by simp [isTy] at h; exact h) (fun b h => by simp [isTy] at h; subst h; exact kbi.1) (fun b h => by simp [isTy] at h; subst h; exact kbi.2.1) (fun b h => by simp [isTy] at h; subst h; exact kbi.2.2.1) (fun b h => by simp [isTy] at h; subst h; exact kbi.2.2.2.1) (fun b h => by simp [isTy] at h; subst h; exact kbi.2.2.2.2.1) (fun b h => by simp [isTy] at h; subst h; exact kbi.2.2.2.2.2)⟩
  | str z => exact ⟨_, .base (.str _), tag_B ln (by decide) (fun _ _ => rfl) (fun c b h => by simp [isTy] at h; exact h) (fun b h => by simp [isTy] at h; subst h; exact kbt.1) (fun b h => by simp [isTy] at h; subst h; exact kbt.2.1) (fun b h => by simp [isTy] at h; subst h; exact kbt.2.2.1) (fun b h => by simp [isTy] at h; subst h; exact kbt.2.2.2.1) (fun b h => by simp [isTy] at h; subst h; exact kbt.2.2.2.2.1) (fun b h => by simp [isTy] at h; subst h; exact kbt.2.2.2.2.2)⟩
  | @tup a xs ds hq rs =>
    have fin : ∀ t b u, isTy (.tup ds) S t = some b → TyU cl t u → PySem.W.kitOne m.K (.type "tuple") u = some b := tag_B ln (by decide) (fun _ _ => rfl) (fun c b h => by simp [isTy] at h; exact h) (fun b h => by simp [isTy] at h; subst h; exact kbu.1) (fun b h => by simp [isTy] at h; subst h; exact kbu.2.1) (fun b h => by simp [isTy] at h; subst h; exact kbu.2.2.1) (fun b h => by simp [isTy] at h; subst h; exact kbu.2.2.2.1) (fun b h => by simp [isTy] at h; subst h; exact kbu.2.2.2.2.1) (fun b h => by simp [isTy] at h; subst h; exact kbu.2.2.2.2.2)
    rcases hq with (hq | ⟨o, hq⟩) | ⟨o, its, n, hk, hc, hd, hz, hv⟩
    · exact ⟨_, .base (.tup hq), fin⟩
    · exact ⟨_, .fTuple hq, fin⟩
    · exact ⟨_, .kTuple hk hc, fin⟩
  | @ref n a ha =>
    have hx : ∀ c sb, isTy (.ref n) S (.exc c sb) = none := fun c sb => by
      simp only [isTy]
      split
      · rename_i heq
        exact absurd heq (hk _ _ _ rfl)
      · rfl
    have fl : (∀ c b, isTy (.ref n) S (.cls c) = some b → b = false) → (∀ b, isTy (.ref n) S .list = some b → b = true) → (∀ b, isTy (.ref n) S .dict = some b → b = false) → ∀ t b u, isTy (.ref n) S t = some b → TyU cl t u → PySem.W.kitOne m.K (.type "list") u = some b := fun hc h1 h2 =>
      tag_B ln (by decide) hx hc (fun b h => by simp [isTy] at h; subst h; exact kbl.1) (fun b h => by simp [isTy] at h; subst h; exact kbl.2.1) (fun b h => by simp [isTy] at h; subst h; exact kbl.2.2.1) (fun b h => by simp [isTy] at h; subst h; exact kbl.2.2.2.1) (fun b h => by rw [h1 b h]; exact kbl.2.2.2.2.1) (fun b h => by rw [h2 b h]; exact kbl.2.2.2.2.2)
    have fd : (∀ c b, isTy (.ref n) S (.cls c) = some b → b = false) → (∀ b, isTy (.ref n) S .list = some b → b = false) → (∀ b, isTy (.ref n) S .dict = some b → b = true) → ∀ t b u, isTy (.ref n) S t = some b → TyU cl t u → PySem.W.kitOne m.K (.type "dict") u = some b := fun hc h1 h2 =>
      tag_B ln (by decide) hx hc (fun b h => by simp [isTy] at h; subst h; exact kbd.1) (fun b h => by simp [isTy] at h; subst h; exact kbd.2.1) (fun b h => by simp [isTy] at h; subst h; exact kbd.2.2.1) (fun b h => by simp [isTy] at h; subst h; exact kbd.2.2.2.1) (fun b h => by rw [h1 b h]; exact kbd.2.2.2.2.1) (fun b h => by rw [h2 b h]; exact kbd.2.2.2.2.2)
    have hn : n < S.length := by rw [← hS.len]; exact (List.getElem?_eq_some_iff.mp ha).1
    have hob := hS.ob n S[n] a (List.getElem?_eq_getElem hn) ha
    have e : S[n]? = some S[n] := List.getElem?_eq_getElem hn
    generalize hoo : S[n] = oo at hob e
    cases oo with
    | lst ds =>
      obtain ⟨vs, hq, _⟩ := hob
      exact ⟨_, .base (.lst hq), fl (fun c b h => by simp [isTy, e] at h; exact h) (fun b h => by simp [isTy, e] at h; exact h) (fun b h => by simp [isTy, e] at h; exact h)⟩
    | dic ds =>
      obtain ⟨vs, hq, _⟩ := hob
      exact ⟨_, .base (.dK hq), fd (fun c b h => by simp [isTy, e] at h; exact h) (fun b h => by simp [isTy, e] at h; exact h) (fun b h => by simp [isTy, e] at h; exact h)⟩
    | ins c fs =>
      obtain ⟨C, dx, gs, hq, hC, _⟩ := hob
      obtain ⟨i1, i2, i3, i4⟩ := ln.isT c C hC
      refine ⟨_, .base (.ins hq (lc c C hC) i1 i2 i3 i4), fun t b u h hu => ?_⟩
      have nb : ∀ s ∈ ["int", "bool", "str", "tuple", "list", "dict"], PySem.W.kitOne m.K (.ref C) (.type s) = some false := ln.isB c C hC
      cases t with
      | cls c' =>
        obtain ⟨C', hC', rfl⟩ := hu
        simp [isTy, e] at h
        rw [← h]
        exact ln.isCC c C c' C' hC hC'
      | int => cases hu; simp [isTy, e] at h; subst h; exact nb _ (by decide)
      | bool => cases hu; simp [isTy, e] at h; subst h; exact nb _ (by decide)
      | str => cases hu; simp [isTy, e] at h; subst h; exact nb _ (by decide)
      | tuple => cases hu; simp [isTy, e] at h; subst h; exact nb _ (by decide)
      | list => cases hu; simp [isTy, e] at h; subst h; exact nb _ (by decide)
      | dict => cases hu; simp [isTy, e] at h; subst h; exact nb _ (by decide)
      | exc c' sb => rw [hx] at h; cases h
    | lck o =>
      cases o with
      | lst ds =>
        have fin : ∀ t b u, isTy (.ref n) S t = some b → TyU cl t u → PySem.W.kitOne m.K (.type "list") u = some b := fl (fun c b h => by simp [isTy, e] at h) (fun b h => by simp [isTy, e] at h; exact h) (fun b h => by simp [isTy, e] at h; exact h)
        rcases hob with ⟨o, vs, hq, _⟩ | ⟨o, its, n', vs, hk, hc, _⟩
        · exact ⟨_, .base (.frz hq), fin⟩
        · exact ⟨_, .kList hk hc, fin⟩
      | dic ds =>
        obtain ⟨o, vs, hq, _⟩ := hob
        exact ⟨_, .fDict hq, fd (fun c b h => by simp [isTy, e] at h) (fun b h => by simp [isTy, e] at h; exact h) (fun b h => by simp [isTy, e] at h; exact h)⟩
      | ins c fs => exact absurd e (hk n c fs rfl)
      | lck _ => exact hob.elim
  | exc hz => exact absurd rfl (hv _)
/-- a type's name, as an expression -/
structure TyN (P : Pg) (X : Cx) (cl : Cl) (t : Ty) (e : Expr) (c : V) (u : Value) : Prop where
  pe : PE X e (tC c)
  un : TyU cl t u
  cv : ClsV c u
  ux : ∀ n sb, t = .exc n sb → ∀ d ∈ P.excs, ∀ D, X.mg (Str.ofString d) = some (.ref D) → PySem.W.kitOne X.K (.ref D) u = some (decide (d ∈ sb))
theorem tyN_B {t : Ty} {s : String} {p : Pos} (xo : XO P cl X k sc W) (hs : s ∈ ["len", "abs", "min", "max", "int", "str", "list", "tuple", "dict", "sum", "sorted", "all", "any", "range", "enumerate", "zip", "reversed", "isinstance", "bool"]) (hg : Gl X (Str.ofString s)) (hb : bootBuiltins (Str.ofString s) = some (.type s)) (hn : Str.ofString s ≠ ("__name__" : Str)) (hd : (Str.ofString s == ("__debug__" : Str)) = false) (hu : TyU cl t (.type s)) (hx : ∀ n sb, t ≠ .exc n sb) :
    TyN P X cl t (.Name (Str.ofString s) p) (.ty s) (.type s) := ⟨pe_bltn hg (xo.ln.bi s hs) hb rfl hn hd, hu, .ty s, fun n sb e => absurd e (hx n sb)⟩
theorem ty_boot (t : Ty) (h : ∀ c, t ≠ .cls c) (h' : ∀ c sb, t ≠ .exc c sb) : bootBuiltins (Str.ofString (tyS t)) = some (.type (tyS t)) ∧ Str.ofString (tyS t) ≠ ("__name__" : Str) ∧ (Str.ofString (tyS t) == ("__debug__" : Str)) = false ∧ tyS t ∈ ["len", "abs", "min", "max", "int", "str", "list", "tuple", "dict", "sum", "sorted", "all", "any", "range", "enumerate", "zip", "reversed", "isinstance", "bool"] := by
  cases t with
  | cls c => exact absurd rfl (h c)
  | exc c sb => exact absurd rfl (h' c sb)
  | int => decide +kernel
  | bool => decide +kernel
  | str => decide +kernel
  | tuple => decide +kernel
  | list => decide +kernel
  | dict => decide +kernel
theorem ve_boot : bootBuiltins (Str.ofString "ValueError") = some (.type "ValueError") ∧ Str.ofString "ValueError" ≠ ("__name__" : Str) ∧ (Str.ofString "ValueError" == ("__debug__" : Str)) = false := by decide +kernel
theorem tyN_of {t : Ty} {p : Pos} (xo : XO P cl X k sc W) (hg : Gl X (Str.ofString (tyS t))) (hcls : ∀ c, t = .cls c → (∃ C, cl c C) ∧ (Str.ofString c == ("__debug__" : Str)) = false) (hexc : ∀ c sb, t = .exc c sb → sb = P.excs.filter (P.sub · c) ∧ (c = "ValueError" ∨ (c ∈ P.excs ∨ c ∈ P.exts) ∧ (Str.ofString c == ("__debug__" : Str)) = false)) : ∃ c u, TyN P X cl t (.Name (Str.ofString (tyS t)) p) c u := by
  cases t with
  | cls c =>
    obtain ⟨⟨C, hC⟩, hd⟩ := hcls c rfl
    exact ⟨_, _, pe_glob hg (xo.ln.clc c C hC).1 (v := .ref C) rfl hd, ⟨C, hC, rfl⟩, .own C, fun n sb e => by cases e⟩
  | exc c sb =>
    obtain ⟨rfl, h⟩ := hexc c sb rfl
    have mem : ∀ d, decide (d ∈ P.excs.filter (P.sub · c)) = (decide (d ∈ P.excs) && P.sub d c) := fun d => by
      by_cases h1 : d ∈ P.excs <;> by_cases h2 : P.sub d c = true <;> simp [h1, h2]
    rcases h with rfl | ⟨hc | hc, hd⟩
    · refine ⟨.ty "ValueError", _, pe_bltn hg xo.lx.ve ve_boot.1 rfl ve_boot.2.1 ve_boot.2.2, trivial, .ty "ValueError", fun n sb e d hd D hD => ?_⟩
      cases e
      rw [mem, decide_eq_true hd, Bool.true_and]
      exact (xo.lx.ex d hd D hD).2
    · obtain ⟨C, hC, _⟩ := xo.ln.exc c hc
      refine ⟨_, _, pe_glob hg hC (v := .ref C) rfl hd, trivial, .own C, fun n sb e d hd D hD => ?_⟩
      cases e
      rw [mem, decide_eq_true hd, Bool.true_and]
      exact (xo.lx.sb d hd c hc D C hD hC).1
    · obtain ⟨C, hC, hk⟩ := xo.lx.tx c hc
      refine ⟨_, _, pe_glob hg hC (v := .ref C) rfl hd, trivial, .own C, fun n sb e d hd D hD => ?_⟩
      cases e
      rw [mem, decide_eq_true hd, Bool.true_and]
      exact hk d hd D hD
  | int => obtain ⟨h1, h2, h3, h4⟩ := ty_boot .int (by simp) (by simp); exact ⟨_, _, tyN_B xo h4 hg h1 h2 h3 rfl (by simp)⟩
  | bool => obtain ⟨h1, h2, h3, h4⟩ := ty_boot .bool (by simp) (by simp); exact ⟨_, _, tyN_B xo h4 hg h1 h2 h3 rfl (by simp)⟩
  | str => obtain ⟨h1, h2, h3, h4⟩ := ty_boot .str (by simp) (by simp); exact ⟨_, _, tyN_B xo h4 hg h1 h2 h3 rfl (by simp)⟩
  | tuple => obtain ⟨h1, h2, h3, h4⟩ := ty_boot .tuple (by simp) (by simp); exact ⟨_, _, tyN_B xo h4 hg h1 h2 h3 rfl (by simp)⟩
  | list => obtain ⟨h1, h2, h3, h4⟩ := ty_boot .list (by simp) (by simp); exact ⟨_, _, tyN_B xo h4 hg h1 h2 h3 rfl (by simp)⟩
  | dict => obtain ⟨h1, h2, h3, h4⟩ := ty_boot .dict (by simp) (by simp); exact ⟨_, _, tyN_B xo h4 hg h1 h2 h3 rfl (by simp)⟩
/-- a value's type, also of the handled exception -/
def TyQ (X : Cx) (H : Hp) (x : V) (t : Value) : Prop := TyX X.K H x t ∨ (∃ (q : Addr × Obj) (D : Addr), q ∈ X.pn ∧ x = .ref q.1 ∧ t = .ref D ∧ ExcC X.K D ∧ L2N.Zn (.ref D) none q.2 ∧ ∃ vs, q.2.data = .fields vs) ∨ (∃ (a D : Addr), x = .ref a ∧ t = .ref D ∧ ExcC X.K D ∧ H a = some (.ext (IsExn a D))) ∨ ∃ (a : Addr) (w : World) (es : List (V × NestedKey)), x = .ref a ∧ t = .type "dict" ∧ H a = some (.ext (KdAt w a es))
theorem kit_q {pins : List (Addr × Obj)} {σ : L2.St} {H : Hp} {s : Shared} {x : V} {u t : Value} (I : Inv X pins σ H s) (r : RelV x u) (h : TyQ X H x t) : ∃ Z : Heap → Prop, PySem.W.KitX X.K u t Z ∧ Z s.heap ∧ u ≠ .builtin "__main__.__loader__#opaque" := by
  rcases h with h | ⟨q, D, hq, rfl, rfl, C, hz, vs, hv⟩ | ⟨a0, D, rfl, rfl, C, hx⟩ | ⟨a0, w0, es0, rfl, rfl, hx⟩
  · exact kit_of I r h
  rotate_left 2
  · obtain rfl : u = .ref a0 := r
    obtain ⟨⟨_, o, arr, ep, h1, h2, _⟩, _⟩ := I.hok a0 _ hx
    exact ⟨_, PySem.W.kitx_dict, ⟨o, h1, h2.1⟩, fun z => nomatch z⟩
  rotate_right
  · obtain rfl : u = .ref a0 := r
    obtain ⟨⟨ox, hg0, hz, vs, hv⟩, _⟩ := I.hok a0 _ hx
    refine ⟨_, PySem.W.handS_kitx_exc C.hg C.hk C.hs C.hd C.ha C.hn C.ht C.hm (ox := ox), ?_, fun z => nomatch z⟩
    obtain ⟨oc, od, oda, osl⟩ := ox
    obtain ⟨h1, h2, _⟩ := hz
    dsimp only at h1 h2 hv
    subst h1 h2 hv
    exact ⟨hg0, rfl, rfl, trivial⟩
  · obtain rfl : u = .ref q.1 := r
    have hget := (I.pin q (List.mem_append_left _ hq)).1
    refine ⟨_, PySem.W.handS_kitx_exc C.hg C.hk C.hs C.hd C.ha C.hn C.ht C.hm (ox := q.2), ?_, fun z => nomatch z⟩
    obtain ⟨a, oc, od, oda, osl⟩ := q
    obtain ⟨h1, h2, _⟩ := hz
    dsimp only at h1 h2 hv
    subst h1 h2 hv
    exact ⟨hget, rfl, rfl, trivial⟩
theorem isq_one : CallR X (.builtin "isinstance") fun xs H Q => ∃ (x c : V) (t u : Value) (b : Bool), xs = [x, c] ∧ ClsV c u ∧ TyQ X H x t ∧ PySem.W.kitOne X.K t u = some b ∧ Q (.bl b) H := by
  rintro pins s σ H xs us Q I r ⟨x, c, t, u, b, rfl, hk, ht, he, hq⟩
  obtain ⟨v1, v2, rfl, ra, rb⟩ := vals2 r
  obtain rfl := hk.eq rb
  obtain ⟨Z, z1, z2, z3⟩ := kit_q I ra ht
  exact PySem.W.kia_one z1 I.kIn z2 he z3 fun tk => ⟨.bl b, _, I.tok tk, rfl, hq⟩
theorem isq_tup : CallR X (.builtin "isinstance") fun xs H Q => ∃ (x : V) (tp : Addr) (cs : List V) (t : Value) (us : List Value) (b : Bool), xs = [x, .ref tp] ∧ H tp = some (.tup cs) ∧ Paired ClsV cs us ∧ TyQ X H x t ∧ PySem.W.kitAny X.K t us = some b ∧ Q (.bl b) H := by
  rintro pins s σ H xs us Q I r ⟨x, tp, cs, t, ws, b, rfl, hT, hk, ht, he, hq⟩
  obtain ⟨v1, v2, rfl, ra, rb⟩ := vals2 r
  obtain rfl : v2 = .ref tp := rb
  obtain ⟨Z, z1, z2, z3⟩ := kit_q I ra ht
  obtain ⟨_, its, rv, ob, g1, g2, n, g3⟩ := (show ObjOk X.prog X.w H s.heap tp (.tup cs) from I.hok tp _ hT)
  obtain rfl := ClsV.all hk rv
  obtain ⟨oc, od, dt, sl⟩ := ob
  dsimp only at g2 g3
  subst g2 g3
  exact PySem.W.kia_tup z1 I.kIn z2 g1 he z3 fun tk => ⟨.bl b, _, I.tok tk, rfl, hq⟩
theorem tag_q (xo : XO P cl X k sc W) (hK : m.K = X.K) (hS : SH cl m S) {v : Val} {x : V} (r : RD m v x) {t : Ty} {b : Bool} (h : isTy v S t = some b) : ∃ tg, TyQ X m.H x tg ∧ ∀ t b e c u, isTy v S t = some b → TyN P X cl t e c u → PySem.W.kitOne X.K tg u = some b := by
  by_cases hv : ∃ c, v = .exc c
  · obtain ⟨c, rfl⟩ := hv
    cases r with
    | @exc a _ hz =>
      have hcl := hS.z a c hz
      cases hh : sc.hot with
      | false => exact absurd hcl (xo.zc (by rw [hh]; rfl) a c)
      | true =>
        obtain ⟨q, c0, _, hq, hu, ho, D, hD, hzn, hf⟩ := xo.zx hh
        obtain ⟨rfl, rfl⟩ := hu a c hcl
        refine ⟨.ref D, .inr (.inl ⟨q, D, hq, rfl, rfl, (xo.lx.ex c ho D hD).1, hzn, hf⟩), fun t b e c' u h1 h2 => ?_⟩
        cases t with
        | exc n sb =>
          have := h2.ux n sb rfl c ho D hD
          simp only [isTy, Option.some.injEq] at h1
          rw [this, h1]
        | _ => simp [isTy] at h1
  · have hv' : ∀ c, v ≠ .exc c := fun c e => hv ⟨c, e⟩
    by_cases hk : ∃ n c fs, v = .ref n ∧ S[n]? = some (.lck (.ins c fs))
    · obtain ⟨n, c, fs, rfl, hn⟩ := hk
      cases r with
      | @ref _ a ha =>
      rcases hS.ob n _ a hn ha with ⟨hnc, h0, C, q, g⟩ | ⟨hkc, es0, q, g⟩
      rotate_left
      · subst hkc
        refine ⟨.type "dict", .inr (.inr (.inr ⟨a, _, _, rfl, rfl, q⟩)), fun t b e c' u h1 h2 => ?_⟩
        cases t with
        | exc n' sb => simp [isTy, hn] at h1
        | int => have := h2.un; cases this; simp [isTy] at h1; subst h1; exact kit_ty kbd.1
        | bool => have := h2.un; cases this; simp [isTy] at h1; subst h1; exact kit_ty kbd.2.1
        | str => have := h2.un; cases this; simp [isTy] at h1; subst h1; exact kit_ty kbd.2.2.1
        | tuple => have := h2.un; cases this; simp [isTy] at h1; subst h1; exact kit_ty kbd.2.2.2.1
        | list => simp [isTy, hn] at h1
        | dict => simp [isTy, hn] at h1
        | cls c2 => simp [isTy, hn] at h1
      obtain ⟨hc, hC⟩ := (xo.lx.kx c C).mp g
      refine ⟨.ref C, .inr (.inr (.inl ⟨a, C, rfl, rfl, (xo.lx.ex c hc C hC).1, q⟩)), fun t b e c' u h1 h2 => ?_⟩
      cases t with
      | exc n' sb =>
        have := h2.ux n' sb rfl c hc C hC
        simp only [isTy, hn, if_neg hnc, Option.some.injEq] at h1
        rw [this, h1]
      | int => have := h2.un; cases this; simp [isTy] at h1; subst h1; exact xo.lx.bt c hc C hC _ (by decide)
      | bool => have := h2.un; cases this; simp [isTy] at h1; subst h1; exact xo.lx.bt c hc C hC _ (by decide)
      | str => have := h2.un; cases this; simp [isTy] at h1; subst h1; exact xo.lx.bt c hc C hC _ (by decide)
      | tuple => have := h2.un; cases this; simp [isTy] at h1; subst h1; exact xo.lx.bt c hc C hC _ (by decide)
      | list => simp [isTy, hn] at h1
      | dict => simp [isTy, hn] at h1
      | cls c2 => simp [isTy, hn] at h1
    have hk' : ∀ n c fs, v = .ref n → S[n]? ≠ some (.lck (.ins c fs)) := fun n c fs e z => hk ⟨n, c, fs, e, z⟩
    obtain ⟨tg, h1, h2⟩ := tag_rd (by rw [hK]; exact xo.isi) (fun c C hC => by rw [hK]; exact (xo.ln.clc c C hC).2) hS r hv' hk' h
    rw [hK] at h1 h2
    exact ⟨tg, .inl h1, fun t b e c u h3 h4 => h2 t b u h3 h4.un⟩
variable {a b c o i : E} {ea eb ec eo ei : Expr} {pos : Pos}
theorem isi_boot : bootBuiltins (Str.ofString "isinstance") = some (.builtin "isinstance") := by decide +kernel
theorem e_isi1 {t : Ty} {et : Expr} {p : Pos} {cv : V} {u : Value} (xo : XO P cl X k sc W) (hg : Gl X (Str.ofString "isinstance")) (ht : TyN P X cl t et cv u) (hs : notStar ea = true) (hs2 : notStar et = true) (ha : PE X ea (tE P cl k X W a)) :
    PE X (.Call (.Name (Str.ofString "isinstance") p) [ea, et] [] pos) (tE P cl k X W (.isi a [t])) := by
  have hA : PA X [ea, et] (tCons (tE P cl k X W a) (tCons (tC cv) tNil)) := pa_cons ha (pa_cons ht.pe pa_nil (star_cons hs2)) (star_cons hs)
  refine PE.imp (pe_callB isq_one hg (xo.ln.bi "isinstance" (by decide)) isi_boot hA (by decide +kernel) (by decide +kernel) (star_cons hs) (star_any (by simp [hs2]))) fun σ H Q ⟨m, env, S, hK, eH, hS, hV, h⟩ => ?_
  subst eH
  simp only [wE] at h
  refine tE_of hK hS hV (Ev.refl m) h fun m1 x S1 v e1 hS1 r1 hV1 h1 => ?_
  obtain ⟨bs, h2, h3⟩ := h1
  rw [List.mapM_cons] at h2
  cases hb : isTy v S1 t with
  | none => rw [hb] at h2; simp at h2
  | some b =>
    rw [hb] at h2
    simp at h2
    subst h2
    have hK1 := e1.k.trans hK
    obtain ⟨tg, ty, kt⟩ := tag_q xo hK1 hS1 r1 hb
    refine ⟨x, cv, tg, u, b, rfl, ht.cv, ty, kt t b _ _ u hb ht, ?_⟩
    have := h3 m1 _ e1 hS1 (.bl _)
    simpa using this
/-- several types -/
inductive TyNs (P : Pg) (X : Cx) (cl : Cl) : List Ty → List Expr → List V → List Value → Prop where
  | nil : TyNs P X cl [] [] [] []
  | cons {t e c u ts es cs us} : TyN P X cl t e c u → notStar e = true → TyNs P X cl ts es cs us → TyNs P X cl (t :: ts) (e :: es) (c :: cs) (u :: us)
def tVs : List V → TA
  | [] => tNil
  | c :: cs => tCons (tC c) (tVs cs)
theorem TyNs.pa {ts es cs us} (h : TyNs P X cl ts es cs us) : PA X es (tVs cs) := by
  induction h with
  | nil => exact pa_nil
  | cons h1 h2 h3 ih => exact pa_cons h1.pe ih (star_cons h2)
theorem tVs_run : ∀ (cs : List V) (σ : L2.St) (H : Hp) (Q : List V → Hp → Prop), Q cs H → tVs cs σ H Q
  | [], σ, H, Q, h => h
  | c :: cs, σ, H, Q, h => tVs_run cs σ H _ h
theorem TyNs.cls {ts es cs us} (h : TyNs P X cl ts es cs us) : Paired ClsV cs us := by
  induction h with
  | nil => exact .nil
  | cons h1 _ _ ih => exact .cons h1.cv ih
theorem TyNs.len {ts es cs us} (h : TyNs P X cl ts es cs us) : cs.length = ts.length := by
  induction h with
  | nil => rfl
  | cons _ _ _ ih => simp [ih]
theorem TyNs.any {ts es cs us} (h : TyNs P X cl ts es cs us) {K : PySem.W.Frag} {tg : Value} {v : Val} (kt : ∀ t b e c u, isTy v S t = some b → TyN P X cl t e c u → PySem.W.kitOne K tg u = some b) : ∀ {bs : List Bool}, ts.mapM (isTy v S) = some bs → PySem.W.kitAny K tg us = some (bs.any id) := by
  induction h with
  | nil => intro bs h; simp at h; subst h; rfl
  | @cons t e c u ts es cs us h1 h2 h3 ih =>
    intro bs h
    rw [List.mapM_cons] at h
    cases hb : isTy v S t with
    | none => rw [hb] at h; simp at h
    | some b =>
      rw [hb] at h
      cases hr : ts.mapM (isTy v S) with
      | none => rw [hr] at h; simp at h
      | some bs' =>
        rw [hr] at h
        simp at h
        subst h
        refine kitAny_cons (kt t b _ _ u hb h1) (fun e => ?_) (fun e => by subst e; simp)
        subst e
        simpa using ih hr
theorem TyX.up {K : PySem.W.Frag} {H : Hp} {p : Addr} {o : HO} (hp : H p = none) {x : V} {t : Value} (h : TyX K H x t) : TyX K (upd H p o) x t := by
  have k : ∀ {a : Addr} {u : HO}, H a = some u → upd H p o a = some u := fun {a u} e => by rw [upd_ne (ne_of_none e hp)]; exact e
  cases h with
  | base b =>
    cases b with
    | non => exact .base .non
    | bl y => exact .base (.bl y)
    | int i => exact .base (.int i)
    | str y => exact .base (.str y)
    | flt y => exact .base (.flt y)
    | lst e => exact .base (.lst (k e))
    | frz e => exact .base (.frz (k e))
    | tup e => exact .base (.tup (k e))
    | dK e => exact .base (.dK (k e))
    | dT e => exact .base (.dT (k e))
    | ins e c h1 h2 h3 h4 => exact .base (.ins (k e) c h1 h2 h3 h4)
  | byt b => exact .byt b
  | set e => exact .set (k e)
  | kList e c => exact .kList e c
  | kTuple e c => exact .kTuple e c
  | kDict e c => exact .kDict e c
  | fTuple e => exact .fTuple (k e)
  | fDict e => exact .fDict (k e)
theorem e_isiT {ts : List Ty} {es : List Expr} {cs : List V} {us : List Value} {p p2 : Pos} {kk} (xo : XO P cl X k sc W) (hg : Gl X (Str.ofString "isinstance")) (ht : TyNs P X cl ts es cs us) (h0 : ts ≠ []) (hlen : ts.length ≤ sizeLine) (hs : notStar ea = true) (ha : PE X ea (tE P cl k X W a)) :
    PE X (.Call (.Name (Str.ofString "isinstance") p) [ea, .Tuple es kk p2] [] pos) (tE P cl k X W (.isi a ts)) := by
  have hA : PA X [ea, .Tuple es kk p2] (tCons (tE P cl k X W a) (tCons (tTup (tVs cs)) tNil)) := pa_cons ha (pa_cons (pe_tup ht.pa) pa_nil (star_cons rfl)) (star_cons hs)
  refine PE.imp (PE.kf (pe_callB isq_tup hg (xo.ln.bi "isinstance" (by decide)) isi_boot hA (by decide +kernel) (by decide +kernel) (star_cons hs) (star_any (by simp [notStar])))) fun σ H Q ⟨m, env, S, hK, eH, hS, hV, h⟩ => ?_
  subst eH
  simp only [wE] at h
  refine tE_of hK hS hV (Ev.refl m) h fun m1 x S1 v e1 hS1 r1 hV1 h1 => ?_
  obtain ⟨bs, h2, h3⟩ := h1
  refine tVs_run cs σ m1.H _ ⟨by rw [ht.len]; exact hlen, fun p hp => ?_⟩
  have hK1 := e1.k.trans hK
  cases ts with
  | nil => exact absurd rfl h0
  | cons t ts =>
  have hb : ∃ b, isTy v S1 t = some b := by
    rw [List.mapM_cons] at h2
    cases hb : isTy v S1 t with
    | none => rw [hb] at h2; simp at h2
    | some b => exact ⟨b, rfl⟩
  obtain ⟨b, hb⟩ := hb
  obtain ⟨tg, ty, kt⟩ := tag_q xo hK1 hS1 r1 hb
  refine ⟨x, p, cs, tg, us, bs.any id, rfl, upd_same, ht.cls, ty.imp (TyX.up hp) (Or.imp id (Or.imp (fun ⟨a, D, h1, h2, h3, h4⟩ => ⟨a, D, h1, h2, h3, by rw [upd_ne (ne_of_none h4 hp)]; exact h4⟩) fun ⟨a, w, es, h1, h2, h4⟩ => ⟨a, w, es, h1, h2, by rw [upd_ne (ne_of_none h4 hp)]; exact h4⟩)), ht.any kt h2, fun kf => ?_⟩
  exact h3 { m1 with H := upd m1.H p (.tup cs) } _ (e1.trans (Ev.outside hp)) (hS1.outside hp (by rw [hK1]; exact kf)) (.bl _)
/-! ### dict displays -/
variable {ps : Ps} {pos : Pos}
theorem e_dic0 : PE X (.Dict [] [] pos) (tE P cl k X W (.dic .nil)) :=
  PE.imp (PE.kf pe_dnewK) fun σ H Q ⟨m, env, S, hK, eH, hS, hV, h⟩ => by
    subst eH
    simp only [wE, wPs] at h
    exact fun p hp kf => mk_dic hS .nil hp (by rw [hK]; exact kf) h
/-- the pairs' readings -/
def tPs (P : Pg) (cl : Cl) (k : Nat) (X : Cx) (W : WX) : Ps → List (TE × TE)
  | .nil => []
  | .cons a b ps => (tE P cl k X W a, tE P cl k X W b) :: tPs P cl k X W ps
def Ps.len : Ps → Nat
  | .nil => 0
  | .cons _ _ ps => ps.len + 1
theorem tPs_of : ∀ (ps : Ps) {m m0 : Sm} {env : Env} {S : Hm} {σ : L2.St} {Q1 : List (Key × Val) → Hm → Prop} {R : List (V × V) → Hp → Prop}, m.K = X.K → SH cl m S → SV m env σ → Ev m0 m → wPs P.con (callW P k) (liftX cl X.mg m0 fun c d H => W c d σ H) ps env S Q1 →
    (∀ m1 kvs (ws : List (L2.Key × V)) S1, Ev m m1 → SH cl m1 S1 → RKs m1 kvs ws → kvs.length = ps.len → Q1 kvs S1 → R (ws.map fun kv => (kV kv.1, kv.2)) m1.H) → tPairs (tPs P cl k X W ps) σ m.H R
  | .nil, m, m0, env, S, σ, Q1, R, hK, hS, hV, e0, h, hq => by
    simp only [wPs] at h
    exact hq m [] [] S (Ev.refl m) hS .nil rfl h
  | .cons a b ps, m, m0, env, S, σ, Q1, R, hK, hS, hV, e0, h, hq => by
    simp only [wPs] at h
    refine tE_of hK hS hV e0 h fun m1 x S1 v e1 hS1 r1 hV1 h1 => ?_
    refine tE_of (e1.k.trans hK) hS1 hV1 (e0.trans e1) h1 fun m2 y S2 w e2 hS2 r2 hV2 h2 => ?_
    obtain ⟨q, hk, h2⟩ := h2
    have ex := key_rd r1 hk
    refine tPs_of ps ((e1.trans e2).k.trans hK) hS2 hV2 ((e0.trans e1).trans e2) h2 fun m3 kvs ws S3 e3 hS3 r3 hl h3 => ?_
    have := hq m3 ((q, w) :: kvs) ((kk q, y) :: ws) S3 ((e1.trans e2).trans e3) hS3 (.cons ⟨rfl, r2.up (e3.up hS2)⟩ r3) (by rw [List.length_cons, hl]; rfl) h3
    rw [ex]
    exact this
theorem merge_rd {m : Sm} : ∀ {kvs : List (Key × Val)} {ws : List (L2.Key × V)} {d : List (Key × Val)} {e : List (L2.Key × V)}, RKs m kvs ws → RKs m d e → RKs m (kvs.foldl (fun d p => putK d p.1 p.2) d) (mergeK e ws) := by
  intro kvs ws d e r
  unfold RKs at r
  induction r generalizing d e with
  | nil => intro h; exact h
  | @cons p q ps qs h t ih =>
    intro h0
    have := h0.put p.1 h.2
    rw [← h.1] at this
    exact ih this
/-- .. with the written part in mind -/
theorem pe_dispK {keys : List (Option Expr)} {values : List Expr} {trs : List (TE × TE)} (h : PPs X pos keys values trs) (hall : keys.all (·.isSome) = true) (hl : keys.length = values.length) (h0 : keys ≠ []) (h15 : keys.length ≤ 15) :
    PE X (.Dict keys values pos) (fun σ H Q => ∀ p, H p = none → KF X.K (upd H p (.dK [])) → tPairs trs σ (upd H p (.dK [])) fun ps H2 => H2 p = some (.dK []) ∧ ∃ kvs : List (L2.Key × V), ps = kvs.map (fun kv => (kV kv.1, kv.2)) ∧ kvs.length ≤ 15 ∧ (KF X.K (upd H2 p (.dK (mergeK [] kvs))) → Q (.ref p) (upd H2 p (.dK (mergeK [] kvs))))) := by
  refine ⟨fun pins s σ H Q I q => ?_⟩
  have I1 := I.laid (a := s.heap.objs.size) (o := .dK []) (h' := s.heap.push { cls := .type "dict", data := .dict #[] }) (t' := s.toks) (fun _ _ q => Heap.get?_push_of_some _ q) (Nat.le_refl _) (dk_empty s.heap I.big)
  have q1 := q _ (I.hok.fresh (Nat.le_refl s.heap.objs.size)) (kfree I1)
  refine wpAny_Dict_walk (knd := mixKind X.prog X.w) hall hl h0 h15 (thn (h.run pins _ σ _ _ I1 q1) fun ws s2 ⟨ps, H2, I2, rel, e, kvs, ep, lk, q2⟩ => ?_)
  subst ep
  obtain ⟨rs, c, rk⟩ := carries_of (P := X.prog) (w := X.w) rel
  obtain ⟨z, hd, vs0, r0, dd⟩ := dk_of I2.hok e
  cases r0
  refine ⟨rs, c, dd, fun h' dd' hs => ?_⟩
  have hz : (mergeK [] kvs).length ≤ sizeLine := by
    have h1 := length_mergeK kvs []
    rw [sizeLine_eq]
    simp at h1
    omega
  have I3 := d_write (t' := s2.toks + ws.length) I2 (by rw [e]; exact True.intro) hs (let ⟨q, _, _, hq, _⟩ := dd'; ⟨q, hq⟩) (dk_new hz hd (rk.merge .nil) dd')
  exact ⟨.ref s.heap.objs.size, _, I3, rfl, q2 (kfree I3)⟩
theorem e_dic {keys : List (Option Expr)} {values : List Expr} (h : PPs X pos keys values (tPs P cl k X W ps)) (hall : keys.all (·.isSome) = true) (hl : keys.length = values.length) (h0 : keys ≠ []) (h15 : keys.length ≤ 15) (hlen : ps.len ≤ 15) :
    PE X (.Dict keys values pos) (tE P cl k X W (.dic ps)) :=
  PE.imp (pe_dispK h hall hl h0 h15) fun σ H Q ⟨m, env, S, hK, eH, hS, hV, h⟩ p hp kf => by
    subst eH
    simp only [wE] at h
    rw [← hK] at kf
    have e1 : Ev m { m with H := upd m.H p (.dK []) } := Ev.outside hp
    have hS1 := hS.outside hp kf
    have np1 : p ∉ m.em := hS.free hp (kf_free kf (upd_same (H := m.H) (a := p)))
    refine tPs_of (m := { m with H := upd m.H p (.dK []) }) ps hK hS1 (hV.up (e1.up hS)) e1 h fun m2 kvs ws S2 e2 hS2 r2 hlk h2 => ?_
    have hp2 : m2.H p = some (.dK []) := e2.keep p _ (upd_same (H := m.H) (a := p)) np1
    have np2 : p ∉ m2.em := fun z => by
      have := e2.new p z np1
      rw [show (({ m with H := upd m.H p (.dK []) } : Sm).H p) = some (.dK []) from upd_same (H := m.H) (a := p)] at this
      cases this
    refine ⟨hp2, ws, rfl, by rw [← r2.length, hlk]; exact hlen, fun kf2 => ?_⟩
    have e12 := e1.trans e2
    have e3 : Ev m { m2 with H := upd m2.H p (.dK (mergeK [] ws)), em := m2.em ++ [p] } := by
      obtain ⟨l, hl⟩ := e12.em
      refine ⟨e12.k, e12.z, ⟨l ++ [p], ?_⟩, fun b o hb nb => ?_, fun b hb nb => ?_, fun b q u hb => ?_⟩
      rotate_right
      · show upd m2.H p _ b = some _
        rw [upd_ne (ne_of_none hb hp)]
        exact e12.frz b q u hb
      · show m2.em ++ [p] = m.em ++ (l ++ [p])
        rw [hl, List.append_assoc]
      · show upd m2.H p _ b = some o
        rw [upd_ne (ne_of_none hb hp)]
        exact e12.keep b o hb nb
      · rcases List.mem_append.mp hb with z | z
        · exact e12.new b z nb
        · have : b = p := by simpa using z
          rw [this]; exact hp
    have up3 : Up m2 { m2 with H := upd m2.H p (.dK (mergeK [] ws)), em := m2.em ++ [p] } := by
      refine ⟨fun a xs h => ?_, ⟨[p], rfl⟩, fun _ h => h⟩
      rcases h with (h | ⟨o, h⟩) | h
      · have : a ≠ p := fun z => by rw [z, hp2] at h; cases h
        exact .inl (.inl (by show upd m2.H p _ a = _; rw [upd_ne this]; exact h))
      · have : a ≠ p := fun z => by rw [z, hp2] at h; cases h
        exact .inl (.inr ⟨o, by show upd m2.H p _ a = _; rw [upd_ne this]; exact h⟩)
      · exact .inr h
    have hS3 : SH cl { m2 with H := upd m2.H p (.dK (mergeK [] ws)), em := m2.em ++ [p] } (S2 ++ [.dic (kvs.foldl (fun d p => putK d p.1 p.2) [])]) := by
      refine ⟨by simp [hS2.len], ?_, by rw [e12.k, hK]; exact kf2, fun n u a e1 e2 => ?_, hS2.z⟩
      · show (m2.em ++ [p]).Nodup
        rw [List.nodup_append]
        refine ⟨hS2.nd, by simp, fun x hx y hy => ?_⟩
        have : y = p := by simpa using hy
        rw [this]
        exact fun z => np2 (z ▸ hx)
      · have e2 : (m2.em ++ [p])[n]? = some a := e2
        by_cases hn : n < S2.length
        · rw [List.getElem?_append_left hn] at e1
          rw [List.getElem?_append_left (by rw [hS2.len]; exact hn)] at e2
          exact (hS2.ob n u a e1 e2).up (m' := { m2 with H := upd m2.H p (.dK (mergeK [] ws)), em := m2.em ++ [p] }) up3 rfl (upd_ne fun z => np2 (z ▸ List.mem_of_getElem? e2))
        · have hn2 : n = S2.length := by
            have := (List.getElem?_eq_some_iff.mp e1).1
            simp at this
            omega
          subst hn2
          rw [List.getElem?_append_right (Nat.le_refl _)] at e1
          rw [← hS2.len, List.getElem?_append_right (Nat.le_refl _)] at e2
          simp at e1 e2
          subst e1 e2
          exact ⟨_, upd_same, merge_rd (r2.up up3) .nil⟩
    refine h2 { m2 with H := upd m2.H p (.dK (mergeK [] ws)), em := m2.em ++ [p] } (.ref p) e3 hS3 (.ref ?_)
    show (m2.em ++ [p])[S2.length]? = some p
    rw [← hS2.len]
    simp
end
end Mi

set_option maxHeartbeats 4000000
/-! zip of two, each a list or a tuple -/
namespace Mi
open PySem PySem.Spec L2 PyProof.Rows
/-- t: a tuple; else a list -/
def Sqx (t : Bool) (K : PySem.W.Frag) (H : Hp) (a : Addr) (xs : List V) : Prop := if t = true then SqT K H a xs else SqL K H a xs
def IterX (t : Bool) (h : Heap) (it a : Addr) (i : Nat) : Prop := if t = true then h.IsTupleIter it a i else h.IsListIter it a i
def AtX (t : Bool) (h : Heap) (a : Addr) (its : Array Value) : Prop := if t = true then h.IsTuple a its else h.IsList a its
theorem Sqx.inv {X : Cx} {pins : List (Addr × Obj)} {σ : L2.St} {H : Hp} {s : Shared} {t : Bool} {a : Addr} {xs : List V} (I : Inv X pins σ H s) (h : Sqx t X.K H a xs) : ∃ its : List Value, Vals xs its ∧ AtX t s.heap a its.toArray := by
  cases t with
  | true => obtain ⟨its, r, p, _⟩ := I.tuple h; exact ⟨its, r, p⟩
  | false => obtain ⟨its, r, p, _⟩ := I.list h; exact ⟨its, r, p.isList⟩
theorem Sqx.inj {X : Cx} {pins : List (Addr × Obj)} {σ : L2.St} {H : Hp} {s : Shared} {t : Bool} {a : Addr} {xs ys : List V} (I : Inv X pins σ H s) (h : Sqx t X.K H a xs) (h' : Sqx t X.K H a ys) : xs = ys := by
  cases t with
  | true => exact I.tuple_inj h h'
  | false => exact I.list_inj h h'
theorem IterX.obj {t : Bool} {h : Heap} {it a : Addr} {i : Nat} (st : IterX t h it a i) : ∃ o, h.get? it = some o ∧ ∀ v, o.data ≠ .cell v := by
  cases t with
  | true => obtain ⟨o, e, _, d⟩ := st; exact ⟨o, e, fun v q => by rw [d] at q; cases q⟩
  | false => obtain ⟨o, e, _, d⟩ := st; exact ⟨o, e, fun v q => by rw [d] at q; cases q⟩
theorem IterX.at {t : Bool} {h h' : Heap} {it a : Addr} {i : Nat} (st : IterX t h it a i) (k : ∀ o, h.get? it = some o → h'.get? it = some o) : IterX t h' it a i := by
  cases t with
  | true => exact Heap.IsTupleIter.at st k
  | false => exact Heap.IsListIter.at st k
theorem AtX.lt {t : Bool} {h : Heap} {a : Addr} {its : Array Value} (p : AtX t h a its) : a < h.objs.size := by
  cases t with
  | true => obtain ⟨o, e, _⟩ := id p; exact Heap.lt_size e
  | false => obtain ⟨o, e, _⟩ := id p; exact Heap.lt_size e
theorem drawsX {prog : Program} {w : World} {A : Around} (hh : A.handled = none) (t : Bool) (it a : Addr) (hne : a ≠ it) (items : Array Value) :
    Draws prog w A it [it, a] items.size (fun i v => items[i]? = some v) (fun i h => IterX t h it a i ∧ AtX t h a items) := by
  cases t with
  | true => exact Draws.tuple hh it a hne items
  | false => exact Draws.list hh it a hne items
theorem sep_of {z TI TO i1 i2 a b : Addr} (D : ZipApart z TI TO i1 i2 a b) : ZipSep2 z TI TO i1 i2 [i1, a] [i2, b] where
  TIz := D.TIz
  TOz := D.TOz
  TITO := D.TITO
  TIi1 := D.TIi1
  mem1 := by simp
  zf1 := by simp [D.i1z.symm, D.l1z.symm]
  Tf1 := by simp [D.TOi1, D.l1TO.symm]
  TIi2 := D.TIi2
  mem2 := by simp
  zf2 := by simp [D.i2z.symm, D.l2z.symm]
  Tf2 := by simp [D.TOi2, D.l2TO.symm]
  sep1_2 := by simp [D.i12, D.l2i1.symm]
  sep2_1 := by simp [D.i12.symm, D.l1i2.symm]
/-- the items at a and b as they stand at each turn, in new pairs -/
def Itx (K : PySem.W.Frag) (t u : Bool) (a b : Addr) : It :=
  ⟨fun i H => ∃ (xs ys : List V) (x y : V), Sqx t K H a xs ∧ Sqx u K H b ys ∧ xs[i]? = some x ∧ ys[i]? = some y,
    fun i H v H' => ∃ T x y, v = .ref T ∧ H T = none ∧ H' = upd H T (.tup [x, y]) ∧ (∀ xs, Sqx t K H a xs → xs[i]? = some x) ∧ ∀ ys, Sqx u K H b ys → ys[i]? = some y,
    fun i H => ∃ xs ys : List V, Sqx t K H a xs ∧ Sqx u K H b ys ∧ ((xs.length = i ∧ i ≤ ys.length) ∨ (ys.length = i ∧ i ≤ xs.length))⟩
theorem turn_zipX {P : Program} {w : World} {K : PySem.W.Frag} {elts : List Expr} {kk : Nat} {tpos : Pos} {t u : Bool} {a b z TI TO i1 i2 : Addr} (D : ZipApart z TI TO i1 i2 a b) :
    Turn P w K (.Tuple elts kk tpos) (Itx K t u a b) [z, TI, TO, i1, i2] z (fun i h => IsZip h z TI TO .none ∧ IsPair h TI (.ref i1) (.ref i2) ∧ (∃ x y, IsPair h TO x y) ∧ IterX t h i1 a i ∧ IterX u h i2 b i) where
  mem := .head _
  obj := fun i h st c hc => by
    obtain ⟨hz, hTI, ⟨x, y, hTO⟩, h1, h2⟩ := st
    simp only [List.mem_cons, List.not_mem_nil, or_false] at hc
    rcases hc with rfl | rfl | rfl | rfl | rfl
    · exact ⟨_, hz, fun v q => nomatch q⟩
    · exact ⟨_, hTI, fun v q => nomatch q⟩
    · exact ⟨_, hTO, fun v q => nomatch q⟩
    · exact h1.obj
    · exact h2.obj
  keep := fun i h h' ⟨hz, hTI, ⟨x, y, hTO⟩, h1, h2⟩ k => ⟨k z (by simp) _ hz, k TI (by simp) _ hTI, ⟨x, y, k TO (by simp) _ hTO⟩, h1.at fun o => k i1 (by simp) o, h2.at fun o => k i2 (by simp) o⟩
  item := by
    intro X hP hw hK calm i pins s σ H E I free st go
    subst hP hw hK
    obtain ⟨hz, hTI, ⟨x0, y0, hTO⟩, h1, h2⟩ := st
    obtain ⟨xs, ys, x, y, q1, q2, hx, hy⟩ := go
    obtain ⟨us, r1, p1⟩ := q1.inv I
    obtain ⟨vs, r2, p2⟩ := q2.inv I
    obtain ⟨c, hc, rc⟩ := r1.get hx
    obtain ⟨d, hd, rd⟩ := r2.get hy
    have zl : z < s.heap.objs.size := Heap.lt_size hz
    have hh : X.A.in1.handled = none := I.ok.hd calm
    refine wpAny_pyNext_zipD2_item (i := i) (sep_of D) (drawsX hh t i1 a D.l1i1 us.toArray) (drawsX hh u i2 b D.l2i2 vs.toArray) hz hTI hTO ⟨h1, p1⟩ ⟨h2, p2⟩ (by simpa using (List.getElem?_eq_some_iff.mp hc).1) (by simpa using (List.getElem?_eq_some_iff.mp hd).1) fun c' d' h' tk ec ed z' TO' ⟨n1, _⟩ ⟨n2, _⟩ hT hsz hk => ?_
    have ec : c' = c := by
      have ec : us.toArray[i]? = some c' := ec
      have hc' : us.toArray[i]? = some c := by simpa using hc
      rw [hc'] at ec
      exact (Option.some.inj ec).symm
    have ed : d' = d := by
      have ed : vs.toArray[i]? = some d' := ed
      have hd' : vs.toArray[i]? = some d := by simpa using hd
      rw [hd'] at ed
      exact (Option.some.inj ed).symm
    subst ec ed
    refine ⟨_, rfl, wpAny_letOwnedTupleGo_zip (s := { s with heap := h', toks := tk }) z' fun g zg sb => ?_⟩
    have sb2 : ∀ c, c ≠ z → g.get? c = h'.get? c := sb.2
    have tup : ObjOk X.prog X.w (upd H s.heap.objs.size (.tup [x, y])) g s.heap.objs.size (.tup [x, y]) :=
      ⟨by show 2 ≤ sizeLine; decide, _, .cons rc (.cons rd .nil), ⟨_, (sb2 _ (Nat.ne_of_gt zl)).trans hT, rfl, _, rfl⟩⟩
    have I1 : Inv X pins σ (upd H s.heap.objs.size (.tup [x, y])) { s with heap := g, toks := tk } :=
      I.turnedNew (t' := tk) (ch := [z, TI, TO, i1, i2]) (fun c o hb q => by
        simp only [List.mem_cons, List.not_mem_nil, or_false, not_or] at hb
        exact (sb2 c hb.1).trans (hk c o hb.1 hb.2.2.1 hb.2.2.2.1 hb.2.2.2.2 q)) free (Nat.le_refl _) tup
    refine ⟨.ref s.heap.objs.size, _, I1, rfl, ⟨_, x, y, rfl, I.hok.fresh (Nat.le_refl _), rfl, fun l hl => by rw [Sqx.inj I hl q1]; exact hx, fun l hl => by rw [Sqx.inj I hl q2]; exact hy⟩,
      ⟨zg, (sb2 _ D.TIz).trans (hk _ _ D.TIz D.TITO D.TIi1 D.TIi2 hTI), ⟨_, _, (sb2 _ D.TOz).trans TO'⟩, n1.at fun o q => (sb2 _ D.i1z).trans q, n2.at fun o q => (sb2 _ D.i2z).trans q⟩, fun c hcm => ?_⟩
    have lt : c < s.heap.objs.size := by
      simp only [List.mem_cons, List.not_mem_nil, or_false] at hcm
      rcases hcm with rfl | rfl | rfl | rfl | rfl
      · exact zl
      · exact Heap.lt_size hTI
      · exact Heap.lt_size hTO
      · exact let ⟨_, e, _⟩ := h1.obj; Heap.lt_size e
      · exact let ⟨_, e, _⟩ := h2.obj; Heap.lt_size e
    rw [upd_ne (Nat.ne_of_lt lt)]
    exact (free c hcm).1
  done := by
    intro X hP hw hK calm i pins s σ H E I free st stop
    subst hP hw hK
    obtain ⟨hz, hTI, ⟨x0, y0, hTO⟩, h1, h2⟩ := st
    obtain ⟨xs, ys, q1, q2, over⟩ := stop
    obtain ⟨us, r1, p1⟩ := q1.inv I
    obtain ⟨vs, r2, p2⟩ := q2.inv I
    have l1 := r1.length
    have l2 := r2.length
    have hh : X.A.in1.handled = none := I.ok.hd calm
    refine wpAny_pyNext_zipD2_end (i := i) (sep_of D) (drawsX hh t i1 a D.l1i1 us.toArray) (drawsX hh u i2 b D.l2i2 vs.toArray) hz hTI hTO ⟨h1, p1⟩ ⟨h2, p2⟩ (by rw [List.size_toArray]; omega) (by rw [List.size_toArray]; omega) (by rw [List.size_toArray, List.size_toArray]; omega) fun h' tk hk => ⟨rfl, ?_⟩
    exact I.turnedL (t' := tk) (ch := [z, TI, TO, i1, i2]) (fun c o hb q => by
      simp only [List.mem_cons, List.not_mem_nil, or_false, not_or] at hb
      exact hk c o hb.1 hb.2.2.1 hb.2.2.2.1 hb.2.2.2.2 q) free
  self := fun A i s Q E st h => wpAny_pyIter_zip st.1 h
theorem beginsX (t : Bool) (a : Addr) (items : Array Value) : ∃ o, Begins (.ref a) o (fun h => AtX t h a items) ∧ ∀ h it, h.get? it = some o → IterX t h it a 0 := by
  cases t with
  | true => exact ⟨_, begins_tuple a items, fun h it e => ⟨_, e, rfl, rfl⟩⟩
  | false => exact ⟨_, begins_list a items, fun h it e => ⟨_, e, rfl, rfl⟩⟩
def iZipX (K : PySem.W.Frag) (ta : TA) : TI := fun σ H R => ta σ H fun vs H1 => ∃ t u a b xs ys, vs = [.ref a, .ref b] ∧ Sqx t K H1 a xs ∧ Sqx u K H1 b ys ∧ R (Itx K t u a b) H1
theorem pi_zipX {X : Cx} {e e2 : Expr} {ta : TA} {p pos tpos : Pos} {elts : List Expr} {kk : Nat} (hg : Gl X "zip") (hm : X.mg "zip" = none) (ha : PA X [e, e2] ta)
    (hs : starEach [e, e2] X.env = (false, eval e X.env) :: starEach [e2] X.env) (hpl : (backTo pos (starEach [e2] X.env)).any (·.1) = false) :
    PI X (.Tuple elts kk tpos) (.Call (.Name "zip" p) [e, e2] [] pos) (iZipX X.K ta) := by
  refine ⟨fun pins s σ H R I h => ?_⟩
  refine Call_ (ld_blt I hg hm PyProof.Rows.boot_zip (PyProof.Rows.callWith_type1 (thn (ha.run pos pins s σ H _ I h) fun us s1 ⟨vs, H1, I1, r1, q1⟩ => ?_) hs hpl))
  obtain ⟨t, u, a, b, xs, ys, rfl, q1, q2, go⟩ := q1
  cases r1 with
  | cons ra r1 =>
    cases r1 with
    | cons rb r1 =>
      cases r1
      cases ra
      cases rb
      obtain ⟨us, _, p1⟩ := q1.inv I1
      obtain ⟨vs, _, p2⟩ := q2.inv I1
      obtain ⟨o1, B1, it1⟩ := beginsX t a us.toArray
      obtain ⟨o2, B2, it2⟩ := beginsX u b vs.toArray
      have new : ∀ c, c ∈ [s1.heap.objs.size + 4, s1.heap.objs.size + 2, s1.heap.objs.size + 3, s1.heap.objs.size, s1.heap.objs.size + 1] → FpOk X pins H1 c := fun c hc => by
        have le : s1.heap.objs.size ≤ c := by
          simp only [List.mem_cons, List.not_mem_nil, or_false] at hc
          rcases hc with rfl | rfl | rfl | rfl | rfl
          · exact Nat.le_add_right _ _
          · exact Nat.le_add_right _ _
          · exact Nat.le_add_right _ _
          · exact Nat.le_refl _
          · exact Nat.le_add_right _ _
        exact I1.fpOk le (I1.hok.fresh le)
      refine zip_begins2 B1 B2 p1 p2 fun h' hz hTI hTO g1 g2 hsz hk => wpAny_pyIter_zip hz ?_
      exact ⟨_, _, _, _, H1, rfl, I1.kept (t' := s1.toks) hk, turn_zipX (PySem.W.ktu_apart s1.heap.objs.size a b p1.lt p2.lt), ⟨hz, hTI, ⟨_, _, hTO⟩, it1 _ _ g1, it2 _ _ g2⟩, new, go⟩
end Mi

set_option maxHeartbeats 4000000
/-! list(zip(a, b)), each a list or a tuple: the pairs stay, so zip makes a new tuple at each turn behind the first -/
namespace Mi
open PySem PySem.Spec L2 PyProof.Rows
/-- a zip on its way: its tuple free, or the one given out last still there -/
structure ZS (t u : Bool) (z TI TO i1 i2 a b : Addr) (us vs : Array Value) (i : Nat) (h : Heap) : Prop where
  zp : IsZip h z TI TO .none ∨ ∃ T f oT, IsZipHeld h z TI TO T f ∧ h.get? T = some oT ∧ T ≠ z ∧ T ≠ i1 ∧ T ≠ i2
  ti : IsPair h TI (.ref i1) (.ref i2)
  to : ∃ x y, IsPair h TO x y
  g1 : IterX t h i1 a i
  g2 : IterX u h i2 b i
  a1 : AtX t h a us
  a2 : AtX u h b vs
section
variable {prog : Program} {w : World} {A : Around} {E : Value → Shared → Prop} {s : Shared} {t u : Bool} {z TI TO i1 i2 a b : Addr} {us vs : Array Value} {i : Nat}
theorem AtX.at {t : Bool} {h h' : Heap} {a : Addr} {its : Array Value} (p : AtX t h a its) (k : ∀ o, h.get? a = some o → h'.get? a = some o) : AtX t h' a its := by
  cases t with
  | true => exact Heap.IsTuple.at p k
  | false => exact Heap.IsList.at p k
theorem ZS.keep {h h' : Heap} (st : ZS t u z TI TO i1 i2 a b us vs i h) (k : ∀ c o, h.get? c = some o → h'.get? c = some o) : ZS t u z TI TO i1 i2 a b us vs i h' := by
  obtain ⟨zp, ti, ⟨x, y, to⟩, g1, g2, a1, a2⟩ := st
  refine ⟨?_, k _ _ ti, ⟨x, y, k _ _ to⟩, g1.at fun o => k _ o, g2.at fun o => k _ o, a1.at fun o => k _ o, a2.at fun o => k _ o⟩
  rcases zp with e | ⟨T, f, oT, e1, e2, e3⟩
  · exact .inl (k _ _ e)
  · exact .inr ⟨T, f, oT, k _ _ e1, k _ _ e2, e3⟩
theorem held_item (D : ZipApart z TI TO i1 i2 a b) (hh : A.handled = none) {T : Addr} {f : Bool} {oT : Obj} {x y : Value} {Q : Value → Shared → Prop} (iz : IsZipHeld s.heap z TI TO T f) (aT : s.heap.get? T = some oT) (ti : IsPair s.heap TI (.ref i1) (.ref i2))
    (g1 : IterX t s.heap i1 a i) (a1 : AtX t s.heap a us) (g2 : IterX u s.heap i2 b i) (a2 : AtX u s.heap b vs) (ex : us[i]? = some x) (ey : vs[i]? = some y)
    (hQ : ∀ h' tk, IsZipHeld h' z TI TO T true → IterX t h' i1 a (i + 1) → IterX u h' i2 b (i + 1) → IsPair h' s.heap.objs.size x y → h'.objs.size = s.heap.objs.size + 1 →
      (∀ c o, c ≠ z → c ≠ i1 → c ≠ i2 → s.heap.get? c = some o → h'.get? c = some o) → Q (.ref s.heap.objs.size) { s with heap := h', toks := tk }) :
    wpAny (model prog w) A (Builtin.«zip.__next__» ⟨[.ref z], []⟩) (fun fin s' => ∃ v, fin = .done (.ret v) ∧ Q v s') E s := by
  obtain ⟨hp, g, d, tk0, os⟩ := s
  have il1 : i < us.size := (Array.getElem?_eq_some_iff.mp ex).1
  have il2 : i < vs.size := (Array.getElem?_eq_some_iff.mp ey).1
  show wpAny _ _ (field (.ref z) 2 >>= _) _ _ _; refine wpAny_bind (wpAny_field iz rfl (x := .bool false) rfl ?_)
  show wpAny _ _ (field (.ref z) 3 >>= _) _ _ _; refine wpAny_bind (wpAny_field iz rfl (x := .ref TI) rfl ?_)
  refine wpAny_bind (wpAny_seqItems ti rfl ?_); show wpAny _ _ (Builtin.SmallTypes.ownedTupleIsFree (.ref z) >>= _) _ _ _
  refine wpAny_bind (wpAny_tupleHeld_zip iz aT fun q1 iz1 sb1 => ?_)
  replace sb1 : Heap.SameBut z hp q1 := sb1
  simp only [Bool.false_eq_true, if_false]; refine wpAny_bind ?_
  rw [← Array.forIn_toList]; simp only [List.forIn_cons, List.forIn_nil]
  refine wpAny_bind (wpAny_bind (wpAny_holding ?_)); show wpAny _ _ (Builtin.SmallTypes.nextOf (.ref i1) >>= _) _ _ ⟨q1, g, d, tk0, os⟩
  refine wpAny_bind ((drawsX hh t i1 a D.l1i1 us).item i _ _ _ il1 ⟨g1.at fun o e => sb1.extBut _ _ D.i1z e, a1.at fun o e => sb1.extBut _ _ D.l1z e⟩ fun x' q2 tk2 ex' ⟨n1, _⟩ sb2 => wpAny_pure ?_)
  replace sb2 : Heap.SameBut i1 q1 q2 := sb2
  refine wpAny_pure (wpAny_bind (wpAny_bind (wpAny_holding ?_))); show wpAny _ _ (Builtin.SmallTypes.nextOf (.ref i2) >>= _) _ _ ⟨q2, g, d, tk2, os⟩
  refine wpAny_bind ((drawsX hh u i2 b D.l2i2 vs).item i _ _ _ il2 ⟨(g2.at fun o e => sb1.extBut _ _ D.i2z e).at fun o e => sb2.extBut _ _ D.i12.symm e, (a2.at fun o e => sb1.extBut _ _ D.l2z e).at fun o e => sb2.extBut _ _ D.l2i1 e⟩ fun y' q3 tk3 ey' ⟨n2, _⟩ sb3 => wpAny_pure ?_)
  replace sb3 : Heap.SameBut i2 q2 q3 := sb3
  refine wpAny_pure (wpAny_pure ?_)
  obtain rfl : x' = x := by
    have e : us[i]? = some x' := ex'
    rw [ex] at e
    exact (Option.some.inj e).symm
  obtain rfl : y' = y := by
    have e : vs[i]? = some y' := ey'
    rw [ey] at e
    exact (Option.some.inj e).symm
  show wpAny _ _ (newTuple [x', y'] >>= _) _ _ _; refine wpAny_bind (wpAny_newTuple ?_)
  have zq : q3.objs.size = hp.objs.size := by rw [sb3.1, sb2.1, sb1.1]
  have kq : ∀ c o, c ≠ z → c ≠ i1 → c ≠ i2 → hp.get? c = some o → q3.get? c = some o := fun c o c1 c2 c3 e => sb3.extBut _ _ c3 (sb2.extBut _ _ c2 (sb1.extBut _ _ c1 e))
  have iz3 : IsZipHeld q3 z TI TO T true := sb3.extBut _ _ D.i2z.symm (sb2.extBut _ _ D.i1z.symm iz1)
  refine wpAny_pure ⟨_, rfl, ?_⟩; show Q (.ref q3.objs.size) ⟨q3.push _, g, d, tk3, os⟩
  have zp : (q3.push { cls := .type "tuple", data := .seq #[x', y'] }).objs.size = q3.objs.size + 1 := Heap.size_push ..
  have np : IsPair (q3.push { cls := .type "tuple", data := .seq #[x', y'] }) q3.objs.size x' y' := Heap.get?_push_size _ rfl
  rw [zq] at zp np ⊢
  exact hQ _ _ (Heap.get?_push_of_some _ iz3) ((n1.at fun o e => sb3.extBut _ _ D.i12 e).at fun o e => Heap.get?_push_of_some _ e) (n2.at fun o e => Heap.get?_push_of_some _ e) np zp fun c o c1 c2 c3 e => Heap.get?_push_of_some _ (kq c o c1 c2 c3 e)
theorem held_end (D : ZipApart z TI TO i1 i2 a b) (hh : A.handled = none) {T : Addr} {f : Bool} {oT : Obj} {Q : Fin → Shared → Prop} (iz : IsZipHeld s.heap z TI TO T f) (aT : s.heap.get? T = some oT) (ti : IsPair s.heap TI (.ref i1) (.ref i2))
    (g1 : IterX t s.heap i1 a i) (a1 : AtX t s.heap a us) (g2 : IterX u s.heap i2 b i) (a2 : AtX u s.heap b vs) (l1 : i ≤ us.size) (l2 : i ≤ vs.size) (over : i = us.size ∨ i = vs.size)
    (hE : ∀ h' tk e, (∀ c o, c ≠ z → c ≠ i1 → c ≠ i2 → s.heap.get? c = some o → h'.get? c = some o) → (∃ o, h'.get? e = some o ∧ o.cls = .type "StopIteration") → E (.ref e) { s with heap := h', toks := tk }) :
    wpAny (model prog w) A (Builtin.«zip.__next__» ⟨[.ref z], []⟩) Q E s := by
  obtain ⟨hp, g, d, tk0, os⟩ := s
  show wpAny _ _ (field (.ref z) 2 >>= _) _ _ _; refine wpAny_bind (wpAny_field iz rfl (x := .bool false) rfl ?_)
  show wpAny _ _ (field (.ref z) 3 >>= _) _ _ _; refine wpAny_bind (wpAny_field iz rfl (x := .ref TI) rfl ?_)
  refine wpAny_bind (wpAny_seqItems ti rfl ?_); show wpAny _ _ (Builtin.SmallTypes.ownedTupleIsFree (.ref z) >>= _) _ _ _
  refine wpAny_bind (wpAny_tupleHeld_zip iz aT fun q1 iz1 sb1 => ?_)
  replace sb1 : Heap.SameBut z hp q1 := sb1
  simp only [Bool.false_eq_true, if_false]; refine wpAny_bind ?_
  rw [← Array.forIn_toList]; simp only [List.forIn_cons, List.forIn_nil]
  refine wpAny_bind (wpAny_bind (wpAny_holding ?_)); show wpAny _ _ (Builtin.SmallTypes.nextOf (.ref i1) >>= _) _ _ ⟨q1, g, d, tk0, os⟩
  have d1 := drawsX (prog := prog) (w := w) hh t i1 a D.l1i1 us
  have d2 := drawsX (prog := prog) (w := w) hh u i2 b D.l2i2 vs
  have st1 : IterX t q1 i1 a i ∧ AtX t q1 a us := ⟨g1.at fun o e => sb1.extBut _ _ D.i1z e, a1.at fun o e => sb1.extBut _ _ D.l1z e⟩
  by_cases hi : i < us.size
  · refine wpAny_bind (d1.item i _ _ _ hi st1 fun x' q2 tk2 ex' ⟨n1, _⟩ sb2 => wpAny_pure ?_)
    replace sb2 : Heap.SameBut i1 q1 q2 := sb2
    have e2 : i = vs.size := by omega
    refine wpAny_pure (wpAny_bind (wpAny_bind (wpAny_holding ?_))); show wpAny _ _ (Builtin.SmallTypes.nextOf (.ref i2) >>= _) _ _ ⟨q2, g, d, tk2, os⟩
    refine wpAny_bind (d2.done ⟨q2, g, d, tk2, os⟩ _ _ (by rw [← e2]; exact ⟨(g2.at fun o e => sb1.extBut _ _ D.i2z e).at fun o e => sb2.extBut _ _ D.i12.symm e, (a2.at fun o e => sb1.extBut _ _ D.l2z e).at fun o e => sb2.extBut _ _ D.l2i1 e⟩) fun q3 e eb st => ?_)
    exact hE q3 tk2 e (fun c o c1 c2 c3 q => eb c o c3 (sb2.extBut _ _ c2 (sb1.extBut _ _ c1 q))) st
  · have e1 : i = us.size := by omega
    refine wpAny_bind (d1.done ⟨q1, g, d, tk0, os⟩ _ _ (by rw [← e1]; exact st1) fun q3 e eb st => ?_)
    exact hE q3 tk0 e (fun c o c1 c2 c3 q => eb c o c2 (sb1.extBut _ _ c1 q)) st
/-- the next pair -/
theorem zs_item (D : ZipApart z TI TO i1 i2 a b) (hh : A.handled = none) {x y : Value} {Q : Option Value → Shared → Prop} (st : ZS t u z TI TO i1 i2 a b us vs i s.heap) (ex : us[i]? = some x) (ey : vs[i]? = some y)
    (hQ : ∀ h' tk, ZS t u z TI TO i1 i2 a b us vs (i + 1) h' → IsPair h' s.heap.objs.size x y → h'.objs.size = s.heap.objs.size + 1 →
      (∀ c o, c ≠ z → c ≠ TO → c ≠ i1 → c ≠ i2 → s.heap.get? c = some o → h'.get? c = some o) → Q (some (.ref s.heap.objs.size)) { s with heap := h', toks := tk }) : wpAny (model prog w) A (pyNext (.ref z)) Q E s := by
  obtain ⟨zp, ti, ⟨x0, y0, to⟩, g1, g2, a1, a2⟩ := st
  have lt : ∀ {c : Addr} {o : Obj}, s.heap.get? c = some o → s.heap.objs.size ≠ c := fun e => Nat.ne_of_gt (Heap.lt_size e)
  have l1 : s.heap.objs.size ≠ i1 := by obtain ⟨_, e, _⟩ := g1.obj; exact lt e
  have l2 : s.heap.objs.size ≠ i2 := by obtain ⟨_, e, _⟩ := g2.obj; exact lt e
  rcases zp with iz | ⟨T, f, oT, iz, aT, Tz, T1, T2⟩
  · refine wpAny_pyNext_zipD2_item (i := i) (sep_of D) (drawsX (A := A.in1) hh t i1 a D.l1i1 us) (drawsX (A := A.in1) hh u i2 b D.l2i2 vs) iz ti to ⟨g1, a1⟩ ⟨g2, a2⟩ (Array.getElem?_eq_some_iff.mp ex).1 (Array.getElem?_eq_some_iff.mp ey).1 fun x' y' h' tk ex' ey' z' to' ⟨n1, m1⟩ ⟨n2, m2⟩ np sz kp => ?_
    obtain rfl : x' = x := by
      have e : us[i]? = some x' := ex'
      rw [ex] at e
      exact (Option.some.inj e).symm
    obtain rfl : y' = y := by
      have e : vs[i]? = some y' := ey'
      rw [ey] at e
      exact (Option.some.inj e).symm
    exact hQ h' tk ⟨.inr ⟨_, false, _, z', np, lt iz, l1, l2⟩, kp _ _ D.TIz D.TITO D.TIi1 D.TIi2 ti, ⟨_, _, to'⟩, n1, n2, m1, m2⟩ np sz kp
  · have ty : s.TypeIs (.ref z) "zip" := ⟨_, iz, rfl⟩
    unfold pyNext
    refine wpAny_bind (wpAny_attempt (wpAny_callSpecial?_slot (name := Str.ofString "__next__") ty F.slot_zip_next
      (wpAny_call_entry F.slot_zip_next ty F.entry_zip_next (held_item (A := A.in1) D hh iz aT ti g1 a1 g2 a2 ex ey fun h' tk z' n1 n2 np sz kp => wpAny_pure (hQ h' tk ⟨.inr ⟨T, true, oT, z', kp _ _ Tz T1 T2 aT, Tz, T1, T2⟩, kp _ _ D.TIz D.TIi1 D.TIi2 ti, ⟨_, _, kp _ _ D.TOz D.TOi1 D.TOi2 to⟩, n1, n2, a1.at fun o e => kp _ _ D.l1z D.l1i1 D.l1i2 e, a2.at fun o e => kp _ _ D.l2z D.l2i1 D.l2i2 e⟩ np sz fun c o c1 _ c2 c3 e => kp c o c1 c2 c3 e)) (F.args_zip_next_1 _))))
theorem zs_end (D : ZipApart z TI TO i1 i2 a b) (hh : A.handled = none) {Q : Option Value → Shared → Prop} (st : ZS t u z TI TO i1 i2 a b us vs i s.heap) (l1 : i ≤ us.size) (l2 : i ≤ vs.size) (over : i = us.size ∨ i = vs.size)
    (hQ : ∀ h' tk, (∀ c o, c ≠ z → c ≠ TO → c ≠ i1 → c ≠ i2 → s.heap.get? c = some o → h'.get? c = some o) → Q none { s with heap := h', toks := tk }) : wpAny (model prog w) A (pyNext (.ref z)) Q E s := by
  obtain ⟨zp, ti, ⟨x0, y0, to⟩, g1, g2, a1, a2⟩ := st
  rcases zp with iz | ⟨T, f, oT, iz, aT, Tz, T1, T2⟩
  · exact wpAny_pyNext_zipD2_end (i := i) (sep_of D) (drawsX (A := A.in1) hh t i1 a D.l1i1 us) (drawsX (A := A.in1) hh u i2 b D.l2i2 vs) iz ti to ⟨g1, a1⟩ ⟨g2, a2⟩ l1 l2 over hQ
  · have ty : s.TypeIs (.ref z) "zip" := ⟨_, iz, rfl⟩
    unfold pyNext
    refine wpAny_bind (wpAny_attempt (wpAny_callSpecial?_slot (name := Str.ofString "__next__") ty F.slot_zip_next
      (wpAny_call_entry F.slot_zip_next ty F.entry_zip_next (held_end (A := A.in1) D hh iz aT ti g1 a1 g2 a2 l1 l2 over fun h' tk e kp ⟨o, he, hc⟩ => ?_) (F.args_zip_next_1 _))))
    refine wpAny_bind (wpAny_isInstance (T := "StopIteration") (b := true) ⟨o, he, hc⟩ isSubtype_stop ?_)
    exact wpAny_pure (hQ h' tk fun c o c1 _ c2 c3 e => kp c o c1 c2 c3 e)
end
theorem zip_no_len : typeLookup (.type "zip") "__len__" = pure none := am_miss_of_fast (by decide +kernel)
theorem zip_no_hint : typeLookup (.type "zip") "__length_hint__" = pure none := am_miss_of_fast (by decide +kernel)
/-- the pairs made so far: rising addresses above lo -/
structure PGz (us vs : Array Value) (lo : Addr) (h : Heap) (ps : List Addr) : Prop where
  up : ps.Pairwise (· < ·)
  hi : ∀ c ∈ ps, lo < c
  tup : ∀ (j : Nat) (c : Addr), ps[j]? = some c → ∃ x y, us[j]? = some x ∧ vs[j]? = some y ∧ IsPair h c x y
theorem PGz.lt {us vs : Array Value} {lo : Addr} {h : Heap} {ps : List Addr} (g : PGz us vs lo h ps) {c : Addr} (hc : c ∈ ps) : c < h.objs.size := by
  obtain ⟨j, hj⟩ := List.mem_iff_getElem?.mp hc
  obtain ⟨_, _, _, _, e⟩ := g.tup j c hj
  exact Heap.lt_size e
theorem PGz.mono {us vs : Array Value} {lo lo' : Addr} {h : Heap} {ps : List Addr} (g : PGz us vs lo h ps) (hl : lo' ≤ lo) : PGz us vs lo' h ps := ⟨g.up, fun c hc => Nat.lt_of_le_of_lt hl (g.hi c hc), g.tup⟩
section
variable {prog : Program} {w : World} {A : Around} {s : Shared} {R : Result → Shared → Prop} {t u : Bool} {z TI TO i1 i2 a b : Addr} {us vs : Array Value}
/-- the cells of a zip lie below a list -/
def Lo (z TI TO i1 i2 a b S : Addr) : Prop := z < S ∧ TI < S ∧ TO < S ∧ i1 < S ∧ i2 < S ∧ a < S ∧ b < S
theorem zl_loop {S : Addr} (D : ZipApart z TI TO i1 i2 a b) (hh : A.handled = none) (lo : Lo z TI TO i1 i2 a b S) (hn : us.size ≤ sizeLine) (res : Value) {h0 : Heap}
    (hR : ∀ h' tk acc c ps, (∀ q o, q ≠ S → q ≠ z → q ≠ TO → q ≠ i1 → q ≠ i2 → h0.get? q = some o → h'.get? q = some o) → h'.get? S = some { cls := .type "list", dict := none, data := .seq acc c, slots := #[] } → ps.length = min us.size vs.size → PGz us vs S h' ps →
      acc.toList = ps.map Value.ref → R (.ok (.ret res)) { s with heap := h', toks := tk }) :
    ∀ (k i : Nat) (h : Heap) (tk c : Nat) (acc : Array Value) (ps : List Addr), min us.size vs.size - i = k → i ≤ min us.size vs.size → ZS t u z TI TO i1 i2 a b us vs i h → (∀ q o, q ≠ S → q ≠ z → q ≠ TO → q ≠ i1 → q ≠ i2 → h0.get? q = some o → h.get? q = some o) →
      h.get? S = some { cls := .type "list", dict := none, data := .seq acc c, slots := #[] } → acc.toList = ps.map Value.ref → ps.length = i → PGz us vs S h ps → codeAny (model prog w) A (.builtin "list.extend.loop" ⟨[.ref S, .ref z, res], []⟩) R { s with heap := h, toks := tk } := by
  obtain ⟨lz, lT, lO, l1, l2, la, lb⟩ := lo
  have ne : ∀ {q : Addr}, q < S → S ≠ q := fun h => Nat.ne_of_gt h
  have nq : ∀ {c q : Addr}, c < S → S < q → q ≠ c := fun h1 h2 => Nat.ne_of_gt (Nat.lt_trans h1 h2)
  have nl : ∀ {q : Addr}, q < S → q ≠ S := fun h => Nat.ne_of_lt h
  intro k
  induction k with
  | zero =>
    intro i h tk c acc ps hk hi st kp gS ea el pg
    refine codeAny_builtin (R := R) F.entry_extend_loop ?_
    rw [Around.under_plainId (A := A) F.plain_extend_loop _]
    show wpAny _ A.in1 (pyNext (.ref z) >>= _) _ _ _
    refine wpAny_bind (zs_end (A := A.in1) (s := { s with heap := h, toks := tk }) D hh st (by omega) (by omega) (by omega) fun h' tk' kp' => ?_)
    refine wpAny_pure (hR h' tk' acc c ps (fun q o n0 n1 n2 n3 n4 e => kp' q o n1 n2 n3 n4 (kp q o n0 n1 n2 n3 n4 e)) (kp' S _ (ne lz) (ne lO) (ne l1) (ne l2) gS) (by omega) ⟨pg.up, pg.hi, fun j q hj => ?_⟩ ea)
    obtain ⟨x, y, ex, ey, e⟩ := pg.tup j q hj
    have hq := pg.hi q (List.mem_of_getElem? hj)
    exact ⟨x, y, ex, ey, kp' q _ (nq lz hq) (nq lO hq) (nq l1 hq) (nq l2 hq) e⟩
  | succ k ih =>
    intro i h tk c acc ps hk hi st kp gS ea el pg
    have s1 : i < us.size := by omega
    have s2 : i < vs.size := by omega
    have as : acc.size = i := by rw [← Array.length_toList, ea, List.length_map, el]
    have lS := Heap.lt_size gS
    refine codeAny_builtin (R := R) F.entry_extend_loop ?_
    rw [Around.under_plainId (A := A) F.plain_extend_loop _]
    show wpAny _ A.in1 (pyNext (.ref z) >>= _) _ _ _
    refine wpAny_bind (zs_item (A := A.in1) (s := { s with heap := h, toks := tk }) D hh st (Array.getElem?_eq_getElem s1) (Array.getElem?_eq_getElem s2) fun h' tk' st' np sz kp' => ?_)
    dsimp only at np sz kp' ⊢
    have gS' := kp' S _ (ne lz) (ne lO) (ne l1) (ne l2) gS
    have up : ∀ q o, q ≠ S → h'.get? q = some o → (h'.update S (Obj.mapSeq (·.push (Value.ref h.objs.size)))).get? q = some o := fun q o n e => (Heap.get?_update_other _ _ (Ne.symm n)).trans e
    show wpAny _ A.in1 (updateSeq S (·.push (Value.ref h.objs.size)) >>= _) _ _ _
    refine wpAny_bind (wpAny_updateSeq gS' rfl (wpAny_pure ⟨plainId_quiet F.plain_extend_loop _, ih (i + 1) _ tk' _ (acc.push (Value.ref h.objs.size)) (ps ++ [h.objs.size]) (by omega) (by omega) ?_
      (fun q o n0 n1 n2 n3 n4 e => up q o n0 (kp' q o n1 n2 n3 n4 (kp q o n0 n1 n2 n3 n4 e))) (Heap.get?_update_self _ gS' rfl) (by rw [Array.toList_push, ea, List.map_append]; rfl) (by rw [List.length_append, el]; rfl) ⟨?_, ?_, ?_⟩⟩) (by rw [as]; omega) (by show (acc.push (Value.ref h.objs.size)).size ≤ sizeLine + 1; rw [Array.size_push, as]; omega))
    · obtain ⟨zp, ti, ⟨x, y, to⟩, g1, g2, a1, a2⟩ := st'
      refine ⟨?_, up _ _ (nl lT) ti, ⟨x, y, up _ _ (nl lO) to⟩, g1.at fun o => up _ o (nl l1), g2.at fun o => up _ o (nl l2), a1.at fun o => up _ o (nl la), a2.at fun o => up _ o (nl lb)⟩
      rcases zp with e | ⟨T, f, oT, e1, e2, e3⟩
      · exact .inl (up _ _ (nl lz) e)
      · by_cases hTS : T = S
        · subst hTS
          exact .inr ⟨T, f, _, up _ _ (nl lz) e1, Heap.get?_update_self _ gS' rfl, e3⟩
        · exact .inr ⟨T, f, oT, up _ _ (nl lz) e1, up _ _ hTS e2, e3⟩
    · refine List.pairwise_append.mpr ⟨pg.up, List.pairwise_singleton _ _, fun c hc d hd => ?_⟩
      rw [List.mem_singleton.mp hd]
      exact pg.lt hc
    · intro q hq
      rcases List.mem_append.mp hq with hq | hq
      · exact pg.hi q hq
      · rw [List.mem_singleton.mp hq]; exact lS
    · intro j q hj
      rcases Nat.lt_trichotomy j ps.length with c1 | c1 | c1
      · rw [List.getElem?_append_left c1] at hj
        obtain ⟨x, y, ex, ey, e⟩ := pg.tup j q hj
        have hq := pg.hi q (List.mem_of_getElem? hj)
        exact ⟨x, y, ex, ey, up _ _ (Nat.ne_of_gt hq) (kp' q _ (nq lz hq) (nq lO hq) (nq l1 hq) (nq l2 hq) e)⟩
      · subst c1
        have e : h.objs.size = q := by simpa using hj
        subst e
        subst el
        exact ⟨_, _, Array.getElem?_eq_getElem s1, Array.getElem?_eq_getElem s2, up _ _ (Nat.ne_of_gt lS) np⟩
      · have e : (ps ++ [h.objs.size])[j]? = none := List.getElem?_eq_none (by rw [List.length_append, List.length_singleton]; omega)
        rw [e] at hj; cases hj
end
section
variable {prog : Program} {w : World} {A : Around} {E : Value → Shared → Prop} {s : Shared} {R : Result → Shared → Prop} {t u : Bool} {z TI TO i1 i2 a b : Addr} {us vs : Array Value}
theorem zs_typ {i : Nat} {s : Shared} (st : ZS t u z TI TO i1 i2 a b us vs i s.heap) : s.TypeIs (.ref z) "zip" := by
  rcases st.zp with e | ⟨T, f, oT, e, _⟩
  · exact ⟨_, e, rfl⟩
  · exact ⟨_, e, rfl⟩
theorem ZS.off {S i : Nat} {h h' : Heap} (lo : Lo z TI TO i1 i2 a b S) (iz : IsZip h z TI TO .none) (st : ZS t u z TI TO i1 i2 a b us vs i h) (up : ∀ c o, c ≠ S → h.get? c = some o → h'.get? c = some o) : ZS t u z TI TO i1 i2 a b us vs i h' := by
  obtain ⟨lz, lT, lO, l1, l2, la, lb⟩ := lo
  obtain ⟨_, ti, ⟨x, y, to⟩, g1, g2, a1, a2⟩ := st
  exact ⟨.inl (up _ _ (Nat.ne_of_lt lz) iz), up _ _ (Nat.ne_of_lt lT) ti, ⟨x, y, up _ _ (Nat.ne_of_lt lO) to⟩, g1.at fun o => up _ o (Nat.ne_of_lt l1), g2.at fun o => up _ o (Nat.ne_of_lt l2), a1.at fun o => up _ o (Nat.ne_of_lt la), a2.at fun o => up _ o (Nat.ne_of_lt lb)⟩
abbrev ZR (us vs : Array Value) (z TO i1 i2 S : Addr) (s : Shared) (res : Value) (R : Result → Shared → Prop) : Prop := ∀ h' tk acc c ps, (∀ q o, q ≠ S → q ≠ z → q ≠ TO → q ≠ i1 → q ≠ i2 → s.heap.get? q = some o → h'.get? q = some o) → h'.get? S = some { cls := .type "list", dict := none, data := .seq acc c, slots := #[] } → ps.length = min us.size vs.size → PGz us vs S h' ps →
      acc.toList = ps.map Value.ref → R (.ok (.ret res)) { s with heap := h', toks := tk }
theorem zl_extend {S c0 : Nat} (D : ZipApart z TI TO i1 i2 a b) (hh : A.handled = none) (lo : Lo z TI TO i1 i2 a b S) (hn : us.size ≤ sizeLine) (res : Value) (iz : IsZip s.heap z TI TO .none) (st : ZS t u z TI TO i1 i2 a b us vs 0 s.heap) (gS : s.heap.get? S = some { cls := .type "list", data := .seq #[] c0 })
    (hR : ZR us vs z TO i1 i2 S s res R) :
    wpAny (model prog w) A.in1 (Builtin.List.listExtendWith (.ref S) (.ref z) res)
      (fun fin s' => match fin with | .done f => R (.ok f) s' | .again c' => c'.quiet = true ∧ codeAny (model prog w) A c' R s') (fun e s' => R (.error e) s') s := by
  have zS : z < S := lo.1
  unfold Builtin.List.listExtendWith
  refine wpAny_bind (wpAny_typeOf (zs_typ st) ?_)
  have f1 : Builtin.List.listSameRef (.ref S) (.ref z) = false := by simp [Builtin.List.listSameRef, Nat.ne_of_gt zS]
  have f2 : (Value.type "zip" == Value.type "list") = false := by decide
  have f3 : (Value.type "zip" == Value.type "tuple") = false := by decide
  simp only [f1, f2, f3, Bool.or_false, Bool.false_eq_true, if_false]
  refine wpAny_bind (wpAny_pyIter_zip iz ?_)
  refine wpAny_bind (wpAny_holding ?_)
  unfold Builtin.List.listLengthHint
  refine wpAny_bind (wpAny_specialOf (zs_typ st) zip_no_len ?_)
  show wpAny _ A.in1 (specialOf (Value.ref z) (Str.ofString "__length_hint__") >>= _) _ _ _
  refine wpAny_bind (wpAny_specialOf (zs_typ st) zip_no_hint ?_)
  refine wpAny_pure ?_
  show wpAny _ A.in1 (rule "list.extend.makes-room" >>= fun _ => Builtin.List.listTouch (.ref S) >>= fun _ => again (.builtin "list.extend.loop" ⟨[.ref S, .ref z, res], []⟩)) _ _ _
  refine wpAny_bind (wpAny_rule (wpAny_bind ?_))
  show wpAny _ A.in1 (updateSeq S (·.push .none) >>= fun _ => updateSeq S (·.pop)) _ _ _
  refine wpAny_bind (wpAny_updateSeq gS rfl ?_)
  have gS2 := Heap.get?_update_self (Obj.mapSeq (·.push Value.none)) gS rfl
  refine wpAny_updateSeq (hz := by seq_fits) gS2 rfl ?_
  have gS3 := Heap.get?_update_self (Obj.mapSeq (·.pop)) gS2 rfl
  have oth : ∀ q o, q ≠ S → s.heap.get? q = some o → ((s.heap.update S (Obj.mapSeq (·.push Value.none))).update S (Obj.mapSeq (·.pop))).get? q = some o := fun q o n e => (Heap.get?_update_other _ _ (Ne.symm n)).trans ((Heap.get?_update_other _ _ (Ne.symm n)).trans e)
  exact wpAny_pure ⟨plainId_quiet F.plain_extend_loop _, zl_loop (s := s) (h0 := s.heap) D hh lo hn res hR _ 0 _ s.toks _ #[] [] rfl (Nat.zero_le _) (st.off lo iz oth) (fun q o n _ _ _ _ e => oth q o n e) gS3 rfl rfl
    ⟨List.Pairwise.nil, (fun _ hc => nomatch hc), (fun j c hj => by simp at hj)⟩⟩
theorem zl_init {S : Nat} (D : ZipApart z TI TO i1 i2 a b) (hh : A.handled = none) (lo : Lo z TI TO i1 i2 a b S) (hn : us.size ≤ sizeLine) (iz : IsZip s.heap z TI TO .none) (st : ZS t u z TI TO i1 i2 a b us vs 0 s.heap) (gS : s.heap.get? S = some { cls := .type "list", data := .seq #[] })
    (hR : ZR us vs z TO i1 i2 S s .none R) :
    wpAny (model prog w) A.in1 (Builtin.«list.__init__» ⟨[.ref S, .ref z], []⟩)
      (fun fin s' => match fin with | .done f => R (.ok f) s' | .again c' => c'.quiet = true ∧ codeAny (model prog w) A c' R s') (fun e s' => R (.error e) s') s := by
  show wpAny _ _ (do let was ← Builtin.List.listItems (.ref S); Builtin.List.listUpdate (.ref S) (fun _ => #[]); letGo was.toList.reverse; Builtin.List.listExtendWith (.ref S) (.ref z) .none) _ _ s
  refine wpAny_bind ?_
  unfold Builtin.List.listItems
  refine wpAny_bind (wpAny_seqItems gS rfl (wpAny_pure ?_))
  show wpAny _ _ (updateSeq S (fun _ => #[]) >>= fun _ => letGo (#[] : Array Value).toList.reverse >>= fun _ => Builtin.List.listExtendWith (.ref S) (.ref z) .none) _ _ s
  refine wpAny_bind (wpAny_updateSeq gS rfl ?_)
  have gS2 := Heap.get?_update_self (Obj.mapSeq (fun _ => (#[] : Array Value))) gS rfl
  have oth : ∀ q o, q ≠ S → s.heap.get? q = some o → (s.heap.update S (Obj.mapSeq (fun _ => (#[] : Array Value)))).get? q = some o := fun q o n e => (Heap.get?_update_other _ _ (Ne.symm n)).trans e
  refine wpAny_bind (wpAny_letGo ?_)
  exact zl_extend D hh lo hn .none (oth _ _ (Nat.ne_of_lt lo.1) iz) (st.off lo iz oth) gS2 fun h' tk acc c ps kp g el pg ea => hR h' tk acc c ps (fun q o n n1 n2 n3 n4 e => kp q o n n1 n2 n3 n4 (oth q o n e)) g el pg ea
theorem zl_call {Q : Value → Shared → Prop} (D : ZipApart z TI TO i1 i2 a b) (hh : A.handled = none) (lo : Lo z TI TO i1 i2 a b s.heap.objs.size) (hn : us.size ≤ sizeLine) (iz : IsZip s.heap z TI TO .none) (st : ZS t u z TI TO i1 i2 a b us vs 0 s.heap)
    (hQ : ∀ h' tk acc c ps, (∀ q o, q ≠ z → q ≠ TO → q ≠ i1 → q ≠ i2 → s.heap.get? q = some o → h'.get? q = some o) → h'.get? s.heap.objs.size = some { cls := .type "list", dict := none, data := .seq acc c, slots := #[] } → ps.length = min us.size vs.size → PGz us vs s.heap.objs.size h' ps →
      acc.toList = ps.map Value.ref → Q (.ref s.heap.objs.size) { s with heap := h', toks := tk }) :
    wpAny (model prog w) A (call (.type "list") [.ref z]) Q E s := by
  refine callType_codes (Q₁ := fun obj s₁ => obj = .ref s.heap.objs.size ∧ s₁ = { s with heap := s.heap.push { cls := .type "list", data := .seq #[] } }) F.called_list (F.typeCall_list_1 _) F.entry_list_init (code_list_new _ ⟨rfl, rfl⟩) fun obj s₁ h₁ => ?_
  obtain ⟨rfl, rfl⟩ := h₁
  have gS : (s.heap.push { cls := .type "list", data := .seq #[] }).get? s.heap.objs.size = some { cls := .type "list", data := .seq #[] } := Heap.get?_push_size _ rfl
  refine ⟨⟨_, gS, rfl⟩, F.args_list_init_2 _ _, zl_init (A := A.in1) D hh lo hn (Heap.get?_push_of_some _ iz) (st.keep fun c o e => Heap.get?_push_of_some _ e) gS fun h' tk acc c ps kp g el pg ea => ?_⟩
  exact ⟨rfl, hQ h' tk acc c ps (fun q o n1 n2 n3 n4 e => kp q o (Nat.ne_of_lt (Heap.lt_size e)) n1 n2 n3 n4 (Heap.get?_push_of_some _ e)) g el pg ea⟩
end
end Mi
namespace Mi
open PySem PySem.Spec L2 PyProof.Rows
/-! the pairs tracked -/
def putP : Hp → List Addr → List (V × V) → Hp
  | H, c :: cs, q :: qs => putP (L2.upd H c (.tup [q.1, q.2])) cs qs
  | H, _, _ => H
theorem putP_off {d : Addr} : ∀ (cs : List Addr) (qs : List (V × V)) (H : Hp), d ∉ cs → putP H cs qs d = H d
  | [], _, _, _ => rfl
  | _ :: _, [], _, _ => rfl
  | c :: cs, q :: qs, H, h => by
    show putP (L2.upd H c _) cs qs d = H d
    rw [putP_off cs qs _ (fun z => h (List.mem_cons_of_mem _ z)), L2.upd_ne (fun z => h (by rw [z]; exact List.mem_cons_self))]
theorem putP_at : ∀ (cs : List Addr) (qs : List (V × V)) (H : Hp), cs.length = qs.length → cs.Nodup → ∀ (j : Nat) (c : Addr), cs[j]? = some c → ∃ q, qs[j]? = some q ∧ putP H cs qs c = some (.tup [q.1, q.2])
  | [], _, _, _, _, j, c, hj => by simp at hj
  | _ :: _, [], _, h, _, _, _, _ => by cases h
  | c :: cs, q :: qs, H, h, nd, 0, d, hj => by
    obtain rfl : c = d := by simpa using hj
    refine ⟨q, rfl, ?_⟩
    show putP (L2.upd H c _) cs qs c = _
    rw [putP_off cs qs _ (List.nodup_cons.mp nd).1, L2.upd_same]
  | c :: cs, q :: qs, H, h, nd, j + 1, d, hj => putP_at cs qs _ (Nat.succ.inj h) (List.nodup_cons.mp nd).2 j d (by simpa using hj)
def tListZip (K : PySem.W.Frag) (ta : TA) : TE := fun σ H Q => ta σ H fun vs H1 => ∃ t u a b xs ys, vs = [.ref a, .ref b] ∧ Sqx t K H1 a xs ∧ Sqx u K H1 b ys ∧ (xs.length ≤ sizeLine →
  ∀ (p : Addr) (ps : List Addr), ps.length = (xs.zip ys).length → ps.Nodup → (∀ c ∈ ps, H1 c = none) → p ∉ ps → H1 p = none → Q (.ref p) (L2.upd (putP H1 ps (xs.zip ys)) p (.lst (ps.map V.ref))))
theorem zip_laid {X : Cx} {t u : Bool} {a b : Addr} {pins : List (Addr × Obj)} {σ : L2.St} {H : Hp} {s : Shared} {h' : Heap} {tk : Nat} {xs ys : List V} {us vs : List Value} {acc : Array Value} {c S : Nat} {ps : List Addr} (I : Inv X pins σ H s) (hz : xs.length ≤ sizeLine) (r1 : Vals xs us) (r2 : Vals ys vs) (hS0 : s.heap.objs.size ≤ S)
    (hk : ∀ b o, s.heap.get? b = some o → h'.get? b = some o) (hS : h'.get? S = some { cls := .type "list", dict := none, data := .seq acc c, slots := #[] }) (hl : ps.length = min us.length vs.length) (pg : PGz us.toArray vs.toArray S h' ps) (ea : acc.toList = ps.map Value.ref) :
    ps.length = (xs.zip ys).length ∧ ps.Nodup ∧ (∀ c ∈ ps, H c = none) ∧ S ∉ ps ∧ H S = none ∧ Inv X pins σ (L2.upd (putP H ps (xs.zip ys)) S (.lst (ps.map V.ref))) { s with heap := h', toks := tk } := by
  have lu := r1.length
  have lv := r2.length
  have ln : ps.length = (xs.zip ys).length := by rw [List.length_zip, hl, lu, lv]
  have nd : ps.Nodup := List.Pairwise.imp (fun {a b} (h : a < b) => Nat.ne_of_lt h) pg.up
  have new : ∀ c ∈ ps, H c = none := fun c hc => I.hok.fresh (Nat.le_trans hS0 (Nat.le_of_lt (pg.hi c hc)))
  have Sn : S ∉ ps := fun z => Nat.lt_irrefl _ (pg.hi _ z)
  have newS : H S = none := I.hok.fresh hS0
  have atp := putP_at ps (xs.zip ys) H ln nd
  have eqS : L2.upd (putP H ps (xs.zip ys)) S (.lst (ps.map V.ref)) S = some (.lst (ps.map V.ref)) := L2.upd_same
  have off : ∀ q, q ∉ ps → q ≠ S → L2.upd (putP H ps (xs.zip ys)) S (.lst (ps.map V.ref)) q = H q := fun q h1 h2 => by rw [L2.upd_ne h2, putP_off ps _ _ h1]
  have low : ∀ q o, s.heap.get? q = some o → q ∉ ps ∧ q ≠ S := fun q o e => ⟨fun z => absurd (Heap.lt_size e) (Nat.not_lt.mpr (Nat.le_trans hS0 (Nat.le_of_lt (pg.hi q z)))), fun z => absurd (Heap.lt_size e) (Nat.not_lt.mpr (z ▸ hS0))⟩
  have kp : ∀ q o, H q = some o → L2.upd (putP H ps (xs.zip ys)) S (.lst (ps.map V.ref)) q = some o := fun q o e => by
    rw [off q (fun z => by rw [new q z] at e; cases e) (fun z => by rw [z, newS] at e; cases e)]
    exact e
  refine ⟨ln, nd, new, Sn, newS, ?_⟩
  generalize hH : L2.upd (putP H ps (xs.zip ys)) S (.lst (ps.map V.ref)) = H' at eqS off kp ⊢
  refine I.call' (ch := []) rfl ⟨fun q o e _ _ _ => hk q o e, fun q o e _ _ _ => ⟨o.slots, hk q o e⟩, fun q o e n _ => ?_, fun q o e _ => ⟨o, hk q o e⟩, fun q xs e => kp q _ e, fun q o u e => kp q _ e, fun q ps e => ⟨#[], by rw [kp q _ e]; simp⟩⟩ (fun q o e => ?_) I.bare fun q z => by simp at z
  · obtain ⟨z1, z2⟩ := low q o e
    rw [off q z1 z2]
    exact n
  · by_cases hq : q ∈ ps
    · obtain ⟨j, hj⟩ := List.mem_iff_getElem?.mp hq
      obtain ⟨pr, e1, e2⟩ := atp j q hj
      have hqS : q ≠ S := fun z => Sn (z ▸ hq)
      rw [← hH, L2.upd_ne hqS, e2] at e
      cases e
      obtain ⟨x, y, f1, f2, f3⟩ := pg.tup j q hj
      rw [List.getElem?_zip_eq_some] at e1
      obtain ⟨x', g1, rx⟩ := r1.get e1.1
      obtain ⟨y', g2, ry⟩ := r2.get e1.2
      have f1 : us[j]? = some x := by simpa using f1
      have f2 : vs[j]? = some y := by simpa using f2
      rw [f1] at g1
      rw [f2] at g2
      cases g1
      cases g2
      exact ⟨by show 2 ≤ sizeLine; decide, [x, y], .cons rx (.cons ry .nil), ⟨_, f3, rfl, _, rfl⟩⟩
    · by_cases hq2 : q = S
      · subst hq2
        rw [eqS] at e
        cases e
        refine ⟨by rw [List.length_map]; omega, acc.toList, c, by rw [ea]; exact LiI.vals_refs ps, ?_⟩
        rw [Array.toArray_toList]
        exact hS
      · rw [off q hq hq2] at e
        exact (I.hok q o e).stay (fun d v _ y => hk d v y) (fun d y => kp d _ y) fun d xs y => kp d _ y
theorem Sqx.size {X : Cx} {pins : List (Addr × Obj)} {σ : L2.St} {H : Hp} {s : Shared} {t : Bool} {a : Addr} {xs : List V} (I : Inv X pins σ H s) (h : Sqx t X.K H a xs) : xs.length ≤ sizeLine := by
  cases t with
  | true => obtain ⟨_, _, _, e⟩ := I.tuple h; exact e
  | false => obtain ⟨_, _, _, e⟩ := I.list h; exact e
theorem pe_listZip {X : Cx} {e e2 : Expr} {ta : TA} {p p2 pos pos2 : Pos} (hc : X.calm = true) (hg : Gl X "list") (hm : X.mg "list" = none) (hg2 : Gl X "zip") (hm2 : X.mg "zip" = none) (ha : PA X [e, e2] ta)
    (hs : starEach [e, e2] X.env = (false, eval e X.env) :: starEach [e2] X.env) (hpl : (backTo pos2 (starEach [e2] X.env)).any (·.1) = false) :
    PE X (.Call (.Name "list" p) [.Call (.Name "zip" p2) [e, e2] [] pos2] [] pos) (tListZip X.K ta) := by
  refine ⟨fun pins s σ H Q I h => ?_⟩
  refine wpAny_Call_Name_kw (ld_blt I hg hm PyProof.Rows.boot_list ?_)
  refine PyProof.Rows.callWith_type1 ?_ rfl rfl
  show wpAny _ _ (spliced [(false, eval (.Call (.Name "zip" p2) [e, e2] [] pos2) X.env)]) _ _ s
  refine Calls.spliced_cons ?_
  refine Call_ (ld_blt I hg2 hm2 PyProof.Rows.boot_zip (PyProof.Rows.callWith_type1 (thn (ha.run pos2 pins s σ H _ I h) fun us s1 ⟨vs, H1, I1, r1, q1⟩ => ?_) hs hpl))
  obtain ⟨t, u, a, b, xs, ys, rfl, q1, q2, go⟩ := q1
  cases r1 with
  | cons ra r1 =>
    cases r1 with
    | cons rb r1 =>
      cases r1
      cases ra
      cases rb
      obtain ⟨us, v1, p1⟩ := q1.inv I1
      obtain ⟨vs, v2, p2⟩ := q2.inv I1
      obtain ⟨o1, B1, it1⟩ := beginsX t a us.toArray
      obtain ⟨o2, B2, it2⟩ := beginsX u b vs.toArray
      refine zip_begins2 B1 B2 p1 p2 fun h' hz hTI hTO g1 g2 hsz hk => ?_
      refine Calls.spliced_nil ?_
      have la := p1.lt
      have lb := p2.lt
      have lx := q1.size I1
      have D := PySem.W.ktu_apart s1.heap.objs.size a b la lb
      refine zl_call (A := X.A) (s := { s1 with heap := h' }) (t := t) (u := u) (us := us.toArray) (vs := vs.toArray) D (I1.ok.hd hc) ?_ (by rw [List.size_toArray, ← v1.length]; exact lx) hz ⟨.inl hz, hTI, ⟨_, _, hTO⟩, it1 _ _ g1, it2 _ _ g2, p1.at fun o => hk _ o, p2.at fun o => hk _ o⟩ fun h2 tk acc c ps kp gS el pg ea => ?_
      · show Lo _ _ _ _ _ _ _ h'.objs.size
        rw [hsz]
        exact ⟨Nat.lt_succ_self _, Nat.add_lt_add_left (by decide) _, Nat.add_lt_add_left (by decide) _, Nat.lt_add_of_pos_right (by decide), Nat.add_lt_add_left (by decide) _, Nat.lt_of_lt_of_le la (Nat.le_add_right _ _), Nat.lt_of_lt_of_le lb (Nat.le_add_right _ _)⟩
      · have kk : ∀ q o, s1.heap.get? q = some o → h2.get? q = some o := fun q o e => by
          have l := Heap.lt_size e
          exact kp q o (Nat.ne_of_lt (Nat.lt_of_lt_of_le l (Nat.le_add_right _ _))) (Nat.ne_of_lt (Nat.lt_of_lt_of_le l (Nat.le_add_right _ _))) (Nat.ne_of_lt l) (Nat.ne_of_lt (Nat.lt_of_lt_of_le l (Nat.le_add_right _ _))) (hk q o e)
        have S0 : s1.heap.objs.size ≤ h'.objs.size := by rw [hsz]; exact Nat.le_add_right _ _
        rw [List.size_toArray, List.size_toArray] at el
        obtain ⟨k1, k2, k3, k4, k5, J⟩ := zip_laid (t := t) (u := u) (a := a) (b := b) (tk := tk) I1 lx v1 v2 S0 kk gS el pg ea
        exact ⟨.ref _, _, J, rfl, go lx h'.objs.size ps k1 k2 k3 k4 k5⟩
/-! the same in the small heap -/
section
variable {cl : Cl} {S : Hm}
theorem putP_free {d : Addr} : ∀ (cs : List Addr) (qs : List (V × V)) (H : Hp), putP H cs qs d = none → H d = none
  | [], _, _, h => h
  | _ :: _, [], _, h => h
  | c :: cs, q :: qs, H, h => by
    have h1 := putP_free cs qs (L2.upd H c (.tup [q.1, q.2])) h
    by_cases e : d = c
    · subst e; rw [L2.upd_same] at h1; cases h1
    · rw [L2.upd_ne e] at h1; exact h1
theorem put_pairs : ∀ (ps : List Addr) {m : Sm} {xs ys : List Val} {us vs : List V}, SH cl m S → RDs m xs us → RDs m ys vs → ps.length = (us.zip vs).length → ps.Nodup → (∀ c ∈ ps, m.H c = none) → KF m.K (putP m.H ps (us.zip vs)) →
    ∃ m', Ev m m' ∧ m'.H = putP m.H ps (us.zip vs) ∧ m'.em = m.em ∧ m'.K = m.K ∧ SH cl m' S ∧ RDs m' ((xs.zip ys).map fun q => .tup [q.1, q.2]) (ps.map V.ref)
  | [], m, xs, ys, us, vs, hS, r1, r2, hl, nd, nw, kf => by
    have e : (xs.zip ys) = [] := by
      cases r1 with
      | nil => rfl
      | cons a r1 =>
        cases r2 with
        | nil => rfl
        | cons b r2 => simp at hl
    exact ⟨m, Ev.refl m, by cases us.zip vs <;> rfl, rfl, rfl, hS, by rw [e]; exact .nil⟩
  | c :: cs, m, xs, ys, us, vs, hS, r1, r2, hl, nd, nw, kf => by
    cases r1 with
    | nil => simp at hl
    | @cons x u xs us a r1 =>
      cases r2 with
      | nil => simp at hl
      | @cons y v ys vs b r2 =>
        have hc := nw c List.mem_cons_self
        have nd' := List.nodup_cons.mp nd
        have kf1 : KF m.K (L2.upd m.H c (.tup [u, v])) := fun q o e => putP_free cs (us.zip vs) _ (kf q o e)
        have e1 : Ev m { m with H := L2.upd m.H c (.tup [u, v]) } := Ev.outside hc
        have hS1 := hS.outside hc kf1
        have up := e1.up hS
        obtain ⟨m', e2, f1, f2, f3, f4, f5⟩ := put_pairs cs (m := { m with H := L2.upd m.H c (.tup [u, v]) }) hS1 (r1.up up) (r2.up up) (by simpa using hl) nd'.2 (fun q hq => by
          show L2.upd m.H c _ q = none
          have ne : q ≠ c := fun z => nd'.1 (by rw [← z]; exact hq)
          rw [L2.upd_ne ne]
          exact nw q (List.mem_cons_of_mem _ hq)) kf
        refine ⟨m', e1.trans e2, f1, f2, f3, f4, ?_⟩
        show RDs m' (.tup [x, y] :: _) (.ref c :: _)
        exact .cons (.tup (.inl (.inl (by rw [f1]; exact (putP_off cs (us.zip vs) _ nd'.1).trans L2.upd_same))) (.cons ((a.up up).up (e2.up hS1)) (.cons ((b.up up).up (e2.up hS1)) .nil))) f5
end
end Mi
namespace Mi
open PySem PySem.Spec L2 PyProof.Rows
theorem pairL_zip : ∀ xs ys : List Val, pairL xs ys = (xs.zip ys).map fun q => .tup [q.1, q.2]
  | [], _ => by simp [pairL]
  | _ :: _, [] => by simp [pairL]
  | x :: xs, y :: ys => by simp [pairL, pairL_zip xs ys]
section
variable {P : Pg} {cl : Cl} {k : Nat} {X : Cx} {W : WX} {o : Ko} {a b : E} {ea eb : Expr}
theorem lt_rd {m : Sm} {S : Hm} {v : Val} {x : V} {K : List Val → (Hm → Prop) → Prop} (hS : SH cl m S) (r : RD m v x) (h : ltOf v S K) : ∃ t q xs ws g, x = .ref q ∧ K xs g ∧ Sqx t m.K m.H q ws ∧ RDs m xs ws := by
  cases v with
  | tup xs =>
    cases r with
    | @tup q vs _ hv rs => exact ⟨true, q, xs, vs, _, rfl, h, hv, rs⟩
  | ref n =>
    obtain ⟨xs, h1, h2⟩ := h
    cases r with
    | @ref _ q hq =>
    obtain ⟨vs, hv, rs⟩ := hS.lst h1 hq
    exact ⟨false, q, xs, vs, _, rfl, h2, hv, rs⟩
  | _ => exact h.elim
theorem e_listZip {p p2 pos pos2 : Pos} (xo : XO P cl X k o W) (hc : (!o.hot) = true) (hg : Gl X (Str.ofString "list")) (hg2 : Gl X (Str.ofString "zip")) (hs : notStar ea = true) (hs2 : notStar eb = true) (ha : PE X ea (tE P cl k X W a)) (hb : PE X eb (tE P cl k X W b)) :
    PE X (.Call (.Name (Str.ofString "list") p) [.Call (.Name (Str.ofString "zip") p2) [ea, eb] [] pos2] [] pos) (tE P cl k X W (.vi .listZip (.cons a (.cons b .nil)))) :=
  PE.imp (PE.kf (pe_listZip (xo.calm hc) hg (xo.ln.bi "list" (by decide)) hg2 (xo.ln.bi "zip" (by decide)) (pa_cons ha (pa_cons hb pa_nil (star_cons hs2)) (star_cons hs)) (star_cons hs) (star_any (by simp [hs2])))) fun σ H Q ⟨m, env, S, hK, eH, hS, hV, h⟩ => by
    subst eH
    simp only [wE, wEs] at h
    refine tE_of hK hS hV (Ev.refl m) h fun m1 x S1 v e1 hS1 r1 hV1 h1 => ?_
    refine tE_of (e1.k.trans hK) hS1 hV1 e1 h1 fun m2 y S2 w e2 hS2 r2 hV2 h2 => ?_
    have hK2 := (e1.trans e2).k.trans hK
    have h2 : ltOf v S2 (fun xs _ => ltOf w S2 fun ys _ => liftQ cl m Q (.ref S2.length) (S2 ++ [.lst (pairL xs ys)])) := h2
    obtain ⟨t, q, xs, us, g, rfl, h3, q1, s1⟩ := lt_rd hS2 (r1.up (e2.up hS1)) h2
    obtain ⟨u, q', ys, vs, g', rfl, h4, q2, s2⟩ := lt_rd hS2 r2 h3
    rw [hK2] at q1 q2
    refine ⟨t, u, q, q', us, vs, rfl, q1, q2, fun _ p ps ln nd nw pn np kf => ?_⟩
    rw [← hK2] at kf
    have kf1 : KF m2.K (putP m2.H ps (us.zip vs)) := fun c o e => by
      have z := kf c o e
      by_cases ec : c = p
      · subst ec; rw [L2.upd_same] at z; cases z
      · rw [L2.upd_ne ec] at z; exact z
    obtain ⟨m3, e3, f1, f2, f3, hS3, r3⟩ := put_pairs ps hS2 s1 s2 ln nd nw kf1
    rw [← f1] at kf ⊢
    have np3 : m3.H p = none := by rw [f1, putP_off ps _ _ pn]; exact np
    refine mk_lst hS3 r3 np3 (by rw [f3]; exact kf) ?_
    rw [← pairL_zip]
    exact liftQ.ev ((e1.trans e2).trans e3) (fun _ _ _ q => q) h4
end
end Mi

set_option maxHeartbeats 2000000
/-! list(d.items()) -/
namespace Mi
open PySem PySem.Spec L2 PyProof.Rows
section
variable {P : Pg} {cl : Cl} {k : Nat} {X : Cx} {W : WX} {o : Ko} {a : E} {ea : Expr}
theorem pairs_up {m m' : Sm} (u : Up m m') {kvs : List (Key × Val)} {ws : List (L2.Key × V)} (r : RKs m kvs ws) : ∀ {ts : List Addr}, Paired (fun (t : Addr) (q : L2.Key × V) => m'.H t = some (.tup [L2.kV q.1, q.2])) ts ws → RDs m' (kvs.map fun p => .tup [p.1.val, p.2]) (ts.map V.ref) := by
  unfold RKs at r
  induction r with
  | nil => intro ts h; cases h; exact .nil
  | @cons p q kvs ws hd _ ih =>
    intro ts h
    cases h with
    | @cons t _ ts _ ht h =>
    refine .cons (.tup (.inl (.inl ht)) (.cons ?_ (.cons (hd.2.up u) .nil))) (ih h)
    rw [hd.1]
    cases p.1 with
    | inl i => exact .int i
    | inr x => exact .str x
theorem e_listItems {p apos cpos pos : Pos} (xo : XO P cl X k o W) (hc : (!o.hot) = true) (hg : Gl X (Str.ofString "list")) (hb : plainBase ea = true) (hl : (apos.endLine == cpos.line) = true) (ha : PE X ea (tE P cl k X W a)) :
    PE X (.Call (.Name (Str.ofString "list") p) [.Call (.Attribute ea (Str.ofString "items") apos) [] [] cpos] [] pos) (tE P cl k X W (.vi .listItems (.cons a .nil))) :=
  PE.imp (PE.kf (LiI.pe_listItems (xo.calm hc) ha hg (xo.ln.bi "list" (by decide)) PyProof.Rows.boot_list (base_of hb) hl (star_cons rfl))) fun σ H Q ⟨m, env, S, hK, eH, hS, hV, h⟩ => by
    subst eH
    simp only [wE, wEs] at h
    refine tE_of hK hS hV (Ev.refl m) h fun m1 x S1 v e1 hS1 r1 hV1 h1 => ?_
    cases r1 with
    | @ref n q hq =>
      obtain ⟨kvs, hd, h1⟩ := h1
      obtain ⟨ws, hw, rk⟩ := hS1.ob n _ q hd hq
      refine ⟨q, ws, rfl, hw, fun H' p ts grow pn tn pt hp hpr kf => ?_⟩
      rw [← hK, ← e1.k] at kf
      have kp : m1.K.lookup p = none := kf_free kf hp
      have np := hS1.free pn kp
      have e2 : Ev m1 { m1 with H := H', em := m1.em ++ [p] } := ⟨rfl, rfl, ⟨[p], rfl⟩, fun b u h _ => grow b u h, fun b h h' => by
        rcases List.mem_append.mp h with z | z
        · exact absurd z h'
        · have : b = p := by simpa using z
          rw [this]; exact pn, fun b q u h => grow b _ h⟩
      have hS2 : SH cl { m1 with H := H', em := m1.em ++ [p] } (S1 ++ [.lst (kvs.map fun p => .tup [p.1.val, p.2])]) := by
        refine ⟨by simp [hS1.len], ?_, kf, fun n u a g1 g2 => ?_, hS1.z⟩
        · show (m1.em ++ [p]).Nodup
          rw [List.nodup_append]
          refine ⟨hS1.nd, by simp, fun x hx y hy => ?_⟩
          have : y = p := by simpa using hy
          rw [this]
          exact fun z => np (z ▸ hx)
        · by_cases hn : n < S1.length
          · rw [List.getElem?_append_left hn] at g1
            have g2' : m1.em[n]? = some a := by
              have : (m1.em ++ [p])[n]? = some a := g2
              rw [List.getElem?_append_left (by rw [hS1.len]; exact hn)] at this
              exact this
            have r := hS1.ob n u a g1 g2'
            have ex : H' a = m1.H a := by
              have sm : ∀ z, m1.H a = some z → H' a = m1.H a := fun z hz => (grow a z hz).trans hz.symm
              cases u with
              | lst ds => obtain ⟨vs, q, _⟩ := r; exact sm _ q
              | dic ds => obtain ⟨vs, q, _⟩ := r; exact sm _ q
              | ins c fs => obtain ⟨C, dx, gs, q, _⟩ := r; exact sm _ q
              | lck u => cases u with
                | lst ds =>
                  rcases r with ⟨o, vs, q, _⟩ | ⟨o, its, n, vs, q, _⟩
                  · exact sm _ q
                  · rw [kf a o q, hS1.kf a o q]
                | dic ds => obtain ⟨o, vs, q, _⟩ := r; exact sm _ q
                | ins c fs => rcases r with ⟨_, _, C, q, _⟩ | ⟨_, es, q, _⟩ <;> exact sm _ q
                | lck _ => exact r.elim
            exact r.up (e2.up hS1) rfl ex
          · have hn2 : n = S1.length := by
              have := (List.getElem?_eq_some_iff.mp g1).1
              simp at this
              omega
            subst hn2
            have g1' : u = .lst (kvs.map fun p => .tup [p.1.val, p.2]) := by simpa using g1.symm
            subst g1'
            have g2' : a = p := by
              have : (m1.em ++ [p])[S1.length]? = some a := g2
              rw [← hS1.len] at this
              simpa using this.symm
            subst g2'
            exact ⟨_, hp, pairs_up (e2.up hS1) rk hpr⟩
      exact liftQ.ev e1 (fun _ _ _ q => q) h1 _ (.ref p) e2 hS2 (.ref (by
        show (m1.em ++ [p])[S1.length]? = some p
        rw [← hS1.len]
        simp))
    | _ => exact h1.elim
end
end Mi

set_option maxHeartbeats 4000000
/-! enumerate of a list or a tuple -/
namespace Mi
open PySem PySem.Spec L2 PyProof.Rows
theorem meets_enum1 {v : Value} {o : Obj} {H : Heap → Prop} (B : Begins v o H) :
    Meets (Builtin.«enumerate.__new__» ⟨[.type "enumerate", v], []⟩) (fun _ R s => H s.heap ∧ R (.ok (.ret (.ref (s.heap.push o).objs.size))) { s with heap := (s.heap.push o).push { cls := .type "enumerate", data := .fields #[.none, .bool false, .ref s.heap.objs.size, rawInt 0, .none, .none] } }) :=
  .of_wp fun prog w A R s ⟨hb, h⟩ => by
    obtain ⟨hp, g, d, tk, os⟩ := s
    have sub := sub_enumerate
    have go : ∀ {A' : Around} {E : Value → Shared → Prop} {Q : Value → Shared → Prop}, Q (.ref hp.objs.size) ⟨hp.push o, g, d, tk, os⟩ → wpAny (model prog w) A' (pyIter v) Q E ⟨hp, g, d, tk, os⟩ := fun q => B.iter prog w _ _ ⟨hp, g, d, tk, os⟩ _ hb q
    wp_walk using go
    refine wpAny_stack_any fun st => wpAny_pure ?_
    split
    · rename_i c _ _ _ _ _
      cases (c == Value.type "enumerate") <;> (wp_walk using go) <;> exact ⟨_, rfl, h⟩
    · wp_walk using go
      exact ⟨_, rfl, h⟩
section
variable {prog : Program} {w : World} {A : Around} {E : Value → Shared → Prop} {s : Shared}
theorem enum1_begins {v : Value} {o : Obj} {H : Heap → Prop} {Q : Value → Shared → Prop} (B : Begins v o H) (hb : H s.heap)
    (h : ∀ h', IsEnum h' (s.heap.objs.size + 1) s.heap.objs.size 0 .none → h'.get? s.heap.objs.size = some o → (∀ q u, s.heap.get? q = some u → h'.get? q = some u) → Q (.ref (s.heap.objs.size + 1)) { s with heap := h' }) :
    wpAny (model prog w) A (call (.type "enumerate") [v]) Q E s := by
  refine callType_new F.called_enumerate (by decide) (F.typeCall_enumerate_1 _) (F.newCall_enumerate_1 _) (fun obj => F.args_object_init_2 obj _) F.entry_enumerate_new (meets_enum1 B) ⟨hb, ?_⟩
  have sz : (s.heap.push o).objs.size = s.heap.objs.size + 1 := Heap.size_push ..
  show _ ∧ _
  rw [sz]
  have ie := Heap.get?_push_size (s.heap.push o) (o := { cls := .type "enumerate", data := .fields #[.none, .bool false, .ref s.heap.objs.size, rawInt 0, .none, .none] }) rfl
  rw [sz] at ie
  exact ⟨⟨_, ie, rfl⟩, h _ ie (Heap.get?_push_of_some _ (Heap.get?_push_size _ B.free)) fun q u x => Heap.get?_push_of_some _ (Heap.get?_push_of_some _ x)⟩
end
/-- the items at a as they stand at each turn, counted, in new pairs -/
def Iex (K : PySem.W.Frag) (t : Bool) (a : Addr) : It :=
  ⟨fun i H => ∃ (xs : List V) (x : V), Sqx t K H a xs ∧ xs[i]? = some x,
    fun i H v H' => ∃ T x, v = .ref T ∧ H T = none ∧ H' = upd H T (.tup [.int (i : Nat), x]) ∧ ∀ xs, Sqx t K H a xs → xs[i]? = some x,
    fun i H => ∃ xs : List V, Sqx t K H a xs ∧ xs.length = i⟩
theorem turn_enumX {P : Program} {w : World} {K : PySem.W.Frag} {elts : List Expr} {kk : Nat} {tpos : Pos} {t : Bool} {a e it : Addr} (ai : a ≠ it) (ae : a ≠ e) :
    Turn P w K (.Tuple elts kk tpos) (Iex K t a) [e, it] e (fun i h => (∃ old, IsEnum h e it ((i : Nat) : Int) old) ∧ IterX t h it a i ∧ e ≠ it) where
  mem := .head _
  obj := fun i h st c hc => by
    obtain ⟨⟨old, he⟩, hi, _⟩ := st
    simp only [List.mem_cons, List.not_mem_nil, or_false] at hc
    rcases hc with rfl | rfl
    · exact ⟨_, he, fun v q => nomatch q⟩
    · exact hi.obj
  keep := fun i h h' ⟨⟨old, he⟩, hi, ne⟩ k => ⟨⟨old, k e (by simp) _ he⟩, hi.at fun o => k it (by simp) o, ne⟩
  item := by
    intro X hP hw hK calm i pins s σ H E I free st go
    subst hP hw hK
    obtain ⟨⟨old, he⟩, hi, ne⟩ := st
    obtain ⟨xs, x, q1, hx⟩ := go
    obtain ⟨us, r1, p1⟩ := q1.inv I
    obtain ⟨c, hc, rc⟩ := r1.get hx
    have el : e < s.heap.objs.size := Heap.lt_size he
    have il : it < s.heap.objs.size := let ⟨_, z, _⟩ := hi.obj; Heap.lt_size z
    have hh : X.A.in1.handled = none := I.ok.hd calm
    refine wpAny_pyNext_enum_itemD (drawsX hh t it a ai us.toArray) he ⟨hi, p1⟩ (by simpa using (List.getElem?_eq_some_iff.mp hc).1) ne (by simp [ne, Ne.symm ae]) fun c' h' tk ec ho ⟨n1, _⟩ hT hsz hk => ?_
    obtain rfl : c' = c := by
      have ec : us.toArray[i]? = some c' := ec
      have hc' : us.toArray[i]? = some c := by simpa using hc
      rw [hc'] at ec
      exact (Option.some.inj ec).symm
    refine ⟨_, rfl, wpAny_letOwnedTupleGo_enum (s := { s with heap := h', toks := tk + 1 }) ho fun g eg sb => ?_⟩
    have sb2 : ∀ c, c ≠ e → g.get? c = h'.get? c := sb.2
    have tup : ObjOk X.prog X.w (upd H s.heap.objs.size (.tup [.int (i : Nat), x])) g s.heap.objs.size (.tup [.int (i : Nat), x]) :=
      ⟨by show 2 ≤ sizeLine; decide, _, .cons ⟨tk, rfl⟩ (.cons rc .nil), ⟨_, (sb2 _ (Nat.ne_of_gt el)).trans hT, rfl, _, rfl⟩⟩
    have I1 : Inv X pins σ (upd H s.heap.objs.size (.tup [.int (i : Nat), x])) { s with heap := g, toks := tk + 1 } :=
      I.turnedNew (t' := tk + 1) (ch := [e, it]) (fun c o hb q => by
        simp only [List.mem_cons, List.not_mem_nil, or_false, not_or] at hb
        exact (sb2 c hb.1).trans (hk c o hb.1 hb.2 q)) free (Nat.le_refl _) tup
    have ei : ((i + 1 : Nat) : Int) = (i : Int) + 1 := by omega
    refine ⟨.ref s.heap.objs.size, _, I1, rfl, ⟨_, x, rfl, I.hok.fresh (Nat.le_refl _), rfl, fun l hl => by rw [Sqx.inj I hl q1]; exact hx⟩, ⟨⟨_, by rw [ei]; exact eg⟩, n1.at fun o q => (sb2 _ (Ne.symm ne)).trans q, ne⟩, fun c hcm => ?_⟩
    have lt : c < s.heap.objs.size := by
      simp only [List.mem_cons, List.not_mem_nil, or_false] at hcm
      rcases hcm with rfl | rfl
      · exact el
      · exact il
    rw [upd_ne (Nat.ne_of_lt lt)]
    exact (free c hcm).1
  done := by
    intro X hP hw hK calm i pins s σ H E I free st stop
    subst hP hw hK
    obtain ⟨⟨old, he⟩, hi, ne⟩ := st
    obtain ⟨xs, q1, over⟩ := stop
    obtain ⟨us, r1, p1⟩ := q1.inv I
    have l1 := r1.length
    have hh : X.A.in1.handled = none := I.ok.hd calm
    refine wpAny_pyNext_enum_endD (drawsX hh t it a ai us.toArray) he ⟨by rw [List.size_toArray, ← l1, over]; exact hi, p1⟩ fun h' eb => ⟨rfl, ?_⟩
    exact I.turnedL (t' := s.toks) (ch := [e, it]) (fun c o hb q => by
      simp only [List.mem_cons, List.not_mem_nil, or_false, not_or] at hb
      exact eb c o hb.2 q) free
  self := fun A i s Q E st h => let ⟨⟨_, he⟩, _⟩ := st; wpAny_pyIter_enum he h
def iEnumX (K : PySem.W.Frag) (ta : TA) : TI := fun σ H R => ta σ H fun vs H1 => ∃ t a xs, vs = [.ref a] ∧ Sqx t K H1 a xs ∧ R (Iex K t a) H1
theorem pi_enumX {X : Cx} {e : Expr} {ta : TA} {p pos tpos : Pos} {elts : List Expr} {kk : Nat} (hg : Gl X "enumerate") (hm : X.mg "enumerate" = none) (ha : PA X [e] ta) (hs : starEach [e] X.env = (false, eval e X.env) :: starEach [] X.env) :
    PI X (.Tuple elts kk tpos) (.Call (.Name "enumerate" p) [e] [] pos) (iEnumX X.K ta) := by
  refine ⟨fun pins s σ H R I h => ?_⟩
  refine Call_ (ld_blt I hg hm PyProof.Rows.boot_enumerate (PyProof.Rows.callWith_type1 (thn (ha.run pos pins s σ H _ I h) fun us s1 ⟨vs, H1, I1, r1, q1⟩ => ?_) hs rfl))
  obtain ⟨t, a, xs, rfl, q1, go⟩ := q1
  cases r1 with
  | cons ra r1 =>
    cases r1
    cases ra
    obtain ⟨us, _, p1⟩ := q1.inv I1
    obtain ⟨o1, B1, it1⟩ := beginsX t a us.toArray
    have al := p1.lt
    refine enum1_begins B1 p1 fun h' ie g1 hk => wpAny_pyIter_enum ie ?_
    exact ⟨_, _, _, _, H1, rfl, I1.kept (t' := s1.toks) hk, turn_enumX (t := t) (a := a) (e := s1.heap.objs.size + 1) (it := s1.heap.objs.size) (Nat.ne_of_lt al) (Nat.ne_of_lt (Nat.lt_succ_of_lt al)), ⟨⟨.none, ie⟩, it1 _ _ g1, Nat.succ_ne_self _⟩, fun c hc => by
      have le : s1.heap.objs.size ≤ c := by
        simp only [List.mem_cons, List.not_mem_nil, or_false] at hc
        rcases hc with rfl | rfl
        · exact Nat.le_add_right _ _
        · exact Nat.le_refl _
      exact I1.fpOk le (I1.hok.fresh le), go⟩
end Mi

set_option maxHeartbeats 4000000
namespace Mi
open PySem PySem.Spec L2 PyProof.Rows
/-! ### what an iterator over items is -/
structure ItOk (cl : Cl) (m0 : Sm) (J : It) (items : List Val) (g : Hm → Prop) : Prop where
  go : ∀ i m S v, Ev m0 m → SH cl m S → g S → items[i]? = some v → J.go i m.H
  stop : ∀ i m S, Ev m0 m → SH cl m S → g S → items.length = i → J.stop i m.H
  yld : ∀ i m S v x H', Ev m0 m → SH cl m S → g S → items[i]? = some v → J.yld i m.H x H' → KF m.K H' → ∃ m', m'.H = H' ∧ Ev m m' ∧ SH cl m' S ∧ RD m' v x
  go0 : ∀ D o v, m0.H D = none → items[0]? = some v → J.go 0 (upd m0.H D o)
  stop0 : ∀ D o, m0.H D = none → items.length = 0 → J.stop 0 (upd m0.H D o)
  kfb : ∀ i H x H', J.yld i H x H' → KF m0.K H' → KF m0.K H
theorem getElem?_getD {α : Type} {xs : List α} {i : Nat} {x : α} (h : xs[i]? = some x) : i < xs.length := (List.getElem?_eq_some_iff.mp h).1
section
variable {cl : Cl} {m0 : Sm} {S0 : Hm}
theorem sqlUp {K : PySem.W.Frag} {H : Hp} {a D : Addr} {o : HO} {xs : List V} (h : SqL K H a xs) (hD : H D = none) : SqL K (upd H D o) a xs := by
  rcases h with (h | ⟨u, h⟩) | h
  · exact .inl (.inl (by rw [upd_ne (ne_of_none h hD)]; exact h))
  · exact .inl (.inr ⟨u, by rw [upd_ne (ne_of_none h hD)]; exact h⟩)
  · exact .inr h
theorem sqtUp {K : PySem.W.Frag} {H : Hp} {a D : Addr} {o : HO} {xs : List V} (h : SqT K H a xs) (hD : H D = none) : SqT K (upd H D o) a xs := by
  rcases h with (h | ⟨u, h⟩) | h
  · exact .inl (.inl (by rw [upd_ne (ne_of_none h hD)]; exact h))
  · exact .inl (.inr ⟨u, by rw [upd_ne (ne_of_none h hD)]; exact h⟩)
  · exact .inr h
theorem kf_outside {K : PySem.W.Frag} {H : Hp} {T : Addr} {o : HO} (hT : H T = none) (h : KF K (upd H T o)) : KF K H := fun b u e => by
  have := h b u e
  by_cases z : b = T
  · rw [z]; exact hT
  · rwa [upd_ne z] at this
theorem it_lst {n : Nat} {a : Addr} {items : List Val} {vs : List V} (ha : m0.em[n]? = some a) (h0 : SqL m0.K m0.H a vs) (hl : items.length = vs.length) : ItOk cl m0 (Itl m0.K a) items (fun S => Hm.lst S n = some items) where
  go := fun i m S v e hS g hv => by
    obtain ⟨vs, hq, rs⟩ := hS.lst g (em_get e.em ha)
    obtain ⟨x, hx, _⟩ := rs.get hv
    rw [e.k] at hq
    exact ⟨vs, x, hq, hx⟩
  stop := fun i m S e hS g hi => by
    obtain ⟨vs, hq, rs⟩ := hS.lst g (em_get e.em ha)
    rw [e.k] at hq
    exact ⟨vs, hq, by rw [← rs.length]; omega⟩
  yld := fun i m S v x H' e hS g hv y kf => by
    obtain ⟨rfl, y⟩ := y
    obtain ⟨vs, hq, rs⟩ := hS.lst g (em_get e.em ha)
    rw [e.k] at hq
    obtain ⟨x', hx, r⟩ := rs.get hv
    rw [y vs hq] at hx
    cases hx
    exact ⟨m, rfl, Ev.refl m, hS, r⟩
  go0 := fun D o v hD hv => by
    have hlt : 0 < vs.length := by rw [← hl]; exact getElem?_getD hv
    exact ⟨vs, vs[0], (sqlUp h0 hD), List.getElem?_eq_getElem hlt⟩
  stop0 := fun D o hD hi => ⟨vs, (sqlUp h0 hD), by omega⟩
  kfb := fun i H x H' y kf => by obtain ⟨rfl, _⟩ := y; exact kf
theorem it_tup {a : Addr} {items : List Val} {vs : List V} (hS0 : SH cl m0 S0) (h0 : SqT m0.K m0.H a vs) (r0 : RDs m0 items vs) : ItOk cl m0 (Itt m0.K a) items (fun _ => True) where
  go := fun i m S v e hS g hv => by
    have u := e.up hS0
    obtain ⟨x, hx, _⟩ := r0.get hv
    have := u.tup a vs h0
    rw [e.k] at this
    exact ⟨vs, x, this, hx⟩
  stop := fun i m S e hS g hi => by
    have u := e.up hS0
    have := u.tup a vs h0
    rw [e.k] at this
    exact ⟨vs, this, by rw [← r0.length]; omega⟩
  yld := fun i m S v x H' e hS g hv y kf => by
    obtain ⟨rfl, y⟩ := y
    have u := e.up hS0
    have hq := u.tup a vs h0
    rw [e.k] at hq
    obtain ⟨x', hx, r⟩ := r0.get hv
    rw [y vs hq] at hx
    cases hx
    exact ⟨m, rfl, Ev.refl m, hS, r.up u⟩
  go0 := fun D o v hD hv => by
    have hlt : 0 < vs.length := by rw [← r0.length]; exact getElem?_getD hv
    exact ⟨vs, vs[0], (sqtUp h0 hD), List.getElem?_eq_getElem hlt⟩
  stop0 := fun D o hD hi => ⟨vs, (sqtUp h0 hD), by rw [← r0.length]; omega⟩
  kfb := fun i H x H' y kf => by obtain ⟨rfl, _⟩ := y; exact kf
theorem it_str (z : String) : ItOk cl m0 (Its (Str.ofString z)) (z.toList.map fun c => .str (String.singleton c)) (fun _ => True) := by
  have hsz : (Str.ofString z).cps.size = z.toList.length := by
    have := congrArg List.length (cps_ofString z)
    simpa using this
  refine ⟨fun i m S v e hS g hv => ?_, fun i m S e hS g hi => ?_, fun i m S v x H' e hS g hv y kf => ?_, fun D o v hD hv => ?_, fun D o hD hi => ?_, fun i H x H' y kf => by obtain ⟨rfl, _⟩ := y; exact kf⟩
  · have := getElem?_getD hv
    rw [List.length_map] at this
    exact show i < (Str.ofString z).cps.size by rw [hsz]; exact this
  · rw [List.length_map] at hi
    exact show (Str.ofString z).cps.size ≤ i by rw [hsz]; exact (Nat.le_of_eq hi)
  · obtain ⟨rfl, c, hc, rfl⟩ := y
    refine ⟨m, rfl, Ev.refl m, hS, ?_⟩
    rw [List.getElem?_map] at hv
    cases hz : z.toList[i]? with
    | none => rw [hz] at hv; cases hv
    | some d =>
      rw [hz] at hv
      cases hv
      have : (Str.ofString z).cps.toList[i]? = some d.toNat := by rw [cps_ofString, List.getElem?_map, hz]; rfl
      rw [Array.getElem?_toList, hc] at this
      cases this
      rw [← singleton_ofString]
      exact .str _
  · have := getElem?_getD hv
    rw [List.length_map] at this
    exact show 0 < (Str.ofString z).cps.size by rw [hsz]; exact this
  · rw [List.length_map] at hi
    exact show (Str.ofString z).cps.size ≤ 0 by rw [hsz]; omega
theorem rangeL_get : ∀ (lo : Int) (n i : Nat), (rangeL lo 1 n)[i]? = if i < n then some (.int (lo + i)) else none
  | lo, 0, i => by simp [rangeL]
  | lo, n + 1, 0 => by simp [rangeL]
  | lo, n + 1, i + 1 => by
    rw [rangeL, List.getElem?_cons_succ, rangeL_get]
    by_cases h : i < n
    · rw [if_pos h, if_pos (by omega)]
      congr 2
      push_cast
      omega
    · rw [if_neg h, if_neg (by omega)]
theorem rangeL_len : ∀ (lo st : Int) (n : Nat), (rangeL lo st n).length = n
  | lo, st, 0 => rfl
  | lo, st, n + 1 => by rw [rangeL, List.length_cons, rangeL_len]
theorem it_rng (lo : Int) (n : Nat) : ItOk cl m0 (Itr lo n) (rangeL lo 1 n) (fun _ => True) := by
  refine ⟨fun i m S v e hS g hv => ?_, fun i m S e hS g hi => ?_, fun i m S v x H' e hS g hv y kf => ?_, fun D o v hD hv => ?_, fun D o hD hi => ?_, fun i H x H' y kf => by obtain ⟨rfl, _⟩ := y; exact kf⟩
  · have := getElem?_getD hv
    rw [rangeL_len] at this
    exact this
  · rw [rangeL_len] at hi
    exact Nat.le_of_eq hi
  · obtain ⟨rfl, rfl⟩ := y
    refine ⟨m, rfl, Ev.refl m, hS, ?_⟩
    rw [rangeL_get] at hv
    split at hv
    · cases hv
      exact .int _
    · cases hv
  · have := getElem?_getD hv
    rw [rangeL_len] at this
    exact this
  · rw [rangeL_len] at hi
    exact show n ≤ 0 by omega
theorem it_rev {n : Nat} {a : Addr} {items : List Val} {vs : List V} (ha : m0.em[n]? = some a) (h0 : SqL m0.K m0.H a vs) (hl : items.length = vs.length) : ItOk cl m0 (Itv m0.K a vs.length) items.reverse (fun S => Hm.lst S n = some items) where
  go := fun i m S v e hS g hv => by
    obtain ⟨ws, hq, rs⟩ := hS.lst g (em_get e.em ha)
    rw [e.k] at hq
    have hi := getElem?_getD hv
    rw [List.length_reverse] at hi
    rw [List.getElem?_reverse hi] at hv
    obtain ⟨x, hx, _⟩ := rs.get hv
    rw [hl] at hx
    exact ⟨by omega, ws, x, hq, hx⟩
  stop := fun i m S e hS g hi => by
    rw [List.length_reverse] at hi
    exact show vs.length ≤ i by omega
  yld := fun i m S v x H' e hS g hv y kf => by
    obtain ⟨rfl, y⟩ := y
    obtain ⟨ws, hq, rs⟩ := hS.lst g (em_get e.em ha)
    rw [e.k] at hq
    have hi := getElem?_getD hv
    rw [List.length_reverse] at hi
    rw [List.getElem?_reverse hi] at hv
    obtain ⟨x', hx, r⟩ := rs.get hv
    rw [hl, y ws hq] at hx
    cases hx
    exact ⟨m, rfl, Ev.refl m, hS, r⟩
  go0 := fun D o v hD hv => by
    have hi := getElem?_getD hv
    rw [List.length_reverse] at hi
    have hlt : vs.length - 1 - 0 < vs.length := by omega
    exact ⟨by omega, vs, vs[vs.length - 1 - 0], (sqlUp h0 hD), List.getElem?_eq_getElem hlt⟩
  stop0 := fun D o hD hi => by
    rw [List.length_reverse] at hi
    exact show vs.length ≤ 0 by omega
  kfb := fun i H x H' y kf => by obtain ⟨rfl, _⟩ := y; exact kf
theorem it_revT {a : Addr} {items : List Val} {vs : List V} (hS0 : SH cl m0 S0) (h0 : SqT m0.K m0.H a vs) (r0 : RDs m0 items vs) : ItOk cl m0 (RT.ItvT m0.K a vs.length) items.reverse (fun _ => True) where
  go := fun i m S v e hS g hv => by
    have hq := (e.up hS0).tup a vs h0
    rw [e.k] at hq
    have hi := getElem?_getD hv
    rw [List.length_reverse] at hi
    rw [List.getElem?_reverse hi] at hv
    obtain ⟨x, hx, _⟩ := r0.get hv
    have hl := r0.length
    rw [hl] at hx
    exact ⟨by omega, vs, x, hq, hx⟩
  stop := fun i m S e hS g hi => by
    have hl := r0.length
    rw [List.length_reverse] at hi
    exact show vs.length ≤ i by omega
  yld := fun i m S v x H' e hS g hv y kf => by
    obtain ⟨rfl, y⟩ := y
    have hq := (e.up hS0).tup a vs h0
    rw [e.k] at hq
    have hi := getElem?_getD hv
    rw [List.length_reverse] at hi
    rw [List.getElem?_reverse hi] at hv
    obtain ⟨x', hx, r⟩ := r0.get hv
    have hl := r0.length
    rw [hl, y vs hq] at hx
    cases hx
    exact ⟨m, rfl, Ev.refl m, hS, r.up (e.up hS0)⟩
  go0 := fun D o v hD hv => by
    have hl := r0.length
    have hi := getElem?_getD hv
    rw [List.length_reverse] at hi
    have hlt : vs.length - 1 - 0 < vs.length := by omega
    exact ⟨by omega, vs, vs[vs.length - 1 - 0], (sqtUp h0 hD), List.getElem?_eq_getElem hlt⟩
  stop0 := fun D o hD hi => by
    have hl := r0.length
    rw [List.length_reverse] at hi
    exact show vs.length ≤ 0 by omega
  kfb := fun i H x H' y kf => by obtain ⟨rfl, _⟩ := y; exact kf
theorem enumL_len : ∀ (n : Nat) (xs : List Val), (enumL n xs).length = xs.length
  | n, [] => rfl
  | n, x :: xs => by rw [enumL, List.length_cons, List.length_cons, enumL_len]
theorem enumL_get : ∀ (n : Nat) (xs : List Val) (i : Nat), (enumL n xs)[i]? = (xs[i]?).map fun x => .tup [.int ((n + i : Nat) : Int), x]
  | n, [], i => by simp [enumL]
  | n, x :: xs, 0 => by simp [enumL]
  | n, x :: xs, i + 1 => by
    rw [enumL, List.getElem?_cons_succ, List.getElem?_cons_succ, enumL_get]
    have : n + 1 + i = n + (i + 1) := by omega
    rw [this]
theorem pairL_len : ∀ (xs ys : List Val), (pairL xs ys).length = min xs.length ys.length
  | [], ys => by simp [pairL]
  | x :: xs, [] => by simp [pairL]
  | x :: xs, y :: ys => by simp only [pairL, List.length_cons, pairL_len]; omega
theorem pairL_get : ∀ (xs ys : List Val) (i : Nat) {v : Val}, (pairL xs ys)[i]? = some v → ∃ x y, xs[i]? = some x ∧ ys[i]? = some y ∧ v = .tup [x, y]
  | [], ys, i, v, h => by simp [pairL] at h
  | x :: xs, [], i, v, h => by simp [pairL] at h
  | x :: xs, y :: ys, 0, v, h => by simp [pairL] at h; exact ⟨x, y, rfl, rfl, h.symm⟩
  | x :: xs, y :: ys, i + 1, v, h => by
    rw [pairL, List.getElem?_cons_succ] at h
    rw [List.getElem?_cons_succ, List.getElem?_cons_succ]
    exact pairL_get xs ys i h
theorem RKs.get {m : Sm} {kvs : List (Key × Val)} {ws : List (L2.Key × V)} (h : RKs m kvs ws) {i : Nat} : ∀ {p : Key × Val}, kvs[i]? = some p → ∃ q, ws[i]? = some q ∧ q.1 = kk p.1 ∧ RD m p.2 q.2 := by
  unfold RKs at h
  induction h generalizing i with
  | nil => intro p e; simp at e
  | @cons p r ps rs h t ih =>
    intro q e
    cases i with
    | zero => simp at e; subst e; exact ⟨r, rfl, h⟩
    | succ i => simpa using ih (i := i) (by simpa using e)
section
variable {n : Nat} {a : Addr} {o : Obj} {ws : List (L2.Key × V)} {kvs : List (Key × Val)}
theorem frz_at {m : Sm} {S : Hm} (ha : m0.em[n]? = some a) (h0 : m0.H a = some (.frz o (.dK ws))) (e : Ev m0 m) (hS : SH cl m S) (g : S[n]? = some (.lck (.dic kvs))) : m.H a = some (.frz o (.dK ws)) ∧ RKs m kvs ws := by
  have h1 := e.frz a o _ h0
  obtain ⟨o', ws', h2, h3⟩ := hS.ob n _ a g (em_get e.em ha)
  rw [h1] at h2
  cases h2
  exact ⟨h1, h3⟩
theorem it_keys (ha : m0.em[n]? = some a) (h0 : m0.H a = some (.frz o (.dK ws))) (hl : kvs.length = ws.length) : ItOk cl m0 (Itk a o ws) (kvs.map (·.1.val)) (fun S => S[n]? = some (.lck (.dic kvs))) where
  go := fun i m S v e hS g hv => by
    have := getElem?_getD hv
    rw [List.length_map] at this
    exact ⟨(frz_at ha h0 e hS g).1, by omega⟩
  stop := fun i m S e hS g hi => by
    rw [List.length_map] at hi
    exact ⟨(frz_at ha h0 e hS g).1, by omega⟩
  yld := fun i m S v x H' e hS g hv y kf => by
    obtain ⟨rfl, k, u, hw, rfl⟩ := y
    rw [List.getElem?_map] at hv
    obtain ⟨p, hp, rfl⟩ := Option.map_eq_some_iff.mp hv
    obtain ⟨q, hq, e1, _⟩ := (frz_at ha h0 e hS g).2.get hp
    rw [hw] at hq
    cases hq
    refine ⟨m, rfl, Ev.refl m, hS, ?_⟩
    show RD m _ (kV k)
    rw [show k = kk p.1 from e1]
    exact rd_key p.1
  go0 := fun D u v hD hv => by
    have := getElem?_getD hv
    rw [List.length_map] at this
    exact ⟨by rw [upd_ne (ne_of_none h0 hD)]; exact h0, by omega⟩
  stop0 := fun D u hD hi => by
    rw [List.length_map] at hi
    exact ⟨by rw [upd_ne (ne_of_none h0 hD)]; exact h0, by omega⟩
  kfb := fun i H x H' y kf => by obtain ⟨rfl, _⟩ := y; exact kf
theorem it_vals (ha : m0.em[n]? = some a) (h0 : m0.H a = some (.frz o (.dK ws))) (hl : kvs.length = ws.length) : ItOk cl m0 (Itd a o ws) (kvs.map (·.2)) (fun S => S[n]? = some (.lck (.dic kvs))) where
  go := fun i m S v e hS g hv => by
    have := getElem?_getD hv
    rw [List.length_map] at this
    exact ⟨(frz_at ha h0 e hS g).1, by omega⟩
  stop := fun i m S e hS g hi => by
    rw [List.length_map] at hi
    exact ⟨(frz_at ha h0 e hS g).1, by omega⟩
  yld := fun i m S v x H' e hS g hv y kf => by
    obtain ⟨rfl, k, hw⟩ := y
    rw [List.getElem?_map] at hv
    obtain ⟨p, hp, rfl⟩ := Option.map_eq_some_iff.mp hv
    obtain ⟨q, hq, _, r⟩ := (frz_at ha h0 e hS g).2.get hp
    rw [hw] at hq
    cases hq
    exact ⟨m, rfl, Ev.refl m, hS, r⟩
  go0 := fun D u v hD hv => by
    have := getElem?_getD hv
    rw [List.length_map] at this
    exact ⟨by rw [upd_ne (ne_of_none h0 hD)]; exact h0, by omega⟩
  stop0 := fun D u hD hi => by
    rw [List.length_map] at hi
    exact ⟨by rw [upd_ne (ne_of_none h0 hD)]; exact h0, by omega⟩
  kfb := fun i H x H' y kf => by obtain ⟨rfl, _⟩ := y; exact kf
theorem it_items (ha : m0.em[n]? = some a) (h0 : m0.H a = some (.frz o (.dK ws))) (hl : kvs.length = ws.length) : ItOk cl m0 (Iti a o ws) (kvs.map fun p => .tup [p.1.val, p.2]) (fun S => S[n]? = some (.lck (.dic kvs))) where
  go := fun i m S v e hS g hv => by
    have := getElem?_getD hv
    rw [List.length_map] at this
    exact ⟨(frz_at ha h0 e hS g).1, by omega⟩
  stop := fun i m S e hS g hi => by
    rw [List.length_map] at hi
    exact ⟨(frz_at ha h0 e hS g).1, by omega⟩
  yld := fun i m S v x H' e hS g hv y kf => by
    obtain ⟨T, k, z, hw, rfl, hT, rfl⟩ := y
    rw [List.getElem?_map] at hv
    obtain ⟨p, hp, rfl⟩ := Option.map_eq_some_iff.mp hv
    obtain ⟨q, hq, e1, r⟩ := (frz_at ha h0 e hS g).2.get hp
    rw [hw] at hq
    cases hq
    have e2 : Ev m { m with H := upd m.H T (.tup [kV k, z]) } := Ev.outside hT
    refine ⟨{ m with H := upd m.H T (.tup [kV k, z]) }, rfl, e2, hS.outside hT kf, .tup (.inl (.inl upd_same)) (.cons ?_ (.cons (r.up (e2.up hS)) .nil))⟩
    rw [show k = kk p.1 from e1]
    exact rd_key p.1
  go0 := fun D u v hD hv => by
    have := getElem?_getD hv
    rw [List.length_map] at this
    exact ⟨by rw [upd_ne (ne_of_none h0 hD)]; exact h0, by omega⟩
  stop0 := fun D u hD hi => by
    rw [List.length_map] at hi
    exact ⟨by rw [upd_ne (ne_of_none h0 hD)]; exact h0, by omega⟩
  kfb := fun i H x H' y kf => by obtain ⟨T, k, z, _, rfl, hT, rfl⟩ := y; exact kf_outside hT kf
end
/-- where a sequence's items stand, whatever comes between -/
structure SqOk (cl : Cl) (m0 : Sm) (t : Bool) (a : Addr) (xs : List Val) (g : Hm → Prop) : Prop where
  at_ : ∀ m S, Ev m0 m → SH cl m S → g S → ∃ ws, Sqx t m0.K m.H a ws ∧ RDs m xs ws
  at0 : ∀ D o, m0.H D = none → ∃ ws, Sqx t m0.K (upd m0.H D o) a ws ∧ ws.length = xs.length
theorem it_enumX {t : Bool} {a : Addr} {items : List Val} {g : Hm → Prop} (A : SqOk cl m0 t a items g) : ItOk cl m0 (Iex m0.K t a) (enumL 0 items) g where
  go := fun i m S v e hS g hv => by
    obtain ⟨ws, q, rs⟩ := A.at_ m S e hS g
    rw [enumL_get] at hv
    cases hi : items[i]? with
    | none => rw [hi] at hv; cases hv
    | some d =>
      obtain ⟨x, hx, _⟩ := rs.get hi
      exact ⟨ws, x, q, hx⟩
  stop := fun i m S e hS g hi => by
    obtain ⟨ws, q, rs⟩ := A.at_ m S e hS g
    rw [enumL_len] at hi
    exact ⟨ws, q, by rw [← rs.length]; omega⟩
  yld := fun i m S v x H' e hS g hv y kf => by
    obtain ⟨T, z, rfl, hT, rfl, y⟩ := y
    obtain ⟨ws, q, rs⟩ := A.at_ m S e hS g
    rw [enumL_get] at hv
    cases hi : items[i]? with
    | none => rw [hi] at hv; cases hv
    | some d =>
      rw [hi] at hv
      cases hv
      obtain ⟨x', hx, r⟩ := rs.get hi
      rw [y ws q] at hx
      cases hx
      have e1 : Ev m { m with H := upd m.H T (.tup [.int (i : Nat), z]) } := Ev.outside hT
      refine ⟨{ m with H := upd m.H T (.tup [.int (i : Nat), z]) }, rfl, e1, hS.outside hT kf, .tup (.inl (.inl upd_same)) ?_⟩
      rw [Nat.zero_add]
      exact .cons (.int _) (.cons (r.up (e1.up hS)) .nil)
  go0 := fun D o v hD hv => by
    obtain ⟨ws, q, l⟩ := A.at0 D o hD
    have hi := getElem?_getD hv
    rw [enumL_len] at hi
    have h2 : 0 < ws.length := by omega
    exact ⟨ws, ws[0], q, List.getElem?_eq_getElem h2⟩
  stop0 := fun D o hD hi => by
    obtain ⟨ws, q, l⟩ := A.at0 D o hD
    rw [enumL_len] at hi
    exact ⟨ws, q, by omega⟩
  kfb := fun i H x H' y kf => by obtain ⟨T, z, rfl, hT, rfl, y⟩ := y; exact kf_outside hT kf
theorem it_zipX {t u : Bool} {a b : Addr} {xs ys : List Val} {g g' : Hm → Prop} (A : SqOk cl m0 t a xs g) (B : SqOk cl m0 u b ys g') : ItOk cl m0 (Itx m0.K t u a b) (pairL xs ys) (fun S => g S ∧ g' S) where
  go := fun i m S v e hS g hv => by
    obtain ⟨ps, q1, r1⟩ := A.at_ m S e hS g.1
    obtain ⟨qs, q2, r2⟩ := B.at_ m S e hS g.2
    obtain ⟨d, d', h2, h3, rfl⟩ := pairL_get xs ys i hv
    obtain ⟨x, hx, _⟩ := r1.get h2
    obtain ⟨x', hx', _⟩ := r2.get h3
    exact ⟨ps, qs, x, x', q1, q2, hx, hx'⟩
  stop := fun i m S e hS g hi => by
    obtain ⟨ps, q1, r1⟩ := A.at_ m S e hS g.1
    obtain ⟨qs, q2, r2⟩ := B.at_ m S e hS g.2
    rw [pairL_len] at hi
    have l1 := r1.length
    have l2 := r2.length
    exact ⟨ps, qs, q1, q2, by omega⟩
  yld := fun i m S v x H' e hS g hv y kf => by
    obtain ⟨T, z, z', rfl, hT, rfl, y, y'⟩ := y
    obtain ⟨ps, q1, r1⟩ := A.at_ m S e hS g.1
    obtain ⟨qs, q2, r2⟩ := B.at_ m S e hS g.2
    obtain ⟨d, d', h2, h3, rfl⟩ := pairL_get xs ys i hv
    obtain ⟨x, hx, r⟩ := r1.get h2
    obtain ⟨x', hx', r'⟩ := r2.get h3
    rw [y ps q1] at hx
    rw [y' qs q2] at hx'
    cases hx
    cases hx'
    have e1 : Ev m { m with H := upd m.H T (.tup [z, z']) } := Ev.outside hT
    exact ⟨{ m with H := upd m.H T (.tup [z, z']) }, rfl, e1, hS.outside hT kf, .tup (.inl (.inl upd_same)) (.cons (r.up (e1.up hS)) (.cons (r'.up (e1.up hS)) .nil))⟩
  go0 := fun D o v hD hv => by
    obtain ⟨ps, q1, l1⟩ := A.at0 D o hD
    obtain ⟨qs, q2, l2⟩ := B.at0 D o hD
    have hi := getElem?_getD hv
    rw [pairL_len] at hi
    have h2 : 0 < ps.length := by omega
    have h3 : 0 < qs.length := by omega
    exact ⟨ps, qs, ps[0], qs[0], q1, q2, List.getElem?_eq_getElem h2, List.getElem?_eq_getElem h3⟩
  stop0 := fun D o hD hi => by
    obtain ⟨ps, q1, l1⟩ := A.at0 D o hD
    obtain ⟨qs, q2, l2⟩ := B.at0 D o hD
    rw [pairL_len] at hi
    exact ⟨ps, qs, q1, q2, by omega⟩
  kfb := fun i H x H' y kf => by obtain ⟨T, z, z', rfl, hT, rfl, y⟩ := y; exact kf_outside hT kf
/-- a list or a tuple, as zip takes it -/
theorem sq_of {v : Val} {x : V} {S : Hm} {K : List Val → (Hm → Prop) → Prop} (hS : SH cl m0 S) (r : RD m0 v x) (h : ltOf v S K) : ∃ t a xs g, x = .ref a ∧ SqOk cl m0 t a xs g ∧ K xs g ∧ ∃ ws, Sqx t m0.K m0.H a ws := by
  cases v with
  | tup xs =>
    cases r with
    | @tup q vs _ hv rs =>
    have h : K xs fun _ => True := h
    exact ⟨true, q, xs, _, rfl, ⟨fun m S' e _ _ => ⟨vs, by have z := (e.up hS).tup q vs hv; rw [e.k] at z; exact z, rs.up (e.up hS)⟩, fun D o hD => ⟨vs, sqtUp hv hD, rs.length.symm⟩⟩, h, vs, hv⟩
  | ref n =>
    obtain ⟨xs, h1, h2⟩ := h
    cases r with
    | @ref _ q hq =>
    obtain ⟨vs, hv, rs⟩ := hS.lst h1 hq
    exact ⟨false, q, xs, _, rfl, ⟨fun m S' e hS' g => by
      obtain ⟨ws, z, rz⟩ := hS'.lst g (em_get e.em hq)
      rw [e.k] at z
      exact ⟨ws, z, rz⟩, fun D o hD => ⟨vs, sqlUp hv hD, rs.length.symm⟩⟩, h2, vs, hv⟩
  | _ => exact h.elim
end
end Mi

set_option maxHeartbeats 4000000
namespace Mi
open PySem PySem.Spec L2 PyProof.Rows
section
variable (P : Pg) (cl : Cl) (k : Nat) (X : Cx) (W : WX)
def tSrc (src : Src) : TI := fun σ H R => ∃ m env S, m.K = X.K ∧ m.H = H ∧ SH cl m S ∧ SV m env σ ∧ wSrc P.con (callW P k) (liftX cl X.mg m fun c d H => W c d σ H) src env S fun items g S' => ∀ m' J, Ev m m' → SH cl m' S' → ItOk cl m' J items g → R J m'.H
end
section
variable {P : Pg} {cl : Cl} {k : Nat} {X : Cx} {W : WX} {sc : Ko} {m m0 : Sm} {env : Env} {S : Hm} {σ : L2.St}
theorem tSrc_of {src : Src} {Q1 : List Val → (Hm → Prop) → Hm → Prop} {R : It → Hp → Prop} (hK : m.K = X.K) (hS : SH cl m S) (hV : SV m env σ) (e0 : Ev m0 m) (h : wSrc P.con (callW P k) (liftX cl X.mg m0 fun c d H => W c d σ H) src env S Q1)
    (hq : ∀ m1 J S1 items g, Ev m m1 → SH cl m1 S1 → ItOk cl m1 J items g → SV m1 env σ → Q1 items g S1 → R J m1.H) : tSrc P cl k X W src σ m.H R :=
  ⟨m, env, S, hK, rfl, hS, hV, wSrc_mono (callW_mono P k) (fun _ _ h1 => liftX.ev e0 h1) src (fun items g S1 h1 m1 J e1 hS1 ok => hq m1 J S1 items g e1 hS1 ok (hV.up (e1.up hS)) h1) h⟩
theorem PI.imp {tg e : Expr} {t t' : TI} (h : PI X tg e t) (f : ∀ σ H Q, t' σ H Q → t σ H Q) : PI X tg e t' := ⟨fun pins s σ H R I hw => h.run pins s σ H R I (f _ _ _ hw)⟩
variable {a b : E} {ea eb tg : Expr} {pos p : Pos}
/-- a list, a tuple or a text, walked -/
theorem pi_seq {e : Expr} {te : TE} (he : PE X e te) : PI X tg e (fun σ H R => te σ H fun x H1 => (∃ a xs, x = .ref a ∧ SqL X.K H1 a xs ∧ R (Itl X.K a) H1) ∨ (∃ a xs, x = .ref a ∧ SqT X.K H1 a xs ∧ R (Itt X.K a) H1) ∨ ∃ z, x = .str z ∧ R (Its z) H1) := by
  refine ⟨fun pins s σ H R I h => thn (he.run pins s σ H _ I h) fun v s1 ⟨x, H1, I1, r1, q1⟩ => ?_⟩
  rcases q1 with ⟨a, xs, rfl, hq, q⟩ | ⟨a, xs, rfl, hq, q⟩ | ⟨z, rfl, q⟩
  · cases r1
    obtain ⟨its, rv, p, _⟩ := I1.list hq
    exact wpAny_pyIter_list p.isList (pi_one (tk := s1.toks) I1 _ (turn_list a _) ⟨_, Heap.get?_push_size _ rfl, rfl, rfl⟩ q)
  · cases r1
    obtain ⟨its, rv, p, _⟩ := I1.tuple hq
    exact wpAny_pyIter_tuple (show s1.heap.IsTuple a its.toArray from p) (pi_one (tk := s1.toks) I1 _ (turn_tuple a _) ⟨_, Heap.get?_push_size _ rfl, rfl, rfl⟩ q)
  · obtain ⟨t, rfl⟩ := r1
    cases hz : z.cps.all (· < 128)
    · exact wpAny_pyIter_wide hz (pi_one (tk := s1.toks) I1 _ (turn_str _ z t "str_iterator" (.inr rfl)) ⟨_, Heap.get?_push_size _ rfl, rfl, rfl⟩ q)
    · exact wpAny_pyIter_ascii hz (pi_one (tk := s1.toks) I1 _ (turn_str _ z t "str_ascii_iterator" (.inl rfl)) ⟨_, Heap.get?_push_size _ rfl, rfl, rfl⟩ q)
theorem s_seq (ha : PE X ea (tE P cl k X W a)) : PI X tg ea (tSrc P cl k X W (.seq a)) :=
  PI.imp (pi_seq ha) fun σ H Q ⟨m, env, S, hK, eH, hS, hV, h⟩ => by
    subst eH
    simp only [wSrc] at h
    refine tE_of hK hS hV (Ev.refl m) h fun m1 x S1 v e1 hS1 r1 hV1 h1 => ?_
    have hK1 := e1.k.trans hK
    cases r1 with
    | str z => exact .inr (.inr ⟨_, rfl, h1 m1 _ e1 hS1 (it_str z)⟩)
    | @tup q xs ds hq rs =>
      have hq' := hq
      rw [hK1] at hq'
      refine .inr (.inl ⟨q, xs, rfl, hq', ?_⟩)
      have := it_tup hS1 hq rs
      rw [hK1] at this
      exact h1 m1 _ e1 hS1 this
    | @ref n q hq =>
      obtain ⟨ds, h2, h3⟩ := h1
      obtain ⟨vs, hv, rs⟩ := hS1.lst h2 hq
      have hv' := hv
      rw [hK1] at hv'
      refine .inl ⟨q, vs, rfl, hv', ?_⟩
      have := it_lst (cl := cl) hq hv rs.length
      rw [hK1] at this
      exact h3 m1 _ e1 hS1 this
    | _ => exact h1.elim
theorem s_rng1 (xo : XO P cl X k sc W) (hg : Gl X (Str.ofString "range")) (hs : notStar ea = true) (ha : PE X ea (tE P cl k X W a)) : PI X tg (.Call (.Name (Str.ofString "range") p) [ea] [] pos) (tSrc P cl k X W (.rng1 a)) :=
  PI.imp (pi_range1 hg (xo.ln.bi "range" (by decide)) (pa_cons ha pa_nil (star_cons hs)) (star_cons hs)) fun σ H Q ⟨m, env, S, hK, eH, hS, hV, h⟩ => by
    subst eH
    simp only [wSrc] at h
    refine tE_of hK hS hV (Ev.refl m) h fun m1 x S1 v e1 hS1 r1 hV1 h1 => ?_
    obtain ⟨j, rfl, h2, h3⟩ := h1
    cases r1
    exact ⟨j, rfl, h2.1, h2.2, h3 m1 _ e1 hS1 (it_rng 0 j.toNat)⟩
theorem s_rng2 (xo : XO P cl X k sc W) (hg : Gl X (Str.ofString "range")) (hs : notStar ea = true) (hs2 : notStar eb = true) (ha : PE X ea (tE P cl k X W a)) (hb : PE X eb (tE P cl k X W b)) : PI X tg (.Call (.Name (Str.ofString "range") p) [ea, eb] [] pos) (tSrc P cl k X W (.rng2 a b)) :=
  PI.imp (pi_range2 hg (xo.ln.bi "range" (by decide)) (pa_cons ha (pa_cons hb pa_nil (star_cons hs2)) (star_cons hs)) (by rw [star_cons hs, star_cons hs2]; rfl) (star_cons hs2)) fun σ H Q ⟨m, env, S, hK, eH, hS, hV, h⟩ => by
    subst eH
    simp only [wSrc] at h
    refine tE_of hK hS hV (Ev.refl m) h fun m1 x S1 v e1 hS1 r1 hV1 h1 => ?_
    refine tE_of (e1.k.trans hK) hS1 hV1 e1 h1 fun m2 y S2 w e2 hS2 r2 hV2 h2 => ?_
    obtain ⟨i, j, rfl, rfl, h3, h4, h5⟩ := h2
    cases r1
    cases r2
    exact ⟨i, j, rfl, ⟨h3.1, h3.2, h4.1, h4.2⟩, h5 m2 _ (e1.trans e2) hS2 (it_rng i (j - i).toNat)⟩
theorem s_rev (xo : XO P cl X k sc W) (hg : Gl X (Str.ofString "reversed")) (hs : notStar ea = true) (ha : PE X ea (tE P cl k X W a)) : PI X tg (.Call (.Name (Str.ofString "reversed") p) [ea] [] pos) (tSrc P cl k X W (.rev a)) :=
  PI.imp (RT.pi_revA hg (xo.ln.bi "reversed" (by decide)) ha (star_cons hs)) fun σ H Q ⟨m, env, S, hK, eH, hS, hV, h⟩ => by
    subst eH
    simp only [wSrc] at h
    refine tE_of hK hS hV (Ev.refl m) h fun m1 x S1 v e1 hS1 r1 hV1 h1 => ?_
    have hK1 := e1.k.trans hK
    cases r1 with
    | @tup q xs ds hq rs =>
      have hq' := hq
      rw [hK1] at hq'
      refine ⟨q, xs, rfl, .inr ⟨hq', ?_⟩⟩
      have := it_revT hS1 hq rs
      rw [hK1] at this
      exact h1 m1 _ e1 hS1 this
    | @ref n q hq =>
      obtain ⟨ds, h2, h3⟩ := h1
      obtain ⟨vs, hv, rs⟩ := hS1.lst h2 hq
      have hv' := hv
      rw [hK1] at hv'
      refine ⟨q, vs, rfl, .inl ⟨hv', ?_⟩⟩
      have := it_rev (cl := cl) hq hv rs.length
      rw [hK1] at this
      exact h3 m1 _ e1 hS1 this
    | _ => exact h1.elim
variable {elts : List Expr} {kk : Nat} {tpos : Pos}
theorem s_enum (xo : XO P cl X k sc W) (hg : Gl X (Str.ofString "enumerate")) (hs : notStar ea = true) (ha : PE X ea (tE P cl k X W a)) : PI X (.Tuple elts kk tpos) (.Call (.Name (Str.ofString "enumerate") p) [ea] [] pos) (tSrc P cl k X W (.enum a)) :=
  PI.imp (pi_enumX hg (xo.ln.bi "enumerate" (by decide)) (pa_cons ha pa_nil (star_cons hs)) (star_cons hs)) fun σ H Q ⟨m, env, S, hK, eH, hS, hV, h⟩ => by
    subst eH
    simp only [wSrc] at h
    refine tE_of hK hS hV (Ev.refl m) h fun m1 x S1 v e1 hS1 r1 hV1 h1 => ?_
    have hK1 := e1.k.trans hK
    obtain ⟨t, a, xs, g, rfl, A, h3, ps, q1⟩ := sq_of hS1 r1 h1
    rw [hK1] at q1
    have it := it_enumX A
    rw [hK1] at it
    exact ⟨t, a, ps, rfl, q1, h3 m1 _ e1 hS1 it⟩
theorem s_keys (ha : PE X ea (tE P cl k X W a)) : PI X tg ea (tSrc P cl k X W (.keys a)) :=
  PI.imp (pi_keys ha) fun σ H Q ⟨m, env, S, hK, eH, hS, hV, h⟩ => by
    subst eH
    simp only [wSrc] at h
    refine tE_of hK hS hV (Ev.refl m) h fun m1 x S1 v e1 hS1 r1 hV1 h1 => ?_
    obtain ⟨n, kvs, rfl, h2, h3⟩ := h1
    cases r1 with
    | @ref _ q hq =>
    obtain ⟨o, ws, h4, r⟩ := hS1.ob n _ q h2 hq
    exact ⟨q, o, rfl, .inl ⟨ws, h4, h3 m1 _ e1 hS1 (it_keys hq h4 r.length)⟩⟩
theorem s_vals {e : Expr} {apos cpos : Pos} (ha : PE X e (tE P cl k X W a)) (hbase : attributeBase e "values" X.env (eval e X.env) = eval e X.env) (hline : (apos.endLine == cpos.line) = true) : PI X tg (.Call (.Attribute e "values" apos) [] [] cpos) (tSrc P cl k X W (.values a)) :=
  PI.imp (pi_values ha hbase hline) fun σ H Q ⟨m, env, S, hK, eH, hS, hV, h⟩ => by
    subst eH
    simp only [wSrc] at h
    refine tE_of hK hS hV (Ev.refl m) h fun m1 x S1 v e1 hS1 r1 hV1 h1 => ?_
    obtain ⟨n, kvs, rfl, h2, h3⟩ := h1
    cases r1 with
    | @ref _ q hq =>
    obtain ⟨o, ws, h4, r⟩ := hS1.ob n _ q h2 hq
    exact ⟨q, o, ws, rfl, h4, h3 m1 _ e1 hS1 (it_vals hq h4 r.length)⟩
theorem s_items {e : Expr} {apos cpos : Pos} (ha : PE X e (tE P cl k X W a)) (hbase : attributeBase e "items" X.env (eval e X.env) = eval e X.env) (hline : (apos.endLine == cpos.line) = true) : PI X (.Tuple elts kk tpos) (.Call (.Attribute e "items" apos) [] [] cpos) (tSrc P cl k X W (.items a)) :=
  PI.imp (pi_items ha hbase hline) fun σ H Q ⟨m, env, S, hK, eH, hS, hV, h⟩ => by
    subst eH
    simp only [wSrc] at h
    refine tE_of hK hS hV (Ev.refl m) h fun m1 x S1 v e1 hS1 r1 hV1 h1 => ?_
    obtain ⟨n, kvs, rfl, h2, h3⟩ := h1
    cases r1 with
    | @ref _ q hq =>
    obtain ⟨o, ws, h4, r⟩ := hS1.ob n _ q h2 hq
    exact ⟨q, o, ws, rfl, h4, h3 m1 _ e1 hS1 (it_items hq h4 r.length)⟩
theorem s_zip (xo : XO P cl X k sc W) (hg : Gl X (Str.ofString "zip")) (hs : notStar ea = true) (hs2 : notStar eb = true) (ha : PE X ea (tE P cl k X W a)) (hb : PE X eb (tE P cl k X W b)) : PI X (.Tuple elts kk tpos) (.Call (.Name (Str.ofString "zip") p) [ea, eb] [] pos) (tSrc P cl k X W (.zip a b)) :=
  PI.imp (pi_zipX hg (xo.ln.bi "zip" (by decide)) (pa_cons ha (pa_cons hb pa_nil (star_cons hs2)) (star_cons hs)) (star_cons hs) (star_any (by simp [hs2]))) fun σ H Q ⟨m, env, S, hK, eH, hS, hV, h⟩ => by
    subst eH
    simp only [wSrc] at h
    refine tE_of hK hS hV (Ev.refl m) h fun m1 x S1 v e1 hS1 r1 hV1 h1 => ?_
    refine tE_of (e1.k.trans hK) hS1 hV1 e1 h1 fun m2 y S2 w e2 hS2 r2 hV2 h2 => ?_
    have hK2 := (e1.trans e2).k.trans hK
    obtain ⟨t, a, xs, g, rfl, A, h3, ps, q1⟩ := sq_of hS2 (r1.up (e2.up hS1)) h2
    obtain ⟨u, b, ys, g', rfl, B, h4, qs, q2⟩ := sq_of hS2 r2 h3
    rw [hK2] at q1 q2
    have it := it_zipX A B
    rw [hK2] at it
    exact ⟨t, u, a, b, ps, qs, rfl, q1, q2, h4 m2 _ (e1.trans e2) hS2 it⟩

/-! ### targets -/
def setN : List Nat → List V → L2.St → L2.St
  | i :: is, x :: xs, σ => setN is xs (σ.set i (some x))
  | _, _, σ => σ
def Tg.slots : Tg → List Nat
  | .nm i => [i]
  | .tp is => is
def tG (K : PySem.W.Frag) : Tg → TG
  | .nm i => fun v σ H Q => Q (σ.set i (some v)) H
  | .tp is => fun v σ H Q => ∃ a xs, v = .ref a ∧ SqT K H a xs ∧ xs.length = is.length ∧ Q (setN is xs σ) H
theorem PG.imp {tg : Expr} {t t' : TG} (h : PG X tg t) (f : ∀ v σ H Q, t' v σ H Q → t v σ H Q) : PG X tg t' := ⟨fun pins s σ H v u Q I r hw => h.run pins s σ H v u Q I r (f _ _ _ _ hw)⟩
theorem PG.pre {tg : Expr} {t : TG} (h : PG X tg t) : PG X tg (fun v σ H Q => KF X.K H → t v σ H Q) := ⟨fun pins s σ H v u Q I r hw => h.run pins s σ H v u Q I r (hw (kfree I))⟩
/-- a name that is stored -/
structure NmOk (X : Cx) (i : Nat) (e : Expr) : Prop where
  ok : ∃ x pos, e = .Name x pos ∧ X.N[i]? = some x ∧ Loc X.env.scope x ∧ (X.fn x = true ∨ X.env.scope.names.lookup x = some .local)
theorem g_nm {i : Nat} {e : Expr} (hN : X.N.Nodup) (h : NmOk X i e) : PG X e (gName i) := by
  obtain ⟨x, pos, rfl, h1, h2, h3⟩ := h.ok
  exact pg_name hN h1 h2 h3
def gNs : List Nat → TGs
  | [] => gNil
  | i :: is => gCons (gName i) (gNs is)
inductive NmsOk (X : Cx) : List Nat → List Expr → Prop where
  | nil : NmsOk X [] []
  | cons {i e is es} : NmOk X i e → NmsOk X is es → NmsOk X (i :: is) (e :: es)
theorem NmsOk.pgs {is es} (hN : X.N.Nodup) (h : NmsOk X is es) : PGs X es (gNs is) := by
  induction h with
  | nil => exact pgs_nil
  | cons h1 h2 ih =>
    refine pgs_cons (g_nm hN h1) ih ?_
    obtain ⟨x, pos, rfl, _⟩ := h1.ok
    rfl
theorem NmsOk.len {is es} (h : NmsOk X is es) : (assignEach es X.env).length = is.length := by
  induction h with
  | nil => rfl
  | cons h1 h2 ih =>
    obtain ⟨x, pos, rfl, _⟩ := h1.ok
    show (assignEach _ X.env).length + 1 = _
    rw [ih]
    rfl
theorem NmsOk.star {is es} (h : NmsOk X is es) : (assignEach es X.env).findIdx? (·.1) = none := by
  rw [List.findIdx?_eq_none_iff]
  induction h with
  | nil => intro x hx; cases hx
  | cons h1 h2 ih =>
    obtain ⟨x, pos, rfl, _⟩ := h1.ok
    intro y hy
    rcases List.mem_cons.mp hy with rfl | hy
    · rfl
    · exact ih y hy
theorem gNs_of : ∀ (is : List Nat) (xs : List V) (σ : L2.St) (H : Hp) (Q : L2.St → Hp → Prop), xs.length = is.length → Q (setN is xs σ) H → gNs is xs σ H Q
  | [], xs, σ, H, Q, hl, h => by
    cases xs with
    | nil => exact ⟨rfl, h⟩
    | cons _ _ => cases hl
  | i :: is, [], σ, H, Q, hl, h => by cases hl
  | i :: is, x :: xs, σ, H, Q, hl, h => ⟨x, xs, rfl, gNs_of is xs _ H Q (by simpa using hl) h⟩
inductive TgOk (X : Cx) : Tg → Expr → Prop where
  | nm {i e} : NmOk X i e → TgOk X (.nm i) e
  | tp {is es kk pos} : NmsOk X is es → TgOk X (.tp is) (.Tuple es kk pos)
theorem TgOk.pg {t e} (hN : X.N.Nodup) (hc : X.calm = true) (h : TgOk X t e) : PG X e (tG X.K t) := by
  cases h with
  | nm h => exact g_nm hN h
  | tp h => exact PG.imp (pg_tup hc (h.pgs hN) h.len h.star) fun v σ H Q ⟨a, xs, h1, h2, h3, h4⟩ => ⟨a, xs, h1, h2, h3, gNs_of _ _ _ _ _ h3 h4⟩
theorem SV.setN : ∀ {is : List Nat} {ds : List Val} {xs : List V} {env : Env} {σ : L2.St}, SV m env σ → RDs m ds xs → SV m ((is.zip ds).foldl (fun e p => es e p.1 (some p.2)) env) (setN is xs σ)
  | [], ds, xs, env, σ, h, r => by simpa [Mi.setN] using h
  | i :: is, _, _, env, σ, h, .nil => by simpa [Mi.setN] using h
  | i :: is, _, _, env, σ, h, .cons r rs => by
    simp only [List.zip_cons_cons, List.foldl_cons, Mi.setN]
    exact SV.setN (h.set r) rs
theorem tG_of {t : Tg} {d : Val} {x : V} {K1 : Env → Prop} {Q : L2.St → Hp → Prop} (hK : m.K = X.K) (r : RD m d x) (hV : SV m env σ) (h : tgW t d env K1) (hq : ∀ env' xs, K1 env' → SV m env' (setN t.slots xs σ) → Q (setN t.slots xs σ) m.H) : tG X.K t x σ m.H Q := by
  cases t with
  | nm i =>
    have := hq _ [x] h (by simpa [Tg.slots, setN] using hV.set r)
    simpa [Tg.slots, setN, tG] using this
  | tp is =>
    obtain ⟨ds, rfl, hl, h⟩ := h
    cases r with
    | @tup a xs _ hq' rs =>
    rw [hK] at hq'
    exact ⟨a, xs, rfl, hq', by rw [← rs.length]; exact hl, hq _ xs h (hV.setN rs)⟩
theorem wipe_get (σ : L2.St) : ∀ (vs : List Nat) (j : Nat), (L2.wipe σ vs)[j]? = if j ∈ vs then (σ[j]?).map fun _ => none else σ[j]?
  | [], j => by simp [L2.wipe]
  | v :: vs, j => by
    unfold L2.wipe
    rw [List.getElem?_set]
    by_cases h : v = j
    · subst h
      rw [if_pos rfl, if_pos List.mem_cons_self, L2.wipe_length]
      by_cases hl : v < σ.length
      · rw [if_pos hl, List.getElem?_eq_getElem hl]; rfl
      · rw [if_neg hl, List.getElem?_eq_none (by omega)]; rfl
    · rw [if_neg h, wipe_get]
      by_cases h2 : j ∈ vs
      · rw [if_pos h2, if_pos (List.mem_cons_of_mem _ h2)]
      · rw [if_neg h2, if_neg (by
          intro z
          rcases List.mem_cons.mp z with z | z
          · exact h z.symm
          · exact h2 z)]
theorem wipe_set {σ τ : L2.St} {vs : List Nat} {i : Nat} {x : Option V} (hi : i ∈ vs) (h : L2.wipe τ vs = L2.wipe σ vs) : L2.wipe (τ.set i x) vs = L2.wipe σ vs := by
  rw [← h]
  apply List.ext_getElem?
  intro j
  rw [wipe_get, wipe_get]
  by_cases hj : j ∈ vs
  · rw [if_pos hj, if_pos hj, List.getElem?_set]
    by_cases e : i = j
    · subst e
      rw [if_pos rfl]
      by_cases hl : i < τ.length
      · rw [if_pos hl, List.getElem?_eq_getElem hl]; rfl
      · rw [if_neg hl, List.getElem?_eq_none (by omega)]
    · rw [if_neg e]
  · rw [if_neg hj, if_neg hj, List.getElem?_set, if_neg (show ¬ i = j from fun e => hj (e ▸ hi))]
theorem wipe_wipe {σ : L2.St} {vs : List Nat} : L2.wipe (L2.wipe σ vs) vs = L2.wipe σ vs := by
  apply List.ext_getElem?
  intro j
  rw [wipe_get, wipe_get]
  by_cases hj : j ∈ vs
  · rw [if_pos hj, if_pos hj]
    cases σ[j]? <;> rfl
  · rw [if_neg hj, if_neg hj]
theorem wipe_setN {vs : List Nat} : ∀ {is : List Nat} {xs : List V} {σ τ : L2.St}, (∀ i ∈ is, i ∈ vs) → L2.wipe τ vs = L2.wipe σ vs → L2.wipe (setN is xs τ) vs = L2.wipe σ vs
  | [], _, σ, τ, _, h => by simpa [setN] using h
  | i :: is, [], σ, τ, _, h => by simpa [setN] using h
  | i :: is, x :: xs, σ, τ, hi, h => by
    simp only [setN]
    exact wipe_setN (fun j hj => hi j (List.mem_cons_of_mem _ hj)) (wipe_set (hi i List.mem_cons_self) h)
end
end Mi

set_option maxHeartbeats 4000000
namespace Mi
open PySem PySem.Spec L2 PyProof.Rows
/-- a wish that looks at the slots σ, whatever the block's own ones are -/
abbrev atS (W : WX) (σ : L2.St) : WX := fun c d _ H => W c d σ H
/-- the block of a comprehension, what calls let out within it goes to W at the slots σ -/
abbrev Cx.blkE (X : Cx) (W : WX) (σ : L2.St) (s : Shared) (H : Hp) (scope : Scope) (ce : PySem.Env) (fp : List Addr) : Cx :=
  (X.blk s H scope ce fp).tr [] (XF (X.blk s H scope ce fp) (atS W σ))
section
variable {X : Cx} {W : WX} {σ : L2.St} {pins : List (Addr × Obj)} {H : Hp} {s : Shared} {scope : Scope} {ce : PySem.Env} {fp : List Addr}
theorem toE {ρ : L2.St} {H' : Hp} {t : Shared} (I : Inv (X.blk s H scope ce fp) [] ρ H' t) : Inv (Cx.blkE X W σ s H scope ce fp) [] ρ H' t := I.toTry _
theorem ofE {ps : List (Addr × Obj)} {ρ : L2.St} {H' : Hp} {t : Shared} (I : Inv (Cx.blkE X W σ s H scope ce fp) ps ρ H' t) : Inv (X.blk s H scope ce fp) [] ρ H' t := Inv.ofTry (X := X.blk s H scope ce fp) (pins := []) I I.ok.ofTry
theorem blkE_tk : TkF (Cx.blkE X W σ s H scope ce fp) (atS W σ) := by
  rintro u t ⟨x, G, sG, ps, ρ, K, c, d, F, rfl, I, nb, up, fr, sky, nx, os, ag, w⟩
  exact ⟨x, G, sG, [], ρ, K, c, d, F, rfl, ofE I, nb, up, fr, sky, nx, os, ag, w⟩
theorem blkE_fr (fr : InFr X) (hf : ce.frame = X.env.frame) : InFr (Cx.blkE X W σ s H scope ce fp) := by
  obtain ⟨e0, out, F, h1, h2, h3⟩ := fr
  exact ⟨e0, out, F, h1, h2, hf.trans h3⟩
/-- what flies within the block goes on around it -/
theorem blk_err {L C : Addr} {u : Value} {t : Shared} {use : Option (Value → Sem Unit)} {Q : Value → Shared → Prop} {acc : Value} (fr : InFr X) (tk : TkF X W) (I : Inv X pins σ H s) (hf : ce.frame = X.env.frame) (hC : ce.locals = s.heap.objs.size)
    (hfp : ∀ b ∈ fp, FpOk X pins H b) (x : XF (X.blk s H scope ce fp) (atS W σ) u t) :
    notedBy (model X.prog X.w) X.A ce (fun e t' => blkEnd (model X.prog X.w) X.A X.xe use Q acc ce (.error e) t') u t := by
  obtain ⟨e0, out, F0, hs, hf0, hXf⟩ := fr
  have hfr : X.A.frames = some (e0 :: out) := by rw [I.ok.frames, hs]
  obtain ⟨a, B, sB, ps, ρ, K, c, d, F, rfl, J, nb, up, fr, sky, na, os, ag, w⟩ := x
  have hcf : ce.frame = some F := fr
  have eF : F = F0 := by
    rw [hf, hXf] at hcf
    exact (Option.some.inj hcf).symm
  subst eF
  have sky : Sky B (e0 :: out) a (L2N.Zn c d) F t.heap := by rw [← hs]; exact sky
  have nC : s.heap.objs.size ∉ frs X.stack := fun hm => by
    obtain ⟨_, o, ho, _⟩ := I.stack.mem hm
    exact absurd (Heap.lt_size ho) (Nat.lt_irrefl _)
  obtain ⟨m0, hn0, _⟩ := J.loc
  have hn0 : sB.heap.Ns ce.locals m0 := hn0
  rw [hC] at hn0
  obtain ⟨oC, _, _, hoC, _⟩ := hn0
  have inB : B.get? s.heap.objs.size = some oC := nb _ _ hoC nC
  show wpAny _ _ (noteFrame (.ref a) ce) _ _ t
  rw [note_eq (e0 := e0) (.ref a) (hcf.trans hf0.symm)]
  have fin : ∀ h1, HandSPX.HeldZ B (e0 :: out) a (L2N.Zn c d) F h1 → t.heap.UpToSlots h1 → blkEnd (model X.prog X.w) X.A X.xe use Q acc ce (.error (.ref a)) { t with heap := h1 } := fun h1 hh up1 => by
    have JL := J.landed (s' := { t with heap := h1 }) nb hh.1 (up.trans up1) os ag
    obtain ⟨m, hn, _⟩ := JL.loc
    refine ⟨m, hn, fun g sb => ?_⟩
    rw [hC] at sb
    obtain ⟨z1, z2, z3, oe, vs, T, oT, ts, q1, q2, q3, q4, q5, q6, q7, q8, q9⟩ := hh
    have aC : a ≠ s.heap.objs.size := fun z => by rw [z, inB] at z2; cases z2
    have tC : T ≠ s.heap.objs.size := fun z => by rw [z, inB] at q5; cases q5
    have B1 : ∀ b o, (PySem.W.hideAll B [s.heap.objs.size]).get? b = some o → B.get? b = some o ∧ b ≠ s.heap.objs.size := fun b o e => ⟨PySem.W.of_hideAll _ e, fun z => by
      rw [z, PySem.W.hideAll_none _ (.head _)] at e
      cases e⟩
    have B2 : ∀ b, B.get? b = none → (PySem.W.hideAll B [s.heap.objs.size]).get? b = none := fun b e => by
      cases q : (PySem.W.hideAll B [s.heap.objs.size]).get? b with
      | none => rfl
      | some o => rw [(B1 b o q).1] at e; cases e
    have hold : HandSPX.HeldZ (PySem.W.hideAll B [s.heap.objs.size]) (e0 :: out) a (L2N.Zn c d) F g :=
      ⟨fun b o e => (sb.2 b (B1 b o e).2).trans (z1 b o (B1 b o e).1), B2 a z2, frames_on z3 fun G hG => ⟨B2 G (z3.mem hG).1, sb.2 G fun z => nC (by rw [← z, hs]; exact hG)⟩,
        oe, vs, T, oT, ts, (sb.2 a aC).trans q1, q2, q3, q4, B2 T q5, q6, (sb.2 T tC).trans q7, q8, q9⟩
    obtain ⟨_, _, _, oe, vs, T, oT, ts, q1, q2, q3, q4, _⟩ := id hold
    unfold PySem.passOn
    refine wpAny_bind (wpAny_field q1 q3 q4 ?_)
    rw [if_neg (show ¬ ((Value.ref T == Value.none) = true) from fun z => by cases z)]
    have go : wpAny (model X.prog X.w) X.A (setFlight (.ref a) ce.frame) (fun _ t4 => wpAny (model X.prog X.w) X.A (throw (.ref a) : Sem Value) (fun _ _ => False) X.xe t4) X.xe { t with heap := g } := by
      rw [hcf]
      refine HandSPX.setFlight_onZ hold fun g4 hold4 up4 => wpAny_throw (tk _ _ ?_)
      have K0 : Inv X pins σ K sB := I.call' (ch := fp) J.os J.base J.hok J.bare fun b hb => ⟨(hfp b hb).2.2.2.1, (hfp b hb).2.1, (hfp b hb).2.2.2.2.1, (hfp b hb).2.2.2.2.2⟩
      have nK : K s.heap.objs.size = none := by
        have z : K ce.locals = none := J.free
        rwa [hC] at z
      obtain ⟨f0, f1, _, f3, f4, f5⟩ := I.fpOk (Nat.le_refl _) nK
      have K1 := K0.turned (t' := sB.toks) (h' := PySem.W.hideAll sB.heap [s.heap.objs.size]) (fun b o hb e => PySem.W.hideAll_get _ e (by simpa using hb)) f0 f1 f3 f4 f5
      have S1 : ∀ b o, (PySem.W.hideAll sB.heap [s.heap.objs.size]).get? b = some o → sB.heap.get? b = some o ∧ b ≠ s.heap.objs.size := fun b o e => ⟨PySem.W.of_hideAll _ e, fun z => by
        rw [z, PySem.W.hideAll_none _ (.head _)] at e
        cases e⟩
      refine ⟨a, PySem.W.hideAll B [s.heap.objs.size], _, pins, σ, K, c, d, F, rfl, K1, fun b o e hb => ?_, fun b o e nf => ?_, hXf, .inr (.inr (by rw [hs]; exact hold4)), na, os, ag, w⟩
      · obtain ⟨e1, hb1⟩ := S1 b o e
        exact PySem.W.hideAll_get _ (nb b o e1 hb) (by simpa using hb1)
      · obtain ⟨e1, hb1⟩ := S1 b o e
        obtain ⟨sl, e2⟩ := (up.trans up1) b o e1 nf
        have e3 : g.get? b = some { o with slots := sl } := (sb.2 b hb1).trans e2
        obtain ⟨sl2, e4⟩ := up4 b _ e3 nf
        exact ⟨sl2, e4⟩
    first
      | exact wpAny_bind (wpAny_pure (wpAny_bind go))
      | exact wpAny_bind go
  rcases sky with ⟨z1, z2, z3, oe, vs, q1, q2, q3, q4⟩ | fl | hh
  · exact PXN.look_newZ L2N.Zn.steady hfr z3 hf0 q1 z1 z2 q3 q4 q2 fin
  · exact PXN.looks_onZ L2N.Zn.steady hfr hf0 fl fin
  · exact HandSPX.againZ hf0 hh.2.2.2 (fin t.heap hh (Heap.UpToSlots.refl _))
end
end Mi

set_option maxHeartbeats 4000000
namespace Mi
open PySem PySem.Spec L2 PyProof.Rows
section
variable {X : Cx} {W : WX}
theorem no_err {α : Type} {M : Model} {A : Around} {t : Sem α} {Q1 Q2 : α → Shared → Prop} {E : Value → Shared → Prop} {s : Shared} (w : wpAny M A t Q1 (fun _ _ => False) s) (k : ∀ a s', Q1 a s' → Q2 a s') : wpAny M A t Q2 E s := wpAny_mono w k fun _ _ z => z.elim
theorem lcE_core {pins : List (Addr × Obj)} {s : Shared} {σ : L2.St} {H : Hp} {Q : VK} {elt tg iter : Expr} {ifs : List Expr} {scope : Scope} {own : List (Str × Nat)} {pos pos' : Pos} {wi : TI} {g : TG} {tt : TT} {te : TE} {use : Option (Value → Sem Unit)} {Qf : Value → Shared → Prop}
    (calm : X.calm = true) (nd : X.N.Nodup) (fr : InFr X) (tk : TkF X W) (I : Inv X pins σ H s) (src : PI X tg iter wi) (ok : BlkOk X.N X.env.scope scope own)
    (pgs : ∀ (s : Shared) (H : Hp) (C : Addr) (cs : List (Str × Addr)) (fp : List Addr), PG (Cx.blkE X W σ s H scope (compEnvC scope cs C X.env) fp) tg g)
    (pts : ∀ (s : Shared) (H : Hp) (C : Addr) (cs : List (Str × Addr)) (fp : List Addr), PTs (Cx.blkE X W σ s H scope (compEnvC scope cs C X.env) fp) ifs tt)
    (pes : ∀ (s : Shared) (H : Hp) (C : Addr) (cs : List (Str × Addr)) (fp : List Addr), PE (Cx.blkE X W σ s H scope (compEnvC scope cs C X.env) fp) elt te)
    (plain : ∀ x, foldedSetIterable iter X.env x = pure x) (want : tLc wi g tt te (own.map (·.2)) σ H Q)
    (done : ∀ D C t m K, Inv X pins σ K t → Q (.ref D) K → t.heap.Ns C m → FpOk X pins K C → compPost (model X.prog X.w) X.A X.xe use Qf (.ref D) C (.ok .next) t) :
    wpAny (model X.prog X.w) X.A (comprehension (.ListComp elt [⟨tg, iter, ifs, 0⟩] scope pos) scope X.env pos' (newList []) false (eval iter X.env) use) Qf X.xe s := by
  have cells : ∀ y ∈ scope.names, y.2 = .free → ∃ c, X.env.cells.lookup y.1 = some c := fun y hy e => I.ok.has _ (ok.free y hy e)
  refine comp_own rfl plain (closure_ok cells) ok.kind (fun y hy e => (ok.uniq y hy).trans (by rw [e])) (thn (src.run pins s σ H _ I want) fun xv t1 w1 => thn w1 fun itv t2 w2 => ?_)
  obtain ⟨it, fp, tn, J, K2, rfl, I2, T, at0, fp2, w3⟩ := w2
  refine wpAny_newObj_type (newEnv_comp ?_) (by show 0 ≤ sizeLine; decide)
  generalize eD : t2.heap.objs.size = D
  have noD : K2 D = none := I2.hok.fresh (Nat.le_of_eq eD)
  obtain ⟨V, ⟨n0, v0⟩, turn⟩ := w3 D noD
  generalize e3 : ({ t2 with heap := t2.heap.push { cls := .type "list", data := .seq ([] : List Value).toArray } } : Shared) = t3
  have h3 : t3.heap = t2.heap.push { cls := .type "list", data := .seq ([] : List Value).toArray } := by rw [← e3]
  have keep3 : ∀ b o, t2.heap.get? b = some o → t3.heap.get? b = some o := fun b o e => by rw [h3]; exact Heap.get?_push_of_some _ e
  have I3 : Inv X pins σ (upd K2 D (.lst [])) t3 := by
    rw [← e3]
    refine I2.laid (t' := t2.toks) (fun b o e => Heap.get?_push_of_some _ e) (Nat.le_of_eq eD) ⟨Nat.zero_le _, [], 0, .nil, ?_⟩
    rw [← eD]
    exact Heap.get?_push_size _ rfl
  have small : ∀ b ∈ fp, b < t2.heap.objs.size := fun b hb => let ⟨_, e, _⟩ := T.obj _ _ at0 b hb; Heap.lt_size e
  have fp3 : ∀ b ∈ fp, FpOk X pins (upd K2 D (.lst [])) b ∧ b < t3.heap.objs.size := fun b hb => by
    have lt := small b hb
    obtain ⟨y1, y2⟩ := fp2 b hb
    exact ⟨⟨by rw [upd_ne (fun z => by rw [z, eD] at lt; exact Nat.lt_irrefl _ lt)]; exact y1, y2⟩, by rw [h3, Heap.size_push]; exact Nat.lt_succ_of_lt lt⟩
  have at3 : tn 0 t3.heap := T.keep _ _ _ at0 fun b _ o e => keep3 b o e
  have I4 := block_start I3 ok nd fp3
  have pg := pgs t3 (upd K2 D (.lst [])) t3.heap.objs.size (cellsFrom (t3.heap.objs.size + 1) scope.names (cloFrom X.env.cells scope.names [])) fp
  have pt := pts t3 (upd K2 D (.lst [])) t3.heap.objs.size (cellsFrom (t3.heap.objs.size + 1) scope.names (cloFrom X.env.cells scope.names [])) fp
  have pe := pes t3 (upd K2 D (.lst [])) t3.heap.objs.size (cellsFrom (t3.heap.objs.size + 1) scope.names (cloFrom X.env.cells scope.names [])) fp
  show codeAny _ _ (.compStart _ 0 (.ref it) (.ref D) (compEnvC scope (cellsFrom (t3.heap.objs.size + 1) scope.names (cloFrom X.env.cells scope.names [])) t3.heap.objs.size X.env))
    (blkEnd (model X.prog X.w) X.A X.xe use Qf (.ref D) (compEnvC scope (cellsFrom (t3.heap.objs.size + 1) scope.names (cloFrom X.env.cells scope.names [])) t3.heap.objs.size X.env)) { t3 with heap := pushCells (t3.heap.push { cls := .type "dict", data := .dict #[] }) scope.names }
  have none3 : ∀ b ∈ fp, (upd K2 D (.lst [])) b = none := fun b hb => (fp3 b hb).1.1
  generalize ece : compEnvC scope (cellsFrom (t3.heap.objs.size + 1) scope.names (cloFrom X.env.cells scope.names [])) t3.heap.objs.size X.env = ce at I4 pg pt pe ⊢
  have ceL : ce.locals = t3.heap.objs.size := by rw [← ece]; rfl
  have ceF : ce.frame = X.env.frame := by rw [← ece]; rfl
  generalize eK : upd K2 D (.lst []) = K3 at I3 I4 pg pt pe v0 none3 fp3
  have I4 : Inv (Cx.blkE X W σ t3 K3 scope ce fp) [] (wipe σ (own.map (·.2))) K3 _ := toE I4
  generalize e4 : ({ t3 with heap := pushCells (t3.heap.push { cls := .type "dict", data := .dict #[] }) scope.names } : Shared) = t4 at I4 ⊢
  have at4 : tn 0 t4.heap := T.keep _ _ _ at3 fun b _ o e => by rw [← e4]; exact pushCells_keeps _ _ _ _ (Heap.get?_push_of_some _ e)
  have still : ∀ {ρ : L2.St} {K : Hp} {t : Shared}, Inv (Cx.blkE X W σ t3 K3 scope ce fp) [] ρ K t → (∀ b ∈ fp, K b = none) → ∀ b ∈ fp, FpOk (Cx.blkE X W σ t3 K3 scope ce fp) [] K b := fun {ρ K t} J n b hb =>
    ⟨n b hb, (J.ok.exf b hb).1, J.ok.exfs b hb, .inl hb, fun x c e => (J.ok.exf b hb).2 x c e, fun p hp => absurd (show p ∈ ([] : List (Addr × Obj)) ++ [] from hp) (by simp)⟩
  have err : ∀ u t, XF (X.blk t3 K3 scope ce fp) (atS W σ) u t → notedBy (model X.prog X.w) X.A ce (fun e t' => blkEnd (model X.prog X.w) X.A X.xe use Qf (.ref D) ce (.error e) t') u t := fun u t x => blk_err (L := it) (C := it) fr tk I3 ceF ceL (fun b hb => (fp3 b hb).1) x
  have also : ∀ {α : Type} {m : Sem α} {Q1 Q2 : α → Shared → Prop} {t : Shared}, wpAny (model X.prog X.w) X.A m Q1 (XF (X.blk t3 K3 scope ce fp) (atS W σ)) t → (∀ a t', Q1 a t' → Q2 a t') →
      wpAny (model X.prog X.w) X.A m Q2 (notedBy (model X.prog X.w) X.A ce fun e t' => blkEnd (model X.prog X.w) X.A X.xe use Qf (.ref D) ce (.error e) t') t := fun w k => wpAny_mono w k err
  have loop : codeAny (model X.prog X.w) X.A (.compLoop (.ListComp elt [⟨tg, iter, ifs, 0⟩] scope pos) 0 (.ref it) (.ref D) ce) (blkEnd (model X.prog X.w) X.A X.xe use Qf (.ref D) ce) t4 := by
    refine compLoop_any (fun n t => ∃ i K, Inv (Cx.blkE X W σ t3 K3 scope ce fp) [] (wipe σ (own.map (·.2))) K t ∧ tn i t.heap ∧ (∀ b ∈ fp, K b = none) ∧ V i n K) ?_ n0 ⟨0, K3, I4, at4, none3, v0⟩
    rintro n t5 ⟨i, K5, I5, at5, none5, v5⟩
    rcases turn i n K5 v5 with ⟨stop, q⟩ | ⟨go, Nx, nx, step⟩
    · refine no_err (T.done (Cx.blkE X W σ t3 K3 scope ce fp) rfl rfl rfl calm i [] t5 _ K5 (fun _ _ => False) I5 (still I5 none5) at5 stop) fun r t6 ⟨er, I6⟩ => ?_
      subst er
      have I7 : Inv X pins σ K5 t6 := I3.call' (ch := fp) I6.os I6.base I6.hok I6.bare fun b hb => ⟨(fp3 b hb).1.2.2.2.1, (fp3 b hb).1.2.1, (fp3 b hb).1.2.2.2.2.1, (fp3 b hb).1.2.2.2.2.2⟩
      obtain ⟨m, ns, _⟩ := I6.loc
      have nC : K5 ce.locals = none := I6.free
      have ns : t6.heap.Ns ce.locals m := ns
      show compPost _ _ _ _ _ _ ce.locals _ _
      rw [ceL] at nC ns ⊢
      exact done D _ t6 m K5 I7 q ns (I3.fpOk (Nat.le_refl _) nC)
    · refine no_err (T.item (Cx.blkE X W σ t3 K3 scope ce fp) rfl rfl rfl calm i [] t5 _ K5 (fun _ _ => False) I5 (still I5 none5) at5 go) fun r t6 ⟨u, er, w6⟩ => ?_
      subst er
      refine no_err w6 fun _ t7 ⟨x, K7, I7, r7, y7, at7, none7⟩ => ?_
      refine also (pg.run _ t7 _ K7 x u _ (I7.pinned (still I7 none7) (T.obj _ _ at7)) r7 (step x K7 y7)) fun _ t8 ⟨σ8, K8, I8, wipe8, w8⟩ => ?_
      refine also (pt.run _ t8 σ8 K8 _ I8 w8) fun b t9 ⟨K9, I9, w9⟩ => ?_
      have turned : ∀ {t : Shared} {K : Hp}, Inv (Cx.blkE X W σ t3 K3 scope ce fp) ([] ++ pinsAt fp t7.heap) σ8 K t → Nx K → ∃ m, m < n ∧ ∃ i K, Inv (Cx.blkE X W σ t3 K3 scope ce fp) [] (wipe σ (own.map (·.2))) K t ∧ tn i t.heap ∧ (∀ b ∈ fp, K b = none) ∧ V i m K := fun {t K} J z => by
        obtain ⟨m, lt, v⟩ := nx K z
        have fix : ∀ b ∈ fp, ∀ o, t7.heap.get? b = some o → t.heap.get? b = some o ∧ K b = none := fun b hb o e => let y := J.pin (b, o) (List.mem_append_right _ (List.mem_append_right _ (mem_pinsAt hb e))); ⟨y.1, y.2.1⟩
        refine ⟨m, lt, i + 1, K, (J.unpinned (pins := [])).weak (by rw [← wipe8, wipe_length]) (fun j v e => (wipe_some (by rw [wipe8]; exact e)).1), T.keep _ _ _ at7 fun b hb o e => (fix b hb o e).1, fun b hb => ?_, v⟩
        obtain ⟨o, e, _⟩ := T.obj _ _ at7 b hb
        exact (fix b hb o e).2
      cases b with
      | false =>
        simp only [Bool.false_eq_true, if_false] at w9 ⊢
        exact turned I9 w9
      | true =>
        simp only [if_true] at w9 ⊢
        refine also (pe.run _ t9 σ8 K9 _ I9 w9) fun z t10 ⟨y, K10, I10, r10, acc, l10, sz10, w10⟩ => ?_
        exact app_ok (X := Cx.blkE X W σ t3 K3 scope ce fp) I10 l10 sz10 r10 fun t11 I11 => turned I11 w10
  exact codeAny_compStart_list loop (T.self X.A 0 _ _ _ at4 loop)
/-- the block's slots σ held to -/
def tLcE (wi : TI) (g : TG) (tt : L2.St → TT) (te : L2.St → TE) (vs : List Nat) : TE := fun σ H Q => tLc wi g (tt σ) (te σ) vs σ H Q
theorem peE_lc {elt tg iter : Expr} {ifs : List Expr} {scope : Scope} {own : List (Str × Nat)} {pos : Pos} {wi : TI} {g : TG} {tt : L2.St → TT} {te : L2.St → TE} (calm : X.calm = true) (nd : X.N.Nodup) (fr : InFr X) (tk : TkF X W) (src : PI X tg iter wi) (ok : BlkOk X.N X.env.scope scope own)
    (pgs : ∀ (σ : L2.St) (s : Shared) (H : Hp) (C : Addr) (cs : List (Str × Addr)) (fp : List Addr), PG (Cx.blkE X W σ s H scope (compEnvC scope cs C X.env) fp) tg g)
    (pts : ∀ (σ : L2.St) (s : Shared) (H : Hp) (C : Addr) (cs : List (Str × Addr)) (fp : List Addr), PTs (Cx.blkE X W σ s H scope (compEnvC scope cs C X.env) fp) ifs (tt σ))
    (pes : ∀ (σ : L2.St) (s : Shared) (H : Hp) (C : Addr) (cs : List (Str × Addr)) (fp : List Addr), PE (Cx.blkE X W σ s H scope (compEnvC scope cs C X.env) fp) elt (te σ))
    (plain : ∀ x, foldedSetIterable iter X.env x = pure x) : PE X (.ListComp elt [⟨tg, iter, ifs, 0⟩] scope pos) (tLcE wi g tt te (own.map (·.2))) := by
  refine ⟨fun pins s σ H Q I want => ?_⟩
  rw [eval_ListComp]
  refine lcE_core calm nd fr tk I src ok (pgs σ) (pts σ) (pes σ) plain want fun D C t m K I' q ns ⟨f0, f1, f2, f3, f4, f5⟩ => ⟨m, ns, fun g sb => ?_⟩
  exact ⟨.ref D, K, I'.turned (t' := t.toks) (fun b o hb e => (sb.2 b hb).trans e) f0 f1 f3 f4 f5, rfl, q⟩
/-- name = [..] on one line, the name a local -/
theorem psE_setLc {i : Nat} {y : Str} {py : Pos} {elt tg iter : Expr} {ifs : List Expr} {scope : Scope} {own : List (Str × Nat)} {pos spos : Pos} {wi : TI} {g : TG} {tt : L2.St → TT} {te : L2.St → TE} (calm : X.calm = true) (nd : X.N.Nodup) (fr : InFr X) (tk : TkF X W) (hy : X.N[i]? = some y)
    (hyl : X.env.scope.names.lookup y = some .local) (sw : swapsWith (.ListComp elt [⟨tg, iter, ifs, 0⟩] scope pos) (some (.Name y py)) spos.line X.env = pure true) (src : PI X tg iter wi) (ok : BlkOk X.N X.env.scope scope own)
    (pgs : ∀ (σ : L2.St) (s : Shared) (H : Hp) (C : Addr) (cs : List (Str × Addr)) (fp : List Addr), PG (Cx.blkE X W σ s H scope (compEnvC scope cs C X.env) fp) tg g)
    (pts : ∀ (σ : L2.St) (s : Shared) (H : Hp) (C : Addr) (cs : List (Str × Addr)) (fp : List Addr), PTs (Cx.blkE X W σ s H scope (compEnvC scope cs C X.env) fp) ifs (tt σ))
    (pes : ∀ (σ : L2.St) (s : Shared) (H : Hp) (C : Addr) (cs : List (Str × Addr)) (fp : List Addr), PE (Cx.blkE X W σ s H scope (compEnvC scope cs C X.env) fp) elt (te σ))
    (plain : ∀ x, foldedSetIterable iter X.env x = pure x) : PS X (.Assign [.Name y py] (.ListComp elt [⟨tg, iter, ifs, 0⟩] scope pos) spos) (tAsg (tLcE wi g tt te (own.map (·.2))) (gName i)) := by
  refine ⟨fun pins s σ H D I want => ?_⟩
  rw [exec_Assign_Name_used _ _ _ _ sw]
  refine wpAny_bind (wpAny_standAt (wpAny_bind ?_))
  show wpAny _ X.A (do let _ ← comprehension _ scope X.env (firstIterPos [⟨tg, iter, ifs, 0⟩] pos) (newList []) false (eval iter X.env) (some (assign (.Name y py) X.env))) _ _ s
  have want : tLc wi g (tt σ) (te σ) (own.map (·.2)) σ H (fun x K => gName i x σ K D.nx) := want
  refine wpAny_bind (thn (lcE_core (Qf := fun _ t => SP X pins D .next t) calm nd fr tk I src ok (pgs σ) (pts σ) (pes σ) plain want fun L C t m K I' q ns ⟨f0, f1, f2, f3, f4, f5⟩ => ?_) fun _ t q => wpAny_pure (wpAny_pure q))
  show wpAny _ _ (assign (.Name y py) X.env (.ref L)) _ _ _
  refine wpAny_assign_Name (store_ok2 (v := V.ref L) I' nd hy (.inl hyl) rfl (fun t2 I2 ⟨a, sb, ha⟩ => ?_) (.inr hyl))
  have Ca : C ≠ a := by
    rcases ha with z | z
    · rw [z]; exact f1
    · exact fun e => f4 y a z e.symm
  exact ⟨m, ns.sameBut sb Ca, fun g3 sb3 => ⟨_, K, I2.turned (t' := t2.toks) (fun b o hb e => (sb3.2 b hb).trans e) f0 f1 f3 f4 f5, q⟩⟩
end
end Mi

set_option maxHeartbeats 4000000
/-! sum([int(x) for x in xs]) while an exception is handled, xs a list of bools -/
namespace Mi
open PySem PySem.Spec L2 PyProof.Rows HotX
section
variable {prog : Program} {w : World} {A : Around} {E : Value → Shared → Prop} {s : Shared}
theorem list_end_hot {it l x1 : Addr} {i : Nat} {items : Array Value} {Q : Option Value → Shared → Prop} (hot : HotAt A x1 s.heap) (hne : x1 ≠ it) (hit : s.heap.IsListIter it l i) (hl : s.heap.IsList l items) (hx : items[i]? = none)
    (hQ : ∀ h', (∀ b o, b ≠ it → s.heap.get? b = some o → h'.get? b = some o) → Q none { s with heap := h' }) : wpAny (model prog w) A (pyNext (.ref it)) Q E s := by
  obtain ⟨hh, o1, vs1, h1, d1, c1⟩ := hot
  obtain ⟨o, ho, hc, hd⟩ := id hit
  obtain ⟨ol, hol, _, nl, hdl⟩ := hl
  unfold pyNext
  refine wpAny_bind (wpAny_attempt (wpAny_callSpecial?_slot (name := Str.ofString "__next__") hit.typeIs slot_listiter_next
    (wpAny_call_entry slot_listiter_next hit.typeIs entry_listiter_next ?_ (args_listiter_next _))))
  show wpAny _ _ (field (.ref it) 0 >>= _) _ _ s
  refine wpAny_bind (wpAny_field ho hd (x := .ref l) rfl ?_)
  show wpAny _ _ (if (Value.ref l == Value.none) = true then _ else _) _ _ s
  rw [if_neg (show ¬ ((Value.ref l == Value.none) = true) from Bool.false_ne_true)]
  show wpAny _ _ (field (.ref it) 1 >>= _) _ _ s
  refine wpAny_bind (wpAny_field ho hd (x := .int i 0) rfl ?_)
  show wpAny _ _ (seqItems? (.ref l) >>= _) _ _ s
  refine wpAny_bind (wpAny_seqItems hol hdl ?_)
  simp only [Int.toNat_natCast, hx]
  refine wpAny_bind (wpAny_rule (wpAny_bind (wpAny_setField ho hd (by simp) ?_)))
  show wpAny _ _ (newExc (.type "StopIteration") [] >>= _) _ _ _
  refine wpAny_bind ?_
  simp only [newExc, newTuple]
  refine wpAny_bind (wpAny_newObj_type ?_ (by size_fits))
  refine wpAny_bind (m := firstArgMember _ _) (wpAny_of_eq (a := Value.none) (by first | rfl | (simp only [firstArgMember]; rfl)) ?_)
  refine wpAny_newObj_type ?_ (by size_fits)
  have k0 : ∀ b ob, b ≠ it → s.heap.get? b = some ob → (s.heap.update it (Obj.mapFields (·.setIfInBounds 0 .none))).get? b = some ob := fun b ob hb e => (Heap.get?_update_other _ _ (Ne.symm hb)).trans e
  have h1' := k0 _ _ hne h1
  refine raiseNew_hot ⟨hh, o1, vs1, Heap.get?_push_of_some _ (Heap.get?_push_of_some _ h1'), d1, c1⟩ (Nat.ne_of_lt (Heap.lt_size (Heap.get?_push_of_some _ h1'))) (Heap.get?_push_size _ rfl) rfl (by first | (simp; done) | (simp; omega) | (simp only [Array.size_append]; simp; omega)) ?_
  refine wpAny_bind (wpAny_isInstance (T := "StopIteration") (b := true) ⟨_, Heap.get?_update_self _ (Heap.get?_push_size _ rfl) rfl, rfl⟩ isSubtype_stop ?_)
  refine wpAny_pure (hQ _ fun b ob hb e => ?_)
  have e := k0 _ _ hb e
  rw [Heap.get?_update_other _ _ (Nat.ne_of_gt (Heap.lt_size (Heap.get?_push_of_some _ e)))]
  exact Heap.get?_push_of_some _ (Heap.get?_push_of_some _ e)
theorem walks_hot {x1 : Addr} {ox : Obj} {vx : Array Value} (hh : A.handled = some (.ref x1)) (dx : ox.data = .fields vx) (cx : vx[2]? = some .none) (I l : Addr) (hne : l ≠ I) (hx : x1 ≠ I) (items : Array Value) :
    Walks prog w A I [I, l, x1] [I] items.size (fun i v => items[i]? = some v) (fun i h => h.IsListIter I l i ∧ h.IsList l items ∧ h.get? x1 = some ox) where
  sub := fun b hb => by simp at hb; simp [hb]
  frame := fun _ _ _ st hk => ⟨st.1.at fun o e => hk I (by simp) o e, st.2.1.at fun o e => hk l (by simp) o e, hk x1 (by simp) _ st.2.2⟩
  item := fun i s Q E hi st hQ => by
    refine wpAny_pyNext_list_item st.1 st.2.1 (x := items[i]) (by simp [hi]) fun h' hit' hs' => ?_
    exact hQ _ h' s.toks (by simp [hi]) ⟨hit', st.2.1.extBut hs'.extBut hne, hs'.extBut _ _ hx st.2.2⟩ fun b o hb e => hs'.extBut b o (fun h => hb (by simp [h])) e
  done := fun s Q E st hQ => list_end_hot ⟨hh, ox, vx, st.2.2, dx, cx⟩ hx st.1 st.2.1 (by simp) fun h' he' => hQ h' s.toks fun b o hb e => he' b o (fun h => hb (by simp [h])) e
  self := fun _ _ _ _ st hQ => wpAny_pyIter_listiter st.1 hQ
end
theorem paired_get {α β : Type} {F : α → β → Prop} : ∀ {xs : List α} {ys : List β} {i : Nat} {a : α}, Paired F xs ys → xs[i]? = some a → ∃ b, ys[i]? = some b ∧ F a b
  | _, _, 0, _, .cons h _, e => by simp at e; subst e; exact ⟨_, rfl, h⟩
  | _, _, i + 1, _, .cons _ h, e => by
    obtain ⟨b, h1, h2⟩ := paired_get (i := i) h (by simpa using e)
    exact ⟨b, by simpa using h1, h2⟩
/-- how many are true -/
def onesV (bs : List Bool) : Nat → Int := fun i => if bs[i]? = some true then 1 else 0
/-- a comprehension's own names: x a local, int the built-in -/
structure SumSc (scope : Scope) (x : Str) : Prop where
  kind : scope.kind = .function
  free : ∀ y ∈ scope.names, y.2 ≠ .free
  cell : ∀ y ∈ scope.names, y.2 ≠ .cell
  uniq : ∀ y ∈ scope.names, y.2 = .local → scope.names.lookup y.1 = some .local
  loc : scope.names.lookup x = some .local
  int : scope.names.lookup (Str.ofString "int") = some .globalImplicit
def tSumI (K : PySem.W.Frag) (ta : TE) : TE := fun σ H Q => ta σ H fun v H1 => ∃ (a : Addr) (bs : List Bool), v = .ref a ∧ SqL K H1 a (bs.map V.bl) ∧ Q (.int (preSum (onesV bs) bs.length)) H1
theorem pe_sumInts {X : Cx} {iter : Expr} {ta : TE} {x : Str} {scope : Scope} {p0 p1 p2 p3 p4 p5 pos : Pos} (hc : L2H.HotC X) (hgs : Gl X "sum") (hms : X.mg "sum" = none) (hmi : X.mg "int" = none) (ss : SumSc scope x) (hxd : (x == ("__debug__" : Str)) = false) (ha : PE X iter ta) (hf : ∀ z, foldedSetIterable iter X.env z = pure z) :
    PE X (.Call (.Name "sum" p0) [.ListComp (.Call (.Name "int" p1) [.Name x p2] [] p3) [⟨.Name x p4, iter, [], 0⟩] scope p5] [] pos) (tSumI X.K ta) := by
  refine ⟨fun pins s σ H Q I h => ?_⟩
  obtain ⟨p, ⟨hh, vx, dx, cx⟩, hp⟩ := hc
  refine wpAny_Call_Name_kw (ld_blt I hgs hms boot_sum ?_)
  refine PyProof.Rows.callWith_builtin1 ?_ rfl rfl
  show wpAny _ _ (spliced [(false, eval (.ListComp (.Call (.Name "int" p1) [.Name x p2] [] p3) [⟨.Name x p4, iter, [], 0⟩] scope p5) X.env)]) _ _ s
  refine Calls.spliced_cons ?_
  refine wpAny_ListComp_walk (fun _ => true) (fun v y => ∃ (b : Bool) (t : Tok), v = .bool b ∧ y = .int (if b then 1 else 0) t) ss.free ss.cell ss.kind ss.uniq ss.loc (thn (ha.run pins s σ H _ I h) fun u s1 ⟨v, H1, I1, r1, q1⟩ => ?_) hf
  obtain ⟨a, bs, ev, hq, q⟩ := q1
  subst ev
  obtain rfl : u = Value.ref a := r1
  obtain ⟨its, rv, pl, hsz⟩ := I1.list hq
  have hl : s1.heap.IsList a its.toArray := pl.isList
  have hx1 := (I1.pin p (List.mem_append_left _ hp)).1
  have la : a < s1.heap.objs.size := let ⟨_, e, _⟩ := hl; Heap.lt_size e
  have lx : p.1 < s1.heap.objs.size := Heap.lt_size hx1
  refine wpAny_pyIter_list hl ?_
  have hlen : its.length = bs.length := by rw [← rv.length, List.length_map]
  have item : ∀ (i : Nat) (v : Value), its.toArray[i]? = some v → ∃ b, bs[i]? = some b ∧ v = .bool b := fun i v e => by
    have e : its[i]? = some v := by simpa using e
    have hi : i < bs.length := by rw [← hlen]; exact (List.getElem?_eq_some_iff.mp e).1
    obtain ⟨u2, e2, r2⟩ := rv.get (i := i) (x := V.bl bs[i]) (by rw [List.getElem?_map, List.getElem?_eq_getElem hi]; rfl)
    rw [e] at e2
    cases e2
    exact ⟨bs[i], List.getElem?_eq_getElem hi, r2⟩
  have keep0 : ∀ b o, s1.heap.get? b = some o → (s1.heap.push { cls := .type "list_iterator", data := .fields #[.ref a, .int 0 0] }).get? b = some o := fun b o e => Heap.get?_push_of_some _ e
  refine ⟨s1.heap.objs.size, _, _, _, _, _, rfl, walks_hot (ox := p.2) hh dx cx _ a (Nat.ne_of_lt la) (Nat.ne_of_lt lx) its.toArray, by rw [List.size_toArray, hlen, ← List.length_map (f := V.bl)]; exact hsz, ⟨⟨_, Heap.get?_push_size _ rfl, rfl, rfl⟩, hl.push _, keep0 _ _ hx1⟩, fun b hb => ?_, ⟨fun C i v s₃ m₃ E' _ _ _ _ _ => ?_, fun C i v s₃ m₃ E' hv _ hn hm hk _ => ?_⟩, fun D h' tk ys vs hD hlD _ hvl hvP hF hk => ?_⟩
  · show b < (s1.heap.push _).objs.size
    rw [Heap.size_push]
    simp only [List.mem_cons, List.not_mem_nil, or_false] at hb
    rcases hb with rfl | rfl | rfl
    · exact Nat.lt_succ_self _
    · exact Nat.lt_succ_of_lt la
    · exact Nat.lt_succ_of_lt lx
  · simp only [List.forIn_nil]
    exact wpAny_pure ⟨rfl, _, _, rfl, fun _ _ e => e⟩
  · obtain ⟨b, _, rfl⟩ := item i v hv
    obtain ⟨mb, z1, z2⟩ := I1.mod.blt
    have bk : ∀ b o, X.base.get? b = some o → s₃.heap.get? b = some o := fun b o e => by
      have e1 := I1.bk b o e
      exact hk b o (fun z => by rw [List.mem_singleton.mp z] at e1; exact absurd (Heap.lt_size e1) (Nat.lt_irrefl _)) (keep0 _ _ e1)
    refine wpAny_Call_Name_kw (Calls.Name_function_global (env := compEnv scope C X.env) ss.kind ss.int (Calls.loadGlobal_builtin (by show s₃.heap.Ns X.env.globals _; rw [I1.ok.glob]; exact I1.mod.glob.keeps bk) hmi (by show s₃.heap.Ns X.env.builtins _; rw [I1.ok.blt]; exact z1.keeps bk) ((z2 "int" (by decide)).trans PyProof.Rows.boot_int) ?_) (by decide))
    refine PyProof.Rows.callWith_type1 ?_ rfl rfl
    show wpAny _ _ (spliced [(false, eval (.Name x p2) (compEnv scope C X.env))]) _ _ s₃
    refine Calls.spliced_cons (wpAny_Name (wpAny_loadName_local ss.kind ss.loc hn hm (Calls.spliced_nil ?_)) hxd)
    exact call_int_bool ⟨⟨b, _, rfl, rfl⟩, _, _, rfl, fun _ _ e => e⟩
  · refine Calls.spliced_nil ?_
    have hold : ∀ b o, s1.heap.get? b = some o → h'.get? b = some o := fun b o e => hk b o (fun z => by rw [List.mem_singleton.mp z] at e; exact absurd (Heap.lt_size e) (Nat.lt_irrefl _)) (keep0 _ _ e)
    have hx2 := hold _ _ hx1
    have lD : D < h'.objs.size := let ⟨_, e, _⟩ := hlD; Heap.lt_size e
    have ft : vs.filter (fun _ => true) = vs := List.filter_eq_self.mpr fun _ _ => rfl
    rw [ft] at hF
    have ylen : ys.size = bs.length := by
      have e1 := hF.length
      have e2 : ys.toList.length = ys.size := by simp
      rw [List.size_toArray] at hvl
      omega
    have yitem : ∀ (i : Nat) (v : Value), ys[i]? = some v → ∃ t, v = .int (onesV bs i) t := fun i v e => by
      have hi : i < ys.size := (Array.getElem?_eq_some_iff.mp e).1
      have hiv : i < vs.length := by rw [hvl, List.size_toArray, hlen, ← ylen]; exact hi
      obtain ⟨y, e2, b, t, e3, e4⟩ := paired_get hF (List.getElem?_eq_getElem hiv)
      have e5 : ys.toList[i]? = some v := by simpa using e
      rw [e5] at e2
      cases e2
      obtain ⟨b', e6, e7⟩ := item i _ (hvP i _ (List.getElem?_eq_getElem hiv))
      rw [e7] at e3
      cases e3
      refine ⟨t, ?_⟩
      rw [e4]
      unfold onesV
      rw [e6]
      cases b <;> rfl
    refine call_sum_walkG (wpAny_pyIter_list hlD ?_)
    refine ⟨h'.objs.size, _, _, _, _, _, onesV bs, rfl, walks_hot (A := X.A.in1) (ox := p.2) hh dx cx _ D (Nat.ne_of_lt lD) (Nat.ne_of_lt (Heap.lt_size hx2)) ys, ⟨⟨_, Heap.get?_push_size _ rfl, rfl, rfl⟩, hlD.push _, Heap.get?_push_of_some _ hx2⟩, fun b hb => ?_, yitem, fun h'' tk'' t'' hk'' => ?_⟩
    · show b < (h'.push _).objs.size
      rw [Heap.size_push]
      simp only [List.mem_cons, List.not_mem_nil, or_false] at hb
      rcases hb with rfl | rfl | rfl
      · exact Nat.lt_succ_self _
      · exact Nat.lt_succ_of_lt lD
      · exact Nat.lt_succ_of_lt (Heap.lt_size hx2)
    · refine ⟨.int (preSum (onesV bs) bs.length), H1, ?_, ⟨t'', by rw [ylen]⟩, q⟩
      exact I1.kept (t' := tk'') fun b o e => hk'' b o (fun z => by rw [List.mem_singleton.mp z] at e; exact absurd (Heap.lt_size (hold _ _ e)) (Nat.lt_irrefl _)) (Heap.get?_push_of_some _ (hold _ _ e))
end Mi
namespace Mi
open PySem PySem.Spec L2 PyProof.Rows
theorem ones_app : ∀ (bs : List Bool) (b : Bool), onesB (bs ++ [b]) = onesB bs + if b then 1 else 0
  | [], b => by simp [onesB]
  | c :: bs, b => by simp only [List.cons_append, onesB, ones_app bs b]; omega
theorem ones_take (bs : List Bool) : ∀ n, n ≤ bs.length → preSum (onesV bs) n = onesB (bs.take n)
  | 0, _ => rfl
  | n + 1, h => by
    have hi : bs[n]? = some bs[n] := List.getElem?_eq_getElem h
    rw [preSum, ones_take bs n (by omega), List.take_add_one, hi]
    show _ = onesB (bs.take n ++ [bs[n]])
    rw [ones_app]
    unfold onesV
    rw [hi]
    cases bs[n] <;> rfl
theorem ones_all (bs : List Bool) : preSum (onesV bs) bs.length = onesB bs := by rw [ones_take bs _ (Nat.le_refl _), List.take_length]
section
variable {P : Pg} {cl : Cl} {k : Nat} {X : Cx} {W : WX} {o : Ko} {a : E} {ea : Expr}
theorem bls_rd {m : Sm} : ∀ {bs : List Bool} {vs : List V}, RDs m (bs.map Val.bl) vs → vs = bs.map V.bl
  | [], _, .nil => rfl
  | b :: bs, _, .cons h r => by
    cases h
    rw [bls_rd r]
    rfl
theorem e_sumInts {x : Str} {scope : Scope} {p0 p1 p2 p3 p4 p5 pos : Pos} (xo : XO P cl X k o W) (hot : o.hot = true) (hgs : Gl X (Str.ofString "sum")) (ss : SumSc scope x) (hxd : (x == ("__debug__" : Str)) = false) (ha : PE X ea (tE P cl k X W a)) (hf : ∀ z, foldedSetIterable ea X.env z = pure z) :
    PE X (.Call (.Name (Str.ofString "sum") p0) [.ListComp (.Call (.Name (Str.ofString "int") p1) [.Name x p2] [] p3) [⟨.Name x p4, ea, [], 0⟩] scope p5] [] pos) (tE P cl k X W (.vi .sumInts (.cons a .nil))) := by
  have hc : L2H.HotC X := by
    obtain ⟨q, c, h1, h2, _⟩ := xo.zx hot
    exact ⟨q, h1, h2⟩
  refine PE.imp (PE.kf (pe_sumInts hc hgs (xo.ln.bi "sum" (by decide)) (xo.ln.bi "int" (by decide)) ss hxd ha hf)) fun σ H Q ⟨m, env, S, hK, eH, hS, hV, h⟩ => by
    subst eH
    simp only [wE, wEs] at h
    refine tE_of hK hS hV (Ev.refl m) h fun m1 x S1 v e1 hS1 r1 hV1 h1 => ?_
    cases r1 with
    | @ref n q hq =>
      obtain ⟨bs, hb, h1⟩ := h1
      obtain ⟨vs, h2, h3⟩ := hS1.lst hb hq
      rw [bls_rd h3, e1.k, hK] at h2
      refine ⟨q, bs, rfl, h2, fun kf => ?_⟩
      rw [ones_all]
      exact h1 m1 (.int (onesB bs)) e1 hS1 (.int _)
    | _ => exact h1.elim
end
end Mi
/-! dict(xs), xs an empty list -/
namespace Mi
open PySem PySem.Spec L2 PyProof.Rows
def tDictL (K : PySem.W.Frag) (te : TE) : TE := fun σ H Q => te σ H fun v H1 => ∃ a : Addr, v = .ref a ∧ SqL K H1 a [] ∧ ∀ q, H1 q = none → Q (.ref q) (upd H1 q (.dK []))
theorem pe_dictL {X : Cx} {e : Expr} {te : TE} {p pos : Pos} (hc : X.calm = true) (hg : Gl X "dict") (hm : X.mg "dict" = none) (he : PE X e te) (hs : starEach [e] X.env = (false, eval e X.env) :: starEach [] X.env) :
    PE X (.Call (.Name "dict" p) [e] [] pos) (tDictL X.K te) := by
  refine ⟨fun pins s σ H Q I h => ?_⟩
  refine Call_ (ld_blt I hg hm PyProof.Rows.boot_dict (PyProof.Rows.callWith_type1 (args_cons (thn (he.run pins s σ H _ I h) fun u z ⟨v, H1, I1, r1, q1⟩ => args_nil ?_) hs) hs rfl))
  obtain ⟨a, ev, hq, q⟩ := q1
  subst ev
  obtain rfl : u = Value.ref a := r1
  obtain ⟨its, rv, pl, hz⟩ := I1.list hq
  cases rv
  obtain ⟨o, n, ho, hcl, hdc, hdt⟩ := pl
  refine call_dict_pairs (knd := mixKind X.prog X.w) (kvs := []) (PairArg.list a #[] (fun _ => 0) []) (I1.ok.hd hc) ⟨⟨o, n, ho, hcl, hdc, hdt⟩, rfl, fun j k v hj => by simp at hj⟩ ⟨rfl, fun i key v hr => by simp [PairRel] at hr⟩ (by simp) fun h' tk hD kp => ?_
  have hsys : (z.heap.objs.size == sysModules) = false := beq_eq_false_iff_ne.mpr (Ne.symm (Nat.ne_of_lt I1.big))
  exact ⟨.ref z.heap.objs.size, _, I1.laid (t' := tk) (o := .dK []) (fun b o e => kp b o (by simp) e) (Nat.le_refl _) (dk_new (Nat.zero_le _) hsys .nil hD), rfl, q _ (I1.hok.fresh (Nat.le_refl _))⟩
section
variable {P : Pg} {cl : Cl} {k : Nat} {X : Cx} {W : WX} {o : Ko} {a : E} {ea : Expr}
theorem e_dictL {p pos : Pos} (xo : XO P cl X k o W) (hc : (!o.hot) = true) (hg : Gl X (Str.ofString "dict")) (hs : notStar ea = true) (ha : PE X ea (tE P cl k X W a)) :
    PE X (.Call (.Name (Str.ofString "dict") p) [ea] [] pos) (tE P cl k X W (.vi .dictL (.cons a .nil))) :=
  PE.imp (PE.kf (pe_dictL (xo.calm hc) hg (xo.ln.bi "dict" (by decide)) ha (star_cons hs))) fun σ H Q ⟨m, env, S, hK, eH, hS, hV, h⟩ => by
    subst eH
    simp only [wE, wEs] at h
    refine tE_of hK hS hV (Ev.refl m) h fun m1 x S1 v e1 hS1 r1 hV1 h1 => ?_
    cases r1 with
    | @ref n q hq =>
      obtain ⟨hb, h1⟩ := h1
      obtain ⟨vs, h2, h3⟩ := hS1.lst hb hq
      cases h3
      rw [e1.k, hK] at h2
      exact ⟨q, rfl, h2, fun p hp kf => mk_dic hS1 .nil hp (by rw [e1.k, hK]; exact kf) (liftQ.ev e1 (fun _ _ _ q => q) h1)⟩
    | _ => exact h1.elim
end
end Mi
/-! dict(xs), xs a list of pairs -/
namespace Mi
open PySem PySem.Spec L2 PyProof.Rows
def tDictP (K : PySem.W.Frag) (te : TE) : TE := fun σ H Q => te σ H fun v H1 => ∃ (a : Addr) (ps : List Addr) (more : List (L2.Key × V)), v = .ref a ∧ SqL K H1 a (ps.map V.ref) ∧ Paired (fun p (kv : L2.Key × V) => SqT K H1 p [L2.kV kv.1, kv.2]) ps more ∧ more.length ≤ sizeLine ∧ ∀ q, H1 q = none → Q (.ref q) (upd H1 q (.dK (mergeK [] more)))
theorem pe_dictP {X : Cx} {e : Expr} {te : TE} {p pos : Pos} (hc : X.calm = true) (hg : Gl X "dict") (hm : X.mg "dict" = none) (he : PE X e te) (hs : starEach [e] X.env = (false, eval e X.env) :: starEach [] X.env) :
    PE X (.Call (.Name "dict" p) [e] [] pos) (tDictP X.K te) := by
  refine ⟨fun pins s σ H Q I h => ?_⟩
  refine Call_ (ld_blt I hg hm PyProof.Rows.boot_dict (PyProof.Rows.callWith_type1 (args_cons (thn (he.run pins s σ H _ I h) fun u z ⟨v, H1, I1, r1, q1⟩ => args_nil ?_) hs) hs rfl))
  obtain ⟨a, ps, more, ev, hq, hp, hn, q⟩ := q1
  subst ev
  obtain rfl : u = Value.ref a := r1
  obtain ⟨its, rv, pl, hz⟩ := I1.list hq
  have ei := refs_at rv
  subst ei
  obtain ⟨prs, rel2, hl, hpr⟩ := pairs_of I1 hp
  obtain ⟨o, n, ho, hcl, hdc, hdt⟩ := pl
  obtain ⟨ks, hks⟩ := keys_at prs ps hl hpr
  obtain ⟨hk1, hk2⟩ := hks
  have zl : (ks.zip (prs.map (·.2))).length = prs.length := by simp [hk1]
  have zg : ∀ (j : Nat) (k v : Value), (ks.zip (prs.map (·.2)))[j]? = some (k, v) → ∃ q, prs[j]? = some q ∧ q.2 = v ∧ ks[j]? = some k := fun j k v e => by
    have hj := (List.getElem?_eq_some_iff.mp e).1
    rw [zl] at hj
    rw [List.getElem?_zip_eq_some] at e
    obtain ⟨e1, e2⟩ := e
    rw [List.getElem?_map] at e2
    obtain ⟨q, e3, e4⟩ := Option.map_eq_some_iff.mp e2
    exact ⟨q, e3, e4, e1⟩
  refine call_dict_pairs (knd := mixKind X.prog X.w) (kvs := prs) (PairArg.list a (ps.map Value.ref).toArray (fun j => (ps[j]?).getD 0) (ks.zip (prs.map (·.2)))) (I1.ok.hd hc) ⟨⟨o, n, ho, hcl, hdc, hdt⟩, by simp [hk1, hl], fun j k v hj => ?_⟩ ⟨by rw [zl], fun i key v hr => ?_⟩ (by rw [zl, ← rel2.length]; exact hn) fun h' tk hD kp => ?_
  · obtain ⟨q, e1, e2, e3⟩ := zg j k v hj
    obtain ⟨u, f1, f2, b, f3, f4⟩ := hk2 j q e1
    rw [e3] at f1
    cases f1
    refine ⟨by simp [f3], ?_⟩
    show PairAt _ ((ps[j]?).getD 0) _ _
    rw [f3]
    show PairAt _ b _ _
    obtain ⟨o', ho', hc', n', hd'⟩ := f4
    subst e2
    exact .inl ⟨o', ho', hc', n', hd'⟩
  · obtain ⟨q, e1, e2, e3⟩ := zg i key v hr
    obtain ⟨u, f1, f2, _⟩ := hk2 i q e1
    rw [e3] at f1
    cases f1
    exact ⟨q.1, by rw [e1, ← e2], f2⟩
  have hsys : (z.heap.objs.size == sysModules) = false := beq_eq_false_iff_ne.mpr (Ne.symm (Nat.ne_of_lt I1.big))
  have hlen : (mergeK [] more).length ≤ sizeLine := Nat.le_trans (length_mergeK more []) (by simpa using hn)
  exact ⟨.ref z.heap.objs.size, _, I1.laid (t' := tk) (o := .dK (mergeK [] more)) (fun b o e => kp b o (by simp) e) (Nat.le_refl _) (dk_new hlen hsys (KV.merge rel2 .nil) hD), rfl, q _ (I1.hok.fresh (Nat.le_refl _))⟩
section
variable {P : Pg} {cl : Cl} {k : Nat} {X : Cx} {W : WX} {o : Ko} {a : E} {ea : Expr}
theorem e_dictP {p pos : Pos} (xo : XO P cl X k o W) (hc : (!o.hot) = true) (hg : Gl X (Str.ofString "dict")) (hs : notStar ea = true) (ha : PE X ea (tE P cl k X W a)) :
    PE X (.Call (.Name (Str.ofString "dict") p) [ea] [] pos) (tE P cl k X W (.vi .dictP (.cons a .nil))) :=
  PE.imp (PE.kf (pe_dictP (xo.calm hc) hg (xo.ln.bi "dict" (by decide)) ha (star_cons hs))) fun σ H Q ⟨m, env, S, hK, eH, hS, hV, h⟩ => by
    subst eH
    simp only [wE, wEs] at h
    refine tE_of hK hS hV (Ev.refl m) h fun m1 x S1 v e1 hS1 r1 hV1 h1 => ?_
    cases r1 with
    | @ref n q hq =>
      obtain ⟨ps, hb, hl, h1⟩ := h1
      obtain ⟨vs, h2, h3⟩ := hS1.lst hb hq
      obtain ⟨bs, qs, rfl, h4, h5⟩ := pairs_rd h3
      have lq := h5.length
      rw [e1.k, hK] at h2 h4
      exact ⟨q, bs, qs, rfl, h2, h4, by rw [sizeLine_eq]; omega, fun p hp kf => mk_dic hS1 (RKs.merge h5 .nil) hp (by rw [e1.k, hK]; exact kf) (liftQ.ev e1 (fun _ _ _ q => q) h1)⟩
    | _ => exact h1.elim
end
end Mi

set_option maxHeartbeats 4000000
/-! dict(zip(a, b)), each a list or a tuple -/
namespace Mi
open PySem PySem.Spec L2 PyProof.Rows
/-- a zip on its way, whose held tuple is not a certain object -/
def ZD (t u : Bool) (z TI TO i1 i2 a b : Addr) (us vs : Array Value) (d : Addr) (i : Nat) (h : Heap) : Prop :=
  IsPair h TI (.ref i1) (.ref i2) ∧ IterX t h i1 a i ∧ IterX u h i2 b i ∧ AtX t h a us ∧ AtX u h b vs ∧
    ((IsZip h z TI TO .none ∧ ∃ x y, IsPair h TO x y) ∨ ∃ T f oT, IsZipHeld h z TI TO T f ∧ (∃ x y, IsPair h TO x y) ∧ h.get? T = some oT ∧ T ≠ z ∧ T ≠ i1 ∧ T ≠ i2 ∧ T ≠ d)
section
variable {prog : Program} {w : World} {A : Around} {E : Value → Shared → Prop} {s : Shared} {t u : Bool} {z TI TO i1 i2 a b d : Addr} {us vs : Array Value} {i : Nat}
theorem ZD.zs {h : Heap} (st : ZD t u z TI TO i1 i2 a b us vs d i h) : ZS t u z TI TO i1 i2 a b us vs i h := by
  obtain ⟨ti, g1, g2, a1, a2, zp⟩ := st
  rcases zp with ⟨e, to⟩ | ⟨T, f, oT, e1, to, e2, e3, e4, e5, _⟩
  · exact ⟨.inl e, ti, to, g1, g2, a1, a2⟩
  · exact ⟨.inr ⟨T, f, oT, e1, e2, e3, e4, e5⟩, ti, to, g1, g2, a1, a2⟩
theorem zd_item (D : ZipApart z TI TO i1 i2 a b) (hh : A.handled = none) {x y : Value} {Q : Option Value → Shared → Prop} (st : ZD t u z TI TO i1 i2 a b us vs d i s.heap) (hd : d < s.heap.objs.size) (ex : us[i]? = some x) (ey : vs[i]? = some y)
    (hQ : ∀ h' tk, ZD t u z TI TO i1 i2 a b us vs d (i + 1) h' → IsPair h' s.heap.objs.size x y →
      (∀ c o, c ≠ z → c ≠ TO → c ≠ i1 → c ≠ i2 → s.heap.get? c = some o → h'.get? c = some o) → Q (some (.ref s.heap.objs.size)) { s with heap := h', toks := tk }) : wpAny (model prog w) A (pyNext (.ref z)) Q E s := by
  obtain ⟨ti, g1, g2, a1, a2, zp⟩ := st
  have lt : ∀ {c : Addr} {o : Obj}, s.heap.get? c = some o → s.heap.objs.size ≠ c := fun e => Nat.ne_of_gt (Heap.lt_size e)
  have l1 : s.heap.objs.size ≠ i1 := by obtain ⟨_, e, _⟩ := g1.obj; exact lt e
  have l2 : s.heap.objs.size ≠ i2 := by obtain ⟨_, e, _⟩ := g2.obj; exact lt e
  rcases zp with ⟨iz, x0, y0, to⟩ | ⟨T, f, oT, iz, ⟨x0, y0, to⟩, aT, Tz, T1, T2, Td⟩
  · refine wpAny_pyNext_zipD2_item (i := i) (sep_of D) (drawsX (A := A.in1) hh t i1 a D.l1i1 us) (drawsX (A := A.in1) hh u i2 b D.l2i2 vs) iz ti to ⟨g1, a1⟩ ⟨g2, a2⟩ (Array.getElem?_eq_some_iff.mp ex).1 (Array.getElem?_eq_some_iff.mp ey).1 fun x' y' h' tk ex' ey' z' to' ⟨n1, m1⟩ ⟨n2, m2⟩ np sz kp => ?_
    obtain rfl : x' = x := by
      have e : us[i]? = some x' := ex'
      rw [ex] at e
      exact (Option.some.inj e).symm
    obtain rfl : y' = y := by
      have e : vs[i]? = some y' := ey'
      rw [ey] at e
      exact (Option.some.inj e).symm
    exact hQ h' tk ⟨kp _ _ D.TIz D.TITO D.TIi1 D.TIi2 ti, n1, n2, m1, m2, .inr ⟨_, false, _, z', ⟨_, _, to'⟩, np, lt iz, l1, l2, Nat.ne_of_gt hd⟩⟩ np kp
  · have ty : s.TypeIs (.ref z) "zip" := ⟨_, iz, rfl⟩
    unfold pyNext
    refine wpAny_bind (wpAny_attempt (wpAny_callSpecial?_slot (name := Str.ofString "__next__") ty F.slot_zip_next
      (wpAny_call_entry F.slot_zip_next ty F.entry_zip_next (held_item (A := A.in1) D hh iz aT ti g1 a1 g2 a2 ex ey fun h' tk z' n1 n2 np sz kp => wpAny_pure (hQ h' tk ⟨kp _ _ D.TIz D.TIi1 D.TIi2 ti, n1, n2, a1.at fun o e => kp _ _ D.l1z D.l1i1 D.l1i2 e, a2.at fun o e => kp _ _ D.l2z D.l2i1 D.l2i2 e, .inr ⟨T, true, oT, z', ⟨_, _, kp _ _ D.TOz D.TOi1 D.TOi2 to⟩, kp _ _ Tz T1 T2 aT, Tz, T1, T2, Td⟩⟩ np fun c o c1 _ c2 c3 e => kp c o c1 c2 c3 e)) (F.args_zip_next_1 _))))
end
theorem AtX.ex {t : Bool} {h : Heap} {a : Addr} {its : Array Value} (p : AtX t h a its) : ∃ o, h.get? a = some o := by
  cases t with
  | true => obtain ⟨o, e, _⟩ := id p; exact ⟨o, e⟩
  | false => obtain ⟨o, e, _⟩ := id p; exact ⟨o, e⟩
/-- zip of two, each a list or a tuple, as what dict takes its pairs from -/
theorem pairZipX {prog : Program} {w : World} (t u : Bool) (z TI TO i1 i2 a b : Addr) (D : ZipApart z TI TO i1 i2 a b) (us vs : Array Value) :
    PairArg prog w "zip" z [z, TI, TO, i1, i2, a, b] [z, TO, i1, i2] (min us.size vs.size) (fun i k v => us[i]? = some k ∧ vs[i]? = some v)
      (fun h => IsZip h z TI TO .none ∧ IsPair h TI (.ref i1) (.ref i2) ∧ (∃ x y, IsPair h TO x y) ∧ IterX t h i1 a 0 ∧ IterX u h i2 b 0 ∧ AtX t h a us ∧ AtX u h b vs) where
  type := fun s ok => ⟨_, ok.1, rfl⟩
  notDict := by decide
  keep := fun h h' ok hk => by
    obtain ⟨hz, hTI, ⟨x, y, hTO⟩, h1, h2, hl1, hl2⟩ := ok
    exact ⟨hk _ _ hz, hk _ _ hTI, ⟨x, y, hk _ _ hTO⟩, h1.at fun o e => hk _ o e, h2.at fun o e => hk _ o e, hl1.at fun o e => hk _ o e, hl2.at fun o e => hk _ o e⟩
  there := fun h ok q hq => by
    obtain ⟨hz, hTI, ⟨x, y, hTO⟩, h1, h2, hl1, hl2⟩ := ok
    obtain ⟨o1, h1, _⟩ := h1.obj
    obtain ⟨o2, h2, _⟩ := h2.obj
    obtain ⟨o3, hl1⟩ := hl1.ex
    obtain ⟨o4, hl2⟩ := hl2.ex
    simp only [List.mem_cons, List.not_mem_nil, or_false] at hq
    rcases hq with rfl | rfl | rfl | rfl | rfl | rfl | rfl
    all_goals first | exact ⟨_, hz⟩ | exact ⟨_, hTI⟩ | exact ⟨_, hTO⟩ | exact ⟨_, h1⟩ | exact ⟨_, h2⟩ | exact ⟨_, hl1⟩ | exact ⟨_, hl2⟩
  sub := fun q hq => by simp at hq ⊢; rcases hq with rfl | rfl | rfl | rfl <;> simp
  noKeys := fun A s Q E hA ok h => getAttrOr_miss_zip ok.1 rfl rfl rfl zip_no_keys (by decide +kernel) hA h
  iter := fun A s d Q E hA ok hd hdf h => by
    obtain ⟨hz, hTI, hTO, h1, h2, hl1, hl2⟩ := ok
    simp only [List.mem_cons, List.not_mem_nil, or_false, not_or] at hdf
    obtain ⟨dz, dTI, dTO, di1, di2, dl1, dl2⟩ := hdf
    refine wpAny_pyIter_zip hz (h z [z, TO, i1, i2] (fun i h => ZD t u z TI TO i1 i2 a b us vs d i h) s.heap s.toks ?_ ⟨hTI, h1, h2, hl1, hl2, .inl ⟨hz, hTO⟩⟩ (fun _ _ e => e) fun b hb => .inl hb)
    exact {
      off := fun hm => by
        simp only [List.mem_cons, List.not_mem_nil, or_false] at hm
        rcases hm with e | e | e | e
        · exact dz e
        · exact dTO e
        · exact di1 e
        · exact di2 e
      frame := fun i h₁ h₂ st hk => by
        obtain ⟨hTI, h1, h2, hl1, hl2, hz⟩ := st
        refine ⟨hk _ _ (Ne.symm dTI) hTI, h1.at fun o e => hk _ o (Ne.symm di1) e, h2.at fun o e => hk _ o (Ne.symm di2) e, hl1.at fun o e => hk _ o (Ne.symm dl1) e, hl2.at fun o e => hk _ o (Ne.symm dl2) e, ?_⟩
        rcases hz with ⟨hz, x, y, hTO⟩ | ⟨T, f, oT, hz, ⟨x, y, hTO⟩, hT, r1, r2, r3, r4⟩
        · exact .inl ⟨hk _ _ (Ne.symm dz) hz, x, y, hk _ _ (Ne.symm dTO) hTO⟩
        · exact .inr ⟨T, f, oT, hk _ _ (Ne.symm dz) hz, ⟨x, y, hk _ _ (Ne.symm dTO) hTO⟩, hk _ _ r4 hT, r1, r2, r3, r4⟩
      item := fun i s₁ Q₁ E₁ hi st hds hQ => by
        have hix : i < us.size := Nat.lt_of_lt_of_le hi (Nat.min_le_left ..)
        have hiy : i < vs.size := Nat.lt_of_lt_of_le hi (Nat.min_le_right ..)
        have ex := Array.getElem?_eq_getElem hix
        have ey := Array.getElem?_eq_getElem hiy
        refine zd_item D hA st hds ex ey fun h' tk st' np kp => ?_
        exact hQ s₁.heap.objs.size _ _ h' tk ⟨ex, ey⟩ (.inl ⟨_, np, rfl, _, rfl⟩) st' fun c o hc e => kp c o (fun x => hc (by simp [x])) (fun x => hc (by simp [x])) (fun x => hc (by simp [x])) (fun x => hc (by simp [x])) e
      done := fun s₁ Q₁ E₁ st hQ => by
        refine zs_end D hA st.zs (Nat.min_le_left ..) (Nat.min_le_right ..) (by omega) fun h' tk kp => ?_
        exact hQ h' tk fun c o hc e => kp c o (fun x => hc (by simp [x])) (fun x => hc (by simp [x])) (fun x => hc (by simp [x])) (fun x => hc (by simp [x])) e }
/-! the dict -/
def tDictZ (K : PySem.W.Frag) (ta : TA) : TE := fun σ H Q => ta σ H fun vs H1 => ∃ t u a b xs ys, ∃ more : List (L2.Key × V), vs = [.ref a, .ref b] ∧ Sqx t K H1 a xs ∧ Sqx u K H1 b ys ∧ more.length = min xs.length ys.length ∧ (∀ (j : Nat) (kv : L2.Key × V), more[j]? = some kv → xs[j]? = some (L2.kV kv.1) ∧ ys[j]? = some kv.2) ∧
  ∀ q, H1 q = none → Q (.ref q) (upd H1 q (.dK (mergeK [] more)))
/-- the pairs' values -/
theorem kv_of (P : Program) (w : World) : ∀ {more : List (L2.Key × V)} {xs ys : List V} {us vs : List Value}, Vals xs us → Vals ys vs → more.length = min xs.length ys.length → (∀ (j : Nat) (kv : L2.Key × V), more[j]? = some kv → xs[j]? = some (L2.kV kv.1) ∧ ys[j]? = some kv.2) →
    ∃ prs : List (L2.Key × Value), KV more prs ∧ prs.length = min us.length vs.length ∧ ∀ (i : Nat) (key v : Value), us[i]? = some key → vs[i]? = some v → ∃ k, prs[i]? = some (k, v) ∧ keyIs k key = true
  | [], xs, ys, us, vs, r1, r2, hl, h => by
    have l1 := r1.length
    have l2 := r2.length
    simp only [List.length_nil] at hl
    refine ⟨[], .nil, by simp only [List.length_nil]; omega, fun i key v e1 e2 => ?_⟩
    have := (List.getElem?_eq_some_iff.mp e1).1
    have := (List.getElem?_eq_some_iff.mp e2).1
    omega
  | kv :: more, xs, ys, us, vs, r1, r2, hl, h => by
    cases r1 with
    | nil => simp at hl
    | @cons x u xs us a r1 =>
      cases r2 with
      | nil => simp at hl
      | @cons y v ys vs b r2 =>
        obtain ⟨prs, p1, p2, p3⟩ := kv_of P w (more := more) r1 r2 (by simp only [List.length_cons] at hl; omega) fun j q e => by
          have := h (j + 1) q (by simpa using e)
          simpa using this
        obtain ⟨h0, h1⟩ := h 0 kv rfl
        simp only [List.getElem?_cons_zero, Option.some.injEq] at h0 h1
        subst h0 h1
        refine ⟨(kv.1, v) :: prs, .cons ⟨rfl, b⟩ p1, by simp only [List.length_cons]; omega, fun i key w e1 e2 => ?_⟩
        cases i with
        | zero =>
          simp only [List.getElem?_cons_zero, Option.some.injEq] at e1 e2
          subst e1 e2
          exact ⟨kv.1, rfl, @kV_is P w kv.1 u a⟩
        | succ i =>
          obtain ⟨k, e3, e4⟩ := p3 i key w (by simpa using e1) (by simpa using e2)
          exact ⟨k, by simpa using e3, e4⟩
theorem pe_dictZ {X : Cx} {e e2 : Expr} {ta : TA} {p p2 pos pos2 : Pos} (hc : X.calm = true) (hg : Gl X "dict") (hm : X.mg "dict" = none) (hg2 : Gl X "zip") (hm2 : X.mg "zip" = none) (ha : PA X [e, e2] ta)
    (hs : starEach [e, e2] X.env = (false, eval e X.env) :: starEach [e2] X.env) (hpl : (backTo pos2 (starEach [e2] X.env)).any (·.1) = false) :
    PE X (.Call (.Name "dict" p) [.Call (.Name "zip" p2) [e, e2] [] pos2] [] pos) (tDictZ X.K ta) := by
  refine ⟨fun pins s σ H Q I h => ?_⟩
  refine wpAny_Call_Name_kw (ld_blt I hg hm PyProof.Rows.boot_dict ?_)
  refine PyProof.Rows.callWith_type1 ?_ rfl rfl
  show wpAny _ _ (spliced [(false, eval (.Call (.Name "zip" p2) [e, e2] [] pos2) X.env)]) _ _ s
  refine Calls.spliced_cons ?_
  refine Call_ (ld_blt I hg2 hm2 PyProof.Rows.boot_zip (PyProof.Rows.callWith_type1 (thn (ha.run pos2 pins s σ H _ I h) fun us s1 ⟨vs, H1, I1, r1, q1⟩ => ?_) hs hpl))
  obtain ⟨t, u, a, b, xs, ys, more, rfl, q1, q2, ml, mh, go⟩ := q1
  cases r1 with
  | cons ra r1 =>
    cases r1 with
    | cons rb r1 =>
      cases r1
      cases ra
      cases rb
      obtain ⟨us, v1, p1⟩ := q1.inv I1
      obtain ⟨vs, v2, p2⟩ := q2.inv I1
      obtain ⟨o1, B1, it1⟩ := beginsX t a us.toArray
      obtain ⟨o2, B2, it2⟩ := beginsX u b vs.toArray
      refine zip_begins2 B1 B2 p1 p2 fun h' hz hTI hTO g1 g2 hsz hk => ?_
      refine Calls.spliced_nil ?_
      have la := p1.lt
      have lb := p2.lt
      have lx := q1.size I1
      have D := PySem.W.ktu_apart s1.heap.objs.size a b la lb
      obtain ⟨prs, k1, k2, k3⟩ := kv_of X.prog X.w v1 v2 ml mh
      have lx1 := v1.length
      refine call_dict_pairs (A := X.A) (s := { s1 with heap := h' }) (knd := mixKind X.prog X.w) (kvs := prs) (pairZipX t u _ _ _ _ _ a b D us.toArray vs.toArray) (I1.ok.hd hc) ⟨hz, hTI, ⟨_, _, hTO⟩, it1 _ _ g1, it2 _ _ g2, p1.at fun o => hk _ o, p2.at fun o => hk _ o⟩ ⟨by rw [k2]; simp, fun i key v hr => ?_⟩ (by simp; omega) fun h2 tk hD kp => ?_
      · obtain ⟨e1, e2⟩ := hr
        exact k3 i key v (by simpa using e1) (by simpa using e2)
      · have kk : ∀ q o, s1.heap.get? q = some o → h2.get? q = some o := fun q o e => by
          have l := Heap.lt_size e
          refine kp q o ?_ (hk q o e)
          simp only [List.mem_cons, List.not_mem_nil, or_false, not_or]
          exact ⟨Nat.ne_of_lt (Nat.lt_of_lt_of_le l (Nat.le_add_right _ _)), Nat.ne_of_lt (Nat.lt_of_lt_of_le l (Nat.le_add_right _ _)), Nat.ne_of_lt l, Nat.ne_of_lt (Nat.lt_of_lt_of_le l (Nat.le_add_right _ _))⟩
        have S0 : s1.heap.objs.size ≤ h'.objs.size := by rw [hsz]; exact Nat.le_add_right _ _
        have hsys : (h'.objs.size == sysModules) = false := beq_eq_false_iff_ne.mpr (Ne.symm (Nat.ne_of_lt (Nat.lt_of_lt_of_le I1.big S0)))
        have hlen : (mergeK [] more).length ≤ sizeLine := Nat.le_trans (length_mergeK more []) (by simp only [List.length_nil]; omega)
        exact ⟨.ref h'.objs.size, _, I1.laid (t' := tk) (o := .dK (mergeK [] more)) kk S0 (dk_new hlen hsys (KV.merge k1 .nil) hD), rfl, go _ (I1.hok.fresh S0)⟩
section
variable {P : Pg} {cl : Cl} {k : Nat} {X : Cx} {W : WX} {o : Ko} {a b : E} {ea eb : Expr}
theorem rk_of {m : Sm} : ∀ {ps : List (Key × Val)} {xs ys : List Val} {us vs : List V}, RDs m xs us → RDs m ys vs → pairL xs ys = (ps.map fun p => .tup [p.1.val, p.2]) →
    ∃ more : List (L2.Key × V), RKs m ps more ∧ more.length = min us.length vs.length ∧ ∀ (j : Nat) (kv : L2.Key × V), more[j]? = some kv → us[j]? = some (L2.kV kv.1) ∧ vs[j]? = some kv.2
  | [], xs, ys, us, vs, r1, r2, h => by
    refine ⟨[], .nil, ?_, fun j kv e => by simp at e⟩
    cases r1 with
    | nil => simp
    | cons a r1 =>
      cases r2 with
      | nil => simp
      | cons b r2 => simp [pairL] at h
  | p :: ps, xs, ys, us, vs, r1, r2, h => by
    cases r1 with
    | nil => simp [pairL] at h
    | @cons x u xs us a r1 =>
      cases r2 with
      | nil => simp [pairL] at h
      | @cons y v ys vs b r2 =>
        simp only [pairL, List.map_cons, List.cons.injEq, Val.tup.injEq, and_true] at h
        obtain ⟨⟨rfl, rfl⟩, h⟩ := h
        obtain ⟨more, m1, m2, m3⟩ := rk_of r1 r2 h
        have ek : u = L2.kV (kk p.1) := by
          obtain ⟨q, w⟩ := p
          cases q with
          | inl i => cases a; rfl
          | inr x => cases a; rfl
        refine ⟨(kk p.1, v) :: more, .cons ⟨rfl, b⟩ m1, by simp only [List.length_cons]; omega, fun j kv e => ?_⟩
        cases j with
        | zero =>
          simp only [List.getElem?_cons_zero, Option.some.injEq] at e ⊢
          subst e
          exact ⟨ek, rfl⟩
        | succ j =>
          simp only [List.getElem?_cons_succ] at e ⊢
          exact m3 j kv e
theorem e_dictZ {p p2 pos pos2 : Pos} (xo : XO P cl X k o W) (hc : (!o.hot) = true) (hg : Gl X (Str.ofString "dict")) (hg2 : Gl X (Str.ofString "zip")) (hs : notStar ea = true) (hs2 : notStar eb = true) (ha : PE X ea (tE P cl k X W a)) (hb : PE X eb (tE P cl k X W b)) :
    PE X (.Call (.Name (Str.ofString "dict") p) [.Call (.Name (Str.ofString "zip") p2) [ea, eb] [] pos2] [] pos) (tE P cl k X W (.vi .dictZ (.cons a (.cons b .nil)))) :=
  PE.imp (PE.kf (pe_dictZ (xo.calm hc) hg (xo.ln.bi "dict" (by decide)) hg2 (xo.ln.bi "zip" (by decide)) (pa_cons ha (pa_cons hb pa_nil (star_cons hs2)) (star_cons hs)) (star_cons hs) (star_any (by simp [hs2])))) fun σ H Q ⟨m, env, S, hK, eH, hS, hV, h⟩ => by
    subst eH
    simp only [wE, wEs] at h
    refine tE_of hK hS hV (Ev.refl m) h fun m1 x S1 v e1 hS1 r1 hV1 h1 => ?_
    refine tE_of (e1.k.trans hK) hS1 hV1 e1 h1 fun m2 y S2 w e2 hS2 r2 hV2 h2 => ?_
    have hK2 := (e1.trans e2).k.trans hK
    have h2 : ltOf v S2 (fun xs _ => ltOf w S2 fun ys _ => ∃ ps : List (Key × Val), pairL xs ys = (ps.map fun p => .tup [p.1.val, p.2]) ∧ liftQ cl m Q (.ref S2.length) (S2 ++ [.dic (ps.foldl (fun d p => putK d p.1 p.2) [])])) := h2
    obtain ⟨t, q, xs, us, g, rfl, h3, q1, s1⟩ := lt_rd hS2 (r1.up (e2.up hS1)) h2
    obtain ⟨u, q', ys, vs, g', rfl, h4, q2, s2⟩ := lt_rd hS2 r2 h3
    obtain ⟨ps, hp, h4⟩ := h4
    obtain ⟨more, m1, m2, m3⟩ := rk_of s1 s2 hp
    rw [hK2] at q1 q2
    exact ⟨t, u, q, q', us, vs, more, rfl, q1, q2, m2, m3, fun p hp kf => mk_dic hS2 (RKs.merge m1 .nil) hp (by rw [hK2]; exact kf) (liftQ.ev (e1.trans e2) (fun _ _ _ q => q) h4)⟩
end
end Mi

set_option maxHeartbeats 4000000
namespace Mi
open PySem PySem.Spec L2 PyProof.Rows
section
variable {cl : Cl} {m m0 : Sm} {S : Hm} {D : Addr} {ob : Ob}
theorem up_em : Up m { m with em := m.em ++ [D] } := ⟨fun _ _ h => h, ⟨[D], rfl⟩, fun _ h => h⟩
/-- an object that stood outside comes in -/
theorem SH.adopt (h : SH cl m S) (hD : D ∉ m.em) (r : RO cl m D ob) : SH cl { m with em := m.em ++ [D] } (S ++ [ob]) := by
  refine ⟨by simp [h.len], ?_, h.kf, fun n u a e1 e2 => ?_, h.z⟩
  · show (m.em ++ [D]).Nodup
    rw [List.nodup_append]
    refine ⟨h.nd, by simp, fun x hx y hy => ?_⟩
    have : y = D := by simpa using hy
    rw [this]
    exact fun z => hD (z ▸ hx)
  · have e2 : (m.em ++ [D])[n]? = some a := e2
    by_cases hn : n < S.length
    · rw [List.getElem?_append_left hn] at e1
      rw [List.getElem?_append_left (by rw [h.len]; exact hn)] at e2
      exact (h.ob n u a e1 e2).up up_em rfl rfl
    · have hn2 : n = S.length := by
        have := (List.getElem?_eq_some_iff.mp e1).1
        simp at this
        omega
      subst hn2
      rw [List.getElem?_append_right (Nat.le_refl _)] at e1
      rw [← h.len, List.getElem?_append_right (Nat.le_refl _)] at e2
      simp at e1 e2
      subst e1 e2
      exact r.up up_em rfl rfl
theorem Ev.adopt (e : Ev m0 m) (hD : m0.H D = none) : Ev m0 { m with em := m.em ++ [D] } := by
  obtain ⟨l, hl⟩ := e.em
  refine ⟨e.k, e.z, ⟨l ++ [D], ?_⟩, e.keep, fun b hb nb => ?_, e.frz⟩
  · show m.em ++ [D] = m0.em ++ (l ++ [D])
    rw [hl, List.append_assoc]
  · rcases List.mem_append.mp hb with z | z
    · exact e.new b z nb
    · have : b = D := by simpa using z
      rw [this]; exact hD
/-- a list outside is changed -/
theorem up_poke {ws ws' : List V} (hl : m.H D = some (.lst ws)) : Up m { m with H := L2.upd m.H D (.lst ws') } := by
  refine ⟨fun a xs h => ?_, ⟨[], by simp⟩, fun _ h => h⟩
  rcases h with (h | ⟨o, h⟩) | h
  · have : a ≠ D := fun z => by rw [z, hl] at h; cases h
    exact .inl (.inl (by show upd m.H D _ a = _; rw [upd_ne this]; exact h))
  · have : a ≠ D := fun z => by rw [z, hl] at h; cases h
    exact .inl (.inr ⟨o, by show upd m.H D _ a = _; rw [upd_ne this]; exact h⟩)
  · exact .inr h
theorem SH.poke {ws ws' : List V} (h : SH cl m S) (hD : D ∉ m.em) (hl : m.H D = some (.lst ws)) : SH cl { m with H := L2.upd m.H D (.lst ws') } S := by
  refine ⟨h.len, h.nd, fun b o e => ?_, fun n o a e1 e2 => ?_, h.z⟩
  · show upd m.H D _ b = none
    have hb := h.kf b o e
    rw [upd_ne (fun z => by rw [z, hl] at hb; cases hb)]
    exact hb
  · exact (h.ob n o a e1 e2).up (up_poke hl) rfl (upd_ne fun z => hD (z ▸ List.mem_of_getElem? e2))
theorem Ev.poke {o : HO} (e : Ev m0 m) (hD : m0.H D = none) : Ev m0 { m with H := L2.upd m.H D o } :=
  ⟨e.k, e.z, e.em, fun b u h nb => by show upd m.H D o b = _; rw [upd_ne (ne_of_none h hD)]; exact e.keep b u h nb, e.new, fun b q u h => by show L2.upd m.H D o b = _; rw [upd_ne (ne_of_none h hD)]; exact e.frz b q u h⟩
theorem Ev.out {u : HO} {m' : Sm} (e : Ev m m') (hl : m.H D = some u) (hD : D ∉ m.em) : m'.H D = some u ∧ D ∉ m'.em :=
  ⟨e.keep D _ hl hD, fun z => by
    have := e.new D z hD
    rw [hl] at this
    cases this⟩
end
section
variable {P : Pg} {cl : Cl} {k : Nat} {X : Cx} {W : WX} {sc : Ko}
abbrev noW : WX := fun _ _ _ _ => False
theorem lcLoop_guard {turn : Val → Hm → (Option Val → Hm → Prop) → Prop} {g : Hm → Prop} {vs acc : List Val} {S : Hm} {Q : List Val → Hm → Prop} (h : lcLoop turn g vs acc S Q) : g S := by
  cases vs <;> exact h.1
/-- one turn of a comprehension -/
def lcTurn (P : Pg) (k : Nat) (X0 : XPost) (elt : E) (tgt : Tg) (cond : Ot) (env : Env) (vs : List Nat) : Val → Hm → (Option Val → Hm → Prop) → Prop :=
  fun v S K => tgW tgt v (ewipe env vs) fun env2 => wC P.con (callW P k) X0 cond env2 S fun b S2 => if b = true then wE P.con (callW P k) X0 elt env2 S2 fun x S3 => K (some x) S3 else K none S2
/-- the new list stands at D, i items are through -/
def LW (cl : Cl) (X : Cx) (m1 : Sm) (turn : Val → Hm → (Option Val → Hm → Prop) → Prop) (g : Hm → Prop) (items : List Val) (Q1 : List Val → Hm → Prop) (D : Addr) (i : Nat) (H : Hp) : Prop :=
  ∃ m S acc ws, m.K = X.K ∧ m.H = H ∧ Ev m1 m ∧ SH cl m S ∧ D ∉ m.em ∧ H D = some (.lst ws) ∧ RDs m acc ws ∧ lcLoop turn g (items.drop i) acc S Q1
theorem lc_run {elt : E} {tgt : Tg} {src : Src} {cond : Ot} {own : List (String × Nat)} {σ : L2.St} {m : Sm} {env : Env} {S : Hm} {Q : VK} (hK : m.K = X.K) (hS : SH cl m S) (hV : SV m env σ) (hslots : ∀ i ∈ tgt.slots, i ∈ own.map (·.2)) (hQ : ∀ v S', Q1 v S' → ∀ m' x, Ev m m' → SH cl m' S' → RD m' v x → Q x m'.H)
    (h : wE P.con (callW P k) (liftX cl X.mg m fun c d H => W c d σ H) (.lc elt tgt src cond own) env S Q1) :
    tLc (tSrc P cl k X W src) (fun v σ H Q => KF X.K H → tG X.K tgt v σ H Q) (tCs P cl k X (atS W σ) cond) (tE P cl k X (atS W σ) elt) (own.map (·.2)) σ m.H (fun x H' => KF X.K H' → Q x H') := by
  simp only [wE] at h
  refine tSrc_of hK hS hV (Ev.refl m) h fun m1 J S1 items g e1 hS1 ok hV1 h1 => ?_
  intro D hD
  have hK1 := e1.k.trans hK
  -- the invariant
  let turn := lcTurn P k (liftX cl X.mg m fun c d H => W c d σ H) elt tgt cond env (own.map (·.2))
  let Q2 : List Val → Hm → Prop := fun acc S2 => Q1 (.ref S2.length) (S2 ++ [.lst acc])
  have h1 : lcLoop turn g items [] S1 Q2 := h1
  have adv : ∀ i H, i ≤ items.length → LW cl X m1 turn g items Q2 D i H → (i < items.length → J.go i H) ∧ (i = items.length → J.stop i H) := by
    rintro i H hi ⟨m2, S2, acc, ws, hK2, rfl, e2, hS2, nD, hDl, ra, hl⟩
    have hg := lcLoop_guard hl
    exact ⟨fun hlt => ok.go i m2 S2 items[i] e2 hS2 hg (List.getElem?_eq_getElem hlt), fun he => ok.stop i m2 S2 e2 hS2 hg (by omega)⟩
  refine ⟨fun i μ H => μ = items.length - i ∧ i ≤ items.length ∧ (i < items.length → J.go i H) ∧ (i = items.length → J.stop i H) ∧ (KF X.K H → LW cl X m1 turn g items Q2 D i H), ⟨items.length, by simp, Nat.zero_le _, fun hlt => ?_, fun he => ?_, fun kf => ?_⟩, ?_⟩
  · exact ok.go0 D _ items[0] hD (List.getElem?_eq_getElem hlt)
  · exact ok.stop0 D _ hD (by omega)
  · rw [← hK1] at kf
    have e2 : Ev m1 { m1 with H := upd m1.H D (.lst []) } := Ev.outside hD
    exact ⟨{ m1 with H := upd m1.H D (.lst []) }, S1, [], [], hK1, rfl, e2, hS1.outside hD kf, hS1.free hD (kf_free kf (upd_same (H := m1.H) (a := D))), upd_same, .nil, h1⟩
  · rintro i μ H ⟨rfl, hi, hgo, hstop, lw⟩
    by_cases he : i = items.length
    · refine .inl ⟨hstop he, fun kf => ?_⟩
      obtain ⟨m2, S2, acc, ws, hK2, rfl, e2, hS2, nD, hDl, ra, hl⟩ := lw kf
      rw [List.drop_eq_nil_of_le (by omega)] at hl
      obtain ⟨_, hl⟩ := hl
      have e3 := (e1.trans (e2.adopt hD))
      refine hQ _ _ hl { m2 with em := m2.em ++ [D] } (.ref D) e3 (hS2.adopt nD ⟨ws, hDl, ra⟩) (.ref ?_)
      show (m2.em ++ [D])[S2.length]? = some D
      rw [← hS2.len]
      simp
    · have hlt : i < items.length := by omega
      refine .inr ⟨hgo hlt, LW cl X m1 turn g items Q2 D (i + 1), fun H' lw' => ?_, fun x H' y => ?_⟩
      · obtain ⟨a1, a2⟩ := adv (i + 1) H' (by omega) lw'
        exact ⟨items.length - (i + 1), by omega, rfl, by omega, a1, a2, fun _ => lw'⟩
      · intro kf'
        have kf := ok.kfb i H x H' y (by rw [hK1]; exact kf')
        rw [hK1] at kf
        obtain ⟨m2, S2, acc, ws, hK2, rfl, e2, hS2, nD, hDl, ra, hl⟩ := lw kf
        rw [List.drop_eq_getElem_cons hlt] at hl
        obtain ⟨hg, hl⟩ := hl
        obtain ⟨m3, rfl, e3, hS3, rv⟩ := ok.yld i m2 S2 items[i] x H' e2 hS2 hg (List.getElem?_eq_getElem hlt) y (by rw [hK2]; exact kf')
        have e23 := e2.trans e3
        obtain ⟨hDl3, nD3⟩ := e3.out hDl nD
        have hV3 := ((hV1.up (e23.up hS1)).wipe (own.map (·.2)))
        refine tG_of (e23.k.trans hK1) rv hV3 hl fun env2 xs ht hV4 => ⟨wipe_setN (fun i hi => hslots i hi) wipe_wipe, ?_⟩
        refine ⟨m3, env2, S2, e23.k.trans hK1, rfl, hS3, hV4, wC_mono (callW_mono P k) (fun _ _ h => liftX.ev (e1.trans e23) h) cond (fun b S4 h4 m4 e4 hS4 => ?_) ht⟩
        obtain ⟨hDl4, nD4⟩ := e4.out hDl3 nD3
        have e24 := e23.trans e4
        cases b with
        | false =>
          simp only [Bool.false_eq_true, if_false] at h4 ⊢
          exact ⟨m4, S4, acc, ws, e24.k.trans hK1, rfl, e24, hS4, nD4, hDl4, ra.up ((e3.trans e4).up hS2), h4⟩
        | true =>
          simp only [if_true] at h4 ⊢
          refine ⟨m4, env2, S4, e24.k.trans hK1, rfl, hS4, hV4.up (e4.up hS3), wE_mono (callW_mono P k) (fun _ _ h => liftX.ev (e1.trans e24) h) elt (fun v S5 h5 m5 x5 e5 hS5 r5 => ?_) h4⟩
          obtain ⟨hDl5, nD5⟩ := e5.out hDl4 nD4
          have e25 := e24.trans e5
          have ra5 := ra.up (((e3.trans e4).trans e5).up hS2)
          have u6 := up_poke (ws' := ws ++ [x5]) hDl5
          refine ⟨ws, hDl5, by rw [← ra5.length]; exact h5.1, { m5 with H := upd m5.H D (.lst (ws ++ [x5])) }, S5, acc ++ [v], ws ++ [x5], e25.k.trans hK1, rfl, e25.poke hD, hS5.poke nD5 hDl5, nD5, upd_same, ra5.append (.cons r5 .nil) |>.up u6, h5.2⟩
theorem PTs.imp {e : List Expr} {t t' : TT} (h : PTs X e t) (f : ∀ σ H Q, t' σ H Q → t σ H Q) : PTs X e t' := ⟨fun pins s σ H Q I hw => h.run pins s σ H Q I (f _ _ _ hw)⟩
theorem c_none : PTs X [] (tCs P cl k X W .none) :=
  PTs.imp pts_nil fun σ H Q ⟨m, env, S, hK, eH, hS, hV, h⟩ => by
    subst eH
    simp only [wC] at h
    exact h m (Ev.refl m) hS
theorem c_some {t : T} {e : Expr} (h : PT X e (tTs P cl k X W t)) : PTs X [e] (tCs P cl k X W (.some t)) :=
  PTs.imp (pts_one h) fun σ H Q ⟨m, env, S, hK, eH, hS, hV, h⟩ => ⟨m, env, S, hK, eH, hS, hV, by simpa only [wC] using h⟩
structure LcOk (P : Pg) (cl : Cl) (k : Nat) (X : Cx) (W : WX) (elt : E) (tgt : Tg) (cond : Ot) (own : List (String × Nat)) (eelt tg : Expr) (ifs : List Expr) (scope : Scope) : Prop where
  ok : BlkOk X.N X.env.scope scope (own.map fun p => (Str.ofString p.1, p.2))
  sl : ∀ i ∈ tgt.slots, i ∈ own.map (·.2)
  tg : ∀ σ s H C c fp, TgOk (Cx.blkE X W σ s H scope (compEnvC scope c C X.env) fp) tgt tg
  cd : ∀ σ s H C c fp, PTs (Cx.blkE X W σ s H scope (compEnvC scope c C X.env) fp) ifs (tCs P cl k X (atS W σ) cond)
  el : ∀ σ s H C c fp, PE (Cx.blkE X W σ s H scope (compEnvC scope c C X.env) fp) eelt (tE P cl k X (atS W σ) elt)
variable {elt : E} {tgt : Tg} {src : Src} {cond : Ot} {own : List (String × Nat)} {eelt tg iter : Expr} {ifs : List Expr} {scope : Scope} {pos : Pos}
theorem own_snd : (own.map fun p => (Str.ofString p.1, p.2)).map (·.2) = own.map (·.2) := by rw [List.map_map]; rfl
theorem LcOk.pg (xo : XO P cl X k sc W) (hc : (!sc.hot) = true) (L : LcOk P cl k X W elt tgt cond own eelt tg ifs scope) (σ : L2.St) (s : Shared) (H : Hp) (C : Addr) (c : List (Str × Addr)) (fp : List Addr) : PG (Cx.blkE X W σ s H scope (compEnvC scope c C X.env) fp) tg (fun v σ H Q => KF X.K H → tG X.K tgt v σ H Q) :=
  PG.pre (X := Cx.blkE X W σ s H scope (compEnvC scope c C X.env) fp) ((L.tg σ s H C c fp).pg xo.nd (xo.calm hc))
theorem e_lc (xo : XO P cl X k sc W) (hc : (!sc.hot) = true) (hsrc : PI X tg iter (tSrc P cl k X W src)) (hfold : ∀ x, foldedSetIterable iter X.env x = pure x) (L : LcOk P cl k X W elt tgt cond own eelt tg ifs scope) :
    PE X (.ListComp eelt [⟨tg, iter, ifs, 0⟩] scope pos) (tE P cl k X W (.lc elt tgt src cond own)) :=
  PE.imp (PE.kf (peE_lc (xo.calm hc) xo.nd xo.fr xo.tk hsrc L.ok (L.pg xo hc) L.cd L.el hfold)) fun σ H Q ⟨m, env, S, hK, eH, hS, hV, h⟩ => by
    subst eH
    rw [own_snd]
    exact lc_run hK hS hV L.sl (fun v S' h m' x e hS' r => h m' x e hS' r) h
/-- a dict is locked while an expression runs -/
theorem lock_sh {cl : Cl} {m : Sm} {S : Hm} {n : Nat} {a : Addr} {kvs : List (Key × Val)} {ws : List (L2.Key × V)} {od : Obj} (hS : SH cl m S) (ha : m.em[n]? = some a) (h : m.H a = some (.dK ws)) (r : RKs m kvs ws) :
    Ev m { m with H := upd m.H a (.frz od (.dK ws)) } ∧ SH cl { m with H := upd m.H a (.frz od (.dK ws)) } (S.set n (.lck (.dic kvs))) :=
  have e : Ev m { m with H := upd m.H a (.frz od (.dK ws)) } := Ev.write ha h
  ⟨e, hS.write ha h ⟨od, ws, upd_same, r.up (e.up hS)⟩⟩
theorem unlock_sh {cl : Cl} {m m2 : Sm} {S2 : Hm} {n : Nat} {a : Addr} {kvs : List (Key × Val)} {ws : List (L2.Key × V)} {od : Obj} (ha : m.em[n]? = some a) (h : m.H a = some (.dK ws)) (e : Ev { m with H := upd m.H a (.frz od (.dK ws)) } m2) (hS2 : SH cl m2 S2) (h2 : S2[n]? = some (.lck (.dic kvs))) :
    m2.H a = some (.frz od (.dK ws)) ∧ Up m2 { m2 with H := upd m2.H a (.dK ws) } ∧ Ev m { m2 with H := upd m2.H a (.dK ws) } ∧ SH cl { m2 with H := upd m2.H a (.dK ws) } (S2.set n (.dic kvs)) := by
  obtain ⟨h3, r⟩ := frz_at (m0 := { m with H := upd m.H a (.frz od (.dK ws)) }) ha (show (({ m with H := upd m.H a (.frz od (.dK ws)) } : Sm).H a) = _ from upd_same) e hS2 h2
  have e1 : Ev m { m with H := upd m.H a (.frz od (.dK ws)) } := Ev.write ha h
  have ha2 := em_get e.em ha
  exact ⟨h3, hS2.upw ha2, (e1.trans e).put ha (fun q u z => by rw [h] at z; cases z), hS2.write ha2 h3 ⟨ws, upd_same, r.up (hS2.upw ha2)⟩⟩
theorem e_lck {i : Nat} {e : E} {ex : Expr} (he : PE X ex (tE P cl k X W e)) : PE X ex (tE P cl k X W (.lck i e)) :=
  PE.imp (pe_lock he) fun σ H Q ⟨m, env, S, hK, eH, hS, hV, h⟩ => by
    subst eH
    simp only [wE] at h
    obtain ⟨n, kvs, h1, h2, h3⟩ := h
    obtain ⟨v, hv, rv⟩ := hV.get h1
    cases rv with
    | @ref _ a ha =>
    obtain ⟨ws, h4, r⟩ := hS.ob n _ a h2 ha
    refine ⟨a, _, h4, trivial, fun od => ?_⟩
    obtain ⟨e1, hS1⟩ := lock_sh (od := od) hS ha h4 r
    refine tE_of (m0 := m) (m := { m with H := upd m.H a (.frz od (.dK ws)) }) hK hS1 (hV.up (e1.up hS)) e1 h3 fun m2 x S2 v e2 hS2 r2 hV2 h5 => ?_
    obtain ⟨h6, up, e3, hS3⟩ := unlock_sh ha h4 e2 hS2 h5.1
    exact ⟨h6, h5.2 _ x e3 hS3 (r2.up up)⟩
theorem e_lckA {e : E} {ex : Expr} (he : PE X ex (tE P cl k X W e)) : PE X ex (tE P cl k X W (.lckA e)) :=
  PE.imp (pe_lock he) fun σ H Q ⟨m, env, S, hK, eH, hS, hV, h⟩ => by
    subst eH
    simp only [wE] at h
    obtain ⟨n, kvs, h2, h3⟩ := h
    obtain ⟨a, ha, _⟩ := hS.at h2
    obtain ⟨ws, h4, r⟩ := hS.ob n _ a h2 ha
    refine ⟨a, _, h4, trivial, fun od => ?_⟩
    obtain ⟨e1, hS1⟩ := lock_sh (od := od) hS ha h4 r
    refine tE_of (m0 := m) (m := { m with H := upd m.H a (.frz od (.dK ws)) }) hK hS1 (hV.up (e1.up hS)) e1 h3 fun m2 x S2 v e2 hS2 r2 hV2 h5 => ?_
    obtain ⟨h6, up, e3, hS3⟩ := unlock_sh ha h4 e2 hS2 h5.1
    exact ⟨h6, h5.2 _ x e3 hS3 (r2.up up)⟩
end
end Mi

set_option maxHeartbeats 4000000
/-! MiT: list(reversed(x)). -/
namespace Mi
open PySem PySem.Spec L2 PyProof.Rows
section
variable {prog : Program} {w : World} {A : Around} {E : Value → Shared → Prop} {s : Shared} {T : String} {r : Addr} {fp : List Addr} {n : Nat} {P : Nat → Value → Prop} {St : Nat → Heap → Prop}
/-- an iterator that is its own iter -/
structure OwnW (prog : Program) (w : World) (T : String) (r : Addr) (fp : List Addr) (n : Nat) (P : Nat → Value → Prop) (St : Nat → Heap → Prop) : Prop where
  W : ∀ A : Around, A.handled = none → Walks prog w A r fp [r] n P St
  ty : ∀ s : Shared, St 0 s.heap → s.TypeIs (.ref r) T
  nl : (Value.type T == Value.type "list") = false
  nt : (Value.type T == Value.type "tuple") = false
  hint : ∀ (A : Around) (E : Value → Shared → Prop) (s : Shared) (Q : Bool → Shared → Prop), St 0 s.heap → (∀ b tk, Q b { s with toks := tk }) → wpAny (model prog w) A (Builtin.List.listLengthHint (.ref r)) Q E s
  rf : r ∈ fp
theorem own_ext {R : Result → Shared → Prop} (K : OwnW prog w T r fp n P St) (hh : A.handled = none) (hst : St 0 s.heap) (L : Addr) (hL : L ∉ fp) (res : Value) (c₀ : Nat) (h0 : s.heap.get? L = some { cls := .type "list", data := .seq #[] c₀ }) (hn : n ≤ sizeLine)
    (hR : ∀ h' tk acc c, (∀ b o, b ≠ L → b ≠ r → s.heap.get? b = some o → h'.get? b = some o) → h'.get? L = some { cls := .type "list", dict := none, data := .seq acc c, slots := #[] } → ItemsOf P acc n → R (.ok (.ret res)) { s with heap := h', toks := tk }) :
    wpAny (model prog w) A.in1 (Builtin.List.listExtendWith (.ref L) (.ref r) res)
      (fun fin s' => match fin with | .done f => R (.ok f) s' | .again c' => c'.quiet = true ∧ codeAny (model prog w) A c' R s') (fun e s' => R (.error e) s') s := by
  have hLr : L ≠ r := fun e => hL (e ▸ K.rf)
  have go : ∀ (h : Heap) (c tk0 : Nat), St 0 h → (∀ b o, b ≠ L → s.heap.get? b = some o → h.get? b = some o) →
      h.get? L = some { cls := .type "list", data := .seq #[] c } → codeAny (model prog w) A (.builtin "list.extend.loop" ⟨[.ref L, .ref r, res], []⟩) R { s with heap := h, toks := tk0 } := by
    intro h c tk0 st kp e0
    refine codeAny_extend_loopS (K.W A.in1 hh).toS hn L hL res n 0 _ #[] c rfl (Nat.zero_le _) st e0 (ItemsOf.nil _) fun z accz cz mz ez iz => ?_
    rw [Moved.eq_with mz]
    refine hR z.heap z.toks accz cz (fun b o n1 n2 e => mz.heap b o (fun hm => ?_) (kp b o n1 e)) ez iz
    rcases List.mem_cons.mp hm with x | x
    · exact n1 x
    · exact n2 (List.mem_singleton.mp x)
  unfold Builtin.List.listExtendWith
  refine wpAny_bind (wpAny_typeOf (T := T) (K.ty s hst) ?_)
  have q1 : Builtin.List.listSameRef (.ref L) (.ref r) = false := by simp [Builtin.List.listSameRef, hLr]
  simp only [q1, K.nl, K.nt, Bool.or_false, Bool.false_eq_true, if_false]
  refine wpAny_bind ((K.W A.in1 hh).self 0 _ _ _ hst ?_)
  refine wpAny_bind (wpAny_holding (K.hint _ _ _ _ hst fun b tk => ?_))
  refine wpAny_ite_split (fun _ => ?_) (fun _ => wpAny_pure ⟨plainId_quiet PySem.F.plain_extend_loop _, go s.heap c₀ tk hst (fun _ _ _ e => e) h0⟩)
  refine wpAny_bind (wpAny_rule (wpAny_bind ?_))
  show wpAny _ _ (updateSeq L (·.push .none) >>= fun _ => updateSeq L (·.pop)) _ _ _
  refine wpAny_bind (wpAny_updateSeq h0 rfl ?_)
  have u1 := Heap.get?_update_self (Obj.mapSeq (·.push Value.none)) h0 rfl
  refine wpAny_updateSeq (hz := by seq_fits) u1 rfl ?_
  have u2 := Heap.get?_update_self (Obj.mapSeq (·.pop)) u1 rfl
  have oth : ∀ b o, b ≠ L → s.heap.get? b = some o → ((s.heap.update L (Obj.mapSeq (·.push Value.none))).update L (Obj.mapSeq (·.pop))).get? b = some o :=
    fun b o hb e => (Heap.get?_update_other _ _ (Ne.symm hb)).trans ((Heap.get?_update_other _ _ (Ne.symm hb)).trans e)
  exact wpAny_pure ⟨plainId_quiet PySem.F.plain_extend_loop _, go _ _ _ ((K.W A hh).frame 0 _ _ hst fun b hb o e => oth b o (fun z => hL (z ▸ hb)) e) oth u2⟩
/-- list(it) -/
theorem call_list_self {Q : Value → Shared → Prop} (K : OwnW prog w T r fp n P St) (hh : A.handled = none) (hst : St 0 s.heap) (hfp : ∀ b ∈ fp, b < s.heap.objs.size) (hn : n ≤ sizeLine)
    (hQ : ∀ h' tk acc c, (∀ b o, b ≠ r → s.heap.get? b = some o → h'.get? b = some o) → h'.get? s.heap.objs.size = some { cls := .type "list", dict := none, data := .seq acc c, slots := #[] } → ItemsOf P acc n → Q (.ref s.heap.objs.size) { s with heap := h', toks := tk }) :
    wpAny (model prog w) A (call (.type "list") [.ref r]) Q E s := by
  have hL : s.heap.objs.size ∉ fp := fun hm => Nat.lt_irrefl _ (hfp _ hm)
  refine callType_codes (Q₁ := fun obj z => obj = .ref s.heap.objs.size ∧ z = { s with heap := s.heap.push { cls := .type "list", data := .seq #[] } }) PySem.F.called_list (PySem.F.typeCall_list_1 _) PySem.F.entry_list_init (code_list_new _ ⟨rfl, rfl⟩) fun obj z hz => ?_
  obtain ⟨rfl, rfl⟩ := hz
  have e0 : (s.heap.push { cls := .type "list", data := .seq #[] }).get? s.heap.objs.size = some { cls := .type "list", data := .seq #[] } := Heap.get?_push_size _ rfl
  have st1 : St 0 (s.heap.push { cls := .type "list", data := .seq #[] }) := (K.W A hh).frame 0 _ _ hst fun b _ o e => Heap.get?_push_of_some _ e
  refine ⟨⟨_, e0, rfl⟩, PySem.F.args_list_init_2 _ _, ?_⟩
  show wpAny _ _ (do let old ← Builtin.List.listItems (.ref s.heap.objs.size); Builtin.List.listUpdate (.ref s.heap.objs.size) (fun _ => #[]); letGo old.toList.reverse; Builtin.List.listExtendWith (.ref s.heap.objs.size) (.ref r) .none) _ _ _
  refine wpAny_bind ?_
  unfold Builtin.List.listItems
  refine wpAny_bind (wpAny_seqItems e0 rfl (wpAny_pure ?_))
  show wpAny _ _ (updateSeq s.heap.objs.size (fun _ => #[]) >>= fun _ => letGo (#[] : Array Value).toList.reverse >>= fun _ => Builtin.List.listExtendWith (.ref s.heap.objs.size) (.ref r) .none) _ _ _
  refine wpAny_bind (wpAny_updateSeq e0 rfl ?_)
  have u1 := Heap.get?_update_self (Obj.mapSeq (fun _ => (#[] : Array Value))) e0 rfl
  have oth : ∀ b o, b ≠ s.heap.objs.size → (s.heap.push { cls := .type "list", data := .seq #[] }).get? b = some o → ((s.heap.push { cls := .type "list", data := .seq #[] }).update s.heap.objs.size (Obj.mapSeq (fun _ => (#[] : Array Value)))).get? b = some o :=
    fun b o hb e => (Heap.get?_update_other _ _ (Ne.symm hb)).trans e
  refine wpAny_bind (wpAny_letGo ?_)
  refine own_ext (A := A.in1) K hh ((K.W A hh).frame 0 _ _ st1 fun b hb o e => oth b o (fun z => hL (z ▸ hb)) e) _ hL .none _ u1 hn fun h' tk acc c kp e1 iz => ?_
  exact ⟨rfl, hQ h' tk acc c (fun b o hb e => kp b o (Nat.ne_of_lt (Heap.lt_size e)) hb (oth b o (Nat.ne_of_lt (Heap.lt_size e)) (Heap.get?_push_of_some _ e))) e1 iz⟩
end
section
open RT
variable {prog : Program} {w : World}
theorem tupAt {h h' : Heap} {t : Addr} {its : Array Value} (x : IsTup h t its) (k : ∀ o, h.get? t = some o → h'.get? t = some o) : IsTup h' t its := let ⟨o, ho, hc, hd⟩ := x; ⟨o, k o ho, hc, hd⟩
theorem slot_rt_hint : Slot "reversed" "__length_hint__" "reversed.__length_hint__" :=
  .of (owner := "reversed") (n := "__length_hint__") (by rw [typeLookup_type, builtinLookup_eq_fast]; kernel_rfl) (by decide +kernel) (by decide +kernel) (by decide +kernel) (by first | exact .inl (by decide +kernel) | exact .inr (by decide +kernel)) (by rw [isSubtype_type]; kernel_rfl)
theorem entry_rt_hint : entryFor table "reversed.__length_hint__" = some Builtin.«reversed.__length_hint__» := entryFor_of_tree (by kernel_rfl)
theorem args_rt_hint (a : Value) : argsOk "reversed.__length_hint__" ⟨[a], []⟩ := by
  unfold argsOk
  rw [signature?_of (id := "reversed.__length_hint__") (n := ['_', '_', 't', 'n', 'i', 'h', '_', 'h', 't', 'g', 'n', 'e', 'l', '_', '_']) (o := ['d', 'e', 's', 'r', 'e', 'v', 'e', 'r']) (by kernel_rfl) owner_rt]
  kernel_rfl
theorem nolen_rt : typeLookup (.type "reversed") "__len__" = pure none := by rw [typeLookup_type, builtinLookup_eq_fast]; kernel_rfl
theorem hint_rt : typeLookup (.type "reversed") "__length_hint__" = pure (some (.builtin "reversed.__length_hint__")) := by rw [typeLookup_type, builtinLookup_eq_fast]; kernel_rfl
theorem ownW_rt {t r : Addr} {its : Array Value} (hne : t ≠ r) (hz : its.size ≤ sizeLine) : OwnW prog w "reversed" r [r, t] its.size (fun i v => its[its.size - 1 - i]? = some v) (fun i h => i ≤ its.size ∧ IsRt h r t ((its.size : Int) - 1 - (i : Nat)) ∧ IsTup h t its) where
  W := fun A hh => {
    sub := fun b hb => by simp at hb; simp [hb]
    frame := fun _ _ _ x hk => ⟨x.1, x.2.1.at fun o e => hk r (by simp) o e, tupAt x.2.2 fun o e => hk t (by simp) o e⟩
    item := fun i s Q E hi x hQ => by
      have e : (its.size : Int) - 1 - (i : Int) = ((its.size - 1 - i : Nat) : Int) := by omega
      have hit := x.2.1
      rw [e] at hit
      have hx : its[its.size - 1 - i]? = some (its[its.size - 1 - i]'(by omega)) := Array.getElem?_eq_getElem (by omega)
      refine next_rt_item hit x.2.2 hx hz fun h' hit' hs' => ?_
      have e2 : ((its.size - 1 - i : Nat) : Int) - 1 = (its.size : Int) - 1 - ((i + 1 : Nat) : Int) := by omega
      rw [e2] at hit'
      exact hQ _ h' _ hx ⟨hi, hit', tupAt x.2.2 fun o eo => (hs'.2 t hne).trans eo⟩ fun b o hb eo => hs'.extBut b o (fun h => hb (by simp [h])) eo
    done := fun s Q E x hQ => by
      have e : (its.size : Int) - 1 - (its.size : Int) = -1 := by omega
      have hit := x.2.1
      rw [e] at hit
      exact next_rt_end hh hit fun h' hk => hQ h' s.toks fun b o hb eo => hk b o (fun h => hb (by simp [h])) eo
    self := fun i s Q E x hQ => iter_rt x.2.1 hQ }
  ty := fun s x => x.2.1.typeIs
  nl := by decide
  nt := by decide
  hint := fun A E s Q x hQ => by
    have hT : s.TypeIs (.ref r) "reversed" := x.2.1.typeIs
    unfold Builtin.List.listLengthHint
    refine wpAny_bind (wpAny_specialOf hT nolen_rt ?_)
    show wpAny _ A (specialOf (Value.ref r) (Str.ofString "__length_hint__") >>= _) _ _ _
    refine wpAny_bind (wpAny_specialOf hT hint_rt ?_)
    generalize hid : ("reversed.__length_hint__" : String) = id0
    wp_delta
    rw [show splitId id0 = some ("reversed", "__length_hint__") from by subst hid; decide +kernel]
    subst hid
    refine wpAny_bind (wpAny_isInstance (b := true) hT (by rw [isSubtype_type]; kernel_rfl) ?_)
    rw [if_neg (by decide)]
    dsimp only
    rw [if_neg (by decide +kernel)]
    refine wpAny_bind (wpAny_rule ?_)
    rw [slot_rt_hint.bind]
    refine wpAny_bind (wpAny_pure ?_)
    dsimp only
    obtain ⟨o, ho, hc, hd⟩ := id x.2.1
    have hln : its.size < 2 ^ 63 := by rw [sizeLine_eq] at hz; omega
    refine wpAny_bind (wpAny_attempt (wpAny_call_entry slot_rt_hint hT entry_rt_hint ?_ (args_rt_hint _)))
    unfold Builtin.«reversed.__length_hint__»
    refine wpAny_bind (wpAny_of_eq (a := Value.ref r) rfl ?_)
    refine wpAny_bind (wpAny_field ho hd (x := .ref t) rfl ?_)
    rw [if_neg (by simp)]
    dsimp only
    refine wpAny_bind (len_tuple x.2.2 (by omega) ?_)
    refine wpAny_bind (wpAny_of_eq (a := some ((its.size : Nat) : Int)) rfl ?_)
    dsimp only
    refine wpAny_bind (wpAny_field ho hd (x := rawInt (((its.size : Nat) : Int) - 1 - ((0 : Nat) : Int))) rfl ?_)
    show wpAny _ _ (if ((its.size : Nat) : Int) < (((its.size : Nat) : Int) - 1 - ((0 : Nat) : Int)) + 1 then _ else _) _ _ _
    rw [if_neg (by omega)]
    unfold retInt
    refine wpAny_bind (wpAny_mkInt (wpAny_pure ⟨_, rfl, ?_⟩))
    dsimp only
    refine wpAny_bind (wpAny_of_eq (a := some (((its.size : Nat) : Int) - 1 - ((0 : Nat) : Int) + 1)) rfl ?_)
    dsimp only
    have f1 : Builtin.List.listFitsIndex (((its.size : Nat) : Int) - 1 - ((0 : Nat) : Int) + 1) = true := by
      unfold Builtin.List.listFitsIndex
      rw [Bool.and_eq_true, decide_eq_true_eq, decide_eq_true_eq]
      omega
    have f2 : Builtin.List.listTooLong (((its.size : Nat) : Int) - 1 - ((0 : Nat) : Int) + 1).toNat = false := by
      unfold Builtin.List.listTooLong
      rw [decide_eq_false]
      omega
    rw [if_neg (by rw [f1]; decide), if_neg (by omega), if_neg (by rw [f2]; decide)]
    exact wpAny_pure (hQ _ _)
  rf := by simp
end
section
variable {X : Cx}
/-- list(reversed(x)), x a tuple: a new list -/
def tLstRev (K : PySem.W.Frag) (te : TE) : TE := fun σ H Q => te σ H fun v H1 => ∃ (a : Addr) (xs : List V), v = .ref a ∧ SqT K H1 a xs ∧ ∀ q, H1 q = none → Q (.ref q) (upd H1 q (.lst xs.reverse))
theorem pe_lstRev {e : Expr} {te : TE} {p p2 pos pos2 : Pos} (hc : X.calm = true) (hg : Gl X "list") (hm : X.mg "list" = none) (hg2 : Gl X "reversed") (hm2 : X.mg "reversed" = none) (he : PE X e te) (hs : starEach [e] X.env = (false, eval e X.env) :: starEach [] X.env) :
    PE X (.Call (.Name "list" p) [.Call (.Name "reversed" p2) [e] [] pos2] [] pos) (tLstRev X.K te) := by
  have hs2 : starEach [.Call (.Name "reversed" p2) [e] [] pos2] X.env = (false, eval (.Call (.Name "reversed" p2) [e] [] pos2) X.env) :: starEach [] X.env := by rfl
  refine ⟨fun pins s σ H Q I h => ?_⟩
  refine Call_ (ld_blt I hg hm boot_list (PyProof.Rows.callWith_type1 (args_cons (Call_ (ld_blt I hg2 hm2 PyProof.Rows.boot_reversed (PyProof.Rows.callWith_type1 (args_cons (thn (he.run pins s σ H _ I h) fun u z ⟨v, H1, I1, r1, q1⟩ => args_nil ?_) hs) hs rfl))) hs2) hs2 rfl))
  obtain ⟨a, xs, ev, hq, q⟩ := q1
  subst ev
  obtain rfl : u = Value.ref a := r1
  obtain ⟨its, rv, p', hz⟩ := I1.tuple hq
  have hsz : its.toArray.size ≤ sizeLine := by rw [List.size_toArray, ← rv.length]; exact hz
  have hn63 := line63
  have hlen := rv.length
  refine RT.call_reversed_tup p' (fun A E Q k => len_tuple p' (by simp only [List.size_toArray] <;> omega) k) (args_nil ?_)
  have k0 : ∀ b o, z.heap.get? b = some o → (z.heap.push (RT.rtObj a ((its.toArray.size : Int) - 1))).get? b = some o := fun b o e => Heap.get?_push_of_some _ e
  obtain ⟨ot, hot, _⟩ := id p'
  have hlt : a < z.heap.objs.size := Heap.lt_size hot
  have e1 : ((its.toArray.size : Nat) : Int) - 1 = (its.toArray.size : Int) - 1 - ((0 : Nat) : Int) := by omega
  have hps : (z.heap.push (RT.rtObj a ((its.toArray.size : Int) - 1))).objs.size = z.heap.objs.size + 1 := Heap.size_push ..
  refine call_list_self (s := { z with heap := z.heap.push (RT.rtObj a ((its.toArray.size : Int) - 1)), toks := z.toks + 1 + 1 }) (ownW_rt (t := a) (r := z.heap.objs.size) (Nat.ne_of_lt hlt) hsz) (I1.ok.hd hc) ⟨Nat.zero_le _, by rw [← e1]; exact ⟨_, Heap.get?_push_size _ rfl, rfl, rfl⟩, tupAt p' fun o e => k0 _ _ e⟩ (fun b hb => ?_) hsz fun h' tk acc c kp eL hi => ?_
  · show b < (z.heap.push _).objs.size
    rw [hps]
    rcases List.mem_cons.mp hb with x | x
    · rw [x]; exact Nat.lt_succ_self _
    · rw [List.mem_singleton.mp x]; exact Nat.lt_succ_of_lt hlt
  · have hkeep : ∀ b o, z.heap.get? b = some o → h'.get? b = some o := fun b o e => kp b o (Nat.ne_of_lt (Heap.lt_size e)) (k0 b o e)
    refine ⟨.ref (z.heap.push (RT.rtObj a ((its.toArray.size : Int) - 1))).objs.size, upd H1 (z.heap.push (RT.rtObj a ((its.toArray.size : Int) - 1))).objs.size (.lst xs.reverse), I1.laid (t' := tk) hkeep (by rw [hps]; exact Nat.le_succ _) (show ObjOk X.prog X.w _ _ _ (.lst xs.reverse) from ⟨by rw [List.length_reverse]; exact hz, acc.toList, c, RT.vals_rev rv hi, ?_⟩), rfl, q _ (I1.hok.fresh (by rw [hps]; exact Nat.le_succ _))⟩
    rw [Array.toArray_toList]
    exact eL
end
section
variable {P : Pg} {cl : Cl} {k : Nat} {X : Cx} {W : WX} {o : Ko} {a : E} {ea : Expr} {pos pos2 p p2 : Pos}
theorem e_listRev (xo : XO P cl X k o W) (hc : (!o.hot) = true) (hg : Gl X (Str.ofString "list")) (hg2 : Gl X (Str.ofString "reversed")) (hs : notStar ea = true) (ha : PE X ea (tE P cl k X W a)) :
    PE X (.Call (.Name (Str.ofString "list") p) [.Call (.Name (Str.ofString "reversed") p2) [ea] [] pos2] [] pos) (tE P cl k X W (.vi .listRev (.cons a .nil))) :=
  PE.imp (PE.kf (pe_lstRev (xo.calm hc) hg (xo.ln.bi "list" (by decide)) hg2 (xo.ln.bi "reversed" (by decide)) ha (star_cons hs))) fun σ H Q ⟨m, env, S, hK, eH, hS, hV, h⟩ => by
    subst eH
    simp only [wE, wEs] at h
    refine tE_of hK hS hV (Ev.refl m) h fun m1 x S1 v e1 hS1 r1 hV1 h1 => ?_
    cases r1 with
    | @tup q xs ds hq rs =>
      rw [e1.k, hK] at hq
      exact ⟨q, xs, rfl, hq, fun p hp kf => mk_lst hS1 rs.rev hp (by rw [e1.k, hK]; exact kf) (liftQ.ev e1 (fun _ _ _ q => q) h1)⟩
    | _ => exact h1.elim
theorem e_tupRev (xo : XO P cl X k o W) (hc : (!o.hot) = true) (hg : Gl X (Str.ofString "tuple")) (hg2 : Gl X (Str.ofString "reversed")) (hs : notStar ea = true) (ha : PE X ea (tE P cl k X W a)) :
    PE X (.Call (.Name (Str.ofString "tuple") p) [.Call (.Name (Str.ofString "reversed") p2) [ea] [] pos2] [] pos) (tE P cl k X W (.vi .tupRev (.cons a .nil))) :=
  PE.imp (PE.kf (RT.pe_tupRev (xo.calm hc) hg (xo.ln.bi "tuple" (by decide)) hg2 (xo.ln.bi "reversed" (by decide)) ha (star_cons hs))) fun σ H Q ⟨m, env, S, hK, eH, hS, hV, h⟩ => by
    subst eH
    simp only [wE, wEs] at h
    refine tE_of hK hS hV (Ev.refl m) h fun m1 x S1 v e1 hS1 r1 hV1 h1 => ?_
    cases r1 with
    | @ref n q hq =>
      obtain ⟨xs, hb, h1⟩ := h1
      obtain ⟨vs, h2, h3⟩ := hS1.lst hb hq
      rw [e1.k, hK] at h2
      exact ⟨q, vs, rfl, h2, fun p hp kf => mk_tup hS1 h3.rev hp (by rw [e1.k, hK]; exact kf) (liftQ.ev e1 (fun _ _ _ q => q) h1)⟩
    | _ => exact h1.elim
end
end Mi

set_option maxHeartbeats 4000000
namespace Mi
open PySem PySem.Spec L2 PyProof.Rows
/-! ### the text and the small text: checked -/
def nmEq (s : String) (x : Str) : Bool := Str.ofString s == x
theorem nm_of {s : String} {x : Str} (h : nmEq s x = true) : x = Str.ofString s := (beq_iff_eq.mp h).symm
def visB (sc : Scope) (x : Str) : Bool := match sc.names.lookup x with
  | some .local => true
  | some .cell => true
  | some .free => true
  | _ => false
theorem vis_of {sc : Scope} {x : Str} (h : visB sc x = true) : Vis sc x := by
  unfold visB at h
  split at h <;> first | exact .inl (by assumption) | exact .inr (.inl (by assumption)) | exact .inr (.inr (by assumption)) | cases h
def locB (sc : Scope) (x : Str) : Bool := match sc.names.lookup x with
  | some .local => true
  | some .cell => true
  | _ => false
theorem loc_of {sc : Scope} {x : Str} (h : locB sc x = true) : Loc sc x := by
  unfold locB at h
  split at h <;> first | exact .inl (by assumption) | exact .inr (by assumption) | cases h
def glB (sc : Scope) (x : Str) : Bool := decide (sc.names.lookup x = some .globalImplicit)
def sumSc (sc : Scope) (x : Str) : Bool := decide (sc.kind = .function) && (sc.names.all fun y => decide (y.2 ≠ .free) && decide (y.2 ≠ .cell) && (!decide (y.2 = .local) || decide (sc.names.lookup y.1 = some .local))) && decide (sc.names.lookup x = some .local) && decide (sc.names.lookup (Str.ofString "int") = some .globalImplicit)
theorem sumSc_of {sc : Scope} {x : Str} (h : sumSc sc x = true) : SumSc sc x := by
  simp only [sumSc, Bool.and_eq_true, decide_eq_true_eq, List.all_eq_true, Bool.or_eq_true, Bool.not_eq_true', decide_eq_false_iff_not] at h
  obtain ⟨⟨⟨h1, h2⟩, h3⟩, h4⟩ := h
  exact ⟨h1, fun y hy => (h2 y hy).1.1, fun y hy => (h2 y hy).1.2, fun y hy e => (h2 y hy).2.resolve_left fun z => z e, h3, h4⟩
def ndb (x : Str) : Bool := !(x == ("__debug__" : Str))
def ncd (x : Str) : Bool := !(x == ("__classdict__" : Str))
theorem ndb_of {x : Str} (h : ndb x = true) : (x == ("__debug__" : Str)) = false := by simpa [ndb] using h
theorem ncd_of {x : Str} (h : ncd x = true) : (x == ("__classdict__" : Str)) = false := by simpa [ncd] using h
def litB : Lit → Const → Bool
  | .non, .none => true
  | .bl b, .bool c => b == c
  | .int i, .int j => i == j
  | .str s, .str x => nmEq s x
  | _, _ => false
def nmB (o : Ko) (i : Nat) (e : Expr) : Bool := match e with
  | .Name x _ => decide (o.N[i]? = some x) && locB o.sc x && (o.cf x || decide (o.sc.names.lookup x = some .local))
  | _ => false
def nmsB (o : Ko) : List Nat → List Expr → Bool
  | [], [] => true
  | i :: is, e :: es => nmB o i e && nmsB o is es
  | _, _ => false
def tgB (o : Ko) : Tg → Expr → Bool
  | .nm i, e => nmB o i e
  | .tp is, e => match e with
    | .Tuple es _ _ => nmsB o is es
    | _ => false
def isTup : Expr → Bool
  | .Tuple .. => true
  | _ => false
def notSet : Expr → Bool
  | .Set .. => false
  | _ => true
def isCmp : Expr → Bool
  | .Compare .. => true
  | _ => false
def isBool : Expr → Bool
  | .BoolOp .. => true
  | _ => false
def tyB (P : Pg) (o : Ko) (t : Ty) (e : Expr) : Bool := match e with
  | .Name x _ => nmEq (tyS t) x && glB o.sc x && (match t with | .cls c => P.cls.contains c && ndb x | .exc c sb => decide (sb = P.excs.filter (P.sub · c)) && (decide (c = "ValueError") || ((P.excs.contains c || P.exts.contains c) && ndb x)) | _ => true)
  | _ => false
def tysB (P : Pg) (o : Ko) : List Ty → List Expr → Bool
  | [], [] => true
  | t :: ts, e :: es => tyB P o t e && tysB P o ts es
  | _, _ => false
def dOk (d : Option FDef) (n : Nat) : Bool := match d with
  | some d => decide (n ≤ d.params)
  | none => false
def dOk1 (d : Option FDef) (n : Nat) : Bool := match d with
  | some d => decide (n = d.params) && d.dflt.isEmpty
  | none => false
theorem dOk1_of {d : Option FDef} {n : Nat} (h : dOk1 d n = true) : ∃ d', d = some d' ∧ n = d'.params ∧ d'.dflt = [] := by
  cases d with
  | none => cases h
  | some d =>
    simp only [dOk1, Bool.and_eq_true, decide_eq_true_eq, List.isEmpty_iff] at h
    exact ⟨d, rfl, h.1, h.2⟩
theorem dOk_of {d : Option FDef} {n : Nat} (h : dOk d n = true) : ∃ d', d = some d' ∧ n ≤ d'.params := by
  cases d with
  | none => cases h
  | some d => exact ⟨d, rfl, of_decide_eq_true h⟩
def lcKo (o : Ko) (scope : Scope) : Ko := ⟨o.N, relS scope o.sc, fun x => scope.names.lookup x == some .cell, false, o.hf⟩
section
variable (P : Pg)
mutual
def chkE : Ko → E → Expr → Bool
  | o, .loc i, e => match e with
    | .Name x _ => decide (o.N[i]? = some x) && visB o.sc x && ndb x && ncd x
    | _ => false
  | o, .lit c, e => match e with
    | .Constant v _ _ => litB c v
    | _ => false
  | o, .con y, e => match e with
    | .Name x _ => nmEq y x && glB o.sc x && ndb x && (P.con y).isSome
    | _ => false
  | o, .bin op a b, e => match e with
    | .BinOp l op' r _ => decide (op = op') && chkE o a l && chkE o b r
    | _ => false
  | o, .neg a, e => match e with
    | .UnaryOp .USub x _ => chkE o a x
    | _ => false
  | o, .cmp op a b, e => match e with
    | .Compare l [op'] [r] _ => decide (op = op') && !behindInMarks op r && chkE o a l && chkE o b r
    | _ => false
  | o, .cmp2 op op2 a b c, e => match e with
    | .Compare l [op', op2'] [r, r2] _ => decide (op = op') && decide (op2 = op2') && !lastMarks [op, op2] [r, r2] && chkE o a l && chkE o b r && chkE o c r2
    | _ => false
  | o, .isN a, e => match e with
    | .Compare l [.Is] [.Constant .none _ _] _ => chkE o a l
    | _ => false
  | o, .notN a, e => match e with
    | .Compare l [.IsNot] [.Constant .none _ _] _ => chkE o a l
    | _ => false
  | o, .isB a b, e => match e with
    | .Compare l [.Is] [.Constant (.bool c) _ _] _ => (b == c) && chkE o a l
    | _ => false
  | o, .not a, e => match e with
    | .UnaryOp .Not x _ => chkE o a x
    | .Compare l [.IsNot] [.Constant (.bool c) _ _] _ => (match a with
      | .isB a' b => (b == c) && chkE o a' l
      | _ => false)
    | _ => false
  | o, .and a b, e => match e with
    | .BoolOp .And [x, y] pos => chkE o a x && chkE o b y
    | .BoolOp .And (x :: y :: z :: rest) pos => chkE o a x && chkE o b (.BoolOp .And (y :: z :: rest) pos)
    | _ => false
  | o, .or a b, e => match e with
    | .BoolOp .Or [x, y] pos => chkE o a x && chkE o b y
    | .BoolOp .Or (x :: y :: z :: rest) pos => chkE o a x && chkE o b (.BoolOp .Or (y :: z :: rest) pos)
    | _ => false
  | o, .ite c a b, e => match e with
    | .IfExp t x y _ => chkT o c t && chkE o a x && chkE o b y
    | _ => false
  | o, .tup es, e => match e with
    | .Tuple xs _ _ => chkEs o es xs
    | _ => false
  | o, .lst es, e => match e with
    | .List xs _ => chkEs o es xs
    | _ => false
  | o, .dic ps, e => match e with
    | .Dict ks vs _ => decide (ks.length ≤ 15) && chkPs o ps ks vs
    | _ => false
  | o, .call f es, e => match e with
    | .Call (.Name x _) xs [] _ => (if o.hot = true then o.hf.contains f && !xs.isEmpty && dOk1 (P.fn (.f f)) es.len else !(P.isHot (.f f))) && (nmEq f x && glB o.sc x && ndb x && dOk (P.fn (.f f)) es.len && xs.all notStar && chkEs o es xs)
    | _ => false
  | o, .make c es, e => match e with
    | .Call (.Name x _) xs [] _ => !o.hot && (nmEq c x && glB o.sc x && ndb x && P.cls.contains c && dOk (P.fn (.m c "__init__")) (es.len + 1) && xs.all notStar && chkEs o es xs)
    | _ => false
  | o, .meth c m a es, e => match e with
    | .Call (.Attribute eo x apos) xs [] pos => !o.hot && (nmEq m x && dOk (P.fn (.m c m)) (es.len + 1) && !(m == "__init__") && plainBase eo && (apos.endLine == pos.line) && decide (xs.length < 29) && xs.all notStar && chkE o a eo && chkEs o es xs)
    | _ => false
  | o, .fld a f, e => match e with
    | .Attribute eo x _ => nmEq f x && P.flds.contains f && plainBase eo && chkE o a eo
    | _ => false
  | o, .sub a i, e => match e with
    | .Subscript eo ei _ => plainIx ei && chkE o a eo && chkE o i ei
    | _ => false
  | o, .slice a lo hi, e => match e with
    | .Subscript eo (.Slice l h none _) _ => chkE o a eo && chkOe o lo l && chkOe o hi h
    | _ => false
  | o, .bi f es, e => match e with
    | .Call (.Name x _) (y :: ys) [] _ => !o.hot && (nmEq (biN f) x && glB o.sc x && (y :: ys).all notStar && chkEs o es (y :: ys))
    | _ => false
  | o, .vi f es, e => match es with
    | .nil => (match e with
      | .Call _ _ _ _ => !decide (f = .kdic)
      | .Dict [] [] _ => decide (f = .kdic)
      | _ => false)
    | .cons a .nil => (match f with
      | .listRev => (match e with
        | .Call (.Name x _) [.Call (.Name y _) [ea] [] _] [] _ => !o.hot && (nmEq "list" x && nmEq "reversed" y && glB o.sc x && glB o.sc y && notStar ea && chkE o a ea)
        | _ => false)
      | .tupRev => (match e with
        | .Call (.Name x _) [.Call (.Name y _) [ea] [] _] [] _ => !o.hot && (nmEq "tuple" x && nmEq "reversed" y && glB o.sc x && glB o.sc y && notStar ea && chkE o a ea)
        | _ => false)
      | .dictL => (match e with
        | .Call (.Name x _) [ea] [] _ => !o.hot && (nmEq "dict" x && glB o.sc x && notStar ea && chkE o a ea)
        | _ => false)
      | .dictP => (match e with
        | .Call (.Name x _) [ea] [] _ => !o.hot && (nmEq "dict" x && glB o.sc x && notStar ea && chkE o a ea)
        | _ => false)
      | .sumInts => (match e with
        | .Call (.Name x _) [.ListComp (.Call (.Name y _) [.Name v _] [] _) [⟨.Name v2 _, ea, [], ia⟩] scope _] [] _ => o.hot && (nmEq "sum" x && nmEq "int" y && decide (v = v2) && (ia == 0) && glB o.sc x && ndb v && sumSc scope v && notSet ea && chkE o a ea)
        | _ => false)
      | .listItems => (match e with
        | .Call (.Name x _) [.Call (.Attribute ea y apos) [] [] cpos] [] _ => !o.hot && (nmEq "list" x && nmEq "items" y && plainBase ea && (apos.endLine == cpos.line) && glB o.sc x && chkE o a ea)
        | _ => false)
      | _ => false)
    | .cons a (.cons b .nil) => (match f with
      | .kin => (match e with
        | .Compare ea [.In] [eb] _ => !behindInMarks .In eb && chkE o a ea && chkE o b eb
        | _ => false)
      | .knin => (match e with
        | .Compare ea [.NotIn] [eb] _ => !behindInMarks .NotIn eb && chkE o a ea && chkE o b eb
        | _ => false)
      | .listZip => (match e with
        | .Call (.Name x _) [.Call (.Name y _) [ea, eb] [] _] [] _ => !o.hot && (nmEq "list" x && nmEq "zip" y && glB o.sc x && glB o.sc y && notStar ea && notStar eb && chkE o a ea && chkE o b eb)
        | _ => false)
      | .dictZ => (match e with
        | .Call (.Name x _) [.Call (.Name y _) [ea, eb] [] _] [] _ => !o.hot && (nmEq "dict" x && nmEq "zip" y && glB o.sc x && glB o.sc y && notStar ea && notStar eb && chkE o a ea && chkE o b eb)
        | _ => false)
      | _ => false)
    | _ => false
  | o, .bm m a es, e => match e with
    | .Call (.Attribute eo x apos) [] [] pos => (!decide (m = .update) || !o.hot) && nmEq (bmI m).2.1 x && plainBase eo && (apos.endLine == pos.line) && chkE o a eo && chkEs o es []
    | .Call (.Attribute eo x apos) (y :: ys) [] pos => (!decide (m = .update) || !o.hot) && nmEq (bmI m).2.1 x && plainBase eo && (apos.endLine == pos.line) && (y :: ys).all notStar && decide ((y :: ys).length < 29) && chkE o a eo && chkEs o es (y :: ys)
    | _ => false
  | o, .isi a ts, e => match e with
    | .Call (.Name x _) [ea, .Tuple es _ _] [] _ => nmEq "isinstance" x && glB o.sc x && !ts.isEmpty && decide (ts.length ≤ 60) && notStar ea && tysB P o ts es && chkE o a ea
    | .Call (.Name x _) [ea, et] [] _ => (match ts with
      | [t] => nmEq "isinstance" x && glB o.sc x && notStar ea && notStar et && tyB P o t et && chkE o a ea
      | _ => false)
    | _ => false
  | o, .lc elt tgt src cond own, e => match e with
    | .ListComp eelt [⟨tg, iter, ifs, ia⟩] scope pos => !o.hot && ((ia == 0) && notSet iter && blkC o.N o.sc scope (own.map fun p => (Str.ofString p.1, p.2)) && (tgt.slots.all fun i => (own.map (·.2)).contains i) && chkSrc o src tg iter && tgB (lcKo o scope) tgt tg && chkOt (lcKo o scope) cond ifs && chkE (lcKo o scope) elt eelt)
    | _ => false
  | o, .lck _ a, e => !isCmp e && chkE o a e
  | o, .lckA a, e => !isCmp e && chkE o a e
def chkT : Ko → T → Expr → Bool
  | o, .v a, e => (plainTest e || isCmp e) && chkE o a e
  | o, .not t, e => match e with
    | .UnaryOp .Not x _ => chkT o t x
    | _ => false
  | o, .and a b, e => match e with
    | .BoolOp .And [x, y] pos => chkT o a x && chkT o b y
    | .BoolOp .And (x :: y :: z :: rest) pos => chkT o a x && chkT o b (.BoolOp .And (y :: z :: rest) pos)
    | _ => false
  | o, .or a b, e => match e with
    | .BoolOp .Or [x, y] pos => chkT o a x && chkT o b y
    | .BoolOp .Or (x :: y :: z :: rest) pos => chkT o a x && chkT o b (.BoolOp .Or (y :: z :: rest) pos)
    | _ => false
def chkEs : Ko → Es → List Expr → Bool
  | o, .nil, xs => match xs with
    | [] => true
    | _ => false
  | o, .cons a es, xs => match xs with
    | x :: xs => notStar x && chkE o a x && chkEs o es xs
    | _ => false
def chkPs : Ko → Ps → List (Option Expr) → List Expr → Bool
  | o, .nil, ks, vs => match ks, vs with
    | [], [] => true
    | _, _ => false
  | o, .cons a b ps, ks, vs => match ks, vs with
    | some x :: ks, y :: vs => chkE o a x && chkE o b y && chkPs o ps ks vs
    | _, _ => false
def chkOe : Ko → Oe → Option Expr → Bool
  | o, .none, e => match e with
    | none => true
    | _ => false
  | o, .some a, e => match e with
    | some x => chkE o a x
    | none => false
def chkOt : Ko → Ot → List Expr → Bool
  | o, .none, xs => match xs with
    | [] => true
    | _ => false
  | o, .some t, xs => match xs with
    | [x] => chkT o t x
    | _ => false
def chkSrc : Ko → Src → Expr → Expr → Bool
  | o, .seq a, tg, e => chkE o a e
  | o, .rng1 a, tg, e => match e with
    | .Call (.Name x _) [ea] [] _ => nmEq "range" x && glB o.sc x && notStar ea && chkE o a ea
    | _ => false
  | o, .rng2 a b, tg, e => match e with
    | .Call (.Name x _) [ea, eb] [] _ => nmEq "range" x && glB o.sc x && notStar ea && notStar eb && chkE o a ea && chkE o b eb
    | _ => false
  | o, .enum a, tg, e => match e with
    | .Call (.Name x _) [ea] [] _ => nmEq "enumerate" x && isTup tg && glB o.sc x && notStar ea && chkE o a ea
    | _ => false
  | o, .zip a b, tg, e => match e with
    | .Call (.Name x _) [ea, eb] [] _ => nmEq "zip" x && isTup tg && glB o.sc x && notStar ea && notStar eb && chkE o a ea && chkE o b eb
    | _ => false
  | o, .rev a, tg, e => match e with
    | .Call (.Name x _) [ea] [] _ => nmEq "reversed" x && glB o.sc x && notStar ea && chkE o a ea
    | _ => false
  | _, .rng3 _ _ _, _, _ => false
  | o, .items a, tg, e => match e with
    | .Call (.Attribute eo x apos) [] [] pos => nmEq "items" x && isTup tg && plainBase eo && (apos.endLine == pos.line) && chkE o a eo
    | _ => false
  | o, .values a, tg, e => match e with
    | .Call (.Attribute eo x apos) [] [] pos => nmEq "values" x && plainBase eo && (apos.endLine == pos.line) && chkE o a eo
    | _ => false
  | o, .keys a, tg, e => chkE o a e
end
end
section
variable {P : Pg} {cl : Cl} {k : Nat} {X : Cx} {W : WX} {o : Ko}
theorem gl_of (xo : XO P cl X k o W) {x : Str} (h : glB o.sc x = true) : Gl X x := by
  show X.env.scope.names.lookup x = _
  rw [xo.sc]
  exact of_decide_eq_true h
theorem nmB_of (xo : XO P cl X k o W) {i : Nat} {e : Expr} (h : nmB o i e = true) : NmOk X i e := by
  unfold nmB at h
  split at h
  · simp only [Bool.and_eq_true, Bool.or_eq_true, decide_eq_true_eq] at h
    refine ⟨_, _, rfl, by rw [xo.nn]; exact h.1.1, by rw [xo.sc]; exact loc_of h.1.2, ?_⟩
    rcases h.2 with h | h
    · exact .inl (xo.fnc _ h)
    · exact .inr (by rw [xo.sc]; exact h)
  · cases h
theorem nmsB_of (xo : XO P cl X k o W) : ∀ {is : List Nat} {es : List Expr}, nmsB o is es = true → NmsOk X is es
  | [], [], _ => .nil
  | i :: is, e :: es, h => by
    simp only [nmsB, Bool.and_eq_true] at h
    exact .cons (nmB_of xo h.1) (nmsB_of xo h.2)
  | [], _ :: _, h => by cases h
  | _ :: _, [], h => by cases h
theorem tgB_of (xo : XO P cl X k o W) {t : Tg} {e : Expr} (h : tgB o t e = true) : TgOk X t e := by
  cases t with
  | nm i => exact .nm (nmB_of xo h)
  | tp is =>
    simp only [tgB] at h
    split at h
    · exact .tp (nmsB_of xo h)
    · cases h
theorem tyB_of (xo : XO P cl X k o W) {t : Ty} {e : Expr} (h : tyB P o t e = true) : notStar e = true ∧ ∃ c u, TyN P X cl t e c u := by
  unfold tyB at h
  split at h
  · simp only [Bool.and_eq_true] at h
    obtain ⟨⟨h1, h2⟩, h3⟩ := h
    have := nm_of h1
    subst this
    refine ⟨rfl, tyN_of xo (gl_of xo h2) (fun c e => ?_) fun c sb e => ?_⟩
    · subst e
      simp only [Bool.and_eq_true] at h3
      exact ⟨xo.ln.has c (by simpa using h3.1), ndb_of h3.2⟩
    · subst e
      simp only [Bool.and_eq_true, Bool.or_eq_true, decide_eq_true_eq] at h3
      refine ⟨h3.1, h3.2.imp id fun h => ⟨by simpa using h.1, ndb_of h.2⟩⟩
  · cases h
theorem tysB_of (xo : XO P cl X k o W) : ∀ {ts : List Ty} {es : List Expr}, tysB P o ts es = true → ∃ cs us, TyNs P X cl ts es cs us
  | [], [], _ => ⟨_, _, .nil⟩
  | t :: ts, e :: es, h => by
    simp only [tysB, Bool.and_eq_true] at h
    obtain ⟨hs, c, u, h1⟩ := tyB_of xo h.1
    obtain ⟨cs, us, h2⟩ := tysB_of xo h.2
    exact ⟨_, _, .cons h1 hs h2⟩
  | [], _ :: _, h => by cases h
  | _ :: _, [], h => by cases h
theorem es_nil {es : Es} {xs : List Expr} (h : chkEs P o es xs = true) : xs = [] → es = .nil := by
  intro e
  subst e
  cases es with
  | nil => rfl
  | cons a es => simp [chkEs] at h
theorem XO.lc (xo : XO P cl X k o W) (hc : (!o.hot) = true) (σ : L2.St) (scope : Scope) (s : Shared) (H : Hp) (C : Addr) (c : List (Str × Addr)) (fp : List Addr) : XO P cl (Cx.blkE X W σ s H scope (compEnvC scope c C X.env) fp) k (lcKo o scope) (atS W σ) where
  ln := xo.ln
  nd := xo.nd
  nn := xo.nn
  sc := by
    show relS scope X.env.scope = relS scope o.sc
    rw [xo.sc]
  fnc := fun x h => h
  isi := xo.isi
  lx := xo.lx
  calm := fun _ => xo.calm hc
  room := fun _ => xo.room hc
  un := xo.un
  zc := fun _ => xo.zc hc
  rmh := fun h => nomatch h
  zx := fun h => nomatch h
  hots := xo.hots
  tk := blkE_tk
  fr := blkE_fr xo.fr rfl
  fns := fun _ => xo.fns hc
  hw := xo.hw
theorem XO.u65 (xo : XO P cl X k o W) : X.A.units + 65 < cLine := by have := xo.un; omega
theorem XO.u1 (xo : XO P cl X k o W) : X.A.units + 1 < cLine := by have := xo.un; omega
theorem lit_of {c : Lit} {v : Const} {j : Nat} {pos : Pos} (h : litB c v = true) : PE X (.Constant v j pos) (tC (litV c)) := by
  cases c <;> cases v <;> first | cases h | skip
  · exact pe_non
  · have := (beq_iff_eq.mp h); subst this; exact pe_bl
  · have := (beq_iff_eq.mp h); subst this; exact pe_int
  · have := nm_of h; subst this; exact pe_str
theorem ps_len : ∀ (ps : Ps) {ks : List (Option Expr)} {vs : List Expr}, chkPs P o ps ks vs = true → ks.all (·.isSome) = true ∧ ks.length = vs.length ∧ ps.len = ks.length
  | .nil, ks, vs, h => by
    cases ks <;> cases vs <;> simp [chkPs] at h
    exact ⟨rfl, rfl, rfl⟩
  | .cons a b ps, ks, vs, h => by
    simp only [chkPs] at h
    split at h
    · simp only [Bool.and_eq_true] at h
      obtain ⟨h1, h2, h3⟩ := ps_len ps h.2
      exact ⟨by simp [h1], by simp [h2], by simp [Ps.len, h3]⟩
    · cases h
mutual
theorem chkE_ok : ∀ (e : E) {o : Ko} {x : Expr}, chkE P o e x = true → ∀ {X : Cx} {k : Nat} {W : WX}, XO P cl X k o W → PE X x (tE P cl k X W e) ∧ (isCmp x = true → PT X x (tTs P cl k X W (.v e)))
  | .loc i, o, x, h, X, k, W, xo => by
    simp only [chkE] at h
    split at h
    · simp only [Bool.and_eq_true, decide_eq_true_eq] at h
      obtain ⟨⟨⟨h1, h2⟩, h3⟩, h4⟩ := h
      exact ⟨e_loc (by rw [xo.nn]; exact h1) (by rw [xo.sc]; exact vis_of h2) (ndb_of h3) (ncd_of h4), fun h => nomatch h⟩
    · cases h
  | .lit c, o, x, h, X, k, W, xo => by
    simp only [chkE] at h
    split at h
    · exact ⟨e_lit (lit_of h), fun h => nomatch h⟩
    · cases h
  | .con y, o, x, h, X, k, W, xo => by
    simp only [chkE] at h
    split at h
    · simp only [Bool.and_eq_true] at h
      obtain ⟨⟨⟨h1, h2⟩, h3⟩, h4⟩ := h
      have := nm_of h1
      subst this
      obtain ⟨v, hv⟩ := Option.isSome_iff_exists.mp h4
      exact ⟨e_con xo.ln (gl_of xo h2) hv (ndb_of h3), fun h => nomatch h⟩
    · cases h
  | .bin op a b, o, x, h, X, k, W, xo => by
    simp only [chkE] at h
    split at h
    · simp only [Bool.and_eq_true, decide_eq_true_eq] at h
      obtain ⟨⟨rfl, h1⟩, h2⟩ := h
      exact ⟨e_bin (chkE_ok a h1 xo).1 (chkE_ok b h2 xo).1, fun h => nomatch h⟩
    · cases h
  | .neg a, o, x, h, X, k, W, xo => by
    simp only [chkE] at h
    split at h
    · exact ⟨e_neg (chkE_ok a h xo).1, fun h => nomatch h⟩
    · cases h
  | .cmp op a b, o, x, h, X, k, W, xo => by
    simp only [chkE] at h
    split at h
    · simp only [Bool.and_eq_true, decide_eq_true_eq, Bool.not_eq_true'] at h
      obtain ⟨⟨⟨rfl, h0⟩, h1⟩, h2⟩ := h
      exact ⟨e_cmp xo.u65 h0 (chkE_ok a h1 xo).1 (chkE_ok b h2 xo).1, fun _ => t_cmp xo.u65 h0 (chkE_ok a h1 xo).1 (chkE_ok b h2 xo).1⟩
    · cases h
  | .cmp2 op op2 a b c, o, x, h, X, k, W, xo => by
    simp only [chkE] at h
    split at h
    · simp only [Bool.and_eq_true, decide_eq_true_eq, Bool.not_eq_true'] at h
      obtain ⟨⟨⟨⟨⟨rfl, rfl⟩, h0⟩, h1⟩, h2⟩, h3⟩ := h
      exact ⟨e_cmp2 xo.u65 h0 (chkE_ok a h1 xo).1 (chkE_ok b h2 xo).1 (chkE_ok c h3 xo).1, fun _ => t_cmp2 xo.u65 h0 (chkE_ok a h1 xo).1 (chkE_ok b h2 xo).1 (chkE_ok c h3 xo).1⟩
    · cases h
  | .isN a, o, x, h, X, k, W, xo => by
    simp only [chkE] at h
    split at h
    · exact ⟨e_isN (chkE_ok a h xo).1, fun _ => t_isN (chkE_ok a h xo).1⟩
    · cases h
  | .notN a, o, x, h, X, k, W, xo => by
    simp only [chkE] at h
    split at h
    · exact ⟨e_notN (chkE_ok a h xo).1, fun _ => t_notN (chkE_ok a h xo).1⟩
    · cases h
  | .isB a b, o, x, h, X, k, W, xo => by
    simp only [chkE] at h
    split at h
    · simp only [Bool.and_eq_true, beq_iff_eq] at h
      obtain ⟨rfl, h⟩ := h
      exact ⟨e_isB (chkE_ok a h xo).1, fun _ => t_isB (chkE_ok a h xo).1⟩
    · cases h
  | .not a, o, x, h, X, k, W, xo => by
    unfold chkE at h
    split at h
    · exact ⟨e_not (chkE_ok a h xo).1, fun h => nomatch h⟩
    · split at h
      · rename_i a' b
        simp only [Bool.and_eq_true, beq_iff_eq] at h
        obtain ⟨rfl, h⟩ := h
        exact ⟨e_isnB (chkE_ok a' h xo).1, fun _ => t_isnB (chkE_ok a' h xo).1⟩
      · cases h
    · cases h
  | .and a b, o, x, h, X, k, W, xo => by
    simp only [chkE] at h
    split at h
    · simp only [Bool.and_eq_true] at h
      exact ⟨e_and (chkE_ok a h.1 xo).1 (pe_one (chkE_ok b h.2 xo).1), fun h => nomatch h⟩
    · simp only [Bool.and_eq_true] at h
      exact ⟨e_and (chkE_ok a h.1 xo).1 (chkE_ok b h.2 xo).1, fun h => nomatch h⟩
    · cases h
  | .or a b, o, x, h, X, k, W, xo => by
    simp only [chkE] at h
    split at h
    · simp only [Bool.and_eq_true] at h
      exact ⟨e_or (chkE_ok a h.1 xo).1 (pe_one (chkE_ok b h.2 xo).1), fun h => nomatch h⟩
    · simp only [Bool.and_eq_true] at h
      exact ⟨e_or (chkE_ok a h.1 xo).1 (chkE_ok b h.2 xo).1, fun h => nomatch h⟩
    · cases h
  | .ite c a b, o, x, h, X, k, W, xo => by
    simp only [chkE] at h
    split at h
    · simp only [Bool.and_eq_true] at h
      exact ⟨e_ite (chkT_ok c h.1.1 xo).1 (chkE_ok a h.1.2 xo).1 (chkE_ok b h.2 xo).1, fun h => nomatch h⟩
    · cases h
  | .tup es, o, x, h, X, k, W, xo => by
    simp only [chkE] at h
    split at h
    · exact ⟨e_tup (chkEs_ok es h xo), fun h => nomatch h⟩
    · cases h
  | .lst es, o, x, h, X, k, W, xo => by
    simp only [chkE] at h
    split at h
    · exact ⟨e_lst (chkEs_ok es h xo), fun h => nomatch h⟩
    · cases h
  | .dic ps, o, x, h, X, k, W, xo => by
    simp only [chkE] at h
    split at h
    · rename_i ks vs pos
      simp only [Bool.and_eq_true, decide_eq_true_eq] at h
      refine ⟨?_, fun h => nomatch h⟩
      cases ps with
      | nil =>
        have := h.2
        cases ks <;> cases vs <;> simp [chkPs] at this
        exact e_dic0
      | cons a b ps =>
        obtain ⟨h1, h2, h3⟩ := ps_len _ h.2
        refine e_dic (chkPs_ok (.cons a b ps) h.2 xo) h1 h2 (fun e => ?_) h.1 (by rw [h3]; exact h.1)
        subst e
        simp [Ps.len] at h3
    · cases h
  | .call f es, o, x, h, X, k, W, xo => by
    simp only [chkE] at h
    split at h
    · simp only [Bool.and_eq_true] at h
      obtain ⟨h00, ⟨⟨⟨⟨⟨h1, h2⟩, h3⟩, h4⟩, h5⟩, h6⟩⟩ := h
      have := nm_of h1
      subst this
      obtain ⟨d, hd, hn⟩ := dOk_of h4
      by_cases hot : o.hot = true
      · rw [if_pos hot] at h00
        simp only [Bool.and_eq_true] at h00
        obtain ⟨d', hd', hn', hd0⟩ := dOk1_of h00.2
        exact ⟨e_callH xo hot (by simpa using h00.1.1) (gl_of xo h2) (ndb_of h3) hd' hn' hd0 h5 (by intro e; subst e; simp at h00) (chkEs_ok es h6 xo), fun h => nomatch h⟩
      rw [if_neg hot] at h00
      have hcold : (!o.hot) = true := by simpa using hot
      have hnh : P.isHot (.f f) = false := by simpa using h00
      exact ⟨e_call xo hcold hnh (gl_of xo h2) (ndb_of h3) hd hn h5 (es_nil h6) (chkEs_ok es h6 xo), fun h => nomatch h⟩
    · cases h
  | .make c es, o, x, h, X, k, W, xo => by
    simp only [chkE] at h
    split at h
    · simp only [Bool.and_eq_true] at h
      obtain ⟨h00, ⟨⟨⟨⟨⟨⟨h1, h2⟩, h3⟩, h0⟩, h4⟩, h5⟩, h6⟩⟩ := h
      have := nm_of h1
      subst this
      obtain ⟨d, hd, hn⟩ := dOk_of h4
      obtain ⟨C, hC⟩ := xo.ln.has c (by simpa using h0)
      exact ⟨e_make xo h00 (gl_of xo h2) (ndb_of h3) hd hC hn h5 (es_nil h6) (chkEs_ok es h6 xo), fun h => nomatch h⟩
    · cases h
  | .meth c m a es, o, x, h, X, k, W, xo => by
    simp only [chkE] at h
    split at h
    · simp only [Bool.and_eq_true, decide_eq_true_eq, Bool.not_eq_true'] at h
      obtain ⟨h00, ⟨⟨⟨⟨⟨⟨⟨⟨h1, h2⟩, h3⟩, h4⟩, h5⟩, h6⟩, h7⟩, h8⟩, h9⟩⟩ := h
      have := nm_of h1
      subst this
      obtain ⟨d, hd, hn⟩ := dOk_of h2
      exact ⟨e_meth xo (by rw [h00]; rfl) hd h3 hn h4 h5 h6 h7 (es_nil h9) (chkE_ok a h8 xo).1 (chkEs_ok es h9 xo), fun h => nomatch h⟩
    · cases h
  | .fld a f, o, x, h, X, k, W, xo => by
    simp only [chkE] at h
    split at h
    · simp only [Bool.and_eq_true] at h
      obtain ⟨⟨⟨h1, h2⟩, h3⟩, h4⟩ := h
      have := nm_of h1
      subst this
      exact ⟨e_fld xo (by simpa using h2) h3 (chkE_ok a h4 xo).1, fun h => nomatch h⟩
    · cases h
  | .sub a i, o, x, h, X, k, W, xo => by
    simp only [chkE] at h
    split at h
    · simp only [Bool.and_eq_true] at h
      obtain ⟨⟨h1, h2⟩, h3⟩ := h
      exact ⟨e_sub xo.u1 h1 (chkE_ok a h2 xo).1 (chkE_ok i h3 xo).1, fun h => nomatch h⟩
    · cases h
  | .slice a lo hi, o, x, h, X, k, W, xo => by
    simp only [chkE] at h
    split at h
    · simp only [Bool.and_eq_true] at h
      obtain ⟨⟨h1, h2⟩, h3⟩ := h
      exact ⟨e_slice (chkE_ok a h1 xo).1 (chkOe_ok lo h2 xo) (chkOe_ok hi h3 xo), fun h => nomatch h⟩
    · cases h
  | .bi f es, o, x, h, X, k, W, xo => by
    simp only [chkE] at h
    split at h
    · simp only [Bool.and_eq_true] at h
      obtain ⟨h00, ⟨⟨⟨h1, h2⟩, h3⟩, h4⟩⟩ := h
      have := nm_of h1
      subst this
      exact ⟨e_bi xo h00 (gl_of xo h2) h3 (chkEs_ok es h4 xo), fun h => nomatch h⟩
    · cases h
  | .vi f es, o, x, h, X, k, W, xo => by
    unfold chkE at h
    split at h
    · split at h
      · refine ⟨⟨fun pins s σ H Q I z => ?_⟩, fun z => nomatch z⟩
        obtain ⟨m, env, S, _, _, _, _, z⟩ := z
        simp only [wE, wEs] at z
        cases f <;> first | exact z.elim | simp at h
      · have := of_decide_eq_true h
        subst this
        exact ⟨e_kdic xo, fun z => nomatch z⟩
      · cases h
    · rename_i a
      cases f with
      | listRev =>
        dsimp only at h
        split at h
        · simp only [Bool.and_eq_true] at h
          obtain ⟨h00, ⟨⟨⟨⟨⟨h1, h2⟩, h3⟩, h4⟩, h5⟩, h6⟩⟩ := h
          have := nm_of h1
          subst this
          have := nm_of h2
          subst this
          exact ⟨e_listRev xo h00 (gl_of xo h3) (gl_of xo h4) h5 (chkE_ok a h6 xo).1, fun h => nomatch h⟩
        · cases h
      | tupRev =>
        dsimp only at h
        split at h
        · simp only [Bool.and_eq_true] at h
          obtain ⟨h00, ⟨⟨⟨⟨⟨h1, h2⟩, h3⟩, h4⟩, h5⟩, h6⟩⟩ := h
          have := nm_of h1
          subst this
          have := nm_of h2
          subst this
          exact ⟨e_tupRev xo h00 (gl_of xo h3) (gl_of xo h4) h5 (chkE_ok a h6 xo).1, fun h => nomatch h⟩
        · cases h
      | dictL =>
        dsimp only at h
        split at h
        · simp only [Bool.and_eq_true] at h
          obtain ⟨h00, ⟨⟨⟨h1, h2⟩, h3⟩, h4⟩⟩ := h
          have := nm_of h1
          subst this
          exact ⟨e_dictL xo h00 (gl_of xo h2) h3 (chkE_ok a h4 xo).1, fun h => nomatch h⟩
        · cases h
      | dictP =>
        dsimp only at h
        split at h
        · simp only [Bool.and_eq_true] at h
          obtain ⟨h00, ⟨⟨⟨h1, h2⟩, h3⟩, h4⟩⟩ := h
          have := nm_of h1
          subst this
          exact ⟨e_dictP xo h00 (gl_of xo h2) h3 (chkE_ok a h4 xo).1, fun h => nomatch h⟩
        · cases h
      | sumInts =>
        dsimp only at h
        split at h
        · simp only [Bool.and_eq_true, decide_eq_true_eq, beq_iff_eq] at h
          obtain ⟨h00, ⟨⟨⟨⟨⟨⟨⟨⟨h1, h2⟩, h3⟩, h4⟩, h5⟩, h6⟩, h7⟩, h8⟩, h9⟩⟩ := h
          have := nm_of h1
          subst this
          have := nm_of h2
          subst this
          subst h3
          subst h4
          exact ⟨e_sumInts xo h00 (gl_of xo h5) (sumSc_of h7) (ndb_of h6) (chkE_ok a h9 xo).1 (folded_of (by revert h8; unfold notSet; split <;> simp)), fun h => nomatch h⟩
        · cases h
      | listItems =>
        dsimp only at h
        split at h
        · simp only [Bool.and_eq_true] at h
          obtain ⟨h00, ⟨⟨⟨⟨⟨h1, h2⟩, h3⟩, h4⟩, h5⟩, h6⟩⟩ := h
          have := nm_of h1
          subst this
          have := nm_of h2
          subst this
          exact ⟨e_listItems xo h00 (gl_of xo h5) h3 h4 (chkE_ok a h6 xo).1, fun h => nomatch h⟩
        · cases h
      | _ => cases h
    · rename_i a b
      cases f with
      | kin =>
        dsimp only at h
        split at h
        · simp only [Bool.and_eq_true] at h
          obtain ⟨⟨h1, h2⟩, h3⟩ := h
          simp only [Bool.not_eq_true'] at h1
          exact ⟨e_kin xo h1 (chkE_ok a h2 xo).1 (chkE_ok b h3 xo).1, fun _ => t_kin xo h1 (chkE_ok a h2 xo).1 (chkE_ok b h3 xo).1⟩
        · cases h
      | knin =>
        dsimp only at h
        split at h
        · simp only [Bool.and_eq_true] at h
          obtain ⟨⟨h1, h2⟩, h3⟩ := h
          simp only [Bool.not_eq_true'] at h1
          exact ⟨e_knin xo h1 (chkE_ok a h2 xo).1 (chkE_ok b h3 xo).1, fun _ => t_knin xo h1 (chkE_ok a h2 xo).1 (chkE_ok b h3 xo).1⟩
        · cases h
      | listZip =>
        dsimp only at h
        split at h
        · simp only [Bool.and_eq_true] at h
          obtain ⟨h00, ⟨⟨⟨⟨⟨⟨⟨h1, h2⟩, h3⟩, h4⟩, h5⟩, h6⟩, h7⟩, h8⟩⟩ := h
          have := nm_of h1
          subst this
          have := nm_of h2
          subst this
          exact ⟨e_listZip xo h00 (gl_of xo h3) (gl_of xo h4) h5 h6 (chkE_ok a h7 xo).1 (chkE_ok b h8 xo).1, fun h => nomatch h⟩
        · cases h
      | dictZ =>
        dsimp only at h
        split at h
        · simp only [Bool.and_eq_true] at h
          obtain ⟨h00, ⟨⟨⟨⟨⟨⟨⟨h1, h2⟩, h3⟩, h4⟩, h5⟩, h6⟩, h7⟩, h8⟩⟩ := h
          have := nm_of h1
          subst this
          have := nm_of h2
          subst this
          exact ⟨e_dictZ xo h00 (gl_of xo h3) (gl_of xo h4) h5 h6 (chkE_ok a h7 xo).1 (chkE_ok b h8 xo).1, fun h => nomatch h⟩
        · cases h
      | _ => cases h
    · cases h
  | .bm m a es, o, x, h, X, k, W, xo => by
    simp only [chkE] at h
    split at h
    · simp only [Bool.and_eq_true] at h
      obtain ⟨⟨⟨⟨⟨h0, h1⟩, h2⟩, h3⟩, h4⟩, h5⟩ := h
      have := nm_of h1
      subst this
      have := es_nil h5 rfl
      subst this
      exact ⟨e_bm0 (fun e => xo.calm (by subst e; simpa using h0)) xo h2 h3 (chkE_ok a h4 xo).1, fun h => nomatch h⟩
    · simp only [Bool.and_eq_true, decide_eq_true_eq] at h
      obtain ⟨⟨⟨⟨⟨⟨⟨h0, h1⟩, h2⟩, h3⟩, h4⟩, h5⟩, h6⟩, h7⟩ := h
      have := nm_of h1
      subst this
      exact ⟨e_bm (fun e => xo.calm (by subst e; simpa using h0)) xo h2 h3 h4 h5 (chkE_ok a h6 xo).1 (chkEs_ok es h7 xo), fun h => nomatch h⟩
    · cases h
  | .isi a ts, o, x, h, X, k, W, xo => by
    simp only [chkE] at h
    split at h
    · simp only [Bool.and_eq_true, decide_eq_true_eq, Bool.not_eq_true'] at h
      obtain ⟨⟨⟨⟨⟨⟨h1, h2⟩, h3⟩, h4⟩, h5⟩, h6⟩, h7⟩ := h
      have := nm_of h1
      subst this
      obtain ⟨cs, us, hT⟩ := tysB_of xo h6
      exact ⟨e_isiT xo (gl_of xo h2) hT (fun e => by subst e; cases h3) (by rw [sizeLine_eq]; omega) h5 (chkE_ok a h7 xo).1, fun h => nomatch h⟩
    · split at h
      · simp only [Bool.and_eq_true] at h
        obtain ⟨⟨⟨⟨⟨h1, h2⟩, h3⟩, h4⟩, h5⟩, h6⟩ := h
        have := nm_of h1
        subst this
        obtain ⟨_, c, u, hT⟩ := tyB_of xo h5
        exact ⟨e_isi1 xo (gl_of xo h2) hT h3 h4 (chkE_ok a h6 xo).1, fun h => nomatch h⟩
      · cases h
    · cases h
  | .lc elt tgt src cond own, o, x, h, X, k, W, xo => by
    simp only [chkE] at h
    split at h
    · rename_i eelt tg iter ifs ia scope pos
      simp only [Bool.and_eq_true, beq_iff_eq] at h
      obtain ⟨h00, ⟨⟨⟨⟨⟨⟨⟨rfl, h1⟩, h2⟩, h3⟩, h4⟩, h5⟩, h6⟩, h7⟩⟩ := h
      refine ⟨e_lc xo h00 (chkSrc_ok src h4 xo) (folded_of (by cases iter <;> first | rfl | cases h1)) ⟨?_, ?_, fun σ s H C c fp => ?_, fun σ s H C c fp => ?_, fun σ s H C c fp => ?_⟩, fun h => nomatch h⟩
      · rw [xo.nn, xo.sc]
        exact blkOk_by h2
      · intro i hi
        rw [List.all_eq_true] at h3
        simpa using h3 i hi
      · exact tgB_of (xo.lc h00 σ scope s H C c fp) h5
      · exact chkOt_ok cond h6 (xo.lc h00 σ scope s H C c fp)
      · exact (chkE_ok elt h7 (xo.lc h00 σ scope s H C c fp)).1
    · cases h
  | .lck i a, o, x, h, X, k, W, xo => by
    simp only [chkE, Bool.and_eq_true, Bool.not_eq_true'] at h
    exact ⟨e_lck (chkE_ok a h.2 xo).1, fun hc => by rw [h.1] at hc; cases hc⟩
  | .lckA a, o, x, h, X, k, W, xo => by
    simp only [chkE, Bool.and_eq_true, Bool.not_eq_true'] at h
    exact ⟨e_lckA (chkE_ok a h.2 xo).1, fun hc => by rw [h.1] at hc; cases hc⟩
theorem chkT_ok : ∀ (t : T) {o : Ko} {x : Expr}, chkT P o t x = true → ∀ {X : Cx} {k : Nat} {W : WX}, XO P cl X k o W → PT X x (tTs P cl k X W t) ∧ (isBool x = true → PW X x (tTs P cl k X W t))
  | .v a, o, x, h, X, k, W, xo => by
    simp only [chkT, Bool.and_eq_true, Bool.or_eq_true] at h
    obtain ⟨h1 | h1, h2⟩ := h
    · refine ⟨t_val (chkE_ok a h2 xo).1 h1, fun h => ?_⟩
      cases x <;> first | exact (Bool.false_ne_true h).elim | exact (Bool.false_ne_true h1).elim
    · refine ⟨(chkE_ok a h2 xo).2 h1, fun h => ?_⟩
      cases x <;> first | exact (Bool.false_ne_true h).elim | exact (Bool.false_ne_true h1).elim
  | .not t, o, x, h, X, k, W, xo => by
    simp only [chkT] at h
    split at h
    · exact ⟨t_not (chkT_ok t h xo).1, fun h => nomatch h⟩
    · cases h
  | .and a b, o, x, h, X, k, W, xo => by
    simp only [chkT] at h
    split at h
    · simp only [Bool.and_eq_true] at h
      have := t_and (pos := ‹Pos›) (chkT_ok a h.1 xo).1 (t_and1 (chkT_ok b h.2 xo).1)
      exact ⟨this.pt, fun _ => this⟩
    · simp only [Bool.and_eq_true] at h
      have := t_and (chkT_ok a h.1 xo).1 ((chkT_ok b h.2 xo).2 rfl)
      exact ⟨this.pt, fun _ => this⟩
    · cases h
  | .or a b, o, x, h, X, k, W, xo => by
    simp only [chkT] at h
    split at h
    · simp only [Bool.and_eq_true] at h
      have := t_or (pos := ‹Pos›) (chkT_ok a h.1 xo).1 (t_or1 (chkT_ok b h.2 xo).1)
      exact ⟨this.pt, fun _ => this⟩
    · simp only [Bool.and_eq_true] at h
      have := t_or (chkT_ok a h.1 xo).1 ((chkT_ok b h.2 xo).2 rfl)
      exact ⟨this.pt, fun _ => this⟩
    · cases h
theorem chkEs_ok : ∀ (es : Es) {o : Ko} {xs : List Expr}, chkEs P o es xs = true → ∀ {X : Cx} {k : Nat} {W : WX}, XO P cl X k o W → PA X xs (tEs P cl k X W es)
  | .nil, o, xs, h, X, k, W, xo => by
    simp only [chkEs] at h
    split at h
    · exact a_nil
    · cases h
  | .cons a es, o, xs, h, X, k, W, xo => by
    simp only [chkEs] at h
    split at h
    · simp only [Bool.and_eq_true] at h
      exact a_cons (chkE_ok a h.1.2 xo).1 h.1.1 (chkEs_ok es h.2 xo)
    · cases h
theorem chkPs_ok : ∀ (ps : Ps) {o : Ko} {ks : List (Option Expr)} {vs : List Expr} {pos : Pos}, chkPs P o ps ks vs = true → ∀ {X : Cx} {k : Nat} {W : WX}, XO P cl X k o W → PPs X pos ks vs (tPs P cl k X W ps)
  | .nil, o, ks, vs, pos, h, X, k, W, xo => by
    simp only [chkPs] at h
    split at h
    · exact pps_nil
    · cases h
  | .cons a b ps, o, ks, vs, pos, h, X, k, W, xo => by
    simp only [chkPs] at h
    split at h
    · simp only [Bool.and_eq_true] at h
      exact pps_cons (chkE_ok a h.1.1 xo).1 (chkE_ok b h.1.2 xo).1 (chkPs_ok ps h.2 xo)
    · cases h
theorem chkOe_ok : ∀ (e : Oe) {o : Ko} {x : Option Expr}, chkOe P o e x = true → ∀ {X : Cx} {k : Nat} {W : WX}, XO P cl X k o W → PO X x (tOs P cl k X W e)
  | .none, o, x, h, X, k, W, xo => by
    cases x with
    | none => exact o_none
    | some x => simp [chkOe] at h
  | .some a, o, x, h, X, k, W, xo => by
    cases x with
    | none => simp [chkOe] at h
    | some x =>
      simp only [chkOe] at h
      exact o_some (chkE_ok a h xo).1
theorem chkOt_ok : ∀ (e : Ot) {o : Ko} {x : List Expr}, chkOt P o e x = true → ∀ {X : Cx} {k : Nat} {W : WX}, XO P cl X k o W → PTs X x (tCs P cl k X W e)
  | .none, o, x, h, X, k, W, xo => by
    simp only [chkOt] at h
    split at h
    · exact c_none
    · cases h
  | .some a, o, x, h, X, k, W, xo => by
    simp only [chkOt] at h
    split at h
    · exact c_some (chkT_ok a h xo).1
    · cases h
theorem chkSrc_ok : ∀ (src : Src) {o : Ko} {tg e : Expr}, chkSrc P o src tg e = true → ∀ {X : Cx} {k : Nat} {W : WX}, XO P cl X k o W → PI X tg e (tSrc P cl k X W src)
  | .seq a, o, tg, e, h, X, k, W, xo => by
    simp only [chkSrc] at h
    exact s_seq (chkE_ok a h xo).1
  | .rng1 a, o, tg, e, h, X, k, W, xo => by
    simp only [chkSrc] at h
    split at h
    · simp only [Bool.and_eq_true] at h
      obtain ⟨⟨⟨h1, h2⟩, h3⟩, h4⟩ := h
      have := nm_of h1
      subst this
      exact s_rng1 xo (gl_of xo h2) h3 (chkE_ok a h4 xo).1
    · cases h
  | .rng2 a b, o, tg, e, h, X, k, W, xo => by
    simp only [chkSrc] at h
    split at h
    · simp only [Bool.and_eq_true] at h
      obtain ⟨⟨⟨⟨⟨h1, h2⟩, h3⟩, h3'⟩, h4⟩, h5⟩ := h
      have := nm_of h1
      subst this
      exact s_rng2 xo (gl_of xo h2) h3 h3' (chkE_ok a h4 xo).1 (chkE_ok b h5 xo).1
    · cases h
  | .enum a, o, tg, e, h, X, k, W, xo => by
    simp only [chkSrc] at h
    split at h
    · simp only [Bool.and_eq_true] at h
      obtain ⟨⟨⟨⟨h1, h0⟩, h2⟩, h3⟩, h4⟩ := h
      have := nm_of h1
      subst this
      cases tg <;> first | exact s_enum xo (gl_of xo h2) h3 (chkE_ok a h4 xo).1 | cases h0
    · cases h
  | .zip a b, o, tg, e, h, X, k, W, xo => by
    simp only [chkSrc] at h
    split at h
    · simp only [Bool.and_eq_true] at h
      obtain ⟨⟨⟨⟨⟨⟨h1, h0⟩, h2⟩, h3⟩, h3'⟩, h4⟩, h5⟩ := h
      have := nm_of h1
      subst this
      cases tg <;> first | exact s_zip xo (gl_of xo h2) h3 h3' (chkE_ok a h4 xo).1 (chkE_ok b h5 xo).1 | cases h0
    · cases h
  | .rev a, o, tg, e, h, X, k, W, xo => by
    simp only [chkSrc] at h
    split at h
    · simp only [Bool.and_eq_true] at h
      obtain ⟨⟨⟨h1, h2⟩, h3⟩, h4⟩ := h
      have := nm_of h1
      subst this
      exact s_rev xo (gl_of xo h2) h3 (chkE_ok a h4 xo).1
    · cases h
  | .rng3 _ _ _, o, tg, e, h, X, k, W, xo => by simp [chkSrc] at h
  | .items a, o, tg, e, h, X, k, W, xo => by
    simp only [chkSrc] at h
    split at h
    · simp only [Bool.and_eq_true] at h
      obtain ⟨⟨⟨⟨h1, h0⟩, h2⟩, h3⟩, h4⟩ := h
      have := nm_of h1
      subst this
      cases tg <;> first | exact s_items (chkE_ok a h4 xo).1 (base_of h2) h3 | cases h0
    · cases h
  | .values a, o, tg, e, h, X, k, W, xo => by
    simp only [chkSrc] at h
    split at h
    · simp only [Bool.and_eq_true] at h
      obtain ⟨⟨⟨h1, h2⟩, h3⟩, h4⟩ := h
      have := nm_of h1
      subst this
      exact s_vals (chkE_ok a h4 xo).1 (base_of h2) h3
    · cases h
  | .keys a, o, tg, e, h, X, k, W, xo => s_keys (chkE_ok a (by simpa only [chkSrc] using h) xo).1
end
end
end Mi

set_option maxHeartbeats 4000000
namespace Mi
open PySem PySem.Spec L2 PyProof.Rows
/-! ### statements -/
section
variable (cl : Cl) (mg : Str → Option Value) (m : Sm)
def liftXS (W : WX) : XS := fun c env S' => ∀ m' σ' C, Ev m m' → SH cl m' S' → SV m' env σ' → mg (Str.ofString c) = some (.ref C) → W (.ref C) none σ' m'.H
def liftE (Q : L2.St → Hp → Prop) : Env → Hm → Prop := fun env S' => ∀ m' σ', Ev m m' → SH cl m' S' → SV m' env σ' → Q σ' m'.H
def liftD (D : Ends) : Mi.Sp := { nx := liftE cl m D.nx, rt := liftQ cl m D.rt, ct := liftE cl m D.ct }
end
section
variable (P : Pg) (cl : Cl) (k : Nat) (X : Cx) (W : WX)
def tSt (s : Mi.St) : TS := fun D σ H => ∃ m env S, m.K = X.K ∧ m.H = H ∧ SH cl m S ∧ SV m env σ ∧ wS P.con P.sub (callW P k) s (liftXS cl X.mg m W) (liftD cl m D) env S
def tSts (s : Sts) : TS := fun D σ H => ∃ m env S, m.K = X.K ∧ m.H = H ∧ SH cl m S ∧ SV m env σ ∧ wSs P.con P.sub (callW P k) s (liftXS cl X.mg m W) (liftD cl m D) env S
end
section
variable {P : Pg} {cl : Cl} {k : Nat} {X : Cx} {W : WX} {o : Ko} {m m0 m1 : Sm} {env : Env} {S : Hm} {σ : L2.St} {D : Ends}
theorem liftXS.ev {mg : Str → Option Value} (e : Ev m m1) {c : String} {env : Env} {S : Hm} (h : liftXS cl mg m W c env S) : liftXS cl mg m1 W c env S :=
  fun m' σ' C e' hS hV hC => h m' σ' C (e.trans e') hS hV hC
theorem liftE.ev {Q : L2.St → Hp → Prop} (e : Ev m m1) {env : Env} {S : Hm} (h : liftE cl m Q env S) : liftE cl m1 Q env S := fun m' σ' e' hS hV => h m' σ' (e.trans e') hS hV
theorem liftD.ev (e : Ev m m1) : Sp.Le (liftD cl m D) (liftD cl m1 D) := ⟨fun _ _ h => liftE.ev e h, fun _ _ h => liftQ.ev e (fun _ _ _ q => q) h, fun _ _ h => liftE.ev e h⟩
theorem lx (e0 : Ev m0 m) (hS : SH cl m S) (hV : SV m env σ) {c : String} {S1 : Hm} (h1 : liftXS cl X.mg m0 W c env S1) : liftX cl X.mg m (fun c d H => W c d σ H) c S1 := fun m' C e1 hS1 hC => h1 m' σ C (e0.trans e1) hS1 (hV.up (e1.up hS)) hC
theorem sE_of {e : E} {Q1 : Post} {R : VK} (hK : m.K = X.K) (hS : SH cl m S) (hV : SV m env σ) (e0 : Ev m0 m) (h : wE P.con (callW P k) (fun c S' => liftXS cl X.mg m0 W c env S') e env S Q1)
    (hq : ∀ m1 x S1 v, Ev m m1 → SH cl m1 S1 → RD m1 v x → SV m1 env σ → Q1 v S1 → R x m1.H) : tE P cl k X W e σ m.H R :=
  tE_of (m0 := m) hK hS hV (Ev.refl m) (wE_mono (callW_mono P k) (fun c S1 h1 => lx e0 hS hV h1) e (fun _ _ h => h) h) hq
theorem sEs_of {e : Es} {Q1 : List Val → Hm → Prop} {R : List V → Hp → Prop} (hK : m.K = X.K) (hS : SH cl m S) (hV : SV m env σ) (e0 : Ev m0 m) (h : wEs P.con (callW P k) (fun c S' => liftXS cl X.mg m0 W c env S') e env S Q1)
    (hq : ∀ m1 x S1 v, Ev m m1 → SH cl m1 S1 → RDs m1 v x → SV m1 env σ → Q1 v S1 → R x m1.H) : tEs P cl k X W e σ m.H R :=
  tEs_of (m0 := m) hK hS hV (Ev.refl m) (wEs_mono (callW_mono P k) (fun c S1 h1 => lx e0 hS hV h1) e (fun _ _ h => h) h) hq
theorem sT_of {e : T} {Q1 : Bool → Hm → Prop} {R : Bool → Hp → Prop} (hK : m.K = X.K) (hS : SH cl m S) (hV : SV m env σ) (e0 : Ev m0 m) (h : wT P.con (callW P k) (fun c S' => liftXS cl X.mg m0 W c env S') e env S Q1)
    (hq : ∀ m1 S1 b, Ev m m1 → SH cl m1 S1 → SV m1 env σ → Q1 b S1 → R b m1.H) : tTs P cl k X W e σ m.H R :=
  tTs_of (m0 := m) hK hS hV (Ev.refl m) (wT_mono (callW_mono P k) (fun c S1 h1 => lx e0 hS hV h1) e (fun _ _ h => h) h) hq
theorem sSrc_of {src : Src} {Q1 : List Val → (Hm → Prop) → Hm → Prop} {R : It → Hp → Prop} (hK : m.K = X.K) (hS : SH cl m S) (hV : SV m env σ) (e0 : Ev m0 m) (h : wSrc P.con (callW P k) (fun c S' => liftXS cl X.mg m0 W c env S') src env S Q1)
    (hq : ∀ m1 J S1 items g, Ev m m1 → SH cl m1 S1 → ItOk cl m1 J items g → SV m1 env σ → Q1 items g S1 → R J m1.H) : tSrc P cl k X W src σ m.H R :=
  tSrc_of (m0 := m) hK hS hV (Ev.refl m) (wSrc_mono (callW_mono P k) (fun c S1 h1 => lx e0 hS hV h1) src (fun _ _ _ h => h) h) hq
theorem PS.imp {st : Stmt} {t t' : TS} (h : PS X st t) (f : ∀ D σ H, t' D σ H → t D σ H) : PS X st t' := ⟨fun pins s σ H D I hw => h.run pins s σ H D I (f _ _ _ hw)⟩
theorem PSs.imp {st : List Stmt} {t t' : TS} (h : PSs X st t) (f : ∀ D σ H, t' D σ H → t D σ H) : PSs X st t' := ⟨fun pins s σ H D I hw => h.run pins s σ H D I (f _ _ _ hw)⟩
/-- .. with the written part in mind -/
theorem PS.kf {st : Stmt} {t : TS} (h : PS X st t) : PS X st (fun D σ H => t { D with nx := fun σ' H' => KF X.K H' → D.nx σ' H' } σ H) := ⟨fun pins s σ H D I hw => thn (h.run pins s σ H _ I hw) fun f s1 q => by
  cases f with
  | next => obtain ⟨σ', H', I', q⟩ := q; exact ⟨σ', H', I', q (kfree I')⟩
  | ret v => exact q
  | brk => exact q
  | cont => exact q⟩

/-- a statement's context -/
structure XSt (P : Pg) (cl : Cl) (X : Cx) (k : Nat) (o : Ko) (W : WX) : Prop where
  xo : XO P cl X k o W
  po : (!o.hot) = true → PassesOwn (model X.prog X.w) X.A X.env X.xe
  tks : L2N.Takes X W
  stk : X.stack = X.env :: X.outer
  frm : X.env.frame = some X.env.locals
  fk : o.sc.kind = .function
variable {e a c : E} {ex : Expr} {pos p' : Pos} {st : Stmt} {rest : List Stmt} {s : Mi.St} {ss : Sts}
theorem ss_nil : PSs X [] (tSts P cl k X W .nil) :=
  PSs.imp pss_nil fun D σ H ⟨m, env, S, hK, eH, hS, hV, h⟩ => by
    subst eH
    simp only [wSs] at h
    exact h m σ (Ev.refl m) hS hV
theorem ss_cons (h1 : PS X st (tSt P cl k X W s)) (h2 : PSs X rest (tSts P cl k X W ss)) : PSs X (st :: rest) (tSts P cl k X W (.cons s ss)) :=
  PSs.imp (pss_cons h1 h2) fun D σ H ⟨m, env, S, hK, eH, hS, hV, h⟩ => by
    subst eH
    simp only [wSs] at h
    refine ⟨m, env, S, hK, rfl, hS, hV, wS_mono (callW_mono P k) s (D := { nx := fun env' S' => wSs P.con P.sub (callW P k) ss (liftXS cl X.mg m W) (liftD cl m D) env' S', rt := (liftD cl m D).rt, ct := (liftD cl m D).ct }) (D' := liftD cl m { D with nx := tSts P cl k X W ss D }) (fun _ _ _ h => h) ⟨fun env' S' h1 m' σ' e' hS' hV' => ?_, fun _ _ h => h, fun _ _ h => h⟩ h⟩
    exact ⟨m', env', S', e'.k.trans hK, rfl, hS', hV', wSs_mono (callW_mono P k) ss (fun _ _ _ h => liftXS.ev e' h) (liftD.ev e') h1⟩
theorem s_set {i : Nat} {x : Str} (xo : XO P cl X k o W) (hn : NmOk X i (.Name x p')) (hs : swapsWith ex (some (.Name x p')) pos.line X.env = pure false) (he : PE X ex (tE P cl k X W e)) : PS X (.Assign [.Name x p'] ex pos) (tSt P cl k X W (.set i e)) := by
  obtain ⟨x', pos', h0, h1, h2, h3⟩ := hn.ok
  cases h0
  refine PS.imp (ps_set xo.nd h1 h2 he hs h3) fun D σ H ⟨m, env, S, hK, eH, hS, hV, h⟩ => ?_
  subst eH
  simp only [wS] at h
  exact sE_of hK hS hV (Ev.refl m) h fun m1 x S1 v e1 hS1 r1 hV1 h1 => h1 m1 _ e1 hS1 (hV1.set r1)
variable {elt : E} {tgt : Tg} {src : Src} {cond : Ot} {own : List (String × Nat)} {eelt tg iter : Expr} {ifs : List Expr} {scope : Scope} {spos : Pos}
theorem s_setLc {i : Nat} {y : Str} (xo : XO P cl X k o W) (hcold : (!o.hot) = true) (hy : X.N[i]? = some y) (hyl : X.env.scope.names.lookup y = some .local) (hsw : swapsWith (.ListComp eelt [⟨tg, iter, ifs, 0⟩] scope pos) (some (.Name y p')) spos.line X.env = pure true)
    (hsrc : PI X tg iter (tSrc P cl k X W src)) (hfold : ∀ x, foldedSetIterable iter X.env x = pure x) (L : LcOk P cl k X W elt tgt cond own eelt tg ifs scope) : PS X (.Assign [.Name y p'] (.ListComp eelt [⟨tg, iter, ifs, 0⟩] scope pos) spos) (tSt P cl k X W (.set i (.lc elt tgt src cond own))) :=
  PS.imp (PS.kf (psE_setLc (xo.calm hcold) xo.nd xo.fr xo.tk hy hyl hsw hsrc L.ok (L.pg xo hcold) L.cd L.el hfold)) fun D σ H ⟨m, env, S, hK, eH, hS, hV, h⟩ => by
    subst eH
    rw [own_snd]
    simp only [wS] at h
    exact lc_run hK hS hV L.sl (Q := fun x H1 => D.nx (σ.set i (some x)) H1) (fun v S' h m' x e hS' r => h m' _ e hS' ((hV.up (e.up hS)).set r))
      (wE_mono (callW_mono P k) (fun c S1 h1 => lx (Ev.refl m) hS hV h1) _ (fun _ _ h => h) h)
theorem s_setT {is : List Nat} (xo : XO P cl X k o W) (hcold : (!o.hot) = true) (hn : TgOk X (.tp is) tg) (hs : swapsWith ex (some tg) pos.line X.env = pure false) (hw : swappedStores [tg] ex X.env = pure none) (ha : (assignEach [tg] X.env).map (·.2) = [assign tg X.env]) (he : PE X ex (tE P cl k X W e)) : PS X (.Assign [tg] ex pos) (tSt P cl k X W (.setT is e)) :=
  PS.imp (ps_asg he (hn.pg xo.nd (xo.calm hcold)) hs hw ha) fun D σ H ⟨m, env, S, hK, eH, hS, hV, h⟩ => by
    subst eH
    simp only [wS] at h
    refine sE_of hK hS hV (Ev.refl m) h fun m1 x S1 v e1 hS1 r1 hV1 h1 => ?_
    exact tG_of (e1.k.trans hK) r1 hV1 h1 fun env' xs h2 hV2 => h2 m1 _ e1 hS1 hV2
/-- (a, b, ..) = a list of that length -/
def gLs (K : PySem.W.Frag) (n : Nat) (t : TGs) : TG := fun v σ H Q => ∃ a xs, v = .ref a ∧ SqL K H a xs ∧ xs.length = n ∧ t xs σ H Q
theorem pg_lst {es : List Expr} {kk : Nat} {t : TGs} {n : Nat} (calm : X.calm = true) (h : PGs X es t) (hn : (assignEach es X.env).length = n) (hst : (assignEach es X.env).findIdx? (·.1) = none) : PG X (.Tuple es kk pos) (gLs X.K n t) := by
  refine ⟨fun pn s σ H v u Q I r hw => ?_⟩
  obtain ⟨a, xs, rfl, hq, hl, hw⟩ := hw
  cases r
  obtain ⟨its, rv, p, _⟩ := I.list hq
  have sz : its.toArray.size = (assignEach es X.env).length := by
    have := rv.length
    simp only [List.size_toArray]
    omega
  rw [assign_Tuple]
  refine wpAny_bind (wpAny_standAt ?_)
  unfold unpack
  rw [hst, ← sz]
  refine wpAny_bind (wpAny_holding (PySem.W.kun_itemsOf (I.ok.hd calm) p.isList fun h1 hx => ?_))
  have I1 : Inv X pn σ H { s with heap := h1 } := I.kept (t' := s.toks) fun b o e => hx b o (Nat.ne_of_lt (Heap.lt_size e)) e
  exact h.run pn _ σ H xs _ Q I1 rv hw
theorem s_setL {is : List Nat} (xo : XO P cl X k o W) (hcold : (!o.hot) = true) {tes : List Expr} {kk : Nat} {tpos : Pos} (hn : NmsOk X is tes) (hs : swapsWith ex (some (.Tuple tes kk tpos)) pos.line X.env = pure false) (hw : swappedStores [.Tuple tes kk tpos] ex X.env = pure none) (ha : (assignEach [.Tuple tes kk tpos] X.env).map (·.2) = [assign (.Tuple tes kk tpos) X.env]) (he : PE X ex (tE P cl k X W e)) : PS X (.Assign [.Tuple tes kk tpos] ex pos) (tSt P cl k X W (.setL is e)) :=
  PS.imp (ps_asg he (pg_lst (n := is.length) (xo.calm hcold) (hn.pgs xo.nd) hn.len hn.star) hs hw ha) fun D σ H ⟨m, env, S, hK, eH, hS, hV, h⟩ => by
    subst eH
    simp only [wS] at h
    refine sE_of hK hS hV (Ev.refl m) h fun m1 x S1 v e1 hS1 r1 hV1 ⟨n, ds, h1, h2, h3, h4⟩ => ?_
    subst h1
    cases r1 with
    | ref ha =>
      obtain ⟨vs, q, r⟩ := hS1.lst h2 ha
      have ek : m1.K = X.K := e1.k.trans hK
      rw [ek] at q
      exact ⟨_, vs, rfl, q, by rw [← r.length]; exact h3, gNs_of _ _ _ _ _ (by rw [← r.length]; exact h3) (h4 m1 _ e1 hS1 (hV1.setN r))⟩
theorem s_par {i j : Nat} {x y : Str} {ea eb : Expr} {es' : Es} {px py pt : Pos} {kt k2 pt2} (xo : XO P cl X k o W) (hcold : (!o.hot) = true) (hi : X.N[i]? = some x) (hj : X.N[j]? = some y) (hij : i ≠ j)
    (hx : X.env.scope.names.lookup x = some .local) (hy : X.env.scope.names.lookup y = some .local) (ha : PA X [ea, eb] (tEs P cl k X W es'))
    (hw : swappedStores [.Tuple [.Name x px, .Name y py] kt pt] (.Tuple [ea, eb] k2 pt2) X.env = pure (some [x, y])) :
    PS X (.Assign [.Tuple [.Name x px, .Name y py] kt pt] (.Tuple [ea, eb] k2 pt2) pos) (tSt P cl k X W (.par [i, j] es')) :=
  PS.imp (ps_par (xo.calm hcold) xo.nd hi hj hij hx hy ha hw) fun D σ H ⟨m, env, S, hK, eH, hS, hV, h⟩ => by
    subst eH
    simp only [wS] at h
    refine sEs_of hK hS hV (Ev.refl m) h fun m1 x S1 v e1 hS1 r1 hV1 h1 => ?_
    obtain ⟨hl, h1⟩ := h1
    cases r1 with
    | nil => cases hl
    | cons ra r1 =>
      cases r1 with
      | nil => cases hl
      | cons rb r1 =>
        cases r1 with
        | nil => exact ⟨_, _, rfl, h1 m1 _ e1 hS1 ((hV1.set ra).set rb)⟩
        | cons _ _ => simp at hl
def tPar3 (i j l : Nat) (ta : TA) : TS := fun D e H => ta e H fun vs H1 => ∃ v1 v2 v3, vs = [v1, v2, v3] ∧ D.nx (((e.set i (some v1)).set j (some v2)).set l (some v3)) H1
theorem set_turn {α : Type} {e : List α} {i j l : Nat} {a b c : α} (ij : i ≠ j) (il : i ≠ l) (jl : j ≠ l) : ((e.set l c).set j b).set i a = ((e.set i a).set j b).set l c := by
  rw [List.set_comm (l := e.set l c) b a ij.symm, List.set_comm (l := e) c a il.symm, List.set_comm (l := e.set i a) c b jl.symm]
theorem three_of {vs : List V} {us : List Value} {v1 v2 v3 : V} (ev : vs = [v1, v2, v3]) (r : Vals vs us) : ∃ u1 u2 u3, us = [u1, u2, u3] ∧ RelV v1 u1 ∧ RelV v2 u2 ∧ RelV v3 u3 := by
  subst ev
  rcases r with _ | ⟨p1, _ | ⟨p2, _ | ⟨p3, _ | ⟨_, _⟩⟩⟩⟩
  exact ⟨_, _, _, rfl, p1, p2, p3⟩
theorem ps_par3 {i j l : Nat} {x y z : Str} {ea eb ec : Expr} {ta : TA} {px py pz pt : Pos} {kt k2 pt2} (calm : X.calm = true) (nd : X.N.Nodup) (hi : X.N[i]? = some x) (hj : X.N[j]? = some y) (hl : X.N[l]? = some z) (hij : i ≠ j) (hil : i ≠ l) (hjl : j ≠ l)
    (hx : X.env.scope.names.lookup x = some .local) (hy : X.env.scope.names.lookup y = some .local) (hz : X.env.scope.names.lookup z = some .local) (ha : PA X [ea, eb, ec] ta)
    (hw : swappedStores [.Tuple [.Name x px, .Name y py, .Name z pz] kt pt] (.Tuple [ea, eb, ec] k2 pt2) X.env = pure (some [x, y, z])) :
    PS X (.Assign [.Tuple [.Name x px, .Name y py, .Name z pz] kt pt] (.Tuple [ea, eb, ec] k2 pt2) pos) (tPar3 i j l ta) := by
  refine ⟨fun pn t e H Z J g => ?_⟩
  rw [exec_Assign_arm]
  refine wpAny_bind (wpAny_standAt (wpAny_bind ?_))
  rw [show swapsWithSole [.Tuple [.Name x px, .Name y py, .Name z pz] kt pt] (.Tuple [ea, eb, ec] k2 pt2) pos.line X.env = pure false from rfl]
  refine wpAny_pure ?_
  rw [if_neg Bool.false_ne_true]
  refine wpAny_bind (Tuple_ (thn (ha.run _ pn t e H _ J g) fun us t1 ⟨vs, H1, J1, r1, v1, v2, v3, ev, q⟩ => ?_))
  obtain ⟨u1, u2, u3, rfl, r11, r12, r13⟩ := three_of ev r1
  refine wpAny_newObj_type ?_ (show 3 ≤ sizeLine from by decide)
  have J2 : Inv X pn e H1 { t1 with heap := t1.heap.push { cls := .type "tuple", data := .seq [u1, u2, u3].toArray } } := J1.kept (t' := t1.toks) fun _ _ w => Heap.get?_push_of_some _ w
  rw [hw]
  refine wpAny_bind (wpAny_pure ?_)
  show wpAny _ X.A (do rule "assign.swapped-stores"; let us ← unpackItems (.ref t1.heap.objs.size) 3 none; assignInOrder [fun v => bindName X.env z v, fun v => bindName X.env y v, fun v => bindName X.env x v] us.reverse; pure Flow.next) _ _ _
  refine wpAny_bind (wpAny_rule (wpAny_bind ?_))
  refine unpackItems_tuple (items := #[u1, u2, u3]) (J.ok.hd calm) (IsTup.new t1.heap _) fun h3 k3 => ?_
  have J3 := J2.kept (h' := h3) (t' := t1.toks) fun n o w => k3 n o (Nat.ne_of_lt (Heap.lt_size w)) w
  show wpAny _ _ (assignInOrder [fun v => bindName X.env z v, fun v => bindName X.env y v, fun v => bindName X.env x v] [u3, u2, u1] >>= fun _ => pure Flow.next) _ _ _
  refine wpAny_bind (assignInOrder_cons (wpAny_bindName (store_ok J3 nd hl (.inl hz) r13 (fun t4 J4 => ?_) (.inr hz))))
  refine assignInOrder_cons (wpAny_bindName (store_ok J4 nd hj (.inl hy) r12 (fun t5 J5 => ?_) (.inr hy)))
  refine assignInOrder_cons (wpAny_bindName (store_ok J5 nd hi (.inl hx) r11 (fun t6 J6 => assignInOrder_nil (wpAny_pure ?_)) (.inr hx)))
  rw [set_turn hij hil hjl] at J6
  exact ⟨_, H1, J6, q⟩
theorem s_par3 {i j l : Nat} {x y z : Str} {ea eb ec : Expr} {es' : Es} {px py pz pt : Pos} {kt k2 pt2} (xo : XO P cl X k o W) (hcold : (!o.hot) = true) (hi : X.N[i]? = some x) (hj : X.N[j]? = some y) (hl : X.N[l]? = some z) (hij : i ≠ j) (hil : i ≠ l) (hjl : j ≠ l)
    (hx : X.env.scope.names.lookup x = some .local) (hy : X.env.scope.names.lookup y = some .local) (hz : X.env.scope.names.lookup z = some .local) (ha : PA X [ea, eb, ec] (tEs P cl k X W es'))
    (hw : swappedStores [.Tuple [.Name x px, .Name y py, .Name z pz] kt pt] (.Tuple [ea, eb, ec] k2 pt2) X.env = pure (some [x, y, z])) :
    PS X (.Assign [.Tuple [.Name x px, .Name y py, .Name z pz] kt pt] (.Tuple [ea, eb, ec] k2 pt2) pos) (tSt P cl k X W (.par [i, j, l] es')) :=
  PS.imp (ps_par3 (xo.calm hcold) xo.nd hi hj hl hij hil hjl hx hy hz ha hw) fun D σ H ⟨m, env, S, hK, eH, hS, hV, h⟩ => by
    subst eH
    simp only [wS] at h
    refine sEs_of hK hS hV (Ev.refl m) h fun m1 x S1 v e1 hS1 r1 hV1 h1 => ?_
    obtain ⟨hlen, h1⟩ := h1
    rcases r1 with _ | ⟨ra, _ | ⟨rb, _ | ⟨rc, _ | ⟨_, _⟩⟩⟩⟩
    · cases hlen
    · cases hlen
    · cases hlen
    · exact ⟨_, _, _, rfl, h1 m1 _ e1 hS1 (((hV1.set ra).set rb).set rc)⟩
    · simp at hlen
theorem noswap_sub {ex a b : Expr} {c : Pos} {l : Nat} {env : PySem.Env} : swapsWith ex (some (.Subscript a b c)) l env = pure false := by
  cases ex <;> rfl
theorem s_setI {oo i : E} {eo ei : Expr} {p2 : Pos} (xo : XO P cl X k o W) (hi : plainIx ei = true) (ho : PE X eo (tE P cl k X W oo)) (hx : PE X ei (tE P cl k X W i)) (he : PE X ex (tE P cl k X W e)) : PS X (.Assign [.Subscript eo ei p2] ex pos) (tSt P cl k X W (.setI oo i e)) :=
  PS.imp (ps_asg he (pg_sub ho hx (set_ok (cl := cl) xo.u1) (by cases ei <;> first | (intro _; rfl) | cases hi)) (by simpa only [swapsWithSole] using noswap_sub (ex := ex) (a := eo) (b := ei) (c := p2) (l := pos.line) (env := X.env)) (by cases ex <;> rfl)) fun D σ H ⟨m, env, S, hK, eH, hS, hV, h⟩ => by
    subst eH
    simp only [wS] at h
    refine sE_of hK hS hV (Ev.refl m) h fun m1 x S1 v e1 hS1 r1 hV1 h1 => ?_
    refine sE_of (e1.k.trans hK) hS1 hV1 e1 h1 fun m2 y S2 w e2 hS2 r2 hV2 h2 => ?_
    refine sE_of ((e1.trans e2).k.trans hK) hS2 hV2 (e1.trans e2) h2 fun m3 z S3 u e3 hS3 r3 hV3 h3 => ?_
    have e13 := (e1.trans e2).trans e3
    exact ⟨m3, S3, w, u, v, e13.k.trans hK, rfl, hS3, r2.up (e3.up hS2), r3, r1.up ((e2.trans e3).up hS1), setW_mono (fun S4 h4 m' e4 hS4 => h4 m' σ (e13.trans e4) hS4 (hV3.up (e4.up hS3))) h3⟩
theorem s_kadd {oo i : E} {eo ei : Expr} {p2 : Pos} (xo : XO P cl X k o W) (hi : plainIx ei = true) (ho : PE X eo (tE P cl k X W oo)) (hx : PE X ei (tE P cl k X W i)) (he : PE X ex (tE P cl k X W e)) : PS X (.Assign [.Subscript eo ei p2] ex pos) (tSt P cl k X W (.expr (.vi .kadd (.cons e (.cons oo (.cons i .nil)))))) :=
  PS.imp (ps_asg he (pg_sub ho hx (set_kd (cl := cl) (by have := xo.un; omega) xo.hw) (by cases ei <;> first | (intro _; rfl) | cases hi)) (by simpa only [swapsWithSole] using noswap_sub (ex := ex) (a := eo) (b := ei) (c := p2) (l := pos.line) (env := X.env)) (by cases ex <;> rfl)) fun D σ H ⟨m, env, S, hK, eH, hS, hV, h⟩ => by
    subst eH
    simp only [wS, wE, wEs] at h
    refine sE_of hK hS hV (Ev.refl m) h fun m1 x S1 v e1 hS1 r1 hV1 h1 => ?_
    refine sE_of (e1.k.trans hK) hS1 hV1 e1 h1 fun m2 y S2 w e2 hS2 r2 hV2 h2 => ?_
    refine sE_of ((e1.trans e2).k.trans hK) hS2 hV2 (e1.trans e2) h2 fun m3 z S3 u e3 hS3 r3 hV3 h3 => ?_
    have e13 := (e1.trans e2).trans e3
    obtain ⟨n, rfl⟩ := kadd_arg h3
    obtain ⟨fs, h4, h5, h6, h7, h8⟩ := h3
    exact ⟨m3, S3, n, fs, u, v, e13.k.trans hK, rfl, hS3, r2.up (e3.up hS2), r3, r1.up ((e2.trans e3).up hS1), h4, h5, h6,
      fun g m' e4 hS4 => h7 g m' σ (e13.trans e4) hS4 (hV3.up (e4.up hS3)), fun g m' e4 hS4 => h8 g m' σ (e13.trans e4) hS4 (hV3.up (e4.up hS3))⟩
theorem s_setF {oo : E} {eo : Expr} {f : String} (xo : XO P cl X k o W) (hf : f ∈ P.flds) (hc : swapsWith ex (some (.Attribute eo (Str.ofString f) p')) pos.line X.env = pure false) (ho : PE X eo (tE P cl k X W oo)) (he : PE X ex (tE P cl k X W e)) : PS X (.Assign [.Attribute eo (Str.ofString f) p'] ex pos) (tSt P cl k X W (.setF oo f e)) :=
  PS.imp (ps_fld ho he hc) fun D σ H ⟨m, env, S, hK, eH, hS, hV, h⟩ => by
    subst eH
    simp only [wS] at h
    refine sE_of hK hS hV (Ev.refl m) h fun m1 x S1 v e1 hS1 r1 hV1 h1 => ?_
    refine sE_of (e1.k.trans hK) hS1 hV1 e1 h1 fun m2 y S2 w e2 hS2 r2 hV2 h2 => ?_
    obtain ⟨n, c, fs, rfl, h3, h4, h5⟩ := h2
    cases r2 with
    | @ref _ y hy =>
    obtain ⟨C, dx, gs, hy2, hC, rf⟩ := hS2.ob n _ y h3 hy
    have r1' := r1.up (e2.up hS1)
    have e3 : Ev m2 { m2 with H := upd m2.H y (.ins C dx (L2.putF (Str.ofString f) x gs)) } := Ev.write hy hy2
    have hS3 : SH cl { m2 with H := upd m2.H y (.ins C dx (L2.putF (Str.ofString f) x gs)) } (S2.set n (.ins c (putF f v fs))) := hS2.write hy hy2 ⟨C, dx, _, upd_same, hC, (rf.put f r1').up (e3.up hS2)⟩
    exact ⟨y, C, dx, gs, rfl, hy2, (xo.ln.clc c C hC).2, xo.ln.fld c C hC f hf, by rw [← rf.length]; exact h4, h5 _ σ ((e1.trans e2).trans e3) hS3 (hV2.up (e3.up hS2))⟩
theorem s_aug {i : Nat} {x : Str} {op : Operator} (xo : XO P cl X k o W) (hn : NmOk X i (.Name x p')) (he : PE X ex (tE P cl k X W e)) : PS X (.AugAssign (.Name x p') op ex pos) (tSt P cl k X W (.aug i op e)) := by
  obtain ⟨x', pos', h0, h1, h2, h3⟩ := hn.ok
  cases h0
  refine PS.imp (ps_aug xo.nd h1 h2 he (opr_ibin (cl := cl) op) h3) fun D σ H ⟨m, env, S, hK, eH, hS, hV, h⟩ => ?_
  subst eH
  simp only [wS] at h
  obtain ⟨v, hv, h⟩ := h
  obtain ⟨x, hx, rx⟩ := hV.get hv
  refine ⟨x, hx, sE_of hK hS hV (Ev.refl m) h fun m1 y S1 w e1 hS1 r1 hV1 h1 => ?_⟩
  exact ⟨m1, S1, v, w, e1.k.trans hK, rfl, hS1, rx.up (e1.up hS), r1, ibinW_mono (fun z S2 h2 m2 y2 e2 hS2 r2 => h2 m2 _ (e1.trans e2) hS2 ((hV1.up (e2.up hS1)).set r2)) h1⟩
theorem s_augI {oo i : E} {eo ei : Expr} {p2 : Pos} {op : Operator} (xo : XO P cl X k o W) (hi : plainIx ei = true) (ho : PE X eo (tE P cl k X W oo)) (hx : PE X ei (tE P cl k X W i)) (he : PE X ex (tE P cl k X W e)) : PS X (.AugAssign (.Subscript eo ei p2) op ex pos) (tSt P cl k X W (.augI oo i op e)) :=
  PS.imp (ps_augS ho hx (get_ok (cl := cl) xo.u1) he (opr_ibin (cl := cl) op) (set_ok (cl := cl) xo.u1) (by cases ei <;> first | (intros; rfl) | cases hi)) fun D σ H ⟨m, env, S, hK, eH, hS, hV, h⟩ => by
    subst eH
    simp only [wS] at h
    refine sE_of hK hS hV (Ev.refl m) h fun m1 x S1 v e1 hS1 r1 hV1 h1 => ?_
    refine sE_of (e1.k.trans hK) hS1 hV1 e1 h1 fun m2 y S2 w e2 hS2 r2 hV2 h2 => ?_
    have e12 := e1.trans e2
    refine ⟨m2, S2, v, w, e12.k.trans hK, rfl, hS2, r1.up (e2.up hS1), r2, h2.1, subW_mono (fun old S3 h3 m3 z e3 hS3 r3 => ?_) h2.2⟩
    have e13 := e12.trans e3
    refine sE_of (e13.k.trans hK) hS3 (hV2.up (e3.up hS2)) e13 h3 fun m4 z4 S4 v4 e4 hS4 r4 hV4 h4 => ?_
    have e14 := e13.trans e4
    refine ⟨m4, S4, old, v4, e14.k.trans hK, rfl, hS4, r3.up (e4.up hS3), r4, ibinW_mono (fun r S5 h5 m5 z5 e5 hS5 r5 => ?_) h4⟩
    have e15 := e14.trans e5
    exact ⟨m5, S5, v, w, r, e15.k.trans hK, rfl, hS5, (((r1.up (e2.up hS1)).up (e3.up hS2)).up (e4.up hS3)).up (e5.up hS4), ((r2.up (e3.up hS2)).up (e4.up hS3)).up (e5.up hS4), r5, setW_mono (fun S6 h6 m' e6 hS6 => h6 m' σ (e15.trans e6) hS6 ((hV4.up (e5.up hS4)).up (e6.up hS5))) h5⟩
theorem s_augF {oo : E} {eo : Expr} {f : String} {op : Operator} (xo : XO P cl X k o W) (hf : f ∈ P.flds) (ho : PE X eo (tE P cl k X W oo)) (he : PE X ex (tE P cl k X W e)) : PS X (.AugAssign (.Attribute eo (Str.ofString f) p') op ex pos) (tSt P cl k X W (.augF oo f op e)) :=
  PS.imp (ps_fldaug ho he (opr_ibin (cl := cl) op)) fun D σ H ⟨m, env, S, hK, eH, hS, hV, h⟩ => by
    subst eH
    simp only [wS] at h
    refine sE_of hK hS hV (Ev.refl m) h fun m1 y S1 w e1 hS1 r1 hV1 h1 => ?_
    obtain ⟨n, c, fs, v, rfl, h3, h4, h5⟩ := h1
    cases r1 with
    | @ref _ y hy =>
    obtain ⟨C, dx, gs, hy2, hC, rf⟩ := hS1.ob n _ y h3 hy
    rcases rf.look f with ⟨v', x, q1, q2, q3⟩ | ⟨q, _⟩
    · rw [h4] at q1
      cases q1
      refine ⟨y, C, dx, gs, x, rfl, hy2, (xo.ln.clc c C hC).2, xo.ln.fld c C hC f hf, q2, ?_⟩
      refine sE_of (e1.k.trans hK) hS1 hV1 e1 h5 fun m2 z S2 u e2 hS2 r2 hV2 h6 => ?_
      refine ⟨m2, S2, v, u, (e1.trans e2).k.trans hK, rfl, hS2, q3.up (e2.up hS1), r2, ibinW_mono (fun r S3 h7 m3 z3 e3 hS3 r3 => ?_) h6⟩
      obtain ⟨fs', h8, h9, h10⟩ := h7
      have hy3 := em_get (e2.trans e3).em hy
      obtain ⟨C', dx', gs', hy4, hC', rf'⟩ := hS3.ob n _ y h8 hy3
      have hCC : C' = C := by
        have a1 := (xo.ln.clc c C hC).1
        have a2 := (xo.ln.clc c C' hC').1
        rw [a1] at a2
        cases a2
        rfl
      subst hCC
      have e4 : Ev m3 { m3 with H := upd m3.H y (.ins C' dx' (L2.putF (Str.ofString f) z3 gs')) } := Ev.write hy3 hy4
      have hS4 : SH cl { m3 with H := upd m3.H y (.ins C' dx' (L2.putF (Str.ofString f) z3 gs')) } (S3.set n (.ins c (putF f r fs'))) := hS3.write hy3 hy4 ⟨C', dx', _, upd_same, hC', (rf'.put f r3).up (e4.up hS3)⟩
      exact ⟨dx', gs', hy4, by rw [← rf'.length]; exact h9, h10 _ σ (((e1.trans e2).trans e3).trans e4) hS4 (hV2.up ((e3.trans e4).up hS2))⟩
    · rw [h4] at q; cases q
theorem s_expr (hc : notComp ex = true) (he : PE X ex (tE P cl k X W e)) : PS X (.Expr ex pos) (tSt P cl k X W (.expr e)) :=
  PS.imp (ps_expr he (noswap hc)) fun D σ H ⟨m, env, S, hK, eH, hS, hV, h⟩ => by
    subst eH
    simp only [wS] at h
    exact sE_of hK hS hV (Ev.refl m) h fun m1 x S1 v e1 hS1 r1 hV1 h1 => h1 m1 _ e1 hS1 hV1
theorem s_next (h : PS X st tNext) : PS X st (tSt P cl k X W .pass) :=
  PS.imp h fun D σ H ⟨m, env, S, hK, eH, hS, hV, h⟩ => by
    subst eH
    simp only [wS] at h
    exact h m _ (Ev.refl m) hS hV
theorem s_raise {c : String} {msg : Str} {j : Nat} {p p2 : Pos} (xo : XO P cl X k o W) (tks : L2N.Takes X W) (hcold : (!o.hot) = true) (hg : Gl X (Str.ofString c)) (hdb : (Str.ofString c == ("__debug__" : Str)) = false) (hc : c ∈ P.excs) : PS X (.Raise (some (.Call (.Name (Str.ofString c) p) [.Constant (.str msg) j p2] [] p')) none pos) (tSt P cl k X W (.raise c)) := by
  obtain ⟨C, g, q, kp, sb, ty⟩ := xo.ln.exc c hc
  refine PS.imp (L2N.ps_raise (xo.calm hcold) tks (L2N.pmk_own PySem.F.excBase_ValueError q g kp (raises_own sb ty) hg hdb)) fun D σ H ⟨m, env, S, hK, eH, hS, hV, h⟩ => ?_
  subst eH
  simp only [wS] at h
  exact h m σ C (Ev.refl m) hS hV g
theorem s_lck {i : Nat} (hs : PS X st (tSt P cl k X W s)) : PS X st (tSt P cl k X W (.lck i s)) :=
  PS.imp (ps_lock hs) fun D σ H ⟨m, env, S, hK, eH, hS, hV, h⟩ => by
    subst eH
    simp only [wS] at h
    obtain ⟨n, kvs, h1, h2, h3⟩ := h
    obtain ⟨v, hv, rv⟩ := hV.get h1
    cases rv with
    | @ref _ a ha =>
    obtain ⟨ws, h4, r⟩ := hS.ob n _ a h2 ha
    refine ⟨a, _, h4, trivial, fun od => ?_⟩
    obtain ⟨e1, hS1⟩ := lock_sh (od := od) hS ha h4 r
    refine ⟨{ m with H := upd m.H a (.frz od (.dK ws)) }, env, _, hK, rfl, hS1, hV.up (e1.up hS), wS_mono (callW_mono P k) s (fun _ _ _ h => liftXS.ev e1 h) ⟨fun env' S' h m' σ' e' hS' hV' => ?_, fun v S' h m' x e' hS' r' => ?_, fun env' S' h m' σ' e' hS' hV' => ?_⟩ h3⟩
    · obtain ⟨h6, up, e3, hS3⟩ := unlock_sh ha h4 e' hS' h.1
      exact ⟨h6, h.2 _ σ' e3 hS3 (hV'.up up)⟩
    · obtain ⟨h6, up, e3, hS3⟩ := unlock_sh ha h4 e' hS' h.1
      exact ⟨h6, h.2 _ x e3 hS3 (r'.up up)⟩
    · obtain ⟨h6, up, e3, hS3⟩ := unlock_sh ha h4 e' hS' h.1
      exact ⟨h6, h.2 _ σ' e3 hS3 (hV'.up up)⟩
theorem s_cont : PS X (.Continue pos) (tSt P cl k X W .cont) :=
  PS.imp ps_continue fun D σ H ⟨m, env, S, hK, eH, hS, hV, h⟩ => by
    subst eH
    simp only [wS] at h
    exact h m _ (Ev.refl m) hS hV
theorem s_ret (he : PE X ex (tE P cl k X W e)) : PS X (.Return (some ex) pos) (tSt P cl k X W (.ret e)) :=
  PS.imp (ps_ret he) fun D σ H ⟨m, env, S, hK, eH, hS, hV, h⟩ => by
    subst eH
    simp only [wS] at h
    exact sE_of hK hS hV (Ev.refl m) h fun m1 x S1 v e1 hS1 r1 hV1 h1 => h1 m1 _ e1 hS1 r1
theorem s_retN : PS X (.Return none pos) (tSt P cl k X W .retN) :=
  PS.imp ps_retN fun D σ H ⟨m, env, S, hK, eH, hS, hV, h⟩ => by
    subst eH
    simp only [wS] at h
    exact h m _ (Ev.refl m) hS .non
variable {sa sb : Sts} {xa xb : List Stmt} {t : T}
theorem s_if (hc : PT X ex (tTs P cl k X W t)) (ha : PSs X xa (tSts P cl k X W sa)) (hb : PSs X xb (tSts P cl k X W sb)) : PS X (.If ex xa xb pos) (tSt P cl k X W (.ife t sa sb)) :=
  PS.imp (ps_if hc ha hb) fun D σ H ⟨m, env, S, hK, eH, hS, hV, h⟩ => by
    subst eH
    simp only [wS] at h
    refine sT_of hK hS hV (Ev.refl m) h fun m1 S1 b e1 hS1 hV1 h1 => ?_
    cases b with
    | true =>
      simp only [if_true] at h1 ⊢
      exact ⟨m1, env, S1, e1.k.trans hK, rfl, hS1, hV1, wSs_mono (callW_mono P k) sa (fun _ _ _ h => liftXS.ev e1 h) (liftD.ev e1) h1⟩
    | false =>
      simp only [Bool.false_eq_true, if_false] at h1 ⊢
      exact ⟨m1, env, S1, e1.k.trans hK, rfl, hS1, hV1, wSs_mono (callW_mono P k) sb (fun _ _ _ h => liftXS.ev e1 h) (liftD.ev e1) h1⟩
theorem s_while (xs : XSt P cl X k o W) (hcold : (!o.hot) = true) (hc : PT X ex (tTs P cl k X W t)) (ha : PSs X xa (tSts P cl k X W sa)) : PS X (.While ex xa [] pos) (tSt P cl k X W (.while t sa)) :=
  PS.imp (ps_while (xs.po hcold) hc ha) fun D σ H ⟨m, env, S, hK, eH, hS, hV, h⟩ => by
    subst eH
    simp only [wS] at h
    obtain ⟨n, h⟩ := h
    let wN : Nat → Env → Hm → Prop := whileN (fun env S K => wT P.con (callW P k) (fun c S' => liftXS cl X.mg m W c env S') t env S K) (wSs P.con P.sub (callW P k) sa (liftXS cl X.mg m W)) (liftD cl m D)
    refine ⟨fun μ σ' H' => ∃ m1 env1 S1, m1.K = X.K ∧ m1.H = H' ∧ Ev m m1 ∧ SH cl m1 S1 ∧ SV m1 env1 σ' ∧ wN μ env1 S1, ⟨n, m, env, S, hK, rfl, Ev.refl m, hS, hV, h⟩, ?_⟩
    rintro μ σ1 H1 ⟨m1, env1, S1, hK1, rfl, e1, hS1, hV1, h1⟩
    cases μ with
    | zero => exact h1.elim
    | succ μ =>
      refine sT_of hK1 hS1 hV1 e1 h1 fun m2 S2 b e2 hS2 hV2 h2 => ?_
      have e12 := e1.trans e2
      cases b with
      | false =>
        simp only [Bool.false_eq_true, if_false] at h2 ⊢
        exact h2 m2 _ e12 hS2 hV2
      | true =>
        simp only [if_true] at h2 ⊢
        refine ⟨fun σ' H' => ∃ m1 env1 S1, m1.K = X.K ∧ m1.H = H' ∧ Ev m m1 ∧ SH cl m1 S1 ∧ SV m1 env1 σ' ∧ wN μ env1 S1, fun σ' H' hn => ⟨μ, Nat.lt_succ_self _, hn⟩, ?_⟩
        refine ⟨m2, env1, S2, e2.k.trans hK1, rfl, hS2, hV2, wSs_mono (callW_mono P k) sa (fun _ _ _ h => liftXS.ev e12 h) ⟨fun env3 S3 h3 m3 σ3 e3 hS3 hV3 => ?_, fun _ _ h => liftQ.ev e12 (fun _ _ _ q => q) h, fun env3 S3 h3 m3 σ3 e3 hS3 hV3 => ?_⟩ h2⟩
        · exact ⟨m3, env3, S3, (e12.trans e3).k.trans hK, rfl, e12.trans e3, hS3, hV3, h3⟩
        · exact ⟨m3, env3, S3, (e12.trans e3).k.trans hK, rfl, e12.trans e3, hS3, hV3, h3⟩
theorem forL_guard {tg : Tg} {g : Hm → Prop} {body : Mi.Sp → Env → Hm → Prop} {D : Mi.Sp} {vs : List Val} {env : Env} {S : Hm} (h : forL tg g body D vs env S) : g S := by
  cases vs <;> exact h.1
theorem s_for {tgt : Tg} {src : Src} (xs : XSt P cl X k o W) (hcold : (!o.hot) = true) (hi : PI X tg iter (tSrc P cl k X W src)) (hfold : ∀ x, foldedSetIterable iter X.env x = pure x) (ht : TgOk X tgt tg) (ha : PSs X xa (tSts P cl k X W sa)) : PS X (.For tg iter xa [] pos) (tSt P cl k X W (.for tgt src sa)) :=
  PS.imp (ps_for (xs.po hcold) (xs.xo.calm hcold) hi (PG.pre (ht.pg xs.xo.nd (xs.xo.calm hcold))) ha hfold) fun D σ H ⟨m, env, S, hK, eH, hS, hV, h⟩ => by
    subst eH
    simp only [wS] at h
    refine sSrc_of hK hS hV (Ev.refl m) h fun m1 J S1 items g e1 hS1 ok hV1 h1 => ?_
    have hK1 := e1.k.trans hK
    let fL : List Val → Env → Hm → Prop := forL tgt g (wSs P.con P.sub (callW P k) sa (liftXS cl X.mg m W)) (liftD cl m D)
    let LW : Nat → L2.St → Hp → Prop := fun i σ' H' => ∃ m2 env2 S2, m2.K = X.K ∧ m2.H = H' ∧ Ev m1 m2 ∧ SH cl m2 S2 ∧ SV m2 env2 σ' ∧ fL (items.drop i) env2 S2
    refine ⟨fun i μ σ' H' => μ = items.length - i ∧ i ≤ items.length ∧ LW i σ' H', ⟨items.length, by simp, Nat.zero_le _, m1, env, S1, hK1, rfl, Ev.refl m1, hS1, hV1, h1⟩, ?_⟩
    rintro i μ σ2 H2 ⟨rfl, hi, m2, env2, S2, hK2, rfl, e2, hS2, hV2, h2⟩
    have hg : g S2 := forL_guard h2
    have e12 := e1.trans e2
    by_cases he : i = items.length
    · refine .inl ⟨ok.stop i m2 S2 e2 hS2 hg (by omega), ?_⟩
      rw [List.drop_eq_nil_of_le (by omega)] at h2
      exact h2.2 m2 _ e12 hS2 hV2
    · have hlt : i < items.length := by omega
      refine .inr ⟨ok.go i m2 S2 items[i] e2 hS2 hg (List.getElem?_eq_getElem hlt), LW (i + 1), fun σ' H' lw => ⟨items.length - (i + 1), by omega, rfl, by omega, lw⟩, fun x H' y kf => ?_⟩
      rw [List.drop_eq_getElem_cons hlt] at h2
      obtain ⟨_, h2⟩ := h2
      obtain ⟨m3, rfl, e3, hS3, rv⟩ := ok.yld i m2 S2 items[i] x H' e2 hS2 hg (List.getElem?_eq_getElem hlt) y (by rw [hK2]; exact kf)
      have e13 := e12.trans e3
      refine tG_of (e13.k.trans hK) rv (hV2.up (e3.up hS2)) h2 fun env4 xs4 h4 hV4 => ?_
      refine ⟨m3, env4, S2, e13.k.trans hK, rfl, hS3, hV4, wSs_mono (callW_mono P k) sa (fun _ _ _ h => liftXS.ev e13 h) ⟨fun env5 S5 h5 m5 σ5 e5 hS5 hV5 => ?_, fun _ _ h => liftQ.ev e13 (fun _ _ _ q => q) h, fun env5 S5 h5 m5 σ5 e5 hS5 hV5 => ?_⟩ h4⟩
      · exact ⟨m5, env5, S5, (e13.trans e5).k.trans hK, rfl, (e2.trans e3).trans e5, hS5, hV5, h5⟩
      · exact ⟨m5, env5, S5, (e13.trans e5).k.trans hK, rfl, (e2.trans e3).trans e5, hS5, hV5, h5⟩
/-! ### try -/
theorem XSt.tr (xs : XSt P cl X k o W) (hcold : (!o.hot) = true) {W' : WX} {pn : List (Addr × Obj)} {xe : Value → Shared → Prop} (tk : L2N.Takes (X.tr pn xe) W') (po : PassesOwn (model X.prog X.w) X.A X.env xe) : XSt P cl (X.tr pn xe) k o W' where
  xo := { ln := xs.xo.ln, nd := xs.xo.nd, nn := xs.xo.nn, sc := xs.xo.sc, fnc := xs.xo.fnc, isi := xs.xo.isi, lx := xs.xo.lx, calm := xs.xo.calm, room := xs.xo.room, un := xs.xo.un, zc := xs.xo.zc, rmh := fun h => (by rw [h] at hcold; cases hcold), zx := fun h => (by rw [h] at hcold; cases hcold), hots := xs.xo.hots, tk := tkF_of xs.frm tk, fr := xs.xo.fr, fns := xs.xo.fns, hw := xs.xo.hw }
  tks := tk
  po := fun _ => po
  stk := xs.stk
  frm := xs.frm
  fk := xs.fk
def Ko.heat (o : Ko) : Ko := { o with hot := true }
theorem XSt.suite (xs : XSt P cl X k o W) (hcold : (!o.hot) = true) {a : Addr} {oe : Obj} {pn : List (Addr × Obj)} {c : String} (hc : ExO P X.K X.mg c oe) : XSt P (cl.at a c) (X.suite a ((a, oe) :: pn)) k o.heat noW where
  xo :=
    { ln := ⟨xs.xo.ln.con, xs.xo.ln.clc, xs.xo.ln.fld, xs.xo.ln.has, xs.xo.ln.exc, xs.xo.ln.bi⟩
      nd := xs.xo.nd
      nn := xs.xo.nn
      sc := xs.xo.sc
      fnc := xs.xo.fnc
      isi := ⟨xs.xo.isi.isT, xs.xo.isi.isB, xs.xo.isi.isC, xs.xo.isi.isCC⟩
      lx := ⟨xs.xo.lx.ex, xs.xo.lx.sb, xs.xo.lx.ve, xs.xo.lx.bt, xs.xo.lx.tx, xs.xo.lx.nk, xs.xo.lx.kx⟩
      calm := fun h => nomatch h
      room := fun h => nomatch h
      un := xs.xo.un
      zc := fun h => nomatch h
      rmh := fun _ _ => ⟨(xs.xo.room hcold).dp, (xs.xo.room hcold).un⟩
      zx := fun _ => by
        obtain ⟨ho, C, hC, hz, vs, hv⟩ := hc
        exact ⟨(a, oe), c, ⟨rfl, vs, hv, hz.2.2 vs hv⟩, List.mem_cons_self, fun b d h => h, ho, C, hC, hz, vs, hv⟩
      hots := xs.xo.hots
      tk := tkF_none
      fr := xs.xo.fr
      fns := fun h => nomatch h
      hw := xs.xo.hw }
  tks := fun _ _ ⟨_, _, _, _, _, _, _, _, _, _, _, _, _, _, _, _, w⟩ => w.elim
  po := fun h => nomatch h
  stk := xs.stk
  frm := xs.frm
  fk := xs.fk
theorem es_get {env : Env} {i j : Nat} {v : Val} (h : eg (es env i none) j = some v) : j ≠ i ∧ eg env j = some v := by
  rw [eg_eq, es_eq] at h
  rw [eg_eq]
  by_cases hj : j = i
  · subst hj
    by_cases hl : j < env.length
    · rw [List.getElem?_set_self hl] at h; cases h
    · rw [List.getElem?_eq_none (by simp; omega)] at h; cases h
  · rw [List.getElem?_set_ne (Ne.symm hj)] at h
    exact ⟨hj, h⟩
theorem s_try {c x : String} {i : Nat} {n : Str} {body suite : Sts} {xb : List Stmt} {b0 : Stmt} {xsu : List Stmt} {np p' : Pos} (xs : XSt P cl X k o W) (hcold : (!o.hot) = true) (hi : X.N[i]? = some n) (hln : X.env.kindOf n = some .local) (hg : Gl X (Str.ofString c)) (hdb : (Str.ofString c == ("__debug__" : Str)) = false) (hc : c ∈ P.excs)
    (hb : ∀ {X' : Cx} {W' : WX}, XSt P cl X' k o W' → PSs X' xb (tSts P cl k X' W' body)) (hs : ∀ {X' : Cx} {cl' : Cl}, XSt P cl' X' k o.heat noW → PSs X' (b0 :: xsu) (tSts P cl' k X' noW suite)) :
    PS X (.Try xb [.ExceptHandler (some (.Name (Str.ofString c) np)) (some n) (b0 :: xsu) p'] [] [] pos) (tSt P cl k X W (.try body (.cons c (some i) suite .nil) .nil)) := by
  obtain ⟨C, hC, _, _, hsB, hty⟩ := xs.xo.ln.exc c hc
  have hE := (xs.xo.lx.ex c hc C hC).1
  let ts : Addr → Value → Option Addr → TS := fun a cls d D σ H => ∃ c0 C0, c0 ∈ P.excs ∧ X.mg (Str.ofString c0) = some (.ref C0) ∧ cls = .ref C0 ∧ d = none ∧ tSts P (cl.at a c0) k X noW suite D σ H
  refine PS.imp (L2N.ps_try_as (c := .ref C) (ts := ts) (tb := fun W' => tSts P cl k X W' body) xs.stk xs.frm xs.xo.nd hi hln ⟨hg, hdb, .inl hC⟩ xs.tks (fun W' pn xe tk po => hb (xs.tr hcold tk po)) fun a oe cls d pn hz hf => ?_) fun D σ H ⟨m, env, S, hK, eH, hS, hV, h⟩ => ?_
  · refine ⟨fun pins s σ H D I ⟨c0, C0, h1, h2, h3, h4, h5⟩ => ?_⟩
    subst h3 h4
    exact (hs (xs.suite hcold (pn := pn) (c := c0) ⟨h1, C0, h2, hz, hf⟩)).run pins s σ H D I h5
  · subst eH
    simp only [wS] at h
    refine ⟨m, env, S, hK, rfl, hS, hV, wSs_mono (callW_mono P k) body (fun c0 e0 S0 hw => ?_) ⟨fun e1 S1 h1 => by simpa only [wSs] using h1, fun _ _ h => h, fun _ _ h => h⟩ h⟩
    obtain ⟨hsub, hw⟩ := hw
    intro m' σ' C0 e' hS' hV' hC0
    have h0 := Pg.sub_me hsub
    have hsb := (xs.xo.lx.sb c0 h0 c hc C0 C hC0 hC).2
    have hz : m.z = none := by
      cases q : m.z with
      | none => rfl
      | some p => exact absurd (hS.z p.1 p.2 q) (xs.xo.zc hcold _ _)
    have hz' : m'.z = none := e'.z.trans hz
    refine ⟨P.sub c0 c, PySem.W.exm_ref hE.hs hE.hd hty hsb, fun hb a na => ?_, fun hb => ?_⟩
    · simp only [wHs, hb, if_true] at hw
      have hup : Up m' { m' with z := some (a, c0) } := ⟨fun _ _ q => q, ⟨[], by simp⟩, fun p q => by rw [hz'] at q; cases q⟩
      refine ⟨c0, C0, h0, hC0, rfl, rfl, { m' with z := some (a, c0) }, es e0 i (some (.exc c0)), S0, e'.k.trans hK, rfl, hS'.inz hz' a c0, (hV'.up hup).set (.exc rfl), wSs_mono (callW_mono P k) suite (X := fun _ _ _ => False) (D := { nx := fun env' S' => back i e0 S0 env' S' ∧ (liftD cl m D).nx (es env' i none) S', rt := fun _ _ => False }) (fun _ _ _ h => h.elim) ⟨fun e2 S2 h2 m2 σ2 ev2 hS2 hV2 => ?_, fun _ _ h => h.elim, fun _ _ h => h.elim⟩ hw⟩
      obtain ⟨⟨hl, hlen, hfr⟩, hn⟩ := h2
      obtain ⟨e3, hS3⟩ := hS'.outz hz' ev2 hS2 hl
      refine hn { m2 with z := none } (σ2.set i none) (e'.trans e3) hS3 ⟨by rw [es_eq]; simp [hV2.1], fun j v hj => ?_⟩
      obtain ⟨hji, hj2⟩ := es_get (by rw [eg_eq, hj]; rfl)
      obtain ⟨y, hy, ry⟩ := hV2.get hj2
      refine ⟨y, by rw [List.getElem?_set_ne (Ne.symm hji)]; exact hy, ry.out ?_⟩
      rcases hfr j v hji hj2 with h5 | h5
      · obtain ⟨_, _, r5⟩ := hV'.get h5
        exact r5.fr hz'
      · exact h5
    · simp only [wHs, hb] at hw
      exact hw m' σ' C0 e' hS' hV' hC0
/-! ### an exception that is kept behind its suite -/
theorem Inv.keepX {pins : List (Addr × Obj)} {H : Hp} {s : Shared} (I : Inv X pins σ H s) {a C : Addr} {o : Obj} (g1 : s.heap.get? a = some o) (g2 : L2N.Zn (.ref C) none o) (g3 : ∃ vs, o.data = .fields vs) (na : H a = none) (nL : a ≠ X.env.locals)
    (new : ∀ b u, X.s_0.heap.get? b = some u → b ∉ X.ex → b ≠ a) (np : ∀ p ∈ X.pn ++ pins, p.1 ≠ a) : Inv X pins σ (upd H a (.ext (IsExn a C))) s := by
  have kp : ∀ {b : Addr} {u : HO}, H b = some u → upd H a (.ext (IsExn a C)) b = some u := fun {b u} e => by rw [upd_ne (ne_of_none e na)]; exact e
  refine ⟨I.ok, I.os, I.bare, ⟨I.base.keep, I.base.slot, fun b u e n hx => ?_, I.base.there, fun b xs e => kp (I.base.tups b xs e), fun b u w e => kp (I.base.frzs b u w e), fun b ps e => ?_⟩, I.loc, I.cell, ?_, fun x c e => ?_, fun p hp => ?_, fun b u e => ?_, I.len⟩
  · rw [upd_ne (new b u e hx)]; exact I.base.free b u e n hx
  · obtain ⟨mo, q⟩ := I.base.tbls b ps e; exact ⟨mo, kp q⟩
  · rw [upd_ne (Ne.symm nL)]; exact I.free
  · have ne : c ≠ a := fun z => by
      obtain ⟨v, hv⟩ := I.cell x c e
      obtain ⟨vs, g3⟩ := g3
      obtain ⟨oc, hc1, hc2⟩ := hv
      rw [z, g1] at hc1
      cases hc1
      rw [g3] at hc2
      cases hc2
    rw [upd_ne ne]; exact I.freeC x c e
  · obtain ⟨e1, e2, e3, e4, e5⟩ := I.pin p hp
    exact ⟨e1, by rw [upd_ne (np p hp)]; exact e2, e3, e4, e5⟩
  · by_cases hb : b = a
    · subst hb
      rw [upd_same] at e
      cases e
      exact ⟨⟨o, g1, g2, g3⟩, ⟨o, g1⟩, fun _ _ ⟨o', e1, z1, v1⟩ k => ⟨o', k _ e1, z1, v1⟩⟩
    · rw [upd_ne hb] at e
      exact (I.hok b u e).stay (fun _ _ _ q => q) (fun _ q => kp q) (fun _ _ q => kp q)
/-- what such a clause wishes of its body's exceptions -/
def wKeep (K : PySem.W.Frag) (c : Value) (i : Nat) (ts : Addr → Value → Option Addr → TS) (D : Ends) : WX := fun cls d τ G =>
  PySem.W.exmOne K cls c = some true ∧ ∃ C, cls = .ref C ∧ d = none ∧ ∀ a, G a = none → ts a cls d { nx := fun τ' G' => G' a = none → KF K (upd G' a (.ext (IsExn a C))) → D.nx (τ'.set i none) (upd G' a (.ext (IsExn a C))), rt := fun _ _ => False } (τ.set i (some (.ref a))) G
theorem ps_try_keep {x n : Str} {c : Value} {i : Nat} {body suite : List Stmt} {b1 : Stmt} {np p1 : Pos} {tb : WX → TS} {ts : Addr → Value → Option Addr → TS} (es : X.stack = X.env :: X.outer) (ef : X.env.frame = some X.env.locals) (nd : X.N.Nodup) (ei : X.N[i]? = some n) (el : X.env.kindOf n = some .local) (ec : L2.Names X x c)
    (eb : ∀ (V : WX) (pp : List (Addr × Obj)) (xe : Value → Shared → Prop), L2N.Takes (X.tr pp xe) V → PassesOwn (model X.prog X.w) X.A X.env xe → PSs (X.tr pp xe) body (tb V))
    (eu : ∀ (a : Addr) (ob : Obj) (cls : Value) (d : Option Addr) (pp : List (Addr × Obj)), L2N.Zn cls d ob → (∃ vs, ob.data = .fields vs) → PSs (X.suite a ((a, ob) :: pp)) (b1 :: suite) (ts a cls d)) :
    PS X (.Try body [.ExceptHandler (some (.Name x np)) (some n) (b1 :: suite) p1] [] [] pos) (fun D τ G => tb (wKeep X.K c i ts D) D τ G) := by
  refine ⟨fun pins s τ G D I start => ?_⟩
  have okX := I.ok
  have frA : X.A.frames = some (X.env :: X.outer) := by rw [okX.frames, es]
  have bodyR := eb (wKeep X.K c i ts D) (X.pn ++ pins) (fun e t1 => wpAny (model X.prog X.w) X.A (noteFrame e X.env) (fun _ t2 => wpAny (model X.prog X.w) X.A (setFlight e none) (fun _ t3 => wpAny (model X.prog X.w) X.A
    (handleBy e X.env [.ExceptHandler (some (.Name x np)) (some n) (b1 :: suite) p1]) (SP X pins D) X.xe t3) X.xe t2) X.xe t1) (fun u s1 air => ?_) PassesOwn.looking
  · refine wpAny_Try_except (wpAny_mono (bodyR.run [] s τ G D (I.toTry _) start) (fun fl s1 out => ?_) fun _ _ he => he)
    cases fl with
    | next => obtain ⟨τ1, G1, J1, q⟩ := out; exact wpAny_execs_nil ⟨τ1, G1, J1.ofTry okX, q⟩
    | ret v => obtain ⟨v1, τ1, G1, J1, r, q⟩ := out; exact ⟨v1, τ1, G1, J1.ofTry okX, r, q⟩
    | brk => obtain ⟨τ1, G1, J1, q⟩ := out; exact ⟨τ1, G1, J1.ofTry okX, q⟩
    | cont => obtain ⟨τ1, G1, J1, q⟩ := out; exact ⟨τ1, G1, J1.ofTry okX, q⟩
  · obtain ⟨a, B, t0, pp, τ1, G1, cls, d, rfl, J0, toB, slots, sky, na, eos, bare, yes, C, rfl, rfl, go⟩ := air
    have J : Inv X pins τ1 G1 t0 := J0.ofTry okX
    rw [show (X.tr (X.pn ++ pins) _).stack = X.env :: X.outer from es] at sky
    refine L2N.Sky.land L2N.Zn.steady frA ef sky fun h1 fly s1h => ?_
    have frs_a : a ∉ frs (X.env :: X.outer) := fun m => by
      obtain ⟨ob, vs, e1, _, e2⟩ := fly.there
      obtain ⟨_, ob', e3, e4⟩ := fly.2.2.1.mem m
      rw [e1] at e3
      cases e3
      exact e4 _ e2
    have aL : a ≠ X.env.locals := fun z => frs_a (List.mem_filterMap.mpr ⟨_, .head _, by rw [ef, z]⟩)
    have aF : a ∉ X.fs := fun m => by
      obtain ⟨e, m1, m2⟩ := List.mem_filterMap.mp m
      exact frs_a (List.mem_filterMap.mpr ⟨e, .tail _ m1, m2⟩)
    have fresh : t0.heap.get? a = none := by
      cases q : t0.heap.get? a with
      | none => rfl
      | some ob =>
        have := toB a ob q (by rw [show (X.tr (X.pn ++ pins) _).stack = X.env :: X.outer from es]; exact frs_a)
        rw [fly.2.1] at this
        cases this
    have J1 : Inv X pins τ1 G1 { s1 with heap := h1 } := J.landed toB fly.1 (slots.trans s1h) eos bare
    obtain ⟨ob1, vs1, at1, zn1, fd1⟩ := fly.there
    have T1 := J1.suite at1 fd1 na aL aF
    have look : PySem.W.Looks (model X.prog X.w) h1 (typeOf (.ref a)) (.ref C) := fun A Q E s k q => wpAny_typeOf_ref (k _ _ at1) (by rw [zn1.1]; exact q)
    have isIt := PySem.W.exm_one (M := model X.prog X.w) J1.kIn look yes
    have named : ∀ {Q E : Value → Shared → Prop}, Q c { s1 with heap := h1 } → wpAny (model X.prog X.w) (X.A.mark (some (.ref a))) (eval (.Name x np) X.env) Q E { s1 with heap := h1 } := fun {Q E} q => by
      rcases ec with ⟨w1, w2, w3 | ⟨w3, w4, w5⟩⟩
      · exact ld_glob T1 w1 w3 q w2
      · exact ld_blt T1 w1 w3 w4 q w5 w2
    refine wpAny_handleBy_cons (codeAny_handlers_test (named (isIt.here ?_))) (fun z => nomatch z)
    refine codeAny_handlers_suite_as (HandSPX.lands_againZ fly fun h2 fly2 s2h => ?_)
    have J2 : Inv X pins τ1 G1 { s1 with heap := h2 } := J.landed toB fly2.1 ((slots.trans s1h).trans s2h) eos bare
    obtain ⟨ob2, vs2, at2, zn2, fd2⟩ := fly2.there
    refine store_ok (X := X.suite a ((a, ob2) :: (X.pn ++ pins))) (v := .ref a) (J2.suite at2 fd2 na aL aF) nd ei (.inl el) rfl (fun t3 T3 => ?_) (.inr el)
    refine wpAny_mono ((eu a ob2 _ none (X.pn ++ pins) zn2 ⟨_, fd2⟩).run [] t3 _ G1 _ T3 (go a na)) (fun fl t4 out => ?_) fun _ _ z => z.elim
    cases fl with
    | next =>
      obtain ⟨τ4, G4, T4, q4⟩ := out
      have pinA := T4.pin (a, ob2) (.head _)
      have J4 : Inv X pins τ4 (upd G4 a (.ext (IsExn a C))) t4 := Inv.keepX (T4.unsuite okX) pinA.1 zn2 ⟨_, fd2⟩ pinA.2.1 aL (fun b u e hx z => by
          obtain ⟨u', e'⟩ := J.base.there b u e hx
          rw [z, fresh] at e'
          cases e') fun p hp z => by
          have e' := (J.pin p hp).1
          rw [z, fresh] at e'
          cases e'
      exact L2.gone_ok J4 nd ei el fun t5 J5 => ⟨_, _, J5, q4 pinA.2.1 (kfree J4)⟩
    | ret v => obtain ⟨_, _, _, _, _, z⟩ := out; exact z.elim
    | brk => obtain ⟨_, _, _, z⟩ := out; exact z.elim
    | cont => obtain ⟨_, _, _, z⟩ := out; exact z.elim
theorem s_tryK {c x : String} {i t : Nat} {n : Str} {body : Sts} {xb : List Stmt} {b0 : Stmt} {xsu : List Stmt} {np p' : Pos} (xs : XSt P cl X k o W) (hcold : (!o.hot) = true) (hi : X.N[i]? = some n) (hln : X.env.kindOf n = some .local) (hg : Gl X (Str.ofString c)) (hdb : (Str.ofString c == ("__debug__" : Str)) = false) (hc : c ∈ P.excs) (hti : t ≠ i)
    (hb : ∀ {X' : Cx} {W' : WX}, XSt P cl X' k o W' → PSs X' xb (tSts P cl k X' W' body)) (hs : ∀ {X' : Cx} {cl' : Cl}, XSt P cl' X' k o.heat noW → PSs X' (b0 :: xsu) (tSts P cl' k X' noW (.cons (.set t (.loc i)) .nil))) :
    PS X (.Try xb [.ExceptHandler (some (.Name (Str.ofString c) np)) (some n) (b0 :: xsu) p'] [] [] pos) (tSt P cl k X W (.tryK body c i t)) := by
  obtain ⟨C, hC, _, _, hsB, hty⟩ := xs.xo.ln.exc c hc
  have hE := (xs.xo.lx.ex c hc C hC).1
  let ts : Addr → Value → Option Addr → TS := fun a cls d D σ H => ∃ c0 C0, c0 ∈ P.excs ∧ X.mg (Str.ofString c0) = some (.ref C0) ∧ cls = .ref C0 ∧ d = none ∧ tSts P (cl.at a c0) k X noW (.cons (.set t (.loc i)) .nil) D σ H
  refine PS.imp (ps_try_keep (c := .ref C) (ts := ts) (tb := fun W' => tSts P cl k X W' body) xs.stk xs.frm xs.xo.nd hi hln ⟨hg, hdb, .inl hC⟩ (fun W' pn xe tk po => hb (xs.tr hcold tk po)) fun a oe cls d pn hz hf => ?_) fun D σ H ⟨m, env, S, hK, eH, hS, hV, h⟩ => ?_
  · refine ⟨fun pins s σ H D I ⟨c0, C0, h1, h2, h3, h4, h5⟩ => ?_⟩
    subst h3 h4
    exact (hs (xs.suite hcold (pn := pn) (c := c0) ⟨h1, C0, h2, hz, hf⟩)).run pins s σ H D I h5
  · subst eH
    simp only [wS] at h
    refine ⟨m, env, S, hK, rfl, hS, hV, wSs_mono (callW_mono P k) body (fun c0 e0 S0 hw => ?_) ⟨fun _ _ h => h, fun _ _ h => h, fun _ _ h => h⟩ h⟩
    obtain ⟨hsub, hb, hlt, hw⟩ := hw
    intro m' σ' C0 e' hS' hV' hC0
    have h0 := Pg.sub_me hsub
    have hsb := (xs.xo.lx.sb c0 h0 c hc C0 C hC0 hC).2
    have hz : m.z = none := by
      cases q : m.z with
      | none => rfl
      | some p => exact absurd (hS.z p.1 p.2 q) (xs.xo.zc hcold _ _)
    have hz' : m'.z = none := e'.z.trans hz
    refine ⟨by rw [← hb]; exact PySem.W.exm_ref hE.hs hE.hd hty hsb, C0, rfl, rfl, fun a na => ?_⟩
    have hup : Up m' { m' with z := some (a, c0) } := ⟨fun _ _ q => q, ⟨[], by simp⟩, fun p q => by rw [hz'] at q; cases q⟩
    refine ⟨c0, C0, h0, hC0, rfl, rfl, { m' with z := some (a, c0) }, es e0 i (some (.exc c0)), S0, e'.k.trans hK, rfl, hS'.inz hz' a c0, (hV'.up hup).set (.exc rfl), ?_⟩
    simp only [wSs, wS, wE]
    have gi : eg (es e0 i (some (.exc c0))) i = some (.exc c0) := by rw [eg_eq, es_eq, List.getElem?_set_self hlt]; rfl
    refine ⟨_, gi, fun m2 σ2 ev2 hS2 hV2 na2 kf2 => ?_⟩
    obtain ⟨e3, hS3⟩ := hS'.outz hz' ev2 hS2 ⟨[], by simp, rfl⟩
    have kf3 : KF { m2 with z := none }.K (upd m2.H a (.ext (IsExn a C0))) := by
      show KF m2.K _
      rw [ev2.k]
      show KF m'.K _
      rw [e'.k, hK]
      exact kf2
    have hS4 := SH.alloc (ob := .lck (.ins c0 [])) hS3 (p := a) (o := .ext (IsExn a C0)) na2 kf3 (.inl ⟨fun z => absurd z (xs.xo.lx.nk c0 h0), rfl, C0, upd_same, (xs.xo.lx.kx c0 C0).mpr ⟨h0, hC0⟩⟩)
    have e4 := Ev.alloc (m := { m2 with z := none }) (p := a) (o := .ext (IsExn a C0)) na2
    refine hw _ (σ2.set i none) ((e'.trans e3).trans e4) hS4 ⟨by rw [es_eq, es_eq]; simpa [es_eq] using hV2.1, fun j v hj => ?_⟩
    rw [es_eq, es_eq] at hj
    have hji : j ≠ i := fun z => by
      subst z
      rw [List.getElem?_set_self (by simpa using hlt)] at hj
      cases hj
    rw [List.getElem?_set_ne (Ne.symm hji)] at hj ⊢
    by_cases hjt : j = t
    · subst hjt
      have hjl : j < e0.length := by
        have := (List.getElem?_eq_some_iff.mp hj).1
        simpa using this
      rw [List.getElem?_set_self hjl] at hj
      cases hj
      obtain ⟨y, hy, ry⟩ := hV2.2 j (.exc c0) (by rw [es_eq, es_eq]; exact List.getElem?_set_self (by simpa using hjl))
      cases ry with
      | exc hz2 =>
        have e5 := ev2.z
        rw [hz2] at e5
        cases e5
        refine ⟨_, hy, .ref ?_⟩
        show (m2.em ++ [_])[S0.length]? = some _
        rw [← hS3.len]
        simp
    · rw [List.getElem?_set_ne (Ne.symm hjt)] at hj
      obtain ⟨y, hy, ry⟩ := hV2.2 j v (by rw [es_eq, es_eq, List.getElem?_set_ne (Ne.symm hjt), List.getElem?_set_ne (Ne.symm hji)]; exact hj)
      obtain ⟨_, _, r0⟩ := hV'.2 j v hj
      exact ⟨y, hy, (ry.out (r0.fr hz')).up (e4.up hS3)⟩
end
end Mi

set_option maxHeartbeats 4000000
namespace Mi
open PySem PySem.Spec L2 PyProof.Rows
/-! ### statements, checked -/
/-- how a comprehension's value is stored: 1: the name is a local on its line; 2: it is a cell -/
def lcSet (o : Ko) (x : Str) (p' : Pos) (ex : Expr) : Nat := match ex with
  | .ListComp _ _ scope cpos => if decide (o.sc.names.lookup x = some .local) && (p'.line == cpos.line) && !(scope.names.any fun (n, k) => n == x && (k == .local || k == .cell)) then 1 else if decide (o.sc.names.lookup x = some .cell) then 2 else 0
  | _ => 0
def isLck : E → Bool
  | .lck _ _ => true
  | .lckA _ => true
  | _ => false
def notTup : Expr → Bool
  | .Tuple .. => false
  | _ => true
def isDoc : Expr → Bool
  | .Constant (.str _) _ _ => true
  | _ => false
section
variable (P : Pg)
mutual
def chkS : Ko → Mi.St → Stmt → Bool
  | o, .set i e, st => match st with
    | .Assign [.Name x p'] ex pos => nmB o i (.Name x p') && chkE P o e ex && (notComp ex || (!isLck e && decide (lcSet o x p' ex ≠ 0)))
    | _ => false
  | o, .setT is e, st => match st with
    | .Assign [.Tuple es k p] ex pos => !o.hot && (nmsB o is es && chkE P o e ex && notComp ex && notTup ex)
    | _ => false
  | o, .setL is e, st => match st with
    | .Assign [.Tuple es k p] ex pos => !o.hot && (nmsB o is es && chkE P o e ex && notComp ex && notTup ex)
    | _ => false
  | o, .par is es, st => match st with
    | .Assign [.Tuple [.Name x px, .Name y py] kt pt] (.Tuple [ea, eb] k2 pt2) pos => (match is with
      | [i, j] => !o.hot && (decide (o.N[i]? = some x) && decide (o.N[j]? = some y) && decide (i ≠ j) && decide (x ≠ y) && decide (o.sc.names.lookup x = some .local) && decide (o.sc.names.lookup y = some .local) && (px.line == py.line) && notStar ea && notStar eb &&
          !([ea, eb].all (foldedForSure 8)) && !([ea, eb].all (constantsAlone 8)) && chkEs P o es [ea, eb])
      | _ => false)
    | .Assign [.Tuple [.Name x px, .Name y py, .Name z pz] kt pt] (.Tuple [ea, eb, ec] k2 pt2) pos => (match is with
      | [i, j, l] => !o.hot && (decide (o.N[i]? = some x) && decide (o.N[j]? = some y) && decide (o.N[l]? = some z) && decide (i ≠ j) && decide (i ≠ l) && decide (j ≠ l) && decide (x ≠ y) && decide (x ≠ z) && decide (y ≠ z) &&
          decide (o.sc.names.lookup x = some .local) && decide (o.sc.names.lookup y = some .local) && decide (o.sc.names.lookup z = some .local) && (px.line == py.line) && (px.line == pz.line) && notStar ea && notStar eb && notStar ec &&
          !([ea, eb, ec].all (foldedForSure 8)) && !([ea, eb, ec].all (constantsAlone 8)) && chkEs P o es [ea, eb, ec])
      | _ => false)
    | _ => false
  | o, .setI a i e, st => match st with
    | .Assign [.Subscript eo ei _] ex _ => plainIx ei && chkE P o a eo && chkE P o i ei && chkE P o e ex
    | _ => false
  | o, .setF a f e, st => match st with
    | .Assign [.Attribute eo x p'] ex _ => nmEq f x && P.flds.contains f && chkE P o a eo && chkE P o e ex
    | _ => false
  | o, .aug i op e, st => match st with
    | .AugAssign (.Name x p') op' ex _ => decide (op = op') && nmB o i (.Name x p') && chkE P o e ex
    | _ => false
  | o, .augI a i op e, st => match st with
    | .AugAssign (.Subscript eo ei _) op' ex _ => decide (op = op') && plainIx ei && chkE P o a eo && chkE P o i ei && chkE P o e ex
    | _ => false
  | o, .augF a f op e, st => match st with
    | .AugAssign (.Attribute eo x _) op' ex _ => decide (op = op') && nmEq f x && P.flds.contains f && chkE P o a eo && chkE P o e ex
    | _ => false
  | o, .expr e, st => match st with
    | .Expr ex _ => notComp ex && chkE P o e ex
    | .Assign [.Subscript eo ei _] ex _ => (match e with
      | .vi .kadd (.cons v (.cons a (.cons i .nil))) => plainIx ei && chkE P o a eo && chkE P o i ei && chkE P o v ex
      | _ => false)
    | _ => false
  | o, .ret e, st => match st with
    | .Return (some ex) _ => chkE P o e ex
    | _ => false
  | o, .retN, st => match st with
    | .Return none _ => true
    | _ => false
  | o, .ife c a b, st => match st with
    | .If ex xa xb _ => chkT P o c ex && chkSs o a xa && chkSs o b xb
    | _ => false
  | o, .for tg src body, st => match st with
    | .For etg iter xa [] _ => !o.hot && (tgB o tg etg && notSet iter && chkSrc P o src etg iter && chkSs o body xa)
    | _ => false
  | o, .while c body, st => match st with
    | .While ex xa [] _ => !o.hot && (chkT P o c ex && chkSs o body xa)
    | _ => false
  | o, .raise c, st => match st with
    | .Raise (some (.Call (.Name x _) [.Constant (.str _) _ _] [] _)) none _ => !o.hot && (nmEq c x && glB o.sc x && ndb x && P.excs.contains c)
    | _ => false
  | o, .try body hs orelse, st => match hs, orelse with
    | .cons c (some i) suite .nil, .nil => (match st with
      | .Try xb [.ExceptHandler (some (.Name x _)) (some n) (b0 :: xsu) _] [] [] _ => !o.hot && (nmEq c x && glB o.sc x && ndb x && P.excs.contains c && decide (o.N[i]? = some n) && decide (o.sc.names.lookup n = some .local) && chkSs o body xb && chkSs o.heat suite (b0 :: xsu))
      | _ => false)
    | _, _ => false
  | o, .tryK body c i t, st => match st with
    | .Try xb [.ExceptHandler (some (.Name x _)) (some n) [.Assign [.Name tn q1] (.Name n2 q2) q3] _] [] [] _ => !o.hot && (nmEq c x && glB o.sc x && ndb x && P.excs.contains c && decide (o.N[i]? = some n) && decide (o.sc.names.lookup n = some .local) && decide (t ≠ i) && chkSs o body xb && nmB o.heat t (.Name tn q1) && chkE P o.heat (.loc i) (.Name n2 q2))
    | _ => false
  | o, .cont, st => match st with
    | .Continue _ => true
    | _ => false
  | o, .pass, st => match st with
    | .Pass _ => true
    | .Expr ex _ => isDoc ex
    | _ => false
  | o, .lck _ s, st => chkS o s st
def chkSs : Ko → Sts → List Stmt → Bool
  | o, .nil, sts => match sts with
    | [] => true
    | _ => false
  | o, .cons s ss, sts => match sts with
    | st :: rest => chkS o s st && chkSs o ss rest
    | _ => false
end
end
section
variable {P : Pg} {cl : Cl} {k : Nat} {X : Cx} {W : WX} {o : Ko}
theorem lc_parts {e : E} {eelt : Expr} {gens : List Comprehension} {scope : Scope} {pos : Pos} (h : chkE P o e (.ListComp eelt gens scope pos) = true) (hl : isLck e = false) (xo : XO P cl X k o W) :
    ∃ elt tgt src cond own tg iter ifs, e = .lc elt tgt src cond own ∧ gens = [⟨tg, iter, ifs, 0⟩] ∧ PI X tg iter (tSrc P cl k X W src) ∧ (∀ x, foldedSetIterable iter X.env x = pure x) ∧ LcOk P cl k X W elt tgt cond own eelt tg ifs scope ∧ (!o.hot) = true := by
  cases e with
  | lc elt tgt src cond own =>
    simp only [chkE] at h
    split at h
    · rename_i x1 x2 x3 x4 x5 x6 x7 heq
      cases heq
      simp only [Bool.and_eq_true, beq_iff_eq] at h
      obtain ⟨h00, ⟨⟨⟨⟨⟨⟨⟨rfl, h1⟩, h2⟩, h3⟩, h4⟩, h5⟩, h6⟩, h7⟩⟩ := h
      refine ⟨elt, tgt, src, cond, own, _, _, _, rfl, rfl, chkSrc_ok src h4 xo, folded_of (by revert h1; unfold notSet; split <;> simp), ⟨?_, ?_, fun σ s H C c fp => ?_, fun σ s H C c fp => ?_, fun σ s H C c fp => ?_⟩, h00⟩
      · rw [xo.nn, xo.sc]
        exact blkOk_by h2
      · intro i hi
        rw [List.all_eq_true] at h3
        simpa using h3 i hi
      · exact tgB_of (xo.lc h00 σ scope s H C c fp) h5
      · exact chkOt_ok cond h6 (xo.lc h00 σ scope s H C c fp)
      · exact (chkE_ok elt h7 (xo.lc h00 σ scope s H C c fp)).1
    · cases h
  | lck _ _ => cases hl
  | lckA _ => cases hl
  | not a => unfold chkE at h; simp at h
  | vi f es => unfold chkE at h; split at h <;> first | (cases h; done) | (cases f <;> cases h; done) | (simp at h; done)
  | _ => simp [chkE] at h
theorem sw_cell {elt : Expr} {gs : List Comprehension} {scope : Scope} {pos py : Pos} {y : Str} {l : Nat} {env : PySem.Env} (hy : env.scope.names.lookup y = some .cell) : swapsWith (.ListComp elt gs scope pos) (some (.Name y py)) l env = pure false := by
  have ky : env.kindOf y = some .cell := hy
  unfold swapsWith
  simp only [ky]
  have e1 : ((some NameKind.cell : Option NameKind) == some .local) = false := by decide
  simp only [e1, Bool.and_false, Bool.false_and]
theorem sw_fld {ex eo : Expr} {f : Str} {p : Pos} {l : Nat} {env : PySem.Env} : swapsWith ex (some (.Attribute eo f p)) l env = pure false := by cases ex <;> rfl
theorem sw_tup {ex : Expr} {es : List Expr} {kk : Nat} {p : Pos} {l : Nat} {env : PySem.Env} : swapsWith ex (some (.Tuple es kk p)) l env = pure false := by cases ex <;> rfl
theorem stores_none {ex : Expr} {es : List Expr} {kk : Nat} {p : Pos} {env : PySem.Env} (h : notTup ex = true) : swappedStores [.Tuple es kk p] ex env = pure none := by cases ex <;> first | rfl | cases h
theorem stores_two {x y : Str} {px py pt pt2 : Pos} {kt k2 : Nat} {ea eb : Expr} {env : PySem.Env} (hb : env.scope.kind = .function) (hx : env.scope.names.lookup x = some .local) (hy : env.scope.names.lookup y = some .local) (hl : (px.line == py.line) = true) (hne : x ≠ y)
    (s1 : notStar ea = true) (s2 : notStar eb = true) (hf : [ea, eb].all (foldedForSure 8) = false) (hc : [ea, eb].all (constantsAlone 8) = false) : swappedStores [.Tuple [.Name x px, .Name y py] kt pt] (.Tuple [ea, eb] k2 pt2) env = pure (some [x, y]) := by
  have kx : env.kindOf x = some .local := hx
  have ky : env.kindOf y = some .local := hy
  have hbk : env.blockKind = .function := by unfold Env.blockKind; rw [hb]; rfl
  have hl' : py.line = px.line := (beq_iff_eq.mp hl).symm
  have hyx : ¬ y = x := fun e => hne e.symm
  have ed : [x, y].eraseDups = [x, y] := by
    simp [List.eraseDups_cons, hyx]
  unfold swappedStores
  simp only [hbk]
  rw [if_neg (show ¬ ((!([Expr.Name x px, Expr.Name y py].length == 2 || [Expr.Name x px, Expr.Name y py].length == 3) || [ea, eb].length != [Expr.Name x px, Expr.Name y py].length || ScopeKind.function != ScopeKind.function) = true) from Bool.false_ne_true), if_neg (by
    simp only [List.any_cons, List.any_nil, Bool.or_false, Bool.or_eq_true, not_or]
    exact ⟨by cases ea <;> first | exact Bool.false_ne_true | exact (Bool.false_ne_true s1).elim, by cases eb <;> first | exact Bool.false_ne_true | exact (Bool.false_ne_true s2).elim⟩)]
  simp only [List.filterMap_cons, List.filterMap_nil, Option.map_some, List.head?_cons, Option.getD_some, Expr.pos, kx, ky, hl', beq_self_eq_true, Bool.and_self, if_true, ed, hf, hc]
  rfl
theorem stores_three {x y z : Str} {px py pz pt pt2 : Pos} {kt k2 : Nat} {ea eb ec : Expr} {env : PySem.Env} (hb : env.scope.kind = .function) (hx : env.scope.names.lookup x = some .local) (hy : env.scope.names.lookup y = some .local) (hz : env.scope.names.lookup z = some .local) (hl : (px.line == py.line) = true) (hl2 : (px.line == pz.line) = true) (xy : x ≠ y) (xz : x ≠ z) (yz : y ≠ z)
    (s1 : notStar ea = true) (s2 : notStar eb = true) (s3 : notStar ec = true) (hf : [ea, eb, ec].all (foldedForSure 8) = false) (hc : [ea, eb, ec].all (constantsAlone 8) = false) : swappedStores [.Tuple [.Name x px, .Name y py, .Name z pz] kt pt] (.Tuple [ea, eb, ec] k2 pt2) env = pure (some [x, y, z]) := by
  have kx : env.kindOf x = some .local := hx
  have ky : env.kindOf y = some .local := hy
  have kz : env.kindOf z = some .local := hz
  have hbk : env.blockKind = .function := by unfold Env.blockKind; rw [hb]; rfl
  have hl' : py.line = px.line := (beq_iff_eq.mp hl).symm
  have hl2' : pz.line = px.line := (beq_iff_eq.mp hl2).symm
  have ed : [x, y, z].eraseDups = [x, y, z] := by
    simp [List.eraseDups_cons, xy.symm, xz.symm, yz.symm]
  have ns : ∀ {e : Expr}, notStar e = true → ¬ ((match e with | .Starred .. => true | _ => false) = true) := fun {e} h => by
    cases e <;> first | exact Bool.false_ne_true | exact (Bool.false_ne_true h).elim
  unfold swappedStores
  simp only [hbk]
  rw [if_neg (show ¬ ((!([Expr.Name x px, Expr.Name y py, Expr.Name z pz].length == 2 || [Expr.Name x px, Expr.Name y py, Expr.Name z pz].length == 3) || [ea, eb, ec].length != [Expr.Name x px, Expr.Name y py, Expr.Name z pz].length || ScopeKind.function != ScopeKind.function) = true) from Bool.false_ne_true), if_neg (by
    simp only [List.any_cons, List.any_nil, Bool.or_false, Bool.or_eq_true, not_or]
    exact ⟨ns s1, ns s2, ns s3⟩)]
  simp only [List.filterMap_cons, List.filterMap_nil, Option.map_some, List.head?_cons, Option.getD_some, Expr.pos, kx, ky, kz, hl', hl2', beq_self_eq_true, Bool.and_self, if_true, ed, hf, hc]
  rfl
mutual
theorem chkS_ok : ∀ (s : Mi.St) {o : Ko} {st : Stmt}, chkS P o s st = true → ∀ {cl : Cl} {X : Cx} {k : Nat} {W : WX}, XSt P cl X k o W → PS X st (tSt P cl k X W s)
  | .set i e, o, st, h, cl, X, k, W, xs => by
    simp only [chkS] at h
    split at h
    · rename_i x p' ex pos
      simp only [Bool.and_eq_true, Bool.or_eq_true, decide_eq_true_eq, Bool.not_eq_true'] at h
      obtain ⟨⟨h1, h2⟩, h3⟩ := h
      have nm := nmB_of xs.xo h1
      rcases h3 with h3 | ⟨hnl, h3⟩
      · exact s_set xs.xo nm (noswap h3) (chkE_ok e h2 xs.xo).1
      · unfold lcSet at h3
        split at h3
        · rename_i eelt gens scope cpos
          split at h3
          · rename_i hc
            simp only [Bool.and_eq_true, decide_eq_true_eq, Bool.not_eq_true'] at hc
            obtain ⟨⟨c1, c2⟩, c3⟩ := hc
            obtain ⟨elt, tgt, src, cond, own, tg, iter, ifs, rfl, rfl, hsrc, hf, L, h00⟩ := lc_parts h2 hnl xs.xo
            obtain ⟨x', pos', e0, n1, n2, n3⟩ := nm.ok
            cases e0
            have hl : X.env.scope.names.lookup x = some .local := by rw [xs.xo.sc]; exact c1
            exact s_setLc xs.xo h00 n1 hl (sw_true (by rw [xs.xo.sc]; exact xs.fk) hl c2 c3) hsrc hf L
          · split at h3
            · rename_i hc
              have hc := of_decide_eq_true hc
              exact s_set xs.xo nm (sw_cell (by rw [xs.xo.sc]; exact hc)) (chkE_ok e h2 xs.xo).1
            · exact absurd rfl h3
        · exact absurd rfl h3
    · cases h
  | .setT is e, o, st, h, cl, X, k, W, xs => by
    simp only [chkS] at h
    split at h
    · simp only [Bool.and_eq_true] at h
      obtain ⟨h00, ⟨⟨⟨h1, h2⟩, h3⟩, h4⟩⟩ := h
      exact s_setT xs.xo h00 (.tp (nmsB_of xs.xo h1)) (noswap h3) (stores_none h4) rfl (chkE_ok e h2 xs.xo).1
    · cases h
  | .setL is e, o, st, h, cl, X, k, W, xs => by
    simp only [chkS] at h
    split at h
    · simp only [Bool.and_eq_true] at h
      obtain ⟨h00, ⟨⟨⟨h1, h2⟩, h3⟩, h4⟩⟩ := h
      exact s_setL xs.xo h00 (nmsB_of xs.xo h1) (noswap h3) (stores_none h4) rfl (chkE_ok e h2 xs.xo).1
    · cases h
  | .par is es, o, st, h, cl, X, k, W, xs => by
    simp only [chkS] at h
    split at h
    · split at h
      · simp only [Bool.and_eq_true, decide_eq_true_eq, Bool.not_eq_true'] at h
        obtain ⟨h00, h⟩ := h
        obtain ⟨⟨⟨⟨⟨⟨⟨⟨⟨⟨⟨h1, h2⟩, h3⟩, h4⟩, h5⟩, h6⟩, h7⟩, h8⟩, h9⟩, h10⟩, h11⟩, h12⟩ := h
        exact s_par xs.xo (by rw [h00]; rfl) (by rw [xs.xo.nn]; exact h1) (by rw [xs.xo.nn]; exact h2) h3 (by rw [xs.xo.sc]; exact h5) (by rw [xs.xo.sc]; exact h6) (chkEs_ok es h12 xs.xo) (stores_two (by rw [xs.xo.sc]; exact xs.fk) (by rw [xs.xo.sc]; exact h5) (by rw [xs.xo.sc]; exact h6) h7 h4 h8 h9 h10 h11)
      · cases h
    · split at h
      · simp only [Bool.and_eq_true, decide_eq_true_eq, Bool.not_eq_true'] at h
        obtain ⟨h00, h⟩ := h
        obtain ⟨⟨⟨⟨⟨⟨⟨⟨⟨⟨⟨⟨⟨⟨⟨⟨⟨⟨⟨a1, a2⟩, a3⟩, a4⟩, a5⟩, a6⟩, a7⟩, a8⟩, a9⟩, a10⟩, a11⟩, a12⟩, a13⟩, a14⟩, a15⟩, a16⟩, a17⟩, a18⟩, a19⟩, a20⟩ := h
        exact s_par3 xs.xo (by rw [h00]; rfl) (by rw [xs.xo.nn]; exact a1) (by rw [xs.xo.nn]; exact a2) (by rw [xs.xo.nn]; exact a3) a4 a5 a6 (by rw [xs.xo.sc]; exact a10) (by rw [xs.xo.sc]; exact a11) (by rw [xs.xo.sc]; exact a12) (chkEs_ok es a20 xs.xo)
          (stores_three (by rw [xs.xo.sc]; exact xs.fk) (by rw [xs.xo.sc]; exact a10) (by rw [xs.xo.sc]; exact a11) (by rw [xs.xo.sc]; exact a12) a13 a14 a7 a8 a9 a15 a16 a17 a18 a19)
      · cases h
    · cases h
  | .setI a i e, o, st, h, cl, X, k, W, xs => by
    simp only [chkS] at h
    split at h
    · simp only [Bool.and_eq_true] at h
      obtain ⟨⟨⟨h1, h3⟩, h4⟩, h5⟩ := h
      exact s_setI xs.xo h1 (chkE_ok a h3 xs.xo).1 (chkE_ok i h4 xs.xo).1 (chkE_ok e h5 xs.xo).1
    · cases h
  | .setF a f e, o, st, h, cl, X, k, W, xs => by
    simp only [chkS] at h
    split at h
    · simp only [Bool.and_eq_true] at h
      obtain ⟨⟨⟨h1, h2⟩, h3⟩, h4⟩ := h
      have := nm_of h1
      subst this
      exact s_setF xs.xo (by simpa using h2) sw_fld (chkE_ok a h3 xs.xo).1 (chkE_ok e h4 xs.xo).1
    · cases h
  | .aug i op e, o, st, h, cl, X, k, W, xs => by
    simp only [chkS] at h
    split at h
    · simp only [Bool.and_eq_true, decide_eq_true_eq] at h
      obtain ⟨⟨rfl, h2⟩, h3⟩ := h
      exact s_aug xs.xo (nmB_of xs.xo h2) (chkE_ok e h3 xs.xo).1
    · cases h
  | .augI a i op e, o, st, h, cl, X, k, W, xs => by
    simp only [chkS] at h
    split at h
    · simp only [Bool.and_eq_true, decide_eq_true_eq] at h
      obtain ⟨⟨⟨⟨rfl, h1⟩, h2⟩, h3⟩, h4⟩ := h
      exact s_augI xs.xo h1 (chkE_ok a h2 xs.xo).1 (chkE_ok i h3 xs.xo).1 (chkE_ok e h4 xs.xo).1
    · cases h
  | .augF a f op e, o, st, h, cl, X, k, W, xs => by
    simp only [chkS] at h
    split at h
    · simp only [Bool.and_eq_true, decide_eq_true_eq] at h
      obtain ⟨⟨⟨⟨rfl, h1⟩, h2⟩, h3⟩, h4⟩ := h
      have := nm_of h1
      subst this
      exact s_augF xs.xo (by simpa using h2) (chkE_ok a h3 xs.xo).1 (chkE_ok e h4 xs.xo).1
    · cases h
  | .expr e, o, st, h, cl, X, k, W, xs => by
    simp only [chkS] at h
    split at h
    · simp only [Bool.and_eq_true] at h
      exact s_expr h.1 (chkE_ok e h.2 xs.xo).1
    · split at h
      · simp only [Bool.and_eq_true] at h
        obtain ⟨⟨⟨h1, h3⟩, h4⟩, h5⟩ := h
        exact s_kadd xs.xo h1 (chkE_ok _ h3 xs.xo).1 (chkE_ok _ h4 xs.xo).1 (chkE_ok _ h5 xs.xo).1
      · cases h
    · cases h
  | .ret e, o, st, h, cl, X, k, W, xs => by
    simp only [chkS] at h
    split at h
    · exact s_ret (chkE_ok e h xs.xo).1
    · cases h
  | .retN, o, st, h, cl, X, k, W, xs => by
    simp only [chkS] at h
    split at h
    · exact s_retN
    · cases h
  | .ife c a b, o, st, h, cl, X, k, W, xs => by
    simp only [chkS] at h
    split at h
    · simp only [Bool.and_eq_true] at h
      exact s_if (chkT_ok c h.1.1 xs.xo).1 (chkSs_ok a h.1.2 xs) (chkSs_ok b h.2 xs)
    · cases h
  | .for tg src body, o, st, h, cl, X, k, W, xs => by
    simp only [chkS] at h
    split at h
    · simp only [Bool.and_eq_true] at h
      obtain ⟨h00, ⟨⟨⟨h1, h2⟩, h3⟩, h4⟩⟩ := h
      exact s_for xs h00 (chkSrc_ok src h3 xs.xo) (folded_of (by revert h2; unfold notSet; split <;> simp)) (tgB_of xs.xo h1) (chkSs_ok body h4 xs)
    · cases h
  | .while c body, o, st, h, cl, X, k, W, xs => by
    simp only [chkS] at h
    split at h
    · simp only [Bool.and_eq_true] at h
      exact s_while xs h.1 (chkT_ok c h.2.1 xs.xo).1 (chkSs_ok body h.2.2 xs)
    · cases h
  | .raise c, o, st, h, cl, X, k, W, xs => by
    simp only [chkS] at h
    split at h
    · simp only [Bool.and_eq_true] at h
      obtain ⟨h00, ⟨⟨⟨h1, h2⟩, h3⟩, h4⟩⟩ := h
      have := nm_of h1
      subst this
      exact s_raise xs.xo xs.tks h00 (gl_of xs.xo h2) (ndb_of h3) (by simpa using h4)
    · cases h
  | .try body hs orelse, o, st, h, cl, X, k, W, xs => by
    unfold chkS at h
    split at h
    · rename_i c i suite
      split at h
      · simp only [Bool.and_eq_true, decide_eq_true_eq] at h
        obtain ⟨h00, ⟨⟨⟨⟨⟨⟨⟨h1, h2⟩, h3⟩, h4⟩, h5⟩, h6⟩, h7⟩, h8⟩⟩ := h
        have := nm_of h1
        subst this
        exact s_try (x := c) xs h00 (by rw [xs.xo.nn]; exact h5) (by show X.env.scope.names.lookup _ = _; rw [xs.xo.sc]; exact h6) (gl_of xs.xo h2) (ndb_of h3) (by simpa using h4) (fun xs' => chkSs_ok body h7 xs') (fun xs' => chkSs_ok suite h8 xs')
      · cases h
    · cases h
  | .tryK body c i t, o, st, h, cl, X, k, W, xs => by
    unfold chkS at h
    split at h
    · simp only [Bool.and_eq_true, decide_eq_true_eq] at h
      obtain ⟨h00, ⟨⟨⟨⟨⟨⟨⟨⟨⟨h1, h2⟩, h3⟩, h4⟩, h5⟩, h6⟩, h7⟩, h8⟩, h9⟩, h10⟩⟩ := h
      have := nm_of h1
      subst this
      refine s_tryK (x := c) xs h00 (by rw [xs.xo.nn]; exact h5) (by show X.env.scope.names.lookup _ = _; rw [xs.xo.sc]; exact h6) (gl_of xs.xo h2) (ndb_of h3) (by simpa using h4) h7 (fun xs' => chkSs_ok body h8 xs') (fun xs' => ss_cons (s_set xs'.xo (nmB_of xs'.xo h9) (noswap rfl) (chkE_ok (.loc i) h10 xs'.xo).1) ss_nil)
    · cases h
  | .cont, o, st, h, cl, X, k, W, xs => by
    simp only [chkS] at h
    split at h
    · exact s_cont
    · cases h
  | .pass, o, st, h, cl, X, k, W, xs => by
    simp only [chkS] at h
    split at h
    · exact s_next ps_pass
    · unfold isDoc at h
      split at h
      · exact s_next ps_doc
      · cases h
    · cases h
  | .lck i s, o, st, h, cl, X, k, W, xs => by
    simp only [chkS] at h
    exact s_lck (chkS_ok s h xs)
theorem chkSs_ok : ∀ (ss : Sts) {o : Ko} {sts : List Stmt}, chkSs P o ss sts = true → ∀ {cl : Cl} {X : Cx} {k : Nat} {W : WX}, XSt P cl X k o W → PSs X sts (tSts P cl k X W ss)
  | .nil, o, sts, h, cl, X, k, W, xs => by
    simp only [chkSs] at h
    split at h
    · exact ss_nil
    · cases h
  | .cons s ss, o, sts, h, cl, X, k, W, xs => by
    simp only [chkSs] at h
    split at h
    · simp only [Bool.and_eq_true] at h
      exact ss_cons (chkS_ok s h.1 xs) (chkSs_ok ss h.2 xs)
    · cases h
end
end
end Mi

set_option maxHeartbeats 4000000
namespace Mi
open PySem PySem.Spec L2 PyProof.Rows
/-! ### defs -/
structure Rw where
  fk : FK
  d : FDef
  dd : He.DefD
def atOf : FK → Str × Option Str
  | .f x => (Str.ofString x, none)
  | .m c x => (Str.ofString c, some (Str.ofString x))
def Rw.N (r : Rw) : List Str := r.d.names.map Str.ofString
def Rw.ps (r : Rw) : List Str := r.N.take r.d.params
def scB (N ps : List Str) (sc : Scope) : Bool := decide (sc.kind = .function) && !sc.isCoroutine && !sc.isGenerator && decide N.Nodup && (ps.all fun x => locB sc x) && (sc.names.all fun y => decide (y.2 ≠ .free))
def dflB : List Lit → List He.Dv → Bool
  | [], [] => true
  | .non :: r, .non :: q => dflB r q
  | .bl b :: r, .bl c :: q => (b == c) && dflB r q
  | .int b :: r, .int c :: q => (b == c) && dflB r q
  | .str b :: r, .str c :: q => nmEq b c && dflB r q
  | _, _ => false
theorem dflB_of {K : PySem.W.Frag} : ∀ {ls : List Lit} {ds : List He.Dv}, dflB ls ds = true → ds.map (He.Dv.v K) = ls.map litV
  | [], [], _ => rfl
  | .non :: r, .non :: q, h => by simp only [dflB] at h; rw [List.map_cons, List.map_cons, dflB_of h]; rfl
  | .bl b :: r, .bl c :: q, h => by
    simp only [dflB, Bool.and_eq_true, beq_iff_eq] at h
    rw [List.map_cons, List.map_cons, dflB_of h.2, h.1]; rfl
  | .int b :: r, .int c :: q, h => by
    simp only [dflB, Bool.and_eq_true, beq_iff_eq] at h
    rw [List.map_cons, List.map_cons, dflB_of h.2, h.1]; rfl
  | .str b :: r, .str c :: q, h => by
    simp only [dflB, Bool.and_eq_true] at h
    rw [List.map_cons, List.map_cons, dflB_of h.2, nm_of h.1]; rfl
  | [], _ :: _, h => by cases h
  | l :: _, [], h => by cases l <;> cases h
  | .non :: _, .bl _ :: _, h | .non :: _, .int _ :: _, h | .non :: _, .str _ :: _, h | .non :: _, .byt _ :: _, h | .non :: _, .flt _ :: _, h | .non :: _, .ty _ :: _, h | .non :: _, .glo _ :: _, h | .non :: _, .adr _ :: _, h => by cases h
  | .bl _ :: _, .non :: _, h | .bl _ :: _, .int _ :: _, h | .bl _ :: _, .str _ :: _, h | .bl _ :: _, .byt _ :: _, h | .bl _ :: _, .flt _ :: _, h | .bl _ :: _, .ty _ :: _, h | .bl _ :: _, .glo _ :: _, h | .bl _ :: _, .adr _ :: _, h => by cases h
  | .int _ :: _, .non :: _, h | .int _ :: _, .bl _ :: _, h | .int _ :: _, .str _ :: _, h | .int _ :: _, .byt _ :: _, h | .int _ :: _, .flt _ :: _, h | .int _ :: _, .ty _ :: _, h | .int _ :: _, .glo _ :: _, h | .int _ :: _, .adr _ :: _, h => by cases h
  | .str _ :: _, .non :: _, h | .str _ :: _, .bl _ :: _, h | .str _ :: _, .int _ :: _, h | .str _ :: _, .byt _ :: _, h | .str _ :: _, .flt _ :: _, h | .str _ :: _, .ty _ :: _, h | .str _ :: _, .glo _ :: _, h | .str _ :: _, .adr _ :: _, h => by cases h
def Rw.ko (P : Pg) (r : Rw) : Ko := ⟨r.N, r.dd.scope, fun _ => true, P.isHot r.fk, if P.isHot r.fk = true then [] else P.hotf⟩
def Rw.ok (P : Pg) (r : Rw) : Bool := decide (r.dd.at_ = atOf r.fk) && scB r.N r.ps r.dd.scope && dflB r.d.dflt r.dd.dfl && r.dd.kwd.isEmpty && decide (r.d.dflt.length ≤ r.d.params) && decide (r.d.params ≤ r.d.names.length) && chkSs P (r.ko P) r.d.body r.dd.body
theorem len1 {α : Type} {l : List α} (h : l.length = 1) : ∃ a, l = [a] := by
  match l, h with
  | [a], _ => exact ⟨a, rfl⟩
theorem len2 {α : Type} {l : List α} (h : l.length = 2) : ∃ a b, l = [a, b] := by
  match l, h with
  | [a, b], _ => exact ⟨a, b, rfl⟩
theorem len3 {α : Type} {l : List α} (h : l.length = 3) : ∃ a b c, l = [a, b, c] := by
  match l, h with
  | [a, b, c], _ => exact ⟨a, b, c, rfl⟩
theorem len4 {α : Type} {l : List α} (h : l.length = 4) : ∃ a b c d, l = [a, b, c, d] := by
  match l, h with
  | [a, b, c, d], _ => exact ⟨a, b, c, d, rfl⟩
theorem len5 {α : Type} {l : List α} (h : l.length = 5) : ∃ a b c d e, l = [a, b, c, d, e] := by
  match l, h with
  | [a, b, c, d, e], _ => exact ⟨a, b, c, d, e, rfl⟩
/-- how its arguments bind -/
structure BindP (r : Rw) : Prop where
  none : r.dd.dfl = [] → ∀ (kV doc pm : Value) (an : Option Addr) (cdv ct : Value) (us : List Value), us.length = r.ps.length → bindArgs (PySem.W.fnOf r.dd.name r.dd.qual r.dd.params r.dd.body r.dd.scope .none kV doc pm an cdv ct) ⟨us, []⟩ = pure (r.ps.zip us)
  some : r.dd.dfl ≠ [] → ∀ j, j ≤ r.dd.dfl.length → ∀ (T : Addr) (kV doc pm : Value) (an : Option Addr) (cdv ct : Value) (us its : List Value), us.length + (r.dd.dfl.length - j) = r.ps.length → its.length = r.dd.dfl.length →
    ∃ k, bindArgs (PySem.W.fnOf r.dd.name r.dd.qual r.dd.params r.dd.body r.dd.scope (.ref T) kV doc pm an cdv ct) ⟨us, []⟩ = seqItems? (.ref T) >>= k ∧ k (some its.toArray) = pure (r.ps.zip (us ++ its.drop j))
theorem BindP.of0 {r : Rw} (h0 : r.dd.dfl = []) (h : ∀ (kV doc pm : Value) (an : Option Addr) (cdv ct : Value) (us : List Value), us.length = r.ps.length → bindArgs (PySem.W.fnOf r.dd.name r.dd.qual r.dd.params r.dd.body r.dd.scope .none kV doc pm an cdv ct) ⟨us, []⟩ = pure (r.ps.zip us)) : BindP r := ⟨fun _ => h, fun z => absurd h0 z⟩
section
variable {P : Pg} {cl : Cl} {prog : Program} {w : World} {K : PySem.W.Frag} {mg : Str → Option Value} {base : Heap} {k : Nat}
theorem start_sv {m : Sm} {d : FDef} {args : List Val} {vs : List V} {N : List Str} (r : RDs m args vs) (hN : N.length = d.names.length) (hl : args.length ≤ d.names.length) : SV m (startE d args) (L2.start N vs) := by
  have e := r.length
  refine ⟨by unfold startE L2.start; simp [hN, e], fun i v h => ?_⟩
  unfold startE at h
  unfold L2.start
  by_cases hi : i < args.length
  · rw [List.getElem?_append_left (by simpa using hi)] at h
    rw [List.getElem?_append_left (by simpa [← e] using hi)]
    rw [List.getElem?_map] at h ⊢
    cases q : args[i]? with
    | none => rw [q] at h; cases h
    | some u =>
      rw [q] at h
      cases h
      obtain ⟨x, h1, h2⟩ := r.get q
      exact ⟨x, by rw [h1]; rfl, h2⟩
  · rw [List.getElem?_append_right (by simpa using hi)] at h
    rw [List.getElem?_replicate] at h
    split at h <;> cases h
theorem Rw.parts {r : Rw} (h : r.ok P = true) : r.dd.at_ = atOf r.fk ∧ scB r.N r.ps r.dd.scope = true ∧ dflB r.d.dflt r.dd.dfl = true ∧ r.dd.kwd = [] ∧ r.d.dflt.length ≤ r.d.params ∧ r.d.params ≤ r.d.names.length ∧ chkSs P (r.ko P) r.d.body r.dd.body = true := by
  unfold Rw.ok at h
  simp only [Bool.and_eq_true, decide_eq_true_eq, List.isEmpty_iff] at h
  obtain ⟨⟨⟨⟨⟨⟨h1, h2⟩, h3⟩, h4⟩, h5⟩, h6⟩, h7⟩ := h
  exact ⟨h1, h2, h3, h4, h5, h6, h7⟩
theorem Rw.psl {r : Rw} (h : r.ok P = true) : r.ps.length = r.d.params := by
  obtain ⟨_, _, _, _, _, h6, _⟩ := Rw.parts h
  unfold Rw.ps Rw.N
  rw [List.length_take, List.length_map]
  omega
theorem Rw.scope {r : Rw} (h : r.ok P = true) : FnScope r.N r.ps r.dd.scope := by
  obtain ⟨_, h2, _⟩ := Rw.parts h
  unfold scB at h2
  simp only [Bool.and_eq_true, decide_eq_true_eq, Bool.not_eq_true', List.all_eq_true] at h2
  obtain ⟨⟨⟨⟨⟨k1, k2⟩, k3⟩, k4⟩, k5⟩, k6⟩ := h2
  exact ⟨k1, k2, k3, k4, by rw [Rw.psl h]; rfl, fun x hx => loc_of (k5 x hx), fun y hy => k6 y hy⟩
theorem PSs.pre {X : Cx} {st : List Stmt} {t : TS} (h : PSs X st t) : PSs X st (fun D σ H => KF X.K H → t D σ H) := ⟨fun pins s σ H D I hw => h.run pins s σ H D I (hw (kfree I))⟩
/-- a def keeps its promise, if those below do -/
theorem row_ok {r : Rw} {fd : FuncData} {a : Addr} (hr : r.ok P = true) (F : FunD K r.dd.name r.dd.qual r.dd.params r.dd.body r.dd.scope (r.dd.dvs K) (r.dd.kws K) a fd) (ln : Ln P K mg cl) (li : LnI K cl) (lx : LnX P K mg cl) (hcl : ∀ a c, ¬ cl.z a c) (hh : P.isHot r.fk = false) (ho : HotAll P cl prog w K mg base P.hotf) (fa : FnAll P cl prog w K mg base k) (hcw : cl.w = w) :
    FnOk prog w K mg base (L2N.CX prog w) (k + 1) a fd r.ps (fun vs H Q E => vs.length = r.ps.length ∧ (KF K H → spF P cl K mg k r.d vs H Q E)) := by
  have S := Rw.scope hr
  obtain ⟨_, _, _, _, _, h6, h7⟩ := Rw.parts hr
  refine F.ok S (fun vs H Q E h => h.1) fun cdv A outer s H vs Q E hroom h => ?_
  generalize hX : cxOf (L2N.CX prog w) prog w K mg base r.N r.dd.qual r.dd.scope a cdv A outer s H E = X
  have hhot : (r.ko P).hot = false := hh
  have xs : XSt P cl X k (r.ko P) (fun cls d _ H => E cls d H) := by
    subst hX
    exact { xo := { ln := ln, nd := S.nd, nn := rfl, sc := rfl, fnc := fun _ _ => rfl, isi := li, lx := lx, calm := fun _ => rfl, room := fun _ => hroom, un := Nat.lt_of_le_of_lt (Nat.add_le_add_right (Nat.le_add_right _ _) 200) hroom.un, zc := fun _ => hcl, rmh := fun h => (by rw [hhot] at h; cases h), zx := fun h => (by rw [hhot] at h; cases h), hots := (by unfold Rw.ko; rw [hh]; exact ho), tk := tkF_of rfl (L2N.takes_of rfl rfl rfl rfl), fr := inFr_of rfl rfl, fns := fun _ => fa, hw := hcw }, tks := L2N.takes_of rfl rfl rfl rfl, po := fun _ => passes_of rfl, stk := rfl, frm := rfl, fk := S.kind }
  refine ⟨_, PSs.pre (chkSs_ok r.d.body h7 xs), fun kf => ?_⟩
  have hXK : X.K = K := by subst hX; rfl
  have hXm : X.mg = mg := by subst hX; rfl
  rw [hXK] at kf
  obtain ⟨m, args, S', hK, hH, hS, rr, hl, hw⟩ := h.2 kf
  refine ⟨m, startE r.d args, S', by rw [hXK]; exact hK, hH, hS, start_sv rr (by unfold Rw.N; simp) (by omega), ?_⟩
  rw [hXm]
  exact wSs_mono (callW_mono P k) r.d.body (X := fun c _ S' => liftX cl mg m E c S') (D := { nx := fun _ S' => liftQ cl m Q .non S', rt := liftQ cl m Q })
    (fun c e S1 h1 m' σ' C e1 hS1 hV1 hC => h1 m' C e1 hS1 hC) ⟨fun e S1 h1 m' σ' e1 hS1 hV1 => h1 m' .non e1 hS1 .non, fun v S1 h1 => h1, fun _ _ h1 => h1.elim⟩ hw
/-- where the table's defs stand -/
theorem at_of {r : Rw} {fd : FuncData} (hr : r.ok P = true) (hb : BindP r) (F : FunD K r.dd.name r.dd.qual r.dd.params r.dd.body r.dd.scope (r.dd.dvs K) (r.dd.kws K) (He.fAd K r.dd.at_) fd)
    (hnm : match r.fk with
      | .f x => mg (Str.ofString x) = some (.ref (He.fAd K r.dd.at_))
      | .m c x => ∀ C, cl c C → Meth K C (Str.ofString x) (He.fAd K r.dd.at_) ∧ (x = "__init__" → Mk K C (He.fAd K r.dd.at_))) : At P cl K mg r.fk r.d (He.fAd K r.dd.at_) fd r.ps := by
  obtain ⟨h1, h2, h3, h4, h5, h6, h7⟩ := Rw.parts hr
  have hps := Rw.psl hr
  have hdv : r.dd.dvs K = r.d.dflt.map litV := dflB_of h3
  refine ⟨hnm, F.kp, hps, fun n hn => ?_⟩
  have hl : r.dd.dfl.length = r.d.dflt.length := by
    have := congrArg List.length hdv
    unfold He.DefD.dvs at this
    simpa using this
  have hkw : r.dd.kws K = [] := by unfold He.DefD.kws; rw [h4]; rfl
  by_cases hd : r.dd.dfl = []
  · have hd2 : r.d.dflt = [] := by
      rw [hd] at hl
      exact List.length_eq_zero_iff.mp hl.symm
    have hd3 : r.dd.dvs K = [] := by rw [hdv, hd2]; rfl
    rw [hkw, hd3] at F
    rw [hd2]
    simp only [List.drop_nil, List.map_nil]
    exact ⟨[], .nil, F.bindsN (hb.none hd)⟩
  · have hdl : (r.dd.dvs K).length = r.dd.dfl.length := by unfold He.DefD.dvs; simp
    have hd4 : r.dd.dvs K ≠ [] := fun e => by
      rw [e] at hdl
      exact hd (List.length_eq_zero_iff.mp hdl.symm)
    rw [hkw] at F
    have := F.binds1 (ps := r.ps) (r.ps.length - (r.dd.dfl.length - n)) n hd4 (by rw [hdl, hps]; omega) fun T kV doc pm an cdv ct us its hu hi => hb.some hd n (by omega) T kV doc pm an cdv ct us its (by rw [hu, hps]; omega) (by rw [hi, hdl])
    rw [hdv] at this
    rw [← List.map_drop] at this
    exact this
end
/-! ### facts -/
abbrev biNames : List String := ["len", "abs", "min", "max", "int", "str", "list", "tuple", "dict", "sum", "sorted", "all", "any", "range", "enumerate", "zip", "reversed", "isinstance", "bool"]
def faRow (r : Rw) : List He.Fa := match r.fk with
  | .f x => [.glo (Str.ofString x)]
  | .m c x => .meth (Str.ofString c) (Str.ofString x) :: (if x = "__init__" then [.mkr (Str.ofString c)] else [])
def faCls (flds : List String) (c : String) : List He.Fa := .glo (Str.ofString c) :: .cls (Str.ofString c) :: flds.map fun f => .noat (Str.ofString c) (Str.ofString f)
def faCon (p : String × Lit) : List He.Fa := match p.2 with
  | .int i => [.int (Str.ofString p.1) i]
  | .str z => [.str (Str.ofString p.1) (Str.ofString z)]
  | _ => []
def conOk (p : String × Lit) : Bool := match p.2 with
  | .int _ => true
  | .str _ => true
  | _ => false
def faOf (P : Pg) (tab : List Rw) (con : List (String × Lit)) : List He.Fa := tab.flatMap faRow ++ (P.cls.flatMap (faCls P.flds) ++ (con.flatMap faCon ++ (("ValueError" :: biNames).map (fun x => He.Fa.free (Str.ofString x)) ++ (P.excs.flatMap (fun c => [.glo (Str.ofString c), .exc (Str.ofString c)]) ++ ((P.tups.map fun p => .glo (Str.ofString p.1)) ++ P.exts.map fun c => .glo (Str.ofString c))))))
/-- literals beside values -/
def litVB : Value → Lit → Bool
  | .none, .non => true
  | .bool a, .bl b => a == b
  | .int i _, .int j => decide (i = j)
  | .str x _, .str y => decide (x = Str.ofString y)
  | _, _ => false
def litsVB : List Value → List Lit → Bool
  | [], [] => true
  | u :: us, l :: ls => litVB u l && litsVB us ls
  | _, _ => false
theorem litsVB_of : ∀ {us : List Value} {ls : List Lit}, litsVB us ls = true → Vals (ls.map litV) us
  | [], [], _ => .nil
  | u :: us, l :: ls, h => by
    simp only [litsVB, Bool.and_eq_true] at h
    refine .cons ?_ (litsVB_of h.2)
    have h1 := h.1
    unfold litVB at h1
    split at h1
    · rfl
    · rw [beq_iff_eq.mp h1]; rfl
    · rw [of_decide_eq_true h1]; exact ⟨_, rfl⟩
    · rw [of_decide_eq_true h1]; exact ⟨_, rfl⟩
    · cases h1
  | [], _ :: _, h => by cases h
  | _ :: _, [], h => by cases h
/-- a tuple of literals at the top -/
def tupB (K : PySem.W.Frag) (p : String × List Lit) : Bool := match K.lookup (He.ga K (Str.ofString p.1)) with
  | some o => decide (o.cls = .type "tuple") && (match o.data with
    | .seq its _ => decide (its.size ≤ sizeLine) && litsVB its.toList p.2
    | _ => false)
  | none => false
theorem tupB_of {K : PySem.W.Frag} {p : String × List Lit} (h : tupB K p = true) (H : Hp) : SqT K H (He.ga K (Str.ofString p.1)) (p.2.map litV) := by
  unfold tupB at h
  split at h
  · rename_i o ho
    simp only [Bool.and_eq_true, decide_eq_true_eq] at h
    obtain ⟨h1, h2⟩ := h
    split at h2
    · rename_i its n hd
      simp only [Bool.and_eq_true, decide_eq_true_eq] at h2
      exact .inr ⟨o, its, n, ho, h1, hd, h2.1, litsVB_of h2.2⟩
    · cases h2
  · cases h
def clOf (P : Pg) (K : PySem.W.Frag) (w : World) : Cl := ⟨fun c C => c ∈ P.cls ∧ C = He.ga K (Str.ofString c), fun _ _ => False, fun c C => c ∈ P.excs ∧ C = He.ga K (Str.ofString c), w⟩
def lniB (cls : List String) (K : PySem.W.Frag) : Bool :=
  cls.all fun c => decide (PySem.W.findIn K (.ref (He.ga K (Str.ofString c))) "__class__" = some (some (.builtin "object.__class__"))) && decide (PySem.W.specialIn K (.builtin "object.__class__") "__get__" = some (some (.builtin "getset_descriptor.__get__"))) && decide (PySem.W.takesIn K (.builtin "object.__class__") = some true) && decide (PySem.W.mroIn K (He.ga K (Str.ofString c)) (.type "object") = some true) &&
    (["int", "bool", "str", "tuple", "list", "dict"].all fun n => decide (PySem.W.kitOne K (.ref (He.ga K (Str.ofString c))) (.type n) = some false)) &&
    (["NoneType", "int", "bool", "str", "tuple", "list", "dict"].all fun n => decide (PySem.W.kitOne K (.type n) (.ref (He.ga K (Str.ofString c))) = some false)) &&
    (cls.all fun c' => decide (PySem.W.kitOne K (.ref (He.ga K (Str.ofString c))) (.ref (He.ga K (Str.ofString c'))) = some (c == c')))
theorem lni_of {w : World} {P : Pg} {K : PySem.W.Frag} (h : lniB P.cls K = true) : LnI K (clOf P K w) := by
  unfold lniB at h
  simp only [List.all_eq_true, Bool.and_eq_true, decide_eq_true_eq] at h
  refine ⟨?_, ?_, ?_, ?_⟩
  · rintro c C ⟨hc, rfl⟩
    obtain ⟨⟨⟨⟨⟨⟨h1, h2⟩, h3⟩, h4⟩, h5⟩, h6⟩, h7⟩ := h c hc
    exact ⟨h1, h2, h3, h4⟩
  · rintro c C ⟨hc, rfl⟩ n hn
    obtain ⟨⟨⟨⟨⟨⟨h1, h2⟩, h3⟩, h4⟩, h5⟩, h6⟩, h7⟩ := h c hc
    exact h5 n hn
  · rintro c C ⟨hc, rfl⟩ n hn
    obtain ⟨⟨⟨⟨⟨⟨h1, h2⟩, h3⟩, h4⟩, h5⟩, h6⟩, h7⟩ := h c hc
    exact h6 n hn
  · rintro c C c' C' ⟨hc, rfl⟩ ⟨hc', rfl⟩
    obtain ⟨⟨⟨⟨⟨⟨h1, h2⟩, h3⟩, h4⟩, h5⟩, h6⟩, h7⟩ := h c hc
    exact h7 c' hc'
/-- .. about exceptions -/
def lnxB (P : Pg) (K : PySem.W.Frag) : Bool := P.excs.all fun c =>
  decide (c ≠ "{}") && decide (PySem.W.findIn K (.ref (He.ga K (Str.ofString c))) "__getattribute__" = some (some (.builtin "BaseException.__getattribute__"))) && decide (PySem.W.findIn K (.ref (He.ga K (Str.ofString c))) "__getattr__" = some none) && decide (PySem.W.subIn K (.ref (He.ga K (Str.ofString c))) (.type "BaseException") = some true) && PySem.W.hasDictIn K (He.ga K (Str.ofString c)) &&
    decide (PySem.W.findIn K (.ref (He.ga K (Str.ofString c))) "__class__" = some (some (.builtin "object.__class__"))) && decide (PySem.W.specialIn K (.builtin "object.__class__") "__get__" = some (some (.builtin "getset_descriptor.__get__"))) && decide (PySem.W.takesIn K (.builtin "object.__class__") = some true) && decide (PySem.W.mroIn K (He.ga K (Str.ofString c)) (.type "object") = some true) &&
    decide (PySem.W.kitOne K (.ref (He.ga K (Str.ofString c))) (.type "ValueError") = some (P.sub c "ValueError")) && (P.exts.all fun d => decide (PySem.W.kitOne K (.ref (He.ga K (Str.ofString c))) (.ref (He.ga K (Str.ofString d))) = some (P.sub c d))) && (P.excs.all fun d => decide (PySem.W.kitOne K (.ref (He.ga K (Str.ofString c))) (.ref (He.ga K (Str.ofString d))) = some (P.sub c d)) && decide (PySem.W.subIn K (.ref (He.ga K (Str.ofString c))) (.ref (He.ga K (Str.ofString d))) = some (P.sub c d))) && (["int", "bool", "str", "tuple"].all fun n => decide (PySem.W.kitOne K (.ref (He.ga K (Str.ofString c))) (.type n) = some false))
def exB (P : Pg) (K : PySem.W.Frag) : Bool := lniB P.cls K && (lnxB P K && P.tups.all (tupB K))
section
variable {P : Pg} {tab : List Rw} {con : List (String × Lit)} {K : PySem.W.Frag} {mg : Str → Option Value} {h : Heap}
theorem fact_of (c : He.SaysD (faOf P tab con) (tab.map (·.dd)) K) {f : He.Fa} (hf : f ∈ faOf P tab con) : f.ok K = true := c.facts hf
theorem ln_of {w : World} (KX : K.In h) (G : h.Ns mainGlobals mg) (c : He.SaysD (faOf P tab con) (tab.map (·.dd)) K) (hcon : ∀ x v, P.con x = some v → (∃ l, (x, l) ∈ con ∧ v = Lit.val l) ∨ ∃ ls, (x, ls) ∈ P.tups ∧ v = .tup (ls.map Lit.val)) (hc : con.all conOk = true) (ht : P.tups.all (tupB K) = true) : Ln P K mg (clOf P K w) := by
  refine ⟨?_, ?_, ?_, ?_, ?_, ?_⟩
  · intro x v hx
    rcases hcon x v hx with ⟨l, hl, rfl⟩ | ⟨ls, hl, rfl⟩
    rotate_left
    · have sq := tupB_of (List.all_eq_true.mp ht _ hl)
      refine ⟨.ref (He.ga K (Str.ofString x)), _, He.glo_ok KX G (fact_of c (f := .glo (Str.ofString x)) (List.mem_append_right _ (List.mem_append_right _ (List.mem_append_right _ (List.mem_append_right _ (List.mem_append_right _ (List.mem_append_left _ (List.mem_map.mpr ⟨_, hl, rfl⟩)))))))), rfl, fun m hm => .tup (by rw [hm]; exact sq m.H) (lits_rd ls)⟩
    have ok := List.all_eq_true.mp hc _ hl
    have mem : ∀ f ∈ faCon (x, l), f ∈ faOf P tab con := fun f hf => List.mem_append_right _ (List.mem_append_right _ (List.mem_append_left _ (List.mem_flatMap.mpr ⟨_, hl, hf⟩)))
    cases l with
    | int i =>
      obtain ⟨t, e⟩ := He.int_ok KX G (fact_of c (mem (.int (Str.ofString x) i) (by simp [faCon])))
      exact ⟨.int i, _, e, ⟨t, rfl⟩, fun m _ => .int i⟩
    | str z =>
      obtain ⟨t, e⟩ := He.str_ok KX G (fact_of c (mem (.str (Str.ofString x) (Str.ofString z)) (by simp [faCon])))
      exact ⟨.str _, _, e, ⟨t, rfl⟩, fun m _ => .str z⟩
    | non => cases ok
    | bl b => cases ok
  · rintro c' C ⟨hc', rfl⟩
    have mem : ∀ f ∈ faCls P.flds c', f ∈ faOf P tab con := fun f hf => List.mem_append_right _ (List.mem_append_left _ (List.mem_flatMap.mpr ⟨_, hc', hf⟩))
    exact ⟨He.glo_ok KX G (fact_of c (mem (.glo _) (by simp [faCls]))), He.cls_ok (fact_of c (mem (.cls _) (by simp [faCls])))⟩
  · rintro c' C ⟨hc', rfl⟩ f hf
    have mem : ∀ f ∈ faCls P.flds c', f ∈ faOf P tab con := fun f hf => List.mem_append_right _ (List.mem_append_left _ (List.mem_flatMap.mpr ⟨_, hc', hf⟩))
    exact He.noat_ok (fact_of c (mem (.noat _ (Str.ofString f)) (by simp [faCls]; exact ⟨f, hf, rfl⟩)))
  · intro c' hc'
    exact ⟨_, hc', rfl⟩
  · intro c' hc'
    have mem : ∀ f ∈ [He.Fa.glo (Str.ofString c'), .exc (Str.ofString c')], f ∈ faOf P tab con := fun f hf => List.mem_append_right _ (List.mem_append_right _ (List.mem_append_right _ (List.mem_append_right _ (List.mem_append_left _ (List.mem_flatMap.mpr ⟨c', hc', hf⟩)))))
    obtain ⟨e1, e2, e3, e4⟩ := He.exc_ok (fact_of c (mem (.exc (Str.ofString c')) (by simp)))
    exact ⟨_, He.glo_ok KX G (fact_of c (mem (.glo (Str.ofString c')) (by simp))), e1, e2, e3, e4⟩
  · intro x hx
    exact He.free_ok KX G (fact_of c (List.mem_append_right _ (List.mem_append_right _ (List.mem_append_right _ (List.mem_append_left _ (List.mem_map.mpr ⟨x, List.mem_cons_of_mem _ hx, rfl⟩))))))
theorem lnx_of {w : World} (KX : K.In h) (G : h.Ns mainGlobals mg) (c : He.SaysD (faOf P tab con) (tab.map (·.dd)) K) (hx : lnxB P K = true) : LnX P K mg (clOf P K w) := by
  have at_ : ∀ d ∈ P.excs, ∀ D, mg (Str.ofString d) = some (.ref D) → D = He.ga K (Str.ofString d) := fun d hd D hD => by
    have mem : ∀ f ∈ [He.Fa.glo (Str.ofString d), .exc (Str.ofString d)], f ∈ faOf P tab con := fun f hf => List.mem_append_right _ (List.mem_append_right _ (List.mem_append_right _ (List.mem_append_right _ (List.mem_append_left _ (List.mem_flatMap.mpr ⟨d, hd, hf⟩)))))
    have := He.glo_ok KX G (fact_of c (mem (.glo (Str.ofString d)) (by simp)))
    rw [this] at hD
    cases hD
    rfl
  unfold lnxB at hx
  simp only [List.all_eq_true, Bool.and_eq_true, decide_eq_true_eq] at hx
  refine ⟨fun d hd D hD => ?_, fun d hd d2 hd2 D D2 hD hD2 => ?_, ?_, fun d hd D hD n hn => ?_, fun d hd => ?_, fun d hd => (hx d hd).1.1.1.1.1.1.1.1.1.1.1.1, fun c C => ⟨fun ⟨h1, h2⟩ => ⟨h1, ?_⟩, fun ⟨h1, h2⟩ => ⟨h1, at_ c h1 C h2⟩⟩⟩
  · rw [at_ d hd D hD]
    obtain ⟨⟨⟨⟨⟨⟨⟨⟨⟨⟨⟨⟨h0, h1⟩, h2⟩, h3⟩, h4⟩, h5⟩, h6⟩, h7⟩, h8⟩, h9⟩, _⟩, _⟩, _⟩ := hx d hd
    exact ⟨⟨h1, h2, h3, h4, h5, h6, h7, h8⟩, h9⟩
  · rw [at_ d hd D hD, at_ d2 hd2 D2 hD2]
    exact (hx d hd).1.2 d2 hd2
  · exact He.free_ok KX G (fact_of c (List.mem_append_right _ (List.mem_append_right _ (List.mem_append_right _ (List.mem_append_left _ (List.mem_map.mpr ⟨"ValueError", List.mem_cons_self, rfl⟩))))))
  · rw [at_ d hd D hD]
    exact (hx d hd).2 n hn
  · refine ⟨_, He.glo_ok KX G (fact_of c (f := .glo (Str.ofString d)) (List.mem_append_right _ (List.mem_append_right _ (List.mem_append_right _ (List.mem_append_right _ (List.mem_append_right _ (List.mem_append_right _ (List.mem_map.mpr ⟨_, hd, rfl⟩)))))))), fun c' hc' D hD => ?_⟩
    rw [at_ c' hc' D hD]
    exact (hx c' hc').1.1.2 d hd
  · have mem : ∀ f ∈ [He.Fa.glo (Str.ofString c), .exc (Str.ofString c)], f ∈ faOf P tab con := fun f hf => List.mem_append_right _ (List.mem_append_right _ (List.mem_append_right _ (List.mem_append_right _ (List.mem_append_left _ (List.mem_flatMap.mpr ⟨c, h1, hf⟩)))))
    rw [h2]
    exact He.glo_ok KX G (fact_of ‹_› (mem (.glo (Str.ofString c)) (by simp)))
/-- a def keeps its promise where an exception is handled -/
theorem fn_ofE {prog : Program} {w : World} {base : Heap} {x qual : Str} {params : Arguments} {body : List Stmt} {scope : Scope} {dvs : List V} {kws : List (Str × V)} {f : Addr} {fd : FuncData} {N ps : List Str} {sp : Addr × Obj → L2.Sp} (F : FunD K x qual params body scope dvs kws f fd) (S : FnScope N ps scope) (len : ∀ q vs H Q E, sp q vs H Q E → vs.length = ps.length)
    (hbody : ∀ (cdv : Value) (q : Addr × Obj) (A : Around) (outer : List PySem.Env) (s : Shared) (H : Hp) (vs : List V) (Q : VK) (E : XK), L2H.Hot1 A q → L2H.RoomH 1 A → sp q vs H Q E →
      ∃ t, PSs (L2H.cxH (L2N.CX prog w) prog w K mg base N qual scope f cdv A outer s H E q) body t ∧ t { nx := fun _ H' => Q .non H', rt := Q } (L2.start N vs) H) : FnE prog w K mg base f fd ps sp := by
  obtain ⟨oc, od, dV, kV, doc, pm, an, cdv, ct, osl, rfl, lk, hcd, _, _⟩ := F.ex
  refine ⟨len, fun q A outer s H args us vs Q E rm hot1 pin e0 hb r hsp => ?_⟩
  have kin := e0.mod.kin.keeps fun b o e => (e0.bs b o e).1
  have nolim := e0.mod.nolimit.keeps fun b o e => (e0.bs b o e).1
  have kinds : ∀ y ∈ ps.zip us, scope.names.lookup y.1 = some .local ∨ (scope.names.lookup y.1 = some .cell ∧ ((cellsFrom (s.heap.objs.size + 1) scope.names []).lookup y.1).isSome = true) := by
    rintro ⟨n, v⟩ hy
    exact (S.par n (List.of_mem_zip hy).1).imp id fun z => ⟨z, PySem.W.cellsFrom_some _ _ _ (.inl z)⟩
  refine codeAny_call_function (by have := rm.dp; omega) (kin _ _ lk) rfl S.co S.gen rfl (PySem.W.codeRec_of kin hcd) (hb _ _ _ _ ?_)
  refine wpAny_newFunctionEnv_cells S.kind kinds fun env he s1 hx => ?_
  subst he
  refine ⟨nolim.keeps hx.toInCall.keep, codeAny_func ?_⟩
  obtain ⟨t, ht, hq⟩ := hbody cdv q A outer s H vs Q E hot1 rm hsp
  have J := L2H.inv_startH (CX := L2N.CX prog w) (cd := cdv) (E := E) S pin e0 (len _ _ _ _ _ hsp) r hx
  refine wpAny_mono (ht.run [] s1 (L2.start N vs) H _ J hq) (fun fl s' hs => ?_) fun _ _ h => h
  have done : ∀ {σ' : L2.St} {H' : Hp} {v : V} {u : Value}, Inv (L2H.cxH (L2N.CX prog w) prog w K mg base N qual scope f cdv A outer s H E q) [] σ' H' s' → RelV v u → Q v H' → CE outer prog w H s Q u s' :=
    fun {_ H' v _} J2 rv q2 => ⟨v, H', J2.os, J2.bare, J2.base, J2.hok, rv, q2⟩
  cases fl with
  | ret u => obtain ⟨v, σ', H', J2, rv, q2⟩ := hs; exact done J2 rv q2
  | next => obtain ⟨σ', H', J2, q2⟩ := hs; exact done (v := V.non) (u := Value.none) J2 rfl q2
  | brk => obtain ⟨_, _, _, z⟩ := hs; exact z.elim
  | cont => obtain ⟨_, _, _, z⟩ := hs; exact z.elim
theorem row_okE {prog : Program} {w : World} {base : Heap} {cl : Cl} {r : Rw} {fd : FuncData} {a : Addr} (hr : r.ok P = true) (F : FunD K r.dd.name r.dd.qual r.dd.params r.dd.body r.dd.scope (r.dd.dvs K) (r.dd.kws K) a fd) (ln : Ln P K mg cl) (li : LnI K cl) (lx : LnX P K mg cl) (hh : P.isHot r.fk = true) (j : Nat) (hcw : cl.w = w) :
    FnE prog w K mg base a fd r.ps fun q vs H Q E => vs.length = r.ps.length ∧ (KF K H → spH P cl K mg j r.d q vs H Q E) := by
  have S := Rw.scope hr
  obtain ⟨_, _, _, _, _, h6, h7⟩ := Rw.parts hr
  refine fn_ofE F S (fun q vs H Q E h => h.1) fun cdv q A outer s H vs Q E hot1 rm h => ?_
  generalize hX : L2H.cxH (L2N.CX prog w) prog w K mg base r.N r.dd.qual r.dd.scope a cdv A outer s H E q = X
  have hhot : (r.ko P).hot = true := hh
  have hhf : (r.ko P).hf = [] := by unfold Rw.ko; rw [hh]; rfl
  have hXK : X.K = K := by subst hX; rfl
  have hXm : X.mg = mg := by subst hX; rfl
  have xs : ∀ c, ExO P K mg c q.2 → XSt P (cl.at q.1 c) X j (r.ko P) (fun cls d _ H => E cls d H) := fun c ho => by
    subst hX
    exact {
      xo := {
        ln := ⟨ln.con, ln.clc, ln.fld, ln.has, ln.exc, ln.bi⟩
        nd := S.nd
        nn := rfl
        sc := rfl
        fnc := fun _ _ => rfl
        isi := ⟨li.isT, li.isB, li.isC, li.isCC⟩
        lx := ⟨lx.ex, lx.sb, lx.ve, lx.bt, lx.tx, lx.nk, lx.kx⟩
        calm := fun h => by rw [hhot] at h; cases h
        room := fun h => by rw [hhot] at h; cases h
        un := by
          have := rm.un
          show A.units + 3 + 200 < cLine
          omega
        zc := fun h => by rw [hhot] at h; cases h
        rmh := fun _ h => absurd hhf h
        zx := fun _ => ⟨q, c, hot1, List.mem_singleton.mpr rfl, fun _ _ h => h, ho⟩
        hots := by
          rw [hhf]
          intro f hf
          cases hf
        tk := tkF_of rfl (L2N.takes_of rfl rfl rfl rfl)
        fr := inFr_of rfl rfl
        fns := fun h => by rw [hhot] at h; cases h
        hw := hcw }
      po := fun h => by rw [hhot] at h; cases h
      tks := L2N.takes_of rfl rfl rfl rfl
      stk := rfl
      frm := rfl
      fk := S.kind }
  refine ⟨_, PSs.pre (t := fun D σ H => ∃ c, ExO P K mg c q.2 ∧ tSts P (cl.at q.1 c) j X (fun cls d _ H => E cls d H) r.d.body D σ H) ⟨fun pins s σ H D I ⟨c, ho, ht⟩ => (chkSs_ok r.d.body h7 (xs c ho)).run pins s σ H D I ht⟩, fun kf => ?_⟩
  rw [hXK] at kf
  obtain ⟨c, m, args, S', hK, hH, ho, hS, rr, hl, hw⟩ := h.2 kf
  refine ⟨c, ho, m, startE r.d args, S', by rw [hXK]; exact hK, hH, hS, start_sv rr (by unfold Rw.N; simp) (by omega), ?_⟩
  rw [hXm]
  exact wSs_mono (callW_mono P j) r.d.body (X := fun c' _ S' => liftX (cl.at q.1 c) mg m E c' S') (D := { nx := fun _ S' => liftQ (cl.at q.1 c) m Q .non S', rt := liftQ (cl.at q.1 c) m Q })
    (fun c' e S1 h1 m' σ' C e1 hS1 hV1 hC => h1 m' C e1 hS1 hC) ⟨fun e S1 h1 m' σ' e1 hS1 hV1 => h1 m' .non e1 hS1 .non, fun v S1 h1 => h1, fun _ _ h1 => h1.elim⟩ hw
theorem hotAll_of {prog : Program} {w : World} {base : Heap} (KX : K.In h) (G : h.Ns mainGlobals mg) (c : He.SaysD (faOf P tab con) (tab.map (·.dd)) K) (ln : Ln P K mg (clOf P K w)) (li : LnI K (clOf P K w)) (lx : LnX P K mg (clOf P K w)) (hrow : ∀ r ∈ tab, r.ok P = true) (hbind : ∀ r ∈ tab, BindP r) (hfn : ∀ f d, P.fn f = some d → ∃ r ∈ tab, r.fk = f ∧ r.d = d) : HotAll P (clOf P K w) prog w K mg base P.hotf := by
  intro f hf d hd hd0
  obtain ⟨r, hr, hfk, rfl⟩ := hfn (.f f) d hd
  obtain ⟨fd, F⟩ := c.defs (d := r.dd) (List.mem_map.mpr ⟨r, hr, rfl⟩)
  have hglo : mg (Str.ofString f) = some (.ref (He.fAd K r.dd.at_)) := by
    have := He.glo_ok KX G (fact_of c (f := .glo (Str.ofString f)) (List.mem_append_left _ (List.mem_flatMap.mpr ⟨r, hr, by unfold faRow; rw [hfk]; simp⟩)))
    rw [(Rw.parts (hrow r hr)).1, hfk]
    exact this
  have hat : At P (clOf P K w) K mg r.fk r.d (He.fAd K r.dd.at_) fd r.ps := at_of (hrow r hr) (hbind r hr) F (by rw [hfk]; exact hglo)
  obtain ⟨ds, hv, hb⟩ := hat.bd 0 (Nat.zero_le _)
  rw [hd0] at hv
  cases hv
  refine ⟨_, fd, r.ps, hglo, F.kp, Rw.psl (hrow r hr), hb, fun j => row_okE (hrow r hr) F ln li lx (by rw [hfk]; simpa [Pg.isHot] using hf) j rfl⟩
theorem fnAll_of {prog : Program} {w : World} {base : Heap} (KX : K.In h) (G : h.Ns mainGlobals mg) (c : He.SaysD (faOf P tab con) (tab.map (·.dd)) K) (ln : Ln P K mg (clOf P K w)) (li : LnI K (clOf P K w)) (lx : LnX P K mg (clOf P K w)) (hrow : ∀ r ∈ tab, r.ok P = true) (hbind : ∀ r ∈ tab, BindP r) (hfn : ∀ f d, P.fn f = some d → ∃ r ∈ tab, r.fk = f ∧ r.d = d) : ∀ k, FnAll P (clOf P K w) prog w K mg base k
  | 0 => fun f d hd _ => by
    obtain ⟨r, hr, rfl, rfl⟩ := hfn f d hd
    obtain ⟨fd, F⟩ := c.defs (d := r.dd) (List.mem_map.mpr ⟨r, hr, rfl⟩)
    refine ⟨_, fd, r.ps, at_of (hrow r hr) (hbind r hr) F ?_, fun j hj => absurd hj (Nat.not_lt_zero _)⟩
    have mem : ∀ f ∈ faRow r, f ∈ faOf P tab con := fun f hf => List.mem_append_left _ (List.mem_flatMap.mpr ⟨_, hr, hf⟩)
    rw [(Rw.parts (hrow r hr)).1]
    revert mem
    unfold faRow
    cases r.fk with
    | f x =>
      intro mem
      exact He.glo_ok KX G (fact_of c (mem (.glo _) (by simp)))
    | m c' x =>
      rintro mem C ⟨hc', rfl⟩
      refine ⟨He.meth_ok (fact_of c (mem (.meth _ _) (by simp))), fun e => ?_⟩
      subst e
      exact He.mkr_ok (fact_of c (mem (.mkr _) (by simp)))
  | k + 1 => fun f d hd hh => by
    have ih := fnAll_of (prog := prog) (w := w) (base := base) KX G c ln li lx hrow hbind hfn k
    obtain ⟨r, hr, rfl, rfl⟩ := hfn f d hd
    obtain ⟨fd, F⟩ := c.defs (d := r.dd) (List.mem_map.mpr ⟨r, hr, rfl⟩)
    refine ⟨_, fd, r.ps, at_of (hrow r hr) (hbind r hr) F ?_, fun j hj => ?_⟩
    · have mem : ∀ f ∈ faRow r, f ∈ faOf P tab con := fun f hf => List.mem_append_left _ (List.mem_flatMap.mpr ⟨_, hr, hf⟩)
      rw [(Rw.parts (hrow r hr)).1]
      revert mem
      unfold faRow
      cases r.fk with
      | f x =>
        intro mem
        exact He.glo_ok KX G (fact_of c (mem (.glo _) (by simp)))
      | m c' x =>
        rintro mem C ⟨hc', rfl⟩
        refine ⟨He.meth_ok (fact_of c (mem (.meth _ _) (by simp))), fun e => ?_⟩
        subst e
        exact He.mkr_ok (fact_of c (mem (.mkr _) (by simp)))
    · have fj : FnAll P (clOf P K w) prog w K mg base j := fun f d hd hh => by
        obtain ⟨a, fd, ps, h1, h2⟩ := ih f d hd hh
        exact ⟨a, fd, ps, h1, fun i hi => h2 i (by omega)⟩
      refine (row_ok (hrow r hr) F ln li lx (fun _ _ h => h) hh (hotAll_of KX G c ln li lx hrow hbind hfn) fj rfl).imp fun vs H Q E hsp => ⟨?_, fun _ => hsp⟩
      obtain ⟨m, args, S, hK, hH, hS, rr, hb⟩ := hsp
      rw [Rw.psl (hrow r hr), ← rr.length]
      exact hb.1
end
def fnOfT (tab : List Rw) : FK → Option FDef := fun f => (tab.find? fun r => decide (r.fk = f)).map (·.d)
theorem fnOfT_of {tab : List Rw} {f : FK} {d : FDef} (h : fnOfT tab f = some d) : ∃ r ∈ tab, r.fk = f ∧ r.d = d := by
  unfold fnOfT at h
  cases e : tab.find? fun r => decide (r.fk = f) with
  | none => rw [e] at h; cases h
  | some r =>
    rw [e] at h
    cases h
    exact ⟨r, List.mem_of_find?_eq_some e, of_decide_eq_true (List.find?_some (p := fun r : Rw => decide (r.fk = f)) e), rfl⟩
theorem look_mem {x : String} {l : Lit} : ∀ {con : List (String × Lit)}, con.lookup x = some l → (x, l) ∈ con
  | [], e => by cases e
  | (y, m) :: r, e => by
    rw [List.lookup_cons] at e
    split at e
    · rename_i hb
      have := beq_iff_eq.mp hb
      subst this
      cases e
      exact List.mem_cons_self
    · exact List.mem_cons_of_mem _ (look_mem e)
theorem lookT_mem {x : String} {l : List Lit} : ∀ {con : List (String × List Lit)}, con.lookup x = some l → (x, l) ∈ con
  | [], e => by cases e
  | (y, m) :: r, e => by
    rw [List.lookup_cons] at e
    split at e
    · rename_i hb
      have := beq_iff_eq.mp hb
      subst this
      cases e
      exact List.mem_cons_self
    · exact List.mem_cons_of_mem _ (lookT_mem e)
def conV (con : List (String × Lit)) (tups : List (String × List Lit)) (x : String) : Option Val := match con.lookup x with
  | some l => some l.val
  | none => (tups.lookup x).map fun ls => .tup (ls.map Lit.val)
theorem conV_of {con : List (String × Lit)} {tups : List (String × List Lit)} {x : String} {v : Val} (h : conV con tups x = some v) : (∃ l, (x, l) ∈ con ∧ v = Lit.val l) ∨ ∃ ls, (x, ls) ∈ tups ∧ v = .tup (ls.map Lit.val) := by
  unfold conV at h
  split at h
  · rename_i l e
    cases h
    exact .inl ⟨l, look_mem e, rfl⟩
  · cases e : tups.lookup x with
    | none => rw [e] at h; cases h
    | some ls =>
      rw [e] at h
      cases h
      exact .inr ⟨ls, lookT_mem e, rfl⟩
theorem con_of {con : List (String × Lit)} {x : String} {v : Val} (h : (con.lookup x).map Lit.val = some v) : ∃ l, (x, l) ∈ con ∧ v = Lit.val l := by
  cases e : con.lookup x with
  | none => rw [e] at h; cases h
  | some l =>
    rw [e] at h
    cases h
    exact ⟨l, look_mem e, rfl⟩
/-- THE END: a law's text holds, if its small text does -/
theorem mi_hc {l : PySem.W.OpenLaw} {q : Program} {loose : List Str} {XP : (Str → Option Value) → Heap → Prop} {d : DefRec} {P : Pg} {tab : List Rw} {con : List (String × Lit)} {n j : Nat} {r : Rw} {x : Str}
    (hn : l.most = some 63) (hdf : d.params.defaults = []) (hname : d.name = Str.ofString "law") (hroom : Room (j + 1) callerA)
    (hrow : ∀ r ∈ tab, r.ok P = true) (hbind : ∀ r ∈ tab, BindP r) (hfn : ∀ f d, P.fn f = some d → ∃ r ∈ tab, r.fk = f ∧ r.d = d) (hcon : ∀ x v, P.con x = some v → (∃ l, (x, l) ∈ con ∧ v = Lit.val l) ∨ ∃ ls, (x, ls) ∈ P.tups ∧ v = .tup (ls.map Lit.val)) (hc : con.all conOk = true)
    (hr : r ∈ tab) (hfk : r.fk = .f "law") (hlaw : P.isHot r.fk = false) (hdl : r.dd.dfl = []) (hps : r.ps = [x])
    (law : ∀ ns : List Int, ns.length ≤ 63 → bodyW P (callW P j) r.d [.ref 0] [.lck (.lst (ns.map Val.int))] (fun v _ => v = .bl true) (fun _ _ => False)) :
    PySem.W.WalkO q loose XP (He.hookX n (faOf P tab con) (tab.map (·.dd)) [] [] (exB P)).says l.row.toRowW d [] (fun f vs => PySem.call f vs) := by
  refine Att.attach_call hn hdf fun w t₀ t₁ mg mb f0 ob pm cd doc a us ns G Y ho hd hcd hmg hobj hints hlen hgen => ?_
  obtain ⟨K, KX, sx⟩ := Y
  have c : He.SaysD (faOf P tab con) (tab.map (·.dd)) K := sx.t.d
  have sm : exB P K = true := sx.more
  rw [exB, Bool.and_eq_true, Bool.and_eq_true] at sm
  have ln := ln_of (w := w) KX G.T.g c hcon hc sm.2.2
  have lx := lnx_of (w := w) KX G.T.g c sm.2.1
  have li := lni_of (w := w) (P := P) sm.1
  obtain ⟨fd, F⟩ := c.defs (d := r.dd) (List.mem_map.mpr ⟨r, hr, rfl⟩)
  have hok := hrow r hr
  obtain ⟨h1, h2, h3, h4, h5, h6, h7⟩ := Rw.parts hok
  have hfa : mg (Str.ofString "law") = some (.ref (He.fAd K r.dd.at_)) := by
    have := He.glo_ok KX G.T.g (fact_of c (f := .glo (Str.ofString "law")) (List.mem_append_left _ (List.mem_flatMap.mpr ⟨r, hr, by unfold faRow; rw [hfk]; simp⟩)))
    rw [h1, hfk]
    exact this
  rw [hname, hfa] at hmg
  cases hmg
  have hdv : r.dd.dvs K = [] := by unfold He.DefD.dvs; rw [hdl]; rfl
  have hkw : r.dd.kws K = [] := by unfold He.DefD.kws; rw [h4]; rfl
  have F' := F
  rw [hdv, hkw] at F'
  have bA := FunD.bindsA (ps := r.ps) F' ((hbind r hr).none hdl)
  rw [hps] at bA
  refine law_call (CX := L2N.CX l.prog w) (x := x) (fd := fd) (k := j + 1) (sp := fun vs H Q E => vs.length = r.ps.length ∧ (KF K H → spF P (clOf P K w) K mg j r.d vs H Q E)) KX G.T.g G.T.b G.T.builtins G.T.nolimit hgen hobj hints (Nat.le_trans hlen (by rw [sizeLine_eq]; omega)) hroom (fun base hKb hNs => ?_) (fun s u => bA s [u] rfl) (fun H hO hS => ⟨by rw [hps]; rfl, fun kf => ?_⟩) ?_
  · rw [← hps]
    exact row_ok hok F ln li lx (fun _ _ h => h) hlaw (hotAll_of KX G.T.g c ln li lx hrow hbind hfn) (fnAll_of KX G.T.g c ln li lx hrow hbind hfn j) rfl
  · have SH0 : SH (clOf P K w) ⟨K, H, [a], none⟩ [.lck (.lst (ns.map Val.int))] := by
      refine ⟨rfl, by simp, kf, fun i o b e1 e2 => ?_, fun _ _ h => nomatch h⟩
      cases i with
      | succ i => simp at e1
      | zero =>
        simp at e1 e2
        subst e1 e2
        rcases hS with (hS | ⟨o, hS⟩) | ⟨o, its, n', hk, hc, hdct, hdat, hsz, hv⟩
        · rcases hO a with h | ⟨o, xs, h⟩
          · rw [h] at hS; cases hS
          · rw [h] at hS; cases hS
        · exact .inl ⟨o, _, hS, RDs.of_ints ns⟩
        · exact .inr ⟨o, its, n', _, hk, hc, hdct, hdat, hsz, hv, RDs.of_ints ns⟩
    refine ⟨⟨K, H, [a], none⟩, [.ref 0], [.lck (.lst (ns.map Val.int))], rfl, rfl, SH0, .cons (.ref rfl) .nil, bodyW_mono (callW_mono P j) (fun v S' hv m' y e hS' rv => ?_) (fun _ _ h => h.elim) (law ns hlen)⟩
    subst hv
    cases rv
    rfl
  · intro H e s' hx
    obtain ⟨b, B, H', cls, dd, e1, e2, e3, e4, e5, e6, e7, e8⟩ := hx
    exact e8
end Mi

set_option maxHeartbeats 1000000
namespace Mi
open PySem
/-! ### how one reasons about the small text -/
abbrev noX : XPost := fun _ _ => False
section
variable {P : Pg} {k : Nat} {f : FK} {d : FDef} {args : List Val} {S : Hm} {Q Q0 : Post} {X : XPost}
theorem call_open {x : String} (hd : P.fn (.f x) = some d) (h : bodyW P (callW P k) d (padded d args) S Q X) : callW P (k + 1) (.f x) args S Q X := by
  cases k with
  | zero => exact ⟨d, hd, by simpa [FK.init] using h⟩
  | succ k =>
    rw [callW_two]
    exact ⟨d, hd, by simpa [FK.init] using h⟩
/-- a function that is known not to raise -/
theorem call_use (h : callW P k f args S Q0 noX) (hq : ∀ v S', Q0 v S' → Q v S') : callW P k f args S Q X := callW_mono P k f args S _ _ _ _ hq (fun _ _ h => h.elim) h
end
section
variable {S : Hm} {Q : Bool → Prop}
theorem eqW_int {a b : Int} : eqW (.int a) (.int b) S Q = Q (decide (a = b)) := by
  simp only [eqW, eqD, or_false, dat, Option.some.injEq, exists_eq_left', exists_and_left]
  have : PyData.eqv (.int a) (.int b) = decide (a = b) := by
    simp only [PyData.eqv]
    first | rfl | (by_cases h : a = b <;> simp [h])
  rw [this]
theorem eqW_str {a b : String} : eqW (.str a) (.str b) S Q = Q (decide (a = b)) := by
  simp only [eqW, eqD, or_false, dat, Option.some.injEq, exists_eq_left', exists_and_left]
  have : PyData.eqv (.str (Str.ofString a)) (.str (Str.ofString b)) = decide (a = b) := by
    simp only [PyData.eqv]
    by_cases h : a = b
    · subst h; simp
    · have : ¬ Str.ofString a = Str.ofString b := fun z => h (ofString_inj z)
      simp [h, this]
  rw [this]
end
section
variable {S : Hm} {Q : Post} {n : Nat} {kvs : List (Key × Val)} {xs : List Val}
theorem lst_at (h : S[n]? = some (.lst xs)) : Hm.lst S n = some xs := by simp only [Hm.lst, h]
theorem lst_lck (h : S[n]? = some (.lck (.lst xs))) : Hm.lst S n = some xs := by simp only [Hm.lst, h]
theorem dic_at (h : S[n]? = some (.dic kvs)) : Hm.dic S n = some kvs := by simp only [Hm.dic, h]
theorem nodic_of (h : S[n]? = some (.lst xs)) : Hm.dic S n = none := by simp only [Hm.dic, h]
theorem nolst_of (h : S[n]? = some (.dic kvs)) : Hm.lst S n = none := by simp only [Hm.lst, h]
theorem subW_dic {k : Val} {q : Key} {v : Val} (h : S[n]? = some (.dic kvs)) (hk : k.key = some q) (hv : lookK kvs q = some v) (hq : Q v S) : subW (.ref n) k S Q := .inr ⟨kvs, q, v, dic_at h, hk, hv, hq⟩
theorem subW_lst {i : Int} {v : Val} (h : Hm.lst S n = some xs) (hv : atI xs i = some v) (hq : Q v S) : subW (.ref n) (.int i) S Q := .inl ⟨xs, i, v, rfl, h, hv, hq⟩
theorem setW_dic {k v : Val} {q : Key} {Q : Hm → Prop} (h : S[n]? = some (.dic kvs)) (hk : k.key = some q) (hl : kvs.length < sizeLine) (hq : Q (S.set n (.dic (putK kvs q v)))) : setW (.ref n) k v S Q := .inr ⟨kvs, q, h, hk, hl, hq⟩
theorem setW_lst {i : Int} {j : Nat} {v : Val} {Q : Hm → Prop} (h : S[n]? = some (.lst xs)) (hj : ixN xs.length i = some j) (hq : Q (S.set n (.lst (xs.set j v)))) : setW (.ref n) (.int i) v S Q := .inl ⟨xs, i, j, h, rfl, hj, hq⟩
theorem lenW_lst (h : Hm.lst S n = some xs) (hq : Q (.int xs.length) S) : biW .len [.ref n] S Q := .inl ⟨xs, h, hq⟩
theorem lenW_dic (h : S[n]? = some (.dic kvs)) (hq : Q (.int kvs.length) S) : biW .len [.ref n] S Q := .inr ⟨kvs, h, hq⟩
end
/-! ### loops -/
/-- behind a loop's turn -/
abbrev lp (I : Env → Hm → Prop) (D : Mi.Sp) : Mi.Sp := { nx := I, rt := D.rt, ct := I }
section
variable {G : String → Option Val} {sub : String → String → Bool} {C : CallW} (hC : CMono C)
include hC
theorem for_inv {tg : Tg} {guard : Hm → Prop} {body : Sts} {X : XS} {D : Mi.Sp} {items : List Val} (I : Nat → Env → Hm → Prop)
    (step : ∀ i v env S, items[i]? = some v → I i env S → guard S ∧ tgW tg v env fun env2 => wSs G sub C body X (lp (I (i + 1)) D) env2 S)
    (fin : ∀ env S, I items.length env S → guard S ∧ D.nx env S) {env : Env} {S : Hm} (h : I 0 env S) : forL tg guard (wSs G sub C body X) D items env S := by
  have key : ∀ (n i : Nat) (env : Env) (S : Hm), items.length - i = n → i ≤ items.length → I i env S → forL tg guard (wSs G sub C body X) D (items.drop i) env S := by
    intro n
    induction n with
    | zero =>
      intro i env S hn hi h
      have e : i = items.length := by omega
      subst e
      rw [List.drop_length]
      exact fin env S h
    | succ n ih =>
      intro i env S hn hi h
      have hlt : i < items.length := by omega
      rw [List.drop_eq_getElem_cons hlt]
      obtain ⟨h1, h2⟩ := step i items[i] env S (List.getElem?_eq_getElem hlt) h
      refine ⟨h1, tgW_mono (fun env2 h3 => ?_) h2⟩
      exact wSs_mono hC body (D := lp (I (i + 1)) D) (fun _ _ _ h => h) ⟨fun e S1 h4 => ih (i + 1) e S1 (by omega) (by omega) h4, fun _ _ h => h, fun e S1 h4 => ih (i + 1) e S1 (by omega) (by omega) h4⟩ h3
  have := key items.length 0 env S (by omega) (by omega) h
  simpa using this
theorem while_inv {c : T} {body : Sts} {X : XS} {D : Mi.Sp} (I : Nat → Env → Hm → Prop)
    (step : ∀ n env S, I n env S → wT G C (fun c S' => X c env S') c env S fun b S1 => if b = true then wSs G sub C body X (lp (fun e S => ∃ m, m < n ∧ I m e S) D) env S1 else D.nx env S1)
    {n : Nat} {env : Env} {S : Hm} (h : I n env S) : ∃ N, whileN (fun env S K => wT G C (fun c S' => X c env S') c env S K) (wSs G sub C body X) D N env S := by
  have le : ∀ (a : Nat) {env : Env} {S : Hm}, whileN (fun env S K => wT G C (fun c S' => X c env S') c env S K) (wSs G sub C body X) D a env S → whileN (fun env S K => wT G C (fun c S' => X c env S') c env S K) (wSs G sub C body X) D (a + 1) env S := by
    intro a
    induction a with
    | zero => intro env S h; exact h.elim
    | succ a ih =>
      intro env S h
      refine wT_mono hC (fun _ _ h => h) c (fun b S1 h1 => ?_) h
      cases b with
      | false => simpa using h1
      | true =>
        simp only [if_true] at h1 ⊢
        exact wSs_mono hC body (D := lp (whileN (fun env S K => wT G C (fun c S' => X c env S') c env S K) (wSs G sub C body X) D a) D) (fun _ _ _ h => h) ⟨fun e S2 h2 => ih h2, fun _ _ h => h, fun e S2 h2 => ih h2⟩ h1
  have les : ∀ (a b : Nat), a ≤ b → ∀ {env : Env} {S : Hm}, whileN (fun env S K => wT G C (fun c S' => X c env S') c env S K) (wSs G sub C body X) D a env S → whileN (fun env S K => wT G C (fun c S' => X c env S') c env S K) (wSs G sub C body X) D b env S := by
    intro a b hab
    induction hab with
    | refl => intro env S h; exact h
    | step _ ih => intro env S h; exact le _ (ih h)
  have key : ∀ n env S, I n env S → whileN (fun env S K => wT G C (fun c S' => X c env S') c env S K) (wSs G sub C body X) D (n + 1) env S := by
    intro n
    induction n using Nat.strongRecOn with
    | _ n ih =>
      intro env S h
      refine wT_mono hC (fun _ _ h => h) c (fun b S1 h1 => ?_) (step n env S h)
      cases b with
      | false => simpa using h1
      | true =>
        simp only [if_true] at h1 ⊢
        exact wSs_mono hC body (D := lp (fun e S => ∃ m, m < n ∧ I m e S) D) (fun _ _ _ h => h) ⟨fun e S2 ⟨m, hm, h2⟩ => les (m + 1) n hm (ih m hm e S2 h2), fun _ _ h => h, fun e S2 ⟨m, hm, h2⟩ => les (m + 1) n hm (ih m hm e S2 h2)⟩ h1
  exact ⟨n + 1, key n env S h⟩
/-- a comprehension's turn, as the reading has it -/
theorem lc_inv {X : XPost} {elt : E} {tg : Tg} {cond : Ot} {env : Env} {vs : List Nat} {guard : Hm → Prop} {items : List Val} {Q : List Val → Hm → Prop} (I : Nat → List Val → Hm → Prop)
    (step : ∀ i v acc S, items[i]? = some v → I i acc S → guard S ∧ tgW tg v (ewipe env vs) fun env2 => wC G C X cond env2 S fun b S2 => if b = true then wE G C X elt env2 S2 fun x S3 => acc.length < sizeLine ∧ I (i + 1) (acc ++ [x]) S3 else I (i + 1) acc S2)
    (fin : ∀ acc S, I items.length acc S → guard S ∧ Q acc S) {S : Hm} (h : I 0 [] S) :
    lcLoop (fun v S K => tgW tg v (ewipe env vs) fun env2 => wC G C X cond env2 S fun b S2 => if b = true then wE G C X elt env2 S2 fun x S3 => K (some x) S3 else K none S2) guard items [] S Q := by
  have key : ∀ (n i : Nat) (acc : List Val) (S : Hm), items.length - i = n → i ≤ items.length → I i acc S → lcLoop (fun v S K => tgW tg v (ewipe env vs) fun env2 => wC G C X cond env2 S fun b S2 => if b = true then wE G C X elt env2 S2 fun x S3 => K (some x) S3 else K none S2) guard (items.drop i) acc S Q := by
    intro n
    induction n with
    | zero =>
      intro i acc S hn hi h
      have e : i = items.length := by omega
      subst e
      rw [List.drop_length]
      exact fin acc S h
    | succ n ih =>
      intro i acc S hn hi h
      have hlt : i < items.length := by omega
      rw [List.drop_eq_getElem_cons hlt]
      obtain ⟨h1, h2⟩ := step i items[i] acc S (List.getElem?_eq_getElem hlt) h
      refine ⟨h1, tgW_mono (fun env2 h3 => wC_mono hC (fun _ _ h => h) cond (fun b S2 h4 => ?_) h3) h2⟩
      cases b with
      | false =>
        simp only [Bool.false_eq_true, if_false] at h4 ⊢
        exact ih (i + 1) acc S2 (by omega) (by omega) h4
      | true =>
        simp only [if_true] at h4 ⊢
        exact wE_mono hC (fun _ _ h => h) elt (fun x S3 h5 => ⟨h5.1, ih (i + 1) _ S3 (by omega) (by omega) h5.2⟩) h4
  have := key items.length 0 [] S (by omega) (by omega) h
  simpa using this
end

/-! ### rewriting -/
def lstO : Option Ob → Option (List Val)
  | some (.lst xs) => some xs
  | some (.lck (.lst xs)) => some xs
  | _ => none
def dicO : Option Ob → Option (List (Key × Val))
  | some (.dic xs) => some xs
  | some (.lck (.dic xs)) => some xs
  | _ => none
theorem Hm.lst_eq {S : Hm} {n : Nat} : Hm.lst S n = lstO S[n]? := by
  unfold Hm.lst lstO
  rfl
theorem Hm.dic_eq {S : Hm} {n : Nat} : Hm.dic S n = dicO S[n]? := by
  unfold Hm.dic dicO
  rfl
section
variable {S : Hm} {n : Nat} {k v : Val} {Q : Post} {R : Hm → Prop}
def subD (o : Option Ob) (k : Val) (S : Hm) (Q : Post) : Prop := match o with
  | some (.dic kvs) => ∃ q, k.key = some q ∧ ∃ v, lookK kvs q = some v ∧ Q v S
  | some (.lst xs) => ∃ j, k = .int j ∧ ∃ v, atI xs j = some v ∧ Q v S
  | some (.lck (.lst xs)) => ∃ j, k = .int j ∧ ∃ v, atI xs j = some v ∧ Q v S
  | some (.lck (.dic kvs)) => ∃ q, k.key = some q ∧ ∃ v, lookK kvs q = some v ∧ Q v S
  | _ => False
theorem subW_ref : subW (.ref n) k S Q = subD S[n]? k S Q := by
  apply propext
  simp only [subW, Hm.lst_eq, Hm.dic_eq]
  generalize S[n]? = o
  unfold subD lstO dicO
  constructor
  · intro h
    split <;> simp_all <;> grind
  · intro h
    split at h <;> simp_all <;> grind
def setD (o : Option Ob) (n : Nat) (k v : Val) (S : Hm) (R : Hm → Prop) : Prop := match o with
  | some (.dic kvs) => ∃ q, k.key = some q ∧ kvs.length < sizeLine ∧ R (S.set n (.dic (putK kvs q v)))
  | some (.lst xs) => ∃ j, k = .int j ∧ ∃ i, ixN xs.length j = some i ∧ R (S.set n (.lst (xs.set i v)))
  | _ => False
theorem setW_ref : setW (.ref n) k v S R = setD S[n]? n k v S R := by
  apply propext
  simp only [setW]
  generalize S[n]? = o
  unfold setD
  constructor
  · intro h
    split <;> simp_all <;> grind
  · intro h
    split at h <;> simp_all <;> grind
theorem get_set {o : Ob} : (S.set n o)[n]? = (S[n]?).map fun _ => o := by
  by_cases h : n < S.length
  · rw [List.getElem?_set_self h, List.getElem?_eq_getElem h]; rfl
  · rw [List.getElem?_eq_none (by simp; omega), List.getElem?_eq_none (by omega)]; rfl
theorem get_ne {m : Nat} {o : Ob} (h : m ≠ n) : (S.set n o)[m]? = S[m]? := List.getElem?_set_ne (Ne.symm h)
theorem get_app {m : Nat} {o : Ob} {l : Hm} (h : S[m]? = some o) : (S ++ l)[m]? = some o := by
  rw [List.getElem?_append_left (List.getElem?_eq_some_iff.mp h).1]; exact h
theorem get_new {o : Ob} : (S ++ [o])[S.length]? = some o := by simp
def lenD (o : Option Ob) (S : Hm) (Q : Post) : Prop := match o with
  | some (.dic kvs) => Q (.int kvs.length) S
  | some (.lst xs) => Q (.int xs.length) S
  | some (.lck (.lst xs)) => Q (.int xs.length) S
  | _ => False
theorem lenW_ref : biW .len [.ref n] S Q = lenD S[n]? S Q := by
  apply propext
  simp only [biW, Hm.lst_eq]
  generalize S[n]? = o
  unfold lenD lstO
  constructor
  · intro h
    split <;> simp_all <;> grind
  · intro h
    split at h <;> simp_all <;> grind
end

/-! ### whole numbers alone -/
def opI : Operator → Int → Int → Option Int
  | .Add, i, j => some (i + j)
  | .Sub, i, j => some (i - j)
  | .Mult, i, j => some (i * j)
  | .FloorDiv, i, j => some (i / j)
  | .Mod, i, j => some (i % j)
  | .Pow, i, j => some (i ^ j.toNat)
  | _, _, _ => none
def okI : Operator → Int → Int → Prop
  | .Mult, i, j => mulOk i j
  | .FloorDiv, _, j => divOk j
  | .Mod, _, j => 0 < j
  | .Pow, i, j => powOk i j
  | _, _, _ => True
def vI : Option Val → Option Int
  | some (.int n) => some n
  | _ => none
def iv (env : Env) : E → Option Int
  | .loc i => vI (eg env i)
  | .lit (.int n) => some n
  | .neg a => match iv env a with
    | some i => some (-i)
    | none => none
  | .bin op a b => match iv env a with
    | some i => match iv env b with
      | some j => opI op i j
      | none => none
    | none => none
  | _ => none
def ik (env : Env) : E → Prop
  | .neg a => ik env a
  | .bin op a b => ik env a ∧ ik env b ∧ match iv env a with
    | some i => match iv env b with
      | some j => okI op i j
      | none => True
    | none => True
  | _ => True
theorem wE_iv {G : String → Option Val} {C : CallW} {X : XPost} {env : Env} : ∀ (e : E) {n : Int} {S : Hm} {Q : Post}, iv env e = some n → ik env e → Q (.int n) S → wE G C X e env S Q
  | .loc i, n, S, Q, h, hk, hq => by
    simp only [iv] at h
    unfold vI at h
    split at h
    · rename_i m hm
      cases h
      simp only [wE]
      exact ⟨_, hm, hq⟩
    · cases h
  | .lit c, n, S, Q, h, hk, hq => by
    cases c <;> simp only [iv] at h
    · cases h
    · cases h
    · cases h; simp only [wE]; exact hq
    · cases h
  | .neg a, n, S, Q, h, hk, hq => by
    simp only [iv] at h
    split at h
    · rename_i i hi
      cases h
      simp only [wE]
      exact wE_iv a hi hk ⟨_, rfl, hq⟩
    · cases h
  | .bin op a b, n, S, Q, h, hk, hq => by
    simp only [iv] at h
    simp only [ik] at hk
    split at h
    · rename_i i hi
      split at h
      · rename_i j hj
        obtain ⟨k1, k2, k3⟩ := hk
        rw [hi, hj] at k3
        simp only [wE]
        refine wE_iv a hi k1 (wE_iv b hj k2 ?_)
        cases op <;> simp only [opI] at h <;> first | (cases h; done) | skip
        all_goals (cases h; simp only [binW]; first | exact hq | exact ⟨k3, hq⟩)
      · cases h
    · cases h
  | .con _, n, S, Q, h, _, _ => by simp [iv] at h
  | .cmp _ _ _, n, S, Q, h, _, _ => by simp [iv] at h
  | .cmp2 _ _ _ _ _, n, S, Q, h, _, _ => by simp [iv] at h
  | .isN _, n, S, Q, h, _, _ => by simp [iv] at h
  | .notN _, n, S, Q, h, _, _ => by simp [iv] at h
  | .isB _ _, n, S, Q, h, _, _ => by simp [iv] at h
  | .not _, n, S, Q, h, _, _ => by simp [iv] at h
  | .and _ _, n, S, Q, h, _, _ => by simp [iv] at h
  | .or _ _, n, S, Q, h, _, _ => by simp [iv] at h
  | .ite _ _ _, n, S, Q, h, _, _ => by simp [iv] at h
  | .tup _, n, S, Q, h, _, _ => by simp [iv] at h
  | .lst _, n, S, Q, h, _, _ => by simp [iv] at h
  | .dic _, n, S, Q, h, _, _ => by simp [iv] at h
  | .call _ _, n, S, Q, h, _, _ => by simp [iv] at h
  | .make _ _, n, S, Q, h, _, _ => by simp [iv] at h
  | .meth _ _ _ _, n, S, Q, h, _, _ => by simp [iv] at h
  | .fld _ _, n, S, Q, h, _, _ => by simp [iv] at h
  | .sub _ _, n, S, Q, h, _, _ => by simp [iv] at h
  | .slice _ _ _, n, S, Q, h, _, _ => by simp [iv] at h
  | .bi _ _, n, S, Q, h, _, _ => by simp [iv] at h
  | .vi _ _, n, S, Q, h, _, _ => by simp [iv] at h
  | .bm _ _ _, n, S, Q, h, _, _ => by simp [iv] at h
  | .isi _ _, n, S, Q, h, _, _ => by simp [iv] at h
  | .lc _ _ _ _ _, n, S, Q, h, _, _ => by simp [iv] at h
  | .lck _ _, n, S, Q, h, _, _ => by simp [iv] at h
  | .lckA _, n, S, Q, h, _, _ => by simp [iv] at h
/-! ### one form at a time; a comprehension stays folded -/
section
variable {G : String → Option Val} {C : CallW} {X : XPost} {env : Env} {S : Hm} {Q : Post}
/-- a comprehension's run -/
def lcRun (G : String → Option Val) (C : CallW) (X : XPost) (elt : E) (tg : Tg) (cond : Ot) (env : Env) (vs : List Nat) (guard : Hm → Prop) (items acc : List Val) (S : Hm) (Q : List Val → Hm → Prop) : Prop :=
  lcLoop (fun v S K => tgW tg v (ewipe env vs) fun env2 => wC G C X cond env2 S fun b S2 => if b = true then wE G C X elt env2 S2 fun x S3 => K (some x) S3 else K none S2) guard items acc S Q
theorem wE_lc {elt : E} {tg : Tg} {src : Src} {cond : Ot} {own : List (String × Nat)} : wE G C X (.lc elt tg src cond own) env S Q = wSrc G C X src env S fun items guard S1 => lcRun G C X elt tg cond env (own.map (·.2)) guard items [] S1 fun acc S2 => Q (.ref S2.length) (S2 ++ [.lst acc]) := by simp only [wE, lcRun]
theorem wE_lck {i : Nat} {e : E} : wE G C X (.lck i e) env S Q = (∃ n kvs, eg env i = some (.ref n) ∧ S[n]? = some (.dic kvs) ∧ wE G C X e env (S.set n (.lck (.dic kvs))) fun v S' => S'[n]? = some (.lck (.dic kvs)) ∧ Q v (S'.set n (.dic kvs))) := by simp only [wE]
theorem wE_lckA {e : E} : wE G C X (.lckA e) env S Q = (∃ n kvs, S[n]? = some (.dic kvs) ∧ wE G C X e env (S.set n (.lck (.dic kvs))) fun v S' => S'[n]? = some (.lck (.dic kvs)) ∧ Q v (S'.set n (.dic kvs))) := by simp only [wE]
theorem wE_loc {i : Nat} : wE G C X (.loc i) env S Q = (∃ v, eg env i = some v ∧ Q v S) := by simp only [wE]
theorem wE_lit {c : Lit} : wE G C X (.lit c) env S Q = (Q c.val S) := by simp only [wE]
theorem wE_con {x : String} : wE G C X (.con x) env S Q = (∃ v, G x = some v ∧ Q v S) := by simp only [wE]
theorem wE_bin {op : Operator} {a b : E} : wE G C X (.bin op a b) env S Q = (wE G C X a env S fun x S1 => wE G C X b env S1 fun y S2 => binW op x y S2 Q) := by simp only [wE]
theorem wE_neg {a : E} : wE G C X (.neg a) env S Q = (wE G C X a env S fun x S1 => ∃ i, x = .int i ∧ Q (.int (-i)) S1) := by simp only [wE]
theorem wE_cmp {op : CmpOp} {a b : E} : wE G C X (.cmp op a b) env S Q = (wE G C X a env S fun x S1 => wE G C X b env S1 fun y S2 => cmpW op x y S2 fun r => Q (.bl r) S2) := by simp only [wE]
theorem wE_cmp2 {op op' : CmpOp} {a b c : E} : wE G C X (.cmp2 op op' a b c) env S Q = (wE G C X a env S fun x S1 => wE G C X b env S1 fun y S2 => cmpW op x y S2 fun r => if r = true then wE G C X c env S2 fun z S3 => cmpW op' y z S3 fun r' => Q (.bl r') S3 else Q (.bl false) S2) := by simp only [wE]
def isNon : Val → Bool
  | .non => true
  | _ => false
theorem wE_isN {a : E} : wE G C X (.isN a) env S Q = (wE G C X a env S fun x S1 => Q (.bl (isNon x)) S1) := by
  simp only [wE]
  congr 1 <;> (funext x S1; cases x <;> rfl)
theorem wE_notN {a : E} : wE G C X (.notN a) env S Q = (wE G C X a env S fun x S1 => Q (.bl (!isNon x)) S1) := by
  simp only [wE]
  congr 1 <;> (funext x S1; cases x <;> rfl)
theorem wE_isB {a : E} {b : Bool} : wE G C X (.isB a b) env S Q = (wE G C X a env S fun x S1 => ∃ c, x = .bl c ∧ Q (.bl (c == b)) S1) := by simp only [wE]
theorem wE_not {a : E} : wE G C X (.not a) env S Q = (wE G C X a env S fun x S1 => ∃ b, x = .bl b ∧ Q (.bl (!b)) S1) := by simp only [wE]
theorem wE_and {a b : E} : wE G C X (.and a b) env S Q = (wE G C X a env S fun x S1 => ∃ c, x = .bl c ∧ if c = true then wE G C X b env S1 Q else Q (.bl false) S1) := by simp only [wE]
theorem wE_or {a b : E} : wE G C X (.or a b) env S Q = (wE G C X a env S fun x S1 => ∃ c, x = .bl c ∧ if c = true then Q (.bl true) S1 else wE G C X b env S1 Q) := by simp only [wE]
theorem wE_ite {c : T} {a b : E} : wE G C X (.ite c a b) env S Q = (wT G C X c env S fun r S1 => if r = true then wE G C X a env S1 Q else wE G C X b env S1 Q) := by simp only [wE]
theorem wE_tup {es : Es} : wE G C X (.tup es) env S Q = (wEs G C X es env S fun vs S1 => vs.length ≤ sizeLine ∧ Q (.tup vs) S1) := by simp only [wE]
theorem wE_lst {es : Es} : wE G C X (.lst es) env S Q = (wEs G C X es env S fun vs S1 => vs.length ≤ sizeLine ∧ Q (.ref S1.length) (S1 ++ [.lst vs])) := by simp only [wE]
theorem wE_dic {ps : Ps} : wE G C X (.dic ps) env S Q = (wPs G C X ps env S fun kvs S1 => Q (.ref S1.length) (S1 ++ [.dic (kvs.foldl (fun d p => putK d p.1 p.2) [])])) := by simp only [wE]
theorem wE_call {f : String} {es : Es} : wE G C X (.call f es) env S Q = (wEs G C X es env S fun vs S1 => C (.f f) vs S1 Q X) := by simp only [wE]
theorem wE_make {c : String} {es : Es} : wE G C X (.make c es) env S Q = (wEs G C X es env S fun vs S1 => C (.m c "__init__") (.ref S1.length :: vs) (S1 ++ [.ins c []]) (fun v S2 => v = .non ∧ Q (.ref S1.length) S2) X) := by simp only [wE]
theorem wE_meth {c m : String} {o : E} {es : Es} : wE G C X (.meth c m o es) env S Q = (wE G C X o env S fun x S1 => ∃ n fs, x = .ref n ∧ S1[n]? = some (.ins c fs) ∧ fs.lookup m = none ∧ wEs G C X es env S1 fun vs S2 => C (.m c m) (x :: vs) S2 Q X) := by simp only [wE]
theorem wE_fld {o : E} {f : String} : wE G C X (.fld o f) env S Q = (wE G C X o env S fun x S1 => ∃ n c fs v, x = .ref n ∧ S1[n]? = some (.ins c fs) ∧ fs.lookup f = some v ∧ Q v S1) := by simp only [wE]
theorem wE_sub {o i : E} : wE G C X (.sub o i) env S Q = (wE G C X o env S fun x S1 => wE G C X i env S1 fun y S2 => subW x y S2 Q) := by simp only [wE]
theorem wE_slice {o : E} {lo hi : Oe} : wE G C X (.slice o lo hi) env S Q = (wE G C X o env S fun x S1 => wO G C X lo env S1 fun a S2 => wO G C X hi env S2 fun b S3 => sliceW x a b S3 Q) := by simp only [wE]
theorem wE_bi {f : Bi} {es : Es} : wE G C X (.bi f es) env S Q = (wEs G C X es env S fun vs S1 => biW f vs S1 Q) := by simp only [wE]
theorem wE_vi {f : Vi} {es : Es} : wE G C X (.vi f es) env S Q = (wEs G C X es env S fun vs S1 => viW f vs S1 Q) := by simp only [wE]
theorem wE_bm {m : Bm} {o : E} {es : Es} : wE G C X (.bm m o es) env S Q = (wE G C X o env S fun x S1 => bmT m x S1 ∧ wEs G C X es env S1 fun vs S2 => bmW m x vs S2 Q) := by simp only [wE]
theorem wE_isi {a : E} {ts : List Ty} : wE G C X (.isi a ts) env S Q = (wE G C X a env S fun x S1 => ∃ bs, ts.mapM (isTy x S1) = some bs ∧ Q (.bl (bs.any id)) S1) := by simp only [wE]
end
section
variable {G : String → Option Val} {C : CallW} (hC : CMono C)
include hC
theorem lcr_inv {X : XPost} {elt : E} {tg : Tg} {cond : Ot} {env : Env} {vs : List Nat} {guard : Hm → Prop} {items : List Val} {Q : List Val → Hm → Prop} (I : Nat → List Val → Hm → Prop)
    (step : ∀ i v acc S, items[i]? = some v → I i acc S → guard S ∧ tgW tg v (ewipe env vs) fun env2 => wC G C X cond env2 S fun b S2 => if b = true then wE G C X elt env2 S2 fun x S3 => acc.length < sizeLine ∧ I (i + 1) (acc ++ [x]) S3 else I (i + 1) acc S2)
    (fin : ∀ acc S, I items.length acc S → guard S ∧ Q acc S) {S : Hm} (h : I 0 [] S) : lcRun G C X elt tg cond env vs guard items [] S Q := lc_inv hC I step fin h
end
end Mi

set_option maxHeartbeats 1000000
namespace Mi
open PySem
/-! MiV: what texts are split into -/
def splitC (c : Char) : List Char → List (List Char)
  | [] => [[]]
  | x :: r => if x = c then [] :: splitC c r else match splitC c r with
    | [] => [[x]]
    | p :: ps => (x :: p) :: ps
theorem splitC_ne (c : Char) : ∀ l, splitC c l ≠ []
  | [] => by simp [splitC]
  | x :: r => by
    unfold splitC
    split
    · simp
    · split <;> simp
theorem splitC_free (c : Char) : ∀ l, ∀ p ∈ splitC c l, c ∉ p
  | [], p, h => by
    have : p = [] := by simpa [splitC] using h
    subst this; simp
  | x :: r, p, h => by
    unfold splitC at h
    split at h
    · rcases List.mem_cons.mp h with rfl | h
      · simp
      · exact splitC_free c r p h
    · rename_i hx
      have ih := splitC_free c r
      split at h
      · have : p = [x] := by simpa using h
        subst this
        simpa using fun z => hx z.symm
      · rename_i q qs e
        rw [e] at ih
        rcases List.mem_cons.mp h with rfl | h
        · intro hc
          rcases List.mem_cons.mp hc with hc | hc
          · exact hx hc.symm
          · exact ih q List.mem_cons_self hc
        · exact ih p (List.mem_cons_of_mem _ h)
def joinN (c : Nat) : List (List Nat) → List Nat
  | [] => []
  | [p] => p
  | p :: q :: r => p ++ c :: joinN c (q :: r)
theorem joinN_cons {c : Nat} {p : List Nat} {r : List (List Nat)} (h : r ≠ []) : joinN c (p :: r) = p ++ c :: joinN c r := by
  cases r with
  | nil => exact absurd rfl h
  | cons q s => rfl
theorem splitC_join (c : Char) : ∀ l, joinN c.toNat ((splitC c l).map (·.map Char.toNat)) = l.map Char.toNat
  | [] => rfl
  | x :: r => by
    have ih := splitC_join c r
    have ne := splitC_ne c r
    unfold splitC
    split
    · rename_i e
      subst e
      rw [List.map_cons, joinN_cons (by simpa using ne), ih]
      rfl
    · split
      · rename_i e
        exact absurd e ne
      · rename_i p ps e
        rw [e] at ih
        cases ps with
        | nil => simpa [joinN] using ih
        | cons q qs =>
          rw [List.map_cons, joinN_cons (by simp)] at ih ⊢
          rw [List.map_cons (l := r), ← ih]
          rfl
theorem cut_uniq {c : Nat} : ∀ {p q a b : List Nat}, c ∉ p → c ∉ q → p ++ c :: a = q ++ c :: b → p = q ∧ a = b
  | [], [], a, b, _, _, h => by simpa using h
  | [], y :: q, a, b, _, hq, h => by
    simp only [List.nil_append, List.cons_append, List.cons.injEq] at h
    exact absurd (by rw [h.1]; exact List.mem_cons_self) hq
  | x :: p, [], a, b, hp, _, h => by
    simp only [List.nil_append, List.cons_append, List.cons.injEq] at h
    exact absurd (by rw [← h.1]; exact List.mem_cons_self) hp
  | x :: p, y :: q, a, b, hp, hq, h => by
    simp only [List.cons_append, List.cons.injEq] at h
    obtain ⟨h1, h2⟩ := cut_uniq (fun z => hp (List.mem_cons_of_mem _ z)) (fun z => hq (List.mem_cons_of_mem _ z)) h.2
    rw [h.1, h1]
    exact ⟨rfl, h2⟩
theorem join_uniq {c : Nat} : ∀ {L M : List (List Nat)}, L ≠ [] → M ≠ [] → (∀ p ∈ L, c ∉ p) → (∀ p ∈ M, c ∉ p) → joinN c L = joinN c M → L = M
  | [], _, h, _, _, _, _ => absurd rfl h
  | _ :: _, [], _, h, _, _, _ => absurd rfl h
  | [p], [q], _, _, _, _, h => by
    simp only [joinN] at h
    rw [h]
  | [p], q :: r :: s, _, _, hp, _, h => by
    rw [joinN_cons (c := c) (p := q) (by simp)] at h
    simp only [joinN] at h
    exact absurd (by rw [h]; simp) (hp p List.mem_cons_self)
  | q :: r :: s, [p], _, _, _, hp, h => by
    rw [joinN_cons (c := c) (p := q) (by simp)] at h
    simp only [joinN] at h
    exact absurd (by rw [← h]; simp) (hp p List.mem_cons_self)
  | p :: r :: s, q :: r' :: s', _, _, hL, hM, h => by
    rw [joinN_cons (c := c) (p := p) (by simp), joinN_cons (c := c) (p := q) (by simp)] at h
    obtain ⟨h1, h2⟩ := cut_uniq (hL p List.mem_cons_self) (hM q List.mem_cons_self) h
    rw [h1, join_uniq (by simp) (by simp) (fun x hx => hL x (List.mem_cons_of_mem _ hx)) (fun x hx => hM x (List.mem_cons_of_mem _ hx)) h2]
theorem strjoin_cps {c : Nat} : ∀ L : List Str, (Str.join ⟨#[c]⟩ L).cps.toList = joinN c (L.map (·.cps.toList))
  | [] => rfl
  | [x] => rfl
  | x :: y :: r => by
    have ih := strjoin_cps (c := c) (y :: r)
    rw [List.map_cons, joinN_cons (by simp), ← ih]
    show (x ++ ⟨#[c]⟩ ++ Str.join ⟨#[c]⟩ (y :: r)).cps.toList = _
    show (x.cps ++ #[c] ++ (Str.join ⟨#[c]⟩ (y :: r)).cps).toList = _
    simp
theorem str_cps {a b : Str} (h : a.cps.toList = b.cps.toList) : a = b := Str.ext' (Array.toList_inj.mp h)
theorem map_cps_inj : ∀ {L M : List Str}, L.map (·.cps.toList) = M.map (·.cps.toList) → L = M
  | [], [], _ => rfl
  | [], _ :: _, h => by cases h
  | _ :: _, [], h => by cases h
  | a :: l, b :: m, h => by
    simp only [List.map_cons, List.cons.injEq] at h
    rw [str_cps h.1, map_cps_inj h.2]
theorem ofs_one (c : Char) : Str.ofString (String.singleton c) = ⟨#[c.toNat]⟩ := by
  apply str_cps
  rw [cps_ofString]
  simp
theorem char_mem {c : Char} {l : List Char} (h : c.toNat ∈ l.map Char.toNat) : c ∈ l := by
  obtain ⟨d, h1, h2⟩ := List.mem_map.mp h
  have : d = c := Char.ext (UInt32.toNat_inj.mp h2)
  exact this ▸ h1
/-- a text split by one sign -/
theorem split_eq (s : String) (c : Char) : Txt.split (Str.ofString s) (Str.ofString (String.singleton c)) = ((splitC c s.toList).map String.ofList).map Str.ofString := by
  rw [ofs_one]
  apply map_cps_inj
  refine join_uniq (c := c.toNat) ?_ ?_ ?_ ?_ ?_
  · intro h
    have h1 := PyProof.Rows.split_pos (Str.ofString s) ⟨#[c.toNat]⟩
    rw [List.map_eq_nil_iff] at h
    rw [h] at h1
    cases h1
  · intro h
    rw [List.map_eq_nil_iff, List.map_eq_nil_iff, List.map_eq_nil_iff] at h
    exact splitC_ne c _ h
  · intro p hp
    obtain ⟨q, h1, rfl⟩ := List.mem_map.mp hp
    exact StrLaws.split_free _ _ q h1
  · intro p hp
    obtain ⟨q, h1, rfl⟩ := List.mem_map.mp hp
    obtain ⟨z, h2, rfl⟩ := List.mem_map.mp h1
    obtain ⟨l, h3, rfl⟩ := List.mem_map.mp h2
    intro h4
    rw [cps_ofString, String.toList_ofList] at h4
    exact splitC_free c _ l h3 (char_mem h4)
  · rw [← strjoin_cps, StrLaws.join_split, cps_ofString, ← splitC_join c]
    congr 1
    rw [List.map_map, List.map_map]
    apply List.map_congr_left
    intro l _
    show _ = (Str.ofString (String.ofList l)).cps.toList
    rw [cps_ofString, String.toList_ofList]
/-- no sign, no cut -/
theorem splitC_none {c : Char} : ∀ {l : List Char}, c ∉ l → splitC c l = [l]
  | [], _ => rfl
  | x :: r, h => by
    have hx : x ≠ c := fun z => h (by rw [z]; exact List.mem_cons_self)
    rw [splitC, if_neg hx, splitC_none fun z => h (List.mem_cons_of_mem _ z)]
theorem splitC_at {c : Char} : ∀ {l r : List Char}, c ∉ l → splitC c (l ++ c :: r) = l :: splitC c r
  | [], r, _ => by rw [List.nil_append, splitC, if_pos rfl]
  | x :: l, r, h => by
    have hx : x ≠ c := fun z => h (by rw [z]; exact List.mem_cons_self)
    rw [List.cons_append, splitC, if_neg hx, splitC_at fun z => h (List.mem_cons_of_mem _ z)]
/-! ### more of heaps -/
theorem dic_lck {S : Hm} {n : Nat} {kvs : List (Key × Val)} (h : S[n]? = some (.lck (.dic kvs))) : Hm.dic S n = some kvs := by simp only [Hm.dic, h]
theorem ix_zero {α : Type} {x : α} {xs : List α} : atI (x :: xs) 0 = some x := by simp [atI, ixN]
theorem ix_nat {α : Type} {xs : List α} {i : Nat} {x : α} (h : xs[i]? = some x) : atI xs (i : Int) = some x := by
  have := (List.getElem?_eq_some_iff.mp h).1
  simp only [atI, ixN]
  rw [if_pos (Int.natCast_nonneg i), if_pos (by omega)]
  simpa using h
theorem cut_from {α : Type} {xs : List α} {i : Nat} : cut xs (some (i : Int)) none = xs.drop i := by
  unfold cut sIx
  simp only [Int.not_lt.mpr (Int.natCast_nonneg i), if_false, Int.toNat_natCast]
  rcases Nat.le_total i xs.length with h | h
  · rw [Nat.min_eq_left h, List.take_of_length_le (by simp)]
  · rw [Nat.min_eq_right h]; simp [List.drop_eq_nil_of_le h]
theorem cut_to {α : Type} {xs : List α} {i : Nat} : cut xs none (some (i : Int)) = xs.take i := by
  unfold cut sIx
  simp only [Int.not_lt.mpr (Int.natCast_nonneg i), if_false, Int.toNat_natCast]
  rcases Nat.le_total i xs.length with h | h
  · rw [Nat.min_eq_left h]; simp
  · rw [Nat.min_eq_right h]; simp [List.take_of_length_le h]
theorem cut_ft {α : Type} {xs : List α} {i j : Nat} : cut xs (some (i : Int)) (some (j : Int)) = (xs.drop i).take (j - i) := by
  unfold cut sIx
  simp only [Int.not_lt.mpr (Int.natCast_nonneg i), Int.not_lt.mpr (Int.natCast_nonneg j), if_false, Int.toNat_natCast]
  rcases Nat.le_total i xs.length with h | h
  · rw [Nat.min_eq_left h]
    rcases Nat.le_total j xs.length with h2 | h2
    · rw [Nat.min_eq_left h2]
    · rw [Nat.min_eq_right h2, List.take_of_length_le (by simp), List.take_of_length_le (by simp; omega)]
  · rw [Nat.min_eq_right h, List.drop_eq_nil_of_le h, List.drop_eq_nil_of_le (Nat.le_refl _)]
    simp
theorem lt_get {α : Type} {S : List α} {n : Nat} {o : α} (h : S[n]? = some o) : n < S.length := (List.getElem?_eq_some_iff.mp h).1
theorem rng_get {lo : Int} {n i : Nat} {v : Val} (h : (rangeL lo 1 n)[i]? = some v) : i < n ∧ v = .int (lo + i) := by
  rw [rangeL_get] at h
  split at h
  · exact ⟨by assumption, by cases h; rfl⟩
  · cases h
/-! ### one step of reckoning -/
section
variable {S : Hm} {Q : Post} {i j : Int}
theorem bmul (h : mulOk i j) (q : Q (.int (i * j)) S) : binW .Mult (.int i) (.int j) S Q := ⟨h, q⟩
theorem badd (q : Q (.int (i + j)) S) : binW .Add (.int i) (.int j) S Q := q
theorem bsub (q : Q (.int (i - j)) S) : binW .Sub (.int i) (.int j) S Q := q
theorem bmod (h : 0 < j) (q : Q (.int (i % j)) S) : binW .Mod (.int i) (.int j) S Q := ⟨h, q⟩
theorem bdiv (h : divOk j) (q : Q (.int (i / j)) S) : binW .FloorDiv (.int i) (.int j) S Q := ⟨h, q⟩
theorem bpow (h : powOk i j) (q : Q (.int (i ^ j.toNat)) S) : binW .Pow (.int i) (.int j) S Q := ⟨h, q⟩
theorem saddW {a b : String} (h : a.length + b.length ≤ sizeLine) (q : Q (.str (a ++ b)) S) : binW .Add (.str a) (.str b) S Q := ⟨h, q⟩
theorem log_le {a : Int} {n : Nat} (h : a.natAbs < 2 ^ (n + 1)) : a.natAbs.log2 ≤ n := by
  by_cases h0 : a.natAbs = 0
  · rw [h0]; exact Nat.zero_le _
  · have := (Nat.log2_lt h0 (k := n + 1)).mpr h
    omega
theorem mul_ok {n m : Nat} (h : i.natAbs < 2 ^ (n + 1)) (h2 : j.natAbs < 2 ^ (m + 1)) (hs : n + m < 100000000) : mulOk i j := by
  have := log_le h
  have := log_le h2
  unfold mulOk
  omega
theorem div_ok {n : Nat} (h : 0 < j) (h2 : j.natAbs < 2 ^ (n + 1)) (hs : n < 9000) : divOk j := by
  have := log_le h2
  exact ⟨h, by omega⟩
theorem nbs_lt {n : Nat} (h0 : 0 ≤ i) (h1 : i < 2 ^ n) : i.natAbs < 2 ^ n := by
  have : ((i.natAbs : Nat) : Int) = i := Int.natAbs_of_nonneg h0
  have h2 : ((i.natAbs : Nat) : Int) < ((2 ^ n : Nat) : Int) := by rw [this]; simpa using h1
  exact_mod_cast h2
end
/-! ### frames: all but one place stay -/
def Fm (p : Nat) (S S' : Hm) : Prop := S.length ≤ S'.length ∧ ∀ n, n < S.length → n ≠ p → S'[n]? = S[n]?
theorem Fm.refl (p : Nat) (S : Hm) : Fm p S S := ⟨Nat.le_refl _, fun _ _ _ => rfl⟩
theorem Fm.trans {p : Nat} {S S1 S2 : Hm} (a : Fm p S S1) (b : Fm p S1 S2) : Fm p S S2 := ⟨Nat.le_trans a.1 b.1, fun n h hn => (b.2 n (Nat.lt_of_lt_of_le h a.1) hn).trans (a.2 n h hn)⟩
theorem Fm.get {p : Nat} {S S1 : Hm} (a : Fm p S S1) {n : Nat} {o : Ob} (hn : n ≠ p) (h : S[n]? = some o) : S1[n]? = some o := (a.2 n (lt_get h) hn).trans h
theorem Fm.app {p : Nat} {S : Hm} (l : Hm) : Fm p S (S ++ l) := ⟨by simp, fun n h _ => List.getElem?_append_left h⟩
theorem Fm.set {p : Nat} {S S' : Hm} {n : Nat} {o : Ob} (h : Fm p S S') (hn : S.length ≤ n) : Fm p S (S'.set n o) := ⟨by simpa using h.1, fun m hm hp => by rw [get_ne (by omega)]; exact h.2 m hm hp⟩
theorem Fm.own {p : Nat} {S : Hm} {o : Ob} : Fm p S (S.set p o) := ⟨by simp, fun m _ hp => get_ne hp⟩
end Mi

set_option maxHeartbeats 1000000
namespace Mi
open PySem
/-! ### cells: a heap told by a list of places, each place once -/
structure Lay (S : Hm) (cs : List (Nat × Ob)) : Prop where
  nd : (cs.map (·.1)).Nodup
  at_ : ∀ c ∈ cs, S[c.1]? = some c.2
section
variable {S : Hm} {cs cs' A B : List (Nat × Ob)} {j : Nat} {o o' : Ob} {a b c d e n : Nat × Ob}
theorem Lay.get (h : Lay S cs) (m : (j, o) ∈ cs) : S[j]? = some o := h.at_ _ m
theorem Lay.lt (h : Lay S cs) (m : (j, o) ∈ cs) : j < S.length := lt_get (h.get m)
theorem Lay.perm (h : Lay S cs) (p : cs.Perm cs') : Lay S cs' := ⟨(p.map _).nodup_iff.mp h.nd, fun c m => h.at_ c (p.mem_iff.mpr m)⟩
theorem Lay.sub (h : Lay S cs) (p : cs'.Sublist cs) : Lay S cs' := ⟨(p.map _).nodup h.nd, fun c m => h.at_ c (p.subset m)⟩
theorem Lay.put (h : Lay S (A ++ (j, o) :: B)) : Lay (S.set j o') (A ++ (j, o') :: B) := by
  have e : (A ++ (j, o') :: B).map (·.1) = (A ++ (j, o) :: B).map (·.1) := by simp
  refine ⟨by rw [e]; exact h.nd, fun c m => ?_⟩
  have nd := h.nd
  rw [List.map_append, List.map_cons, List.nodup_append] at nd
  obtain ⟨_, n2, n3⟩ := nd
  rw [List.nodup_cons] at n2
  rcases List.mem_append.mp m with m | m
  · have : c.1 ≠ j := fun z => n3 c.1 (List.mem_map.mpr ⟨c, m, rfl⟩) j List.mem_cons_self z
    rw [get_ne this]
    exact h.at_ c (List.mem_append_left _ m)
  · rcases List.mem_cons.mp m with rfl | m
    · show (S.set j o')[j]? = some o'
      rw [get_set, h.get (j := j) (o := o) (by simp)]
      rfl
    · have : c.1 ≠ j := fun z => n2.1 (List.mem_map.mpr ⟨c, m, z⟩)
      rw [get_ne this]
      exact h.at_ c (List.mem_append_right _ (List.mem_cons_of_mem _ m))
theorem Lay.p0 (h : Lay S ((j, o) :: B)) : Lay (S.set j o') ((j, o') :: B) := Lay.put (A := []) h
theorem Lay.p1 (h : Lay S (a :: (j, o) :: B)) : Lay (S.set j o') (a :: (j, o') :: B) := Lay.put (A := [a]) h
theorem Lay.p2 (h : Lay S (a :: b :: (j, o) :: B)) : Lay (S.set j o') (a :: b :: (j, o') :: B) := Lay.put (A := [a, b]) h
theorem Lay.p3 (h : Lay S (a :: b :: c :: (j, o) :: B)) : Lay (S.set j o') (a :: b :: c :: (j, o') :: B) := Lay.put (A := [a, b, c]) h
theorem Lay.p4 (h : Lay S (a :: b :: c :: d :: (j, o) :: B)) : Lay (S.set j o') (a :: b :: c :: d :: (j, o') :: B) := Lay.put (A := [a, b, c, d]) h
theorem Lay.p5 (h : Lay S (a :: b :: c :: d :: e :: (j, o) :: B)) : Lay (S.set j o') (a :: b :: c :: d :: e :: (j, o') :: B) := Lay.put (A := [a, b, c, d, e]) h
theorem Lay.new (h : Lay S cs) : Lay (S ++ [o]) ((S.length, o) :: cs) := by
  refine ⟨?_, fun c m => ?_⟩
  · rw [List.map_cons, List.nodup_cons]
    refine ⟨fun z => ?_, h.nd⟩
    obtain ⟨c, m, hc⟩ := List.mem_map.mp z
    have := h.lt (j := c.1) (o := c.2) m
    simp only at hc
    omega
  · rcases List.mem_cons.mp m with rfl | m
    · exact get_new
    · exact get_app (h.at_ c m)
theorem Lay.ins (h : Lay S (n :: (A ++ B))) : Lay S (A ++ n :: B) := h.perm List.perm_middle.symm
theorem Lay.to4 (h : Lay S (n :: a :: b :: c :: d :: B)) : Lay S (a :: b :: c :: d :: n :: B) := Lay.ins (A := [a, b, c, d]) h
theorem Lay.all (S : Hm) : Lay S (S.zipIdx.map fun p => (p.2, p.1)) := by
  refine ⟨?_, fun c m => ?_⟩
  · rw [List.map_map]
    have : ((fun x : Nat × Ob => x.1) ∘ fun p : Ob × Nat => (p.2, p.1)) = fun p : Ob × Nat => p.2 := rfl
    rw [this, List.zipIdx_map_snd]
    exact List.nodup_range'
  · obtain ⟨p, hp, rfl⟩ := List.mem_map.mp m
    have := List.mem_zipIdx_iff_getElem?.mp hp
    simpa using this
theorem Lay.all_mem (h : S[j]? = some o) : (j, o) ∈ S.zipIdx.map fun p => (p.2, p.1) := List.mem_map.mpr ⟨(o, j), List.mem_zipIdx_iff_getElem?.mpr (by simpa using h), rfl⟩
end
section
variable {P : Pg} {k : Nat} {d : FDef} {args : List Val} {S : Hm} {Q Q0 : Post} {X : XPost} {c x : String}
theorem call_openM (hd : P.fn (.m c x) = some d) (hx : (x == "__init__") = false) (h : bodyW P (callW P k) d (padded d args) S Q X) : callW P (k + 1) (.m c x) args S Q X := by
  cases k with
  | zero => exact ⟨d, hd, by simpa [FK.init, hx] using h⟩
  | succ k =>
    rw [callW_two]
    exact ⟨d, hd, by simpa [FK.init, hx] using h⟩
theorem call_openI (hd : P.fn (.m c "__init__") = some d) (h : bodyW P (callW P k) d (padded d args) S Q X) : callW P (k + 2) (.m c "__init__") args S Q X := by
  rw [callW_two]
  exact ⟨d, hd, by simpa [FK.init] using h⟩
end
theorem atI_last {α : Type} {l : List α} {x : α} : atI (l ++ [x]) (-1) = some x := by
  have : ixN (l ++ [x]).length (-1) = some l.length := by
    unfold ixN
    rw [if_neg (by decide), if_pos (by simp; omega)]
    congr 1
    rw [List.length_append]
    simp only [List.length_cons, List.length_nil]
    omega
  unfold atI
  rw [this]
  simp
theorem popW {S : Hm} {n : Nat} {xs : List Val} {y : Val} {Q : Post} (h : S[n]? = some (.lst (xs ++ [y]))) (hq : Q y (S.set n (.lst xs))) : bmW .pop (.ref n) [] S Q := by
  simp only [bmW]
  refine ⟨_, y, h, by simp, ?_⟩
  rw [List.dropLast_concat]
  exact hq
theorem appW {S : Hm} {n : Nat} {xs : List Val} {y : Val} {Q : Post} (h : S[n]? = some (.lst xs)) (hl : xs.length < sizeLine) (hq : Q .non (S.set n (.lst (xs ++ [y])))) : bmW .append (.ref n) [y] S Q := by
  simp only [bmW]
  exact ⟨_, h, hl, hq⟩
theorem popT {S : Hm} {n : Nat} {xs : List Val} (h : S[n]? = some (.lst xs)) : bmT .pop (.ref n) S := ⟨n, xs, rfl, lst_at h⟩
theorem appT {S : Hm} {n : Nat} {xs : List Val} (h : S[n]? = some (.lst xs)) : bmT .append (.ref n) S := ⟨n, xs, rfl, lst_at h⟩
theorem last_get {α : Type} {l : List α} {x : α} : (l ++ [x])[(l ++ [x]).length - 1]? = some x := by simp
end Mi

set_option maxHeartbeats 4000000
namespace K23
open Mi PySem PySem.Spec L2 PyProof.Rows
abbrev pw : Program := PySem.Challenge.pw_facework_k23_joined_is_the_widest
def top (i : Nat) : Stmt := pw.main.body.getD i (.Pass ⟨0, 0, 0, 0⟩)
def mth (i j : Nat) : Stmt := match top i with
  | .ClassDef _ _ _ b _ _ _ _ _ _ _ => b.getD j (.Pass ⟨0, 0, 0, 0⟩)
  | _ => .Pass ⟨0, 0, 0, 0⟩
def s1_f_is_variable : Sts := (.cons (.ret (.and (.isi (.loc 0) [.str]) (.bm .startswith (.loc 0) (.cons (.lit (.str "?")) .nil)))) .nil)
def d_f_is_variable : FDef := { params := 1, names := ["kind"], dflt := [], body :=
    s1_f_is_variable }
def r_f_is_variable : Rw := ⟨.f "is_variable", d_f_is_variable, ⟨("is_variable", none), "is_variable", "is_variable", defArgs (top 1), defBody (top 1), defScope (top 1), [], []⟩⟩
theorem b_f_is_variable : BindP r_f_is_variable := .of0 rfl fun _ _ _ _ _ _ us hl => match us, hl with | [_], _ => rfl
def s1_f_within : Sts := (.cons (.ret (.slice (.loc 0) (.some (.lit (.int 1))) .none)) .nil)
def s2_f_within : Sts := (.cons (.ret (.tup .nil)) .nil)
def s3_f_within : Sts := (.cons (.ife (.v (.isi (.loc 0) [.tuple])) s1_f_within .nil) s2_f_within)
def d_f_within : FDef := { params := 1, names := ["kind"], dflt := [], body :=
    s3_f_within }
def r_f_within : Rw := ⟨.f "within", d_f_within, ⟨("within", none), "within", "within", defArgs (top 2), defBody (top 2), defScope (top 2), [], []⟩⟩
theorem b_f_within : BindP r_f_within := .of0 rfl fun _ _ _ _ _ _ us hl => match us, hl with | [_], _ => rfl
def s1_f_heads_alike : Sts := (.cons (.ret (.and (.cmp .Eq (.sub (.loc 0) (.lit (.int 0))) (.sub (.loc 1) (.lit (.int 0)))) (.cmp .Eq (.bi .len (.cons (.loc 0) .nil)) (.bi .len (.cons (.loc 1) .nil))))) .nil)
def s2_f_heads_alike : Sts := (.cons (.ret (.cmp .Eq (.loc 0) (.loc 1))) .nil)
def s3_f_heads_alike : Sts := (.cons (.ife (.and (.v (.isi (.loc 0) [.tuple])) (.v (.isi (.loc 1) [.tuple]))) s1_f_heads_alike .nil) s2_f_heads_alike)
def d_f_heads_alike : FDef := { params := 2, names := ["one", "other"], dflt := [], body :=
    s3_f_heads_alike }
def r_f_heads_alike : Rw := ⟨.f "heads_alike", d_f_heads_alike, ⟨("heads_alike", none), "heads_alike", "heads_alike", defArgs (top 3), defBody (top 3), defScope (top 3), [], []⟩⟩
theorem b_f_heads_alike : BindP r_f_heads_alike := .of0 rfl fun _ _ _ _ _ _ us hl => match us, hl with | [_, _], _ => rfl
def s1_f_followed : Sts := (.cons (.set 0 (.sub (.loc 1) (.loc 0))) .nil)
def s2_f_followed : Sts := (.cons (.ret (.loc 0)) .nil)
def s3_f_followed : Sts := (.cons (.while (.and (.v (.call "is_variable" (.cons (.loc 0) .nil))) (.v (.cmp .In (.loc 0) (.loc 1)))) s1_f_followed) s2_f_followed)
def d_f_followed : FDef := { params := 2, names := ["kind", "by"], dflt := [], body :=
    s3_f_followed }
def r_f_followed : Rw := ⟨.f "followed", d_f_followed, ⟨("followed", none), "followed", "followed", defArgs (top 5), defBody (top 5), defScope (top 5), [], []⟩⟩
theorem b_f_followed : BindP r_f_followed := .of0 rfl fun _ _ _ _ _ _ us hl => match us, hl with | [_, _], _ => rfl
def s1_f_stands_in : Sts := (.cons (.ret (.lit (.bl true))) .nil)
def s2_f_stands_in : Sts := (.cons (.expr (.vi .kadd (.cons (.lit (.bl true)) (.cons (.loc 3) (.cons (.loc 5) .nil))))) (.cons (.expr (.bm .extend (.loc 4) (.cons (.call "within" (.cons (.loc 5) .nil)) .nil))) .nil))
def s3_f_stands_in : Sts := (.cons (.ife (.v (.vi .knin (.cons (.loc 5) (.cons (.loc 3) .nil)))) s2_f_stands_in .nil) .nil)
def s4_f_stands_in : Sts := (.cons (.ife (.v (.cmp .Eq (.loc 5) (.loc 0))) s1_f_stands_in .nil) s3_f_stands_in)
def s5_f_stands_in : Sts := (.cons (.set 5 (.call "followed" (.cons (.bm .pop (.loc 4) .nil) (.cons (.loc 2) .nil)))) s4_f_stands_in)
def s6_f_stands_in : Sts := (.cons (.ret (.lit (.bl false))) .nil)
def s7_f_stands_in : Sts := (.cons (.set 3 (.vi .kdic .nil)) (.cons (.set 4 (.lst (.cons (.loc 1) .nil))) (.cons (.while (.v (.cmp .Gt (.bi .len (.cons (.loc 4) .nil)) (.lit (.int 0)))) s5_f_stands_in) s6_f_stands_in)))
def d_f_stands_in : FDef := { params := 3, names := ["variable", "kind", "by", "looked", "waiting", "one"], dflt := [], body :=
    s7_f_stands_in }
def r_f_stands_in : Rw := ⟨.f "stands_in", d_f_stands_in, ⟨("stands_in", none), "stands_in", "stands_in", defArgs (top 6), defBody (top 6), defScope (top 6), [], []⟩⟩
theorem b_f_stands_in : BindP r_f_stands_in := .of0 rfl fun _ _ _ _ _ _ us hl => match us, hl with | [_, _, _], _ => rfl
def s1_f_whole : Sts := (.cons (.ret (.bin .Add (.slice (.loc 0) .none (.some (.lit (.int 1)))) (.bi .tuple (.cons (.lc (.call "whole" (.cons (.loc 2) (.cons (.loc 1) .nil))) (.nm 2) (.seq (.slice (.loc 0) (.some (.lit (.int 1))) .none)) .none [("part", 2)]) .nil)))) .nil)
def s2_f_whole : Sts := (.cons (.ret (.loc 0)) .nil)
def s3_f_whole : Sts := (.cons (.ife (.v (.isi (.loc 0) [.tuple])) s1_f_whole .nil) s2_f_whole)
def s4_f_whole : Sts := (.cons (.set 0 (.call "followed" (.cons (.loc 0) (.cons (.loc 1) .nil)))) s3_f_whole)
def d_f_whole : FDef := { params := 2, names := ["kind", "by", "part"], dflt := [], body :=
    s4_f_whole }
def r_f_whole : Rw := ⟨.f "whole", d_f_whole, ⟨("whole", none), "whole", "whole", defArgs (top 7), defBody (top 7), defScope (top 7), [], []⟩⟩
theorem b_f_whole : BindP r_f_whole := .of0 rfl fun _ _ _ _ _ _ us hl => match us, hl with | [_, _], _ => rfl
def s1_f_join_all : Sts := (.cons .cont .nil)
def s2_f_join_all : Sts := (.cons (.par [4, 5] (.cons (.loc 5) (.cons (.loc 4) .nil))) .nil)
def s3_f_join_all : Sts := (.cons (.ret (.lit (.bl false))) .nil)
def s4_f_join_all : Sts := (.cons (.setI (.loc 1) (.loc 4) (.loc 5)) .nil)
def s5_f_join_all : Sts := (.cons (.ife (.v (.call "stands_in" (.cons (.loc 4) (.cons (.loc 5) (.cons (.loc 1) .nil))))) s3_f_join_all .nil) s4_f_join_all)
def s6_f_join_all : Sts := (.cons (.expr (.bm .extend (.loc 2) (.cons (.vi .listZip (.cons (.call "within" (.cons (.loc 4) .nil)) (.cons (.call "within" (.cons (.loc 5) .nil)) .nil))) .nil))) .nil)
def s7_f_join_all : Sts := (.cons (.ret (.lit (.bl false))) .nil)
def s8_f_join_all : Sts := (.cons (.ife (.v (.call "heads_alike" (.cons (.loc 4) (.cons (.loc 5) .nil)))) s6_f_join_all s7_f_join_all) .nil)
def s9_f_join_all : Sts := (.cons (.ife (.v (.call "is_variable" (.cons (.loc 4) .nil))) s5_f_join_all s8_f_join_all) .nil)
def s10_f_join_all : Sts := (.cons (.expr (.vi .kadd (.cons (.lit (.bl true)) (.cons (.loc 3) (.cons (.tup (.cons (.loc 4) (.cons (.loc 5) .nil))) .nil))))) (.cons (.ife (.v (.call "is_variable" (.cons (.loc 5) .nil))) s2_f_join_all .nil) s9_f_join_all))
def s11_f_join_all : Sts := (.cons (.ife (.or (.v (.cmp .Eq (.loc 4) (.loc 5))) (.v (.vi .kin (.cons (.tup (.cons (.loc 4) (.cons (.loc 5) .nil))) (.cons (.loc 3) .nil))))) s1_f_join_all .nil) s10_f_join_all)
def s12_f_join_all : Sts := (.cons (.set 5 (.call "followed" (.cons (.loc 5) (.cons (.loc 1) .nil)))) s11_f_join_all)
def s13_f_join_all : Sts := (.cons (.setT [4, 5] (.bm .pop (.loc 2) .nil)) (.cons (.set 4 (.call "followed" (.cons (.loc 4) (.cons (.loc 1) .nil)))) s12_f_join_all))
def s14_f_join_all : Sts := (.cons (.ret (.lit (.bl true))) .nil)
def s15_f_join_all : Sts := (.cons (.set 2 (.bi .list (.cons (.loc 0) .nil))) (.cons (.set 3 (.vi .kdic .nil)) (.cons (.while (.v (.cmp .Gt (.bi .len (.cons (.loc 2) .nil)) (.lit (.int 0)))) s13_f_join_all) s14_f_join_all)))
def d_f_join_all : FDef := { params := 2, names := ["pairs", "by", "waiting", "met", "one", "other"], dflt := [], body :=
    s15_f_join_all }
def r_f_join_all : Rw := ⟨.f "join_all", d_f_join_all, ⟨("join_all", none), "join_all", "join_all", defArgs (top 8), defBody (top 8), defScope (top 8), [], []⟩⟩
theorem b_f_join_all : BindP r_f_join_all := .of0 rfl fun _ _ _ _ _ _ us hl => match us, hl with | [_, _], _ => rfl
def s1_f_joined : Sts := (.cons (.ret (.lit .non)) .nil)
def s2_f_joined : Sts := (.cons (.ret (.vi .dictP (.cons (.lck 1 (.lc (.tup (.cons (.loc 2) (.cons (.call "whole" (.cons (.loc 2) (.cons (.loc 1) .nil))) .nil))) (.nm 2) (.keys (.loc 1)) .none [("variable", 2)])) .nil))) .nil)
def s3_f_joined : Sts := (.cons (.set 1 (.dic .nil)) (.cons (.ife (.not (.v (.call "join_all" (.cons (.loc 0) (.cons (.loc 1) .nil))))) s1_f_joined .nil) s2_f_joined))
def d_f_joined : FDef := { params := 1, names := ["pairs", "by", "variable"], dflt := [], body :=
    s3_f_joined }
def r_f_joined : Rw := ⟨.f "joined", d_f_joined, ⟨("joined", none), "joined", "joined", defArgs (top 9), defBody (top 9), defScope (top 9), [], []⟩⟩
theorem b_f_joined : BindP r_f_joined := .of0 rfl fun _ _ _ _ _ _ us hl => match us, hl with | [_], _ => rfl
def s1_f_law_mixed : Sts := (.cons (.set 2 (.bin .Mod (.bin .Mult (.bin .Add (.bin .Add (.bin .Mod (.loc 0) (.lit (.int 2147483647))) (.bin .Mult (.bin .Mult (.loc 1) (.loc 1)) (.lit (.int 7919)))) (.lit (.int 11))) (.lit (.int 48271))) (.lit (.int 2147483647)))) (.cons (.ret (.bin .FloorDiv (.bin .Mod (.bin .Mult (.bin .Add (.bin .Add (.bin .FloorDiv (.loc 2) (.lit (.int 7))) (.bin .Mult (.loc 1) (.lit (.int 40014)))) (.lit (.int 5))) (.lit (.int 69621))) (.lit (.int 2147483629))) (.lit (.int 3)))) .nil))
def d_f_law_mixed : FDef := { params := 2, names := ["_law_cell", "_law_turn", "_law_once"], dflt := [], body :=
    s1_f_law_mixed }
def r_f_law_mixed : Rw := ⟨.f "_law_mixed", d_f_law_mixed, ⟨("_law_mixed", none), "_law_mixed", "_law_mixed", defArgs (top 11), defBody (top 11), defScope (top 11), [], []⟩⟩
theorem b_f_law_mixed : BindP r_f_law_mixed := .of0 rfl fun _ _ _ _ _ _ us hl => match us, hl with | [_, _], _ => rfl
def s1_f_law_pot : Sts := (.cons (.ret (.dic (.cons (.lit (.str "cells")) (.bi .list (.cons (.slice (.loc 0) .none (.some (.lit (.int 63)))) .nil)) (.cons (.lit (.str "at")) (.lit (.int 0)) (.cons (.lit (.str "digits")) (.lit (.int 0)) (.cons (.lit (.str "turn")) (.lit (.int 0)) .nil)))))) .nil)
def d_f_law_pot : FDef := { params := 1, names := ["_law_script"], dflt := [], body :=
    s1_f_law_pot }
def r_f_law_pot : Rw := ⟨.f "_law_pot", d_f_law_pot, ⟨("_law_pot", none), "_law_pot", "_law_pot", defArgs (top 12), defBody (top 12), defScope (top 12), [], []⟩⟩
theorem b_f_law_pot : BindP r_f_law_pot := .of0 rfl fun _ _ _ _ _ _ us hl => match us, hl with | [_], _ => rfl
def s1_f_law_draw : Sts := (.cons (.set 3 (.sub (.sub (.loc 0) (.lit (.str "cells"))) (.bin .Mod (.sub (.loc 0) (.lit (.str "at"))) (.bi .len (.cons (.sub (.loc 0) (.lit (.str "cells"))) .nil))))) (.cons (.setI (.loc 0) (.lit (.str "at")) (.bin .Add (.sub (.loc 0) (.lit (.str "at"))) (.lit (.int 1)))) .nil))
def s2_f_law_draw : Sts := (.cons (.ret (.bin .Mod (.call "_law_mixed" (.cons (.loc 3) (.cons (.sub (.loc 0) (.lit (.str "turn"))) .nil))) (.loc 1))) .nil)
def s3_f_law_draw : Sts := (.cons (.setI (.loc 0) (.lit (.str "digits")) (.loc 3)) .nil)
def s4_f_law_draw : Sts := (.cons (.ife (.v (.cmp .Lt (.loc 3) (.bin .Pow (.lit (.int 10)) (.lit (.int 18))))) s2_f_law_draw .nil) s3_f_law_draw)
def s5_f_law_draw : Sts := (.cons (.set 3 (.lit (.int 0))) (.cons (.ife (.v (.cmp .Gt (.bi .len (.cons (.sub (.loc 0) (.lit (.str "cells"))) .nil)) (.lit (.int 0)))) s1_f_law_draw .nil) s4_f_law_draw))
def s6_f_law_draw : Sts := (.cons (.set 2 (.bin .Mod (.sub (.loc 0) (.lit (.str "digits"))) (.loc 1))) (.cons (.setI (.loc 0) (.lit (.str "digits")) (.bin .FloorDiv (.sub (.loc 0) (.lit (.str "digits"))) (.loc 1))) (.cons (.ret (.loc 2)) .nil)))
def s7_f_law_draw : Sts := (.cons (.setI (.loc 0) (.lit (.str "turn")) (.bin .Add (.sub (.loc 0) (.lit (.str "turn"))) (.lit (.int 1)))) (.cons (.ife (.v (.cmp .Eq (.sub (.loc 0) (.lit (.str "digits"))) (.lit (.int 0)))) s5_f_law_draw .nil) s6_f_law_draw))
def d_f_law_draw : FDef := { params := 2, names := ["_law_pot_here", "_law_many_here", "_law_one", "_law_cell"], dflt := [], body :=
    s7_f_law_draw }
def r_f_law_draw : Rw := ⟨.f "_law_draw", d_f_law_draw, ⟨("_law_draw", none), "_law_draw", "_law_draw", defArgs (top 13), defBody (top 13), defScope (top 13), [], []⟩⟩
theorem b_f_law_draw : BindP r_f_law_draw := .of0 rfl fun _ _ _ _ _ _ us hl => match us, hl with | [_, _], _ => rfl
def s1_f_law_word : Sts := (.cons (.ret (.bin .Add (.bin .Add (.bin .Add (.slice (.loc 3) .none (.some (.loc 4))) (.sub (.loc 1) (.call "_law_draw" (.cons (.loc 0) (.cons (.lit (.int 26)) .nil))))) (.slice (.loc 3) (.some (.loc 4)) .none)) (.lit (.str "q")))) .nil)
def s2_f_law_word : Sts := (.cons (.set 4 (.call "_law_draw" (.cons (.loc 0) (.cons (.bin .Add (.loc 2) (.lit (.int 1))) .nil)))) s1_f_law_word)
def s3_f_law_word : Sts := (.cons (.set 3 (.bin .Mult (.sub (.loc 1) (.call "_law_draw" (.cons (.loc 0) (.cons (.lit (.int 26)) .nil)))) (.loc 2))) s2_f_law_word)
def s4_f_law_word : Sts := (.cons (.set 1 (.lit (.str "abcdefghijklmnopqrstuvwxyz"))) (.cons (.set 2 (.call "_law_draw" (.cons (.loc 0) (.cons (.lit (.int 7)) .nil)))) s3_f_law_word))
def d_f_law_word : FDef := { params := 1, names := ["_law_pot_here", "_law_letters", "_law_size", "_law_stem", "_law_at"], dflt := [], body :=
    s4_f_law_word }
def r_f_law_word : Rw := ⟨.f "_law_word", d_f_law_word, ⟨("_law_word", none), "_law_word", "_law_word", defArgs (top 14), defBody (top 14), defScope (top 14), [], []⟩⟩
theorem b_f_law_word : BindP r_f_law_word := .of0 rfl fun _ _ _ _ _ _ us hl => match us, hl with | [_], _ => rfl
def s1_f_law_head : Sts := (.cons (.set 1 (.bin .Add (.bin .Add (.bin .Add (.sub (.lit (.str "ABCDEFGHIJKLMNOPQRSTUVWXYZ")) (.call "_law_draw" (.cons (.loc 0) (.cons (.lit (.int 26)) .nil)))) (.slice (.call "_law_word" (.cons (.loc 0) .nil)) .none (.some (.lit (.int 7))))) (.lit (.str "."))) (.loc 1))) .nil)
def s2_f_law_head : Sts := (.cons (.ret (.tup (.cons (.loc 1) (.cons (.call "_law_draw" (.cons (.loc 0) (.cons (.lit (.int 4)) .nil))) .nil)))) .nil)
def s3_f_law_head : Sts := (.cons (.ife (.v (.cmp .Eq (.call "_law_draw" (.cons (.loc 0) (.cons (.lit (.int 3)) .nil))) (.lit (.int 0)))) s1_f_law_head .nil) s2_f_law_head)
def s4_f_law_head : Sts := (.cons (.set 1 (.call "_law_word" (.cons (.loc 0) .nil))) s3_f_law_head)
def d_f_law_head : FDef := { params := 1, names := ["_law_pot_here", "_law_word_here"], dflt := [], body :=
    s4_f_law_head }
def r_f_law_head : Rw := ⟨.f "_law_head", d_f_law_head, ⟨("_law_head", none), "_law_head", "_law_head", defArgs (top 15), defBody (top 15), defScope (top 15), [], []⟩⟩
theorem b_f_law_head : BindP r_f_law_head := .of0 rfl fun _ _ _ _ _ _ us hl => match us, hl with | [_], _ => rfl
def s1_f_law_leaf : Sts := (.cons (.ret (.bin .Add (.lit (.str "?")) (.bi .str (.cons (.call "_law_draw" (.cons (.loc 0) (.cons (.lit (.int 30)) .nil))) .nil)))) .nil)
def s2_f_law_leaf : Sts := (.cons (.ret (.sub (.lst (.cons (.lit (.str "?")) (.cons (.lit (.str "??")) (.cons (.lit (.str "? ")) (.cons (.lit (.str "?->")) (.cons (.lit (.str "?(num")) (.cons (.lit (.str "?A.b")) .nil))))))) (.call "_law_draw" (.cons (.loc 0) (.cons (.lit (.int 6)) .nil))))) .nil)
def s3_f_law_leaf : Sts := (.cons (.ret (.bin .Add (.lit (.str "?")) (.sub (.lit (.str "abcdefghijklmnopqrstuvwxyz")) (.call "_law_draw" (.cons (.loc 0) (.cons (.lit (.int 26)) .nil)))))) .nil)
def s4_f_law_leaf : Sts := (.cons (.ret (.bin .Add (.lit (.str "?")) (.call "_law_word" (.cons (.loc 0) .nil)))) .nil)
def s5_f_law_leaf : Sts := (.cons (.ife (.v (.cmp .Eq (.loc 1) (.lit (.int 2)))) s3_f_law_leaf .nil) s4_f_law_leaf)
def s6_f_law_leaf : Sts := (.cons (.ife (.v (.cmp .Eq (.loc 1) (.lit (.int 1)))) s2_f_law_leaf .nil) s5_f_law_leaf)
def s7_f_law_leaf : Sts := (.cons (.ife (.v (.cmp .Eq (.loc 1) (.lit (.int 0)))) s1_f_law_leaf .nil) s6_f_law_leaf)
def s8_f_law_leaf : Sts := (.cons (.set 1 (.call "_law_draw" (.cons (.loc 0) (.cons (.lit (.int 5)) .nil)))) s7_f_law_leaf)
def d_f_law_leaf : FDef := { params := 1, names := ["_law_pot_here", "_law_way"], dflt := [], body :=
    s8_f_law_leaf }
def r_f_law_leaf : Rw := ⟨.f "_law_leaf", d_f_law_leaf, ⟨("_law_leaf", none), "_law_leaf", "_law_leaf", defArgs (top 16), defBody (top 16), defScope (top 16), [], []⟩⟩
theorem b_f_law_leaf : BindP r_f_law_leaf := .of0 rfl fun _ _ _ _ _ _ us hl => match us, hl with | [_], _ => rfl
def s1_f_law_leaves : Sts := (.cons (.set 4 (.bin .Add (.loc 4) (.lit (.str "x")))) .nil)
def s2_f_law_leaves : Sts := (.cons (.expr (.bm .append (.loc 2) (.cons (.loc 4) .nil))) .nil)
def s3_f_law_leaves : Sts := (.cons (.while (.v (.cmp .In (.loc 4) (.loc 2))) s1_f_law_leaves) s2_f_law_leaves)
def s4_f_law_leaves : Sts := (.cons (.set 4 (.call "_law_leaf" (.cons (.loc 0) .nil))) s3_f_law_leaves)
def s5_f_law_leaves : Sts := (.cons (.ret (.loc 2)) .nil)
def s6_f_law_leaves : Sts := (.cons (.set 2 (.lst .nil)) (.cons (.for (.nm 3) (.rng1 (.loc 1)) s4_f_law_leaves) s5_f_law_leaves))
def d_f_law_leaves : FDef := { params := 2, names := ["_law_pot_here", "_law_many_here", "_law_some", "_law_k", "_law_one"], dflt := [], body :=
    s6_f_law_leaves }
def r_f_law_leaves : Rw := ⟨.f "_law_leaves", d_f_law_leaves, ⟨("_law_leaves", none), "_law_leaves", "_law_leaves", defArgs (top 17), defBody (top 17), defScope (top 17), [], []⟩⟩
theorem b_f_law_leaves : BindP r_f_law_leaves := .of0 rfl fun _ _ _ _ _ _ us hl => match us, hl with | [_, _], _ => rfl
def s1_f_law_kind : Sts := (.cons (.ret (.sub (.loc 1) (.call "_law_draw" (.cons (.loc 0) (.cons (.bi .len (.cons (.loc 1) .nil)) .nil))))) .nil)
def s2_f_law_kind : Sts := (.cons (.ret (.sub (.loc 5) (.call "_law_draw" (.cons (.loc 0) (.cons (.bi .len (.cons (.loc 5) .nil)) .nil))))) .nil)
def s3_f_law_kind : Sts := (.cons (.set 5 (.bin .Add (.lst (.cons (.lit (.str "num")) .nil)) (.lc (.loc 6) (.tp [6, 7]) (.seq (.loc 2)) (.some (.v (.cmp .Eq (.loc 7) (.lit (.int 0))))) [("_law_word_here", 6), ("_law_many_here", 7)]))) s2_f_law_kind)
def s4_f_law_kind : Sts := (.cons (.ife (.and (.v (.cmp .Gt (.bin .Mod (.loc 4) (.lit (.int 3))) (.lit (.int 0)))) (.v (.cmp .Gt (.bi .len (.cons (.loc 1) .nil)) (.lit (.int 0))))) s1_f_law_kind .nil) s3_f_law_kind)
def s5_f_law_kind : Sts := (.cons (.ret (.tup (.cons (.lit (.str "->")) (.cons (.call "_law_kind" (.cons (.loc 0) (.cons (.loc 1) (.cons (.loc 2) (.cons (.bin .Sub (.loc 3) (.lit (.int 1))) .nil))))) (.cons (.call "_law_kind" (.cons (.loc 0) (.cons (.loc 1) (.cons (.loc 2) (.cons (.bin .Sub (.loc 3) (.lit (.int 1))) .nil))))) .nil))))) .nil)
def s6_f_law_kind : Sts := (.cons (.ret (.loc 6)) .nil)
def s7_f_law_kind : Sts := (.cons (.ret (.bin .Add (.tup (.cons (.loc 6) .nil)) (.bi .tuple (.cons (.lc (.call "_law_kind" (.cons (.loc 0) (.cons (.loc 1) (.cons (.loc 2) (.cons (.bin .Sub (.loc 3) (.lit (.int 1))) .nil))))) (.nm 8) (.rng1 (.loc 7)) .none [("_law_k", 8)]) .nil)))) .nil)
def s8_f_law_kind : Sts := (.cons (.ife (.v (.cmp .Eq (.loc 7) (.lit (.int 0)))) s6_f_law_kind .nil) s7_f_law_kind)
def s9_f_law_kind : Sts := (.cons (.setT [6, 7] (.sub (.loc 2) (.call "_law_draw" (.cons (.loc 0) (.cons (.bi .len (.cons (.loc 2) .nil)) .nil))))) s8_f_law_kind)
def s10_f_law_kind : Sts := (.cons (.ife (.v (.cmp .Lt (.loc 4) (.lit (.int 5)))) s5_f_law_kind .nil) s9_f_law_kind)
def s11_f_law_kind : Sts := (.cons (.ife (.or (.v (.cmp .Eq (.loc 3) (.lit (.int 0)))) (.v (.cmp .Lt (.loc 4) (.lit (.int 2))))) s4_f_law_kind .nil) s10_f_law_kind)
def s12_f_law_kind : Sts := (.cons (.set 4 (.call "_law_draw" (.cons (.loc 0) (.cons (.lit (.int 9)) .nil)))) s11_f_law_kind)
def d_f_law_kind : FDef := { params := 4, names := ["_law_pot_here", "_law_leaves_here", "_law_heads", "_law_deep", "_law_way", "_law_bare", "_law_word_here", "_law_many_here", "_law_k"], dflt := [], body :=
    s12_f_law_kind }
def r_f_law_kind : Rw := ⟨.f "_law_kind", d_f_law_kind, ⟨("_law_kind", none), "_law_kind", "_law_kind", defArgs (top 18), defBody (top 18), defScope (top 18), [], []⟩⟩
theorem b_f_law_kind : BindP r_f_law_kind := .of0 rfl fun _ _ _ _ _ _ us hl => match us, hl with | [_, _, _, _], _ => rfl
def s1_f_law_standing : Sts := (.cons (.expr (.bm .extend (.loc 2) (.cons (.vi .listRev (.cons (.slice (.loc 3) (.some (.lit (.int 1))) .none) .nil)) .nil))) .nil)
def s2_f_law_standing : Sts := (.cons (.expr (.bm .append (.loc 1) (.cons (.loc 3) .nil))) .nil)
def s3_f_law_standing : Sts := (.cons (.ife (.and (.v (.bm .startswith (.loc 3) (.cons (.lit (.str "?")) .nil))) (.v (.cmp .NotIn (.loc 3) (.loc 1)))) s2_f_law_standing .nil) .nil)
def s4_f_law_standing : Sts := (.cons (.set 3 (.bm .pop (.loc 2) .nil)) (.cons (.ife (.v (.isi (.loc 3) [.tuple])) s1_f_law_standing s3_f_law_standing) .nil))
def s5_f_law_standing : Sts := (.cons (.ret (.loc 1)) .nil)
def s6_f_law_standing : Sts := (.cons (.set 1 (.lst .nil)) (.cons (.set 2 (.lst (.cons (.loc 0) .nil))) (.cons (.while (.v (.cmp .Gt (.bi .len (.cons (.loc 2) .nil)) (.lit (.int 0)))) s4_f_law_standing) s5_f_law_standing)))
def d_f_law_standing : FDef := { params := 1, names := ["_law_kind_here", "_law_some", "_law_waiting", "_law_one"], dflt := [], body :=
    s6_f_law_standing }
def r_f_law_standing : Rw := ⟨.f "_law_standing", d_f_law_standing, ⟨("_law_standing", none), "_law_standing", "_law_standing", defArgs (top 19), defBody (top 19), defScope (top 19), [], []⟩⟩
theorem b_f_law_standing : BindP r_f_law_standing := .of0 rfl fun _ _ _ _ _ _ us hl => match us, hl with | [_], _ => rfl
def s1_f_law_filled : Sts := (.cons (.ret (.bin .Add (.slice (.loc 0) .none (.some (.lit (.int 1)))) (.bi .tuple (.cons (.lc (.call "_law_filled" (.cons (.loc 2) (.cons (.loc 1) .nil))) (.nm 2) (.seq (.slice (.loc 0) (.some (.lit (.int 1))) .none)) .none [("_law_part", 2)]) .nil)))) .nil)
def s2_f_law_filled : Sts := (.cons (.ret (.bm .get (.loc 1) (.cons (.loc 0) (.cons (.loc 0) .nil)))) .nil)
def s3_f_law_filled : Sts := (.cons (.ife (.v (.isi (.loc 0) [.tuple])) s1_f_law_filled .nil) s2_f_law_filled)
def d_f_law_filled : FDef := { params := 2, names := ["_law_kind_here", "_law_by", "_law_part"], dflt := [], body :=
    s3_f_law_filled }
def r_f_law_filled : Rw := ⟨.f "_law_filled", d_f_law_filled, ⟨("_law_filled", none), "_law_filled", "_law_filled", defArgs (top 20), defBody (top 20), defScope (top 20), [], []⟩⟩
theorem b_f_law_filled : BindP r_f_law_filled := .of0 rfl fun _ _ _ _ _ _ us hl => match us, hl with | [_, _], _ => rfl
def s1_f_law_matched : Sts := (.cons (.ret (.lit .non)) .nil)
def s2_f_law_matched : Sts := (.cons (.expr (.bm .extend (.loc 2) (.cons (.vi .listZip (.cons (.slice (.loc 3) (.some (.lit (.int 1))) .none) (.cons (.slice (.loc 4) (.some (.lit (.int 1))) .none) .nil))) .nil))) .nil)
def s3_f_law_matched : Sts := (.cons (.ife (.or (.not (.v (.isi (.loc 4) [.tuple]))) (.or (.v (.cmp .NotEq (.sub (.loc 3) (.lit (.int 0))) (.sub (.loc 4) (.lit (.int 0))))) (.v (.cmp .NotEq (.bi .len (.cons (.loc 3) .nil)) (.bi .len (.cons (.loc 4) .nil)))))) s1_f_law_matched .nil) s2_f_law_matched)
def s4_f_law_matched : Sts := (.cons (.ret (.lit .non)) .nil)
def s5_f_law_matched : Sts := (.cons (.ife (.v (.cmp .NotEq (.bm .setdefault (.loc 1) (.cons (.loc 3) (.cons (.loc 4) .nil))) (.loc 4))) s4_f_law_matched .nil) .nil)
def s6_f_law_matched : Sts := (.cons (.ret (.lit .non)) .nil)
def s7_f_law_matched : Sts := (.cons (.ife (.v (.cmp .NotEq (.loc 3) (.loc 4))) s6_f_law_matched .nil) .nil)
def s8_f_law_matched : Sts := (.cons (.ife (.v (.bm .startswith (.loc 3) (.cons (.lit (.str "?")) .nil))) s5_f_law_matched s7_f_law_matched) .nil)
def s9_f_law_matched : Sts := (.cons (.setT [3, 4] (.bm .pop (.loc 2) .nil)) (.cons (.ife (.v (.isi (.loc 3) [.tuple])) s3_f_law_matched s8_f_law_matched) .nil))
def s10_f_law_matched : Sts := (.cons (.ret (.loc 1)) .nil)
def s11_f_law_matched : Sts := (.cons (.set 1 (.dic .nil)) (.cons (.set 2 (.bi .list (.cons (.loc 0) .nil))) (.cons (.while (.v (.cmp .Gt (.bi .len (.cons (.loc 2) .nil)) (.lit (.int 0)))) s9_f_law_matched) s10_f_law_matched)))
def d_f_law_matched : FDef := { params := 1, names := ["_law_pairs_here", "_law_by", "_law_waiting", "_law_wide", "_law_kind_here"], dflt := [], body :=
    s11_f_law_matched }
def r_f_law_matched : Rw := ⟨.f "_law_matched", d_f_law_matched, ⟨("_law_matched", none), "_law_matched", "_law_matched", defArgs (top 21), defBody (top 21), defScope (top 21), [], []⟩⟩
theorem b_f_law_matched : BindP r_f_law_matched := .of0 rfl fun _ _ _ _ _ _ us hl => match us, hl with | [_], _ => rfl
def s1_f_law_joiner : Sts := (.cons (.set 5 (.call "_law_kind" (.cons (.loc 0) (.cons (.loc 2) (.cons (.loc 3) (.cons (.call "_law_draw" (.cons (.loc 0) (.cons (.lit (.int 3)) .nil))) .nil)))))) .nil)
def s2_f_law_joiner : Sts := (.cons (.setI (.loc 4) (.loc 6) (.loc 5)) .nil)
def s3_f_law_joiner : Sts := (.cons (.ife (.or (.v (.cmp .Eq (.bi .len (.cons (.loc 4) .nil)) (.lit (.int 0)))) (.v (.cmp .Gt (.call "_law_draw" (.cons (.loc 0) (.cons (.lit (.int 3)) .nil))) (.lit (.int 0))))) s1_f_law_joiner .nil) s2_f_law_joiner)
def s4_f_law_joiner : Sts := (.cons (.ret (.loc 4)) .nil)
def s5_f_law_joiner : Sts := (.cons (.set 4 (.dic .nil)) (.cons (.set 5 (.lit (.str "num"))) (.cons (.for (.nm 6) (.seq (.loc 1)) s3_f_law_joiner) s4_f_law_joiner)))
def d_f_law_joiner : FDef := { params := 4, names := ["_law_pot_here", "_law_names_here", "_law_beyond", "_law_heads", "_law_by", "_law_last", "_law_name"], dflt := [], body :=
    s5_f_law_joiner }
def r_f_law_joiner : Rw := ⟨.f "_law_joiner", d_f_law_joiner, ⟨("_law_joiner", none), "_law_joiner", "_law_joiner", defArgs (top 22), defBody (top 22), defScope (top 22), [], []⟩⟩
theorem b_f_law_joiner : BindP r_f_law_joiner := .of0 rfl fun _ _ _ _ _ _ us hl => match us, hl with | [_, _, _, _], _ => rfl
def s1_f_law_folded : Sts := (.cons (.ret (.loc 3)) .nil)
def s2_f_law_folded : Sts := (.cons (.ife (.and (.v (.cmp .Eq (.sub (.loc 2) (.loc 3)) (.loc 1))) (.v (.cmp .Eq (.call "_law_draw" (.cons (.loc 0) (.cons (.lit (.int 2)) .nil))) (.lit (.int 0))))) s1_f_law_folded .nil) .nil)
def s3_f_law_folded : Sts := (.cons (.ret (.bin .Add (.slice (.loc 1) .none (.some (.lit (.int 1)))) (.bi .tuple (.cons (.lc (.call "_law_folded" (.cons (.loc 0) (.cons (.loc 4) (.cons (.loc 2) .nil)))) (.nm 4) (.seq (.slice (.loc 1) (.some (.lit (.int 1))) .none)) .none [("_law_part", 4)]) .nil)))) .nil)
def s4_f_law_folded : Sts := (.cons (.ret (.loc 1)) .nil)
def s5_f_law_folded : Sts := (.cons (.ife (.v (.isi (.loc 1) [.tuple])) s3_f_law_folded .nil) s4_f_law_folded)
def s6_f_law_folded : Sts := (.cons (.lck 2 (.for (.nm 3) (.keys (.loc 2)) s2_f_law_folded)) s5_f_law_folded)
def d_f_law_folded : FDef := { params := 3, names := ["_law_pot_here", "_law_kind_here", "_law_by", "_law_name", "_law_part"], dflt := [], body :=
    s6_f_law_folded }
def r_f_law_folded : Rw := ⟨.f "_law_folded", d_f_law_folded, ⟨("_law_folded", none), "_law_folded", "_law_folded", defArgs (top 23), defBody (top 23), defScope (top 23), [], []⟩⟩
theorem b_f_law_folded : BindP r_f_law_folded := .of0 rfl fun _ _ _ _ _ _ us hl => match us, hl with | [_, _, _], _ => rfl
def s1_f_law_many : Sts := (.cons (.ret (.bin .Add (.lit (.int 7)) (.call "_law_draw" (.cons (.loc 0) (.cons (.lit (.int 3)) .nil))))) .nil)
def s2_f_law_many : Sts := (.cons (.ret (.bin .Add (.lit (.int 3)) (.call "_law_draw" (.cons (.loc 0) (.cons (.lit (.int 3)) .nil))))) .nil)
def s3_f_law_many : Sts := (.cons (.ife (.v (.cmp .Eq (.call "_law_draw" (.cons (.loc 0) (.cons (.lit (.int 8)) .nil))) (.lit (.int 0)))) s1_f_law_many .nil) s2_f_law_many)
def d_f_law_many : FDef := { params := 1, names := ["_law_pot_here"], dflt := [], body :=
    s3_f_law_many }
def r_f_law_many : Rw := ⟨.f "_law_many", d_f_law_many, ⟨("_law_many", none), "_law_many", "_law_many", defArgs (top 24), defBody (top 24), defScope (top 24), [], []⟩⟩
theorem b_f_law_many : BindP r_f_law_many := .of0 rfl fun _ _ _ _ _ _ us hl => match us, hl with | [_], _ => rfl
def s1_f_law_pairs : Sts := (.cons (.expr (.bm .append (.loc 4) (.cons (.sub (.lst (.cons (.tup (.cons (.loc 6) (.cons (.loc 7) .nil))) (.cons (.tup (.cons (.loc 7) (.cons (.loc 6) .nil))) .nil))) (.call "_law_draw" (.cons (.loc 0) (.cons (.lit (.int 2)) .nil)))) .nil))) .nil)
def s2_f_law_pairs : Sts := (.cons (.set 7 (.call "_law_folded" (.cons (.loc 0) (.cons (.call "_law_filled" (.cons (.loc 6) (.cons (.loc 3) .nil))) (.cons (.loc 3) .nil))))) s1_f_law_pairs)
def s3_f_law_pairs : Sts := (.cons (.set 6 (.call "_law_kind" (.cons (.loc 0) (.cons (.loc 1) (.cons (.loc 2) (.cons (.bin .Add (.lit (.int 1)) (.call "_law_draw" (.cons (.loc 0) (.cons (.lit (.int 3)) .nil)))) .nil)))))) s2_f_law_pairs)
def s4_f_law_pairs : Sts := (.cons (.ret (.loc 4)) .nil)
def s5_f_law_pairs : Sts := (.cons (.set 4 (.lst .nil)) (.cons (.for (.nm 5) (.rng1 (.bin .Add (.lit (.int 1)) (.call "_law_draw" (.cons (.loc 0) (.cons (.sub (.lst (.cons (.lit (.int 5)) (.cons (.lit (.int 12)) .nil))) (.bi .int (.cons (.cmp .Gt (.bi .len (.cons (.loc 3) .nil)) (.lit (.int 6))) .nil))) .nil))))) s3_f_law_pairs) s4_f_law_pairs))
def d_f_law_pairs : FDef := { params := 4, names := ["_law_pot_here", "_law_leaves_here", "_law_heads", "_law_by", "_law_some", "_law_k", "_law_one", "_law_other"], dflt := [], body :=
    s5_f_law_pairs }
def r_f_law_pairs : Rw := ⟨.f "_law_pairs", d_f_law_pairs, ⟨("_law_pairs", none), "_law_pairs", "_law_pairs", defArgs (top 25), defBody (top 25), defScope (top 25), [], []⟩⟩
theorem b_f_law_pairs : BindP r_f_law_pairs := .of0 rfl fun _ _ _ _ _ _ us hl => match us, hl with | [_, _, _, _], _ => rfl
def s1_f_law_names : Sts := (.cons (.expr (.bm .extend (.loc 1) (.cons (.lc (.loc 4) (.nm 4) (.seq (.call "_law_standing" (.cons (.loc 3) .nil))) (.some (.v (.cmp .NotIn (.loc 4) (.loc 1)))) [("_law_name", 4)]) .nil))) .nil)
def s2_f_law_names : Sts := (.cons (.for (.nm 3) (.seq (.loc 2)) s1_f_law_names) .nil)
def s3_f_law_names : Sts := (.cons (.ret (.loc 1)) .nil)
def s4_f_law_names : Sts := (.cons (.set 1 (.lst .nil)) (.cons (.for (.nm 2) (.seq (.loc 0)) s2_f_law_names) s3_f_law_names))
def d_f_law_names : FDef := { params := 1, names := ["_law_pairs_here", "_law_some", "_law_pair", "_law_kind_here", "_law_name"], dflt := [], body :=
    s4_f_law_names }
def r_f_law_names : Rw := ⟨.f "_law_names", d_f_law_names, ⟨("_law_names", none), "_law_names", "_law_names", defArgs (top 26), defBody (top 26), defScope (top 26), [], []⟩⟩
theorem b_f_law_names : BindP r_f_law_names := .of0 rfl fun _ _ _ _ _ _ us hl => match us, hl with | [_], _ => rfl
def s1_f_law : Sts := (.cons (.ret (.lit (.bl false))) .nil)
def s2_f_law : Sts := (.cons (.ret (.lit (.bl false))) .nil)
def s3_f_law : Sts := (.cons (.ife (.v (.isN (.call "_law_matched" (.cons (.loc 9) .nil)))) s2_f_law .nil) .nil)
def s4_f_law : Sts := (.cons (.set 9 (.lc (.tup (.cons (.bm .get (.loc 8) (.cons (.loc 11) (.cons (.loc 11) .nil))) (.cons (.call "_law_filled" (.cons (.loc 11) (.cons (.loc 6) .nil))) .nil))) (.nm 11) (.seq (.call "_law_names" (.cons (.loc 7) .nil))) .none [("_law_name", 11)])) s3_f_law)
def s5_f_law : Sts := (.cons (.ife (.not (.v (.isi (.loc 8) [.dict]))) s1_f_law .nil) s4_f_law)
def s6_f_law : Sts := (.cons (.set 8 (.call "joined" (.cons (.bi .list (.cons (.loc 7) .nil)) .nil))) s5_f_law)
def s7_f_law : Sts := (.cons (.set 7 (.call "_law_pairs" (.cons (.loc 1) (.cons (.bin .Add (.slice (.loc 3) .none (.some (.loc 5))) (.slice (.loc 3) (.some (.lit (.int 9))) .none)) (.cons (.loc 2) (.cons (.loc 6) .nil)))))) s6_f_law)
def s8_f_law : Sts := (.cons (.set 6 (.call "_law_joiner" (.cons (.loc 1) (.cons (.slice (.loc 3) .none (.some (.loc 5))) (.cons (.slice (.loc 3) (.some (.lit (.int 9))) .none) (.cons (.loc 2) .nil)))))) s7_f_law)
def s9_f_law : Sts := (.cons (.set 5 (.call "_law_many" (.cons (.loc 1) .nil))) s8_f_law)
def s10_f_law : Sts := (.cons (.ret (.lit (.bl true))) .nil)
def s11_f_law : Sts := (.cons (.for (.nm 4) (.rng1 (.lit (.int 3))) s9_f_law) s10_f_law)
def s12_f_law : Sts := (.cons (.set 3 (.call "_law_leaves" (.cons (.loc 1) (.cons (.lit (.int 12)) .nil)))) s11_f_law)
def s13_f_law : Sts := (.cons (.set 2 (.lc (.call "_law_head" (.cons (.loc 1) .nil)) (.nm 10) (.rng1 (.sub (.lst (.cons (.lit (.int 4)) (.cons (.lit (.int 9)) .nil))) (.bi .int (.cons (.cmp .Eq (.call "_law_draw" (.cons (.loc 1) (.cons (.lit (.int 4)) .nil))) (.lit (.int 0))) .nil)))) .none [("_law_k", 10)])) s12_f_law)
def s14_f_law : Sts := (.cons (.set 1 (.call "_law_pot" (.cons (.loc 0) .nil))) s13_f_law)
def d_f_law : FDef := { params := 1, names := ["_law_script", "_law_pot_here", "_law_heads", "_law_leaves_here", "_law_turn", "_law_many_here", "_law_by", "_law_pairs_here", "_law_told", "_law_wanted", "_law_k", "_law_name"], dflt := [], body :=
    s14_f_law }
def r_f_law : Rw := ⟨.f "law", d_f_law, ⟨("law", none), "law", "law", defArgs (top 27), defBody (top 27), defScope (top 27), [], []⟩⟩
theorem b_f_law : BindP r_f_law := .of0 rfl fun _ _ _ _ _ _ us hl => match us, hl with | [_], _ => rfl
def tab : List Rw := [r_f_is_variable, r_f_within, r_f_heads_alike, r_f_followed, r_f_stands_in, r_f_whole, r_f_join_all, r_f_joined, r_f_law_mixed, r_f_law_pot, r_f_law_draw, r_f_law_word, r_f_law_head, r_f_law_leaf, r_f_law_leaves, r_f_law_kind, r_f_law_standing, r_f_law_filled, r_f_law_matched, r_f_law_joiner, r_f_law_folded, r_f_law_many, r_f_law_pairs, r_f_law_names, r_f_law]
def con : List (String × Lit) := []
def tups : List (String × List Lit) := []
def P : Pg := { flds := [], cls := [], tups := tups, fn := fnOfT tab, con := conV con tups, subs := [], hotf := [] }
theorem fn_f_is_variable : P.fn (.f "is_variable") = some d_f_is_variable := by kernel_rfl
theorem fn_f_within : P.fn (.f "within") = some d_f_within := by kernel_rfl
theorem fn_f_heads_alike : P.fn (.f "heads_alike") = some d_f_heads_alike := by kernel_rfl
theorem fn_f_followed : P.fn (.f "followed") = some d_f_followed := by kernel_rfl
theorem fn_f_stands_in : P.fn (.f "stands_in") = some d_f_stands_in := by kernel_rfl
theorem fn_f_whole : P.fn (.f "whole") = some d_f_whole := by kernel_rfl
theorem fn_f_join_all : P.fn (.f "join_all") = some d_f_join_all := by kernel_rfl
theorem fn_f_joined : P.fn (.f "joined") = some d_f_joined := by kernel_rfl
theorem fn_f_law_mixed : P.fn (.f "_law_mixed") = some d_f_law_mixed := by kernel_rfl
theorem fn_f_law_pot : P.fn (.f "_law_pot") = some d_f_law_pot := by kernel_rfl
theorem fn_f_law_draw : P.fn (.f "_law_draw") = some d_f_law_draw := by kernel_rfl
theorem fn_f_law_word : P.fn (.f "_law_word") = some d_f_law_word := by kernel_rfl
theorem fn_f_law_head : P.fn (.f "_law_head") = some d_f_law_head := by kernel_rfl
theorem fn_f_law_leaf : P.fn (.f "_law_leaf") = some d_f_law_leaf := by kernel_rfl
theorem fn_f_law_leaves : P.fn (.f "_law_leaves") = some d_f_law_leaves := by kernel_rfl
theorem fn_f_law_kind : P.fn (.f "_law_kind") = some d_f_law_kind := by kernel_rfl
theorem fn_f_law_standing : P.fn (.f "_law_standing") = some d_f_law_standing := by kernel_rfl
theorem fn_f_law_filled : P.fn (.f "_law_filled") = some d_f_law_filled := by kernel_rfl
theorem fn_f_law_matched : P.fn (.f "_law_matched") = some d_f_law_matched := by kernel_rfl
theorem fn_f_law_joiner : P.fn (.f "_law_joiner") = some d_f_law_joiner := by kernel_rfl
theorem fn_f_law_folded : P.fn (.f "_law_folded") = some d_f_law_folded := by kernel_rfl
theorem fn_f_law_many : P.fn (.f "_law_many") = some d_f_law_many := by kernel_rfl
theorem fn_f_law_pairs : P.fn (.f "_law_pairs") = some d_f_law_pairs := by kernel_rfl
theorem fn_f_law_names : P.fn (.f "_law_names") = some d_f_law_names := by kernel_rfl
theorem fn_f_law : P.fn (.f "law") = some d_f_law := by kernel_rfl
theorem rows_ok : tab.all (Rw.ok P) = true := by kernel_rfl
theorem bind_ok : ∀ r ∈ tab, BindP r := by
  intro r hr
  simp only [tab, List.mem_cons, List.not_mem_nil, or_false] at hr
  rcases hr with rfl | rfl | rfl | rfl | rfl | rfl | rfl | rfl | rfl | rfl | rfl | rfl | rfl | rfl | rfl | rfl | rfl | rfl | rfl | rfl | rfl | rfl | rfl | rfl | rfl
  · exact b_f_is_variable
  · exact b_f_within
  · exact b_f_heads_alike
  · exact b_f_followed
  · exact b_f_stands_in
  · exact b_f_whole
  · exact b_f_join_all
  · exact b_f_joined
  · exact b_f_law_mixed
  · exact b_f_law_pot
  · exact b_f_law_draw
  · exact b_f_law_word
  · exact b_f_law_head
  · exact b_f_law_leaf
  · exact b_f_law_leaves
  · exact b_f_law_kind
  · exact b_f_law_standing
  · exact b_f_law_filled
  · exact b_f_law_matched
  · exact b_f_law_joiner
  · exact b_f_law_folded
  · exact b_f_law_many
  · exact b_f_law_pairs
  · exact b_f_law_names
  · exact b_f_law
abbrev R : PySem.W.OpenRow := PySem.W.OpenLaw.row PySem.Challenge.rw_facework_k23_joined_is_the_widest
abbrev fas : List He.Fa := faOf P tab con
abbrev fns : List He.DefD := tab.map (·.dd)
abbrev ex : PySem.W.Frag → Bool := exB P
abbrev hk : PySem.W.Hook := He.hookX 4 fas fns [] [] ex
def ob (s : PySem.W.SharedT) : He.AlX := He.obsX 4 fas fns [] [] ex (HandSHeadRun.getT s)
theorem ob_eq (s : PySem.W.SharedT) : ob s = hk.obs s.abs := He.obsX_eq (HandSHeadRun.getT_eq s)
def loose0 : List PySem.Str := ["is_variable", "within", "heads_alike", "followed", "stands_in", "whole", "join_all", "joined", "_law_mixed", "_law_pot", "_law_draw", "_law_word", "_law_head", "_law_leaf", "_law_leaves", "_law_kind", "_law_standing", "_law_filled", "_law_matched", "_law_joiner", "_law_folded", "_law_many", "_law_pairs", "_law_names"]
abbrev loose : List PySem.Str := loose0
end K23

set_option maxHeartbeats 0
namespace K23
open PySem PySem.W PySem.Calls PyProof.Rows
theorem run (w : World) : HandSHeadRun.RunEq R (view R.prog [27]) hk ob 4800 loose w := by
  intro os
  kernel_rfl
end K23

set_option maxHeartbeats 1000000
namespace K23
open Mi PySem
def potO (c : Nat) (a d t : Int) : Ob := .dic [(.inr "cells", .ref c), (.inr "at", .int a), (.inr "digits", .int d), (.inr "turn", .int t)]
structure Pot (p c : Nat) (T : Int) (S : Hm) : Prop where
  ex : ∃ a d t, S[p]? = some (potO c a d t) ∧ 0 ≤ a ∧ 0 ≤ d ∧ 0 ≤ t ∧ t ≤ T
  cl : ∃ ns : List Int, S[c]? = some (.lst (ns.map .int))
  ne : c ≠ p
def Fr (p : Nat) (S S' : Hm) : Prop := S.length ≤ S'.length ∧ ∀ n, n < S.length → n ≠ p → S'[n]? = S[n]?
theorem lt_of_get {α : Type} {S : List α} {n : Nat} {o : α} (h : S[n]? = some o) : n < S.length := (List.getElem?_eq_some_iff.mp h).1
theorem log_lt {a : Int} {n : Nat} (h : a.natAbs < 2 ^ (n + 1)) : a.natAbs.log2 ≤ n := by
  by_cases h0 : a.natAbs = 0
  · rw [h0]; exact Nat.zero_le _
  · have := (Nat.log2_lt h0).mpr h
    omega
theorem mulOk_small {a b : Int} (ha : a.natAbs < 2 ^ 200) (hb : b.natAbs < 2 ^ 200) : mulOk a b := by
  have h1 := log_lt (n := 199) ha
  have h2 := log_lt (n := 199) hb
  unfold mulOk
  omega
theorem divOk_small {a : Int} (h0 : 0 < a) (ha : a < 2 ^ 200) : divOk a := by
  refine ⟨h0, ?_⟩
  have := log_lt (a := a) (n := 199) (by omega)
  omega
theorem mixed_ok {k : Nat} {c t : Int} {S : Hm} (ht : 0 ≤ t) (hT : t ≤ 10 ^ 12) : callW P (k + 1) (.f "_law_mixed") [.int c, .int t] S (fun v S' => S' = S ∧ ∃ r, v = .int r ∧ 0 ≤ r) noX := by
  refine call_open fn_f_law_mixed ⟨rfl, ?_⟩
  show wSs _ _ _ s1_f_law_mixed _ _ [some (.int c), some (.int t), none] S
  simp only [s1_f_law_mixed, wSs, wS]
  have h1 : t * t ≤ 10 ^ 12 * 10 ^ 12 := Int.mul_le_mul hT hT ht (by omega)
  have h2 : 0 ≤ t * t := Int.mul_nonneg ht ht
  refine wE_iv _ rfl ?_ (wE_iv _ rfl ?_ ⟨rfl, _, rfl, ?_⟩)
  · simp only [ik, iv, eg, vI, opI, okI, true_and, and_true]
    refine ⟨⟨⟨by decide, mulOk_small (by omega) (by omega), mulOk_small (by omega) (by decide)⟩, mulOk_small (by omega) (by decide)⟩, by decide⟩
  · simp only [ik, iv, eg, es, vI, opI, okI, true_and, and_true]
    refine ⟨⟨⟨⟨divOk_small (by decide) (by decide), mulOk_small (by omega) (by decide)⟩, mulOk_small (by omega) (by decide)⟩, by decide⟩, divOk_small (by decide) (by decide)⟩
  · omega
theorem atI_map {ns : List Int} {i : Int} (h0 : 0 ≤ i) (h1 : i < ns.length) : ∃ x, atI (ns.map Val.int) i = some (.int x) := by
  unfold atI ixN
  rw [if_pos h0, if_pos (by simpa using h1)]
  have : i.toNat < ns.length := by omega
  refine ⟨ns[i.toNat], ?_⟩
  show (ns.map Val.int)[i.toNat]? = _
  rw [List.getElem?_map, List.getElem?_eq_getElem this]
  rfl
theorem draw_ok {k : Nat} {p c : Nat} {m T : Int} {S : Hm} (h : Pot p c T S) (hm : 0 < m) (hm2 : m < 2 ^ 64) (hT : T < 10 ^ 9) : callW P (k + 2) (.f "_law_draw") [.ref p, .int m] S (fun v S' => (∃ r, v = .int r ∧ 0 ≤ r ∧ r < m) ∧ Pot p c (T + 1) S' ∧ Fr p S S' ∧ S'.length = S.length) noX := by
  obtain ⟨⟨a, d, t, hp, ha, hd, ht, hT'⟩, ⟨ns, hc⟩, hne⟩ := h
  have fin : ∀ r a' d', 0 ≤ r → r < m → 0 ≤ a' → 0 ≤ d' → ((∃ r', Val.int r = .int r' ∧ 0 ≤ r' ∧ r' < m) ∧ Pot p c (T + 1) (S.set p (potO c a' d' (t + 1))) ∧ Fr p S (S.set p (potO c a' d' (t + 1))) ∧ (S.set p (potO c a' d' (t + 1))).length = S.length) := by
    intro r a' d' h1 h2 h3 h4
    refine ⟨⟨r, rfl, h1, h2⟩, ⟨⟨a', d', t + 1, by rw [get_set, hp]; rfl, h3, h4, by omega, by omega⟩, ⟨ns, by rw [get_ne hne]; exact hc⟩, hne⟩, ⟨by simp, fun n _ hn => get_ne hn⟩, by simp⟩
  refine call_open fn_f_law_draw ⟨rfl, ?_⟩
  show wSs _ _ _ s7_f_law_draw _ _ [some (.ref p), some (.int m), none, none] S
  generalize hQ : (fun (v : Val) (S' : Hm) => (∃ r, v = Val.int r ∧ 0 ≤ r ∧ r < m) ∧ Pot p c (T + 1) S' ∧ Fr p S S' ∧ S'.length = S.length) = Q
  have fin : ∀ r a' d', 0 ≤ r → r < m → 0 ≤ a' → 0 ≤ d' → Q (.int r) (S.set p (potO c a' d' (t + 1))) := by subst hQ; exact fin
  simp only [potO] at hp
  have m0 := Int.emod_nonneg
  have h6 : ∀ (o : Option Val) (a' d' : Int) (nx : Mi.Env → Hm → Prop), 0 ≤ a' → 0 ≤ d' → wSs P.con P.sub (callW P (k+1)) s6_f_law_draw (fun c x S' => noX c S') { nx := nx, rt := Q } [some (.ref p), some (.int m), none, o] (S.set p (potO c a' d' (t+1))) := by
    intro o a' d' nx h1 h2
    simp only [s6_f_law_draw, wSs, wS, wE, wT, wEs, eg, Option.some.injEq, exists_eq_left', es, Lit.val, subW_ref, setW_ref, get_set, hp, potO, Option.map_some, subD, setD, Val.key]
    simp [lookK, binW, cmpW, truth, get_set, hp, eqW_int, sizeLine_eq, putK, List.set_set]
    exact ⟨hm, divOk_small hm (by omega), fin _ a' (d' / m) (Int.emod_nonneg _ (by omega)) (Int.emod_lt_of_pos _ hm) h1 (Int.ediv_nonneg h2 (by omega))⟩
  have h4 : ∀ (x a' : Int) (nx : Mi.Env → Hm → Prop), 0 ≤ a' → wSs P.con P.sub (callW P (k+1)) s4_f_law_draw (fun c x S' => noX c S') { nx := fun env' S' => wSs P.con P.sub (callW P (k+1)) s6_f_law_draw (fun c x S' => noX c S') { nx := nx, rt := Q } env' S', rt := Q } [some (.ref p), some (.int m), none, some (.int x)] (S.set p (potO c a' 0 (t+1))) := by
    intro x a' nx h1
    simp only [s4_f_law_draw, wSs, wS, wE, wT, wEs, eg, Option.some.injEq, exists_eq_left', es, Lit.val, binW, cmpW, truth]
    refine ⟨by unfold powOk; decide, ?_⟩
    by_cases hx : x < 10 ^ 18
    · simp only [show decide (x < 10 ^ Int.toNat 18) = true from decide_eq_true hx, if_true, s2_f_law_draw, wSs, wS, wE, wT, wEs, eg, Option.some.injEq, exists_eq_left', es, Lit.val, subW_ref, setW_ref, get_set, hp, potO, Option.map_some, subD, setD, Val.key]
      simp [lookK]
      refine call_use (mixed_ok (k := k) (by omega) (by omega)) ?_
      rintro v S' ⟨rfl, r, rfl, hr⟩
      simp only [binW]
      exact ⟨hm, fin _ a' 0 (Int.emod_nonneg _ (by omega)) (Int.emod_lt_of_pos _ hm) h1 (by omega)⟩
    · simp only [show decide (x < 10 ^ Int.toNat 18) = false from decide_eq_false hx, if_false, Bool.false_eq_true, s3_f_law_draw, wSs, wS, wE, wT, wEs, eg, Option.some.injEq, exists_eq_left', es, Lit.val, subW_ref, setW_ref, get_set, hp, potO, Option.map_some, subD, setD, Val.key]
      simp [putK, sizeLine_eq, List.set_set]
      have hx0 : (0 : Int) ≤ x := by
        have : (0 : Int) ≤ 10 ^ 18 := by decide
        omega
      exact h6 _ a' x nx h1 hx0
  simp only [s7_f_law_draw, wSs, wS, wE, wT, wEs, eg, Option.some.injEq, exists_eq_left', es, Lit.val, subW_ref, setW_ref, hp, subD, setD, Val.key]
  simp [lookK, binW, cmpW, truth, get_set, hp, eqW_int, sizeLine_eq, putK, List.set_set]
  by_cases hd0 : d = 0
  · rw [if_pos hd0]
    subst hd0
    simp only [s5_f_law_draw, wSs, wS, wE, wT, wEs, eg, Option.some.injEq, exists_eq_left', es, Lit.val, subW_ref, setW_ref, get_set, hp, Option.map_some, subD, setD, Val.key]
    simp [lookK, binW, cmpW, truth, get_set, hp, eqW_int, sizeLine_eq, putK, List.set_set, lenW_ref, get_ne hne, hc, lenD]
    by_cases hn : 0 < ns.length
    · rw [if_pos hn]
      simp only [s1_f_law_draw, wSs, wS, wE, wT, wEs, eg, Option.some.injEq, exists_eq_left', es, Lit.val, subW_ref, setW_ref, get_set, hp, Option.map_some, subD, setD, Val.key]
      simp [lookK, binW, cmpW, truth, get_set, hp, eqW_int, sizeLine_eq, putK, List.set_set, lenW_ref, get_ne hne, hc, lenD, subD, Val.key]
      obtain ⟨x, hx⟩ := atI_map (ns := ns) (i := a % ns.length) (Int.emod_nonneg _ (by omega)) (Int.emod_lt_of_pos _ (by omega))
      refine ⟨hn, subW_lst (lst_at (by rw [get_ne hne]; exact hc)) hx ?_⟩
      simp [lookK, binW, get_set, hp, sizeLine_eq, putK, List.set_set]
      exact h4 x (a + 1) _ (by omega)
    · rw [if_neg hn]
      exact h4 0 a _ ha
  · rw [if_neg hd0]
    exact h6 _ a d _ ha hd
end K23

set_option maxHeartbeats 1000000
namespace K23
open Mi PySem
theorem Fr.refl (p : Nat) (S : Hm) : Fr p S S := ⟨Nat.le_refl _, fun _ _ _ => rfl⟩
theorem Fr.trans {p : Nat} {S S1 S2 : Hm} (a : Fr p S S1) (b : Fr p S1 S2) : Fr p S S2 := ⟨Nat.le_trans a.1 b.1, fun n h hn => (b.2 n (Nat.lt_of_lt_of_le h a.1) hn).trans (a.2 n h hn)⟩
theorem Fr.get {p : Nat} {S S1 : Hm} (a : Fr p S S1) {n : Nat} {o : Ob} (hn : n ≠ p) (h : S[n]? = some o) : S1[n]? = some o := (a.2 n (lt_of_get h) hn).trans h
theorem Fr.app {p : Nat} {S : Hm} (l : Hm) : Fr p S (S ++ l) := ⟨by simp, fun n h _ => List.getElem?_append_left h⟩
theorem Pot.app {p c : Nat} {T : Int} {S : Hm} (h : Pot p c T S) (l : Hm) : Pot p c T (S ++ l) := by
  obtain ⟨⟨a, d, t, hp, ha, hd, ht, hT'⟩, ⟨ns, hc⟩, hne⟩ := h
  exact ⟨⟨a, d, t, get_app hp, ha, hd, ht, hT'⟩, ⟨ns, get_app hc⟩, hne⟩
theorem Pot.le {p c : Nat} {T T' : Int} {S : Hm} (h : Pot p c T S) (ht : T ≤ T') : Pot p c T' S := by
  obtain ⟨⟨a, d, t, hp, ha, hd, ht, hT'⟩, h2, h3⟩ := h
  exact ⟨⟨a, d, t, hp, ha, hd, ht, by omega⟩, h2, h3⟩
/-- no question mark -/
def NQ (s : String) : Prop := ∀ ch ∈ s.toList, ch ≠ '?'
theorem NQ.app {a b : String} (h : NQ a) (h' : NQ b) : NQ (a ++ b) := by
  intro ch hc
  rw [String.toList_append] at hc
  rcases List.mem_append.mp hc with z | z
  · exact h _ z
  · exact h' _ z
theorem NQ.cut {l : List Char} (h : ∀ ch ∈ l, ch ≠ '?') (lo hi : Option Int) : NQ (String.ofList (Mi.cut l lo hi)) := by
  intro ch hc
  rw [String.toList_ofList] at hc
  exact h ch (List.mem_of_mem_drop (List.mem_of_mem_take hc))
theorem NQ.one {l : List Char} {i : Int} {ch : Char} (h : ∀ ch ∈ l, ch ≠ '?') (hi : atI l i = some ch) : NQ (String.singleton ch) := by
  unfold atI at hi
  obtain ⟨j, _, hj⟩ := Option.bind_eq_some_iff.mp hi
  intro c hc
  have : c = ch := by simpa using hc
  subst this
  exact h c (List.mem_of_getElem? hj)
theorem NQ.rep {a : String} (h : NQ a) : ∀ n, NQ (strRep a n)
  | 0 => fun ch hc => by simp [strRep] at hc
  | n + 1 => (NQ.rep h n).app h
theorem rep_len {a : String} : ∀ n, (strRep a n).length = n * a.length
  | 0 => by simp [strRep]
  | n + 1 => by simp [strRep, String.length_append, rep_len n, Nat.succ_mul]
theorem cut_len {α : Type} (l : List α) (lo hi : Option Int) : (Mi.cut l lo hi).length ≤ l.length := by
  unfold Mi.cut
  simp
  omega
theorem atI_lt {α : Type} {l : List α} {i : Int} (h0 : 0 ≤ i) (h1 : i < l.length) : ∃ x, atI l i = some x := by
  unfold atI ixN
  rw [if_pos h0, if_pos h1]
  have : i.toNat < l.length := by omega
  exact ⟨l[i.toNat], by show l[i.toNat]? = _; rw [List.getElem?_eq_getElem this]⟩
theorem small_nq : ∀ ch ∈ "abcdefghijklmnopqrstuvwxyz".toList, ch ≠ '?' := by decide
theorem great_nq : ∀ ch ∈ "ABCDEFGHIJKLMNOPQRSTUVWXYZ".toList, ch ≠ '?' := by decide
theorem small_len : "abcdefghijklmnopqrstuvwxyz".toList.length = 26 := by decide
theorem great_len : "ABCDEFGHIJKLMNOPQRSTUVWXYZ".toList.length = 26 := by decide
theorem word_ok {k : Nat} {p c : Nat} {T : Int} {S : Hm} (h : Pot p c T S) (hT : T < 10 ^ 8) : callW P (k + 3) (.f "_law_word") [.ref p] S (fun v S' => (∃ s : String, v = .str s ∧ NQ s ∧ 0 < s.length ∧ s.length ≤ 20) ∧ Pot p c (T + 4) S' ∧ Fr p S S') noX := by
  refine call_open fn_f_law_word ⟨rfl, ?_⟩
  show wSs _ _ _ s4_f_law_word _ _ [some (.ref p), none, none, none, none] S
  simp only [s4_f_law_word, wSs, wS, wE, wT, wEs, eg, Option.some.injEq, exists_eq_left', es, Lit.val]
  refine call_use (draw_ok h (by decide) (by decide) (by omega)) ?_
  rintro v S1 ⟨⟨r1, rfl, a1, b1⟩, p1, f1, _⟩
  simp only [s3_f_law_word, wSs, wS, wE, wT, wEs, eg, Option.some.injEq, exists_eq_left', es, Lit.val]
  refine call_use (draw_ok p1 (by decide) (by decide) (by omega)) ?_
  rintro v S2 ⟨⟨r2, rfl, a2, b2⟩, p2, f2, _⟩
  simp only [subW, binW]
  obtain ⟨c1, hc1⟩ := atI_lt (l := "abcdefghijklmnopqrstuvwxyz".toList) (i := r2) a2 (by rw [small_len]; exact b2)
  refine ⟨by rw [sizeLine_eq]; decide, c1, hc1, by omega, by omega, by simp; omega, ?_⟩
  simp only [s2_f_law_word, wSs, wS, wE, wT, wEs, eg, Option.some.injEq, exists_eq_left', es, Lit.val, binW]
  refine call_use (draw_ok p2 (by omega) (by omega) (by omega)) ?_
  rintro v S3 ⟨⟨r3, rfl, a3, b3⟩, p3, f3, _⟩
  simp only [s1_f_law_word, wSs, wS, wE, wT, wEs, wO, eg, Option.some.injEq, exists_eq_left', es, Lit.val, binW]
  refine ⟨r3, rfl, ?_⟩
  simp only [sliceW]
  refine ⟨by rw [rep_len, sizeLine_eq]; simp; omega, ?_⟩
  refine call_use (draw_ok p3 (by decide) (by decide) (by omega)) ?_
  rintro v S4 ⟨⟨r4, rfl, a4, b4⟩, p4, f4, _⟩
  obtain ⟨c2, hc2⟩ := atI_lt (l := "abcdefghijklmnopqrstuvwxyz".toList) (i := r4) a4 (by rw [small_len]; exact b4)
  simp only [subW]
  refine ⟨by rw [sizeLine_eq]; decide, c2, hc2, ?_⟩
  have e1 : (strRep (String.singleton c1) r1.toNat).length ≤ 6 := by rw [rep_len]; simp; omega
  have e2 : ∀ lo hi, (String.ofList (cut (strRep (String.singleton c1) r1.toNat).toList lo hi)).length ≤ 6 := fun lo hi => by
    rw [String.length_ofList]
    exact Nat.le_trans (cut_len _ _ _) (by rw [String.length_toList]; exact e1)
  have e3 := e2 none (some r3)
  have e4 := e2 (some r3) none
  have e5 : (String.singleton c2).length = 1 := by simp
  have e6 : "q".length = 1 := by decide
  have q1 : NQ (strRep (String.singleton c1) r1.toNat) := (NQ.one small_nq hc1).rep _
  refine ⟨by rw [sizeLine_eq]; omega, r3, rfl, by rw [sizeLine_eq]; omega, by rw [String.length_append, sizeLine_eq]; omega, by rw [String.length_append, String.length_append, sizeLine_eq]; omega, ⟨_, rfl, ?_, ?_, ?_⟩, p4.le (by omega), f1.trans (f2.trans (f3.trans f4))⟩
  · exact (((NQ.cut q1 _ _).app (NQ.one small_nq hc2)).app (NQ.cut q1 _ _)).app (by unfold NQ; decide)
  · rw [String.length_append]; omega
  · rw [String.length_append, String.length_append, String.length_append]; omega
/-- a head: a word and how many kinds it takes -/
def IsHd (v : Val) : Prop := ∃ (s : String) (m : Int), v = .tup [.str s, .int m] ∧ NQ s ∧ 0 < s.length ∧ 0 ≤ m ∧ m < 4
theorem head_ok {k : Nat} {p c : Nat} {T : Int} {S : Hm} (h : Pot p c T S) (hT : T < 10 ^ 7) : callW P (k + 4) (.f "_law_head") [.ref p] S (fun v S' => IsHd v ∧ Pot p c (T + 16) S' ∧ Fr p S S') noX := by
  refine call_open fn_f_law_head ⟨rfl, ?_⟩
  show wSs _ _ _ s4_f_law_head _ _ [some (.ref p), none] S
  simp only [s4_f_law_head, wSs, wS, wE, wT, wEs, eg, Option.some.injEq, exists_eq_left', es, Lit.val]
  refine call_use (word_ok h (by omega)) ?_
  rintro v S1 ⟨⟨w, rfl, q1, l1, u1⟩, p1, f1⟩
  have fin : ∀ (w : String) (T2 : Int) (S2 : Hm) X nx, NQ w → 0 < w.length → w.length ≤ 60 → Pot p c T2 S2 → T2 ≤ T + 12 → Fr p S S2 → wSs P.con P.sub (callW P (k + 3)) s2_f_law_head X { nx := nx, rt := fun v S' => IsHd v ∧ Pot p c (T + 16) S' ∧ Fr p S S' } [some (.ref p), some (.str w)] S2 := by
    intro w T2 S2 X nx q2 l2 u2 p2 ht f2
    simp only [s2_f_law_head, wSs, wS, wE, wT, wEs, eg, Option.some.injEq, exists_eq_left', es, Lit.val]
    refine call_use (draw_ok p2 (by decide) (by decide) (by omega)) ?_
    rintro v S3 ⟨⟨r, rfl, a3, b3⟩, p3, f3, _⟩
    exact ⟨by rw [sizeLine_eq]; simp, ⟨w, r, rfl, q2, l2, a3, b3⟩, p3.le (by omega), f2.trans f3⟩
  simp only [s3_f_law_head, wSs, wS, wE, wT, wEs, eg, Option.some.injEq, exists_eq_left', es, Lit.val]
  refine call_use (draw_ok p1 (by decide) (by decide) (by omega)) ?_
  rintro v S2 ⟨⟨r2, rfl, a2, b2⟩, p2, f2, _⟩
  simp only [cmpW, eqW_int, truth, Option.some.injEq, exists_eq_left']
  by_cases hr : r2 = 0
  · rw [if_pos (decide_eq_true hr)]
    simp only [s1_f_law_head, wSs, wS, wE, wT, wEs, eg, Option.some.injEq, exists_eq_left', es, Lit.val]
    refine call_use (draw_ok p2 (by decide) (by decide) (by omega)) ?_
    rintro v S3 ⟨⟨r3, rfl, a3, b3⟩, p3, f3, _⟩
    obtain ⟨c2, hc2⟩ := atI_lt (l := "ABCDEFGHIJKLMNOPQRSTUVWXYZ".toList) (i := r3) a3 (by rw [great_len]; exact b3)
    simp only [subW]
    refine ⟨by rw [sizeLine_eq]; decide, c2, hc2, ?_⟩
    refine call_use (word_ok p3 (by omega)) ?_
    rintro v S4 ⟨⟨w4, rfl, q4, l4, u4⟩, p4, f4⟩
    simp only [wO, wE, Lit.val, sliceW, binW]
    have e4 : (String.ofList (cut w4.toList none (some 7))).length ≤ 20 := by
      rw [String.length_ofList]
      exact Nat.le_trans (cut_len _ _ _) (by rw [String.length_toList]; exact u4)
    have e5 : (String.singleton c2).length = 1 := by simp
    have e6 : ".".length = 1 := by decide
    refine ⟨7, rfl, by rw [sizeLine_eq]; omega, by rw [sizeLine_eq]; omega, by rw [String.length_append, sizeLine_eq]; omega, by rw [String.length_append, String.length_append, sizeLine_eq]; omega, ?_⟩
    refine fin _ _ _ _ _ ?_ ?_ ?_ p4 (by omega) (f1.trans (f2.trans (f3.trans f4)))
    · exact (((NQ.one great_nq hc2).app (NQ.cut q4 _ _)).app (by unfold NQ; decide)).app q1
    · rw [String.length_append]; omega
    · rw [String.length_append, String.length_append, String.length_append]; omega
  · rw [if_neg (by simpa using hr)]
    exact fin w _ _ _ _ q1 l1 (by omega) p2 (by omega) (f1.trans f2)
/-- a variable -/
def VQ (s : String) : Prop := ∃ r, s.toList = '?' :: r
theorem VQ.app {s t : String} (h : VQ s) : VQ (s ++ t) := by
  obtain ⟨r, e⟩ := h
  exact ⟨r ++ t.toList, by rw [String.toList_append, e]; rfl⟩
theorem VQ.q : VQ "?" := ⟨[], by decide⟩
theorem atI_mem {α : Type} {l : List α} {i : Int} {x : α} (h : atI l i = some x) : x ∈ l := by
  unfold atI at h
  obtain ⟨j, _, hj⟩ := Option.bind_eq_some_iff.mp h
  exact List.mem_of_getElem? hj
theorem num_len : ∀ n : Fin 30, (toString (n.val : Int)).length ≤ 5 := by decide +kernel
theorem leaf_ok {k : Nat} {p c : Nat} {T : Int} {S : Hm} (h : Pot p c T S) (hT : T < 10 ^ 7) : callW P (k + 4) (.f "_law_leaf") [.ref p] S (fun v S' => (∃ s : String, v = .str s ∧ VQ s ∧ s.length ≤ 30) ∧ Pot p c (T + 8) S' ∧ Fr p S S') noX := by
  refine call_open fn_f_law_leaf ⟨rfl, ?_⟩
  show wSs _ _ _ s8_f_law_leaf _ _ [some (.ref p), none] S
  simp only [s8_f_law_leaf, wSs, wS, wE, wT, wEs, eg, Option.some.injEq, exists_eq_left', es, Lit.val]
  refine call_use (draw_ok h (by decide) (by decide) (by omega)) ?_
  rintro v S1 ⟨⟨r1, rfl, a1, b1⟩, p1, f1, _⟩
  have hq : "?".length = 1 := by decide
  simp only [s7_f_law_leaf, s6_f_law_leaf, s5_f_law_leaf, wSs, wS, wE, wT, wEs, eg, Option.some.injEq, exists_eq_left', es, Lit.val, cmpW, eqW_int, truth]
  by_cases h0 : r1 = 0
  · rw [if_pos (decide_eq_true h0)]
    simp only [s1_f_law_leaf, wSs, wS, wE, wT, wEs, eg, Option.some.injEq, exists_eq_left', es, Lit.val]
    refine call_use (draw_ok p1 (by decide) (by decide) (by omega)) ?_
    rintro v S2 ⟨⟨r2, rfl, a2, b2⟩, p2, f2, _⟩
    simp only [biW, binW]
    obtain ⟨n, rfl⟩ := Int.eq_ofNat_of_zero_le a2
    have e := num_len ⟨n, by omega⟩
    refine ⟨?_, by rw [sizeLine_eq]; have : (toString ((n : Nat) : Int)).length ≤ 5 := e; omega, ⟨_, rfl, VQ.q.app, by rw [String.length_append]; have : (toString ((n : Nat) : Int)).length ≤ 5 := e; omega⟩, p2.le (by omega), f1.trans f2⟩
    have := log_lt (a := (n : Int)) (n := 10) (by omega)
    omega
  rw [if_neg (by simpa using h0)]
  by_cases h1 : r1 = 1
  · rw [if_pos (decide_eq_true h1)]
    simp only [s2_f_law_leaf, wSs, wS, wE, wT, wEs, eg, Option.some.injEq, exists_eq_left', es, Lit.val]
    refine ⟨by rw [sizeLine_eq]; decide, ?_⟩
    refine call_use (draw_ok (p1.app _) (by decide) (by decide) (by omega)) ?_
    rintro v S2 ⟨⟨r2, rfl, a2, b2⟩, p2, f2, _⟩
    have np : S1.length ≠ p := by
      obtain ⟨⟨a, d, t, hp, _⟩, _⟩ := p1
      have := lt_of_get hp
      omega
    obtain ⟨x, hx⟩ := atI_lt (l := [Val.str "?", .str "??", .str "? ", .str "?->", .str "?(num", .str "?A.b"]) a2 (by simpa using b2)
    refine subW_lst (lst_at (f2.get np get_new)) hx ?_
    have hm := atI_mem hx
    refine ⟨?_, p2.le (by omega), f1.trans ((Fr.app _).trans f2)⟩
    simp only [List.mem_cons, List.not_mem_nil, or_false] at hm
    rcases hm with rfl | rfl | rfl | rfl | rfl | rfl <;> exact ⟨_, rfl, ⟨_, rfl⟩, by decide⟩
  rw [if_neg (by simpa using h1)]
  by_cases h2 : r1 = 2
  · rw [if_pos (decide_eq_true h2)]
    simp only [s3_f_law_leaf, wSs, wS, wE, wT, wEs, eg, Option.some.injEq, exists_eq_left', es, Lit.val]
    refine call_use (draw_ok p1 (by decide) (by decide) (by omega)) ?_
    rintro v S2 ⟨⟨r2, rfl, a2, b2⟩, p2, f2, _⟩
    obtain ⟨c2, hc2⟩ := atI_lt (l := "abcdefghijklmnopqrstuvwxyz".toList) (i := r2) a2 (by rw [small_len]; exact b2)
    simp only [subW, binW]
    have e5 : (String.singleton c2).length = 1 := by simp
    exact ⟨by rw [sizeLine_eq]; decide, c2, hc2, by rw [sizeLine_eq]; omega, ⟨_, rfl, VQ.q.app, by rw [String.length_append]; omega⟩, p2.le (by omega), f1.trans f2⟩
  rw [if_neg (by simpa using h2)]
  simp only [s4_f_law_leaf, wSs, wS, wE, wT, wEs, eg, Option.some.injEq, exists_eq_left', es, Lit.val]
  refine call_use (word_ok p1 (by omega)) ?_
  rintro v S2 ⟨⟨w, rfl, q2, l2, u2⟩, p2, f2⟩
  simp only [binW]
  exact ⟨by rw [sizeLine_eq]; omega, ⟨_, rfl, VQ.q.app, by rw [String.length_append]; omega⟩, p2.le (by omega), f1.trans f2⟩
end K23

set_option maxHeartbeats 1000000
namespace K23
open Mi PySem
theorem Pot.lt {p c : Nat} {T : Int} {S : Hm} (h : Pot p c T S) : p < S.length ∧ c < S.length := by
  obtain ⟨⟨a, d, t, hp, _⟩, ⟨ns, hc⟩, _⟩ := h
  exact ⟨lt_of_get hp, lt_of_get hc⟩
theorem Pot.set {p c n : Nat} {T : Int} {S : Hm} {o : Ob} (h : Pot p c T S) (hp : n ≠ p) (hc : n ≠ c) : Pot p c T (S.set n o) := by
  obtain ⟨⟨a, d, t, hp', ha, hd, ht, hT'⟩, ⟨ns, hc'⟩, hne⟩ := h
  exact ⟨⟨a, d, t, by rw [get_ne (Ne.symm hp)]; exact hp', ha, hd, ht, hT'⟩, ⟨ns, by rw [get_ne (Ne.symm hc)]; exact hc'⟩, hne⟩
theorem Fr.set {p n : Nat} {S S' : Hm} {o : Ob} (h : Fr p S S') (hn : S.length ≤ n) : Fr p S (S'.set n o) := ⟨by simpa using h.1, fun m hm hp => by rw [get_ne (by omega)]; exact h.2 m hm hp⟩
theorem range_get {lo : Int} {n i : Nat} {v : Val} (h : (rangeL lo 1 n)[i]? = some v) : i < n ∧ v = .int (lo + i) := by
  rw [rangeL_get] at h
  split at h
  · exact ⟨by assumption, by cases h; rfl⟩
  · cases h
theorem flat_strs (ws : List String) : (ws.map Val.str).all flat = true := by
  rw [List.all_eq_true]
  intro v hv
  obtain ⟨w, _, rfl⟩ := List.mem_map.mp hv
  rfl
theorem any_str {ws : List String} {w : String} : (ws.map Val.str).any (fun y => feq y (.str w)) = decide (w ∈ ws) := by
  induction ws with
  | nil => rfl
  | cons a r ih =>
    rw [List.map_cons, List.any_cons, ih]
    show ((a == w) || decide (w ∈ r)) = decide (w ∈ a :: r)
    by_cases h : a = w
    · subst h; simp
    · have : ¬ w = a := fun e => h e.symm
      have e2 : (a == w) = false := by simpa using h
      rw [e2, Bool.false_or]
      simp [this]
theorem nodup_snoc {α : Type} {l : List α} {a : α} (h : l.Nodup) (ha : ¬ a ∈ l) : (l ++ [a]).Nodup := by
  rw [List.nodup_append]
  exact ⟨h, by simp, fun x hx y hy z => ha (by rw [← List.mem_singleton.mp hy, ← z]; exact hx)⟩
theorem leaves_ok {k : Nat} {p c : Nat} {m : Int} {T : Int} {S : Hm} (h : Pot p c T S) (hm : 0 ≤ m) (hm2 : m ≤ 12) (hT : T < 10 ^ 6) : callW P (k + 5) (.f "_law_leaves") [.ref p, .int m] S
    (fun v S' => v = .ref S.length ∧ (∃ ls : List String, S'[S.length]? = some (.lst (ls.map .str)) ∧ (∀ w ∈ ls, VQ w) ∧ (ls.length : Int) = m ∧ ls.Nodup) ∧ Pot p c (T + 100) S' ∧ Fr p S S') noX := by
  refine call_open fn_f_law_leaves ⟨rfl, ?_⟩
  show wSs _ _ _ s6_f_law_leaves _ _ [some (.ref p), some (.int m), none, none, none] S
  have hlt := h.lt
  simp only [s6_f_law_leaves, wSs, wS, wE, wT, wEs, wSrc, eg, Option.some.injEq, exists_eq_left', es, Lit.val]
  refine ⟨by simp [sizeLine_eq], m, rfl, ⟨by omega, by omega⟩, ?_⟩
  refine for_inv (callW_mono P _) (fun i env S' => ∃ (ws : List String) (x3 x4 : Option Val), env = [some (.ref p), some (.int m), some (.ref S.length), x3, x4] ∧ S'[S.length]? = some (.lst (ws.map .str)) ∧ (∀ w ∈ ws, VQ w ∧ w.length ≤ 30 + i) ∧ (ws.length = i ∧ ws.Nodup) ∧ Pot p c (T + 8 * i) S' ∧ Fr p S S') ?_ ?_ ?_
  · rintro i v env S' hi ⟨ws, x3, x4, rfl, hl, hw, ⟨hwl, hnd⟩, hp, hf⟩
    obtain ⟨hi, rfl⟩ := range_get hi
    refine ⟨trivial, ?_⟩
    simp only [tgW, s4_f_law_leaves, wSs, wS, wE, wT, wEs, wSrc, eg, Option.some.injEq, exists_eq_left', es, Lit.val]
    refine call_use (leaf_ok hp (by omega)) ?_
    rintro v S1 ⟨⟨w, rfl, q1, l1⟩, p1, f1⟩
    have hl1 := f1.get (by omega) hl
    simp only [s3_f_law_leaves, wSs, wS]
    refine while_inv (callW_mono P _) (n := 31 + i - w.length) (fun n env S'' => S'' = S1 ∧ ∃ w', env = [some (.ref p), some (.int m), some (.ref S.length), some (.int (0 + i)), some (.str w')] ∧ VQ w' ∧ w'.length + n = 31 + i) ?_ ⟨rfl, w, rfl, q1, by omega⟩
    rintro n env S'' ⟨rfl, w', rfl, q2, l2⟩
    simp only [wT, wE, eg, Option.some.injEq, exists_eq_left', cmpW, inW]
    refine .inl ⟨_, lst_at hl1, .inl ⟨rfl, flat_strs ws, ?_⟩⟩
    rw [any_str]
    simp only [truth, Option.some.injEq, exists_eq_left']
    by_cases hmem : w' ∈ ws
    · rw [if_pos (decide_eq_true hmem)]
      have := (hw w' hmem).2
      have hx : "x".length = 1 := by decide
      simp only [s1_f_law_leaves, wSs, wS, wE, wT, wEs, eg, Option.some.injEq, exists_eq_left', es, Lit.val, binW]
      exact ⟨by rw [sizeLine_eq]; omega, n - 1, by omega, trivial, _, rfl, q2.app, by rw [String.length_append]; omega⟩
    · rw [if_neg (by simpa using hmem)]
      simp only [s2_f_law_leaves, wSs, wS, wE, wT, wEs, eg, Option.some.injEq, exists_eq_left', es, Lit.val, bmT, bmW]
      refine ⟨⟨_, _, rfl, lst_at hl1⟩, _, hl1, by rw [sizeLine_eq]; simp; omega, ws ++ [w'], _, _, rfl, ?_, ?_, ⟨by simp [hwl], nodup_snoc hnd hmem⟩, (p1.set (by omega) (by omega)).le (by omega), (hf.trans f1).set (Nat.le_refl _)⟩
      · rw [get_set, hl1]
        simp
      · intro u hu
        rcases List.mem_append.mp hu with hu | hu
        · exact ⟨(hw u hu).1, by have := (hw u hu).2; omega⟩
        · have : u = w' := by simpa using hu
          subst this
          exact ⟨q2, by omega⟩
  · rintro env S' ⟨ws, x3, x4, rfl, hl, hw, ⟨hwl, hnd⟩, hp, hf⟩
    rw [rangeL_len] at hp hwl
    refine ⟨trivial, ?_⟩
    simp only [s5_f_law_leaves, wSs, wS, wE, wT, wEs, wSrc, eg, Option.some.injEq, exists_eq_left', es, Lit.val]
    exact ⟨trivial, ⟨ws, hl, fun w hw' => (hw w hw').1, by omega, hnd⟩, hp.le (by omega), hf⟩
  · exact ⟨[], none, none, rfl, by simp, by simp, ⟨rfl, List.nodup_nil⟩, by simpa using h.app _, Fr.app _⟩
/-- kinds -/
inductive IsK : Nat → Val → Prop where
  | var {n s} : VQ s → IsK n (.str s)
  | nam {n s} : NQ s → 0 < s.length → IsK n (.str s)
  | tup {n h vs} : NQ h → 0 < h.length → (∀ v ∈ vs, IsK n v) → vs.length ≤ 3 → IsK (n + 1) (.tup (.str h :: vs))
theorem IsK.le {n m : Nat} {v : Val} (h : IsK n v) (hm : n ≤ m) : IsK m v := by
  induction h generalizing m with
  | var q => exact .var q
  | nam q l => exact .nam q l
  | tup q0 l0 hv hl ih =>
    cases m with
    | zero => omega
    | succ m => exact .tup q0 l0 (fun v hv' => ih v hv' (by omega)) hl
end K23

set_option maxHeartbeats 1000000
namespace K23
open Mi PySem
theorem pick {S : Hm} {n : Nat} {xs : List Val} {r : Int} {Q : Post} (h : S[n]? = some (.lst xs)) (h0 : 0 ≤ r) (h1 : r < xs.length) (hq : ∀ v ∈ xs, Q v S) : subW (.ref n) (.int r) S Q := by
  obtain ⟨x, hx⟩ := atI_lt h0 h1
  exact subW_lst (lst_at h) hx (hq x (atI_mem hx))
theorem addL {S : Hm} {n m : Nat} {xs ys : List Val} {Q : Post} (h1 : S[n]? = some (.lst xs)) (h2 : S[m]? = some (.lst ys)) (hl : xs.length + ys.length ≤ sizeLine) (hq : Q (.ref S.length) (S ++ [.lst (xs ++ ys)])) : binW .Add (.ref n) (.ref m) S Q := ⟨xs, ys, h1, h2, hl, hq⟩
/-- the leaf's part -/
theorem kind_leaf {p c l h : Nat} {ls : List String} {hs : List Val} (hls : ∀ w ∈ ls, VQ w) (hll : ls.length ≤ 12) (hhs : ∀ v ∈ hs, IsHd v) (hhl : hs.length ≤ 9) (lp : l ≠ p) (hp' : h ≠ p) {d : Nat} {dd : Int} {k : Nat} {T : Int} {S S0 : Hm} (hP : Pot p c T S) (hl : S[l]? = some (.lst (ls.map .str))) (hh : S[h]? = some (.lst hs)) (hT : T ≤ 10 ^ 6) {way : Int} {nx : Mi.Env → Hm → Prop} {T' : Int} (hT' : T + 2 ≤ T') (f0 : Fr p S0 S) :
    wSs P.con P.sub (callW P (k + 2)) s4_f_law_kind (fun c x S' => noX c S') { nx := nx, rt := fun v S' => IsK d v ∧ Pot p c T' S' ∧ Fr p S0 S' } [some (.ref p), some (.ref l), some (.ref h), some (.int dd), some (.int way), none, none, none, none] S := by
  have h3 : wSs P.con P.sub (callW P (k + 2)) s3_f_law_kind (fun c x S' => noX c S') { nx := nx, rt := fun v S' => IsK d v ∧ Pot p c T' S' ∧ Fr p S0 S' } [some (.ref p), some (.ref l), some (.ref h), some (.int dd), some (.int way), none, none, none, none] S := by
    simp only [s3_f_law_kind, wSs, wS, wT, wEs, wO, wPs, wC, wSrc, wE_loc, wE_lit, wE_con, wE_bin, wE_neg, wE_cmp, wE_cmp2, wE_isN, wE_notN, wE_isB, wE_not, wE_and, wE_or, wE_ite, wE_tup, wE_lst, wE_dic, wE_call, wE_make, wE_meth, wE_fld, wE_sub, wE_slice, wE_bi, wE_vi, wE_bm, wE_isi, wE_lc, wE_lck, eg, es, Option.some.injEq, exists_eq_left', Lit.val]
    refine ⟨by rw [sizeLine_eq]; simp, ?_⟩
    simp only [seqOf]
    refine ⟨hs, lst_at (get_app hh), ?_⟩
    refine lcr_inv (callW_mono P _) (fun i acc S' => S' = S ++ [.lst [.str "num"]] ∧ (∀ v ∈ acc, ∃ s, v = .str s ∧ NQ s ∧ 0 < s.length) ∧ acc.length ≤ i) ?_ ?_ ⟨rfl, by simp, by simp⟩
    · rintro i v acc S' hi ⟨rfl, hacc, hal⟩
      obtain ⟨s, m, rfl, q1, l1, m1, m2⟩ := hhs v (List.mem_of_getElem? hi)
      have hil := lt_of_get hi
      refine ⟨lst_at (get_app hh), ?_⟩
      simp only [tgW, List.map_cons, List.map_nil, ewipe, es, wC, wT, wE_cmp, wE_loc, wE_lit, Val.tup.injEq, exists_eq_left', List.length_cons, List.length_nil, List.zip_cons_cons, List.zip_nil_right, List.foldl_cons, List.foldl_nil, eg, Option.some.injEq, Lit.val, cmpW, eqW_int, truth, true_and]
      by_cases hm : m = 0
      · rw [if_pos (decide_eq_true hm)]
        refine ⟨by rw [sizeLine_eq]; omega, ?_, by simp; omega⟩
        intro v hv
        rcases List.mem_append.mp hv with hv | hv
        · exact hacc v hv
        · have : v = .str s := by simpa using hv
          exact ⟨s, this, q1, l1⟩
      · rw [if_neg (by simpa using hm)]
        exact ⟨hacc, by omega⟩
    · rintro acc S' ⟨rfl, hacc, hal⟩
      refine ⟨lst_at (get_app hh), ?_⟩
      have e1 : (S ++ [Ob.lst [.str "num"]] ++ [Ob.lst acc])[S.length]? = some (.lst [.str "num"]) := get_app get_new
      have e2 : (S ++ [Ob.lst [.str "num"]] ++ [Ob.lst acc])[(S ++ [Ob.lst [.str "num"]]).length]? = some (.lst acc) := get_new
      refine addL e1 e2 (by rw [sizeLine_eq]; simp; omega) ?_
      generalize hS3 : S ++ [Ob.lst [.str "num"]] ++ [Ob.lst acc] = S3
      have P3 : Pot p c T S3 := by subst hS3; exact (hP.app _).app _
      have F3 : Fr p S S3 := by subst hS3; exact (Fr.app _).trans (Fr.app _)
      have hn3 : S3.length ≠ p := by have := hP.lt; have := F3.1; omega
      simp only [s2_f_law_kind, wSs, wS, wT, wEs, wO, wPs, wC, wSrc, wE_loc, wE_lit, wE_con, wE_bin, wE_neg, wE_cmp, wE_cmp2, wE_isN, wE_notN, wE_isB, wE_not, wE_and, wE_or, wE_ite, wE_tup, wE_lst, wE_dic, wE_call, wE_make, wE_meth, wE_fld, wE_sub, wE_slice, wE_bi, wE_vi, wE_bm, wE_isi, wE_lc, wE_lck, eg, es, Option.some.injEq, exists_eq_left', Lit.val]
      refine lenW_lst (lst_at get_new) ?_
      refine call_use (draw_ok (P3.app _) (by simp <;> omega) (by simp; omega) (by omega)) ?_
      rintro v S4 ⟨⟨r, rfl, a4, b4⟩, p4, f4, _⟩
      refine pick (f4.get hn3 get_new) a4 b4 fun v hv => ⟨?_, p4.le (by omega), f0.trans (F3.trans ((Fr.app _).trans f4))⟩
      rcases List.mem_append.mp hv with hv | hv
      · have : v = .str "num" := by simpa using hv
        subst this
        exact .nam (by unfold NQ; decide) (by decide)
      · obtain ⟨s, rfl, q1, l1⟩ := hacc v hv
        exact .nam q1 l1
  simp only [s4_f_law_kind, wSs, wS, wT, wEs, wO, wPs, wC, wSrc, wE_loc, wE_lit, wE_con, wE_bin, wE_neg, wE_cmp, wE_cmp2, wE_isN, wE_notN, wE_isB, wE_not, wE_and, wE_or, wE_ite, wE_tup, wE_lst, wE_dic, wE_call, wE_make, wE_meth, wE_fld, wE_sub, wE_slice, wE_bi, wE_vi, wE_bm, wE_isi, wE_lc, wE_lck, eg, es, Option.some.injEq, exists_eq_left', Lit.val, binW, cmpW, truth]
  refine ⟨by decide, ?_⟩
  by_cases hw : 0 < way % 3
  · rw [if_pos (decide_eq_true hw)]
    refine lenW_lst (lst_at hl) ?_
    by_cases hn : 0 < ls.length
    · simp only [truth, Option.some.injEq, exists_eq_left']
      rw [if_pos (by simpa using hn)]
      simp only [s1_f_law_kind, wSs, wS, wT, wEs, wO, wPs, wC, wSrc, wE_loc, wE_lit, wE_con, wE_bin, wE_neg, wE_cmp, wE_cmp2, wE_isN, wE_notN, wE_isB, wE_not, wE_and, wE_or, wE_ite, wE_tup, wE_lst, wE_dic, wE_call, wE_make, wE_meth, wE_fld, wE_sub, wE_slice, wE_bi, wE_vi, wE_bm, wE_isi, wE_lc, wE_lck, eg, es, Option.some.injEq, exists_eq_left', Lit.val]
      refine lenW_lst (lst_at hl) ?_
      refine call_use (draw_ok hP (by simpa using hn) (by simp; omega) (by omega)) ?_
      rintro v S4 ⟨⟨r, rfl, a4, b4⟩, p4, f4, _⟩
      refine pick (f4.get lp hl) a4 b4 fun v hv => ⟨?_, p4.le (by omega), f0.trans f4⟩
      obtain ⟨w, hw', rfl⟩ := List.mem_map.mp hv
      exact .var (hls w hw')
    · simp only [truth, Option.some.injEq, exists_eq_left']
      rw [if_neg (by simpa using hn)]
      exact h3
  · rw [if_neg (by simpa using hw)]
    exact h3
theorem kind_ok {p c l h : Nat} {ls : List String} {hs : List Val} (hls : ∀ w ∈ ls, VQ w) (hll : ls.length ≤ 12) (hhs : ∀ v ∈ hs, IsHd v) (hh0 : 0 < hs.length) (hhl : hs.length ≤ 9) (lp : l ≠ p) (hp' : h ≠ p) :
    ∀ (d k : Nat) (T : Int) (S : Hm), Pot p c T S → S[l]? = some (.lst (ls.map .str)) → S[h]? = some (.lst hs) → T + 4 ^ (d + 2) ≤ 10 ^ 6 →
    callW P (k + d + 3) (.f "_law_kind") [.ref p, .ref l, .ref h, .int d] S (fun v S' => IsK d v ∧ Pot p c (T + 4 ^ (d + 2)) S' ∧ Fr p S S') noX := by
  intro d
  induction d using Nat.strongRecOn with
  | _ d ih =>
    intro k T S hP hl hh hT
    have hB : (16 : Int) ≤ 4 ^ (d + 2) := by
      have : (4 : Int) ^ (d + 2) = 4 ^ d * 16 := by rw [Int.pow_add]; rfl
      have h1 : (1 : Int) ≤ 4 ^ d := Int.pow_pos (by decide)
      omega
    refine call_open (k := k + d + 2) fn_f_law_kind ⟨rfl, ?_⟩
    show wSs _ _ _ s12_f_law_kind _ _ [some (.ref p), some (.ref l), some (.ref h), some (.int d), none, none, none, none, none] S
    simp only [s12_f_law_kind, wSs, wS, wT, wEs, wO, wPs, wC, wSrc, wE_loc, wE_lit, wE_con, wE_bin, wE_neg, wE_cmp, wE_cmp2, wE_isN, wE_notN, wE_isB, wE_not, wE_and, wE_or, wE_ite, wE_tup, wE_lst, wE_dic, wE_call, wE_make, wE_meth, wE_fld, wE_sub, wE_slice, wE_bi, wE_vi, wE_bm, wE_isi, wE_lc, wE_lck, eg, es, Option.some.injEq, exists_eq_left', Lit.val]
    refine call_use (draw_ok hP (by decide) (by decide) (by omega)) ?_
    rintro v S1 ⟨⟨way, rfl, a1, b1⟩, p1, f1, _⟩
    have hl1 := f1.get lp hl
    have hh1 := f1.get hp' hh
    simp only [s11_f_law_kind, wSs, wS, wT, wEs, wO, wPs, wC, wSrc, wE_loc, wE_lit, wE_con, wE_bin, wE_neg, wE_cmp, wE_cmp2, wE_isN, wE_notN, wE_isB, wE_not, wE_and, wE_or, wE_ite, wE_tup, wE_lst, wE_dic, wE_call, wE_make, wE_meth, wE_fld, wE_sub, wE_slice, wE_bi, wE_vi, wE_bm, wE_isi, wE_lc, wE_lck, eg, es, Option.some.injEq, exists_eq_left', Lit.val, cmpW, eqW_int, truth]
    have leaf : wSs P.con P.sub (callW P (k + d + 2)) s4_f_law_kind (fun c x S' => noX c S') { nx := fun env' S' => wSs P.con P.sub (callW P (k + d + 2)) s10_f_law_kind (fun c x S' => noX c S') { nx := fun x S' => IsK d .non ∧ Pot p c (T + 4 ^ (d + 2)) S' ∧ Fr p S S', rt := fun v S' => IsK d v ∧ Pot p c (T + 4 ^ (d + 2)) S' ∧ Fr p S S' } env' S', rt := fun v S' => IsK d v ∧ Pot p c (T + 4 ^ (d + 2)) S' ∧ Fr p S S' } [some (.ref p), some (.ref l), some (.ref h), some (.int d), some (.int way), none, none, none, none] S1 :=
      kind_leaf (k := k + d) hls hll hhs hhl lp hp' p1 hl1 hh1 (by omega) (by omega) f1
    by_cases hd : (d : Int) = 0
    · rw [if_pos (decide_eq_true hd)]
      simp only [if_true]
      exact leaf
    rw [if_neg (by simpa using hd)]
    by_cases hw : way < 2
    · rw [if_pos (decide_eq_true hw)]
      exact leaf
    rw [if_neg (by simpa using hw)]
    clear leaf
    obtain ⟨e, rfl⟩ : ∃ e, d = e + 1 := ⟨d - 1, by omega⟩
    have hB2 : (4 : Int) ^ (e + 1 + 2) = 4 ^ (e + 2) * 4 := Int.pow_succ _ _
    have hB3 : (0 : Int) < 4 ^ (e + 2) := Int.pow_pos (by decide)
    have de : (((e + 1 : Nat) : Int) - 1) = (e : Int) := by omega
    simp only [s10_f_law_kind, wSs, wS, wT, wEs, wO, wPs, wC, wSrc, wE_loc, wE_lit, wE_con, wE_bin, wE_neg, wE_cmp, wE_cmp2, wE_isN, wE_notN, wE_isB, wE_not, wE_and, wE_or, wE_ite, wE_tup, wE_lst, wE_dic, wE_call, wE_make, wE_meth, wE_fld, wE_sub, wE_slice, wE_bi, wE_vi, wE_bm, wE_isi, wE_lc, wE_lck, eg, es, Option.some.injEq, exists_eq_left', Lit.val, cmpW, truth]
    by_cases hw5 : way < 5
    · rw [if_pos (decide_eq_true hw5)]
      simp only [s5_f_law_kind, wSs, wS, wT, wEs, wO, wPs, wC, wSrc, wE_loc, wE_lit, wE_con, wE_bin, wE_neg, wE_cmp, wE_cmp2, wE_isN, wE_notN, wE_isB, wE_not, wE_and, wE_or, wE_ite, wE_tup, wE_lst, wE_dic, wE_call, wE_make, wE_meth, wE_fld, wE_sub, wE_slice, wE_bi, wE_vi, wE_bm, wE_isi, wE_lc, wE_lck, eg, es, Option.some.injEq, exists_eq_left', Lit.val, binW, de]
      refine call_use (ih e (by omega) k _ S1 p1 hl1 hh1 (by omega)) ?_
      rintro v2 S2 ⟨k2, p2, f2⟩
      have hl2 := f2.get lp hl1
      have hh2 := f2.get hp' hh1
      refine call_use (ih e (by omega) k _ S2 p2 hl2 hh2 (by omega)) ?_
      rintro v3 S3 ⟨k3, p3, f3⟩
      refine ⟨by rw [sizeLine_eq]; simp, .tup (by unfold NQ; decide) (by decide) (fun v hv => ?_) (by simp), p3.le (by omega), f1.trans (f2.trans f3)⟩
      rcases List.mem_cons.mp hv with rfl | hv
      · exact k2
      · have : v = v3 := by simpa using hv
        subst this; exact k3
    rw [if_neg (by simpa using hw5)]
    simp only [s9_f_law_kind, wSs, wS, wT, wEs, wO, wPs, wC, wSrc, wE_loc, wE_lit, wE_con, wE_bin, wE_neg, wE_cmp, wE_cmp2, wE_isN, wE_notN, wE_isB, wE_not, wE_and, wE_or, wE_ite, wE_tup, wE_lst, wE_dic, wE_call, wE_make, wE_meth, wE_fld, wE_sub, wE_slice, wE_bi, wE_vi, wE_bm, wE_isi, wE_lc, wE_lck, eg, es, Option.some.injEq, exists_eq_left', Lit.val]
    refine lenW_lst (lst_at hh1) ?_
    refine call_use (draw_ok p1 (by omega) (by omega) (by omega)) ?_
    rintro v S2 ⟨⟨r2, rfl, a2, b2⟩, p2, f2, _⟩
    have hl2 := f2.get lp hl1
    have hh2 := f2.get hp' hh1
    refine pick hh2 a2 b2 fun hd hmem => ?_
    obtain ⟨s, m, rfl, q1, l1, m1, m2⟩ := hhs hd hmem
    simp only [tgW, Val.tup.injEq, exists_eq_left', List.length_cons, List.length_nil, List.zip_cons_cons, List.zip_nil_right, List.foldl_cons, List.foldl_nil, es, true_and, s8_f_law_kind, wSs, wS, wT, wEs, wO, wPs, wC, wSrc, wE_loc, wE_lit, wE_con, wE_bin, wE_neg, wE_cmp, wE_cmp2, wE_isN, wE_notN, wE_isB, wE_not, wE_and, wE_or, wE_ite, wE_tup, wE_lst, wE_dic, wE_call, wE_make, wE_meth, wE_fld, wE_sub, wE_slice, wE_bi, wE_vi, wE_bm, wE_isi, wE_lc, wE_lck, eg, es, Option.some.injEq, exists_eq_left', Lit.val, cmpW, eqW_int, truth]
    by_cases hm : m = 0
    · rw [if_pos (decide_eq_true hm)]
      simp only [s6_f_law_kind, wSs, wS, wT, wEs, wO, wPs, wC, wSrc, wE_loc, wE_lit, wE_con, wE_bin, wE_neg, wE_cmp, wE_cmp2, wE_isN, wE_notN, wE_isB, wE_not, wE_and, wE_or, wE_ite, wE_tup, wE_lst, wE_dic, wE_call, wE_make, wE_meth, wE_fld, wE_sub, wE_slice, wE_bi, wE_vi, wE_bm, wE_isi, wE_lc, wE_lck, eg, es, Option.some.injEq, exists_eq_left', Lit.val]
      exact ⟨.nam q1 l1, p2.le (by omega), f1.trans f2⟩
    rw [if_neg (by simpa using hm)]
    simp only [s7_f_law_kind, wSs, wS, wT, wEs, wO, wPs, wC, wSrc, wE_loc, wE_lit, wE_con, wE_bin, wE_neg, wE_cmp, wE_cmp2, wE_isN, wE_notN, wE_isB, wE_not, wE_and, wE_or, wE_ite, wE_tup, wE_lst, wE_dic, wE_call, wE_make, wE_meth, wE_fld, wE_sub, wE_slice, wE_bi, wE_vi, wE_bm, wE_isi, wE_lc, wE_lck, eg, es, Option.some.injEq, exists_eq_left', Lit.val]
    refine ⟨by rw [sizeLine_eq]; simp, m, rfl, ⟨by omega, by omega⟩, ?_⟩
    refine lcr_inv (callW_mono P _) (fun i acc S' => acc.length = i ∧ (∀ v ∈ acc, IsK e v) ∧ Pot p c (T + 2 + i * 4 ^ (e + 2)) S' ∧ Fr p S2 S') ?_ ?_ ⟨rfl, by simp, by simpa using p2.le (by omega), Fr.refl _ _⟩
    · rintro i v acc S' hi ⟨hal, hacc, hp3, hf3⟩
      obtain ⟨hi, rfl⟩ := range_get hi
      refine ⟨trivial, ?_⟩
      simp only [tgW, List.map_cons, List.map_nil, ewipe, wSs, wS, wT, wEs, wO, wPs, wC, wSrc, wE_loc, wE_lit, wE_con, wE_bin, wE_neg, wE_cmp, wE_cmp2, wE_isN, wE_notN, wE_isB, wE_not, wE_and, wE_or, wE_ite, wE_tup, wE_lst, wE_dic, wE_call, wE_make, wE_meth, wE_fld, wE_sub, wE_slice, wE_bi, wE_vi, wE_bm, wE_isi, wE_lc, wE_lck, eg, es, Option.some.injEq, exists_eq_left', Lit.val, binW, de, if_true]
      have hi3 : (i : Int) * 4 ^ (e + 2) ≤ 2 * 4 ^ (e + 2) := Int.mul_le_mul_of_nonneg_right (by omega) (by omega)
      refine call_use (ih e (by omega) k _ S' hp3 (hf3.get lp hl2) (hf3.get hp' hh2) (by omega)) ?_
      rintro v3 S3 ⟨k3, p3, f3⟩
      refine ⟨by rw [sizeLine_eq]; omega, by simp [hal], fun v hv => ?_, p3.le ?_, hf3.trans f3⟩
      · rcases List.mem_append.mp hv with hv | hv
        · exact hacc v hv
        · have : v = v3 := by simpa using hv
          subst this; exact k3
      · rw [Int.natCast_add, Int.add_mul]
        omega
    · rintro acc S' ⟨hal, hacc, hp3, hf3⟩
      rw [rangeL_len] at hal hp3
      refine ⟨trivial, ?_⟩
      simp only [biW]
      refine ⟨acc, lst_at get_new, ?_⟩
      simp only [binW]
      have hi3 : ((m.toNat : Nat) : Int) * 4 ^ (e + 2) ≤ 3 * 4 ^ (e + 2) := Int.mul_le_mul_of_nonneg_right (by omega) (by omega)
      refine ⟨by rw [sizeLine_eq]; simp; omega, (.tup q1 l1 (by simpa using hacc) (by simp; omega)), (hp3.app _).le (by omega), f1.trans (f2.trans (hf3.trans (Fr.app _)))⟩
end K23

set_option maxHeartbeats 1000000
namespace K23
open Mi PySem
theorem starts_var {s : String} (h : VQ s) : Txt.startswith (Str.ofString s) (Str.ofString "?") = true := by
  obtain ⟨r, e⟩ := h
  unfold Txt.startswith
  rw [StrLaws.subAt_eq, len_ofString, len_ofString, cps_ofString, cps_ofString]
  have hl : s.length = r.length + 1 := by rw [← String.length_toList, e]; rfl
  rw [e, hl]
  have h1 : "?".length = 1 := by decide
  have h2 : "?".toList = ['?'] := by decide
  rw [h1, h2]
  simp
theorem starts_nam {s : String} (h : NQ s) (h0 : 0 < s.length) : Txt.startswith (Str.ofString s) (Str.ofString "?") = false := by
  unfold Txt.startswith
  rw [StrLaws.subAt_eq, len_ofString, len_ofString, cps_ofString, cps_ofString]
  have h1 : "?".length = 1 := by decide
  have h2 : "?".toList = ['?'] := by decide
  rw [h1, h2]
  cases e : s.toList with
  | nil =>
    rw [← String.length_toList, e] at h0
    cases h0
  | cons c r =>
    have hc : c ≠ '?' := h c (by rw [e]; exact List.mem_cons_self)
    have : c.toNat ≠ '?'.toNat := fun z => hc (Char.ext (UInt32.toNat_inj.mp z))
    simp
    intro _
    exact this
theorem nq_vq {s : String} (h : NQ s) (v : VQ s) : False := by
  obtain ⟨r, e⟩ := v
  exact h '?' (by rw [e]; exact List.mem_cons_self) rfl
theorem isvar_str {k : Nat} {s : String} {S : Hm} : callW P (k + 1) (.f "is_variable") [.str s] S (fun v S' => S' = S ∧ v = .bl (Txt.startswith (Str.ofString s) (Str.ofString "?"))) noX := by
  refine call_open fn_f_is_variable ⟨rfl, ?_⟩
  show wSs _ _ _ s1_f_is_variable _ _ [some (.str s)] S
  simp only [s1_f_is_variable, wSs, wS, wT, wEs, wO, wPs, wC, wSrc, wE_loc, wE_lit, wE_con, wE_bin, wE_neg, wE_cmp, wE_cmp2, wE_isN, wE_notN, wE_isB, wE_not, wE_and, wE_or, wE_ite, wE_tup, wE_lst, wE_dic, wE_call, wE_make, wE_meth, wE_fld, wE_sub, wE_slice, wE_bi, wE_vi, wE_bm, wE_isi, wE_lc, wE_lck, eg, es, Option.some.injEq, exists_eq_left', Lit.val]
  simp [isTy, bmT, bmW]
theorem isvar_tup {k : Nat} {vs : List Val} {S : Hm} : callW P (k + 1) (.f "is_variable") [.tup vs] S (fun v S' => S' = S ∧ v = .bl false) noX := by
  refine call_open fn_f_is_variable ⟨rfl, ?_⟩
  show wSs _ _ _ s1_f_is_variable _ _ [some (.tup vs)] S
  simp only [s1_f_is_variable, wSs, wS, wT, wEs, wO, wPs, wC, wSrc, wE_loc, wE_lit, wE_con, wE_bin, wE_neg, wE_cmp, wE_cmp2, wE_isN, wE_notN, wE_isB, wE_not, wE_and, wE_or, wE_ite, wE_tup, wE_lst, wE_dic, wE_call, wE_make, wE_meth, wE_fld, wE_sub, wE_slice, wE_bi, wE_vi, wE_bm, wE_isi, wE_lc, wE_lck, eg, es, Option.some.injEq, exists_eq_left', Lit.val]
  simp [isTy, bmT, bmW]
theorem sub_app {S S1 : Hm} {l : Hm} (h : S1 = S ++ l) {n : Nat} {o : Ob} (e : S[n]? = some o) : S1[n]? = some o := by subst h; exact get_app e
theorem cut_tl {α : Type} (h : α) (vs : List α) : cut (h :: vs) (some 1) none = vs := by
  unfold cut sIx
  simp
theorem cut_hd {α : Type} (h : α) (vs : List α) : cut (h :: vs) none (some 1) = [h] := by
  unfold cut sIx
  simp
theorem cut_map {ns : List Int} {lo hi : Option Int} : cut (ns.map Val.int) lo hi = (cut ns lo hi).map Val.int := by
  unfold cut
  rw [List.length_map, List.map_take, List.map_drop]
theorem pot_ok {k : Nat} {ns : List Int} : callW P (k + 1) (.f "_law_pot") [.ref 0] [.lck (.lst (ns.map Val.int))] (fun v S' => v = .ref 3 ∧ Pot 3 2 0 S' ∧ S'.length = 4) noX := by
  refine call_open fn_f_law_pot ⟨rfl, ?_⟩
  show wSs _ _ _ s1_f_law_pot _ _ [some (.ref 0)] _
  simp only [s1_f_law_pot, wPs, wSs, wS, wT, wEs, wO, wPs, wC, wSrc, wE_loc, wE_lit, wE_con, wE_bin, wE_neg, wE_cmp, wE_cmp2, wE_isN, wE_notN, wE_isB, wE_not, wE_and, wE_or, wE_ite, wE_tup, wE_lst, wE_dic, wE_call, wE_make, wE_meth, wE_fld, wE_sub, wE_slice, wE_bi, wE_vi, wE_bm, wE_isi, wE_lc, wE_lck, eg, es, Option.some.injEq, exists_eq_left', Lit.val, sliceW, Val.key, Val.int.injEq, exists_eq_left', Option.some.injEq]
  refine ⟨_, lst_lck (S := [.lck (.lst (ns.map Val.int))]) (n := 0) rfl, ?_⟩
  rw [cut_map]
  refine ⟨_, lst_at (S := [.lck (.lst (ns.map Val.int)), .lst ((cut ns none (some 63)).map Val.int)]) (n := 1) rfl, ?_⟩
  refine ⟨rfl, ⟨⟨0, 0, 0, rfl, by decide, by decide, by decide, by decide⟩, ⟨_, rfl⟩, by decide⟩, rfl⟩
theorem lift_to {k j : Nat} (e : k = j) {f : FK} {args : List Val} {S : Hm} {Q : Post} {X : XPost} (h : callW P k f args S Q X) : callW P j f args S Q X := e ▸ h
theorem pick2 {x y : Int} {S' : Hm} {r : Int} {Q : Post} {n : Nat} (h : S'[n]? = some (.lst [.int x, .int y])) (hq : ∀ z, (z = x ∨ z = y) → Q (.int z) S') : biW .int [.bl (decide (r = 0))] S' fun v S2 => subW (.ref n) v S2 Q := by
  simp only [biW]
  by_cases hr : r = 0
  · simp only [hr, decide_true, if_true]
    exact subW_lst (lst_at h) (v := .int y) rfl (hq y (.inr rfl))
  · simp only [hr, decide_false, if_false, Bool.false_eq_true]
    exact subW_lst (lst_at h) (v := .int x) rfl (hq x (.inl rfl))
theorem cut_strs {ls : List String} {lo hi : Option Int} : cut (ls.map Val.str) lo hi = (cut ls lo hi).map Val.str := by
  unfold cut
  rw [List.length_map, List.map_take, List.map_drop]
theorem cut_mem {α : Type} {l : List α} {lo hi : Option Int} {x : α} (h : x ∈ cut l lo hi) : x ∈ l := List.mem_of_mem_drop (List.mem_of_mem_take h)

def qv (s : String) : Bool := Txt.startswith (Str.ofString s) (Str.ofString "?")
mutual
def gat : Val → List String → List String
  | .str s, acc => if qv s = true ∧ s ∉ acc then acc ++ [s] else acc
  | .tup xs, acc => gatT xs acc
  | _, acc => acc
def gatT : List Val → List String → List String
  | [], acc => acc
  | _ :: vs, acc => gats vs acc
def gats : List Val → List String → List String
  | [], acc => acc
  | v :: vs, acc => gats vs (gat v acc)
end
mutual
def nod : Val → Nat
  | .tup xs => 1 + nodT xs
  | _ => 1
def nodT : List Val → Nat
  | [] => 0
  | _ :: vs => nods vs
def nods : List Val → Nat
  | [] => 0
  | v :: vs => nod v + nods vs
end
theorem gat_tup {h : Val} {vs : List Val} {acc : List String} : gat (.tup (h :: vs)) acc = gats vs acc := by rw [gat, gatT]
theorem gats_app : ∀ (us vs : List Val) (acc : List String), gats (us ++ vs) acc = gats vs (gats us acc)
  | [], vs, acc => by rw [gats]; rfl
  | u :: us, vs, acc => by rw [List.cons_append, gats, gats, gats_app us vs]
theorem nods_app : ∀ (us vs : List Val), nods (us ++ vs) = nods us + nods vs
  | [], vs => by rw [nods]; simp
  | u :: us, vs => by rw [List.cons_append, nods, nods, nods_app us vs]; omega
theorem nods_rev : ∀ (us : List Val), nods us.reverse = nods us
  | [] => rfl
  | u :: us => by rw [List.reverse_cons, nods_app, nods_rev us, nods, nods, nods]; omega
theorem nod_pos (v : Val) : 1 ≤ nod v := by cases v <;> simp [nod]
theorem nods_len : ∀ (us : List Val), us.length ≤ nods us
  | [] => by simp
  | u :: us => by
    have := nod_pos u
    have := nods_len us
    rw [nods, List.length_cons]
    omega
theorem nod_isK {d : Nat} {v : Val} (h : IsK d v) : nod v ≤ 4 ^ d := by
  have pw : ∀ n : Nat, 1 ≤ 4 ^ n := fun n => Nat.pow_pos (by decide)
  induction h with
  | var q => rw [nod]; exact pw _; intro _ z; cases z
  | nam q l => rw [nod]; exact pw _; intro _ z; cases z
  | @tup n h vs q0 l0 hv hl ih =>
    have all : ∀ ws : List Val, (∀ w ∈ ws, nod w ≤ 4 ^ n) → nods ws ≤ ws.length * 4 ^ n := by
      intro ws
      induction ws with
      | nil => intro _; simp [nods]
      | cons w r ih2 =>
        intro hw
        have h1 := hw w List.mem_cons_self
        have h2 := ih2 fun u hu => hw u (List.mem_cons_of_mem _ hu)
        rw [nods, List.length_cons, Nat.succ_mul]
        omega
    have h1 := all vs ih
    have h2 : vs.length * 4 ^ n ≤ 3 * 4 ^ n := Nat.mul_le_mul_right _ hl
    have h3 := pw n
    rw [nod, nodT, Nat.pow_succ]
    omega
theorem gat_len : ∀ (v : Val) (acc : List String), (gat v acc).length ≤ acc.length + nod v := by
  have key : ∀ (n : Nat), (∀ (v : Val) (acc : List String), nod v ≤ n → (gat v acc).length ≤ acc.length + nod v) := by
    intro n
    induction n using Nat.strongRecOn with
    | _ n ih =>
    intro v acc hn
    have str : ∀ s, (gat (.str s) acc).length ≤ acc.length + nod (.str s) := by
      intro s
      rw [gat]
      split <;> simp [nod]
    cases v with
    | str s => exact str s
    | tup xs =>
      cases xs with
      | nil => simp [gat, gatT, nod]
      | cons h vs =>
        rw [gat_tup, nod, nodT]
        rw [nod, nodT] at hn
        have all : ∀ (ws : List Val) (acc : List String), nods ws < n → (gats ws acc).length ≤ acc.length + nods ws := by
          intro ws
          induction ws with
          | nil => intro acc _; simp [gats]
          | cons w r ih2 =>
            intro acc hw
            rw [nods] at hw
            have h1 := ih (nod w) (by have := nod_pos w; omega) w acc (Nat.le_refl _)
            have h2 := ih2 (gat w acc) (by omega)
            rw [gats, nods]
            omega
        have := all vs acc (by omega)
        omega
    | _ => simp [gat, nod]
  exact fun v acc => key (nod v) v acc (Nat.le_refl _)
theorem within_str {k : Nat} {s : String} {S : Hm} : callW P (k + 1) (.f "within") [.str s] S (fun v S' => S' = S ∧ v = .tup []) noX := by
  refine call_open fn_f_within ⟨rfl, ?_⟩
  show wSs _ _ _ s3_f_within _ _ [some (.str s)] S
  simp only [s3_f_within, s2_f_within, wSs, wS, wT, wEs, wO, wPs, wC, wSrc, wE_loc, wE_lit, wE_con, wE_bin, wE_neg, wE_cmp, wE_cmp2, wE_isN, wE_notN, wE_isB, wE_not, wE_and, wE_or, wE_ite, wE_tup, wE_lst, wE_dic, wE_call, wE_make, wE_meth, wE_fld, wE_sub, wE_slice, wE_bi, wE_vi, wE_bm, wE_isi, wE_lc, wE_lck, eg, es, Option.some.injEq, exists_eq_left', Lit.val]
  simp [isTy, truth]
theorem within_tup {k : Nat} {h : Val} {vs : List Val} {S : Hm} : callW P (k + 1) (.f "within") [.tup (h :: vs)] S (fun v S' => S' = S ∧ v = .tup vs) noX := by
  refine call_open fn_f_within ⟨rfl, ?_⟩
  show wSs _ _ _ s3_f_within _ _ [some (.tup (h :: vs))] S
  simp only [s3_f_within, wSs, wS, wT, wEs, wO, wPs, wC, wSrc, wE_loc, wE_lit, wE_con, wE_bin, wE_neg, wE_cmp, wE_cmp2, wE_isN, wE_notN, wE_isB, wE_not, wE_and, wE_or, wE_ite, wE_tup, wE_lst, wE_dic, wE_call, wE_make, wE_meth, wE_fld, wE_sub, wE_slice, wE_bi, wE_vi, wE_bm, wE_isi, wE_lc, wE_lck, eg, es, Option.some.injEq, exists_eq_left', Lit.val]
  simp [isTy, truth]
  simp only [s1_f_within, wSs, wS, wT, wEs, wO, wPs, wC, wSrc, wE_loc, wE_lit, wE_con, wE_bin, wE_neg, wE_cmp, wE_cmp2, wE_isN, wE_notN, wE_isB, wE_not, wE_and, wE_or, wE_ite, wE_tup, wE_lst, wE_dic, wE_call, wE_make, wE_meth, wE_fld, wE_sub, wE_slice, wE_bi, wE_vi, wE_bm, wE_isi, wE_lc, wE_lck, eg, es, Option.some.injEq, exists_eq_left', Lit.val, sliceW]
  exact ⟨1, rfl, trivial, by rw [cut_tl]⟩
theorem notin_str {S : Hm} {n : Nat} {acc : List String} {s : String} {Q : Bool → Prop} (h : S[n]? = some (.lst (acc.map .str))) (hq : Q (!decide (s ∈ acc))) : inW (.str s) (.ref n) S fun b => Q (!b) := by
  refine .inl ⟨_, lst_at h, .inl ⟨rfl, flat_strs acc, ?_⟩⟩
  rw [any_str]
  exact hq
theorem gat_s {s : String} (hs : VQ s ∨ NQ s ∧ 0 < s.length) {acc : List String} : (VQ s ∧ gat (.str s) acc = if s ∈ acc then acc else acc ++ [s]) ∨ (qv s = false ∧ gat (.str s) acc = acc) := by
  rcases hs with q | ⟨q, l⟩
  · refine .inl ⟨q, ?_⟩
    have : qv s = true := starts_var q
    rw [gat, this]
    by_cases h : s ∈ acc <;> simp [h]
  · refine .inr ⟨starts_nam q l, ?_⟩
    have : qv s = false := starts_nam q l
    rw [gat, this]
    simp
theorem gats_take {vs : List Val} {acc : List String} {i : Nat} {w : Val} (h : vs[i]? = some w) : gats (vs.take (i + 1)) acc = gat w (gats (vs.take i) acc) := by
  rw [List.take_add_one, h, gats_app]
  simp [gats]
theorem nods_take {vs : List Val} {i : Nat} : nods (vs.take i) ≤ nods vs := by
  conv => rhs; rw [← List.take_append_drop i vs]
  rw [nods_app]
  omega
theorem nods_take1 {vs : List Val} {i : Nat} {w : Val} (h : vs[i]? = some w) : nods (vs.take i) + nod w ≤ nods vs := by
  have := nods_take (vs := vs) (i := i + 1)
  rw [List.take_add_one, h, nods_app] at this
  simpa [nods] using this
theorem gats_len : ∀ (ws : List Val) (acc : List String), (gats ws acc).length ≤ acc.length + nods ws
  | [], acc => by simp [gats]
  | w :: r, acc => by
    have h1 := gat_len w acc
    have h2 := gats_len r (gat w acc)
    rw [gats, nods]
    omega
theorem standing_ok {d k : Nat} {v : Val} (hv : IsK d v) (hd : d ≤ 6) {S : Hm} {f : Nat} (hf : f = S.length) : callW P (k + 1) (.f "_law_standing") [v] S (fun x S' => x = .ref f ∧ S'[f]? = some (.lst ((gat v []).map .str)) ∧ S.length < S'.length ∧ ∀ n, n < S.length → S'[n]? = S[n]?) noX := by
  refine call_open fn_f_law_standing ⟨rfl, ?_⟩
  show wSs _ _ _ s6_f_law_standing _ _ [some v, none, none, none] S
  simp only [s6_f_law_standing, wSs, wS, wEs, wE_lst, wE_loc, eg, es, Option.some.injEq, exists_eq_left']
  have hb := nod_isK hv
  have hb2 : 4 ^ d ≤ 4 ^ 6 := Nat.pow_le_pow_right (by decide) hd
  refine ⟨by rw [sizeLine_eq]; simp, by rw [sizeLine_eq]; simp, ?_⟩
  rw [← hf]
  have hlen : (S ++ [Ob.lst []]).length = f + 1 := by simp [hf]
  rw [hlen]
  refine while_inv (callW_mono P _) (fun n env S' => ∃ (ws : List Val) (acc : List String) (x3 : Option Val), env = [some v, some (.ref f), some (.ref (f + 1)), x3] ∧ nods ws = n ∧ (∀ w ∈ ws, ∃ e, e ≤ d ∧ IsK e w) ∧ gats ws.reverse acc = gat v [] ∧ acc.length + nods ws ≤ 10 ^ 4 ∧ S'[f]? = some (.lst (acc.map .str)) ∧ S'[f + 1]? = some (.lst ws) ∧ f + 1 < S'.length ∧ ∀ m, m < f → S'[m]? = S[m]?) ?_ (n := nods [v]) ?_
  rotate_left
  refine ⟨[v], [], none, rfl, rfl, ?_, by simp [gats], by simp [nods]; omega, ?_, ?_, by simp [hf], ?_⟩
  · intro w hw'
    have : w = v := by simpa using hw'
    subst this
    exact ⟨d, Nat.le_refl _, hv⟩
  · rw [List.getElem?_append_left (by simp [hf])]; subst hf; exact get_new
  · subst hf; rw [show S.length + 1 = (S ++ [Ob.lst []]).length from by simp]; exact get_new
  · intro m hm
    rw [List.getElem?_append_left (by simp; omega), List.getElem?_append_left (by omega)]
  · rintro n env S' ⟨ws, acc, x3, rfl, rfl, hw, hg, hb3, g1, g2, g3, g4⟩
    simp only [wSs, wS, wT, wEs, wO, wPs, wC, wSrc, wE_loc, wE_lit, wE_con, wE_bin, wE_neg, wE_cmp, wE_cmp2, wE_isN, wE_notN, wE_isB, wE_not, wE_and, wE_or, wE_ite, wE_tup, wE_lst, wE_dic, wE_call, wE_make, wE_meth, wE_fld, wE_sub, wE_slice, wE_bi, wE_vi, wE_bm, wE_isi, wE_lc, wE_lck, eg, es, Option.some.injEq, exists_eq_left', Lit.val]
    refine lenW_lst (lst_at g2) ?_
    simp only [cmpW]
    rcases List.eq_nil_or_concat ws with rfl | ⟨us, w, rfl⟩
    · simp only [List.length_nil, truth, Option.some.injEq, exists_eq_left']
      rw [if_neg (by decide)]
      simp only [s5_f_law_standing, wSs, wS, wT, wEs, wO, wPs, wC, wSrc, wE_loc, wE_lit, wE_con, wE_bin, wE_neg, wE_cmp, wE_cmp2, wE_isN, wE_notN, wE_isB, wE_not, wE_and, wE_or, wE_ite, wE_tup, wE_lst, wE_dic, wE_call, wE_make, wE_meth, wE_fld, wE_sub, wE_slice, wE_bi, wE_vi, wE_bm, wE_isi, wE_lc, wE_lck, eg, es, Option.some.injEq, exists_eq_left', Lit.val]
      have e0 : acc = gat v [] := by simpa [gats] using hg
      exact ⟨trivial, by rw [← e0]; exact g1, by omega, g4⟩
    · rw [List.concat_eq_append] at *
      simp only [truth, Option.some.injEq, exists_eq_left']
      rw [if_pos (by simp)]
      have hwi := hw w (by simp)
      obtain ⟨e, he, kw⟩ := hwi
      have nw := nod_pos w
      have hn : nods (us ++ [w]) = nods us + nod w := by rw [nods_app]; simp [nods]
      have hr : gats us.reverse (gat w acc) = gat v [] := by rw [← hg, List.reverse_append]; rfl
      have gl := gat_len w acc
      simp only [s4_f_law_standing, wSs, wS, wT, wEs, wO, wPs, wC, wSrc, wE_loc, wE_lit, wE_con, wE_bin, wE_neg, wE_cmp, wE_cmp2, wE_isN, wE_notN, wE_isB, wE_not, wE_and, wE_or, wE_ite, wE_tup, wE_lst, wE_dic, wE_call, wE_make, wE_meth, wE_fld, wE_sub, wE_slice, wE_bi, wE_vi, wE_bm, wE_isi, wE_lc, wE_lck, eg, es, Option.some.injEq, exists_eq_left', Lit.val, bmT, bmW]
      refine ⟨⟨_, _, rfl, lst_at g2⟩, us ++ [w], w, g2, by simp, ?_⟩
      rw [List.dropLast_concat]
      have h1 : (S'.set (f + 1) (.lst us))[f]? = some (.lst (acc.map .str)) := by rw [get_ne (by omega)]; exact g1
      have h2 : (S'.set (f + 1) (.lst us))[f + 1]? = some (.lst us) := by rw [get_set, g2]; rfl
      have h3 : f + 1 < (S'.set (f + 1) (.lst us)).length := by simpa using g3
      have h4 : ∀ m, m < f → (S'.set (f + 1) (.lst us))[m]? = S[m]? := fun m hm => by rw [get_ne (by omega)]; exact g4 m hm
      generalize S'.set (f + 1) (.lst us) = S2 at h1 h2 h3 h4
      have fin : ∀ (S3 : Hm) (acc' : List String) (us' : List Val), S3[f]? = some (.lst (acc'.map .str)) → S3[f + 1]? = some (.lst us') → S2.length ≤ S3.length → (∀ m, m < f → S3[m]? = S2[m]?) → nods us' < nods (us ++ [w]) → (∀ w ∈ us', ∃ e, e ≤ d ∧ IsK e w) → gats us'.reverse acc' = gat v [] → acc'.length + nods us' ≤ 10 ^ 4 → ∃ m, m < nods (us ++ [w]) ∧ ∃ (ws : List Val) (acc : List String) (x3 : Option Val), [some v, some (Val.ref f), some (.ref (f + 1)), some w] = [some v, some (.ref f), some (.ref (f + 1)), x3] ∧ nods ws = m ∧ (∀ w ∈ ws, ∃ e, e ≤ d ∧ IsK e w) ∧ gats ws.reverse acc = gat v [] ∧ acc.length + nods ws ≤ 10 ^ 4 ∧ S3[f]? = some (.lst (acc.map .str)) ∧ S3[f + 1]? = some (.lst ws) ∧ f + 1 < S3.length ∧ ∀ m, m < f → S3[m]? = S[m]? :=
        fun S3 acc' us' a1 a2 a3 a4 a5 a6 a7 a8 => ⟨_, a5, us', acc', _, rfl, rfl, a6, a7, a8, a1, a2, by omega, fun m hm => (a4 m hm).trans (h4 m hm)⟩
      have hus : ∀ w ∈ us, ∃ e, e ≤ d ∧ IsK e w := fun u hu => hw u (List.mem_append_left _ hu)
      have str : ∀ s, (VQ s ∨ NQ s ∧ 0 < s.length) → w = .str s → wSs P.con P.sub (callW P k) s3_f_law_standing (fun c env => noX c) { nx := fun e S_1 => ∃ m, m < nods (us ++ [w]) ∧ ∃ (ws : List Val) (acc : List String) (x3 : Option Val), e = [some v, some (Val.ref f), some (.ref (f + 1)), x3] ∧ nods ws = m ∧ (∀ w ∈ ws, ∃ e, e ≤ d ∧ IsK e w) ∧ gats ws.reverse acc = gat v [] ∧ acc.length + nods ws ≤ 10 ^ 4 ∧ S_1[f]? = some (.lst (acc.map .str)) ∧ S_1[f + 1]? = some (.lst ws) ∧ f + 1 < S_1.length ∧ ∀ m, m < f → S_1[m]? = S[m]?, rt := fun x S' => x = .ref f ∧ S'[f]? = some (.lst ((gat v []).map .str)) ∧ S.length < S'.length ∧ ∀ n, n < S.length → S'[n]? = S[n]? } [some v, some (.ref f), some (.ref (f + 1)), some w] S2 := by
        intro s hs ew
        subst ew
        simp only [s3_f_law_standing, wSs, wS, wT, wEs, wO, wPs, wC, wSrc, wE_loc, wE_lit, wE_con, wE_bin, wE_neg, wE_cmp, wE_cmp2, wE_isN, wE_notN, wE_isB, wE_not, wE_and, wE_or, wE_ite, wE_tup, wE_lst, wE_dic, wE_call, wE_make, wE_meth, wE_fld, wE_sub, wE_slice, wE_bi, wE_vi, wE_bm, wE_isi, wE_lc, wE_lck, eg, es, Option.some.injEq, exists_eq_left', Lit.val, bmT, bmW]
        rcases gat_s hs (acc := acc) with ⟨q, e⟩ | ⟨q, e⟩
        · rw [starts_var q]
          refine ⟨⟨_, rfl⟩, true, rfl, ?_⟩
          rw [if_pos rfl]
          simp only [cmpW]
          refine .inl ⟨_, lst_at h1, .inl ⟨rfl, flat_strs acc, ?_⟩⟩
          rw [any_str]
          by_cases hm : s ∈ acc
          · rw [if_pos hm] at e
            rw [e] at hr
            refine ⟨_, rfl, ?_⟩
            simp only [hm, decide_true, Bool.not_true, Bool.false_eq_true, if_false]
            exact fin S2 acc us h1 h2 (Nat.le_refl _) (fun _ _ => rfl) (by omega) hus hr (by omega)
          · rw [if_neg hm] at e
            rw [e] at hr
            refine ⟨_, rfl, ?_⟩
            simp only [hm, decide_false, Bool.not_false, if_true, s2_f_law_standing, wSs, wS, wT, wEs, wO, wPs, wC, wSrc, wE_loc, wE_lit, wE_con, wE_bin, wE_neg, wE_cmp, wE_cmp2, wE_isN, wE_notN, wE_isB, wE_not, wE_and, wE_or, wE_ite, wE_tup, wE_lst, wE_dic, wE_call, wE_make, wE_meth, wE_fld, wE_sub, wE_slice, wE_bi, wE_vi, wE_bm, wE_isi, wE_lc, wE_lck, eg, es, Option.some.injEq, exists_eq_left', Lit.val, bmT, bmW]
            refine ⟨⟨_, _, rfl, lst_at h1⟩, _, h1, by rw [sizeLine_eq]; simp; omega, ?_⟩
            refine fin _ (acc ++ [s]) us ?_ ?_ ?_ ?_ (by omega) hus hr ?_
            · rw [get_set, h1]; simp
            · rw [get_ne (by omega)]; exact h2
            · simp
            · intro m hm; exact get_ne (by omega)
            · simp; omega
        · have q' : Txt.startswith (Str.ofString s) (Str.ofString "?") = false := q
          rw [q']
          rw [e] at hr
          refine ⟨⟨_, rfl⟩, false, rfl, ?_⟩
          rw [if_neg (by decide)]
          exact fin S2 acc us h1 h2 (Nat.le_refl _) (fun _ _ => rfl) (by omega) hus hr (by omega)
      cases kw with
      | @tup e h vs q0 l0 hvs hl =>
        refine ⟨[true], rfl, true, rfl, ?_⟩
        rw [if_pos rfl]
        simp only [s1_f_law_standing, wSs, wS, wT, wEs, wO, wPs, wC, wSrc, wE_loc, wE_lit, wE_con, wE_bin, wE_neg, wE_cmp, wE_cmp2, wE_isN, wE_notN, wE_isB, wE_not, wE_and, wE_or, wE_ite, wE_tup, wE_lst, wE_dic, wE_call, wE_make, wE_meth, wE_fld, wE_sub, wE_slice, wE_bi, wE_vi, wE_bm, wE_isi, wE_lc, wE_lck, eg, es, Option.some.injEq, exists_eq_left', Lit.val, sliceW, bmT, bmW, viW, Val.int.injEq]
        rw [cut_tl]
        rw [gat_tup] at hr
        rw [nod, nodT] at hn
        have nl := nods_len vs
        have ul := nods_len us
        refine ⟨⟨_, _, rfl, lst_at h2⟩, _, _, get_app h2, get_new, ?_, ?_⟩
        · rw [sizeLine_eq]; simp; omega
        refine fin _ acc (us ++ vs.reverse) ?_ ?_ ?_ ?_ ?_ ?_ ?_ ?_
        · rw [get_ne (by omega)]; exact get_app h1
        · rw [get_set, get_app h2]; rfl
        · simp
        · intro m hm
          rw [get_ne (by omega)]
          exact List.getElem?_append_left (by omega)
        · rw [nods_app, nods_rev]; omega
        · intro u hu
          rcases List.mem_append.mp hu with hu | hu
          · exact hus u hu
          · exact ⟨e, by omega, hvs u (List.mem_reverse.mp hu)⟩
        · rw [List.reverse_append, List.reverse_reverse, gats_app]
          exact hr
        · rw [nods_app, nods_rev]; omega
      | @var _ s q =>
        refine ⟨[false], rfl, false, rfl, ?_⟩
        rw [if_neg (by decide)]
        exact str _ (.inl q) rfl
      | @nam _ s q l =>
        refine ⟨[false], rfl, false, rfl, ?_⟩
        rw [if_neg (by decide)]
        exact str _ (.inr ⟨q, l⟩) rfl
mutual
def sb (m : List (Key × Val)) : Val → Val
  | .str s => (lookK m (.inr s)).getD (.str s)
  | .tup xs => .tup (sbT m xs)
  | v => v
def sbT (m : List (Key × Val)) : List Val → List Val
  | [] => []
  | h :: vs => h :: sbs m vs
def sbs (m : List (Key × Val)) : List Val → List Val
  | [] => []
  | v :: vs => sb m v :: sbs m vs
end
theorem sbs_eq {m : List (Key × Val)} : ∀ vs, sbs m vs = vs.map (sb m)
  | [] => rfl
  | v :: vs => by rw [sbs, sbs_eq vs]; rfl
theorem sb_tup {m : List (Key × Val)} {h : Val} {vs : List Val} : sb m (.tup (h :: vs)) = .tup (h :: vs.map (sb m)) := by
  rw [sb, sbT, sbs_eq]
theorem look_mem' {m : List (Key × Val)} {k : Key} {v : Val} (h : lookK m k = some v) : (k, v) ∈ m := by
  unfold lookK at h
  cases e : m.find? fun kv => decide (kv.1 = k) with
  | none => rw [e] at h; cases h
  | some kv =>
    rw [e] at h
    cases h
    have h1 := List.find?_some (p := fun kv : Key × Val => decide (kv.1 = k)) e
    have h2 := List.mem_of_find?_eq_some e
    have : kv.1 = k := of_decide_eq_true h1
    subst this
    exact h2
theorem filled_ok {b : Nat} {m : List (Key × Val)} : ∀ (d : Nat) (v : Val), IsK d v → ∀ (k : Nat) (S : Hm), S[b]? = some (.dic m) → callW P (k + d + 1) (.f "_law_filled") [v, .ref b] S (fun r S' => r = sb m v ∧ ∃ l, S' = S ++ l) noX := by
  intro d
  induction d using Nat.strongRecOn with
  | _ d ih =>
  intro v hv k S hb
  refine call_open (k := k + d) fn_f_law_filled ⟨rfl, ?_⟩
  show wSs _ _ _ s3_f_law_filled _ _ [some v, some (.ref b), none] S
  simp only [s3_f_law_filled, wSs, wS, wT, wEs, wO, wPs, wC, wSrc, wE_loc, wE_lit, wE_con, wE_bin, wE_neg, wE_cmp, wE_cmp2, wE_isN, wE_notN, wE_isB, wE_not, wE_and, wE_or, wE_ite, wE_tup, wE_lst, wE_dic, wE_call, wE_make, wE_meth, wE_fld, wE_sub, wE_slice, wE_bi, wE_vi, wE_bm, wE_isi, wE_lc, wE_lck, eg, es, Option.some.injEq, exists_eq_left', Lit.val]
  have str : ∀ (s : String) X nx, wSs P.con P.sub (callW P (k + d)) s2_f_law_filled X { nx := nx, rt := fun r S' => r = sb m (.str s) ∧ ∃ l, S' = S ++ l } [some (.str s), some (.ref b), none] S := by
    intro s X nx
    simp only [s2_f_law_filled, wSs, wS, wT, wEs, wO, wPs, wC, wSrc, wE_loc, wE_lit, wE_con, wE_bin, wE_neg, wE_cmp, wE_cmp2, wE_isN, wE_notN, wE_isB, wE_not, wE_and, wE_or, wE_ite, wE_tup, wE_lst, wE_dic, wE_call, wE_make, wE_meth, wE_fld, wE_sub, wE_slice, wE_bi, wE_vi, wE_bm, wE_isi, wE_lc, wE_lck, eg, es, Option.some.injEq, exists_eq_left', Lit.val, bmT, bmW]
    exact ⟨⟨_, _, rfl, hb⟩, m, .inr s, dic_at hb, rfl, by rw [sb], [], by simp⟩
  cases hv with
  | @var _ s q =>
    simp [isTy, truth]
    exact str s _ _
  | @nam _ s q l =>
    simp [isTy, truth]
    exact str s _ _
  | @tup e h vs q0 l0 hvs hl =>
    simp [isTy, truth]
    simp only [s1_f_law_filled, wSs, wS, wT, wEs, wO, wPs, wC, wSrc, wE_loc, wE_lit, wE_con, wE_bin, wE_neg, wE_cmp, wE_cmp2, wE_isN, wE_notN, wE_isB, wE_not, wE_and, wE_or, wE_ite, wE_tup, wE_lst, wE_dic, wE_call, wE_make, wE_meth, wE_fld, wE_sub, wE_slice, wE_bi, wE_vi, wE_bm, wE_isi, wE_lc, wE_lck, eg, es, Option.some.injEq, exists_eq_left', Lit.val, sliceW, seqOf, cut_tl, cut_hd]
    refine ⟨1, rfl, 1, rfl, ?_⟩
    simp only [cut_hd, cut_tl]
    refine lcr_inv (callW_mono P _) (fun i acc S' => acc = (vs.take i).map (sb m) ∧ ∃ l, S' = S ++ l) ?_ ?_ ⟨by simp, [], by simp⟩
    · rintro i v acc S' hi ⟨rfl, l, rfl⟩
      have hi' := lt_of_get hi
      refine ⟨trivial, ?_⟩
      simp only [tgW, List.map_cons, List.map_nil, ewipe, wSs, wS, wT, wEs, wO, wPs, wC, wSrc, wE_loc, wE_lit, wE_con, wE_bin, wE_neg, wE_cmp, wE_cmp2, wE_isN, wE_notN, wE_isB, wE_not, wE_and, wE_or, wE_ite, wE_tup, wE_lst, wE_dic, wE_call, wE_make, wE_meth, wE_fld, wE_sub, wE_slice, wE_bi, wE_vi, wE_bm, wE_isi, wE_lc, wE_lck, eg, es, Option.some.injEq, exists_eq_left', Lit.val, if_true]
      refine call_use (ih e (by omega) v (hvs v (List.mem_of_getElem? hi)) k _ (get_app hb)) ?_
      rintro r S2 ⟨rfl, l2, rfl⟩
      refine ⟨by rw [sizeLine_eq]; simp; omega, ?_, l ++ l2, by simp⟩
      rw [List.take_add_one, hi]
      simp
    · rintro acc S' ⟨rfl, l, rfl⟩
      refine ⟨trivial, ?_⟩
      simp only [biW]
      refine ⟨_, lst_at get_new, ?_⟩
      simp only [binW]
      refine ⟨by rw [sizeLine_eq]; simp; omega, by rw [sb_tup]; simp, l ++ [_], by simp; rfl⟩
theorem pairL_self : ∀ xs : List Val, pairL xs xs = xs.map fun x => .tup [x, x]
  | [] => rfl
  | x :: xs => by rw [pairL, pairL_self xs]; rfl
end K23

set_option maxHeartbeats 1000000
namespace K23
open Mi PySem
theorem sb_isK {e : Nat} {m : List (Key × Val)} (hm : ∀ kv ∈ m, IsK e kv.2) {d : Nat} {v : Val} (h : IsK d v) : IsK (d + e) (sb m v) := by
  have str : ∀ (s : String) (n : Nat), IsK n (.str s) → IsK (n + e) (sb m (.str s)) := by
    intro s n hs
    rw [sb]
    cases q : lookK m (.inr s) with
    | none => exact hs.le (by omega)
    | some x => exact (hm _ (look_mem' q)).le (by omega)
  induction h with
  | var q => exact str _ _ (.var q)
  | nam q l => exact str _ _ (.nam q l)
  | @tup n h vs q0 l0 hv hl ih =>
    rw [sb_tup, show n + 1 + e = n + e + 1 from by omega]
    refine .tup q0 l0 (fun v hv' => ?_) (by simpa using hl)
    obtain ⟨x, hx, rfl⟩ := List.mem_map.mp hv'
    exact ih x hx
theorem eqv_str {a b : String} : PyData.eqv (.str (Str.ofString a)) (.str (Str.ofString b)) = decide (a = b) := by
  simp only [PyData.eqv]
  by_cases h : a = b
  · subst h; simp
  · have : ¬ Str.ofString a = Str.ofString b := fun z => h (ofString_inj z)
    simp [h, this]
theorem isK_cases {n : Nat} {v : Val} (h : IsK n v) : (∃ s, v = .str s ∧ (VQ s ∨ NQ s ∧ 0 < s.length)) ∨ ∃ e h vs, n = e + 1 ∧ v = .tup (.str h :: vs) ∧ NQ h ∧ 0 < h.length ∧ (∀ v ∈ vs, IsK e v) ∧ vs.length ≤ 3 := by
  cases h with
  | var q => exact .inl ⟨_, rfl, .inl q⟩
  | nam q l => exact .inl ⟨_, rfl, .inr ⟨q, l⟩⟩
  | tup q l hv hl => exact .inr ⟨_, _, _, rfl, rfl, q, l, hv, hl⟩
noncomputable instance : DecidableEq Val := fun a b => Classical.propDecidable (a = b)
theorem dat_s {S : Hm} {k : Nat} {s : String} : dat S k (.str s) = some (.str (Str.ofString s)) := by cases k <;> rfl
theorem dat_t {S : Hm} {k : Nat} {vs : List Val} {xs : List PyData} (e : vs.mapM (dat S k) = some xs) : dat S (k + 1) (.tup vs) = some (.tuple xs) := by
  simp only [dat]
  rw [e]; rfl
theorem dat2 {S : Hm} : ∀ (k : Nat) (a b : Val), IsK k a → IsK k b → ∃ x y, dat S k a = some x ∧ dat S k b = some y ∧ PyData.eqv x y = decide (a = b) := by
  intro k
  induction k with
  | zero =>
    intro a b ha hb
    rcases isK_cases ha with ⟨s, rfl, _⟩ | ⟨e, h, vs, z, _⟩
    · rcases isK_cases hb with ⟨t, rfl, _⟩ | ⟨e, h, vs, z, _⟩
      · exact ⟨_, _, dat_s, dat_s, by rw [eqv_str]; simp⟩
      · omega
    · omega
  | succ k ih =>
    have mp : ∀ us : List Val, (∀ u ∈ us, IsK k u) → ∃ ys, us.mapM (dat S k) = some ys ∧ ys.length = us.length := by
      intro us
      induction us with
      | nil => intro _; exact ⟨[], rfl, rfl⟩
      | cons u r ihr =>
        intro hu
        obtain ⟨x, _, e1, _⟩ := ih u u (hu u List.mem_cons_self) (hu u List.mem_cons_self)
        obtain ⟨ys, e2, e3⟩ := ihr fun z hz => hu z (List.mem_cons_of_mem _ hz)
        exact ⟨x :: ys, by rw [List.mapM_cons, e1, e2]; rfl, by simp [e3]⟩
    have lists : ∀ (ws us : List Val), (∀ w ∈ ws, IsK k w) → (∀ u ∈ us, IsK k u) → ∃ xs ys, ws.mapM (dat S k) = some xs ∧ us.mapM (dat S k) = some ys ∧ PyData.eqvAll xs ys = decide (ws = us) := by
      intro ws
      induction ws with
      | nil =>
        intro us _ hu
        obtain ⟨ys, e, el⟩ := mp us hu
        refine ⟨[], ys, rfl, e, ?_⟩
        cases us with
        | nil =>
          cases ys with
          | nil => simp [PyData.eqvAll]
          | cons _ _ => cases el
        | cons u r =>
          cases ys with
          | nil => cases el
          | cons _ _ => simp [PyData.eqvAll]
      | cons w r ihr =>
        intro us hw hu
        cases us with
        | nil =>
          obtain ⟨xs, e, el⟩ := mp (w :: r) hw
          refine ⟨xs, [], e, rfl, ?_⟩
          cases xs with
          | nil => cases el
          | cons _ _ => simp [PyData.eqvAll]
        | cons u us =>
          obtain ⟨x, y, e1, e2, e3⟩ := ih w u (hw w List.mem_cons_self) (hu u List.mem_cons_self)
          obtain ⟨xs, ys, f1, f2, f3⟩ := ihr us (fun z hz => hw z (List.mem_cons_of_mem _ hz)) fun z hz => hu z (List.mem_cons_of_mem _ hz)
          refine ⟨x :: xs, y :: ys, by rw [List.mapM_cons, e1, f1]; rfl, by rw [List.mapM_cons, e2, f2]; rfl, ?_⟩
          simp [PyData.eqvAll, e3, f3]
    intro a b ha hb
    rcases isK_cases ha with ⟨s, rfl, _⟩ | ⟨e, h, vs, z, rfl, q, l, hv, hl⟩
    · rcases isK_cases hb with ⟨t, rfl, _⟩ | ⟨e', h', us, z', rfl, q', l', hv', hl'⟩
      · exact ⟨_, _, dat_s, dat_s, by rw [eqv_str]; simp⟩
      · obtain rfl : e' = k := by omega
        obtain ⟨ys, e, _⟩ := mp (.str h' :: us) (by intro u hu; rcases List.mem_cons.mp hu with rfl | hu; exact .nam q' l'; exact hv' u hu)
        exact ⟨_, _, dat_s, dat_t e, by simp [PyData.eqv]⟩
    · obtain rfl : e = k := by omega
      have hA : ∀ w ∈ (Val.str h :: vs), IsK e w := by intro u hu; rcases List.mem_cons.mp hu with rfl | hu; exact .nam q l; exact hv u hu
      rcases isK_cases hb with ⟨t, rfl, _⟩ | ⟨e', h', us, z', rfl, q', l', hv', hl'⟩
      · obtain ⟨ys, ee, _⟩ := mp _ hA
        exact ⟨_, _, dat_t ee, dat_s, by simp [PyData.eqv]⟩
      · obtain rfl : e' = e := by omega
        have hB : ∀ w ∈ (Val.str h' :: us), IsK e' w := by intro u hu; rcases List.mem_cons.mp hu with rfl | hu; exact .nam q' l'; exact hv' u hu
        obtain ⟨xs, ys, f1, f2, f3⟩ := lists _ _ hA hB
        refine ⟨_, _, dat_t f1, dat_t f2, ?_⟩
        rw [show PyData.eqv (.tuple xs) (.tuple ys) = PyData.eqvAll xs ys from by simp only [PyData.eqv], f3]
        simp
theorem eq_isK {n m : Nat} {a b : Val} (ha : IsK n a) (hb : IsK m b) (hn : n ≤ 58) (hm : m ≤ 58) {S : Hm} {Q : Bool → Prop} (q : Q (decide (a = b))) : eqW a b S Q := by
  obtain ⟨x, y, e1, e2, e3⟩ := dat2 (S := S) 60 a b (ha.le (by omega)) (hb.le (by omega))
  exact .inl ⟨x, y, e1, e2, by rw [e3]; exact q⟩
mutual
def fl (f : String → Val) : Val → Val
  | .str s => if qv s = true then f s else .str s
  | .tup xs => .tup (flT f xs)
  | v => v
def flT (f : String → Val) : List Val → List Val
  | [] => []
  | h :: vs => h :: fls f vs
def fls (f : String → Val) : List Val → List Val
  | [] => []
  | v :: vs => fl f v :: fls f vs
end
theorem fls_eq {f : String → Val} : ∀ vs, fls f vs = vs.map (fl f)
  | [] => rfl
  | v :: vs => by rw [fls, fls_eq vs]; rfl
theorem fl_tup {f : String → Val} {h : Val} {vs : List Val} : fl f (.tup (h :: vs)) = .tup (h :: vs.map (fl f)) := by rw [fl, flT, fls_eq]
theorem fl_var {f : String → Val} {s : String} (h : VQ s) : fl f (.str s) = f s := by rw [fl, if_pos (show qv s = true from starts_var h)]
theorem fl_nam {f : String → Val} {s : String} (h : NQ s) (l : 0 < s.length) : fl f (.str s) = .str s := by rw [fl, if_neg]; rw [show qv s = false from starts_nam h l]; simp
-- the variables
mutual
def vr : Val → List String
  | .str s => if qv s = true then [s] else []
  | .tup xs => vrT xs
  | _ => []
def vrT : List Val → List String
  | [] => []
  | _ :: vs => vrs vs
def vrs : List Val → List String
  | [] => []
  | v :: vs => vr v ++ vrs vs
end
theorem vr_tup {h : Val} {vs : List Val} : vr (.tup (h :: vs)) = vrs vs := by rw [vr, vrT]
theorem vrs_mem {x : String} : ∀ {vs : List Val}, x ∈ vrs vs ↔ ∃ v ∈ vs, x ∈ vr v
  | [] => by simp [vrs]
  | v :: vs => by rw [vrs, List.mem_append, vrs_mem (vs := vs)]; simp
theorem vr_var {s : String} (h : VQ s) : vr (.str s) = [s] := by rw [vr, if_pos (show qv s = true from starts_var h)]
theorem vr_nam {s : String} (h : NQ s) (l : 0 < s.length) : vr (.str s) = [] := by rw [vr, if_neg]; rw [show qv s = false from starts_nam h l]; simp
/-- a dict of kinds by variables -/
structure DI (c : Nat) (m : List (Key × Val)) : Prop where
  keys : ∃ xs : List String, m.map (·.1) = xs.map .inr ∧ xs.Nodup ∧ ∀ x ∈ xs, VQ x
  vals : ∀ kv ∈ m, IsK c kv.2
theorem DI.nil {c : Nat} : DI c [] := ⟨⟨[], rfl, List.nodup_nil, by simp⟩, by simp⟩
def Cp (f : String → Val) (m : List (Key × Val)) : Prop := ∀ x v, lookK m (.inr x) = some v → f x = v
def hs (m : List (Key × Val)) (x : String) : Prop := (lookK m (.inr x)).isSome = true
def fm (m : List (Key × Val)) : String → Val := fun x => (lookK m (.inr x)).getD (.str x)
theorem fm_cp {m : List (Key × Val)} : Cp (fm m) m := fun x v h => by unfold fm; rw [h]; rfl
theorem cp_nil {f : String → Val} : Cp f [] := fun x v h => by simp [lookK] at h
theorem look_none {m : List (Key × Val)} {q : Key} (h : lookK m q = none) : ∀ kv ∈ m, kv.1 ≠ q := by
  have h2 : ∀ a b, (a, b) ∈ m → ¬ a = q := by simpa [lookK] using h
  exact fun kv hkv e => h2 kv.1 kv.2 hkv e
theorem put_none {x : String} {m : List (Key × Val)} {v : Val} (h : lookK m (.inr x) = none) : putK m (.inr x) v = m ++ [(.inr x, v)] := by
  unfold putK
  rw [if_neg]
  intro z
  rw [List.any_eq_true] at z
  obtain ⟨kv, h1, h2⟩ := z
  exact look_none h kv h1 (of_decide_eq_true h2)
theorem look_app {x y : String} {m : List (Key × Val)} {v : Val} (h : lookK m (.inr x) = none) : lookK (m ++ [(.inr x, v)]) (.inr y) = if y = x then some v else lookK m (.inr y) := by
  by_cases e : y = x
  · subst e
    rw [if_pos rfl]
    unfold lookK at h ⊢
    rw [List.find?_append]
    have : m.find? (fun kv => decide (kv.1 = .inr y)) = none := by simpa using h
    rw [this]
    simp
  · rw [if_neg e]
    unfold lookK
    rw [List.find?_append]
    have : ¬ x = y := fun z => e z.symm
    cases m.find? (fun kv => decide (kv.1 = .inr y)) <;> simp [this]
theorem look_not {x : String} {m : List (Key × Val)} {xs : List String} (e : m.map (·.1) = xs.map .inr) (h : lookK m (.inr x) = none) : x ∉ xs := by
  intro hx
  have : (Sum.inr x : Key) ∈ m.map (·.1) := by rw [e]; exact List.mem_map_of_mem hx
  obtain ⟨kv, h1, h2⟩ := List.mem_map.mp this
  exact look_none h kv h1 h2
theorem look_in {x : String} {m : List (Key × Val)} {xs : List String} (e : m.map (·.1) = xs.map .inr) : hs m x ↔ x ∈ xs := by
  constructor
  · intro h
    unfold hs at h
    obtain ⟨v, hv⟩ := Option.isSome_iff_exists.mp h
    have := List.mem_map_of_mem (f := (·.1)) (look_mem' hv)
    rw [e] at this
    obtain ⟨y, h1, h2⟩ := List.mem_map.mp this
    cases h2
    exact h1
  · intro h
    unfold hs
    cases q : lookK m (.inr x) with
    | some _ => rfl
    | none => exact (look_not e q h).elim
theorem DI.put {c : Nat} {m : List (Key × Val)} (h : DI c m) {x : String} {v : Val} (hx : VQ x) (hv : IsK c v) (hn : lookK m (.inr x) = none) : DI c (m ++ [(.inr x, v)]) := by
  obtain ⟨⟨xs, e, hd, hq⟩, hv'⟩ := h
  refine ⟨⟨xs ++ [x], by simp [e], ?_, ?_⟩, ?_⟩
  · rw [List.nodup_append]
    exact ⟨hd, by simp, fun y hy z hz w => look_not e hn (by rw [← List.mem_singleton.mp hz, ← w]; exact hy)⟩
  · intro y hy
    rcases List.mem_append.mp hy with hy | hy
    · exact hq y hy
    · rw [List.mem_singleton.mp hy]; exact hx
  · intro kv hkv
    rcases List.mem_append.mp hkv with hkv | hkv
    · exact hv' kv hkv
    · rw [List.mem_singleton.mp hkv]; exact hv
theorem cp_put {f : String → Val} {m : List (Key × Val)} {x : String} {v : Val} (hn : lookK m (.inr x) = none) : Cp f (m ++ [(.inr x, v)]) ↔ Cp f m ∧ f x = v := by
  constructor
  · intro h
    refine ⟨fun y w hw => h y w ?_, h x v (by rw [look_app hn, if_pos rfl])⟩
    rw [look_app hn, if_neg]
    · exact hw
    · intro z; subst z; rw [hn] at hw; cases hw
  · rintro ⟨h, h2⟩ y w hw
    rw [look_app hn] at hw
    split at hw
    · rename_i z; subst z; cases hw; exact h2
    · exact h y w hw
theorem hs_put {m : List (Key × Val)} {x y : String} {v : Val} (hn : lookK m (.inr x) = none) : hs (m ++ [(.inr x, v)]) y ↔ hs m y ∨ y = x := by
  unfold hs
  rw [look_app hn]
  by_cases e : y = x
  · simp [e]
  · simp [e]
/-- heads alike -/
def hdq : Val → Val → Bool
  | .tup (.str h :: vs), .tup (.str h' :: us) => decide (h = h') && decide (vs.length = us.length)
  | .str s, .str t => decide (s = t)
  | _, _ => false
theorem atI_zero {α : Type} {x : α} {xs : List α} : atI (x :: xs) 0 = some x := by simp [atI, ixN]
theorem heads_ok {k n m : Nat} {a b : Val} {S : Hm} (ha : IsK n a) (hb : IsK m b) (hn : n ≤ 58) (hm : m ≤ 58) : callW P (k + 1) (.f "heads_alike") [a, b] S (fun v S' => S' = S ∧ v = .bl (hdq a b)) noX := by
  refine call_open fn_f_heads_alike ⟨rfl, ?_⟩
  show wSs _ _ _ s3_f_heads_alike _ _ [some a, some b] S
  simp only [s3_f_heads_alike, wSs, wS, wT, wEs, wO, wPs, wC, wSrc, wE_loc, wE_lit, wE_con, wE_bin, wE_neg, wE_cmp, wE_cmp2, wE_isN, wE_notN, wE_isB, wE_not, wE_and, wE_or, wE_ite, wE_tup, wE_lst, wE_dic, wE_call, wE_make, wE_meth, wE_fld, wE_sub, wE_slice, wE_bi, wE_vi, wE_bm, wE_isi, wE_lc, wE_lck, eg, es, Option.some.injEq, exists_eq_left', Lit.val]
  have fin : ∀ X nx, decide (a = b) = hdq a b → wSs P.con P.sub (callW P k) s2_f_heads_alike X { nx := nx, rt := fun v S' => S' = S ∧ v = .bl (hdq a b) } [some a, some b] S := by
    intro X nx e
    simp only [s2_f_heads_alike, wSs, wS, wT, wEs, wO, wPs, wC, wSrc, wE_loc, wE_lit, wE_con, wE_bin, wE_neg, wE_cmp, wE_cmp2, wE_isN, wE_notN, wE_isB, wE_not, wE_and, wE_or, wE_ite, wE_tup, wE_lst, wE_dic, wE_call, wE_make, wE_meth, wE_fld, wE_sub, wE_slice, wE_bi, wE_vi, wE_bm, wE_isi, wE_lc, wE_lck, eg, es, Option.some.injEq, exists_eq_left', Lit.val, cmpW]
    refine eq_isK ha hb hn hm ?_
    simp [e]
  rcases isK_cases ha with ⟨s, rfl, _⟩ | ⟨e, h, vs, z, rfl, q, l, hv, hl⟩
  · rcases isK_cases hb with ⟨t, rfl, _⟩ | ⟨e', h', us, z', rfl, q', l', hv', hl'⟩
    · simp [isTy, truth]
      exact fin _ _ (by simp [hdq])
    · simp [isTy, truth]
      exact fin _ _ (by simp [hdq])
  · rcases isK_cases hb with ⟨t, rfl, _⟩ | ⟨e', h', us, z', rfl, q', l', hv', hl'⟩
    · simp [isTy, truth]
      exact fin _ _ (by simp [hdq])
    · simp [isTy, truth]
      simp only [s1_f_heads_alike, wSs, wS, wT, wEs, wO, wPs, wC, wSrc, wE_loc, wE_lit, wE_con, wE_bin, wE_neg, wE_cmp, wE_cmp2, wE_isN, wE_notN, wE_isB, wE_not, wE_and, wE_or, wE_ite, wE_tup, wE_lst, wE_dic, wE_call, wE_make, wE_meth, wE_fld, wE_sub, wE_slice, wE_bi, wE_vi, wE_bm, wE_isi, wE_lc, wE_lck, eg, es, Option.some.injEq, exists_eq_left', Lit.val, cmpW, subW, biW]
      refine ⟨_, atI_zero, _, atI_zero, ?_⟩
      rw [eqW_str]
      refine ⟨_, rfl, ?_⟩
      by_cases hh : h = h'
      · simp [hh, eqW_int, hdq]
        exact Int.ofNat_inj
      · simp [hh, eqW_int, hdq]
theorem pairL_get : ∀ {xs ys : List Val} {i : Nat} {v : Val}, (pairL xs ys)[i]? = some v → ∃ x y, xs[i]? = some x ∧ ys[i]? = some y ∧ v = .tup [x, y]
  | x :: xs, y :: ys, 0, v, h => ⟨x, y, rfl, rfl, by simpa [pairL] using h.symm⟩
  | x :: xs, y :: ys, i + 1, v, h => pairL_get (xs := xs) (ys := ys) (i := i) (by simpa [pairL] using h)
  | [], _, _, _, h => by simp [pairL] at h
  | _ :: _, [], _, _, h => by simp [pairL] at h
theorem pairL_len : ∀ {xs ys : List Val}, xs.length = ys.length → (pairL xs ys).length = xs.length
  | [], [], _ => rfl
  | x :: xs, y :: ys, h => by rw [pairL, List.length_cons, pairL_len (by simpa using h)]; rfl
theorem hdq_tup {a b : Val} {h : String} {vs : List Val} {m : Nat} (ea : a = .tup (.str h :: vs)) (hb : IsK m b) (e : hdq a b = true) : ∃ us, b = .tup (.str h :: us) ∧ vs.length = us.length ∧ (∃ m', m = m' + 1 ∧ ∀ u ∈ us, IsK m' u) := by
  subst ea
  rcases isK_cases hb with ⟨t, rfl, _⟩ | ⟨e', h', us, z', rfl, q', l', hv', hl'⟩
  · simp [hdq] at e
  · simp [hdq] at e
    exact ⟨us, by rw [e.1], e.2, e', z', hv'⟩
theorem fl_hdq {f : String → Val} {h : String} {vs : List Val} {b : Val} (e : fl f (.tup (.str h :: vs)) = b) : hdq (.tup (.str h :: vs)) b = true := by
  rw [fl_tup] at e
  subst e
  simp [hdq]
theorem map_take1 {f : Val → Val} {vs us : List Val} {i : Nat} {x y : Val} (hx : vs[i]? = some x) (hy : us[i]? = some y) : (vs.take (i + 1)).map f = us.take (i + 1) ↔ (vs.take i).map f = us.take i ∧ f x = y := by
  rw [List.take_add_one, List.take_add_one, hx, hy, List.map_append]
  have l1 := lt_of_get hx
  have l2 := lt_of_get hy
  constructor
  · intro h
    have := List.append_inj h (by simp; omega)
    exact ⟨this.1, by simpa using this.2⟩
  · rintro ⟨h1, h2⟩
    rw [h1]
    simp [h2]
end K23

set_option maxHeartbeats 1000000
namespace K23
open Mi PySem
/-! ### what is told of variables, followed -/
def Kp (S S' : Hm) : Prop := S.length ≤ S'.length ∧ ∀ n, n < S.length → S'[n]? = S[n]?
theorem Kp.refl (S : Hm) : Kp S S := ⟨Nat.le_refl _, fun _ _ => rfl⟩
theorem Kp.trans {S S1 S2 : Hm} (a : Kp S S1) (b : Kp S1 S2) : Kp S S2 := ⟨Nat.le_trans a.1 b.1, fun n h => (b.2 n (Nat.lt_of_lt_of_le h a.1)).trans (a.2 n h)⟩
theorem Kp.app {S : Hm} (l : Hm) : Kp S (S ++ l) := ⟨by simp, fun n h => List.getElem?_append_left h⟩
theorem Kp.set {S S' : Hm} {n : Nat} {o : Ob} (h : Kp S S') (hn : S.length ≤ n) : Kp S (S'.set n o) := ⟨by simpa using h.1, fun m hm => by rw [get_ne (by omega)]; exact h.2 m hm⟩
theorem Kp.get {S S1 : Hm} (a : Kp S S1) {n : Nat} {o : Ob} (h : S[n]? = some o) : S1[n]? = some o := (a.2 n (lt_of_get h)).trans h
theorem dic_lt {S : Hm} {n : Nat} {m : List (Key × Val)} (h : Hm.dic S n = some m) : n < S.length := by
  by_cases hn : n < S.length
  · exact hn
  · unfold Hm.dic at h
    rw [List.getElem?_eq_none (by omega)] at h
    cases h
theorem dic_eq {S S1 : Hm} {n : Nat} {m : List (Key × Val)} (e : S1[n]? = S[n]?) (h : Hm.dic S n = some m) : Hm.dic S1 n = some m := by
  unfold Hm.dic at h ⊢
  rw [e]
  exact h
theorem Kp.dic {S S1 : Hm} (a : Kp S S1) {n : Nat} {m : List (Key × Val)} (h : Hm.dic S n = some m) : Hm.dic S1 n = some m := dic_eq (a.2 n (dic_lt h)) h
def Sol (f : String → Val) (m : List (Key × Val)) : Prop := ∀ x t, lookK m (.inr x) = some t → f x = fl f t
inductive Fo (m : List (Key × Val)) : Val → Val → Prop where
  | here {v : Val} : (∀ s, v = .str s → lookK m (.inr s) = none) → Fo m v v
  | step {s : String} {t u : Val} : lookK m (.inr s) = some t → Fo m t u → Fo m (.str s) u
def Fw (m : List (Key × Val)) : Prop := ∀ (i j : Nat) (x y : String) (t : Val), m[i]? = some (.inr x, .str y) → m[j]? = some (.inr y, t) → i < j
section
variable {m : List (Key × Val)} {e : Nat}
theorem DI.vq (D : DI e m) {x : String} {t : Val} (h : lookK m (.inr x) = some t) : VQ x ∧ IsK e t := by
  have hm := look_mem' h
  obtain ⟨xs, e1, e2, e3⟩ := D.keys
  refine ⟨?_, D.vals _ hm⟩
  have : (Sum.inr x : Key) ∈ m.map (·.1) := List.mem_map.mpr ⟨_, hm, rfl⟩
  rw [e1] at this
  obtain ⟨y, hy, ey⟩ := List.mem_map.mp this
  injection ey with ey
  exact ey ▸ e3 y hy
theorem DI.nam (D : DI e m) {x : String} (h : NQ x) : lookK m (.inr x) = none := by
  cases q : lookK m (.inr x) with
  | none => rfl
  | some t => exact absurd (D.vq q).1 fun z => nq_vq h z
theorem Fo.fin {v u : Val} (h : Fo m v u) : ∀ s, u = .str s → lookK m (.inr s) = none := by
  induction h with
  | here h => exact h
  | step _ _ ih => exact ih
theorem Fo.self {v u : Val} (h : Fo m v u) : Fo m u u := .here h.fin
theorem Fo.isK (D : DI e m) {v u : Val} (h : Fo m v u) (hv : IsK e v) : IsK e u := by
  induction h with
  | here _ => exact hv
  | step h _ ih => exact ih (D.vq h).2
theorem Fo.fl {f : String → Val} (D : DI e m) (hs : Sol f m) {v u : Val} (h : Fo m v u) : K23.fl f u = K23.fl f v := by
  induction h with
  | here _ => rfl
  | step h _ ih => rw [ih, fl_var (D.vq h).1, hs _ _ h]
theorem Fo.det {v u u' : Val} (h : Fo m v u) (h' : Fo m v u') : u = u' := by
  induction h with
  | here g =>
    cases h' with
    | here _ => rfl
    | step q _ => rw [g _ rfl] at q; cases q
  | step q _ ih =>
    cases h' with
    | here g => rw [g _ rfl] at q; cases q
    | step q' r' => rw [q] at q'; cases q'; exact ih r'
theorem Fo.vr {V : String → Prop} (hm : ∀ x t, lookK m (.inr x) = some t → ∀ y ∈ K23.vr t, V y) {v u : Val} (h : Fo m v u) (hv : ∀ y ∈ K23.vr v, V y) : ∀ y ∈ K23.vr u, V y := by
  induction h with
  | here _ => exact hv
  | step h _ ih => exact ih (hm _ _ h)
theorem isVar_in {k : Nat} {u : Val} {S : Hm} (hu : IsK e u) : callW P (k + 1) (.f "is_variable") [u] S (fun r S' => S' = S ∧ ((r = .bl true ∧ ∃ s, u = .str s ∧ VQ s) ∨ (r = .bl false ∧ ∀ s, u = .str s → NQ s ∧ 0 < s.length))) noX := by
  rcases isK_cases hu with ⟨s, rfl, q | ⟨q, l⟩⟩ | ⟨e', h, vs, rfl, rfl, _⟩
  · refine call_use isvar_str ?_
    rintro _ _ ⟨rfl, rfl⟩
    rw [starts_var q]
    exact ⟨rfl, .inl ⟨rfl, s, rfl, q⟩⟩
  · refine call_use isvar_str ?_
    rintro _ _ ⟨rfl, rfl⟩
    rw [starts_nam q l]
    exact ⟨rfl, .inr ⟨rfl, fun s' e => by cases e; exact ⟨q, l⟩⟩⟩
  · refine call_use isvar_tup ?_
    rintro _ _ ⟨rfl, rfl⟩
    exact ⟨rfl, .inr ⟨rfl, fun s' e => by cases e⟩⟩
theorem followed_ok {k b : Nat} {v : Val} {S : Hm} (hb : Hm.dic S b = some m) (D : DI e m) (F : Fw m) (hv : IsK e v) : callW P (k + 2) (.f "followed") [v, .ref b] S (fun r S' => S' = S ∧ Fo m v r) noX := by
  refine call_open (k := k + 1) fn_f_followed ⟨rfl, ?_⟩
  show wSs _ _ _ s3_f_followed _ _ [some v, some (.ref b)] S
  simp only [s3_f_followed, wSs, wS]
  refine while_inv (callW_mono P _) (fun n env S' => S' = S ∧ ∃ u, env = [some u, some (.ref b)] ∧ IsK e u ∧ (∀ r, Fo m u r → Fo m v r) ∧ ∀ (s : String) (j : Nat) (t : Val), u = .str s → m[j]? = some (.inr s, t) → m.length ≤ j + n) ?_ (n := m.length) ⟨rfl, v, rfl, hv, fun r h => h, fun s j t _ _ => by omega⟩
  rintro n env S' ⟨rfl, u, rfl, hu, hr, hn⟩
  simp only [wSs, wS, wT, wEs, wO, wPs, wC, wSrc, wE_loc, wE_lit, wE_con, wE_bin, wE_neg, wE_cmp, wE_cmp2, wE_isN, wE_notN, wE_isB, wE_not, wE_and, wE_or, wE_ite, wE_tup, wE_lst, wE_dic, wE_call, wE_make, wE_meth, wE_fld, wE_sub, wE_slice, wE_bi, wE_vi, wE_bm, wE_isi, wE_lc, wE_lck, eg, es, Option.some.injEq, exists_eq_left', Lit.val]
  refine call_use (isVar_in (k := k) hu) ?_
  rintro _ _ ⟨rfl, ⟨rfl, s, rfl, q⟩ | ⟨rfl, hs⟩⟩
  · refine ⟨true, rfl, ?_⟩
    rw [if_pos rfl]
    simp only [cmpW, inW]
    refine .inr ⟨m, .inr s, hb, rfl, ?_⟩
    refine ⟨_, rfl, ?_⟩
    cases hl : lookK m (.inr s) with
    | none =>
      rw [if_neg (by simp)]
      simp only [s2_f_followed, wSs, wS, wT, wEs, wO, wPs, wC, wSrc, wE_loc, wE_lit, wE_con, wE_bin, wE_neg, wE_cmp, wE_cmp2, wE_isN, wE_notN, wE_isB, wE_not, wE_and, wE_or, wE_ite, wE_tup, wE_lst, wE_dic, wE_call, wE_make, wE_meth, wE_fld, wE_sub, wE_slice, wE_bi, wE_vi, wE_bm, wE_isi, wE_lc, wE_lck, eg, es, Option.some.injEq, exists_eq_left', Lit.val]
      exact ⟨trivial, hr _ (.here fun s' es => by cases es; exact hl)⟩
    | some t =>
      rw [if_pos (by simp)]
      simp only [s1_f_followed, wSs, wS, wT, wEs, wO, wPs, wC, wSrc, wE_loc, wE_lit, wE_con, wE_bin, wE_neg, wE_cmp, wE_cmp2, wE_isN, wE_notN, wE_isB, wE_not, wE_and, wE_or, wE_ite, wE_tup, wE_lst, wE_dic, wE_call, wE_make, wE_meth, wE_fld, wE_sub, wE_slice, wE_bi, wE_vi, wE_bm, wE_isi, wE_lc, wE_lck, eg, es, Option.some.injEq, exists_eq_left', Lit.val, subW]
      refine .inr ⟨m, .inr s, t, hb, rfl, hl, ?_⟩
      have hm := look_mem' hl
      obtain ⟨i, hi⟩ := List.getElem?_of_mem hm
      have h1 := hn s i t rfl hi
      have h2 := lt_of_get hi
      refine ⟨n - 1, by omega, trivial, t, rfl, (D.vq hl).2, fun r h => hr r (.step hl h), fun y j t' e1 e2 => ?_⟩
      subst e1
      have := F i j s y t' hi e2
      omega
  · refine ⟨false, rfl, ?_⟩
    rw [if_neg (by decide), if_neg (by decide)]
    simp only [s2_f_followed, wSs, wS, wT, wEs, wO, wPs, wC, wSrc, wE_loc, wE_lit, wE_con, wE_bin, wE_neg, wE_cmp, wE_cmp2, wE_isN, wE_notN, wE_isB, wE_not, wE_and, wE_or, wE_ite, wE_tup, wE_lst, wE_dic, wE_call, wE_make, wE_meth, wE_fld, wE_sub, wE_slice, wE_bi, wE_vi, wE_bm, wE_isi, wE_lc, wE_lck, eg, es, Option.some.injEq, exists_eq_left', Lit.val]
    exact ⟨trivial, hr _ (.here fun s' es => D.nam (hs s' es).1)⟩
end
end K23

set_option maxHeartbeats 1000000
namespace K23
open Mi PySem
/-! ### what stands in a kind -/
theorem kOk_isK {n d : Nat} {v : Val} (h : IsK n v) (hd : n ≤ d) : kOk d v = true := by
  induction h generalizing d with
  | var _ => cases d <;> rfl
  | nam _ _ => cases d <;> rfl
  | @tup n h vs q l hv hl ih =>
    cases d with
    | zero => omega
    | succ d =>
      rw [kOk, List.all_eq_true]
      intro x hx
      rcases List.mem_cons.mp hx with rfl | hx
      · cases d <;> rfl
      · exact ih x hx (by omega)
theorem nods_mem {f : Val → Val} : ∀ {vs : List Val} {v : Val}, v ∈ vs → nod (f v) ≤ nods (vs.map f)
  | u :: us, v, h => by
    rw [List.map_cons, nods]
    rcases List.mem_cons.mp h with rfl | h
    · omega
    · have := nods_mem (f := f) h
      omega
theorem nod_tup {h : Val} {vs : List Val} {f : String → Val} : nod (fl f (.tup (h :: vs))) = 1 + nods (vs.map (fl f)) := by rw [fl_tup, nod, nodT]
theorem within_any {k e : Nat} {u : Val} {S : Hm} (hu : IsK e u) : callW P (k + 1) (.f "within") [u] S (fun r S' => S' = S ∧ ((∃ s, u = .str s ∧ r = .tup []) ∨ ∃ h vs e', u = .tup (.str h :: vs) ∧ r = .tup vs ∧ e = e' + 1 ∧ NQ h ∧ 0 < h.length ∧ (∀ v ∈ vs, IsK e' v) ∧ vs.length ≤ 3)) noX := by
  rcases isK_cases hu with ⟨s, rfl, _⟩ | ⟨e', h, vs, he, rfl, h1, h2, h3, h4⟩
  · refine call_use within_str ?_
    rintro _ _ ⟨rfl, rfl⟩
    exact ⟨rfl, .inl ⟨s, rfl, rfl⟩⟩
  · refine call_use within_tup ?_
    rintro _ _ ⟨rfl, rfl⟩
    exact ⟨rfl, .inr ⟨h, vs, e', rfl, rfl, he, h1, h2, h3, h4⟩⟩
section
variable {m : List (Key × Val)} {e : Nat}
/-- where the kinds can be joined at all, a variable that isn't told stands in none that it is to be -/
theorem stands_ok {k b : Nat} {x : String} {t : Val} {θ : String → Val} {S : Hm} (hb : Hm.dic S b = some m) (D : DI e m) (F : Fw m) (he : e ≤ 7) (hx : VQ x) (ht : IsK e t) (hne : t ≠ .str x) (hf : Fo m t t) (hs : Sol θ m) (eq : θ x = fl θ t) (hz : nod (fl θ t) ≤ 10 ^ 5) :
    callW P (k + 3) (.f "stands_in") [.str x, t, .ref b] S (fun r S' => r = .bl false ∧ Kp S S') noX := by
  refine call_open (k := k + 2) fn_f_stands_in ⟨rfl, ?_⟩
  show wSs _ _ _ s7_f_stands_in _ _ [some (.str x), some t, some (.ref b), none, none, none] S
  have hbl := dic_lt hb
  have len2 : (S ++ [Ob.lck (.ins "{}" [])]).length = S.length + 1 := by simp
  simp only [s7_f_stands_in, wSs, wS, wE_vi, wEs, viW, es, wE_lst, wE_loc, eg, Option.some.injEq, exists_eq_left', len2]
  refine ⟨by rw [sizeLine_eq]; simp, ?_⟩
  refine while_inv (callW_mono P _) (fun n env S' => ∃ fs ws x5, env = [some (.str x), some t, some (.ref b), some (.ref S.length), some (.ref (S.length + 1)), x5] ∧ nods (ws.map (fl θ)) = n ∧ (∀ w ∈ ws, IsK e w ∧ (w = t ∨ nod (fl θ w) < nod (fl θ t))) ∧ S'[S.length]? = some (.lck (.ins "{}" fs)) ∧ S'[S.length + 1]? = some (.lst ws) ∧ fs.length + n ≤ 10 ^ 5 ∧ Kp S S') ?_ (n := nod (fl θ t)) ?_
  rotate_left
  · refine ⟨[], [t], none, rfl, by simp [nods], fun w hw => ?_, ?_, ?_, by simpa using hz, (Kp.app _).trans (Kp.app _)⟩
    · rw [List.mem_singleton.mp hw]; exact ⟨ht, .inl rfl⟩
    · exact get_app get_new
    · rw [← len2]; exact get_new
  rintro n env S1 ⟨fs, ws, x5, rfl, rfl, hw, g1, g2, hl, kp⟩
  have hlt := lt_of_get g2
  simp only [wSs, wS, wT, wEs, wO, wPs, wC, wSrc, wE_loc, wE_lit, wE_con, wE_bin, wE_neg, wE_cmp, wE_cmp2, wE_isN, wE_notN, wE_isB, wE_not, wE_and, wE_or, wE_ite, wE_tup, wE_lst, wE_dic, wE_call, wE_make, wE_meth, wE_fld, wE_sub, wE_slice, wE_bi, wE_vi, wE_bm, wE_isi, wE_lc, wE_lck, eg, es, Option.some.injEq, exists_eq_left', Lit.val]
  refine lenW_lst (lst_at g2) ?_
  simp only [cmpW]
  refine ⟨_, rfl, ?_⟩
  rcases List.eq_nil_or_concat ws with rfl | ⟨us, w, rfl⟩
  · rw [if_neg (by decide)]
    simp only [s6_f_stands_in, wSs, wS, wT, wEs, wO, wPs, wC, wSrc, wE_loc, wE_lit, wE_con, wE_bin, wE_neg, wE_cmp, wE_cmp2, wE_isN, wE_notN, wE_isB, wE_not, wE_and, wE_or, wE_ite, wE_tup, wE_lst, wE_dic, wE_call, wE_make, wE_meth, wE_fld, wE_sub, wE_slice, wE_bi, wE_vi, wE_bm, wE_isi, wE_lc, wE_lck, eg, es, Option.some.injEq, exists_eq_left', Lit.val]
    exact ⟨trivial, kp⟩
  rw [List.concat_eq_append] at *
  rw [if_pos (by simp)]
  obtain ⟨wk, wt⟩ := hw w (by simp)
  have hn : nods ((us ++ [w]).map (fl θ)) = nods (us.map (fl θ)) + nod (fl θ w) := by rw [List.map_append, nods_app]; simp [nods]
  have npos := nod_pos (fl θ w)
  simp only [s5_f_stands_in, wSs, wS, wT, wEs, wO, wPs, wC, wSrc, wE_loc, wE_lit, wE_con, wE_bin, wE_neg, wE_cmp, wE_cmp2, wE_isN, wE_notN, wE_isB, wE_not, wE_and, wE_or, wE_ite, wE_tup, wE_lst, wE_dic, wE_call, wE_make, wE_meth, wE_fld, wE_sub, wE_slice, wE_bi, wE_vi, wE_bm, wE_isi, wE_lc, wE_lck, eg, es, Option.some.injEq, exists_eq_left', Lit.val, bmT, bmW]
  refine ⟨⟨_, _, rfl, lst_at g2⟩, us ++ [w], w, g2, by simp, ?_⟩
  rw [List.dropLast_concat]
  have kp2 : Kp S (S1.set (S.length + 1) (.lst us)) := kp.set (by omega)
  have g1' : (S1.set (S.length + 1) (.lst us))[S.length]? = some (.lck (.ins "{}" fs)) := by rw [get_ne (by omega)]; exact g1
  have g2' : (S1.set (S.length + 1) (.lst us))[S.length + 1]? = some (.lst us) := by rw [get_set, g2]; rfl
  generalize S1.set (S.length + 1) (.lst us) = S2 at kp2 g1' g2'
  refine call_use (followed_ok (k := k) (kp2.dic hb) D F wk) ?_
  rintro u S2 ⟨rfl, fo⟩
  have uk := fo.isK D wk
  have ue := fo.fl D hs
  have hux : u ≠ .str x := by
    rintro rfl
    rcases wt with rfl | wt
    · exact hne (fo.det hf).symm
    · rw [fl_var hx, eq] at ue
      rw [ue] at wt
      omega
  simp only [s4_f_stands_in, wSs, wS, wT, wEs, wO, wPs, wC, wSrc, wE_loc, wE_lit, wE_con, wE_bin, wE_neg, wE_cmp, wE_cmp2, wE_isN, wE_notN, wE_isB, wE_not, wE_and, wE_or, wE_ite, wE_tup, wE_lst, wE_dic, wE_call, wE_make, wE_meth, wE_fld, wE_sub, wE_slice, wE_bi, wE_vi, wE_bm, wE_isi, wE_lc, wE_lck, eg, es, Option.some.injEq, exists_eq_left', Lit.val, cmpW]
  refine eq_isK uk (IsK.var (n := 0) hx) (by omega) (by omega) ⟨_, rfl, ?_⟩
  rw [if_neg (by simpa using hux)]
  simp only [s3_f_stands_in, wSs, wS, wT, wEs, wO, wPs, wC, wSrc, wE_loc, wE_lit, wE_con, wE_bin, wE_neg, wE_cmp, wE_cmp2, wE_isN, wE_notN, wE_isB, wE_not, wE_and, wE_or, wE_ite, wE_tup, wE_lst, wE_dic, wE_call, wE_make, wE_meth, wE_fld, wE_sub, wE_slice, wE_bi, wE_vi, wE_bm, wE_isi, wE_lc, wE_lck, eg, es, Option.some.injEq, exists_eq_left', Lit.val, viW]
  refine ⟨fs, g1', kOk_isK uk (by omega), fun c hc => ⟨_, rfl, ?_⟩⟩
  have hus : ∀ w' ∈ us, IsK e w' ∧ (w' = t ∨ nod (fl θ w') < nod (fl θ t)) := fun w' h => hw w' (List.mem_append_left _ h)
  have wle : nod (fl θ w) ≤ nod (fl θ t) := by
    rcases wt with rfl | wt <;> omega
  cases c with
  | true =>
    rw [if_neg (by decide)]
    exact ⟨_, by omega, fs, us, _, rfl, rfl, hus, g1', g2', by omega, kp2⟩
  | false =>
    rw [if_pos (by decide)]
    simp only [s2_f_stands_in, wSs, wS, wT, wEs, wO, wPs, wC, wSrc, wE_loc, wE_lit, wE_con, wE_bin, wE_neg, wE_cmp, wE_cmp2, wE_isN, wE_notN, wE_isB, wE_not, wE_and, wE_or, wE_ite, wE_tup, wE_lst, wE_dic, wE_call, wE_make, wE_meth, wE_fld, wE_sub, wE_slice, wE_bi, wE_vi, wE_bm, wE_isi, wE_lc, wE_lck, eg, es, Option.some.injEq, exists_eq_left', Lit.val, viW, bmT]
    refine ⟨fs, g1', kOk_isK uk (by omega), by rw [sizeLine_eq]; omega, (fun z => by cases hc.mpr z), fun _ => ?_⟩
    have kp3 : Kp S (S2.set S.length (.lck (.ins "{}" (fs ++ [("", u)])))) := kp2.set (Nat.le_refl _)
    have g1 : (S2.set S.length (.lck (.ins "{}" (fs ++ [("", u)]))))[S.length]? = some (.lck (.ins "{}" (fs ++ [("", u)]))) := by rw [get_set, g1']; rfl
    have g2 : (S2.set S.length (.lck (.ins "{}" (fs ++ [("", u)]))))[S.length + 1]? = some (.lst us) := by rw [get_ne (by omega)]; exact g2'
    generalize S2.set S.length (.lck (.ins "{}" (fs ++ [("", u)]))) = S3 at kp3 g1 g2
    refine ⟨⟨_, _, rfl, lst_at g2⟩, ?_⟩
    refine call_use (within_any (k := k + 1) uk) ?_
    have fin : ∀ ys : List Val, (∀ y ∈ ys, IsK e y ∧ nod (fl θ y) < nod (fl θ t)) → nods (ys.map (fl θ)) + 1 ≤ nod (fl θ w) → ys.length ≤ 3 → bmW .extend (.ref (S.length + 1)) [.tup ys] S3 fun _ S4 => ∃ n', n' < nods ((us ++ [w]).map (fl θ)) ∧ ∃ fs ws x5, [some (Val.str x), some t, some (.ref b), some (.ref S.length), some (.ref (S.length + 1)), some u] = [some (.str x), some t, some (.ref b), some (.ref S.length), some (.ref (S.length + 1)), x5] ∧ nods (ws.map (fl θ)) = n' ∧ (∀ w ∈ ws, IsK e w ∧ (w = t ∨ nod (fl θ w) < nod (fl θ t))) ∧ S4[S.length]? = some (.lck (.ins "{}" fs)) ∧ S4[S.length + 1]? = some (.lst ws) ∧ fs.length + n' ≤ 10 ^ 5 ∧ Kp S S4 := by
      intro ys h1 h2 h3
      have ul := nods_len (us.map (fl θ))
      rw [List.length_map] at ul
      simp only [bmW]
      refine ⟨us, g2, by rw [sizeLine_eq]; omega, nods ((us ++ ys).map (fl θ)), ?_, fs ++ [("", u)], us ++ ys, some u, rfl, rfl, fun w' hw' => ?_, ?_, ?_, ?_, kp3.set (by omega)⟩
      · rw [hn, List.map_append, nods_app]; omega
      · rcases List.mem_append.mp hw' with hw' | hw'
        · exact hus w' hw'
        · exact ⟨(h1 w' hw').1, .inr (h1 w' hw').2⟩
      · rw [get_ne (by omega)]; exact g1
      · rw [get_set, g2]; rfl
      · rw [List.map_append, nods_app, List.length_append]
        simp only [List.length_cons, List.length_nil]
        omega
    rintro _ _ ⟨rfl, ⟨s, rfl, rfl⟩ | ⟨h, vs, e', rfl, rfl, rfl, _, _, h3, h4⟩⟩
    · exact fin [] (by simp) (by simpa [nods] using npos) (by simp)
    · have nt : nod (fl θ w) = 1 + nods (vs.map (fl θ)) := by rw [← ue]; exact nod_tup
      refine fin vs (fun y hy => ⟨(h3 y hy).le (by omega), ?_⟩) (by omega) h4
      have := nods_mem (f := fl θ) hy
      omega
end
end K23

set_option maxHeartbeats 2000000
namespace K23
open Mi PySem
/-! ### pairs joined -/
abbrev PrV (p : Val × Val) : Val := .tup [p.1, p.2]
/-- a pair that was met is made the same by what is told and by lesser pairs that wait -/
def Jm (θ : String → Val) (m : List (Key × Val)) (ws : List (Val × Val)) (a c : Val) : Prop := ∀ f, Sol f m → (∀ w ∈ ws, nod (fl θ w.1) < nod (fl θ a) → fl f w.1 = fl f w.2) → fl f a = fl f c
/-- what waits -/
def Wo (θ : String → Val) (V : String → Prop) (e : Nat) (w : Val × Val) : Prop := IsK e w.1 ∧ IsK e w.2 ∧ fl θ w.1 = fl θ w.2 ∧ (∀ y ∈ vr w.1, V y) ∧ ∀ y ∈ vr w.2, V y
structure Jn (θ : String → Val) (V : String → Prop) (e : Nat) (ps : List (Val × Val)) (m : List (Key × Val)) (ws : List (Val × Val)) (fs : List (String × Val)) : Prop where
  di : DI e m
  fw : Fw m
  sol : Sol θ m
  kv : ∀ x t, lookK m (.inr x) = some t → V x ∧ ∀ y ∈ vr t, V y
  wt : ∀ w ∈ ws, Wo θ V e w
  met : ∀ p ∈ fs, ∃ a c, p.2 = .tup [a, c] ∧ fl θ a = fl θ c ∧ Jm θ m ws a c
  all : ∀ f, Sol f m → (∀ w ∈ ws, fl f w.1 = fl f w.2) → ∀ p ∈ ps, fl f p.1 = fl f p.2
  same : (∀ p ∈ ps, p.1 = p.2) → m = [] ∧ ∀ w ∈ ws, w.1 = w.2
  len : m.length + fs.length + 2 * nods (ws.map fun w => fl θ w.1) ≤ 10 ^ 5
section
variable {θ : String → Val} {V : String → Prop} {e : Nat} {ps us ws : List (Val × Val)} {m : List (Key × Val)} {fs : List (String × Val)} {w : Val × Val} {a c : Val}
theorem nods_fst {w : Val × Val} {us : List (Val × Val)} : nods ((us ++ [w]).map fun w => fl θ w.1) = nods (us.map fun w => fl θ w.1) + nod (fl θ w.1) := by rw [List.map_append, nods_app]; simp [nods]
/-- a pair that is the same by now is let go -/
theorem Jn.skip (J : Jn θ V e ps m (us ++ [w]) fs) (h : ∀ f, Sol f m → fl f w.1 = fl f w.2) : Jn θ V e ps m us fs where
  di := J.di
  fw := J.fw
  sol := J.sol
  kv := J.kv
  wt := fun w' hw => J.wt w' (List.mem_append_left _ hw)
  met := fun p hp => by
    obtain ⟨a, c, e1, e2, e3⟩ := J.met p hp
    refine ⟨a, c, e1, e2, fun f hf g => e3 f hf fun w' hw' l => ?_⟩
    rcases List.mem_append.mp hw' with hw' | hw'
    · exact g w' hw' l
    · rw [List.mem_singleton.mp hw']; exact h f hf
  all := fun f hf g => J.all f hf fun w' hw' => by
    rcases List.mem_append.mp hw' with hw' | hw'
    · exact g w' hw'
    · rw [List.mem_singleton.mp hw']; exact h f hf
  same := fun z => ⟨(J.same z).1, fun w' hw => (J.same z).2 w' (List.mem_append_left _ hw)⟩
  len := by
    have := J.len
    rw [nods_fst] at this
    omega
/-- .. one that was met -/
theorem Jn.met1 (J : Jn θ V e ps m (us ++ [w]) fs) (fa : Fo m w.1 a) (fc : Fo m w.2 c) {p : String × Val} (hp : p ∈ fs) (ep : p.2 = .tup [a, c]) : Jn θ V e ps m us fs := by
  obtain ⟨a', c', e1, e2, jm⟩ := J.met p hp
  rw [ep] at e1
  injection e1 with e1
  simp only [List.cons.injEq, and_true] at e1
  obtain ⟨rfl, rfl⟩ := e1
  have hsz : nod (fl θ w.1) = nod (fl θ a) := by rw [fa.fl J.di J.sol]
  have key : ∀ f, Sol f m → (∀ w' ∈ us, nod (fl θ w'.1) < nod (fl θ a) → fl f w'.1 = fl f w'.2) → fl f w.1 = fl f w.2 := fun f hf g => by
    rw [← fa.fl J.di hf, ← fc.fl J.di hf]
    refine jm f hf fun w' hw' l => ?_
    rcases List.mem_append.mp hw' with hw' | hw'
    · exact g w' hw' l
    · rw [List.mem_singleton.mp hw'] at l; omega
  refine ⟨J.di, J.fw, J.sol, J.kv, fun w' hw => J.wt w' (List.mem_append_left _ hw), fun p hp => ?_, fun f hf g => J.all f hf fun w' hw' => ?_, fun z => ⟨(J.same z).1, fun w' hw => (J.same z).2 w' (List.mem_append_left _ hw)⟩, ?_⟩
  · obtain ⟨a2, c2, e1, e2, e3⟩ := J.met p hp
    refine ⟨a2, c2, e1, e2, fun f hf g => e3 f hf fun w' hw' l => ?_⟩
    rcases List.mem_append.mp hw' with hw' | hw'
    · exact g w' hw' l
    · rw [List.mem_singleton.mp hw'] at l ⊢
      exact key f hf fun w2 h2 l2 => g w2 h2 (by omega)
  · rcases List.mem_append.mp hw' with hw' | hw'
    · exact g w' hw'
    · rw [List.mem_singleton.mp hw']; exact key f hf fun w2 h2 _ => g w2 h2
  · have := J.len
    rw [nods_fst] at this
    omega
theorem Sol.app {f : String → Val} {x : String} {t : Val} (hn : lookK m (.inr x) = none) (h : Sol f (m ++ [(.inr x, t)])) : Sol f m ∧ f x = fl f t := by
  refine ⟨fun y u hy => h y u ?_, h x t ?_⟩
  · rw [look_app hn, if_neg fun z => by subst z; rw [hn] at hy; cases hy]
    exact hy
  · rw [look_app hn, if_pos rfl]
theorem Sol.put {f : String → Val} {x : String} {t : Val} (hn : lookK m (.inr x) = none) (h : Sol f m) (hx : f x = fl f t) : Sol f (m ++ [(.inr x, t)]) := by
  intro y u hy
  rw [look_app hn] at hy
  split at hy
  · rename_i z
    cases hy
    rw [z]; exact hx
  · exact h y u hy
theorem Fw.put {x : String} {t : Val} (F : Fw m) (hn : lookK m (.inr x) = none) (ht : ∀ s, t = .str s → lookK m (.inr s) = none ∧ s ≠ x) : Fw (m ++ [(.inr x, t)]) := by
  intro i j x' y u h1 h2
  have lt1 := lt_of_get h1
  have lt2 := lt_of_get h2
  rw [List.length_append, List.length_singleton] at lt1 lt2
  by_cases hi : i < m.length
  · rw [List.getElem?_append_left hi] at h1
    by_cases hj : j < m.length
    · rw [List.getElem?_append_left hj] at h2
      exact F i j x' y u h1 h2
    · omega
  · rw [List.getElem?_append_right (by omega), show i - m.length = 0 by omega] at h1
    simp only [List.getElem?_cons_zero, Option.some.injEq, Prod.mk.injEq] at h1
    obtain ⟨h3, h4⟩ := ht y h1.2
    by_cases hj : j < m.length
    · rw [List.getElem?_append_left hj] at h2
      exact absurd rfl (look_none h3 _ (List.mem_of_getElem? h2))
    · rw [List.getElem?_append_right (by omega), show j - m.length = 0 by omega] at h2
      simp only [List.getElem?_cons_zero, Option.some.injEq, Prod.mk.injEq, Sum.inr.injEq] at h2
      exact absurd h2.1.symm h4
/-- .. a variable is told -/
theorem Jn.bind {x : String} {t : Val} (J : Jn θ V e ps m (us ++ [w]) fs) (hx : VQ x) (hn : lookK m (.inr x) = none) (ht : IsK e t) (hf : ∀ s, t = .str s → lookK m (.inr s) = none) (hne : t ≠ .str x) (hV : V x ∧ ∀ y ∈ vr t, V y) (hs : θ x = fl θ t)
    (h : ∀ f, Sol f m → f x = fl f t → fl f w.1 = fl f w.2) (a c : Val) (hac : fl θ a = fl θ c) (hac2 : ∀ f, Sol f m → f x = fl f t → fl f a = fl f c) (hww : w.1 ≠ w.2) : Jn θ V e ps (m ++ [(.inr x, t)]) us (fs ++ [("", .tup [a, c])]) where
  di := J.di.put hx ht hn
  fw := J.fw.put hn fun s es => ⟨hf s es, fun z => hne (by rw [es, z])⟩
  sol := J.sol.put hn hs
  kv := fun y u hy => by
    rw [look_app hn] at hy
    split at hy
    · rename_i z
      cases hy
      rw [z]; exact hV
    · exact J.kv y u hy
  wt := fun w' hw => J.wt w' (List.mem_append_left _ hw)
  met := fun p hp => by
    rcases List.mem_append.mp hp with hp | hp
    · obtain ⟨a, c, e1, e2, e3⟩ := J.met p hp
      refine ⟨a, c, e1, e2, fun f hf g => ?_⟩
      obtain ⟨h1, h2⟩ := Sol.app hn hf
      refine e3 f h1 fun w' hw' l => ?_
      rcases List.mem_append.mp hw' with hw' | hw'
      · exact g w' hw' l
      · rw [List.mem_singleton.mp hw']; exact h f h1 h2
    · rw [List.mem_singleton.mp hp]
      refine ⟨a, c, rfl, hac, fun f hf _ => ?_⟩
      obtain ⟨h1, h2⟩ := Sol.app hn hf
      exact hac2 f h1 h2
  all := fun f hf g => by
    obtain ⟨h1, h2⟩ := Sol.app hn hf
    refine J.all f h1 fun w' hw' => ?_
    rcases List.mem_append.mp hw' with hw' | hw'
    · exact g w' hw'
    · rw [List.mem_singleton.mp hw']; exact h f h1 h2
  same := fun z => absurd ((J.same z).2 w (by simp)) hww
  len := by
    have := J.len
    have := nod_pos (fl θ w.1)
    rw [nods_fst] at *
    simp only [List.length_append, List.length_singleton]
    omega
theorem zip_map {g : Val → Val} : ∀ {vs us : List Val}, vs.length = us.length → (vs.map g = us.map g ↔ ∀ pr ∈ vs.zip us, g pr.1 = g pr.2)
  | [], [], _ => by simp
  | v :: vs, u :: us, h => by
    have := zip_map (g := g) (vs := vs) (us := us) (by simpa using h)
    simp [this]
theorem zip_in : ∀ {vs us : List Val} {p : Val × Val}, p ∈ vs.zip us → p.1 ∈ vs ∧ p.2 ∈ us := fun h => ⟨(List.of_mem_zip h).1, (List.of_mem_zip h).2⟩
theorem zip_fst : ∀ {vs us : List Val}, vs.length = us.length → (vs.zip us).map (·.1) = vs
  | [], [], _ => rfl
  | v :: vs, u :: us, h => by simp [zip_fst (vs := vs) (us := us) (by simpa using h)]
theorem pairL_zip : ∀ xs ys : List Val, pairL xs ys = (xs.zip ys).map PrV
  | [], _ => by simp [pairL]
  | _ :: _, [] => by simp [pairL]
  | x :: xs, y :: ys => by rw [pairL, pairL_zip xs ys]; rfl
theorem vr_part {h : Val} {vs : List Val} {v : Val} (hv : v ∈ vs) {y : String} (hy : y ∈ vr v) : y ∈ vr (.tup (h :: vs)) := by rw [vr_tup]; exact vrs_mem.mpr ⟨v, hv, hy⟩
/-- .. the kinds within are to be joined -/
theorem Jn.split {h : String} {xs ys : List Val} (J : Jn θ V e ps m (us ++ [w]) fs) (fa : Fo m w.1 (.tup (.str h :: xs))) (fc : Fo m w.2 (.tup (.str h :: ys))) (hl : xs.length = ys.length) (hww : w.1 ≠ w.2) : Jn θ V e ps m (us ++ xs.zip ys) (fs ++ [("", .tup [.tup (.str h :: xs), .tup (.str h :: ys)])]) := by
  have W := J.wt w (by simp)
  have ea := fa.fl J.di J.sol
  have ec := fc.fl J.di J.sol
  have ka := fa.isK J.di W.1
  have kc := fc.isK J.di W.2.1
  have va := fa.vr (fun x t q => (J.kv x t q).2) W.2.2.2.1
  have vc := fc.vr (fun x t q => (J.kv x t q).2) W.2.2.2.2
  have eac : fl θ (.tup (.str h :: xs)) = fl θ (.tup (.str h :: ys)) := by rw [ea, ec, W.2.2.1]
  have part : ∀ f, (∀ p ∈ xs.zip ys, fl f p.1 = fl f p.2) ↔ fl f (.tup (.str h :: xs)) = fl f (.tup (.str h :: ys)) := fun f => by
    rw [← zip_map hl, fl_tup, fl_tup]
    simp
  have small : ∀ p ∈ xs.zip ys, nod (fl θ p.1) < nod (fl θ w.1) := fun p hp => by
    rw [← ea, nod_tup]
    have := nods_mem (f := fl θ) (zip_in hp).1
    omega
  have key : ∀ f, Sol f m → (∀ p ∈ xs.zip ys, fl f p.1 = fl f p.2) → fl f w.1 = fl f w.2 := fun f hf g => by
    rw [← fa.fl J.di hf, ← fc.fl J.di hf]
    exact (part f).mp g
  refine ⟨J.di, J.fw, J.sol, J.kv, fun w' hw => ?_, fun p hp => ?_, fun f hf g => J.all f hf fun w' hw' => ?_, fun z => absurd ((J.same z).2 w (by simp)) hww, ?_⟩
  · rcases List.mem_append.mp hw with hw | hw
    · exact J.wt w' (List.mem_append_left _ hw)
    · obtain ⟨h1, h2⟩ := zip_in hw
      refine ⟨?_, ?_, (part θ).mpr eac w' hw, fun y hy => va y (vr_part h1 hy), fun y hy => vc y (vr_part h2 hy)⟩
      · rcases isK_cases ka with ⟨s, z, _⟩ | ⟨e', h', vs, rfl, z, _, _, g, _⟩
        · cases z
        · injection z with z; injection z with _ z; subst z
          exact (g _ h1).le (by omega)
      · rcases isK_cases kc with ⟨s, z, _⟩ | ⟨e', h', vs, rfl, z, _, _, g, _⟩
        · cases z
        · injection z with z; injection z with _ z; subst z
          exact (g _ h2).le (by omega)
  · rcases List.mem_append.mp hp with hp | hp
    · obtain ⟨a2, c2, e1, e2, e3⟩ := J.met p hp
      refine ⟨a2, c2, e1, e2, fun f hf g => e3 f hf fun w' hw' l => ?_⟩
      rcases List.mem_append.mp hw' with hw' | hw'
      · exact g w' (List.mem_append_left _ hw') l
      · rw [List.mem_singleton.mp hw'] at l ⊢
        exact key f hf fun p hp => g p (List.mem_append_right _ hp) (Nat.lt_trans (small p hp) l)
    · rw [List.mem_singleton.mp hp]
      refine ⟨_, _, rfl, eac, fun f hf g => (part f).mp fun p hp => g p (List.mem_append_right _ hp) ?_⟩
      rw [ea]
      exact small p hp
  · rcases List.mem_append.mp hw' with hw' | hw'
    · exact g w' (List.mem_append_left _ hw')
    · rw [List.mem_singleton.mp hw']
      exact key f hf fun p hp => g p (List.mem_append_right _ hp)
  · have := J.len
    rw [nods_fst, ← ea, nod_tup] at this
    have z : ((xs.zip ys).map fun w => fl θ w.1) = xs.map (fl θ) := by
      conv => rhs; rw [← zip_fst hl]
      rw [List.map_map]; rfl
    rw [List.map_append, nods_app, z, List.length_append, List.length_singleton]
    omega
end
end K23

set_option maxHeartbeats 2000000
namespace K23
open Mi PySem
/-! ### join_all -/
section
variable {θ : String → Val} {V : String → Prop} {e : Nat} {ps : List (Val × Val)}
theorem pair_ne {a c : Val} (h : a ≠ c) {w : Val × Val} {m : List (Key × Val)} (fa : Fo m w.1 a) (fc : Fo m w.2 c) : w.1 ≠ w.2 := fun z => h (fa.det (z ▸ fc))
theorem join_ok {k q b : Nat} {S : Hm} (hq : S[q]? = some (.lst (ps.map PrV))) (hb : S[b]? = some (.dic [])) (he : e ≤ 7) (hp : ∀ p ∈ ps, Wo θ V e p) (hV : ∀ y, V y → VQ y) (hsz : nods (ps.map fun w => fl θ w.1) ≤ 40000) :
    callW P (k + 4) (.f "join_all") [.ref q, .ref b] S (fun r S' => r = .bl true ∧ (∃ m fs, S'[b]? = some (.dic m) ∧ Jn θ V e ps m [] fs) ∧ S.length ≤ S'.length ∧ ∀ n, n < S.length → n ≠ b → S'[n]? = S[n]?) noX := by
  refine call_open (k := k + 3) fn_f_join_all ⟨rfl, ?_⟩
  show wSs _ _ _ s15_f_join_all _ _ [some (.ref q), some (.ref b), none, none, none, none] S
  have hbl := lt_of_get hb
  have len1 : (S ++ [Ob.lst (ps.map PrV)]).length = S.length + 1 := by simp
  simp only [s15_f_join_all, wSs, wS, wE_vi, wEs, viW, es, wE_bi, biW, wE_loc, eg, Option.some.injEq, exists_eq_left']
  refine ⟨_, lst_at hq, ?_⟩
  rw [len1]
  refine while_inv (callW_mono P _) (fun n env S' => ∃ m ws fs x4 x5, env = [some (.ref q), some (.ref b), some (.ref S.length), some (.ref (S.length + 1)), x4, x5] ∧ nods (ws.map fun w => fl θ w.1) = n ∧ Jn θ V e ps m ws fs ∧ S'[b]? = some (.dic m) ∧ S'[S.length]? = some (.lst (ws.map PrV)) ∧ S'[S.length + 1]? = some (.lck (.ins "{}" fs)) ∧ S.length ≤ S'.length ∧ ∀ n, n < S.length → n ≠ b → S'[n]? = S[n]?) ?_ (n := nods (ps.map fun w => fl θ w.1)) ?_
  rotate_left
  · refine ⟨[], ps, [], none, none, rfl, rfl, ⟨DI.nil, fun i j x y t h => by simp at h, fun x t h => by simp [lookK] at h, fun x t h => by simp [lookK] at h, hp, by simp, fun f _ g => g, fun z => ⟨rfl, z⟩, by simp; omega⟩, get_app (get_app hb), get_app get_new, ?_, by simp, fun n hn _ => ?_⟩
    · rw [← len1]; exact get_new
    · rw [List.getElem?_append_left (by simp; omega), List.getElem?_append_left hn]
  rintro n env S1 ⟨m, ws, fs, x4, x5, rfl, rfl, J, g0, g1, g2, gl, gk⟩
  have hlt := lt_of_get g2
  simp only [wSs, wS, wT, wEs, wO, wPs, wC, wSrc, wE_loc, wE_lit, wE_con, wE_bin, wE_neg, wE_cmp, wE_cmp2, wE_isN, wE_notN, wE_isB, wE_not, wE_and, wE_or, wE_ite, wE_tup, wE_lst, wE_dic, wE_call, wE_make, wE_meth, wE_fld, wE_sub, wE_slice, wE_bi, wE_vi, wE_bm, wE_isi, wE_lc, wE_lck, eg, es, Option.some.injEq, exists_eq_left', Lit.val]
  refine lenW_lst (lst_at g1) ?_
  simp only [cmpW]
  refine ⟨_, rfl, ?_⟩
  rcases List.eq_nil_or_concat ws with rfl | ⟨us, w, rfl⟩
  · rw [if_neg (by simp)]
    simp only [s14_f_join_all, wSs, wS, wT, wEs, wO, wPs, wC, wSrc, wE_loc, wE_lit, wE_con, wE_bin, wE_neg, wE_cmp, wE_cmp2, wE_isN, wE_notN, wE_isB, wE_not, wE_and, wE_or, wE_ite, wE_tup, wE_lst, wE_dic, wE_call, wE_make, wE_meth, wE_fld, wE_sub, wE_slice, wE_bi, wE_vi, wE_bm, wE_isi, wE_lc, wE_lck, eg, es, Option.some.injEq, exists_eq_left', Lit.val]
    exact ⟨trivial, ⟨m, fs, g0, J⟩, gl, gk⟩
  rw [List.concat_eq_append] at *
  rw [if_pos (by simp)]
  have W := J.wt w (by simp)
  have hn : nods ((us ++ [w]).map fun w => fl θ w.1) = nods (us.map fun w => fl θ w.1) + nod (fl θ w.1) := nods_fst
  have npos := nod_pos (fl θ w.1)
  simp only [s13_f_join_all, wSs, wS, wT, wEs, wO, wPs, wC, wSrc, wE_loc, wE_lit, wE_con, wE_bin, wE_neg, wE_cmp, wE_cmp2, wE_isN, wE_notN, wE_isB, wE_not, wE_and, wE_or, wE_ite, wE_tup, wE_lst, wE_dic, wE_call, wE_make, wE_meth, wE_fld, wE_sub, wE_slice, wE_bi, wE_vi, wE_bm, wE_isi, wE_lc, wE_lck, eg, es, Option.some.injEq, exists_eq_left', Lit.val, bmT, bmW]
  refine ⟨⟨_, _, rfl, lst_at g1⟩, _, PrV w, g1, by simp, ?_⟩
  rw [List.map_append, List.map_singleton, List.dropLast_concat]
  have g0' : (S1.set S.length (.lst (us.map PrV)))[b]? = some (.dic m) := by rw [get_ne (by omega)]; exact g0
  have g1' : (S1.set S.length (.lst (us.map PrV)))[S.length]? = some (.lst (us.map PrV)) := by rw [get_set, g1]; rfl
  have g2' : (S1.set S.length (.lst (us.map PrV)))[S.length + 1]? = some (.lck (.ins "{}" fs)) := by rw [get_ne (by omega)]; exact g2
  have gl' : S.length ≤ (S1.set S.length (.lst (us.map PrV))).length := by simpa using gl
  have gk' : ∀ n, n < S.length → n ≠ b → (S1.set S.length (.lst (us.map PrV)))[n]? = S[n]? := fun n h1 h2 => by rw [get_ne (by omega)]; exact gk n h1 h2
  have hS2 : S.length + 1 < (S1.set S.length (.lst (us.map PrV))).length := by simpa using hlt
  generalize S1.set S.length (.lst (us.map PrV)) = S2 at g0' g1' g2' gl' gk' hS2
  simp only [tgW, Val.tup.injEq, exists_eq_left', List.length_cons, List.length_nil, List.zip_cons_cons, List.zip_nil_right, List.foldl_cons, List.foldl_nil, es, true_and, wSs, wS, wT, wEs, wO, wPs, wC, wSrc, wE_loc, wE_lit, wE_con, wE_bin, wE_neg, wE_cmp, wE_cmp2, wE_isN, wE_notN, wE_isB, wE_not, wE_and, wE_or, wE_ite, wE_tup, wE_lst, wE_dic, wE_call, wE_make, wE_meth, wE_fld, wE_sub, wE_slice, wE_bi, wE_vi, wE_bm, wE_isi, wE_lc, wE_lck, eg, es, Option.some.injEq, exists_eq_left', Lit.val]
  have hd2 : Hm.dic S2 b = some m := by unfold Hm.dic; rw [g0']
  refine call_use (followed_ok (k := k + 1) hd2 J.di J.fw W.1) ?_
  rintro a S2 ⟨rfl, fa⟩
  simp only [s12_f_join_all, wSs, wS, wT, wEs, wO, wPs, wC, wSrc, wE_loc, wE_lit, wE_con, wE_bin, wE_neg, wE_cmp, wE_cmp2, wE_isN, wE_notN, wE_isB, wE_not, wE_and, wE_or, wE_ite, wE_tup, wE_lst, wE_dic, wE_call, wE_make, wE_meth, wE_fld, wE_sub, wE_slice, wE_bi, wE_vi, wE_bm, wE_isi, wE_lc, wE_lck, eg, es, Option.some.injEq, exists_eq_left', Lit.val]
  refine call_use (followed_ok (k := k + 1) hd2 J.di J.fw W.2.1) ?_
  rintro c S2 ⟨rfl, fc⟩
  have ka := fa.isK J.di W.1
  have kc := fc.isK J.di W.2.1
  have ea := fa.fl J.di J.sol
  have ec := fc.fl J.di J.sol
  have eac : fl θ a = fl θ c := by rw [ea, ec, W.2.2.1]
  have va := fa.vr (fun x t q => (J.kv x t q).2) W.2.2.2.1
  have vc := fc.vr (fun x t q => (J.kv x t q).2) W.2.2.2.2
  have go : ∀ (m' : List (Key × Val)) (ws' : List (Val × Val)) (fs' : List (String × Val)) (x4 x5 : Option Val) (S3 : Hm), nods (ws'.map fun w => fl θ w.1) < nods ((us ++ [w]).map fun w => fl θ w.1) → Jn θ V e ps m' ws' fs' → S3[b]? = some (.dic m') → S3[S.length]? = some (.lst (ws'.map PrV)) → S3[S.length + 1]? = some (.lck (.ins "{}" fs')) → S.length ≤ S3.length → (∀ n, n < S.length → n ≠ b → S3[n]? = S[n]?) →
      ∃ n, n < nods ((us ++ [w]).map fun w => fl θ w.1) ∧ ∃ m ws fs y4 y5, [some (Val.ref q), some (.ref b), some (.ref S.length), some (.ref (S.length + 1)), x4, x5] = [some (.ref q), some (.ref b), some (.ref S.length), some (.ref (S.length + 1)), y4, y5] ∧ nods (ws.map fun w => fl θ w.1) = n ∧ Jn θ V e ps m ws fs ∧ S3[b]? = some (.dic m) ∧ S3[S.length]? = some (.lst (ws.map PrV)) ∧ S3[S.length + 1]? = some (.lck (.ins "{}" fs)) ∧ S.length ≤ S3.length ∧ ∀ n, n < S.length → n ≠ b → S3[n]? = S[n]? :=
    fun m' ws' fs' x4 x5 S3 h1 h2 h3 h4 h5 h6 h7 => ⟨_, h1, m', ws', fs', x4, x5, rfl, rfl, h2, h3, h4, h5, h6, h7⟩
  simp only [s11_f_join_all, wSs, wS, wT, wEs, wO, wPs, wC, wSrc, wE_loc, wE_lit, wE_con, wE_bin, wE_neg, wE_cmp, wE_cmp2, wE_isN, wE_notN, wE_isB, wE_not, wE_and, wE_or, wE_ite, wE_tup, wE_lst, wE_dic, wE_call, wE_make, wE_meth, wE_fld, wE_sub, wE_slice, wE_bi, wE_vi, wE_bm, wE_isi, wE_lc, wE_lck, eg, es, Option.some.injEq, exists_eq_left', Lit.val, cmpW]
  refine eq_isK ka kc (by omega) (by omega) ⟨_, rfl, ?_⟩
  by_cases hac : a = c
  · rw [if_pos (decide_eq_true hac)]
    simp only [if_true]
    simp only [s1_f_join_all, wSs, wS, wT, wEs, wO, wPs, wC, wSrc, wE_loc, wE_lit, wE_con, wE_bin, wE_neg, wE_cmp, wE_cmp2, wE_isN, wE_notN, wE_isB, wE_not, wE_and, wE_or, wE_ite, wE_tup, wE_lst, wE_dic, wE_call, wE_make, wE_meth, wE_fld, wE_sub, wE_slice, wE_bi, wE_vi, wE_bm, wE_isi, wE_lc, wE_lck, eg, es, Option.some.injEq, exists_eq_left', Lit.val]
    exact go m us fs _ _ S2 (by omega) (J.skip fun f hf => by rw [← fa.fl J.di hf, ← fc.fl J.di hf, hac]) g0' g1' g2' gl' gk'
  rw [if_neg (by simpa using hac)]
  have hww := pair_ne hac fa fc
  have kk : kOk 8 (.tup [a, c]) = true := by
    rw [kOk, List.all_eq_true]
    intro x hx
    simp only [List.mem_cons, List.not_mem_nil, or_false] at hx
    rcases hx with rfl | rfl
    · exact kOk_isK ka he
    · exact kOk_isK kc he
  simp only [viW]
  refine ⟨by rw [sizeLine_eq]; simp, fs, g2', kk, fun r hr => ⟨_, rfl, ?_⟩⟩
  cases r with
  | true =>
    rw [if_pos rfl]
    obtain ⟨p, hp, ep⟩ := hr.mp rfl
    simp only [s1_f_join_all, wSs, wS, wT, wEs, wO, wPs, wC, wSrc, wE_loc, wE_lit, wE_con, wE_bin, wE_neg, wE_cmp, wE_cmp2, wE_isN, wE_notN, wE_isB, wE_not, wE_and, wE_or, wE_ite, wE_tup, wE_lst, wE_dic, wE_call, wE_make, wE_meth, wE_fld, wE_sub, wE_slice, wE_bi, wE_vi, wE_bm, wE_isi, wE_lc, wE_lck, eg, es, Option.some.injEq, exists_eq_left', Lit.val]
    exact go m us fs _ _ S2 (by omega) (J.met1 fa fc hp ep) g0' g1' g2' gl' gk'
  | false =>
  rw [if_neg (by decide)]
  simp only [s10_f_join_all, wSs, wS, wT, wEs, wO, wPs, wC, wSrc, wE_loc, wE_lit, wE_con, wE_bin, wE_neg, wE_cmp, wE_cmp2, wE_isN, wE_notN, wE_isB, wE_not, wE_and, wE_or, wE_ite, wE_tup, wE_lst, wE_dic, wE_call, wE_make, wE_meth, wE_fld, wE_sub, wE_slice, wE_bi, wE_vi, wE_bm, wE_isi, wE_lc, wE_lck, eg, es, Option.some.injEq, exists_eq_left', Lit.val, viW]
  have jl := J.len
  refine ⟨by rw [sizeLine_eq]; simp, fs, g2', kk, by rw [sizeLine_eq]; omega, (fun z => by cases hr.mpr z), fun _ => ?_⟩
  have g0 : (S2.set (S.length + 1) (.lck (.ins "{}" (fs ++ [("", .tup [a, c])]))))[b]? = some (.dic m) := by rw [get_ne (by omega)]; exact g0'
  have g1 : (S2.set (S.length + 1) (.lck (.ins "{}" (fs ++ [("", .tup [a, c])]))))[S.length]? = some (.lst (us.map PrV)) := by rw [get_ne (by omega)]; exact g1'
  have g2 : (S2.set (S.length + 1) (.lck (.ins "{}" (fs ++ [("", .tup [a, c])]))))[S.length + 1]? = some (.lck (.ins "{}" (fs ++ [("", .tup [a, c])]))) := by rw [get_set, g2']; rfl
  have gl : S.length ≤ (S2.set (S.length + 1) (.lck (.ins "{}" (fs ++ [("", .tup [a, c])])))).length := by simpa using gl'
  have gk : ∀ n, n < S.length → n ≠ b → (S2.set (S.length + 1) (.lck (.ins "{}" (fs ++ [("", .tup [a, c])]))))[n]? = S[n]? := fun n h1 h2 => by rw [get_ne (by omega)]; exact gk' n h1 h2
  have hS3 : S.length + 1 < (S2.set (S.length + 1) (.lck (.ins "{}" (fs ++ [("", .tup [a, c])])))).length := by simpa using hS2
  generalize S2.set (S.length + 1) (.lck (.ins "{}" (fs ++ [("", .tup [a, c])]))) = S3 at g0 g1 g2 gl gk hS3
  have hd3 : Hm.dic S3 b = some m := by unfold Hm.dic; rw [g0]
  /- behind the turning about: x is the one, t the other -/
  have hsz1 : nod (fl θ a) ≤ 10 ^ 5 := by rw [ea]; rw [hn] at jl; omega
  have hsz2 : nod (fl θ c) ≤ 10 ^ 5 := by rw [← eac]; exact hsz1
  have rest : ∀ (D0 : Sp) (x t : Val), ((x = a ∧ t = c ∧ ∀ s, c = .str s → NQ s) ∨ (x = c ∧ t = a ∧ ∃ s, c = .str s ∧ VQ s)) → wSs P.con P.sub (callW P (k + 3)) s9_f_join_all (fun c x => noX c) (lp (fun ev S_1 => ∃ m, m < nods ((us ++ [w]).map fun w => fl θ w.1) ∧ ∃ m_1 ws fs x4 x5, ev = [some (Val.ref q), some (.ref b), some (.ref S.length), some (.ref (S.length + 1)), x4, x5] ∧ nods (ws.map fun w => fl θ w.1) = m ∧ Jn θ V e ps m_1 ws fs ∧ S_1[b]? = some (.dic m_1) ∧ S_1[S.length]? = some (.lst (ws.map PrV)) ∧ S_1[S.length + 1]? = some (.lck (.ins "{}" fs)) ∧ S.length ≤ S_1.length ∧ ∀ n, n < S.length → n ≠ b → S_1[n]? = S[n]?) D0) [some (.ref q), some (.ref b), some (.ref S.length), some (.ref (S.length + 1)), some x, some t] S3 := by
    intro D0 x t hxt
    have bind : ∀ s, x = .str s → VQ s → wSs P.con P.sub (callW P (k + 3)) s5_f_join_all (fun c x => noX c) (lp (fun ev S_1 => ∃ m, m < nods ((us ++ [w]).map fun w => fl θ w.1) ∧ ∃ m_1 ws fs x4 x5, ev = [some (Val.ref q), some (.ref b), some (.ref S.length), some (.ref (S.length + 1)), x4, x5] ∧ nods (ws.map fun w => fl θ w.1) = m ∧ Jn θ V e ps m_1 ws fs ∧ S_1[b]? = some (.dic m_1) ∧ S_1[S.length]? = some (.lst (ws.map PrV)) ∧ S_1[S.length + 1]? = some (.lck (.ins "{}" fs)) ∧ S.length ≤ S_1.length ∧ ∀ n, n < S.length → n ≠ b → S_1[n]? = S[n]?) D0) [some (.ref q), some (.ref b), some (.ref S.length), some (.ref (S.length + 1)), some x, some t] S3 := by
      rintro s rfl hs
      have both : lookK m (.inr s) = none ∧ Fo m t t ∧ IsK e t ∧ t ≠ .str s ∧ θ s = fl θ t ∧ V s ∧ (∀ y ∈ vr t, V y) ∧ nod (fl θ t) ≤ 10 ^ 5 ∧ ∀ f, f s = fl f t → fl f a = fl f c := by
        have vs : vr (.str s) = [s] := vr_var hs
        rcases hxt with ⟨e1, rfl, _⟩ | ⟨e1, rfl, _⟩
        · refine ⟨fa.fin s e1.symm, fc.self, kc, fun z => hac (by rw [← e1, z]), ?_, va s (by rw [← e1, vs]; simp), vc, hsz2, fun f hf => by rw [← e1, fl_var hs, hf]⟩
          rw [← fl_var (f := θ) hs, e1, eac]
        · refine ⟨fc.fin s e1.symm, fa.self, ka, fun z => hac (by rw [← e1, z]), ?_, vc s (by rw [← e1, vs]; simp), va, hsz1, fun f hf => by rw [← e1, fl_var hs, hf]⟩
          rw [← fl_var (f := θ) hs, e1, eac]
      obtain ⟨b1, b2, b3, b4, b5, b6, b7, b8, b9⟩ := both
      simp only [s5_f_join_all, wSs, wS, wT, wEs, wO, wPs, wC, wSrc, wE_loc, wE_lit, wE_con, wE_bin, wE_neg, wE_cmp, wE_cmp2, wE_isN, wE_notN, wE_isB, wE_not, wE_and, wE_or, wE_ite, wE_tup, wE_lst, wE_dic, wE_call, wE_make, wE_meth, wE_fld, wE_sub, wE_slice, wE_bi, wE_vi, wE_bm, wE_isi, wE_lc, wE_lck, eg, es, Option.some.injEq, exists_eq_left', Lit.val]
      refine call_use (stands_ok (k := k) hd3 J.di J.fw he hs b3 b4 b2 J.sol b5 b8) ?_
      rintro _ S4 ⟨rfl, kp⟩
      refine ⟨false, rfl, ?_⟩
      rw [if_neg (by decide)]
      simp only [s4_f_join_all, wSs, wS, wT, wEs, wO, wPs, wC, wSrc, wE_loc, wE_lit, wE_con, wE_bin, wE_neg, wE_cmp, wE_cmp2, wE_isN, wE_notN, wE_isB, wE_not, wE_and, wE_or, wE_ite, wE_tup, wE_lst, wE_dic, wE_call, wE_make, wE_meth, wE_fld, wE_sub, wE_slice, wE_bi, wE_vi, wE_bm, wE_isi, wE_lc, wE_lck, eg, es, Option.some.injEq, exists_eq_left', Lit.val, setW, lp]
      have h0 := kp.get g0
      have h1 := kp.get g1
      have h2 := kp.get g2
      have kl := kp.1
      refine .inr ⟨m, .inr s, h0, rfl, by rw [sizeLine_eq]; omega, ?_⟩
      rw [put_none b1]
      refine go (m ++ [(.inr s, t)]) us (fs ++ [("", .tup [a, c])]) _ _ _ (by omega) (J.bind hs b1 b3 b2.fin b4 ⟨b6, b7⟩ b5 (fun f hf z => ?_) a c eac (fun f hf z => b9 f z) hww) ?_ ?_ ?_ (by simp; omega) fun n h1 h2 => ?_
      · rw [← fa.fl J.di hf, ← fc.fl J.di hf]; exact b9 f z
      · rw [get_set, h0]; rfl
      · rw [get_ne (by omega)]; exact h1
      · rw [get_ne (by omega)]; exact h2
      · rw [get_ne (by omega), kp.2 n (by omega)]; exact gk n h1 h2
    simp only [s9_f_join_all, wSs, wS, wT, wEs, wO, wPs, wC, wSrc, wE_loc, wE_lit, wE_con, wE_bin, wE_neg, wE_cmp, wE_cmp2, wE_isN, wE_notN, wE_isB, wE_not, wE_and, wE_or, wE_ite, wE_tup, wE_lst, wE_dic, wE_call, wE_make, wE_meth, wE_fld, wE_sub, wE_slice, wE_bi, wE_vi, wE_bm, wE_isi, wE_lc, wE_lck, eg, es, Option.some.injEq, exists_eq_left', Lit.val]
    have kx : IsK e x := by rcases hxt with ⟨rfl, _⟩ | ⟨rfl, _⟩ <;> assumption
    refine call_use (isVar_in (k := k + 2) kx) ?_
    rintro _ S3 ⟨rfl, ⟨rfl, s, e1, hs⟩ | ⟨rfl, hs⟩⟩
    · refine ⟨true, rfl, ?_⟩
      rw [if_pos rfl]
      exact bind s e1 hs
    refine ⟨false, rfl, ?_⟩
    rw [if_neg (by decide)]
    rcases hxt with ⟨rfl, rfl, hc⟩ | ⟨rfl, rfl, s, e1, hs2⟩
    rotate_left
    · exact absurd hs2 fun z => nq_vq (hs s e1).1 z
    simp only [s8_f_join_all, wSs, wS, wT, wEs, wO, wPs, wC, wSrc, wE_loc, wE_lit, wE_con, wE_bin, wE_neg, wE_cmp, wE_cmp2, wE_isN, wE_notN, wE_isB, wE_not, wE_and, wE_or, wE_ite, wE_tup, wE_lst, wE_dic, wE_call, wE_make, wE_meth, wE_fld, wE_sub, wE_slice, wE_bi, wE_vi, wE_bm, wE_isi, wE_lc, wE_lck, eg, es, Option.some.injEq, exists_eq_left', Lit.val]
    refine call_use (heads_ok (k := k + 2) ka kc (by omega) (by omega)) ?_
    rintro _ S3 ⟨rfl, rfl⟩
    rcases isK_cases ka with ⟨s, rfl, _⟩ | ⟨e1, h, xs, he1, rfl, _, _, hxs, hxl⟩
    · exfalso
      have h1 := hs s rfl
      rw [fl_nam h1.1 h1.2] at eac
      rcases isK_cases kc with ⟨s', rfl, z | z⟩ | ⟨e2, h', ys, _, rfl, _⟩
      · exact nq_vq (hc s' rfl) z
      · rw [fl_nam z.1 z.2] at eac
        exact hac eac
      · rw [fl_tup] at eac; cases eac
    rcases isK_cases kc with ⟨s', rfl, z | z⟩ | ⟨e2, h', ys, he2, rfl, _, _, hys, hyl⟩
    · exact absurd z fun z => nq_vq (hc s' rfl) z
    · rw [fl_tup, fl_nam z.1 z.2] at eac; cases eac
    have eac' := eac
    rw [fl_tup, fl_tup] at eac'
    injection eac' with eac'
    simp only [List.cons.injEq, Val.str.injEq] at eac'
    obtain ⟨rfl, eac'⟩ := eac'
    have hl : xs.length = ys.length := by simpa using congrArg List.length eac'
    have hq : hdq (.tup (.str h :: xs)) (.tup (.str h :: ys)) = true := by simp [hdq, hl]
    rw [hq]
    refine ⟨true, rfl, ?_⟩
    rw [if_pos rfl]
    simp only [s6_f_join_all, wSs, wS, wT, wEs, wO, wPs, wC, wSrc, wE_loc, wE_lit, wE_con, wE_bin, wE_neg, wE_cmp, wE_cmp2, wE_isN, wE_notN, wE_isB, wE_not, wE_and, wE_or, wE_ite, wE_tup, wE_lst, wE_dic, wE_call, wE_make, wE_meth, wE_fld, wE_sub, wE_slice, wE_bi, wE_vi, wE_bm, wE_isi, wE_lc, wE_lck, eg, es, Option.some.injEq, exists_eq_left', Lit.val, bmT]
    refine ⟨⟨_, _, rfl, lst_at g1⟩, ?_⟩
    refine call_use (within_tup (k := k + 2)) ?_
    rintro _ S3 ⟨rfl, rfl⟩
    refine call_use (within_tup (k := k + 2)) ?_
    rintro _ S3 ⟨rfl, rfl⟩
    simp only [viW, ltOf, bmW, lp]
    have usl := nods_len (us.map fun w => fl θ w.1)
    rw [List.length_map] at usl
    rw [hn] at jl
    have zl : (xs.zip ys).length ≤ 3 := by rw [List.length_zip]; omega
    refine ⟨_, _, get_app g1, get_new, by rw [pairL_zip, List.length_map, List.length_map, sizeLine_eq]; omega, ?_⟩
    rw [pairL_zip, ← List.map_append]
    have J2 := J.split fa fc hl hww
    refine go m (us ++ xs.zip ys) _ _ _ _ ?_ J2 ?_ ?_ ?_ (by simp; omega) fun n h1 h2 => ?_
    · have z : ((xs.zip ys).map fun w => fl θ w.1) = xs.map (fl θ) := by
        conv => rhs; rw [← zip_fst hl]
        rw [List.map_map]; rfl
      rw [List.map_append, nods_app, z, hn, ← ea, nod_tup]
      omega
    · rw [get_ne (by omega)]; exact get_app g0
    · rw [get_set, get_app g1]; rfl
    · rw [get_ne (by omega)]; exact get_app g2
    · rw [get_ne (by omega), List.getElem?_append_left (by omega)]; exact gk n h1 h2
  refine call_use (isVar_in (k := k + 2) kc) ?_
  rintro _ S3 ⟨rfl, ⟨rfl, s, e1, hs⟩ | ⟨rfl, hs⟩⟩
  · refine ⟨true, rfl, ?_⟩
    rw [if_pos rfl]
    simp only [s2_f_join_all, wSs, wS, wT, wEs, wO, wPs, wC, wSrc, wE_loc, wE_lit, wE_con, wE_bin, wE_neg, wE_cmp, wE_cmp2, wE_isN, wE_notN, wE_isB, wE_not, wE_and, wE_or, wE_ite, wE_tup, wE_lst, wE_dic, wE_call, wE_make, wE_meth, wE_fld, wE_sub, wE_slice, wE_bi, wE_vi, wE_bm, wE_isi, wE_lc, wE_lck, eg, es, Option.some.injEq, exists_eq_left', Lit.val]
    exact ⟨rfl, rest _ _ _ (.inr ⟨rfl, rfl, s, e1, hs⟩)⟩
  · refine ⟨false, rfl, ?_⟩
    rw [if_neg (by decide)]
    exact rest _ _ _ (.inl ⟨rfl, rfl, fun s es => (hs s es).1⟩)
end
end K23

set_option maxHeartbeats 2000000
namespace K23
open Mi PySem
/-! ### kinds with all put in -/
inductive Wh (m : List (Key × Val)) : Val → Val → Prop where
  | leaf {s : String} : lookK m (.inr s) = none → Wh m (.str s) (.str s)
  | step {s : String} {t r : Val} : lookK m (.inr s) = some t → Wh m t r → Wh m (.str s) r
  | tup {h : String} {vs rs : List Val} : vs.length = rs.length → (∀ p ∈ vs.zip rs, Wh m p.1 p.2) → Wh m (.tup (.str h :: vs)) (.tup (.str h :: rs))
theorem zip_all {vs rs us : List Val} {R : Val → Val → Prop} (hl : vs.length = rs.length) (hl2 : vs.length = us.length) (h : ∀ p ∈ vs.zip rs, R p.1 p.2) (g : ∀ p ∈ vs.zip us, ∀ r, R p.1 r → r = p.2) : rs = us := by
  induction vs generalizing rs us with
  | nil =>
    cases rs with
    | nil => cases us with
      | nil => rfl
      | cons _ _ => cases hl2
    | cons _ _ => cases hl
  | cons v vs ih =>
    cases rs with
    | nil => cases hl
    | cons r rs =>
      cases us with
      | nil => cases hl2
      | cons u us =>
        have h1 := g (v, u) (by simp) r (h (v, r) (by simp))
        have h2 := ih (rs := rs) (us := us) (by simpa using hl) (by simpa using hl2) (fun p hp => h p (by simp [hp])) fun p hp => g p (by simp [hp])
        rw [h1, h2]
section
variable {m : List (Key × Val)} {e : Nat} {θ : String → Val} {V : String → Prop}
theorem Fo.wh {v u r : Val} (h : Fo m v u) (w : Wh m u r) : Wh m v r := by
  induction h with
  | here _ => exact w
  | step h _ ih => exact .step h (ih w)
theorem zip_lr {vs rs : List Val} (hl : vs.length = rs.length) : (∀ v ∈ vs, ∃ r, (v, r) ∈ vs.zip rs) ∧ ∀ r ∈ rs, ∃ v, (v, r) ∈ vs.zip rs := by
  induction vs generalizing rs with
  | nil =>
    cases rs with
    | nil => simp
    | cons _ _ => cases hl
  | cons v vs ih =>
    cases rs with
    | nil => cases hl
    | cons r rs =>
      obtain ⟨h1, h2⟩ := ih (rs := rs) (by simpa using hl)
      refine ⟨fun x hx => ?_, fun x hx => ?_⟩
      · rcases List.mem_cons.mp hx with rfl | hx
        · exact ⟨r, by simp⟩
        · obtain ⟨y, hy⟩ := h1 x hx
          exact ⟨y, by simp [hy]⟩
      · rcases List.mem_cons.mp hx with rfl | hx
        · exact ⟨v, by simp⟩
        · obtain ⟨y, hy⟩ := h2 x hx
          exact ⟨y, by simp [hy]⟩
theorem Wh.det {v r : Val} (h : Wh m v r) : ∀ {r' : Val}, Wh m v r' → r = r' := by
  induction h with
  | leaf g =>
    intro r' h'
    cases h' with
    | leaf _ => rfl
    | step q _ => rw [g] at q; cases q
  | step q _ ih =>
    intro r' h'
    cases h' with
    | leaf g => rw [g] at q; cases q
    | step q' w => rw [q] at q'; cases q'; exact ih w
  | @tup h vs rs hl _ ih =>
    intro r' h'
    cases h' with
    | @tup _ _ us hl2 w =>
      have : us = rs := zip_all (R := Wh m) hl2 hl w fun p hp r hr => (ih p hp hr).symm
      rw [this]
theorem Wh.vars (hm : ∀ x t, lookK m (.inr x) = some t → ∀ y ∈ vr t, V y) {v r : Val} (h : Wh m v r) : (∀ y ∈ vr v, V y) → ∀ y ∈ vr r, V y ∧ lookK m (.inr y) = none := by
  induction h with
  | @leaf s g =>
    intro hv y hy
    refine ⟨hv y hy, ?_⟩
    have : y = s := by
      unfold vr at hy
      split at hy
      · simpa using hy
      · simp at hy
    rw [this]; exact g
  | step q _ ih => exact fun _ => ih (hm _ _ q)
  | @tup h vs rs hl _ ih =>
    intro hv y hy
    rw [vr_tup] at hy
    obtain ⟨r, hr, hy⟩ := vrs_mem.mp hy
    obtain ⟨v, hp⟩ := (zip_lr hl).2 r hr
    exact ih (v, r) hp (fun z hz => hv z (vr_part (List.of_mem_zip hp).1 hz)) y hy
theorem Wh.theta (D : DI e m) (hs : Sol θ m) {v r : Val} (h : Wh m v r) : fl θ r = fl θ v := by
  induction h with
  | leaf _ => rfl
  | step q _ ih => rw [ih, fl_var (D.vq q).1, hs _ _ q]
  | @tup h vs rs hl _ ih =>
    rw [fl_tup, fl_tup]
    have : rs.map (fl θ) = vs.map (fl θ) := by
      refine (zip_map (g := fl θ) hl.symm).mpr fun p hp => ?_
      have hp' : (p.2, p.1) ∈ vs.zip rs := by
        obtain ⟨i, hi⟩ := List.getElem?_of_mem hp
        rw [List.getElem?_zip_eq_some] at hi
        exact List.mem_of_getElem? (i := i) (by rw [List.getElem?_zip_eq_some]; exact ⟨hi.2, hi.1⟩)
      exact ih _ hp'
    rw [this]
theorem Wh.isK (D : DI e m) {v r : Val} (h : Wh m v r) : ∀ n, IsK n v → ∃ n', IsK n' r := by
  induction h with
  | leaf _ => exact fun n h => ⟨n, h⟩
  | step q _ ih => exact fun _ _ => ih e (D.vq q).2
  | @tup h vs rs hl _ ih =>
    intro n hn
    rcases isK_cases hn with ⟨s, z, _⟩ | ⟨n', h', vs', rfl, z, h1, h2, h3, h4⟩
    · cases z
    injection z with z
    injection z with z1 z2
    injection z1 with z1
    subst z1 z2
    have : ∃ N, ∀ r ∈ rs, IsK N r := by
      have key : ∀ us : List Val, (∀ r ∈ us, r ∈ rs) → ∃ N, ∀ r ∈ us, IsK N r := by
        intro us
        induction us with
        | nil => exact fun _ => ⟨0, by simp⟩
        | cons u us ih2 =>
          intro hu
          obtain ⟨N, hN⟩ := ih2 fun r hr => hu r (List.mem_cons_of_mem _ hr)
          obtain ⟨v, hp⟩ := (zip_lr hl).2 u (hu u List.mem_cons_self)
          obtain ⟨N2, hN2⟩ := ih (v, u) hp n' (h3 v (List.of_mem_zip hp).1)
          refine ⟨max N N2, fun r hr => ?_⟩
          rcases List.mem_cons.mp hr with rfl | hr
          · exact hN2.le (by omega)
          · exact (hN r hr).le (by omega)
      exact key rs fun _ h => h
    obtain ⟨N, hN⟩ := this
    exact ⟨N + 1, .tup h1 h2 hN (by omega)⟩
/-- a kind is no deeper than with kinds put in -/
theorem isK_less {f : String → Val} : ∀ (n : Nat) {v : Val}, IsK n v → ∀ (d : Nat), IsK d (fl f v) → IsK d v := by
  intro n
  induction n using Nat.strongRecOn with
  | _ n ih =>
  intro v hv d hd
  rcases isK_cases hv with ⟨s, rfl, q | ⟨q, l⟩⟩ | ⟨e, h, vs, rfl, rfl, h1, h2, h3, h4⟩
  · exact .var q
  · exact .nam q l
  · rw [fl_tup] at hd
    rcases isK_cases hd with ⟨s, z, _⟩ | ⟨e', h', us, rfl, z, _, _, g3, _⟩
    · cases z
    injection z with z
    injection z with _ z
    refine .tup h1 h2 (fun v hv => ih e (by omega) (h3 v hv) e' (g3 _ ?_)) h4
    rw [← z]
    exact List.mem_map.mpr ⟨v, hv, rfl⟩
theorem whole_ok {b : Nat} (D : DI e m) (F : Fw m) (hs : Sol θ m) : ∀ (d : Nat) (v : Val), IsK d (fl θ v) → IsK e v → ∀ (k : Nat) (S : Hm), Hm.dic S b = some m → callW P (k + d + 4) (.f "whole") [v, .ref b] S (fun r S' => Wh m v r ∧ Kp S S') noX := by
  intro d
  induction d using Nat.strongRecOn with
  | _ d ih =>
  intro v hd hv k S hb
  refine call_open (k := k + d + 3) fn_f_whole ⟨rfl, ?_⟩
  show wSs _ _ _ s4_f_whole _ _ [some v, some (.ref b), none] S
  simp only [s4_f_whole, wSs, wS, wT, wEs, wO, wPs, wC, wSrc, wE_loc, wE_lit, wE_con, wE_bin, wE_neg, wE_cmp, wE_cmp2, wE_isN, wE_notN, wE_isB, wE_not, wE_and, wE_or, wE_ite, wE_tup, wE_lst, wE_dic, wE_call, wE_make, wE_meth, wE_fld, wE_sub, wE_slice, wE_bi, wE_vi, wE_bm, wE_isi, wE_lc, wE_lck, eg, es, Option.some.injEq, exists_eq_left', Lit.val]
  refine call_use (followed_ok (k := k + d + 1) hb D F hv) ?_
  rintro u S ⟨rfl, fo⟩
  have uk := fo.isK D hv
  have ue := fo.fl D hs
  simp only [s3_f_whole, wSs, wS, wT, wEs, wO, wPs, wC, wSrc, wE_loc, wE_lit, wE_con, wE_bin, wE_neg, wE_cmp, wE_cmp2, wE_isN, wE_notN, wE_isB, wE_not, wE_and, wE_or, wE_ite, wE_tup, wE_lst, wE_dic, wE_call, wE_make, wE_meth, wE_fld, wE_sub, wE_slice, wE_bi, wE_vi, wE_bm, wE_isi, wE_lc, wE_lck, eg, es, Option.some.injEq, exists_eq_left', Lit.val]
  rcases isK_cases uk with ⟨s, rfl, _⟩ | ⟨e', h, vs, he, rfl, h1, h2, h3, h4⟩
  · refine ⟨[false], rfl, false, rfl, ?_⟩
    rw [if_neg (by decide)]
    simp only [s2_f_whole, wSs, wS, wT, wEs, wO, wPs, wC, wSrc, wE_loc, wE_lit, wE_con, wE_bin, wE_neg, wE_cmp, wE_cmp2, wE_isN, wE_notN, wE_isB, wE_not, wE_and, wE_or, wE_ite, wE_tup, wE_lst, wE_dic, wE_call, wE_make, wE_meth, wE_fld, wE_sub, wE_slice, wE_bi, wE_vi, wE_bm, wE_isi, wE_lc, wE_lck, eg, es, Option.some.injEq, exists_eq_left', Lit.val]
    exact ⟨fo.wh (.leaf (fo.fin s rfl)), Kp.refl _⟩
  refine ⟨[true], rfl, true, rfl, ?_⟩
  rw [if_pos rfl]
  rw [← ue, fl_tup] at hd
  rcases isK_cases hd with ⟨s, z, _⟩ | ⟨d', h', us, rfl, z, _, _, g3, _⟩
  · cases z
  injection z with z
  injection z with _ z
  simp only [s1_f_whole, wSs, wS, wT, wEs, wO, wPs, wC, wSrc, wE_loc, wE_lit, wE_con, wE_bin, wE_neg, wE_cmp, wE_cmp2, wE_isN, wE_notN, wE_isB, wE_not, wE_and, wE_or, wE_ite, wE_tup, wE_lst, wE_dic, wE_call, wE_make, wE_meth, wE_fld, wE_sub, wE_slice, wE_bi, wE_vi, wE_bm, wE_isi, wE_lc, wE_lck, eg, es, Option.some.injEq, exists_eq_left', Lit.val, sliceW, seqOf]
  refine ⟨1, rfl, 1, rfl, ?_⟩
  simp only [cut_hd, cut_tl]
  refine lcr_inv (callW_mono P _) (fun i acc S' => acc.length = i ∧ (∀ p ∈ (vs.take i).zip acc, Wh m p.1 p.2) ∧ Kp S S') ?_ ?_ ⟨rfl, by simp, Kp.refl _⟩
  · rintro i w acc S' hi ⟨ha, hw, kp⟩
    have hi' := lt_of_get hi
    refine ⟨trivial, ?_⟩
    simp only [tgW, List.map_cons, List.map_nil, ewipe, wSs, wS, wT, wEs, wO, wPs, wC, wSrc, wE_loc, wE_lit, wE_con, wE_bin, wE_neg, wE_cmp, wE_cmp2, wE_isN, wE_notN, wE_isB, wE_not, wE_and, wE_or, wE_ite, wE_tup, wE_lst, wE_dic, wE_call, wE_make, wE_meth, wE_fld, wE_sub, wE_slice, wE_bi, wE_vi, wE_bm, wE_isi, wE_lc, wE_lck, eg, es, Option.some.injEq, exists_eq_left', Lit.val, if_true]
    have wv := List.mem_of_getElem? hi
    have wd : IsK d' (fl θ w) := g3 _ (by rw [← z]; exact List.mem_map.mpr ⟨w, wv, rfl⟩)
    refine lift_to (k := k + d' + 4) (by omega) (call_use (ih d' (by omega) w wd ((h3 w wv).le (by omega)) k S' (kp.dic hb)) ?_)
    rintro r S2 ⟨hr, kp2⟩
    refine ⟨by rw [sizeLine_eq]; omega, by simp [ha], fun p hp => ?_, kp.trans kp2⟩
    rw [List.take_add_one, hi] at hp
    simp only [Option.toList_some] at hp
    rw [List.zip_append (by rw [List.length_take]; omega)] at hp
    rcases List.mem_append.mp hp with hp | hp
    · exact hw p hp
    · have : p = (w, r) := by simpa using hp
      rw [this]; exact hr
  · rintro acc S' ⟨ha, hw, kp⟩
    rw [List.take_length] at hw
    refine ⟨trivial, ?_⟩
    simp only [biW]
    refine ⟨_, lst_at get_new, ?_⟩
    simp only [binW]
    exact ⟨by rw [sizeLine_eq]; simp; omega, fo.wh (.tup ha.symm hw), kp.trans (Kp.app _)⟩
end
end K23

set_option maxHeartbeats 2000000
namespace K23
open Mi PySem
/-! ### joined -/
/-- what joined tells: kinds that make pairs the same, of which the joiner comes -/
structure Gd (θ : String → Val) (V : String → Prop) (d : Nat) (ps : List (Val × Val)) (D : List (Key × Val)) : Prop where
  di : DI d D
  eqs : ∀ p ∈ ps, fl (fm D) p.1 = fl (fm D) p.2
  kv : ∀ x t, lookK D (.inr x) = some t → V x ∧ ∀ y ∈ vr t, V y ∧ lookK D (.inr y) = none
  sol : Sol θ D
  same : (∀ p ∈ ps, p.1 = p.2) → D = []
  len : D.length ≤ 10 ^ 5
theorem fold_put {D : List (Key × Val)} : ∀ {acc : List (Key × Val)} {xs : List String}, (acc ++ D).map (·.1) = xs.map .inr → xs.Nodup → D.foldl (fun d p => putK d p.1 p.2) acc = acc ++ D := by
  induction D with
  | nil => intro acc xs _ _; simp
  | cons p D ih =>
    intro acc xs h hn
    rw [List.foldl_cons]
    have hp : putK acc p.1 p.2 = acc ++ [p] := by
      unfold putK
      rw [if_neg]
      intro z
      rw [List.any_eq_true] at z
      obtain ⟨q, hq, eq⟩ := z
      have eq := of_decide_eq_true eq
      have nd : ((acc ++ p :: D).map (·.1)).Nodup := by
        rw [h]
        rw [List.Nodup, List.pairwise_map]
        exact hn.imp fun hab z => hab (by injection z)
      rw [List.map_append, List.nodup_append] at nd
      exact nd.2.2 q.1 (List.mem_map.mpr ⟨q, hq, rfl⟩) p.1 (by simp) eq
    rw [hp, ih (acc := acc ++ [p]) (xs := xs) (by simpa using h) hn]
    simp
section
variable {θ : String → Val} {V : String → Prop} {e d : Nat} {ps : List (Val × Val)} {m D : List (Key × Val)} {fs : List (String × Val)}
theorem look_keys {x : String} {xs : List String} (h1 : m.map (·.1) = xs.map .inr) (h2 : D.map (·.1) = xs.map .inr) : lookK m (.inr x) = none ↔ lookK D (.inr x) = none := by
  have a := look_in (m := m) (x := x) h1
  have b := look_in (m := D) (x := x) h2
  unfold hs at a b
  rw [← b] at a
  constructor
  · intro z
    cases q : lookK D (.inr x) with
    | none => rfl
    | some t => rw [z, q] at a; simp at a
  · intro z
    cases q : lookK m (.inr x) with
    | none => rfl
    | some t => rw [z, q] at a; simp at a
theorem Wh.fm (D0 : DI e m) (hk : ∀ x, lookK m (.inr x) = none ↔ lookK D (.inr x) = none) (hw : ∀ x t, lookK D (.inr x) = some t → Wh m (.str x) t) {v r : Val} (h : Wh m v r) : r = fl (K23.fm D) v := by
  induction h with
  | @leaf s g =>
    have : lookK D (.inr s) = none := (hk s).mp g
    rw [fl]
    split
    · unfold K23.fm; rw [this]; rfl
    · rfl
  | @step s t r q w ih =>
    rw [fl_var (D0.vq q).1]
    unfold K23.fm
    cases z : lookK D (.inr s) with
    | none => rw [(hk s).mpr z] at q; cases q
    | some t' => exact (Wh.step q w).det (hw s t' z)
  | @tup h vs rs hl _ ih =>
    rw [fl_tup]
    have : rs = vs.map (fl (K23.fm D)) := by
      refine zip_all (vs := vs) (R := fun v r => r = fl (K23.fm D) v) hl (by simp) ih fun p hp r hr => ?_
      rw [hr]
      obtain ⟨i, hi⟩ := List.getElem?_of_mem hp
      rw [List.getElem?_zip_eq_some, List.getElem?_map] at hi
      rw [hi.1] at hi
      simpa using hi.2
    rw [this]
theorem good_of (J : Jn θ V e ps m [] fs) {xs : List String} (h1 : m.map (·.1) = xs.map .inr) (hn : xs.Nodup) (hx : ∀ x ∈ xs, VQ x) (h2 : D.map (·.1) = xs.map .inr) (hw : ∀ p ∈ D, ∃ x, p.1 = .inr x ∧ Wh m (.str x) p.2) (hd : ∀ x, V x → IsK d (θ x)) : Gd θ V d ps D := by
  have hk : ∀ x, lookK m (.inr x) = none ↔ lookK D (.inr x) = none := fun x => look_keys h1 h2
  have hw2 : ∀ x t, lookK D (.inr x) = some t → Wh m (.str x) t := fun x t h => by
    obtain ⟨y, e1, w⟩ := hw _ (look_mem' h)
    injection e1 with e1
    subst e1
    exact w
  have inm : ∀ x t, lookK D (.inr x) = some t → ∃ u, lookK m (.inr x) = some u ∧ Wh m u t := fun x t h => by
    cases hw2 x t h with
    | leaf g => rw [(hk x).mp g] at h; cases h
    | step q w => exact ⟨_, q, w⟩
  have sol : Sol θ D := fun x t h => by
    obtain ⟨u, q, w⟩ := inm x t h
    rw [w.theta J.di J.sol]
    exact J.sol x u q
  refine ⟨⟨⟨xs, h2, hn, hx⟩, fun kv hkv => ?_⟩, fun p hp => ?_, fun x t h => ?_, sol, fun z => ?_, ?_⟩
  · obtain ⟨x, ex, w⟩ := hw kv hkv
    have hxm : ∃ u, lookK m (.inr x) = some u := by
      cases q : lookK m (.inr x) with
      | some u => exact ⟨u, rfl⟩
      | none =>
        exfalso
        have : lookK D (.inr x) = none := (hk x).mp q
        exact look_none this kv hkv ex
    obtain ⟨u, q⟩ := hxm
    obtain ⟨n, hn⟩ := w.isK J.di e (.var (J.di.vq q).1)
    refine isK_less (f := θ) n hn d ?_
    rw [w.theta J.di J.sol, fl_var (J.di.vq q).1]
    exact hd x (J.kv x u q).1
  · refine J.all (fm D) (fun x u q => ?_) (by simp) p hp
    cases z : lookK D (.inr x) with
    | none => rw [(hk x).mpr z] at q; cases q
    | some t =>
      obtain ⟨u', q', w⟩ := inm x t z
      rw [q] at q'
      cases q'
      have e1 : K23.fm D x = t := by unfold K23.fm; rw [z]; rfl
      rw [e1]
      exact w.fm J.di hk hw2
  · obtain ⟨u, q, w⟩ := inm x t h
    refine ⟨(J.kv x u q).1, fun y hy => ?_⟩
    obtain ⟨a, b⟩ := w.vars (fun x t q => (J.kv x t q).2) (J.kv x u q).2 y hy
    exact ⟨a, (hk y).mp b⟩
  · have : m = [] := (J.same z).1
    subst this
    have : xs = [] := by cases xs with
      | nil => rfl
      | cons _ _ => cases h1
    subst this
    cases D with
    | nil => rfl
    | cons _ _ => cases h2
  · have l1 := congrArg List.length h1
    have l2 := congrArg List.length h2
    have := J.len
    simp only [List.length_map] at l1 l2
    omega
theorem sub_len : ∀ {xs ls : List String}, xs.Nodup → (∀ x ∈ xs, x ∈ ls) → xs.length ≤ ls.length
  | [], ls, _, _ => Nat.zero_le _
  | x :: xs, ls, hn, h => by
    rw [List.nodup_cons] at hn
    have hx := h x List.mem_cons_self
    have := sub_len (ls := ls.erase x) hn.2 fun y hy => (List.mem_erase_of_ne fun z => hn.1 (by rw [← z]; exact hy)).mpr (h y (List.mem_cons_of_mem _ hy))
    rw [List.length_erase_of_mem hx] at this
    have := List.length_pos_of_mem hx
    simp only [List.length_cons]
    omega
theorem joined_ok {k q : Nat} {S : Hm} (hq : S[q]? = some (.lst (ps.map PrV))) (he : e ≤ 7) (hp : ∀ p ∈ ps, Wo θ V e p) (hV : ∀ y, V y → VQ y) (hd : ∀ x, V x → IsK d (θ x)) (hde : d ≤ 7) (hsz : nods (ps.map fun w => fl θ w.1) ≤ 40000) {ls : List String} (hL : ∀ y, V y → y ∈ ls) (hll : ls.length ≤ 100) :
    callW P (k + 20) (.f "joined") [.ref q] S (fun r S' => ∃ n D, r = .ref n ∧ S.length ≤ n ∧ S'[n]? = some (.dic D) ∧ Gd θ V d ps D ∧ Kp S S') noX := by
  refine call_open (k := k + 19) fn_f_joined ⟨rfl, ?_⟩
  show wSs _ _ _ s3_f_joined _ _ [some (.ref q), none, none] S
  have hql := lt_of_get hq
  simp only [s3_f_joined, wSs, wS, wT, wEs, wO, wPs, wC, wSrc, wE_loc, wE_lit, wE_con, wE_bin, wE_neg, wE_cmp, wE_cmp2, wE_isN, wE_notN, wE_isB, wE_not, wE_and, wE_or, wE_ite, wE_tup, wE_lst, wE_dic, wE_call, wE_make, wE_meth, wE_fld, wE_sub, wE_slice, wE_bi, wE_vi, wE_bm, wE_isi, wE_lc, wE_lck, eg, es, Option.some.injEq, exists_eq_left', Lit.val, wPs]
  refine call_use (join_ok (k := k + 15) (get_app hq) get_new he hp hV hsz) ?_
  rintro _ S1 ⟨rfl, ⟨m, fs, g0, J⟩, gl, gk⟩
  have kp : Kp S S1 := ⟨by simp at gl; omega, fun n hn => by rw [gk n (by simp; omega) (by omega), List.getElem?_append_left hn]⟩
  refine ⟨true, rfl, ?_⟩
  rw [if_neg (by decide)]
  obtain ⟨xs, x1, x2, x3⟩ := J.di.keys
  have jl := J.len
  have ml : m.length = xs.length := by simpa using congrArg List.length x1
  simp only [s2_f_joined, wSs, wS, wE_vi, wEs]
  rw [wE]
  simp only [eg, Option.some.injEq, Val.ref.injEq, exists_and_left, exists_eq_left']
  refine ⟨m, g0, ?_⟩
  have hbl : S.length < S1.length := by simp at gl; omega
  have gb : (S1.set S.length (.lck (.dic m)))[S.length]? = some (.lck (.dic m)) := by rw [get_set, g0]; rfl
  have kp1 : Kp S (S1.set S.length (.lck (.dic m))) := kp.set (Nat.le_refl _)
  have hl1 : S.length < (S1.set S.length (.lck (.dic m))).length := by simpa using hbl
  generalize S1.set S.length (.lck (.dic m)) = S2 at gb kp1 hl1
  simp only [wSs, wS, wT, wEs, wO, wPs, wC, wSrc, wE_loc, wE_lit, wE_con, wE_bin, wE_neg, wE_cmp, wE_cmp2, wE_isN, wE_notN, wE_isB, wE_not, wE_and, wE_or, wE_ite, wE_tup, wE_lst, wE_dic, wE_call, wE_make, wE_meth, wE_fld, wE_sub, wE_slice, wE_bi, wE_vi, wE_bm, wE_isi, wE_lc, wE_lck, eg, es, Option.some.injEq, exists_eq_left', Lit.val]
  have kx : ∀ x ∈ xs, ∃ u, lookK m (.inr x) = some u := fun x hx => by
    have := (look_in (m := m) (x := x) x1).mpr hx
    unfold hs at this
    cases q : lookK m (.inr x) with
    | none => rw [q] at this; cases this
    | some u => exact ⟨u, rfl⟩
  have xl : xs.length ≤ 100 := Nat.le_trans (sub_len x2 fun x hx => by
    obtain ⟨u, hu⟩ := kx x hx
    exact hL x (J.kv x u hu).1) hll
  refine ⟨_, m, rfl, gb, ?_⟩
  refine lcr_inv (callW_mono P _) (fun i acc S' => ∃ D : List (Key × Val), acc = D.map (fun p => Val.tup [p.1.val, p.2]) ∧ D.map (·.1) = (xs.take i).map .inr ∧ (∀ p ∈ D, ∃ x, p.1 = .inr x ∧ Wh m (.str x) p.2) ∧ Kp S2 S') ?_ ?_ ⟨[], rfl, rfl, by simp, Kp.refl _⟩
  · rintro i v acc S' hi ⟨D, rfl, d1, d2, kp2⟩
    refine ⟨kp2.get gb, ?_⟩
    have hi' : ((m.map (·.1)).map Key.val)[i]? = some v := by rw [List.map_map]; exact hi
    rw [x1, List.map_map, List.getElem?_map] at hi'
    obtain ⟨x, hx, rfl⟩ := Option.map_eq_some_iff.mp hi'
    have hil := lt_of_get hx
    have hxm := List.mem_of_getElem? hx
    obtain ⟨u, hu⟩ := kx x hxm
    have dl : D.length = i := by
      have := congrArg List.length d1
      simpa [List.length_take, Nat.min_eq_left (Nat.le_of_lt hil)] using this
    have hdic : Hm.dic S' S.length = some m := by unfold Hm.dic; rw [kp2.get gb]
    simp only [tgW, List.map_cons, List.map_nil, ewipe, wSs, wS, wT, wEs, wO, wPs, wC, wSrc, wE_loc, wE_lit, wE_con, wE_bin, wE_neg, wE_cmp, wE_cmp2, wE_isN, wE_notN, wE_isB, wE_not, wE_and, wE_or, wE_ite, wE_tup, wE_lst, wE_dic, wE_call, wE_make, wE_meth, wE_fld, wE_sub, wE_slice, wE_bi, wE_vi, wE_bm, wE_isi, wE_lc, wE_lck, eg, es, Option.some.injEq, exists_eq_left', Lit.val, if_true, Function.comp, Key.val]
    refine lift_to (k := k + 15 - d + d + 4) (by omega) (call_use (whole_ok J.di J.fw J.sol d (.str x) (by rw [fl_var (x3 x hxm)]; exact hd x (J.kv x u hu).1) (.var (x3 x hxm)) (k + 15 - d) S' hdic) ?_)
    rintro r S3 ⟨hr, kp3⟩
    refine ⟨by rw [sizeLine_eq]; simp, by rw [sizeLine_eq, List.length_map]; omega, D ++ [(.inr x, r)], by simp [Key.val], ?_, fun p hp => ?_, kp2.trans kp3⟩
    · rw [List.take_add_one, hx, List.map_append, List.map_append, d1]; rfl
    · rcases List.mem_append.mp hp with hp | hp
      · exact d2 p hp
      · rw [List.mem_singleton.mp hp]; exact ⟨x, rfl, hr⟩
  · rintro acc S' ⟨D, rfl, d1, d2, kp2⟩
    have e1 : (m.map fun x => x.1.val).length = xs.length := by rw [List.length_map, ml]
    rw [e1, List.take_length] at d1
    have dl : D.length = xs.length := by simpa using congrArg List.length d1
    have gb2 := kp2.get gb
    have lt2 := lt_of_get gb2
    refine ⟨gb2, get_app gb2, ?_⟩
    simp only [viW]
    have gl2 : ((S' ++ [Ob.lst (D.map fun p => Val.tup [p.1.val, p.2])]).set S.length (.dic m))[S'.length]? = some (.lst (D.map fun p => Val.tup [p.1.val, p.2])) := by rw [get_ne (by omega)]; exact get_new
    refine ⟨D, lst_at gl2, by omega, _, rfl, ?_, D, ?_, good_of J x1 x2 x3 d1 d2 hd, ?_⟩
    · simp only [List.length_set, List.length_append, List.length_singleton]; omega
    · rw [get_new, fold_put (xs := xs) (by simpa using d1) x2]; simp
    · exact ((kp1.trans (kp2.trans (Kp.app _))).set (Nat.le_refl _)).trans (Kp.app _)
end
end K23

set_option maxHeartbeats 1000000
namespace K23
open Mi PySem
/-! ### kinds drawn over some variables -/
/-- no tuple is a word alone -/
inductive NE : Val → Prop where
  | s {s : String} : NE (.str s)
  | t {h : Val} {vs : List Val} : vs ≠ [] → (∀ v ∈ vs, NE v) → NE (.tup (h :: vs))
structure KV (ls : List String) (d : Nat) (v : Val) : Prop where
  k : IsK d v
  vars : ∀ y ∈ vr v, y ∈ ls
  ne : NE v
theorem kv_nam {ls : List String} {n : Nat} {s : String} (q : NQ s) (l : 0 < s.length) : KV ls n (.str s) := ⟨.nam q l, by rw [vr_nam q l]; simp, .s⟩
theorem kv_var {ls : List String} {n : Nat} {s : String} (q : VQ s) (h : s ∈ ls) : KV ls n (.str s) := ⟨.var q, by rw [vr_var q]; simpa using h, .s⟩
theorem kv_tup {ls : List String} {n : Nat} {h : String} {vs : List Val} (q : NQ h) (l : 0 < h.length) (hv : ∀ v ∈ vs, KV ls n v) (hl : vs.length ≤ 3) (h0 : vs ≠ []) : KV ls (n + 1) (.tup (.str h :: vs)) :=
  ⟨.tup q l (fun v h => (hv v h).k) hl, fun y hy => by
    rw [vr_tup] at hy
    obtain ⟨v, h1, h2⟩ := vrs_mem.mp hy
    exact (hv v h1).vars y h2, .t h0 fun v h => (hv v h).ne⟩
theorem KV.le {ls : List String} {n m : Nat} {v : Val} (h : KV ls n v) (hm : n ≤ m) : KV ls m v := ⟨h.k.le hm, h.vars, h.ne⟩
/-- the leaf's part -/
theorem kindv_leaf {p c l h : Nat} {ls : List String} {hs : List Val} (hls : ∀ w ∈ ls, VQ w) (hll : ls.length ≤ 12) (hhs : ∀ v ∈ hs, IsHd v) (hhl : hs.length ≤ 9) (lp : l ≠ p) (hp' : h ≠ p) {d : Nat} {dd : Int} {k : Nat} {T : Int} {S S0 : Hm} (hP : Pot p c T S) (hl : S[l]? = some (.lst (ls.map .str))) (hh : S[h]? = some (.lst hs)) (hT : T ≤ 10 ^ 6) {way : Int} {nx : Mi.Env → Hm → Prop} {T' : Int} (hT' : T + 2 ≤ T') (f0 : Fr p S0 S) :
    wSs P.con P.sub (callW P (k + 2)) s4_f_law_kind (fun c x S' => noX c S') { nx := nx, rt := fun v S' => KV ls d v ∧ Pot p c T' S' ∧ Fr p S0 S' } [some (.ref p), some (.ref l), some (.ref h), some (.int dd), some (.int way), none, none, none, none] S := by
  have h3 : wSs P.con P.sub (callW P (k + 2)) s3_f_law_kind (fun c x S' => noX c S') { nx := nx, rt := fun v S' => KV ls d v ∧ Pot p c T' S' ∧ Fr p S0 S' } [some (.ref p), some (.ref l), some (.ref h), some (.int dd), some (.int way), none, none, none, none] S := by
    simp only [s3_f_law_kind, wSs, wS, wT, wEs, wO, wPs, wC, wSrc, wE_loc, wE_lit, wE_con, wE_bin, wE_neg, wE_cmp, wE_cmp2, wE_isN, wE_notN, wE_isB, wE_not, wE_and, wE_or, wE_ite, wE_tup, wE_lst, wE_dic, wE_call, wE_make, wE_meth, wE_fld, wE_sub, wE_slice, wE_bi, wE_vi, wE_bm, wE_isi, wE_lc, wE_lck, eg, es, Option.some.injEq, exists_eq_left', Lit.val]
    refine ⟨by rw [sizeLine_eq]; simp, ?_⟩
    simp only [seqOf]
    refine ⟨hs, lst_at (get_app hh), ?_⟩
    refine lcr_inv (callW_mono P _) (fun i acc S' => S' = S ++ [.lst [.str "num"]] ∧ (∀ v ∈ acc, ∃ s, v = .str s ∧ NQ s ∧ 0 < s.length) ∧ acc.length ≤ i) ?_ ?_ ⟨rfl, by simp, by simp⟩
    · rintro i v acc S' hi ⟨rfl, hacc, hal⟩
      obtain ⟨s, m, rfl, q1, l1, m1, m2⟩ := hhs v (List.mem_of_getElem? hi)
      have hil := lt_of_get hi
      refine ⟨lst_at (get_app hh), ?_⟩
      simp only [tgW, List.map_cons, List.map_nil, ewipe, es, wC, wT, wE_cmp, wE_loc, wE_lit, Val.tup.injEq, exists_eq_left', List.length_cons, List.length_nil, List.zip_cons_cons, List.zip_nil_right, List.foldl_cons, List.foldl_nil, eg, Option.some.injEq, Lit.val, cmpW, eqW_int, truth, true_and]
      by_cases hm : m = 0
      · rw [if_pos (decide_eq_true hm)]
        refine ⟨by rw [sizeLine_eq]; omega, ?_, by simp; omega⟩
        intro v hv
        rcases List.mem_append.mp hv with hv | hv
        · exact hacc v hv
        · have : v = .str s := by simpa using hv
          exact ⟨s, this, q1, l1⟩
      · rw [if_neg (by simpa using hm)]
        exact ⟨hacc, by omega⟩
    · rintro acc S' ⟨rfl, hacc, hal⟩
      refine ⟨lst_at (get_app hh), ?_⟩
      have e1 : (S ++ [Ob.lst [.str "num"]] ++ [Ob.lst acc])[S.length]? = some (.lst [.str "num"]) := get_app get_new
      have e2 : (S ++ [Ob.lst [.str "num"]] ++ [Ob.lst acc])[(S ++ [Ob.lst [.str "num"]]).length]? = some (.lst acc) := get_new
      refine addL e1 e2 (by rw [sizeLine_eq]; simp; omega) ?_
      generalize hS3 : S ++ [Ob.lst [.str "num"]] ++ [Ob.lst acc] = S3
      have P3 : Pot p c T S3 := by subst hS3; exact (hP.app _).app _
      have F3 : Fr p S S3 := by subst hS3; exact (Fr.app _).trans (Fr.app _)
      have hn3 : S3.length ≠ p := by have := hP.lt; have := F3.1; omega
      simp only [s2_f_law_kind, wSs, wS, wT, wEs, wO, wPs, wC, wSrc, wE_loc, wE_lit, wE_con, wE_bin, wE_neg, wE_cmp, wE_cmp2, wE_isN, wE_notN, wE_isB, wE_not, wE_and, wE_or, wE_ite, wE_tup, wE_lst, wE_dic, wE_call, wE_make, wE_meth, wE_fld, wE_sub, wE_slice, wE_bi, wE_vi, wE_bm, wE_isi, wE_lc, wE_lck, eg, es, Option.some.injEq, exists_eq_left', Lit.val]
      refine lenW_lst (lst_at get_new) ?_
      refine call_use (draw_ok (P3.app _) (by simp <;> omega) (by simp; omega) (by omega)) ?_
      rintro v S4 ⟨⟨r, rfl, a4, b4⟩, p4, f4, _⟩
      refine pick (f4.get hn3 get_new) a4 b4 fun v hv => ⟨?_, p4.le (by omega), f0.trans (F3.trans ((Fr.app _).trans f4))⟩
      rcases List.mem_append.mp hv with hv | hv
      · have : v = .str "num" := by simpa using hv
        subst this
        exact kv_nam (by unfold NQ; decide) (by decide)
      · obtain ⟨s, rfl, q1, l1⟩ := hacc v hv
        exact kv_nam q1 l1
  simp only [s4_f_law_kind, wSs, wS, wT, wEs, wO, wPs, wC, wSrc, wE_loc, wE_lit, wE_con, wE_bin, wE_neg, wE_cmp, wE_cmp2, wE_isN, wE_notN, wE_isB, wE_not, wE_and, wE_or, wE_ite, wE_tup, wE_lst, wE_dic, wE_call, wE_make, wE_meth, wE_fld, wE_sub, wE_slice, wE_bi, wE_vi, wE_bm, wE_isi, wE_lc, wE_lck, eg, es, Option.some.injEq, exists_eq_left', Lit.val, binW, cmpW, truth]
  refine ⟨by decide, ?_⟩
  by_cases hw : 0 < way % 3
  · rw [if_pos (decide_eq_true hw)]
    refine lenW_lst (lst_at hl) ?_
    by_cases hn : 0 < ls.length
    · simp only [truth, Option.some.injEq, exists_eq_left']
      rw [if_pos (by simpa using hn)]
      simp only [s1_f_law_kind, wSs, wS, wT, wEs, wO, wPs, wC, wSrc, wE_loc, wE_lit, wE_con, wE_bin, wE_neg, wE_cmp, wE_cmp2, wE_isN, wE_notN, wE_isB, wE_not, wE_and, wE_or, wE_ite, wE_tup, wE_lst, wE_dic, wE_call, wE_make, wE_meth, wE_fld, wE_sub, wE_slice, wE_bi, wE_vi, wE_bm, wE_isi, wE_lc, wE_lck, eg, es, Option.some.injEq, exists_eq_left', Lit.val]
      refine lenW_lst (lst_at hl) ?_
      refine call_use (draw_ok hP (by simpa using hn) (by simp; omega) (by omega)) ?_
      rintro v S4 ⟨⟨r, rfl, a4, b4⟩, p4, f4, _⟩
      refine pick (f4.get lp hl) a4 b4 fun v hv => ⟨?_, p4.le (by omega), f0.trans f4⟩
      obtain ⟨w, hw', rfl⟩ := List.mem_map.mp hv
      exact kv_var (hls w hw') hw'
    · simp only [truth, Option.some.injEq, exists_eq_left']
      rw [if_neg (by simpa using hn)]
      exact h3
  · rw [if_neg (by simpa using hw)]
    exact h3
theorem kindv_ok {p c l h : Nat} {ls : List String} {hs : List Val} (hls : ∀ w ∈ ls, VQ w) (hll : ls.length ≤ 12) (hhs : ∀ v ∈ hs, IsHd v) (hh0 : 0 < hs.length) (hhl : hs.length ≤ 9) (lp : l ≠ p) (hp' : h ≠ p) :
    ∀ (d k : Nat) (T : Int) (S : Hm), Pot p c T S → S[l]? = some (.lst (ls.map .str)) → S[h]? = some (.lst hs) → T + 4 ^ (d + 2) ≤ 10 ^ 6 →
    callW P (k + d + 3) (.f "_law_kind") [.ref p, .ref l, .ref h, .int d] S (fun v S' => KV ls d v ∧ Pot p c (T + 4 ^ (d + 2)) S' ∧ Fr p S S') noX := by
  intro d
  induction d using Nat.strongRecOn with
  | _ d ih =>
    intro k T S hP hl hh hT
    have hB : (16 : Int) ≤ 4 ^ (d + 2) := by
      have : (4 : Int) ^ (d + 2) = 4 ^ d * 16 := by rw [Int.pow_add]; rfl
      have h1 : (1 : Int) ≤ 4 ^ d := Int.pow_pos (by decide)
      omega
    refine call_open (k := k + d + 2) fn_f_law_kind ⟨rfl, ?_⟩
    show wSs _ _ _ s12_f_law_kind _ _ [some (.ref p), some (.ref l), some (.ref h), some (.int d), none, none, none, none, none] S
    simp only [s12_f_law_kind, wSs, wS, wT, wEs, wO, wPs, wC, wSrc, wE_loc, wE_lit, wE_con, wE_bin, wE_neg, wE_cmp, wE_cmp2, wE_isN, wE_notN, wE_isB, wE_not, wE_and, wE_or, wE_ite, wE_tup, wE_lst, wE_dic, wE_call, wE_make, wE_meth, wE_fld, wE_sub, wE_slice, wE_bi, wE_vi, wE_bm, wE_isi, wE_lc, wE_lck, eg, es, Option.some.injEq, exists_eq_left', Lit.val]
    refine call_use (draw_ok hP (by decide) (by decide) (by omega)) ?_
    rintro v S1 ⟨⟨way, rfl, a1, b1⟩, p1, f1, _⟩
    have hl1 := f1.get lp hl
    have hh1 := f1.get hp' hh
    simp only [s11_f_law_kind, wSs, wS, wT, wEs, wO, wPs, wC, wSrc, wE_loc, wE_lit, wE_con, wE_bin, wE_neg, wE_cmp, wE_cmp2, wE_isN, wE_notN, wE_isB, wE_not, wE_and, wE_or, wE_ite, wE_tup, wE_lst, wE_dic, wE_call, wE_make, wE_meth, wE_fld, wE_sub, wE_slice, wE_bi, wE_vi, wE_bm, wE_isi, wE_lc, wE_lck, eg, es, Option.some.injEq, exists_eq_left', Lit.val, cmpW, eqW_int, truth]
    have leaf : wSs P.con P.sub (callW P (k + d + 2)) s4_f_law_kind (fun c x S' => noX c S') { nx := fun env' S' => wSs P.con P.sub (callW P (k + d + 2)) s10_f_law_kind (fun c x S' => noX c S') { nx := fun x S' => KV ls d .non ∧ Pot p c (T + 4 ^ (d + 2)) S' ∧ Fr p S S', rt := fun v S' => KV ls d v ∧ Pot p c (T + 4 ^ (d + 2)) S' ∧ Fr p S S' } env' S', rt := fun v S' => KV ls d v ∧ Pot p c (T + 4 ^ (d + 2)) S' ∧ Fr p S S' } [some (.ref p), some (.ref l), some (.ref h), some (.int d), some (.int way), none, none, none, none] S1 :=
      kindv_leaf (k := k + d) hls hll hhs hhl lp hp' p1 hl1 hh1 (by omega) (by omega) f1
    by_cases hd : (d : Int) = 0
    · rw [if_pos (decide_eq_true hd)]
      simp only [if_true]
      exact leaf
    rw [if_neg (by simpa using hd)]
    by_cases hw : way < 2
    · rw [if_pos (decide_eq_true hw)]
      exact leaf
    rw [if_neg (by simpa using hw)]
    clear leaf
    obtain ⟨e, rfl⟩ : ∃ e, d = e + 1 := ⟨d - 1, by omega⟩
    have hB2 : (4 : Int) ^ (e + 1 + 2) = 4 ^ (e + 2) * 4 := Int.pow_succ _ _
    have hB3 : (0 : Int) < 4 ^ (e + 2) := Int.pow_pos (by decide)
    have de : (((e + 1 : Nat) : Int) - 1) = (e : Int) := by omega
    simp only [s10_f_law_kind, wSs, wS, wT, wEs, wO, wPs, wC, wSrc, wE_loc, wE_lit, wE_con, wE_bin, wE_neg, wE_cmp, wE_cmp2, wE_isN, wE_notN, wE_isB, wE_not, wE_and, wE_or, wE_ite, wE_tup, wE_lst, wE_dic, wE_call, wE_make, wE_meth, wE_fld, wE_sub, wE_slice, wE_bi, wE_vi, wE_bm, wE_isi, wE_lc, wE_lck, eg, es, Option.some.injEq, exists_eq_left', Lit.val, cmpW, truth]
    by_cases hw5 : way < 5
    · rw [if_pos (decide_eq_true hw5)]
      simp only [s5_f_law_kind, wSs, wS, wT, wEs, wO, wPs, wC, wSrc, wE_loc, wE_lit, wE_con, wE_bin, wE_neg, wE_cmp, wE_cmp2, wE_isN, wE_notN, wE_isB, wE_not, wE_and, wE_or, wE_ite, wE_tup, wE_lst, wE_dic, wE_call, wE_make, wE_meth, wE_fld, wE_sub, wE_slice, wE_bi, wE_vi, wE_bm, wE_isi, wE_lc, wE_lck, eg, es, Option.some.injEq, exists_eq_left', Lit.val, binW, de]
      refine call_use (ih e (by omega) k _ S1 p1 hl1 hh1 (by omega)) ?_
      rintro v2 S2 ⟨k2, p2, f2⟩
      have hl2 := f2.get lp hl1
      have hh2 := f2.get hp' hh1
      refine call_use (ih e (by omega) k _ S2 p2 hl2 hh2 (by omega)) ?_
      rintro v3 S3 ⟨k3, p3, f3⟩
      refine ⟨by rw [sizeLine_eq]; simp, kv_tup (by unfold NQ; decide) (by decide) (fun v hv => ?_) (by simp) (by simp), p3.le (by omega), f1.trans (f2.trans f3)⟩
      rcases List.mem_cons.mp hv with rfl | hv
      · exact k2
      · have : v = v3 := by simpa using hv
        subst this; exact k3
    rw [if_neg (by simpa using hw5)]
    simp only [s9_f_law_kind, wSs, wS, wT, wEs, wO, wPs, wC, wSrc, wE_loc, wE_lit, wE_con, wE_bin, wE_neg, wE_cmp, wE_cmp2, wE_isN, wE_notN, wE_isB, wE_not, wE_and, wE_or, wE_ite, wE_tup, wE_lst, wE_dic, wE_call, wE_make, wE_meth, wE_fld, wE_sub, wE_slice, wE_bi, wE_vi, wE_bm, wE_isi, wE_lc, wE_lck, eg, es, Option.some.injEq, exists_eq_left', Lit.val]
    refine lenW_lst (lst_at hh1) ?_
    refine call_use (draw_ok p1 (by omega) (by omega) (by omega)) ?_
    rintro v S2 ⟨⟨r2, rfl, a2, b2⟩, p2, f2, _⟩
    have hl2 := f2.get lp hl1
    have hh2 := f2.get hp' hh1
    refine pick hh2 a2 b2 fun hd hmem => ?_
    obtain ⟨s, m, rfl, q1, l1, m1, m2⟩ := hhs hd hmem
    simp only [tgW, Val.tup.injEq, exists_eq_left', List.length_cons, List.length_nil, List.zip_cons_cons, List.zip_nil_right, List.foldl_cons, List.foldl_nil, es, true_and, s8_f_law_kind, wSs, wS, wT, wEs, wO, wPs, wC, wSrc, wE_loc, wE_lit, wE_con, wE_bin, wE_neg, wE_cmp, wE_cmp2, wE_isN, wE_notN, wE_isB, wE_not, wE_and, wE_or, wE_ite, wE_tup, wE_lst, wE_dic, wE_call, wE_make, wE_meth, wE_fld, wE_sub, wE_slice, wE_bi, wE_vi, wE_bm, wE_isi, wE_lc, wE_lck, eg, es, Option.some.injEq, exists_eq_left', Lit.val, cmpW, eqW_int, truth]
    by_cases hm : m = 0
    · rw [if_pos (decide_eq_true hm)]
      simp only [s6_f_law_kind, wSs, wS, wT, wEs, wO, wPs, wC, wSrc, wE_loc, wE_lit, wE_con, wE_bin, wE_neg, wE_cmp, wE_cmp2, wE_isN, wE_notN, wE_isB, wE_not, wE_and, wE_or, wE_ite, wE_tup, wE_lst, wE_dic, wE_call, wE_make, wE_meth, wE_fld, wE_sub, wE_slice, wE_bi, wE_vi, wE_bm, wE_isi, wE_lc, wE_lck, eg, es, Option.some.injEq, exists_eq_left', Lit.val]
      exact ⟨kv_nam q1 l1, p2.le (by omega), f1.trans f2⟩
    rw [if_neg (by simpa using hm)]
    simp only [s7_f_law_kind, wSs, wS, wT, wEs, wO, wPs, wC, wSrc, wE_loc, wE_lit, wE_con, wE_bin, wE_neg, wE_cmp, wE_cmp2, wE_isN, wE_notN, wE_isB, wE_not, wE_and, wE_or, wE_ite, wE_tup, wE_lst, wE_dic, wE_call, wE_make, wE_meth, wE_fld, wE_sub, wE_slice, wE_bi, wE_vi, wE_bm, wE_isi, wE_lc, wE_lck, eg, es, Option.some.injEq, exists_eq_left', Lit.val]
    refine ⟨by rw [sizeLine_eq]; simp, m, rfl, ⟨by omega, by omega⟩, ?_⟩
    refine lcr_inv (callW_mono P _) (fun i acc S' => acc.length = i ∧ (∀ v ∈ acc, KV ls e v) ∧ Pot p c (T + 2 + i * 4 ^ (e + 2)) S' ∧ Fr p S2 S') ?_ ?_ ⟨rfl, by simp, by simpa using p2.le (by omega), Fr.refl _ _⟩
    · rintro i v acc S' hi ⟨hal, hacc, hp3, hf3⟩
      obtain ⟨hi, rfl⟩ := range_get hi
      refine ⟨trivial, ?_⟩
      simp only [tgW, List.map_cons, List.map_nil, ewipe, wSs, wS, wT, wEs, wO, wPs, wC, wSrc, wE_loc, wE_lit, wE_con, wE_bin, wE_neg, wE_cmp, wE_cmp2, wE_isN, wE_notN, wE_isB, wE_not, wE_and, wE_or, wE_ite, wE_tup, wE_lst, wE_dic, wE_call, wE_make, wE_meth, wE_fld, wE_sub, wE_slice, wE_bi, wE_vi, wE_bm, wE_isi, wE_lc, wE_lck, eg, es, Option.some.injEq, exists_eq_left', Lit.val, binW, de, if_true]
      have hi3 : (i : Int) * 4 ^ (e + 2) ≤ 2 * 4 ^ (e + 2) := Int.mul_le_mul_of_nonneg_right (by omega) (by omega)
      refine call_use (ih e (by omega) k _ S' hp3 (hf3.get lp hl2) (hf3.get hp' hh2) (by omega)) ?_
      rintro v3 S3 ⟨k3, p3, f3⟩
      refine ⟨by rw [sizeLine_eq]; omega, by simp [hal], fun v hv => ?_, p3.le ?_, hf3.trans f3⟩
      · rcases List.mem_append.mp hv with hv | hv
        · exact hacc v hv
        · have : v = v3 := by simpa using hv
          subst this; exact k3
      · rw [Int.natCast_add, Int.add_mul]
        omega
    · rintro acc S' ⟨hal, hacc, hp3, hf3⟩
      rw [rangeL_len] at hal hp3
      refine ⟨trivial, ?_⟩
      simp only [biW]
      refine ⟨acc, lst_at get_new, ?_⟩
      simp only [binW]
      have hi3 : ((m.toNat : Nat) : Int) * 4 ^ (e + 2) ≤ 3 * 4 ^ (e + 2) := Int.mul_le_mul_of_nonneg_right (by omega) (by omega)
      refine ⟨by rw [sizeLine_eq]; simp; omega, (kv_tup q1 l1 (by simpa using hacc) (by simp; omega) (fun z => by have z2 : acc = [] := z; rw [z2] at hal; simp at hal; omega)), (hp3.app _).le (by omega), f1.trans (f2.trans (hf3.trans (Fr.app _)))⟩
end K23

set_option maxHeartbeats 1000000
namespace K23
open Mi PySem
/-! ### a joiner, and pairs that it joins -/
theorem sb_fl {m : List (Key × Val)} {e : Nat} (D : DI e m) : ∀ (d : Nat) {v : Val}, IsK d v → sb m v = fl (fm m) v := by
  intro d
  induction d using Nat.strongRecOn with
  | _ d ih =>
  intro v hv
  rcases isK_cases hv with ⟨s, rfl, q | ⟨q, l⟩⟩ | ⟨e', h, vs, rfl, rfl, _, _, h3, _⟩
  · rw [fl_var q, sb]; rfl
  · rw [fl_nam q l, sb, D.nam q]; rfl
  · rw [sb_tup, fl_tup]
    have : vs.map (sb m) = vs.map (fl (fm m)) := List.map_congr_left fun v hv => ih e' (by omega) (h3 v hv)
    rw [this]
theorem fl_vars {f : String → Val} {y : String} : ∀ (d : Nat) {v : Val}, IsK d v → y ∈ vr (fl f v) → ∃ x ∈ vr v, y ∈ vr (f x) := by
  intro d
  induction d using Nat.strongRecOn with
  | _ d ih =>
  intro v hv hy
  rcases isK_cases hv with ⟨s, rfl, q | ⟨q, l⟩⟩ | ⟨e', h, vs, rfl, rfl, _, _, h3, _⟩
  · rw [fl_var q] at hy
    exact ⟨s, by rw [vr_var q]; simp, hy⟩
  · rw [fl_nam q l, vr_nam q l] at hy; cases hy
  · rw [fl_tup, vr_tup] at hy
    obtain ⟨w, h1, h2⟩ := vrs_mem.mp hy
    obtain ⟨v, hv, rfl⟩ := List.mem_map.mp h1
    obtain ⟨x, hx, hy⟩ := ih e' (by omega) (h3 v hv) h2
    exact ⟨x, vr_part hv hx, hy⟩
theorem fl_fix {f : String → Val} : ∀ (d : Nat) {v : Val}, IsK d v → (∀ y ∈ vr v, f y = .str y) → fl f v = v := by
  intro d
  induction d using Nat.strongRecOn with
  | _ d ih =>
  intro v hv hf
  rcases isK_cases hv with ⟨s, rfl, q | ⟨q, l⟩⟩ | ⟨e', h, vs, rfl, rfl, _, _, h3, _⟩
  · rw [fl_var q]; exact hf s (by rw [vr_var q]; simp)
  · exact fl_nam q l
  · rw [fl_tup]
    have : vs.map (fl f) = vs.map id := List.map_congr_left fun v hv => ih e' (by omega) (h3 v hv) fun y hy => hf y (vr_part hv hy)
    rw [this, List.map_id]
theorem fl_deep {f : String → Val} {e : Nat} : ∀ (d : Nat) {v : Val}, IsK d v → (∀ y ∈ vr v, IsK e (f y)) → IsK (d + e) (fl f v) := by
  intro d
  induction d using Nat.strongRecOn with
  | _ d ih =>
  intro v hv hf
  rcases isK_cases hv with ⟨s, rfl, q | ⟨q, l⟩⟩ | ⟨e', h, vs, rfl, rfl, h1, h2, h3, h4⟩
  · rw [fl_var q]; exact (hf s (by rw [vr_var q]; simp)).le (by omega)
  · rw [fl_nam q l]; exact .nam q l
  · rw [fl_tup, show e' + 1 + e = (e' + e) + 1 by omega]
    refine .tup h1 h2 (fun w hw => ?_) (by simpa using h4)
    obtain ⟨v, hv, rfl⟩ := List.mem_map.mp hw
    exact ih e' (by omega) (h3 v hv) fun y hy => hf y (vr_part hv hy)
/-- a drawn joiner: a kind over variables beyond for each name -/
structure Jo (ns bs : List String) (B : List (Key × Val)) : Prop where
  keys : B.map (·.1) = ns.map .inr
  vals : ∀ kv ∈ B, KV bs 2 kv.2
  nd : (ns ++ bs).Nodup
  vq : ∀ x ∈ ns ++ bs, VQ x
section
variable {ns bs : List String} {B : List (Key × Val)}
theorem Jo.di (J : Jo ns bs B) : DI 2 B := ⟨⟨ns, J.keys, (List.nodup_append.mp J.nd).1, fun x hx => J.vq x (List.mem_append_left _ hx)⟩, fun kv h => (J.vals kv h).k⟩
theorem Jo.look (J : Jo ns bs B) {x : String} (hx : x ∈ ns) : ∃ t, lookK B (.inr x) = some t ∧ KV bs 2 t := by
  have := (look_in (m := B) (x := x) J.keys).mpr hx
  unfold hs at this
  cases q : lookK B (.inr x) with
  | none => rw [q] at this; cases this
  | some t => exact ⟨t, rfl, J.vals _ (look_mem' q)⟩
theorem Jo.beyond (J : Jo ns bs B) {y : String} (hy : y ∈ bs) : fm B y = .str y := by
  unfold fm
  cases q : lookK B (.inr y) with
  | none => rfl
  | some t =>
    have := (look_in (m := B) (x := y) J.keys).mp (by unfold hs; rw [q]; rfl)
    exact absurd rfl ((List.nodup_append.mp J.nd).2.2 y this y hy)
theorem Jo.theta (J : Jo ns bs B) {x : String} (hx : x ∈ ns ++ bs) : KV bs 2 (fm B x) := by
  rcases List.mem_append.mp hx with hx | hx
  · obtain ⟨t, h1, h2⟩ := J.look hx
    have : fm B x = t := by unfold fm; rw [h1]; rfl
    rw [this]; exact h2
  · rw [J.beyond hx]
    exact kv_var (J.vq x (List.mem_append_right _ ‹_›)) hx
theorem put_new {m : List (Key × Val)} {xs : List String} {x : String} {v : Val} (h : m.map (·.1) = xs.map .inr) (hx : x ∉ xs) : putK m (.inr x) v = m ++ [(.inr x, v)] := by
  refine put_none ?_
  cases q : lookK m (.inr x) with
  | none => rfl
  | some t => exact absurd ((look_in (m := m) (x := x) h).mp (by unfold hs; rw [q]; rfl)) hx
theorem joiner_ok {k p c n b h : Nat} {hds : List Val} {T : Int} {S : Hm} (hP : Pot p c T S) (hn : S[n]? = some (.lst (ns.map .str))) (hb : S[b]? = some (.lst (bs.map .str))) (hh : S[h]? = some (.lst hds)) (hhs : ∀ v ∈ hds, IsHd v) (hh0 : 0 < hds.length) (hhl : hds.length ≤ 9)
    (np : n ≠ p) (bp : b ≠ p) (hp : h ≠ p) (nd : (ns ++ bs).Nodup) (vq : ∀ x ∈ ns ++ bs, VQ x) (nl : ns.length ≤ 12) (bl : bs.length ≤ 12) (hT : T + 4000 ≤ 10 ^ 6) :
    callW P (k + 8) (.f "_law_joiner") [.ref p, .ref n, .ref b, .ref h] S (fun v S' => v = .ref S.length ∧ (∃ B, S'[S.length]? = some (.dic B) ∧ Jo ns bs B) ∧ Pot p c (T + 4000) S' ∧ Fr p S S') noX := by
  have hlt := hP.lt
  refine call_open (k := k + 7) fn_f_law_joiner ⟨rfl, ?_⟩
  show wSs _ _ _ s5_f_law_joiner _ _ [some (.ref p), some (.ref n), some (.ref b), some (.ref h), none, none, none] S
  simp only [s5_f_law_joiner, wSs, wS, wT, wEs, wO, wPs, wC, wSrc, wE_loc, wE_lit, wE_con, wE_bin, wE_neg, wE_cmp, wE_cmp2, wE_isN, wE_notN, wE_isB, wE_not, wE_and, wE_or, wE_ite, wE_tup, wE_lst, wE_dic, wE_call, wE_make, wE_meth, wE_fld, wE_sub, wE_slice, wE_bi, wE_vi, wE_bm, wE_isi, wE_lc, wE_lck, eg, es, Option.some.injEq, exists_eq_left', Lit.val, wPs, seqOf]
  refine ⟨_, lst_at (get_app hn), ?_⟩
  have nn := (List.nodup_append.mp nd).1
  refine for_inv (callW_mono P _) (fun i env S' => ∃ t x6 B, env = [some (.ref p), some (.ref n), some (.ref b), some (.ref h), some (.ref S.length), some t, x6] ∧ S'[S.length]? = some (.dic B) ∧ B.map (·.1) = (ns.take i).map .inr ∧ (∀ kv ∈ B, KV bs 2 kv.2) ∧ KV bs 2 t ∧ Pot p c (T + 258 * i) S' ∧ Fr p S S') ?_ ?_ ⟨.str "num", none, [], rfl, get_new, rfl, by simp, kv_nam (by unfold NQ; decide) (by decide), by simpa using hP.app _, Fr.app _⟩
  · rintro i v env S' hi ⟨t, x6, B, rfl, g0, g1, g2, g3, hp1, f1⟩
    rw [List.getElem?_map] at hi
    obtain ⟨x, hx, rfl⟩ := Option.map_eq_some_iff.mp hi
    have hil := lt_of_get hx
    refine ⟨lst_at (f1.get np hn), ?_⟩
    have Bl : B.length = i := by
      have := congrArg List.length g1
      simpa [List.length_take, Nat.min_eq_left (Nat.le_of_lt hil)] using this
    have fin : ∀ (D0 : Sp) (t : Val) (S2 : Hm), KV bs 2 t → S2[S.length]? = some (.dic B) → Pot p c (T + 258 * i + 258) S2 → Fr p S S2 → (∀ env S', (∃ t x6 B, env = [some (.ref p), some (.ref n), some (.ref b), some (.ref h), some (.ref S.length), some t, x6] ∧ S'[S.length]? = some (.dic B) ∧ B.map (·.1) = (ns.take (i + 1)).map .inr ∧ (∀ kv ∈ B, KV bs 2 kv.2) ∧ KV bs 2 t ∧ Pot p c (T + 258 * ((i + 1 : Nat) : Int)) S' ∧ Fr p S S') → D0.nx env S') → wSs P.con P.sub (callW P (k + 7)) s2_f_law_joiner (fun c x S' => noX c S') D0 [some (.ref p), some (.ref n), some (.ref b), some (.ref h), some (.ref S.length), some t, some (.str x)] S2 := by
      intro D0 t S2 kt q0 q1 q2 hD
      simp only [s2_f_law_joiner, wSs, wS, wT, wEs, wO, wPs, wC, wSrc, wE_loc, wE_lit, wE_con, wE_bin, wE_neg, wE_cmp, wE_cmp2, wE_isN, wE_notN, wE_isB, wE_not, wE_and, wE_or, wE_ite, wE_tup, wE_lst, wE_dic, wE_call, wE_make, wE_meth, wE_fld, wE_sub, wE_slice, wE_bi, wE_vi, wE_bm, wE_isi, wE_lc, wE_lck, eg, es, Option.some.injEq, exists_eq_left', Lit.val, setW]
      refine .inr ⟨B, .inr x, q0, rfl, by rw [sizeLine_eq]; omega, hD _ _ ⟨t, _, B ++ [(.inr x, t)], rfl, ?_, ?_, fun kv hkv => ?_, kt, ((q1.set (by omega) (by omega)).le (by omega)), q2.set (Nat.le_refl _)⟩⟩
      · rw [get_set, q0, put_new g1 ?_]
        · rfl
        · intro z
          obtain ⟨j, hj⟩ := List.getElem?_of_mem z
          rw [List.getElem?_take] at hj
          split at hj
          · have := (List.getElem?_inj (List.getElem?_eq_some_iff.mp hj).1 nn).mp (hj.trans hx.symm)
            omega
          · cases hj
      · rw [List.map_append, g1, List.take_add_one, hx, List.map_append]; rfl
      · rcases List.mem_append.mp hkv with hkv | hkv
        · exact g2 kv hkv
        · rw [List.mem_singleton.mp hkv]; exact kt
    have draw : ∀ (D0 : Sp) (T2 : Int) (S2 : Hm), T2 + 257 ≤ T + 258 * i + 258 → S2[S.length]? = some (.dic B) → Pot p c T2 S2 → Fr p S S2 → (∀ u S4, KV bs 2 u → S4[S.length]? = some (.dic B) → Pot p c (T + 258 * i + 258) S4 → Fr p S S4 → D0.nx [some (.ref p), some (.ref n), some (.ref b), some (.ref h), some (.ref S.length), some u, some (.str x)] S4) → wSs P.con P.sub (callW P (k + 7)) s1_f_law_joiner (fun c x S' => noX c S') D0 [some (.ref p), some (.ref n), some (.ref b), some (.ref h), some (.ref S.length), some t, some (.str x)] S2 := by
      intro D0 T2 S2 hT2 q0 q1 q2 hD
      simp only [s1_f_law_joiner, wSs, wS, wT, wEs, wO, wPs, wC, wSrc, wE_loc, wE_lit, wE_con, wE_bin, wE_neg, wE_cmp, wE_cmp2, wE_isN, wE_notN, wE_isB, wE_not, wE_and, wE_or, wE_ite, wE_tup, wE_lst, wE_dic, wE_call, wE_make, wE_meth, wE_fld, wE_sub, wE_slice, wE_bi, wE_vi, wE_bm, wE_isi, wE_lc, wE_lck, eg, es, Option.some.injEq, exists_eq_left', Lit.val]
      refine call_use (draw_ok (k := k + 5) q1 (by decide) (by decide) (by omega)) ?_
      rintro _ S3 ⟨⟨r, rfl, a1, b1⟩, p3, f3, _⟩
      have q0' := f3.get (by omega) q0
      have f03 := q2.trans f3
      obtain ⟨r, rfl⟩ : ∃ j : Nat, r = j := ⟨r.toNat, by omega⟩
      have pw : (4 : Int) ^ (r + 2) ≤ 256 := by
        have : r = 0 ∨ r = 1 ∨ r = 2 := by omega
        rcases this with rfl | rfl | rfl <;> decide
      refine lift_to (k := k + 4 - r + r + 3) (by omega) (call_use (kindv_ok (ls := bs) (hs := hds) (fun w hw => vq w (List.mem_append_right _ hw)) bl hhs hh0 hhl bp hp r (k + 4 - r) _ S3 p3 (f03.get bp hb) (f03.get hp hh) (by omega)) ?_)
      rintro u S4 ⟨ku, p4, f4⟩
      exact hD u S4 (ku.le (by omega)) (f4.get (by omega) q0') (p4.le (by omega)) (f03.trans f4)
    simp only [tgW, s3_f_law_joiner, wSs, wS, wT, wEs, wO, wPs, wC, wSrc, wE_loc, wE_lit, wE_con, wE_bin, wE_neg, wE_cmp, wE_cmp2, wE_isN, wE_notN, wE_isB, wE_not, wE_and, wE_or, wE_ite, wE_tup, wE_lst, wE_dic, wE_call, wE_make, wE_meth, wE_fld, wE_sub, wE_slice, wE_bi, wE_vi, wE_bm, wE_isi, wE_lc, wE_lck, eg, es, Option.some.injEq, exists_eq_left', Lit.val, biW]
    refine .inr ⟨B, g0, ?_⟩
    simp only [cmpW, eqW_int, truth, Option.some.injEq, exists_eq_left']
    by_cases hB : (B.length : Int) = 0
    · rw [if_pos (decide_eq_true hB)]
      simp only [if_true]
      refine draw _ _ S' (by omega) g0 hp1 f1 fun u S4 ku q0 q1 q2 => ?_
      exact fin _ u S4 ku q0 q1 q2 fun _ _ h => h
    rw [if_neg (by simpa using hB)]
    refine call_use (draw_ok (k := k + 5) hp1 (by decide) (by decide) (by omega)) ?_
    rintro _ S2 ⟨⟨r, rfl, a1, b1⟩, p2, f2, _⟩
    have g0' := f2.get (by omega) g0
    simp only [truth, Option.some.injEq, exists_eq_left']
    by_cases hr : r > 0
    · rw [if_pos (decide_eq_true hr)]
      refine draw _ _ S2 (by omega) g0' p2 (f1.trans f2) fun u S4 ku q0 q1 q2 => ?_
      exact fin _ u S4 ku q0 q1 q2 fun _ _ h => h
    · rw [if_neg (by simpa using hr)]
      exact fin _ t S2 g3 g0' (p2.le (by omega)) (f1.trans f2) fun _ _ h => h
  · rintro env S' ⟨t, x6, B, rfl, g0, g1, g2, g3, hp1, f1⟩
    rw [List.length_map] at hp1 g1
    rw [List.take_length] at g1
    refine ⟨lst_at (f1.get np hn), ?_⟩
    simp only [s4_f_law_joiner, wSs, wS, wT, wEs, wO, wPs, wC, wSrc, wE_loc, wE_lit, wE_con, wE_bin, wE_neg, wE_cmp, wE_cmp2, wE_isN, wE_notN, wE_isB, wE_not, wE_and, wE_or, wE_ite, wE_tup, wE_lst, wE_dic, wE_call, wE_make, wE_meth, wE_fld, wE_sub, wE_slice, wE_bi, wE_vi, wE_bm, wE_isi, wE_lc, wE_lck, eg, es, Option.some.injEq, exists_eq_left', Lit.val]
    exact ⟨trivial, ⟨B, g0, g1, g2, nd, vq⟩, hp1.le (by omega), f1⟩
end
end K23

set_option maxHeartbeats 1000000
namespace K23
open Mi PySem
/-! ### folded, and the pairs -/
section
variable {ns bs : List String} {B : List (Key × Val)}
theorem Pot.unset {p c n : Nat} {T : Int} {S : Hm} {o : Ob} (h : Pot p c T S) (hp : n ≠ p) (hc : n ≠ c) : Pot p c T (S.set n o) := h.set hp hc
theorem folded_ok {p c b : Nat} (J : Jo ns bs B) (bp : b ≠ p) (bc : b ≠ c) (bl : B.length ≤ 9) : ∀ (d : Nat) (u : Val), IsK d u → (∀ y ∈ vr u, y ∈ bs) → d ≤ 7 → ∀ (k : Nat) (T : Int) (S : Hm), Pot p c T S → S[b]? = some (.dic B) → T + 9 * nod u ≤ 10 ^ 6 →
    callW P (k + d + 4) (.f "_law_folded") [.ref p, u, .ref b] S (fun r S' => IsK d r ∧ fl (fm B) r = u ∧ (∀ y ∈ vr r, y ∈ ns ++ bs) ∧ Pot p c (T + 9 * nod u) S' ∧ Fr p S S') noX := by
  intro d
  induction d using Nat.strongRecOn with
  | _ d ih =>
  intro u hu hub hd k T S hP hb hT
  have hlt := hP.lt
  have hbl := lt_of_get hb
  refine call_open (k := k + d + 3) fn_f_law_folded ⟨rfl, ?_⟩
  show wSs _ _ _ s6_f_law_folded _ _ [some (.ref p), some u, some (.ref b), none, none] S
  have ufix : fl (fm B) u = u := fl_fix d hu fun y hy => J.beyond (hub y hy)
  simp only [s6_f_law_folded, wSs]
  rw [wS]
  simp only [eg, Option.some.injEq, Val.ref.injEq]
  refine ⟨b, B, rfl, hb, ?_⟩
  have gb : (S.set b (.lck (.dic B)))[b]? = some (.lck (.dic B)) := by rw [get_set, hb]; rfl
  have P0 : Pot p c T (S.set b (.lck (.dic B))) := hP.set bp bc
  have back : ∀ (S2 : Hm), Fr p (S.set b (.lck (.dic B))) S2 → S2[b]? = some (.lck (.dic B)) ∧ Fr p S (S2.set b (.dic B)) ∧ (S2.set b (.dic B))[b]? = some (.dic B) := by
    intro S2 f
    have h1 := f.get bp gb
    refine ⟨h1, ⟨by have := f.1; simp at this ⊢; exact this, fun n hn hnp => ?_⟩, by rw [get_set, h1]; rfl⟩
    by_cases e : n = b
    · subst e; rw [get_set, h1, hb]; rfl
    · rw [get_ne e, f.2 n (by simpa using hn) hnp, get_ne e]
  simp only [wS, wSs, wS, wT, wEs, wO, wPs, wC, wSrc, wE_loc, wE_lit, wE_con, wE_bin, wE_neg, wE_cmp, wE_cmp2, wE_isN, wE_notN, wE_isB, wE_not, wE_and, wE_or, wE_ite, wE_tup, wE_lst, wE_dic, wE_call, wE_make, wE_meth, wE_fld, wE_sub, wE_slice, wE_bi, wE_vi, wE_bm, wE_isi, wE_lc, wE_lck, eg, es, Option.some.injEq, exists_eq_left', Lit.val]
  refine ⟨b, B, rfl, gb, ?_⟩
  refine for_inv (callW_mono P _) (fun i env S' => ∃ x3, env = [some (.ref p), some u, some (.ref b), x3, none] ∧ Pot p c (T + i) S' ∧ Fr p (S.set b (.lck (.dic B))) S') ?_ ?_ ⟨none, rfl, by simpa using P0, Fr.refl _ _⟩
  · rintro i v env S' hi ⟨x3, rfl, p1, f1⟩
    rw [List.getElem?_map] at hi
    obtain ⟨kv, hkv, rfl⟩ := Option.map_eq_some_iff.mp hi
    have hil := lt_of_get hkv
    obtain ⟨h1, h2, h3⟩ := back S' f1
    refine ⟨h1, ?_⟩
    have hk : (B.map (·.1))[i]? = some kv.1 := by rw [List.getElem?_map, hkv]; rfl
    rw [J.keys, List.getElem?_map] at hk
    obtain ⟨x, hx, ex⟩ := Option.map_eq_some_iff.mp hk
    have hxn := List.mem_of_getElem? hx
    obtain ⟨t, ht, kt⟩ := J.look hxn
    rw [← ex]
    have hdic : Hm.dic S' b = some B := by unfold Hm.dic; rw [h1]
    have np := nod_pos u
    simp only [tgW, s2_f_law_folded, wSs, wS, wT, wEs, wO, wPs, wC, wSrc, wE_loc, wE_lit, wE_con, wE_bin, wE_neg, wE_cmp, wE_cmp2, wE_isN, wE_notN, wE_isB, wE_not, wE_and, wE_or, wE_ite, wE_tup, wE_lst, wE_dic, wE_call, wE_make, wE_meth, wE_fld, wE_sub, wE_slice, wE_bi, wE_vi, wE_bm, wE_isi, wE_lc, wE_lck, eg, es, Option.some.injEq, exists_eq_left', Lit.val, Key.val, subW, cmpW]
    refine .inr ⟨B, .inr x, t, hdic, rfl, ht, ?_⟩
    refine eq_isK kt.k hu (by omega) (by omega) ⟨_, rfl, ?_⟩
    by_cases htu : t = u
    rotate_left
    · rw [if_neg (by simpa using htu)]
      exact ⟨_, rfl, p1.le (by omega), f1⟩
    rw [if_pos (decide_eq_true htu)]
    refine call_use (draw_ok (k := k + d + 1) p1 (by decide) (by decide) (by omega)) ?_
    rintro _ S2 ⟨⟨r, rfl, a1, b1⟩, p2, f2, _⟩
    rw [eqW_int]
    refine ⟨_, rfl, ?_⟩
    by_cases hr : r = 0
    · rw [if_pos (decide_eq_true hr)]
      simp only [s1_f_law_folded, wSs, wS, wT, wEs, wO, wPs, wC, wSrc, wE_loc, wE_lit, wE_con, wE_bin, wE_neg, wE_cmp, wE_cmp2, wE_isN, wE_notN, wE_isB, wE_not, wE_and, wE_or, wE_ite, wE_tup, wE_lst, wE_dic, wE_call, wE_make, wE_meth, wE_fld, wE_sub, wE_slice, wE_bi, wE_vi, wE_bm, wE_isi, wE_lc, wE_lck, eg, es, Option.some.injEq, exists_eq_left', Lit.val, lckD]
      obtain ⟨q1, q2, q3⟩ := back S2 (f1.trans f2)
      have vx : VQ x := J.vq x (List.mem_append_left _ hxn)
      refine ⟨q1, .var vx, ?_, ?_, (p2.set bp bc).le (by omega), q2⟩
      · rw [fl_var vx]; unfold fm; rw [ht]; exact htu
      · rw [vr_var vx]; intro y hy; rw [List.mem_singleton.mp hy]; exact List.mem_append_left _ hxn
    · rw [if_neg (by simpa using hr)]
      exact ⟨_, rfl, p2.le (by omega), f1.trans f2⟩
  · rintro env S' ⟨x3, rfl, p1, f1⟩
    rw [List.length_map] at p1
    obtain ⟨h1, h2, h3⟩ := back S' f1
    refine ⟨h1, ?_⟩
    simp only [lckD]
    refine ⟨h1, ?_⟩
    have P1 : Pot p c (T + B.length) (S'.set b (.dic B)) := p1.set bp bc
    generalize S'.set b (.dic B) = S1 at P1 h2 h3
    have np := nod_pos u
    simp only [s5_f_law_folded, wSs, wS, wT, wEs, wO, wPs, wC, wSrc, wE_loc, wE_lit, wE_con, wE_bin, wE_neg, wE_cmp, wE_cmp2, wE_isN, wE_notN, wE_isB, wE_not, wE_and, wE_or, wE_ite, wE_tup, wE_lst, wE_dic, wE_call, wE_make, wE_meth, wE_fld, wE_sub, wE_slice, wE_bi, wE_vi, wE_bm, wE_isi, wE_lc, wE_lck, eg, es, Option.some.injEq, exists_eq_left', Lit.val]
    rcases isK_cases hu with ⟨s, rfl, _⟩ | ⟨e', h, vs, rfl, rfl, q1, q2, q3, q4⟩
    · refine ⟨[false], rfl, false, rfl, ?_⟩
      rw [if_neg (by decide)]
      simp only [s4_f_law_folded, wSs, wS, wT, wEs, wO, wPs, wC, wSrc, wE_loc, wE_lit, wE_con, wE_bin, wE_neg, wE_cmp, wE_cmp2, wE_isN, wE_notN, wE_isB, wE_not, wE_and, wE_or, wE_ite, wE_tup, wE_lst, wE_dic, wE_call, wE_make, wE_meth, wE_fld, wE_sub, wE_slice, wE_bi, wE_vi, wE_bm, wE_isi, wE_lc, wE_lck, eg, es, Option.some.injEq, exists_eq_left', Lit.val]
      exact ⟨hu, ufix, fun y hy => List.mem_append_right _ (hub y hy), P1.le (by omega), h2⟩
    refine ⟨[true], rfl, true, rfl, ?_⟩
    rw [if_pos rfl]
    have nt : nod (.tup (.str h :: vs)) = 1 + nods vs := by rw [nod, nodT]
    rw [nt] at hT ⊢
    simp only [s3_f_law_folded, wSs, wS, wT, wEs, wO, wPs, wC, wSrc, wE_loc, wE_lit, wE_con, wE_bin, wE_neg, wE_cmp, wE_cmp2, wE_isN, wE_notN, wE_isB, wE_not, wE_and, wE_or, wE_ite, wE_tup, wE_lst, wE_dic, wE_call, wE_make, wE_meth, wE_fld, wE_sub, wE_slice, wE_bi, wE_vi, wE_bm, wE_isi, wE_lc, wE_lck, eg, es, Option.some.injEq, exists_eq_left', Lit.val, sliceW, seqOf]
    refine ⟨1, rfl, 1, rfl, ?_⟩
    simp only [cut_hd, cut_tl]
    refine lcr_inv (callW_mono P _) (fun i acc S' => acc.length = i ∧ (∀ v ∈ acc, IsK e' v ∧ ∀ y ∈ vr v, y ∈ ns ++ bs) ∧ acc.map (fl (fm B)) = vs.take i ∧ Pot p c (T + 9 + 9 * nods (vs.take i)) S' ∧ Fr p S S') ?_ ?_ ⟨rfl, by simp, by simp, by simpa [nods] using P1.le (by omega), h2⟩
    · rintro i w acc S' hi ⟨a1, a2, a3, a4, a5⟩
      have hi' := lt_of_get hi
      have wv := List.mem_of_getElem? hi
      have nt1 := nods_take1 hi
      refine ⟨trivial, ?_⟩
      simp only [tgW, List.map_cons, List.map_nil, ewipe, wSs, wS, wT, wEs, wO, wPs, wC, wSrc, wE_loc, wE_lit, wE_con, wE_bin, wE_neg, wE_cmp, wE_cmp2, wE_isN, wE_notN, wE_isB, wE_not, wE_and, wE_or, wE_ite, wE_tup, wE_lst, wE_dic, wE_call, wE_make, wE_meth, wE_fld, wE_sub, wE_slice, wE_bi, wE_vi, wE_bm, wE_isi, wE_lc, wE_lck, eg, es, Option.some.injEq, exists_eq_left', Lit.val, if_true]
      refine lift_to (k := k + e' + 4) (by omega) (call_use (ih e' (by omega) w (q3 w wv) (fun y hy => hub y (vr_part wv hy)) (by omega) k _ S' a4 (a5.get bp hb) (by omega)) ?_)
      rintro r S2 ⟨r1, r2, r3, r4, r5⟩
      refine ⟨by rw [sizeLine_eq]; omega, by simp [a1], fun v hv => ?_, ?_, r4.le ?_, a5.trans r5⟩
      · rcases List.mem_append.mp hv with hv | hv
        · exact a2 v hv
        · rw [List.mem_singleton.mp hv]; exact ⟨r1, r3⟩
      · rw [List.map_append, a3, List.take_add_one, hi]; simp [r2]
      · rw [List.take_add_one, hi, nods_app]; simp [nods]; omega
    · rintro acc S' ⟨a1, a2, a3, a4, a5⟩
      rw [List.take_length] at a3 a4
      refine ⟨trivial, ?_⟩
      simp only [biW]
      refine ⟨_, lst_at get_new, ?_⟩
      simp only [binW]
      refine ⟨by rw [sizeLine_eq]; simp; omega, (.tup (vs := acc) q1 q2 (fun v hv => (a2 v hv).1) (by omega)), ?_, fun y hy => ?_, (a4.app _).le (by omega), a5.trans (Fr.app _)⟩
      · show fl (fm B) (.tup (.str h :: acc)) = _
        rw [fl_tup, a3]
      · have hy : y ∈ vr (.tup (.str h :: acc)) := hy
        rw [vr_tup] at hy
        obtain ⟨v, h1, h2⟩ := vrs_mem.mp hy
        exact (a2 v h1).2 y h2
theorem tup_mem {n : Nat} {a c : Val} {S : Hm} {r : Int} {Q : Post} (h : S[n]? = some (.lst [.tup [a, c], .tup [c, a]])) (h0 : 0 ≤ r) (h1 : r < 2) (hq : ∀ p : Val × Val, (p = (a, c) ∨ p = (c, a)) → Q (PrV p) S) : subW (.ref n) (.int r) S Q := by
  refine pick h h0 (by simpa using h1) fun v hv => ?_
  simp only [List.mem_cons, List.not_mem_nil, or_false] at hv
  rcases hv with rfl | rfl
  · exact hq (a, c) (.inl rfl)
  · exact hq (c, a) (.inr rfl)
/-- pairs of kinds that the joiner makes the same -/
structure Pq (B : List (Key × Val)) (ns bs : List String) (p : Val × Val) : Prop where
  k1 : IsK 5 p.1
  k2 : IsK 5 p.2
  eq : fl (fm B) p.1 = fl (fm B) p.2
  v1 : ∀ y ∈ vr p.1, y ∈ ns ++ bs
  v2 : ∀ y ∈ vr p.2, y ∈ ns ++ bs
  d : IsK 5 (fl (fm B) p.1)
theorem pairs_ok {k p c l h b : Nat} {hds : List Val} {T : Int} {S : Hm} (J : Jo ns bs B) (hP : Pot p c T S) (hl : S[l]? = some (.lst ((ns ++ bs).map .str))) (hb : S[b]? = some (.dic B)) (hh : S[h]? = some (.lst hds)) (hhs : ∀ v ∈ hds, IsHd v) (hh0 : 0 < hds.length) (hhl : hds.length ≤ 9)
    (lp : l ≠ p) (bp : b ≠ p) (bc : b ≠ c) (hp : h ≠ p) (nl : (ns ++ bs).length ≤ 12) (bl : B.length ≤ 9) (hT : T + 150000 ≤ 10 ^ 6) :
    callW P (k + 12) (.f "_law_pairs") [.ref p, .ref l, .ref h, .ref b] S (fun v S' => v = .ref S.length ∧ (∃ ps : List (Val × Val), S'[S.length]? = some (.lst (ps.map PrV)) ∧ (∀ q ∈ ps, Pq B ns bs q) ∧ ps.length ≤ 12) ∧ Pot p c (T + 150000) S' ∧ Fr p S S') noX := by
  have hlt := hP.lt
  refine call_open (k := k + 11) fn_f_law_pairs ⟨rfl, ?_⟩
  show wSs _ _ _ s5_f_law_pairs _ _ [some (.ref p), some (.ref l), some (.ref h), some (.ref b), none, none, none, none] S
  have turn : ∀ {S1 : Hm}, Pot p c T S1 → Fr p S S1 → S1[S.length]? = some (.lst []) → ∀ z : Int, 0 < z → z ≤ 12 → callW P (k + 11) (.f "_law_draw") [.ref p, .int z] S1 (fun y S2 => binW .Add (.int 1) y S2 fun x S1 => ∃ j, x = Val.int j ∧ rOk j ∧ forL (.nm 5) (fun x => True) (wSs P.con P.sub (callW P (k + 11)) s3_f_law_pairs fun c x S' => noX c S')
      { nx := fun env' S' => wSs P.con P.sub (callW P (k + 11)) s4_f_law_pairs (fun c x S' => noX c S') { nx := fun x S' => Val.non = .ref S.length ∧ (∃ ps : List (Val × Val), S'[S.length]? = some (.lst (ps.map PrV)) ∧ (∀ q ∈ ps, Pq B ns bs q) ∧ ps.length ≤ 12) ∧ Pot p c (T + 150000) S' ∧ Fr p S S', rt := fun v S' => v = .ref S.length ∧ (∃ ps : List (Val × Val), S'[S.length]? = some (.lst (ps.map PrV)) ∧ (∀ q ∈ ps, Pq B ns bs q) ∧ ps.length ≤ 12) ∧ Pot p c (T + 150000) S' ∧ Fr p S S' } env' S', rt := fun v S' => v = .ref S.length ∧ (∃ ps : List (Val × Val), S'[S.length]? = some (.lst (ps.map PrV)) ∧ (∀ q ∈ ps, Pq B ns bs q) ∧ ps.length ≤ 12) ∧ Pot p c (T + 150000) S' ∧ Fr p S S' }
      (rangeL 0 1 j.toNat) [some (.ref p), some (.ref l), some (.ref h), some (.ref b), some (.ref S.length), none, none, none] S1) noX := by
    intro S1 hp0 fr0 g0 z hz hz2
    refine call_use (draw_ok (k := k + 9) hp0 hz (by omega) (by omega)) ?_
    rintro _ S2 ⟨⟨r, rfl, a1, b1⟩, p2, f2, _⟩
    have g2 := f2.get (by omega) g0
    simp only [binW]
    refine ⟨1 + r, rfl, ⟨by omega, by omega⟩, ?_⟩
    refine for_inv (callW_mono P _) (fun i env S' => ∃ ps : List (Val × Val), ∃ x5 x6 x7, env = [some (.ref p), some (.ref l), some (.ref h), some (.ref b), some (.ref S.length), x5, x6, x7] ∧ S'[S.length]? = some (.lst (ps.map PrV)) ∧ (∀ q ∈ ps, Pq B ns bs q) ∧ ps.length = i ∧ Pot p c (T + 1 + 10300 * i) S' ∧ Fr p S S') ?_ ?_ ⟨[], none, none, none, rfl, g2, by simp, rfl, by simpa using p2, fr0.trans f2⟩
    · rintro i v env S' hi ⟨ps, x5, x6, x7, rfl, q0, q1, q2, q3, q4⟩
      obtain ⟨hi, rfl⟩ := range_get hi
      refine ⟨trivial, ?_⟩
      simp only [tgW, s3_f_law_pairs, wSs, wS, wT, wEs, wO, wPs, wC, wSrc, wE_loc, wE_lit, wE_con, wE_bin, wE_neg, wE_cmp, wE_cmp2, wE_isN, wE_notN, wE_isB, wE_not, wE_and, wE_or, wE_ite, wE_tup, wE_lst, wE_dic, wE_call, wE_make, wE_meth, wE_fld, wE_sub, wE_slice, wE_bi, wE_vi, wE_bm, wE_isi, wE_lc, wE_lck, eg, es, Option.some.injEq, exists_eq_left', Lit.val]
      refine call_use (draw_ok (k := k + 9) q3 (by decide) (by decide) (by omega)) ?_
      rintro _ S3 ⟨⟨r3, rfl, a3, b3⟩, p3, f3, _⟩
      simp only [binW]
      obtain ⟨r3, rfl⟩ : ∃ j : Nat, r3 = j := ⟨r3.toNat, by omega⟩
      have f03 := q4.trans f3
      have pw : (4 : Int) ^ (r3 + 1 + 2) ≤ 1024 := by
        have : r3 = 0 ∨ r3 = 1 ∨ r3 = 2 := by omega
        rcases this with rfl | rfl | rfl <;> decide
      rw [show (1 : Int) + (r3 : Int) = ((r3 + 1 : Nat) : Int) by omega]
      refine lift_to (k := k + 7 - r3 + (r3 + 1) + 3) (by omega) (call_use (kindv_ok (ls := ns ++ bs) (hs := hds) J.vq nl hhs hh0 hhl lp hp (r3 + 1) (k + 7 - r3) _ S3 p3 (f03.get lp hl) (f03.get hp hh) (by omega)) ?_)
      rintro u S4 ⟨ku, p4, f4⟩
      have ku := ku.le (show r3 + 1 ≤ 3 by omega)
      have f04 := f03.trans f4
      simp only [s2_f_law_pairs, wSs, wS, wT, wEs, wO, wPs, wC, wSrc, wE_loc, wE_lit, wE_con, wE_bin, wE_neg, wE_cmp, wE_cmp2, wE_isN, wE_notN, wE_isB, wE_not, wE_and, wE_or, wE_ite, wE_tup, wE_lst, wE_dic, wE_call, wE_make, wE_meth, wE_fld, wE_sub, wE_slice, wE_bi, wE_vi, wE_bm, wE_isi, wE_lc, wE_lck, eg, es, Option.some.injEq, exists_eq_left', Lit.val]
      refine call_use (filled_ok 3 u ku.k (k + 7) S4 (f04.get bp hb)) ?_
      rintro _ S5 ⟨rfl, lx, rfl⟩
      rw [sb_fl J.di 3 ku.k]
      have f05 := f04.trans (Fr.app (p := p) lx)
      have k5 : IsK 5 (fl (fm B) u) := fl_deep 3 ku.k fun y hy => (J.theta (ku.vars y hy)).k
      have v5 : ∀ y ∈ vr (fl (fm B) u), y ∈ bs := fun y hy => by
        obtain ⟨x, h1, h2⟩ := fl_vars 3 ku.k hy
        exact (J.theta (ku.vars x h1)).vars y h2
      have n5 := nod_isK k5
      refine lift_to (k := k + 2 + 5 + 4) (by omega) (call_use (folded_ok J bp bc bl 5 _ k5 v5 (by decide) (k + 2) _ _ (p4.app lx) (f05.get bp hb) (by omega)) ?_)
      rintro w S6 ⟨w1, w2, w3, p6, f6⟩
      have f06 := f05.trans f6
      simp only [s1_f_law_pairs, wSs, wS, wT, wEs, wO, wPs, wC, wSrc, wE_loc, wE_lit, wE_con, wE_bin, wE_neg, wE_cmp, wE_cmp2, wE_isN, wE_notN, wE_isB, wE_not, wE_and, wE_or, wE_ite, wE_tup, wE_lst, wE_dic, wE_call, wE_make, wE_meth, wE_fld, wE_sub, wE_slice, wE_bi, wE_vi, wE_bm, wE_isi, wE_lc, wE_lck, eg, es, Option.some.injEq, exists_eq_left', Lit.val, bmT]
      have q06 : S6[S.length]? = some (.lst (ps.map PrV)) := f6.get (by omega) (get_app (f4.get (by omega) (f3.get (by omega) q0)))
      refine ⟨⟨_, _, rfl, lst_at q06⟩, by rw [sizeLine_eq]; simp, by rw [sizeLine_eq]; simp, by rw [sizeLine_eq]; simp, ?_⟩
      have hlt6 := p6.lt
      refine call_use (draw_ok (k := k + 9) (p6.app [.lst [.tup [u, w], .tup [w, u]]]) (by decide) (by decide) (by omega)) ?_
      rintro _ S7 ⟨⟨r7, rfl, a7, b7⟩, p7, f7, _⟩
      refine tup_mem (f7.get (by omega) get_new) a7 b7 fun q hq => ?_
      have q07 : S7[S.length]? = some (.lst (ps.map PrV)) := f7.get (by omega) (get_app q06)
      simp only [bmW]
      have f07 := f06.trans ((Fr.app _).trans f7)
      have Q : Pq B ns bs q := by
        have A : Pq B ns bs (u, w) := ⟨ku.k.le (by decide), w1, w2.symm, ku.vars, w3, k5⟩
        rcases hq with rfl | rfl
        · exact A
        · exact ⟨A.k2, A.k1, A.eq.symm, A.v2, A.v1, by rw [← A.eq]; exact A.d⟩
      refine ⟨_, q07, by rw [sizeLine_eq, List.length_map]; omega, ps ++ [q], _, _, _, rfl, ?_, fun q' hq' => ?_, by simp [q2], (p7.set (by omega) (by omega)).le (by omega), f07.set (Nat.le_refl _)⟩
      · rw [get_set, q07]; simp
      · rcases List.mem_append.mp hq' with hq' | hq'
        · exact q1 q' hq'
        · rw [List.mem_singleton.mp hq']; exact Q
    · rintro env S' ⟨ps, x5, x6, x7, rfl, q0, q1, q2, q3, q4⟩
      rw [rangeL_len] at q2 q3
      refine ⟨trivial, ?_⟩
      simp only [s4_f_law_pairs, wSs, wS, wT, wEs, wO, wPs, wC, wSrc, wE_loc, wE_lit, wE_con, wE_bin, wE_neg, wE_cmp, wE_cmp2, wE_isN, wE_notN, wE_isB, wE_not, wE_and, wE_or, wE_ite, wE_tup, wE_lst, wE_dic, wE_call, wE_make, wE_meth, wE_fld, wE_sub, wE_slice, wE_bi, wE_vi, wE_bm, wE_isi, wE_lc, wE_lck, eg, es, Option.some.injEq, exists_eq_left', Lit.val]
      exact ⟨trivial, ⟨ps, q0, q1, by omega⟩, q3.le (by omega), q4⟩
  simp only [s5_f_law_pairs, wSs, wS, wT, wEs, wO, wPs, wC, wSrc, wE_loc, wE_lit, wE_con, wE_bin, wE_neg, wE_cmp, wE_cmp2, wE_isN, wE_notN, wE_isB, wE_not, wE_and, wE_or, wE_ite, wE_tup, wE_lst, wE_dic, wE_call, wE_make, wE_meth, wE_fld, wE_sub, wE_slice, wE_bi, wE_vi, wE_bm, wE_isi, wE_lc, wE_lck, eg, es, Option.some.injEq, exists_eq_left', Lit.val, biW]
  refine ⟨by rw [sizeLine_eq]; simp, by rw [sizeLine_eq]; simp, .inr ⟨B, get_app (get_app hb), ?_⟩⟩
  simp only [cmpW]
  have hp0 : Pot p c T (S ++ [Ob.lst []] ++ [Ob.lst [.int 5, .int 12]]) := (hP.app _).app _
  have fr0 : Fr p S (S ++ [Ob.lst []] ++ [Ob.lst [.int 5, .int 12]]) := (Fr.app _).trans (Fr.app _)
  have g0 : (S ++ [Ob.lst []] ++ [Ob.lst [.int 5, .int 12]])[S.length]? = some (.lst []) := get_app get_new
  have g1 : (S ++ [Ob.lst []] ++ [Ob.lst [.int 5, .int 12]])[(S ++ [Ob.lst []]).length]? = some (.lst [.int 5, .int 12]) := get_new
  generalize S ++ [Ob.lst []] ++ [Ob.lst [.int 5, .int 12]] = S1 at hp0 fr0 g0 g1
  by_cases hB : 6 < (B.length : Int)
  · rw [if_pos (decide_eq_true hB)]
    refine subW_lst (lst_at g1) (v := .int 12) rfl ?_
    exact turn hp0 fr0 g0 12 (by decide) (by decide)
  · rw [if_neg (by simpa using hB)]
    refine subW_lst (lst_at g1) (v := .int 5) rfl ?_
    exact turn hp0 fr0 g0 5 (by decide) (by decide)
end
end K23

set_option maxHeartbeats 1000000
namespace K23
open Mi PySem
/-! ### the law's look at what is told -/
theorem gat_vr {y : String} : ∀ (d : Nat) {v : Val}, IsK d v → ∀ acc, (y ∈ gat v acc ↔ y ∈ acc ∨ y ∈ vr v) := by
  intro d
  induction d using Nat.strongRecOn with
  | _ d ih =>
  intro v hv acc
  rcases isK_cases hv with ⟨s, rfl, q⟩ | ⟨e', h, vs, rfl, rfl, _, _, h3, _⟩
  · rcases gat_s q (acc := acc) with ⟨q1, e⟩ | ⟨q1, e⟩
    · rw [e, vr_var q1]
      by_cases hs : s ∈ acc
      · rw [if_pos hs]
        simp only [List.mem_singleton]
        exact ⟨.inl, fun z => by rcases z with z | z; exact z; rw [z]; exact hs⟩
      · rw [if_neg hs]; simp
    · rw [e]
      have : vr (.str s) = [] := by rw [vr, if_neg (by rw [q1]; decide)]
      rw [this]; simp
  · rw [gat_tup, vr_tup]
    have all : ∀ (ws : List Val), (∀ w ∈ ws, IsK e' w) → ∀ acc, (y ∈ gats ws acc ↔ y ∈ acc ∨ y ∈ vrs ws) := by
      intro ws
      induction ws with
      | nil => intro _ acc; simp [gats, vrs]
      | cons w ws ih2 =>
        intro hw acc
        rw [gats, ih2 (fun u hu => hw u (List.mem_cons_of_mem _ hu)), ih e' (by omega) (hw w List.mem_cons_self), vrs, List.mem_append, or_assoc]
    exact all vs h3 acc
section
variable {ps : List (Val × Val)}
theorem name_ok {k n0 : Nat} {ws : List String} {v : Val} {S : Hm} {x0 x2 x4 : Option Val} {D0 : Sp} (hv : IsK 5 v) (hn : S[n0]? = some (.lst (ws.map .str))) (hl : ws.length ≤ 10 ^ 5)
    (hD : ∀ (ws' : List String) (x4 : Option Val) (S2 : Hm), S2[n0]? = some (.lst (ws'.map .str)) → (∀ y ∈ ws, y ∈ ws') → (∀ y ∈ vr v, y ∈ ws') → (∀ y ∈ ws', y ∈ ws ∨ y ∈ vr v) → ws'.length ≤ ws.length + 1024 → Fr n0 S S2 → D0.nx [x0, some (.ref n0), x2, some v, x4] S2) :
    wSs P.con P.sub (callW P (k + 1)) s1_f_law_names (fun c x S' => noX c S') D0 [x0, some (.ref n0), x2, some v, x4] S := by
  have hnl := lt_of_get hn
  simp only [s1_f_law_names, wSs, wS, wT, wEs, wO, wPs, wC, wSrc, wE_loc, wE_lit, wE_con, wE_bin, wE_neg, wE_cmp, wE_cmp2, wE_isN, wE_notN, wE_isB, wE_not, wE_and, wE_or, wE_ite, wE_tup, wE_lst, wE_dic, wE_call, wE_make, wE_meth, wE_fld, wE_sub, wE_slice, wE_bi, wE_vi, wE_bm, wE_isi, wE_lc, wE_lck, eg, es, Option.some.injEq, exists_eq_left', Lit.val, bmT]
  refine ⟨⟨_, _, rfl, lst_at hn⟩, ?_⟩
  refine call_use (standing_ok (k := k) hv (by decide) rfl) ?_
  rintro _ S1 ⟨rfl, g1, g2, g3⟩
  have hn1 : S1[n0]? = some (.lst (ws.map .str)) := by rw [g3 n0 hnl]; exact hn
  have gl := gat_len v []
  have nk := nod_isK hv
  simp only [seqOf]
  refine ⟨_, lst_at g1, ?_⟩
  refine lcr_inv (callW_mono P _) (fun i acc S' => S' = S1 ∧ ∃ as : List String, acc = as.map .str ∧ (∀ s ∈ (gat v []).take i, s ∈ ws ∨ s ∈ as) ∧ as.length ≤ i ∧ ∀ s ∈ as, s ∈ gat v []) ?_ ?_ ⟨rfl, [], rfl, by simp, by simp, by simp⟩
  · rintro i w acc S' hi ⟨rfl, as, rfl, a1, a2, a3⟩
    rw [List.getElem?_map] at hi
    obtain ⟨s, hs, rfl⟩ := Option.map_eq_some_iff.mp hi
    have hil := lt_of_get hs
    refine ⟨lst_at g1, ?_⟩
    simp only [tgW, List.map_cons, List.map_nil, ewipe, wSs, wS, wT, wEs, wO, wPs, wC, wSrc, wE_loc, wE_lit, wE_con, wE_bin, wE_neg, wE_cmp, wE_cmp2, wE_isN, wE_notN, wE_isB, wE_not, wE_and, wE_or, wE_ite, wE_tup, wE_lst, wE_dic, wE_call, wE_make, wE_meth, wE_fld, wE_sub, wE_slice, wE_bi, wE_vi, wE_bm, wE_isi, wE_lc, wE_lck, eg, es, Option.some.injEq, exists_eq_left', Lit.val, cmpW]
    refine .inl ⟨_, lst_at hn1, .inl ⟨rfl, flat_strs ws, ?_⟩⟩
    rw [any_str]
    refine ⟨_, rfl, ?_⟩
    by_cases hm : s ∈ ws
    · rw [if_neg (by simpa using hm)]
      refine ⟨trivial, as, rfl, fun y hy => ?_, by omega, a3⟩
      rw [List.take_add_one, hs] at hy
      rcases List.mem_append.mp hy with hy | hy
      · exact a1 y hy
      · rw [show y = s by simpa using hy]; exact .inl hm
    · rw [if_pos (by simpa using hm)]
      refine ⟨by rw [sizeLine_eq, List.length_map]; simp at gl; omega, trivial, as ++ [s], by simp, fun y hy => ?_, by simp; omega, fun y hy => by
        rcases List.mem_append.mp hy with hy | hy
        · exact a3 y hy
        · rw [List.mem_singleton.mp hy]; exact List.mem_of_getElem? hs⟩
      rw [List.take_add_one, hs] at hy
      rcases List.mem_append.mp hy with hy | hy
      · rcases a1 y hy with h | h
        · exact .inl h
        · exact .inr (List.mem_append_left _ h)
      · rw [show y = s by simpa using hy]; exact .inr (by simp)
  · rintro acc S' ⟨rfl, as, rfl, a1, a2, a3⟩
    rw [List.length_map, List.take_length] at a1
    rw [List.length_map] at a2
    refine ⟨lst_at g1, ?_⟩
    simp only [bmW]
    have hlt1 := lt_of_get hn1
    refine ⟨_, _, get_app hn1, get_new, by rw [sizeLine_eq, List.length_map, List.length_map]; simp at gl; omega, ?_⟩
    refine hD (ws ++ as) _ _ ?_ (fun y hy => List.mem_append_left _ hy) (fun y hy => ?_) (fun y hy => by
      rcases List.mem_append.mp hy with hy | hy
      · exact .inl hy
      · exact .inr (by simpa using (gat_vr 5 hv []).mp (a3 y hy))) ?_ ⟨by simp; omega, fun n h1 h2 => ?_⟩
    · rw [get_set, get_app hn1]; simp
    · exact List.mem_append.mpr (a1 y ((gat_vr 5 hv []).mpr (.inr hy)))
    · simp at gl ⊢; omega
    · rw [get_ne h2, List.getElem?_append_left (by omega)]; exact g3 n h1
theorem names_ok {k q : Nat} {S : Hm} (hq : S[q]? = some (.lst (ps.map PrV))) (hk : ∀ p ∈ ps, IsK 5 p.1 ∧ IsK 5 p.2) (pl : ps.length ≤ 12) : callW P (k + 2) (.f "_law_names") [.ref q] S (fun v S' => v = .ref S.length ∧ (∃ ws : List String, S'[S.length]? = some (.lst (ws.map .str)) ∧ ws.length ≤ 30000 ∧ (∀ p ∈ ps, ∀ y, y ∈ vr p.1 ∨ y ∈ vr p.2 → y ∈ ws) ∧ ∀ y ∈ ws, ∃ p ∈ ps, y ∈ vr p.1 ∨ y ∈ vr p.2) ∧ Kp S S') noX := by
  refine call_open (k := k + 1) fn_f_law_names ⟨rfl, ?_⟩
  show wSs _ _ _ s4_f_law_names _ _ [some (.ref q), none, none, none, none] S
  have hql := lt_of_get hq
  simp only [s4_f_law_names, wSs, wS, wT, wEs, wO, wPs, wC, wSrc, wE_loc, wE_lit, wE_con, wE_bin, wE_neg, wE_cmp, wE_cmp2, wE_isN, wE_notN, wE_isB, wE_not, wE_and, wE_or, wE_ite, wE_tup, wE_lst, wE_dic, wE_call, wE_make, wE_meth, wE_fld, wE_sub, wE_slice, wE_bi, wE_vi, wE_bm, wE_isi, wE_lc, wE_lck, eg, es, Option.some.injEq, exists_eq_left', Lit.val, seqOf]
  refine ⟨by rw [sizeLine_eq]; simp, _, lst_at (get_app hq), ?_⟩
  refine for_inv (callW_mono P _) (fun i env S' => ∃ (ws : List String) (x2 x3 x4 : Option Val), env = [some (.ref q), some (.ref S.length), x2, x3, x4] ∧ S'[S.length]? = some (.lst (ws.map .str)) ∧ ws.length ≤ 2048 * i ∧ (∀ p ∈ ps.take i, ∀ y, y ∈ vr p.1 ∨ y ∈ vr p.2 → y ∈ ws) ∧ (∀ y ∈ ws, ∃ p ∈ ps, y ∈ vr p.1 ∨ y ∈ vr p.2) ∧ Kp S S') ?_ ?_ ⟨[], none, none, none, rfl, get_new, by simp, by simp, by simp, Kp.app _⟩
  · rintro i v env S1 hi ⟨ws, x2, x3, x4, rfl, g0, g1, g2, g3, kp⟩
    rw [List.getElem?_map] at hi
    obtain ⟨p, hp, rfl⟩ := Option.map_eq_some_iff.mp hi
    have hil := lt_of_get hp
    obtain ⟨k1, k2⟩ := hk p (List.mem_of_getElem? hp)
    refine ⟨lst_at (kp.get hq), ?_⟩
    simp only [tgW, s2_f_law_names, wSs, wS, wT, wEs, wO, wPs, wC, wSrc, wE_loc, wE_lit, wE_con, wE_bin, wE_neg, wE_cmp, wE_cmp2, wE_isN, wE_notN, wE_isB, wE_not, wE_and, wE_or, wE_ite, wE_tup, wE_lst, wE_dic, wE_call, wE_make, wE_meth, wE_fld, wE_sub, wE_slice, wE_bi, wE_vi, wE_bm, wE_isi, wE_lc, wE_lck, eg, es, Option.some.injEq, exists_eq_left', Lit.val, seqOf, forL]
    refine ⟨trivial, name_ok (k := k) k1 g0 (by omega) fun ws1 x4 S2 h0 h1 h2 h2b h3 f1 => ⟨trivial, name_ok (k := k) k2 h0 (by omega) fun ws2 x4 S3 j0 j1 j2 j2b j3 f2 => ⟨trivial, ws2, _, _, _, rfl, j0, by omega, fun p' hp' y hy => ?_, fun y hy => ?_, ?_⟩⟩⟩
    · rw [List.take_add_one, hp] at hp'
      rcases List.mem_append.mp hp' with hp' | hp'
      · exact j1 y (h1 y (g2 p' hp' y hy))
      · rw [show p' = p by simpa using hp'] at hy
        rcases hy with hy | hy
        · exact j1 y (h2 y hy)
        · exact j2 y hy
    · have pm := List.mem_of_getElem? hp
      rcases j2b y hy with hy | hy
      · rcases h2b y hy with hy | hy
        · exact g3 y hy
        · exact ⟨p, pm, .inl hy⟩
      · exact ⟨p, pm, .inr hy⟩
    · have l1 := kp.1
      have l2 := f1.1
      have l3 := f2.1
      exact ⟨by omega, fun n hn => by rw [f2.2 n (by omega) (by omega), f1.2 n (by omega) (by omega)]; exact kp.2 n hn⟩
  · rintro env S1 ⟨ws, x2, x3, x4, rfl, g0, g1, g2, g3, kp⟩
    rw [List.length_map] at g1 g2
    rw [List.take_length] at g2
    refine ⟨lst_at (kp.get hq), ?_⟩
    simp only [s3_f_law_names, wSs, wS, wT, wEs, wO, wPs, wC, wSrc, wE_loc, wE_lit, wE_con, wE_bin, wE_neg, wE_cmp, wE_cmp2, wE_isN, wE_notN, wE_isB, wE_not, wE_and, wE_or, wE_ite, wE_tup, wE_lst, wE_dic, wE_call, wE_make, wE_meth, wE_fld, wE_sub, wE_slice, wE_bi, wE_vi, wE_bm, wE_isi, wE_lc, wE_lck, eg, es, Option.some.injEq, exists_eq_left', Lit.val]
    exact ⟨trivial, ⟨ws, g0, by omega, g2, g3⟩, kp⟩
end
end K23

set_option maxHeartbeats 1000000
namespace K23
open Mi PySem
/-! ### the law -/
theorem vr_vq : ∀ (n : Nat) {v : Val}, IsK n v → ∀ y ∈ vr v, VQ y := by
  intro n
  induction n using Nat.strongRecOn with
  | _ n ih =>
  intro v hv y hy
  rcases isK_cases hv with ⟨s, rfl, q | ⟨q, l⟩⟩ | ⟨e, h, vs, rfl, rfl, _, _, h3, _⟩
  · rw [vr_var q] at hy; rw [List.mem_singleton.mp hy]; exact q
  · rw [vr_nam q l] at hy; cases hy
  · rw [vr_tup] at hy
    obtain ⟨v, h1, h2⟩ := vrs_mem.mp hy
    exact ih e (by omega) (h3 v h1) y h2
theorem dat_self {S : Hm} {d : Nat} {v : Val} (h : IsK d v) {k : Nat} (hk : d ≤ k) : ∃ x, dat S k v = some x ∧ PyData.eqv x x = true := by
  obtain ⟨x, y, e1, e2, e3⟩ := dat2 (S := S) k v v (h.le hk) (h.le hk)
  rw [e1] at e2
  cases e2
  exact ⟨x, e1, by rw [e3]; simp⟩
theorem list_same {S : Hm} {a b e : Nat} {ps : List (Val × Val)} {Q : Bool → Prop} (ha : S[a]? = some (.lst (ps.map PrV))) (hb : S[b]? = some (.lst (ps.map PrV))) (hk : ∀ p ∈ ps, IsK e p.1 ∧ IsK e p.2) (he : e ≤ 50) (q : Q true) : eqW (.ref a) (.ref b) S Q := by
  have all : ∀ ws : List (Val × Val), (∀ p ∈ ws, IsK e p.1 ∧ IsK e p.2) → ∃ xs, (ws.map PrV).mapM (dat S 59) = some xs ∧ PyData.eqvAll xs xs = true := by
    intro ws
    induction ws with
    | nil => intro _; exact ⟨[], rfl, by simp only [PyData.eqvAll]⟩
    | cons w r ih =>
      intro hw
      obtain ⟨h1, h2⟩ := hw w List.mem_cons_self
      obtain ⟨x, e1, e2⟩ := dat_self (S := S) h1 (k := 58) (by omega)
      obtain ⟨y, e3, e4⟩ := dat_self (S := S) h2 (k := 58) (by omega)
      obtain ⟨xs, e5, e6⟩ := ih fun u hu => hw u (List.mem_cons_of_mem _ hu)
      have ep : dat S 59 (PrV w) = some (.tuple [x, y]) := dat_t (k := 58) (by rw [List.mapM_cons, e1, List.mapM_cons, e3, List.mapM_nil]; rfl)
      refine ⟨.tuple [x, y] :: xs, by rw [List.map_cons, List.mapM_cons, ep, e5]; rfl, ?_⟩
      simp only [PyData.eqvAll, PyData.eqv, e2, e4, e6, Bool.and_self]
  obtain ⟨xs, e1, e2⟩ := all ps hk
  refine .inl ⟨.list xs, .list xs, ?_, ?_, ?_⟩
  · simp only [dat, lst_at ha]; rw [e1]; rfl
  · simp only [dat, lst_at hb]; rw [e1]; rfl
  · have : PyData.eqv (.list xs) (.list xs) = true := by simp only [PyData.eqv]; exact e2
    rw [this]; exact q
theorem many_ok {k p c : Nat} {T : Int} {S : Hm} (hP : Pot p c T S) (hT : T + 2 ≤ 10 ^ 6) : callW P (k + 3) (.f "_law_many") [.ref p] S (fun v S' => (∃ m : Nat, v = .int m ∧ 3 ≤ m ∧ m ≤ 9) ∧ Pot p c (T + 2) S' ∧ Fr p S S') noX := by
  refine call_open (k := k + 2) fn_f_law_many ⟨rfl, ?_⟩
  show wSs _ _ _ s3_f_law_many _ _ [some (.ref p)] S
  simp only [s3_f_law_many, wSs, wS, wT, wEs, wO, wPs, wC, wSrc, wE_loc, wE_lit, wE_con, wE_bin, wE_neg, wE_cmp, wE_cmp2, wE_isN, wE_notN, wE_isB, wE_not, wE_and, wE_or, wE_ite, wE_tup, wE_lst, wE_dic, wE_call, wE_make, wE_meth, wE_fld, wE_sub, wE_slice, wE_bi, wE_vi, wE_bm, wE_isi, wE_lc, wE_lck, eg, es, Option.some.injEq, exists_eq_left', Lit.val]
  refine call_use (draw_ok (k := k) hP (by decide) (by decide) (by omega)) ?_
  rintro _ S1 ⟨⟨r, rfl, a1, b1⟩, p1, f1, _⟩
  simp only [cmpW, eqW_int]
  refine ⟨_, rfl, ?_⟩
  by_cases hr : r = 0
  · rw [if_pos (decide_eq_true hr)]
    simp only [s1_f_law_many, wSs, wS, wT, wEs, wO, wPs, wC, wSrc, wE_loc, wE_lit, wE_con, wE_bin, wE_neg, wE_cmp, wE_cmp2, wE_isN, wE_notN, wE_isB, wE_not, wE_and, wE_or, wE_ite, wE_tup, wE_lst, wE_dic, wE_call, wE_make, wE_meth, wE_fld, wE_sub, wE_slice, wE_bi, wE_vi, wE_bm, wE_isi, wE_lc, wE_lck, eg, es, Option.some.injEq, exists_eq_left', Lit.val]
    refine call_use (draw_ok (k := k) p1 (by decide) (by decide) (by omega)) ?_
    rintro _ S2 ⟨⟨r2, rfl, a2, b2⟩, p2, f2, _⟩
    simp only [binW]
    exact ⟨⟨(7 + r2).toNat, by congr 1; omega, by omega, by omega⟩, p2.le (by omega), f1.trans f2⟩
  · rw [if_neg (by simpa using hr)]
    simp only [s2_f_law_many, wSs, wS, wT, wEs, wO, wPs, wC, wSrc, wE_loc, wE_lit, wE_con, wE_bin, wE_neg, wE_cmp, wE_cmp2, wE_isN, wE_notN, wE_isB, wE_not, wE_and, wE_or, wE_ite, wE_tup, wE_lst, wE_dic, wE_call, wE_make, wE_meth, wE_fld, wE_sub, wE_slice, wE_bi, wE_vi, wE_bm, wE_isi, wE_lc, wE_lck, eg, es, Option.some.injEq, exists_eq_left', Lit.val]
    refine call_use (draw_ok (k := k) p1 (by decide) (by decide) (by omega)) ?_
    rintro _ S2 ⟨⟨r2, rfl, a2, b2⟩, p2, f2, _⟩
    simp only [binW]
    exact ⟨⟨(3 + r2).toNat, by congr 1; omega, by omega, by omega⟩, p2.le (by omega), f1.trans f2⟩
theorem nods_le {b : Nat} : ∀ {ws : List Val}, (∀ w ∈ ws, nod w ≤ b) → nods ws ≤ ws.length * b
  | [], _ => by simp [nods]
  | w :: ws, h => by
    have h1 := h w List.mem_cons_self
    have h2 := nods_le (b := b) (ws := ws) fun u hu => h u (List.mem_cons_of_mem _ hu)
    rw [nods, List.length_cons, Nat.succ_mul]
    omega
theorem Kp.fr {S S' : Hm} (h : Kp S S') (p : Nat) : Fr p S S' := ⟨h.1, fun n hn _ => h.2 n hn⟩
theorem Pot.kp {p c : Nat} {T : Int} {S S' : Hm} (h : Pot p c T S) (k : Kp S S') : Pot p c T S' := by
  obtain ⟨⟨a, d, t, h1, h2⟩, ⟨ns, h3⟩, h4⟩ := h
  exact ⟨⟨a, d, t, k.get h1, h2⟩, ⟨ns, k.get h3⟩, h4⟩
/-- pairs over drawn variables -/
def Vp (ps : List (Val × Val)) (y : String) : Prop := ∃ p ∈ ps, y ∈ vr p.1 ∨ y ∈ vr p.2
section
variable {ns bs : List String} {B : List (Key × Val)} {ps qs : List (Val × Val)}
theorem told_ok {k q : Nat} {S : Hm} (J : Jo ns bs B) (nl : (ns ++ bs).length ≤ 12) (hps : ∀ p ∈ ps, Pq B ns bs p) (pl : qs.length ≤ 12) (hqs : ∀ p, p ∈ qs ↔ p ∈ ps) (hq : S[q]? = some (.lst (qs.map PrV))) :
    callW P (k + 20) (.f "joined") [.ref q] S (fun r S' => ∃ n D, r = .ref n ∧ S.length ≤ n ∧ S'[n]? = some (.dic D) ∧ Gd (fm B) (Vp ps) 2 ps D ∧ Kp S S') noX := by
  have inV : ∀ y, Vp ps y → y ∈ ns ++ bs := fun y ⟨p, hp, h⟩ => by
    rcases h with h | h
    · exact (hps p hp).v1 y h
    · exact (hps p hp).v2 y h
  refine call_use (joined_ok (k := k) (θ := fm B) (V := Vp ps) (e := 5) (d := 2) (ls := ns ++ bs) hq (by decide) (fun p hp => ?_) (fun y hy => J.vq y (inV y hy)) (fun x hx => (J.theta (inV x hx)).k) (by decide) ?_ inV (by omega)) ?_
  · have hp := (hqs p).mp hp
    have h := hps p hp
    exact ⟨h.k1, h.k2, h.eq, fun y hy => ⟨p, hp, .inl hy⟩, fun y hy => ⟨p, hp, .inr hy⟩⟩
  · have := nods_le (b := 4 ^ 5) (ws := qs.map fun w => fl (fm B) w.1) fun w hw => by
      obtain ⟨p, hp, rfl⟩ := List.mem_map.mp hw
      exact nod_isK (hps p ((hqs p).mp hp)).d
    rw [List.length_map] at this
    have h2 : qs.length * 4 ^ 5 ≤ 12 * 4 ^ 5 := Nat.mul_le_mul_right _ pl
    omega
  · rintro r S' ⟨n, D, rfl, h1, h2, G, kp⟩
    exact ⟨n, D, rfl, h1, h2, ⟨G.di, fun p hp => G.eqs p ((hqs p).mpr hp), G.kv, G.sol, fun z => G.same fun p hp => z p ((hqs p).mp hp), G.len⟩, kp⟩
end
end K23

set_option maxHeartbeats 1000000
namespace K23
open Mi PySem
/-! ### matched -/
section
variable {θ : String → Val} {ws0 : List (Val × Val)}
theorem matched_ok {k q : Nat} {S : Hm} (hq : S[q]? = some (.lst (ws0.map PrV))) (hw0 : ∀ p ∈ ws0, IsK 5 p.1 ∧ IsK 5 p.2 ∧ fl θ p.1 = p.2) (hsz : nods (ws0.map (·.1)) ≤ 10 ^ 6) : callW P (k + 1) (.f "_law_matched") [.ref q] S (fun r S' => (∃ n, r = .ref n) ∧ Kp S S') noX := by
  refine call_open fn_f_law_matched ⟨rfl, ?_⟩
  show wSs _ _ _ s11_f_law_matched _ _ [some (.ref q), none, none, none, none] S
  have hql := lt_of_get hq
  simp only [s11_f_law_matched, wSs, wS, wPs, List.foldl_nil, wEs, wE_dic, wE_bi, wE_loc, eg, es, Option.some.injEq, exists_eq_left', biW]
  refine ⟨_, lst_at (get_app hq), ?_⟩
  have len1 : (S ++ [Ob.dic []]).length = S.length + 1 := by simp
  rw [len1]
  refine while_inv (callW_mono P _) (fun n env S' => ∃ (ws : List (Val × Val)) (acc : List (Key × Val)) (x3 x4 : Option Val), env = [some (.ref q), some (.ref S.length), some (.ref (S.length + 1)), x3, x4] ∧ nods (ws.map (·.1)) = n ∧ (∀ p ∈ ws, IsK 5 p.1 ∧ IsK 5 p.2 ∧ fl θ p.1 = p.2) ∧ S'[S.length]? = some (.dic acc) ∧ S'[S.length + 1]? = some (.lst (ws.map PrV)) ∧ (∀ x v, lookK acc (.inr x) = some v → θ x = v) ∧ acc.length + nods (ws.map (·.1)) ≤ 10 ^ 6 ∧ Kp S S') ?_ (n := nods (ws0.map (·.1))) ?_
  rotate_left
  · refine ⟨ws0, [], none, none, rfl, rfl, hw0, get_app get_new, ?_, fun x v h => by simp [lookK] at h, by simpa using hsz, (Kp.app _).trans (Kp.app _)⟩
    rw [← len1]; exact get_new
  rintro n env S1 ⟨ws, acc, x3, x4, rfl, rfl, hw, g1, g2, hc, hB, kp⟩
  have hlt := lt_of_get g2
  simp only [wSs, wS, wT, wEs, wO, wPs, wC, wSrc, wE_loc, wE_lit, wE_con, wE_bin, wE_neg, wE_cmp, wE_cmp2, wE_isN, wE_notN, wE_isB, wE_not, wE_and, wE_or, wE_ite, wE_tup, wE_lst, wE_dic, wE_call, wE_make, wE_meth, wE_fld, wE_sub, wE_slice, wE_bi, wE_vi, wE_bm, wE_isi, wE_lc, wE_lck, eg, es, Option.some.injEq, exists_eq_left', Lit.val]
  refine lenW_lst (lst_at g2) ?_
  simp only [cmpW]
  refine ⟨_, rfl, ?_⟩
  rcases List.eq_nil_or_concat ws with rfl | ⟨us, w, rfl⟩
  · rw [if_neg (by simp)]
    simp only [s10_f_law_matched, wSs, wS, wT, wEs, wO, wPs, wC, wSrc, wE_loc, wE_lit, wE_con, wE_bin, wE_neg, wE_cmp, wE_cmp2, wE_isN, wE_notN, wE_isB, wE_not, wE_and, wE_or, wE_ite, wE_tup, wE_lst, wE_dic, wE_call, wE_make, wE_meth, wE_fld, wE_sub, wE_slice, wE_bi, wE_vi, wE_bm, wE_isi, wE_lc, wE_lck, eg, es, Option.some.injEq, exists_eq_left', Lit.val]
    exact ⟨⟨_, rfl⟩, kp⟩
  rw [List.concat_eq_append] at *
  rw [if_pos (by simp)]
  obtain ⟨ka, kb, eab⟩ := hw w (by simp)
  obtain ⟨a, b⟩ := w
  dsimp only at ka kb eab
  have hus : ∀ p ∈ us, IsK 5 p.1 ∧ IsK 5 p.2 ∧ fl θ p.1 = p.2 := fun p h => hw p (List.mem_append_left _ h)
  have hn : nods ((us ++ [(a, b)]).map (·.1)) = nods (us.map (·.1)) + nod a := by rw [List.map_append, nods_app]; simp [nods]
  have npos := nod_pos a
  simp only [s9_f_law_matched, wSs, wS, wT, wEs, wO, wPs, wC, wSrc, wE_loc, wE_lit, wE_con, wE_bin, wE_neg, wE_cmp, wE_cmp2, wE_isN, wE_notN, wE_isB, wE_not, wE_and, wE_or, wE_ite, wE_tup, wE_lst, wE_dic, wE_call, wE_make, wE_meth, wE_fld, wE_sub, wE_slice, wE_bi, wE_vi, wE_bm, wE_isi, wE_lc, wE_lck, eg, es, Option.some.injEq, exists_eq_left', Lit.val, bmT, bmW]
  refine ⟨⟨_, _, rfl, lst_at g2⟩, _, PrV (a, b), g2, by simp, ?_⟩
  rw [List.map_append, List.map_singleton, List.dropLast_concat]
  have h1 : (S1.set (S.length + 1) (.lst (us.map PrV)))[S.length]? = some (.dic acc) := by rw [get_ne (by omega)]; exact g1
  have h2 : (S1.set (S.length + 1) (.lst (us.map PrV)))[S.length + 1]? = some (.lst (us.map PrV)) := by rw [get_set, g2]; rfl
  have kp2 : Kp S (S1.set (S.length + 1) (.lst (us.map PrV))) := kp.set (by omega)
  generalize S1.set (S.length + 1) (.lst (us.map PrV)) = S2 at h1 h2 kp2
  have lt2 := lt_of_get h2
  simp only [tgW, Val.tup.injEq, exists_eq_left', List.length_cons, List.length_nil, List.zip_cons_cons, List.zip_nil_right, List.foldl_cons, List.foldl_nil, es, true_and, wSs, wS, wT, wEs, wO, wPs, wC, wSrc, wE_loc, wE_lit, wE_con, wE_bin, wE_neg, wE_cmp, wE_cmp2, wE_isN, wE_notN, wE_isB, wE_not, wE_and, wE_or, wE_ite, wE_tup, wE_lst, wE_dic, wE_call, wE_make, wE_meth, wE_fld, wE_sub, wE_slice, wE_bi, wE_vi, wE_bm, wE_isi, wE_lc, wE_lck, eg, es, Option.some.injEq, exists_eq_left', Lit.val]
  have go : ∀ (ws' : List (Val × Val)) (acc' : List (Key × Val)) (x3 x4 : Option Val) (S3 : Hm), nods (ws'.map (·.1)) < nods ((us ++ [(a, b)]).map (·.1)) → (∀ p ∈ ws', IsK 5 p.1 ∧ IsK 5 p.2 ∧ fl θ p.1 = p.2) → S3[S.length]? = some (.dic acc') → S3[S.length + 1]? = some (.lst (ws'.map PrV)) → (∀ x v, lookK acc' (.inr x) = some v → θ x = v) → acc'.length + nods (ws'.map (·.1)) ≤ 10 ^ 6 → Kp S S3 →
      ∃ m, m < nods ((us ++ [(a, b)]).map (·.1)) ∧ ∃ (ws : List (Val × Val)) (acc : List (Key × Val)) (y3 y4 : Option Val), [some (Val.ref q), some (.ref S.length), some (.ref (S.length + 1)), x3, x4] = [some (.ref q), some (.ref S.length), some (.ref (S.length + 1)), y3, y4] ∧ nods (ws.map (·.1)) = m ∧ (∀ p ∈ ws, IsK 5 p.1 ∧ IsK 5 p.2 ∧ fl θ p.1 = p.2) ∧ S3[S.length]? = some (.dic acc) ∧ S3[S.length + 1]? = some (.lst (ws.map PrV)) ∧ (∀ x v, lookK acc (.inr x) = some v → θ x = v) ∧ acc.length + nods (ws.map (·.1)) ≤ 10 ^ 6 ∧ Kp S S3 :=
    fun ws' acc' x3 x4 S3 a1 a2 a3 a4 a5 a6 a7 => ⟨_, a1, ws', acc', x3, x4, rfl, rfl, a2, a3, a4, a5, a6, a7⟩
  rcases isK_cases ka with ⟨s, rfl, q | ⟨q, l⟩⟩ | ⟨e', h, vs, he, rfl, _, _, h3, h4⟩
  · refine ⟨[false], rfl, false, rfl, ?_⟩
    rw [if_neg (by decide)]
    simp only [s8_f_law_matched, wSs, wS, wT, wEs, wO, wPs, wC, wSrc, wE_loc, wE_lit, wE_con, wE_bin, wE_neg, wE_cmp, wE_cmp2, wE_isN, wE_notN, wE_isB, wE_not, wE_and, wE_or, wE_ite, wE_tup, wE_lst, wE_dic, wE_call, wE_make, wE_meth, wE_fld, wE_sub, wE_slice, wE_bi, wE_vi, wE_bm, wE_isi, wE_lc, wE_lck, eg, es, Option.some.injEq, exists_eq_left', Lit.val, bmT, bmW]
    rw [starts_var q]
    refine ⟨⟨_, rfl⟩, true, rfl, ?_⟩
    rw [if_pos rfl]
    rw [fl_var q] at eab
    simp only [s5_f_law_matched, wSs, wS, wT, wEs, wO, wPs, wC, wSrc, wE_loc, wE_lit, wE_con, wE_bin, wE_neg, wE_cmp, wE_cmp2, wE_isN, wE_notN, wE_isB, wE_not, wE_and, wE_or, wE_ite, wE_tup, wE_lst, wE_dic, wE_call, wE_make, wE_meth, wE_fld, wE_sub, wE_slice, wE_bi, wE_vi, wE_bm, wE_isi, wE_lc, wE_lck, eg, es, Option.some.injEq, exists_eq_left', Lit.val, bmT, bmW]
    refine ⟨⟨_, _, rfl, h1⟩, acc, .inr s, h1, rfl, by rw [sizeLine_eq]; omega, fun v hv => ?_, fun hv => ?_⟩
    · have : v = b := by rw [← hc s v hv]; exact eab
      subst this
      simp only [cmpW]
      refine eq_isK kb kb (by decide) (by decide) ⟨_, rfl, ?_⟩
      rw [if_neg (by simp)]
      exact go us acc _ _ S2 (by omega) hus h1 h2 hc (by omega) kp2
    · simp only [cmpW]
      refine eq_isK kb kb (by decide) (by decide) ⟨_, rfl, ?_⟩
      rw [if_neg (by simp)]
      refine go us (acc ++ [(.inr s, b)]) _ _ _ (by omega) hus ?_ ?_ (fun x v hx => ?_) (by simp; omega) (kp2.set (Nat.le_refl _))
      · rw [get_set, h1, put_none hv]; rfl
      · rw [get_ne (by omega)]; exact h2
      · rw [look_app hv] at hx
        split at hx
        · rename_i z; cases hx; rw [z]; exact eab
        · exact hc x v hx
  · refine ⟨[false], rfl, false, rfl, ?_⟩
    rw [if_neg (by decide)]
    simp only [s8_f_law_matched, wSs, wS, wT, wEs, wO, wPs, wC, wSrc, wE_loc, wE_lit, wE_con, wE_bin, wE_neg, wE_cmp, wE_cmp2, wE_isN, wE_notN, wE_isB, wE_not, wE_and, wE_or, wE_ite, wE_tup, wE_lst, wE_dic, wE_call, wE_make, wE_meth, wE_fld, wE_sub, wE_slice, wE_bi, wE_vi, wE_bm, wE_isi, wE_lc, wE_lck, eg, es, Option.some.injEq, exists_eq_left', Lit.val, bmT, bmW]
    rw [starts_nam q l]
    refine ⟨⟨_, rfl⟩, false, rfl, ?_⟩
    rw [if_neg (by decide)]
    rw [fl_nam q l] at eab
    subst eab
    simp only [s7_f_law_matched, wSs, wS, wT, wEs, wO, wPs, wC, wSrc, wE_loc, wE_lit, wE_con, wE_bin, wE_neg, wE_cmp, wE_cmp2, wE_isN, wE_notN, wE_isB, wE_not, wE_and, wE_or, wE_ite, wE_tup, wE_lst, wE_dic, wE_call, wE_make, wE_meth, wE_fld, wE_sub, wE_slice, wE_bi, wE_vi, wE_bm, wE_isi, wE_lc, wE_lck, eg, es, Option.some.injEq, exists_eq_left', Lit.val, cmpW]
    refine eq_isK kb kb (by decide) (by decide) ⟨_, rfl, ?_⟩
    rw [if_neg (by simp)]
    exact go us acc _ _ S2 (by omega) hus h1 h2 hc (by omega) kp2
  · rw [fl_tup] at eab
    subst eab
    refine ⟨[true], rfl, true, rfl, ?_⟩
    rw [if_pos rfl]
    simp only [s3_f_law_matched, wSs, wS, wT, wEs, wO, wPs, wC, wSrc, wE_loc, wE_lit, wE_con, wE_bin, wE_neg, wE_cmp, wE_cmp2, wE_isN, wE_notN, wE_isB, wE_not, wE_and, wE_or, wE_ite, wE_tup, wE_lst, wE_dic, wE_call, wE_make, wE_meth, wE_fld, wE_sub, wE_slice, wE_bi, wE_vi, wE_bm, wE_isi, wE_lc, wE_lck, eg, es, Option.some.injEq, exists_eq_left', Lit.val, biW, cmpW]
    refine ⟨[true], rfl, true, rfl, ?_⟩
    rw [if_neg (by decide)]
    refine ⟨_, atI_zero, _, atI_zero, ?_⟩
    simp only [eqW_str, truth, Option.some.injEq, exists_eq_left']
    rw [if_neg (by simp), eqW_int]
    rw [if_neg (by simp)]
    simp (config := {maxSteps := 2000000}) only [s2_f_law_matched, wSs, wS, wT, wEs, wO, wPs, wC, wSrc, wE_loc, wE_lit, wE_con, wE_bin, wE_neg, wE_cmp, wE_cmp2, wE_isN, wE_notN, wE_isB, wE_not, wE_and, wE_or, wE_ite, wE_tup, wE_lst, wE_dic, wE_call, wE_make, wE_meth, wE_fld, wE_sub, wE_slice, wE_bi, wE_vi, wE_bm, wE_isi, wE_lc, wE_lck, eg, es, Option.some.injEq, exists_eq_left', Lit.val, bmT, sliceW, Val.int.injEq, exists_eq_left', viW, ltOf, bmW, cut_tl]
    rw [nod, nodT] at hn npos
    have zl : (vs.zip (vs.map (fl θ))).length ≤ 3 := by rw [List.length_zip]; omega
    have usl := nods_len (us.map (·.1))
    rw [List.length_map] at usl
    refine ⟨⟨_, _, rfl, lst_at h2⟩, _, _, get_app h2, get_new, by rw [pairL_zip, List.length_map, List.length_map, sizeLine_eq]; omega, ?_⟩
    rw [pairL_zip, ← List.map_append]
    have z : ((vs.zip (vs.map (fl θ))).map (·.1)) = vs := zip_fst (by simp)
    refine go (us ++ vs.zip (vs.map (fl θ))) acc _ _ _ ?_ (fun p hp => ?_) ?_ ?_ hc ?_ ((kp2.trans (Kp.app _)).set (by omega))
    · rw [List.map_append, nods_app, z, hn]; omega
    · rcases List.mem_append.mp hp with hp | hp
      · exact hus p hp
      · have hp1 := (zip_in hp).1
        have hp2 := (zip_in hp).2
        refine ⟨(h3 _ hp1).le (by omega), ?_, ?_⟩
        · rcases isK_cases kb with ⟨s, z, _⟩ | ⟨e2, h', us2, e5, z, _, _, g, _⟩
          · cases z
          · injection z with z; injection z with _ z; subst z
            exact (g _ hp2).le (by omega)
        · obtain ⟨i, hi⟩ := List.getElem?_of_mem hp
          rw [List.getElem?_zip_eq_some, List.getElem?_map] at hi
          rw [hi.1] at hi
          simpa using hi.2
    · rw [get_ne (by omega)]; exact get_app h1
    · rw [get_set, get_app h2]; rfl
    · rw [List.map_append, nods_app, z]; omega
end
end K23

set_option maxHeartbeats 1000000
namespace K23
open Mi PySem
theorem cut_upto {α : Type} {l : List α} {n : Nat} (h : n ≤ l.length) : cut l none (some (n : Int)) = l.take n := by
  unfold cut
  have h0 : sIx l.length 0 none = 0 := rfl
  have h1 : sIx l.length l.length (some (n : Int)) = n := by
    unfold sIx
    dsimp only
    rw [if_neg (by omega)]
    simp; omega
  rw [h0, h1]; simp
theorem cut_from {α : Type} {l : List α} {n : Nat} (h : n ≤ l.length) : cut l (some (n : Int)) none = l.drop n := by
  unfold cut
  have h0 : sIx l.length 0 (some (n : Int)) = n := by
    unfold sIx
    dsimp only
    rw [if_neg (by omega)]
    simp; omega
  have h1 : sIx l.length l.length none = l.length := rfl
  rw [h0, h1, List.take_of_length_le (by simp)]
theorem turn_ok {h l : Nat} {ls : List String} {hs : List Val} (hls : ∀ w ∈ ls, VQ w) (hnd : ls.Nodup) (hll : ls.length = 12) (hhs : ∀ v ∈ hs, IsHd v) (hh0 : 0 < hs.length) (hhl : hs.length ≤ 9) (lp : l ≠ 3) (hp : h ≠ 3)
    {D0 : Sp} {T : Int} {S : Hm} {x4 x5 x6 x7 x8 x9 x10 x11 : Option Val} (P0 : Pot 3 2 T S) (hl : S[l]? = some (.lst (ls.map .str))) (hh : S[h]? = some (.lst hs)) (hT : T + 160000 ≤ 10 ^ 6)
    (hD : ∀ (x5 x6 x7 x8 x9 : Option Val) (S2 : Hm), Pot 3 2 (T + 160000) S2 → Fr 3 S S2 → D0.nx [some (.ref 0), some (.ref 3), some (.ref h), some (.ref l), x4, x5, x6, x7, x8, x9, x10, x11] S2) (hR : ∀ S2, D0.rt (.bl true) S2) :
    wSs P.con P.sub (callW P 230) s9_f_law (fun c x S' => noX c S') D0 [some (.ref 0), some (.ref 3), some (.ref h), some (.ref l), x4, x5, x6, x7, x8, x9, x10, x11] S := by
  simp only [s9_f_law, wSs, wS, wT, wEs, wO, wPs, wC, wSrc, wE_loc, wE_lit, wE_con, wE_bin, wE_neg, wE_cmp, wE_cmp2, wE_isN, wE_notN, wE_isB, wE_not, wE_and, wE_or, wE_ite, wE_tup, wE_lst, wE_dic, wE_call, wE_make, wE_meth, wE_fld, wE_sub, wE_slice, wE_bi, wE_vi, wE_bm, wE_isi, wE_lc, wE_lck, eg, es, Option.some.injEq, exists_eq_left', Lit.val]
  refine call_use (many_ok (k := 227) P0 (by omega)) ?_
  rintro _ S1 ⟨⟨m, rfl, m1, m2⟩, p1, f1⟩
  have hl1 := f1.get lp hl
  have hlt1 := p1.lt
  have n9 : (9 : Int) = ((9 : Nat) : Int) := rfl
  have cA : cut (ls.map Val.str) none (some (m : Int)) = (ls.take m).map .str := by rw [cut_strs, cut_upto (by omega)]
  have cB : cut (ls.map Val.str) (some 9) none = (ls.drop 9).map .str := by rw [cut_strs, n9, cut_from (by omega)]
  simp only [s8_f_law, wSs, wS, wT, wEs, wO, wPs, wC, wSrc, wE_loc, wE_lit, wE_con, wE_bin, wE_neg, wE_cmp, wE_cmp2, wE_isN, wE_notN, wE_isB, wE_not, wE_and, wE_or, wE_ite, wE_tup, wE_lst, wE_dic, wE_call, wE_make, wE_meth, wE_fld, wE_sub, wE_slice, wE_bi, wE_vi, wE_bm, wE_isi, wE_lc, wE_lck, eg, es, Option.some.injEq, exists_eq_left', Lit.val, sliceW, Val.int.injEq, exists_eq_left']
  refine ⟨_, lst_at hl1, _, lst_at (get_app hl1), ?_⟩
  rw [cA, cB]
  have ndc : (ls.take m ++ ls.drop 9).Nodup := by
    have e : ls.take 9 ++ ls.drop 9 = ls := List.take_append_drop 9 ls
    have sub : (ls.take m ++ ls.drop 9).Sublist ls := by
      conv => rhs; rw [← e]
      exact List.Sublist.append (by rw [show ls.take m = (ls.take 9).take m by rw [List.take_take, Nat.min_eq_left m2]]; exact List.take_sublist _ _) (List.Sublist.refl _)
    exact hnd.sublist sub
  have vqc : ∀ x ∈ ls.take m ++ ls.drop 9, VQ x := fun x hx => by
    rcases List.mem_append.mp hx with hx | hx
    · exact hls x (List.mem_of_mem_take hx)
    · exact hls x (List.mem_of_mem_drop hx)
  have lenc : (ls.take m ++ ls.drop 9).length ≤ 12 := by rw [List.length_append, List.length_take, List.length_drop]; omega
  generalize hns : ls.take m = ns at cA ndc vqc lenc
  generalize hbs : ls.drop 9 = bs at cB ndc vqc lenc
  have hS2a : (S1 ++ [Ob.lst (ns.map .str)] ++ [Ob.lst (bs.map .str)])[S1.length]? = some (.lst (ns.map .str)) := get_app get_new
  have hS2b : (S1 ++ [Ob.lst (ns.map .str)] ++ [Ob.lst (bs.map .str)])[(S1 ++ [Ob.lst (ns.map .str)]).length]? = some (.lst (bs.map .str)) := get_new
  have f12 : Fr 3 S (S1 ++ [Ob.lst (ns.map .str)] ++ [Ob.lst (bs.map .str)]) := f1.trans ((Fr.app _).trans (Fr.app _))
  have p2 : Pot 3 2 (T + 2) (S1 ++ [Ob.lst (ns.map .str)] ++ [Ob.lst (bs.map .str)]) := (p1.app _).app _
  have lb : (S1 ++ [Ob.lst (ns.map .str)]).length = S1.length + 1 := by simp
  rw [lb] at hS2b ⊢
  generalize S1 ++ [Ob.lst (ns.map .str)] ++ [Ob.lst (bs.map .str)] = S2 at hS2a hS2b f12 p2
  have nl : ns.length ≤ 9 := by rw [← hns, List.length_take]; omega
  have bl : bs.length ≤ 12 := by rw [List.length_append] at lenc; omega
  refine call_use (joiner_ok (k := 222) (ns := ns) (bs := bs) p2 hS2a hS2b (f12.get hp hh) hhs hh0 hhl (by omega) (by omega) hp ndc vqc (by omega) bl (by omega)) ?_
  rintro _ S3 ⟨rfl, ⟨B, hB, J⟩, p3, f3⟩
  have f13 := f12.trans f3
  have hl3 := f13.get lp hl
  have lt2 := p2.lt
  have Bl : B.length ≤ 9 := by
    have := congrArg List.length J.keys
    simp only [List.length_map] at this
    omega
  simp only [s7_f_law, wSs, wS, wT, wEs, wO, wPs, wC, wSrc, wE_loc, wE_lit, wE_con, wE_bin, wE_neg, wE_cmp, wE_cmp2, wE_isN, wE_notN, wE_isB, wE_not, wE_and, wE_or, wE_ite, wE_tup, wE_lst, wE_dic, wE_call, wE_make, wE_meth, wE_fld, wE_sub, wE_slice, wE_bi, wE_vi, wE_bm, wE_isi, wE_lc, wE_lck, eg, es, Option.some.injEq, exists_eq_left', Lit.val, sliceW, Val.int.injEq, exists_eq_left']
  refine ⟨_, lst_at hl3, _, lst_at (get_app hl3), ?_⟩
  rw [cA, cB]
  have h4a : (S3 ++ [Ob.lst (ns.map .str)] ++ [Ob.lst (bs.map .str)])[S3.length]? = some (.lst (ns.map .str)) := get_app get_new
  have h4b : (S3 ++ [Ob.lst (ns.map .str)] ++ [Ob.lst (bs.map .str)])[(S3 ++ [Ob.lst (ns.map .str)]).length]? = some (.lst (bs.map .str)) := get_new
  refine addL h4a h4b (by rw [sizeLine_eq]; simp only [List.length_map]; omega) ?_
  rw [← List.map_append]
  have f14 : Fr 3 S (S3 ++ [Ob.lst (ns.map .str)] ++ [Ob.lst (bs.map .str)] ++ [Ob.lst ((ns ++ bs).map .str)]) := f13.trans ((Fr.app _).trans ((Fr.app _).trans (Fr.app _)))
  have p4 := ((p3.app [Ob.lst (ns.map .str)]).app [Ob.lst (bs.map .str)]).app [Ob.lst ((ns ++ bs).map .str)]
  have h4c : (S3 ++ [Ob.lst (ns.map .str)] ++ [Ob.lst (bs.map .str)] ++ [Ob.lst ((ns ++ bs).map .str)])[(S3 ++ [Ob.lst (ns.map .str)] ++ [Ob.lst (bs.map .str)]).length]? = some (.lst ((ns ++ bs).map .str)) := get_new
  have hB4 : (S3 ++ [Ob.lst (ns.map .str)] ++ [Ob.lst (bs.map .str)] ++ [Ob.lst ((ns ++ bs).map .str)])[S2.length]? = some (.dic B) := get_app (get_app (get_app hB))
  have lt3 := p3.lt
  have hlen4 : 3 < (S3 ++ [Ob.lst (ns.map .str)] ++ [Ob.lst (bs.map .str)]).length := by simp; omega
  generalize (S3 ++ [Ob.lst (ns.map .str)] ++ [Ob.lst (bs.map .str)]).length = q4 at h4c hlen4
  generalize S3 ++ [Ob.lst (ns.map .str)] ++ [Ob.lst (bs.map .str)] ++ [Ob.lst ((ns ++ bs).map .str)] = S4 at f14 p4 h4c hB4
  refine call_use (pairs_ok (k := 218) J p4 h4c hB4 (f14.get hp hh) hhs hh0 hhl (by omega) (by omega) (by omega) hp lenc Bl (by omega)) ?_
  rintro _ S5 ⟨rfl, ⟨ps, hps, hpq, pl⟩, p5, f5⟩
  have f15 := f14.trans f5
  have lt4 := p4.lt
  simp only [s6_f_law, wSs, wS, wT, wEs, wO, wPs, wC, wSrc, wE_loc, wE_lit, wE_con, wE_bin, wE_neg, wE_cmp, wE_cmp2, wE_isN, wE_notN, wE_isB, wE_not, wE_and, wE_or, wE_ite, wE_tup, wE_lst, wE_dic, wE_call, wE_make, wE_meth, wE_fld, wE_sub, wE_slice, wE_bi, wE_vi, wE_bm, wE_isi, wE_lc, wE_lck, eg, es, Option.some.injEq, exists_eq_left', Lit.val, biW]
  refine ⟨_, lst_at hps, ?_⟩
  have p6 := p5.app [Ob.lst (ps.map PrV)]
  have f16 : Fr 3 S (S5 ++ [Ob.lst (ps.map PrV)]) := f15.trans (Fr.app _)
  have hps6 : (S5 ++ [Ob.lst (ps.map PrV)])[S4.length]? = some (.lst (ps.map PrV)) := get_app hps
  have hq6 : (S5 ++ [Ob.lst (ps.map PrV)])[S5.length]? = some (.lst (ps.map PrV)) := get_new
  have lt5 := p5.lt
  have lps := lt_of_get hps
  have hB6 : (S5 ++ [Ob.lst (ps.map PrV)])[S2.length]? = some (.dic B) := get_app (f5.get (by omega) hB4)
  generalize S5 ++ [Ob.lst (ps.map PrV)] = S6 at p6 f16 hps6 hq6 hB6
  refine call_use (told_ok (k := 210) (qs := ps) J lenc hpq pl (fun p => Iff.rfl) hq6) ?_
  rintro _ S7 ⟨n, D, rfl, n1, hD7, G, kp7⟩
  have p7 := p6.kp kp7
  have f17 := f16.trans (kp7.fr 3)
  have hps7 := kp7.get hps6
  have hB7 : S7[S2.length]? = some (.dic B) := kp7.get hB6
  simp only [s5_f_law, wSs, wS, wT, wEs, wO, wPs, wC, wSrc, wE_loc, wE_lit, wE_con, wE_bin, wE_neg, wE_cmp, wE_cmp2, wE_isN, wE_notN, wE_isB, wE_not, wE_and, wE_or, wE_ite, wE_tup, wE_lst, wE_dic, wE_call, wE_make, wE_meth, wE_fld, wE_sub, wE_slice, wE_bi, wE_vi, wE_bm, wE_isi, wE_lc, wE_lck, eg, es, Option.some.injEq, exists_eq_left', Lit.val]
  have ty : isTy (.ref n) S7 .dict = some true := by simp only [isTy, hD7]
  refine ⟨[true], by simp [ty], _, rfl, ?_⟩
  rw [if_neg (by decide)]
  simp only [s4_f_law, wSs, wS, wT, wEs, wO, wPs, wC, wSrc, wE_loc, wE_lit, wE_con, wE_bin, wE_neg, wE_cmp, wE_cmp2, wE_isN, wE_notN, wE_isB, wE_not, wE_and, wE_or, wE_ite, wE_tup, wE_lst, wE_dic, wE_call, wE_make, wE_meth, wE_fld, wE_sub, wE_slice, wE_bi, wE_vi, wE_bm, wE_isi, wE_lc, wE_lck, eg, es, Option.some.injEq, exists_eq_left', Lit.val]
  refine call_use (names_ok (k := 228) hps7 (fun p hp => ⟨(hpq p hp).k1, (hpq p hp).k2⟩) pl) ?_
  rintro _ S8 ⟨rfl, ⟨ws, w0, w1, w2, w3⟩, kp8⟩
  have hD8 := kp8.get hD7
  have hB8 := kp8.get hB7
  simp only [seqOf]
  refine ⟨_, lst_at w0, ?_⟩
  have wf : ∀ y ∈ ws, IsK 5 (fm D y) ∧ IsK 5 (fm B y) ∧ fl (fm B) (fm D y) = fm B y ∧ VQ y ∧ IsK 2 (fm D y) := fun y hy => by
    obtain ⟨p, hp, hv⟩ := w3 y hy
    have iny : y ∈ ns ++ bs := by
      rcases hv with hv | hv
      · exact (hpq p hp).v1 y hv
      · exact (hpq p hp).v2 y hv
    have vy := J.vq y iny
    have kB := (J.theta iny).k
    unfold fm
    cases z : lookK D (.inr y) with
    | none => exact ⟨.var vy, kB.le (by decide), fl_var vy, vy, .var vy⟩
    | some t => exact ⟨(G.di.vq z).2.le (by decide), kB.le (by decide), (G.sol y t z).symm, vy, (G.di.vq z).2⟩
  refine lcr_inv (callW_mono P _) (fun i acc S' => acc = ((ws.take i).map fun y => PrV (fm D y, fm B y)) ∧ Kp S8 S') ?_ ?_ ⟨by simp, Kp.refl _⟩
  · rintro i v acc S' hi ⟨rfl, kp9⟩
    rw [List.getElem?_map] at hi
    obtain ⟨y, hy, rfl⟩ := Option.map_eq_some_iff.mp hi
    have hil := lt_of_get hy
    have hym := List.mem_of_getElem? hy
    obtain ⟨wf1, wf2, wf3, vy, wf4⟩ := wf y hym
    refine ⟨lst_at (kp9.get w0), ?_⟩
    simp only [tgW, List.map_cons, List.map_nil, ewipe, wSs, wS, wT, wEs, wO, wPs, wC, wSrc, wE_loc, wE_lit, wE_con, wE_bin, wE_neg, wE_cmp, wE_cmp2, wE_isN, wE_notN, wE_isB, wE_not, wE_and, wE_or, wE_ite, wE_tup, wE_lst, wE_dic, wE_call, wE_make, wE_meth, wE_fld, wE_sub, wE_slice, wE_bi, wE_vi, wE_bm, wE_isi, wE_lc, wE_lck, eg, es, Option.some.injEq, exists_eq_left', Lit.val, if_true, bmT, bmW]
    refine ⟨⟨_, _, rfl, kp9.get hD8⟩, D, .inr y, dic_at (kp9.get hD8), rfl, ?_⟩
    refine call_use (filled_ok 0 (.str y) (.var vy) 229 S' (kp9.get hB8)) ?_
    rintro _ S9 ⟨rfl, l9, rfl⟩
    refine ⟨by rw [sizeLine_eq]; simp, by rw [sizeLine_eq]; simp; omega, ?_, kp9.trans (Kp.app _)⟩
    rw [List.take_add_one, hy, List.map_append, sb_fl J.di 0 (.var vy), fl_var vy]
    rfl
  · rintro acc S9 ⟨rfl, kp9⟩
    rw [List.length_map, List.take_length]
    refine ⟨lst_at (kp9.get w0), ?_⟩
    simp only [s3_f_law, wSs, wS, wT, wEs, wO, wPs, wC, wSrc, wE_loc, wE_lit, wE_con, wE_bin, wE_neg, wE_cmp, wE_cmp2, wE_isN, wE_notN, wE_isB, wE_not, wE_and, wE_or, wE_ite, wE_tup, wE_lst, wE_dic, wE_call, wE_make, wE_meth, wE_fld, wE_sub, wE_slice, wE_bi, wE_vi, wE_bm, wE_isi, wE_lc, wE_lck, eg, es, Option.some.injEq, exists_eq_left', Lit.val]
    have e1 : (ws.map fun y => PrV (fm D y, fm B y)) = ((ws.map fun y => (fm D y, fm B y)).map PrV) := by rw [List.map_map]; rfl
    rw [e1]
    refine call_use (matched_ok (k := 229) (θ := fm B) (ws0 := ws.map fun y => (fm D y, fm B y)) get_new (fun p hp => ?_) ?_) ?_
    · obtain ⟨y, hy, rfl⟩ := List.mem_map.mp hp
      obtain ⟨wf1, wf2, wf3, _⟩ := wf y hy
      exact ⟨wf1, wf2, wf3⟩
    · rw [List.map_map]
      have := nods_le (b := 4 ^ 2) (ws := ws.map ((·.1) ∘ fun y => (fm D y, fm B y))) fun w hw => by
        obtain ⟨y, hy, rfl⟩ := List.mem_map.mp hw
        exact nod_isK (wf y hy).2.2.2.2
      rw [List.length_map] at this
      have : ws.length * 4 ^ 2 ≤ 30000 * 4 ^ 2 := Nat.mul_le_mul_right _ w1
      omega
    · rintro _ S10 ⟨⟨z, rfl⟩, kp10⟩
      refine ⟨false, rfl, ?_⟩
      rw [if_neg (by decide)]
      exact hD _ _ _ _ _ _ ((((p7.kp kp8).kp kp9).kp ((Kp.app _).trans kp10)).le (by omega)) (f17.trans ((kp8.fr 3).trans ((kp9.fr 3).trans (((Kp.app _).trans kp10).fr 3))))
theorem law_small (ns : List Int) (hl : ns.length ≤ 63) : bodyW P (callW P 230) r_f_law.d [.ref 0] [.lck (.lst (ns.map Val.int))] (fun v _ => v = .bl true) (fun _ _ => False) := by
  refine ⟨rfl, ?_⟩
  show wSs _ _ _ s14_f_law _ _ [some (.ref 0), none, none, none, none, none, none, none, none, none, none, none] _
  simp only [s14_f_law, wSs, wS, wT, wEs, wO, wPs, wC, wSrc, wE_loc, wE_lit, wE_con, wE_bin, wE_neg, wE_cmp, wE_cmp2, wE_isN, wE_notN, wE_isB, wE_not, wE_and, wE_or, wE_ite, wE_tup, wE_lst, wE_dic, wE_call, wE_make, wE_meth, wE_fld, wE_sub, wE_slice, wE_bi, wE_vi, wE_bm, wE_isi, wE_lc, wE_lck, eg, es, Option.some.injEq, exists_eq_left', Lit.val]
  refine call_use (pot_ok (k := 229)) ?_
  rintro v S0 ⟨rfl, P0, L0⟩
  simp only [s13_f_law, wSs, wS, wT, wEs, wO, wPs, wC, wSrc, wE_loc, wE_lit, wE_con, wE_bin, wE_neg, wE_cmp, wE_cmp2, wE_isN, wE_notN, wE_isB, wE_not, wE_and, wE_or, wE_ite, wE_tup, wE_lst, wE_dic, wE_call, wE_make, wE_meth, wE_fld, wE_sub, wE_slice, wE_bi, wE_vi, wE_bm, wE_isi, wE_lc, wE_lck, eg, es, Option.some.injEq, exists_eq_left', Lit.val]
  refine ⟨by rw [sizeLine_eq]; simp, ?_⟩
  refine call_use (draw_ok (k := 228) (P0.app _) (by decide) (by decide) (by decide)) ?_
  rintro v S1 ⟨⟨r1, rfl, a1, b1⟩, P1, F1, E1⟩
  simp only [cmpW, eqW_int]
  refine pick2 (x := 4) (y := 9) (F1.get (by rw [L0]; decide) get_new) ?_
  intro m hm
  have hm1 : 1 ≤ m ∧ m ≤ 9 := by rcases hm with rfl | rfl <;> decide
  refine ⟨m, rfl, ⟨by omega, by omega⟩, ?_⟩
  refine lcr_inv (callW_mono P _) (fun i acc S' => acc.length = i ∧ (∀ v ∈ acc, IsHd v) ∧ Pot 3 2 (0 + 1 + 16 * i) S') ?_ ?_ ⟨rfl, by simp, by simpa using P1⟩
  · rintro i v acc S' hi ⟨hal, hacc, hp⟩
    obtain ⟨hi, rfl⟩ := range_get hi
    refine ⟨trivial, ?_⟩
    simp only [tgW, List.map_cons, List.map_nil, ewipe, wSs, wS, wT, wEs, wO, wPs, wC, wSrc, wE_loc, wE_lit, wE_con, wE_bin, wE_neg, wE_cmp, wE_cmp2, wE_isN, wE_notN, wE_isB, wE_not, wE_and, wE_or, wE_ite, wE_tup, wE_lst, wE_dic, wE_call, wE_make, wE_meth, wE_fld, wE_sub, wE_slice, wE_bi, wE_vi, wE_bm, wE_isi, wE_lc, wE_lck, eg, es, Option.some.injEq, exists_eq_left', Lit.val, if_true]
    refine call_use (head_ok (k := 226) hp (by omega)) ?_
    rintro v S2 ⟨hv, p2, f2⟩
    refine ⟨by rw [sizeLine_eq]; omega, by simp [hal], fun u hu => ?_, p2.le (by omega)⟩
    rcases List.mem_append.mp hu with hu | hu
    · exact hacc u hu
    · rw [List.mem_singleton.mp hu]; exact hv
  · rintro hs S2 ⟨hal, hhs, P2⟩
    rw [rangeL_len] at hal P2
    refine ⟨trivial, ?_⟩
    have L2 := P2.lt
    generalize hh : S2.length = h
    have hp' : h ≠ 3 := by omega
    have hH : (S2 ++ [Ob.lst hs])[h]? = some (.lst hs) := by subst hh; exact get_new
    have P3 : Pot 3 2 200 (S2 ++ [Ob.lst hs]) := (P2.app _).le (by omega)
    generalize S2 ++ [Ob.lst hs] = S3 at hH P3
    have hh0 : 0 < hs.length := by omega
    have hhl : hs.length ≤ 9 := by omega
    clear hal P2 L2 hh
    simp only [s12_f_law, wSs, wS, wT, wEs, wO, wPs, wC, wSrc, wE_loc, wE_lit, wE_con, wE_bin, wE_neg, wE_cmp, wE_cmp2, wE_isN, wE_notN, wE_isB, wE_not, wE_and, wE_or, wE_ite, wE_tup, wE_lst, wE_dic, wE_call, wE_make, wE_meth, wE_fld, wE_sub, wE_slice, wE_bi, wE_vi, wE_bm, wE_isi, wE_lc, wE_lck, eg, es, Option.some.injEq, exists_eq_left', Lit.val]
    refine call_use (leaves_ok (k := 225) P3 (by decide) (by decide) (by decide)) ?_
    rintro _ S4 ⟨rfl, ⟨ls, hl4, hls, hll, hnd⟩, P4, F4⟩
    have lt3 := P3.lt
    have hh4 := F4.get hp' hH
    have hll : ls.length = 12 := by omega
    simp only [s11_f_law, wSs, wS, wT, wEs, wO, wPs, wC, wSrc, wE_loc, wE_lit, wE_con, wE_bin, wE_neg, wE_cmp, wE_cmp2, wE_isN, wE_notN, wE_isB, wE_not, wE_and, wE_or, wE_ite, wE_tup, wE_lst, wE_dic, wE_call, wE_make, wE_meth, wE_fld, wE_sub, wE_slice, wE_bi, wE_vi, wE_bm, wE_isi, wE_lc, wE_lck, eg, es, Option.some.injEq, exists_eq_left', Lit.val]
    refine ⟨3, rfl, ⟨by decide, by decide⟩, ?_⟩
    have lp : S3.length ≠ 3 := by omega
    refine for_inv (callW_mono P _) (fun i env S' => ∃ x4 x5 x6 x7 x8 x9, env = [some (.ref 0), some (.ref 3), some (.ref h), some (.ref S3.length), x4, x5, x6, x7, x8, x9, none, none] ∧ Pot 3 2 (300 + 160000 * i) S' ∧ Fr 3 S4 S') ?_ ?_ ⟨_, _, _, _, _, _, rfl, by simpa using P4.le (by omega), Fr.refl _ _⟩
    · rintro i v env S' hi ⟨x4, x5, x6, x7, x8, x9, rfl, p, f⟩
      obtain ⟨hi3, rfl⟩ := range_get hi
      have hi3 : i < 3 := hi3
      refine ⟨trivial, ?_⟩
      simp only [tgW, es]
      refine turn_ok hls hnd hll hhs hh0 hhl lp hp' p (f.get lp hl4) (f.get hp' hh4) (by omega) (fun y5 y6 y7 y8 y9 S2 q g => ?_) fun _ => rfl
      exact ⟨_, _, _, _, _, _, rfl, q.le (by omega), f.trans g⟩
    · rintro env S' ⟨x4, x5, x6, x7, x8, x9, rfl, p, f⟩
      refine ⟨trivial, ?_⟩
      simp only [s10_f_law, wSs, wS, wT, wEs, wO, wPs, wC, wSrc, wE_loc, wE_lit, wE_con, wE_bin, wE_neg, wE_cmp, wE_cmp2, wE_isN, wE_notN, wE_isB, wE_not, wE_and, wE_or, wE_ite, wE_tup, wE_lst, wE_dic, wE_call, wE_make, wE_meth, wE_fld, wE_sub, wE_slice, wE_bi, wE_vi, wE_bm, wE_isi, wE_lc, wE_lck, eg, es, Option.some.injEq, exists_eq_left', Lit.val]
end K23

set_option maxHeartbeats 0
open PySem PySem.W PySem.Calls PyProof.Rows in
theorem PySem.Challenge.cw_facework_k23_joined_is_the_widest_holds : PySem.Challenge.rw_facework_k23_joined_is_the_widest.Holds := by
  w_on; o_law
  refine HandSHeadRun.head_any (r := OpenLaw.row PySem.Challenge.rw_facework_k23_joined_is_the_widest) (q := view (OpenLaw.row PySem.Challenge.rw_facework_k23_joined_is_the_widest).prog [27]) (H := K23.hk) (ob := K23.ob) (M := 4800) (loose := K23.loose) (d := HandSHeadRun.topDef (OpenLaw.row PySem.Challenge.rw_facework_k23_joined_is_the_widest).prog 27) (kwd := []) K23.ob_eq
    (by kernel_rfl) (fun s => by kernel_rfl) K23.run (by kernel_rfl) (by kernel_rfl) (by kernel_rfl) (by rfl) (by first | assumption | decide +kernel) (by decide +kernel) ⟨rfl, rfl, rfl, rfl, rfl, by decide +kernel⟩ ?hw ?hc
  case hw => w_witness2
  case hc => exact Mi.mi_hc (P := K23.P) (tab := K23.tab) (con := K23.con) (j := 230) (r := K23.r_f_law) (x := "_law_script") rfl (by decide) (by kernel_rfl) ⟨rfl, by decide, by decide⟩ (List.all_eq_true.mp K23.rows_ok) K23.bind_ok (fun f d h => Mi.fnOfT_of h) (fun x v h => Mi.conV_of h) (by decide +kernel) (by simp [K23.tab]) rfl (by kernel_rfl) rfl (by kernel_rfl) K23.law_small

