import PyProof.Rows.All
import Wide.All
import OpenK.AllK
import Wide.FinOn
import HandS.ForMost
import HandS.ForExc
import HandS.Wide
import HandS.WideBits
import HandS.TupAny
import HandS.TupMul
import HandS.TupLe
import HandS.Deep
import HandS.Small
import HandS.IsInst
import HandS.Style
import HandS.SetKeys
import HandS.SortInts
import HandS.WordsDict
import HandS.WordsExc
import HandS.More
import HandS.RaiseMore
import HandS.StrMore
import KE.KDictPairs
import HandS.CallSlots
import HandS.HotCalls
import HandS.ExcIs
import HandS.Defaults
import HandS.Zip
import KE.GoesMore
import KE.GoesEnum
import KE.KDictZip
import HandS.ListItems
import HandS.Rev
import HandS.Hot
import PyProof.SumWalkG
import HandS.RevTup
import KE.KDictList
import HandS.Head0
import HandS.Head1
import HandS.Head2
import HandS.HeadEnd
import HandS.HeadHook1
import HandS.HeadHook2
import HandS.HeadHook3
import HandS.HeadHook4
import PyProof.StrLawsTight
import PyProof.StrLawsChain
import KE.KIntText
import KE.KStateDown
import Lean
import PySem.Challenge.RW_facework_k14_schemes_of_sorts
set_option Elab.async false
set_option linter.all false
set_option maxRecDepth 100000
/-! MiA: a small language for the program's own text: values with tuples as data, a heap of lists, dicts and instances, and what must hold so that a piece of text runs. -/
namespace Mi
open PySem

/-- a value: tuples are data, lists, dicts and instances stand at a place of the heap -/
inductive Val where
  | non | bl (b : Bool) | int (i : Int) | str (x : String) | tup (xs : List Val) | ref (n : Nat) | exc (c : String)
  deriving Inhabited

abbrev Key := Sum Int String
def Key.val : Key → Val
  | .inl i => .int i
  | .inr x => .str x
def Val.key : Val → Option Key
  | .int i => some (.inl i)
  | .str x => some (.inr x)
  | _ => none

inductive Ob where
  | lst (xs : List Val)
  | dic (kvs : List (Key × Val))
  | ins (c : String) (fs : List (String × Val))
  | lck (o : Ob)
  deriving Inhabited

abbrev Hm := List Ob
abbrev Env := List (Option Val)
abbrev Post := Val → Hm → Prop
abbrev XPost := String → Hm → Prop

/-- what a function is called by: its name, or its class's and its own -/
inductive FK where
  | f (x : String) | m (c x : String)
  deriving DecidableEq, Repr, Inhabited
abbrev CallW := FK → List Val → Hm → Post → XPost → Prop

inductive Lit where
  | non | bl (b : Bool) | int (i : Int) | str (x : String)
  deriving DecidableEq, Repr, Inhabited
def Lit.val : Lit → Val
  | .non => .non
  | .bl b => .bl b
  | .int i => .int i
  | .str x => .str x

/-- types for isinstance -/
inductive Ty where
  | int | bool | str | tuple | list | dict | cls (c : String) | exc (c : String) (sb : List String)
  deriving DecidableEq, Repr, Inhabited

/-- built-in functions -/
inductive Bi where
  | len | abs | min | max | int | str | list | tuple | dict | sum | sorted | all | any | range
  deriving DecidableEq, Repr, Inhabited
/-- methods of built-in types -/
inductive Bm where
  | append | extend | pop | insert | reverse | count | index | clear
  | dclear | get | setdefault | update | startswith | split | join | isupper | upper | replace
  deriving DecidableEq, Repr, Inhabited

/-- forms of a built-in's call over another one's -/
inductive Vi where
  | listRev
  | sumInts
  | dictL
  | listZip
  deriving DecidableEq, Repr, Inhabited

inductive Tg where
  | nm (i : Nat)
  | tp (is : List Nat)
  deriving DecidableEq, Repr, Inhabited

mutual
inductive E where
  | loc (i : Nat)
  | lit (c : Lit)
  | con (x : String)
  | bin (op : Operator) (a b : E)
  | neg (a : E)
  | cmp (op : CmpOp) (a b : E)
  | cmp2 (op op' : CmpOp) (a b c : E)
  | isN (a : E)
  | notN (a : E)
  | isB (a : E) (b : Bool)
  | not (a : E)
  | and (a b : E)
  | or (a b : E)
  | ite (c : T) (a b : E)
  | tup (es : Es)
  | lst (es : Es)
  | dic (ps : Ps)
  | call (f : String) (es : Es)
  | make (c : String) (es : Es)
  | meth (c m : String) (o : E) (es : Es)
  | fld (o : E) (f : String)
  | sub (o i : E)
  | slice (o : E) (lo hi : Oe)
  | bi (f : Bi) (es : Es)
  | vi (f : Vi) (es : Es)
  | bm (m : Bm) (o : E) (es : Es)
  | isi (a : E) (ts : List Ty)
  | lc (elt : E) (tg : Tg) (src : Src) (cond : Ot) (own : List (String × Nat))
  | lck (i : Nat) (e : E)
/-- a test -/
inductive T where
  | v (e : E)
  | not (t : T)
  | and (t u : T)
  | or (t u : T)
inductive Ot where
  | none
  | some (t : T)
inductive Ps where
  | nil
  | cons (k v : E) (ps : Ps)
inductive Es where
  | nil
  | cons (e : E) (es : Es)
inductive Oe where
  | none
  | some (e : E)
/-- what a loop walks -/
inductive Src where
  | seq (e : E)
  | rng1 (a : E)
  | rng2 (a b : E)
  | rng3 (a b c : E)
  | enum (a : E)
  | zip (a b : E)
  | rev (a : E)
  | items (a : E)
  | values (a : E)
  | keys (a : E)
end

mutual
inductive St where
  | set (i : Nat) (e : E)
  | setT (is : List Nat) (e : E)
  | par (is : List Nat) (es : Es)
  | setI (o i e : E)
  | setF (o : E) (f : String) (e : E)
  | aug (i : Nat) (op : Operator) (e : E)
  | augI (o i : E) (op : Operator) (e : E)
  | augF (o : E) (f : String) (op : Operator) (e : E)
  | expr (e : E)
  | ret (e : E)
  | retN
  | ife (c : T) (a b : Sts)
  | for (tg : Tg) (src : Src) (body : Sts)
  | while (c : T) (body : Sts)
  | raise (c : String)
  | try (body : Sts) (hs : Hs) (orelse : Sts)
  | cont
  | pass
  | lck (i : Nat) (s : St)
inductive Sts where
  | nil
  | cons (s : St) (ss : Sts)
inductive Hs where
  | nil
  | cons (c : String) (i : Option Nat) (body : Sts) (rest : Hs)
end

/-! ### environments -/
def eg : Env → Nat → Option Val
  | [], _ => none
  | x :: _, 0 => x
  | _ :: r, n + 1 => eg r n
def es : Env → Nat → Option Val → Env
  | [], _, _ => []
  | _ :: r, 0, v => v :: r
  | x :: r, n + 1, v => x :: es r n v
theorem eg_eq : ∀ (e : Env) (i : Nat), eg e i = (e[i]?).join
  | [], i => by simp [eg]
  | x :: r, 0 => by simp [eg]
  | x :: r, n + 1 => by simp [eg, eg_eq r n]
theorem es_eq : ∀ (e : Env) (i : Nat) (v : Option Val), es e i v = e.set i v
  | [], i, v => by simp [es]
  | x :: r, 0, v => by simp [es]
  | x :: r, n + 1, v => by simp [es, es_eq r n]
def ewipe (e : Env) : List Nat → Env
  | [] => e
  | v :: vs => es (ewipe e vs) v none

/-! ### values -/
def Hm.lst (S : Hm) (n : Nat) : Option (List Val) := match S[n]? with
  | some (.lst xs) => some xs
  | some (.lck (.lst xs)) => some xs
  | _ => none
def Hm.dic (S : Hm) (n : Nat) : Option (List (Key × Val)) := match S[n]? with
  | some (.dic xs) => some xs
  | some (.lck (.dic xs)) => some xs
  | _ => none
def lookK {α : Type} (kvs : List (Key × α)) (k : Key) : Option α := (kvs.find? fun kv => decide (kv.1 = k)).map (·.2)
def putK {α : Type} (kvs : List (Key × α)) (k : Key) (v : α) : List (Key × α) :=
  if (kvs.any fun kv => decide (kv.1 = k)) = true then kvs.map (fun kv => if kv.1 = k then (kv.1, v) else kv) else kvs ++ [(k, v)]
def dropK {α : Type} (kvs : List (Key × α)) (k : Key) : List (Key × α) := kvs.filter fun kv => !decide (kv.1 = k)
def putF {α : Type} (f : String) (v : α) : List (String × α) → List (String × α)
  | [] => [(f, v)]
  | (g, x) :: r => if g = f then (g, v) :: r else (g, x) :: putF f v r

def truth (v : Val) (S : Hm) : Option Bool := match v with
  | .non => some false
  | .bl b => some b
  | .int i => some (i != 0)
  | .str x => if x.length ≤ sizeLine then some (x.length != 0) else none
  | .tup xs => some (!xs.isEmpty)
  | .ref n => match S[n]? with
    | some (.lst xs) => some (!xs.isEmpty)
    | some (.lck (.lst xs)) => some (!xs.isEmpty)
    | some (.dic xs) => some (!xs.isEmpty)
    | _ => none
  | .exc _ => none

/-- the place of an index -/
def ixN (n : Nat) (i : Int) : Option Nat := if 0 ≤ i then (if i < n then some i.toNat else none) else if -(n : Int) ≤ i then some (i + n).toNat else none
def atI {α : Type} (xs : List α) (i : Int) : Option α := (ixN xs.length i).bind fun j => xs[j]?
def sIx (n d : Nat) : Option Int → Nat
  | none => d
  | some v => if v < 0 then (v + (n : Int)).toNat else min v.toNat n
def cut {α : Type} (xs : List α) (lo hi : Option Int) : List α := (xs.drop (sIx xs.length 0 lo)).take (sIx xs.length xs.length hi - sIx xs.length 0 lo)


/-- nested data, read through the heap, for == -/
def dat (S : Hm) : Nat → Val → Option PyData
  | _, .non => some .none
  | _, .bl b => some (.bool b)
  | _, .int i => some (.int i)
  | _, .str x => some (.str (Str.ofString x))
  | k + 1, .tup xs => (xs.mapM (dat S k)).map .tuple
  | k + 1, .ref n => match Hm.lst S n with
    | some xs => (xs.mapM (dat S k)).map .list
    | none => none
  | _, _ => none
/-- a dict's values beside another one's -/
def dHits (S : Hm) (ls : List (Key × Val)) : List (Key × Val) → Option Bool
  | [] => some true
  | p :: r => match lookK ls p.1 with
    | none => some false
    | some u => match dat S 58 p.2 with
      | none => none
      | some d => match dat S 58 u with
        | none => none
        | some e => match dHits S ls r with
          | none => none
          | some b => some (PyData.eqv d e && b)
def eqD (x y : Val) (S : Hm) (Q : Bool → Prop) : Prop := match x, y with
  | .ref n, .ref m => ∃ ks ls b, S[n]? = some (.dic ks) ∧ S[m]? = some (.dic ls) ∧ dHits S ls ks = some b ∧ Q (decide (ks.length = ls.length) && b)
  | _, _ => False
def eqW (x y : Val) (S : Hm) (Q : Bool → Prop) : Prop := (∃ d e, dat S 60 x = some d ∧ dat S 60 y = some e ∧ Q (PyData.eqv d e)) ∨ eqD x y S Q

def flat : Val → Bool
  | .non => true
  | .bl _ => true
  | .int _ => true
  | .str _ => true
  | _ => false
/-- == of flat values -/
def feq : Val → Val → Bool
  | .non, .non => true
  | .bl a, .bl b => a == b
  | .bl a, .int b => (if a then 1 else 0) == b
  | .int a, .bl b => a == (if b then 1 else 0)
  | .int a, .int b => a == b
  | .str a, .str b => a == b
  | _, _ => false
/-- a text in a text -/
def subIn (x y : String) : Bool := !(Builtin.Str.occurrences (Str.ofString y) (Str.ofString x) 0 (Str.ofString y).length 1).isEmpty

def inW (x y : Val) (S : Hm) (Q : Bool → Prop) : Prop := match y with
  | .str b => match x with
    | .str a => (∃ c, a.toList = [c] ∧ Q (decide (c ∈ b.toList))) ∨ Q (subIn a b)
    | _ => False
  | .tup xs => flat x = true ∧ xs.all flat = true ∧ Q (xs.any fun y => feq y x)
  | .ref n =>
    (∃ xs, Hm.lst S n = some xs ∧ ((flat x = true ∧ xs.all flat = true ∧ Q (xs.any fun y => feq y x)) ∨ ∃ d ds, dat S 60 x = some d ∧ xs.mapM (dat S 59) = some ds ∧ Q (ds.any fun z => PyData.eqv z d)))
    ∨ ∃ kvs k, Hm.dic S n = some kvs ∧ x.key = some k ∧ Q (lookK kvs k).isSome
  | _ => False

def mulOk (i j : Int) : Prop := i.natAbs.log2 + j.natAbs.log2 < 100000000
def divOk (j : Int) : Prop := 0 < j ∧ j.natAbs.log2 < 9000
def powOk (i j : Int) : Prop := 0 ≤ j ∧ j ≤ 1000000 ∧ i.natAbs < 2 ^ 64
def shlOk (i j : Int) : Prop := 0 ≤ j ∧ j ≤ 1000000 ∧ i.natAbs < 2 ^ 64

/-- a text n times -/
def strRep (a : String) : Nat → String
  | 0 => ""
  | n + 1 => strRep a n ++ a
def binW (op : Operator) (x y : Val) (S : Hm) (Q : Post) : Prop := match op, x, y with
  | .Add, .int i, .int j => Q (.int (i + j)) S
  | .Add, .str a, .str b => a.length + b.length ≤ sizeLine ∧ Q (.str (a ++ b)) S
  | .Add, .tup xs, .tup ys => xs.length + ys.length ≤ sizeLine ∧ Q (.tup (xs ++ ys)) S
  | .Add, .ref n, .ref m => ∃ xs ys, S[n]? = some (.lst xs) ∧ S[m]? = some (.lst ys) ∧ xs.length + ys.length ≤ sizeLine ∧ Q (.ref S.length) (S ++ [.lst (xs ++ ys)])
  | .Sub, .int i, .int j => Q (.int (i - j)) S
  | .Mult, .int i, .int j => mulOk i j ∧ Q (.int (i * j)) S
  | .Mult, .ref n, .int k => ∃ xs, S[n]? = some (.lst xs) ∧ -(2 ^ 63) ≤ k ∧ k < 2 ^ 63 ∧ xs.length * k.toNat ≤ sizeLine ∧ Q (.ref S.length) (S ++ [.lst (List.replicate k.toNat xs).flatten])
  | .Mult, .str a, .int k => -(2 ^ 63) ≤ k ∧ k ≤ 16777216 ∧ a.length * k.toNat ≤ 16777216 ∧ Q (.str (strRep a k.toNat)) S
  | .Mult, .tup xs, .int k => xs ≠ [] ∧ 2 ≤ k ∧ k ≤ 1000 ∧ xs.length ≤ 1000 ∧ Q (.tup (List.replicate k.toNat xs).flatten) S
  | .FloorDiv, .int i, .int j => divOk j ∧ Q (.int (i / j)) S
  | .Mod, .int i, .int j => 0 < j ∧ Q (.int (i % j)) S
  | .Pow, .int i, .int j => powOk i j ∧ Q (.int (i ^ j.toNat)) S
  | .LShift, .int i, .int j => shlOk i j ∧ Q (.int (i * 2 ^ j.toNat)) S
  | .RShift, .int i, .int j => 0 ≤ j ∧ Q (.int (i / 2 ^ j.toNat)) S
  | _, _, _ => False

/-- the same in place -/
def ibinW (op : Operator) (x y : Val) (S : Hm) (Q : Post) : Prop := match op, x, y with
  | .Add, .int i, .int j => Q (.int (i + j)) S
  | .Add, .str a, .str b => a.length + b.length ≤ sizeLine ∧ Q (.str (a ++ b)) S
  | .Sub, .int i, .int j => Q (.int (i - j)) S
  | .Add, .ref n, .ref m => ∃ xs ys, S[n]? = some (.lst xs) ∧ S[m]? = some (.lst ys) ∧ xs.length + ys.length ≤ sizeLine ∧ Q (.ref n) (S.set n (.lst (xs ++ ys)))
  | _, _, _ => False

def cmpW (op : CmpOp) (x y : Val) (S : Hm) (Q : Bool → Prop) : Prop := match op with
  | .Eq => eqW x y S Q
  | .NotEq => eqW x y S fun b => Q (!b)
  | .In => inW x y S Q
  | .NotIn => inW x y S fun b => Q (!b)
  | .Lt => match x, y with
    | .int i, .int j => Q (decide (i < j))
    | _, _ => False
  | .LtE => match x, y with
    | .int i, .int j => Q (decide (i ≤ j))
    | _, _ => False
  | .Gt => match x, y with
    | .int i, .int j => Q (decide (j < i))
    | _, _ => False
  | .GtE => match x, y with
    | .int i, .int j => Q (decide (j ≤ i))
    | _, _ => False
  | _ => False

def subW (o i : Val) (S : Hm) (Q : Post) : Prop := match o, i with
  | .tup xs, .int k => ∃ v, atI xs k = some v ∧ Q v S
  | .str x, .int k => x.length ≤ sizeLine ∧ ∃ c, atI x.toList k = some c ∧ Q (.str (String.singleton c)) S
  | .ref n, k => (∃ xs j v, k = .int j ∧ Hm.lst S n = some xs ∧ atI xs j = some v ∧ Q v S) ∨ ∃ kvs q v, Hm.dic S n = some kvs ∧ k.key = some q ∧ lookK kvs q = some v ∧ Q v S
  | _, _ => False

def sliceW (o : Val) (lo hi : Option Int) (S : Hm) (Q : Post) : Prop := match o with
  | .tup xs => Q (.tup (cut xs lo hi)) S
  | .str x => x.length ≤ sizeLine ∧ Q (.str (String.ofList (cut x.toList lo hi))) S
  | .ref n => ∃ xs, Hm.lst S n = some xs ∧ Q (.ref S.length) (S ++ [.lst (cut xs lo hi)])
  | _ => False

def biW (f : Bi) (args : List Val) (S : Hm) (Q : Post) : Prop := match f, args with
  | .len, [x] => match x with
    | .str a => a.length ≤ sizeLine ∧ Q (.int a.length) S
    | .tup xs => Q (.int xs.length) S
    | .ref n => (∃ xs, Hm.lst S n = some xs ∧ Q (.int xs.length) S) ∨ ∃ kvs, S[n]? = some (.dic kvs) ∧ Q (.int kvs.length) S
    | _ => False
  | .abs, [.int i] => Q (.int (if i < 0 then -i else i)) S
  | .min, [.int i, .int j] => Q (.int (if j < i then j else i)) S
  | .max, [.int i, .int j] => Q (.int (if j > i then j else i)) S
  | .min, [.ref n] => ∃ ns : List Int, Hm.lst S n = some (ns.map Val.int) ∧ ns ≠ [] ∧ ∀ m, m ∈ ns → (∀ y, y ∈ ns → m ≤ y) → Q (.int m) S
  | .max, [.ref n] => ∃ ns : List Int, Hm.lst S n = some (ns.map Val.int) ∧ ns ≠ [] ∧ ∀ m, m ∈ ns → (∀ y, y ∈ ns → y ≤ m) → Q (.int m) S
  | .int, [.int i] => Q (.int i) S
  | .int, [.bl b] => Q (.int (if b then 1 else 0)) S
  | .int, [.str x] => ∃ n, PySem.intText? (Str.ofString x) = some n ∧ x.length ≤ 640 ∧ Q (.int n) S
  | .str, [.int i] => i.natAbs.log2 < 1920 ∧ Q (.str (toString i)) S
  | .str, [.str a] => Q (.str a) S
  | .list, [.tup xs] => Q (.ref S.length) (S ++ [.lst xs])
  | .list, [.ref n] => ∃ xs, Hm.lst S n = some xs ∧ Q (.ref S.length) (S ++ [.lst xs])
  | .tuple, [.tup xs] => Q (.tup xs) S
  | .tuple, [.ref n] => ∃ xs, Hm.lst S n = some xs ∧ Q (.tup xs) S
  | .dict, [.ref n] => ∃ kvs, Hm.dic S n = some kvs ∧ Q (.ref S.length) (S ++ [.dic kvs])
  | .sum, [.ref n] => ∃ ns : List Int, Hm.lst S n = some (ns.map Val.int) ∧ Q (.int ns.sum) S
  | .all, [.ref n] => ∃ bs : List Bool, Hm.lst S n = some (bs.map Val.bl) ∧ Q (.bl (bs.all id)) S
  | .any, [.ref n] => ∃ bs : List Bool, Hm.lst S n = some (bs.map Val.bl) ∧ Q (.bl (bs.any id)) S
  | .sorted, [.ref n] => (∃ ns : List Int, Hm.lst S n = some (ns.map Val.int) ∧ ∀ ns' : List Int, ns'.Perm ns → ns'.Pairwise (· ≤ ·) → Q (.ref S.length) (S ++ [.lst (ns'.map Val.int)])) ∨
    ∃ (kvs : List (Key × Val)) (ks : List String), Hm.dic S n = some kvs ∧ kvs.map (·.1) = ks.map Sum.inr ∧ ks.length < 64 ∧ ∀ ks' : List String, ks'.Perm ks → Q (.ref S.length) (S ++ [.lst (ks'.map Val.str)])
  | _, _ => False

/-- how many are true -/
def onesB : List Bool → Int
  | [] => 0
  | b :: r => (if b then 1 else 0) + onesB r
def pairL : List Val → List Val → List Val
  | x :: xs, y :: ys => .tup [x, y] :: pairL xs ys
  | _, _ => []
def ltOf (v : Val) (S : Hm) (K : List Val → (Hm → Prop) → Prop) : Prop := match v with
  | .tup xs => K xs fun _ => True
  | .ref n => ∃ xs, Hm.lst S n = some xs ∧ K xs fun S => Hm.lst S n = some xs
  | _ => False
def viW (f : Vi) (args : List Val) (S : Hm) (Q : Post) : Prop := match f, args with
  | .listRev, [.tup xs] => Q (.ref S.length) (S ++ [.lst xs.reverse])
  | .dictL, [.ref n] => Hm.lst S n = some [] ∧ Q (.ref S.length) (S ++ [.dic []])
  | .listZip, [x, y] => ltOf x S fun xs _ => ltOf y S fun ys _ => Q (.ref S.length) (S ++ [.lst (pairL xs ys)])
  | .sumInts, [.ref n] => ∃ bs : List Bool, Hm.lst S n = some (bs.map Val.bl) ∧ Q (.int (onesB bs)) S
  | _, _ => False
/-- which objects a method belongs to, and what it does -/
def bmT (m : Bm) (o : Val) (S : Hm) : Prop := match m with
  | .append | .extend | .insert | .reverse | .count | .index | .clear => ∃ n xs, o = .ref n ∧ Hm.lst S n = some xs
  | .pop => ∃ n xs, o = .ref n ∧ Hm.lst S n = some xs
  | .startswith | .split | .join | .isupper | .upper | .replace => ∃ x, o = .str x
  | .dclear | .get | .setdefault | .update => ∃ n kvs, o = .ref n ∧ S[n]? = some (.dic kvs)
def bmW (m : Bm) (o : Val) (args : List Val) (S : Hm) (Q : Post) : Prop := match m, o, args with
  | .append, .ref n, [y] => ∃ xs, S[n]? = some (.lst xs) ∧ xs.length < sizeLine ∧ Q .non (S.set n (.lst (xs ++ [y])))
  | .extend, .ref n, [.ref b] => ∃ xs ys, S[n]? = some (.lst xs) ∧ S[b]? = some (.lst ys) ∧ xs.length + ys.length ≤ sizeLine ∧ Q .non (S.set n (.lst (xs ++ ys)))
  | .pop, .ref n, [] => ∃ xs y, S[n]? = some (.lst xs) ∧ xs[xs.length - 1]? = some y ∧ Q y (S.set n (.lst xs.dropLast))
  | .pop, .ref n, [.int i] => ∃ xs k y, S[n]? = some (.lst xs) ∧ ixN xs.length i = some k ∧ xs.length ≤ sizeLine ∧ xs[k]? = some y ∧ Q y (S.set n (.lst (xs.eraseIdx k)))
  | .insert, .ref n, [.int i, y] => ∃ xs, S[n]? = some (.lst xs) ∧ xs.length < sizeLine ∧ 0 ≤ i ∧ i < 2 ^ 63 ∧ Q .non (S.set n (.lst (xs.take i.toNat ++ [y] ++ xs.drop i.toNat)))
  | .reverse, .ref n, [] => ∃ xs, S[n]? = some (.lst xs) ∧ Q .non (S.set n (.lst xs.reverse))
  | .index, .ref n, [y] => ∃ xs j z, Hm.lst S n = some xs ∧ flat y = true ∧ xs.all flat = true ∧ xs[j]? = some z ∧ feq z y = true ∧ (∀ (m : Nat) (z' : Val), m < j → xs[m]? = some z' → feq z' y = false) ∧ Q (.int (j : Nat)) S
  | .count, .ref n, [y] => ∃ xs, Hm.lst S n = some xs ∧ flat y = true ∧ xs.all flat = true ∧ Q (.int (xs.countP fun z => feq z y : Nat)) S
  | .dclear, .ref n, [] => ∃ kvs, S[n]? = some (.dic kvs) ∧ Q .non (S.set n (.dic []))
  | .get, .ref n, [k] => ∃ kvs q, Hm.dic S n = some kvs ∧ k.key = some q ∧ Q ((lookK kvs q).getD .non) S
  | .get, .ref n, [k, d] => ∃ kvs q, Hm.dic S n = some kvs ∧ k.key = some q ∧ Q ((lookK kvs q).getD d) S
  | .setdefault, .ref n, [k, d] => ∃ kvs q, S[n]? = some (.dic kvs) ∧ k.key = some q ∧ kvs.length < sizeLine ∧ (∀ v, lookK kvs q = some v → Q v S) ∧ (lookK kvs q = none → Q d (S.set n (.dic (putK kvs q d))))
  | .startswith, .str a, [.str b] => Q (.bl (Txt.startswith (Str.ofString a) (Str.ofString b))) S
  | .split, .str a, [.str b] => ∃ ys : List String, Txt.split (Str.ofString a) (Str.ofString b) = ys.map Str.ofString ∧ b.length ≠ 0 ∧ a.length + 2 ≤ sizeLine ∧ Q (.ref S.length) (S ++ [.lst (ys.map Val.str)])
  | .split, .str a, [] => ∃ ys : List String, Txt.words (Str.ofString a) = ys.map Str.ofString ∧ a.length + 2 ≤ sizeLine ∧ Q (.ref S.length) (S ++ [.lst (ys.map Val.str)])
  | .join, .str a, [.ref n] => ∃ (ys : List String) (y : String), Hm.lst S n = some (ys.map Val.str) ∧ Txt.join (Str.ofString a) (ys.map Str.ofString) = Str.ofString y ∧ (ys.map String.length).sum + ys.length * a.length ≤ 16777216 ∧ Q (.str y) S
  | .isupper, .str a, [] => Q (.bl (Txt.isupper (Str.ofString a))) S
  | .upper, .str a, [] => ∃ y : String, Txt.upper (Str.ofString a) = Str.ofString y ∧ a.length ≤ 5592405 ∧ Q (.str y) S
  | .update, .ref n, [.ref k] => ∃ (kvs ps : List (Key × Val)), S[n]? = some (.dic kvs) ∧ Hm.lst S k = some (ps.map fun p => .tup [p.1.val, p.2]) ∧ kvs.length + ps.length ≤ sizeLine ∧ Q .non (S.set n (.dic (ps.foldl (fun d p => putK d p.1 p.2) kvs)))
  | _, _, _ => False

/-- o[i] = v -/
def setW (o i v : Val) (S : Hm) (Q : Hm → Prop) : Prop := match o with
  | .ref n => (∃ xs k j, S[n]? = some (.lst xs) ∧ i = .int k ∧ ixN xs.length k = some j ∧ Q (S.set n (.lst (xs.set j v)))) ∨ ∃ kvs q, S[n]? = some (.dic kvs) ∧ i.key = some q ∧ kvs.length < sizeLine ∧ Q (S.set n (.dic (putK kvs q v)))
  | _ => False

def isTy (v : Val) (S : Hm) : Ty → Option Bool
  | .int => match v with
    | .int _ | .bl _ => some true
    | .exc _ => none
    | _ => some false
  | .bool => match v with
    | .bl _ => some true
    | .exc _ => none
    | _ => some false
  | .str => match v with
    | .str _ => some true
    | .exc _ => none
    | _ => some false
  | .tuple => match v with
    | .tup _ => some true
    | .exc _ => none
    | _ => some false
  | .list => match v with
    | .ref n => match S[n]? with
      | some (.lst _) | some (.lck (.lst _)) => some true
      | some (.dic _) | some (.lck (.dic _)) | some (.ins _ _) => some false
      | _ => none
    | .exc _ => none
    | _ => some false
  | .dict => match v with
    | .ref n => match S[n]? with
      | some (.dic _) | some (.lck (.dic _)) => some true
      | some (.lst _) | some (.lck (.lst _)) | some (.ins _ _) => some false
      | _ => none
    | .exc _ => none
    | _ => some false
  | .cls c => match v with
    | .ref n => match S[n]? with
      | some (.ins c' _) => some (c' == c)
      | some (.dic _) | some (.lst _) => some false
      | _ => none
    | .exc _ => none
    | _ => some false
  | .exc _ sb => match v with
    | .exc c => some (decide (c ∈ sb))
    | _ => none

def tgW : Tg → Val → Env → (Env → Prop) → Prop
  | .nm i, v, env, K => K (es env i (some v))
  | .tp is, v, env, K => ∃ xs, v = .tup xs ∧ xs.length = is.length ∧ K ((is.zip xs).foldl (fun e p => es e p.1 (some p.2)) env)

/-- a comprehension's turns -/
def lcLoop (turn : Val → Hm → (Option Val → Hm → Prop) → Prop) (guard : Hm → Prop) : List Val → List Val → Hm → (List Val → Hm → Prop) → Prop
  | [], acc, S, Q => guard S ∧ Q acc S
  | v :: vs, acc, S, Q => guard S ∧ turn v S fun r S1 => match r with
    | some x => acc.length < sizeLine ∧ lcLoop turn guard vs (acc ++ [x]) S1 Q
    | none => lcLoop turn guard vs acc S1 Q

def rangeL (lo step : Int) : Nat → List Val
  | 0 => []
  | n + 1 => .int lo :: rangeL (lo + step) step n
def enumL : Nat → List Val → List Val
  | _, [] => []
  | i, x :: xs => .tup [.int (i : Nat), x] :: enumL (i + 1) xs
/-- what a list or tuple holds, and what must stay -/
def seqOf (v : Val) (S : Hm) (K : List Val → (Hm → Prop) → Prop) : Prop := match v with
  | .tup xs => K xs fun _ => True
  | .ref n => ∃ xs, Hm.lst S n = some xs ∧ K xs fun S => Hm.lst S n = some xs
  | .str x => K (x.toList.map fun c => .str (String.singleton c)) fun _ => True
  | _ => False
def lstOf (v : Val) (S : Hm) (K : List Val → (Hm → Prop) → Prop) : Prop := match v with
  | .ref n => ∃ xs, Hm.lst S n = some xs ∧ K xs fun S => Hm.lst S n = some xs
  | _ => False
def zipOf (v w : Val) (S : Hm) (K : List Val → (Hm → Prop) → Prop) : Prop := ltOf v S fun xs g => ltOf w S fun ys g' => K (pairL xs ys) fun S => g S ∧ g' S
def rOk (j : Int) : Prop := -(2 ^ 62) ≤ j ∧ j < 2 ^ 62

section
variable (G : String → Option Val) (C : CallW)
mutual
def wE : XPost → E → Env → Hm → Post → Prop
  | X, .loc i, env, S, Q => ∃ v, eg env i = some v ∧ Q v S
  | X, .lit c, _, S, Q => Q c.val S
  | X, .con x, _, S, Q => ∃ v, G x = some v ∧ Q v S
  | X, .bin op a b, env, S, Q => wE X a env S fun x S1 => wE X b env S1 fun y S2 => binW op x y S2 Q
  | X, .neg a, env, S, Q => wE X a env S fun x S1 => ∃ i, x = .int i ∧ Q (.int (-i)) S1
  | X, .cmp op a b, env, S, Q => wE X a env S fun x S1 => wE X b env S1 fun y S2 => cmpW op x y S2 fun r => Q (.bl r) S2
  | X, .cmp2 op op' a b c, env, S, Q => wE X a env S fun x S1 => wE X b env S1 fun y S2 => cmpW op x y S2 fun r => if r = true then wE X c env S2 fun z S3 => cmpW op' y z S3 fun r' => Q (.bl r') S3 else Q (.bl false) S2
  | X, .isN a, env, S, Q => wE X a env S fun x S1 => Q (.bl (match x with | .non => true | _ => false)) S1
  | X, .notN a, env, S, Q => wE X a env S fun x S1 => Q (.bl (match x with | .non => false | _ => true)) S1
  | X, .isB a b, env, S, Q => wE X a env S fun x S1 => ∃ c, x = .bl c ∧ Q (.bl (c == b)) S1
  | X, .not a, env, S, Q => wE X a env S fun x S1 => ∃ b, x = .bl b ∧ Q (.bl (!b)) S1
  | X, .and a b, env, S, Q => wE X a env S fun x S1 => ∃ c, x = .bl c ∧ if c = true then wE X b env S1 Q else Q (.bl false) S1
  | X, .or a b, env, S, Q => wE X a env S fun x S1 => ∃ c, x = .bl c ∧ if c = true then Q (.bl true) S1 else wE X b env S1 Q
  | X, .ite c a b, env, S, Q => wT X c env S fun r S1 => if r = true then wE X a env S1 Q else wE X b env S1 Q
  | X, .tup es, env, S, Q => wEs X es env S fun vs S1 => vs.length ≤ sizeLine ∧ Q (.tup vs) S1
  | X, .lst es, env, S, Q => wEs X es env S fun vs S1 => vs.length ≤ sizeLine ∧ Q (.ref S1.length) (S1 ++ [.lst vs])
  | X, .dic ps, env, S, Q => wPs X ps env S fun kvs S1 => Q (.ref S1.length) (S1 ++ [.dic (kvs.foldl (fun d p => putK d p.1 p.2) [])])
  | X, .call f es, env, S, Q => wEs X es env S fun vs S1 => C (.f f) vs S1 Q X
  | X, .make c es, env, S, Q => wEs X es env S fun vs S1 => C (.m c "__init__") (.ref S1.length :: vs) (S1 ++ [.ins c []]) (fun v S2 => v = .non ∧ Q (.ref S1.length) S2) X
  | X, .meth c m o es, env, S, Q => wE X o env S fun x S1 => ∃ n fs, x = .ref n ∧ S1[n]? = some (.ins c fs) ∧ fs.lookup m = none ∧ wEs X es env S1 fun vs S2 => C (.m c m) (x :: vs) S2 Q X
  | X, .fld o f, env, S, Q => wE X o env S fun x S1 => ∃ n c fs v, x = .ref n ∧ S1[n]? = some (.ins c fs) ∧ fs.lookup f = some v ∧ Q v S1
  | X, .sub o i, env, S, Q => wE X o env S fun x S1 => wE X i env S1 fun y S2 => subW x y S2 Q
  | X, .slice o lo hi, env, S, Q => wE X o env S fun x S1 => wO X lo env S1 fun a S2 => wO X hi env S2 fun b S3 => sliceW x a b S3 Q
  | X, .bi f es, env, S, Q => wEs X es env S fun vs S1 => biW f vs S1 Q
  | X, .vi f es, env, S, Q => wEs X es env S fun vs S1 => viW f vs S1 Q
  | X, .bm m o es, env, S, Q => wE X o env S fun x S1 => bmT m x S1 ∧ wEs X es env S1 fun vs S2 => bmW m x vs S2 Q
  | X, .isi a ts, env, S, Q => wE X a env S fun x S1 => ∃ bs, ts.mapM (isTy x S1) = some bs ∧ Q (.bl (bs.any id)) S1
  | X, .lc elt tg src cond own, env, S, Q => wSrc X src env S fun items guard S1 =>
      lcLoop (fun v S K => tgW tg v (ewipe env (own.map (·.2))) fun env2 => wC X cond env2 S fun b S2 => if b = true then wE X elt env2 S2 fun x S3 => K (some x) S3 else K none S2) guard items [] S1
        fun acc S2 => Q (.ref S2.length) (S2 ++ [.lst acc])
  | X, .lck i e, env, S, Q => ∃ n kvs, eg env i = some (.ref n) ∧ S[n]? = some (.dic kvs) ∧ wE X e env (S.set n (.lck (.dic kvs))) fun v S' => S'[n]? = some (.lck (.dic kvs)) ∧ Q v (S'.set n (.dic kvs))
def wEs : XPost → Es → Env → Hm → (List Val → Hm → Prop) → Prop
  | X, .nil, _, S, Q => Q [] S
  | X, .cons e es, env, S, Q => wE X e env S fun x S1 => wEs X es env S1 fun xs S2 => Q (x :: xs) S2
def wPs : XPost → Ps → Env → Hm → (List (Key × Val) → Hm → Prop) → Prop
  | X, .nil, _, S, Q => Q [] S
  | X, .cons k v ps, env, S, Q => wE X k env S fun x S1 => wE X v env S1 fun y S2 => ∃ q, x.key = some q ∧ wPs X ps env S2 fun r S3 => Q ((q, y) :: r) S3
def wO : XPost → Oe → Env → Hm → (Option Int → Hm → Prop) → Prop
  | X, .none, _, S, Q => Q none S
  | X, .some e, env, S, Q => wE X e env S fun x S1 => ∃ i, x = .int i ∧ Q (some i) S1
/-- a comprehension's test -/
def wC : XPost → Ot → Env → Hm → (Bool → Hm → Prop) → Prop
  | X, .none, _, S, Q => Q true S
  | X, .some t, env, S, Q => wT X t env S Q
def wT : XPost → T → Env → Hm → (Bool → Hm → Prop) → Prop
  | X, .v e, env, S, Q => wE X e env S fun x S1 => ∃ b, truth x S1 = some b ∧ Q b S1
  | X, .not a, env, S, Q => wT X a env S fun b S1 => Q (!b) S1
  | X, .and a b, env, S, Q => wT X a env S fun c S1 => if c = true then wT X b env S1 Q else Q false S1
  | X, .or a b, env, S, Q => wT X a env S fun c S1 => if c = true then Q true S1 else wT X b env S1 Q
def wSrc : XPost → Src → Env → Hm → (List Val → (Hm → Prop) → Hm → Prop) → Prop
  | X, .seq e, env, S, K => wE X e env S fun x S1 => seqOf x S1 fun items guard => K items guard S1
  | X, .rng1 a, env, S, K => wE X a env S fun x S1 => ∃ j, x = .int j ∧ rOk j ∧ K (rangeL 0 1 j.toNat) (fun _ => True) S1
  | X, .rng2 a b, env, S, K => wE X a env S fun x S1 => wE X b env S1 fun y S2 => ∃ i j, x = .int i ∧ y = .int j ∧ rOk i ∧ rOk j ∧ K (rangeL i 1 (j - i).toNat) (fun _ => True) S2
  | X, .enum a, env, S, K => wE X a env S fun x S1 => ltOf x S1 fun items guard => K (enumL 0 items) guard S1
  | X, .zip a b, env, S, K => wE X a env S fun x S1 => wE X b env S1 fun y S2 => zipOf x y S2 fun items guard => K items guard S2
  | X, .rev a, env, S, K => wE X a env S fun x S1 => ltOf x S1 fun items guard => K items.reverse guard S1
  | X, .keys a, env, S, K => wE X a env S fun x S1 => ∃ n kvs, x = .ref n ∧ S1[n]? = some (.lck (.dic kvs)) ∧ K (kvs.map (·.1.val)) (fun S => S[n]? = some (.lck (.dic kvs))) S1
  | X, .values a, env, S, K => wE X a env S fun x S1 => ∃ n kvs, x = .ref n ∧ S1[n]? = some (.lck (.dic kvs)) ∧ K (kvs.map (·.2)) (fun S => S[n]? = some (.lck (.dic kvs))) S1
  | X, .items a, env, S, K => wE X a env S fun x S1 => ∃ n kvs, x = .ref n ∧ S1[n]? = some (.lck (.dic kvs)) ∧ K (kvs.map fun p => .tup [p.1.val, p.2]) (fun S => S[n]? = some (.lck (.dic kvs))) S1
  | _, _, _, _, _ => False
end

/-- what is wanted behind a statement -/
structure Sp where
  nx : Env → Hm → Prop
  rt : Post
  ct : Env → Hm → Prop := fun _ _ => False
/-- .. where the dict at n stays as it is -/
def lckD (n : Nat) (kvs : List (Key × Val)) (D : Sp) : Sp :=
  { nx := fun env' S' => S'[n]? = some (.lck (.dic kvs)) ∧ D.nx env' (S'.set n (.dic kvs)), rt := fun v S' => S'[n]? = some (.lck (.dic kvs)) ∧ D.rt v (S'.set n (.dic kvs)), ct := fun env' S' => S'[n]? = some (.lck (.dic kvs)) ∧ D.ct env' (S'.set n (.dic kvs)) }
def forL (tg : Tg) (guard : Hm → Prop) (body : Sp → Env → Hm → Prop) (D : Sp) : List Val → Env → Hm → Prop
  | [], env, S => guard S ∧ D.nx env S
  | v :: vs, env, S => guard S ∧ tgW tg v env fun env2 => body { nx := forL tg guard body D vs, rt := D.rt, ct := forL tg guard body D vs } env2 S
def whileN (c : Env → Hm → (Bool → Hm → Prop) → Prop) (body : Sp → Env → Hm → Prop) (D : Sp) : Nat → Env → Hm → Prop
  | 0, _, _ => False
  | n + 1, env, S => c env S fun b S1 => if b = true then body { nx := whileN c body D n, rt := D.rt, ct := whileN c body D n } env S1 else D.nx env S1
mutual
/-- no exception within -/
def Val.fr : Val → Bool
  | .exc _ => false
  | .tup xs => Val.frs xs
  | _ => true
def Val.frs : List Val → Bool
  | [] => true
  | x :: xs => x.fr && Val.frs xs
end
def Ob.fr : Ob → Bool
  | .lst xs => Val.frs xs
  | .dic kvs => kvs.all fun p => p.2.fr
  | .ins _ fs => fs.all fun p => p.2.fr
  | .lck o => o.fr
/-- what an except suite may leave: new objects without exceptions, slots without them -/
def back (i : Nat) (env : Env) (S : Hm) (env' : Env) (S' : Hm) : Prop := (∃ l : Hm, S' = S ++ l ∧ l.all Ob.fr = true) ∧ env'.length = env.length ∧ ∀ j v, j ≠ i → eg env' j = some v → eg env j = some v ∨ v.fr = true
/-- an exception of class c leaves, where the names are so -/
abbrev XS := String → Env → Hm → Prop
end
section
variable (G : String → Option Val) (sub : String → String → Bool) (C : CallW)
mutual
def wS : St → XS → Sp → Env → Hm → Prop
  | .set i e, X, D, env, S => wE G C (fun c S' => X c env S') e env S fun v S1 => D.nx (es env i (some v)) S1
  | .setT is e, X, D, env, S => wE G C (fun c S' => X c env S') e env S fun v S1 => tgW (.tp is) v env fun env2 => D.nx env2 S1
  | .par is es', X, D, env, S => wEs G C (fun c S' => X c env S') es' env S fun vs S1 => vs.length = is.length ∧ D.nx ((is.zip vs).foldl (fun e p => es e p.1 (some p.2)) env) S1
  | .setI o i e, X, D, env, S => wE G C (fun c S' => X c env S') e env S fun v S1 => wE G C (fun c S' => X c env S') o env S1 fun x S2 => wE G C (fun c S' => X c env S') i env S2 fun y S3 => setW x y v S3 fun S4 => D.nx env S4
  | .setF o f e, X, D, env, S => wE G C (fun c S' => X c env S') e env S fun v S1 => wE G C (fun c S' => X c env S') o env S1 fun x S2 => ∃ n c fs, x = .ref n ∧ S2[n]? = some (.ins c fs) ∧ fs.length < 1000 ∧ D.nx env (S2.set n (.ins c (putF f v fs)))
  | .aug i op e, X, D, env, S => ∃ x, eg env i = some x ∧ wE G C (fun c S' => X c env S') e env S fun y S1 => ibinW op x y S1 fun z S2 => D.nx (es env i (some z)) S2
  | .augI o i op e, X, D, env, S => wE G C (fun c S' => X c env S') o env S fun x S1 => wE G C (fun c S' => X c env S') i env S1 fun y S2 => (∃ n, x = .ref n) ∧ subW x y S2 fun old S3 => wE G C (fun c S' => X c env S') e env S3 fun z S4 => ibinW op old z S4 fun r S5 => setW x y r S5 fun S6 => D.nx env S6
  | .augF o f op e, X, D, env, S => wE G C (fun c S' => X c env S') o env S fun x S1 => ∃ n c fs v, x = .ref n ∧ S1[n]? = some (.ins c fs) ∧ fs.lookup f = some v ∧ wE G C (fun c S' => X c env S') e env S1 fun z S2 => ibinW op v z S2 fun r S3 => ∃ fs', S3[n]? = some (.ins c fs') ∧ fs'.length < 1000 ∧ D.nx env (S3.set n (.ins c (putF f r fs')))
  | .expr e, X, D, env, S => wE G C (fun c S' => X c env S') e env S fun _ S1 => D.nx env S1
  | .ret e, X, D, env, S => wE G C (fun c S' => X c env S') e env S D.rt
  | .retN, _, D, _, S => D.rt .non S
  | .ife c a b, X, D, env, S => wT G C (fun c S' => X c env S') c env S fun r S1 => if r = true then wSs a X D env S1 else wSs b X D env S1
  | .for tg src body, X, D, env, S => wSrc G C (fun c S' => X c env S') src env S fun items guard S1 => forL tg guard (wSs body X) D items env S1
  | .while c body, X, D, env, S => ∃ n, whileN (fun env S K => wT G C (fun c S' => X c env S') c env S K) (wSs body X) D n env S
  | .raise c, X, _, env, S => X c env S
  | .try body hs orelse, X, D, env, S => wSs body (fun c env' S' => sub c c = true ∧ wHs c hs X D env' S') { nx := fun env' S' => wSs orelse X D env' S', rt := D.rt, ct := D.ct } env S
  | .cont, _, D, env, S => D.ct env S
  | .pass, _, D, env, S => D.nx env S
  | .lck i s, X, D, env, S => ∃ n kvs, eg env i = some (.ref n) ∧ S[n]? = some (.dic kvs) ∧ wS s X (lckD n kvs D) env (S.set n (.lck (.dic kvs)))
def wSs : Sts → XS → Sp → Env → Hm → Prop
  | .nil, _, D, env, S => D.nx env S
  | .cons s ss, X, D, env, S => wS s X { nx := fun env' S' => wSs ss X D env' S', rt := D.rt, ct := D.ct } env S
def wHs (c : String) : Hs → XS → Sp → Env → Hm → Prop
  | .nil, X, _, env, S => X c env S
  | .cons h i body rest, X, D, env, S => if sub c h = true then (match i with
      | none => wSs body X D env S
      | some i => wSs body (fun _ _ _ => False) { nx := fun env' S' => back i env S env' S' ∧ D.nx (es env' i none) S', rt := fun _ _ => False } (es env i (some (.exc c))) S) else wHs c rest X D env S
end
end
end Mi

set_option maxHeartbeats 2000000
namespace Mi
open PySem
section
variable {Q Q' : Post} {x y z : Val} {S : Hm}
theorem eqD_mono {Q Q' : Bool → Prop} (hq : ∀ b, Q b → Q' b) (h : eqD x y S Q) : eqD x y S Q' := by
  revert h
  unfold eqD
  split
  · rintro ⟨ks, ls, b, h1, h2, h3, h4⟩
    exact ⟨ks, ls, b, h1, h2, h3, hq _ h4⟩
  · exact fun h => h
theorem eqW_mono {Q Q' : Bool → Prop} (hq : ∀ b, Q b → Q' b) (h : eqW x y S Q) : eqW x y S Q' := by
  rcases h with ⟨d, e, h1, h2, h3⟩ | h
  · exact .inl ⟨d, e, h1, h2, hq _ h3⟩
  · exact .inr (eqD_mono hq h)
theorem inW_mono {Q Q' : Bool → Prop} (hq : ∀ b, Q b → Q' b) (h : inW x y S Q) : inW x y S Q' := by
  revert h
  unfold inW
  cases y with
  | str b =>
    cases x with
    | str a =>
      intro h
      rcases h with ⟨c, h1, h2⟩ | h
      · exact .inl ⟨c, h1, hq _ h2⟩
      · exact .inr (hq _ h)
    | _ => intro h; exact h.elim
  | tup xs => exact fun h => ⟨h.1, h.2.1, hq _ h.2.2⟩
  | ref n =>
    intro h
    rcases h with ⟨xs, h1, ⟨h2, h3, h4⟩ | ⟨d, ds, h2, h3, h4⟩⟩ | ⟨kvs, k, h1, h2, h3⟩
    · exact .inl ⟨xs, h1, .inl ⟨h2, h3, hq _ h4⟩⟩
    · exact .inl ⟨xs, h1, .inr ⟨d, ds, h2, h3, hq _ h4⟩⟩
    · exact .inr ⟨kvs, k, h1, h2, hq _ h3⟩
  | _ => intro h; exact h.elim
theorem binW_mono {op : Operator} (hq : ∀ v S, Q v S → Q' v S) (h : binW op x y S Q) : binW op x y S Q' := by
  revert h
  unfold binW
  split <;> intro h <;> grind
theorem ibinW_mono {op : Operator} (hq : ∀ v S, Q v S → Q' v S) (h : ibinW op x y S Q) : ibinW op x y S Q' := by
  revert h
  unfold ibinW
  split <;> intro h <;> grind
theorem cmpW_mono {op : CmpOp} {Q Q' : Bool → Prop} (hq : ∀ b, Q b → Q' b) (h : cmpW op x y S Q) : cmpW op x y S Q' := by
  revert h
  unfold cmpW
  cases op <;> intro h
  case Eq => exact eqW_mono hq h
  case NotEq => exact eqW_mono (fun b => hq _) h
  case In => exact inW_mono hq h
  case NotIn => exact inW_mono (fun b => hq _) h
  all_goals grind
theorem subW_mono (hq : ∀ v S, Q v S → Q' v S) (h : subW x y S Q) : subW x y S Q' := by
  revert h
  unfold subW
  split <;> intro h <;> grind
theorem sliceW_mono {lo hi : Option Int} (hq : ∀ v S, Q v S → Q' v S) (h : sliceW x lo hi S Q) : sliceW x lo hi S Q' := by
  revert h
  unfold sliceW
  split <;> intro h <;> grind
theorem biW_mono {f : Bi} {args : List Val} (hq : ∀ v S, Q v S → Q' v S) (h : biW f args S Q) : biW f args S Q' := by
  revert h
  unfold biW
  split <;> intro h <;> grind
theorem bmW_mono {m : Bm} {args : List Val} (hq : ∀ v S, Q v S → Q' v S) (h : bmW m x args S Q) : bmW m x args S Q' := by
  revert h
  unfold bmW
  split <;> intro h <;> grind
theorem setW_mono {Q Q' : Hm → Prop} (hq : ∀ S, Q S → Q' S) (h : setW x y z S Q) : setW x y z S Q' := by
  revert h
  unfold setW
  split <;> intro h <;> grind
theorem tgW_mono {tg : Tg} {e : Env} {K K' : Env → Prop} (hq : ∀ e, K e → K' e) (h : tgW tg x e K) : tgW tg x e K' := by
  revert h
  unfold tgW
  split <;> intro h <;> grind
theorem seqOf_mono {K K' : List Val → (Hm → Prop) → Prop} (hq : ∀ xs g, K xs g → K' xs g) (h : seqOf x S K) : seqOf x S K' := by
  revert h
  unfold seqOf
  split <;> intro h <;> grind
theorem ltOf_mono {K K' : List Val → (Hm → Prop) → Prop} (hq : ∀ xs g, K xs g → K' xs g) (h : ltOf x S K) : ltOf x S K' := by
  revert h
  unfold ltOf
  split <;> intro h
  · exact hq _ _ h
  · exact let ⟨xs, h1, h2⟩ := h; ⟨xs, h1, hq _ _ h2⟩
  · exact h
theorem viW_mono {f : Vi} {vs : List Val} {S : Hm} {Q Q' : Post} (hq : ∀ v S, Q v S → Q' v S) (h : viW f vs S Q) : viW f vs S Q' := by
  revert h
  unfold viW
  split <;> intro h
  · exact hq _ _ h
  · exact ⟨h.1, hq _ _ h.2⟩
  · exact ltOf_mono (fun _ _ h => ltOf_mono (fun _ _ h => hq _ _ h) h) h
  · obtain ⟨bs, h1, h2⟩ := h
    exact ⟨bs, h1, hq _ _ h2⟩
  · exact h
theorem zipOf_mono {y : Val} {K K' : List Val → (Hm → Prop) → Prop} (hq : ∀ xs g, K xs g → K' xs g) (h : zipOf x y S K) : zipOf x y S K' :=
  ltOf_mono (fun _ _ h => ltOf_mono (fun _ _ h => hq _ _ h) h) h
theorem lstOf_mono {K K' : List Val → (Hm → Prop) → Prop} (hq : ∀ xs g, K xs g → K' xs g) (h : lstOf x S K) : lstOf x S K' := by
  revert h
  unfold lstOf
  split <;> intro h <;> grind
theorem lcLoop_mono {turn turn' : Val → Hm → (Option Val → Hm → Prop) → Prop} {guard : Hm → Prop} (ht : ∀ v S K K', (∀ r S, K r S → K' r S) → turn v S K → turn' v S K') : ∀ {vs acc : List Val} {S : Hm} {Q Q' : List Val → Hm → Prop}, (∀ a S, Q a S → Q' a S) → lcLoop turn guard vs acc S Q → lcLoop turn' guard vs acc S Q'
  | [], acc, S, Q, Q', hq, h => ⟨h.1, hq _ _ h.2⟩
  | v :: vs, acc, S, Q, Q', hq, h => by
    refine ⟨h.1, ht _ _ _ _ (fun r S1 h1 => ?_) h.2⟩
    cases r with
    | none => exact lcLoop_mono ht hq h1
    | some x => exact ⟨h1.1, lcLoop_mono ht hq h1.2⟩
end
/-- a call's reading, with more wished for -/
def CMono (C : CallW) : Prop := ∀ f vs S Q Q' X X', (∀ v S, Q v S → Q' v S) → (∀ c S, X c S → X' c S) → C f vs S Q X → C f vs S Q' X'
section
variable {G : String → Option Val} {C : CallW} (hC : CMono C)
include hC
mutual
theorem wE_mono : ∀ {X X' : XPost}, (∀ c S, X c S → X' c S) → ∀ (e : E) {env : Env} {S : Hm} {Q Q' : Post}, (∀ v S, Q v S → Q' v S) → wE G C X e env S Q → wE G C X' e env S Q'
  | X, X', hX, .loc i, env, S, Q, Q', hq, h => by
    simp only [wE] at h ⊢
    obtain ⟨v, h1, h2⟩ := h
    exact ⟨v, h1, hq _ _ h2⟩
  | X, X', hX, .lit c, env, S, Q, Q', hq, h => hq _ _ h
  | X, X', hX, .con x, env, S, Q, Q', hq, h => by
    simp only [wE] at h ⊢
    obtain ⟨v, h1, h2⟩ := h
    exact ⟨v, h1, hq _ _ h2⟩
  | X, X', hX, .bin op a b, env, S, Q, Q', hq, h => by
    simp only [wE] at h ⊢
    exact wE_mono hX a (fun x S1 h1 => wE_mono hX b (fun y S2 h2 => binW_mono hq h2) h1) h
  | X, X', hX, .neg a, env, S, Q, Q', hq, h => by
    simp only [wE] at h ⊢
    exact wE_mono hX a (fun x S1 ⟨i, h1, h2⟩ => ⟨i, h1, hq _ _ h2⟩) h
  | X, X', hX, .cmp op a b, env, S, Q, Q', hq, h => by
    simp only [wE] at h ⊢
    exact wE_mono hX a (fun x S1 h1 => wE_mono hX b (fun y S2 h2 => cmpW_mono (fun r h3 => hq _ _ h3) h2) h1) h
  | X, X', hX, .cmp2 op op' a b c, env, S, Q, Q', hq, h => by
    simp only [wE] at h ⊢
    refine wE_mono hX a (fun x S1 h1 => wE_mono hX b (fun y S2 h2 => cmpW_mono (fun r h3 => ?_) h2) h1) h
    cases r with
    | true =>
      simp only [if_true] at h3 ⊢
      exact wE_mono hX c (fun z S3 h4 => cmpW_mono (fun r' h5 => hq _ _ h5) h4) h3
    | false =>
      simp only [Bool.false_eq_true, if_false] at h3 ⊢
      exact hq _ _ h3
  | X, X', hX, .isN a, env, S, Q, Q', hq, h => by
    simp only [wE] at h ⊢
    exact wE_mono hX a (fun x S1 h1 => hq _ _ h1) h
  | X, X', hX, .notN a, env, S, Q, Q', hq, h => by
    simp only [wE] at h ⊢
    exact wE_mono hX a (fun x S1 h1 => hq _ _ h1) h
  | X, X', hX, .isB a b, env, S, Q, Q', hq, h => by
    simp only [wE] at h ⊢
    exact wE_mono hX a (fun x S1 ⟨c, h1, h2⟩ => ⟨c, h1, hq _ _ h2⟩) h
  | X, X', hX, .not a, env, S, Q, Q', hq, h => by
    simp only [wE] at h ⊢
    exact wE_mono hX a (fun x S1 ⟨c, h1, h2⟩ => ⟨c, h1, hq _ _ h2⟩) h
  | X, X', hX, .and a b, env, S, Q, Q', hq, h => by
    simp only [wE] at h ⊢
    refine wE_mono hX a (fun x S1 ⟨c, h1, h2⟩ => ⟨c, h1, ?_⟩) h
    cases c with
    | true =>
      simp only [if_true] at h2 ⊢
      exact wE_mono hX b hq h2
    | false =>
      simp only [Bool.false_eq_true, if_false] at h2 ⊢
      exact hq _ _ h2
  | X, X', hX, .or a b, env, S, Q, Q', hq, h => by
    simp only [wE] at h ⊢
    refine wE_mono hX a (fun x S1 ⟨c, h1, h2⟩ => ⟨c, h1, ?_⟩) h
    cases c with
    | true =>
      simp only [if_true] at h2 ⊢
      exact hq _ _ h2
    | false =>
      simp only [Bool.false_eq_true, if_false] at h2 ⊢
      exact wE_mono hX b hq h2
  | X, X', hX, .ite c a b, env, S, Q, Q', hq, h => by
    simp only [wE] at h ⊢
    refine wT_mono hX c (fun r S1 h1 => ?_) h
    cases r with
    | true =>
      simp only [if_true] at h1 ⊢
      exact wE_mono hX a hq h1
    | false =>
      simp only [Bool.false_eq_true, if_false] at h1 ⊢
      exact wE_mono hX b hq h1
  | X, X', hX, .tup es, env, S, Q, Q', hq, h => by
    simp only [wE] at h ⊢
    exact wEs_mono hX es (fun vs S1 h1 => ⟨h1.1, hq _ _ h1.2⟩) h
  | X, X', hX, .lst es, env, S, Q, Q', hq, h => by
    simp only [wE] at h ⊢
    exact wEs_mono hX es (fun vs S1 h1 => ⟨h1.1, hq _ _ h1.2⟩) h
  | X, X', hX, .dic ps, env, S, Q, Q', hq, h => by
    simp only [wE] at h ⊢
    exact wPs_mono hX ps (fun vs S1 h1 => hq _ _ h1) h
  | X, X', hX, .call f es, env, S, Q, Q', hq, h => by
    simp only [wE] at h ⊢
    exact wEs_mono hX es (fun vs S1 h1 => hC _ _ _ _ _ _ _ hq hX h1) h
  | X, X', hX, .make c es, env, S, Q, Q', hq, h => by
    simp only [wE] at h ⊢
    exact wEs_mono hX es (fun vs S1 h1 => hC _ _ _ _ _ _ _ (fun v S2 h2 => ⟨h2.1, hq _ _ h2.2⟩) hX h1) h
  | X, X', hX, .meth c m o es, env, S, Q, Q', hq, h => by
    simp only [wE] at h ⊢
    exact wE_mono hX o (fun x S1 ⟨n, fs, h1, h2, h3, h4⟩ => ⟨n, fs, h1, h2, h3, wEs_mono hX es (fun vs S2 h5 => hC _ _ _ _ _ _ _ hq hX h5) h4⟩) h
  | X, X', hX, .fld o f, env, S, Q, Q', hq, h => by
    simp only [wE] at h ⊢
    exact wE_mono hX o (fun x S1 ⟨n, c, fs, v, h1, h2, h3, h4⟩ => ⟨n, c, fs, v, h1, h2, h3, hq _ _ h4⟩) h
  | X, X', hX, .sub o i, env, S, Q, Q', hq, h => by
    simp only [wE] at h ⊢
    exact wE_mono hX o (fun x S1 h1 => wE_mono hX i (fun y S2 h2 => subW_mono hq h2) h1) h
  | X, X', hX, .slice o lo hi, env, S, Q, Q', hq, h => by
    simp only [wE] at h ⊢
    exact wE_mono hX o (fun x S1 h1 => wO_mono hX lo (fun a S2 h2 => wO_mono hX hi (fun b S3 h3 => sliceW_mono hq h3) h2) h1) h
  | X, X', hX, .bi f es, env, S, Q, Q', hq, h => by
    simp only [wE] at h ⊢
    exact wEs_mono hX es (fun vs S1 h1 => biW_mono hq h1) h
  | X, X', hX, .vi f es, env, S, Q, Q', hq, h => by
    simp only [wE] at h ⊢
    exact wEs_mono hX es (fun vs S1 h1 => viW_mono hq h1) h
  | X, X', hX, .bm m o es, env, S, Q, Q', hq, h => by
    simp only [wE] at h ⊢
    exact wE_mono hX o (fun x S1 h1 => ⟨h1.1, wEs_mono hX es (fun vs S2 h2 => bmW_mono hq h2) h1.2⟩) h
  | X, X', hX, .isi a ts, env, S, Q, Q', hq, h => by
    simp only [wE] at h ⊢
    exact wE_mono hX a (fun x S1 ⟨bs, h1, h2⟩ => ⟨bs, h1, hq _ _ h2⟩) h
  | X, X', hX, .lc elt tg src cond own, env, S, Q, Q', hq, h => by
    simp only [wE] at h ⊢
    refine wSrc_mono hX src (fun items guard S1 h1 => lcLoop_mono (fun v S2 K K' hk h2 => tgW_mono (fun e2 h3 => wC_mono hX cond (fun b S3 h4 => ?_) h3) h2) (fun acc S2 h2 => hq _ _ h2) h1) h
    cases b with
    | true =>
      simp only [if_true] at h4 ⊢
      exact wE_mono hX elt (fun x S4 h5 => hk _ _ h5) h4
    | false =>
      simp only [Bool.false_eq_true, if_false] at h4 ⊢
      exact hk _ _ h4
  | X, X', hX, .lck i e, env, S, Q, Q', hq, h => by
    simp only [wE] at h ⊢
    obtain ⟨n, kvs, h1, h2, h3⟩ := h
    exact ⟨n, kvs, h1, h2, wE_mono hX e (fun v S1 h4 => ⟨h4.1, hq _ _ h4.2⟩) h3⟩
theorem wEs_mono : ∀ {X X' : XPost}, (∀ c S, X c S → X' c S) → ∀ (es : Es) {env : Env} {S : Hm} {Q Q' : List Val → Hm → Prop}, (∀ v S, Q v S → Q' v S) → wEs G C X es env S Q → wEs G C X' es env S Q'
  | X, X', hX, .nil, env, S, Q, Q', hq, h => hq _ _ h
  | X, X', hX, .cons e es, env, S, Q, Q', hq, h => by
    simp only [wEs] at h ⊢
    exact wE_mono hX e (fun x S1 h1 => wEs_mono hX es (fun xs S2 h2 => hq _ _ h2) h1) h
theorem wPs_mono : ∀ {X X' : XPost}, (∀ c S, X c S → X' c S) → ∀ (ps : Ps) {env : Env} {S : Hm} {Q Q' : List (Key × Val) → Hm → Prop}, (∀ v S, Q v S → Q' v S) → wPs G C X ps env S Q → wPs G C X' ps env S Q'
  | X, X', hX, .nil, env, S, Q, Q', hq, h => hq _ _ h
  | X, X', hX, .cons k v ps, env, S, Q, Q', hq, h => by
    simp only [wPs] at h ⊢
    exact wE_mono hX k (fun x S1 h1 => wE_mono hX v (fun y S2 ⟨q, h2, h3⟩ => ⟨q, h2, wPs_mono hX ps (fun r S3 h4 => hq _ _ h4) h3⟩) h1) h
theorem wO_mono : ∀ {X X' : XPost}, (∀ c S, X c S → X' c S) → ∀ (o : Oe) {env : Env} {S : Hm} {Q Q' : Option Int → Hm → Prop}, (∀ v S, Q v S → Q' v S) → wO G C X o env S Q → wO G C X' o env S Q'
  | X, X', hX, .none, env, S, Q, Q', hq, h => hq _ _ h
  | X, X', hX, .some e, env, S, Q, Q', hq, h => by
    simp only [wO] at h ⊢
    exact wE_mono hX e (fun x S1 ⟨i, h1, h2⟩ => ⟨i, h1, hq _ _ h2⟩) h
theorem wC_mono : ∀ {X X' : XPost}, (∀ c S, X c S → X' c S) → ∀ (o : Ot) {env : Env} {S : Hm} {Q Q' : Bool → Hm → Prop}, (∀ v S, Q v S → Q' v S) → wC G C X o env S Q → wC G C X' o env S Q'
  | X, X', hX, .none, env, S, Q, Q', hq, h => hq _ _ h
  | X, X', hX, .some t, env, S, Q, Q', hq, h => by
    simp only [wC] at h ⊢
    exact wT_mono hX t hq h
theorem wT_mono : ∀ {X X' : XPost}, (∀ c S, X c S → X' c S) → ∀ (t : T) {env : Env} {S : Hm} {Q Q' : Bool → Hm → Prop}, (∀ v S, Q v S → Q' v S) → wT G C X t env S Q → wT G C X' t env S Q'
  | X, X', hX, .v e, env, S, Q, Q', hq, h => by
    simp only [wT] at h ⊢
    exact wE_mono hX e (fun x S1 ⟨b, h1, h2⟩ => ⟨b, h1, hq _ _ h2⟩) h
  | X, X', hX, .not a, env, S, Q, Q', hq, h => by
    simp only [wT] at h ⊢
    exact wT_mono hX a (fun b S1 h1 => hq _ _ h1) h
  | X, X', hX, .and a b, env, S, Q, Q', hq, h => by
    simp only [wT] at h ⊢
    refine wT_mono hX a (fun c S1 h1 => ?_) h
    cases c with
    | true =>
      simp only [if_true] at h1 ⊢
      exact wT_mono hX b hq h1
    | false =>
      simp only [Bool.false_eq_true, if_false] at h1 ⊢
      exact hq _ _ h1
  | X, X', hX, .or a b, env, S, Q, Q', hq, h => by
    simp only [wT] at h ⊢
    refine wT_mono hX a (fun c S1 h1 => ?_) h
    cases c with
    | true =>
      simp only [if_true] at h1 ⊢
      exact hq _ _ h1
    | false =>
      simp only [Bool.false_eq_true, if_false] at h1 ⊢
      exact wT_mono hX b hq h1
theorem wSrc_mono : ∀ {X X' : XPost}, (∀ c S, X c S → X' c S) → ∀ (s : Src) {env : Env} {S : Hm} {K K' : List Val → (Hm → Prop) → Hm → Prop}, (∀ xs g S, K xs g S → K' xs g S) → wSrc G C X s env S K → wSrc G C X' s env S K'
  | X, X', hX, .seq e, env, S, K, K', hk, h => by
    simp only [wSrc] at h ⊢
    exact wE_mono hX e (fun x S1 h1 => seqOf_mono (fun xs g h2 => hk _ _ _ h2) h1) h
  | X, X', hX, .rng1 a, env, S, K, K', hk, h => by
    simp only [wSrc] at h ⊢
    exact wE_mono hX a (fun x S1 ⟨j, h1, h2, h3⟩ => ⟨j, h1, h2, hk _ _ _ h3⟩) h
  | X, X', hX, .rng2 a b, env, S, K, K', hk, h => by
    simp only [wSrc] at h ⊢
    exact wE_mono hX a (fun x S1 h1 => wE_mono hX b (fun y S2 ⟨i, j, h2, h3, h4, h5, h6⟩ => ⟨i, j, h2, h3, h4, h5, hk _ _ _ h6⟩) h1) h
  | X, X', hX, .enum a, env, S, K, K', hk, h => by
    simp only [wSrc] at h ⊢
    exact wE_mono hX a (fun x S1 h1 => ltOf_mono (fun xs g h2 => hk _ _ _ h2) h1) h
  | X, X', hX, .zip a b, env, S, K, K', hk, h => by
    simp only [wSrc] at h ⊢
    exact wE_mono hX a (fun x S1 h1 => wE_mono hX b (fun y S2 h2 => zipOf_mono (fun xs g h3 => hk _ _ _ h3) h2) h1) h
  | X, X', hX, .rev a, env, S, K, K', hk, h => by
    simp only [wSrc] at h ⊢
    exact wE_mono hX a (fun x S1 h1 => ltOf_mono (fun xs g h2 => hk _ _ _ h2) h1) h
  | X, X', hX, .rng3 a b c, env, S, K, K', hk, h => by simp only [wSrc] at h
  | X, X', hX, .items a, env, S, K, K', hk, h => by
    simp only [wSrc] at h ⊢
    exact wE_mono hX a (fun x S1 ⟨n, kvs, h1, h2, h3⟩ => ⟨n, kvs, h1, h2, hk _ _ _ h3⟩) h
  | X, X', hX, .values a, env, S, K, K', hk, h => by
    simp only [wSrc] at h ⊢
    exact wE_mono hX a (fun x S1 ⟨n, kvs, h1, h2, h3⟩ => ⟨n, kvs, h1, h2, hk _ _ _ h3⟩) h
  | X, X', hX, .keys a, env, S, K, K', hk, h => by
    simp only [wSrc] at h ⊢
    exact wE_mono hX a (fun x S1 ⟨n, kvs, h1, h2, h3⟩ => ⟨n, kvs, h1, h2, hk _ _ _ h3⟩) h
end
end

/-- more is wished for behind a statement -/
structure Sp.Le (D D' : Sp) : Prop where
  nx : ∀ e S, D.nx e S → D'.nx e S
  rt : ∀ v S, D.rt v S → D'.rt v S
  ct : ∀ e S, D.ct e S → D'.ct e S
theorem forL_mono {tg : Tg} {guard : Hm → Prop} {body body' : Sp → Env → Hm → Prop} (hb : ∀ D D' e S, Sp.Le D D' → body D e S → body' D' e S) {D D' : Sp} (hD : Sp.Le D D') : ∀ {vs : List Val} {e : Env} {S : Hm}, forL tg guard body D vs e S → forL tg guard body' D' vs e S
  | [], e, S, h => ⟨h.1, hD.nx _ _ h.2⟩
  | v :: vs, e, S, h => ⟨h.1, tgW_mono (fun e2 h2 => hb { nx := forL tg guard body D vs, rt := D.rt, ct := forL tg guard body D vs } { nx := forL tg guard body' D' vs, rt := D'.rt, ct := forL tg guard body' D' vs } _ _ ⟨fun _ _ => forL_mono hb hD, hD.rt, fun _ _ => forL_mono hb hD⟩ h2) h.2⟩
theorem whileN_mono {c c' : Env → Hm → (Bool → Hm → Prop) → Prop} (hc : ∀ e S Q Q', (∀ b S, Q b S → Q' b S) → c e S Q → c' e S Q') {body body' : Sp → Env → Hm → Prop} (hb : ∀ D D' e S, Sp.Le D D' → body D e S → body' D' e S) {D D' : Sp} (hD : Sp.Le D D') :
    ∀ {n : Nat} {e : Env} {S : Hm}, whileN c body D n e S → whileN c' body' D' n e S
  | 0, e, S, h => h
  | n + 1, e, S, h => by
    refine hc _ _ _ _ (fun b S1 h1 => ?_) h
    cases b with
    | true =>
      simp only [if_true] at h1 ⊢
      exact hb { nx := whileN c body D n, rt := D.rt, ct := whileN c body D n } { nx := whileN c' body' D' n, rt := D'.rt, ct := whileN c' body' D' n } _ _ ⟨fun _ _ => whileN_mono hc hb hD, hD.rt, fun _ _ => whileN_mono hc hb hD⟩ h1
    | false =>
      simp only [Bool.false_eq_true, if_false] at h1 ⊢
      exact hD.nx _ _ h1
section
variable {G : String → Option Val} {sub : String → String → Bool} {C : CallW} (hC : CMono C)
include hC
mutual
theorem wS_mono : ∀ (s : St) {X X' : XS} {D D' : Sp} {env : Env} {S : Hm}, (∀ c e S, X c e S → X' c e S) → Sp.Le D D' → wS G sub C s X D env S → wS G sub C s X' D' env S
  | .set i e, X, X', D, D', env, S, hX, hD, h => by
    simp only [wS] at h ⊢
    exact wE_mono hC (fun c S1 => hX c env S1) e (fun v S1 h1 => hD.nx _ _ h1) h
  | .setT is e, X, X', D, D', env, S, hX, hD, h => by
    simp only [wS] at h ⊢
    exact wE_mono hC (fun c S1 => hX c env S1) e (fun v S1 h1 => tgW_mono (fun e2 h2 => hD.nx _ _ h2) h1) h
  | .par is es', X, X', D, D', env, S, hX, hD, h => by
    simp only [wS] at h ⊢
    exact wEs_mono hC (fun c S1 => hX c env S1) es' (fun v S1 h1 => ⟨h1.1, hD.nx _ _ h1.2⟩) h
  | .setI o i e, X, X', D, D', env, S, hX, hD, h => by
    simp only [wS] at h ⊢
    exact wE_mono hC (fun c S1 => hX c env S1) e (fun v S1 h1 => wE_mono hC (fun c S1 => hX c env S1) o (fun x S2 h2 => wE_mono hC (fun c S1 => hX c env S1) i (fun y S3 h3 => setW_mono (fun S4 h4 => hD.nx _ _ h4) h3) h2) h1) h
  | .setF o f e, X, X', D, D', env, S, hX, hD, h => by
    simp only [wS] at h ⊢
    exact wE_mono hC (fun c S1 => hX c env S1) e (fun v S1 h1 => wE_mono hC (fun c S1 => hX c env S1) o (fun x S2 ⟨n, c, fs, h2, h3, h4, h5⟩ => ⟨n, c, fs, h2, h3, h4, hD.nx _ _ h5⟩) h1) h
  | .aug i op e, X, X', D, D', env, S, hX, hD, h => by
    simp only [wS] at h ⊢
    obtain ⟨x, h1, h2⟩ := h
    exact ⟨x, h1, wE_mono hC (fun c S1 => hX c env S1) e (fun y S1 h3 => ibinW_mono (fun z S2 h4 => hD.nx _ _ h4) h3) h2⟩
  | .augI o i op e, X, X', D, D', env, S, hX, hD, h => by
    simp only [wS] at h ⊢
    exact wE_mono hC (fun c S1 => hX c env S1) o (fun x S1 h1 => wE_mono hC (fun c S1 => hX c env S1) i (fun y S2 h2 => ⟨h2.1, subW_mono (fun old S3 h3 => wE_mono hC (fun c S1 => hX c env S1) e (fun z S4 h4 => ibinW_mono (fun r S5 h5 => setW_mono (fun S6 h6 => hD.nx _ _ h6) h5) h4) h3) h2.2⟩) h1) h
  | .augF o f op e, X, X', D, D', env, S, hX, hD, h => by
    simp only [wS] at h ⊢
    exact wE_mono hC (fun c S1 => hX c env S1) o (fun x S1 ⟨n, c, fs, v, h1, h2, h3, h4⟩ => ⟨n, c, fs, v, h1, h2, h3, wE_mono hC (fun c S1 => hX c env S1) e (fun z S2 h5 => ibinW_mono (fun r S3 ⟨fs', h6, h7, h8⟩ => ⟨fs', h6, h7, hD.nx _ _ h8⟩) h5) h4⟩) h
  | .expr e, X, X', D, D', env, S, hX, hD, h => by
    simp only [wS] at h ⊢
    exact wE_mono hC (fun c S1 => hX c env S1) e (fun v S1 h1 => hD.nx _ _ h1) h
  | .ret e, X, X', D, D', env, S, hX, hD, h => by
    simp only [wS] at h ⊢
    exact wE_mono hC (fun c S1 => hX c env S1) e hD.rt h
  | .retN, X, X', D, D', env, S, hX, hD, h => hD.rt _ _ h
  | .ife c a b, X, X', D, D', env, S, hX, hD, h => by
    simp only [wS] at h ⊢
    refine wT_mono hC (fun c S1 => hX c env S1) c (fun r S1 h1 => ?_) h
    cases r with
    | true =>
      simp only [if_true] at h1 ⊢
      exact wSs_mono a hX hD h1
    | false =>
      simp only [Bool.false_eq_true, if_false] at h1 ⊢
      exact wSs_mono b hX hD h1
  | .for tg src body, X, X', D, D', env, S, hX, hD, h => by
    simp only [wS] at h ⊢
    exact wSrc_mono hC (fun c S1 => hX c env S1) src (fun items g S1 h1 => forL_mono (body := wSs G sub C body X) (body' := wSs G sub C body X') (fun D D' e S hd h2 => wSs_mono body hX hd h2) hD h1) h
  | .while c body, X, X', D, D', env, S, hX, hD, h => by
    simp only [wS] at h ⊢
    obtain ⟨n, h⟩ := h
    exact ⟨n, whileN_mono (c := fun env S K => wT G C (fun c S' => X c env S') c env S K) (c' := fun env S K => wT G C (fun c S' => X' c env S') c env S K) (body := wSs G sub C body X) (body' := wSs G sub C body X') (fun e S Q Q' hq h1 => wT_mono hC (fun c S1 => hX c e S1) c hq h1) (fun D D' e S hd h2 => wSs_mono body hX hd h2) hD h⟩
  | .raise c, X, X', D, D', env, S, hX, hD, h => hX _ _ _ h
  | .try body hs orelse, X, X', D, D', env, S, hX, hD, h => by
    simp only [wS] at h ⊢
    exact wSs_mono body (X := fun c env' S' => sub c c = true ∧ wHs G sub C c hs X D env' S') (X' := fun c env' S' => sub c c = true ∧ wHs G sub C c hs X' D' env' S') (D := { nx := fun env' S' => wSs G sub C orelse X D env' S', rt := D.rt, ct := D.ct }) (D' := { nx := fun env' S' => wSs G sub C orelse X' D' env' S', rt := D'.rt, ct := D'.ct }) (fun c e S1 h1 => ⟨h1.1, wHs_mono c hs hX hD h1.2⟩) ⟨fun e S1 h1 => wSs_mono orelse hX hD h1, hD.rt, hD.ct⟩ h
  | .cont, X, X', D, D', env, S, hX, hD, h => hD.ct _ _ h
  | .pass, X, X', D, D', env, S, hX, hD, h => hD.nx _ _ h
  | .lck i s, X, X', D, D', env, S, hX, hD, h => by
    simp only [wS] at h ⊢
    obtain ⟨n, kvs, h1, h2, h3⟩ := h
    exact ⟨n, kvs, h1, h2, wS_mono s (D := lckD n kvs D) (D' := lckD n kvs D') hX ⟨fun _ _ h => ⟨h.1, hD.nx _ _ h.2⟩, fun _ _ h => ⟨h.1, hD.rt _ _ h.2⟩, fun _ _ h => ⟨h.1, hD.ct _ _ h.2⟩⟩ h3⟩
theorem wSs_mono : ∀ (ss : Sts) {X X' : XS} {D D' : Sp} {env : Env} {S : Hm}, (∀ c e S, X c e S → X' c e S) → Sp.Le D D' → wSs G sub C ss X D env S → wSs G sub C ss X' D' env S
  | .nil, X, X', D, D', env, S, hX, hD, h => hD.nx _ _ h
  | .cons s ss, X, X', D, D', env, S, hX, hD, h => by
    simp only [wSs] at h ⊢
    exact wS_mono s (D := { nx := fun env' S' => wSs G sub C ss X D env' S', rt := D.rt, ct := D.ct }) (D' := { nx := fun env' S' => wSs G sub C ss X' D' env' S', rt := D'.rt, ct := D'.ct }) hX ⟨fun e S1 h1 => wSs_mono ss hX hD h1, hD.rt, hD.ct⟩ h
theorem wHs_mono (c : String) : ∀ (hs : Hs) {X X' : XS} {D D' : Sp} {env : Env} {S : Hm}, (∀ c e S, X c e S → X' c e S) → Sp.Le D D' → wHs G sub C c hs X D env S → wHs G sub C c hs X' D' env S
  | .nil, X, X', D, D', env, S, hX, hD, h => hX _ _ _ h
  | .cons h' i body rest, X, X', D, D', env, S, hX, hD, h => by
    simp only [wHs] at h ⊢
    split at h
    · rename_i hs
      rw [if_pos hs]
      cases i with
      | none => exact wSs_mono body hX hD h
      | some i => exact wSs_mono body (D := { nx := fun env' S' => back i env S env' S' ∧ D.nx (es env' i none) S', rt := fun _ _ => False }) (D' := { nx := fun env' S' => back i env S env' S' ∧ D'.nx (es env' i none) S', rt := fun _ _ => False }) (fun _ _ _ h => h) ⟨fun e S1 h1 => ⟨h1.1, hD.nx _ _ h1.2⟩, fun _ _ h => h, fun _ _ h => h⟩ h
    · rename_i hs
      rw [if_neg hs]
      exact wHs_mono c rest hX hD h
end
end

/-! ### programs -/
structure FDef where
  params : Nat
  names : List String
  dflt : List Lit
  body : Sts
structure Pg where
  flds : List String
  cls : List String
  tups : List (String × List Lit)
  fn : FK → Option FDef
  con : String → Option Val
  subs : List (String × List String) := []
  hotf : List String := []
def Pg.excs (P : Pg) : List String := P.subs.map (·.1)
def Pg.sub (P : Pg) (a b : String) : Bool := match P.subs.lookup a with
  | some l => l.contains b
  | none => false
theorem Pg.sub_me {P : Pg} {a : String} (h : P.sub a a = true) : a ∈ P.excs := by
  unfold Pg.sub at h
  split at h
  · rename_i l e
    unfold Pg.excs
    generalize P.subs = t at e
    induction t with
    | nil => cases e
    | cons p r ih =>
      obtain ⟨x, y⟩ := p
      rw [List.lookup_cons] at e
      split at e
      · rename_i hb
        have := beq_iff_eq.mp hb
        subst this
        exact List.mem_cons_self
      · exact List.mem_cons_of_mem _ (ih e)
  · cases h
def Pg.isHot (P : Pg) : FK → Bool
  | .f x => P.hotf.contains x
  | .m _ _ => false
def startE (d : FDef) (args : List Val) : Env := args.map some ++ List.replicate (d.names.length - args.length) none
/-- a def's body, run with all its arguments -/
def bodyW (P : Pg) (C : CallW) (d : FDef) (args : List Val) (S : Hm) (Q : Post) (X : XPost) : Prop :=
  args.length = d.params ∧ wSs P.con P.sub C d.body (fun c _ S' => X c S') { nx := fun _ S' => Q .non S', rt := Q } (startE d args) S
def padded (d : FDef) (args : List Val) : List Val := args ++ (d.dflt.drop (args.length + d.dflt.length - d.params)).map Lit.val
def FK.init : FK → Bool
  | .f _ => false
  | .m _ x => x == "__init__"
/-- a call, k deep at most; an __init__ counts twice -/
def callW (P : Pg) : Nat → CallW
  | 0 => fun _ _ _ _ _ => False
  | k + 1 => fun f args S Q X => ∃ d, P.fn f = some d ∧ if f.init = true then (match k with
      | 0 => False
      | k' + 1 => bodyW P (callW P k') d (padded d args) S Q X) else bodyW P (callW P k) d (padded d args) S Q X
theorem bodyW_mono {P : Pg} {C : CallW} (hC : CMono C) {d : FDef} {args : List Val} {S : Hm} {Q Q' : Post} {X X' : XPost} (hq : ∀ v S, Q v S → Q' v S) (hx : ∀ c S, X c S → X' c S) (h : bodyW P C d args S Q X) : bodyW P C d args S Q' X' :=
  ⟨h.1, wSs_mono hC d.body (X := fun c _ S' => X c S') (X' := fun c _ S' => X' c S') (D := { nx := fun _ S' => Q .non S', rt := Q }) (D' := { nx := fun _ S' => Q' .non S', rt := Q' }) (fun c _ S1 => hx c S1) ⟨fun _ S1 => hq _ S1, hq, fun _ _ h => h⟩ h.2⟩
theorem callW_one {P : Pg} {f : FK} {args : List Val} {S : Hm} {Q : Post} {X : XPost} : callW P 1 f args S Q X = ∃ d, P.fn f = some d ∧ if f.init = true then False else bodyW P (callW P 0) d (padded d args) S Q X := rfl
theorem callW_two {P : Pg} {k : Nat} {f : FK} {args : List Val} {S : Hm} {Q : Post} {X : XPost} : callW P (k + 2) f args S Q X = ∃ d, P.fn f = some d ∧ if f.init = true then bodyW P (callW P k) d (padded d args) S Q X else bodyW P (callW P (k + 1)) d (padded d args) S Q X := rfl
theorem callW_mono (P : Pg) : ∀ k, CMono (callW P k)
  | 0 => fun _ _ _ _ _ _ _ _ _ h => h
  | 1 => fun f vs S Q Q' X X' hq hx h => by
      rw [callW_one] at h ⊢
      obtain ⟨d, h1, h2⟩ := h
      refine ⟨d, h1, ?_⟩
      split at h2
      · exact h2.elim
      · rename_i hi
        rw [if_neg hi]
        exact bodyW_mono (callW_mono P 0) hq hx h2
  | k + 2 => fun f vs S Q Q' X X' hq hx h => by
      rw [callW_two] at h ⊢
      obtain ⟨d, h1, h2⟩ := h
      refine ⟨d, h1, ?_⟩
      split at h2
      · rename_i hi
        rw [if_pos hi]
        exact bodyW_mono (callW_mono P k) hq hx h2
      · rename_i hi
        rw [if_neg hi]
        exact bodyW_mono (callW_mono P (k + 1)) hq hx h2
end Mi

set_option maxHeartbeats 2000000
namespace Mi
open PySem PySem.Spec L2 PyProof.Rows

/-- which addresses are instances of which class; which one is the exception at hand -/
structure Cl where
  fn : String → Addr → Prop
  z : Addr → String → Prop
instance : CoeFun Cl (fun _ => String → Addr → Prop) := ⟨Cl.fn⟩
def Cl.at (cl : Cl) (a : Addr) (c : String) : Cl := ⟨cl.fn, fun b d => b = a ∧ d = c⟩
/-- how the small heap lies in the abstract one: em, the addresses of its places; z, the exception at hand -/
structure Sm where
  K : PySem.W.Frag
  H : Hp
  em : List Addr
  z : Option (Addr × String)

mutual
inductive RD (m : Sm) : Val → V → Prop where
  | non : RD m .non .non
  | bl (b : Bool) : RD m (.bl b) (.bl b)
  | int (i : Int) : RD m (.int i) (.int i)
  | str (x : String) : RD m (.str x) (.str (Str.ofString x))
  | tup {a : Addr} {xs : List V} {ds : List Val} : SqT m.K m.H a xs → RDs m ds xs → RD m (.tup ds) (.ref a)
  | ref {n : Nat} {a : Addr} : m.em[n]? = some a → RD m (.ref n) (.ref a)
  | exc {a : Addr} {c : String} : m.z = some (a, c) → RD m (.exc c) (.ref a)
inductive RDs (m : Sm) : List Val → List V → Prop where
  | nil : RDs m [] []
  | cons {d : Val} {x : V} {ds : List Val} {xs : List V} : RD m d x → RDs m ds xs → RDs m (d :: ds) (x :: xs)
end
section
variable {m m' : Sm}
/-- what keeps values: the tuples stay, places are added -/
structure Up (m m' : Sm) : Prop where
  tup : ∀ a xs, SqT m.K m.H a xs → SqT m'.K m'.H a xs
  em : ∃ l, m'.em = m.em ++ l
  z : ∀ p, m.z = some p → m'.z = some p
theorem em_get (h : ∃ l, m'.em = m.em ++ l) {n : Nat} {a : Addr} (e : m.em[n]? = some a) : m'.em[n]? = some a := by
  obtain ⟨l, h⟩ := h
  rw [h, List.getElem?_append_left (List.getElem?_eq_some_iff.mp e).1]
  exact e
mutual
theorem RD.up (u : Up m m') : ∀ {d : Val} {x : V}, RD m d x → RD m' d x
  | _, _, .non => .non
  | _, _, .bl b => .bl b
  | _, _, .int i => .int i
  | _, _, .str x => .str x
  | _, _, .tup h hs => .tup (u.tup _ _ h) (RDs.up u hs)
  | _, _, .ref h => .ref (em_get u.em h)
  | _, _, .exc h => .exc (u.z _ h)
theorem RDs.up (u : Up m m') : ∀ {ds : List Val} {xs : List V}, RDs m ds xs → RDs m' ds xs
  | _, _, .nil => .nil
  | _, _, .cons h hs => .cons (RD.up u h) (RDs.up u hs)
end
theorem RDs.length : ∀ {ds : List Val} {xs : List V}, RDs m ds xs → ds.length = xs.length
  | _, _, .nil => rfl
  | _, _, .cons h hs => by simp [RDs.length hs]
theorem RDs.append : ∀ {ds ds' : List Val} {xs xs' : List V}, RDs m ds xs → RDs m ds' xs' → RDs m (ds ++ ds') (xs ++ xs')
  | _, _, _, _, .nil, h => h
  | _, _, _, _, .cons h hs, h' => .cons h (RDs.append hs h')
theorem RDs.get : ∀ {ds : List Val} {xs : List V} {i : Nat} {d : Val}, RDs m ds xs → ds[i]? = some d → ∃ x, xs[i]? = some x ∧ RD m d x
  | _, _, i, d, .nil, h => by simp at h
  | _, _, 0, d, .cons h hs, e => by simp at e; subst e; exact ⟨_, rfl, h⟩
  | _, _, i + 1, d, .cons h hs, e => by
    obtain ⟨x, h1, h2⟩ := RDs.get (i := i) hs (by simpa using e)
    exact ⟨x, by simpa using h1, h2⟩
theorem RDs.getV : ∀ {ds : List Val} {xs : List V} {i : Nat} {x : V}, RDs m ds xs → xs[i]? = some x → ∃ d, ds[i]? = some d ∧ RD m d x
  | _, _, i, d, .nil, h => by simp at h
  | _, _, 0, d, .cons h hs, e => by simp at e; subst e; exact ⟨_, rfl, h⟩
  | _, _, i + 1, d, .cons h hs, e => by
    obtain ⟨x, h1, h2⟩ := RDs.getV (i := i) hs (by simpa using e)
    exact ⟨x, by simpa using h1, h2⟩
theorem RDs.take : ∀ {ds : List Val} {xs : List V} (n : Nat), RDs m ds xs → RDs m (ds.take n) (xs.take n)
  | _, _, 0, _ => by simp; exact .nil
  | _, _, n + 1, .nil => by simp; exact .nil
  | _, _, n + 1, .cons h hs => .cons h (RDs.take n hs)
theorem RDs.drop : ∀ {ds : List Val} {xs : List V} (n : Nat), RDs m ds xs → RDs m (ds.drop n) (xs.drop n)
  | _, _, 0, h => h
  | _, _, n + 1, .nil => by simp; exact .nil
  | _, _, n + 1, .cons h hs => RDs.drop n hs
theorem RDs.set {d : Val} {x : V} (r : RD m d x) : ∀ {ds : List Val} {xs : List V} (i : Nat), RDs m ds xs → RDs m (ds.set i d) (xs.set i x)
  | _, _, _, .nil => .nil
  | _, _, 0, .cons _ hs => .cons r hs
  | _, _, i + 1, .cons h hs => .cons h (RDs.set r i hs)
theorem RDs.rev : ∀ {ds : List Val} {xs : List V}, RDs m ds xs → RDs m ds.reverse xs.reverse
  | _, _, .nil => .nil
  | _, _, .cons h hs => by
    rw [List.reverse_cons, List.reverse_cons]
    exact (RDs.rev hs).append (.cons h .nil)
theorem RDs.dropLast {ds : List Val} {xs : List V} (h : RDs m ds xs) : RDs m ds.dropLast xs.dropLast := by
  rw [List.dropLast_eq_take, List.dropLast_eq_take, h.length]
  exact h.take _
theorem RDs.erase : ∀ {ds : List Val} {xs : List V} (i : Nat), RDs m ds xs → RDs m (ds.eraseIdx i) (xs.eraseIdx i)
  | _, _, _, .nil => .nil
  | _, _, 0, .cons h hs => hs
  | _, _, i + 1, .cons h hs => .cons h (RDs.erase i hs)
theorem RDs.ints : ∀ {ns : List Int} {xs : List V}, RDs m (ns.map Val.int) xs → xs = ns.map V.int
  | [], _, h => by cases h; rfl
  | n :: ns, _, h => by
    cases h with
    | cons h hs =>
      cases h
      rw [RDs.ints hs]
      rfl
theorem RDs.of_ints : ∀ (ns : List Int), RDs m (ns.map Val.int) (ns.map V.int)
  | [] => .nil
  | n :: ns => .cons (.int n) (RDs.of_ints ns)
theorem RDs.bls : ∀ {ns : List Bool} {xs : List V}, RDs m (ns.map Val.bl) xs → xs = ns.map V.bl
  | [], _, h => by cases h; rfl
  | n :: ns, _, h => by
    cases h with
    | cons h hs =>
      cases h
      rw [RDs.bls hs]
      rfl
theorem RDs.replicate {ds : List Val} {xs : List V} (h : RDs m ds xs) : ∀ n : Nat, RDs m (List.replicate n ds).flatten (List.replicate n xs).flatten
  | 0 => .nil
  | n + 1 => by
    rw [List.replicate_succ, List.replicate_succ, List.flatten_cons, List.flatten_cons]
    exact h.append (RDs.replicate h n)
theorem RDs.isEmpty {ds : List Val} {xs : List V} (h : RDs m ds xs) : xs.isEmpty = ds.isEmpty := by cases h <;> rfl
end

theorem ofString_inj {x y : String} (h : Str.ofString x = Str.ofString y) : x = y := by
  rw [Str.ofString_eq_toList, Str.ofString_eq_toList] at h
  have h1 : x.toList.map Char.toNat = y.toList.map Char.toNat := by
    have := congrArg (fun s : Str => s.cps.toList) h
    simpa using this
  have inj : ∀ a b : Char, a.toNat = b.toNat → a = b := fun a b e => by
    apply Char.ext
    apply UInt32.toNat_inj.mp
    exact e
  have h2 : ∀ l l' : List Char, l.map Char.toNat = l'.map Char.toNat → l = l' := by
    intro l
    induction l with
    | nil => intro l' h; cases l' with
      | nil => rfl
      | cons a r => simp at h
    | cons a r ih => intro l' h; cases l' with
      | nil => simp at h
      | cons b r' =>
        simp only [List.map_cons, List.cons.injEq] at h
        rw [inj a b h.1, ih r' h.2]
  exact String.ext (h2 _ _ h1)
theorem ofString_iff {x y : String} : Str.ofString x = Str.ofString y ↔ x = y := ⟨ofString_inj, fun h => by rw [h]⟩
theorem len_ofString (x : String) : (Str.ofString x).length = x.length := by
  rw [Str.ofString_eq_toList]
  simp [Str.length, String.length_toList]
theorem cps_ofString (x : String) : (Str.ofString x).cps.toList = x.toList.map Char.toNat := by
  rw [Str.ofString_eq_toList]
theorem ofString_append (x y : String) : Str.ofString (x ++ y) = Str.ofString x ++ Str.ofString y := by
  rw [Str.ofString_eq_toList, Str.ofString_eq_toList, Str.ofString_eq_toList, String.toList_append, List.map_append]
  show _ = (⟨_⟩ : Str)
  simp
theorem ofString_ofList (l : List Char) : Str.ofString (String.ofList l) = ⟨(l.map Char.toNat).toArray⟩ := by
  rw [Str.ofString_eq_toList, String.toList_ofList]

def kk : Key → L2.Key
  | .inl i => .inl i
  | .inr x => .inr (Str.ofString x)
theorem kk_inj {a b : Key} (h : kk a = kk b) : a = b := by
  cases a with
  | inl i => cases b with
    | inl j => injection h with h; rw [h]
    | inr y => cases h
  | inr x => cases b with
    | inl j => cases h
    | inr y => injection h with h; rw [ofString_inj h]
theorem key_rd {m : Sm} {v : Val} {x : V} {q : Key} (h : RD m v x) (e : v.key = some q) : x = L2.kV (kk q) := by
  cases h <;> simp [Val.key] at e <;> subst e <;> rfl
theorem rd_key {m : Sm} (q : Key) : RD m (Key.val q) (L2.kV (kk q)) := by
  cases q with
  | inl i => exact .int i
  | inr x => exact .str x

/-! ### objects -/
def RKs (m : Sm) (kvs : List (Key × Val)) (ws : List (L2.Key × V)) : Prop := Paired (fun (p : Key × Val) (q : L2.Key × V) => q.1 = kk p.1 ∧ RD m p.2 q.2) kvs ws
def RFs (m : Sm) (fs : List (String × Val)) (gs : List (Str × V)) : Prop := Paired (fun (p : String × Val) (q : Str × V) => q.1 = Str.ofString p.1 ∧ RD m p.2 q.2) fs gs
section
variable {m m' : Sm}
theorem RKs.up (u : Up m m') {kvs ws} (h : RKs m kvs ws) : RKs m' kvs ws := Paired.mapP h fun _ _ r => ⟨r.1, r.2.up u⟩
theorem RFs.up (u : Up m m') {fs gs} (h : RFs m fs gs) : RFs m' fs gs := Paired.mapP h fun _ _ r => ⟨r.1, r.2.up u⟩
theorem RKs.length {kvs ws} (h : RKs m kvs ws) : kvs.length = ws.length := Paired.length h
theorem RFs.length {kvs ws} (h : RFs m kvs ws) : kvs.length = ws.length := Paired.length h
theorem RKs.look {kvs ws} (h : RKs m kvs ws) (q : Key) : (∃ v x, lookK kvs q = some v ∧ valV ws (kk q) = some x ∧ RD m v x) ∨ (lookK kvs q = none ∧ valV ws (kk q) = none) := by
  unfold RKs at h
  induction h with
  | nil => exact .inr ⟨rfl, rfl⟩
  | @cons p r ps rs h t ih =>
    by_cases e : p.1 = q
    · refine .inl ⟨p.2, r.2, ?_, ?_, h.2⟩
      · simp [lookK, e]
      · have e2 : r.1 = kk q := by rw [h.1, e]
        simp [valV, e2]
    · have e2 : ¬ r.1 = kk q := fun z => e (kk_inj (h.1.symm.trans z))
      have e3 : lookK (p :: ps) q = lookK ps q := by simp [lookK, List.find?_cons, e]
      have e4 : valV (r :: rs) (kk q) = valV rs (kk q) := valV_neg e2
      rw [e3, e4]
      exact ih
theorem RKs.any {kvs ws} (h : RKs m kvs ws) (q : Key) : (kvs.any fun kv => decide (kv.1 = q)) = (ws.any fun kv => decide (kv.1 = kk q)) := by
  unfold RKs at h
  induction h with
  | nil => rfl
  | @cons p r ps rs h t ih =>
    rw [List.any_cons, List.any_cons, ih]
    congr 1
    by_cases e : p.1 = q
    · have e2 : r.1 = kk q := by rw [h.1, e]
      simp [e, e2]
    · have e2 : ¬ r.1 = kk q := fun z => e (kk_inj (h.1.symm.trans z))
      simp [e, e2]
theorem RKs.put {kvs ws} (h : RKs m kvs ws) (q : Key) {v : Val} {x : V} (r : RD m v x) : RKs m (putK kvs q v) (L2.putK ws (kk q) x) := by
  unfold putK L2.putK
  rw [h.any q]
  split
  · rename_i hh
    clear hh
    unfold RKs at h ⊢
    induction h with
    | nil => exact .nil
    | @cons p r' ps rs h t ih =>
      rw [List.map_cons, List.map_cons]
      refine .cons ?_ ih
      by_cases e : p.1 = q
      · have e2 : r'.1 = kk q := by rw [h.1, e]
        simp only [e, e2, if_true]
        exact ⟨trivial, r⟩
      · have e2 : ¬ r'.1 = kk q := fun z => e (kk_inj (h.1.symm.trans z))
        rw [if_neg e, if_neg e2]
        exact h
  · rename_i hh
    clear hh
    unfold RKs at h ⊢
    induction h with
    | nil => exact .cons ⟨rfl, r⟩ .nil
    | cons h t ih => exact .cons h ih
theorem RKs.drop {kvs ws} (h : RKs m kvs ws) (q : Key) : RKs m (dropK kvs q) (L2.dropK ws (kk q)) := by
  unfold dropK L2.dropK
  unfold RKs at h ⊢
  induction h with
  | nil => exact .nil
  | @cons p r' ps rs h t ih =>
    by_cases e : p.1 = q
    · have e2 : r'.1 = kk q := by rw [h.1, e]
      simpa [List.filter_cons, e, e2] using ih
    · have e2 : ¬ r'.1 = kk q := fun z => e (kk_inj (h.1.symm.trans z))
      have e5 : decide (r'.1 ≠ kk q) = true := decide_eq_true e2
      have e6 : (!decide (p.1 = q)) = true := by simp [e]
      rw [List.filter_cons, List.filter_cons, e5, e6]
      exact Paired.cons h ih
theorem RFs.look {fs gs} (h : RFs m fs gs) (f : String) : (∃ v x, fs.lookup f = some v ∧ gs.lookup (Str.ofString f) = some x ∧ RD m v x) ∨ (fs.lookup f = none ∧ gs.lookup (Str.ofString f) = none) := by
  unfold RFs at h
  induction h with
  | nil => exact .inr ⟨rfl, rfl⟩
  | @cons p r ps rs h t ih =>
    obtain ⟨p1, p2⟩ := p
    obtain ⟨r1, r2⟩ := r
    have h1 : r1 = Str.ofString p1 := h.1
    by_cases e : f = p1
    · subst e
      refine .inl ⟨p2, r2, ?_, ?_, h.2⟩
      · simp [List.lookup_cons]
      · simp [List.lookup_cons, h1]
    · have e2 : ¬ Str.ofString f = r1 := fun z => e (ofString_inj (z.trans h1))
      have e3 : (f == p1) = false := by simpa using e
      have e4 : (Str.ofString f == r1) = false := by simpa using e2
      rw [List.lookup_cons, List.lookup_cons, e3, e4]
      exact ih
theorem RFs.put {fs gs} (h : RFs m fs gs) (f : String) {v : Val} {x : V} (r : RD m v x) : RFs m (putF f v fs) (L2.putF (Str.ofString f) x gs) := by
  unfold RFs at h
  induction h with
  | nil => exact .cons ⟨rfl, r⟩ .nil
  | @cons p q ps qs h t ih =>
    obtain ⟨p1, p2⟩ := p
    obtain ⟨q1, q2⟩ := q
    have h1 : q1 = Str.ofString p1 := h.1
    unfold putF L2.putF
    by_cases e : p1 = f
    · have e2 : q1 = Str.ofString f := by rw [h1, e]
      rw [if_pos e, if_pos e2]
      exact .cons ⟨h1, r⟩ t
    · have e2 : ¬ q1 = Str.ofString f := fun z => e (ofString_inj (h1.symm.trans z))
      rw [if_neg e, if_neg e2]
      exact .cons h ih
end

/-- the object at a -/
def RO (mg : Cl) (m : Sm) (a : Addr) : Ob → Prop
  | .lst ds => ∃ vs, m.H a = some (.lst vs) ∧ RDs m ds vs
  | .dic kvs => ∃ ws, m.H a = some (.dK ws) ∧ RKs m kvs ws
  | .ins c fs => ∃ C dx gs, m.H a = some (.ins C dx gs) ∧ mg c C ∧ RFs m fs gs
  | .lck (.lst ds) => (∃ o vs, m.H a = some (.frz o (.lst vs)) ∧ RDs m ds vs) ∨
      ∃ (o : Obj) (its : Array Value) (n : Nat) (vs : List V), m.K.lookup a = some o ∧ o.cls = .type "list" ∧ o.dict = none ∧ o.data = .seq its n ∧ its.size ≤ sizeLine ∧ Vals vs its.toList ∧ RDs m ds vs
  | .lck (.dic kvs) => ∃ o ws, m.H a = some (.frz o (.dK ws)) ∧ RKs m kvs ws
  | .lck _ => False
/-- the written part is not tracked -/
def KF (K : PySem.W.Frag) (H : Hp) : Prop := ∀ a o, K.lookup a = some o → H a = none
structure SH (mg : Cl) (m : Sm) (S : Hm) : Prop where
  len : m.em.length = S.length
  nd : m.em.Nodup
  kf : KF m.K m.H
  ob : ∀ (n : Nat) o a, S[n]? = some o → m.em[n]? = some a → RO mg m a o
  z : ∀ a c, m.z = some (a, c) → mg.z a c
/-- what a piece of code may do: things outside of the small heap stay, new places were free -/
structure Ev (m m' : Sm) : Prop where
  k : m'.K = m.K
  z : m'.z = m.z
  em : ∃ l, m'.em = m.em ++ l
  keep : ∀ b o, m.H b = some o → b ∉ m.em → m'.H b = some o
  new : ∀ b ∈ m'.em, b ∉ m.em → m.H b = none
  frz : ∀ b o u, m.H b = some (.frz o u) → m'.H b = some (.frz o u)
section
variable {mg : Cl} {m m' m1 m2 : Sm} {S S' : Hm} {n : Nat} {a : Addr} {o : Ob}
theorem Ev.refl (m : Sm) : Ev m m := ⟨rfl, rfl, ⟨[], by simp⟩, fun _ _ h _ => h, fun b h h' => absurd h h', fun _ _ _ h => h⟩
theorem Ev.mem (e : Ev m m') {b : Addr} (h : b ∈ m.em) : b ∈ m'.em := by
  obtain ⟨l, q⟩ := e.em
  rw [q]
  exact List.mem_append_left _ h
theorem Ev.trans (e : Ev m m1) (e' : Ev m1 m2) : Ev m m2 where
  k := e'.k.trans e.k
  z := e'.z.trans e.z
  em := by
    obtain ⟨l, q⟩ := e.em
    obtain ⟨l', q'⟩ := e'.em
    exact ⟨l ++ l', by rw [q', q, List.append_assoc]⟩
  keep := fun b o h n => e'.keep b o (e.keep b o h n) fun z => by
    have := e.new b z n
    rw [h] at this
    cases this
  new := fun b h n => by
    by_cases z : b ∈ m1.em
    · exact e.new b z n
    · have h1 := e'.new b h z
      cases q : m.H b with
      | none => rfl
      | some o => rw [e.keep b o q n] at h1; cases h1
  frz := fun b o u h => e'.frz b o u (e.frz b o u h)
theorem SH.at (h : SH mg m S) (e : S[n]? = some o) : ∃ a, m.em[n]? = some a ∧ RO mg m a o := by
  have hn : n < m.em.length := by rw [h.len]; exact (List.getElem?_eq_some_iff.mp e).1
  exact ⟨m.em[n], List.getElem?_eq_getElem hn, h.ob n o _ e (List.getElem?_eq_getElem hn)⟩
theorem SH.lt (h : SH mg m S) (e : m.em[n]? = some a) : ∃ o, S[n]? = some o := by
  have hn : n < S.length := by rw [← h.len]; exact (List.getElem?_eq_some_iff.mp e).1
  exact ⟨S[n], List.getElem?_eq_getElem hn⟩
/-- what stands at a place is no tuple -/
theorem SH.notup (h : SH mg m S) {a : Addr} {xs : List V} (e : m.H a = some (.tup xs) ∨ ∃ o, m.H a = some (.frz o (.tup xs))) : a ∉ m.em := fun z => by
  obtain ⟨n, hn⟩ := List.getElem?_of_mem z
  obtain ⟨o, ho⟩ := h.lt hn
  have r := h.ob n o a ho hn
  cases o with
  | lst ds => obtain ⟨vs, q, _⟩ := r; rcases e with e | ⟨_, e⟩ <;> rw [q] at e <;> cases e
  | dic ds => obtain ⟨vs, q, _⟩ := r; rcases e with e | ⟨_, e⟩ <;> rw [q] at e <;> cases e
  | ins c fs => obtain ⟨C, dx, gs, q, _⟩ := r; rcases e with e | ⟨_, e⟩ <;> rw [q] at e <;> cases e
  | lck o =>
    cases o with
    | lst ds =>
      rcases r with ⟨o, vs, q, _⟩ | ⟨o, its, k, vs, q, _⟩
      · rcases e with e | ⟨_, e⟩ <;> rw [q] at e <;> cases e
      · have := h.kf a o q
        rcases e with e | ⟨_, e⟩ <;> rw [this] at e <;> cases e
    | dic ds => obtain ⟨o, vs, q, _⟩ := r; rcases e with e | ⟨_, e⟩ <;> rw [q] at e <;> cases e
    | ins c fs => exact r
    | lck o => exact r
theorem Ev.up (e : Ev m m') (h : SH mg m S) : Up m m' where
  tup := fun a xs q => by
    rcases q with (q | ⟨o, q⟩) | q
    · exact .inl (.inl (e.keep _ _ q (h.notup (.inl q))))
    · exact .inl (.inr ⟨o, e.keep _ _ q (h.notup (.inr ⟨o, q⟩))⟩)
    · rw [e.k]
      exact .inr q
  em := e.em
  z := fun p q => by rw [e.z]; exact q
theorem SH.inj (h : SH mg m S) {i j : Nat} {a : Addr} (hi : m.em[i]? = some a) (hj : m.em[j]? = some a) : i = j := by
  obtain ⟨h1, e1⟩ := List.getElem?_eq_some_iff.mp hi
  obtain ⟨h2, e2⟩ := List.getElem?_eq_some_iff.mp hj
  exact (List.getElem_inj h.nd).mp (e1.trans e2.symm)
theorem RO.up (u : Up m m') (hk : m'.K = m.K) (hH : m'.H a = m.H a) (r : RO mg m a o) : RO mg m' a o := by
  cases o with
  | lst ds => obtain ⟨vs, q, r⟩ := r; exact ⟨vs, hH.trans q, r.up u⟩
  | dic ds => obtain ⟨vs, q, r⟩ := r; exact ⟨vs, hH.trans q, r.up u⟩
  | ins c fs => obtain ⟨C, dx, gs, q, g, r⟩ := r; exact ⟨C, dx, gs, hH.trans q, g, r.up u⟩
  | lck o =>
    cases o with
    | lst ds =>
      rcases r with ⟨o, vs, q, r⟩ | ⟨o, its, k, vs, q, h1, h2, h3, h4, h5, r⟩
      · exact .inl ⟨o, vs, hH.trans q, r.up u⟩
      · exact .inr ⟨o, its, k, vs, by rw [hk]; exact q, h1, h2, h3, h4, h5, r.up u⟩
    | dic ds => obtain ⟨o, vs, q, r⟩ := r; exact ⟨o, vs, hH.trans q, r.up u⟩
    | ins c fs => exact r
    | lck o => exact r
/-- a new tuple (or any thing outside of the small heap) -/
theorem SH.more (h : SH mg m S) {H' : Hp} (e : Ev m { m with H := H' }) (hH : ∀ b ∈ m.em, H' b = m.H b) (kf : KF m.K H') : SH mg { m with H := H' } S :=
  ⟨h.len, h.nd, kf, fun n o a e1 e2 => (h.ob n o a e1 e2).up (e.up h) rfl (hH a (List.mem_of_getElem? e2)), h.z⟩
theorem SH.free (h : SH mg m S) {p : Addr} (hp : m.H p = none) (kp : m.K.lookup p = none) : p ∉ m.em := fun z => by
  obtain ⟨n, hn⟩ := List.getElem?_of_mem z
  obtain ⟨o, ho⟩ := h.lt hn
  have r := h.ob n o p ho hn
  cases o with
  | lst ds => obtain ⟨vs, q, _⟩ := r; rw [hp] at q; cases q
  | dic ds => obtain ⟨vs, q, _⟩ := r; rw [hp] at q; cases q
  | ins c fs => obtain ⟨C, dx, gs, q, _⟩ := r; rw [hp] at q; cases q
  | lck o =>
    cases o with
    | lst ds =>
      rcases r with ⟨o, vs, q, _⟩ | ⟨o, its, k, vs, q, _⟩
      · rw [hp] at q; cases q
      · rw [kp] at q; cases q
    | dic ds => obtain ⟨o, vs, q, _⟩ := r; rw [hp] at q; cases q
    | ins c fs => exact r
    | lck o => exact r
theorem kf_free {K : PySem.W.Frag} {H : Hp} {p : Addr} {o : HO} (k : KF K H) (h : H p = some o) : K.lookup p = none := by
  cases q : K.lookup p with
  | none => rfl
  | some u => rw [k p u q] at h; cases h
/-- a thing outside of the small heap is made at p -/
theorem Ev.outside {p : Addr} {o : HO} (hp : m.H p = none) : Ev m { m with H := L2.upd m.H p o } :=
  ⟨rfl, rfl, ⟨[], by simp⟩, fun b u h _ => by show L2.upd m.H p o b = _; rw [upd_ne (ne_of_none h hp)]; exact h, fun b h h' => absurd h h', fun b q u h => by show L2.upd m.H p o b = _; rw [upd_ne (ne_of_none h hp)]; exact h⟩
theorem SH.outside (h : SH mg m S) {p : Addr} {o : HO} (hp : m.H p = none) (kf : KF m.K (L2.upd m.H p o)) : SH mg { m with H := L2.upd m.H p o } S := by
  have kp : m.K.lookup p = none := kf_free kf (upd_same (H := m.H) (a := p) (o := o))
  have np := h.free hp kp
  exact h.more (Ev.outside hp) (fun b hb => upd_ne fun z => np (z ▸ hb)) kf
/-- a new object at p comes to the small heap -/
theorem Ev.alloc {p : Addr} {o : HO} (hp : m.H p = none) : Ev m { m with H := L2.upd m.H p o, em := m.em ++ [p] } :=
  ⟨rfl, rfl, ⟨[p], rfl⟩, fun b u h _ => by show L2.upd m.H p o b = _; rw [upd_ne (ne_of_none h hp)]; exact h, fun b h h' => by
    rcases List.mem_append.mp h with z | z
    · exact absurd z h'
    · have : b = p := by simpa using z
      rw [this]; exact hp, fun b q u h => by show L2.upd m.H p o b = _; rw [upd_ne (ne_of_none h hp)]; exact h⟩
theorem SH.alloc (h : SH mg m S) {p : Addr} {o : HO} {ob : Ob} (hp : m.H p = none) (kf : KF m.K (L2.upd m.H p o)) (r : RO mg { m with H := L2.upd m.H p o, em := m.em ++ [p] } p ob) :
    SH mg { m with H := L2.upd m.H p o, em := m.em ++ [p] } (S ++ [ob]) := by
  have kp : m.K.lookup p = none := kf_free kf (upd_same (H := m.H) (a := p) (o := o))
  have np := h.free hp kp
  refine ⟨by simp [h.len], ?_, kf, fun n u a e1 e2 => ?_, h.z⟩
  · show (m.em ++ [p]).Nodup
    rw [List.nodup_append]
    refine ⟨h.nd, by simp, fun x hx y hy => ?_⟩
    have : y = p := by simpa using hy
    rw [this]
    exact fun z => np (z ▸ hx)
  · have e2 : (m.em ++ [p])[n]? = some a := e2
    by_cases hn : n < S.length
    · rw [List.getElem?_append_left hn] at e1
      rw [List.getElem?_append_left (by rw [h.len]; exact hn)] at e2
      exact (h.ob n u a e1 e2).up (m' := { m with H := L2.upd m.H p o, em := m.em ++ [p] }) ((Ev.alloc hp).up h) rfl (upd_ne fun z => np (z ▸ List.mem_of_getElem? e2))
    · have hn2 : n = S.length := by
        have := (List.getElem?_eq_some_iff.mp e1).1
        simp at this
        omega
      subst hn2
      rw [List.getElem?_append_right (Nat.le_refl _)] at e1
      rw [← h.len, List.getElem?_append_right (Nat.le_refl _)] at e2
      simp at e1 e2
      subst e1 e2
      exact r
/-- the object at place n is changed -/
theorem Ev.put {o : HO} (e : Ev m m1) (ha : m.em[n]? = some a) (nf : ∀ q u, m.H a ≠ some (.frz q u)) : Ev m { m1 with H := L2.upd m1.H a o } :=
  ⟨e.k, e.z, e.em, fun b u h nb => by show L2.upd m1.H a o b = _; rw [upd_ne fun z => nb (by rw [z]; exact List.mem_of_getElem? ha)]; exact e.keep b u h nb, e.new, fun b q u h => by show L2.upd m1.H a o b = _; rw [upd_ne fun z => nf q u (by rw [← z]; exact h)]; exact e.frz b q u h⟩
theorem Ev.write {o u : HO} (ha : m.em[n]? = some a) (hu : m.H a = some u) (nf : ∀ q x, u ≠ .frz q x := by intro _ _ h; cases h) : Ev m { m with H := L2.upd m.H a o } := (Ev.refl m).put ha fun q x h => nf q x (by rw [hu] at h; exact Option.some.inj h)
theorem SH.upw (h : SH mg m S) {o : HO} (ha : m.em[n]? = some a) : Up m { m with H := L2.upd m.H a o } where
  tup := fun b xs q => by
    have ne : ∀ b, b ∉ m.em → b ≠ a := fun b nb z => nb (by rw [z]; exact List.mem_of_getElem? ha)
    rcases q with (q | ⟨u, q⟩) | q
    · exact .inl (.inl (by show L2.upd m.H a o b = _; rw [upd_ne (ne b (h.notup (.inl q)))]; exact q))
    · exact .inl (.inr ⟨u, by show L2.upd m.H a o b = _; rw [upd_ne (ne b (h.notup (.inr ⟨u, q⟩)))]; exact q⟩)
    · exact .inr q
  em := ⟨[], by simp⟩
  z := fun _ h => h
theorem SH.write (h : SH mg m S) {o : HO} {u : HO} {ob : Ob} (ha : m.em[n]? = some a) (hu : m.H a = some u) (r : RO mg { m with H := L2.upd m.H a o } a ob) : SH mg { m with H := L2.upd m.H a o } (S.set n ob) := by
  refine ⟨by simp [h.len], h.nd, fun b q e => ?_, fun k v b e1 e2 => ?_, h.z⟩
  · show L2.upd m.H a o b = none
    have hb := h.kf b q e
    rw [upd_ne fun z => by rw [z, hu] at hb; cases hb]
    exact hb
  · by_cases hk : k = n
    · subst hk
      have e2 : m.em[k]? = some b := e2
      rw [ha] at e2
      cases e2
      have hl : k < S.length := by rw [← h.len]; exact (List.getElem?_eq_some_iff.mp ha).1
      rw [List.getElem?_set_self hl] at e1
      cases e1
      exact r
    · rw [List.getElem?_set_ne (Ne.symm hk)] at e1
      exact (h.ob k v b e1 e2).up (m' := { m with H := L2.upd m.H a o }) (h.upw ha) rfl (upd_ne fun z => hk (h.inj e2 (z ▸ ha)))

/-! ### reading -/
theorem SH.lst (h : SH mg m S) {xs : List Val} (e : Hm.lst S n = some xs) (ha : m.em[n]? = some a) : ∃ vs, SqL m.K m.H a vs ∧ RDs m xs vs := by
  obtain ⟨o, ho⟩ := h.lt ha
  have r := h.ob n o a ho ha
  unfold Hm.lst at e
  rw [ho] at e
  cases o with
  | lst ds => cases e; obtain ⟨vs, q, r⟩ := r; exact ⟨vs, .inl (.inl q), r⟩
  | dic ds => cases e
  | ins c fs => cases e
  | lck o =>
    cases o with
    | lst ds =>
      cases e
      rcases r with ⟨o, vs, q, r⟩ | ⟨o, its, k, vs, q, h1, h2, h3, h4, h5, r⟩
      · exact ⟨vs, .inl (.inr ⟨o, q⟩), r⟩
      · exact ⟨vs, .inr ⟨o, its, k, q, h1, h2, h3, h4, h5⟩, r⟩
    | dic ds => cases e
    | ins c fs => cases e
    | lck o => cases e
theorem SH.dic (h : SH mg m S) {xs : List (Key × Val)} (e : Hm.dic S n = some xs) (ha : m.em[n]? = some a) : ∃ ws, Rd m.H a (.dK ws) ∧ RKs m xs ws := by
  obtain ⟨o, ho⟩ := h.lt ha
  have r := h.ob n o a ho ha
  unfold Hm.dic at e
  rw [ho] at e
  cases o with
  | lst ds => cases e
  | dic ds => cases e; obtain ⟨vs, q, r⟩ := r; exact ⟨vs, .inl q, r⟩
  | ins c fs => cases e
  | lck o =>
    cases o with
    | lst ds => cases e
    | dic ds =>
      cases e
      obtain ⟨o, vs, q, r⟩ := r
      exact ⟨vs, .inr ⟨o, q⟩, r⟩
    | ins c fs => cases e
    | lck o => cases e
theorem lst_of (e : S[n]? = some (.lst xs)) : Hm.lst S n = some xs := by unfold Hm.lst; rw [e]
theorem dic_of (e : S[n]? = some (.dic xs)) : Hm.dic S n = some xs := by unfold Hm.dic; rw [e]
/-! ### no exception within -/
mutual
theorem RD.fr {m : Sm} (hz : m.z = none) : ∀ {v : Val} {x : V}, RD m v x → v.fr = true
  | _, _, .non => rfl
  | _, _, .bl _ => rfl
  | _, _, .int _ => rfl
  | _, _, .str _ => rfl
  | _, _, .tup _ hs => by rw [Val.fr]; exact RDs.fr hz hs
  | _, _, .ref _ => rfl
  | _, _, .exc h => by rw [hz] at h; cases h
theorem RDs.fr {m : Sm} (hz : m.z = none) : ∀ {ds : List Val} {xs : List V}, RDs m ds xs → Val.frs ds = true
  | _, _, .nil => rfl
  | _, _, .cons h hs => by rw [Val.frs, RD.fr hz h, RDs.fr hz hs]; rfl
end
mutual
theorem RD.out {m : Sm} : ∀ {v : Val} {x : V}, RD m v x → v.fr = true → RD { m with z := none } v x
  | _, _, .non, _ => .non
  | _, _, .bl b, _ => .bl b
  | _, _, .int i, _ => .int i
  | _, _, .str x, _ => .str x
  | _, _, .tup h hs, e => .tup h (RDs.out hs (by rw [Val.fr] at e; exact e))
  | _, _, .ref h, _ => .ref h
  | _, _, .exc h, e => by cases e
theorem RDs.out {m : Sm} : ∀ {ds : List Val} {xs : List V}, RDs m ds xs → Val.frs ds = true → RDs { m with z := none } ds xs
  | _, _, .nil, _ => .nil
  | _, _, .cons h hs, e => by
    rw [Val.frs, Bool.and_eq_true] at e
    exact .cons (RD.out h e.1) (RDs.out hs e.2)
end
theorem RKs.fr {m : Sm} (hz : m.z = none) {kvs : List (Key × Val)} {ws : List (L2.Key × V)} (h : RKs m kvs ws) : (kvs.all fun p => p.2.fr) = true := by
  unfold RKs at h
  induction h with
  | nil => rfl
  | cons h t ih => rw [List.all_cons, h.2.fr hz, ih]; rfl
theorem RFs.fr {m : Sm} (hz : m.z = none) {fs : List (String × Val)} {gs : List (Str × V)} (h : RFs m fs gs) : (fs.all fun p => p.2.fr) = true := by
  unfold RFs at h
  induction h with
  | nil => rfl
  | cons h t ih => rw [List.all_cons, h.2.fr hz, ih]; rfl
theorem RKs.out {m : Sm} {kvs : List (Key × Val)} {ws : List (L2.Key × V)} (h : RKs m kvs ws) (e : (kvs.all fun p => p.2.fr) = true) : RKs { m with z := none } kvs ws := by
  unfold RKs at h ⊢
  induction h with
  | nil => exact .nil
  | cons h t ih =>
    rw [List.all_cons, Bool.and_eq_true] at e
    exact .cons ⟨h.1, h.2.out e.1⟩ (ih e.2)
theorem RFs.out {m : Sm} {fs : List (String × Val)} {gs : List (Str × V)} (h : RFs m fs gs) (e : (fs.all fun p => p.2.fr) = true) : RFs { m with z := none } fs gs := by
  unfold RFs at h ⊢
  induction h with
  | nil => exact .nil
  | cons h t ih =>
    rw [List.all_cons, Bool.and_eq_true] at e
    exact .cons ⟨h.1, h.2.out e.1⟩ (ih e.2)
theorem RO.fr {cl : Cl} {m : Sm} (hz : m.z = none) {a : Addr} {o : Ob} (h : RO cl m a o) : o.fr = true := by
  cases o with
  | lst ds => obtain ⟨vs, _, r⟩ := h; rw [Ob.fr]; exact r.fr hz
  | dic kvs => obtain ⟨ws, _, r⟩ := h; rw [Ob.fr]; exact r.fr hz
  | ins c fs => obtain ⟨C, dx, gs, _, _, r⟩ := h; rw [Ob.fr]; exact r.fr hz
  | lck o =>
    rw [Ob.fr]
    cases o with
    | lst ds =>
      rcases h with ⟨o, vs, _, r⟩ | ⟨o, its, n, vs, _, _, _, _, _, _, r⟩
      · rw [Ob.fr]; exact r.fr hz
      · rw [Ob.fr]; exact r.fr hz
    | dic kvs => obtain ⟨o, ws, _, r⟩ := h; rw [Ob.fr]; exact r.fr hz
    | ins c fs => exact h.elim
    | lck o => exact h.elim
theorem RO.out {cl : Cl} {b : Addr} {c : String} {m : Sm} {a : Addr} {o : Ob} (h : RO (cl.at b c) m a o) (e : o.fr = true) : RO cl { m with z := none } a o := by
  cases o with
  | lst ds => obtain ⟨vs, q, r⟩ := h; exact ⟨vs, q, r.out (by rw [Ob.fr] at e; exact e)⟩
  | dic kvs => obtain ⟨ws, q, r⟩ := h; exact ⟨ws, q, r.out (by rw [Ob.fr] at e; exact e)⟩
  | ins c fs => obtain ⟨C, dx, gs, q, g, r⟩ := h; exact ⟨C, dx, gs, q, g, r.out (by rw [Ob.fr] at e; exact e)⟩
  | lck o =>
    rw [Ob.fr] at e
    cases o with
    | lst ds =>
      rw [Ob.fr] at e
      rcases h with ⟨o, vs, q, r⟩ | ⟨o, its, n, vs, h1, h2, h3, h4, h5, h6, r⟩
      · exact .inl ⟨o, vs, q, r.out e⟩
      · exact .inr ⟨o, its, n, vs, h1, h2, h3, h4, h5, h6, r.out e⟩
    | dic kvs => rw [Ob.fr] at e; obtain ⟨o, ws, q, r⟩ := h; exact ⟨o, ws, q, r.out e⟩
    | ins c fs => exact h.elim
    | lck o => exact h.elim
/-- into an except suite -/
theorem SH.inz {cl : Cl} {m : Sm} {S : Hm} (h : SH cl m S) (hz : m.z = none) (a : Addr) (c : String) : SH (cl.at a c) { m with z := some (a, c) } S :=
  ⟨h.len, h.nd, h.kf, fun n o b e1 e2 => by
    have u : Up m { m with z := some (a, c) } := ⟨fun _ _ q => q, ⟨[], by simp⟩, fun p q => by rw [hz] at q; cases q⟩
    have r := h.ob n o b e1 e2
    have r2 : RO cl { m with z := some (a, c) } b o := r.up u rfl rfl
    cases o with
    | lst ds => exact r2
    | dic kvs => exact r2
    | ins c fs => exact r2
    | lck o => cases o <;> exact r2, fun b d e => by cases e; exact ⟨rfl, rfl⟩⟩
/-- .. and out of it -/
theorem SH.outz {cl : Cl} {m m2 : Sm} {S S2 : Hm} {a : Addr} {c : String} (h : SH cl m S) (hz : m.z = none) (e : Ev { m with z := some (a, c) } m2) (h2 : SH (cl.at a c) m2 S2) (hl : ∃ l : Hm, S2 = S ++ l ∧ l.all Ob.fr = true) : Ev m { m2 with z := none } ∧ SH cl { m2 with z := none } S2 := by
  refine ⟨⟨e.k, hz.symm, e.em, e.keep, e.new, e.frz⟩, ⟨h2.len, h2.nd, h2.kf, fun n o b e1 e2 => ?_, fun b d q => by cases q⟩⟩
  refine (h2.ob n o b e1 e2).out ?_
  obtain ⟨l, rfl, hf⟩ := hl
  by_cases hn : n < S.length
  · rw [List.getElem?_append_left hn] at e1
    obtain ⟨b', _, r⟩ := h.at e1
    exact r.fr hz
  · rw [List.getElem?_append_right (by omega)] at e1
    rw [List.all_eq_true] at hf
    exact hf o (List.mem_of_getElem? e1)
/-- wishes, lifted -/
def liftQ (mg : Cl) (m : Sm) (Q : VK) : Post := fun v S' => ∀ m' x, Ev m m' → SH mg m' S' → RD m' v x → Q x m'.H
theorem liftQ.ev {Q Q' : VK} (e : Ev m m1) (hq : ∀ x H, KF m.K H → Q x H → Q' x H) {v : Val} {S : Hm} (h : liftQ mg m Q v S) : liftQ mg m1 Q' v S := fun m' x e' hS r => by
  have e2 := e.trans e'
  exact hq _ _ (e2.k ▸ hS.kf) (h m' x e2 hS r)
end
end Mi

set_option maxHeartbeats 2000000
namespace Mi
open PySem PySem.Spec L2 PyProof.Rows
section
variable {X : Cx} {cl : Cl} {pins : List (Addr × Obj)} {σ : L2.St} {H : Hp} {s : Shared} {Q : VK}
theorem kfree (I : Inv X pins σ H s) : KF X.K H := fun a o e => (I.bs a o (I.ok.mod.kin a o e)).2
/-- what follows may use that the written part is not tracked -/
theorem epkf {M : Model} {A : Around} {E : Value → Shared → Prop} {f : Sem Value} (h : wpAny M A f (EP X pins σ fun x H' => KF X.K H' → Q x H') E s) : wpAny M A f (EP X pins σ Q) E s :=
  thn h fun _ _ ⟨v, H', I, r, q⟩ => ⟨v, H', I, r, q (kfree I)⟩
theorem PE.kf {e : Expr} {t : TE} (h : PE X e t) : PE X e (fun σ H Q => t σ H fun x H' => KF X.K H' → Q x H') := ⟨fun pins s σ H Q I hw => epkf (h.run pins s σ H _ I hw)⟩
theorem PE.imp {e : Expr} {t t' : TE} (h : PE X e t) (f : ∀ σ H Q, t' σ H Q → t σ H Q) : PE X e t' := ⟨fun pins s σ H Q I hw => h.run pins s σ H Q I (f _ _ _ hw)⟩
theorem OpR.kf {f : Value → Value → Sem Value} {r : R2} (h : OpR X f r) : OpR X f (fun x y H Q => r x y H fun z H' => KF X.K H' → Q z H') :=
  fun pins s σ H x y v u Q I rx ry hw => epkf (h pins s σ H x y v u _ I rx ry hw)
theorem CallR.kf {f : Value} {r : List V → Hp → VK → Prop} (h : CallR X f r) : CallR X f (fun xs H Q => r xs H fun z H' => KF X.K H' → Q z H') :=
  fun pins s σ H xs us Q I rx hw => epkf (h pins s σ H xs us _ I rx hw)
theorem MtR.kf {id : String} {r : V → List V → Hp → VK → Prop} (h : MtR X id r) : MtR X id (fun x xs H Q => r x xs H fun z H' => KF X.K H' → Q z H') :=
  fun pins s σ H x xs v us Q I rx rs hw => epkf (h pins s σ H x xs v us _ I rx rs hw)

/-! ### making things -/
variable {m : Sm} {S : Hm}
theorem mk_tup (hS : SH cl m S) {ds : List Val} {vs : List V} (r : RDs m ds vs) {p : Addr} (hp : m.H p = none) (kf : KF m.K (L2.upd m.H p (.tup vs))) (h : liftQ cl m Q (.tup ds) S) : Q (.ref p) (L2.upd m.H p (.tup vs)) := by
  have e : Ev m { m with H := L2.upd m.H p (.tup vs) } := Ev.outside hp
  exact h { m with H := L2.upd m.H p (.tup vs) } (.ref p) e (hS.outside hp kf) (.tup (.inl (.inl upd_same)) (r.up (e.up hS)))
theorem mk_lst (hS : SH cl m S) {ds : List Val} {vs : List V} (r : RDs m ds vs) {p : Addr} (hp : m.H p = none) (kf : KF m.K (L2.upd m.H p (.lst vs))) (h : liftQ cl m Q (.ref S.length) (S ++ [.lst ds])) : Q (.ref p) (L2.upd m.H p (.lst vs)) := by
  have e : Ev m { m with H := L2.upd m.H p (.lst vs), em := m.em ++ [p] } := Ev.alloc hp
  refine h { m with H := L2.upd m.H p (.lst vs), em := m.em ++ [p] } (.ref p) e (hS.alloc hp kf ⟨vs, upd_same, r.up (e.up hS)⟩) (.ref ?_)
  show (m.em ++ [p])[S.length]? = some p
  rw [← hS.len]
  simp
theorem mk_dic (hS : SH cl m S) {kvs : List (Key × Val)} {ws : List (L2.Key × V)} (r : RKs m kvs ws) {p : Addr} (hp : m.H p = none) (kf : KF m.K (L2.upd m.H p (.dK ws))) (h : liftQ cl m Q (.ref S.length) (S ++ [.dic kvs])) : Q (.ref p) (L2.upd m.H p (.dK ws)) := by
  have e : Ev m { m with H := L2.upd m.H p (.dK ws), em := m.em ++ [p] } := Ev.alloc hp
  refine h { m with H := L2.upd m.H p (.dK ws), em := m.em ++ [p] } (.ref p) e (hS.alloc hp kf ⟨ws, upd_same, r.up (e.up hS)⟩) (.ref ?_)
  show (m.em ++ [p])[S.length]? = some p
  rw [← hS.len]
  simp
/-- a list changed -/
theorem wr_lst (hS : SH cl m S) {n : Nat} {a : Addr} {u : HO} {ds : List Val} {vs : List V} {v : Val} {x : V} (ha : m.em[n]? = some a) (hu : m.H a = some u) (r : RDs m ds vs) (rx : RD m v x) (h : liftQ cl m Q v (S.set n (.lst ds))) (nf : ∀ q x, u ≠ .frz q x := by intro _ _ h; cases h) : Q x (L2.upd m.H a (.lst vs)) := by
  have e : Ev m { m with H := L2.upd m.H a (.lst vs) } := Ev.write ha hu nf
  exact h { m with H := L2.upd m.H a (.lst vs) } x e (hS.write ha hu ⟨vs, upd_same, r.up (e.up hS)⟩) (rx.up (e.up hS))
theorem wr_dic (hS : SH cl m S) {n : Nat} {a : Addr} {u : HO} {kvs : List (Key × Val)} {ws : List (L2.Key × V)} {v : Val} {x : V} (ha : m.em[n]? = some a) (hu : m.H a = some u) (r : RKs m kvs ws) (rx : RD m v x) (h : liftQ cl m Q v (S.set n (.dic kvs))) (nf : ∀ q x, u ≠ .frz q x := by intro _ _ h; cases h) : Q x (L2.upd m.H a (.dK ws)) := by
  have e : Ev m { m with H := L2.upd m.H a (.dK ws) } := Ev.write ha hu nf
  exact h { m with H := L2.upd m.H a (.dK ws) } x e (hS.write ha hu ⟨ws, upd_same, r.up (e.up hS)⟩) (rx.up (e.up hS))
theorem SH.lst' (h : SH cl m S) {n : Nat} {a : Addr} {xs : List Val} (e : S[n]? = some (.lst xs)) (ha : m.em[n]? = some a) : ∃ vs, m.H a = some (.lst vs) ∧ RDs m xs vs := h.ob n _ a e ha
theorem SH.dic' (h : SH cl m S) {n : Nat} {a : Addr} {xs : List (Key × Val)} (e : S[n]? = some (.dic xs)) (ha : m.em[n]? = some a) : ∃ ws, m.H a = some (.dK ws) ∧ RKs m xs ws := h.ob n _ a e ha
theorem stay (hS : SH cl m S) {v : Val} {x : V} (r : RD m v x) (h : liftQ cl m Q v S) : Q x m.H := h m x (Ev.refl m) hS r

/-! ### == -/
theorem strOk_ofString (x : String) : PyData.strOk (Str.ofString x) = true := by
  unfold PyData.strOk
  rw [← Array.all_toList, cps_ofString, List.all_eq_true]
  intro c hc
  obtain ⟨d, _, rfl⟩ := List.mem_map.mp hc
  have h := d.valid
  simp only [UInt32.isValidChar, Nat.isValidChar] at h
  have : d.toNat = d.val.toNat := rfl
  rw [decide_eq_true_eq]
  omega
theorem mapM_some {α β : Type} {f : α → Option β} : ∀ {xs : List α} {ys : List β}, xs.mapM f = some ys → Paired (fun x y => f x = some y) xs ys
  | [], ys, h => by
    simp at h
    subst h
    exact .nil
  | x :: xs, ys, h => by
    rw [List.mapM_cons] at h
    cases e : f x with
    | none => rw [e] at h; simp at h
    | some y =>
      rw [e] at h
      cases e2 : xs.mapM f with
      | none => rw [e2] at h; simp at h
      | some zs =>
        rw [e2] at h
        simp at h
        subst h
        exact .cons e (mapM_some e2)
theorem some_mapM {α β : Type} {f : α → Option β} {xs : List α} {ys : List β} (h : Paired (fun x y => f x = some y) xs ys) : xs.mapM f = some ys := by
  induction h with
  | nil => rfl
  | cons h t ih => rw [List.mapM_cons, h, ih]; rfl
theorem dat_dp (hS : SH cl m S) : ∀ (k : Nat) {v : Val} {x : V} {d : PyData}, RD m v x → dat S k v = some d → Dp m.K m.H x d ∧ d.canLay0 = true ∧ d.depth ≤ k := by
  have all : ∀ (k : Nat), (∀ {v : Val} {x : V} {d : PyData}, RD m v x → dat S k v = some d → Dp m.K m.H x d ∧ d.canLay0 = true ∧ d.depth ≤ k) →
      ∀ {ds : List Val} {xs : List V} {es : List PyData}, RDs m ds xs → Paired (fun x y => dat S k x = some y) ds es → DpAll m.K m.H xs es ∧ PyData.canLayAll0 es = true ∧ PyData.depthAll es ≤ k := by
    intro k ih ds xs es r p
    induction p generalizing xs with
    | nil => cases r; exact ⟨.nil, by simp [PyData.canLayAll0], by simp [PyData.depthAll]⟩
    | cons h t iht =>
      cases r with
      | cons r rs =>
        obtain ⟨a1, a2, a3⟩ := ih r h
        obtain ⟨b1, b2, b3⟩ := iht rs
        exact ⟨.cons a1 b1, by simp [PyData.canLayAll0, a2, b2], by simp [PyData.depthAll]; omega⟩
  intro k
  induction k with
  | zero =>
    intro v x d r e
    cases r <;> simp [dat] at e
    · subst e; exact ⟨.non, rfl, by simp [PyData.depth]⟩
    · subst e; exact ⟨.bl _, rfl, by simp [PyData.depth]⟩
    · subst e; exact ⟨.int _, rfl, by simp [PyData.depth]⟩
    · subst e; exact ⟨.str _, by simp [PyData.canLay0, strOk_ofString], by simp [PyData.depth]⟩
  | succ k ih =>
    intro v x d r e
    cases r with
    | non => simp [dat] at e; subst e; exact ⟨.non, rfl, by simp [PyData.depth]⟩
    | bl b => simp [dat] at e; subst e; exact ⟨.bl _, rfl, by simp [PyData.depth]⟩
    | int i => simp [dat] at e; subst e; exact ⟨.int _, rfl, by simp [PyData.depth]⟩
    | str x => simp [dat] at e; subst e; exact ⟨.str _, by simp [PyData.canLay0, strOk_ofString], by simp [PyData.depth]⟩
    | @tup a xs ds hq rs =>
      simp only [dat, Option.map_eq_some_iff] at e
      obtain ⟨es, e1, rfl⟩ := e
      obtain ⟨a1, a2, a3⟩ := all k ih rs (mapM_some e1)
      exact ⟨.tup hq a1, by simpa [PyData.canLay0] using a2, by simp [PyData.depth]; exact a3⟩
    | @ref n a ha =>
      simp only [dat] at e
      split at e
      · rename_i xs hl
        rw [Option.map_eq_some_iff] at e
        obtain ⟨es, e1, rfl⟩ := e
        obtain ⟨vs, hq, rs⟩ := hS.lst hl ha
        obtain ⟨a1, a2, a3⟩ := all k ih rs (mapM_some e1)
        exact ⟨.lst hq a1, by simpa [PyData.canLay0] using a2, by simp [PyData.depth]; exact a3⟩
      · cases e
    | exc h => simp [dat] at e
theorem dat_shaped {k : Nat} (hS : SH cl m S) {v : Val} {x : V} {d : PyData} (hk : k ≤ 64) (r : RD m v x) (e : dat S k v = some d) : Dp m.K m.H x d ∧ SeqAt.shaped d = true := by
  obtain ⟨a, b, c⟩ := dat_dp hS k r e
  refine ⟨a, ?_⟩
  unfold SeqAt.shaped
  rw [b, decide_eq_true (by omega)]
  rfl
theorem datAll_dp (hS : SH cl m S) {k : Nat} {ds : List Val} {xs : List V} {es : List PyData} (hk : k + 1 ≤ 64) (r : RDs m ds xs) (e : ds.mapM (dat S k) = some es) : DpAll m.K m.H xs es ∧ SeqAt.shaped (.list es) = true := by
  have p := mapM_some e
  have all : DpAll m.K m.H xs es ∧ PyData.canLayAll0 es = true ∧ PyData.depthAll es ≤ k := by
    clear e
    induction p generalizing xs with
    | nil => cases r; exact ⟨.nil, by simp [PyData.canLayAll0], by simp [PyData.depthAll]⟩
    | cons h t iht =>
      cases r with
      | cons r rs =>
        obtain ⟨a1, a2, a3⟩ := dat_dp hS k r h
        obtain ⟨b1, b2, b3⟩ := iht rs
        exact ⟨.cons a1 b1, by simp [PyData.canLayAll0, a2, b2], by simp [PyData.depthAll]; omega⟩
  refine ⟨all.1, ?_⟩
  unfold SeqAt.shaped
  have h1 : (PyData.list es).canLay0 = true := by simpa [PyData.canLay0] using all.2.1
  have h2 : (PyData.list es).depth ≤ 64 := by simp [PyData.depth]; omega
  rw [h1, decide_eq_true h2]
  rfl
theorem flat_rd {v : Val} {x : V} (r : RD m v x) (h : flat v = true) : flatV x = true := by cases r <;> first | rfl | cases h
theorem feq_rd {v w : Val} {x y : V} (r : RD m v x) (r' : RD m w y) (h : flat v = true) (h' : flat w = true) : eqV x y = feq v w := by
  cases r <;> cases r' <;> first | rfl | cases h | cases h' | skip
  rename_i a b
  show (Str.ofString a == Str.ofString b) = (a == b)
  by_cases e : a = b
  · subst e; simp
  · have e2 : ¬ Str.ofString a = Str.ofString b := fun z => e (ofString_inj z)
    rw [beq_eq_false_iff_ne.mpr e, beq_eq_false_iff_ne.mpr e2]
theorem flats_rd {ds : List Val} {xs : List V} (r : RDs m ds xs) (h : ds.all flat = true) : xs.all flatV = true := by
  induction ds generalizing xs with
  | nil => cases r; rfl
  | cons d ds ih =>
    cases r with
    | cons r rs =>
      rw [List.all_cons, Bool.and_eq_true] at h
      rw [List.all_cons, flat_rd r h.1, ih rs h.2]
      rfl
theorem inV_rd {ds : List Val} {xs : List V} {v : Val} {x : V} (r : RDs m ds xs) (h : ds.all flat = true) (rv : RD m v x) (hv : flat v = true) : inV x xs = ds.any fun y => feq y v := by
  unfold inV
  induction ds generalizing xs with
  | nil => cases r; rfl
  | cons d ds ih =>
    cases r with
    | cons r rs =>
      rw [List.all_cons, Bool.and_eq_true] at h
      rw [List.any_cons, List.any_cons, feq_rd r rv h.1 hv, ih rs h.2]
end
end Mi

set_option maxHeartbeats 2000000
namespace Mi
open PySem PySem.Spec L2 PyProof.Rows
section
variable {X : Cx} {cl : Cl}
/-- values that lie in the small heap, of which r holds -/
def r2 (X : Cx) (cl : Cl) (r : Val → Val → Hm → Post → Prop) : R2 := fun x y H Q => ∃ m S v w, m.K = X.K ∧ m.H = H ∧ SH cl m S ∧ RD m v x ∧ RD m w y ∧ r v w S (liftQ cl m Q)
/-- an operator with the conditions of one of its kinds -/
theorem opr_of {f : Value → Value → Sem Value} {r : R2} (h : OpR X f r) {pins : List (Addr × Obj)} {s : Shared} {σ : L2.St} {H : Hp} {x y : V} {v u : Value} {Q : VK} (I : Inv X pins σ H s) (rx : RelV x v) (ry : RelV y u)
    (hw : r x y H fun z H' => KF X.K H' → Q z H') : wpAny (model X.prog X.w) X.A (f v u) (EP X pins σ Q) X.xe s := OpR.kf h pins s σ H x y v u Q I rx ry hw
theorem mulOk_X {i j : Int} (h : mulOk i j) : CMulX i j := by
  have b : ∀ x : Int, Builtin.Int.intBits x ≤ x.natAbs.log2 + 1 := fun x => by
    unfold Builtin.Int.intBits
    split <;> omega
  have h1 := b i
  have h2 := b j
  unfold mulOk at h
  unfold CMulX
  omega
theorem rep_cps (a : String) : ∀ n : Nat, (List.replicate n (Str.ofString a).cps).foldl (· ++ ·) #[] = (Str.ofString (strRep a n)).cps
  | 0 => rfl
  | n + 1 => by
    rw [List.replicate_succ', List.foldl_append, rep_cps a n]
    show (Str.ofString (strRep a n)).cps ++ (Str.ofString a).cps = (Str.ofString (strRep a n ++ a)).cps
    rw [ofString_append]
    rfl
theorem mul_rep {a : String} {k : Int} : Txt.mul (Str.ofString a) k = Str.ofString (strRep a k.toNat) := by
  unfold Txt.mul
  by_cases h : k < 1
  · rw [if_pos h]
    have e : k.toNat = 0 := by omega
    rw [e]
    rfl
  · rw [if_neg h]
    by_cases h2 : (k == 1 || (Str.ofString a).length == 0) = true
    · rw [if_pos h2]
      rw [Bool.or_eq_true, beq_iff_eq, beq_iff_eq, len_ofString] at h2
      rcases h2 with h2 | h2
      · subst h2
        show _ = Str.ofString ("" ++ a)
        rw [String.empty_append]
      · have e : a = "" := String.length_eq_zero_iff.mp h2
        subst e
        have : ∀ n : Nat, strRep "" n = "" := fun n => by
          induction n with
          | zero => rfl
          | succ n ih => show strRep "" n ++ "" = ""; rw [ih]; rfl
        rw [this]
    · rw [if_neg h2]
      show (⟨_⟩ : Str) = _
      rw [rep_cps]
theorem op_mulS : OpR X (binaryOp .Mult) (fun x y H Q => ∃ a k, x = .str a ∧ y = .int k ∧ -(2 ^ 63) ≤ k ∧ k ≤ 16777216 ∧ a.length * k.toNat ≤ 16777216 ∧ Q (.str (Txt.mul a k)) H) := by
  intro pins s σ H x y v u Q I rx ry h
  obtain ⟨a, k, rfl, rfl, h1, h2, h3, q⟩ := h
  obtain ⟨t, rfl⟩ := rx
  obtain ⟨t', rfl⟩ := ry
  have ok : MulOk a k := by
    by_cases hk : k < 1
    · refine ⟨?_, fun z => absurd hk z, fun z => absurd hk z⟩
      rw [decide_eq_false (by omega), decide_eq_false (by omega)]
      rfl
    · exact mulOk_of a.length k.toNat (Nat.le_refl _) (by omega) h1 (by omega) h3
  exact SB.mul ok fun t' k' => ⟨.str (Txt.mul a k), H, I.tok _, ⟨_, rfl⟩, q⟩
theorem opr_bin (op : Operator) : OpR X (binaryOp op) (r2 X cl (binW op)) := by
  intro pins s σ H x y v u Q I rx ry h
  obtain ⟨m, S, a, b, hK, rfl, hS, ra, rb, h⟩ := h
  revert h
  unfold binW
  split <;> intro h
  · cases ra; cases rb
    exact opr_of op_add I rx ry ⟨_, _, rfl, rfl, fun _ => stay hS (.int _) h⟩
  · rename_i a b
    cases ra; cases rb
    refine opr_of op_add_str I rx ry ⟨_, _, rfl, rfl, by rw [len_ofString, len_ofString]; exact h.1, fun _ => ?_⟩
    rw [← ofString_append]
    exact stay hS (.str _) h.2
  · rename_i xs ys
    cases ra with
    | @tup a xs' _ ha ras =>
    cases rb with
    | @tup b ys' _ hb rbs =>
    have hl := ras.length
    have hl' := rbs.length
    rw [hK] at ha hb
    refine opr_of op_catA I rx ry ⟨_, _, _, _, rfl, rfl, ha, hb, by rw [← hl, ← hl']; exact h.1, fun e _ => ?_, fun e1 e2 _ => ?_, fun e1 e2 p hp kf => ?_⟩
    · subst e
      have : xs = [] := by cases ras; rfl
      subst this
      exact stay hS (.tup (by rw [hK]; exact hb) rbs) h.2
    · subst e2
      have : ys = [] := by cases rbs; rfl
      subst this
      have h2 := h.2
      rw [List.append_nil] at h2
      exact stay hS (.tup (by rw [hK]; exact ha) ras) h2
    · exact mk_tup hS (ras.append rbs) hp (hK ▸ kf) h.2
  · rename_i n k
    obtain ⟨xs, ys, h1, h2, h3, h4⟩ := h
    cases ra with
    | @ref _ a ha =>
    cases rb with
    | @ref _ b hb =>
    obtain ⟨vs, e1, r1⟩ := hS.lst' h1 ha
    obtain ⟨ws, e2, r2⟩ := hS.lst' h2 hb
    exact opr_of op_cat I rx ry ⟨_, _, _, _, rfl, rfl, e1, e2, by rw [← r1.length, ← r2.length]; exact h3, fun p hp kf => mk_lst hS (r1.append r2) hp (hK ▸ kf) h4⟩
  · cases ra; cases rb
    exact opr_of op_sub I rx ry ⟨_, _, rfl, rfl, fun _ => stay hS (.int _) h⟩
  · cases ra; cases rb
    exact opr_of op_mulX I rx ry ⟨_, _, rfl, rfl, mulOk_X h.1, fun _ => stay hS (.int _) h.2⟩
  · obtain ⟨xs, h1, h2, h3, h4, h5⟩ := h
    cases ra with
    | @ref _ a ha =>
    cases rb
    obtain ⟨vs, e1, r1⟩ := hS.lst' h1 ha
    exact opr_of op_rep I rx ry ⟨_, _, _, rfl, rfl, e1, h2, h3, by rw [← r1.length]; exact h4, fun p hp kf => mk_lst hS (r1.replicate _) hp (hK ▸ kf) h5⟩
  · cases ra; cases rb
    exact opr_of op_mulS I rx ry ⟨_, _, rfl, rfl, h.1, h.2.1, by rw [len_ofString]; exact h.2.2.1, fun _ => by rw [mul_rep]; exact stay hS (.str _) h.2.2.2⟩
  · obtain ⟨h1, h2, h3, h4, h5⟩ := h
    cases ra with
    | @tup a xs' _ ha ras =>
    cases rb
    rw [hK] at ha
    exact opr_of op_repT I rx ry ⟨_, _, _, rfl, rfl, ha, fun e => h1 (by subst e; cases ras; rfl), h2, h3, by rw [← ras.length]; exact h4, fun p hp kf => mk_tup hS (ras.replicate _) hp (hK ▸ kf) h5⟩
  · cases ra; cases rb
    exact opr_of op_fdivW I rx ry ⟨_, _, rfl, rfl, h.1, fun _ => stay hS (.int _) h.2⟩
  · cases ra; cases rb
    exact opr_of op_mod I rx ry ⟨_, _, rfl, rfl, h.1, fun _ => stay hS (.int _) h.2⟩
  · cases ra; cases rb
    exact opr_of op_pow I rx ry ⟨_, _, rfl, rfl, h.1, fun _ => stay hS (.int _) h.2⟩
  · cases ra; cases rb
    exact opr_of op_shl I rx ry ⟨_, _, rfl, rfl, h.1, fun _ => stay hS (.int _) h.2⟩
  · cases ra; cases rb
    exact opr_of op_shr I rx ry ⟨_, _, rfl, rfl, h.1, fun _ => stay hS (.int _) h.2⟩
  · exact h.elim
theorem opr_ibin (op : Operator) : OpR X (inplaceOp op) (r2 X cl (ibinW op)) := by
  intro pins s σ H x y v u Q I rx ry h
  obtain ⟨m, S, a, b, hK, rfl, hS, ra, rb, h⟩ := h
  revert h
  unfold ibinW
  split <;> intro h
  · cases ra; cases rb
    exact opr_of iop_add I rx ry ⟨_, _, rfl, rfl, fun _ => stay hS (.int _) h⟩
  · rename_i a b
    cases ra; cases rb
    refine opr_of iop_add_str I rx ry ⟨_, _, rfl, rfl, by rw [len_ofString, len_ofString]; exact h.1, fun _ => ?_⟩
    rw [← ofString_append]
    exact stay hS (.str _) h.2
  · cases ra; cases rb
    exact opr_of iop_sub I rx ry ⟨_, _, rfl, rfl, fun _ => stay hS (.int _) h⟩
  · obtain ⟨xs, ys, h1, h2, h3, h4⟩ := h
    cases ra with
    | @ref _ a ha =>
    cases rb with
    | @ref _ b hb =>
    obtain ⟨vs, e1, r1⟩ := hS.lst' h1 ha
    obtain ⟨ws, e2, r2⟩ := hS.lst' h2 hb
    exact opr_of iop_ext I rx ry ⟨_, _, _, _, rfl, rfl, e1, e2, by rw [← r1.length, ← r2.length]; exact h3, fun _ => wr_lst hS ha e1 (r1.append r2) (.ref ha) h4⟩
  · exact h.elim

/-! ### comparisons -/
/-- a dict's values beside another one's, in the state -/
theorem hits_rd {pins : List (Addr × Obj)} {s : Shared} {σ : L2.St} {m : Sm} {S : Hm} (hK : m.K = X.K) (hS : SH cl m S) (I : Inv X pins σ m.H s) (hu : X.A.units + 65 < cLine) {ls : List (Key × Val)} {wl : List (L2.Key × V)} {vb : List (L2.Key × Value)} (rl : RKs m ls wl) (kb : KV wl vb) :
    ∀ {ks : List (Key × Val)} {ws : List (L2.Key × V)} {va : List (L2.Key × Value)} {b : Bool}, RKs m ks ws → KV ws va → dHits S ls ks = some b → PySem.W.KeqHits X.A.in1 s vb va b := by
  intro ks
  induction ks with
  | nil =>
    intro ws va b r ka h
    cases r
    cases ka
    cases h
    exact .nil
  | cons p ks ih =>
    intro ws va b r ka h
    unfold RKs at r
    cases r with
    | @cons _ q _ qs hr tr =>
    unfold KV at ka
    cases ka with
    | @cons _ z _ zs hz tz =>
    obtain ⟨zk, zv⟩ := z
    have e1 : q.1 = zk := hz.1
    have e2 : q.1 = kk p.1 := hr.1
    have ek : zk = kk p.1 := e1.symm.trans e2
    have rr : RelO (valV wl (kk p.1)) (PySem.valueAt vb (kk p.1)) := kb.val (kk p.1)
    simp only [dHits] at h
    rcases rl.look p.1 with ⟨u, x, l1, l2, l3⟩ | ⟨l1, l2⟩
    · rw [l1] at h
      rw [l2] at rr
      obtain ⟨y, hy, ry⟩ := rr.some_of
      cases hd : dat S 58 p.2 with
      | none => simp only [hd] at h; cases h
      | some d =>
      cases he : dat S 58 u with
      | none => simp only [hd, he] at h; cases h
      | some e =>
      cases hb : dHits S ls ks with
      | none => simp only [hd, he, hb] at h; cases h
      | some b' =>
      simp only [hd, he, hb] at h
      cases h
      obtain ⟨p1, p2⟩ := dat_shaped hS (by decide) hr.2 hd
      obtain ⟨q1, q2⟩ := dat_shaped hS (by decide) l3 he
      obtain ⟨as, r1⟩ := Dp.reads I d q.2 zv (hK ▸ p1) hz.2
      obtain ⟨bs, r2⟩ := Dp.reads I e x y (hK ▸ q1) ry
      rw [← ek] at hy
      exact .hit hy (PySem.W.keq_at r1 r2 p2 q2 (by show X.A.units + 1 + 64 < cLine; omega)) (ih tr tz hb)
    · rw [l1] at h
      rw [l2] at rr
      cases h
      have hn : PySem.valueAt vb (kk p.1) = none := by
        cases hv : PySem.valueAt vb (kk p.1) with
        | none => rfl
        | some v => rw [hv] at rr; exact rr.elim
      rw [← ek] at hn
      exact .miss hn
theorem opr_eq (hu : X.A.units + 65 < cLine) : OpR X (compareOp .Eq) (r2 X cl fun v w S Q => eqW v w S fun b => Q (.bl b) S) := by
  intro pins s σ H x y v u Q I rx ry h
  obtain ⟨m, S, a, b, hK, rfl, hS, ra, rb, ⟨d, e, h1, h2, h3⟩ | h⟩ := h
  · obtain ⟨p1, p2⟩ := dat_shaped hS (by decide) ra h1
    obtain ⟨q1, q2⟩ := dat_shaped hS (by decide) rb h2
    exact opr_of (op_eqD (by omega)) I rx ry ⟨d, e, hK ▸ p1, hK ▸ q1, p2, q2, fun _ => stay hS (.bl _) h3⟩
  · revert h
    unfold eqD
    split
    · rintro ⟨ks, ls, bb, h1, h2, h3, h4⟩
      cases ra with
      | @ref _ pa ha =>
      cases rb with
      | @ref _ pb hb =>
      obtain ⟨ws, e1, r1⟩ := hS.dic' h1 ha
      obtain ⟨wl, e2, r2⟩ := hS.dic' h2 hb
      obtain rfl : v = Value.ref pa := rx
      obtain rfl : u = Value.ref pb := ry
      obtain ⟨_, ya, va, ka, da⟩ := (show ObjOk X.prog X.w m.H s.heap pa (.dK ws) from I.hok pa _ e1)
      obtain ⟨_, yb, vb, kb, db⟩ := (show ObjOk X.prog X.w m.H s.heap pb (.dK wl) from I.hok pb _ e2)
      have hits := hits_rd hK hS I hu r2 kb r1 ka h3
      have hl : va.length = ks.length := by rw [← ka.length, ← r1.length]
      have hl2 : vb.length = ls.length := by rw [← kb.length, ← r2.length]
      refine PySem.W.keq_eq (knd := mixKind X.prog X.w) (r := bb) ya yb da db (by omega) (fun _ => hits) ⟨.bl _, m.H, I, rfl, ?_⟩
      have e : (va.length == vb.length && bb) = (decide (ks.length = ls.length) && bb) := by rw [hl, hl2]; by_cases h : ks.length = ls.length <;> simp [h]
      rw [e]
      exact stay hS (.bl _) h4
    · exact fun h => h.elim
theorem opr_ne (hu : X.A.units + 65 < cLine) : OpR X (compareOp .NotEq) (r2 X cl fun v w S Q => eqW v w S fun b => Q (.bl (!b)) S) := by
  intro pins s σ H x y v u Q I rx ry h
  obtain ⟨m, S, a, b, hK, rfl, hS, ra, rb, ⟨d, e, h1, h2, h3⟩ | h⟩ := h
  · obtain ⟨p1, p2⟩ := dat_shaped hS (by decide) ra h1
    obtain ⟨q1, q2⟩ := dat_shaped hS (by decide) rb h2
    exact opr_of (op_neD (by omega)) I rx ry ⟨d, e, hK ▸ p1, hK ▸ q1, p2, q2, fun _ => stay hS (.bl _) h3⟩
  · revert h
    unfold eqD
    split
    · rintro ⟨ks, ls, bb, h1, h2, h3, h4⟩
      cases ra with
      | @ref _ pa ha =>
      cases rb with
      | @ref _ pb hb =>
      obtain ⟨ws, e1, r1⟩ := hS.dic' h1 ha
      obtain ⟨wl, e2, r2⟩ := hS.dic' h2 hb
      obtain rfl : v = Value.ref pa := rx
      obtain rfl : u = Value.ref pb := ry
      obtain ⟨_, ya, va, ka, da⟩ := (show ObjOk X.prog X.w m.H s.heap pa (.dK ws) from I.hok pa _ e1)
      obtain ⟨_, yb, vb, kb, db⟩ := (show ObjOk X.prog X.w m.H s.heap pb (.dK wl) from I.hok pb _ e2)
      have hits := hits_rd hK hS I hu r2 kb r1 ka h3
      have hl : va.length = ks.length := by rw [← ka.length, ← r1.length]
      have hl2 : vb.length = ls.length := by rw [← kb.length, ← r2.length]
      refine PySem.W.keq_ne (knd := mixKind X.prog X.w) (r := bb) ya yb da db (by omega) (fun _ => hits) ⟨.bl _, m.H, I, rfl, ?_⟩
      have e : (!(va.length == vb.length && bb)) = (!(decide (ks.length = ls.length) && bb)) := by rw [hl, hl2]; by_cases h : ks.length = ls.length <;> simp [h]
      rw [e]
      exact stay hS (.bl _) h4
    · exact fun h => h.elim
theorem sign_ofString {x : String} {c : Char} (h : x.toList = [c]) : Str.ofString x = ⟨#[c.toNat]⟩ := by
  rw [Str.ofString_eq_toList, h]
  rfl
theorem char_toNat_inj {a b : Char} (e : a.toNat = b.toNat) : a = b := by
  apply Char.ext
  apply UInt32.toNat_inj.mp
  exact e
theorem mem_cps {c : Char} {y : String} : decide (c.toNat ∈ (Str.ofString y).cps.toList) = decide (c ∈ y.toList) := by
  rw [cps_ofString]
  by_cases h : c ∈ y.toList
  · rw [decide_eq_true h, decide_eq_true (List.mem_map.mpr ⟨c, h, rfl⟩)]
  · rw [decide_eq_false h, decide_eq_false fun z => ?_]
    obtain ⟨d, hd, e⟩ := List.mem_map.mp z
    exact h (char_toNat_inj e ▸ hd)
theorem opr_in (hu : X.A.units + 65 < cLine) : OpR X (compareOp .In) (r2 X cl fun v w S Q => inW v w S fun b => Q (.bl b) S) := by
  intro pins s σ H x y v u Q I rx ry h
  obtain ⟨m, S, a, b, hK, rfl, hS, ra, rb, h⟩ := h
  revert h
  unfold inW
  cases b with
  | str b =>
    cases a with
    | str a =>
      intro h
      cases ra; cases rb
      rcases h with ⟨c, h1, h2⟩ | h
      · rw [sign_ofString h1] at rx
        refine opr_of op_in_sign I rx ry ⟨_, _, rfl, rfl, fun _ => ?_⟩
        rw [mem_cps]
        exact stay hS (.bl _) h2
      · exact opr_of op_in_str I rx ry ⟨_, _, rfl, rfl, fun _ => stay hS (.bl _) h⟩
    | _ => intro h; exact h.elim
  | tup xs =>
    intro h
    cases rb with
    | @tup a' vs _ hq rs =>
    rw [hK] at hq
    refine opr_of op_in_seq I rx ry ⟨_, _, rfl, .inr hq, flat_rd ra h.1, flats_rd rs h.2.1, fun _ => ?_⟩
    show Q (.bl (if false = true then _ else inV _ _)) m.H
    rw [if_neg Bool.false_ne_true, inV_rd rs h.2.1 ra h.1]
    exact stay hS (.bl _) h.2.2
  | ref n =>
    intro h
    cases rb with
    | @ref _ a' ha =>
    rcases h with ⟨xs, h1, ⟨h2, h3, h4⟩ | ⟨d, ds, h2, h3, h4⟩⟩ | ⟨kvs, k, h1, h2, h3⟩
    · obtain ⟨vs, hq, rs⟩ := hS.lst h1 ha
      rw [hK] at hq
      refine opr_of op_in_seq I rx ry ⟨_, _, rfl, .inl hq, flat_rd ra h2, flats_rd rs h3, fun _ => ?_⟩
      show Q (.bl (if false = true then _ else inV _ _)) m.H
      rw [if_neg Bool.false_ne_true, inV_rd rs h3 ra h2]
      exact stay hS (.bl _) h4
    · obtain ⟨vs, hq, rs⟩ := hS.lst h1 ha
      obtain ⟨p1, p2⟩ := dat_shaped hS (by decide) ra h2
      obtain ⟨q1, q2⟩ := datAll_dp hS (by decide) rs h3
      exact opr_of (op_inD hu) I rx ry ⟨d, ds, hK ▸ p1, hK ▸ .lst hq q1, p2, q2, fun _ => stay hS (.bl _) h4⟩
    · obtain ⟨ws, hq, rs⟩ := hS.dic h1 ha
      have ek := key_rd ra h2
      subst ek
      cases (show u = Value.ref a' from ry)
      have g : DGet m.H a' (L2.kV (kk k)) (valV ws (kk k)) := .inl ⟨ws, _, hq, rfl, rfl⟩
      refine d_in (by omega) I g rx fun s' I' => ⟨.bl _, m.H, I', rfl, ?_⟩
      rcases rs.look k with ⟨v, x, e1, e2, _⟩ | ⟨e1, e2⟩
      · rw [e2]; rw [e1] at h3; exact stay hS (.bl _) h3
      · rw [e2]; rw [e1] at h3; exact stay hS (.bl _) h3
  | _ => intro h; exact h.elim
theorem opr_notin (hu : X.A.units + 65 < cLine) : OpR X (compareOp .NotIn) (r2 X cl fun v w S Q => inW v w S fun b => Q (.bl (!b)) S) := by
  intro pins s σ H x y v u Q I rx ry h
  obtain ⟨m, S, a, b, hK, rfl, hS, ra, rb, h⟩ := h
  revert h
  unfold inW
  cases b with
  | str b =>
    cases a with
    | str a =>
      intro h
      cases ra; cases rb
      rcases h with ⟨c, h1, h2⟩ | h
      · rw [sign_ofString h1] at rx
        refine opr_of op_notIn_sign I rx ry ⟨_, _, rfl, rfl, fun _ => ?_⟩
        rw [mem_cps]
        exact stay hS (.bl _) h2
      · exact opr_of op_notin_str I rx ry ⟨_, _, rfl, rfl, fun _ => stay hS (.bl _) h⟩
    | _ => intro h; exact h.elim
  | tup xs =>
    intro h
    cases rb with
    | @tup a' vs _ hq rs =>
    rw [hK] at hq
    refine opr_of op_notIn_seq I rx ry ⟨_, _, rfl, .inr hq, flat_rd ra h.1, flats_rd rs h.2.1, fun _ => ?_⟩
    show Q (.bl (if true = true then !inV _ _ else _)) m.H
    rw [if_pos rfl, inV_rd rs h.2.1 ra h.1]
    exact stay hS (.bl _) h.2.2
  | ref n =>
    intro h
    cases rb with
    | @ref _ a' ha =>
    rcases h with ⟨xs, h1, ⟨h2, h3, h4⟩ | ⟨d, ds, h2, h3, h4⟩⟩ | ⟨kvs, k, h1, h2, h3⟩
    · obtain ⟨vs, hq, rs⟩ := hS.lst h1 ha
      rw [hK] at hq
      refine opr_of op_notIn_seq I rx ry ⟨_, _, rfl, .inl hq, flat_rd ra h2, flats_rd rs h3, fun _ => ?_⟩
      show Q (.bl (if true = true then !inV _ _ else _)) m.H
      rw [if_pos rfl, inV_rd rs h3 ra h2]
      exact stay hS (.bl _) h4
    · obtain ⟨vs, hq, rs⟩ := hS.lst h1 ha
      obtain ⟨p1, p2⟩ := dat_shaped hS (by decide) ra h2
      obtain ⟨q1, q2⟩ := datAll_dp hS (by decide) rs h3
      exact opr_of (op_notInD hu) I rx ry ⟨d, ds, hK ▸ p1, hK ▸ .lst hq q1, p2, q2, fun _ => stay hS (.bl _) h4⟩
    · obtain ⟨ws, hq, rs⟩ := hS.dic h1 ha
      have ek := key_rd ra h2
      subst ek
      cases (show u = Value.ref a' from ry)
      have g : DGet m.H a' (L2.kV (kk k)) (valV ws (kk k)) := .inl ⟨ws, _, hq, rfl, rfl⟩
      refine d_notIn (by omega) I g rx fun s' I' => ⟨.bl _, m.H, I', rfl, ?_⟩
      rcases rs.look k with ⟨v, x, e1, e2, _⟩ | ⟨e1, e2⟩
      · rw [e2]; rw [e1] at h3; exact stay hS (.bl _) h3
      · rw [e2]; rw [e1] at h3; exact stay hS (.bl _) h3
  | _ => intro h; exact h.elim
theorem opr_cmp (hu : X.A.units + 65 < cLine) (op : CmpOp) : OpR X (compareOp op) (r2 X cl fun v w S Q => cmpW op v w S fun b => Q (.bl b) S) := by
  cases op
  case Eq => exact opr_eq hu
  case NotEq => exact opr_ne hu
  case In => exact opr_in hu
  case NotIn => exact opr_notin hu
  case Is => intro pins s σ H x y v u Q I rx ry h; obtain ⟨m, S, a, b, hK, rfl, hS, ra, rb, h⟩ := h; exact h.elim
  case IsNot => intro pins s σ H x y v u Q I rx ry h; obtain ⟨m, S, a, b, hK, rfl, hS, ra, rb, h⟩ := h; exact h.elim
  all_goals
    intro pins s σ H x y v u Q I rx ry h
    obtain ⟨m, S, a, b, hK, rfl, hS, ra, rb, h⟩ := h
    revert h
    unfold cmpW
    cases a <;> cases b <;> intro h <;> try exact h.elim
    cases ra; cases rb
  · exact opr_of op_lt I rx ry ⟨_, _, rfl, rfl, fun _ => stay hS (.bl _) h⟩
  · exact opr_of op_le I rx ry ⟨_, _, rfl, rfl, fun _ => stay hS (.bl _) h⟩
  · exact opr_of op_gt I rx ry ⟨_, _, rfl, rfl, fun _ => stay hS (.bl _) h⟩
  · exact opr_of op_ge I rx ry ⟨_, _, rfl, rfl, fun _ => stay hS (.bl _) h⟩
end
end Mi

set_option maxHeartbeats 2000000
namespace Mi
open PySem PySem.Spec L2 PyProof.Rows
section
variable {X : Cx} {cl : Cl}
theorem ixN_eq (n : Nat) (i : Int) : Mi.ixN n i = L2.ixN n i := rfl
theorem atI_rd {m : Sm} {ds : List Val} {xs : List V} {i : Int} {v : Val} (r : RDs m ds xs) (h : Mi.atI ds i = some v) : ∃ x, L2.atI xs i = some x ∧ RD m v x := by
  unfold Mi.atI at h
  unfold L2.atI
  rw [← r.length, ← ixN_eq]
  cases e : Mi.ixN ds.length i with
  | none => rw [e] at h; cases h
  | some j =>
    rw [e] at h
    exact r.get h
theorem atI_map {α β : Type} (f : α → β) {xs : List α} {i : Int} {c : α} (h : Mi.atI xs i = some c) : L2.atI (xs.map f) i = some (f c) := by
  unfold Mi.atI at h
  unfold L2.atI
  rw [List.length_map, ← ixN_eq]
  cases e : Mi.ixN xs.length i with
  | none => rw [e] at h; cases h
  | some j =>
    rw [e] at h
    have h' : xs[j]? = some c := h
    show (xs.map f)[j]? = some (f c)
    rw [List.getElem?_map, h']
    rfl
theorem ix_dict (hu : X.A.units + 1 < cLine) : IxR X (fun x y H Q => ∃ a v, x = .ref a ∧ DGet H a y (some v) ∧ Q v H) := by
  intro value slice pins s σ H x y v u Q I rx ry h hs
  obtain ⟨a, z, rfl, g, q⟩ := h
  obtain rfl : v = Value.ref a := rx
  have hT := dict_typeIs I g
  unfold subscriptTail
  refine wpAny_bind ?_
  rw [getitemInPython_of_ne hT.not_modules]
  refine wpAny_bind (wpAny_specialOf hT PySem.F.slot_dict_getitem.lookup ?_)
  have fin : wpAny (model X.prog X.w) X.A (subscripted slice false (.ref a) u) (fun r s₃ => wpAny (model X.prog X.w) X.A (letTemporaryGo value (.ref a) r >>= fun _ => pure r) (EP X pins σ Q) X.xe s₃) X.xe s := by
    rw [hs]
    exact wpAny_operating (d_getItem hu I g ry fun w' s3 I3 rw' => wpAny_bind (wpAny_letTemporaryGo (wpAny_pure ⟨z, H, I3, rw', q⟩)))
  first
    | exact wpAny_pure (wpAny_bind fin)
    | exact wpAny_bind (wpAny_pure (wpAny_bind fin))
    | exact wpAny_bind fin
theorem singleton_ofString (c : Char) : Str.ofString (String.singleton c) = ⟨#[c.toNat]⟩ := by
  rw [Str.ofString_eq_toList]
  simp [String.toList_singleton]
theorem ix_ok (hu : X.A.units + 1 < cLine) : IxR X (r2 X cl subW) := by
  intro value slice pins s σ H x y v u Q I rx ry h hs
  obtain ⟨m, S, a, b, hK, rfl, hS, ra, rb, h⟩ := h
  revert h
  unfold subW
  split <;> intro h
  · obtain ⟨w, h1, h2⟩ := h
    cases ra with
    | @tup p xs _ hq rs =>
    cases rb
    rw [hK] at hq
    obtain ⟨z, e, rz⟩ := atI_rd rs h1
    exact ix_tup value slice pins s σ _ _ _ v u Q I rx ry ⟨p, xs, _, z, rfl, rfl, hq, e, stay hS rz h2⟩ hs
  · obtain ⟨hl, c, h1, h2⟩ := h
    cases ra; cases rb
    rename_i x k
    refine ix_str value slice pins s σ _ _ _ v u Q I rx ry ⟨_, _, c.toNat, rfl, rfl, by rw [len_ofString]; exact hl, ?_, ?_⟩ hs
    · rw [cps_ofString]
      exact atI_map Char.toNat h1
    · rw [← singleton_ofString]
      exact stay hS (.str _) h2
  · cases ra with
    | @ref n p hp =>
    rcases h with ⟨xs, j, w, rfl, h1, h2, h3⟩ | ⟨kvs, q, w, h1, h2, h3, h4⟩
    · cases rb
      obtain ⟨vs, hq, rs⟩ := hS.lst h1 hp
      rw [hK] at hq
      obtain ⟨z, e, rz⟩ := atI_rd rs h2
      exact ix_list value slice pins s σ _ _ _ v u Q I rx ry ⟨p, vs, _, z, rfl, rfl, hq, e, stay hS rz h3⟩ hs
    · obtain ⟨ws, hq, rs⟩ := hS.dic h1 hp
      have ek := key_rd rb h2
      subst ek
      rcases rs.look q with ⟨v', x', e1, e2, r⟩ | ⟨e1, e2⟩
      · rw [h3] at e1
        cases e1
        exact ix_dict hu value slice pins s σ _ _ _ v u Q I rx ry ⟨p, x', rfl, .inl ⟨ws, _, hq, rfl, e2.symm⟩, stay hS r h4⟩ hs
      · rw [h3] at e1; cases e1
  · exact h.elim

theorem get_ok (hu : X.A.units + 1 < cLine) : PGet X (fun o i H Q => ∃ m S a b, m.K = X.K ∧ m.H = H ∧ SH cl m S ∧ RD m a o ∧ RD m b i ∧ (∃ n, a = .ref n) ∧ subW a b S (liftQ cl m Q)) := by
  intro pins s σ H x y v u Q I rx ry h
  obtain ⟨m, S, a, b, hK, rfl, hS, ra, rb, ⟨n, rfl⟩, h⟩ := h
  cases ra with
  | @ref _ p hp =>
  rcases h with ⟨xs, j, w, rfl, h1, h2, h3⟩ | ⟨kvs, q, w, h1, h2, h3, h4⟩
  · cases rb
    obtain ⟨vs, hq, rs⟩ := hS.lst h1 hp
    rw [hK] at hq
    obtain ⟨z, e, rz⟩ := atI_rd rs h2
    cases rx
    obtain ⟨t, rfl⟩ := ry
    obtain ⟨its, r, pl, hz⟩ := I.list hq
    obtain ⟨i, e1, e2, e3, e4, e5⟩ := atI_get e
    obtain ⟨w', ew, rw'⟩ := r.get e2
    have hl := r.length
    have hn := line63
    have fin : EP X pins σ Q w' s := ⟨z, m.H, I, rw', stay hS rz h3⟩
    by_cases h0 : 0 ≤ j
    · have hj : j.toNat = i := by
        rw [seqIndex_of h0 e5] at e1
        exact Option.some.inj e1
      exact wpAny_getItem_list pl.isList h0 (by omega) (by rw [hj]; simpa using ew) fin
    · have hj : (j + (its.toArray.size : Int)).toNat = i := by
        rw [seqIndex_neg (by omega) e4] at e1
        rw [List.size_toArray, ← hl]
        exact Option.some.inj e1
      exact wpAny_getItem_list_neg pl.isList (by omega) (by rw [List.size_toArray] <;> omega) (by omega) (by rw [hj]; simpa using ew) fin
  · obtain ⟨ws, hq, rs⟩ := hS.dic h1 hp
    have ek := key_rd rb h2
    subst ek
    rcases rs.look q with ⟨v', x', e1, e2, r⟩ | ⟨e1, e2⟩
    · rw [h3] at e1
      cases e1
      obtain rfl : v = Value.ref p := rx
      exact d_getItem hu I (.inl ⟨ws, _, hq, rfl, e2.symm⟩) ry fun w' s3 I3 rw' => ⟨x', m.H, I3, rw', stay hS r h4⟩
    · rw [h3] at e1; cases e1

/-! ### slices -/
theorem sIx_eq (n d : Nat) (o : Option Int) : Mi.sIx n d o = HT.sIx n d o := by cases o <;> rfl
theorem cut_rd {m : Sm} {ds : List Val} {xs : List V} {lo hi : Option Int} (r : RDs m ds xs) : RDs m (cut ds lo hi) (cutV xs lo hi) := by
  unfold cut cutV
  rw [sIx_eq, sIx_eq, r.length]
  exact (r.drop _).take _
theorem cut_all {α : Type} {xs : List α} {lo hi : Option Int} (h : HT.sIx xs.length 0 lo = 0 ∧ HT.sIx xs.length xs.length hi = xs.length) : cut xs lo hi = xs := by
  unfold cut
  rw [sIx_eq, sIx_eq, h.1, h.2]
  simp
theorem cut_map {α β : Type} (f : α → β) (xs : List α) (lo hi : Option Int) : (cut xs lo hi).map f = (((xs.map f).drop (HT.sIx (xs.map f).length 0 lo)).take (HT.sIx (xs.map f).length (xs.map f).length hi - HT.sIx (xs.map f).length 0 lo)) := by
  unfold cut
  rw [sIx_eq, sIx_eq, List.length_map, List.map_take, List.map_drop]
theorem cutS_ofString (x : String) (lo hi : Option Int) : cutS (Str.ofString x) lo hi = Str.ofString (String.ofList (cut x.toList lo hi)) := by
  rw [ofString_ofList, cut_map]
  unfold cutS
  rw [cps_ofString, len_ofString]
  simp [String.length_toList]
theorem sl_ok : SlR X (fun x lo hi H Q => ∃ m S v, m.K = X.K ∧ m.H = H ∧ SH cl m S ∧ RD m v x ∧ sliceW v lo hi S (liftQ cl m Q)) := by
  have key : ∀ {r : V → Option Int → Option Int → Hp → VK → Prop}, SlR X r → SlR X (fun x lo hi H Q => r x lo hi H fun z H' => KF X.K H' → Q z H') := by
    intro r hr pins s σ H x v vl vu lo hi sl Q I rx hs pl pu h
    obtain ⟨T, id, h1, h2, h3⟩ := hr pins s σ H x v vl vu lo hi sl _ I rx hs pl pu h
    exact ⟨T, id, h1, h2, epkf h3⟩
  intro pins s σ H x v vl vu lo hi sl Q I rx hs pl pu h
  obtain ⟨m, S, a, hK, rfl, hS, ra, h⟩ := h
  revert h
  unfold sliceW
  split <;> intro h
  · rename_i xs
    cases ra with
    | @tup p vs _ hq rs =>
    rw [hK] at hq
    refine key sl_tupA pins s σ _ _ v vl vu lo hi sl Q I rx hs pl pu ⟨p, vs, rfl, hq, fun e _ => ?_, fun e q hq' kf => mk_tup hS (cut_rd rs) hq' (hK ▸ kf) h⟩
    rw [cut_all (by rw [rs.length]; exact e)] at h
    exact stay hS (.tup (by rw [hK]; exact hq) rs) h
  · cases ra
    refine key sl_str pins s σ _ _ v vl vu lo hi sl Q I rx hs pl pu ⟨_, rfl, by rw [len_ofString]; exact h.1, fun _ => ?_⟩
    rw [cutS_ofString]
    exact stay hS (.str _) h.2
  · obtain ⟨xs, h1, h2⟩ := h
    cases ra with
    | @ref n p hp =>
    obtain ⟨vs, hq, rs⟩ := hS.lst h1 hp
    rw [hK] at hq
    exact key sl_list pins s σ _ _ v vl vu lo hi sl Q I rx hs pl pu ⟨p, vs, rfl, hq, fun q hq' kf => mk_lst hS (cut_rd rs) hq' (hK ▸ kf) h2⟩
  · exact h.elim

/-! ### truth -/
theorem truth_rd {m : Sm} {S : Hm} {v : Val} {x : V} {b : Bool} (hS : SH cl m S) (hK : m.K = X.K) (r : RD m v x) (h : truth v S = some b) : TruV X.K x m.H b := by
  cases r with
  | non => simp [truth] at h; exact h.symm ▸ rfl
  | bl c => simp [truth] at h; exact h ▸ rfl
  | int i => simp only [truth, Option.some.injEq] at h; exact h ▸ rfl
  | str z =>
    simp only [truth] at h
    split at h
    case isFalse => cases h
    rename_i hl
    simp only [Option.some.injEq] at h
    refine ⟨by rw [len_ofString]; exact hl, ?_⟩
    rw [len_ofString, ← h]
    by_cases e : z.length = 0
    · simp [e]
    · have e2 : ¬ ((z.length : Nat) : Int) = 0 := by omega
      rw [bne_iff_ne.mpr e, bne_iff_ne.mpr e2]
  | @tup a xs ds hq rs =>
    simp only [truth, Option.some.injEq] at h
    rw [hK] at hq
    exact .inr (.inl ⟨xs, hq, by rw [← h, rs.isEmpty]⟩)
  | @ref n a ha =>
    simp only [truth] at h
    split at h
    · rename_i xs e
      cases h
      obtain ⟨vs, hq, rs⟩ := hS.lst (lst_of e) ha
      rw [hK] at hq
      exact .inl ⟨vs, hq, by rw [rs.isEmpty]⟩
    · rename_i xs e
      cases h
      obtain ⟨vs, hq, rs⟩ := hS.lst (xs := xs) (by unfold Hm.lst; rw [e]) ha
      rw [hK] at hq
      exact .inl ⟨vs, hq, by rw [rs.isEmpty]⟩
    · rename_i xs e
      cases h
      obtain ⟨ws, hq, rs⟩ := hS.dic' e ha
      refine .inr (.inr ⟨ws, hq, ?_⟩)
      unfold RKs at rs
      cases rs <;> rfl
    · cases h
  | exc h' => simp [truth] at h

/-! ### built-in functions -/
def rA (X : Cx) (cl : Cl) (r : List Val → Hm → Post → Prop) : List V → Hp → VK → Prop := fun xs H Q => ∃ m S vs, m.K = X.K ∧ m.H = H ∧ SH cl m S ∧ RDs m vs xs ∧ r vs S (liftQ cl m Q)
def biV : Bi → Value
  | .len => .builtin "len"
  | .abs => .builtin "abs"
  | .min => .builtin "min"
  | .max => .builtin "max"
  | .int => .type "int"
  | .str => .type "str"
  | .list => .type "list"
  | .tuple => .type "tuple"
  | .dict => .type "dict"
  | .sum => .builtin "sum"
  | .sorted => .builtin "sorted"
  | .all => .builtin "all"
  | .any => .builtin "any"
  | .range => .type "range"
theorem perm_map {α β : Type} {f : α → β} {l1 l2 : List β} (h : l1.Perm l2) : ∀ ks : List α, l2 = ks.map f → ∃ ys : List α, ys.Perm ks ∧ l1 = ys.map f := by
  induction h with
  | nil => exact fun ks e => ⟨ks, .refl _, e⟩
  | cons x _ ih =>
    intro ks e
    cases ks with
    | nil => cases e
    | cons k ks =>
      injection e with e1 e2
      obtain ⟨ys, h1, h2⟩ := ih ks e2
      exact ⟨k :: ys, h1.cons k, by rw [e1, h2]; rfl⟩
  | swap x y l =>
    intro ks e
    match ks, e with
    | a :: b :: ks, e =>
      injection e with e1 e2
      injection e2 with e2 e3
      exact ⟨b :: a :: ks, .swap a b ks, by rw [e1, e2, e3]; rfl⟩
  | trans _ _ ih1 ih2 =>
    intro ks e
    obtain ⟨ys, h1, h2⟩ := ih2 ks e
    obtain ⟨zs, h3, h4⟩ := ih1 ys h2
    exact ⟨zs, h3.trans h1, h4⟩
theorem RDs.of_strs {m : Sm} : ∀ (ns : List String), RDs m (ns.map Val.str) (ns.map (V.str ∘ Str.ofString))
  | [] => .nil
  | n :: ns => .cons (.str n) (RDs.of_strs ns)
theorem keys_inr {m : Sm} : ∀ {kvs : List (Key × Val)} {ws : List (L2.Key × V)} {ks : List String}, RKs m kvs ws → kvs.map (·.1) = ks.map Sum.inr → ws.map (·.1) = (ks.map Str.ofString).map Sum.inr
  | [], _, [], .nil, _ => rfl
  | [], _, _ :: _, _, e => by cases e
  | _ :: _, _, [], _, e => by cases e
  | p :: kvs, _, k :: ks, .cons h r, e => by
    simp only [List.map_cons] at e ⊢
    injection e with e1 e2
    rw [keys_inr r e2, h.1, e1]
    rfl
theorem toString_ofString (i : Int) : (toString i : String) = toString i := rfl
theorem bi_ok (hc : X.calm = true) (f : Bi) : CallR X (biV f) (rA X cl (biW f)) := by
  intro pins s σ H xs us Q I r h
  obtain ⟨m, S, vs, hK, rfl, hS, rs, h⟩ := h
  have use : ∀ {f : Value} {r' : List V → Hp → VK → Prop}, CallR X f r' → r' xs m.H (fun z H' => KF X.K H' → Q z H') → wpAny (model X.prog X.w) X.A (call f us) (EP X pins σ Q) X.xe s := fun h1 h2 => CallR.kf h1 pins s σ m.H xs us Q I r h2
  revert h
  unfold biW
  split <;> intro h
  · -- len
    rename_i x
    cases rs with
    | cons r1 r2 =>
    cases r2
    cases r1 with
    | str a => exact use call_len_str ⟨_, rfl, by rw [len_ofString]; exact h.1, fun _ => by rw [len_ofString]; exact stay hS (.int _) h.2⟩
    | @tup p ys ds hq rs => 
      rw [hK] at hq
      exact use call_len_seq ⟨p, ys, rfl, .inr hq, fun _ => by rw [← rs.length]; exact stay hS (.int _) h⟩
    | @ref n p hp =>
      rcases h with ⟨ys, h1, h2⟩ | ⟨kvs, h1, h2⟩
      · obtain ⟨ws, hq, rs⟩ := hS.lst h1 hp
        rw [hK] at hq
        exact use call_len_seq ⟨p, ws, rfl, .inl hq, fun _ => by rw [← rs.length]; exact stay hS (.int _) h2⟩
      · obtain ⟨ws, hq, rs⟩ := hS.dic' h1 hp
        exact use call_lenD ⟨p, ws, rfl, hq, fun _ => by rw [← rs.length]; exact stay hS (.int _) h2⟩
    | _ => exact h.elim
  · -- abs
    cases rs with
    | cons r1 r2 =>
    cases r2; cases r1
    exact use call_abs ⟨_, rfl, fun _ => stay hS (.int _) h⟩
  · -- min
    cases rs with
    | cons r1 r2 =>
    cases r2 with
    | cons r2 r3 =>
    cases r3; cases r1; cases r2
    exact use (call_min2 hc) ⟨_, _, rfl, fun _ => stay hS (.int _) h⟩
  · cases rs with
    | cons r1 r2 =>
    cases r2 with
    | cons r2 r3 =>
    cases r3; cases r1; cases r2
    exact use (call_max2 hc) ⟨_, _, rfl, fun _ => stay hS (.int _) h⟩
  · cases rs with
    | cons r1 r2 =>
    cases r2
    cases r1 with
    | @ref n p hp =>
    obtain ⟨ns, h1, h2, h3⟩ := h
    obtain ⟨ws, hq, rs⟩ := hS.lst h1 hp
    rw [hK] at hq
    have e := rs.ints
    subst e
    exact use (cr_min hc) ⟨p, ns, rfl, hq, List.length_pos_iff.mpr h2, fun k h4 h5 _ => stay hS (.int _) (h3 k h4 h5)⟩
  · cases rs with
    | cons r1 r2 =>
    cases r2
    cases r1 with
    | @ref n p hp =>
    obtain ⟨ns, h1, h2, h3⟩ := h
    obtain ⟨ws, hq, rs⟩ := hS.lst h1 hp
    rw [hK] at hq
    have e := rs.ints
    subst e
    exact use (cr_max hc) ⟨p, ns, rfl, hq, List.length_pos_iff.mpr h2, fun k h4 h5 _ => stay hS (.int _) (h3 k h4 h5)⟩
  · cases rs with
    | cons r1 r2 =>
    cases r2; cases r1
    exact use call_int1 (.inl ⟨_, rfl, fun _ => stay hS (.int _) h⟩)
  · cases rs with
    | cons r1 r2 =>
    cases r2; cases r1
    exact use call_int1 (.inr ⟨_, rfl, fun _ => stay hS (.int _) h⟩)
  · cases rs with
    | cons r1 r2 =>
    cases r2; cases r1
    obtain ⟨n, h1, h2, h3⟩ := h
    exact use call_int_str ⟨_, n, rfl, h1, by rw [len_ofString]; exact h2, fun _ => stay hS (.int _) h3⟩
  · cases rs with
    | cons r1 r2 =>
    cases r2; cases r1
    exact use call_str_int ⟨_, rfl, h.1, fun _ => stay hS (.str _) h.2⟩
  · cases rs with
    | cons r1 r2 =>
    cases r2; cases r1
    exact use SkE.call_str_str ⟨_, rfl, fun _ => stay hS (.str _) h⟩
  · cases rs with
    | cons r1 r2 =>
    cases r2
    cases r1 with
    | @tup p ys ds hq rs =>
    rw [hK] at hq
    exact use call_list_of ⟨p, ys, rfl, .inr hq, fun l hl kf => mk_lst hS rs hl (hK ▸ kf) h⟩
  · cases rs with
    | cons r1 r2 =>
    cases r2
    cases r1 with
    | @ref n p hp =>
    obtain ⟨ys, h1, h2⟩ := h
    obtain ⟨ws, hq, rs⟩ := hS.lst h1 hp
    rw [hK] at hq
    exact use call_list_of ⟨p, ws, rfl, .inl hq, fun l hl kf => mk_lst hS rs hl (hK ▸ kf) h2⟩
  · cases rs with
    | cons r1 r2 =>
    cases r2
    cases r1 with
    | @tup p ys ds hq rs =>
    rw [hK] at hq
    exact use call_tuple_of ⟨p, ys, rfl, .inr ⟨hq, fun _ => stay hS (.tup (by rw [hK]; exact hq) rs) h⟩⟩
  · cases rs with
    | cons r1 r2 =>
    cases r2
    cases r1 with
    | @ref n p hp =>
    obtain ⟨ys, h1, h2⟩ := h
    obtain ⟨ws, hq, rs⟩ := hS.lst h1 hp
    rw [hK] at hq
    exact use call_tuple_of ⟨p, ws, rfl, .inl ⟨hq, fun l hl kf => mk_tup hS rs hl (hK ▸ kf) h2⟩⟩
  · cases rs with
    | cons r1 r2 =>
    cases r2
    cases r1 with
    | @ref n p hp =>
    obtain ⟨kvs, h1, h2⟩ := h
    obtain ⟨ws, hq, rs⟩ := hS.dic h1 hp
    exact use call_dictD ⟨p, ws, rfl, hq, fun l hl kf => mk_dic hS rs hl (hK ▸ kf) h2⟩
  · cases rs with
    | cons r1 r2 =>
    cases r2
    cases r1 with
    | @ref n p hp =>
    obtain ⟨ns, h1, h2⟩ := h
    obtain ⟨ws, hq, rs⟩ := hS.lst h1 hp
    rw [hK] at hq
    have e := rs.ints
    subst e
    exact use (cr_sum hc) ⟨p, ns, rfl, hq, fun _ => stay hS (.int _) h2⟩
  · cases rs with
    | cons r1 r2 =>
    cases r2
    cases r1 with
    | @ref n p hp =>
    obtain ⟨bs, h1, h2⟩ := h
    obtain ⟨ws, hq, rs⟩ := hS.lst h1 hp
    rw [hK] at hq
    have e := rs.bls
    subst e
    exact use (cr_all hc) ⟨p, bs, rfl, hq, fun _ => stay hS (.bl _) h2⟩
  · cases rs with
    | cons r1 r2 =>
    cases r2
    cases r1 with
    | @ref n p hp =>
    obtain ⟨bs, h1, h2⟩ := h
    obtain ⟨ws, hq, rs⟩ := hS.lst h1 hp
    rw [hK] at hq
    have e := rs.bls
    subst e
    exact use (cr_any hc) ⟨p, bs, rfl, hq, fun _ => stay hS (.bl _) h2⟩
  · cases rs with
    | cons r1 r2 =>
    cases r2
    cases r1 with
    | @ref n p hp =>
    rcases h with ⟨ns, h1, h2⟩ | ⟨kvs, ks, h1, h3, h4, h2⟩
    · obtain ⟨ws, hq, rs⟩ := hS.lst h1 hp
      rw [hK] at hq
      have e := rs.ints
      subst e
      exact use cr_sortedI ⟨p, ns, rfl, hq, fun ns' l hp1 hp2 hl kf => mk_lst hS (RDs.of_ints ns') hl (hK ▸ kf) (h2 ns' hp1 hp2)⟩
    · obtain ⟨ws, hq, rs⟩ := hS.dic h1 hp
      refine use (call_sortedD hc) ⟨p, ws, ks.map Str.ofString, rfl, hq, keys_inr rs h3, by rw [List.length_map]; exact h4, fun ys l hp1 _ hl kf => ?_⟩
      obtain ⟨ks', e1, e2⟩ := perm_map hp1 ks rfl
      subst e2
      rw [List.map_map] at kf ⊢
      exact mk_lst hS (RDs.of_strs ks') hl (hK ▸ kf) (h2 ks' e1)
  · exact h.elim
end
end Mi

set_option maxHeartbeats 2000000
namespace Mi
open PySem PySem.Spec L2 PyProof.Rows
section
variable {X : Cx} {cl : Cl}
theorem seqIx_eq {n : Nat} {i : Int} {j : Nat} (h : Mi.ixN n i = some j) : seqIndex? i n = some j ∧ j < n ∧ -(n : Int) ≤ i ∧ i < n := ixN_seq (by rw [← ixN_eq]; exact h)
def rM (X : Cx) (cl : Cl) (r : Val → List Val → Hm → Post → Prop) : V → List V → Hp → VK → Prop := fun x xs H Q => ∃ m S v vs, m.K = X.K ∧ m.H = H ∧ SH cl m S ∧ RD m v x ∧ RDs m vs xs ∧ r v vs S (liftQ cl m Q)
/-- the type, the name and the built-in of a method -/
def bmI : Bm → String × String × String
  | .append => ("list", "append", "list.append")
  | .extend => ("list", "extend", "list.extend")
  | .pop => ("list", "pop", "list.pop")
  | .insert => ("list", "insert", "list.insert")
  | .reverse => ("list", "reverse", "list.reverse")
  | .count => ("list", "count", "list.count")
  | .index => ("list", "index", "list.index")
  | .clear => ("list", "clear", "list.clear")
  | .dclear => ("dict", "clear", "dict.clear")
  | .get => ("dict", "get", "dict.get")
  | .setdefault => ("dict", "setdefault", "dict.setdefault")
  | .update => ("dict", "update", "dict.update")
  | .startswith => ("str", "startswith", "str.startswith")
  | .split => ("str", "split", "str.split")
  | .join => ("str", "join", "str.join")
  | .isupper => ("str", "isupper", "str.isupper")
  | .upper => ("str", "upper", "str.upper")
  | .replace => ("str", "replace", "str.replace")
theorem strs_rd {m : Sm} : ∀ (ys : List String), RDs m (ys.map Val.str) ((ys.map Str.ofString).map V.str)
  | [] => .nil
  | y :: ys => .cons (.str y) (strs_rd ys)
theorem rd_strs {m : Sm} : ∀ {ys : List String} {xs : List V}, RDs m (ys.map Val.str) xs → xs = (ys.map Str.ofString).map V.str
  | [], _, h => by cases h; rfl
  | y :: ys, _, h => by
    cases h with
    | cons h hs =>
      cases h
      rw [rd_strs hs]
      rfl
def rCountM (K : PySem.W.Frag) : V → List V → Hp → VK → Prop := fun x xs H Q => ∃ (a : Addr) (ys : List V) (y : V), x = V.ref a ∧ xs = [y] ∧ SqL K H a ys ∧ flatV y = true ∧ ys.all flatV = true ∧ Q (.int (ys.countP fun z => eqV z y : Nat)) H
theorem countU {x : V} : ∀ {xs : List V} {us : List Value}, Vals xs us → xs.all flatV = true → us.countP (eqU x) = xs.countP fun z => eqV z x
  | _, _, .nil, _ => rfl
  | y :: xs, u :: us, .cons r t, f => by
    rw [List.all_cons, Bool.and_eq_true] at f
    rw [List.countP_cons, List.countP_cons, eqU_of r f.1, countU t f.2]
theorem mt_countM : MtR X "list.count" (rCountM X.K) := by
  intro pins s σ H x xs v us Q I rx rxs h
  obtain ⟨a, ys, y, rfl, rfl, hs, fy, fys, q⟩ := h
  cases rx
  cases rxs with
  | cons ry rt =>
    rename_i uy ut
    cases rt
    obtain ⟨its, rv, ⟨⟨cls, dd, data, sl⟩, n, ho, hc, hdn, hd⟩, hlen⟩ := I.list hs
    simp only at hc hd
    subst hc hd
    refine call_meets PySem.F.slot_list_count ⟨_, ho, rfl⟩ PySem.F.entry_list_count (PySem.F.args_list_count_2 _ _)
      (SeqAt.list_countAt a its.toArray n dd sl uy (eqU y)) ⟨ho, fun u' hu' => mem_eqAt ry fy rv fys u' (by simpa using hu'), ?_⟩
    have e : its.toArray.toList.countP (eqU y) = ys.countP fun z => eqV z y := countU rv fys
    rw [e]
    exact ⟨.int _, H, I.tok _, ⟨_, rfl⟩, q⟩
theorem countM {m : Sm} {y : Val} {x : V} (r1 : RD m y x) (h : flat y = true) : ∀ {ds : List Val} {xs : List V}, RDs m ds xs → ds.all flat = true → (xs.countP fun z => eqV z x) = ds.countP fun z => feq z y
  | _, _, .nil, _ => rfl
  | d :: ds, z :: xs, .cons r t, f => by
    rw [List.all_cons, Bool.and_eq_true] at f
    rw [List.countP_cons, List.countP_cons, feq_rd r r1 f.1 h, countM r1 h t f.2]
theorem keys_at {h : Heap} : ∀ (prs : List (L2.Key × Value)) (ps : List Addr), prs.length = ps.length → (∀ (j : Nat) (q : L2.Key × Value), prs[j]? = some q → ∃ (b : Addr) (u : Value), ps[j]? = some b ∧ IsTup h b #[u, q.2] ∧ keyIs q.1 u = true) →
    ∃ ks : List Value, ks.length = prs.length ∧ ∀ (j : Nat) (q : L2.Key × Value), prs[j]? = some q → ∃ u, ks[j]? = some u ∧ keyIs q.1 u = true ∧ ∃ b, ps[j]? = some b ∧ IsTup h b #[u, q.2]
  | [], _, _, _ => ⟨[], rfl, fun j q e => by simp at e⟩
  | q0 :: prs, [], hl, _ => by simp at hl
  | q0 :: prs, p :: ps, hl, hpr => by
    obtain ⟨b, u, e1, e2, e3⟩ := hpr 0 q0 rfl
    have e1 : p = b := Option.some.inj e1
    subst e1
    obtain ⟨ks, k1, k2⟩ := keys_at prs ps (by simpa using hl) fun j q e => by
      obtain ⟨b', u', f1, f2, f3⟩ := hpr (j + 1) q (by simpa using e)
      exact ⟨b', u', by simpa using f1, f2, f3⟩
    refine ⟨u :: ks, by simp [k1], fun j q e => ?_⟩
    cases j with
    | zero =>
      have e : q0 = q := Option.some.inj e
      subst e
      exact ⟨u, rfl, e3, p, rfl, e2⟩
    | succ j =>
      obtain ⟨u', g1, g2, b', g3, g4⟩ := k2 j q (by simpa using e)
      exact ⟨u', by simpa using g1, g2, b', by simpa using g3, g4⟩
/-- d.update(l) of a list of pairs -/
theorem d_upd {pins : List (Addr × Obj)} {σ : L2.St} {H : Hp} {s : Shared} {a l : Addr} {kvs : List (L2.Key × V)} {ps : List Addr} {more : List (L2.Key × V)} {Q : Value → Shared → Prop} (hc : X.calm = true) (I : Inv X pins σ H s) (e : H a = some (.dK kvs)) (hq : SqL X.K H l (ps.map V.ref)) (hp : Paired (fun p (kv : L2.Key × V) => SqT X.K H p [L2.kV kv.1, kv.2]) ps more) (hn : kvs.length + more.length ≤ sizeLine)
    (ha : a ≠ l) (hap : a ∉ ps) (h : ∀ s', Inv X pins σ (upd H a (.dK (mergeK kvs more))) s' → Q .none s') :
    wpAny (model X.prog X.w) X.A (call (.builtin "dict.update") [.ref a, .ref l]) Q X.xe s := by
  obtain ⟨z, hd, vs, rel, dd⟩ := dk_of I.hok e
  obtain ⟨its, rv, pl, hz⟩ := I.list hq
  have ei := refs_at rv
  subst ei
  obtain ⟨prs, rel2, hl, hpr⟩ := pairs_of I hp
  obtain ⟨o, n, ho, hcl, hdc, hdt⟩ := pl
  obtain ⟨ks, hks⟩ := keys_at prs ps hl hpr
  obtain ⟨hk1, hk2⟩ := hks
  have zl : (ks.zip (prs.map (·.2))).length = prs.length := by simp [hk1]
  have zg : ∀ (j : Nat) (k v : Value), (ks.zip (prs.map (·.2)))[j]? = some (k, v) → ∃ q, prs[j]? = some q ∧ q.2 = v ∧ ks[j]? = some k := fun j k v e => by
    have hj := (List.getElem?_eq_some_iff.mp e).1
    rw [zl] at hj
    rw [List.getElem?_zip_eq_some] at e
    obtain ⟨e1, e2⟩ := e
    rw [List.getElem?_map] at e2
    obtain ⟨q, e3, e4⟩ := Option.map_eq_some_iff.mp e2
    exact ⟨q, e3, e4, e1⟩
  refine PySem.call_update_pairs (knd := mixKind X.prog X.w) (kvs := prs) (acc := vs) (PairArg.list l (ps.map Value.ref).toArray (fun j => (ps[j]?).getD 0) (ks.zip (prs.map (·.2)))) (I.ok.hd hc) ⟨⟨o, n, ho, hcl, hdc, hdt⟩, by simp [hk1, hl], fun j k v hj => ?_⟩ ?_ ⟨by rw [zl], fun i key v hr => ?_⟩ dd (by rw [zl, ← rel.length, ← rel2.length]; exact hn) fun h' tk hD kp => ?_
  · obtain ⟨q, e1, e2, e3⟩ := zg j k v hj
    obtain ⟨u, f1, f2, b, f3, f4⟩ := hk2 j q e1
    rw [e3] at f1
    cases f1
    refine ⟨by simp [f3], ?_⟩
    show PairAt _ ((ps[j]?).getD 0) _ _
    rw [f3]
    show PairAt _ b _ _
    obtain ⟨o', ho', hc', n', hd'⟩ := f4
    subst e2
    exact .inl ⟨o', ho', hc', n', hd'⟩
  · intro hm
    rcases List.mem_cons.mp hm with hm | hm
    · exact ha hm
    · obtain ⟨j, hj, ej⟩ := List.mem_map.mp hm
      have hj := List.mem_range.mp hj
      rw [zl] at hj
      obtain ⟨b, hb⟩ : ∃ b, ps[j]? = some b := ⟨_, List.getElem?_eq_getElem (by omega)⟩
      rw [hb] at ej
      exact hap (by rw [← ej]; exact List.mem_of_getElem? hb)
  · obtain ⟨q, e1, e2, e3⟩ := zg i key v hr
    obtain ⟨u, f1, f2, _⟩ := hk2 i q e1
    rw [e3] at f1
    cases f1
    exact ⟨q.1, by rw [e1, ← e2], f2⟩
  · have hlen : (mergeK kvs more).length ≤ sizeLine := Nat.le_trans (length_mergeK more kvs) hn
    have he : ∃ q, h'.get? a = some q := let ⟨q, _, _, hq, _⟩ := hD; ⟨q, hq⟩
    refine h _ (I.write (x := a) (e := a) (by rw [e]; exact True.intro) (.inl rfl) (fun b q hb z => kp b q hb (by simp) z) he (dk_new hlen hd (KV.merge rel2 rel) hD))
theorem RKs.merge {m : Sm} : ∀ {ps : List (Key × Val)} {qs : List (L2.Key × V)} {kvs : List (Key × Val)} {ws : List (L2.Key × V)}, RKs m ps qs → RKs m kvs ws → RKs m (ps.foldl (fun d p => putK d p.1 p.2) kvs) (mergeK ws qs)
  | [], _, _, _, .nil, r => r
  | p :: ps, _, _, _, .cons (b := q) h t, r => by
    obtain ⟨h1, h2⟩ := h
    show RKs m (List.foldl _ (putK _ p.1 p.2) ps) (mergeK (L2.putK _ q.1 q.2) _)
    refine RKs.merge t ?_
    rw [h1]
    exact r.put p.1 h2
theorem paired_mem {α β : Type} {F : α → β → Prop} : ∀ {xs : List α} {ys : List β} {a : α}, Paired F xs ys → a ∈ xs → ∃ b, F a b
  | _, _, _, .nil, h => by cases h
  | x :: xs, y :: ys, a, .cons h t, e => by
    rcases List.mem_cons.mp e with rfl | e
    · exact ⟨y, h⟩
    · exact paired_mem t e
theorem pairs_rd {m : Sm} : ∀ {ps : List (Key × Val)} {xs : List V}, RDs m (ps.map fun p => Val.tup [p.1.val, p.2]) xs → ∃ (bs : List Addr) (qs : List (L2.Key × V)), xs = bs.map V.ref ∧ Paired (fun p (kv : L2.Key × V) => SqT m.K m.H p [L2.kV kv.1, kv.2]) bs qs ∧ RKs m ps qs
  | [], _, .nil => ⟨[], [], rfl, .nil, .nil⟩
  | p :: ps, _, .cons h t => by
    obtain ⟨bs, qs, rfl, h1, h2⟩ := pairs_rd t
    cases h with
    | @tup a xs _ hq rs =>
    cases rs with
    | cons r1 r2 =>
    cases r2 with
    | cons r2 r3 =>
    cases r3
    have ek := key_rd r1 (q := p.1) (by cases p.1 <;> rfl)
    subst ek
    exact ⟨a :: bs, (kk p.1, _) :: qs, rfl, .cons hq h1, .cons ⟨rfl, r2⟩ h2⟩
theorem mt_ok (hu : X.A.units + 1 < cLine) (b : Bm) (hb : b = .update → X.calm = true) : MtR X (bmI b).2.2 (rM X cl (bmW b)) := by
  intro pins s σ H x xs v us Q I rx rxs h
  obtain ⟨m, S, o, vs, hK, rfl, hS, ro, rs, h⟩ := h
  have use : ∀ {id : String} {r' : V → List V → Hp → VK → Prop}, MtR X id r' → r' x xs m.H (fun z H' => KF X.K H' → Q z H') → wpAny (model X.prog X.w) X.A (call (.builtin id) (v :: us)) (EP X pins σ Q) X.xe s := fun h1 h2 => MtR.kf h1 pins s σ m.H x xs v us Q I rx rxs h2
  revert h
  unfold bmW
  split <;> intro h
  · -- append
    obtain ⟨ys, h1, h2, h3⟩ := h
    cases ro with
    | @ref n p hp =>
    cases rs with
    | cons r1 r2 =>
    cases r2
    obtain ⟨ws, hq, rs⟩ := hS.lst' h1 hp
    exact use mt_append ⟨p, ws, _, rfl, rfl, hq, by rw [← rs.length]; exact h2, fun _ => wr_lst hS hp hq (rs.append (.cons r1 .nil)) .non h3⟩
  · -- extend
    obtain ⟨ys, zs, h1, h2, h3, h4⟩ := h
    cases ro with
    | @ref n p hp =>
    cases rs with
    | cons r1 r2 =>
    cases r2
    cases r1 with
    | @ref k q hq' =>
    obtain ⟨ws, hq, rs⟩ := hS.lst' h1 hp
    obtain ⟨wz, hz, rz⟩ := hS.lst' h2 hq'
    exact use mt_extend ⟨p, q, ws, wz, rfl, rfl, hq, hz, by rw [← rs.length, ← rz.length]; exact h3, fun _ => wr_lst hS hp hq (rs.append rz) .non h4⟩
  · -- pop
    obtain ⟨ys, y, h1, h2, h3⟩ := h
    cases ro with
    | @ref n p hp =>
    cases rs
    obtain ⟨ws, hq, rs⟩ := hS.lst' h1 hp
    obtain ⟨z, hz, rz⟩ := rs.get h2
    exact use mt_pop ⟨p, ws, z, rfl, rfl, hq, by rw [← rs.length]; exact hz, fun _ => wr_lst hS hp hq rs.dropLast rz h3⟩
  · obtain ⟨ys, k, y, h1, h2, h3, h4, h5⟩ := h
    cases ro with
    | @ref n p hp =>
    cases rs with
    | cons r1 r2 =>
    cases r2; cases r1
    obtain ⟨ws, hq, rs⟩ := hS.lst' h1 hp
    obtain ⟨z, hz, rz⟩ := rs.get h4
    obtain ⟨q1, q2, q3, q4⟩ := seqIx_eq h2
    have hn := line63
    exact use mt_popAt ⟨p, ws, _, k, z, rfl, rfl, hq, by omega, by omega, by rw [← rs.length]; exact q1, hz, fun _ => wr_lst hS hp hq (rs.erase k) rz h5⟩
  · -- insert
    obtain ⟨ys, h1, h2, h3, h4, h5⟩ := h
    cases ro with
    | @ref n p hp =>
    cases rs with
    | cons r1 r2 =>
    cases r2 with
    | cons r2 r3 =>
    cases r3; cases r1
    obtain ⟨ws, hq, rs⟩ := hS.lst' h1 hp
    exact use mt_insert ⟨p, ws, _, _, rfl, rfl, hq, by rw [← rs.length]; exact h2, h3, h4, fun _ => wr_lst hS hp hq (((rs.take _).append (.cons r2 .nil)).append (rs.drop _)) .non h5⟩
  · -- reverse
    obtain ⟨ys, h1, h2⟩ := h
    cases ro with
    | @ref n p hp =>
    cases rs
    obtain ⟨ws, hq, rs⟩ := hS.lst' h1 hp
    exact use mt_reverse ⟨p, ws, rfl, rfl, hq, fun _ => wr_lst hS hp hq rs.rev .non h2⟩
  · -- index
    obtain ⟨ys, j, z, h1, h2, h3, h4, h5, h6, h7⟩ := h
    cases ro with
    | @ref n p hp =>
    cases rs with
    | cons r1 r2 =>
    cases r2
    obtain ⟨ws, hq, rs⟩ := hS.lst h1 hp
    rw [hK] at hq
    obtain ⟨z', hz, rz⟩ := rs.get h4
    have fl : ∀ (k : Nat) w, ys[k]? = some w → flat w = true := fun k w e => List.all_eq_true.mp h3 w (List.mem_of_getElem? e)
    refine use mt_index ⟨p, ws, _, j, z', rfl, rfl, hq, flat_rd r1 h2, flats_rd rs h3, hz, by rw [feq_rd rz r1 (fl j z h4) h2]; exact h5, fun k w hk hw => ?_, fun _ => stay hS (.int _) h7⟩
    obtain ⟨d, hd, rd⟩ := rs.getV hw
    rw [feq_rd rd r1 (fl k d hd) h2]
    exact h6 k d hk hd
  · -- count
    obtain ⟨ys, h1, h2, h3, h4⟩ := h
    cases ro with
    | @ref n p hp =>
    cases rs with
    | cons r1 r2 =>
    cases r2
    obtain ⟨ws, hq, rs⟩ := hS.lst h1 hp
    rw [hK] at hq
    refine use mt_countM ⟨p, ws, _, rfl, rfl, hq, flat_rd r1 h2, flats_rd rs h3, fun _ => ?_⟩
    rw [countM r1 h2 rs h3]
    exact stay hS (.int _) h4
  · -- dclear
    obtain ⟨kvs, h1, h2⟩ := h
    cases ro with
    | @ref n p hp =>
    cases rs
    cases rxs
    obtain ⟨ws, hq, rs⟩ := hS.dic' h1 hp
    obtain rfl : v = Value.ref p := rx
    exact d_clear I hq fun s' I' => ⟨.non, _, I', rfl, wr_dic hS hp hq .nil .non h2⟩
  · -- get
    obtain ⟨kvs, q, h1, h2, h3⟩ := h
    cases ro with
    | @ref n p hp =>
    cases rs with
    | cons r1 r2 =>
    cases r2
    obtain ⟨ws, hq, rs⟩ := hS.dic h1 hp
    have ek := key_rd r1 h2
    subst ek
    obtain rfl : v = Value.ref p := rx
    cases rxs with
    | cons t1 t2 =>
    cases t2
    refine d_get1 (A := X.A) hu I (.inl ⟨ws, _, hq, rfl, rfl⟩) t1 fun w' s' I' rw' => ?_
    rcases rs.look q with ⟨v', x', e1, e2, r⟩ | ⟨e1, e2⟩
    · rw [e2] at rw'; rw [e1] at h3
      exact ⟨x', m.H, I', rw', stay hS r h3⟩
    · rw [e2] at rw'; rw [e1] at h3
      exact ⟨.non, m.H, I', rw', stay hS .non h3⟩
  · obtain ⟨kvs, q, h1, h2, h3⟩ := h
    cases ro with
    | @ref n p hp =>
    cases rs with
    | cons r1 r2 =>
    cases r2 with
    | cons r2 r3 =>
    cases r3
    obtain ⟨ws, hq, rs⟩ := hS.dic h1 hp
    have ek := key_rd r1 h2
    subst ek
    obtain rfl : v = Value.ref p := rx
    cases rxs with
    | cons t1 t2 =>
    cases t2 with
    | cons t2 t3 =>
    cases t3
    refine d_get2 (A := X.A) hu I (.inl ⟨ws, _, hq, rfl, rfl⟩) t1 t2 fun w' s' I' rw' => ?_
    rcases rs.look q with ⟨v', x', e1, e2, r⟩ | ⟨e1, e2⟩
    · rw [e2] at rw'; rw [e1] at h3
      exact ⟨x', m.H, I', rw', stay hS r h3⟩
    · rw [e2] at rw'; rw [e1] at h3
      exact ⟨_, m.H, I', rw', stay hS r2 h3⟩
  · -- setdefault
    obtain ⟨kvs, q, h1, h2, h3, h4, h5⟩ := h
    cases ro with
    | @ref n p hp =>
    cases rs with
    | cons r1 r2 =>
    cases r2 with
    | cons r2 r3 =>
    cases r3
    obtain ⟨ws, hq, rs⟩ := hS.dic' h1 hp
    have ek := key_rd r1 h2
    subst ek
    obtain rfl : v = Value.ref p := rx
    cases rxs with
    | cons t1 t2 =>
    cases t2 with
    | cons t2 t3 =>
    cases t3
    refine d_setd (A := X.A) I hq t1 t2 (by rw [← rs.length]; exact h3) (fun z hz w' s' I' rw' => ?_) (fun hn w' s' I' rw' => ?_)
    · rcases rs.look q with ⟨v', x', e1, e2, r⟩ | ⟨e1, e2⟩
      · rw [hz] at e2; cases e2
        exact ⟨z, m.H, I', rw', stay hS r (h4 v' e1)⟩
      · rw [hz] at e2; cases e2
    · rcases rs.look q with ⟨v', x', e1, e2, r⟩ | ⟨e1, e2⟩
      · rw [hn] at e2; cases e2
      · exact ⟨_, _, I', rw', wr_dic hS hp hq (rs.put q r2) r2 (h5 e1)⟩
  · -- startswith
    cases ro
    cases rs with
    | cons r1 r2 =>
    cases r2; cases r1
    exact use mt_startswith ⟨_, _, rfl, rfl, fun _ => stay hS (.bl _) h⟩
  · -- split
    obtain ⟨ys, h1, h2, h3, h4⟩ := h
    cases ro
    cases rs with
    | cons r1 r2 =>
    cases r2; cases r1
    refine use mt_split ⟨_, _, rfl, rfl, by rw [len_ofString]; exact beq_eq_false_iff_ne.mpr h2, by rw [len_ofString]; exact h3, fun p hp kf => ?_⟩
    rw [h1] at kf ⊢
    exact mk_lst hS (strs_rd ys) hp (hK ▸ kf) h4
  · obtain ⟨ys, h1, h3, h4⟩ := h
    cases ro
    cases rs
    refine use mt_words ⟨_, rfl, rfl, by rw [len_ofString]; exact h3, fun p hp kf => ?_⟩
    rw [h1] at kf ⊢
    exact mk_lst hS (strs_rd ys) hp (hK ▸ kf) h4
  · -- join
    obtain ⟨ys, y, h1, h2, h3, h4⟩ := h
    cases ro
    cases rs with
    | cons r1 r2 =>
    cases r2
    cases r1 with
    | @ref k q hq' =>
    obtain ⟨ws, hq, rs⟩ := hS.lst h1 hq'
    rw [hK] at hq
    have e := rd_strs rs
    subst e
    refine use mt_join ⟨_, q, ys.map Str.ofString, rfl, rfl, .inl hq, ?_, fun _ => ?_⟩
    · rw [List.length_map, len_ofString, List.map_map]
      have e : ((fun x : Str => x.length) ∘ Str.ofString) = String.length := by funext z; exact len_ofString z
      rw [e]
      exact h3
    · rw [h2]
      exact stay hS (.str _) h4
  · cases ro; cases rs
    exact use mt_isupper ⟨_, rfl, rfl, trivial, fun _ => stay hS (.bl _) h⟩
  · obtain ⟨y, h1, h2, h3⟩ := h
    cases ro; cases rs
    refine use mt_upper ⟨_, rfl, rfl, by rw [len_ofString]; exact h2, fun _ => ?_⟩
    rw [h1]
    exact stay hS (.str _) h3
  · -- update
    obtain ⟨kvs, ps, h1, h2, h3, h4⟩ := h
    cases ro with
    | @ref n p hp =>
    cases rs with
    | cons r1 r2 =>
    cases r2
    cases r1 with
    | @ref k q hq' =>
    obtain ⟨ws, hq, rs⟩ := hS.dic' h1 hp
    obtain ⟨xs', hl, rl⟩ := hS.lst h2 hq'
    obtain rfl : v = Value.ref p := rx
    cases rxs with
    | cons t1 t2 =>
    cases t2
    cases t1
    obtain ⟨bs, qs, rfl, e2, e3⟩ := pairs_rd rl
    have lw := rs.length
    have lq := e3.length
    refine d_upd (hb rfl) I hq (hK ▸ hl) (hK ▸ e2) (by omega) ?_ ?_ fun s' I' => ⟨.non, _, I', rfl, wr_dic hS hp hq (RKs.merge e3 rs) .non h4⟩
    · rintro rfl
      rcases hl with (hl | ⟨_, hl⟩) | ⟨_, _, _, hl, _⟩
      · rw [hq] at hl; cases hl
      · rw [hq] at hl; cases hl
      · rw [hS.kf _ _ hl] at hq; cases hq
    · intro z
      obtain ⟨qq, e4⟩ := paired_mem e2 z
      rcases e4 with (e4 | ⟨_, e4⟩) | ⟨_, _, _, e4, _⟩
      · rw [hq] at e4; cases e4
      · rw [hq] at e4; cases e4
      · rw [hS.kf _ _ e4] at hq; cases hq
  · exact h.elim
/-- o[i] = v -/
theorem set_ok (hu : X.A.units + 1 < cLine) : PSet X (fun o i v H Q => ∃ m S a b c, m.K = X.K ∧ m.H = H ∧ SH cl m S ∧ RD m a o ∧ RD m b i ∧ RD m c v ∧ setW a b c S fun S' => ∀ m', Ev m m' → SH cl m' S' → Q m'.H) := by
  intro pins s σ H o i v ov iv u Q I ro ri rv h
  obtain ⟨m, S, a, b, c, hK, rfl, hS, ra, rb, rc, h⟩ := h
  revert h
  unfold setW
  split <;> intro h
  · cases ra with
    | @ref n p hp =>
    rcases h with ⟨xs, k, j, h1, rfl, h2, h3⟩ | ⟨kvs, q, h1, h2, h3, h4⟩
    · cases rb
      obtain ⟨ws, hq, rs⟩ := hS.lst' h1 hp
      refine set_list pins s σ m.H _ _ _ ov iv u Q I ro ri rv ⟨p, ws, k, j, rfl, rfl, hq, by rw [← rs.length, ← ixN_eq]; exact h2, ?_⟩
      have e : Ev m { m with H := L2.upd m.H p (.lst (ws.set j v)) } := Ev.write hp hq
      exact h3 { m with H := L2.upd m.H p (.lst (ws.set j v)) } e (hS.write hp hq ⟨_, upd_same, (rs.set rc j).up (e.up hS)⟩)
    · obtain ⟨ws, hq, rs⟩ := hS.dic' h1 hp
      have ek := key_rd rb h2
      subst ek
      refine set_dict hu pins s σ m.H _ _ _ ov iv u Q I ro ri rv ⟨p, _, rfl, .inl ⟨ws, _, hq, rfl, by rw [← rs.length]; exact h3, rfl⟩, ?_⟩
      have e : Ev m { m with H := L2.upd m.H p (.dK (L2.putK ws (kk q) v)) } := Ev.write hp hq
      exact h4 { m with H := L2.upd m.H p (.dK (L2.putK ws (kk q) v)) } e (hS.write hp hq ⟨_, upd_same, (rs.put q rc).up (e.up hS)⟩)
  · exact h.elim
end
end Mi

set_option maxHeartbeats 4000000
/-! what a call within a comprehension lets out goes on to the block around -/
namespace Mi
open PySem PySem.Spec L2 PyProof.Rows
/-- in the air of X, the frame's own address told by the environment -/
def XF (X : Cx) (W : WX) (u : Value) (t : Shared) : Prop :=
  ∃ (x : Addr) (G : Heap) (sG : Shared) (ps : List (Addr × Obj)) (ρ : L2.St) (K : Hp) (c : Value) (d : Option Addr) (F : Addr), u = .ref x ∧ Inv X ps ρ K sG ∧
    (∀ b o, sG.heap.get? b = some o → b ∉ frs X.stack → G.get? b = some o) ∧ sG.heap.UpToSlots t.heap ∧ X.env.frame = some F ∧ Sky G X.stack x (L2N.Zn c d) F t.heap ∧ K x = none ∧ t.os = sG.os ∧ AllBare t.gens ∧ W c d ρ K
def TkF (X : Cx) (W : WX) : Prop := ∀ u t, XF X W u t → X.xe u t
/-- the frame that X runs in -/
def InFr (X : Cx) : Prop := ∃ (e0 : PySem.Env) (out : List PySem.Env) (F : Addr), X.stack = e0 :: out ∧ e0.frame = some F ∧ X.env.frame = some F
theorem tkF_of {X : Cx} {W : WX} (hf : X.env.frame = some X.env.locals) (tk : L2N.Takes X W) : TkF X W := by
  rintro u t ⟨x, G, sG, ps, ρ, K, c, d, F, rfl, I, nb, up, fr, sky, nx, os, ag, w⟩
  rw [hf] at fr
  obtain rfl := Option.some.inj fr
  exact tk _ _ ⟨x, G, sG, ps, ρ, K, c, d, rfl, I, nb, up, sky, nx, os, ag, w⟩
theorem inFr_of {X : Cx} (hs : X.stack = X.env :: X.outer) (hf : X.env.frame = some X.env.locals) : InFr X := ⟨X.env, X.outer, _, hs, hf, hf⟩
theorem tkF_none {X : Cx} : TkF X (fun _ _ _ _ => False) := fun _ _ ⟨_, _, _, _, _, _, _, _, _, _, _, _, _, _, _, _, _, _, w⟩ => w.elim
/-- what a call lets out stands in the air of X -/
theorem xf_call {X : Cx} {W : WX} {ps : List (Addr × Obj)} {σ : L2.St} {K : Hp} {s t : Shared} {E : XK} {u : Value} (fr : InFr X) (I : Inv X ps σ K s) (hW : ∀ c d K', E c d K' → W c d σ K') (h : L2N.CX X.prog X.w X.stack K s E u t) : XF X W u t := by
  obtain ⟨_, _, F, _, _, hF⟩ := fr
  have xe := L2N.XE.of_call I hW h
  obtain ⟨a, B, _, c', d', rfl, fl, _⟩ := h
  obtain ⟨oe, vs, T, oT, ts, q1, q2, q3, q4, q5, q6, q7, q8, q9⟩ := fl.2.2.2
  obtain ⟨x, G, sG, ps', ρ, K', c, d, e, J, nb, up, sky, rest⟩ := xe
  cases e
  refine ⟨a, G, sG, ps', ρ, K', c, d, F, rfl, J, nb, up, hF, ?_, rest⟩
  rcases sky with ⟨_, _, _, o1, v1, r1, _, r3, r4⟩ | z | ⟨_, _, _, o1, v1, T1, p1, t1, r1, _, r3, r4, _, _, r5, r6, r7⟩
  · rw [q1] at r1
    cases r1
    rw [q3] at r3
    cases r3
    rw [q4] at r4
    cases r4
  · exact .inr (.inl z)
  · rw [q1] at r1
    cases r1
    rw [q3] at r3
    cases r3
    rw [q4] at r4
    cases r4
    rw [q7] at r5
    cases r5
    rw [q8] at r6
    cases r6
    rw [q9] at r7
    exact absurd (Option.some.inj r7) (by simp [rawInt])
theorem passF {X : Cx} {W : WX} (fr : InFr X) (tk : TkF X W) (σ : L2.St) : PassesAt (L2N.CX X.prog X.w) X σ (WE W σ) := fun _ _ _ u t I h => tk u t (xf_call fr I (fun _ _ _ z => z) h)
theorem note_eq {e0 ce : PySem.Env} (u : Value) (h : ce.frame = e0.frame) : noteFrame u ce = noteFrame u e0 := by
  unfold noteFrame PySem.frameOf
  rw [h]
/-- frames' objects that stay as they are, over another ground -/
theorem frames_on {B B' h h' : Heap} : ∀ {l : List PySem.Env}, h.FunFrames B l → (∀ F ∈ frs l, B'.get? F = none ∧ h'.get? F = h.get? F) → h'.FunFrames B' l
  | [], _, _ => trivial
  | e :: l, ff, hh => by
    obtain ⟨k1, ⟨F, o, k2, _, k3, k4⟩, k5⟩ := ff
    have z := hh F (List.mem_filterMap.mpr ⟨e, .head _, k2⟩)
    refine ⟨k1, ⟨F, o, k2, z.1, z.2.trans k3, k4⟩, frames_on k5 fun G hG => ?_⟩
    obtain ⟨e', m, q⟩ := List.mem_filterMap.mp hG
    exact hh G (List.mem_filterMap.mpr ⟨e', .tail _ m, q⟩)
/-- the end of a comprehension's block, the block's own environment kept -/
def blkEnd (M : Model) (A : Around) (E : Value → Shared → Prop) (use : Option (Value → Sem Unit)) (Q : Value → Shared → Prop) (acc : Value) (ce : PySem.Env) (r : Result) (t : Shared) : Prop :=
  match r with
  | .error x => ∃ m, t.heap.Ns ce.locals m ∧ ∀ g, Heap.SameBut ce.locals t.heap g → wpAny M A (passOn "comprehension.variables-let-go" x ce : Sem Value) (fun _ _ => False) E { t with heap := g }
  | .ok f => compPost M A E use Q acc ce.locals (.ok f) t
theorem comp_own {M : Model} {A : Around} {E : Value → Shared → Prop} {s : Shared} {env : PySem.Env} {e : Expr} {scope : Scope} {pos : Pos} {newAcc first : Sem Value} {c : Comprehension} {cs : List Comprehension} {cl : List (Str × Addr)} {use : Option (Value → Sem Unit)} {Q : Value → Shared → Prop}
    (h1 : clausesOf e = c :: cs) (h2 : ∀ x, foldedSetIterable c.iter env x = pure x) (h3 : closureFor scope env = pure cl) (h4 : scope.kind = .function) (h5 : ∀ x ∈ scope.names, x.2 = .local → scope.names.lookup x.1 = some .local)
    (h : wpAny M A first (fun x t1 => wpAny M A (pyIter x) (fun it t2 => wpAny M A newAcc (fun acc t3 => wpAny M A (newFunctionEnv scope env.globals cl [] env.qual none .none (some env)) (fun ce t4 =>
      codeAny M A (.compStart e 0 it acc { ce with scope := relabel scope env }) (blkEnd M A E use Q acc { ce with scope := relabel scope env }) t4) E t3) E t2) E t1) E s) :
    wpAny M A (comprehension e scope env pos newAcc false first use) Q E s := by
  unfold comprehension
  rw [h3, h1]
  have out : ∀ {α : Type} {t : Sem α} {Q1 Q2 : α → Shared → Prop} {s : Shared}, wpAny M A t Q1 E s → (∀ a s', Q1 a s' → Q2 a s') → wpAny M A t Q2 E s := fun w k => wpAny_mono w k fun _ _ z => z
  refine wpAny_bind (out h fun x t1 w1 => ?_)
  refine wpAny_bind (wpAny_standAt (wpAny_bind (wpAny_of_eq (h2 x) (wpAny_bind (wpAny_holding (out w1 fun it t2 w2 => ?_))))))
  refine wpAny_standIf (wpAny_bind (out w2 fun acc t3 w3 => ?_))
  refine wpAny_bind (wpAny_pure (wpAny_bind (out w3 fun ce t4 w4 => ?_)))
  dsimp only
  have own : ∀ y ∈ scope.names.filter (fun y => (y.2 == .local || y.2 == .cell) && y.1 != (".0" : Str)), y.2 = .local → PySem.Env.kindOf { ce with scope := relabel scope env } y.1 = some .local := fun y hy hl => lookup_relabel_local (h5 y (List.mem_filter.mp hy).1 hl)
  have go := @wpAny_comp_letGo
  refine wpAny_holding (wpAny_bind (wpAny_attempt (wpAny_holding (wpAny_run (codeAny_mono w4 fun r t hr => ?_)))))
  cases r with
  | error x =>
    obtain ⟨m, hn, hp⟩ := hr
    have fin := fun (vs : List (Str × NameKind)) hv => wpAny_comp_letGo (M := M) (A := A) (E := E) (cellsOf := fun vs => List.flatMap (fun x => if (x.2 == NameKind.cell) = true then ((ce.cells.lookup x.1).map Value.ref).toList else []) vs) (cenv := { ce with scope := relabel scope env }) h4 (Q := fun _ t' => wpAny M A (passOn "comprehension.variables-let-go" x { ce with scope := relabel scope env } : Sem Value) Q E t') vs t m hv hn fun g _ _ sb => wpAny_mono (hp g sb) (fun _ _ f => f.elim) fun _ _ y => y
    exact wpAny_bind (wpAny_holding (fin _ fun y hy hl => own y (List.mem_reverse.mp hy) hl))
  | ok f =>
    cases use with
    | none =>
      obtain ⟨m, hn, hp⟩ := hr
      exact wpAny_bind (wpAny_holding (wpAny_comp_letGo (cenv := { ce with scope := relabel scope env }) h4 _ t m (fun y hy hl => own y (List.mem_reverse.mp hy) hl) hn fun g _ _ sb => wpAny_pure (hp g sb)))
    | some use =>
      refine wpAny_bind (wpAny_rule (wpAny_bind (wpAny_holding (out hr fun _ t' hr' => ?_))))
      obtain ⟨m, hn, hp⟩ := hr'
      refine wpAny_bind (wpAny_comp_letGo (cenv := { ce with scope := relabel scope env }) h4 _ t' m (fun y hy hl => own y (List.mem_reverse.mp ?_) hl) hn fun g _ _ sb => wpAny_pure (hp g sb))
      rcases List.mem_append.mp hy with z | z
      · exact List.mem_of_mem_drop z
      · exact List.mem_of_mem_take z
end Mi

set_option maxHeartbeats 4000000
namespace Mi
open PySem PySem.Spec L2 PyProof.Rows

/-! ### what the top has left -/
structure Ln (P : Pg) (K : PySem.W.Frag) (mg : Str → Option Value) (cl : Cl) : Prop where
  con : ∀ x v, P.con x = some v → ∃ a u, mg (Str.ofString x) = some u ∧ L2.RelV a u ∧ ∀ m : Sm, m.K = K → RD m v a
  clc : ∀ c C, cl c C → mg (Str.ofString c) = some (.ref C) ∧ Cls K C
  fld : ∀ c C, cl c C → ∀ f ∈ P.flds, NoAttr K C (Str.ofString f)
  has : ∀ c ∈ P.cls, ∃ C, cl c C
  exc : ∀ c ∈ P.excs, ∃ C, mg (Str.ofString c) = some (.ref C) ∧ PySem.W.excIn K C [.type "ValueError", .type "Exception", .type "BaseException", .type "object"] "ValueError.__new__" = true ∧ PySem.W.keepIn K (.ref C) = true ∧ PySem.W.subIn K (.ref C) (.type "BaseException") = some true ∧ PySem.W.typeIn K (.ref C) = some (.type "type")
  bi : ∀ x ∈ ["len", "abs", "min", "max", "int", "str", "list", "tuple", "dict", "sum", "sorted", "all", "any", "range", "enumerate", "zip", "reversed", "isinstance", "bool"], mg (Str.ofString x) = none
/-- .. for isinstance -/
structure LnI (K : PySem.W.Frag) (cl : Cl) : Prop where
  isT : ∀ c C, cl c C → PySem.W.findIn K (.ref C) "__class__" = some (some (.builtin "object.__class__")) ∧ PySem.W.specialIn K (.builtin "object.__class__") "__get__" = some (some (.builtin "getset_descriptor.__get__")) ∧ PySem.W.takesIn K (.builtin "object.__class__") = some true ∧ PySem.W.mroIn K C (.type "object") = some true
  isB : ∀ c C, cl c C → ∀ n ∈ ["int", "bool", "str", "tuple", "list", "dict"], PySem.W.kitOne K (.ref C) (.type n) = some false
  isC : ∀ c C, cl c C → ∀ n ∈ ["NoneType", "int", "bool", "str", "tuple", "list", "dict"], PySem.W.kitOne K (.type n) (.ref C) = some false
  isCC : ∀ c C c' C', cl c C → cl c' C' → PySem.W.kitOne K (.ref C) (.ref C') = some (c == c')
/-- the object of an exception of class c -/
def ExO (P : Pg) (K : PySem.W.Frag) (mg : Str → Option Value) (c : String) (o : Obj) : Prop := c ∈ P.excs ∧ ∃ C, mg (Str.ofString c) = some (.ref C) ∧ L2N.Zn (.ref C) none o ∧ ∃ vs, o.data = .fields vs
/-- what the classes of exceptions say -/
structure LnX (P : Pg) (K : PySem.W.Frag) (mg : Str → Option Value) : Prop where
  ex : ∀ c ∈ P.excs, ∀ C, mg (Str.ofString c) = some (.ref C) → ExcC K C ∧ PySem.W.kitOne K (.ref C) (.type "ValueError") = some (P.sub c "ValueError")
  sb : ∀ c ∈ P.excs, ∀ d ∈ P.excs, ∀ C D, mg (Str.ofString c) = some (.ref C) → mg (Str.ofString d) = some (.ref D) → PySem.W.kitOne K (.ref C) (.ref D) = some (P.sub c d) ∧ PySem.W.subIn K (.ref C) (.ref D) = some (P.sub c d)
  ve : mg (Str.ofString "ValueError") = none
/-- a def's promise where an exception is handled -/
structure FnE (prog : Program) (w : World) (K : PySem.W.Frag) (mg : Str → Option Value) (base : Heap) (f : Addr) (fd : FuncData) (ps : List Str) (sp : Addr × Obj → L2.Sp) : Prop where
  len : ∀ q vs H Q E, sp q vs H Q E → vs.length = ps.length
  run : ∀ (q : Addr × Obj) (A : Around) (outer : List PySem.Env) (s : Shared) (H : Hp) (args : Args) (us : List Value) (vs : List V) (Q : VK) (E : XK), L2H.RoomH 1 A → L2H.Hot1 A q → L2H.PinOk outer H s q → Env0 prog w K mg base A outer s H → BindsTo s fd args (ps.zip us) → Vals vs us → sp q vs H Q E →
    codeAny (model prog w) A (.call (.ref f) args) (CR (L2N.CX prog w) outer prog w H s Q E) s
/-- wishes about exceptions, lifted -/
def liftX (cl : Cl) (mg : Str → Option Value) (m : Sm) (W : Value → Option Addr → Hp → Prop) : XPost := fun c S' => ∀ m' C, Ev m m' → SH cl m' S' → mg (Str.ofString c) = some (.ref C) → W (.ref C) none m'.H
theorem liftX.ev {cl : Cl} {mg : Str → Option Value} {m m1 : Sm} {W : Value → Option Addr → Hp → Prop} (e : Ev m m1) {c : String} {S : Hm} (h : liftX cl mg m W c S) : liftX cl mg m1 W c S :=
  fun m' C e' hS hC => h m' C (e.trans e') hS hC
/-- a def's promise: its body's reading -/
def spF (P : Pg) (cl : Cl) (K : PySem.W.Frag) (mg : Str → Option Value) (k : Nat) (d : FDef) : L2.Sp := fun vs H Q E => ∃ m args S, m.K = K ∧ m.H = H ∧ SH cl m S ∧ RDs m args vs ∧ bodyW P (callW P k) d args S (liftQ cl m Q) (liftX cl mg m E)
def litV : Lit → V
  | .non => .non
  | .bl b => .bl b
  | .int i => .int i
  | .str x => .str (Str.ofString x)
theorem litV_rd {m : Sm} (c : Lit) : RD m c.val (litV c) := by
  cases c with
  | non => exact .non
  | bl b => exact .bl b
  | int i => exact .int i
  | str x => exact .str x
theorem lits_rd {m : Sm} : ∀ cs : List Lit, RDs m (cs.map Lit.val) (cs.map litV)
  | [] => .nil
  | c :: cs => .cons (litV_rd c) (lits_rd cs)
/-- where a def stands -/
structure At (P : Pg) (cl : Cl) (K : PySem.W.Frag) (mg : Str → Option Value) (f : FK) (d : FDef) (a : Addr) (fd : FuncData) (ps : List Str) : Prop where
  nm : match f with
    | .f x => mg (Str.ofString x) = some (.ref a)
    | .m c x => ∀ C, cl c C → Meth K C (Str.ofString x) a ∧ (x = "__init__" → Mk K C a)
  kp : PySem.W.keepIn K (.ref a) = true
  len : ps.length = d.params
  bd : ∀ n, n ≤ d.dflt.length → ∃ ds : List Value, Vals ((d.dflt.drop n).map litV) ds ∧ Binds K fd ps ds
/-- the promise of a def that is called with the handled exception -/
def spH (P : Pg) (cl : Cl) (K : PySem.W.Frag) (mg : Str → Option Value) (j : Nat) (d : FDef) (q : Addr × Obj) : L2.Sp := fun vs H Q E => ∃ c m args S, m.K = K ∧ m.H = H ∧ ExO P K mg c q.2 ∧ SH (cl.at q.1 c) m S ∧ RDs m args vs ∧ bodyW P (callW P j) d args S (liftQ (cl.at q.1 c) m Q) (liftX (cl.at q.1 c) mg m E)
def HotAll (P : Pg) (cl : Cl) (prog : Program) (w : World) (K : PySem.W.Frag) (mg : Str → Option Value) (base : Heap) (fs : List String) : Prop :=
  ∀ f ∈ fs, ∀ d, P.fn (.f f) = some d → d.dflt = [] → ∃ a fd ps, mg (Str.ofString f) = some (.ref a) ∧ PySem.W.keepIn K (.ref a) = true ∧ ps.length = d.params ∧ Binds K fd ps [] ∧ ∀ j, FnE prog w K mg base a fd ps fun q vs H Q E => vs.length = ps.length ∧ (KF K H → spH P cl K mg j d q vs H Q E)
/-- all defs keep their promises below level k -/
def FnAll (P : Pg) (cl : Cl) (prog : Program) (w : World) (K : PySem.W.Frag) (mg : Str → Option Value) (base : Heap) (k : Nat) : Prop :=
  ∀ f d, P.fn f = some d → P.isHot f = false → ∃ a fd ps, At P cl K mg f d a fd ps ∧ ∀ j, j < k → FnOk prog w K mg base (L2N.CX prog w) (j + 1) a fd ps (spF P cl K mg j d)
/-- the names of a text: the slots, the scope, the cells -/
structure Ko where
  N : List Str
  sc : Scope
  cf : Str → Bool
  hot : Bool := false
  hf : List String := []
/-- where a text stands -/
structure XO (P : Pg) (cl : Cl) (X : Cx) (k : Nat) (o : Ko) (W : WX) : Prop where
  ln : Ln P X.K X.mg cl
  nd : X.N.Nodup
  nn : X.N = o.N
  sc : X.env.scope = o.sc
  fnc : ∀ x, o.cf x = true → X.fn x = true
  isi : LnI X.K cl
  lx : LnX P X.K X.mg
  calm : (!o.hot) = true → X.calm = true
  room : (!o.hot) = true → Room k X.A
  un : X.A.units + 200 < cLine
  zc : (!o.hot) = true → ∀ a c, ¬ cl.z a c
  rmh : o.hot = true → o.hf ≠ [] → L2H.RoomH k X.A
  zx : o.hot = true → ∃ (q : Addr × Obj) (c : String), L2H.Hot1 X.A q ∧ q ∈ X.pn ∧ (∀ a d, cl.z a d → a = q.1 ∧ d = c) ∧ ExO P X.K X.mg c q.2
  hots : HotAll P cl X.prog X.w X.K X.mg X.base o.hf
  tk : TkF X W
  fr : InFr X
  fns : (!o.hot) = true → FnAll P cl X.prog X.w X.K X.mg X.base k
/-- the slots -/
def SV (m : Sm) (env : Env) (σ : L2.St) : Prop := env.length = σ.length ∧ ∀ (i : Nat) (v : Val), env[i]? = some (some v) → ∃ x, σ[i]? = some (some x) ∧ RD m v x
theorem SV.up {m m' : Sm} (u : Up m m') {env : Env} {σ : L2.St} (h : SV m env σ) : SV m' env σ := ⟨h.1, fun i v e => let ⟨x, h1, h2⟩ := h.2 i v e; ⟨x, h1, h2.up u⟩⟩
theorem SV.get {m : Sm} {env : Env} {σ : L2.St} (h : SV m env σ) {i : Nat} {v : Val} (e : eg env i = some v) : ∃ x, σ[i]? = some (some x) ∧ RD m v x := by
  refine h.2 i v ?_
  rw [eg_eq] at e
  cases q : env[i]? with
  | none => rw [q] at e; cases e
  | some o => rw [q] at e; simp at e; rw [e]
theorem SV.set {m : Sm} {env : Env} {σ : L2.St} (h : SV m env σ) {i : Nat} {v : Val} {x : V} (r : RD m v x) : SV m (es env i (some v)) (σ.set i (some x)) := by
  rw [es_eq]
  refine ⟨by simp [h.1], fun j w e => ?_⟩
  by_cases hj : j = i
  · subst hj
    have hl : j < env.length := by
      have := (List.getElem?_eq_some_iff.mp e).1
      simpa using this
    rw [List.getElem?_set_self hl] at e
    cases e
    exact ⟨x, by rw [List.getElem?_set_self (by rw [← h.1]; exact hl)], r⟩
  · rw [List.getElem?_set_ne (Ne.symm hj)] at e
    rw [List.getElem?_set_ne (Ne.symm hj)]
    exact h.2 j w e
theorem SV.none {m : Sm} {env : Env} {σ : L2.St} (h : SV m env σ) (i : Nat) : SV m (es env i .none) (σ.set i .none) := by
  rw [es_eq]
  refine ⟨by simp [h.1], fun j w e => ?_⟩
  by_cases hj : j = i
  · subst hj
    have hl : j < env.length := by
      have := (List.getElem?_eq_some_iff.mp e).1
      simpa using this
    rw [List.getElem?_set_self hl] at e
    cases e
  · rw [List.getElem?_set_ne (Ne.symm hj)] at e
    rw [List.getElem?_set_ne (Ne.symm hj)]
    exact h.2 j w e
theorem SV.wipe {m : Sm} {env : Env} {σ : L2.St} (h : SV m env σ) : ∀ vs : List Nat, SV m (ewipe env vs) (L2.wipe σ vs)
  | [] => h
  | v :: vs => (SV.wipe h vs).none v

section
variable (P : Pg) (cl : Cl) (k : Nat) (X : Cx) (W : WX)
/-- the readings -/
def tE (e : E) : TE := fun σ H Q => ∃ m env S, m.K = X.K ∧ m.H = H ∧ SH cl m S ∧ SV m env σ ∧ wE P.con (callW P k) (liftX cl X.mg m fun c d H => W c d σ H) e env S (liftQ cl m Q)
def tEs (e : Es) : TA := fun σ H Q => ∃ m env S, m.K = X.K ∧ m.H = H ∧ SH cl m S ∧ SV m env σ ∧ wEs P.con (callW P k) (liftX cl X.mg m fun c d H => W c d σ H) e env S fun vs S' => ∀ m' xs, Ev m m' → SH cl m' S' → RDs m' vs xs → Q xs m'.H
def tTs (e : T) : TT := fun σ H Q => ∃ m env S, m.K = X.K ∧ m.H = H ∧ SH cl m S ∧ SV m env σ ∧ wT P.con (callW P k) (liftX cl X.mg m fun c d H => W c d σ H) e env S fun b S' => ∀ m', Ev m m' → SH cl m' S' → Q b m'.H
def tCs (e : Ot) : TT := fun σ H Q => ∃ m env S, m.K = X.K ∧ m.H = H ∧ SH cl m S ∧ SV m env σ ∧ wC P.con (callW P k) (liftX cl X.mg m fun c d H => W c d σ H) e env S fun b S' => ∀ m', Ev m m' → SH cl m' S' → Q b m'.H
def tOs (e : Oe) : TO := fun σ H Q => ∃ m env S, m.K = X.K ∧ m.H = H ∧ SH cl m S ∧ SV m env σ ∧ wO P.con (callW P k) (liftX cl X.mg m fun c d H => W c d σ H) e env S fun b S' => ∀ m', Ev m m' → SH cl m' S' → Q b m'.H
end
section
variable {P : Pg} {cl : Cl} {k : Nat} {X : Cx} {W : WX} {m m0 : Sm} {env : Env} {S : Hm} {σ : L2.St}
theorem tE_of {e : E} {Q1 : Post} {R : VK} (hK : m.K = X.K) (hS : SH cl m S) (hV : SV m env σ) (e0 : Ev m0 m) (h : wE P.con (callW P k) (liftX cl X.mg m0 fun c d H => W c d σ H) e env S Q1)
    (hq : ∀ m1 x S1 v, Ev m m1 → SH cl m1 S1 → RD m1 v x → SV m1 env σ → Q1 v S1 → R x m1.H) : tE P cl k X W e σ m.H R :=
  ⟨m, env, S, hK, rfl, hS, hV, wE_mono (callW_mono P k) (fun _ _ h1 => liftX.ev e0 h1) e (fun v S1 h1 m1 x e1 hS1 r1 => hq m1 x S1 v e1 hS1 r1 (hV.up (e1.up hS)) h1) h⟩
theorem tEs_of {e : Es} {Q1 : List Val → Hm → Prop} {R : List V → Hp → Prop} (hK : m.K = X.K) (hS : SH cl m S) (hV : SV m env σ) (e0 : Ev m0 m) (h : wEs P.con (callW P k) (liftX cl X.mg m0 fun c d H => W c d σ H) e env S Q1)
    (hq : ∀ m1 x S1 v, Ev m m1 → SH cl m1 S1 → RDs m1 v x → SV m1 env σ → Q1 v S1 → R x m1.H) : tEs P cl k X W e σ m.H R :=
  ⟨m, env, S, hK, rfl, hS, hV, wEs_mono (callW_mono P k) (fun _ _ h1 => liftX.ev e0 h1) e (fun v S1 h1 m1 x e1 hS1 r1 => hq m1 x S1 v e1 hS1 r1 (hV.up (e1.up hS)) h1) h⟩
theorem tTs_of {e : T} {Q1 : Bool → Hm → Prop} {R : Bool → Hp → Prop} (hK : m.K = X.K) (hS : SH cl m S) (hV : SV m env σ) (e0 : Ev m0 m) (h : wT P.con (callW P k) (liftX cl X.mg m0 fun c d H => W c d σ H) e env S Q1)
    (hq : ∀ m1 S1 b, Ev m m1 → SH cl m1 S1 → SV m1 env σ → Q1 b S1 → R b m1.H) : tTs P cl k X W e σ m.H R :=
  ⟨m, env, S, hK, rfl, hS, hV, wT_mono (callW_mono P k) (fun _ _ h1 => liftX.ev e0 h1) e (fun v S1 h1 m1 e1 hS1 => hq m1 S1 v e1 hS1 (hV.up (e1.up hS)) h1) h⟩
theorem tOs_of {e : Oe} {Q1 : Option Int → Hm → Prop} {R : Option Int → Hp → Prop} (hK : m.K = X.K) (hS : SH cl m S) (hV : SV m env σ) (e0 : Ev m0 m) (h : wO P.con (callW P k) (liftX cl X.mg m0 fun c d H => W c d σ H) e env S Q1)
    (hq : ∀ m1 S1 b, Ev m m1 → SH cl m1 S1 → SV m1 env σ → Q1 b S1 → R b m1.H) : tOs P cl k X W e σ m.H R :=
  ⟨m, env, S, hK, rfl, hS, hV, wO_mono (callW_mono P k) (fun _ _ h1 => liftX.ev e0 h1) e (fun v S1 h1 m1 e1 hS1 => hq m1 S1 v e1 hS1 (hV.up (e1.up hS)) h1) h⟩

/-! ### syntax -/
def notStar : Expr → Bool
  | .Starred _ _ => false
  | _ => true
theorem star_cons {e : Expr} {es : List Expr} {env : PySem.Env} (h : notStar e = true) : starEach (e :: es) env = (false, eval e env) :: starEach es env := by
  cases e <;> first | rfl | cases h
theorem star_any {env : PySem.Env} {pos : Pos} : ∀ {es : List Expr}, es.all notStar = true → (backTo pos (starEach es env)).any (·.1) = false
  | [], _ => rfl
  | e :: es, h => by
    rw [List.all_cons, Bool.and_eq_true] at h
    rw [star_cons h.1]
    show (false || (backTo pos (starEach es env)).any (·.1)) = false
    rw [star_any h.2]
    rfl
theorem star_all {env : PySem.Env} {pos : Pos} : ∀ {es : List Expr}, es.all notStar = true → (backTo pos (starEach es env)).all (fun x => !x.1) = true
  | [], _ => rfl
  | e :: es, h => by
    rw [List.all_cons, Bool.and_eq_true] at h
    rw [star_cons h.1]
    show (true && (backTo pos (starEach es env)).all (fun x => !x.1)) = true
    rw [star_all h.2]
    rfl
def notComp : Expr → Bool
  | .ListComp .. => false
  | .SetComp .. => false
  | .DictComp .. => false
  | _ => true
theorem noswap {e : Expr} {t : Option Expr} {l : Nat} {env : PySem.Env} (h : notComp e = true) : swapsWith e t l env = pure false := by
  cases e <;> first | rfl | cases h
/-- no call of a plain name (super) -/
def plainBase : Expr → Bool
  | .Call (.Name _ _) [] [] _ => false
  | _ => true
theorem base_of {e : Expr} {f : Str} {env : PySem.Env} {w : Sem Value} (h : plainBase e = true) : attributeBase e f env w = w := by
  unfold attributeBase
  split
  · cases h
  · rfl
def plainTest : Expr → Bool
  | .UnaryOp .Not _ _ => false
  | .BoolOp .. => false
  | .IfExp .. => false
  | .Compare .. => false
  | _ => true
theorem test_of {e : Expr} {env : PySem.Env} (h : plainTest e = true) : ∀ whole, isTrue e env whole = (do let v ← whole; standAt e.pos; holding [v] (truthy v)) := by
  intro whole
  cases e with
  | UnaryOp op x p => cases op <;> first | rfl | cases h
  | BoolOp op vs p => cases h
  | IfExp a b c p => cases h
  | Compare a b c p => cases h
  | _ => rfl
def plainIx : Expr → Bool
  | .Slice .. => false
  | _ => true
theorem plainIx_of {e : Expr} (h : plainIx e = true) : PlainIx e := by
  intro o i
  cases e <;> first | rfl | cases h
theorem plainAug_of {e : Expr} (h : plainIx e = true) : ∀ ov iv new, augStore e ov iv new = (do holding [new, ov, iv] (setItem ov iv new); release [new, ov, iv] []; pure .next) := by
  intro o i n
  cases e <;> first | rfl | cases h
def plainAsg : Expr → Bool
  | _ => true
theorem folded_of {e : Expr} {env : PySem.Env} (h : (match e with | .Set .. => false | _ => true) = true) : ∀ x, foldedSetIterable e env x = pure x := by
  intro x
  cases e <;> first | rfl | cases h
/-- a method's call -/
theorem meth_eval {o : Expr} {m : Str} {apos pos : Pos} {args : List Expr} {env : PySem.Env} (hb : plainBase o = true) (hs : args.all notStar = true) (hn : args.length < 29) (hl : (apos.endLine == pos.line) = true) :
    eval (.Call (.Attribute o m apos) args [] pos) env = (do
      let ov ← eval o env
      standAt apos.atName
      let (f, first) ← holding [ov] (getMethod ov m (do return (← importBound o env).getD true))
      callWith pos f first (backTo pos (starEach args env)) (backToKw pos (keywordEach [] env))) := by
  have hform : methodCallForm (args.length + ([] : List Keyword).length) (backTo pos (starEach args env)) (backToKw pos (keywordEach [] env)) = true := by
    unfold methodCallForm
    rw [star_all hs]
    show (true && true && decide (args.length + 0 + (if ([] : List Keyword).isEmpty then 0 else 1) < 30)) = true
    simp
    omega
  have hpos : methodCallPos true o env apos pos = pure pos := by unfold methodCallPos; simp [hl]
  rw [arm_eval_Call, base_of hb]
  unfold methodCall
  rw [hform, hpos]
  rfl
end
end Mi

set_option maxHeartbeats 4000000
namespace Mi
open PySem PySem.Spec L2 PyProof.Rows
section
variable {P : Pg} {cl : Cl} {k : Nat} {X : Cx} {W : WX} {sc : Ko}
theorem PT.kf {e : Expr} {t : TT} (h : PT X e t) : PT X e (fun σ H Q => t σ H fun x H' => KF X.K H' → Q x H') := ⟨fun pins s σ H Q I hw => thn (h.run pins s σ H _ I hw) fun _ _ ⟨H', I', q⟩ => ⟨H', I', q (kfree I')⟩⟩
theorem PT.imp {e : Expr} {t t' : TT} (h : PT X e t) (f : ∀ σ H Q, t' σ H Q → t σ H Q) : PT X e t' := ⟨fun pins s σ H Q I hw => h.run pins s σ H Q I (f _ _ _ hw)⟩
theorem PW.imp {e : Expr} {t t' : TT} (h : PW X e t) (f : ∀ σ H Q, t' σ H Q → t σ H Q) : PW X e t' := ⟨fun wh pins s σ H Q I hw => h.run wh pins s σ H Q I (f _ _ _ hw)⟩
theorem PA.imp {e : List Expr} {t t' : TA} (h : PA X e t) (f : ∀ σ H Q, t' σ H Q → t σ H Q) : PA X e t' := ⟨fun pos pins s σ H Q I hw => h.run pos pins s σ H Q I (f _ _ _ hw)⟩
theorem PA.kf {e : List Expr} {t : TA} (h : PA X e t) : PA X e (fun σ H Q => t σ H fun x H' => KF X.K H' → Q x H') := ⟨fun pos pins s σ H Q I hw => thn (h.run pos pins s σ H _ I hw) fun _ _ ⟨v, H', I', r, q⟩ => ⟨v, H', I', r, q (kfree I')⟩⟩
theorem PO.imp {e : Option Expr} {t t' : TO} (h : PO X e t) (f : ∀ σ H Q, t' σ H Q → t σ H Q) : PO X e t' := ⟨fun pins s σ H Q I hw => h.run pins s σ H Q I (f _ _ _ hw)⟩

/-! ### names, constants -/
theorem e_loc {i : Nat} {x : Str} {pos : Pos} (hN : X.N[i]? = some x) (hv : Vis X.env.scope x) (hd : (x == ("__debug__" : Str)) = false) (hcd : (x == ("__classdict__" : Str)) = false) : PE X (.Name x pos) (tE P cl k X W (.loc i)) :=
  PE.imp (PE.kf (pe_var hN hv hd hcd)) fun σ H Q ⟨m, env, S, hK, eH, hS, hV, h⟩ => by
    subst eH
    simp only [wE] at h
    obtain ⟨v, e, h⟩ := h
    obtain ⟨x, e', r⟩ := hV.get e
    exact ⟨x, e', fun _ => stay hS r h⟩
theorem e_lit {c : Lit} {e : Expr} (h : PE X e (tC (litV c))) : PE X e (tE P cl k X W (.lit c)) :=
  PE.imp (PE.kf h) fun σ H Q ⟨m, env, S, hK, eH, hS, hV, h⟩ => by
    subst eH
    simp only [wE] at h
    exact fun _ => stay hS (litV_rd c) h
theorem e_con {x : String} {v : Val} {pos : Pos} (ln : Ln P X.K X.mg cl) (hg : Gl X (Str.ofString x)) (hc : P.con x = some v) (hd : (Str.ofString x == ("__debug__" : Str)) = false) : PE X (.Name (Str.ofString x) pos) (tE P cl k X W (.con x)) := by
  obtain ⟨a, u, h1, h2, h3⟩ := ln.con x v hc
  refine PE.imp (PE.kf (pe_glob hg h1 h2 hd)) fun σ H Q ⟨m, env, S, hK, eH, hS, hV, h⟩ => ?_
  subst eH
  simp only [wE] at h
  obtain ⟨w, e, h⟩ := h
  rw [hc] at e
  cases e
  exact fun _ => stay hS (h3 m hK) h

/-! ### operators -/
variable {a b c o i : E} {ea eb ec eo ei : Expr} {pos : Pos}
theorem e_bin {op : Operator} (ha : PE X ea (tE P cl k X W a)) (hb : PE X eb (tE P cl k X W b)) : PE X (.BinOp ea op eb pos) (tE P cl k X W (.bin op a b)) :=
  PE.imp (pe_op (opr_bin (cl := cl) op) ha hb) fun σ H Q ⟨m, env, S, hK, eH, hS, hV, h⟩ => by
    subst eH
    simp only [wE] at h
    refine tE_of hK hS hV (Ev.refl m) h fun m1 x S1 v e1 hS1 r1 hV1 h1 => ?_
    refine tE_of (e1.k.trans hK) hS1 hV1 e1 h1 fun m2 y S2 w e2 hS2 r2 hV2 h2 => ?_
    exact ⟨m2, S2, v, w, (e1.trans e2).k.trans hK, rfl, hS2, r1.up (e2.up hS1), r2, binW_mono (fun z S3 h3 => liftQ.ev (e1.trans e2) (fun _ _ _ q => q) h3) h2⟩
theorem e_neg (ha : PE X ea (tE P cl k X W a)) : PE X (.UnaryOp .USub ea pos) (tE P cl k X W (.neg a)) :=
  PE.imp (pe_un un_neg ha) fun σ H Q ⟨m, env, S, hK, eH, hS, hV, h⟩ => by
    subst eH
    simp only [wE] at h
    refine tE_of hK hS hV (Ev.refl m) h fun m1 x S1 v e1 hS1 r1 hV1 h1 => ?_
    obtain ⟨i, rfl, h1⟩ := h1
    cases r1
    exact ⟨i, rfl, h1 m1 (.int (-i)) e1 hS1 (.int _)⟩
theorem e_cmp {op : CmpOp} (hu : X.A.units + 65 < cLine) (hm : behindInMarks op eb = false) (ha : PE X ea (tE P cl k X W a)) (hb : PE X eb (tE P cl k X W b)) : PE X (.Compare ea [op] [eb] pos) (tE P cl k X W (.cmp op a b)) :=
  PE.imp (pe_cmpR (opr_cmp (cl := cl) hu op) ha hb hm) fun σ H Q ⟨m, env, S, hK, eH, hS, hV, h⟩ => by
    subst eH
    simp only [wE] at h
    refine tE_of hK hS hV (Ev.refl m) h fun m1 x S1 v e1 hS1 r1 hV1 h1 => ?_
    refine tE_of (e1.k.trans hK) hS1 hV1 e1 h1 fun m2 y S2 w e2 hS2 r2 hV2 h2 => ?_
    exact ⟨m2, S2, v, w, (e1.trans e2).k.trans hK, rfl, hS2, r1.up (e2.up hS1), r2, cmpW_mono (fun z h3 => liftQ.ev (e1.trans e2) (fun _ _ _ q => q) h3) h2⟩
theorem t_cmp {op : CmpOp} (hu : X.A.units + 65 < cLine) (hm : behindInMarks op eb = false) (ha : PE X ea (tE P cl k X W a)) (hb : PE X eb (tE P cl k X W b)) : PT X (.Compare ea [op] [eb] pos) (tTs P cl k X W (.v (.cmp op a b))) :=
  PT.imp (pt_cmpR (opr_cmp (cl := cl) hu op) ha hb hm) fun σ H Q ⟨m, env, S, hK, eH, hS, hV, h⟩ => by
    subst eH
    simp only [wT, wE] at h
    refine tE_of hK hS hV (Ev.refl m) h fun m1 x S1 v e1 hS1 r1 hV1 h1 => ?_
    refine tE_of (e1.k.trans hK) hS1 hV1 e1 h1 fun m2 y S2 w e2 hS2 r2 hV2 h2 => ?_
    refine ⟨m2, S2, v, w, (e1.trans e2).k.trans hK, rfl, hS2, r1.up (e2.up hS1), r2, cmpW_mono (fun z h3 => ?_) h2⟩
    obtain ⟨d, e, h3⟩ := h3
    cases e
    exact fun m' x e hS r => by cases r; exact ⟨_, rfl, h3 m' ((e1.trans e2).trans e) hS⟩
theorem chain_of {op op' : CmpOp} {σ : L2.St} {m : Sm} {env : Env} {S : Hm} {Q1 : Post} {Q : VK} (hK : m.K = X.K) (hS : SH cl m S) (hV : SV m env σ) (hq : ∀ m' b S', Ev m m' → SH cl m' S' → Q1 (.bl b) S' → Q (.bl b) m'.H)
    (h : wE P.con (callW P k) (liftX cl X.mg m fun c d H => W c d σ H) (.cmp2 op op' a b c) env S Q1) :
    tChain (r2 X cl fun v w S Q => cmpW op v w S fun b => Q (.bl b) S) (r2 X cl fun v w S Q => cmpW op' v w S fun b => Q (.bl b) S) (tE P cl k X W a) (tE P cl k X W b) (tE P cl k X W c) σ m.H Q := by
  simp only [wE] at h
  refine tE_of hK hS hV (Ev.refl m) h fun m1 x S1 v e1 hS1 r1 hV1 h1 => ?_
  refine tE_of (e1.k.trans hK) hS1 hV1 e1 h1 fun m2 y S2 w e2 hS2 r2 hV2 h2 => ?_
  refine ⟨m2, S2, v, w, (e1.trans e2).k.trans hK, rfl, hS2, r1.up (e2.up hS1), r2, cmpW_mono (fun z h3 => ?_) h2⟩
  intro m3 x3 e3 hS3 r3
  cases r3
  refine ⟨z, rfl, ?_⟩
  have e123 := (e1.trans e2).trans e3
  cases z with
  | false =>
    simp only [Bool.false_eq_true, if_false] at h3 ⊢
    exact hq m3 false _ e123 hS3 h3
  | true =>
    simp only [if_true] at h3 ⊢
    refine tE_of (e123.k.trans hK) hS3 (hV2.up (e3.up hS2)) e123 h3 fun m4 y4 S4 w4 e4 hS4 r4 hV4 h4 => ?_
    exact ⟨m4, S4, w, w4, (e123.trans e4).k.trans hK, rfl, hS4, r2.up ((e3.trans e4).up hS2), r4, cmpW_mono (fun z h5 m5 x5 e5 hS5 r5 => by cases r5; exact hq m5 z _ ((e123.trans e4).trans e5) hS5 h5) h4⟩
theorem e_cmp2 {op op' : CmpOp} (hu : X.A.units + 65 < cLine) (hm : lastMarks [op, op'] [eb, ec] = false) (ha : PE X ea (tE P cl k X W a)) (hb : PE X eb (tE P cl k X W b)) (hc : PE X ec (tE P cl k X W c)) : PE X (.Compare ea [op, op'] [eb, ec] pos) (tE P cl k X W (.cmp2 op op' a b c)) :=
  PE.imp (pe_chain (opr_cmp (cl := cl) hu op) (opr_cmp (cl := cl) hu op') ha hb hc hm) fun σ H Q ⟨m, env, S, hK, eH, hS, hV, h⟩ => by
    subst eH
    exact chain_of hK hS hV (fun m' b S' e hS' h => h m' _ e hS' (.bl b)) h
theorem t_cmp2 {op op' : CmpOp} (hu : X.A.units + 65 < cLine) (hm : lastMarks [op, op'] [eb, ec] = false) (ha : PE X ea (tE P cl k X W a)) (hb : PE X eb (tE P cl k X W b)) (hc : PE X ec (tE P cl k X W c)) : PT X (.Compare ea [op, op'] [eb, ec] pos) (tTs P cl k X W (.v (.cmp2 op op' a b c))) :=
  PT.imp (pt_chain (opr_cmp (cl := cl) hu op) (opr_cmp (cl := cl) hu op') ha hb hc hm) fun σ H Q ⟨m, env, S, hK, eH, hS, hV, h⟩ => by
    subst eH
    simp only [wT] at h
    refine chain_of hK hS hV (fun m' b S' e hS' h => ?_) h
    obtain ⟨d, e1, h1⟩ := h
    simp [truth] at e1
    subst e1
    exact ⟨_, rfl, h1 m' e hS'⟩
theorem e_isN {j pos'} (ha : PE X ea (tE P cl k X W a)) : PE X (.Compare ea [.Is] [.Constant .none j pos'] pos) (tE P cl k X W (.isN a)) :=
  PE.imp (pe_cmp (pc_isN ha) rfl) fun σ H Q ⟨m, env, S, hK, eH, hS, hV, h⟩ => by
    subst eH
    simp only [wE] at h
    refine tE_of hK hS hV (Ev.refl m) h fun m1 x S1 v e1 hS1 r1 hV1 h1 => ?_
    have := h1 m1 _ e1 hS1 (.bl _)
    cases r1 <;> simpa using this
theorem e_notN {j pos'} (ha : PE X ea (tE P cl k X W a)) : PE X (.Compare ea [.IsNot] [.Constant .none j pos'] pos) (tE P cl k X W (.notN a)) :=
  PE.imp (pe_cmp (pc_notN ha) rfl) fun σ H Q ⟨m, env, S, hK, eH, hS, hV, h⟩ => by
    subst eH
    simp only [wE] at h
    refine tE_of hK hS hV (Ev.refl m) h fun m1 x S1 v e1 hS1 r1 hV1 h1 => ?_
    have := h1 m1 _ e1 hS1 (.bl _)
    cases r1 <;> simpa using this
theorem t_isN {j pos'} (ha : PE X ea (tE P cl k X W a)) : PT X (.Compare ea [.Is] [.Constant .none j pos'] pos) (tTs P cl k X W (.v (.isN a))) :=
  PT.imp (pt_cmp (pc_isN ha) rfl) fun σ H Q ⟨m, env, S, hK, eH, hS, hV, h⟩ => by
    subst eH
    simp only [wT, wE] at h
    refine tE_of hK hS hV (Ev.refl m) h fun m1 x S1 v e1 hS1 r1 hV1 h1 => ?_
    obtain ⟨d, e, h1⟩ := h1
    have := h1 m1 e1 hS1
    simp [truth] at e
    subst e
    cases r1 <;> exact ⟨_, rfl, by simpa using this⟩
theorem t_notN {j pos'} (ha : PE X ea (tE P cl k X W a)) : PT X (.Compare ea [.IsNot] [.Constant .none j pos'] pos) (tTs P cl k X W (.v (.notN a))) :=
  PT.imp (pt_cmp (pc_notN ha) rfl) fun σ H Q ⟨m, env, S, hK, eH, hS, hV, h⟩ => by
    subst eH
    simp only [wT, wE] at h
    refine tE_of hK hS hV (Ev.refl m) h fun m1 x S1 v e1 hS1 r1 hV1 h1 => ?_
    obtain ⟨d, e, h1⟩ := h1
    have := h1 m1 e1 hS1
    simp [truth] at e
    subst e
    cases r1 <;> exact ⟨_, rfl, by simpa using this⟩
theorem e_isB {b : Bool} {j pos'} (ha : PE X ea (tE P cl k X W a)) : PE X (.Compare ea [.Is] [.Constant (.bool b) j pos'] pos) (tE P cl k X W (.isB a b)) :=
  PE.imp (pe_cmpR (op_is_bl (X := X)) ha (pe_bl (X := X)) rfl) fun σ H Q ⟨m, env, S, hK, eH, hS, hV, h⟩ => by
    subst eH
    simp only [wE] at h
    refine tE_of hK hS hV (Ev.refl m) h fun m1 x S1 v e1 hS1 r1 hV1 h1 => ?_
    obtain ⟨d, rfl, h1⟩ := h1
    cases r1
    have := h1 m1 _ e1 hS1 (.bl _)
    exact ⟨d, b, rfl, rfl, by rw [← Bool.beq_eq_decide_eq]; exact this⟩
theorem t_isB {b : Bool} {j pos'} (ha : PE X ea (tE P cl k X W a)) : PT X (.Compare ea [.Is] [.Constant (.bool b) j pos'] pos) (tTs P cl k X W (.v (.isB a b))) :=
  PT.imp (pt_cmpR (op_is_bl (X := X)) ha (pe_bl (X := X)) rfl) fun σ H Q ⟨m, env, S, hK, eH, hS, hV, h⟩ => by
    subst eH
    simp only [wT, wE] at h
    refine tE_of hK hS hV (Ev.refl m) h fun m1 x S1 v e1 hS1 r1 hV1 h1 => ?_
    obtain ⟨d, rfl, d', e, h1⟩ := h1
    cases r1
    have := h1 m1 e1 hS1
    simp [truth] at e
    subst e
    exact ⟨d, b, rfl, rfl, _, by rw [← Bool.beq_eq_decide_eq], this⟩

theorem e_isnB {b : Bool} {j pos'} (ha : PE X ea (tE P cl k X W a)) : PE X (.Compare ea [.IsNot] [.Constant (.bool b) j pos'] pos) (tE P cl k X W (.not (.isB a b))) :=
  PE.imp (pe_cmpR (op_isnot_bl (X := X)) ha (pe_bl (X := X)) rfl) fun σ H Q ⟨m, env, S, hK, eH, hS, hV, h⟩ => by
    subst eH
    simp only [wE] at h
    refine tE_of hK hS hV (Ev.refl m) h fun m1 x S1 v e1 hS1 r1 hV1 h1 => ?_
    obtain ⟨d, rfl, d', e, h1⟩ := h1
    cases r1
    cases e
    have := h1 m1 _ e1 hS1 (.bl _)
    exact ⟨d, b, rfl, rfl, by rw [← Bool.beq_eq_decide_eq]; exact this⟩
theorem t_isnB {b : Bool} {j pos'} (ha : PE X ea (tE P cl k X W a)) : PT X (.Compare ea [.IsNot] [.Constant (.bool b) j pos'] pos) (tTs P cl k X W (.v (.not (.isB a b)))) :=
  PT.imp (pt_cmpR (op_isnot_bl (X := X)) ha (pe_bl (X := X)) rfl) fun σ H Q ⟨m, env, S, hK, eH, hS, hV, h⟩ => by
    subst eH
    simp only [wT, wE] at h
    refine tE_of hK hS hV (Ev.refl m) h fun m1 x S1 v e1 hS1 r1 hV1 h1 => ?_
    obtain ⟨d, rfl, d', e', d2, e, h1⟩ := h1
    cases r1
    cases e'
    have := h1 m1 e1 hS1
    simp [truth] at e
    exact ⟨d, b, rfl, rfl, d2, by rw [← Bool.beq_eq_decide_eq, e]; simp, this⟩

/-! ### and, or, not, if -/
theorem e_not (ha : PE X ea (tE P cl k X W a)) : PE X (.UnaryOp .Not ea pos) (tE P cl k X W (.not a)) :=
  PE.imp (pe_not ha) fun σ H Q ⟨m, env, S, hK, eH, hS, hV, h⟩ => by
    subst eH
    simp only [wE] at h
    refine tE_of hK hS hV (Ev.refl m) h fun m1 x S1 v e1 hS1 r1 hV1 h1 => ?_
    obtain ⟨d, rfl, h1⟩ := h1
    cases r1
    exact ⟨d, rfl, h1 m1 _ e1 hS1 (.bl _)⟩
theorem and_of {R : VK} {σ : L2.St} {m : Sm} {env : Env} {S : Hm} {Q1 : Post} (hK : m.K = X.K) (hS : SH cl m S) (hV : SV m env σ) (hq : ∀ m' x v S', Ev m m' → SH cl m' S' → RD m' v x → Q1 v S' → R x m'.H)
    (h : wE P.con (callW P k) (liftX cl X.mg m fun c d H => W c d σ H) (.and a b) env S Q1) : tAndV (tE P cl k X W a) (tE P cl k X W b) σ m.H R := by
  simp only [wE] at h
  refine tE_of hK hS hV (Ev.refl m) h fun m1 x S1 v e1 hS1 r1 hV1 h1 => ?_
  obtain ⟨d, rfl, h1⟩ := h1
  cases r1
  refine ⟨d, rfl, ?_⟩
  cases d with
  | false =>
    simp only [Bool.false_eq_true, if_false] at h1 ⊢
    exact hq m1 _ _ _ e1 hS1 (.bl _) h1
  | true =>
    simp only [if_true] at h1 ⊢
    exact tE_of (e1.k.trans hK) hS1 hV1 e1 h1 fun m2 y S2 w e2 hS2 r2 hV2 h2 => hq m2 _ _ _ (e1.trans e2) hS2 r2 h2
theorem or_of {R : VK} {σ : L2.St} {m : Sm} {env : Env} {S : Hm} {Q1 : Post} (hK : m.K = X.K) (hS : SH cl m S) (hV : SV m env σ) (hq : ∀ m' x v S', Ev m m' → SH cl m' S' → RD m' v x → Q1 v S' → R x m'.H)
    (h : wE P.con (callW P k) (liftX cl X.mg m fun c d H => W c d σ H) (.or a b) env S Q1) : tOrV (tE P cl k X W a) (tE P cl k X W b) σ m.H R := by
  simp only [wE] at h
  refine tE_of hK hS hV (Ev.refl m) h fun m1 x S1 v e1 hS1 r1 hV1 h1 => ?_
  obtain ⟨d, rfl, h1⟩ := h1
  cases r1
  refine ⟨d, rfl, ?_⟩
  cases d with
  | true =>
    simp only [if_true] at h1 ⊢
    exact hq m1 _ _ _ e1 hS1 (.bl _) h1
  | false =>
    simp only [Bool.false_eq_true, if_false] at h1 ⊢
    exact tE_of (e1.k.trans hK) hS1 hV1 e1 h1 fun m2 y S2 w e2 hS2 r2 hV2 h2 => hq m2 _ _ _ (e1.trans e2) hS2 r2 h2
variable {rest : List Expr}
theorem e_and (ha : PE X ea (tE P cl k X W a)) (hb : PE X (.BoolOp .And (eb :: rest) pos) (tE P cl k X W b)) : PE X (.BoolOp .And (ea :: eb :: rest) pos) (tE P cl k X W (.and a b)) :=
  PE.imp (pe_and ha hb) fun σ H Q ⟨m, env, S, hK, eH, hS, hV, h⟩ => by
    subst eH
    exact and_of hK hS hV (fun m' x v S' e hS' r h => h m' x e hS' r) h
theorem e_or (ha : PE X ea (tE P cl k X W a)) (hb : PE X (.BoolOp .Or (eb :: rest) pos) (tE P cl k X W b)) : PE X (.BoolOp .Or (ea :: eb :: rest) pos) (tE P cl k X W (.or a b)) :=
  PE.imp (pe_or ha hb) fun σ H Q ⟨m, env, S, hK, eH, hS, hV, h⟩ => by
    subst eH
    exact or_of hK hS hV (fun m' x v S' e hS' r h => h m' x e hS' r) h
theorem e_ite {c : T} (hc : PT X ec (tTs P cl k X W c)) (ha : PE X ea (tE P cl k X W a)) (hb : PE X eb (tE P cl k X W b)) : PE X (.IfExp ec ea eb pos) (tE P cl k X W (.ite c a b)) :=
  PE.imp (pe_ifExp hc ha hb) fun σ H Q ⟨m, env, S, hK, eH, hS, hV, h⟩ => by
    subst eH
    simp only [wE] at h
    refine tTs_of hK hS hV (Ev.refl m) h fun m1 S1 d e1 hS1 hV1 h1 => ?_
    cases d with
    | false =>
      simp only [Bool.false_eq_true, if_false] at h1 ⊢
      exact tE_of (e1.k.trans hK) hS1 hV1 e1 h1 fun m2 y S2 w e2 hS2 r2 hV2 h2 => h2 m2 _ (e1.trans e2) hS2 r2
    | true =>
      simp only [if_true] at h1 ⊢
      exact tE_of (e1.k.trans hK) hS1 hV1 e1 h1 fun m2 y S2 w e2 hS2 r2 hV2 h2 => h2 m2 _ (e1.trans e2) hS2 r2

/-! ### tests -/
theorem t_val (ha : PE X ea (tE P cl k X W a)) (hp : plainTest ea = true) : PT X ea (tTs P cl k X W (.v a)) :=
  PT.imp (pt_truth ha (test_of hp)) fun σ H Q ⟨m, env, S, hK, eH, hS, hV, h⟩ => by
    subst eH
    simp only [wT] at h
    refine tE_of hK hS hV (Ev.refl m) h fun m1 x S1 v e1 hS1 r1 hV1 h1 => ?_
    obtain ⟨d, e, h1⟩ := h1
    exact ⟨d, truth_rd hS1 (e1.k.trans hK) r1 e, h1 m1 e1 hS1⟩
variable {ta tb : T}
theorem t_not (ha : PT X ea (tTs P cl k X W ta)) : PT X (.UnaryOp .Not ea pos) (tTs P cl k X W (.not ta)) :=
  PT.imp (pt_not ha) fun σ H Q ⟨m, env, S, hK, eH, hS, hV, h⟩ => by
    subst eH
    simp only [wT] at h
    exact tTs_of hK hS hV (Ev.refl m) h fun m1 S1 d e1 hS1 hV1 h1 => h1 m1 e1 hS1
theorem t_and1 (ha : PT X ea (tTs P cl k X W ta)) : PW X (.BoolOp .And [ea] pos) (tTs P cl k X W ta) := pw_and1 ha
theorem t_or1 (ha : PT X ea (tTs P cl k X W ta)) : PW X (.BoolOp .Or [ea] pos) (tTs P cl k X W ta) := pw_or1 ha
theorem t_and (ha : PT X ea (tTs P cl k X W ta)) (hb : PW X (.BoolOp .And (eb :: rest) pos) (tTs P cl k X W tb)) : PW X (.BoolOp .And (ea :: eb :: rest) pos) (tTs P cl k X W (.and ta tb)) :=
  PW.imp (pw_and ha hb) fun σ H Q ⟨m, env, S, hK, eH, hS, hV, h⟩ => by
    subst eH
    simp only [wT] at h
    refine tTs_of hK hS hV (Ev.refl m) h fun m1 S1 d e1 hS1 hV1 h1 => ?_
    cases d with
    | false =>
      simp only [Bool.false_eq_true, if_false] at h1 ⊢
      exact h1 m1 e1 hS1
    | true =>
      simp only [if_true] at h1 ⊢
      exact tTs_of (e1.k.trans hK) hS1 hV1 e1 h1 fun m2 S2 w e2 hS2 hV2 h2 => h2 m2 (e1.trans e2) hS2
theorem t_or (ha : PT X ea (tTs P cl k X W ta)) (hb : PW X (.BoolOp .Or (eb :: rest) pos) (tTs P cl k X W tb)) : PW X (.BoolOp .Or (ea :: eb :: rest) pos) (tTs P cl k X W (.or ta tb)) :=
  PW.imp (pw_or ha hb) fun σ H Q ⟨m, env, S, hK, eH, hS, hV, h⟩ => by
    subst eH
    simp only [wT] at h
    refine tTs_of hK hS hV (Ev.refl m) h fun m1 S1 d e1 hS1 hV1 h1 => ?_
    cases d with
    | true =>
      simp only [if_true] at h1 ⊢
      exact h1 m1 e1 hS1
    | false =>
      simp only [Bool.false_eq_true, if_false] at h1 ⊢
      exact tTs_of (e1.k.trans hK) hS1 hV1 e1 h1 fun m2 S2 w e2 hS2 hV2 h2 => h2 m2 (e1.trans e2) hS2
theorem t_ite {c : T} (hc : PT X ec (tTs P cl k X W c)) (ha : PT X ea (tTs P cl k X W (.v a))) (hb : PT X eb (tTs P cl k X W (.v b))) : True := True.intro

/-! ### lists of expressions, displays -/
variable {es' : Es} {xs : List Expr}
theorem a_nil : PA X [] (tEs P cl k X W .nil) :=
  PA.imp pa_nil fun σ H Q ⟨m, env, S, hK, eH, hS, hV, h⟩ => by
    subst eH
    simp only [wEs] at h
    exact h m [] (Ev.refl m) hS .nil
theorem a_cons (ha : PE X ea (tE P cl k X W a)) (hs : notStar ea = true) (hr : PA X xs (tEs P cl k X W es')) : PA X (ea :: xs) (tEs P cl k X W (.cons a es')) :=
  PA.imp (pa_cons ha hr (star_cons hs)) fun σ H Q ⟨m, env, S, hK, eH, hS, hV, h⟩ => by
    subst eH
    simp only [wEs] at h
    refine tE_of hK hS hV (Ev.refl m) h fun m1 x S1 v e1 hS1 r1 hV1 h1 => ?_
    refine tEs_of (e1.k.trans hK) hS1 hV1 e1 h1 fun m2 y S2 w e2 hS2 r2 hV2 h2 => ?_
    exact h2 m2 _ (e1.trans e2) hS2 (.cons (r1.up (e2.up hS1)) r2)
theorem e_tup {kk} (ha : PA X xs (tEs P cl k X W es')) : PE X (.Tuple xs kk pos) (tE P cl k X W (.tup es')) :=
  PE.imp (PE.kf (pe_tup ha)) fun σ H Q ⟨m, env, S, hK, eH, hS, hV, h⟩ => by
    subst eH
    simp only [wE] at h
    refine tEs_of hK hS hV (Ev.refl m) h fun m1 x S1 v e1 hS1 r1 hV1 h1 => ?_
    exact ⟨by rw [← r1.length]; exact h1.1, fun p hp kf => mk_tup hS1 r1 hp (by rw [e1.k, hK]; exact kf) (liftQ.ev e1 (fun _ _ _ q => q) h1.2)⟩
theorem e_lst (ha : PA X xs (tEs P cl k X W es')) : PE X (.List xs pos) (tE P cl k X W (.lst es')) :=
  PE.imp (PE.kf (pe_lst ha)) fun σ H Q ⟨m, env, S, hK, eH, hS, hV, h⟩ => by
    subst eH
    simp only [wE] at h
    refine tEs_of hK hS hV (Ev.refl m) h fun m1 x S1 v e1 hS1 r1 hV1 h1 => ?_
    exact ⟨by rw [← r1.length]; exact h1.1, fun p hp kf => mk_lst hS1 r1 hp (by rw [e1.k, hK]; exact kf) (liftQ.ev e1 (fun _ _ _ q => q) h1.2)⟩
end
end Mi

set_option maxHeartbeats 4000000
namespace Mi
open PySem PySem.Spec L2 PyProof.Rows
def Es.len : Es → Nat
  | .nil => 0
  | .cons _ es => es.len + 1
theorem wEs_len {G : String → Option Val} {C : CallW} (hC : CMono C) {X : XPost} : ∀ (es : Es) {env : Env} {S : Hm} {Q : List Val → Hm → Prop}, wEs G C X es env S Q → wEs G C X es env S fun vs S' => vs.length = es.len ∧ Q vs S'
  | .nil, env, S, Q, h => by
    simp only [wEs] at h ⊢
    exact ⟨rfl, h⟩
  | .cons e es, env, S, Q, h => by
    simp only [wEs] at h ⊢
    exact wE_mono hC (fun _ _ h => h) e (fun v S1 h1 => wEs_mono hC (fun _ _ h => h) es (fun vs S2 h2 => ⟨by rw [List.length_cons, h2.1]; rfl, h2.2⟩) (wEs_len hC es h1)) h
/-- a promise one level below -/
def spK (P : Pg) (cl : Cl) (K : PySem.W.Frag) (mg : Str → Option Value) : Nat → FDef → L2.Sp
  | 0, _ => fun _ _ _ _ => False
  | k + 1, d => spF P cl K mg k d
def spI (P : Pg) (cl : Cl) (K : PySem.W.Frag) (mg : Str → Option Value) : Nat → FDef → L2.Sp
  | k + 2, d => spF P cl K mg k d
  | _, _ => fun _ _ _ _ => False
section
variable {P : Pg} {cl : Cl} {k : Nat} {X : Cx} {W : WX} {sc : Ko}
theorem FnOk.never {P : Program} {w : World} {K : PySem.W.Frag} {mg : Str → Option Value} {base : Heap} {CX : CXT} {k : Nat} {f : Addr} {fd : FuncData} {ps : List Str} : FnOk P w K mg base CX k f fd ps fun _ _ _ _ => False :=
  ⟨fun _ _ _ _ h => h.elim, fun _ _ _ _ _ _ _ _ _ _ _ _ _ h => h.elim⟩
theorem XO.fnK (xo : XO P cl X k sc W) (hc : (!sc.hot) = true) {f : FK} {d : FDef} (h : P.fn f = some d) (hh : P.isHot f = false) : ∃ a fd ps, At P cl X.K X.mg f d a fd ps ∧ FnOk X.prog X.w X.K X.mg X.base (L2N.CX X.prog X.w) k a fd ps (spK P cl X.K X.mg k d) := by
  obtain ⟨a, fd, ps, h1, h2⟩ := xo.fns hc f d h hh
  refine ⟨a, fd, ps, h1, ?_⟩
  cases k with
  | zero => exact FnOk.never
  | succ k => exact h2 k (Nat.lt_succ_self _)
theorem XO.fnI (xo : XO P cl X k sc W) (hc : (!sc.hot) = true) {f : FK} {d : FDef} (h : P.fn f = some d) (hh : P.isHot f = false) : ∃ a fd ps, At P cl X.K X.mg f d a fd ps ∧ FnOk X.prog X.w X.K X.mg X.base (L2N.CX X.prog X.w) (k - 1) a fd ps (spI P cl X.K X.mg k d) := by
  obtain ⟨a, fd, ps, h1, h2⟩ := xo.fns hc f d h hh
  refine ⟨a, fd, ps, h1, ?_⟩
  match k, h2 with
  | 0, _ => exact FnOk.never
  | 1, _ => exact FnOk.never
  | k + 2, h2 => exact h2 k (by omega)
theorem callW_body {f : FK} {d : FDef} (hf : f.init = false) (hd : P.fn f = some d) {args : List Val} {S : Hm} {m m1 : Sm} {xs : List V} {H : Hp} {Q : VK} {E : Value → Option Addr → Hp → Prop} (e : Ev m m1) (hK : m1.K = X.K) (hH : m1.H = H) (hS : SH cl m1 S) (r : RDs m1 (padded d args) xs)
    (h : callW P k f args S (liftQ cl m Q) (liftX cl X.mg m E)) : spK P cl X.K X.mg k d xs H Q E := by
  have key : ∀ j, bodyW P (callW P j) d (padded d args) S (liftQ cl m Q) (liftX cl X.mg m E) → spF P cl X.K X.mg j d xs H Q E := fun j h =>
    ⟨m1, padded d args, S, hK, hH, hS, r, bodyW_mono (callW_mono P j) (fun v S' h' => liftQ.ev e (fun _ _ _ q => q) h') (fun c S' h' => liftX.ev e h') h⟩
  match k, h with
  | 0, h => exact h
  | 1, h =>
    rw [callW_one] at h
    obtain ⟨d', h1, h2⟩ := h
    rw [hd] at h1
    cases h1
    rw [hf] at h2
    exact key 0 h2
  | k + 2, h =>
    rw [callW_two] at h
    obtain ⟨d', h1, h2⟩ := h
    rw [hd] at h1
    cases h1
    rw [hf] at h2
    exact key (k + 1) h2
theorem callW_init {f : FK} {d : FDef} (hf : f.init = true) (hd : P.fn f = some d) {args : List Val} {S : Hm} {m m1 : Sm} {xs : List V} {H : Hp} {Q : VK} {Q0 : Post} {E : Value → Option Addr → Hp → Prop} (e : Ev m m1) (hK : m1.K = X.K) (hH : m1.H = H) (hS : SH cl m1 S) (r : RDs m1 (padded d args) xs) (hq : ∀ v S', Q0 v S' → liftQ cl m1 Q v S')
    (h : callW P k f args S Q0 (liftX cl X.mg m E)) : spI P cl X.K X.mg k d xs H Q E := by
  match k, h with
  | 0, h => exact h
  | 1, h =>
    rw [callW_one] at h
    obtain ⟨d', h1, h2⟩ := h
    rw [hf] at h2
    exact h2
  | k + 2, h =>
    rw [callW_two] at h
    obtain ⟨d', h1, h2⟩ := h
    rw [hd] at h1
    cases h1
    rw [hf] at h2
    exact ⟨m1, padded d args, S, hK, hH, hS, r, bodyW_mono (callW_mono P k) hq (fun c S' h' => liftX.ev e h') h2⟩
/-- how many defaults are dropped -/
def FDef.cut (d : FDef) (n : Nat) : Nat := n + d.dflt.length - d.params
theorem padded_rd {m : Sm} {d : FDef} {args : List Val} {xs : List V} {n : Nat} (hn : args.length = n) (r : RDs m args xs) : RDs m (padded d args) (xs ++ (d.dflt.drop (d.cut n)).map litV) := by
  unfold padded
  subst hn
  exact r.append (lits_rd _)

variable {a b c o i : E} {ea eb ec eo ei : Expr} {pos : Pos} {es' : Es} {xs : List Expr}
/-! ### calls -/
theorem pe_call0SD {sp : L2.Sp} {CX : CXT} {f : Addr} {fd : FuncData} {ps : List Str} {dvs : List V} {ds : List Value} {E : L2.St → XK} {x : Str} {p : Pos} (F : FnOk X.prog X.w X.K X.mg X.base CX k f fd ps sp) (hr : Room k X.A) (hg : Gl X x) (hm : X.mg x = some (.ref f)) (hk : PySem.W.keepIn X.K (.ref f) = true) (hb : Binds X.K fd ps ds) (hd : Vals dvs ds) (hx : ∀ σ, PassesAt CX X σ (E σ))
    (hdb : (x == ("__debug__" : Str)) = false) : PE X (.Call (.Name x p) [] [] pos) (tCallSD sp dvs E tNil) := by
  refine ⟨fun pins s σ H Q I h => ?_⟩
  refine wpAny_Call_Name_kw (ld_glob I hg hm ?_ hdb)
  exact PySem.W.callWith_K0 I.kIn hk (run_fnSD (us := []) F hr hb hd (hx σ) I .nil h)
theorem e_call {f : String} {d : FDef} {p : Pos} (xo : XO P cl X k sc W) (hc : (!sc.hot) = true) (hh : P.isHot (.f f) = false) (hg : Gl X (Str.ofString f)) (hdb : (Str.ofString f == ("__debug__" : Str)) = false) (hd : P.fn (.f f) = some d) (hn : es'.len ≤ d.params) (hs : xs.all notStar = true) (h0 : xs = [] → es' = .nil) (ha : PA X xs (tEs P cl k X W es')) :
    PE X (.Call (.Name (Str.ofString f) p) xs [] pos) (tE P cl k X W (.call f es')) := by
  obtain ⟨g, fd, ps, at', F⟩ := xo.fnK hc hd hh
  obtain ⟨ds, vd, hb⟩ := at'.bd (d.cut es'.len) (by unfold FDef.cut; omega)
  have hm : X.mg (Str.ofString f) = some (.ref g) := at'.nm
  have fin : ∀ {σ : L2.St} {m : Sm} {env : Env} {S : Hm} {Q : VK} {m1 : Sm} {S1 : Hm} {vs : List Val} {xs : List V}, m.K = X.K → Ev m m1 → SH cl m1 S1 → RDs m1 vs xs → vs.length = es'.len → callW P k (.f f) vs S1 (liftQ cl m Q) (liftX cl X.mg m fun c d H => W c d σ H) →
      spK P cl X.K X.mg k d (xs ++ (d.dflt.drop (d.cut es'.len)).map litV) m1.H Q (WE W σ) := fun {σ m env S Q m1 S1 vs xs} hK e1 hS1 r1 hl h1 => callW_body (k := k) rfl hd e1 (e1.k.trans hK) rfl hS1 (padded_rd hl r1) h1
  cases xs with
  | nil =>
    refine PE.imp (pe_call0SD (E := WE W) F (xo.room hc) hg hm at'.kp hb vd (fun σ => passF xo.fr xo.tk σ) hdb) fun σ H Q ⟨m, env, S, hK, eH, hS, hV, h⟩ => ?_
    subst eH
    simp only [wE] at h
    have h := wEs_len (callW_mono P k) es' h
    rw [h0 rfl] at h fin
    simp only [wEs] at h
    have z := fin (env := env) (S := S) (Q := Q) hK (Ev.refl m) hS .nil h.1 h.2
    rw [h0 rfl]
    exact z
  | cons e es =>
    rw [List.all_cons, Bool.and_eq_true] at hs
    refine PE.imp (pe_callSD (E := WE W) F (xo.room hc) hg hm at'.kp hb vd (fun σ => passF xo.fr xo.tk σ) ha hdb (star_cons hs.1) (star_any hs.2)) fun σ H Q ⟨m, env, S, hK, eH, hS, hV, h⟩ => ?_
    subst eH
    simp only [wE] at h
    refine tEs_of hK hS hV (Ev.refl m) (wEs_len (callW_mono P k) es' h) fun m1 x S1 v e1 hS1 r1 hV1 h1 => ?_
    exact fin (env := env) (S := S) hK e1 hS1 r1 h1.1 h1.2

/-! ### calls with the handled exception -/
theorem SH.at_of {m : Sm} {S : Hm} {b : Addr} {c : String} (h : SH cl m S) (hz : ∀ a d, cl.z a d → a = b ∧ d = c) : SH (cl.at b c) m S := ⟨h.len, h.nd, h.kf, h.ob, fun a d e => hz a d (h.z a d e)⟩
theorem SH.of_at {m m' : Sm} {S S' : Hm} {b : Addr} {c : String} (h0 : SH cl m S) (e : Ev m m') (h : SH (cl.at b c) m' S') : SH cl m' S' := ⟨h.len, h.nd, h.kf, h.ob, fun a d z => h0.z a d (by rw [← e.z]; exact z)⟩
theorem run_fnE {sp : Addr × Obj → L2.Sp} {f : Addr} {fd : FuncData} {ps : List Str} {q : Addr × Obj} {pins : List (Addr × Obj)} {σ : L2.St} {H : Hp} {s : Shared} {Q : VK} {us : List Value} {vs : List V} (F : FnE X.prog X.w X.K X.mg X.base f fd ps sp) (hr : L2H.RoomH 1 X.A) (h1 : L2H.Hot1 X.A q) (hq : q ∈ X.pn) (hb : Binds X.K fd ps []) (fr : InFr X) (tk : TkF X W)
    (I : Inv X pins σ H s) (r : Vals vs us) (h : sp q vs H Q (WE W σ)) : wpAny (model X.prog X.w) X.A (call (.ref f) us) (EP X pins σ Q) X.xe s := by
  have hl : us.length = ps.length := by rw [← r.length]; exact F.len q _ _ _ _ h
  have hbind := hb s us I.kIn (by simpa using hl)
  rw [List.append_nil] at hbind
  obtain ⟨g1, g2, g3, g4, g5⟩ := I.pin q (List.mem_append_left _ hq)
  have hp : L2H.PinOk X.stack H s q := ⟨g1, g2, fun z => (List.mem_cons.mp (I.stkSub q.1 z)).elim g3 g4, g5⟩
  refine wpAny_call (codeAny_mono (F.run q X.A X.stack s H ⟨us, []⟩ us vs Q (WE W σ) hr h1 hp I.env0 hbind r h) fun res s' hres => ?_)
  match res, hres with
  | .error e, he => exact passF fr tk σ pins H s e s' I he
  | .ok (.ret u), he => exact I.after he
theorem e_callH {f : String} {d : FDef} {p : Pos} (xo : XO P cl X k sc W) (hot : sc.hot = true) (hf : f ∈ sc.hf) (hg : Gl X (Str.ofString f)) (hdb : (Str.ofString f == ("__debug__" : Str)) = false) (hd : P.fn (.f f) = some d) (hn : es'.len = d.params) (hd0 : d.dflt = []) (hs : xs.all notStar = true) (h0 : xs ≠ []) (ha : PA X xs (tEs P cl k X W es')) :
    PE X (.Call (.Name (Str.ofString f) p) xs [] pos) (tE P cl k X W (.call f es')) := by
  obtain ⟨g, fd, ps, hm, kp, hl, hb, F⟩ := xo.hots f hf d hd hd0
  obtain ⟨q, c, h1, hq, hz, ho⟩ := xo.zx hot
  have rK := xo.rmh hot (fun e => by rw [e] at hf; cases hf)
  cases xs with
  | nil => exact absurd rfl h0
  | cons e es =>
  rw [List.all_cons, Bool.and_eq_true] at hs
  refine ⟨fun pins s σ H Q I ⟨m, env, S, hK, eH, hS, hV, h⟩ => ?_⟩
  subst eH
  simp only [wE] at h
  refine wpAny_Call_Name_kw (ld_glob I hg hm ?_ hdb)
  have want := tEs_of hK hS hV (Ev.refl m) (wEs_len (callW_mono P k) es' h) (R := fun ys H1 => ∃ m1 S1 vs, Ev m m1 ∧ m1.H = H1 ∧ SH cl m1 S1 ∧ RDs m1 vs ys ∧ vs.length = es'.len ∧ callW P k (.f f) vs S1 (liftQ cl m Q) (liftX cl X.mg m fun c d H => W c d σ H)) fun m1 x S1 v e1 hS1 r1 hV1 h1 => ⟨m1, S1, v, e1, rfl, hS1, r1, h1.1, h1.2⟩
  refine PySem.W.callWith_K (h₀ := X.base) I.ok.mod.kin kp (thn (ha.run pos pins s σ m.H _ I want) fun us s1 ⟨ys, H1, I1, r, m1, S1, vs, e1, eH, hS1, r1, l1, hw⟩ => ⟨I1.kIn, ?_⟩) (star_cons hs.1) (star_any hs.2)
  subst eH
  have hpad : padded d vs = vs := by unfold padded; rw [hd0]; simp
  have body : 1 ≤ k → ∀ j, bodyW P (callW P j) d (padded d vs) S1 (liftQ cl m Q) (liftX cl X.mg m fun c d H => W c d σ H) → wpAny (model X.prog X.w) X.A (call (.ref g) us) (EP X pins σ Q) X.xe s1 := fun k1 j hj => by
    rw [hpad] at hj
    refine run_fnE (F j) (rK.mono k1) h1 hq hb xo.fr xo.tk I1 r ⟨by rw [← r1.length, l1, hn, hl], fun _ => ⟨c, m1, vs, S1, e1.k.trans hK, rfl, ho, hS1.at_of hz, r1, bodyW_mono (callW_mono P j) (fun v S' h' m' x e' hS' r' => h' m' x (e1.trans e') (hS1.of_at e' hS') r') (fun c' S' h' m' C e' hS' hC => h' m' C (e1.trans e') (hS1.of_at e' hS') hC) hj⟩⟩
  match k, hw with
  | 0, hw => exact hw.elim
  | 1, hw =>
    rw [callW_one] at hw
    obtain ⟨d', g1, g2⟩ := hw
    rw [hd] at g1
    cases g1
    exact body (by omega) 0 g2
  | k + 2, hw =>
    rw [callW_two] at hw
    obtain ⟨d', g1, g2⟩ := hw
    rw [hd] at g1
    cases g1
    exact body (by omega) (k + 1) g2

/-- what is between an instance's making and its end -/
theorem run_mk {C f : Addr} {sp : L2.Sp} {fd : FuncData} {ps : List Str} {dvs : List V} {ds : List Value} {kk : Nat} {pins : List (Addr × Obj)} {σ : L2.St} {H : Hp} {s : Shared} {Q : VK} {us : List Value} {vs : List V} (M : Mk X.K C f) (F : FnOk X.prog X.w X.K X.mg X.base (L2N.CX X.prog X.w) kk f fd ps sp) (hr : ∀ vs H Q E, sp vs H Q E → Room (kk + 1) X.A)
    (hb : Binds X.K fd ps ds) (hd : Vals dvs ds) (fr : InFr X) (tk : TkF X W) (I : Inv X pins σ H s) (r : Vals vs us)
    (h : ∀ x dx, H x = none → H dx = none → dx ≠ x → KF X.K (upd (upd H dx (.own x)) x (.ins C dx [])) → sp (.ref x :: (vs ++ dvs)) (upd (upd H dx (.own x)) x (.ins C dx [])) (fun v H2 => v = .non ∧ Q (.ref x) H2) (WE W σ)) :
    wpAny (model X.prog X.w) X.A (call (.ref C) us) (EP X pins σ Q) X.xe s := by
  have I2 := Inv.made (C := C) I
  have hq := h (s.heap.objs.size + 1) s.heap.objs.size (I.hok.fresh (Nat.le_succ _)) (I.hok.fresh (Nat.le_refl _)) (Nat.ne_of_lt (Nat.lt_succ_self _)) (kfree I2)
  have r2 : Vals (V.ref (s.heap.objs.size + 1) :: (vs ++ dvs)) (Value.ref (s.heap.objs.size + 1) :: (us ++ ds)) := .cons rfl (r.append hd)
  have hl : (Value.ref (s.heap.objs.size + 1) :: us ++ ds).length = ps.length := r2.length.symm.trans (F.len _ _ _ _ hq)
  have body := F.run _ X.stack _ _ ⟨Value.ref (s.heap.objs.size + 1) :: us, []⟩ (Value.ref (s.heap.objs.size + 1) :: (us ++ ds)) _ _ (WE W σ) ((hr _ _ _ _ hq).make C us []) (I2.env0.make C us []) (hb _ (Value.ref (s.heap.objs.size + 1) :: us) I2.kIn hl) r2 hq
  refine wpAny_call (make_map (f := f) I.kIn M.makes M.init (beq_iff_eq.mp M.fn) (codeAny_mono body fun r s' h1 => ?_))
  match r, h1 with
  | .error e, h1 => exact passF fr tk σ pins _ _ e s' I2 h1
  | .ok (.ret u), h1 =>
    obtain ⟨v, H', I3, rv, ev, q3⟩ := I2.after h1
    subst ev
    exact ⟨rv, V.ref (s.heap.objs.size + 1), H', I3, rfl, q3⟩
def tMk (K : PySem.W.Frag) (C : Addr) (sp : L2.Sp) (dvs : List V) (W : WX) (t : TA) : TE := fun σ H Q => t σ H fun vs H1 => ∀ x dx, H1 x = none → H1 dx = none → dx ≠ x → KF K (upd (upd H1 dx (.own x)) x (.ins C dx [])) →
  sp (.ref x :: (vs ++ dvs)) (upd (upd H1 dx (.own x)) x (.ins C dx [])) (fun v H2 => v = .non ∧ Q (.ref x) H2) (WE W σ)
theorem pe_mk {C f : Addr} {sp : L2.Sp} {fd : FuncData} {ps : List Str} {dvs : List V} {ds : List Value} {kk : Nat} {x : Str} {p : Pos} {t : TA} (M : Mk X.K C f) (F : FnOk X.prog X.w X.K X.mg X.base (L2N.CX X.prog X.w) kk f fd ps sp) (hr : ∀ vs H Q E, sp vs H Q E → Room (kk + 1) X.A) (hg : Gl X x) (hm : X.mg x = some (.ref C))
    (hb : Binds X.K fd ps ds) (hd : Vals dvs ds) (fr : InFr X) (tk : TkF X W) (ha : PA X xs t) (hs : xs.all notStar = true) (hdb : (x == ("__debug__" : Str)) = false) (h0 : xs = [] → ∀ σ H Q, t σ H Q → Q [] H) :
    PE X (.Call (.Name x p) xs [] pos) (tMk X.K C sp dvs W t) := by
  refine ⟨fun pins s σ H Q I h => ?_⟩
  refine wpAny_Call_Name_kw (ld_glob I hg hm ?_ hdb)
  cases xs with
  | nil => exact PySem.W.callWith_K0 I.kIn M.kp (run_mk (us := []) M F hr hb hd fr tk I .nil (h0 rfl _ _ _ h))
  | cons e es =>
    rw [List.all_cons, Bool.and_eq_true] at hs
    exact PySem.W.callWith_K (h₀ := X.base) I.ok.mod.kin M.kp (thn (ha.run pos pins s σ H _ I h) fun us s1 ⟨vs, H1, I1, r, q⟩ => ⟨I1.kIn, run_mk M F hr hb hd fr tk I1 r q⟩) (star_cons hs.1) (star_any hs.2)
theorem kf_under {K : PySem.W.Frag} {H : Hp} {x dx : Addr} {o o' : HO} (h : KF K (upd (upd H dx o) x o')) : KF K (upd H dx o) := fun b u e => by
  have := h b u e
  by_cases z : b = x
  · subst z; rw [upd_same] at this; cases this
  · rwa [upd_ne z] at this
theorem e_make {c : String} {C : Addr} {d : FDef} {p : Pos} (xo : XO P cl X k sc W) (hc : (!sc.hot) = true) (hg : Gl X (Str.ofString c)) (hdb : (Str.ofString c == ("__debug__" : Str)) = false) (hd : P.fn (.m c "__init__") = some d) (hC : cl c C) (hn : es'.len + 1 ≤ d.params) (hs : xs.all notStar = true) (h0 : xs = [] → es' = .nil) (ha : PA X xs (tEs P cl k X W es')) :
    PE X (.Call (.Name (Str.ofString c) p) xs [] pos) (tE P cl k X W (.make c es')) := by
  obtain ⟨g, fd, ps, at', F⟩ := xo.fnI hc hd rfl
  obtain ⟨ds, vd, hb⟩ := at'.bd (d.cut (es'.len + 1)) (by unfold FDef.cut; omega)
  obtain ⟨hm, cls⟩ := xo.ln.clc c C hC
  have M : Mk X.K C g := (at'.nm C hC).2 rfl
  have hr : ∀ vs H Q E, spI P cl X.K X.mg k d vs H Q E → Room (k - 1 + 1) X.A := fun vs H Q E h => by
    match k, h, xo.room hc with
    | 0, h, _ => exact h.elim
    | k + 1, _, r => exact r
  refine PE.imp (pe_mk M F hr hg hm hb vd xo.fr xo.tk ha hs hdb fun hx σ H Q ⟨m, env, S, hK, eH, hS, hV, h⟩ => ?_) fun σ H Q ⟨m, env, S, hK, eH, hS, hV, h⟩ => ?_
  · subst eH
    rw [h0 hx] at h
    simp only [wEs] at h
    exact h m [] (Ev.refl m) hS .nil
  · subst eH
    simp only [wE] at h
    refine tEs_of hK hS hV (Ev.refl m) (wEs_len (callW_mono P k) es' h) fun m1 x S1 v e1 hS1 r1 hV1 h1 => ?_
    intro y dy hy hdy hne kf
    rw [← hK, ← e1.k] at kf
    have e2 : Ev m1 { m1 with H := upd m1.H dy (.own y) } := Ev.outside hdy
    have hS2 := hS1.outside hdy (kf_under kf)
    have hy2 : upd m1.H dy (.own y) y = none := by rw [upd_ne (Ne.symm hne)]; exact hy
    have e3 : Ev { m1 with H := upd m1.H dy (.own y) } { m1 with H := upd (upd m1.H dy (.own y)) y (.ins C dy []), em := m1.em ++ [y] } := Ev.alloc (m := { m1 with H := upd m1.H dy (.own y) }) hy2
    have hS3 : SH cl { m1 with H := upd (upd m1.H dy (.own y)) y (.ins C dy []), em := m1.em ++ [y] } (S1 ++ [.ins c []]) := hS2.alloc hy2 kf ⟨C, dy, [], upd_same, hC, .nil⟩
    have e13 := (e1.trans e2).trans e3
    have r3 : RDs { m1 with H := upd (upd m1.H dy (.own y)) y (.ins C dy []), em := m1.em ++ [y] } (.ref S1.length :: v) (.ref y :: x) := .cons (.ref (by show (m1.em ++ [y])[S1.length]? = some y; rw [← hS1.len]; simp)) (r1.up ((e2.trans e3).up hS1))
    refine callW_init (f := .m c "__init__") (k := k) rfl hd e13 (e13.k.trans hK) rfl hS3 (padded_rd (n := es'.len + 1) (by rw [List.length_cons, h1.1]) r3) (fun v' S' hv => ?_) h1.2
    obtain ⟨rfl, hv⟩ := hv
    intro m' x' e' hS' r'
    cases r'
    refine ⟨rfl, hv m' (.ref y) (e13.trans e') hS' (.ref (em_get e'.em ?_))⟩
    show (m1.em ++ [y])[S1.length]? = some y
    rw [← hS1.len]
    simp
/-- o.m(..) -/
theorem e_meth {c mt : String} {d : FDef} {apos : Pos} (xo : XO P cl X k sc W) (hc : (!sc.hot) = true) (hd : P.fn (.m c mt) = some d) (hni : (mt == "__init__") = false) (hn : es'.len + 1 ≤ d.params) (hb : plainBase eo = true) (hl : (apos.endLine == pos.line) = true) (hlen : xs.length < 29) (hs : xs.all notStar = true) (h0 : xs = [] → es' = .nil) (ho : PE X eo (tE P cl k X W o)) (ha : PA X xs (tEs P cl k X W es')) :
    PE X (.Call (.Attribute eo (Str.ofString mt) apos) xs [] pos) (tE P cl k X W (.meth c mt o es')) := by
  obtain ⟨g, fd, ps, at', F⟩ := xo.fnK hc hd rfl
  obtain ⟨ds, vd, hbd⟩ := at'.bd (d.cut (es'.len + 1)) (by unfold FDef.cut; omega)
  refine ⟨fun pins s σ H Q I ⟨m, env, S, hK, eH, hS, hV, h⟩ => ?_⟩
  subst eH
  simp only [wE] at h
  refine methcall_of ho I (tE_of hK hS hV (Ev.refl m) h fun m1 x S1 v e1 hS1 r1 hV1 h1 => ?_) (meth_eval hb hs hlen hl)
  obtain ⟨n, fs, rfl, h2, h3, h4⟩ := h1
  obtain ⟨y, hy, C, dx, gs, hy2, hC, rf⟩ := hS1.at h2
  cases r1 with
  | @ref _ y' hy' =>
  rw [hy] at hy'
  cases hy'
  obtain ⟨hm, cls⟩ := xo.ln.clc c C hC
  have mt' : Meth X.K C (Str.ofString mt) g := (at'.nm C hC).1
  have lk : gs.lookup (Str.ofString mt) = none := by
    rcases rf.look mt with ⟨v, x, q, _⟩ | ⟨_, q⟩
    · rw [h3] at q; cases q
    · exact q
  refine ⟨y, C, dx, gs, g, rfl, hy2, cls, mt', lk, fun s1 I1 => ?_⟩
  have fin : ∀ {m2 : Sm} {S2 : Hm} {vs : List Val} {xs : List V}, Ev m1 m2 → SH cl m2 S2 → RDs m2 vs xs → vs.length = es'.len → callW P k (.m c mt) (.ref n :: vs) S2 (liftQ cl m Q) (liftX cl X.mg m fun c d H => W c d σ H) →
      spK P cl X.K X.mg k d ((.ref y :: xs) ++ (d.dflt.drop (d.cut (es'.len + 1))).map litV) m2.H Q (WE W σ) := fun {m2 S2 vs xs} e2 hS2 r2 hl h5 =>
        callW_body (k := k) (f := .m c mt) hni hd (e1.trans e2) ((e1.trans e2).k.trans hK) rfl hS2 (padded_rd (n := es'.len + 1) (by rw [List.length_cons, hl]) (.cons (.ref (em_get e2.em hy)) r2)) h5
  cases xs with
  | nil =>
    have h4 := wEs_len (callW_mono P k) es' h4
    rw [h0 rfl] at h4 fin
    simp only [wEs] at h4
    exact PySem.W.callWith_K0 (first := [.ref y]) I1.kIn mt'.kp (run_fnSD (us := [.ref y]) (vs := [.ref y]) (E := WE W) F (xo.room hc) hbd (by rw [h0 rfl] at vd; exact vd) (passF xo.fr xo.tk σ) I1 (.cons rfl .nil) (fin (Ev.refl m1) hS1 .nil h4.1 h4.2))
  | cons e es =>
    rw [List.all_cons, Bool.and_eq_true] at hs
    refine PySem.W.callWith_K (first := [.ref y]) (h₀ := X.base) I1.ok.mod.kin mt'.kp (thn (ha.run pos pins s1 σ m1.H (fun xs H => spK P cl X.K X.mg k d ((.ref y :: xs) ++ (d.dflt.drop (d.cut (es'.len + 1))).map litV) H Q (WE W σ)) I1 ?_) fun us s2 ⟨vs, H2, I2, r, q⟩ => ⟨I2.kIn, ?_⟩) (star_cons hs.1) (star_any hs.2)
    · exact tEs_of (e1.k.trans hK) hS1 hV1 e1 (wEs_len (callW_mono P k) es' h4) fun m2 x2 S2 v2 e2 hS2 r2 hV2 h5 => fin e2 hS2 r2 h5.1 h5.2
    · exact run_fnSD (us := .ref y :: us) (vs := .ref y :: vs) (E := WE W) F (xo.room hc) hbd vd (passF xo.fr xo.tk σ) I2 (.cons rfl r) q
end
end Mi

set_option maxHeartbeats 4000000
namespace Mi
open PySem PySem.Spec L2 PyProof.Rows
/-! ### built-in functions: names -/
def biN : Bi → String
  | .len => "len"
  | .abs => "abs"
  | .min => "min"
  | .max => "max"
  | .int => "int"
  | .str => "str"
  | .list => "list"
  | .tuple => "tuple"
  | .dict => "dict"
  | .sum => "sum"
  | .sorted => "sorted"
  | .all => "all"
  | .any => "any"
  | .range => "range"
theorem bi_boot (f : Bi) : bootBuiltins (Str.ofString (biN f)) = some (biV f) := by cases f <;> decide +kernel
theorem bi_mem (f : Bi) : biN f ∈ ["len", "abs", "min", "max", "int", "str", "list", "tuple", "dict", "sum", "sorted", "all", "any", "range", "enumerate", "zip", "reversed", "isinstance", "bool"] := by cases f <;> decide
theorem bi_name (f : Bi) : Str.ofString (biN f) ≠ ("__name__" : Str) := by cases f <;> decide +kernel
theorem bi_debug (f : Bi) : (Str.ofString (biN f) == ("__debug__" : Str)) = false := by cases f <;> decide +kernel
theorem bm_pa (b : Bm) : PlainAttrs (bmI b).1 := by cases b <;> first | exact PySem.F.plainAttrs_list | exact PySem.F.plainAttrs_dict | exact PySem.F.plainAttrs_str
theorem bm_slot (b : Bm) : Slot (bmI b).1 (Str.ofString (bmI b).2.1) (bmI b).2.2 := by
  cases b
  · exact PySem.F.slot_list_append
  · exact PySem.F.slot_list_extend
  · exact PySem.F.slot_list_pop
  · exact PySem.F.slot_list_insert
  · exact PySem.F.slot_list_reverse
  · exact PySem.F.slot_list_count
  · exact PySem.F.slot_list_index
  · exact PySem.F.slot_list_clear
  · exact PySem.F.slot_dict_clear
  · exact PySem.F.slot_dict_get
  · exact PySem.F.slot_dict_setdefault
  · exact PySem.F.slot_dict_update
  · exact PySem.F.slot_str_startswith
  · exact PySem.F.slot_str_split
  · exact PySem.F.slot_str_join
  · exact PySem.F.slot_str_isupper
  · exact PySem.F.slot_str_upper
  · exact PySem.F.slot_str_replace
theorem bm_type (b : Bm) : typeOf (.builtin (bmI b).2.2) = pure (.type "method_descriptor") := by
  cases b
  · exact PySem.F.type_list_append
  · exact PySem.F.type_list_extend
  · exact PySem.F.type_list_pop
  · exact PySem.F.type_list_insert
  · exact PySem.F.type_list_reverse
  · exact PySem.F.type_list_count
  · exact PySem.F.type_list_index
  · exact PySem.F.type_list_clear
  · exact PySem.F.type_dict_clear
  · exact PySem.F.type_dict_get
  · exact PySem.F.type_dict_setdefault
  · exact PySem.F.type_dict_update
  · exact PySem.F.type_str_startswith
  · exact PySem.F.type_str_split
  · exact PySem.F.type_str_join
  · exact PySem.F.type_str_isupper
  · exact PySem.F.type_str_upper
  · exact PySem.F.type_str_replace
section
variable {P : Pg} {cl : Cl} {k : Nat} {X : Cx} {W : WX} {sc : Ko}
variable {a b c o i : E} {ea eb ec eo ei : Expr} {pos : Pos} {es' : Es} {xs : List Expr}
theorem e_fld {f : String} (xo : XO P cl X k sc W) (hf : f ∈ P.flds) (hb : plainBase eo = true) (ho : PE X eo (tE P cl k X W o)) : PE X (.Attribute eo (Str.ofString f) pos) (tE P cl k X W (.fld o f)) :=
  PE.imp (PE.kf (pe_fld ho (base_of hb))) fun σ H Q ⟨m, env, S, hK, eH, hS, hV, h⟩ => by
    subst eH
    simp only [wE] at h
    refine tE_of hK hS hV (Ev.refl m) h fun m1 x S1 v e1 hS1 r1 hV1 h1 => ?_
    obtain ⟨n, c, fs, w, rfl, h2, h3, h4⟩ := h1
    cases r1 with
    | @ref _ y hy =>
    obtain ⟨C, dx, gs, hy2, hC, rf⟩ := hS1.ob n _ y h2 hy
    rcases rf.look f with ⟨v, x, q1, q2, q3⟩ | ⟨q, _⟩
    · rw [h3] at q1
      cases q1
      exact ⟨y, C, dx, gs, x, rfl, hy2, (xo.ln.clc c C hC).2, xo.ln.fld c C hC f hf, q2, fun _ => h4 m1 x e1 hS1 q3⟩
    · rw [h3] at q; cases q
theorem e_sub (hu : X.A.units + 1 < cLine) (hi : plainIx ei = true) (ho : PE X eo (tE P cl k X W o)) (hx : PE X ei (tE P cl k X W i)) : PE X (.Subscript eo ei pos) (tE P cl k X W (.sub o i)) :=
  PE.imp (pe_ix (ix_ok (cl := cl) hu) ho hx (plainIx_of hi)) fun σ H Q ⟨m, env, S, hK, eH, hS, hV, h⟩ => by
    subst eH
    simp only [wE] at h
    refine tE_of hK hS hV (Ev.refl m) h fun m1 x S1 v e1 hS1 r1 hV1 h1 => ?_
    refine tE_of (e1.k.trans hK) hS1 hV1 e1 h1 fun m2 y S2 w e2 hS2 r2 hV2 h2 => ?_
    exact ⟨m2, S2, v, w, (e1.trans e2).k.trans hK, rfl, hS2, r1.up (e2.up hS1), r2, subW_mono (fun z S3 h3 => liftQ.ev (e1.trans e2) (fun _ _ _ q => q) h3) h2⟩
theorem o_none : PO X none (tOs P cl k X W .none) :=
  PO.imp po_none fun σ H Q ⟨m, env, S, hK, eH, hS, hV, h⟩ => by
    subst eH
    simp only [wO] at h
    exact h m (Ev.refl m) hS
theorem o_some (ha : PE X ea (tE P cl k X W a)) : PO X (some ea) (tOs P cl k X W (.some a)) :=
  PO.imp (po_some ha) fun σ H Q ⟨m, env, S, hK, eH, hS, hV, h⟩ => by
    subst eH
    simp only [wO] at h
    refine tE_of hK hS hV (Ev.refl m) h fun m1 x S1 v e1 hS1 r1 hV1 h1 => ?_
    obtain ⟨j, rfl, h1⟩ := h1
    cases r1
    exact ⟨j, rfl, h1 m1 e1 hS1⟩
theorem e_slice {lo hi : Oe} {el eh : Option Expr} {p2 : Pos} (ho : PE X eo (tE P cl k X W o)) (hl : PO X el (tOs P cl k X W lo)) (hh : PO X eh (tOs P cl k X W hi)) : PE X (.Subscript eo (.Slice el eh none p2) pos) (tE P cl k X W (.slice o lo hi)) :=
  PE.imp (pe_slice (sl_ok (cl := cl)) ho hl hh) fun σ H Q ⟨m, env, S, hK, eH, hS, hV, h⟩ => by
    subst eH
    simp only [wE] at h
    refine tE_of hK hS hV (Ev.refl m) h fun m1 x S1 v e1 hS1 r1 hV1 h1 => ?_
    refine tOs_of (e1.k.trans hK) hS1 hV1 e1 h1 fun m2 S2 l e2 hS2 hV2 h2 => ?_
    refine tOs_of ((e1.trans e2).k.trans hK) hS2 hV2 (e1.trans e2) h2 fun m3 S3 u e3 hS3 hV3 h3 => ?_
    exact ⟨m3, S3, v, ((e1.trans e2).trans e3).k.trans hK, rfl, hS3, r1.up ((e2.trans e3).up hS1), sliceW_mono (fun z S4 h4 => liftQ.ev ((e1.trans e2).trans e3) (fun _ _ _ q => q) h4) h3⟩
theorem e_bi {f : Bi} {p : Pos} {e : Expr} {es : List Expr} (xo : XO P cl X k sc W) (hc : (!sc.hot) = true) (hg : Gl X (Str.ofString (biN f))) (hs : (e :: es).all notStar = true) (ha : PA X (e :: es) (tEs P cl k X W es')) :
    PE X (.Call (.Name (Str.ofString (biN f)) p) (e :: es) [] pos) (tE P cl k X W (.bi f es')) := by
  have hm := xo.ln.bi (biN f) (bi_mem f)
  rw [List.all_cons, Bool.and_eq_true] at hs
  have ok := bi_ok (cl := cl) (xo.calm hc) f
  have hv := bi_boot f
  have rd : PE X (.Call (.Name (Str.ofString (biN f)) p) (e :: es) [] pos) (tCB (rA X cl (biW f)) (tEs P cl k X W es')) := by
    cases f <;> first
      | exact pe_callB ok hg hm hv ha (bi_name _) (bi_debug _) (star_cons hs.1) (star_any hs.2)
      | exact pe_callTy ok hg hm hv ha (bi_name _) (bi_debug _) (star_cons hs.1) (star_any hs.2)
  refine PE.imp rd fun σ H Q ⟨m, env, S, hK, eH, hS, hV, h⟩ => ?_
  subst eH
  simp only [wE] at h
  refine tEs_of hK hS hV (Ev.refl m) h fun m1 x S1 v e1 hS1 r1 hV1 h1 => ?_
  exact ⟨m1, S1, v, e1.k.trans hK, rfl, hS1, r1, biW_mono (fun z S3 h3 => liftQ.ev e1 (fun _ _ _ q => q) h3) h1⟩
theorem bmT_rd {b : Bm} {m : Sm} {S : Hm} {v : Val} {x : V} (hS : SH cl m S) (r : RD m v x) (h : bmT b v S) : tyV m.K (bmI b).1 x m.H := by
  cases b <;> simp only [bmT, bmI] at h ⊢
  all_goals first
    | (obtain ⟨n, xs, rfl, h⟩ := h
       cases r with
       | @ref _ y hy =>
       first
         | (obtain ⟨vs, hq, _⟩ := hS.lst h hy
            exact .inl ⟨rfl, vs, hq⟩)
         | (obtain ⟨vs, hq, _⟩ := hS.dic' h hy
            exact .inr (.inr (.inl ⟨rfl, .inl ⟨vs, hq⟩⟩))))
    | (obtain ⟨z, rfl⟩ := h
       cases r
       rfl)
theorem e_bm0 {bm : Bm} {apos : Pos} (hu : bm = .update → X.calm = true) (xo : XO P cl X k sc W) (hb : plainBase eo = true) (hl : (apos.endLine == pos.line) = true) (ho : PE X eo (tE P cl k X W o)) :
    PE X (.Call (.Attribute eo (Str.ofString (bmI bm).2.1) apos) [] [] pos) (tE P cl k X W (.bm bm o .nil)) :=
  PE.imp (pe_bm0 (bm_pa bm) (bm_slot bm) (bm_type bm) (mt_ok (cl := cl) (by have := xo.un; omega) bm hu) ho (base_of hb) hl) fun σ H Q ⟨m, env, S, hK, eH, hS, hV, h⟩ => by
    subst eH
    simp only [wE, wEs] at h
    refine tE_of hK hS hV (Ev.refl m) h fun m1 x S1 v e1 hS1 r1 hV1 h1 => ?_
    refine ⟨by rw [← hK, ← e1.k]; exact bmT_rd hS1 r1 h1.1, m1, S1, v, [], e1.k.trans hK, rfl, hS1, r1, .nil, bmW_mono (fun z S3 h3 => liftQ.ev e1 (fun _ _ _ q => q) h3) h1.2⟩
theorem e_bm {bm : Bm} {apos : Pos} {e : Expr} {es : List Expr} (hu : bm = .update → X.calm = true) (xo : XO P cl X k sc W) (hb : plainBase eo = true) (hl : (apos.endLine == pos.line) = true) (hs : (e :: es).all notStar = true) (hlen : (e :: es).length < 29) (ho : PE X eo (tE P cl k X W o)) (ha : PA X (e :: es) (tEs P cl k X W es')) :
    PE X (.Call (.Attribute eo (Str.ofString (bmI bm).2.1) apos) (e :: es) [] pos) (tE P cl k X W (.bm bm o es')) := by
  have hs' := hs
  rw [List.all_cons, Bool.and_eq_true] at hs
  refine PE.imp (pe_bm (bm_pa bm) (bm_slot bm) (bm_type bm) (mt_ok (cl := cl) (by have := xo.un; omega) bm hu) ho ha (base_of hb) ?_ hl (star_cons hs.1) (star_any hs.2)) fun σ H Q ⟨m, env, S, hK, eH, hS, hV, h⟩ => ?_
  · rw [star_all hs']
    show (true && true && decide ((e :: es).length + 0 + 0 < 30)) = true
    simp
    simp at hlen
    omega
  · subst eH
    simp only [wE] at h
    refine tE_of hK hS hV (Ev.refl m) h fun m1 x S1 v e1 hS1 r1 hV1 h1 => ?_
    refine ⟨by rw [← hK, ← e1.k]; exact bmT_rd hS1 r1 h1.1, ?_⟩
    refine tEs_of (e1.k.trans hK) hS1 hV1 e1 h1.2 fun m2 y S2 w e2 hS2 r2 hV2 h2 => ?_
    exact ⟨m2, S2, v, w, (e1.trans e2).k.trans hK, rfl, hS2, r1.up (e2.up hS1), r2, bmW_mono (fun z S3 h3 => liftQ.ev (e1.trans e2) (fun _ _ _ q => q) h3) h2⟩
end
end Mi

set_option maxHeartbeats 4000000
namespace Mi
open PySem PySem.Spec L2 PyProof.Rows
/-! ### isinstance -/
def tyS : Ty → String
  | .int => "int"
  | .bool => "bool"
  | .str => "str"
  | .tuple => "tuple"
  | .list => "list"
  | .dict => "dict"
  | .cls c => c
  | .exc c _ => c
def TyU (cl : Cl) : Ty → Value → Prop
  | .cls c, u => ∃ C, cl c C ∧ u = .ref C
  | .exc _ _, _ => True
  | t, u => u = .type (tyS t)
section
variable {P : Pg} {cl : Cl} {k : Nat} {X : Cx} {W : WX} {sc : Ko} {m : Sm} {S : Hm}
theorem tag_B {K : PySem.W.Frag} (ln : LnI K cl) {v : Val} {tag : String} (ht : tag ∈ ["NoneType", "int", "bool", "str", "tuple", "list", "dict"]) (hx : ∀ c sb, isTy v S (.exc c sb) = none) (hc : ∀ c b, isTy v S (.cls c) = some b → b = false)
    (h1 : ∀ b, isTy v S .int = some b → kitB tag "int" = some b) (h2 : ∀ b, isTy v S .bool = some b → kitB tag "bool" = some b) (h3 : ∀ b, isTy v S .str = some b → kitB tag "str" = some b)
    (h4 : ∀ b, isTy v S .tuple = some b → kitB tag "tuple" = some b) (h5 : ∀ b, isTy v S .list = some b → kitB tag "list" = some b) (h6 : ∀ b, isTy v S .dict = some b → kitB tag "dict" = some b) :
    ∀ t b u, isTy v S t = some b → TyU cl t u → PySem.W.kitOne K (.type tag) u = some b := by
  intro t b u h hu
  cases t with
  | cls c =>
    obtain ⟨C, hC, rfl⟩ := hu
    rw [hc c b h]
    exact ln.isC c C hC tag ht
  | exc c sb => rw [hx] at h; cases h
  | int => cases hu; exact kit_ty (h1 b h)
  | bool => cases hu; exact kit_ty (h2 b h)
  | str => cases hu; exact kit_ty (h3 b h)
  | tuple => cases hu; exact kit_ty (h4 b h)
  | list => cases hu; exact kit_ty (h5 b h)
  | dict => cases hu; exact kit_ty (h6 b h)
theorem kbs : kitB "NoneType" "int" = some false ∧ kitB "NoneType" "bool" = some false ∧ kitB "NoneType" "str" = some false ∧ kitB "NoneType" "tuple" = some false ∧ kitB "NoneType" "list" = some false ∧ kitB "NoneType" "dict" = some false := by decide +kernel
theorem kbb : kitB "bool" "int" = some true ∧ kitB "bool" "bool" = some true ∧ kitB "bool" "str" = some false ∧ kitB "bool" "tuple" = some false ∧ kitB "bool" "list" = some false ∧ kitB "bool" "dict" = some false := by decide +kernel
theorem kbi : kitB "int" "int" = some true ∧ kitB "int" "bool" = some false ∧ kitB "int" "str" = some false ∧ kitB "int" "tuple" = some false ∧ kitB "int" "list" = some false ∧ kitB "int" "dict" = some false := by decide +kernel
theorem kbt : kitB "str" "int" = some false ∧ kitB "str" "bool" = some false ∧ kitB "str" "str" = some true ∧ kitB "str" "tuple" = some false ∧ kitB "str" "list" = some false ∧ kitB "str" "dict" = some false := by decide +kernel
theorem kbu : kitB "tuple" "int" = some false ∧ kitB "tuple" "bool" = some false ∧ kitB "tuple" "str" = some false ∧ kitB "tuple" "tuple" = some true ∧ kitB "tuple" "list" = some false ∧ kitB "tuple" "dict" = some false := by decide +kernel
theorem kbl : kitB "list" "int" = some false ∧ kitB "list" "bool" = some false ∧ kitB "list" "str" = some false ∧ kitB "list" "tuple" = some false ∧ kitB "list" "list" = some true ∧ kitB "list" "dict" = some false := by decide +kernel
theorem kbd : kitB "dict" "int" = some false ∧ kitB "dict" "bool" = some false ∧ kitB "dict" "str" = some false ∧ kitB "dict" "tuple" = some false ∧ kitB "dict" "list" = some false ∧ kitB "dict" "dict" = some true := by decide +kernel
theorem tag_rd (ln : LnI m.K cl) (lc : ∀ c C, cl c C → Cls m.K C) (hS : SH cl m S) {v : Val} {x : V} (r : RD m v x) (hv : ∀ c, v ≠ .exc c) {t : Ty} {b : Bool} (h : isTy v S t = some b) : ∃ tg, TyX m.K m.H x tg ∧ ∀ t b u, isTy v S t = some b → TyU cl t u → PySem.W.kitOne m.K tg u = some b := by
  cases r with
  | non => exact ⟨_, .base .non, tag_B ln (by decide) (fun _ _ => rfl) (fun c b h => by simp [isTy] at h; exact h) (fun b h => by simp [isTy] at h; subst h; exact kbs.1) (fun b h => by simp [isTy] at h; subst h; exact kbs.2.1) (fun b h => by simp [isTy] at h; subst h; exact kbs.2.2.1) (fun b h => by simp [isTy] at h; subst h; exact kbs.2.2.2.1) (fun b h => by simp [isTy] at h; subst h; exact kbs.2.2.2.2.1) (fun b h => by simp [isTy] at h; subst h; exact kbs.2.2.2.2.2)⟩
  | bl z => exact ⟨_, .base (.bl z), tag_B ln (by decide) (fun _ _ => rfl) (fun c b h => by simp [isTy] at h; exact h) (fun b h => by simp [isTy] at h; subst h; exact kbb.1) (fun b h => by simp [isTy] at h; subst h; exact kbb.2.1) (fun b h => by simp [isTy] at h; subst h; exact kbb.2.2.1) (fun b h => by simp [isTy] at h; subst h; exact kbb.2.2.2.1) (fun b h => by simp [isTy] at h; subst h; exact kbb.2.2.2.2.1) (fun b h => by simp [isTy] at h; subst h; exact kbb.2.2.2.2.2)⟩
  | int z => exact ⟨_, .base (.int z), tag_B ln (by decide) (fun _ _ => rfl) (fun c b h => by simp [isTy] at h; exact h) (fun b h => by simp [isTy] at h; subst h; exact kbi.1) (fun b h => by simp [isTy] at h; subst h; exact kbi.2.1) (fun b h => by simp [isTy] at h; subst h; exact kbi.2.2.1) (fun b h => by simp [isTy] at h; subst h; exact kbi.2.2.2.1) (fun b h => by simp [isTy] at h; subst h; exact kbi.2.2.2.2.1) (fun b h => by simp [isTy] at h; subst h; exact kbi.2.2.2.2.2)⟩
  | str z => exact ⟨_, .base (.str _), tag_B ln (by decide) (fun _ _ => rfl) (fun c b h => by simp [isTy] at h; exact h) (fun b h => by simp [isTy] at h; subst h; exact kbt.1) (fun b h => by simp [isTy] at h; subst h; exact kbt.2.1) (fun b h => by simp [isTy] at h; subst h; exact kbt.2.2.1) (fun b h => by simp [isTy] at h; subst h; exact kbt.2.2.2.1) (fun b h => by simp [isTy] at h; subst h; exact kbt.2.2.2.2.1) (fun b h => by simp [isTy] at h; subst h; exact kbt.2.2.2.2.2)⟩
  | @tup a xs ds hq rs =>
    have fin : ∀ t b u, isTy (.tup ds) S t = some b → TyU cl t u → PySem.W.kitOne m.K (.type "tuple") u = some b := tag_B ln (by decide) (fun _ _ => rfl) (fun c b h => by simp [isTy] at h; exact h) (fun b h => by simp [isTy] at h; subst h; exact kbu.1) (fun b h => by simp [isTy] at h; subst h; exact kbu.2.1) (fun b h => by simp [isTy] at h; subst h; exact kbu.2.2.1) (fun b h => by simp [isTy] at h; subst h; exact kbu.2.2.2.1) (fun b h => by simp [isTy] at h; subst h; exact kbu.2.2.2.2.1) (fun b h => by simp [isTy] at h; subst h; exact kbu.2.2.2.2.2)
    rcases hq with (hq | ⟨o, hq⟩) | ⟨o, its, n, hk, hc, hd, hz, hv⟩
    · exact ⟨_, .base (.tup hq), fin⟩
    · exact ⟨_, .fTuple hq, fin⟩
    · exact ⟨_, .kTuple hk hc, fin⟩
  | @ref n a ha =>
    have fl : (∀ c b, isTy (.ref n) S (.cls c) = some b → b = false) → (∀ b, isTy (.ref n) S .list = some b → b = true) → (∀ b, isTy (.ref n) S .dict = some b → b = false) → ∀ t b u, isTy (.ref n) S t = some b → TyU cl t u → PySem.W.kitOne m.K (.type "list") u = some b := fun hc h1 h2 =>
      tag_B ln (by decide) (fun _ _ => rfl) hc (fun b h => by simp [isTy] at h; subst h; exact kbl.1) (fun b h => by simp [isTy] at h; subst h; exact kbl.2.1) (fun b h => by simp [isTy] at h; subst h; exact kbl.2.2.1) (fun b h => by simp [isTy] at h; subst h; exact kbl.2.2.2.1) (fun b h => by rw [h1 b h]; exact kbl.2.2.2.2.1) (fun b h => by rw [h2 b h]; exact kbl.2.2.2.2.2)
    have fd : (∀ c b, isTy (.ref n) S (.cls c) = some b → b = false) → (∀ b, isTy (.ref n) S .list = some b → b = false) → (∀ b, isTy (.ref n) S .dict = some b → b = true) → ∀ t b u, isTy (.ref n) S t = some b → TyU cl t u → PySem.W.kitOne m.K (.type "dict") u = some b := fun hc h1 h2 =>
      tag_B ln (by decide) (fun _ _ => rfl) hc (fun b h => by simp [isTy] at h; subst h; exact kbd.1) (fun b h => by simp [isTy] at h; subst h; exact kbd.2.1) (fun b h => by simp [isTy] at h; subst h; exact kbd.2.2.1) (fun b h => by simp [isTy] at h; subst h; exact kbd.2.2.2.1) (fun b h => by rw [h1 b h]; exact kbd.2.2.2.2.1) (fun b h => by rw [h2 b h]; exact kbd.2.2.2.2.2)
    have hn : n < S.length := by rw [← hS.len]; exact (List.getElem?_eq_some_iff.mp ha).1
    have hob := hS.ob n S[n] a (List.getElem?_eq_getElem hn) ha
    have e : S[n]? = some S[n] := List.getElem?_eq_getElem hn
    generalize hoo : S[n] = oo at hob e
    cases oo with
    | lst ds =>
      obtain ⟨vs, hq, _⟩ := hob
      exact ⟨_, .base (.lst hq), fl (fun c b h => by simp [isTy, e] at h; exact h) (fun b h => by simp [isTy, e] at h; exact h) (fun b h => by simp [isTy, e] at h; exact h)⟩
    | dic ds =>
      obtain ⟨vs, hq, _⟩ := hob
      exact ⟨_, .base (.dK hq), fd (fun c b h => by simp [isTy, e] at h; exact h) (fun b h => by simp [isTy, e] at h; exact h) (fun b h => by simp [isTy, e] at h; exact h)⟩
    | ins c fs =>
      obtain ⟨C, dx, gs, hq, hC, _⟩ := hob
      obtain ⟨i1, i2, i3, i4⟩ := ln.isT c C hC
      refine ⟨_, .base (.ins hq (lc c C hC) i1 i2 i3 i4), fun t b u h hu => ?_⟩
      have nb : ∀ s ∈ ["int", "bool", "str", "tuple", "list", "dict"], PySem.W.kitOne m.K (.ref C) (.type s) = some false := ln.isB c C hC
      cases t with
      | cls c' =>
        obtain ⟨C', hC', rfl⟩ := hu
        simp [isTy, e] at h
        rw [← h]
        exact ln.isCC c C c' C' hC hC'
      | int => cases hu; simp [isTy, e] at h; subst h; exact nb _ (by decide)
      | bool => cases hu; simp [isTy, e] at h; subst h; exact nb _ (by decide)
      | str => cases hu; simp [isTy, e] at h; subst h; exact nb _ (by decide)
      | tuple => cases hu; simp [isTy, e] at h; subst h; exact nb _ (by decide)
      | list => cases hu; simp [isTy, e] at h; subst h; exact nb _ (by decide)
      | dict => cases hu; simp [isTy, e] at h; subst h; exact nb _ (by decide)
      | exc c' sb => simp [isTy] at h
    | lck o =>
      cases o with
      | lst ds =>
        have fin : ∀ t b u, isTy (.ref n) S t = some b → TyU cl t u → PySem.W.kitOne m.K (.type "list") u = some b := fl (fun c b h => by simp [isTy, e] at h) (fun b h => by simp [isTy, e] at h; exact h) (fun b h => by simp [isTy, e] at h; exact h)
        rcases hob with ⟨o, vs, hq, _⟩ | ⟨o, its, n', vs, hk, hc, _⟩
        · exact ⟨_, .base (.frz hq), fin⟩
        · exact ⟨_, .kList hk hc, fin⟩
      | dic ds =>
        obtain ⟨o, vs, hq, _⟩ := hob
        exact ⟨_, .fDict hq, fd (fun c b h => by simp [isTy, e] at h) (fun b h => by simp [isTy, e] at h; exact h) (fun b h => by simp [isTy, e] at h; exact h)⟩
      | _ => exact hob.elim
  | exc hz => exact absurd rfl (hv _)
/-- a type's name, as an expression -/
structure TyN (P : Pg) (X : Cx) (cl : Cl) (t : Ty) (e : Expr) (c : V) (u : Value) : Prop where
  pe : PE X e (tC c)
  un : TyU cl t u
  cv : ClsV c u
  ux : ∀ n sb, t = .exc n sb → ∀ d ∈ P.excs, ∀ D, X.mg (Str.ofString d) = some (.ref D) → PySem.W.kitOne X.K (.ref D) u = some (decide (d ∈ sb))
theorem tyN_B {t : Ty} {s : String} {p : Pos} (xo : XO P cl X k sc W) (hs : s ∈ ["len", "abs", "min", "max", "int", "str", "list", "tuple", "dict", "sum", "sorted", "all", "any", "range", "enumerate", "zip", "reversed", "isinstance", "bool"]) (hg : Gl X (Str.ofString s)) (hb : bootBuiltins (Str.ofString s) = some (.type s)) (hn : Str.ofString s ≠ ("__name__" : Str)) (hd : (Str.ofString s == ("__debug__" : Str)) = false) (hu : TyU cl t (.type s)) (hx : ∀ n sb, t ≠ .exc n sb) :
    TyN P X cl t (.Name (Str.ofString s) p) (.ty s) (.type s) := ⟨pe_bltn hg (xo.ln.bi s hs) hb rfl hn hd, hu, .ty s, fun n sb e => absurd e (hx n sb)⟩
theorem ty_boot (t : Ty) (h : ∀ c, t ≠ .cls c) (h' : ∀ c sb, t ≠ .exc c sb) : bootBuiltins (Str.ofString (tyS t)) = some (.type (tyS t)) ∧ Str.ofString (tyS t) ≠ ("__name__" : Str) ∧ (Str.ofString (tyS t) == ("__debug__" : Str)) = false ∧ tyS t ∈ ["len", "abs", "min", "max", "int", "str", "list", "tuple", "dict", "sum", "sorted", "all", "any", "range", "enumerate", "zip", "reversed", "isinstance", "bool"] := by
  cases t with
  | cls c => exact absurd rfl (h c)
  | exc c sb => exact absurd rfl (h' c sb)
  | int => decide +kernel
  | bool => decide +kernel
  | str => decide +kernel
  | tuple => decide +kernel
  | list => decide +kernel
  | dict => decide +kernel
theorem ve_boot : bootBuiltins (Str.ofString "ValueError") = some (.type "ValueError") ∧ Str.ofString "ValueError" ≠ ("__name__" : Str) ∧ (Str.ofString "ValueError" == ("__debug__" : Str)) = false := by decide +kernel
theorem tyN_of {t : Ty} {p : Pos} (xo : XO P cl X k sc W) (hg : Gl X (Str.ofString (tyS t))) (hcls : ∀ c, t = .cls c → (∃ C, cl c C) ∧ (Str.ofString c == ("__debug__" : Str)) = false) (hexc : ∀ c sb, t = .exc c sb → sb = P.excs.filter (P.sub · c) ∧ (c = "ValueError" ∨ c ∈ P.excs ∧ (Str.ofString c == ("__debug__" : Str)) = false)) : ∃ c u, TyN P X cl t (.Name (Str.ofString (tyS t)) p) c u := by
  cases t with
  | cls c =>
    obtain ⟨⟨C, hC⟩, hd⟩ := hcls c rfl
    exact ⟨_, _, pe_glob hg (xo.ln.clc c C hC).1 (v := .ref C) rfl hd, ⟨C, hC, rfl⟩, .own C, fun n sb e => by cases e⟩
  | exc c sb =>
    obtain ⟨rfl, h⟩ := hexc c sb rfl
    have mem : ∀ d, decide (d ∈ P.excs.filter (P.sub · c)) = (decide (d ∈ P.excs) && P.sub d c) := fun d => by
      by_cases h1 : d ∈ P.excs <;> by_cases h2 : P.sub d c = true <;> simp [h1, h2]
    rcases h with rfl | ⟨hc, hd⟩
    · refine ⟨.ty "ValueError", _, pe_bltn hg xo.lx.ve ve_boot.1 rfl ve_boot.2.1 ve_boot.2.2, trivial, .ty "ValueError", fun n sb e d hd D hD => ?_⟩
      cases e
      rw [mem, decide_eq_true hd, Bool.true_and]
      exact (xo.lx.ex d hd D hD).2
    · obtain ⟨C, hC, _⟩ := xo.ln.exc c hc
      refine ⟨_, _, pe_glob hg hC (v := .ref C) rfl hd, trivial, .own C, fun n sb e d hd D hD => ?_⟩
      cases e
      rw [mem, decide_eq_true hd, Bool.true_and]
      exact (xo.lx.sb d hd c hc D C hD hC).1
  | int => obtain ⟨h1, h2, h3, h4⟩ := ty_boot .int (by simp) (by simp); exact ⟨_, _, tyN_B xo h4 hg h1 h2 h3 rfl (by simp)⟩
  | bool => obtain ⟨h1, h2, h3, h4⟩ := ty_boot .bool (by simp) (by simp); exact ⟨_, _, tyN_B xo h4 hg h1 h2 h3 rfl (by simp)⟩
  | str => obtain ⟨h1, h2, h3, h4⟩ := ty_boot .str (by simp) (by simp); exact ⟨_, _, tyN_B xo h4 hg h1 h2 h3 rfl (by simp)⟩
  | tuple => obtain ⟨h1, h2, h3, h4⟩ := ty_boot .tuple (by simp) (by simp); exact ⟨_, _, tyN_B xo h4 hg h1 h2 h3 rfl (by simp)⟩
  | list => obtain ⟨h1, h2, h3, h4⟩ := ty_boot .list (by simp) (by simp); exact ⟨_, _, tyN_B xo h4 hg h1 h2 h3 rfl (by simp)⟩
  | dict => obtain ⟨h1, h2, h3, h4⟩ := ty_boot .dict (by simp) (by simp); exact ⟨_, _, tyN_B xo h4 hg h1 h2 h3 rfl (by simp)⟩
/-- a value's type, also of the handled exception -/
def TyQ (X : Cx) (H : Hp) (x : V) (t : Value) : Prop := TyX X.K H x t ∨ ∃ (q : Addr × Obj) (D : Addr), q ∈ X.pn ∧ x = .ref q.1 ∧ t = .ref D ∧ ExcC X.K D ∧ L2N.Zn (.ref D) none q.2 ∧ ∃ vs, q.2.data = .fields vs
theorem kit_q {pins : List (Addr × Obj)} {σ : L2.St} {H : Hp} {s : Shared} {x : V} {u t : Value} (I : Inv X pins σ H s) (r : RelV x u) (h : TyQ X H x t) : ∃ Z : Heap → Prop, PySem.W.KitX X.K u t Z ∧ Z s.heap ∧ u ≠ .builtin "__main__.__loader__#opaque" := by
  rcases h with h | ⟨q, D, hq, rfl, rfl, C, hz, vs, hv⟩
  · exact kit_of I r h
  · obtain rfl : u = .ref q.1 := r
    have hget := (I.pin q (List.mem_append_left _ hq)).1
    refine ⟨_, PySem.W.handS_kitx_exc C.hg C.hk C.hs C.hd C.ha C.hn C.ht C.hm (ox := q.2), ?_, fun z => nomatch z⟩
    obtain ⟨a, oc, od, oda, osl⟩ := q
    obtain ⟨h1, h2, _⟩ := hz
    dsimp only at h1 h2 hv
    subst h1 h2 hv
    exact ⟨hget, rfl, rfl, trivial⟩
theorem isq_one : CallR X (.builtin "isinstance") fun xs H Q => ∃ (x c : V) (t u : Value) (b : Bool), xs = [x, c] ∧ ClsV c u ∧ TyQ X H x t ∧ PySem.W.kitOne X.K t u = some b ∧ Q (.bl b) H := by
  rintro pins s σ H xs us Q I r ⟨x, c, t, u, b, rfl, hk, ht, he, hq⟩
  obtain ⟨v1, v2, rfl, ra, rb⟩ := vals2 r
  obtain rfl := hk.eq rb
  obtain ⟨Z, z1, z2, z3⟩ := kit_q I ra ht
  exact PySem.W.kia_one z1 I.kIn z2 he z3 fun tk => ⟨.bl b, _, I.tok tk, rfl, hq⟩
theorem isq_tup : CallR X (.builtin "isinstance") fun xs H Q => ∃ (x : V) (tp : Addr) (cs : List V) (t : Value) (us : List Value) (b : Bool), xs = [x, .ref tp] ∧ H tp = some (.tup cs) ∧ Paired ClsV cs us ∧ TyQ X H x t ∧ PySem.W.kitAny X.K t us = some b ∧ Q (.bl b) H := by
  rintro pins s σ H xs us Q I r ⟨x, tp, cs, t, ws, b, rfl, hT, hk, ht, he, hq⟩
  obtain ⟨v1, v2, rfl, ra, rb⟩ := vals2 r
  obtain rfl : v2 = .ref tp := rb
  obtain ⟨Z, z1, z2, z3⟩ := kit_q I ra ht
  obtain ⟨_, its, rv, ob, g1, g2, n, g3⟩ := (show ObjOk X.prog X.w H s.heap tp (.tup cs) from I.hok tp _ hT)
  obtain rfl := ClsV.all hk rv
  obtain ⟨oc, od, dt, sl⟩ := ob
  dsimp only at g2 g3
  subst g2 g3
  exact PySem.W.kia_tup z1 I.kIn z2 g1 he z3 fun tk => ⟨.bl b, _, I.tok tk, rfl, hq⟩
theorem tag_q (xo : XO P cl X k sc W) (hK : m.K = X.K) (hS : SH cl m S) {v : Val} {x : V} (r : RD m v x) {t : Ty} {b : Bool} (h : isTy v S t = some b) : ∃ tg, TyQ X m.H x tg ∧ ∀ t b e c u, isTy v S t = some b → TyN P X cl t e c u → PySem.W.kitOne X.K tg u = some b := by
  by_cases hv : ∃ c, v = .exc c
  · obtain ⟨c, rfl⟩ := hv
    cases r with
    | @exc a _ hz =>
      have hcl := hS.z a c hz
      cases hh : sc.hot with
      | false => exact absurd hcl (xo.zc (by rw [hh]; rfl) a c)
      | true =>
        obtain ⟨q, c0, _, hq, hu, ho, D, hD, hzn, hf⟩ := xo.zx hh
        obtain ⟨rfl, rfl⟩ := hu a c hcl
        refine ⟨.ref D, .inr ⟨q, D, hq, rfl, rfl, (xo.lx.ex c ho D hD).1, hzn, hf⟩, fun t b e c' u h1 h2 => ?_⟩
        cases t with
        | exc n sb =>
          have := h2.ux n sb rfl c ho D hD
          simp only [isTy, Option.some.injEq] at h1
          rw [this, h1]
        | _ => simp [isTy] at h1
  · have hv' : ∀ c, v ≠ .exc c := fun c e => hv ⟨c, e⟩
    obtain ⟨tg, h1, h2⟩ := tag_rd (by rw [hK]; exact xo.isi) (fun c C hC => by rw [hK]; exact (xo.ln.clc c C hC).2) hS r hv' h
    rw [hK] at h1 h2
    exact ⟨tg, .inl h1, fun t b e c u h3 h4 => h2 t b u h3 h4.un⟩
variable {a b c o i : E} {ea eb ec eo ei : Expr} {pos : Pos}
theorem isi_boot : bootBuiltins (Str.ofString "isinstance") = some (.builtin "isinstance") := by decide +kernel
theorem e_isi1 {t : Ty} {et : Expr} {p : Pos} {cv : V} {u : Value} (xo : XO P cl X k sc W) (hg : Gl X (Str.ofString "isinstance")) (ht : TyN P X cl t et cv u) (hs : notStar ea = true) (hs2 : notStar et = true) (ha : PE X ea (tE P cl k X W a)) :
    PE X (.Call (.Name (Str.ofString "isinstance") p) [ea, et] [] pos) (tE P cl k X W (.isi a [t])) := by
  have hA : PA X [ea, et] (tCons (tE P cl k X W a) (tCons (tC cv) tNil)) := pa_cons ha (pa_cons ht.pe pa_nil (star_cons hs2)) (star_cons hs)
  refine PE.imp (pe_callB isq_one hg (xo.ln.bi "isinstance" (by decide)) isi_boot hA (by decide +kernel) (by decide +kernel) (star_cons hs) (star_any (by simp [hs2]))) fun σ H Q ⟨m, env, S, hK, eH, hS, hV, h⟩ => ?_
  subst eH
  simp only [wE] at h
  refine tE_of hK hS hV (Ev.refl m) h fun m1 x S1 v e1 hS1 r1 hV1 h1 => ?_
  obtain ⟨bs, h2, h3⟩ := h1
  rw [List.mapM_cons] at h2
  cases hb : isTy v S1 t with
  | none => rw [hb] at h2; simp at h2
  | some b =>
    rw [hb] at h2
    simp at h2
    subst h2
    have hK1 := e1.k.trans hK
    obtain ⟨tg, ty, kt⟩ := tag_q xo hK1 hS1 r1 hb
    refine ⟨x, cv, tg, u, b, rfl, ht.cv, ty, kt t b _ _ u hb ht, ?_⟩
    have := h3 m1 _ e1 hS1 (.bl _)
    simpa using this
/-- several types -/
inductive TyNs (P : Pg) (X : Cx) (cl : Cl) : List Ty → List Expr → List V → List Value → Prop where
  | nil : TyNs P X cl [] [] [] []
  | cons {t e c u ts es cs us} : TyN P X cl t e c u → notStar e = true → TyNs P X cl ts es cs us → TyNs P X cl (t :: ts) (e :: es) (c :: cs) (u :: us)
def tVs : List V → TA
  | [] => tNil
  | c :: cs => tCons (tC c) (tVs cs)
theorem TyNs.pa {ts es cs us} (h : TyNs P X cl ts es cs us) : PA X es (tVs cs) := by
  induction h with
  | nil => exact pa_nil
  | cons h1 h2 h3 ih => exact pa_cons h1.pe ih (star_cons h2)
theorem tVs_run : ∀ (cs : List V) (σ : L2.St) (H : Hp) (Q : List V → Hp → Prop), Q cs H → tVs cs σ H Q
  | [], σ, H, Q, h => h
  | c :: cs, σ, H, Q, h => tVs_run cs σ H _ h
theorem TyNs.cls {ts es cs us} (h : TyNs P X cl ts es cs us) : Paired ClsV cs us := by
  induction h with
  | nil => exact .nil
  | cons h1 _ _ ih => exact .cons h1.cv ih
theorem TyNs.len {ts es cs us} (h : TyNs P X cl ts es cs us) : cs.length = ts.length := by
  induction h with
  | nil => rfl
  | cons _ _ _ ih => simp [ih]
theorem TyNs.any {ts es cs us} (h : TyNs P X cl ts es cs us) {K : PySem.W.Frag} {tg : Value} {v : Val} (kt : ∀ t b e c u, isTy v S t = some b → TyN P X cl t e c u → PySem.W.kitOne K tg u = some b) : ∀ {bs : List Bool}, ts.mapM (isTy v S) = some bs → PySem.W.kitAny K tg us = some (bs.any id) := by
  induction h with
  | nil => intro bs h; simp at h; subst h; rfl
  | @cons t e c u ts es cs us h1 h2 h3 ih =>
    intro bs h
    rw [List.mapM_cons] at h
    cases hb : isTy v S t with
    | none => rw [hb] at h; simp at h
    | some b =>
      rw [hb] at h
      cases hr : ts.mapM (isTy v S) with
      | none => rw [hr] at h; simp at h
      | some bs' =>
        rw [hr] at h
        simp at h
        subst h
        refine kitAny_cons (kt t b _ _ u hb h1) (fun e => ?_) (fun e => by subst e; simp)
        subst e
        simpa using ih hr
theorem TyX.up {K : PySem.W.Frag} {H : Hp} {p : Addr} {o : HO} (hp : H p = none) {x : V} {t : Value} (h : TyX K H x t) : TyX K (upd H p o) x t := by
  have k : ∀ {a : Addr} {u : HO}, H a = some u → upd H p o a = some u := fun {a u} e => by rw [upd_ne (ne_of_none e hp)]; exact e
  cases h with
  | base b =>
    cases b with
    | non => exact .base .non
    | bl y => exact .base (.bl y)
    | int i => exact .base (.int i)
    | str y => exact .base (.str y)
    | flt y => exact .base (.flt y)
    | lst e => exact .base (.lst (k e))
    | frz e => exact .base (.frz (k e))
    | tup e => exact .base (.tup (k e))
    | dK e => exact .base (.dK (k e))
    | dT e => exact .base (.dT (k e))
    | ins e c h1 h2 h3 h4 => exact .base (.ins (k e) c h1 h2 h3 h4)
  | byt b => exact .byt b
  | set e => exact .set (k e)
  | kList e c => exact .kList e c
  | kTuple e c => exact .kTuple e c
  | kDict e c => exact .kDict e c
  | fTuple e => exact .fTuple (k e)
  | fDict e => exact .fDict (k e)
theorem e_isiT {ts : List Ty} {es : List Expr} {cs : List V} {us : List Value} {p p2 : Pos} {kk} (xo : XO P cl X k sc W) (hg : Gl X (Str.ofString "isinstance")) (ht : TyNs P X cl ts es cs us) (h0 : ts ≠ []) (hlen : ts.length ≤ sizeLine) (hs : notStar ea = true) (ha : PE X ea (tE P cl k X W a)) :
    PE X (.Call (.Name (Str.ofString "isinstance") p) [ea, .Tuple es kk p2] [] pos) (tE P cl k X W (.isi a ts)) := by
  have hA : PA X [ea, .Tuple es kk p2] (tCons (tE P cl k X W a) (tCons (tTup (tVs cs)) tNil)) := pa_cons ha (pa_cons (pe_tup ht.pa) pa_nil (star_cons rfl)) (star_cons hs)
  refine PE.imp (PE.kf (pe_callB isq_tup hg (xo.ln.bi "isinstance" (by decide)) isi_boot hA (by decide +kernel) (by decide +kernel) (star_cons hs) (star_any (by simp [notStar])))) fun σ H Q ⟨m, env, S, hK, eH, hS, hV, h⟩ => ?_
  subst eH
  simp only [wE] at h
  refine tE_of hK hS hV (Ev.refl m) h fun m1 x S1 v e1 hS1 r1 hV1 h1 => ?_
  obtain ⟨bs, h2, h3⟩ := h1
  refine tVs_run cs σ m1.H _ ⟨by rw [ht.len]; exact hlen, fun p hp => ?_⟩
  have hK1 := e1.k.trans hK
  cases ts with
  | nil => exact absurd rfl h0
  | cons t ts =>
  have hb : ∃ b, isTy v S1 t = some b := by
    rw [List.mapM_cons] at h2
    cases hb : isTy v S1 t with
    | none => rw [hb] at h2; simp at h2
    | some b => exact ⟨b, rfl⟩
  obtain ⟨b, hb⟩ := hb
  obtain ⟨tg, ty, kt⟩ := tag_q xo hK1 hS1 r1 hb
  refine ⟨x, p, cs, tg, us, bs.any id, rfl, upd_same, ht.cls, ty.imp (TyX.up hp) id, ht.any kt h2, fun kf => ?_⟩
  exact h3 { m1 with H := upd m1.H p (.tup cs) } _ (e1.trans (Ev.outside hp)) (hS1.outside hp (by rw [hK1]; exact kf)) (.bl _)
/-! ### dict displays -/
variable {ps : Ps} {pos : Pos}
theorem e_dic0 : PE X (.Dict [] [] pos) (tE P cl k X W (.dic .nil)) :=
  PE.imp (PE.kf pe_dnewK) fun σ H Q ⟨m, env, S, hK, eH, hS, hV, h⟩ => by
    subst eH
    simp only [wE, wPs] at h
    exact fun p hp kf => mk_dic hS .nil hp (by rw [hK]; exact kf) h
/-- the pairs' readings -/
def tPs (P : Pg) (cl : Cl) (k : Nat) (X : Cx) (W : WX) : Ps → List (TE × TE)
  | .nil => []
  | .cons a b ps => (tE P cl k X W a, tE P cl k X W b) :: tPs P cl k X W ps
def Ps.len : Ps → Nat
  | .nil => 0
  | .cons _ _ ps => ps.len + 1
theorem tPs_of : ∀ (ps : Ps) {m m0 : Sm} {env : Env} {S : Hm} {σ : L2.St} {Q1 : List (Key × Val) → Hm → Prop} {R : List (V × V) → Hp → Prop}, m.K = X.K → SH cl m S → SV m env σ → Ev m0 m → wPs P.con (callW P k) (liftX cl X.mg m0 fun c d H => W c d σ H) ps env S Q1 →
    (∀ m1 kvs (ws : List (L2.Key × V)) S1, Ev m m1 → SH cl m1 S1 → RKs m1 kvs ws → kvs.length = ps.len → Q1 kvs S1 → R (ws.map fun kv => (kV kv.1, kv.2)) m1.H) → tPairs (tPs P cl k X W ps) σ m.H R
  | .nil, m, m0, env, S, σ, Q1, R, hK, hS, hV, e0, h, hq => by
    simp only [wPs] at h
    exact hq m [] [] S (Ev.refl m) hS .nil rfl h
  | .cons a b ps, m, m0, env, S, σ, Q1, R, hK, hS, hV, e0, h, hq => by
    simp only [wPs] at h
    refine tE_of hK hS hV e0 h fun m1 x S1 v e1 hS1 r1 hV1 h1 => ?_
    refine tE_of (e1.k.trans hK) hS1 hV1 (e0.trans e1) h1 fun m2 y S2 w e2 hS2 r2 hV2 h2 => ?_
    obtain ⟨q, hk, h2⟩ := h2
    have ex := key_rd r1 hk
    refine tPs_of ps ((e1.trans e2).k.trans hK) hS2 hV2 ((e0.trans e1).trans e2) h2 fun m3 kvs ws S3 e3 hS3 r3 hl h3 => ?_
    have := hq m3 ((q, w) :: kvs) ((kk q, y) :: ws) S3 ((e1.trans e2).trans e3) hS3 (.cons ⟨rfl, r2.up (e3.up hS2)⟩ r3) (by rw [List.length_cons, hl]; rfl) h3
    rw [ex]
    exact this
theorem merge_rd {m : Sm} : ∀ {kvs : List (Key × Val)} {ws : List (L2.Key × V)} {d : List (Key × Val)} {e : List (L2.Key × V)}, RKs m kvs ws → RKs m d e → RKs m (kvs.foldl (fun d p => putK d p.1 p.2) d) (mergeK e ws) := by
  intro kvs ws d e r
  unfold RKs at r
  induction r generalizing d e with
  | nil => intro h; exact h
  | @cons p q ps qs h t ih =>
    intro h0
    have := h0.put p.1 h.2
    rw [← h.1] at this
    exact ih this
/-- .. with the written part in mind -/
theorem pe_dispK {keys : List (Option Expr)} {values : List Expr} {trs : List (TE × TE)} (h : PPs X pos keys values trs) (hall : keys.all (·.isSome) = true) (hl : keys.length = values.length) (h0 : keys ≠ []) (h15 : keys.length ≤ 15) :
    PE X (.Dict keys values pos) (fun σ H Q => ∀ p, H p = none → KF X.K (upd H p (.dK [])) → tPairs trs σ (upd H p (.dK [])) fun ps H2 => H2 p = some (.dK []) ∧ ∃ kvs : List (L2.Key × V), ps = kvs.map (fun kv => (kV kv.1, kv.2)) ∧ kvs.length ≤ 15 ∧ (KF X.K (upd H2 p (.dK (mergeK [] kvs))) → Q (.ref p) (upd H2 p (.dK (mergeK [] kvs))))) := by
  refine ⟨fun pins s σ H Q I q => ?_⟩
  have I1 := I.laid (a := s.heap.objs.size) (o := .dK []) (h' := s.heap.push { cls := .type "dict", data := .dict #[] }) (t' := s.toks) (fun _ _ q => Heap.get?_push_of_some _ q) (Nat.le_refl _) (dk_empty s.heap I.big)
  have q1 := q _ (I.hok.fresh (Nat.le_refl s.heap.objs.size)) (kfree I1)
  refine wpAny_Dict_walk (knd := mixKind X.prog X.w) hall hl h0 h15 (thn (h.run pins _ σ _ _ I1 q1) fun ws s2 ⟨ps, H2, I2, rel, e, kvs, ep, lk, q2⟩ => ?_)
  subst ep
  obtain ⟨rs, c, rk⟩ := carries_of (P := X.prog) (w := X.w) rel
  obtain ⟨z, hd, vs0, r0, dd⟩ := dk_of I2.hok e
  cases r0
  refine ⟨rs, c, dd, fun h' dd' hs => ?_⟩
  have hz : (mergeK [] kvs).length ≤ sizeLine := by
    have h1 := length_mergeK kvs []
    rw [sizeLine_eq]
    simp at h1
    omega
  have I3 := d_write (t' := s2.toks + ws.length) I2 (by rw [e]; exact True.intro) hs (let ⟨q, _, _, hq, _⟩ := dd'; ⟨q, hq⟩) (dk_new hz hd (rk.merge .nil) dd')
  exact ⟨.ref s.heap.objs.size, _, I3, rfl, q2 (kfree I3)⟩
theorem e_dic {keys : List (Option Expr)} {values : List Expr} (h : PPs X pos keys values (tPs P cl k X W ps)) (hall : keys.all (·.isSome) = true) (hl : keys.length = values.length) (h0 : keys ≠ []) (h15 : keys.length ≤ 15) (hlen : ps.len ≤ 15) :
    PE X (.Dict keys values pos) (tE P cl k X W (.dic ps)) :=
  PE.imp (pe_dispK h hall hl h0 h15) fun σ H Q ⟨m, env, S, hK, eH, hS, hV, h⟩ p hp kf => by
    subst eH
    simp only [wE] at h
    rw [← hK] at kf
    have e1 : Ev m { m with H := upd m.H p (.dK []) } := Ev.outside hp
    have hS1 := hS.outside hp kf
    have np1 : p ∉ m.em := hS.free hp (kf_free kf (upd_same (H := m.H) (a := p)))
    refine tPs_of (m := { m with H := upd m.H p (.dK []) }) ps hK hS1 (hV.up (e1.up hS)) e1 h fun m2 kvs ws S2 e2 hS2 r2 hlk h2 => ?_
    have hp2 : m2.H p = some (.dK []) := e2.keep p _ (upd_same (H := m.H) (a := p)) np1
    have np2 : p ∉ m2.em := fun z => by
      have := e2.new p z np1
      rw [show (({ m with H := upd m.H p (.dK []) } : Sm).H p) = some (.dK []) from upd_same (H := m.H) (a := p)] at this
      cases this
    refine ⟨hp2, ws, rfl, by rw [← r2.length, hlk]; exact hlen, fun kf2 => ?_⟩
    have e12 := e1.trans e2
    have e3 : Ev m { m2 with H := upd m2.H p (.dK (mergeK [] ws)), em := m2.em ++ [p] } := by
      obtain ⟨l, hl⟩ := e12.em
      refine ⟨e12.k, e12.z, ⟨l ++ [p], ?_⟩, fun b o hb nb => ?_, fun b hb nb => ?_, fun b q u hb => ?_⟩
      rotate_right
      · show upd m2.H p _ b = some _
        rw [upd_ne (ne_of_none hb hp)]
        exact e12.frz b q u hb
      · show m2.em ++ [p] = m.em ++ (l ++ [p])
        rw [hl, List.append_assoc]
      · show upd m2.H p _ b = some o
        rw [upd_ne (ne_of_none hb hp)]
        exact e12.keep b o hb nb
      · rcases List.mem_append.mp hb with z | z
        · exact e12.new b z nb
        · have : b = p := by simpa using z
          rw [this]; exact hp
    have up3 : Up m2 { m2 with H := upd m2.H p (.dK (mergeK [] ws)), em := m2.em ++ [p] } := by
      refine ⟨fun a xs h => ?_, ⟨[p], rfl⟩, fun _ h => h⟩
      rcases h with (h | ⟨o, h⟩) | h
      · have : a ≠ p := fun z => by rw [z, hp2] at h; cases h
        exact .inl (.inl (by show upd m2.H p _ a = _; rw [upd_ne this]; exact h))
      · have : a ≠ p := fun z => by rw [z, hp2] at h; cases h
        exact .inl (.inr ⟨o, by show upd m2.H p _ a = _; rw [upd_ne this]; exact h⟩)
      · exact .inr h
    have hS3 : SH cl { m2 with H := upd m2.H p (.dK (mergeK [] ws)), em := m2.em ++ [p] } (S2 ++ [.dic (kvs.foldl (fun d p => putK d p.1 p.2) [])]) := by
      refine ⟨by simp [hS2.len], ?_, by rw [e12.k, hK]; exact kf2, fun n u a e1 e2 => ?_, hS2.z⟩
      · show (m2.em ++ [p]).Nodup
        rw [List.nodup_append]
        refine ⟨hS2.nd, by simp, fun x hx y hy => ?_⟩
        have : y = p := by simpa using hy
        rw [this]
        exact fun z => np2 (z ▸ hx)
      · have e2 : (m2.em ++ [p])[n]? = some a := e2
        by_cases hn : n < S2.length
        · rw [List.getElem?_append_left hn] at e1
          rw [List.getElem?_append_left (by rw [hS2.len]; exact hn)] at e2
          exact (hS2.ob n u a e1 e2).up (m' := { m2 with H := upd m2.H p (.dK (mergeK [] ws)), em := m2.em ++ [p] }) up3 rfl (upd_ne fun z => np2 (z ▸ List.mem_of_getElem? e2))
        · have hn2 : n = S2.length := by
            have := (List.getElem?_eq_some_iff.mp e1).1
            simp at this
            omega
          subst hn2
          rw [List.getElem?_append_right (Nat.le_refl _)] at e1
          rw [← hS2.len, List.getElem?_append_right (Nat.le_refl _)] at e2
          simp at e1 e2
          subst e1 e2
          exact ⟨_, upd_same, merge_rd (r2.up up3) .nil⟩
    refine h2 { m2 with H := upd m2.H p (.dK (mergeK [] ws)), em := m2.em ++ [p] } (.ref p) e3 hS3 (.ref ?_)
    show (m2.em ++ [p])[S2.length]? = some p
    rw [← hS2.len]
    simp
end
end Mi

set_option maxHeartbeats 4000000
/-! zip of two, each a list or a tuple -/
namespace Mi
open PySem PySem.Spec L2 PyProof.Rows
/-- t: a tuple; else a list -/
def Sqx (t : Bool) (K : PySem.W.Frag) (H : Hp) (a : Addr) (xs : List V) : Prop := if t = true then SqT K H a xs else SqL K H a xs
def IterX (t : Bool) (h : Heap) (it a : Addr) (i : Nat) : Prop := if t = true then h.IsTupleIter it a i else h.IsListIter it a i
def AtX (t : Bool) (h : Heap) (a : Addr) (its : Array Value) : Prop := if t = true then h.IsTuple a its else h.IsList a its
theorem Sqx.inv {X : Cx} {pins : List (Addr × Obj)} {σ : L2.St} {H : Hp} {s : Shared} {t : Bool} {a : Addr} {xs : List V} (I : Inv X pins σ H s) (h : Sqx t X.K H a xs) : ∃ its : List Value, Vals xs its ∧ AtX t s.heap a its.toArray := by
  cases t with
  | true => obtain ⟨its, r, p, _⟩ := I.tuple h; exact ⟨its, r, p⟩
  | false => obtain ⟨its, r, p, _⟩ := I.list h; exact ⟨its, r, p.isList⟩
theorem Sqx.inj {X : Cx} {pins : List (Addr × Obj)} {σ : L2.St} {H : Hp} {s : Shared} {t : Bool} {a : Addr} {xs ys : List V} (I : Inv X pins σ H s) (h : Sqx t X.K H a xs) (h' : Sqx t X.K H a ys) : xs = ys := by
  cases t with
  | true => exact I.tuple_inj h h'
  | false => exact I.list_inj h h'
theorem IterX.obj {t : Bool} {h : Heap} {it a : Addr} {i : Nat} (st : IterX t h it a i) : ∃ o, h.get? it = some o ∧ ∀ v, o.data ≠ .cell v := by
  cases t with
  | true => obtain ⟨o, e, _, d⟩ := st; exact ⟨o, e, fun v q => by rw [d] at q; cases q⟩
  | false => obtain ⟨o, e, _, d⟩ := st; exact ⟨o, e, fun v q => by rw [d] at q; cases q⟩
theorem IterX.at {t : Bool} {h h' : Heap} {it a : Addr} {i : Nat} (st : IterX t h it a i) (k : ∀ o, h.get? it = some o → h'.get? it = some o) : IterX t h' it a i := by
  cases t with
  | true => exact Heap.IsTupleIter.at st k
  | false => exact Heap.IsListIter.at st k
theorem AtX.lt {t : Bool} {h : Heap} {a : Addr} {its : Array Value} (p : AtX t h a its) : a < h.objs.size := by
  cases t with
  | true => obtain ⟨o, e, _⟩ := id p; exact Heap.lt_size e
  | false => obtain ⟨o, e, _⟩ := id p; exact Heap.lt_size e
theorem drawsX {prog : Program} {w : World} {A : Around} (hh : A.handled = none) (t : Bool) (it a : Addr) (hne : a ≠ it) (items : Array Value) :
    Draws prog w A it [it, a] items.size (fun i v => items[i]? = some v) (fun i h => IterX t h it a i ∧ AtX t h a items) := by
  cases t with
  | true => exact Draws.tuple hh it a hne items
  | false => exact Draws.list hh it a hne items
theorem sep_of {z TI TO i1 i2 a b : Addr} (D : ZipApart z TI TO i1 i2 a b) : ZipSep2 z TI TO i1 i2 [i1, a] [i2, b] where
  TIz := D.TIz
  TOz := D.TOz
  TITO := D.TITO
  TIi1 := D.TIi1
  mem1 := by simp
  zf1 := by simp [D.i1z.symm, D.l1z.symm]
  Tf1 := by simp [D.TOi1, D.l1TO.symm]
  TIi2 := D.TIi2
  mem2 := by simp
  zf2 := by simp [D.i2z.symm, D.l2z.symm]
  Tf2 := by simp [D.TOi2, D.l2TO.symm]
  sep1_2 := by simp [D.i12, D.l2i1.symm]
  sep2_1 := by simp [D.i12.symm, D.l1i2.symm]
/-- the items at a and b as they stand at each turn, in new pairs -/
def Itx (K : PySem.W.Frag) (t u : Bool) (a b : Addr) : It :=
  ⟨fun i H => ∃ (xs ys : List V) (x y : V), Sqx t K H a xs ∧ Sqx u K H b ys ∧ xs[i]? = some x ∧ ys[i]? = some y,
    fun i H v H' => ∃ T x y, v = .ref T ∧ H T = none ∧ H' = upd H T (.tup [x, y]) ∧ (∀ xs, Sqx t K H a xs → xs[i]? = some x) ∧ ∀ ys, Sqx u K H b ys → ys[i]? = some y,
    fun i H => ∃ xs ys : List V, Sqx t K H a xs ∧ Sqx u K H b ys ∧ ((xs.length = i ∧ i ≤ ys.length) ∨ (ys.length = i ∧ i ≤ xs.length))⟩
theorem turn_zipX {P : Program} {w : World} {K : PySem.W.Frag} {elts : List Expr} {kk : Nat} {tpos : Pos} {t u : Bool} {a b z TI TO i1 i2 : Addr} (D : ZipApart z TI TO i1 i2 a b) :
    Turn P w K (.Tuple elts kk tpos) (Itx K t u a b) [z, TI, TO, i1, i2] z (fun i h => IsZip h z TI TO .none ∧ IsPair h TI (.ref i1) (.ref i2) ∧ (∃ x y, IsPair h TO x y) ∧ IterX t h i1 a i ∧ IterX u h i2 b i) where
  mem := .head _
  obj := fun i h st c hc => by
    obtain ⟨hz, hTI, ⟨x, y, hTO⟩, h1, h2⟩ := st
    simp only [List.mem_cons, List.not_mem_nil, or_false] at hc
    rcases hc with rfl | rfl | rfl | rfl | rfl
    · exact ⟨_, hz, fun v q => nomatch q⟩
    · exact ⟨_, hTI, fun v q => nomatch q⟩
    · exact ⟨_, hTO, fun v q => nomatch q⟩
    · exact h1.obj
    · exact h2.obj
  keep := fun i h h' ⟨hz, hTI, ⟨x, y, hTO⟩, h1, h2⟩ k => ⟨k z (by simp) _ hz, k TI (by simp) _ hTI, ⟨x, y, k TO (by simp) _ hTO⟩, h1.at fun o => k i1 (by simp) o, h2.at fun o => k i2 (by simp) o⟩
  item := by
    intro X hP hw hK calm i pins s σ H E I free st go
    subst hP hw hK
    obtain ⟨hz, hTI, ⟨x0, y0, hTO⟩, h1, h2⟩ := st
    obtain ⟨xs, ys, x, y, q1, q2, hx, hy⟩ := go
    obtain ⟨us, r1, p1⟩ := q1.inv I
    obtain ⟨vs, r2, p2⟩ := q2.inv I
    obtain ⟨c, hc, rc⟩ := r1.get hx
    obtain ⟨d, hd, rd⟩ := r2.get hy
    have zl : z < s.heap.objs.size := Heap.lt_size hz
    have hh : X.A.in1.handled = none := I.ok.hd calm
    refine wpAny_pyNext_zipD2_item (i := i) (sep_of D) (drawsX hh t i1 a D.l1i1 us.toArray) (drawsX hh u i2 b D.l2i2 vs.toArray) hz hTI hTO ⟨h1, p1⟩ ⟨h2, p2⟩ (by simpa using (List.getElem?_eq_some_iff.mp hc).1) (by simpa using (List.getElem?_eq_some_iff.mp hd).1) fun c' d' h' tk ec ed z' TO' ⟨n1, _⟩ ⟨n2, _⟩ hT hsz hk => ?_
    have ec : c' = c := by
      have ec : us.toArray[i]? = some c' := ec
      have hc' : us.toArray[i]? = some c := by simpa using hc
      rw [hc'] at ec
      exact (Option.some.inj ec).symm
    have ed : d' = d := by
      have ed : vs.toArray[i]? = some d' := ed
      have hd' : vs.toArray[i]? = some d := by simpa using hd
      rw [hd'] at ed
      exact (Option.some.inj ed).symm
    subst ec ed
    refine ⟨_, rfl, wpAny_letOwnedTupleGo_zip (s := { s with heap := h', toks := tk }) z' fun g zg sb => ?_⟩
    have sb2 : ∀ c, c ≠ z → g.get? c = h'.get? c := sb.2
    have tup : ObjOk X.prog X.w (upd H s.heap.objs.size (.tup [x, y])) g s.heap.objs.size (.tup [x, y]) :=
      ⟨by show 2 ≤ sizeLine; decide, _, .cons rc (.cons rd .nil), ⟨_, (sb2 _ (Nat.ne_of_gt zl)).trans hT, rfl, _, rfl⟩⟩
    have I1 : Inv X pins σ (upd H s.heap.objs.size (.tup [x, y])) { s with heap := g, toks := tk } :=
      I.turnedNew (t' := tk) (ch := [z, TI, TO, i1, i2]) (fun c o hb q => by
        simp only [List.mem_cons, List.not_mem_nil, or_false, not_or] at hb
        exact (sb2 c hb.1).trans (hk c o hb.1 hb.2.2.1 hb.2.2.2.1 hb.2.2.2.2 q)) free (Nat.le_refl _) tup
    refine ⟨.ref s.heap.objs.size, _, I1, rfl, ⟨_, x, y, rfl, I.hok.fresh (Nat.le_refl _), rfl, fun l hl => by rw [Sqx.inj I hl q1]; exact hx, fun l hl => by rw [Sqx.inj I hl q2]; exact hy⟩,
      ⟨zg, (sb2 _ D.TIz).trans (hk _ _ D.TIz D.TITO D.TIi1 D.TIi2 hTI), ⟨_, _, (sb2 _ D.TOz).trans TO'⟩, n1.at fun o q => (sb2 _ D.i1z).trans q, n2.at fun o q => (sb2 _ D.i2z).trans q⟩, fun c hcm => ?_⟩
    have lt : c < s.heap.objs.size := by
      simp only [List.mem_cons, List.not_mem_nil, or_false] at hcm
      rcases hcm with rfl | rfl | rfl | rfl | rfl
      · exact zl
      · exact Heap.lt_size hTI
      · exact Heap.lt_size hTO
      · exact let ⟨_, e, _⟩ := h1.obj; Heap.lt_size e
      · exact let ⟨_, e, _⟩ := h2.obj; Heap.lt_size e
    rw [upd_ne (Nat.ne_of_lt lt)]
    exact (free c hcm).1
  done := by
    intro X hP hw hK calm i pins s σ H E I free st stop
    subst hP hw hK
    obtain ⟨hz, hTI, ⟨x0, y0, hTO⟩, h1, h2⟩ := st
    obtain ⟨xs, ys, q1, q2, over⟩ := stop
    obtain ⟨us, r1, p1⟩ := q1.inv I
    obtain ⟨vs, r2, p2⟩ := q2.inv I
    have l1 := r1.length
    have l2 := r2.length
    have hh : X.A.in1.handled = none := I.ok.hd calm
    refine wpAny_pyNext_zipD2_end (i := i) (sep_of D) (drawsX hh t i1 a D.l1i1 us.toArray) (drawsX hh u i2 b D.l2i2 vs.toArray) hz hTI hTO ⟨h1, p1⟩ ⟨h2, p2⟩ (by rw [List.size_toArray]; omega) (by rw [List.size_toArray]; omega) (by rw [List.size_toArray, List.size_toArray]; omega) fun h' tk hk => ⟨rfl, ?_⟩
    exact I.turnedL (t' := tk) (ch := [z, TI, TO, i1, i2]) (fun c o hb q => by
      simp only [List.mem_cons, List.not_mem_nil, or_false, not_or] at hb
      exact hk c o hb.1 hb.2.2.1 hb.2.2.2.1 hb.2.2.2.2 q) free
  self := fun A i s Q E st h => wpAny_pyIter_zip st.1 h
theorem beginsX (t : Bool) (a : Addr) (items : Array Value) : ∃ o, Begins (.ref a) o (fun h => AtX t h a items) ∧ ∀ h it, h.get? it = some o → IterX t h it a 0 := by
  cases t with
  | true => exact ⟨_, begins_tuple a items, fun h it e => ⟨_, e, rfl, rfl⟩⟩
  | false => exact ⟨_, begins_list a items, fun h it e => ⟨_, e, rfl, rfl⟩⟩
def iZipX (K : PySem.W.Frag) (ta : TA) : TI := fun σ H R => ta σ H fun vs H1 => ∃ t u a b xs ys, vs = [.ref a, .ref b] ∧ Sqx t K H1 a xs ∧ Sqx u K H1 b ys ∧ R (Itx K t u a b) H1
theorem pi_zipX {X : Cx} {e e2 : Expr} {ta : TA} {p pos tpos : Pos} {elts : List Expr} {kk : Nat} (hg : Gl X "zip") (hm : X.mg "zip" = none) (ha : PA X [e, e2] ta)
    (hs : starEach [e, e2] X.env = (false, eval e X.env) :: starEach [e2] X.env) (hpl : (backTo pos (starEach [e2] X.env)).any (·.1) = false) :
    PI X (.Tuple elts kk tpos) (.Call (.Name "zip" p) [e, e2] [] pos) (iZipX X.K ta) := by
  refine ⟨fun pins s σ H R I h => ?_⟩
  refine Call_ (ld_blt I hg hm PyProof.Rows.boot_zip (PyProof.Rows.callWith_type1 (thn (ha.run pos pins s σ H _ I h) fun us s1 ⟨vs, H1, I1, r1, q1⟩ => ?_) hs hpl))
  obtain ⟨t, u, a, b, xs, ys, rfl, q1, q2, go⟩ := q1
  cases r1 with
  | cons ra r1 =>
    cases r1 with
    | cons rb r1 =>
      cases r1
      cases ra
      cases rb
      obtain ⟨us, _, p1⟩ := q1.inv I1
      obtain ⟨vs, _, p2⟩ := q2.inv I1
      obtain ⟨o1, B1, it1⟩ := beginsX t a us.toArray
      obtain ⟨o2, B2, it2⟩ := beginsX u b vs.toArray
      have new : ∀ c, c ∈ [s1.heap.objs.size + 4, s1.heap.objs.size + 2, s1.heap.objs.size + 3, s1.heap.objs.size, s1.heap.objs.size + 1] → FpOk X pins H1 c := fun c hc => by
        have le : s1.heap.objs.size ≤ c := by
          simp only [List.mem_cons, List.not_mem_nil, or_false] at hc
          rcases hc with rfl | rfl | rfl | rfl | rfl
          · exact Nat.le_add_right _ _
          · exact Nat.le_add_right _ _
          · exact Nat.le_add_right _ _
          · exact Nat.le_refl _
          · exact Nat.le_add_right _ _
        exact I1.fpOk le (I1.hok.fresh le)
      refine zip_begins2 B1 B2 p1 p2 fun h' hz hTI hTO g1 g2 hsz hk => wpAny_pyIter_zip hz ?_
      exact ⟨_, _, _, _, H1, rfl, I1.kept (t' := s1.toks) hk, turn_zipX (PySem.W.ktu_apart s1.heap.objs.size a b p1.lt p2.lt), ⟨hz, hTI, ⟨_, _, hTO⟩, it1 _ _ g1, it2 _ _ g2⟩, new, go⟩
end Mi

set_option maxHeartbeats 4000000
/-! list(zip(a, b)), each a list or a tuple: the pairs stay, so zip makes a new tuple at each turn behind the first -/
namespace Mi
open PySem PySem.Spec L2 PyProof.Rows
/-- a zip on its way: its tuple free, or the one given out last still there -/
structure ZS (t u : Bool) (z TI TO i1 i2 a b : Addr) (us vs : Array Value) (i : Nat) (h : Heap) : Prop where
  zp : IsZip h z TI TO .none ∨ ∃ T f oT, IsZipHeld h z TI TO T f ∧ h.get? T = some oT ∧ T ≠ z ∧ T ≠ i1 ∧ T ≠ i2
  ti : IsPair h TI (.ref i1) (.ref i2)
  to : ∃ x y, IsPair h TO x y
  g1 : IterX t h i1 a i
  g2 : IterX u h i2 b i
  a1 : AtX t h a us
  a2 : AtX u h b vs
section
variable {prog : Program} {w : World} {A : Around} {E : Value → Shared → Prop} {s : Shared} {t u : Bool} {z TI TO i1 i2 a b : Addr} {us vs : Array Value} {i : Nat}
theorem AtX.at {t : Bool} {h h' : Heap} {a : Addr} {its : Array Value} (p : AtX t h a its) (k : ∀ o, h.get? a = some o → h'.get? a = some o) : AtX t h' a its := by
  cases t with
  | true => exact Heap.IsTuple.at p k
  | false => exact Heap.IsList.at p k
theorem ZS.keep {h h' : Heap} (st : ZS t u z TI TO i1 i2 a b us vs i h) (k : ∀ c o, h.get? c = some o → h'.get? c = some o) : ZS t u z TI TO i1 i2 a b us vs i h' := by
  obtain ⟨zp, ti, ⟨x, y, to⟩, g1, g2, a1, a2⟩ := st
  refine ⟨?_, k _ _ ti, ⟨x, y, k _ _ to⟩, g1.at fun o => k _ o, g2.at fun o => k _ o, a1.at fun o => k _ o, a2.at fun o => k _ o⟩
  rcases zp with e | ⟨T, f, oT, e1, e2, e3⟩
  · exact .inl (k _ _ e)
  · exact .inr ⟨T, f, oT, k _ _ e1, k _ _ e2, e3⟩
theorem held_item (D : ZipApart z TI TO i1 i2 a b) (hh : A.handled = none) {T : Addr} {f : Bool} {oT : Obj} {x y : Value} {Q : Value → Shared → Prop} (iz : IsZipHeld s.heap z TI TO T f) (aT : s.heap.get? T = some oT) (ti : IsPair s.heap TI (.ref i1) (.ref i2))
    (g1 : IterX t s.heap i1 a i) (a1 : AtX t s.heap a us) (g2 : IterX u s.heap i2 b i) (a2 : AtX u s.heap b vs) (ex : us[i]? = some x) (ey : vs[i]? = some y)
    (hQ : ∀ h' tk, IsZipHeld h' z TI TO T true → IterX t h' i1 a (i + 1) → IterX u h' i2 b (i + 1) → IsPair h' s.heap.objs.size x y → h'.objs.size = s.heap.objs.size + 1 →
      (∀ c o, c ≠ z → c ≠ i1 → c ≠ i2 → s.heap.get? c = some o → h'.get? c = some o) → Q (.ref s.heap.objs.size) { s with heap := h', toks := tk }) :
    wpAny (model prog w) A (Builtin.«zip.__next__» ⟨[.ref z], []⟩) (fun fin s' => ∃ v, fin = .done (.ret v) ∧ Q v s') E s := by
  obtain ⟨hp, g, d, tk0, os⟩ := s
  have il1 : i < us.size := (Array.getElem?_eq_some_iff.mp ex).1
  have il2 : i < vs.size := (Array.getElem?_eq_some_iff.mp ey).1
  show wpAny _ _ (field (.ref z) 2 >>= _) _ _ _; refine wpAny_bind (wpAny_field iz rfl (x := .bool false) rfl ?_)
  show wpAny _ _ (field (.ref z) 3 >>= _) _ _ _; refine wpAny_bind (wpAny_field iz rfl (x := .ref TI) rfl ?_)
  refine wpAny_bind (wpAny_seqItems ti rfl ?_); show wpAny _ _ (Builtin.SmallTypes.ownedTupleIsFree (.ref z) >>= _) _ _ _
  refine wpAny_bind (wpAny_tupleHeld_zip iz aT fun q1 iz1 sb1 => ?_)
  replace sb1 : Heap.SameBut z hp q1 := sb1
  simp only [Bool.false_eq_true, if_false]; refine wpAny_bind ?_
  rw [← Array.forIn_toList]; simp only [List.forIn_cons, List.forIn_nil]
  refine wpAny_bind (wpAny_bind (wpAny_holding ?_)); show wpAny _ _ (Builtin.SmallTypes.nextOf (.ref i1) >>= _) _ _ ⟨q1, g, d, tk0, os⟩
  refine wpAny_bind ((drawsX hh t i1 a D.l1i1 us).item i _ _ _ il1 ⟨g1.at fun o e => sb1.extBut _ _ D.i1z e, a1.at fun o e => sb1.extBut _ _ D.l1z e⟩ fun x' q2 tk2 ex' ⟨n1, _⟩ sb2 => wpAny_pure ?_)
  replace sb2 : Heap.SameBut i1 q1 q2 := sb2
  refine wpAny_pure (wpAny_bind (wpAny_bind (wpAny_holding ?_))); show wpAny _ _ (Builtin.SmallTypes.nextOf (.ref i2) >>= _) _ _ ⟨q2, g, d, tk2, os⟩
  refine wpAny_bind ((drawsX hh u i2 b D.l2i2 vs).item i _ _ _ il2 ⟨(g2.at fun o e => sb1.extBut _ _ D.i2z e).at fun o e => sb2.extBut _ _ D.i12.symm e, (a2.at fun o e => sb1.extBut _ _ D.l2z e).at fun o e => sb2.extBut _ _ D.l2i1 e⟩ fun y' q3 tk3 ey' ⟨n2, _⟩ sb3 => wpAny_pure ?_)
  replace sb3 : Heap.SameBut i2 q2 q3 := sb3
  refine wpAny_pure (wpAny_pure ?_)
  obtain rfl : x' = x := by
    have e : us[i]? = some x' := ex'
    rw [ex] at e
    exact (Option.some.inj e).symm
  obtain rfl : y' = y := by
    have e : vs[i]? = some y' := ey'
    rw [ey] at e
    exact (Option.some.inj e).symm
  show wpAny _ _ (newTuple [x', y'] >>= _) _ _ _; refine wpAny_bind (wpAny_newTuple ?_)
  have zq : q3.objs.size = hp.objs.size := by rw [sb3.1, sb2.1, sb1.1]
  have kq : ∀ c o, c ≠ z → c ≠ i1 → c ≠ i2 → hp.get? c = some o → q3.get? c = some o := fun c o c1 c2 c3 e => sb3.extBut _ _ c3 (sb2.extBut _ _ c2 (sb1.extBut _ _ c1 e))
  have iz3 : IsZipHeld q3 z TI TO T true := sb3.extBut _ _ D.i2z.symm (sb2.extBut _ _ D.i1z.symm iz1)
  refine wpAny_pure ⟨_, rfl, ?_⟩; show Q (.ref q3.objs.size) ⟨q3.push _, g, d, tk3, os⟩
  have zp : (q3.push { cls := .type "tuple", data := .seq #[x', y'] }).objs.size = q3.objs.size + 1 := Heap.size_push ..
  have np : IsPair (q3.push { cls := .type "tuple", data := .seq #[x', y'] }) q3.objs.size x' y' := Heap.get?_push_size _ rfl
  rw [zq] at zp np ⊢
  exact hQ _ _ (Heap.get?_push_of_some _ iz3) ((n1.at fun o e => sb3.extBut _ _ D.i12 e).at fun o e => Heap.get?_push_of_some _ e) (n2.at fun o e => Heap.get?_push_of_some _ e) np zp fun c o c1 c2 c3 e => Heap.get?_push_of_some _ (kq c o c1 c2 c3 e)
theorem held_end (D : ZipApart z TI TO i1 i2 a b) (hh : A.handled = none) {T : Addr} {f : Bool} {oT : Obj} {Q : Fin → Shared → Prop} (iz : IsZipHeld s.heap z TI TO T f) (aT : s.heap.get? T = some oT) (ti : IsPair s.heap TI (.ref i1) (.ref i2))
    (g1 : IterX t s.heap i1 a i) (a1 : AtX t s.heap a us) (g2 : IterX u s.heap i2 b i) (a2 : AtX u s.heap b vs) (l1 : i ≤ us.size) (l2 : i ≤ vs.size) (over : i = us.size ∨ i = vs.size)
    (hE : ∀ h' tk e, (∀ c o, c ≠ z → c ≠ i1 → c ≠ i2 → s.heap.get? c = some o → h'.get? c = some o) → (∃ o, h'.get? e = some o ∧ o.cls = .type "StopIteration") → E (.ref e) { s with heap := h', toks := tk }) :
    wpAny (model prog w) A (Builtin.«zip.__next__» ⟨[.ref z], []⟩) Q E s := by
  obtain ⟨hp, g, d, tk0, os⟩ := s
  show wpAny _ _ (field (.ref z) 2 >>= _) _ _ _; refine wpAny_bind (wpAny_field iz rfl (x := .bool false) rfl ?_)
  show wpAny _ _ (field (.ref z) 3 >>= _) _ _ _; refine wpAny_bind (wpAny_field iz rfl (x := .ref TI) rfl ?_)
  refine wpAny_bind (wpAny_seqItems ti rfl ?_); show wpAny _ _ (Builtin.SmallTypes.ownedTupleIsFree (.ref z) >>= _) _ _ _
  refine wpAny_bind (wpAny_tupleHeld_zip iz aT fun q1 iz1 sb1 => ?_)
  replace sb1 : Heap.SameBut z hp q1 := sb1
  simp only [Bool.false_eq_true, if_false]; refine wpAny_bind ?_
  rw [← Array.forIn_toList]; simp only [List.forIn_cons, List.forIn_nil]
  refine wpAny_bind (wpAny_bind (wpAny_holding ?_)); show wpAny _ _ (Builtin.SmallTypes.nextOf (.ref i1) >>= _) _ _ ⟨q1, g, d, tk0, os⟩
  have d1 := drawsX (prog := prog) (w := w) hh t i1 a D.l1i1 us
  have d2 := drawsX (prog := prog) (w := w) hh u i2 b D.l2i2 vs
  have st1 : IterX t q1 i1 a i ∧ AtX t q1 a us := ⟨g1.at fun o e => sb1.extBut _ _ D.i1z e, a1.at fun o e => sb1.extBut _ _ D.l1z e⟩
  by_cases hi : i < us.size
  · refine wpAny_bind (d1.item i _ _ _ hi st1 fun x' q2 tk2 ex' ⟨n1, _⟩ sb2 => wpAny_pure ?_)
    replace sb2 : Heap.SameBut i1 q1 q2 := sb2
    have e2 : i = vs.size := by omega
    refine wpAny_pure (wpAny_bind (wpAny_bind (wpAny_holding ?_))); show wpAny _ _ (Builtin.SmallTypes.nextOf (.ref i2) >>= _) _ _ ⟨q2, g, d, tk2, os⟩
    refine wpAny_bind (d2.done ⟨q2, g, d, tk2, os⟩ _ _ (by rw [← e2]; exact ⟨(g2.at fun o e => sb1.extBut _ _ D.i2z e).at fun o e => sb2.extBut _ _ D.i12.symm e, (a2.at fun o e => sb1.extBut _ _ D.l2z e).at fun o e => sb2.extBut _ _ D.l2i1 e⟩) fun q3 e eb st => ?_)
    exact hE q3 tk2 e (fun c o c1 c2 c3 q => eb c o c3 (sb2.extBut _ _ c2 (sb1.extBut _ _ c1 q))) st
  · have e1 : i = us.size := by omega
    refine wpAny_bind (d1.done ⟨q1, g, d, tk0, os⟩ _ _ (by rw [← e1]; exact st1) fun q3 e eb st => ?_)
    exact hE q3 tk0 e (fun c o c1 c2 c3 q => eb c o c2 (sb1.extBut _ _ c1 q)) st
/-- the next pair -/
theorem zs_item (D : ZipApart z TI TO i1 i2 a b) (hh : A.handled = none) {x y : Value} {Q : Option Value → Shared → Prop} (st : ZS t u z TI TO i1 i2 a b us vs i s.heap) (ex : us[i]? = some x) (ey : vs[i]? = some y)
    (hQ : ∀ h' tk, ZS t u z TI TO i1 i2 a b us vs (i + 1) h' → IsPair h' s.heap.objs.size x y → h'.objs.size = s.heap.objs.size + 1 →
      (∀ c o, c ≠ z → c ≠ TO → c ≠ i1 → c ≠ i2 → s.heap.get? c = some o → h'.get? c = some o) → Q (some (.ref s.heap.objs.size)) { s with heap := h', toks := tk }) : wpAny (model prog w) A (pyNext (.ref z)) Q E s := by
  obtain ⟨zp, ti, ⟨x0, y0, to⟩, g1, g2, a1, a2⟩ := st
  have lt : ∀ {c : Addr} {o : Obj}, s.heap.get? c = some o → s.heap.objs.size ≠ c := fun e => Nat.ne_of_gt (Heap.lt_size e)
  have l1 : s.heap.objs.size ≠ i1 := by obtain ⟨_, e, _⟩ := g1.obj; exact lt e
  have l2 : s.heap.objs.size ≠ i2 := by obtain ⟨_, e, _⟩ := g2.obj; exact lt e
  rcases zp with iz | ⟨T, f, oT, iz, aT, Tz, T1, T2⟩
  · refine wpAny_pyNext_zipD2_item (i := i) (sep_of D) (drawsX (A := A.in1) hh t i1 a D.l1i1 us) (drawsX (A := A.in1) hh u i2 b D.l2i2 vs) iz ti to ⟨g1, a1⟩ ⟨g2, a2⟩ (Array.getElem?_eq_some_iff.mp ex).1 (Array.getElem?_eq_some_iff.mp ey).1 fun x' y' h' tk ex' ey' z' to' ⟨n1, m1⟩ ⟨n2, m2⟩ np sz kp => ?_
    obtain rfl : x' = x := by
      have e : us[i]? = some x' := ex'
      rw [ex] at e
      exact (Option.some.inj e).symm
    obtain rfl : y' = y := by
      have e : vs[i]? = some y' := ey'
      rw [ey] at e
      exact (Option.some.inj e).symm
    exact hQ h' tk ⟨.inr ⟨_, false, _, z', np, lt iz, l1, l2⟩, kp _ _ D.TIz D.TITO D.TIi1 D.TIi2 ti, ⟨_, _, to'⟩, n1, n2, m1, m2⟩ np sz kp
  · have ty : s.TypeIs (.ref z) "zip" := ⟨_, iz, rfl⟩
    unfold pyNext
    refine wpAny_bind (wpAny_attempt (wpAny_callSpecial?_slot (name := Str.ofString "__next__") ty F.slot_zip_next
      (wpAny_call_entry F.slot_zip_next ty F.entry_zip_next (held_item (A := A.in1) D hh iz aT ti g1 a1 g2 a2 ex ey fun h' tk z' n1 n2 np sz kp => wpAny_pure (hQ h' tk ⟨.inr ⟨T, true, oT, z', kp _ _ Tz T1 T2 aT, Tz, T1, T2⟩, kp _ _ D.TIz D.TIi1 D.TIi2 ti, ⟨_, _, kp _ _ D.TOz D.TOi1 D.TOi2 to⟩, n1, n2, a1.at fun o e => kp _ _ D.l1z D.l1i1 D.l1i2 e, a2.at fun o e => kp _ _ D.l2z D.l2i1 D.l2i2 e⟩ np sz fun c o c1 _ c2 c3 e => kp c o c1 c2 c3 e)) (F.args_zip_next_1 _))))
theorem zs_end (D : ZipApart z TI TO i1 i2 a b) (hh : A.handled = none) {Q : Option Value → Shared → Prop} (st : ZS t u z TI TO i1 i2 a b us vs i s.heap) (l1 : i ≤ us.size) (l2 : i ≤ vs.size) (over : i = us.size ∨ i = vs.size)
    (hQ : ∀ h' tk, (∀ c o, c ≠ z → c ≠ TO → c ≠ i1 → c ≠ i2 → s.heap.get? c = some o → h'.get? c = some o) → Q none { s with heap := h', toks := tk }) : wpAny (model prog w) A (pyNext (.ref z)) Q E s := by
  obtain ⟨zp, ti, ⟨x0, y0, to⟩, g1, g2, a1, a2⟩ := st
  rcases zp with iz | ⟨T, f, oT, iz, aT, Tz, T1, T2⟩
  · exact wpAny_pyNext_zipD2_end (i := i) (sep_of D) (drawsX (A := A.in1) hh t i1 a D.l1i1 us) (drawsX (A := A.in1) hh u i2 b D.l2i2 vs) iz ti to ⟨g1, a1⟩ ⟨g2, a2⟩ l1 l2 over hQ
  · have ty : s.TypeIs (.ref z) "zip" := ⟨_, iz, rfl⟩
    unfold pyNext
    refine wpAny_bind (wpAny_attempt (wpAny_callSpecial?_slot (name := Str.ofString "__next__") ty F.slot_zip_next
      (wpAny_call_entry F.slot_zip_next ty F.entry_zip_next (held_end (A := A.in1) D hh iz aT ti g1 a1 g2 a2 l1 l2 over fun h' tk e kp ⟨o, he, hc⟩ => ?_) (F.args_zip_next_1 _))))
    refine wpAny_bind (wpAny_isInstance (T := "StopIteration") (b := true) ⟨o, he, hc⟩ isSubtype_stop ?_)
    exact wpAny_pure (hQ h' tk fun c o c1 _ c2 c3 e => kp c o c1 c2 c3 e)
end
theorem zip_no_len : typeLookup (.type "zip") "__len__" = pure none := am_miss_of_fast (by decide +kernel)
theorem zip_no_hint : typeLookup (.type "zip") "__length_hint__" = pure none := am_miss_of_fast (by decide +kernel)
/-- the pairs made so far: rising addresses above lo -/
structure PGz (us vs : Array Value) (lo : Addr) (h : Heap) (ps : List Addr) : Prop where
  up : ps.Pairwise (· < ·)
  hi : ∀ c ∈ ps, lo < c
  tup : ∀ (j : Nat) (c : Addr), ps[j]? = some c → ∃ x y, us[j]? = some x ∧ vs[j]? = some y ∧ IsPair h c x y
theorem PGz.lt {us vs : Array Value} {lo : Addr} {h : Heap} {ps : List Addr} (g : PGz us vs lo h ps) {c : Addr} (hc : c ∈ ps) : c < h.objs.size := by
  obtain ⟨j, hj⟩ := List.mem_iff_getElem?.mp hc
  obtain ⟨_, _, _, _, e⟩ := g.tup j c hj
  exact Heap.lt_size e
theorem PGz.mono {us vs : Array Value} {lo lo' : Addr} {h : Heap} {ps : List Addr} (g : PGz us vs lo h ps) (hl : lo' ≤ lo) : PGz us vs lo' h ps := ⟨g.up, fun c hc => Nat.lt_of_le_of_lt hl (g.hi c hc), g.tup⟩
section
variable {prog : Program} {w : World} {A : Around} {s : Shared} {R : Result → Shared → Prop} {t u : Bool} {z TI TO i1 i2 a b : Addr} {us vs : Array Value}
/-- the cells of a zip lie below a list -/
def Lo (z TI TO i1 i2 a b S : Addr) : Prop := z < S ∧ TI < S ∧ TO < S ∧ i1 < S ∧ i2 < S ∧ a < S ∧ b < S
theorem zl_loop {S : Addr} (D : ZipApart z TI TO i1 i2 a b) (hh : A.handled = none) (lo : Lo z TI TO i1 i2 a b S) (hn : us.size ≤ sizeLine) (res : Value) {h0 : Heap}
    (hR : ∀ h' tk acc c ps, (∀ q o, q ≠ S → q ≠ z → q ≠ TO → q ≠ i1 → q ≠ i2 → h0.get? q = some o → h'.get? q = some o) → h'.get? S = some { cls := .type "list", dict := none, data := .seq acc c, slots := #[] } → ps.length = min us.size vs.size → PGz us vs S h' ps →
      acc.toList = ps.map Value.ref → R (.ok (.ret res)) { s with heap := h', toks := tk }) :
    ∀ (k i : Nat) (h : Heap) (tk c : Nat) (acc : Array Value) (ps : List Addr), min us.size vs.size - i = k → i ≤ min us.size vs.size → ZS t u z TI TO i1 i2 a b us vs i h → (∀ q o, q ≠ S → q ≠ z → q ≠ TO → q ≠ i1 → q ≠ i2 → h0.get? q = some o → h.get? q = some o) →
      h.get? S = some { cls := .type "list", dict := none, data := .seq acc c, slots := #[] } → acc.toList = ps.map Value.ref → ps.length = i → PGz us vs S h ps → codeAny (model prog w) A (.builtin "list.extend.loop" ⟨[.ref S, .ref z, res], []⟩) R { s with heap := h, toks := tk } := by
  obtain ⟨lz, lT, lO, l1, l2, la, lb⟩ := lo
  have ne : ∀ {q : Addr}, q < S → S ≠ q := fun h => Nat.ne_of_gt h
  have nq : ∀ {c q : Addr}, c < S → S < q → q ≠ c := fun h1 h2 => Nat.ne_of_gt (Nat.lt_trans h1 h2)
  have nl : ∀ {q : Addr}, q < S → q ≠ S := fun h => Nat.ne_of_lt h
  intro k
  induction k with
  | zero =>
    intro i h tk c acc ps hk hi st kp gS ea el pg
    refine codeAny_builtin (R := R) F.entry_extend_loop ?_
    rw [Around.under_plainId (A := A) F.plain_extend_loop _]
    show wpAny _ A.in1 (pyNext (.ref z) >>= _) _ _ _
    refine wpAny_bind (zs_end (A := A.in1) (s := { s with heap := h, toks := tk }) D hh st (by omega) (by omega) (by omega) fun h' tk' kp' => ?_)
    refine wpAny_pure (hR h' tk' acc c ps (fun q o n0 n1 n2 n3 n4 e => kp' q o n1 n2 n3 n4 (kp q o n0 n1 n2 n3 n4 e)) (kp' S _ (ne lz) (ne lO) (ne l1) (ne l2) gS) (by omega) ⟨pg.up, pg.hi, fun j q hj => ?_⟩ ea)
    obtain ⟨x, y, ex, ey, e⟩ := pg.tup j q hj
    have hq := pg.hi q (List.mem_of_getElem? hj)
    exact ⟨x, y, ex, ey, kp' q _ (nq lz hq) (nq lO hq) (nq l1 hq) (nq l2 hq) e⟩
  | succ k ih =>
    intro i h tk c acc ps hk hi st kp gS ea el pg
    have s1 : i < us.size := by omega
    have s2 : i < vs.size := by omega
    have as : acc.size = i := by rw [← Array.length_toList, ea, List.length_map, el]
    have lS := Heap.lt_size gS
    refine codeAny_builtin (R := R) F.entry_extend_loop ?_
    rw [Around.under_plainId (A := A) F.plain_extend_loop _]
    show wpAny _ A.in1 (pyNext (.ref z) >>= _) _ _ _
    refine wpAny_bind (zs_item (A := A.in1) (s := { s with heap := h, toks := tk }) D hh st (Array.getElem?_eq_getElem s1) (Array.getElem?_eq_getElem s2) fun h' tk' st' np sz kp' => ?_)
    dsimp only at np sz kp' ⊢
    have gS' := kp' S _ (ne lz) (ne lO) (ne l1) (ne l2) gS
    have up : ∀ q o, q ≠ S → h'.get? q = some o → (h'.update S (Obj.mapSeq (·.push (Value.ref h.objs.size)))).get? q = some o := fun q o n e => (Heap.get?_update_other _ _ (Ne.symm n)).trans e
    show wpAny _ A.in1 (updateSeq S (·.push (Value.ref h.objs.size)) >>= _) _ _ _
    refine wpAny_bind (wpAny_updateSeq gS' rfl (wpAny_pure ⟨plainId_quiet F.plain_extend_loop _, ih (i + 1) _ tk' _ (acc.push (Value.ref h.objs.size)) (ps ++ [h.objs.size]) (by omega) (by omega) ?_
      (fun q o n0 n1 n2 n3 n4 e => up q o n0 (kp' q o n1 n2 n3 n4 (kp q o n0 n1 n2 n3 n4 e))) (Heap.get?_update_self _ gS' rfl) (by rw [Array.toList_push, ea, List.map_append]; rfl) (by rw [List.length_append, el]; rfl) ⟨?_, ?_, ?_⟩⟩) (by rw [as]; omega) (by show (acc.push (Value.ref h.objs.size)).size ≤ sizeLine + 1; rw [Array.size_push, as]; omega))
    · obtain ⟨zp, ti, ⟨x, y, to⟩, g1, g2, a1, a2⟩ := st'
      refine ⟨?_, up _ _ (nl lT) ti, ⟨x, y, up _ _ (nl lO) to⟩, g1.at fun o => up _ o (nl l1), g2.at fun o => up _ o (nl l2), a1.at fun o => up _ o (nl la), a2.at fun o => up _ o (nl lb)⟩
      rcases zp with e | ⟨T, f, oT, e1, e2, e3⟩
      · exact .inl (up _ _ (nl lz) e)
      · by_cases hTS : T = S
        · subst hTS
          exact .inr ⟨T, f, _, up _ _ (nl lz) e1, Heap.get?_update_self _ gS' rfl, e3⟩
        · exact .inr ⟨T, f, oT, up _ _ (nl lz) e1, up _ _ hTS e2, e3⟩
    · refine List.pairwise_append.mpr ⟨pg.up, List.pairwise_singleton _ _, fun c hc d hd => ?_⟩
      rw [List.mem_singleton.mp hd]
      exact pg.lt hc
    · intro q hq
      rcases List.mem_append.mp hq with hq | hq
      · exact pg.hi q hq
      · rw [List.mem_singleton.mp hq]; exact lS
    · intro j q hj
      rcases Nat.lt_trichotomy j ps.length with c1 | c1 | c1
      · rw [List.getElem?_append_left c1] at hj
        obtain ⟨x, y, ex, ey, e⟩ := pg.tup j q hj
        have hq := pg.hi q (List.mem_of_getElem? hj)
        exact ⟨x, y, ex, ey, up _ _ (Nat.ne_of_gt hq) (kp' q _ (nq lz hq) (nq lO hq) (nq l1 hq) (nq l2 hq) e)⟩
      · subst c1
        have e : h.objs.size = q := by simpa using hj
        subst e
        subst el
        exact ⟨_, _, Array.getElem?_eq_getElem s1, Array.getElem?_eq_getElem s2, up _ _ (Nat.ne_of_gt lS) np⟩
      · have e : (ps ++ [h.objs.size])[j]? = none := List.getElem?_eq_none (by rw [List.length_append, List.length_singleton]; omega)
        rw [e] at hj; cases hj
end
section
variable {prog : Program} {w : World} {A : Around} {E : Value → Shared → Prop} {s : Shared} {R : Result → Shared → Prop} {t u : Bool} {z TI TO i1 i2 a b : Addr} {us vs : Array Value}
theorem zs_typ {i : Nat} {s : Shared} (st : ZS t u z TI TO i1 i2 a b us vs i s.heap) : s.TypeIs (.ref z) "zip" := by
  rcases st.zp with e | ⟨T, f, oT, e, _⟩
  · exact ⟨_, e, rfl⟩
  · exact ⟨_, e, rfl⟩
theorem ZS.off {S i : Nat} {h h' : Heap} (lo : Lo z TI TO i1 i2 a b S) (iz : IsZip h z TI TO .none) (st : ZS t u z TI TO i1 i2 a b us vs i h) (up : ∀ c o, c ≠ S → h.get? c = some o → h'.get? c = some o) : ZS t u z TI TO i1 i2 a b us vs i h' := by
  obtain ⟨lz, lT, lO, l1, l2, la, lb⟩ := lo
  obtain ⟨_, ti, ⟨x, y, to⟩, g1, g2, a1, a2⟩ := st
  exact ⟨.inl (up _ _ (Nat.ne_of_lt lz) iz), up _ _ (Nat.ne_of_lt lT) ti, ⟨x, y, up _ _ (Nat.ne_of_lt lO) to⟩, g1.at fun o => up _ o (Nat.ne_of_lt l1), g2.at fun o => up _ o (Nat.ne_of_lt l2), a1.at fun o => up _ o (Nat.ne_of_lt la), a2.at fun o => up _ o (Nat.ne_of_lt lb)⟩
abbrev ZR (us vs : Array Value) (z TO i1 i2 S : Addr) (s : Shared) (res : Value) (R : Result → Shared → Prop) : Prop := ∀ h' tk acc c ps, (∀ q o, q ≠ S → q ≠ z → q ≠ TO → q ≠ i1 → q ≠ i2 → s.heap.get? q = some o → h'.get? q = some o) → h'.get? S = some { cls := .type "list", dict := none, data := .seq acc c, slots := #[] } → ps.length = min us.size vs.size → PGz us vs S h' ps →
      acc.toList = ps.map Value.ref → R (.ok (.ret res)) { s with heap := h', toks := tk }
theorem zl_extend {S c0 : Nat} (D : ZipApart z TI TO i1 i2 a b) (hh : A.handled = none) (lo : Lo z TI TO i1 i2 a b S) (hn : us.size ≤ sizeLine) (res : Value) (iz : IsZip s.heap z TI TO .none) (st : ZS t u z TI TO i1 i2 a b us vs 0 s.heap) (gS : s.heap.get? S = some { cls := .type "list", data := .seq #[] c0 })
    (hR : ZR us vs z TO i1 i2 S s res R) :
    wpAny (model prog w) A.in1 (Builtin.List.listExtendWith (.ref S) (.ref z) res)
      (fun fin s' => match fin with | .done f => R (.ok f) s' | .again c' => c'.quiet = true ∧ codeAny (model prog w) A c' R s') (fun e s' => R (.error e) s') s := by
  have zS : z < S := lo.1
  unfold Builtin.List.listExtendWith
  refine wpAny_bind (wpAny_typeOf (zs_typ st) ?_)
  have f1 : Builtin.List.listSameRef (.ref S) (.ref z) = false := by simp [Builtin.List.listSameRef, Nat.ne_of_gt zS]
  have f2 : (Value.type "zip" == Value.type "list") = false := by decide
  have f3 : (Value.type "zip" == Value.type "tuple") = false := by decide
  simp only [f1, f2, f3, Bool.or_false, Bool.false_eq_true, if_false]
  refine wpAny_bind (wpAny_pyIter_zip iz ?_)
  refine wpAny_bind (wpAny_holding ?_)
  unfold Builtin.List.listLengthHint
  refine wpAny_bind (wpAny_specialOf (zs_typ st) zip_no_len ?_)
  show wpAny _ A.in1 (specialOf (Value.ref z) (Str.ofString "__length_hint__") >>= _) _ _ _
  refine wpAny_bind (wpAny_specialOf (zs_typ st) zip_no_hint ?_)
  refine wpAny_pure ?_
  show wpAny _ A.in1 (rule "list.extend.makes-room" >>= fun _ => Builtin.List.listTouch (.ref S) >>= fun _ => again (.builtin "list.extend.loop" ⟨[.ref S, .ref z, res], []⟩)) _ _ _
  refine wpAny_bind (wpAny_rule (wpAny_bind ?_))
  show wpAny _ A.in1 (updateSeq S (·.push .none) >>= fun _ => updateSeq S (·.pop)) _ _ _
  refine wpAny_bind (wpAny_updateSeq gS rfl ?_)
  have gS2 := Heap.get?_update_self (Obj.mapSeq (·.push Value.none)) gS rfl
  refine wpAny_updateSeq (hz := by seq_fits) gS2 rfl ?_
  have gS3 := Heap.get?_update_self (Obj.mapSeq (·.pop)) gS2 rfl
  have oth : ∀ q o, q ≠ S → s.heap.get? q = some o → ((s.heap.update S (Obj.mapSeq (·.push Value.none))).update S (Obj.mapSeq (·.pop))).get? q = some o := fun q o n e => (Heap.get?_update_other _ _ (Ne.symm n)).trans ((Heap.get?_update_other _ _ (Ne.symm n)).trans e)
  exact wpAny_pure ⟨plainId_quiet F.plain_extend_loop _, zl_loop (s := s) (h0 := s.heap) D hh lo hn res hR _ 0 _ s.toks _ #[] [] rfl (Nat.zero_le _) (st.off lo iz oth) (fun q o n _ _ _ _ e => oth q o n e) gS3 rfl rfl
    ⟨List.Pairwise.nil, (fun _ hc => nomatch hc), (fun j c hj => by simp at hj)⟩⟩
theorem zl_init {S : Nat} (D : ZipApart z TI TO i1 i2 a b) (hh : A.handled = none) (lo : Lo z TI TO i1 i2 a b S) (hn : us.size ≤ sizeLine) (iz : IsZip s.heap z TI TO .none) (st : ZS t u z TI TO i1 i2 a b us vs 0 s.heap) (gS : s.heap.get? S = some { cls := .type "list", data := .seq #[] })
    (hR : ZR us vs z TO i1 i2 S s .none R) :
    wpAny (model prog w) A.in1 (Builtin.«list.__init__» ⟨[.ref S, .ref z], []⟩)
      (fun fin s' => match fin with | .done f => R (.ok f) s' | .again c' => c'.quiet = true ∧ codeAny (model prog w) A c' R s') (fun e s' => R (.error e) s') s := by
  show wpAny _ _ (do let was ← Builtin.List.listItems (.ref S); Builtin.List.listUpdate (.ref S) (fun _ => #[]); letGo was.toList.reverse; Builtin.List.listExtendWith (.ref S) (.ref z) .none) _ _ s
  refine wpAny_bind ?_
  unfold Builtin.List.listItems
  refine wpAny_bind (wpAny_seqItems gS rfl (wpAny_pure ?_))
  show wpAny _ _ (updateSeq S (fun _ => #[]) >>= fun _ => letGo (#[] : Array Value).toList.reverse >>= fun _ => Builtin.List.listExtendWith (.ref S) (.ref z) .none) _ _ s
  refine wpAny_bind (wpAny_updateSeq gS rfl ?_)
  have gS2 := Heap.get?_update_self (Obj.mapSeq (fun _ => (#[] : Array Value))) gS rfl
  have oth : ∀ q o, q ≠ S → s.heap.get? q = some o → (s.heap.update S (Obj.mapSeq (fun _ => (#[] : Array Value)))).get? q = some o := fun q o n e => (Heap.get?_update_other _ _ (Ne.symm n)).trans e
  refine wpAny_bind (wpAny_letGo ?_)
  exact zl_extend D hh lo hn .none (oth _ _ (Nat.ne_of_lt lo.1) iz) (st.off lo iz oth) gS2 fun h' tk acc c ps kp g el pg ea => hR h' tk acc c ps (fun q o n n1 n2 n3 n4 e => kp q o n n1 n2 n3 n4 (oth q o n e)) g el pg ea
theorem zl_call {Q : Value → Shared → Prop} (D : ZipApart z TI TO i1 i2 a b) (hh : A.handled = none) (lo : Lo z TI TO i1 i2 a b s.heap.objs.size) (hn : us.size ≤ sizeLine) (iz : IsZip s.heap z TI TO .none) (st : ZS t u z TI TO i1 i2 a b us vs 0 s.heap)
    (hQ : ∀ h' tk acc c ps, (∀ q o, q ≠ z → q ≠ TO → q ≠ i1 → q ≠ i2 → s.heap.get? q = some o → h'.get? q = some o) → h'.get? s.heap.objs.size = some { cls := .type "list", dict := none, data := .seq acc c, slots := #[] } → ps.length = min us.size vs.size → PGz us vs s.heap.objs.size h' ps →
      acc.toList = ps.map Value.ref → Q (.ref s.heap.objs.size) { s with heap := h', toks := tk }) :
    wpAny (model prog w) A (call (.type "list") [.ref z]) Q E s := by
  refine callType_codes (Q₁ := fun obj s₁ => obj = .ref s.heap.objs.size ∧ s₁ = { s with heap := s.heap.push { cls := .type "list", data := .seq #[] } }) F.called_list (F.typeCall_list_1 _) F.entry_list_init (code_list_new _ ⟨rfl, rfl⟩) fun obj s₁ h₁ => ?_
  obtain ⟨rfl, rfl⟩ := h₁
  have gS : (s.heap.push { cls := .type "list", data := .seq #[] }).get? s.heap.objs.size = some { cls := .type "list", data := .seq #[] } := Heap.get?_push_size _ rfl
  refine ⟨⟨_, gS, rfl⟩, F.args_list_init_2 _ _, zl_init (A := A.in1) D hh lo hn (Heap.get?_push_of_some _ iz) (st.keep fun c o e => Heap.get?_push_of_some _ e) gS fun h' tk acc c ps kp g el pg ea => ?_⟩
  exact ⟨rfl, hQ h' tk acc c ps (fun q o n1 n2 n3 n4 e => kp q o (Nat.ne_of_lt (Heap.lt_size e)) n1 n2 n3 n4 (Heap.get?_push_of_some _ e)) g el pg ea⟩
end
end Mi
namespace Mi
open PySem PySem.Spec L2 PyProof.Rows
/-! the pairs tracked -/
def putP : Hp → List Addr → List (V × V) → Hp
  | H, c :: cs, q :: qs => putP (L2.upd H c (.tup [q.1, q.2])) cs qs
  | H, _, _ => H
theorem putP_off {d : Addr} : ∀ (cs : List Addr) (qs : List (V × V)) (H : Hp), d ∉ cs → putP H cs qs d = H d
  | [], _, _, _ => rfl
  | _ :: _, [], _, _ => rfl
  | c :: cs, q :: qs, H, h => by
    show putP (L2.upd H c _) cs qs d = H d
    rw [putP_off cs qs _ (fun z => h (List.mem_cons_of_mem _ z)), L2.upd_ne (fun z => h (by rw [z]; exact List.mem_cons_self))]
theorem putP_at : ∀ (cs : List Addr) (qs : List (V × V)) (H : Hp), cs.length = qs.length → cs.Nodup → ∀ (j : Nat) (c : Addr), cs[j]? = some c → ∃ q, qs[j]? = some q ∧ putP H cs qs c = some (.tup [q.1, q.2])
  | [], _, _, _, _, j, c, hj => by simp at hj
  | _ :: _, [], _, h, _, _, _, _ => by cases h
  | c :: cs, q :: qs, H, h, nd, 0, d, hj => by
    obtain rfl : c = d := by simpa using hj
    refine ⟨q, rfl, ?_⟩
    show putP (L2.upd H c _) cs qs c = _
    rw [putP_off cs qs _ (List.nodup_cons.mp nd).1, L2.upd_same]
  | c :: cs, q :: qs, H, h, nd, j + 1, d, hj => putP_at cs qs _ (Nat.succ.inj h) (List.nodup_cons.mp nd).2 j d (by simpa using hj)
def tListZip (K : PySem.W.Frag) (ta : TA) : TE := fun σ H Q => ta σ H fun vs H1 => ∃ t u a b xs ys, vs = [.ref a, .ref b] ∧ Sqx t K H1 a xs ∧ Sqx u K H1 b ys ∧ (xs.length ≤ sizeLine →
  ∀ (p : Addr) (ps : List Addr), ps.length = (xs.zip ys).length → ps.Nodup → (∀ c ∈ ps, H1 c = none) → p ∉ ps → H1 p = none → Q (.ref p) (L2.upd (putP H1 ps (xs.zip ys)) p (.lst (ps.map V.ref))))
theorem zip_laid {X : Cx} {t u : Bool} {a b : Addr} {pins : List (Addr × Obj)} {σ : L2.St} {H : Hp} {s : Shared} {h' : Heap} {tk : Nat} {xs ys : List V} {us vs : List Value} {acc : Array Value} {c S : Nat} {ps : List Addr} (I : Inv X pins σ H s) (hz : xs.length ≤ sizeLine) (r1 : Vals xs us) (r2 : Vals ys vs) (hS0 : s.heap.objs.size ≤ S)
    (hk : ∀ b o, s.heap.get? b = some o → h'.get? b = some o) (hS : h'.get? S = some { cls := .type "list", dict := none, data := .seq acc c, slots := #[] }) (hl : ps.length = min us.length vs.length) (pg : PGz us.toArray vs.toArray S h' ps) (ea : acc.toList = ps.map Value.ref) :
    ps.length = (xs.zip ys).length ∧ ps.Nodup ∧ (∀ c ∈ ps, H c = none) ∧ S ∉ ps ∧ H S = none ∧ Inv X pins σ (L2.upd (putP H ps (xs.zip ys)) S (.lst (ps.map V.ref))) { s with heap := h', toks := tk } := by
  have lu := r1.length
  have lv := r2.length
  have ln : ps.length = (xs.zip ys).length := by rw [List.length_zip, hl, lu, lv]
  have nd : ps.Nodup := List.Pairwise.imp (fun {a b} (h : a < b) => Nat.ne_of_lt h) pg.up
  have new : ∀ c ∈ ps, H c = none := fun c hc => I.hok.fresh (Nat.le_trans hS0 (Nat.le_of_lt (pg.hi c hc)))
  have Sn : S ∉ ps := fun z => Nat.lt_irrefl _ (pg.hi _ z)
  have newS : H S = none := I.hok.fresh hS0
  have atp := putP_at ps (xs.zip ys) H ln nd
  have eqS : L2.upd (putP H ps (xs.zip ys)) S (.lst (ps.map V.ref)) S = some (.lst (ps.map V.ref)) := L2.upd_same
  have off : ∀ q, q ∉ ps → q ≠ S → L2.upd (putP H ps (xs.zip ys)) S (.lst (ps.map V.ref)) q = H q := fun q h1 h2 => by rw [L2.upd_ne h2, putP_off ps _ _ h1]
  have low : ∀ q o, s.heap.get? q = some o → q ∉ ps ∧ q ≠ S := fun q o e => ⟨fun z => absurd (Heap.lt_size e) (Nat.not_lt.mpr (Nat.le_trans hS0 (Nat.le_of_lt (pg.hi q z)))), fun z => absurd (Heap.lt_size e) (Nat.not_lt.mpr (z ▸ hS0))⟩
  have kp : ∀ q o, H q = some o → L2.upd (putP H ps (xs.zip ys)) S (.lst (ps.map V.ref)) q = some o := fun q o e => by
    rw [off q (fun z => by rw [new q z] at e; cases e) (fun z => by rw [z, newS] at e; cases e)]
    exact e
  refine ⟨ln, nd, new, Sn, newS, ?_⟩
  generalize hH : L2.upd (putP H ps (xs.zip ys)) S (.lst (ps.map V.ref)) = H' at eqS off kp ⊢
  refine I.call' (ch := []) rfl ⟨fun q o e _ _ _ => hk q o e, fun q o e _ _ _ => ⟨o.slots, hk q o e⟩, fun q o e n _ => ?_, fun q o e _ => ⟨o, hk q o e⟩, fun q xs e => kp q _ e, fun q o u e => kp q _ e, fun q ps e => ⟨#[], by rw [kp q _ e]; simp⟩⟩ (fun q o e => ?_) I.bare fun q z => by simp at z
  · obtain ⟨z1, z2⟩ := low q o e
    rw [off q z1 z2]
    exact n
  · by_cases hq : q ∈ ps
    · obtain ⟨j, hj⟩ := List.mem_iff_getElem?.mp hq
      obtain ⟨pr, e1, e2⟩ := atp j q hj
      have hqS : q ≠ S := fun z => Sn (z ▸ hq)
      rw [← hH, L2.upd_ne hqS, e2] at e
      cases e
      obtain ⟨x, y, f1, f2, f3⟩ := pg.tup j q hj
      rw [List.getElem?_zip_eq_some] at e1
      obtain ⟨x', g1, rx⟩ := r1.get e1.1
      obtain ⟨y', g2, ry⟩ := r2.get e1.2
      have f1 : us[j]? = some x := by simpa using f1
      have f2 : vs[j]? = some y := by simpa using f2
      rw [f1] at g1
      rw [f2] at g2
      cases g1
      cases g2
      exact ⟨by show 2 ≤ sizeLine; decide, [x, y], .cons rx (.cons ry .nil), ⟨_, f3, rfl, _, rfl⟩⟩
    · by_cases hq2 : q = S
      · subst hq2
        rw [eqS] at e
        cases e
        refine ⟨by rw [List.length_map]; omega, acc.toList, c, by rw [ea]; exact LiI.vals_refs ps, ?_⟩
        rw [Array.toArray_toList]
        exact hS
      · rw [off q hq hq2] at e
        exact (I.hok q o e).stay (fun d v _ y => hk d v y) (fun d y => kp d _ y) fun d xs y => kp d _ y
theorem Sqx.size {X : Cx} {pins : List (Addr × Obj)} {σ : L2.St} {H : Hp} {s : Shared} {t : Bool} {a : Addr} {xs : List V} (I : Inv X pins σ H s) (h : Sqx t X.K H a xs) : xs.length ≤ sizeLine := by
  cases t with
  | true => obtain ⟨_, _, _, e⟩ := I.tuple h; exact e
  | false => obtain ⟨_, _, _, e⟩ := I.list h; exact e
theorem pe_listZip {X : Cx} {e e2 : Expr} {ta : TA} {p p2 pos pos2 : Pos} (hc : X.calm = true) (hg : Gl X "list") (hm : X.mg "list" = none) (hg2 : Gl X "zip") (hm2 : X.mg "zip" = none) (ha : PA X [e, e2] ta)
    (hs : starEach [e, e2] X.env = (false, eval e X.env) :: starEach [e2] X.env) (hpl : (backTo pos2 (starEach [e2] X.env)).any (·.1) = false) :
    PE X (.Call (.Name "list" p) [.Call (.Name "zip" p2) [e, e2] [] pos2] [] pos) (tListZip X.K ta) := by
  refine ⟨fun pins s σ H Q I h => ?_⟩
  refine wpAny_Call_Name_kw (ld_blt I hg hm PyProof.Rows.boot_list ?_)
  refine PyProof.Rows.callWith_type1 ?_ rfl rfl
  show wpAny _ _ (spliced [(false, eval (.Call (.Name "zip" p2) [e, e2] [] pos2) X.env)]) _ _ s
  refine Calls.spliced_cons ?_
  refine Call_ (ld_blt I hg2 hm2 PyProof.Rows.boot_zip (PyProof.Rows.callWith_type1 (thn (ha.run pos2 pins s σ H _ I h) fun us s1 ⟨vs, H1, I1, r1, q1⟩ => ?_) hs hpl))
  obtain ⟨t, u, a, b, xs, ys, rfl, q1, q2, go⟩ := q1
  cases r1 with
  | cons ra r1 =>
    cases r1 with
    | cons rb r1 =>
      cases r1
      cases ra
      cases rb
      obtain ⟨us, v1, p1⟩ := q1.inv I1
      obtain ⟨vs, v2, p2⟩ := q2.inv I1
      obtain ⟨o1, B1, it1⟩ := beginsX t a us.toArray
      obtain ⟨o2, B2, it2⟩ := beginsX u b vs.toArray
      refine zip_begins2 B1 B2 p1 p2 fun h' hz hTI hTO g1 g2 hsz hk => ?_
      refine Calls.spliced_nil ?_
      have la := p1.lt
      have lb := p2.lt
      have lx := q1.size I1
      have D := PySem.W.ktu_apart s1.heap.objs.size a b la lb
      refine zl_call (A := X.A) (s := { s1 with heap := h' }) (t := t) (u := u) (us := us.toArray) (vs := vs.toArray) D (I1.ok.hd hc) ?_ (by rw [List.size_toArray, ← v1.length]; exact lx) hz ⟨.inl hz, hTI, ⟨_, _, hTO⟩, it1 _ _ g1, it2 _ _ g2, p1.at fun o => hk _ o, p2.at fun o => hk _ o⟩ fun h2 tk acc c ps kp gS el pg ea => ?_
      · show Lo _ _ _ _ _ _ _ h'.objs.size
        rw [hsz]
        exact ⟨Nat.lt_succ_self _, Nat.add_lt_add_left (by decide) _, Nat.add_lt_add_left (by decide) _, Nat.lt_add_of_pos_right (by decide), Nat.add_lt_add_left (by decide) _, Nat.lt_of_lt_of_le la (Nat.le_add_right _ _), Nat.lt_of_lt_of_le lb (Nat.le_add_right _ _)⟩
      · have kk : ∀ q o, s1.heap.get? q = some o → h2.get? q = some o := fun q o e => by
          have l := Heap.lt_size e
          exact kp q o (Nat.ne_of_lt (Nat.lt_of_lt_of_le l (Nat.le_add_right _ _))) (Nat.ne_of_lt (Nat.lt_of_lt_of_le l (Nat.le_add_right _ _))) (Nat.ne_of_lt l) (Nat.ne_of_lt (Nat.lt_of_lt_of_le l (Nat.le_add_right _ _))) (hk q o e)
        have S0 : s1.heap.objs.size ≤ h'.objs.size := by rw [hsz]; exact Nat.le_add_right _ _
        rw [List.size_toArray, List.size_toArray] at el
        obtain ⟨k1, k2, k3, k4, k5, J⟩ := zip_laid (t := t) (u := u) (a := a) (b := b) (tk := tk) I1 lx v1 v2 S0 kk gS el pg ea
        exact ⟨.ref _, _, J, rfl, go lx h'.objs.size ps k1 k2 k3 k4 k5⟩
/-! the same in the small heap -/
section
variable {cl : Cl} {S : Hm}
theorem putP_free {d : Addr} : ∀ (cs : List Addr) (qs : List (V × V)) (H : Hp), putP H cs qs d = none → H d = none
  | [], _, _, h => h
  | _ :: _, [], _, h => h
  | c :: cs, q :: qs, H, h => by
    have h1 := putP_free cs qs (L2.upd H c (.tup [q.1, q.2])) h
    by_cases e : d = c
    · subst e; rw [L2.upd_same] at h1; cases h1
    · rw [L2.upd_ne e] at h1; exact h1
theorem put_pairs : ∀ (ps : List Addr) {m : Sm} {xs ys : List Val} {us vs : List V}, SH cl m S → RDs m xs us → RDs m ys vs → ps.length = (us.zip vs).length → ps.Nodup → (∀ c ∈ ps, m.H c = none) → KF m.K (putP m.H ps (us.zip vs)) →
    ∃ m', Ev m m' ∧ m'.H = putP m.H ps (us.zip vs) ∧ m'.em = m.em ∧ m'.K = m.K ∧ SH cl m' S ∧ RDs m' ((xs.zip ys).map fun q => .tup [q.1, q.2]) (ps.map V.ref)
  | [], m, xs, ys, us, vs, hS, r1, r2, hl, nd, nw, kf => by
    have e : (xs.zip ys) = [] := by
      cases r1 with
      | nil => rfl
      | cons a r1 =>
        cases r2 with
        | nil => rfl
        | cons b r2 => simp at hl
    exact ⟨m, Ev.refl m, by cases us.zip vs <;> rfl, rfl, rfl, hS, by rw [e]; exact .nil⟩
  | c :: cs, m, xs, ys, us, vs, hS, r1, r2, hl, nd, nw, kf => by
    cases r1 with
    | nil => simp at hl
    | @cons x u xs us a r1 =>
      cases r2 with
      | nil => simp at hl
      | @cons y v ys vs b r2 =>
        have hc := nw c List.mem_cons_self
        have nd' := List.nodup_cons.mp nd
        have kf1 : KF m.K (L2.upd m.H c (.tup [u, v])) := fun q o e => putP_free cs (us.zip vs) _ (kf q o e)
        have e1 : Ev m { m with H := L2.upd m.H c (.tup [u, v]) } := Ev.outside hc
        have hS1 := hS.outside hc kf1
        have up := e1.up hS
        obtain ⟨m', e2, f1, f2, f3, f4, f5⟩ := put_pairs cs (m := { m with H := L2.upd m.H c (.tup [u, v]) }) hS1 (r1.up up) (r2.up up) (by simpa using hl) nd'.2 (fun q hq => by
          show L2.upd m.H c _ q = none
          have ne : q ≠ c := fun z => nd'.1 (by rw [← z]; exact hq)
          rw [L2.upd_ne ne]
          exact nw q (List.mem_cons_of_mem _ hq)) kf
        refine ⟨m', e1.trans e2, f1, f2, f3, f4, ?_⟩
        show RDs m' (.tup [x, y] :: _) (.ref c :: _)
        exact .cons (.tup (.inl (.inl (by rw [f1]; exact (putP_off cs (us.zip vs) _ nd'.1).trans L2.upd_same))) (.cons ((a.up up).up (e2.up hS1)) (.cons ((b.up up).up (e2.up hS1)) .nil))) f5
end
end Mi
namespace Mi
open PySem PySem.Spec L2 PyProof.Rows
theorem pairL_zip : ∀ xs ys : List Val, pairL xs ys = (xs.zip ys).map fun q => .tup [q.1, q.2]
  | [], _ => by simp [pairL]
  | _ :: _, [] => by simp [pairL]
  | x :: xs, y :: ys => by simp [pairL, pairL_zip xs ys]
section
variable {P : Pg} {cl : Cl} {k : Nat} {X : Cx} {W : WX} {o : Ko} {a b : E} {ea eb : Expr}
theorem lt_rd {m : Sm} {S : Hm} {v : Val} {x : V} {K : List Val → (Hm → Prop) → Prop} (hS : SH cl m S) (r : RD m v x) (h : ltOf v S K) : ∃ t q xs ws g, x = .ref q ∧ K xs g ∧ Sqx t m.K m.H q ws ∧ RDs m xs ws := by
  cases v with
  | tup xs =>
    cases r with
    | @tup q vs _ hv rs => exact ⟨true, q, xs, vs, _, rfl, h, hv, rs⟩
  | ref n =>
    obtain ⟨xs, h1, h2⟩ := h
    cases r with
    | @ref _ q hq =>
    obtain ⟨vs, hv, rs⟩ := hS.lst h1 hq
    exact ⟨false, q, xs, vs, _, rfl, h2, hv, rs⟩
  | _ => exact h.elim
theorem e_listZip {p p2 pos pos2 : Pos} (xo : XO P cl X k o W) (hc : (!o.hot) = true) (hg : Gl X (Str.ofString "list")) (hg2 : Gl X (Str.ofString "zip")) (hs : notStar ea = true) (hs2 : notStar eb = true) (ha : PE X ea (tE P cl k X W a)) (hb : PE X eb (tE P cl k X W b)) :
    PE X (.Call (.Name (Str.ofString "list") p) [.Call (.Name (Str.ofString "zip") p2) [ea, eb] [] pos2] [] pos) (tE P cl k X W (.vi .listZip (.cons a (.cons b .nil)))) :=
  PE.imp (PE.kf (pe_listZip (xo.calm hc) hg (xo.ln.bi "list" (by decide)) hg2 (xo.ln.bi "zip" (by decide)) (pa_cons ha (pa_cons hb pa_nil (star_cons hs2)) (star_cons hs)) (star_cons hs) (star_any (by simp [hs2])))) fun σ H Q ⟨m, env, S, hK, eH, hS, hV, h⟩ => by
    subst eH
    simp only [wE, wEs] at h
    refine tE_of hK hS hV (Ev.refl m) h fun m1 x S1 v e1 hS1 r1 hV1 h1 => ?_
    refine tE_of (e1.k.trans hK) hS1 hV1 e1 h1 fun m2 y S2 w e2 hS2 r2 hV2 h2 => ?_
    have hK2 := (e1.trans e2).k.trans hK
    have h2 : ltOf v S2 (fun xs _ => ltOf w S2 fun ys _ => liftQ cl m Q (.ref S2.length) (S2 ++ [.lst (pairL xs ys)])) := h2
    obtain ⟨t, q, xs, us, g, rfl, h3, q1, s1⟩ := lt_rd hS2 (r1.up (e2.up hS1)) h2
    obtain ⟨u, q', ys, vs, g', rfl, h4, q2, s2⟩ := lt_rd hS2 r2 h3
    rw [hK2] at q1 q2
    refine ⟨t, u, q, q', us, vs, rfl, q1, q2, fun _ p ps ln nd nw pn np kf => ?_⟩
    rw [← hK2] at kf
    have kf1 : KF m2.K (putP m2.H ps (us.zip vs)) := fun c o e => by
      have z := kf c o e
      by_cases ec : c = p
      · subst ec; rw [L2.upd_same] at z; cases z
      · rw [L2.upd_ne ec] at z; exact z
    obtain ⟨m3, e3, f1, f2, f3, hS3, r3⟩ := put_pairs ps hS2 s1 s2 ln nd nw kf1
    rw [← f1] at kf ⊢
    have np3 : m3.H p = none := by rw [f1, putP_off ps _ _ pn]; exact np
    refine mk_lst hS3 r3 np3 (by rw [f3]; exact kf) ?_
    rw [← pairL_zip]
    exact liftQ.ev ((e1.trans e2).trans e3) (fun _ _ _ q => q) h4
end
end Mi

set_option maxHeartbeats 4000000
/-! enumerate of a list or a tuple -/
namespace Mi
open PySem PySem.Spec L2 PyProof.Rows
theorem meets_enum1 {v : Value} {o : Obj} {H : Heap → Prop} (B : Begins v o H) :
    Meets (Builtin.«enumerate.__new__» ⟨[.type "enumerate", v], []⟩) (fun _ R s => H s.heap ∧ R (.ok (.ret (.ref (s.heap.push o).objs.size))) { s with heap := (s.heap.push o).push { cls := .type "enumerate", data := .fields #[.none, .bool false, .ref s.heap.objs.size, rawInt 0, .none, .none] } }) :=
  .of_wp fun prog w A R s ⟨hb, h⟩ => by
    obtain ⟨hp, g, d, tk, os⟩ := s
    have sub := sub_enumerate
    have go : ∀ {A' : Around} {E : Value → Shared → Prop} {Q : Value → Shared → Prop}, Q (.ref hp.objs.size) ⟨hp.push o, g, d, tk, os⟩ → wpAny (model prog w) A' (pyIter v) Q E ⟨hp, g, d, tk, os⟩ := fun q => B.iter prog w _ _ ⟨hp, g, d, tk, os⟩ _ hb q
    wp_walk using go
    refine wpAny_stack_any fun st => wpAny_pure ?_
    split
    · rename_i c _ _ _ _ _
      cases (c == Value.type "enumerate") <;> (wp_walk using go) <;> exact ⟨_, rfl, h⟩
    · wp_walk using go
      exact ⟨_, rfl, h⟩
section
variable {prog : Program} {w : World} {A : Around} {E : Value → Shared → Prop} {s : Shared}
theorem enum1_begins {v : Value} {o : Obj} {H : Heap → Prop} {Q : Value → Shared → Prop} (B : Begins v o H) (hb : H s.heap)
    (h : ∀ h', IsEnum h' (s.heap.objs.size + 1) s.heap.objs.size 0 .none → h'.get? s.heap.objs.size = some o → (∀ q u, s.heap.get? q = some u → h'.get? q = some u) → Q (.ref (s.heap.objs.size + 1)) { s with heap := h' }) :
    wpAny (model prog w) A (call (.type "enumerate") [v]) Q E s := by
  refine callType_new F.called_enumerate (by decide) (F.typeCall_enumerate_1 _) (F.newCall_enumerate_1 _) (fun obj => F.args_object_init_2 obj _) F.entry_enumerate_new (meets_enum1 B) ⟨hb, ?_⟩
  have sz : (s.heap.push o).objs.size = s.heap.objs.size + 1 := Heap.size_push ..
  show _ ∧ _
  rw [sz]
  have ie := Heap.get?_push_size (s.heap.push o) (o := { cls := .type "enumerate", data := .fields #[.none, .bool false, .ref s.heap.objs.size, rawInt 0, .none, .none] }) rfl
  rw [sz] at ie
  exact ⟨⟨_, ie, rfl⟩, h _ ie (Heap.get?_push_of_some _ (Heap.get?_push_size _ B.free)) fun q u x => Heap.get?_push_of_some _ (Heap.get?_push_of_some _ x)⟩
end
/-- the items at a as they stand at each turn, counted, in new pairs -/
def Iex (K : PySem.W.Frag) (t : Bool) (a : Addr) : It :=
  ⟨fun i H => ∃ (xs : List V) (x : V), Sqx t K H a xs ∧ xs[i]? = some x,
    fun i H v H' => ∃ T x, v = .ref T ∧ H T = none ∧ H' = upd H T (.tup [.int (i : Nat), x]) ∧ ∀ xs, Sqx t K H a xs → xs[i]? = some x,
    fun i H => ∃ xs : List V, Sqx t K H a xs ∧ xs.length = i⟩
theorem turn_enumX {P : Program} {w : World} {K : PySem.W.Frag} {elts : List Expr} {kk : Nat} {tpos : Pos} {t : Bool} {a e it : Addr} (ai : a ≠ it) (ae : a ≠ e) :
    Turn P w K (.Tuple elts kk tpos) (Iex K t a) [e, it] e (fun i h => (∃ old, IsEnum h e it ((i : Nat) : Int) old) ∧ IterX t h it a i ∧ e ≠ it) where
  mem := .head _
  obj := fun i h st c hc => by
    obtain ⟨⟨old, he⟩, hi, _⟩ := st
    simp only [List.mem_cons, List.not_mem_nil, or_false] at hc
    rcases hc with rfl | rfl
    · exact ⟨_, he, fun v q => nomatch q⟩
    · exact hi.obj
  keep := fun i h h' ⟨⟨old, he⟩, hi, ne⟩ k => ⟨⟨old, k e (by simp) _ he⟩, hi.at fun o => k it (by simp) o, ne⟩
  item := by
    intro X hP hw hK calm i pins s σ H E I free st go
    subst hP hw hK
    obtain ⟨⟨old, he⟩, hi, ne⟩ := st
    obtain ⟨xs, x, q1, hx⟩ := go
    obtain ⟨us, r1, p1⟩ := q1.inv I
    obtain ⟨c, hc, rc⟩ := r1.get hx
    have el : e < s.heap.objs.size := Heap.lt_size he
    have il : it < s.heap.objs.size := let ⟨_, z, _⟩ := hi.obj; Heap.lt_size z
    have hh : X.A.in1.handled = none := I.ok.hd calm
    refine wpAny_pyNext_enum_itemD (drawsX hh t it a ai us.toArray) he ⟨hi, p1⟩ (by simpa using (List.getElem?_eq_some_iff.mp hc).1) ne (by simp [ne, Ne.symm ae]) fun c' h' tk ec ho ⟨n1, _⟩ hT hsz hk => ?_
    obtain rfl : c' = c := by
      have ec : us.toArray[i]? = some c' := ec
      have hc' : us.toArray[i]? = some c := by simpa using hc
      rw [hc'] at ec
      exact (Option.some.inj ec).symm
    refine ⟨_, rfl, wpAny_letOwnedTupleGo_enum (s := { s with heap := h', toks := tk + 1 }) ho fun g eg sb => ?_⟩
    have sb2 : ∀ c, c ≠ e → g.get? c = h'.get? c := sb.2
    have tup : ObjOk X.prog X.w (upd H s.heap.objs.size (.tup [.int (i : Nat), x])) g s.heap.objs.size (.tup [.int (i : Nat), x]) :=
      ⟨by show 2 ≤ sizeLine; decide, _, .cons ⟨tk, rfl⟩ (.cons rc .nil), ⟨_, (sb2 _ (Nat.ne_of_gt el)).trans hT, rfl, _, rfl⟩⟩
    have I1 : Inv X pins σ (upd H s.heap.objs.size (.tup [.int (i : Nat), x])) { s with heap := g, toks := tk + 1 } :=
      I.turnedNew (t' := tk + 1) (ch := [e, it]) (fun c o hb q => by
        simp only [List.mem_cons, List.not_mem_nil, or_false, not_or] at hb
        exact (sb2 c hb.1).trans (hk c o hb.1 hb.2 q)) free (Nat.le_refl _) tup
    have ei : ((i + 1 : Nat) : Int) = (i : Int) + 1 := by omega
    refine ⟨.ref s.heap.objs.size, _, I1, rfl, ⟨_, x, rfl, I.hok.fresh (Nat.le_refl _), rfl, fun l hl => by rw [Sqx.inj I hl q1]; exact hx⟩, ⟨⟨_, by rw [ei]; exact eg⟩, n1.at fun o q => (sb2 _ (Ne.symm ne)).trans q, ne⟩, fun c hcm => ?_⟩
    have lt : c < s.heap.objs.size := by
      simp only [List.mem_cons, List.not_mem_nil, or_false] at hcm
      rcases hcm with rfl | rfl
      · exact el
      · exact il
    rw [upd_ne (Nat.ne_of_lt lt)]
    exact (free c hcm).1
  done := by
    intro X hP hw hK calm i pins s σ H E I free st stop
    subst hP hw hK
    obtain ⟨⟨old, he⟩, hi, ne⟩ := st
    obtain ⟨xs, q1, over⟩ := stop
    obtain ⟨us, r1, p1⟩ := q1.inv I
    have l1 := r1.length
    have hh : X.A.in1.handled = none := I.ok.hd calm
    refine wpAny_pyNext_enum_endD (drawsX hh t it a ai us.toArray) he ⟨by rw [List.size_toArray, ← l1, over]; exact hi, p1⟩ fun h' eb => ⟨rfl, ?_⟩
    exact I.turnedL (t' := s.toks) (ch := [e, it]) (fun c o hb q => by
      simp only [List.mem_cons, List.not_mem_nil, or_false, not_or] at hb
      exact eb c o hb.2 q) free
  self := fun A i s Q E st h => let ⟨⟨_, he⟩, _⟩ := st; wpAny_pyIter_enum he h
def iEnumX (K : PySem.W.Frag) (ta : TA) : TI := fun σ H R => ta σ H fun vs H1 => ∃ t a xs, vs = [.ref a] ∧ Sqx t K H1 a xs ∧ R (Iex K t a) H1
theorem pi_enumX {X : Cx} {e : Expr} {ta : TA} {p pos tpos : Pos} {elts : List Expr} {kk : Nat} (hg : Gl X "enumerate") (hm : X.mg "enumerate" = none) (ha : PA X [e] ta) (hs : starEach [e] X.env = (false, eval e X.env) :: starEach [] X.env) :
    PI X (.Tuple elts kk tpos) (.Call (.Name "enumerate" p) [e] [] pos) (iEnumX X.K ta) := by
  refine ⟨fun pins s σ H R I h => ?_⟩
  refine Call_ (ld_blt I hg hm PyProof.Rows.boot_enumerate (PyProof.Rows.callWith_type1 (thn (ha.run pos pins s σ H _ I h) fun us s1 ⟨vs, H1, I1, r1, q1⟩ => ?_) hs rfl))
  obtain ⟨t, a, xs, rfl, q1, go⟩ := q1
  cases r1 with
  | cons ra r1 =>
    cases r1
    cases ra
    obtain ⟨us, _, p1⟩ := q1.inv I1
    obtain ⟨o1, B1, it1⟩ := beginsX t a us.toArray
    have al := p1.lt
    refine enum1_begins B1 p1 fun h' ie g1 hk => wpAny_pyIter_enum ie ?_
    exact ⟨_, _, _, _, H1, rfl, I1.kept (t' := s1.toks) hk, turn_enumX (t := t) (a := a) (e := s1.heap.objs.size + 1) (it := s1.heap.objs.size) (Nat.ne_of_lt al) (Nat.ne_of_lt (Nat.lt_succ_of_lt al)), ⟨⟨.none, ie⟩, it1 _ _ g1, Nat.succ_ne_self _⟩, fun c hc => by
      have le : s1.heap.objs.size ≤ c := by
        simp only [List.mem_cons, List.not_mem_nil, or_false] at hc
        rcases hc with rfl | rfl
        · exact Nat.le_add_right _ _
        · exact Nat.le_refl _
      exact I1.fpOk le (I1.hok.fresh le), go⟩
end Mi

set_option maxHeartbeats 4000000
namespace Mi
open PySem PySem.Spec L2 PyProof.Rows
/-! ### what an iterator over items is -/
structure ItOk (cl : Cl) (m0 : Sm) (J : It) (items : List Val) (g : Hm → Prop) : Prop where
  go : ∀ i m S v, Ev m0 m → SH cl m S → g S → items[i]? = some v → J.go i m.H
  stop : ∀ i m S, Ev m0 m → SH cl m S → g S → items.length = i → J.stop i m.H
  yld : ∀ i m S v x H', Ev m0 m → SH cl m S → g S → items[i]? = some v → J.yld i m.H x H' → KF m.K H' → ∃ m', m'.H = H' ∧ Ev m m' ∧ SH cl m' S ∧ RD m' v x
  go0 : ∀ D o v, m0.H D = none → items[0]? = some v → J.go 0 (upd m0.H D o)
  stop0 : ∀ D o, m0.H D = none → items.length = 0 → J.stop 0 (upd m0.H D o)
  kfb : ∀ i H x H', J.yld i H x H' → KF m0.K H' → KF m0.K H
theorem getElem?_getD {α : Type} {xs : List α} {i : Nat} {x : α} (h : xs[i]? = some x) : i < xs.length := (List.getElem?_eq_some_iff.mp h).1
section
variable {cl : Cl} {m0 : Sm} {S0 : Hm}
theorem sqlUp {K : PySem.W.Frag} {H : Hp} {a D : Addr} {o : HO} {xs : List V} (h : SqL K H a xs) (hD : H D = none) : SqL K (upd H D o) a xs := by
  rcases h with (h | ⟨u, h⟩) | h
  · exact .inl (.inl (by rw [upd_ne (ne_of_none h hD)]; exact h))
  · exact .inl (.inr ⟨u, by rw [upd_ne (ne_of_none h hD)]; exact h⟩)
  · exact .inr h
theorem sqtUp {K : PySem.W.Frag} {H : Hp} {a D : Addr} {o : HO} {xs : List V} (h : SqT K H a xs) (hD : H D = none) : SqT K (upd H D o) a xs := by
  rcases h with (h | ⟨u, h⟩) | h
  · exact .inl (.inl (by rw [upd_ne (ne_of_none h hD)]; exact h))
  · exact .inl (.inr ⟨u, by rw [upd_ne (ne_of_none h hD)]; exact h⟩)
  · exact .inr h
theorem kf_outside {K : PySem.W.Frag} {H : Hp} {T : Addr} {o : HO} (hT : H T = none) (h : KF K (upd H T o)) : KF K H := fun b u e => by
  have := h b u e
  by_cases z : b = T
  · rw [z]; exact hT
  · rwa [upd_ne z] at this
theorem it_lst {n : Nat} {a : Addr} {items : List Val} {vs : List V} (ha : m0.em[n]? = some a) (h0 : SqL m0.K m0.H a vs) (hl : items.length = vs.length) : ItOk cl m0 (Itl m0.K a) items (fun S => Hm.lst S n = some items) where
  go := fun i m S v e hS g hv => by
    obtain ⟨vs, hq, rs⟩ := hS.lst g (em_get e.em ha)
    obtain ⟨x, hx, _⟩ := rs.get hv
    rw [e.k] at hq
    exact ⟨vs, x, hq, hx⟩
  stop := fun i m S e hS g hi => by
    obtain ⟨vs, hq, rs⟩ := hS.lst g (em_get e.em ha)
    rw [e.k] at hq
    exact ⟨vs, hq, by rw [← rs.length]; omega⟩
  yld := fun i m S v x H' e hS g hv y kf => by
    obtain ⟨rfl, y⟩ := y
    obtain ⟨vs, hq, rs⟩ := hS.lst g (em_get e.em ha)
    rw [e.k] at hq
    obtain ⟨x', hx, r⟩ := rs.get hv
    rw [y vs hq] at hx
    cases hx
    exact ⟨m, rfl, Ev.refl m, hS, r⟩
  go0 := fun D o v hD hv => by
    have hlt : 0 < vs.length := by rw [← hl]; exact getElem?_getD hv
    exact ⟨vs, vs[0], (sqlUp h0 hD), List.getElem?_eq_getElem hlt⟩
  stop0 := fun D o hD hi => ⟨vs, (sqlUp h0 hD), by omega⟩
  kfb := fun i H x H' y kf => by obtain ⟨rfl, _⟩ := y; exact kf
theorem it_tup {a : Addr} {items : List Val} {vs : List V} (hS0 : SH cl m0 S0) (h0 : SqT m0.K m0.H a vs) (r0 : RDs m0 items vs) : ItOk cl m0 (Itt m0.K a) items (fun _ => True) where
  go := fun i m S v e hS g hv => by
    have u := e.up hS0
    obtain ⟨x, hx, _⟩ := r0.get hv
    have := u.tup a vs h0
    rw [e.k] at this
    exact ⟨vs, x, this, hx⟩
  stop := fun i m S e hS g hi => by
    have u := e.up hS0
    have := u.tup a vs h0
    rw [e.k] at this
    exact ⟨vs, this, by rw [← r0.length]; omega⟩
  yld := fun i m S v x H' e hS g hv y kf => by
    obtain ⟨rfl, y⟩ := y
    have u := e.up hS0
    have hq := u.tup a vs h0
    rw [e.k] at hq
    obtain ⟨x', hx, r⟩ := r0.get hv
    rw [y vs hq] at hx
    cases hx
    exact ⟨m, rfl, Ev.refl m, hS, r.up u⟩
  go0 := fun D o v hD hv => by
    have hlt : 0 < vs.length := by rw [← r0.length]; exact getElem?_getD hv
    exact ⟨vs, vs[0], (sqtUp h0 hD), List.getElem?_eq_getElem hlt⟩
  stop0 := fun D o hD hi => ⟨vs, (sqtUp h0 hD), by rw [← r0.length]; omega⟩
  kfb := fun i H x H' y kf => by obtain ⟨rfl, _⟩ := y; exact kf
theorem it_str (z : String) : ItOk cl m0 (Its (Str.ofString z)) (z.toList.map fun c => .str (String.singleton c)) (fun _ => True) := by
  have hsz : (Str.ofString z).cps.size = z.toList.length := by
    have := congrArg List.length (cps_ofString z)
    simpa using this
  refine ⟨fun i m S v e hS g hv => ?_, fun i m S e hS g hi => ?_, fun i m S v x H' e hS g hv y kf => ?_, fun D o v hD hv => ?_, fun D o hD hi => ?_, fun i H x H' y kf => by obtain ⟨rfl, _⟩ := y; exact kf⟩
  · have := getElem?_getD hv
    rw [List.length_map] at this
    exact show i < (Str.ofString z).cps.size by rw [hsz]; exact this
  · rw [List.length_map] at hi
    exact show (Str.ofString z).cps.size ≤ i by rw [hsz]; exact (Nat.le_of_eq hi)
  · obtain ⟨rfl, c, hc, rfl⟩ := y
    refine ⟨m, rfl, Ev.refl m, hS, ?_⟩
    rw [List.getElem?_map] at hv
    cases hz : z.toList[i]? with
    | none => rw [hz] at hv; cases hv
    | some d =>
      rw [hz] at hv
      cases hv
      have : (Str.ofString z).cps.toList[i]? = some d.toNat := by rw [cps_ofString, List.getElem?_map, hz]; rfl
      rw [Array.getElem?_toList, hc] at this
      cases this
      rw [← singleton_ofString]
      exact .str _
  · have := getElem?_getD hv
    rw [List.length_map] at this
    exact show 0 < (Str.ofString z).cps.size by rw [hsz]; exact this
  · rw [List.length_map] at hi
    exact show (Str.ofString z).cps.size ≤ 0 by rw [hsz]; omega
theorem rangeL_get : ∀ (lo : Int) (n i : Nat), (rangeL lo 1 n)[i]? = if i < n then some (.int (lo + i)) else none
  | lo, 0, i => by simp [rangeL]
  | lo, n + 1, 0 => by simp [rangeL]
  | lo, n + 1, i + 1 => by
    rw [rangeL, List.getElem?_cons_succ, rangeL_get]
    by_cases h : i < n
    · rw [if_pos h, if_pos (by omega)]
      congr 2
      push_cast
      omega
    · rw [if_neg h, if_neg (by omega)]
theorem rangeL_len : ∀ (lo st : Int) (n : Nat), (rangeL lo st n).length = n
  | lo, st, 0 => rfl
  | lo, st, n + 1 => by rw [rangeL, List.length_cons, rangeL_len]
theorem it_rng (lo : Int) (n : Nat) : ItOk cl m0 (Itr lo n) (rangeL lo 1 n) (fun _ => True) := by
  refine ⟨fun i m S v e hS g hv => ?_, fun i m S e hS g hi => ?_, fun i m S v x H' e hS g hv y kf => ?_, fun D o v hD hv => ?_, fun D o hD hi => ?_, fun i H x H' y kf => by obtain ⟨rfl, _⟩ := y; exact kf⟩
  · have := getElem?_getD hv
    rw [rangeL_len] at this
    exact this
  · rw [rangeL_len] at hi
    exact Nat.le_of_eq hi
  · obtain ⟨rfl, rfl⟩ := y
    refine ⟨m, rfl, Ev.refl m, hS, ?_⟩
    rw [rangeL_get] at hv
    split at hv
    · cases hv
      exact .int _
    · cases hv
  · have := getElem?_getD hv
    rw [rangeL_len] at this
    exact this
  · rw [rangeL_len] at hi
    exact show n ≤ 0 by omega
theorem it_rev {n : Nat} {a : Addr} {items : List Val} {vs : List V} (ha : m0.em[n]? = some a) (h0 : SqL m0.K m0.H a vs) (hl : items.length = vs.length) : ItOk cl m0 (Itv m0.K a vs.length) items.reverse (fun S => Hm.lst S n = some items) where
  go := fun i m S v e hS g hv => by
    obtain ⟨ws, hq, rs⟩ := hS.lst g (em_get e.em ha)
    rw [e.k] at hq
    have hi := getElem?_getD hv
    rw [List.length_reverse] at hi
    rw [List.getElem?_reverse hi] at hv
    obtain ⟨x, hx, _⟩ := rs.get hv
    rw [hl] at hx
    exact ⟨by omega, ws, x, hq, hx⟩
  stop := fun i m S e hS g hi => by
    rw [List.length_reverse] at hi
    exact show vs.length ≤ i by omega
  yld := fun i m S v x H' e hS g hv y kf => by
    obtain ⟨rfl, y⟩ := y
    obtain ⟨ws, hq, rs⟩ := hS.lst g (em_get e.em ha)
    rw [e.k] at hq
    have hi := getElem?_getD hv
    rw [List.length_reverse] at hi
    rw [List.getElem?_reverse hi] at hv
    obtain ⟨x', hx, r⟩ := rs.get hv
    rw [hl, y ws hq] at hx
    cases hx
    exact ⟨m, rfl, Ev.refl m, hS, r⟩
  go0 := fun D o v hD hv => by
    have hi := getElem?_getD hv
    rw [List.length_reverse] at hi
    have hlt : vs.length - 1 - 0 < vs.length := by omega
    exact ⟨by omega, vs, vs[vs.length - 1 - 0], (sqlUp h0 hD), List.getElem?_eq_getElem hlt⟩
  stop0 := fun D o hD hi => by
    rw [List.length_reverse] at hi
    exact show vs.length ≤ 0 by omega
  kfb := fun i H x H' y kf => by obtain ⟨rfl, _⟩ := y; exact kf
theorem it_revT {a : Addr} {items : List Val} {vs : List V} (hS0 : SH cl m0 S0) (h0 : SqT m0.K m0.H a vs) (r0 : RDs m0 items vs) : ItOk cl m0 (RT.ItvT m0.K a vs.length) items.reverse (fun _ => True) where
  go := fun i m S v e hS g hv => by
    have hq := (e.up hS0).tup a vs h0
    rw [e.k] at hq
    have hi := getElem?_getD hv
    rw [List.length_reverse] at hi
    rw [List.getElem?_reverse hi] at hv
    obtain ⟨x, hx, _⟩ := r0.get hv
    have hl := r0.length
    rw [hl] at hx
    exact ⟨by omega, vs, x, hq, hx⟩
  stop := fun i m S e hS g hi => by
    have hl := r0.length
    rw [List.length_reverse] at hi
    exact show vs.length ≤ i by omega
  yld := fun i m S v x H' e hS g hv y kf => by
    obtain ⟨rfl, y⟩ := y
    have hq := (e.up hS0).tup a vs h0
    rw [e.k] at hq
    have hi := getElem?_getD hv
    rw [List.length_reverse] at hi
    rw [List.getElem?_reverse hi] at hv
    obtain ⟨x', hx, r⟩ := r0.get hv
    have hl := r0.length
    rw [hl, y vs hq] at hx
    cases hx
    exact ⟨m, rfl, Ev.refl m, hS, r.up (e.up hS0)⟩
  go0 := fun D o v hD hv => by
    have hl := r0.length
    have hi := getElem?_getD hv
    rw [List.length_reverse] at hi
    have hlt : vs.length - 1 - 0 < vs.length := by omega
    exact ⟨by omega, vs, vs[vs.length - 1 - 0], (sqtUp h0 hD), List.getElem?_eq_getElem hlt⟩
  stop0 := fun D o hD hi => by
    have hl := r0.length
    rw [List.length_reverse] at hi
    exact show vs.length ≤ 0 by omega
  kfb := fun i H x H' y kf => by obtain ⟨rfl, _⟩ := y; exact kf
theorem enumL_len : ∀ (n : Nat) (xs : List Val), (enumL n xs).length = xs.length
  | n, [] => rfl
  | n, x :: xs => by rw [enumL, List.length_cons, List.length_cons, enumL_len]
theorem enumL_get : ∀ (n : Nat) (xs : List Val) (i : Nat), (enumL n xs)[i]? = (xs[i]?).map fun x => .tup [.int ((n + i : Nat) : Int), x]
  | n, [], i => by simp [enumL]
  | n, x :: xs, 0 => by simp [enumL]
  | n, x :: xs, i + 1 => by
    rw [enumL, List.getElem?_cons_succ, List.getElem?_cons_succ, enumL_get]
    have : n + 1 + i = n + (i + 1) := by omega
    rw [this]
theorem pairL_len : ∀ (xs ys : List Val), (pairL xs ys).length = min xs.length ys.length
  | [], ys => by simp [pairL]
  | x :: xs, [] => by simp [pairL]
  | x :: xs, y :: ys => by simp only [pairL, List.length_cons, pairL_len]; omega
theorem pairL_get : ∀ (xs ys : List Val) (i : Nat) {v : Val}, (pairL xs ys)[i]? = some v → ∃ x y, xs[i]? = some x ∧ ys[i]? = some y ∧ v = .tup [x, y]
  | [], ys, i, v, h => by simp [pairL] at h
  | x :: xs, [], i, v, h => by simp [pairL] at h
  | x :: xs, y :: ys, 0, v, h => by simp [pairL] at h; exact ⟨x, y, rfl, rfl, h.symm⟩
  | x :: xs, y :: ys, i + 1, v, h => by
    rw [pairL, List.getElem?_cons_succ] at h
    rw [List.getElem?_cons_succ, List.getElem?_cons_succ]
    exact pairL_get xs ys i h
theorem RKs.get {m : Sm} {kvs : List (Key × Val)} {ws : List (L2.Key × V)} (h : RKs m kvs ws) {i : Nat} : ∀ {p : Key × Val}, kvs[i]? = some p → ∃ q, ws[i]? = some q ∧ q.1 = kk p.1 ∧ RD m p.2 q.2 := by
  unfold RKs at h
  induction h generalizing i with
  | nil => intro p e; simp at e
  | @cons p r ps rs h t ih =>
    intro q e
    cases i with
    | zero => simp at e; subst e; exact ⟨r, rfl, h⟩
    | succ i => simpa using ih (i := i) (by simpa using e)
section
variable {n : Nat} {a : Addr} {o : Obj} {ws : List (L2.Key × V)} {kvs : List (Key × Val)}
theorem frz_at {m : Sm} {S : Hm} (ha : m0.em[n]? = some a) (h0 : m0.H a = some (.frz o (.dK ws))) (e : Ev m0 m) (hS : SH cl m S) (g : S[n]? = some (.lck (.dic kvs))) : m.H a = some (.frz o (.dK ws)) ∧ RKs m kvs ws := by
  have h1 := e.frz a o _ h0
  obtain ⟨o', ws', h2, h3⟩ := hS.ob n _ a g (em_get e.em ha)
  rw [h1] at h2
  cases h2
  exact ⟨h1, h3⟩
theorem it_keys (ha : m0.em[n]? = some a) (h0 : m0.H a = some (.frz o (.dK ws))) (hl : kvs.length = ws.length) : ItOk cl m0 (Itk a o ws) (kvs.map (·.1.val)) (fun S => S[n]? = some (.lck (.dic kvs))) where
  go := fun i m S v e hS g hv => by
    have := getElem?_getD hv
    rw [List.length_map] at this
    exact ⟨(frz_at ha h0 e hS g).1, by omega⟩
  stop := fun i m S e hS g hi => by
    rw [List.length_map] at hi
    exact ⟨(frz_at ha h0 e hS g).1, by omega⟩
  yld := fun i m S v x H' e hS g hv y kf => by
    obtain ⟨rfl, k, u, hw, rfl⟩ := y
    rw [List.getElem?_map] at hv
    obtain ⟨p, hp, rfl⟩ := Option.map_eq_some_iff.mp hv
    obtain ⟨q, hq, e1, _⟩ := (frz_at ha h0 e hS g).2.get hp
    rw [hw] at hq
    cases hq
    refine ⟨m, rfl, Ev.refl m, hS, ?_⟩
    show RD m _ (kV k)
    rw [show k = kk p.1 from e1]
    exact rd_key p.1
  go0 := fun D u v hD hv => by
    have := getElem?_getD hv
    rw [List.length_map] at this
    exact ⟨by rw [upd_ne (ne_of_none h0 hD)]; exact h0, by omega⟩
  stop0 := fun D u hD hi => by
    rw [List.length_map] at hi
    exact ⟨by rw [upd_ne (ne_of_none h0 hD)]; exact h0, by omega⟩
  kfb := fun i H x H' y kf => by obtain ⟨rfl, _⟩ := y; exact kf
theorem it_vals (ha : m0.em[n]? = some a) (h0 : m0.H a = some (.frz o (.dK ws))) (hl : kvs.length = ws.length) : ItOk cl m0 (Itd a o ws) (kvs.map (·.2)) (fun S => S[n]? = some (.lck (.dic kvs))) where
  go := fun i m S v e hS g hv => by
    have := getElem?_getD hv
    rw [List.length_map] at this
    exact ⟨(frz_at ha h0 e hS g).1, by omega⟩
  stop := fun i m S e hS g hi => by
    rw [List.length_map] at hi
    exact ⟨(frz_at ha h0 e hS g).1, by omega⟩
  yld := fun i m S v x H' e hS g hv y kf => by
    obtain ⟨rfl, k, hw⟩ := y
    rw [List.getElem?_map] at hv
    obtain ⟨p, hp, rfl⟩ := Option.map_eq_some_iff.mp hv
    obtain ⟨q, hq, _, r⟩ := (frz_at ha h0 e hS g).2.get hp
    rw [hw] at hq
    cases hq
    exact ⟨m, rfl, Ev.refl m, hS, r⟩
  go0 := fun D u v hD hv => by
    have := getElem?_getD hv
    rw [List.length_map] at this
    exact ⟨by rw [upd_ne (ne_of_none h0 hD)]; exact h0, by omega⟩
  stop0 := fun D u hD hi => by
    rw [List.length_map] at hi
    exact ⟨by rw [upd_ne (ne_of_none h0 hD)]; exact h0, by omega⟩
  kfb := fun i H x H' y kf => by obtain ⟨rfl, _⟩ := y; exact kf
theorem it_items (ha : m0.em[n]? = some a) (h0 : m0.H a = some (.frz o (.dK ws))) (hl : kvs.length = ws.length) : ItOk cl m0 (Iti a o ws) (kvs.map fun p => .tup [p.1.val, p.2]) (fun S => S[n]? = some (.lck (.dic kvs))) where
  go := fun i m S v e hS g hv => by
    have := getElem?_getD hv
    rw [List.length_map] at this
    exact ⟨(frz_at ha h0 e hS g).1, by omega⟩
  stop := fun i m S e hS g hi => by
    rw [List.length_map] at hi
    exact ⟨(frz_at ha h0 e hS g).1, by omega⟩
  yld := fun i m S v x H' e hS g hv y kf => by
    obtain ⟨T, k, z, hw, rfl, hT, rfl⟩ := y
    rw [List.getElem?_map] at hv
    obtain ⟨p, hp, rfl⟩ := Option.map_eq_some_iff.mp hv
    obtain ⟨q, hq, e1, r⟩ := (frz_at ha h0 e hS g).2.get hp
    rw [hw] at hq
    cases hq
    have e2 : Ev m { m with H := upd m.H T (.tup [kV k, z]) } := Ev.outside hT
    refine ⟨{ m with H := upd m.H T (.tup [kV k, z]) }, rfl, e2, hS.outside hT kf, .tup (.inl (.inl upd_same)) (.cons ?_ (.cons (r.up (e2.up hS)) .nil))⟩
    rw [show k = kk p.1 from e1]
    exact rd_key p.1
  go0 := fun D u v hD hv => by
    have := getElem?_getD hv
    rw [List.length_map] at this
    exact ⟨by rw [upd_ne (ne_of_none h0 hD)]; exact h0, by omega⟩
  stop0 := fun D u hD hi => by
    rw [List.length_map] at hi
    exact ⟨by rw [upd_ne (ne_of_none h0 hD)]; exact h0, by omega⟩
  kfb := fun i H x H' y kf => by obtain ⟨T, k, z, _, rfl, hT, rfl⟩ := y; exact kf_outside hT kf
end
/-- where a sequence's items stand, whatever comes between -/
structure SqOk (cl : Cl) (m0 : Sm) (t : Bool) (a : Addr) (xs : List Val) (g : Hm → Prop) : Prop where
  at_ : ∀ m S, Ev m0 m → SH cl m S → g S → ∃ ws, Sqx t m0.K m.H a ws ∧ RDs m xs ws
  at0 : ∀ D o, m0.H D = none → ∃ ws, Sqx t m0.K (upd m0.H D o) a ws ∧ ws.length = xs.length
theorem it_enumX {t : Bool} {a : Addr} {items : List Val} {g : Hm → Prop} (A : SqOk cl m0 t a items g) : ItOk cl m0 (Iex m0.K t a) (enumL 0 items) g where
  go := fun i m S v e hS g hv => by
    obtain ⟨ws, q, rs⟩ := A.at_ m S e hS g
    rw [enumL_get] at hv
    cases hi : items[i]? with
    | none => rw [hi] at hv; cases hv
    | some d =>
      obtain ⟨x, hx, _⟩ := rs.get hi
      exact ⟨ws, x, q, hx⟩
  stop := fun i m S e hS g hi => by
    obtain ⟨ws, q, rs⟩ := A.at_ m S e hS g
    rw [enumL_len] at hi
    exact ⟨ws, q, by rw [← rs.length]; omega⟩
  yld := fun i m S v x H' e hS g hv y kf => by
    obtain ⟨T, z, rfl, hT, rfl, y⟩ := y
    obtain ⟨ws, q, rs⟩ := A.at_ m S e hS g
    rw [enumL_get] at hv
    cases hi : items[i]? with
    | none => rw [hi] at hv; cases hv
    | some d =>
      rw [hi] at hv
      cases hv
      obtain ⟨x', hx, r⟩ := rs.get hi
      rw [y ws q] at hx
      cases hx
      have e1 : Ev m { m with H := upd m.H T (.tup [.int (i : Nat), z]) } := Ev.outside hT
      refine ⟨{ m with H := upd m.H T (.tup [.int (i : Nat), z]) }, rfl, e1, hS.outside hT kf, .tup (.inl (.inl upd_same)) ?_⟩
      rw [Nat.zero_add]
      exact .cons (.int _) (.cons (r.up (e1.up hS)) .nil)
  go0 := fun D o v hD hv => by
    obtain ⟨ws, q, l⟩ := A.at0 D o hD
    have hi := getElem?_getD hv
    rw [enumL_len] at hi
    have h2 : 0 < ws.length := by omega
    exact ⟨ws, ws[0], q, List.getElem?_eq_getElem h2⟩
  stop0 := fun D o hD hi => by
    obtain ⟨ws, q, l⟩ := A.at0 D o hD
    rw [enumL_len] at hi
    exact ⟨ws, q, by omega⟩
  kfb := fun i H x H' y kf => by obtain ⟨T, z, rfl, hT, rfl, y⟩ := y; exact kf_outside hT kf
theorem it_zipX {t u : Bool} {a b : Addr} {xs ys : List Val} {g g' : Hm → Prop} (A : SqOk cl m0 t a xs g) (B : SqOk cl m0 u b ys g') : ItOk cl m0 (Itx m0.K t u a b) (pairL xs ys) (fun S => g S ∧ g' S) where
  go := fun i m S v e hS g hv => by
    obtain ⟨ps, q1, r1⟩ := A.at_ m S e hS g.1
    obtain ⟨qs, q2, r2⟩ := B.at_ m S e hS g.2
    obtain ⟨d, d', h2, h3, rfl⟩ := pairL_get xs ys i hv
    obtain ⟨x, hx, _⟩ := r1.get h2
    obtain ⟨x', hx', _⟩ := r2.get h3
    exact ⟨ps, qs, x, x', q1, q2, hx, hx'⟩
  stop := fun i m S e hS g hi => by
    obtain ⟨ps, q1, r1⟩ := A.at_ m S e hS g.1
    obtain ⟨qs, q2, r2⟩ := B.at_ m S e hS g.2
    rw [pairL_len] at hi
    have l1 := r1.length
    have l2 := r2.length
    exact ⟨ps, qs, q1, q2, by omega⟩
  yld := fun i m S v x H' e hS g hv y kf => by
    obtain ⟨T, z, z', rfl, hT, rfl, y, y'⟩ := y
    obtain ⟨ps, q1, r1⟩ := A.at_ m S e hS g.1
    obtain ⟨qs, q2, r2⟩ := B.at_ m S e hS g.2
    obtain ⟨d, d', h2, h3, rfl⟩ := pairL_get xs ys i hv
    obtain ⟨x, hx, r⟩ := r1.get h2
    obtain ⟨x', hx', r'⟩ := r2.get h3
    rw [y ps q1] at hx
    rw [y' qs q2] at hx'
    cases hx
    cases hx'
    have e1 : Ev m { m with H := upd m.H T (.tup [z, z']) } := Ev.outside hT
    exact ⟨{ m with H := upd m.H T (.tup [z, z']) }, rfl, e1, hS.outside hT kf, .tup (.inl (.inl upd_same)) (.cons (r.up (e1.up hS)) (.cons (r'.up (e1.up hS)) .nil))⟩
  go0 := fun D o v hD hv => by
    obtain ⟨ps, q1, l1⟩ := A.at0 D o hD
    obtain ⟨qs, q2, l2⟩ := B.at0 D o hD
    have hi := getElem?_getD hv
    rw [pairL_len] at hi
    have h2 : 0 < ps.length := by omega
    have h3 : 0 < qs.length := by omega
    exact ⟨ps, qs, ps[0], qs[0], q1, q2, List.getElem?_eq_getElem h2, List.getElem?_eq_getElem h3⟩
  stop0 := fun D o hD hi => by
    obtain ⟨ps, q1, l1⟩ := A.at0 D o hD
    obtain ⟨qs, q2, l2⟩ := B.at0 D o hD
    rw [pairL_len] at hi
    exact ⟨ps, qs, q1, q2, by omega⟩
  kfb := fun i H x H' y kf => by obtain ⟨T, z, z', rfl, hT, rfl, y⟩ := y; exact kf_outside hT kf
/-- a list or a tuple, as zip takes it -/
theorem sq_of {v : Val} {x : V} {S : Hm} {K : List Val → (Hm → Prop) → Prop} (hS : SH cl m0 S) (r : RD m0 v x) (h : ltOf v S K) : ∃ t a xs g, x = .ref a ∧ SqOk cl m0 t a xs g ∧ K xs g ∧ ∃ ws, Sqx t m0.K m0.H a ws := by
  cases v with
  | tup xs =>
    cases r with
    | @tup q vs _ hv rs =>
    have h : K xs fun _ => True := h
    exact ⟨true, q, xs, _, rfl, ⟨fun m S' e _ _ => ⟨vs, by have z := (e.up hS).tup q vs hv; rw [e.k] at z; exact z, rs.up (e.up hS)⟩, fun D o hD => ⟨vs, sqtUp hv hD, rs.length.symm⟩⟩, h, vs, hv⟩
  | ref n =>
    obtain ⟨xs, h1, h2⟩ := h
    cases r with
    | @ref _ q hq =>
    obtain ⟨vs, hv, rs⟩ := hS.lst h1 hq
    exact ⟨false, q, xs, _, rfl, ⟨fun m S' e hS' g => by
      obtain ⟨ws, z, rz⟩ := hS'.lst g (em_get e.em hq)
      rw [e.k] at z
      exact ⟨ws, z, rz⟩, fun D o hD => ⟨vs, sqlUp hv hD, rs.length.symm⟩⟩, h2, vs, hv⟩
  | _ => exact h.elim
end
end Mi

set_option maxHeartbeats 4000000
namespace Mi
open PySem PySem.Spec L2 PyProof.Rows
section
variable (P : Pg) (cl : Cl) (k : Nat) (X : Cx) (W : WX)
def tSrc (src : Src) : TI := fun σ H R => ∃ m env S, m.K = X.K ∧ m.H = H ∧ SH cl m S ∧ SV m env σ ∧ wSrc P.con (callW P k) (liftX cl X.mg m fun c d H => W c d σ H) src env S fun items g S' => ∀ m' J, Ev m m' → SH cl m' S' → ItOk cl m' J items g → R J m'.H
end
section
variable {P : Pg} {cl : Cl} {k : Nat} {X : Cx} {W : WX} {sc : Ko} {m m0 : Sm} {env : Env} {S : Hm} {σ : L2.St}
theorem tSrc_of {src : Src} {Q1 : List Val → (Hm → Prop) → Hm → Prop} {R : It → Hp → Prop} (hK : m.K = X.K) (hS : SH cl m S) (hV : SV m env σ) (e0 : Ev m0 m) (h : wSrc P.con (callW P k) (liftX cl X.mg m0 fun c d H => W c d σ H) src env S Q1)
    (hq : ∀ m1 J S1 items g, Ev m m1 → SH cl m1 S1 → ItOk cl m1 J items g → SV m1 env σ → Q1 items g S1 → R J m1.H) : tSrc P cl k X W src σ m.H R :=
  ⟨m, env, S, hK, rfl, hS, hV, wSrc_mono (callW_mono P k) (fun _ _ h1 => liftX.ev e0 h1) src (fun items g S1 h1 m1 J e1 hS1 ok => hq m1 J S1 items g e1 hS1 ok (hV.up (e1.up hS)) h1) h⟩
theorem PI.imp {tg e : Expr} {t t' : TI} (h : PI X tg e t) (f : ∀ σ H Q, t' σ H Q → t σ H Q) : PI X tg e t' := ⟨fun pins s σ H R I hw => h.run pins s σ H R I (f _ _ _ hw)⟩
variable {a b : E} {ea eb tg : Expr} {pos p : Pos}
/-- a list, a tuple or a text, walked -/
theorem pi_seq {e : Expr} {te : TE} (he : PE X e te) : PI X tg e (fun σ H R => te σ H fun x H1 => (∃ a xs, x = .ref a ∧ SqL X.K H1 a xs ∧ R (Itl X.K a) H1) ∨ (∃ a xs, x = .ref a ∧ SqT X.K H1 a xs ∧ R (Itt X.K a) H1) ∨ ∃ z, x = .str z ∧ R (Its z) H1) := by
  refine ⟨fun pins s σ H R I h => thn (he.run pins s σ H _ I h) fun v s1 ⟨x, H1, I1, r1, q1⟩ => ?_⟩
  rcases q1 with ⟨a, xs, rfl, hq, q⟩ | ⟨a, xs, rfl, hq, q⟩ | ⟨z, rfl, q⟩
  · cases r1
    obtain ⟨its, rv, p, _⟩ := I1.list hq
    exact wpAny_pyIter_list p.isList (pi_one (tk := s1.toks) I1 _ (turn_list a _) ⟨_, Heap.get?_push_size _ rfl, rfl, rfl⟩ q)
  · cases r1
    obtain ⟨its, rv, p, _⟩ := I1.tuple hq
    exact wpAny_pyIter_tuple (show s1.heap.IsTuple a its.toArray from p) (pi_one (tk := s1.toks) I1 _ (turn_tuple a _) ⟨_, Heap.get?_push_size _ rfl, rfl, rfl⟩ q)
  · obtain ⟨t, rfl⟩ := r1
    cases hz : z.cps.all (· < 128)
    · exact wpAny_pyIter_wide hz (pi_one (tk := s1.toks) I1 _ (turn_str _ z t "str_iterator" (.inr rfl)) ⟨_, Heap.get?_push_size _ rfl, rfl, rfl⟩ q)
    · exact wpAny_pyIter_ascii hz (pi_one (tk := s1.toks) I1 _ (turn_str _ z t "str_ascii_iterator" (.inl rfl)) ⟨_, Heap.get?_push_size _ rfl, rfl, rfl⟩ q)
theorem s_seq (ha : PE X ea (tE P cl k X W a)) : PI X tg ea (tSrc P cl k X W (.seq a)) :=
  PI.imp (pi_seq ha) fun σ H Q ⟨m, env, S, hK, eH, hS, hV, h⟩ => by
    subst eH
    simp only [wSrc] at h
    refine tE_of hK hS hV (Ev.refl m) h fun m1 x S1 v e1 hS1 r1 hV1 h1 => ?_
    have hK1 := e1.k.trans hK
    cases r1 with
    | str z => exact .inr (.inr ⟨_, rfl, h1 m1 _ e1 hS1 (it_str z)⟩)
    | @tup q xs ds hq rs =>
      have hq' := hq
      rw [hK1] at hq'
      refine .inr (.inl ⟨q, xs, rfl, hq', ?_⟩)
      have := it_tup hS1 hq rs
      rw [hK1] at this
      exact h1 m1 _ e1 hS1 this
    | @ref n q hq =>
      obtain ⟨ds, h2, h3⟩ := h1
      obtain ⟨vs, hv, rs⟩ := hS1.lst h2 hq
      have hv' := hv
      rw [hK1] at hv'
      refine .inl ⟨q, vs, rfl, hv', ?_⟩
      have := it_lst (cl := cl) hq hv rs.length
      rw [hK1] at this
      exact h3 m1 _ e1 hS1 this
    | _ => exact h1.elim
theorem s_rng1 (xo : XO P cl X k sc W) (hg : Gl X (Str.ofString "range")) (hs : notStar ea = true) (ha : PE X ea (tE P cl k X W a)) : PI X tg (.Call (.Name (Str.ofString "range") p) [ea] [] pos) (tSrc P cl k X W (.rng1 a)) :=
  PI.imp (pi_range1 hg (xo.ln.bi "range" (by decide)) (pa_cons ha pa_nil (star_cons hs)) (star_cons hs)) fun σ H Q ⟨m, env, S, hK, eH, hS, hV, h⟩ => by
    subst eH
    simp only [wSrc] at h
    refine tE_of hK hS hV (Ev.refl m) h fun m1 x S1 v e1 hS1 r1 hV1 h1 => ?_
    obtain ⟨j, rfl, h2, h3⟩ := h1
    cases r1
    exact ⟨j, rfl, h2.1, h2.2, h3 m1 _ e1 hS1 (it_rng 0 j.toNat)⟩
theorem s_rng2 (xo : XO P cl X k sc W) (hg : Gl X (Str.ofString "range")) (hs : notStar ea = true) (hs2 : notStar eb = true) (ha : PE X ea (tE P cl k X W a)) (hb : PE X eb (tE P cl k X W b)) : PI X tg (.Call (.Name (Str.ofString "range") p) [ea, eb] [] pos) (tSrc P cl k X W (.rng2 a b)) :=
  PI.imp (pi_range2 hg (xo.ln.bi "range" (by decide)) (pa_cons ha (pa_cons hb pa_nil (star_cons hs2)) (star_cons hs)) (by rw [star_cons hs, star_cons hs2]; rfl) (star_cons hs2)) fun σ H Q ⟨m, env, S, hK, eH, hS, hV, h⟩ => by
    subst eH
    simp only [wSrc] at h
    refine tE_of hK hS hV (Ev.refl m) h fun m1 x S1 v e1 hS1 r1 hV1 h1 => ?_
    refine tE_of (e1.k.trans hK) hS1 hV1 e1 h1 fun m2 y S2 w e2 hS2 r2 hV2 h2 => ?_
    obtain ⟨i, j, rfl, rfl, h3, h4, h5⟩ := h2
    cases r1
    cases r2
    exact ⟨i, j, rfl, ⟨h3.1, h3.2, h4.1, h4.2⟩, h5 m2 _ (e1.trans e2) hS2 (it_rng i (j - i).toNat)⟩
theorem s_rev (xo : XO P cl X k sc W) (hg : Gl X (Str.ofString "reversed")) (hs : notStar ea = true) (ha : PE X ea (tE P cl k X W a)) : PI X tg (.Call (.Name (Str.ofString "reversed") p) [ea] [] pos) (tSrc P cl k X W (.rev a)) :=
  PI.imp (RT.pi_revA hg (xo.ln.bi "reversed" (by decide)) ha (star_cons hs)) fun σ H Q ⟨m, env, S, hK, eH, hS, hV, h⟩ => by
    subst eH
    simp only [wSrc] at h
    refine tE_of hK hS hV (Ev.refl m) h fun m1 x S1 v e1 hS1 r1 hV1 h1 => ?_
    have hK1 := e1.k.trans hK
    cases r1 with
    | @tup q xs ds hq rs =>
      have hq' := hq
      rw [hK1] at hq'
      refine ⟨q, xs, rfl, .inr ⟨hq', ?_⟩⟩
      have := it_revT hS1 hq rs
      rw [hK1] at this
      exact h1 m1 _ e1 hS1 this
    | @ref n q hq =>
      obtain ⟨ds, h2, h3⟩ := h1
      obtain ⟨vs, hv, rs⟩ := hS1.lst h2 hq
      have hv' := hv
      rw [hK1] at hv'
      refine ⟨q, vs, rfl, .inl ⟨hv', ?_⟩⟩
      have := it_rev (cl := cl) hq hv rs.length
      rw [hK1] at this
      exact h3 m1 _ e1 hS1 this
    | _ => exact h1.elim
variable {elts : List Expr} {kk : Nat} {tpos : Pos}
theorem s_enum (xo : XO P cl X k sc W) (hg : Gl X (Str.ofString "enumerate")) (hs : notStar ea = true) (ha : PE X ea (tE P cl k X W a)) : PI X (.Tuple elts kk tpos) (.Call (.Name (Str.ofString "enumerate") p) [ea] [] pos) (tSrc P cl k X W (.enum a)) :=
  PI.imp (pi_enumX hg (xo.ln.bi "enumerate" (by decide)) (pa_cons ha pa_nil (star_cons hs)) (star_cons hs)) fun σ H Q ⟨m, env, S, hK, eH, hS, hV, h⟩ => by
    subst eH
    simp only [wSrc] at h
    refine tE_of hK hS hV (Ev.refl m) h fun m1 x S1 v e1 hS1 r1 hV1 h1 => ?_
    have hK1 := e1.k.trans hK
    obtain ⟨t, a, xs, g, rfl, A, h3, ps, q1⟩ := sq_of hS1 r1 h1
    rw [hK1] at q1
    have it := it_enumX A
    rw [hK1] at it
    exact ⟨t, a, ps, rfl, q1, h3 m1 _ e1 hS1 it⟩
theorem s_keys (ha : PE X ea (tE P cl k X W a)) : PI X tg ea (tSrc P cl k X W (.keys a)) :=
  PI.imp (pi_keys ha) fun σ H Q ⟨m, env, S, hK, eH, hS, hV, h⟩ => by
    subst eH
    simp only [wSrc] at h
    refine tE_of hK hS hV (Ev.refl m) h fun m1 x S1 v e1 hS1 r1 hV1 h1 => ?_
    obtain ⟨n, kvs, rfl, h2, h3⟩ := h1
    cases r1 with
    | @ref _ q hq =>
    obtain ⟨o, ws, h4, r⟩ := hS1.ob n _ q h2 hq
    exact ⟨q, o, rfl, .inl ⟨ws, h4, h3 m1 _ e1 hS1 (it_keys hq h4 r.length)⟩⟩
theorem s_vals {e : Expr} {apos cpos : Pos} (ha : PE X e (tE P cl k X W a)) (hbase : attributeBase e "values" X.env (eval e X.env) = eval e X.env) (hline : (apos.endLine == cpos.line) = true) : PI X tg (.Call (.Attribute e "values" apos) [] [] cpos) (tSrc P cl k X W (.values a)) :=
  PI.imp (pi_values ha hbase hline) fun σ H Q ⟨m, env, S, hK, eH, hS, hV, h⟩ => by
    subst eH
    simp only [wSrc] at h
    refine tE_of hK hS hV (Ev.refl m) h fun m1 x S1 v e1 hS1 r1 hV1 h1 => ?_
    obtain ⟨n, kvs, rfl, h2, h3⟩ := h1
    cases r1 with
    | @ref _ q hq =>
    obtain ⟨o, ws, h4, r⟩ := hS1.ob n _ q h2 hq
    exact ⟨q, o, ws, rfl, h4, h3 m1 _ e1 hS1 (it_vals hq h4 r.length)⟩
theorem s_items {e : Expr} {apos cpos : Pos} (ha : PE X e (tE P cl k X W a)) (hbase : attributeBase e "items" X.env (eval e X.env) = eval e X.env) (hline : (apos.endLine == cpos.line) = true) : PI X (.Tuple elts kk tpos) (.Call (.Attribute e "items" apos) [] [] cpos) (tSrc P cl k X W (.items a)) :=
  PI.imp (pi_items ha hbase hline) fun σ H Q ⟨m, env, S, hK, eH, hS, hV, h⟩ => by
    subst eH
    simp only [wSrc] at h
    refine tE_of hK hS hV (Ev.refl m) h fun m1 x S1 v e1 hS1 r1 hV1 h1 => ?_
    obtain ⟨n, kvs, rfl, h2, h3⟩ := h1
    cases r1 with
    | @ref _ q hq =>
    obtain ⟨o, ws, h4, r⟩ := hS1.ob n _ q h2 hq
    exact ⟨q, o, ws, rfl, h4, h3 m1 _ e1 hS1 (it_items hq h4 r.length)⟩
theorem s_zip (xo : XO P cl X k sc W) (hg : Gl X (Str.ofString "zip")) (hs : notStar ea = true) (hs2 : notStar eb = true) (ha : PE X ea (tE P cl k X W a)) (hb : PE X eb (tE P cl k X W b)) : PI X (.Tuple elts kk tpos) (.Call (.Name (Str.ofString "zip") p) [ea, eb] [] pos) (tSrc P cl k X W (.zip a b)) :=
  PI.imp (pi_zipX hg (xo.ln.bi "zip" (by decide)) (pa_cons ha (pa_cons hb pa_nil (star_cons hs2)) (star_cons hs)) (star_cons hs) (star_any (by simp [hs2]))) fun σ H Q ⟨m, env, S, hK, eH, hS, hV, h⟩ => by
    subst eH
    simp only [wSrc] at h
    refine tE_of hK hS hV (Ev.refl m) h fun m1 x S1 v e1 hS1 r1 hV1 h1 => ?_
    refine tE_of (e1.k.trans hK) hS1 hV1 e1 h1 fun m2 y S2 w e2 hS2 r2 hV2 h2 => ?_
    have hK2 := (e1.trans e2).k.trans hK
    obtain ⟨t, a, xs, g, rfl, A, h3, ps, q1⟩ := sq_of hS2 (r1.up (e2.up hS1)) h2
    obtain ⟨u, b, ys, g', rfl, B, h4, qs, q2⟩ := sq_of hS2 r2 h3
    rw [hK2] at q1 q2
    have it := it_zipX A B
    rw [hK2] at it
    exact ⟨t, u, a, b, ps, qs, rfl, q1, q2, h4 m2 _ (e1.trans e2) hS2 it⟩

/-! ### targets -/
def setN : List Nat → List V → L2.St → L2.St
  | i :: is, x :: xs, σ => setN is xs (σ.set i (some x))
  | _, _, σ => σ
def Tg.slots : Tg → List Nat
  | .nm i => [i]
  | .tp is => is
def tG (K : PySem.W.Frag) : Tg → TG
  | .nm i => fun v σ H Q => Q (σ.set i (some v)) H
  | .tp is => fun v σ H Q => ∃ a xs, v = .ref a ∧ SqT K H a xs ∧ xs.length = is.length ∧ Q (setN is xs σ) H
theorem PG.imp {tg : Expr} {t t' : TG} (h : PG X tg t) (f : ∀ v σ H Q, t' v σ H Q → t v σ H Q) : PG X tg t' := ⟨fun pins s σ H v u Q I r hw => h.run pins s σ H v u Q I r (f _ _ _ _ hw)⟩
theorem PG.pre {tg : Expr} {t : TG} (h : PG X tg t) : PG X tg (fun v σ H Q => KF X.K H → t v σ H Q) := ⟨fun pins s σ H v u Q I r hw => h.run pins s σ H v u Q I r (hw (kfree I))⟩
/-- a name that is stored -/
structure NmOk (X : Cx) (i : Nat) (e : Expr) : Prop where
  ok : ∃ x pos, e = .Name x pos ∧ X.N[i]? = some x ∧ Loc X.env.scope x ∧ (X.fn x = true ∨ X.env.scope.names.lookup x = some .local)
theorem g_nm {i : Nat} {e : Expr} (hN : X.N.Nodup) (h : NmOk X i e) : PG X e (gName i) := by
  obtain ⟨x, pos, rfl, h1, h2, h3⟩ := h.ok
  exact pg_name hN h1 h2 h3
def gNs : List Nat → TGs
  | [] => gNil
  | i :: is => gCons (gName i) (gNs is)
inductive NmsOk (X : Cx) : List Nat → List Expr → Prop where
  | nil : NmsOk X [] []
  | cons {i e is es} : NmOk X i e → NmsOk X is es → NmsOk X (i :: is) (e :: es)
theorem NmsOk.pgs {is es} (hN : X.N.Nodup) (h : NmsOk X is es) : PGs X es (gNs is) := by
  induction h with
  | nil => exact pgs_nil
  | cons h1 h2 ih =>
    refine pgs_cons (g_nm hN h1) ih ?_
    obtain ⟨x, pos, rfl, _⟩ := h1.ok
    rfl
theorem NmsOk.len {is es} (h : NmsOk X is es) : (assignEach es X.env).length = is.length := by
  induction h with
  | nil => rfl
  | cons h1 h2 ih =>
    obtain ⟨x, pos, rfl, _⟩ := h1.ok
    show (assignEach _ X.env).length + 1 = _
    rw [ih]
    rfl
theorem NmsOk.star {is es} (h : NmsOk X is es) : (assignEach es X.env).findIdx? (·.1) = none := by
  rw [List.findIdx?_eq_none_iff]
  induction h with
  | nil => intro x hx; cases hx
  | cons h1 h2 ih =>
    obtain ⟨x, pos, rfl, _⟩ := h1.ok
    intro y hy
    rcases List.mem_cons.mp hy with rfl | hy
    · rfl
    · exact ih y hy
theorem gNs_of : ∀ (is : List Nat) (xs : List V) (σ : L2.St) (H : Hp) (Q : L2.St → Hp → Prop), xs.length = is.length → Q (setN is xs σ) H → gNs is xs σ H Q
  | [], xs, σ, H, Q, hl, h => by
    cases xs with
    | nil => exact ⟨rfl, h⟩
    | cons _ _ => cases hl
  | i :: is, [], σ, H, Q, hl, h => by cases hl
  | i :: is, x :: xs, σ, H, Q, hl, h => ⟨x, xs, rfl, gNs_of is xs _ H Q (by simpa using hl) h⟩
inductive TgOk (X : Cx) : Tg → Expr → Prop where
  | nm {i e} : NmOk X i e → TgOk X (.nm i) e
  | tp {is es kk pos} : NmsOk X is es → TgOk X (.tp is) (.Tuple es kk pos)
theorem TgOk.pg {t e} (hN : X.N.Nodup) (hc : X.calm = true) (h : TgOk X t e) : PG X e (tG X.K t) := by
  cases h with
  | nm h => exact g_nm hN h
  | tp h => exact PG.imp (pg_tup hc (h.pgs hN) h.len h.star) fun v σ H Q ⟨a, xs, h1, h2, h3, h4⟩ => ⟨a, xs, h1, h2, h3, gNs_of _ _ _ _ _ h3 h4⟩
theorem SV.setN : ∀ {is : List Nat} {ds : List Val} {xs : List V} {env : Env} {σ : L2.St}, SV m env σ → RDs m ds xs → SV m ((is.zip ds).foldl (fun e p => es e p.1 (some p.2)) env) (setN is xs σ)
  | [], ds, xs, env, σ, h, r => by simpa [Mi.setN] using h
  | i :: is, _, _, env, σ, h, .nil => by simpa [Mi.setN] using h
  | i :: is, _, _, env, σ, h, .cons r rs => by
    simp only [List.zip_cons_cons, List.foldl_cons, Mi.setN]
    exact SV.setN (h.set r) rs
theorem tG_of {t : Tg} {d : Val} {x : V} {K1 : Env → Prop} {Q : L2.St → Hp → Prop} (hK : m.K = X.K) (r : RD m d x) (hV : SV m env σ) (h : tgW t d env K1) (hq : ∀ env' xs, K1 env' → SV m env' (setN t.slots xs σ) → Q (setN t.slots xs σ) m.H) : tG X.K t x σ m.H Q := by
  cases t with
  | nm i =>
    have := hq _ [x] h (by simpa [Tg.slots, setN] using hV.set r)
    simpa [Tg.slots, setN, tG] using this
  | tp is =>
    obtain ⟨ds, rfl, hl, h⟩ := h
    cases r with
    | @tup a xs _ hq' rs =>
    rw [hK] at hq'
    exact ⟨a, xs, rfl, hq', by rw [← rs.length]; exact hl, hq _ xs h (hV.setN rs)⟩
theorem wipe_get (σ : L2.St) : ∀ (vs : List Nat) (j : Nat), (L2.wipe σ vs)[j]? = if j ∈ vs then (σ[j]?).map fun _ => none else σ[j]?
  | [], j => by simp [L2.wipe]
  | v :: vs, j => by
    unfold L2.wipe
    rw [List.getElem?_set]
    by_cases h : v = j
    · subst h
      rw [if_pos rfl, if_pos List.mem_cons_self, L2.wipe_length]
      by_cases hl : v < σ.length
      · rw [if_pos hl, List.getElem?_eq_getElem hl]; rfl
      · rw [if_neg hl, List.getElem?_eq_none (by omega)]; rfl
    · rw [if_neg h, wipe_get]
      by_cases h2 : j ∈ vs
      · rw [if_pos h2, if_pos (List.mem_cons_of_mem _ h2)]
      · rw [if_neg h2, if_neg (by
          intro z
          rcases List.mem_cons.mp z with z | z
          · exact h z.symm
          · exact h2 z)]
theorem wipe_set {σ τ : L2.St} {vs : List Nat} {i : Nat} {x : Option V} (hi : i ∈ vs) (h : L2.wipe τ vs = L2.wipe σ vs) : L2.wipe (τ.set i x) vs = L2.wipe σ vs := by
  rw [← h]
  apply List.ext_getElem?
  intro j
  rw [wipe_get, wipe_get]
  by_cases hj : j ∈ vs
  · rw [if_pos hj, if_pos hj, List.getElem?_set]
    by_cases e : i = j
    · subst e
      rw [if_pos rfl]
      by_cases hl : i < τ.length
      · rw [if_pos hl, List.getElem?_eq_getElem hl]; rfl
      · rw [if_neg hl, List.getElem?_eq_none (by omega)]
    · rw [if_neg e]
  · rw [if_neg hj, if_neg hj, List.getElem?_set, if_neg (show ¬ i = j from fun e => hj (e ▸ hi))]
theorem wipe_wipe {σ : L2.St} {vs : List Nat} : L2.wipe (L2.wipe σ vs) vs = L2.wipe σ vs := by
  apply List.ext_getElem?
  intro j
  rw [wipe_get, wipe_get]
  by_cases hj : j ∈ vs
  · rw [if_pos hj, if_pos hj]
    cases σ[j]? <;> rfl
  · rw [if_neg hj, if_neg hj]
theorem wipe_setN {vs : List Nat} : ∀ {is : List Nat} {xs : List V} {σ τ : L2.St}, (∀ i ∈ is, i ∈ vs) → L2.wipe τ vs = L2.wipe σ vs → L2.wipe (setN is xs τ) vs = L2.wipe σ vs
  | [], _, σ, τ, _, h => by simpa [setN] using h
  | i :: is, [], σ, τ, _, h => by simpa [setN] using h
  | i :: is, x :: xs, σ, τ, hi, h => by
    simp only [setN]
    exact wipe_setN (fun j hj => hi j (List.mem_cons_of_mem _ hj)) (wipe_set (hi i List.mem_cons_self) h)
end
end Mi

set_option maxHeartbeats 4000000
namespace Mi
open PySem PySem.Spec L2 PyProof.Rows
/-- a wish that looks at the slots σ, whatever the block's own ones are -/
abbrev atS (W : WX) (σ : L2.St) : WX := fun c d _ H => W c d σ H
/-- the block of a comprehension, what calls let out within it goes to W at the slots σ -/
abbrev Cx.blkE (X : Cx) (W : WX) (σ : L2.St) (s : Shared) (H : Hp) (scope : Scope) (ce : PySem.Env) (fp : List Addr) : Cx :=
  (X.blk s H scope ce fp).tr [] (XF (X.blk s H scope ce fp) (atS W σ))
section
variable {X : Cx} {W : WX} {σ : L2.St} {pins : List (Addr × Obj)} {H : Hp} {s : Shared} {scope : Scope} {ce : PySem.Env} {fp : List Addr}
theorem toE {ρ : L2.St} {H' : Hp} {t : Shared} (I : Inv (X.blk s H scope ce fp) [] ρ H' t) : Inv (Cx.blkE X W σ s H scope ce fp) [] ρ H' t := I.toTry _
theorem ofE {ps : List (Addr × Obj)} {ρ : L2.St} {H' : Hp} {t : Shared} (I : Inv (Cx.blkE X W σ s H scope ce fp) ps ρ H' t) : Inv (X.blk s H scope ce fp) [] ρ H' t := Inv.ofTry (X := X.blk s H scope ce fp) (pins := []) I I.ok.ofTry
theorem blkE_tk : TkF (Cx.blkE X W σ s H scope ce fp) (atS W σ) := by
  rintro u t ⟨x, G, sG, ps, ρ, K, c, d, F, rfl, I, nb, up, fr, sky, nx, os, ag, w⟩
  exact ⟨x, G, sG, [], ρ, K, c, d, F, rfl, ofE I, nb, up, fr, sky, nx, os, ag, w⟩
theorem blkE_fr (fr : InFr X) (hf : ce.frame = X.env.frame) : InFr (Cx.blkE X W σ s H scope ce fp) := by
  obtain ⟨e0, out, F, h1, h2, h3⟩ := fr
  exact ⟨e0, out, F, h1, h2, hf.trans h3⟩
/-- what flies within the block goes on around it -/
theorem blk_err {L C : Addr} {u : Value} {t : Shared} {use : Option (Value → Sem Unit)} {Q : Value → Shared → Prop} {acc : Value} (fr : InFr X) (tk : TkF X W) (I : Inv X pins σ H s) (hf : ce.frame = X.env.frame) (hC : ce.locals = s.heap.objs.size)
    (hfp : ∀ b ∈ fp, FpOk X pins H b) (x : XF (X.blk s H scope ce fp) (atS W σ) u t) :
    notedBy (model X.prog X.w) X.A ce (fun e t' => blkEnd (model X.prog X.w) X.A X.xe use Q acc ce (.error e) t') u t := by
  obtain ⟨e0, out, F0, hs, hf0, hXf⟩ := fr
  have hfr : X.A.frames = some (e0 :: out) := by rw [I.ok.frames, hs]
  obtain ⟨a, B, sB, ps, ρ, K, c, d, F, rfl, J, nb, up, fr, sky, na, os, ag, w⟩ := x
  have hcf : ce.frame = some F := fr
  have eF : F = F0 := by
    rw [hf, hXf] at hcf
    exact (Option.some.inj hcf).symm
  subst eF
  have sky : Sky B (e0 :: out) a (L2N.Zn c d) F t.heap := by rw [← hs]; exact sky
  have nC : s.heap.objs.size ∉ frs X.stack := fun hm => by
    obtain ⟨_, o, ho, _⟩ := I.stack.mem hm
    exact absurd (Heap.lt_size ho) (Nat.lt_irrefl _)
  obtain ⟨m0, hn0, _⟩ := J.loc
  have hn0 : sB.heap.Ns ce.locals m0 := hn0
  rw [hC] at hn0
  obtain ⟨oC, _, _, hoC, _⟩ := hn0
  have inB : B.get? s.heap.objs.size = some oC := nb _ _ hoC nC
  show wpAny _ _ (noteFrame (.ref a) ce) _ _ t
  rw [note_eq (e0 := e0) (.ref a) (hcf.trans hf0.symm)]
  have fin : ∀ h1, HandSPX.HeldZ B (e0 :: out) a (L2N.Zn c d) F h1 → t.heap.UpToSlots h1 → blkEnd (model X.prog X.w) X.A X.xe use Q acc ce (.error (.ref a)) { t with heap := h1 } := fun h1 hh up1 => by
    have JL := J.landed (s' := { t with heap := h1 }) nb hh.1 (up.trans up1) os ag
    obtain ⟨m, hn, _⟩ := JL.loc
    refine ⟨m, hn, fun g sb => ?_⟩
    rw [hC] at sb
    obtain ⟨z1, z2, z3, oe, vs, T, oT, ts, q1, q2, q3, q4, q5, q6, q7, q8, q9⟩ := hh
    have aC : a ≠ s.heap.objs.size := fun z => by rw [z, inB] at z2; cases z2
    have tC : T ≠ s.heap.objs.size := fun z => by rw [z, inB] at q5; cases q5
    have B1 : ∀ b o, (PySem.W.hideAll B [s.heap.objs.size]).get? b = some o → B.get? b = some o ∧ b ≠ s.heap.objs.size := fun b o e => ⟨PySem.W.of_hideAll _ e, fun z => by
      rw [z, PySem.W.hideAll_none _ (.head _)] at e
      cases e⟩
    have B2 : ∀ b, B.get? b = none → (PySem.W.hideAll B [s.heap.objs.size]).get? b = none := fun b e => by
      cases q : (PySem.W.hideAll B [s.heap.objs.size]).get? b with
      | none => rfl
      | some o => rw [(B1 b o q).1] at e; cases e
    have hold : HandSPX.HeldZ (PySem.W.hideAll B [s.heap.objs.size]) (e0 :: out) a (L2N.Zn c d) F g :=
      ⟨fun b o e => (sb.2 b (B1 b o e).2).trans (z1 b o (B1 b o e).1), B2 a z2, frames_on z3 fun G hG => ⟨B2 G (z3.mem hG).1, sb.2 G fun z => nC (by rw [← z, hs]; exact hG)⟩,
        oe, vs, T, oT, ts, (sb.2 a aC).trans q1, q2, q3, q4, B2 T q5, q6, (sb.2 T tC).trans q7, q8, q9⟩
    obtain ⟨_, _, _, oe, vs, T, oT, ts, q1, q2, q3, q4, _⟩ := id hold
    unfold PySem.passOn
    refine wpAny_bind (wpAny_field q1 q3 q4 ?_)
    rw [if_neg (show ¬ ((Value.ref T == Value.none) = true) from fun z => by cases z)]
    have go : wpAny (model X.prog X.w) X.A (setFlight (.ref a) ce.frame) (fun _ t4 => wpAny (model X.prog X.w) X.A (throw (.ref a) : Sem Value) (fun _ _ => False) X.xe t4) X.xe { t with heap := g } := by
      rw [hcf]
      refine HandSPX.setFlight_onZ hold fun g4 hold4 up4 => wpAny_throw (tk _ _ ?_)
      have K0 : Inv X pins σ K sB := I.call' (ch := fp) J.os J.base J.hok J.bare fun b hb => ⟨(hfp b hb).2.2.2.1, (hfp b hb).2.1, (hfp b hb).2.2.2.2.1, (hfp b hb).2.2.2.2.2⟩
      have nK : K s.heap.objs.size = none := by
        have z : K ce.locals = none := J.free
        rwa [hC] at z
      obtain ⟨f0, f1, _, f3, f4, f5⟩ := I.fpOk (Nat.le_refl _) nK
      have K1 := K0.turned (t' := sB.toks) (h' := PySem.W.hideAll sB.heap [s.heap.objs.size]) (fun b o hb e => PySem.W.hideAll_get _ e (by simpa using hb)) f0 f1 f3 f4 f5
      have S1 : ∀ b o, (PySem.W.hideAll sB.heap [s.heap.objs.size]).get? b = some o → sB.heap.get? b = some o ∧ b ≠ s.heap.objs.size := fun b o e => ⟨PySem.W.of_hideAll _ e, fun z => by
        rw [z, PySem.W.hideAll_none _ (.head _)] at e
        cases e⟩
      refine ⟨a, PySem.W.hideAll B [s.heap.objs.size], _, pins, σ, K, c, d, F, rfl, K1, fun b o e hb => ?_, fun b o e nf => ?_, hXf, .inr (.inr (by rw [hs]; exact hold4)), na, os, ag, w⟩
      · obtain ⟨e1, hb1⟩ := S1 b o e
        exact PySem.W.hideAll_get _ (nb b o e1 hb) (by simpa using hb1)
      · obtain ⟨e1, hb1⟩ := S1 b o e
        obtain ⟨sl, e2⟩ := (up.trans up1) b o e1 nf
        have e3 : g.get? b = some { o with slots := sl } := (sb.2 b hb1).trans e2
        obtain ⟨sl2, e4⟩ := up4 b _ e3 nf
        exact ⟨sl2, e4⟩
    first
      | exact wpAny_bind (wpAny_pure (wpAny_bind go))
      | exact wpAny_bind go
  rcases sky with ⟨z1, z2, z3, oe, vs, q1, q2, q3, q4⟩ | fl | hh
  · exact PXN.look_newZ L2N.Zn.steady hfr z3 hf0 q1 z1 z2 q3 q4 q2 fin
  · exact PXN.looks_onZ L2N.Zn.steady hfr hf0 fl fin
  · exact HandSPX.againZ hf0 hh.2.2.2 (fin t.heap hh (Heap.UpToSlots.refl _))
end
end Mi

set_option maxHeartbeats 4000000
namespace Mi
open PySem PySem.Spec L2 PyProof.Rows
section
variable {X : Cx} {W : WX}
theorem no_err {α : Type} {M : Model} {A : Around} {t : Sem α} {Q1 Q2 : α → Shared → Prop} {E : Value → Shared → Prop} {s : Shared} (w : wpAny M A t Q1 (fun _ _ => False) s) (k : ∀ a s', Q1 a s' → Q2 a s') : wpAny M A t Q2 E s := wpAny_mono w k fun _ _ z => z.elim
theorem lcE_core {pins : List (Addr × Obj)} {s : Shared} {σ : L2.St} {H : Hp} {Q : VK} {elt tg iter : Expr} {ifs : List Expr} {scope : Scope} {own : List (Str × Nat)} {pos pos' : Pos} {wi : TI} {g : TG} {tt : TT} {te : TE} {use : Option (Value → Sem Unit)} {Qf : Value → Shared → Prop}
    (calm : X.calm = true) (nd : X.N.Nodup) (fr : InFr X) (tk : TkF X W) (I : Inv X pins σ H s) (src : PI X tg iter wi) (ok : BlkOk X.N X.env.scope scope own)
    (pgs : ∀ (s : Shared) (H : Hp) (C : Addr) (cs : List (Str × Addr)) (fp : List Addr), PG (Cx.blkE X W σ s H scope (compEnvC scope cs C X.env) fp) tg g)
    (pts : ∀ (s : Shared) (H : Hp) (C : Addr) (cs : List (Str × Addr)) (fp : List Addr), PTs (Cx.blkE X W σ s H scope (compEnvC scope cs C X.env) fp) ifs tt)
    (pes : ∀ (s : Shared) (H : Hp) (C : Addr) (cs : List (Str × Addr)) (fp : List Addr), PE (Cx.blkE X W σ s H scope (compEnvC scope cs C X.env) fp) elt te)
    (plain : ∀ x, foldedSetIterable iter X.env x = pure x) (want : tLc wi g tt te (own.map (·.2)) σ H Q)
    (done : ∀ D C t m K, Inv X pins σ K t → Q (.ref D) K → t.heap.Ns C m → FpOk X pins K C → compPost (model X.prog X.w) X.A X.xe use Qf (.ref D) C (.ok .next) t) :
    wpAny (model X.prog X.w) X.A (comprehension (.ListComp elt [⟨tg, iter, ifs, 0⟩] scope pos) scope X.env pos' (newList []) false (eval iter X.env) use) Qf X.xe s := by
  have cells : ∀ y ∈ scope.names, y.2 = .free → ∃ c, X.env.cells.lookup y.1 = some c := fun y hy e => I.ok.has _ (ok.free y hy e)
  refine comp_own rfl plain (closure_ok cells) ok.kind (fun y hy e => (ok.uniq y hy).trans (by rw [e])) (thn (src.run pins s σ H _ I want) fun xv t1 w1 => thn w1 fun itv t2 w2 => ?_)
  obtain ⟨it, fp, tn, J, K2, rfl, I2, T, at0, fp2, w3⟩ := w2
  refine wpAny_newObj_type (newEnv_comp ?_) (by show 0 ≤ sizeLine; decide)
  generalize eD : t2.heap.objs.size = D
  have noD : K2 D = none := I2.hok.fresh (Nat.le_of_eq eD)
  obtain ⟨V, ⟨n0, v0⟩, turn⟩ := w3 D noD
  generalize e3 : ({ t2 with heap := t2.heap.push { cls := .type "list", data := .seq ([] : List Value).toArray } } : Shared) = t3
  have h3 : t3.heap = t2.heap.push { cls := .type "list", data := .seq ([] : List Value).toArray } := by rw [← e3]
  have keep3 : ∀ b o, t2.heap.get? b = some o → t3.heap.get? b = some o := fun b o e => by rw [h3]; exact Heap.get?_push_of_some _ e
  have I3 : Inv X pins σ (upd K2 D (.lst [])) t3 := by
    rw [← e3]
    refine I2.laid (t' := t2.toks) (fun b o e => Heap.get?_push_of_some _ e) (Nat.le_of_eq eD) ⟨Nat.zero_le _, [], 0, .nil, ?_⟩
    rw [← eD]
    exact Heap.get?_push_size _ rfl
  have small : ∀ b ∈ fp, b < t2.heap.objs.size := fun b hb => let ⟨_, e, _⟩ := T.obj _ _ at0 b hb; Heap.lt_size e
  have fp3 : ∀ b ∈ fp, FpOk X pins (upd K2 D (.lst [])) b ∧ b < t3.heap.objs.size := fun b hb => by
    have lt := small b hb
    obtain ⟨y1, y2⟩ := fp2 b hb
    exact ⟨⟨by rw [upd_ne (fun z => by rw [z, eD] at lt; exact Nat.lt_irrefl _ lt)]; exact y1, y2⟩, by rw [h3, Heap.size_push]; exact Nat.lt_succ_of_lt lt⟩
  have at3 : tn 0 t3.heap := T.keep _ _ _ at0 fun b _ o e => keep3 b o e
  have I4 := block_start I3 ok nd fp3
  have pg := pgs t3 (upd K2 D (.lst [])) t3.heap.objs.size (cellsFrom (t3.heap.objs.size + 1) scope.names (cloFrom X.env.cells scope.names [])) fp
  have pt := pts t3 (upd K2 D (.lst [])) t3.heap.objs.size (cellsFrom (t3.heap.objs.size + 1) scope.names (cloFrom X.env.cells scope.names [])) fp
  have pe := pes t3 (upd K2 D (.lst [])) t3.heap.objs.size (cellsFrom (t3.heap.objs.size + 1) scope.names (cloFrom X.env.cells scope.names [])) fp
  show codeAny _ _ (.compStart _ 0 (.ref it) (.ref D) (compEnvC scope (cellsFrom (t3.heap.objs.size + 1) scope.names (cloFrom X.env.cells scope.names [])) t3.heap.objs.size X.env))
    (blkEnd (model X.prog X.w) X.A X.xe use Qf (.ref D) (compEnvC scope (cellsFrom (t3.heap.objs.size + 1) scope.names (cloFrom X.env.cells scope.names [])) t3.heap.objs.size X.env)) { t3 with heap := pushCells (t3.heap.push { cls := .type "dict", data := .dict #[] }) scope.names }
  have none3 : ∀ b ∈ fp, (upd K2 D (.lst [])) b = none := fun b hb => (fp3 b hb).1.1
  generalize ece : compEnvC scope (cellsFrom (t3.heap.objs.size + 1) scope.names (cloFrom X.env.cells scope.names [])) t3.heap.objs.size X.env = ce at I4 pg pt pe ⊢
  have ceL : ce.locals = t3.heap.objs.size := by rw [← ece]; rfl
  have ceF : ce.frame = X.env.frame := by rw [← ece]; rfl
  generalize eK : upd K2 D (.lst []) = K3 at I3 I4 pg pt pe v0 none3 fp3
  have I4 : Inv (Cx.blkE X W σ t3 K3 scope ce fp) [] (wipe σ (own.map (·.2))) K3 _ := toE I4
  generalize e4 : ({ t3 with heap := pushCells (t3.heap.push { cls := .type "dict", data := .dict #[] }) scope.names } : Shared) = t4 at I4 ⊢
  have at4 : tn 0 t4.heap := T.keep _ _ _ at3 fun b _ o e => by rw [← e4]; exact pushCells_keeps _ _ _ _ (Heap.get?_push_of_some _ e)
  have still : ∀ {ρ : L2.St} {K : Hp} {t : Shared}, Inv (Cx.blkE X W σ t3 K3 scope ce fp) [] ρ K t → (∀ b ∈ fp, K b = none) → ∀ b ∈ fp, FpOk (Cx.blkE X W σ t3 K3 scope ce fp) [] K b := fun {ρ K t} J n b hb =>
    ⟨n b hb, (J.ok.exf b hb).1, J.ok.exfs b hb, .inl hb, fun x c e => (J.ok.exf b hb).2 x c e, fun p hp => absurd (show p ∈ ([] : List (Addr × Obj)) ++ [] from hp) (by simp)⟩
  have err : ∀ u t, XF (X.blk t3 K3 scope ce fp) (atS W σ) u t → notedBy (model X.prog X.w) X.A ce (fun e t' => blkEnd (model X.prog X.w) X.A X.xe use Qf (.ref D) ce (.error e) t') u t := fun u t x => blk_err (L := it) (C := it) fr tk I3 ceF ceL (fun b hb => (fp3 b hb).1) x
  have also : ∀ {α : Type} {m : Sem α} {Q1 Q2 : α → Shared → Prop} {t : Shared}, wpAny (model X.prog X.w) X.A m Q1 (XF (X.blk t3 K3 scope ce fp) (atS W σ)) t → (∀ a t', Q1 a t' → Q2 a t') →
      wpAny (model X.prog X.w) X.A m Q2 (notedBy (model X.prog X.w) X.A ce fun e t' => blkEnd (model X.prog X.w) X.A X.xe use Qf (.ref D) ce (.error e) t') t := fun w k => wpAny_mono w k err
  have loop : codeAny (model X.prog X.w) X.A (.compLoop (.ListComp elt [⟨tg, iter, ifs, 0⟩] scope pos) 0 (.ref it) (.ref D) ce) (blkEnd (model X.prog X.w) X.A X.xe use Qf (.ref D) ce) t4 := by
    refine compLoop_any (fun n t => ∃ i K, Inv (Cx.blkE X W σ t3 K3 scope ce fp) [] (wipe σ (own.map (·.2))) K t ∧ tn i t.heap ∧ (∀ b ∈ fp, K b = none) ∧ V i n K) ?_ n0 ⟨0, K3, I4, at4, none3, v0⟩
    rintro n t5 ⟨i, K5, I5, at5, none5, v5⟩
    rcases turn i n K5 v5 with ⟨stop, q⟩ | ⟨go, Nx, nx, step⟩
    · refine no_err (T.done (Cx.blkE X W σ t3 K3 scope ce fp) rfl rfl rfl calm i [] t5 _ K5 (fun _ _ => False) I5 (still I5 none5) at5 stop) fun r t6 ⟨er, I6⟩ => ?_
      subst er
      have I7 : Inv X pins σ K5 t6 := I3.call' (ch := fp) I6.os I6.base I6.hok I6.bare fun b hb => ⟨(fp3 b hb).1.2.2.2.1, (fp3 b hb).1.2.1, (fp3 b hb).1.2.2.2.2.1, (fp3 b hb).1.2.2.2.2.2⟩
      obtain ⟨m, ns, _⟩ := I6.loc
      have nC : K5 ce.locals = none := I6.free
      have ns : t6.heap.Ns ce.locals m := ns
      show compPost _ _ _ _ _ _ ce.locals _ _
      rw [ceL] at nC ns ⊢
      exact done D _ t6 m K5 I7 q ns (I3.fpOk (Nat.le_refl _) nC)
    · refine no_err (T.item (Cx.blkE X W σ t3 K3 scope ce fp) rfl rfl rfl calm i [] t5 _ K5 (fun _ _ => False) I5 (still I5 none5) at5 go) fun r t6 ⟨u, er, w6⟩ => ?_
      subst er
      refine no_err w6 fun _ t7 ⟨x, K7, I7, r7, y7, at7, none7⟩ => ?_
      refine also (pg.run _ t7 _ K7 x u _ (I7.pinned (still I7 none7) (T.obj _ _ at7)) r7 (step x K7 y7)) fun _ t8 ⟨σ8, K8, I8, wipe8, w8⟩ => ?_
      refine also (pt.run _ t8 σ8 K8 _ I8 w8) fun b t9 ⟨K9, I9, w9⟩ => ?_
      have turned : ∀ {t : Shared} {K : Hp}, Inv (Cx.blkE X W σ t3 K3 scope ce fp) ([] ++ pinsAt fp t7.heap) σ8 K t → Nx K → ∃ m, m < n ∧ ∃ i K, Inv (Cx.blkE X W σ t3 K3 scope ce fp) [] (wipe σ (own.map (·.2))) K t ∧ tn i t.heap ∧ (∀ b ∈ fp, K b = none) ∧ V i m K := fun {t K} J z => by
        obtain ⟨m, lt, v⟩ := nx K z
        have fix : ∀ b ∈ fp, ∀ o, t7.heap.get? b = some o → t.heap.get? b = some o ∧ K b = none := fun b hb o e => let y := J.pin (b, o) (List.mem_append_right _ (List.mem_append_right _ (mem_pinsAt hb e))); ⟨y.1, y.2.1⟩
        refine ⟨m, lt, i + 1, K, (J.unpinned (pins := [])).weak (by rw [← wipe8, wipe_length]) (fun j v e => (wipe_some (by rw [wipe8]; exact e)).1), T.keep _ _ _ at7 fun b hb o e => (fix b hb o e).1, fun b hb => ?_, v⟩
        obtain ⟨o, e, _⟩ := T.obj _ _ at7 b hb
        exact (fix b hb o e).2
      cases b with
      | false =>
        simp only [Bool.false_eq_true, if_false] at w9 ⊢
        exact turned I9 w9
      | true =>
        simp only [if_true] at w9 ⊢
        refine also (pe.run _ t9 σ8 K9 _ I9 w9) fun z t10 ⟨y, K10, I10, r10, acc, l10, sz10, w10⟩ => ?_
        exact app_ok (X := Cx.blkE X W σ t3 K3 scope ce fp) I10 l10 sz10 r10 fun t11 I11 => turned I11 w10
  exact codeAny_compStart_list loop (T.self X.A 0 _ _ _ at4 loop)
/-- the block's slots σ held to -/
def tLcE (wi : TI) (g : TG) (tt : L2.St → TT) (te : L2.St → TE) (vs : List Nat) : TE := fun σ H Q => tLc wi g (tt σ) (te σ) vs σ H Q
theorem peE_lc {elt tg iter : Expr} {ifs : List Expr} {scope : Scope} {own : List (Str × Nat)} {pos : Pos} {wi : TI} {g : TG} {tt : L2.St → TT} {te : L2.St → TE} (calm : X.calm = true) (nd : X.N.Nodup) (fr : InFr X) (tk : TkF X W) (src : PI X tg iter wi) (ok : BlkOk X.N X.env.scope scope own)
    (pgs : ∀ (σ : L2.St) (s : Shared) (H : Hp) (C : Addr) (cs : List (Str × Addr)) (fp : List Addr), PG (Cx.blkE X W σ s H scope (compEnvC scope cs C X.env) fp) tg g)
    (pts : ∀ (σ : L2.St) (s : Shared) (H : Hp) (C : Addr) (cs : List (Str × Addr)) (fp : List Addr), PTs (Cx.blkE X W σ s H scope (compEnvC scope cs C X.env) fp) ifs (tt σ))
    (pes : ∀ (σ : L2.St) (s : Shared) (H : Hp) (C : Addr) (cs : List (Str × Addr)) (fp : List Addr), PE (Cx.blkE X W σ s H scope (compEnvC scope cs C X.env) fp) elt (te σ))
    (plain : ∀ x, foldedSetIterable iter X.env x = pure x) : PE X (.ListComp elt [⟨tg, iter, ifs, 0⟩] scope pos) (tLcE wi g tt te (own.map (·.2))) := by
  refine ⟨fun pins s σ H Q I want => ?_⟩
  rw [eval_ListComp]
  refine lcE_core calm nd fr tk I src ok (pgs σ) (pts σ) (pes σ) plain want fun D C t m K I' q ns ⟨f0, f1, f2, f3, f4, f5⟩ => ⟨m, ns, fun g sb => ?_⟩
  exact ⟨.ref D, K, I'.turned (t' := t.toks) (fun b o hb e => (sb.2 b hb).trans e) f0 f1 f3 f4 f5, rfl, q⟩
/-- name = [..] on one line, the name a local -/
theorem psE_setLc {i : Nat} {y : Str} {py : Pos} {elt tg iter : Expr} {ifs : List Expr} {scope : Scope} {own : List (Str × Nat)} {pos spos : Pos} {wi : TI} {g : TG} {tt : L2.St → TT} {te : L2.St → TE} (calm : X.calm = true) (nd : X.N.Nodup) (fr : InFr X) (tk : TkF X W) (hy : X.N[i]? = some y)
    (hyl : X.env.scope.names.lookup y = some .local) (sw : swapsWith (.ListComp elt [⟨tg, iter, ifs, 0⟩] scope pos) (some (.Name y py)) spos.line X.env = pure true) (src : PI X tg iter wi) (ok : BlkOk X.N X.env.scope scope own)
    (pgs : ∀ (σ : L2.St) (s : Shared) (H : Hp) (C : Addr) (cs : List (Str × Addr)) (fp : List Addr), PG (Cx.blkE X W σ s H scope (compEnvC scope cs C X.env) fp) tg g)
    (pts : ∀ (σ : L2.St) (s : Shared) (H : Hp) (C : Addr) (cs : List (Str × Addr)) (fp : List Addr), PTs (Cx.blkE X W σ s H scope (compEnvC scope cs C X.env) fp) ifs (tt σ))
    (pes : ∀ (σ : L2.St) (s : Shared) (H : Hp) (C : Addr) (cs : List (Str × Addr)) (fp : List Addr), PE (Cx.blkE X W σ s H scope (compEnvC scope cs C X.env) fp) elt (te σ))
    (plain : ∀ x, foldedSetIterable iter X.env x = pure x) : PS X (.Assign [.Name y py] (.ListComp elt [⟨tg, iter, ifs, 0⟩] scope pos) spos) (tAsg (tLcE wi g tt te (own.map (·.2))) (gName i)) := by
  refine ⟨fun pins s σ H D I want => ?_⟩
  rw [exec_Assign_Name_used _ _ _ _ sw]
  refine wpAny_bind (wpAny_standAt (wpAny_bind ?_))
  show wpAny _ X.A (do let _ ← comprehension _ scope X.env (firstIterPos [⟨tg, iter, ifs, 0⟩] pos) (newList []) false (eval iter X.env) (some (assign (.Name y py) X.env))) _ _ s
  have want : tLc wi g (tt σ) (te σ) (own.map (·.2)) σ H (fun x K => gName i x σ K D.nx) := want
  refine wpAny_bind (thn (lcE_core (Qf := fun _ t => SP X pins D .next t) calm nd fr tk I src ok (pgs σ) (pts σ) (pes σ) plain want fun L C t m K I' q ns ⟨f0, f1, f2, f3, f4, f5⟩ => ?_) fun _ t q => wpAny_pure (wpAny_pure q))
  show wpAny _ _ (assign (.Name y py) X.env (.ref L)) _ _ _
  refine wpAny_assign_Name (store_ok2 (v := V.ref L) I' nd hy (.inl hyl) rfl (fun t2 I2 ⟨a, sb, ha⟩ => ?_) (.inr hyl))
  have Ca : C ≠ a := by
    rcases ha with z | z
    · rw [z]; exact f1
    · exact fun e => f4 y a z e.symm
  exact ⟨m, ns.sameBut sb Ca, fun g3 sb3 => ⟨_, K, I2.turned (t' := t2.toks) (fun b o hb e => (sb3.2 b hb).trans e) f0 f1 f3 f4 f5, q⟩⟩
end
end Mi

set_option maxHeartbeats 4000000
/-! sum([int(x) for x in xs]) while an exception is handled, xs a list of bools -/
namespace Mi
open PySem PySem.Spec L2 PyProof.Rows HotX
section
variable {prog : Program} {w : World} {A : Around} {E : Value → Shared → Prop} {s : Shared}
theorem list_end_hot {it l x1 : Addr} {i : Nat} {items : Array Value} {Q : Option Value → Shared → Prop} (hot : HotAt A x1 s.heap) (hne : x1 ≠ it) (hit : s.heap.IsListIter it l i) (hl : s.heap.IsList l items) (hx : items[i]? = none)
    (hQ : ∀ h', (∀ b o, b ≠ it → s.heap.get? b = some o → h'.get? b = some o) → Q none { s with heap := h' }) : wpAny (model prog w) A (pyNext (.ref it)) Q E s := by
  obtain ⟨hh, o1, vs1, h1, d1, c1⟩ := hot
  obtain ⟨o, ho, hc, hd⟩ := id hit
  obtain ⟨ol, hol, _, nl, hdl⟩ := hl
  unfold pyNext
  refine wpAny_bind (wpAny_attempt (wpAny_callSpecial?_slot (name := Str.ofString "__next__") hit.typeIs slot_listiter_next
    (wpAny_call_entry slot_listiter_next hit.typeIs entry_listiter_next ?_ (args_listiter_next _))))
  show wpAny _ _ (field (.ref it) 0 >>= _) _ _ s
  refine wpAny_bind (wpAny_field ho hd (x := .ref l) rfl ?_)
  show wpAny _ _ (if (Value.ref l == Value.none) = true then _ else _) _ _ s
  rw [if_neg (show ¬ ((Value.ref l == Value.none) = true) from Bool.false_ne_true)]
  show wpAny _ _ (field (.ref it) 1 >>= _) _ _ s
  refine wpAny_bind (wpAny_field ho hd (x := .int i 0) rfl ?_)
  show wpAny _ _ (seqItems? (.ref l) >>= _) _ _ s
  refine wpAny_bind (wpAny_seqItems hol hdl ?_)
  simp only [Int.toNat_natCast, hx]
  refine wpAny_bind (wpAny_rule (wpAny_bind (wpAny_setField ho hd (by simp) ?_)))
  show wpAny _ _ (newExc (.type "StopIteration") [] >>= _) _ _ _
  refine wpAny_bind ?_
  simp only [newExc, newTuple]
  refine wpAny_bind (wpAny_newObj_type ?_ (by size_fits))
  refine wpAny_bind (m := firstArgMember _ _) (wpAny_of_eq (a := Value.none) (by first | rfl | (simp only [firstArgMember]; rfl)) ?_)
  refine wpAny_newObj_type ?_ (by size_fits)
  have k0 : ∀ b ob, b ≠ it → s.heap.get? b = some ob → (s.heap.update it (Obj.mapFields (·.setIfInBounds 0 .none))).get? b = some ob := fun b ob hb e => (Heap.get?_update_other _ _ (Ne.symm hb)).trans e
  have h1' := k0 _ _ hne h1
  refine raiseNew_hot ⟨hh, o1, vs1, Heap.get?_push_of_some _ (Heap.get?_push_of_some _ h1'), d1, c1⟩ (Nat.ne_of_lt (Heap.lt_size (Heap.get?_push_of_some _ h1'))) (Heap.get?_push_size _ rfl) rfl (by first | (simp; done) | (simp; omega) | (simp only [Array.size_append]; simp; omega)) ?_
  refine wpAny_bind (wpAny_isInstance (T := "StopIteration") (b := true) ⟨_, Heap.get?_update_self _ (Heap.get?_push_size _ rfl) rfl, rfl⟩ isSubtype_stop ?_)
  refine wpAny_pure (hQ _ fun b ob hb e => ?_)
  have e := k0 _ _ hb e
  rw [Heap.get?_update_other _ _ (Nat.ne_of_gt (Heap.lt_size (Heap.get?_push_of_some _ e)))]
  exact Heap.get?_push_of_some _ (Heap.get?_push_of_some _ e)
theorem walks_hot {x1 : Addr} {ox : Obj} {vx : Array Value} (hh : A.handled = some (.ref x1)) (dx : ox.data = .fields vx) (cx : vx[2]? = some .none) (I l : Addr) (hne : l ≠ I) (hx : x1 ≠ I) (items : Array Value) :
    Walks prog w A I [I, l, x1] [I] items.size (fun i v => items[i]? = some v) (fun i h => h.IsListIter I l i ∧ h.IsList l items ∧ h.get? x1 = some ox) where
  sub := fun b hb => by simp at hb; simp [hb]
  frame := fun _ _ _ st hk => ⟨st.1.at fun o e => hk I (by simp) o e, st.2.1.at fun o e => hk l (by simp) o e, hk x1 (by simp) _ st.2.2⟩
  item := fun i s Q E hi st hQ => by
    refine wpAny_pyNext_list_item st.1 st.2.1 (x := items[i]) (by simp [hi]) fun h' hit' hs' => ?_
    exact hQ _ h' s.toks (by simp [hi]) ⟨hit', st.2.1.extBut hs'.extBut hne, hs'.extBut _ _ hx st.2.2⟩ fun b o hb e => hs'.extBut b o (fun h => hb (by simp [h])) e
  done := fun s Q E st hQ => list_end_hot ⟨hh, ox, vx, st.2.2, dx, cx⟩ hx st.1 st.2.1 (by simp) fun h' he' => hQ h' s.toks fun b o hb e => he' b o (fun h => hb (by simp [h])) e
  self := fun _ _ _ _ st hQ => wpAny_pyIter_listiter st.1 hQ
end
theorem paired_get {α β : Type} {F : α → β → Prop} : ∀ {xs : List α} {ys : List β} {i : Nat} {a : α}, Paired F xs ys → xs[i]? = some a → ∃ b, ys[i]? = some b ∧ F a b
  | _, _, 0, _, .cons h _, e => by simp at e; subst e; exact ⟨_, rfl, h⟩
  | _, _, i + 1, _, .cons _ h, e => by
    obtain ⟨b, h1, h2⟩ := paired_get (i := i) h (by simpa using e)
    exact ⟨b, by simpa using h1, h2⟩
/-- how many are true -/
def onesV (bs : List Bool) : Nat → Int := fun i => if bs[i]? = some true then 1 else 0
/-- a comprehension's own names: x a local, int the built-in -/
structure SumSc (scope : Scope) (x : Str) : Prop where
  kind : scope.kind = .function
  free : ∀ y ∈ scope.names, y.2 ≠ .free
  cell : ∀ y ∈ scope.names, y.2 ≠ .cell
  uniq : ∀ y ∈ scope.names, y.2 = .local → scope.names.lookup y.1 = some .local
  loc : scope.names.lookup x = some .local
  int : scope.names.lookup (Str.ofString "int") = some .globalImplicit
def tSumI (K : PySem.W.Frag) (ta : TE) : TE := fun σ H Q => ta σ H fun v H1 => ∃ (a : Addr) (bs : List Bool), v = .ref a ∧ SqL K H1 a (bs.map V.bl) ∧ Q (.int (preSum (onesV bs) bs.length)) H1
theorem pe_sumInts {X : Cx} {iter : Expr} {ta : TE} {x : Str} {scope : Scope} {p0 p1 p2 p3 p4 p5 pos : Pos} (hc : L2H.HotC X) (hgs : Gl X "sum") (hms : X.mg "sum" = none) (hmi : X.mg "int" = none) (ss : SumSc scope x) (hxd : (x == ("__debug__" : Str)) = false) (ha : PE X iter ta) (hf : ∀ z, foldedSetIterable iter X.env z = pure z) :
    PE X (.Call (.Name "sum" p0) [.ListComp (.Call (.Name "int" p1) [.Name x p2] [] p3) [⟨.Name x p4, iter, [], 0⟩] scope p5] [] pos) (tSumI X.K ta) := by
  refine ⟨fun pins s σ H Q I h => ?_⟩
  obtain ⟨p, ⟨hh, vx, dx, cx⟩, hp⟩ := hc
  refine wpAny_Call_Name_kw (ld_blt I hgs hms boot_sum ?_)
  refine PyProof.Rows.callWith_builtin1 ?_ rfl rfl
  show wpAny _ _ (spliced [(false, eval (.ListComp (.Call (.Name "int" p1) [.Name x p2] [] p3) [⟨.Name x p4, iter, [], 0⟩] scope p5) X.env)]) _ _ s
  refine Calls.spliced_cons ?_
  refine wpAny_ListComp_walk (fun _ => true) (fun v y => ∃ (b : Bool) (t : Tok), v = .bool b ∧ y = .int (if b then 1 else 0) t) ss.free ss.cell ss.kind ss.uniq ss.loc (thn (ha.run pins s σ H _ I h) fun u s1 ⟨v, H1, I1, r1, q1⟩ => ?_) hf
  obtain ⟨a, bs, ev, hq, q⟩ := q1
  subst ev
  obtain rfl : u = Value.ref a := r1
  obtain ⟨its, rv, pl, hsz⟩ := I1.list hq
  have hl : s1.heap.IsList a its.toArray := pl.isList
  have hx1 := (I1.pin p (List.mem_append_left _ hp)).1
  have la : a < s1.heap.objs.size := let ⟨_, e, _⟩ := hl; Heap.lt_size e
  have lx : p.1 < s1.heap.objs.size := Heap.lt_size hx1
  refine wpAny_pyIter_list hl ?_
  have hlen : its.length = bs.length := by rw [← rv.length, List.length_map]
  have item : ∀ (i : Nat) (v : Value), its.toArray[i]? = some v → ∃ b, bs[i]? = some b ∧ v = .bool b := fun i v e => by
    have e : its[i]? = some v := by simpa using e
    have hi : i < bs.length := by rw [← hlen]; exact (List.getElem?_eq_some_iff.mp e).1
    obtain ⟨u2, e2, r2⟩ := rv.get (i := i) (x := V.bl bs[i]) (by rw [List.getElem?_map, List.getElem?_eq_getElem hi]; rfl)
    rw [e] at e2
    cases e2
    exact ⟨bs[i], List.getElem?_eq_getElem hi, r2⟩
  have keep0 : ∀ b o, s1.heap.get? b = some o → (s1.heap.push { cls := .type "list_iterator", data := .fields #[.ref a, .int 0 0] }).get? b = some o := fun b o e => Heap.get?_push_of_some _ e
  refine ⟨s1.heap.objs.size, _, _, _, _, _, rfl, walks_hot (ox := p.2) hh dx cx _ a (Nat.ne_of_lt la) (Nat.ne_of_lt lx) its.toArray, by rw [List.size_toArray, hlen, ← List.length_map (f := V.bl)]; exact hsz, ⟨⟨_, Heap.get?_push_size _ rfl, rfl, rfl⟩, hl.push _, keep0 _ _ hx1⟩, fun b hb => ?_, ⟨fun C i v s₃ m₃ E' _ _ _ _ _ => ?_, fun C i v s₃ m₃ E' hv _ hn hm hk _ => ?_⟩, fun D h' tk ys vs hD hlD _ hvl hvP hF hk => ?_⟩
  · show b < (s1.heap.push _).objs.size
    rw [Heap.size_push]
    simp only [List.mem_cons, List.not_mem_nil, or_false] at hb
    rcases hb with rfl | rfl | rfl
    · exact Nat.lt_succ_self _
    · exact Nat.lt_succ_of_lt la
    · exact Nat.lt_succ_of_lt lx
  · simp only [List.forIn_nil]
    exact wpAny_pure ⟨rfl, _, _, rfl, fun _ _ e => e⟩
  · obtain ⟨b, _, rfl⟩ := item i v hv
    obtain ⟨mb, z1, z2⟩ := I1.mod.blt
    have bk : ∀ b o, X.base.get? b = some o → s₃.heap.get? b = some o := fun b o e => by
      have e1 := I1.bk b o e
      exact hk b o (fun z => by rw [List.mem_singleton.mp z] at e1; exact absurd (Heap.lt_size e1) (Nat.lt_irrefl _)) (keep0 _ _ e1)
    refine wpAny_Call_Name_kw (Calls.Name_function_global (env := compEnv scope C X.env) ss.kind ss.int (Calls.loadGlobal_builtin (by show s₃.heap.Ns X.env.globals _; rw [I1.ok.glob]; exact I1.mod.glob.keeps bk) hmi (by show s₃.heap.Ns X.env.builtins _; rw [I1.ok.blt]; exact z1.keeps bk) ((z2 "int" (by decide)).trans PyProof.Rows.boot_int) ?_) (by decide))
    refine PyProof.Rows.callWith_type1 ?_ rfl rfl
    show wpAny _ _ (spliced [(false, eval (.Name x p2) (compEnv scope C X.env))]) _ _ s₃
    refine Calls.spliced_cons (wpAny_Name (wpAny_loadName_local ss.kind ss.loc hn hm (Calls.spliced_nil ?_)) hxd)
    exact call_int_bool ⟨⟨b, _, rfl, rfl⟩, _, _, rfl, fun _ _ e => e⟩
  · refine Calls.spliced_nil ?_
    have hold : ∀ b o, s1.heap.get? b = some o → h'.get? b = some o := fun b o e => hk b o (fun z => by rw [List.mem_singleton.mp z] at e; exact absurd (Heap.lt_size e) (Nat.lt_irrefl _)) (keep0 _ _ e)
    have hx2 := hold _ _ hx1
    have lD : D < h'.objs.size := let ⟨_, e, _⟩ := hlD; Heap.lt_size e
    have ft : vs.filter (fun _ => true) = vs := List.filter_eq_self.mpr fun _ _ => rfl
    rw [ft] at hF
    have ylen : ys.size = bs.length := by
      have e1 := hF.length
      have e2 : ys.toList.length = ys.size := by simp
      rw [List.size_toArray] at hvl
      omega
    have yitem : ∀ (i : Nat) (v : Value), ys[i]? = some v → ∃ t, v = .int (onesV bs i) t := fun i v e => by
      have hi : i < ys.size := (Array.getElem?_eq_some_iff.mp e).1
      have hiv : i < vs.length := by rw [hvl, List.size_toArray, hlen, ← ylen]; exact hi
      obtain ⟨y, e2, b, t, e3, e4⟩ := paired_get hF (List.getElem?_eq_getElem hiv)
      have e5 : ys.toList[i]? = some v := by simpa using e
      rw [e5] at e2
      cases e2
      obtain ⟨b', e6, e7⟩ := item i _ (hvP i _ (List.getElem?_eq_getElem hiv))
      rw [e7] at e3
      cases e3
      refine ⟨t, ?_⟩
      rw [e4]
      unfold onesV
      rw [e6]
      cases b <;> rfl
    refine call_sum_walkG (wpAny_pyIter_list hlD ?_)
    refine ⟨h'.objs.size, _, _, _, _, _, onesV bs, rfl, walks_hot (A := X.A.in1) (ox := p.2) hh dx cx _ D (Nat.ne_of_lt lD) (Nat.ne_of_lt (Heap.lt_size hx2)) ys, ⟨⟨_, Heap.get?_push_size _ rfl, rfl, rfl⟩, hlD.push _, Heap.get?_push_of_some _ hx2⟩, fun b hb => ?_, yitem, fun h'' tk'' t'' hk'' => ?_⟩
    · show b < (h'.push _).objs.size
      rw [Heap.size_push]
      simp only [List.mem_cons, List.not_mem_nil, or_false] at hb
      rcases hb with rfl | rfl | rfl
      · exact Nat.lt_succ_self _
      · exact Nat.lt_succ_of_lt lD
      · exact Nat.lt_succ_of_lt (Heap.lt_size hx2)
    · refine ⟨.int (preSum (onesV bs) bs.length), H1, ?_, ⟨t'', by rw [ylen]⟩, q⟩
      exact I1.kept (t' := tk'') fun b o e => hk'' b o (fun z => by rw [List.mem_singleton.mp z] at e; exact absurd (Heap.lt_size (hold _ _ e)) (Nat.lt_irrefl _)) (Heap.get?_push_of_some _ (hold _ _ e))
end Mi
namespace Mi
open PySem PySem.Spec L2 PyProof.Rows
theorem ones_app : ∀ (bs : List Bool) (b : Bool), onesB (bs ++ [b]) = onesB bs + if b then 1 else 0
  | [], b => by simp [onesB]
  | c :: bs, b => by simp only [List.cons_append, onesB, ones_app bs b]; omega
theorem ones_take (bs : List Bool) : ∀ n, n ≤ bs.length → preSum (onesV bs) n = onesB (bs.take n)
  | 0, _ => rfl
  | n + 1, h => by
    have hi : bs[n]? = some bs[n] := List.getElem?_eq_getElem h
    rw [preSum, ones_take bs n (by omega), List.take_add_one, hi]
    show _ = onesB (bs.take n ++ [bs[n]])
    rw [ones_app]
    unfold onesV
    rw [hi]
    cases bs[n] <;> rfl
theorem ones_all (bs : List Bool) : preSum (onesV bs) bs.length = onesB bs := by rw [ones_take bs _ (Nat.le_refl _), List.take_length]
section
variable {P : Pg} {cl : Cl} {k : Nat} {X : Cx} {W : WX} {o : Ko} {a : E} {ea : Expr}
theorem bls_rd {m : Sm} : ∀ {bs : List Bool} {vs : List V}, RDs m (bs.map Val.bl) vs → vs = bs.map V.bl
  | [], _, .nil => rfl
  | b :: bs, _, .cons h r => by
    cases h
    rw [bls_rd r]
    rfl
theorem e_sumInts {x : Str} {scope : Scope} {p0 p1 p2 p3 p4 p5 pos : Pos} (xo : XO P cl X k o W) (hot : o.hot = true) (hgs : Gl X (Str.ofString "sum")) (ss : SumSc scope x) (hxd : (x == ("__debug__" : Str)) = false) (ha : PE X ea (tE P cl k X W a)) (hf : ∀ z, foldedSetIterable ea X.env z = pure z) :
    PE X (.Call (.Name (Str.ofString "sum") p0) [.ListComp (.Call (.Name (Str.ofString "int") p1) [.Name x p2] [] p3) [⟨.Name x p4, ea, [], 0⟩] scope p5] [] pos) (tE P cl k X W (.vi .sumInts (.cons a .nil))) := by
  have hc : L2H.HotC X := by
    obtain ⟨q, c, h1, h2, _⟩ := xo.zx hot
    exact ⟨q, h1, h2⟩
  refine PE.imp (PE.kf (pe_sumInts hc hgs (xo.ln.bi "sum" (by decide)) (xo.ln.bi "int" (by decide)) ss hxd ha hf)) fun σ H Q ⟨m, env, S, hK, eH, hS, hV, h⟩ => by
    subst eH
    simp only [wE, wEs] at h
    refine tE_of hK hS hV (Ev.refl m) h fun m1 x S1 v e1 hS1 r1 hV1 h1 => ?_
    cases r1 with
    | @ref n q hq =>
      obtain ⟨bs, hb, h1⟩ := h1
      obtain ⟨vs, h2, h3⟩ := hS1.lst hb hq
      rw [bls_rd h3, e1.k, hK] at h2
      refine ⟨q, bs, rfl, h2, fun kf => ?_⟩
      rw [ones_all]
      exact h1 m1 (.int (onesB bs)) e1 hS1 (.int _)
    | _ => exact h1.elim
end
end Mi
/-! dict(xs), xs an empty list -/
namespace Mi
open PySem PySem.Spec L2 PyProof.Rows
def tDictL (K : PySem.W.Frag) (te : TE) : TE := fun σ H Q => te σ H fun v H1 => ∃ a : Addr, v = .ref a ∧ SqL K H1 a [] ∧ ∀ q, H1 q = none → Q (.ref q) (upd H1 q (.dK []))
theorem pe_dictL {X : Cx} {e : Expr} {te : TE} {p pos : Pos} (hc : X.calm = true) (hg : Gl X "dict") (hm : X.mg "dict" = none) (he : PE X e te) (hs : starEach [e] X.env = (false, eval e X.env) :: starEach [] X.env) :
    PE X (.Call (.Name "dict" p) [e] [] pos) (tDictL X.K te) := by
  refine ⟨fun pins s σ H Q I h => ?_⟩
  refine Call_ (ld_blt I hg hm PyProof.Rows.boot_dict (PyProof.Rows.callWith_type1 (args_cons (thn (he.run pins s σ H _ I h) fun u z ⟨v, H1, I1, r1, q1⟩ => args_nil ?_) hs) hs rfl))
  obtain ⟨a, ev, hq, q⟩ := q1
  subst ev
  obtain rfl : u = Value.ref a := r1
  obtain ⟨its, rv, pl, hz⟩ := I1.list hq
  cases rv
  obtain ⟨o, n, ho, hcl, hdc, hdt⟩ := pl
  refine call_dict_pairs (knd := mixKind X.prog X.w) (kvs := []) (PairArg.list a #[] (fun _ => 0) []) (I1.ok.hd hc) ⟨⟨o, n, ho, hcl, hdc, hdt⟩, rfl, fun j k v hj => by simp at hj⟩ ⟨rfl, fun i key v hr => by simp [PairRel] at hr⟩ (by simp) fun h' tk hD kp => ?_
  have hsys : (z.heap.objs.size == sysModules) = false := beq_eq_false_iff_ne.mpr (Ne.symm (Nat.ne_of_lt I1.big))
  exact ⟨.ref z.heap.objs.size, _, I1.laid (t' := tk) (o := .dK []) (fun b o e => kp b o (by simp) e) (Nat.le_refl _) (dk_new (Nat.zero_le _) hsys .nil hD), rfl, q _ (I1.hok.fresh (Nat.le_refl _))⟩
section
variable {P : Pg} {cl : Cl} {k : Nat} {X : Cx} {W : WX} {o : Ko} {a : E} {ea : Expr}
theorem e_dictL {p pos : Pos} (xo : XO P cl X k o W) (hc : (!o.hot) = true) (hg : Gl X (Str.ofString "dict")) (hs : notStar ea = true) (ha : PE X ea (tE P cl k X W a)) :
    PE X (.Call (.Name (Str.ofString "dict") p) [ea] [] pos) (tE P cl k X W (.vi .dictL (.cons a .nil))) :=
  PE.imp (PE.kf (pe_dictL (xo.calm hc) hg (xo.ln.bi "dict" (by decide)) ha (star_cons hs))) fun σ H Q ⟨m, env, S, hK, eH, hS, hV, h⟩ => by
    subst eH
    simp only [wE, wEs] at h
    refine tE_of hK hS hV (Ev.refl m) h fun m1 x S1 v e1 hS1 r1 hV1 h1 => ?_
    cases r1 with
    | @ref n q hq =>
      obtain ⟨hb, h1⟩ := h1
      obtain ⟨vs, h2, h3⟩ := hS1.lst hb hq
      cases h3
      rw [e1.k, hK] at h2
      exact ⟨q, rfl, h2, fun p hp kf => mk_dic hS1 .nil hp (by rw [e1.k, hK]; exact kf) (liftQ.ev e1 (fun _ _ _ q => q) h1)⟩
    | _ => exact h1.elim
end
end Mi

set_option maxHeartbeats 4000000
namespace Mi
open PySem PySem.Spec L2 PyProof.Rows
section
variable {cl : Cl} {m m0 : Sm} {S : Hm} {D : Addr} {ob : Ob}
theorem up_em : Up m { m with em := m.em ++ [D] } := ⟨fun _ _ h => h, ⟨[D], rfl⟩, fun _ h => h⟩
/-- an object that stood outside comes in -/
theorem SH.adopt (h : SH cl m S) (hD : D ∉ m.em) (r : RO cl m D ob) : SH cl { m with em := m.em ++ [D] } (S ++ [ob]) := by
  refine ⟨by simp [h.len], ?_, h.kf, fun n u a e1 e2 => ?_, h.z⟩
  · show (m.em ++ [D]).Nodup
    rw [List.nodup_append]
    refine ⟨h.nd, by simp, fun x hx y hy => ?_⟩
    have : y = D := by simpa using hy
    rw [this]
    exact fun z => hD (z ▸ hx)
  · have e2 : (m.em ++ [D])[n]? = some a := e2
    by_cases hn : n < S.length
    · rw [List.getElem?_append_left hn] at e1
      rw [List.getElem?_append_left (by rw [h.len]; exact hn)] at e2
      exact (h.ob n u a e1 e2).up up_em rfl rfl
    · have hn2 : n = S.length := by
        have := (List.getElem?_eq_some_iff.mp e1).1
        simp at this
        omega
      subst hn2
      rw [List.getElem?_append_right (Nat.le_refl _)] at e1
      rw [← h.len, List.getElem?_append_right (Nat.le_refl _)] at e2
      simp at e1 e2
      subst e1 e2
      exact r.up up_em rfl rfl
theorem Ev.adopt (e : Ev m0 m) (hD : m0.H D = none) : Ev m0 { m with em := m.em ++ [D] } := by
  obtain ⟨l, hl⟩ := e.em
  refine ⟨e.k, e.z, ⟨l ++ [D], ?_⟩, e.keep, fun b hb nb => ?_, e.frz⟩
  · show m.em ++ [D] = m0.em ++ (l ++ [D])
    rw [hl, List.append_assoc]
  · rcases List.mem_append.mp hb with z | z
    · exact e.new b z nb
    · have : b = D := by simpa using z
      rw [this]; exact hD
/-- a list outside is changed -/
theorem up_poke {ws ws' : List V} (hl : m.H D = some (.lst ws)) : Up m { m with H := L2.upd m.H D (.lst ws') } := by
  refine ⟨fun a xs h => ?_, ⟨[], by simp⟩, fun _ h => h⟩
  rcases h with (h | ⟨o, h⟩) | h
  · have : a ≠ D := fun z => by rw [z, hl] at h; cases h
    exact .inl (.inl (by show upd m.H D _ a = _; rw [upd_ne this]; exact h))
  · have : a ≠ D := fun z => by rw [z, hl] at h; cases h
    exact .inl (.inr ⟨o, by show upd m.H D _ a = _; rw [upd_ne this]; exact h⟩)
  · exact .inr h
theorem SH.poke {ws ws' : List V} (h : SH cl m S) (hD : D ∉ m.em) (hl : m.H D = some (.lst ws)) : SH cl { m with H := L2.upd m.H D (.lst ws') } S := by
  refine ⟨h.len, h.nd, fun b o e => ?_, fun n o a e1 e2 => ?_, h.z⟩
  · show upd m.H D _ b = none
    have hb := h.kf b o e
    rw [upd_ne (fun z => by rw [z, hl] at hb; cases hb)]
    exact hb
  · exact (h.ob n o a e1 e2).up (up_poke hl) rfl (upd_ne fun z => hD (z ▸ List.mem_of_getElem? e2))
theorem Ev.poke {o : HO} (e : Ev m0 m) (hD : m0.H D = none) : Ev m0 { m with H := L2.upd m.H D o } :=
  ⟨e.k, e.z, e.em, fun b u h nb => by show upd m.H D o b = _; rw [upd_ne (ne_of_none h hD)]; exact e.keep b u h nb, e.new, fun b q u h => by show L2.upd m.H D o b = _; rw [upd_ne (ne_of_none h hD)]; exact e.frz b q u h⟩
theorem Ev.out {u : HO} {m' : Sm} (e : Ev m m') (hl : m.H D = some u) (hD : D ∉ m.em) : m'.H D = some u ∧ D ∉ m'.em :=
  ⟨e.keep D _ hl hD, fun z => by
    have := e.new D z hD
    rw [hl] at this
    cases this⟩
end
section
variable {P : Pg} {cl : Cl} {k : Nat} {X : Cx} {W : WX} {sc : Ko}
abbrev noW : WX := fun _ _ _ _ => False
theorem lcLoop_guard {turn : Val → Hm → (Option Val → Hm → Prop) → Prop} {g : Hm → Prop} {vs acc : List Val} {S : Hm} {Q : List Val → Hm → Prop} (h : lcLoop turn g vs acc S Q) : g S := by
  cases vs <;> exact h.1
/-- one turn of a comprehension -/
def lcTurn (P : Pg) (k : Nat) (X0 : XPost) (elt : E) (tgt : Tg) (cond : Ot) (env : Env) (vs : List Nat) : Val → Hm → (Option Val → Hm → Prop) → Prop :=
  fun v S K => tgW tgt v (ewipe env vs) fun env2 => wC P.con (callW P k) X0 cond env2 S fun b S2 => if b = true then wE P.con (callW P k) X0 elt env2 S2 fun x S3 => K (some x) S3 else K none S2
/-- the new list stands at D, i items are through -/
def LW (cl : Cl) (X : Cx) (m1 : Sm) (turn : Val → Hm → (Option Val → Hm → Prop) → Prop) (g : Hm → Prop) (items : List Val) (Q1 : List Val → Hm → Prop) (D : Addr) (i : Nat) (H : Hp) : Prop :=
  ∃ m S acc ws, m.K = X.K ∧ m.H = H ∧ Ev m1 m ∧ SH cl m S ∧ D ∉ m.em ∧ H D = some (.lst ws) ∧ RDs m acc ws ∧ lcLoop turn g (items.drop i) acc S Q1
theorem lc_run {elt : E} {tgt : Tg} {src : Src} {cond : Ot} {own : List (String × Nat)} {σ : L2.St} {m : Sm} {env : Env} {S : Hm} {Q : VK} (hK : m.K = X.K) (hS : SH cl m S) (hV : SV m env σ) (hslots : ∀ i ∈ tgt.slots, i ∈ own.map (·.2)) (hQ : ∀ v S', Q1 v S' → ∀ m' x, Ev m m' → SH cl m' S' → RD m' v x → Q x m'.H)
    (h : wE P.con (callW P k) (liftX cl X.mg m fun c d H => W c d σ H) (.lc elt tgt src cond own) env S Q1) :
    tLc (tSrc P cl k X W src) (fun v σ H Q => KF X.K H → tG X.K tgt v σ H Q) (tCs P cl k X (atS W σ) cond) (tE P cl k X (atS W σ) elt) (own.map (·.2)) σ m.H (fun x H' => KF X.K H' → Q x H') := by
  simp only [wE] at h
  refine tSrc_of hK hS hV (Ev.refl m) h fun m1 J S1 items g e1 hS1 ok hV1 h1 => ?_
  intro D hD
  have hK1 := e1.k.trans hK
  -- the invariant
  let turn := lcTurn P k (liftX cl X.mg m fun c d H => W c d σ H) elt tgt cond env (own.map (·.2))
  let Q2 : List Val → Hm → Prop := fun acc S2 => Q1 (.ref S2.length) (S2 ++ [.lst acc])
  have h1 : lcLoop turn g items [] S1 Q2 := h1
  have adv : ∀ i H, i ≤ items.length → LW cl X m1 turn g items Q2 D i H → (i < items.length → J.go i H) ∧ (i = items.length → J.stop i H) := by
    rintro i H hi ⟨m2, S2, acc, ws, hK2, rfl, e2, hS2, nD, hDl, ra, hl⟩
    have hg := lcLoop_guard hl
    exact ⟨fun hlt => ok.go i m2 S2 items[i] e2 hS2 hg (List.getElem?_eq_getElem hlt), fun he => ok.stop i m2 S2 e2 hS2 hg (by omega)⟩
  refine ⟨fun i μ H => μ = items.length - i ∧ i ≤ items.length ∧ (i < items.length → J.go i H) ∧ (i = items.length → J.stop i H) ∧ (KF X.K H → LW cl X m1 turn g items Q2 D i H), ⟨items.length, by simp, Nat.zero_le _, fun hlt => ?_, fun he => ?_, fun kf => ?_⟩, ?_⟩
  · exact ok.go0 D _ items[0] hD (List.getElem?_eq_getElem hlt)
  · exact ok.stop0 D _ hD (by omega)
  · rw [← hK1] at kf
    have e2 : Ev m1 { m1 with H := upd m1.H D (.lst []) } := Ev.outside hD
    exact ⟨{ m1 with H := upd m1.H D (.lst []) }, S1, [], [], hK1, rfl, e2, hS1.outside hD kf, hS1.free hD (kf_free kf (upd_same (H := m1.H) (a := D))), upd_same, .nil, h1⟩
  · rintro i μ H ⟨rfl, hi, hgo, hstop, lw⟩
    by_cases he : i = items.length
    · refine .inl ⟨hstop he, fun kf => ?_⟩
      obtain ⟨m2, S2, acc, ws, hK2, rfl, e2, hS2, nD, hDl, ra, hl⟩ := lw kf
      rw [List.drop_eq_nil_of_le (by omega)] at hl
      obtain ⟨_, hl⟩ := hl
      have e3 := (e1.trans (e2.adopt hD))
      refine hQ _ _ hl { m2 with em := m2.em ++ [D] } (.ref D) e3 (hS2.adopt nD ⟨ws, hDl, ra⟩) (.ref ?_)
      show (m2.em ++ [D])[S2.length]? = some D
      rw [← hS2.len]
      simp
    · have hlt : i < items.length := by omega
      refine .inr ⟨hgo hlt, LW cl X m1 turn g items Q2 D (i + 1), fun H' lw' => ?_, fun x H' y => ?_⟩
      · obtain ⟨a1, a2⟩ := adv (i + 1) H' (by omega) lw'
        exact ⟨items.length - (i + 1), by omega, rfl, by omega, a1, a2, fun _ => lw'⟩
      · intro kf'
        have kf := ok.kfb i H x H' y (by rw [hK1]; exact kf')
        rw [hK1] at kf
        obtain ⟨m2, S2, acc, ws, hK2, rfl, e2, hS2, nD, hDl, ra, hl⟩ := lw kf
        rw [List.drop_eq_getElem_cons hlt] at hl
        obtain ⟨hg, hl⟩ := hl
        obtain ⟨m3, rfl, e3, hS3, rv⟩ := ok.yld i m2 S2 items[i] x H' e2 hS2 hg (List.getElem?_eq_getElem hlt) y (by rw [hK2]; exact kf')
        have e23 := e2.trans e3
        obtain ⟨hDl3, nD3⟩ := e3.out hDl nD
        have hV3 := ((hV1.up (e23.up hS1)).wipe (own.map (·.2)))
        refine tG_of (e23.k.trans hK1) rv hV3 hl fun env2 xs ht hV4 => ⟨wipe_setN (fun i hi => hslots i hi) wipe_wipe, ?_⟩
        refine ⟨m3, env2, S2, e23.k.trans hK1, rfl, hS3, hV4, wC_mono (callW_mono P k) (fun _ _ h => liftX.ev (e1.trans e23) h) cond (fun b S4 h4 m4 e4 hS4 => ?_) ht⟩
        obtain ⟨hDl4, nD4⟩ := e4.out hDl3 nD3
        have e24 := e23.trans e4
        cases b with
        | false =>
          simp only [Bool.false_eq_true, if_false] at h4 ⊢
          exact ⟨m4, S4, acc, ws, e24.k.trans hK1, rfl, e24, hS4, nD4, hDl4, ra.up ((e3.trans e4).up hS2), h4⟩
        | true =>
          simp only [if_true] at h4 ⊢
          refine ⟨m4, env2, S4, e24.k.trans hK1, rfl, hS4, hV4.up (e4.up hS3), wE_mono (callW_mono P k) (fun _ _ h => liftX.ev (e1.trans e24) h) elt (fun v S5 h5 m5 x5 e5 hS5 r5 => ?_) h4⟩
          obtain ⟨hDl5, nD5⟩ := e5.out hDl4 nD4
          have e25 := e24.trans e5
          have ra5 := ra.up (((e3.trans e4).trans e5).up hS2)
          have u6 := up_poke (ws' := ws ++ [x5]) hDl5
          refine ⟨ws, hDl5, by rw [← ra5.length]; exact h5.1, { m5 with H := upd m5.H D (.lst (ws ++ [x5])) }, S5, acc ++ [v], ws ++ [x5], e25.k.trans hK1, rfl, e25.poke hD, hS5.poke nD5 hDl5, nD5, upd_same, ra5.append (.cons r5 .nil) |>.up u6, h5.2⟩
theorem PTs.imp {e : List Expr} {t t' : TT} (h : PTs X e t) (f : ∀ σ H Q, t' σ H Q → t σ H Q) : PTs X e t' := ⟨fun pins s σ H Q I hw => h.run pins s σ H Q I (f _ _ _ hw)⟩
theorem c_none : PTs X [] (tCs P cl k X W .none) :=
  PTs.imp pts_nil fun σ H Q ⟨m, env, S, hK, eH, hS, hV, h⟩ => by
    subst eH
    simp only [wC] at h
    exact h m (Ev.refl m) hS
theorem c_some {t : T} {e : Expr} (h : PT X e (tTs P cl k X W t)) : PTs X [e] (tCs P cl k X W (.some t)) :=
  PTs.imp (pts_one h) fun σ H Q ⟨m, env, S, hK, eH, hS, hV, h⟩ => ⟨m, env, S, hK, eH, hS, hV, by simpa only [wC] using h⟩
structure LcOk (P : Pg) (cl : Cl) (k : Nat) (X : Cx) (W : WX) (elt : E) (tgt : Tg) (cond : Ot) (own : List (String × Nat)) (eelt tg : Expr) (ifs : List Expr) (scope : Scope) : Prop where
  ok : BlkOk X.N X.env.scope scope (own.map fun p => (Str.ofString p.1, p.2))
  sl : ∀ i ∈ tgt.slots, i ∈ own.map (·.2)
  tg : ∀ σ s H C c fp, TgOk (Cx.blkE X W σ s H scope (compEnvC scope c C X.env) fp) tgt tg
  cd : ∀ σ s H C c fp, PTs (Cx.blkE X W σ s H scope (compEnvC scope c C X.env) fp) ifs (tCs P cl k X (atS W σ) cond)
  el : ∀ σ s H C c fp, PE (Cx.blkE X W σ s H scope (compEnvC scope c C X.env) fp) eelt (tE P cl k X (atS W σ) elt)
variable {elt : E} {tgt : Tg} {src : Src} {cond : Ot} {own : List (String × Nat)} {eelt tg iter : Expr} {ifs : List Expr} {scope : Scope} {pos : Pos}
theorem own_snd : (own.map fun p => (Str.ofString p.1, p.2)).map (·.2) = own.map (·.2) := by rw [List.map_map]; rfl
theorem LcOk.pg (xo : XO P cl X k sc W) (hc : (!sc.hot) = true) (L : LcOk P cl k X W elt tgt cond own eelt tg ifs scope) (σ : L2.St) (s : Shared) (H : Hp) (C : Addr) (c : List (Str × Addr)) (fp : List Addr) : PG (Cx.blkE X W σ s H scope (compEnvC scope c C X.env) fp) tg (fun v σ H Q => KF X.K H → tG X.K tgt v σ H Q) :=
  PG.pre (X := Cx.blkE X W σ s H scope (compEnvC scope c C X.env) fp) ((L.tg σ s H C c fp).pg xo.nd (xo.calm hc))
theorem e_lc (xo : XO P cl X k sc W) (hc : (!sc.hot) = true) (hsrc : PI X tg iter (tSrc P cl k X W src)) (hfold : ∀ x, foldedSetIterable iter X.env x = pure x) (L : LcOk P cl k X W elt tgt cond own eelt tg ifs scope) :
    PE X (.ListComp eelt [⟨tg, iter, ifs, 0⟩] scope pos) (tE P cl k X W (.lc elt tgt src cond own)) :=
  PE.imp (PE.kf (peE_lc (xo.calm hc) xo.nd xo.fr xo.tk hsrc L.ok (L.pg xo hc) L.cd L.el hfold)) fun σ H Q ⟨m, env, S, hK, eH, hS, hV, h⟩ => by
    subst eH
    rw [own_snd]
    exact lc_run hK hS hV L.sl (fun v S' h m' x e hS' r => h m' x e hS' r) h
/-- a dict is locked while an expression runs -/
theorem lock_sh {cl : Cl} {m : Sm} {S : Hm} {n : Nat} {a : Addr} {kvs : List (Key × Val)} {ws : List (L2.Key × V)} {od : Obj} (hS : SH cl m S) (ha : m.em[n]? = some a) (h : m.H a = some (.dK ws)) (r : RKs m kvs ws) :
    Ev m { m with H := upd m.H a (.frz od (.dK ws)) } ∧ SH cl { m with H := upd m.H a (.frz od (.dK ws)) } (S.set n (.lck (.dic kvs))) :=
  have e : Ev m { m with H := upd m.H a (.frz od (.dK ws)) } := Ev.write ha h
  ⟨e, hS.write ha h ⟨od, ws, upd_same, r.up (e.up hS)⟩⟩
theorem unlock_sh {cl : Cl} {m m2 : Sm} {S2 : Hm} {n : Nat} {a : Addr} {kvs : List (Key × Val)} {ws : List (L2.Key × V)} {od : Obj} (ha : m.em[n]? = some a) (h : m.H a = some (.dK ws)) (e : Ev { m with H := upd m.H a (.frz od (.dK ws)) } m2) (hS2 : SH cl m2 S2) (h2 : S2[n]? = some (.lck (.dic kvs))) :
    m2.H a = some (.frz od (.dK ws)) ∧ Up m2 { m2 with H := upd m2.H a (.dK ws) } ∧ Ev m { m2 with H := upd m2.H a (.dK ws) } ∧ SH cl { m2 with H := upd m2.H a (.dK ws) } (S2.set n (.dic kvs)) := by
  obtain ⟨h3, r⟩ := frz_at (m0 := { m with H := upd m.H a (.frz od (.dK ws)) }) ha (show (({ m with H := upd m.H a (.frz od (.dK ws)) } : Sm).H a) = _ from upd_same) e hS2 h2
  have e1 : Ev m { m with H := upd m.H a (.frz od (.dK ws)) } := Ev.write ha h
  have ha2 := em_get e.em ha
  exact ⟨h3, hS2.upw ha2, (e1.trans e).put ha (fun q u z => by rw [h] at z; cases z), hS2.write ha2 h3 ⟨ws, upd_same, r.up (hS2.upw ha2)⟩⟩
theorem e_lck {i : Nat} {e : E} {ex : Expr} (he : PE X ex (tE P cl k X W e)) : PE X ex (tE P cl k X W (.lck i e)) :=
  PE.imp (pe_lock he) fun σ H Q ⟨m, env, S, hK, eH, hS, hV, h⟩ => by
    subst eH
    simp only [wE] at h
    obtain ⟨n, kvs, h1, h2, h3⟩ := h
    obtain ⟨v, hv, rv⟩ := hV.get h1
    cases rv with
    | @ref _ a ha =>
    obtain ⟨ws, h4, r⟩ := hS.ob n _ a h2 ha
    refine ⟨a, _, h4, trivial, fun od => ?_⟩
    obtain ⟨e1, hS1⟩ := lock_sh (od := od) hS ha h4 r
    refine tE_of (m0 := m) (m := { m with H := upd m.H a (.frz od (.dK ws)) }) hK hS1 (hV.up (e1.up hS)) e1 h3 fun m2 x S2 v e2 hS2 r2 hV2 h5 => ?_
    obtain ⟨h6, up, e3, hS3⟩ := unlock_sh ha h4 e2 hS2 h5.1
    exact ⟨h6, h5.2 _ x e3 hS3 (r2.up up)⟩
end
end Mi

set_option maxHeartbeats 4000000
/-! MiT: list(reversed(x)). -/
namespace Mi
open PySem PySem.Spec L2 PyProof.Rows
section
variable {prog : Program} {w : World} {A : Around} {E : Value → Shared → Prop} {s : Shared} {T : String} {r : Addr} {fp : List Addr} {n : Nat} {P : Nat → Value → Prop} {St : Nat → Heap → Prop}
/-- an iterator that is its own iter -/
structure OwnW (prog : Program) (w : World) (T : String) (r : Addr) (fp : List Addr) (n : Nat) (P : Nat → Value → Prop) (St : Nat → Heap → Prop) : Prop where
  W : ∀ A : Around, A.handled = none → Walks prog w A r fp [r] n P St
  ty : ∀ s : Shared, St 0 s.heap → s.TypeIs (.ref r) T
  nl : (Value.type T == Value.type "list") = false
  nt : (Value.type T == Value.type "tuple") = false
  hint : ∀ (A : Around) (E : Value → Shared → Prop) (s : Shared) (Q : Bool → Shared → Prop), St 0 s.heap → (∀ b tk, Q b { s with toks := tk }) → wpAny (model prog w) A (Builtin.List.listLengthHint (.ref r)) Q E s
  rf : r ∈ fp
theorem own_ext {R : Result → Shared → Prop} (K : OwnW prog w T r fp n P St) (hh : A.handled = none) (hst : St 0 s.heap) (L : Addr) (hL : L ∉ fp) (res : Value) (c₀ : Nat) (h0 : s.heap.get? L = some { cls := .type "list", data := .seq #[] c₀ }) (hn : n ≤ sizeLine)
    (hR : ∀ h' tk acc c, (∀ b o, b ≠ L → b ≠ r → s.heap.get? b = some o → h'.get? b = some o) → h'.get? L = some { cls := .type "list", dict := none, data := .seq acc c, slots := #[] } → ItemsOf P acc n → R (.ok (.ret res)) { s with heap := h', toks := tk }) :
    wpAny (model prog w) A.in1 (Builtin.List.listExtendWith (.ref L) (.ref r) res)
      (fun fin s' => match fin with | .done f => R (.ok f) s' | .again c' => c'.quiet = true ∧ codeAny (model prog w) A c' R s') (fun e s' => R (.error e) s') s := by
  have hLr : L ≠ r := fun e => hL (e ▸ K.rf)
  have go : ∀ (h : Heap) (c tk0 : Nat), St 0 h → (∀ b o, b ≠ L → s.heap.get? b = some o → h.get? b = some o) →
      h.get? L = some { cls := .type "list", data := .seq #[] c } → codeAny (model prog w) A (.builtin "list.extend.loop" ⟨[.ref L, .ref r, res], []⟩) R { s with heap := h, toks := tk0 } := by
    intro h c tk0 st kp e0
    refine codeAny_extend_loopS (K.W A.in1 hh).toS hn L hL res n 0 _ #[] c rfl (Nat.zero_le _) st e0 (ItemsOf.nil _) fun z accz cz mz ez iz => ?_
    rw [Moved.eq_with mz]
    refine hR z.heap z.toks accz cz (fun b o n1 n2 e => mz.heap b o (fun hm => ?_) (kp b o n1 e)) ez iz
    rcases List.mem_cons.mp hm with x | x
    · exact n1 x
    · exact n2 (List.mem_singleton.mp x)
  unfold Builtin.List.listExtendWith
  refine wpAny_bind (wpAny_typeOf (T := T) (K.ty s hst) ?_)
  have q1 : Builtin.List.listSameRef (.ref L) (.ref r) = false := by simp [Builtin.List.listSameRef, hLr]
  simp only [q1, K.nl, K.nt, Bool.or_false, Bool.false_eq_true, if_false]
  refine wpAny_bind ((K.W A.in1 hh).self 0 _ _ _ hst ?_)
  refine wpAny_bind (wpAny_holding (K.hint _ _ _ _ hst fun b tk => ?_))
  refine wpAny_ite_split (fun _ => ?_) (fun _ => wpAny_pure ⟨plainId_quiet PySem.F.plain_extend_loop _, go s.heap c₀ tk hst (fun _ _ _ e => e) h0⟩)
  refine wpAny_bind (wpAny_rule (wpAny_bind ?_))
  show wpAny _ _ (updateSeq L (·.push .none) >>= fun _ => updateSeq L (·.pop)) _ _ _
  refine wpAny_bind (wpAny_updateSeq h0 rfl ?_)
  have u1 := Heap.get?_update_self (Obj.mapSeq (·.push Value.none)) h0 rfl
  refine wpAny_updateSeq (hz := by seq_fits) u1 rfl ?_
  have u2 := Heap.get?_update_self (Obj.mapSeq (·.pop)) u1 rfl
  have oth : ∀ b o, b ≠ L → s.heap.get? b = some o → ((s.heap.update L (Obj.mapSeq (·.push Value.none))).update L (Obj.mapSeq (·.pop))).get? b = some o :=
    fun b o hb e => (Heap.get?_update_other _ _ (Ne.symm hb)).trans ((Heap.get?_update_other _ _ (Ne.symm hb)).trans e)
  exact wpAny_pure ⟨plainId_quiet PySem.F.plain_extend_loop _, go _ _ _ ((K.W A hh).frame 0 _ _ hst fun b hb o e => oth b o (fun z => hL (z ▸ hb)) e) oth u2⟩
/-- list(it) -/
theorem call_list_self {Q : Value → Shared → Prop} (K : OwnW prog w T r fp n P St) (hh : A.handled = none) (hst : St 0 s.heap) (hfp : ∀ b ∈ fp, b < s.heap.objs.size) (hn : n ≤ sizeLine)
    (hQ : ∀ h' tk acc c, (∀ b o, b ≠ r → s.heap.get? b = some o → h'.get? b = some o) → h'.get? s.heap.objs.size = some { cls := .type "list", dict := none, data := .seq acc c, slots := #[] } → ItemsOf P acc n → Q (.ref s.heap.objs.size) { s with heap := h', toks := tk }) :
    wpAny (model prog w) A (call (.type "list") [.ref r]) Q E s := by
  have hL : s.heap.objs.size ∉ fp := fun hm => Nat.lt_irrefl _ (hfp _ hm)
  refine callType_codes (Q₁ := fun obj z => obj = .ref s.heap.objs.size ∧ z = { s with heap := s.heap.push { cls := .type "list", data := .seq #[] } }) PySem.F.called_list (PySem.F.typeCall_list_1 _) PySem.F.entry_list_init (code_list_new _ ⟨rfl, rfl⟩) fun obj z hz => ?_
  obtain ⟨rfl, rfl⟩ := hz
  have e0 : (s.heap.push { cls := .type "list", data := .seq #[] }).get? s.heap.objs.size = some { cls := .type "list", data := .seq #[] } := Heap.get?_push_size _ rfl
  have st1 : St 0 (s.heap.push { cls := .type "list", data := .seq #[] }) := (K.W A hh).frame 0 _ _ hst fun b _ o e => Heap.get?_push_of_some _ e
  refine ⟨⟨_, e0, rfl⟩, PySem.F.args_list_init_2 _ _, ?_⟩
  show wpAny _ _ (do let old ← Builtin.List.listItems (.ref s.heap.objs.size); Builtin.List.listUpdate (.ref s.heap.objs.size) (fun _ => #[]); letGo old.toList.reverse; Builtin.List.listExtendWith (.ref s.heap.objs.size) (.ref r) .none) _ _ _
  refine wpAny_bind ?_
  unfold Builtin.List.listItems
  refine wpAny_bind (wpAny_seqItems e0 rfl (wpAny_pure ?_))
  show wpAny _ _ (updateSeq s.heap.objs.size (fun _ => #[]) >>= fun _ => letGo (#[] : Array Value).toList.reverse >>= fun _ => Builtin.List.listExtendWith (.ref s.heap.objs.size) (.ref r) .none) _ _ _
  refine wpAny_bind (wpAny_updateSeq e0 rfl ?_)
  have u1 := Heap.get?_update_self (Obj.mapSeq (fun _ => (#[] : Array Value))) e0 rfl
  have oth : ∀ b o, b ≠ s.heap.objs.size → (s.heap.push { cls := .type "list", data := .seq #[] }).get? b = some o → ((s.heap.push { cls := .type "list", data := .seq #[] }).update s.heap.objs.size (Obj.mapSeq (fun _ => (#[] : Array Value)))).get? b = some o :=
    fun b o hb e => (Heap.get?_update_other _ _ (Ne.symm hb)).trans e
  refine wpAny_bind (wpAny_letGo ?_)
  refine own_ext (A := A.in1) K hh ((K.W A hh).frame 0 _ _ st1 fun b hb o e => oth b o (fun z => hL (z ▸ hb)) e) _ hL .none _ u1 hn fun h' tk acc c kp e1 iz => ?_
  exact ⟨rfl, hQ h' tk acc c (fun b o hb e => kp b o (Nat.ne_of_lt (Heap.lt_size e)) hb (oth b o (Nat.ne_of_lt (Heap.lt_size e)) (Heap.get?_push_of_some _ e))) e1 iz⟩
end
section
open RT
variable {prog : Program} {w : World}
theorem tupAt {h h' : Heap} {t : Addr} {its : Array Value} (x : IsTup h t its) (k : ∀ o, h.get? t = some o → h'.get? t = some o) : IsTup h' t its := let ⟨o, ho, hc, hd⟩ := x; ⟨o, k o ho, hc, hd⟩
theorem slot_rt_hint : Slot "reversed" "__length_hint__" "reversed.__length_hint__" :=
  .of (owner := "reversed") (n := "__length_hint__") (by rw [typeLookup_type, builtinLookup_eq_fast]; kernel_rfl) (by decide +kernel) (by decide +kernel) (by decide +kernel) (by first | exact .inl (by decide +kernel) | exact .inr (by decide +kernel)) (by rw [isSubtype_type]; kernel_rfl)
theorem entry_rt_hint : entryFor table "reversed.__length_hint__" = some Builtin.«reversed.__length_hint__» := entryFor_of_tree (by kernel_rfl)
theorem args_rt_hint (a : Value) : argsOk "reversed.__length_hint__" ⟨[a], []⟩ := by
  unfold argsOk
  rw [signature?_of (id := "reversed.__length_hint__") (n := ['_', '_', 't', 'n', 'i', 'h', '_', 'h', 't', 'g', 'n', 'e', 'l', '_', '_']) (o := ['d', 'e', 's', 'r', 'e', 'v', 'e', 'r']) (by kernel_rfl) owner_rt]
  kernel_rfl
theorem nolen_rt : typeLookup (.type "reversed") "__len__" = pure none := by rw [typeLookup_type, builtinLookup_eq_fast]; kernel_rfl
theorem hint_rt : typeLookup (.type "reversed") "__length_hint__" = pure (some (.builtin "reversed.__length_hint__")) := by rw [typeLookup_type, builtinLookup_eq_fast]; kernel_rfl
theorem ownW_rt {t r : Addr} {its : Array Value} (hne : t ≠ r) (hz : its.size ≤ sizeLine) : OwnW prog w "reversed" r [r, t] its.size (fun i v => its[its.size - 1 - i]? = some v) (fun i h => i ≤ its.size ∧ IsRt h r t ((its.size : Int) - 1 - (i : Nat)) ∧ IsTup h t its) where
  W := fun A hh => {
    sub := fun b hb => by simp at hb; simp [hb]
    frame := fun _ _ _ x hk => ⟨x.1, x.2.1.at fun o e => hk r (by simp) o e, tupAt x.2.2 fun o e => hk t (by simp) o e⟩
    item := fun i s Q E hi x hQ => by
      have e : (its.size : Int) - 1 - (i : Int) = ((its.size - 1 - i : Nat) : Int) := by omega
      have hit := x.2.1
      rw [e] at hit
      have hx : its[its.size - 1 - i]? = some (its[its.size - 1 - i]'(by omega)) := Array.getElem?_eq_getElem (by omega)
      refine next_rt_item hit x.2.2 hx hz fun h' hit' hs' => ?_
      have e2 : ((its.size - 1 - i : Nat) : Int) - 1 = (its.size : Int) - 1 - ((i + 1 : Nat) : Int) := by omega
      rw [e2] at hit'
      exact hQ _ h' _ hx ⟨hi, hit', tupAt x.2.2 fun o eo => (hs'.2 t hne).trans eo⟩ fun b o hb eo => hs'.extBut b o (fun h => hb (by simp [h])) eo
    done := fun s Q E x hQ => by
      have e : (its.size : Int) - 1 - (its.size : Int) = -1 := by omega
      have hit := x.2.1
      rw [e] at hit
      exact next_rt_end hh hit fun h' hk => hQ h' s.toks fun b o hb eo => hk b o (fun h => hb (by simp [h])) eo
    self := fun i s Q E x hQ => iter_rt x.2.1 hQ }
  ty := fun s x => x.2.1.typeIs
  nl := by decide
  nt := by decide
  hint := fun A E s Q x hQ => by
    have hT : s.TypeIs (.ref r) "reversed" := x.2.1.typeIs
    unfold Builtin.List.listLengthHint
    refine wpAny_bind (wpAny_specialOf hT nolen_rt ?_)
    show wpAny _ A (specialOf (Value.ref r) (Str.ofString "__length_hint__") >>= _) _ _ _
    refine wpAny_bind (wpAny_specialOf hT hint_rt ?_)
    generalize hid : ("reversed.__length_hint__" : String) = id0
    wp_delta
    rw [show splitId id0 = some ("reversed", "__length_hint__") from by subst hid; decide +kernel]
    subst hid
    refine wpAny_bind (wpAny_isInstance (b := true) hT (by rw [isSubtype_type]; kernel_rfl) ?_)
    rw [if_neg (by decide)]
    dsimp only
    rw [if_neg (by decide +kernel)]
    refine wpAny_bind (wpAny_rule ?_)
    rw [slot_rt_hint.bind]
    refine wpAny_bind (wpAny_pure ?_)
    dsimp only
    obtain ⟨o, ho, hc, hd⟩ := id x.2.1
    have hln : its.size < 2 ^ 63 := by rw [sizeLine_eq] at hz; omega
    refine wpAny_bind (wpAny_attempt (wpAny_call_entry slot_rt_hint hT entry_rt_hint ?_ (args_rt_hint _)))
    unfold Builtin.«reversed.__length_hint__»
    refine wpAny_bind (wpAny_of_eq (a := Value.ref r) rfl ?_)
    refine wpAny_bind (wpAny_field ho hd (x := .ref t) rfl ?_)
    rw [if_neg (by simp)]
    dsimp only
    refine wpAny_bind (len_tuple x.2.2 (by omega) ?_)
    refine wpAny_bind (wpAny_of_eq (a := some ((its.size : Nat) : Int)) rfl ?_)
    dsimp only
    refine wpAny_bind (wpAny_field ho hd (x := rawInt (((its.size : Nat) : Int) - 1 - ((0 : Nat) : Int))) rfl ?_)
    show wpAny _ _ (if ((its.size : Nat) : Int) < (((its.size : Nat) : Int) - 1 - ((0 : Nat) : Int)) + 1 then _ else _) _ _ _
    rw [if_neg (by omega)]
    unfold retInt
    refine wpAny_bind (wpAny_mkInt (wpAny_pure ⟨_, rfl, ?_⟩))
    dsimp only
    refine wpAny_bind (wpAny_of_eq (a := some (((its.size : Nat) : Int) - 1 - ((0 : Nat) : Int) + 1)) rfl ?_)
    dsimp only
    have f1 : Builtin.List.listFitsIndex (((its.size : Nat) : Int) - 1 - ((0 : Nat) : Int) + 1) = true := by
      unfold Builtin.List.listFitsIndex
      rw [Bool.and_eq_true, decide_eq_true_eq, decide_eq_true_eq]
      omega
    have f2 : Builtin.List.listTooLong (((its.size : Nat) : Int) - 1 - ((0 : Nat) : Int) + 1).toNat = false := by
      unfold Builtin.List.listTooLong
      rw [decide_eq_false]
      omega
    rw [if_neg (by rw [f1]; decide), if_neg (by omega), if_neg (by rw [f2]; decide)]
    exact wpAny_pure (hQ _ _)
  rf := by simp
end
section
variable {X : Cx}
/-- list(reversed(x)), x a tuple: a new list -/
def tLstRev (K : PySem.W.Frag) (te : TE) : TE := fun σ H Q => te σ H fun v H1 => ∃ (a : Addr) (xs : List V), v = .ref a ∧ SqT K H1 a xs ∧ ∀ q, H1 q = none → Q (.ref q) (upd H1 q (.lst xs.reverse))
theorem pe_lstRev {e : Expr} {te : TE} {p p2 pos pos2 : Pos} (hc : X.calm = true) (hg : Gl X "list") (hm : X.mg "list" = none) (hg2 : Gl X "reversed") (hm2 : X.mg "reversed" = none) (he : PE X e te) (hs : starEach [e] X.env = (false, eval e X.env) :: starEach [] X.env) :
    PE X (.Call (.Name "list" p) [.Call (.Name "reversed" p2) [e] [] pos2] [] pos) (tLstRev X.K te) := by
  have hs2 : starEach [.Call (.Name "reversed" p2) [e] [] pos2] X.env = (false, eval (.Call (.Name "reversed" p2) [e] [] pos2) X.env) :: starEach [] X.env := by rfl
  refine ⟨fun pins s σ H Q I h => ?_⟩
  refine Call_ (ld_blt I hg hm boot_list (PyProof.Rows.callWith_type1 (args_cons (Call_ (ld_blt I hg2 hm2 PyProof.Rows.boot_reversed (PyProof.Rows.callWith_type1 (args_cons (thn (he.run pins s σ H _ I h) fun u z ⟨v, H1, I1, r1, q1⟩ => args_nil ?_) hs) hs rfl))) hs2) hs2 rfl))
  obtain ⟨a, xs, ev, hq, q⟩ := q1
  subst ev
  obtain rfl : u = Value.ref a := r1
  obtain ⟨its, rv, p', hz⟩ := I1.tuple hq
  have hsz : its.toArray.size ≤ sizeLine := by rw [List.size_toArray, ← rv.length]; exact hz
  have hn63 := line63
  have hlen := rv.length
  refine RT.call_reversed_tup p' (fun A E Q k => len_tuple p' (by simp only [List.size_toArray] <;> omega) k) (args_nil ?_)
  have k0 : ∀ b o, z.heap.get? b = some o → (z.heap.push (RT.rtObj a ((its.toArray.size : Int) - 1))).get? b = some o := fun b o e => Heap.get?_push_of_some _ e
  obtain ⟨ot, hot, _⟩ := id p'
  have hlt : a < z.heap.objs.size := Heap.lt_size hot
  have e1 : ((its.toArray.size : Nat) : Int) - 1 = (its.toArray.size : Int) - 1 - ((0 : Nat) : Int) := by omega
  have hps : (z.heap.push (RT.rtObj a ((its.toArray.size : Int) - 1))).objs.size = z.heap.objs.size + 1 := Heap.size_push ..
  refine call_list_self (s := { z with heap := z.heap.push (RT.rtObj a ((its.toArray.size : Int) - 1)), toks := z.toks + 1 + 1 }) (ownW_rt (t := a) (r := z.heap.objs.size) (Nat.ne_of_lt hlt) hsz) (I1.ok.hd hc) ⟨Nat.zero_le _, by rw [← e1]; exact ⟨_, Heap.get?_push_size _ rfl, rfl, rfl⟩, tupAt p' fun o e => k0 _ _ e⟩ (fun b hb => ?_) hsz fun h' tk acc c kp eL hi => ?_
  · show b < (z.heap.push _).objs.size
    rw [hps]
    rcases List.mem_cons.mp hb with x | x
    · rw [x]; exact Nat.lt_succ_self _
    · rw [List.mem_singleton.mp x]; exact Nat.lt_succ_of_lt hlt
  · have hkeep : ∀ b o, z.heap.get? b = some o → h'.get? b = some o := fun b o e => kp b o (Nat.ne_of_lt (Heap.lt_size e)) (k0 b o e)
    refine ⟨.ref (z.heap.push (RT.rtObj a ((its.toArray.size : Int) - 1))).objs.size, upd H1 (z.heap.push (RT.rtObj a ((its.toArray.size : Int) - 1))).objs.size (.lst xs.reverse), I1.laid (t' := tk) hkeep (by rw [hps]; exact Nat.le_succ _) (show ObjOk X.prog X.w _ _ _ (.lst xs.reverse) from ⟨by rw [List.length_reverse]; exact hz, acc.toList, c, RT.vals_rev rv hi, ?_⟩), rfl, q _ (I1.hok.fresh (by rw [hps]; exact Nat.le_succ _))⟩
    rw [Array.toArray_toList]
    exact eL
end
section
variable {P : Pg} {cl : Cl} {k : Nat} {X : Cx} {W : WX} {o : Ko} {a : E} {ea : Expr} {pos pos2 p p2 : Pos}
theorem e_listRev (xo : XO P cl X k o W) (hc : (!o.hot) = true) (hg : Gl X (Str.ofString "list")) (hg2 : Gl X (Str.ofString "reversed")) (hs : notStar ea = true) (ha : PE X ea (tE P cl k X W a)) :
    PE X (.Call (.Name (Str.ofString "list") p) [.Call (.Name (Str.ofString "reversed") p2) [ea] [] pos2] [] pos) (tE P cl k X W (.vi .listRev (.cons a .nil))) :=
  PE.imp (PE.kf (pe_lstRev (xo.calm hc) hg (xo.ln.bi "list" (by decide)) hg2 (xo.ln.bi "reversed" (by decide)) ha (star_cons hs))) fun σ H Q ⟨m, env, S, hK, eH, hS, hV, h⟩ => by
    subst eH
    simp only [wE, wEs] at h
    refine tE_of hK hS hV (Ev.refl m) h fun m1 x S1 v e1 hS1 r1 hV1 h1 => ?_
    cases r1 with
    | @tup q xs ds hq rs =>
      rw [e1.k, hK] at hq
      exact ⟨q, xs, rfl, hq, fun p hp kf => mk_lst hS1 rs.rev hp (by rw [e1.k, hK]; exact kf) (liftQ.ev e1 (fun _ _ _ q => q) h1)⟩
    | _ => exact h1.elim
end
end Mi

set_option maxHeartbeats 4000000
namespace Mi
open PySem PySem.Spec L2 PyProof.Rows
/-! ### the text and the small text: checked -/
def nmEq (s : String) (x : Str) : Bool := Str.ofString s == x
theorem nm_of {s : String} {x : Str} (h : nmEq s x = true) : x = Str.ofString s := (beq_iff_eq.mp h).symm
def visB (sc : Scope) (x : Str) : Bool := match sc.names.lookup x with
  | some .local => true
  | some .cell => true
  | some .free => true
  | _ => false
theorem vis_of {sc : Scope} {x : Str} (h : visB sc x = true) : Vis sc x := by
  unfold visB at h
  split at h <;> first | exact .inl (by assumption) | exact .inr (.inl (by assumption)) | exact .inr (.inr (by assumption)) | cases h
def locB (sc : Scope) (x : Str) : Bool := match sc.names.lookup x with
  | some .local => true
  | some .cell => true
  | _ => false
theorem loc_of {sc : Scope} {x : Str} (h : locB sc x = true) : Loc sc x := by
  unfold locB at h
  split at h <;> first | exact .inl (by assumption) | exact .inr (by assumption) | cases h
def glB (sc : Scope) (x : Str) : Bool := decide (sc.names.lookup x = some .globalImplicit)
def sumSc (sc : Scope) (x : Str) : Bool := decide (sc.kind = .function) && (sc.names.all fun y => decide (y.2 ≠ .free) && decide (y.2 ≠ .cell) && (!decide (y.2 = .local) || decide (sc.names.lookup y.1 = some .local))) && decide (sc.names.lookup x = some .local) && decide (sc.names.lookup (Str.ofString "int") = some .globalImplicit)
theorem sumSc_of {sc : Scope} {x : Str} (h : sumSc sc x = true) : SumSc sc x := by
  simp only [sumSc, Bool.and_eq_true, decide_eq_true_eq, List.all_eq_true, Bool.or_eq_true, Bool.not_eq_true', decide_eq_false_iff_not] at h
  obtain ⟨⟨⟨h1, h2⟩, h3⟩, h4⟩ := h
  exact ⟨h1, fun y hy => (h2 y hy).1.1, fun y hy => (h2 y hy).1.2, fun y hy e => (h2 y hy).2.resolve_left fun z => z e, h3, h4⟩
def ndb (x : Str) : Bool := !(x == ("__debug__" : Str))
def ncd (x : Str) : Bool := !(x == ("__classdict__" : Str))
theorem ndb_of {x : Str} (h : ndb x = true) : (x == ("__debug__" : Str)) = false := by simpa [ndb] using h
theorem ncd_of {x : Str} (h : ncd x = true) : (x == ("__classdict__" : Str)) = false := by simpa [ncd] using h
def litB : Lit → Const → Bool
  | .non, .none => true
  | .bl b, .bool c => b == c
  | .int i, .int j => i == j
  | .str s, .str x => nmEq s x
  | _, _ => false
def nmB (o : Ko) (i : Nat) (e : Expr) : Bool := match e with
  | .Name x _ => decide (o.N[i]? = some x) && locB o.sc x && (o.cf x || decide (o.sc.names.lookup x = some .local))
  | _ => false
def nmsB (o : Ko) : List Nat → List Expr → Bool
  | [], [] => true
  | i :: is, e :: es => nmB o i e && nmsB o is es
  | _, _ => false
def tgB (o : Ko) : Tg → Expr → Bool
  | .nm i, e => nmB o i e
  | .tp is, e => match e with
    | .Tuple es _ _ => nmsB o is es
    | _ => false
def isTup : Expr → Bool
  | .Tuple .. => true
  | _ => false
def notSet : Expr → Bool
  | .Set .. => false
  | _ => true
def isCmp : Expr → Bool
  | .Compare .. => true
  | _ => false
def isBool : Expr → Bool
  | .BoolOp .. => true
  | _ => false
def tyB (P : Pg) (o : Ko) (t : Ty) (e : Expr) : Bool := match e with
  | .Name x _ => nmEq (tyS t) x && glB o.sc x && (match t with | .cls c => P.cls.contains c && ndb x | .exc c sb => decide (sb = P.excs.filter (P.sub · c)) && (decide (c = "ValueError") || (P.excs.contains c && ndb x)) | _ => true)
  | _ => false
def tysB (P : Pg) (o : Ko) : List Ty → List Expr → Bool
  | [], [] => true
  | t :: ts, e :: es => tyB P o t e && tysB P o ts es
  | _, _ => false
def dOk (d : Option FDef) (n : Nat) : Bool := match d with
  | some d => decide (n ≤ d.params)
  | none => false
def dOk1 (d : Option FDef) (n : Nat) : Bool := match d with
  | some d => decide (n = d.params) && d.dflt.isEmpty
  | none => false
theorem dOk1_of {d : Option FDef} {n : Nat} (h : dOk1 d n = true) : ∃ d', d = some d' ∧ n = d'.params ∧ d'.dflt = [] := by
  cases d with
  | none => cases h
  | some d =>
    simp only [dOk1, Bool.and_eq_true, decide_eq_true_eq, List.isEmpty_iff] at h
    exact ⟨d, rfl, h.1, h.2⟩
theorem dOk_of {d : Option FDef} {n : Nat} (h : dOk d n = true) : ∃ d', d = some d' ∧ n ≤ d'.params := by
  cases d with
  | none => cases h
  | some d => exact ⟨d, rfl, of_decide_eq_true h⟩
def lcKo (o : Ko) (scope : Scope) : Ko := ⟨o.N, relS scope o.sc, fun x => scope.names.lookup x == some .cell, false, o.hf⟩
section
variable (P : Pg)
mutual
def chkE : Ko → E → Expr → Bool
  | o, .loc i, e => match e with
    | .Name x _ => decide (o.N[i]? = some x) && visB o.sc x && ndb x && ncd x
    | _ => false
  | o, .lit c, e => match e with
    | .Constant v _ _ => litB c v
    | _ => false
  | o, .con y, e => match e with
    | .Name x _ => nmEq y x && glB o.sc x && ndb x && (P.con y).isSome
    | _ => false
  | o, .bin op a b, e => match e with
    | .BinOp l op' r _ => decide (op = op') && chkE o a l && chkE o b r
    | _ => false
  | o, .neg a, e => match e with
    | .UnaryOp .USub x _ => chkE o a x
    | _ => false
  | o, .cmp op a b, e => match e with
    | .Compare l [op'] [r] _ => decide (op = op') && !behindInMarks op r && chkE o a l && chkE o b r
    | _ => false
  | o, .cmp2 op op2 a b c, e => match e with
    | .Compare l [op', op2'] [r, r2] _ => decide (op = op') && decide (op2 = op2') && !lastMarks [op, op2] [r, r2] && chkE o a l && chkE o b r && chkE o c r2
    | _ => false
  | o, .isN a, e => match e with
    | .Compare l [.Is] [.Constant .none _ _] _ => chkE o a l
    | _ => false
  | o, .notN a, e => match e with
    | .Compare l [.IsNot] [.Constant .none _ _] _ => chkE o a l
    | _ => false
  | o, .isB a b, e => match e with
    | .Compare l [.Is] [.Constant (.bool c) _ _] _ => (b == c) && chkE o a l
    | _ => false
  | o, .not a, e => match e with
    | .UnaryOp .Not x _ => chkE o a x
    | .Compare l [.IsNot] [.Constant (.bool c) _ _] _ => (match a with
      | .isB a' b => (b == c) && chkE o a' l
      | _ => false)
    | _ => false
  | o, .and a b, e => match e with
    | .BoolOp .And [x, y] pos => chkE o a x && chkE o b y
    | .BoolOp .And (x :: y :: z :: rest) pos => chkE o a x && chkE o b (.BoolOp .And (y :: z :: rest) pos)
    | _ => false
  | o, .or a b, e => match e with
    | .BoolOp .Or [x, y] pos => chkE o a x && chkE o b y
    | .BoolOp .Or (x :: y :: z :: rest) pos => chkE o a x && chkE o b (.BoolOp .Or (y :: z :: rest) pos)
    | _ => false
  | o, .ite c a b, e => match e with
    | .IfExp t x y _ => chkT o c t && chkE o a x && chkE o b y
    | _ => false
  | o, .tup es, e => match e with
    | .Tuple xs _ _ => chkEs o es xs
    | _ => false
  | o, .lst es, e => match e with
    | .List xs _ => chkEs o es xs
    | _ => false
  | o, .dic ps, e => match e with
    | .Dict ks vs _ => decide (ks.length ≤ 15) && chkPs o ps ks vs
    | _ => false
  | o, .call f es, e => match e with
    | .Call (.Name x _) xs [] _ => (if o.hot = true then o.hf.contains f && !xs.isEmpty && dOk1 (P.fn (.f f)) es.len else !(P.isHot (.f f))) && (nmEq f x && glB o.sc x && ndb x && dOk (P.fn (.f f)) es.len && xs.all notStar && chkEs o es xs)
    | _ => false
  | o, .make c es, e => match e with
    | .Call (.Name x _) xs [] _ => !o.hot && (nmEq c x && glB o.sc x && ndb x && P.cls.contains c && dOk (P.fn (.m c "__init__")) (es.len + 1) && xs.all notStar && chkEs o es xs)
    | _ => false
  | o, .meth c m a es, e => match e with
    | .Call (.Attribute eo x apos) xs [] pos => !o.hot && (nmEq m x && dOk (P.fn (.m c m)) (es.len + 1) && !(m == "__init__") && plainBase eo && (apos.endLine == pos.line) && decide (xs.length < 29) && xs.all notStar && chkE o a eo && chkEs o es xs)
    | _ => false
  | o, .fld a f, e => match e with
    | .Attribute eo x _ => nmEq f x && P.flds.contains f && plainBase eo && chkE o a eo
    | _ => false
  | o, .sub a i, e => match e with
    | .Subscript eo ei _ => plainIx ei && chkE o a eo && chkE o i ei
    | _ => false
  | o, .slice a lo hi, e => match e with
    | .Subscript eo (.Slice l h none _) _ => chkE o a eo && chkOe o lo l && chkOe o hi h
    | _ => false
  | o, .bi f es, e => match e with
    | .Call (.Name x _) (y :: ys) [] _ => !o.hot && (nmEq (biN f) x && glB o.sc x && (y :: ys).all notStar && chkEs o es (y :: ys))
    | _ => false
  | o, .vi f es, e => match es with
    | .nil => (match e with
      | .Call _ _ _ _ => true
      | _ => false)
    | .cons a .nil => (match f with
      | .listRev => (match e with
        | .Call (.Name x _) [.Call (.Name y _) [ea] [] _] [] _ => !o.hot && (nmEq "list" x && nmEq "reversed" y && glB o.sc x && glB o.sc y && notStar ea && chkE o a ea)
        | _ => false)
      | .dictL => (match e with
        | .Call (.Name x _) [ea] [] _ => !o.hot && (nmEq "dict" x && glB o.sc x && notStar ea && chkE o a ea)
        | _ => false)
      | .sumInts => (match e with
        | .Call (.Name x _) [.ListComp (.Call (.Name y _) [.Name v _] [] _) [⟨.Name v2 _, ea, [], ia⟩] scope _] [] _ => o.hot && (nmEq "sum" x && nmEq "int" y && decide (v = v2) && (ia == 0) && glB o.sc x && ndb v && sumSc scope v && notSet ea && chkE o a ea)
        | _ => false)
      | .listZip => false)
    | .cons a (.cons b .nil) => (match f with
      | .listZip => (match e with
        | .Call (.Name x _) [.Call (.Name y _) [ea, eb] [] _] [] _ => !o.hot && (nmEq "list" x && nmEq "zip" y && glB o.sc x && glB o.sc y && notStar ea && notStar eb && chkE o a ea && chkE o b eb)
        | _ => false)
      | _ => false)
    | _ => false
  | o, .bm m a es, e => match e with
    | .Call (.Attribute eo x apos) [] [] pos => (!decide (m = .update) || !o.hot) && nmEq (bmI m).2.1 x && plainBase eo && (apos.endLine == pos.line) && chkE o a eo && chkEs o es []
    | .Call (.Attribute eo x apos) (y :: ys) [] pos => (!decide (m = .update) || !o.hot) && nmEq (bmI m).2.1 x && plainBase eo && (apos.endLine == pos.line) && (y :: ys).all notStar && decide ((y :: ys).length < 29) && chkE o a eo && chkEs o es (y :: ys)
    | _ => false
  | o, .isi a ts, e => match e with
    | .Call (.Name x _) [ea, .Tuple es _ _] [] _ => nmEq "isinstance" x && glB o.sc x && !ts.isEmpty && decide (ts.length ≤ 60) && notStar ea && tysB P o ts es && chkE o a ea
    | .Call (.Name x _) [ea, et] [] _ => (match ts with
      | [t] => nmEq "isinstance" x && glB o.sc x && notStar ea && notStar et && tyB P o t et && chkE o a ea
      | _ => false)
    | _ => false
  | o, .lc elt tgt src cond own, e => match e with
    | .ListComp eelt [⟨tg, iter, ifs, ia⟩] scope pos => !o.hot && ((ia == 0) && notSet iter && blkC o.N o.sc scope (own.map fun p => (Str.ofString p.1, p.2)) && (tgt.slots.all fun i => (own.map (·.2)).contains i) && chkSrc o src tg iter && tgB (lcKo o scope) tgt tg && chkOt (lcKo o scope) cond ifs && chkE (lcKo o scope) elt eelt)
    | _ => false
  | o, .lck _ a, e => !isCmp e && chkE o a e
def chkT : Ko → T → Expr → Bool
  | o, .v a, e => (plainTest e || isCmp e) && chkE o a e
  | o, .not t, e => match e with
    | .UnaryOp .Not x _ => chkT o t x
    | _ => false
  | o, .and a b, e => match e with
    | .BoolOp .And [x, y] pos => chkT o a x && chkT o b y
    | .BoolOp .And (x :: y :: z :: rest) pos => chkT o a x && chkT o b (.BoolOp .And (y :: z :: rest) pos)
    | _ => false
  | o, .or a b, e => match e with
    | .BoolOp .Or [x, y] pos => chkT o a x && chkT o b y
    | .BoolOp .Or (x :: y :: z :: rest) pos => chkT o a x && chkT o b (.BoolOp .Or (y :: z :: rest) pos)
    | _ => false
def chkEs : Ko → Es → List Expr → Bool
  | o, .nil, xs => match xs with
    | [] => true
    | _ => false
  | o, .cons a es, xs => match xs with
    | x :: xs => notStar x && chkE o a x && chkEs o es xs
    | _ => false
def chkPs : Ko → Ps → List (Option Expr) → List Expr → Bool
  | o, .nil, ks, vs => match ks, vs with
    | [], [] => true
    | _, _ => false
  | o, .cons a b ps, ks, vs => match ks, vs with
    | some x :: ks, y :: vs => chkE o a x && chkE o b y && chkPs o ps ks vs
    | _, _ => false
def chkOe : Ko → Oe → Option Expr → Bool
  | o, .none, e => match e with
    | none => true
    | _ => false
  | o, .some a, e => match e with
    | some x => chkE o a x
    | none => false
def chkOt : Ko → Ot → List Expr → Bool
  | o, .none, xs => match xs with
    | [] => true
    | _ => false
  | o, .some t, xs => match xs with
    | [x] => chkT o t x
    | _ => false
def chkSrc : Ko → Src → Expr → Expr → Bool
  | o, .seq a, tg, e => chkE o a e
  | o, .rng1 a, tg, e => match e with
    | .Call (.Name x _) [ea] [] _ => nmEq "range" x && glB o.sc x && notStar ea && chkE o a ea
    | _ => false
  | o, .rng2 a b, tg, e => match e with
    | .Call (.Name x _) [ea, eb] [] _ => nmEq "range" x && glB o.sc x && notStar ea && notStar eb && chkE o a ea && chkE o b eb
    | _ => false
  | o, .enum a, tg, e => match e with
    | .Call (.Name x _) [ea] [] _ => nmEq "enumerate" x && isTup tg && glB o.sc x && notStar ea && chkE o a ea
    | _ => false
  | o, .zip a b, tg, e => match e with
    | .Call (.Name x _) [ea, eb] [] _ => nmEq "zip" x && isTup tg && glB o.sc x && notStar ea && notStar eb && chkE o a ea && chkE o b eb
    | _ => false
  | o, .rev a, tg, e => match e with
    | .Call (.Name x _) [ea] [] _ => nmEq "reversed" x && glB o.sc x && notStar ea && chkE o a ea
    | _ => false
  | _, .rng3 _ _ _, _, _ => false
  | o, .items a, tg, e => match e with
    | .Call (.Attribute eo x apos) [] [] pos => nmEq "items" x && isTup tg && plainBase eo && (apos.endLine == pos.line) && chkE o a eo
    | _ => false
  | o, .values a, tg, e => match e with
    | .Call (.Attribute eo x apos) [] [] pos => nmEq "values" x && plainBase eo && (apos.endLine == pos.line) && chkE o a eo
    | _ => false
  | o, .keys a, tg, e => chkE o a e
end
end
section
variable {P : Pg} {cl : Cl} {k : Nat} {X : Cx} {W : WX} {o : Ko}
theorem gl_of (xo : XO P cl X k o W) {x : Str} (h : glB o.sc x = true) : Gl X x := by
  show X.env.scope.names.lookup x = _
  rw [xo.sc]
  exact of_decide_eq_true h
theorem nmB_of (xo : XO P cl X k o W) {i : Nat} {e : Expr} (h : nmB o i e = true) : NmOk X i e := by
  unfold nmB at h
  split at h
  · simp only [Bool.and_eq_true, Bool.or_eq_true, decide_eq_true_eq] at h
    refine ⟨_, _, rfl, by rw [xo.nn]; exact h.1.1, by rw [xo.sc]; exact loc_of h.1.2, ?_⟩
    rcases h.2 with h | h
    · exact .inl (xo.fnc _ h)
    · exact .inr (by rw [xo.sc]; exact h)
  · cases h
theorem nmsB_of (xo : XO P cl X k o W) : ∀ {is : List Nat} {es : List Expr}, nmsB o is es = true → NmsOk X is es
  | [], [], _ => .nil
  | i :: is, e :: es, h => by
    simp only [nmsB, Bool.and_eq_true] at h
    exact .cons (nmB_of xo h.1) (nmsB_of xo h.2)
  | [], _ :: _, h => by cases h
  | _ :: _, [], h => by cases h
theorem tgB_of (xo : XO P cl X k o W) {t : Tg} {e : Expr} (h : tgB o t e = true) : TgOk X t e := by
  cases t with
  | nm i => exact .nm (nmB_of xo h)
  | tp is =>
    simp only [tgB] at h
    split at h
    · exact .tp (nmsB_of xo h)
    · cases h
theorem tyB_of (xo : XO P cl X k o W) {t : Ty} {e : Expr} (h : tyB P o t e = true) : notStar e = true ∧ ∃ c u, TyN P X cl t e c u := by
  unfold tyB at h
  split at h
  · simp only [Bool.and_eq_true] at h
    obtain ⟨⟨h1, h2⟩, h3⟩ := h
    have := nm_of h1
    subst this
    refine ⟨rfl, tyN_of xo (gl_of xo h2) (fun c e => ?_) fun c sb e => ?_⟩
    · subst e
      simp only [Bool.and_eq_true] at h3
      exact ⟨xo.ln.has c (by simpa using h3.1), ndb_of h3.2⟩
    · subst e
      simp only [Bool.and_eq_true, Bool.or_eq_true, decide_eq_true_eq] at h3
      refine ⟨h3.1, h3.2.imp id fun h => ⟨by simpa using h.1, ndb_of h.2⟩⟩
  · cases h
theorem tysB_of (xo : XO P cl X k o W) : ∀ {ts : List Ty} {es : List Expr}, tysB P o ts es = true → ∃ cs us, TyNs P X cl ts es cs us
  | [], [], _ => ⟨_, _, .nil⟩
  | t :: ts, e :: es, h => by
    simp only [tysB, Bool.and_eq_true] at h
    obtain ⟨hs, c, u, h1⟩ := tyB_of xo h.1
    obtain ⟨cs, us, h2⟩ := tysB_of xo h.2
    exact ⟨_, _, .cons h1 hs h2⟩
  | [], _ :: _, h => by cases h
  | _ :: _, [], h => by cases h
theorem es_nil {es : Es} {xs : List Expr} (h : chkEs P o es xs = true) : xs = [] → es = .nil := by
  intro e
  subst e
  cases es with
  | nil => rfl
  | cons a es => simp [chkEs] at h
theorem XO.lc (xo : XO P cl X k o W) (hc : (!o.hot) = true) (σ : L2.St) (scope : Scope) (s : Shared) (H : Hp) (C : Addr) (c : List (Str × Addr)) (fp : List Addr) : XO P cl (Cx.blkE X W σ s H scope (compEnvC scope c C X.env) fp) k (lcKo o scope) (atS W σ) where
  ln := xo.ln
  nd := xo.nd
  nn := xo.nn
  sc := by
    show relS scope X.env.scope = relS scope o.sc
    rw [xo.sc]
  fnc := fun x h => h
  isi := xo.isi
  lx := xo.lx
  calm := fun _ => xo.calm hc
  room := fun _ => xo.room hc
  un := xo.un
  zc := fun _ => xo.zc hc
  rmh := fun h => nomatch h
  zx := fun h => nomatch h
  hots := xo.hots
  tk := blkE_tk
  fr := blkE_fr xo.fr rfl
  fns := fun _ => xo.fns hc
theorem XO.u65 (xo : XO P cl X k o W) : X.A.units + 65 < cLine := by have := xo.un; omega
theorem XO.u1 (xo : XO P cl X k o W) : X.A.units + 1 < cLine := by have := xo.un; omega
theorem lit_of {c : Lit} {v : Const} {j : Nat} {pos : Pos} (h : litB c v = true) : PE X (.Constant v j pos) (tC (litV c)) := by
  cases c <;> cases v <;> first | cases h | skip
  · exact pe_non
  · have := (beq_iff_eq.mp h); subst this; exact pe_bl
  · have := (beq_iff_eq.mp h); subst this; exact pe_int
  · have := nm_of h; subst this; exact pe_str
theorem ps_len : ∀ (ps : Ps) {ks : List (Option Expr)} {vs : List Expr}, chkPs P o ps ks vs = true → ks.all (·.isSome) = true ∧ ks.length = vs.length ∧ ps.len = ks.length
  | .nil, ks, vs, h => by
    cases ks <;> cases vs <;> simp [chkPs] at h
    exact ⟨rfl, rfl, rfl⟩
  | .cons a b ps, ks, vs, h => by
    simp only [chkPs] at h
    split at h
    · simp only [Bool.and_eq_true] at h
      obtain ⟨h1, h2, h3⟩ := ps_len ps h.2
      exact ⟨by simp [h1], by simp [h2], by simp [Ps.len, h3]⟩
    · cases h
mutual
theorem chkE_ok : ∀ (e : E) {o : Ko} {x : Expr}, chkE P o e x = true → ∀ {X : Cx} {k : Nat} {W : WX}, XO P cl X k o W → PE X x (tE P cl k X W e) ∧ (isCmp x = true → PT X x (tTs P cl k X W (.v e)))
  | .loc i, o, x, h, X, k, W, xo => by
    simp only [chkE] at h
    split at h
    · simp only [Bool.and_eq_true, decide_eq_true_eq] at h
      obtain ⟨⟨⟨h1, h2⟩, h3⟩, h4⟩ := h
      exact ⟨e_loc (by rw [xo.nn]; exact h1) (by rw [xo.sc]; exact vis_of h2) (ndb_of h3) (ncd_of h4), fun h => nomatch h⟩
    · cases h
  | .lit c, o, x, h, X, k, W, xo => by
    simp only [chkE] at h
    split at h
    · exact ⟨e_lit (lit_of h), fun h => nomatch h⟩
    · cases h
  | .con y, o, x, h, X, k, W, xo => by
    simp only [chkE] at h
    split at h
    · simp only [Bool.and_eq_true] at h
      obtain ⟨⟨⟨h1, h2⟩, h3⟩, h4⟩ := h
      have := nm_of h1
      subst this
      obtain ⟨v, hv⟩ := Option.isSome_iff_exists.mp h4
      exact ⟨e_con xo.ln (gl_of xo h2) hv (ndb_of h3), fun h => nomatch h⟩
    · cases h
  | .bin op a b, o, x, h, X, k, W, xo => by
    simp only [chkE] at h
    split at h
    · simp only [Bool.and_eq_true, decide_eq_true_eq] at h
      obtain ⟨⟨rfl, h1⟩, h2⟩ := h
      exact ⟨e_bin (chkE_ok a h1 xo).1 (chkE_ok b h2 xo).1, fun h => nomatch h⟩
    · cases h
  | .neg a, o, x, h, X, k, W, xo => by
    simp only [chkE] at h
    split at h
    · exact ⟨e_neg (chkE_ok a h xo).1, fun h => nomatch h⟩
    · cases h
  | .cmp op a b, o, x, h, X, k, W, xo => by
    simp only [chkE] at h
    split at h
    · simp only [Bool.and_eq_true, decide_eq_true_eq, Bool.not_eq_true'] at h
      obtain ⟨⟨⟨rfl, h0⟩, h1⟩, h2⟩ := h
      exact ⟨e_cmp xo.u65 h0 (chkE_ok a h1 xo).1 (chkE_ok b h2 xo).1, fun _ => t_cmp xo.u65 h0 (chkE_ok a h1 xo).1 (chkE_ok b h2 xo).1⟩
    · cases h
  | .cmp2 op op2 a b c, o, x, h, X, k, W, xo => by
    simp only [chkE] at h
    split at h
    · simp only [Bool.and_eq_true, decide_eq_true_eq, Bool.not_eq_true'] at h
      obtain ⟨⟨⟨⟨⟨rfl, rfl⟩, h0⟩, h1⟩, h2⟩, h3⟩ := h
      exact ⟨e_cmp2 xo.u65 h0 (chkE_ok a h1 xo).1 (chkE_ok b h2 xo).1 (chkE_ok c h3 xo).1, fun _ => t_cmp2 xo.u65 h0 (chkE_ok a h1 xo).1 (chkE_ok b h2 xo).1 (chkE_ok c h3 xo).1⟩
    · cases h
  | .isN a, o, x, h, X, k, W, xo => by
    simp only [chkE] at h
    split at h
    · exact ⟨e_isN (chkE_ok a h xo).1, fun _ => t_isN (chkE_ok a h xo).1⟩
    · cases h
  | .notN a, o, x, h, X, k, W, xo => by
    simp only [chkE] at h
    split at h
    · exact ⟨e_notN (chkE_ok a h xo).1, fun _ => t_notN (chkE_ok a h xo).1⟩
    · cases h
  | .isB a b, o, x, h, X, k, W, xo => by
    simp only [chkE] at h
    split at h
    · simp only [Bool.and_eq_true, beq_iff_eq] at h
      obtain ⟨rfl, h⟩ := h
      exact ⟨e_isB (chkE_ok a h xo).1, fun _ => t_isB (chkE_ok a h xo).1⟩
    · cases h
  | .not a, o, x, h, X, k, W, xo => by
    unfold chkE at h
    split at h
    · exact ⟨e_not (chkE_ok a h xo).1, fun h => nomatch h⟩
    · split at h
      · rename_i a' b
        simp only [Bool.and_eq_true, beq_iff_eq] at h
        obtain ⟨rfl, h⟩ := h
        exact ⟨e_isnB (chkE_ok a' h xo).1, fun _ => t_isnB (chkE_ok a' h xo).1⟩
      · cases h
    · cases h
  | .and a b, o, x, h, X, k, W, xo => by
    simp only [chkE] at h
    split at h
    · simp only [Bool.and_eq_true] at h
      exact ⟨e_and (chkE_ok a h.1 xo).1 (pe_one (chkE_ok b h.2 xo).1), fun h => nomatch h⟩
    · simp only [Bool.and_eq_true] at h
      exact ⟨e_and (chkE_ok a h.1 xo).1 (chkE_ok b h.2 xo).1, fun h => nomatch h⟩
    · cases h
  | .or a b, o, x, h, X, k, W, xo => by
    simp only [chkE] at h
    split at h
    · simp only [Bool.and_eq_true] at h
      exact ⟨e_or (chkE_ok a h.1 xo).1 (pe_one (chkE_ok b h.2 xo).1), fun h => nomatch h⟩
    · simp only [Bool.and_eq_true] at h
      exact ⟨e_or (chkE_ok a h.1 xo).1 (chkE_ok b h.2 xo).1, fun h => nomatch h⟩
    · cases h
  | .ite c a b, o, x, h, X, k, W, xo => by
    simp only [chkE] at h
    split at h
    · simp only [Bool.and_eq_true] at h
      exact ⟨e_ite (chkT_ok c h.1.1 xo).1 (chkE_ok a h.1.2 xo).1 (chkE_ok b h.2 xo).1, fun h => nomatch h⟩
    · cases h
  | .tup es, o, x, h, X, k, W, xo => by
    simp only [chkE] at h
    split at h
    · exact ⟨e_tup (chkEs_ok es h xo), fun h => nomatch h⟩
    · cases h
  | .lst es, o, x, h, X, k, W, xo => by
    simp only [chkE] at h
    split at h
    · exact ⟨e_lst (chkEs_ok es h xo), fun h => nomatch h⟩
    · cases h
  | .dic ps, o, x, h, X, k, W, xo => by
    simp only [chkE] at h
    split at h
    · rename_i ks vs pos
      simp only [Bool.and_eq_true, decide_eq_true_eq] at h
      refine ⟨?_, fun h => nomatch h⟩
      cases ps with
      | nil =>
        have := h.2
        cases ks <;> cases vs <;> simp [chkPs] at this
        exact e_dic0
      | cons a b ps =>
        obtain ⟨h1, h2, h3⟩ := ps_len _ h.2
        refine e_dic (chkPs_ok (.cons a b ps) h.2 xo) h1 h2 (fun e => ?_) h.1 (by rw [h3]; exact h.1)
        subst e
        simp [Ps.len] at h3
    · cases h
  | .call f es, o, x, h, X, k, W, xo => by
    simp only [chkE] at h
    split at h
    · simp only [Bool.and_eq_true] at h
      obtain ⟨h00, ⟨⟨⟨⟨⟨h1, h2⟩, h3⟩, h4⟩, h5⟩, h6⟩⟩ := h
      have := nm_of h1
      subst this
      obtain ⟨d, hd, hn⟩ := dOk_of h4
      by_cases hot : o.hot = true
      · rw [if_pos hot] at h00
        simp only [Bool.and_eq_true] at h00
        obtain ⟨d', hd', hn', hd0⟩ := dOk1_of h00.2
        exact ⟨e_callH xo hot (by simpa using h00.1.1) (gl_of xo h2) (ndb_of h3) hd' hn' hd0 h5 (by intro e; subst e; simp at h00) (chkEs_ok es h6 xo), fun h => nomatch h⟩
      rw [if_neg hot] at h00
      have hcold : (!o.hot) = true := by simpa using hot
      have hnh : P.isHot (.f f) = false := by simpa using h00
      exact ⟨e_call xo hcold hnh (gl_of xo h2) (ndb_of h3) hd hn h5 (es_nil h6) (chkEs_ok es h6 xo), fun h => nomatch h⟩
    · cases h
  | .make c es, o, x, h, X, k, W, xo => by
    simp only [chkE] at h
    split at h
    · simp only [Bool.and_eq_true] at h
      obtain ⟨h00, ⟨⟨⟨⟨⟨⟨h1, h2⟩, h3⟩, h0⟩, h4⟩, h5⟩, h6⟩⟩ := h
      have := nm_of h1
      subst this
      obtain ⟨d, hd, hn⟩ := dOk_of h4
      obtain ⟨C, hC⟩ := xo.ln.has c (by simpa using h0)
      exact ⟨e_make xo h00 (gl_of xo h2) (ndb_of h3) hd hC hn h5 (es_nil h6) (chkEs_ok es h6 xo), fun h => nomatch h⟩
    · cases h
  | .meth c m a es, o, x, h, X, k, W, xo => by
    simp only [chkE] at h
    split at h
    · simp only [Bool.and_eq_true, decide_eq_true_eq, Bool.not_eq_true'] at h
      obtain ⟨h00, ⟨⟨⟨⟨⟨⟨⟨⟨h1, h2⟩, h3⟩, h4⟩, h5⟩, h6⟩, h7⟩, h8⟩, h9⟩⟩ := h
      have := nm_of h1
      subst this
      obtain ⟨d, hd, hn⟩ := dOk_of h2
      exact ⟨e_meth xo (by rw [h00]; rfl) hd h3 hn h4 h5 h6 h7 (es_nil h9) (chkE_ok a h8 xo).1 (chkEs_ok es h9 xo), fun h => nomatch h⟩
    · cases h
  | .fld a f, o, x, h, X, k, W, xo => by
    simp only [chkE] at h
    split at h
    · simp only [Bool.and_eq_true] at h
      obtain ⟨⟨⟨h1, h2⟩, h3⟩, h4⟩ := h
      have := nm_of h1
      subst this
      exact ⟨e_fld xo (by simpa using h2) h3 (chkE_ok a h4 xo).1, fun h => nomatch h⟩
    · cases h
  | .sub a i, o, x, h, X, k, W, xo => by
    simp only [chkE] at h
    split at h
    · simp only [Bool.and_eq_true] at h
      obtain ⟨⟨h1, h2⟩, h3⟩ := h
      exact ⟨e_sub xo.u1 h1 (chkE_ok a h2 xo).1 (chkE_ok i h3 xo).1, fun h => nomatch h⟩
    · cases h
  | .slice a lo hi, o, x, h, X, k, W, xo => by
    simp only [chkE] at h
    split at h
    · simp only [Bool.and_eq_true] at h
      obtain ⟨⟨h1, h2⟩, h3⟩ := h
      exact ⟨e_slice (chkE_ok a h1 xo).1 (chkOe_ok lo h2 xo) (chkOe_ok hi h3 xo), fun h => nomatch h⟩
    · cases h
  | .bi f es, o, x, h, X, k, W, xo => by
    simp only [chkE] at h
    split at h
    · simp only [Bool.and_eq_true] at h
      obtain ⟨h00, ⟨⟨⟨h1, h2⟩, h3⟩, h4⟩⟩ := h
      have := nm_of h1
      subst this
      exact ⟨e_bi xo h00 (gl_of xo h2) h3 (chkEs_ok es h4 xo), fun h => nomatch h⟩
    · cases h
  | .vi f es, o, x, h, X, k, W, xo => by
    unfold chkE at h
    split at h
    · split at h
      · refine ⟨⟨fun pins s σ H Q I z => ?_⟩, fun z => nomatch z⟩
        obtain ⟨m, env, S, _, _, _, _, z⟩ := z
        simp only [wE, wEs] at z
        cases f <;> exact z.elim
      · cases h
    · rename_i a
      cases f with
      | listRev =>
        dsimp only at h
        split at h
        · simp only [Bool.and_eq_true] at h
          obtain ⟨h00, ⟨⟨⟨⟨⟨h1, h2⟩, h3⟩, h4⟩, h5⟩, h6⟩⟩ := h
          have := nm_of h1
          subst this
          have := nm_of h2
          subst this
          exact ⟨e_listRev xo h00 (gl_of xo h3) (gl_of xo h4) h5 (chkE_ok a h6 xo).1, fun h => nomatch h⟩
        · cases h
      | dictL =>
        dsimp only at h
        split at h
        · simp only [Bool.and_eq_true] at h
          obtain ⟨h00, ⟨⟨⟨h1, h2⟩, h3⟩, h4⟩⟩ := h
          have := nm_of h1
          subst this
          exact ⟨e_dictL xo h00 (gl_of xo h2) h3 (chkE_ok a h4 xo).1, fun h => nomatch h⟩
        · cases h
      | sumInts =>
        dsimp only at h
        split at h
        · simp only [Bool.and_eq_true, decide_eq_true_eq, beq_iff_eq] at h
          obtain ⟨h00, ⟨⟨⟨⟨⟨⟨⟨⟨h1, h2⟩, h3⟩, h4⟩, h5⟩, h6⟩, h7⟩, h8⟩, h9⟩⟩ := h
          have := nm_of h1
          subst this
          have := nm_of h2
          subst this
          subst h3
          subst h4
          exact ⟨e_sumInts xo h00 (gl_of xo h5) (sumSc_of h7) (ndb_of h6) (chkE_ok a h9 xo).1 (folded_of (by revert h8; unfold notSet; split <;> simp)), fun h => nomatch h⟩
        · cases h
      | listZip => cases h
    · rename_i a b
      cases f with
      | listZip =>
        dsimp only at h
        split at h
        · simp only [Bool.and_eq_true] at h
          obtain ⟨h00, ⟨⟨⟨⟨⟨⟨⟨h1, h2⟩, h3⟩, h4⟩, h5⟩, h6⟩, h7⟩, h8⟩⟩ := h
          have := nm_of h1
          subst this
          have := nm_of h2
          subst this
          exact ⟨e_listZip xo h00 (gl_of xo h3) (gl_of xo h4) h5 h6 (chkE_ok a h7 xo).1 (chkE_ok b h8 xo).1, fun h => nomatch h⟩
        · cases h
      | _ => cases h
    · cases h
  | .bm m a es, o, x, h, X, k, W, xo => by
    simp only [chkE] at h
    split at h
    · simp only [Bool.and_eq_true] at h
      obtain ⟨⟨⟨⟨⟨h0, h1⟩, h2⟩, h3⟩, h4⟩, h5⟩ := h
      have := nm_of h1
      subst this
      have := es_nil h5 rfl
      subst this
      exact ⟨e_bm0 (fun e => xo.calm (by subst e; simpa using h0)) xo h2 h3 (chkE_ok a h4 xo).1, fun h => nomatch h⟩
    · simp only [Bool.and_eq_true, decide_eq_true_eq] at h
      obtain ⟨⟨⟨⟨⟨⟨⟨h0, h1⟩, h2⟩, h3⟩, h4⟩, h5⟩, h6⟩, h7⟩ := h
      have := nm_of h1
      subst this
      exact ⟨e_bm (fun e => xo.calm (by subst e; simpa using h0)) xo h2 h3 h4 h5 (chkE_ok a h6 xo).1 (chkEs_ok es h7 xo), fun h => nomatch h⟩
    · cases h
  | .isi a ts, o, x, h, X, k, W, xo => by
    simp only [chkE] at h
    split at h
    · simp only [Bool.and_eq_true, decide_eq_true_eq, Bool.not_eq_true'] at h
      obtain ⟨⟨⟨⟨⟨⟨h1, h2⟩, h3⟩, h4⟩, h5⟩, h6⟩, h7⟩ := h
      have := nm_of h1
      subst this
      obtain ⟨cs, us, hT⟩ := tysB_of xo h6
      exact ⟨e_isiT xo (gl_of xo h2) hT (fun e => by subst e; cases h3) (by rw [sizeLine_eq]; omega) h5 (chkE_ok a h7 xo).1, fun h => nomatch h⟩
    · split at h
      · simp only [Bool.and_eq_true] at h
        obtain ⟨⟨⟨⟨⟨h1, h2⟩, h3⟩, h4⟩, h5⟩, h6⟩ := h
        have := nm_of h1
        subst this
        obtain ⟨_, c, u, hT⟩ := tyB_of xo h5
        exact ⟨e_isi1 xo (gl_of xo h2) hT h3 h4 (chkE_ok a h6 xo).1, fun h => nomatch h⟩
      · cases h
    · cases h
  | .lc elt tgt src cond own, o, x, h, X, k, W, xo => by
    simp only [chkE] at h
    split at h
    · rename_i eelt tg iter ifs ia scope pos
      simp only [Bool.and_eq_true, beq_iff_eq] at h
      obtain ⟨h00, ⟨⟨⟨⟨⟨⟨⟨rfl, h1⟩, h2⟩, h3⟩, h4⟩, h5⟩, h6⟩, h7⟩⟩ := h
      refine ⟨e_lc xo h00 (chkSrc_ok src h4 xo) (folded_of (by cases iter <;> first | rfl | cases h1)) ⟨?_, ?_, fun σ s H C c fp => ?_, fun σ s H C c fp => ?_, fun σ s H C c fp => ?_⟩, fun h => nomatch h⟩
      · rw [xo.nn, xo.sc]
        exact blkOk_by h2
      · intro i hi
        rw [List.all_eq_true] at h3
        simpa using h3 i hi
      · exact tgB_of (xo.lc h00 σ scope s H C c fp) h5
      · exact chkOt_ok cond h6 (xo.lc h00 σ scope s H C c fp)
      · exact (chkE_ok elt h7 (xo.lc h00 σ scope s H C c fp)).1
    · cases h
  | .lck i a, o, x, h, X, k, W, xo => by
    simp only [chkE, Bool.and_eq_true, Bool.not_eq_true'] at h
    exact ⟨e_lck (chkE_ok a h.2 xo).1, fun hc => by rw [h.1] at hc; cases hc⟩
theorem chkT_ok : ∀ (t : T) {o : Ko} {x : Expr}, chkT P o t x = true → ∀ {X : Cx} {k : Nat} {W : WX}, XO P cl X k o W → PT X x (tTs P cl k X W t) ∧ (isBool x = true → PW X x (tTs P cl k X W t))
  | .v a, o, x, h, X, k, W, xo => by
    simp only [chkT, Bool.and_eq_true, Bool.or_eq_true] at h
    obtain ⟨h1 | h1, h2⟩ := h
    · refine ⟨t_val (chkE_ok a h2 xo).1 h1, fun h => ?_⟩
      cases x <;> first | exact (Bool.false_ne_true h).elim | exact (Bool.false_ne_true h1).elim
    · refine ⟨(chkE_ok a h2 xo).2 h1, fun h => ?_⟩
      cases x <;> first | exact (Bool.false_ne_true h).elim | exact (Bool.false_ne_true h1).elim
  | .not t, o, x, h, X, k, W, xo => by
    simp only [chkT] at h
    split at h
    · exact ⟨t_not (chkT_ok t h xo).1, fun h => nomatch h⟩
    · cases h
  | .and a b, o, x, h, X, k, W, xo => by
    simp only [chkT] at h
    split at h
    · simp only [Bool.and_eq_true] at h
      have := t_and (pos := ‹Pos›) (chkT_ok a h.1 xo).1 (t_and1 (chkT_ok b h.2 xo).1)
      exact ⟨this.pt, fun _ => this⟩
    · simp only [Bool.and_eq_true] at h
      have := t_and (chkT_ok a h.1 xo).1 ((chkT_ok b h.2 xo).2 rfl)
      exact ⟨this.pt, fun _ => this⟩
    · cases h
  | .or a b, o, x, h, X, k, W, xo => by
    simp only [chkT] at h
    split at h
    · simp only [Bool.and_eq_true] at h
      have := t_or (pos := ‹Pos›) (chkT_ok a h.1 xo).1 (t_or1 (chkT_ok b h.2 xo).1)
      exact ⟨this.pt, fun _ => this⟩
    · simp only [Bool.and_eq_true] at h
      have := t_or (chkT_ok a h.1 xo).1 ((chkT_ok b h.2 xo).2 rfl)
      exact ⟨this.pt, fun _ => this⟩
    · cases h
theorem chkEs_ok : ∀ (es : Es) {o : Ko} {xs : List Expr}, chkEs P o es xs = true → ∀ {X : Cx} {k : Nat} {W : WX}, XO P cl X k o W → PA X xs (tEs P cl k X W es)
  | .nil, o, xs, h, X, k, W, xo => by
    simp only [chkEs] at h
    split at h
    · exact a_nil
    · cases h
  | .cons a es, o, xs, h, X, k, W, xo => by
    simp only [chkEs] at h
    split at h
    · simp only [Bool.and_eq_true] at h
      exact a_cons (chkE_ok a h.1.2 xo).1 h.1.1 (chkEs_ok es h.2 xo)
    · cases h
theorem chkPs_ok : ∀ (ps : Ps) {o : Ko} {ks : List (Option Expr)} {vs : List Expr} {pos : Pos}, chkPs P o ps ks vs = true → ∀ {X : Cx} {k : Nat} {W : WX}, XO P cl X k o W → PPs X pos ks vs (tPs P cl k X W ps)
  | .nil, o, ks, vs, pos, h, X, k, W, xo => by
    simp only [chkPs] at h
    split at h
    · exact pps_nil
    · cases h
  | .cons a b ps, o, ks, vs, pos, h, X, k, W, xo => by
    simp only [chkPs] at h
    split at h
    · simp only [Bool.and_eq_true] at h
      exact pps_cons (chkE_ok a h.1.1 xo).1 (chkE_ok b h.1.2 xo).1 (chkPs_ok ps h.2 xo)
    · cases h
theorem chkOe_ok : ∀ (e : Oe) {o : Ko} {x : Option Expr}, chkOe P o e x = true → ∀ {X : Cx} {k : Nat} {W : WX}, XO P cl X k o W → PO X x (tOs P cl k X W e)
  | .none, o, x, h, X, k, W, xo => by
    cases x with
    | none => exact o_none
    | some x => simp [chkOe] at h
  | .some a, o, x, h, X, k, W, xo => by
    cases x with
    | none => simp [chkOe] at h
    | some x =>
      simp only [chkOe] at h
      exact o_some (chkE_ok a h xo).1
theorem chkOt_ok : ∀ (e : Ot) {o : Ko} {x : List Expr}, chkOt P o e x = true → ∀ {X : Cx} {k : Nat} {W : WX}, XO P cl X k o W → PTs X x (tCs P cl k X W e)
  | .none, o, x, h, X, k, W, xo => by
    simp only [chkOt] at h
    split at h
    · exact c_none
    · cases h
  | .some a, o, x, h, X, k, W, xo => by
    simp only [chkOt] at h
    split at h
    · exact c_some (chkT_ok a h xo).1
    · cases h
theorem chkSrc_ok : ∀ (src : Src) {o : Ko} {tg e : Expr}, chkSrc P o src tg e = true → ∀ {X : Cx} {k : Nat} {W : WX}, XO P cl X k o W → PI X tg e (tSrc P cl k X W src)
  | .seq a, o, tg, e, h, X, k, W, xo => by
    simp only [chkSrc] at h
    exact s_seq (chkE_ok a h xo).1
  | .rng1 a, o, tg, e, h, X, k, W, xo => by
    simp only [chkSrc] at h
    split at h
    · simp only [Bool.and_eq_true] at h
      obtain ⟨⟨⟨h1, h2⟩, h3⟩, h4⟩ := h
      have := nm_of h1
      subst this
      exact s_rng1 xo (gl_of xo h2) h3 (chkE_ok a h4 xo).1
    · cases h
  | .rng2 a b, o, tg, e, h, X, k, W, xo => by
    simp only [chkSrc] at h
    split at h
    · simp only [Bool.and_eq_true] at h
      obtain ⟨⟨⟨⟨⟨h1, h2⟩, h3⟩, h3'⟩, h4⟩, h5⟩ := h
      have := nm_of h1
      subst this
      exact s_rng2 xo (gl_of xo h2) h3 h3' (chkE_ok a h4 xo).1 (chkE_ok b h5 xo).1
    · cases h
  | .enum a, o, tg, e, h, X, k, W, xo => by
    simp only [chkSrc] at h
    split at h
    · simp only [Bool.and_eq_true] at h
      obtain ⟨⟨⟨⟨h1, h0⟩, h2⟩, h3⟩, h4⟩ := h
      have := nm_of h1
      subst this
      cases tg <;> first | exact s_enum xo (gl_of xo h2) h3 (chkE_ok a h4 xo).1 | cases h0
    · cases h
  | .zip a b, o, tg, e, h, X, k, W, xo => by
    simp only [chkSrc] at h
    split at h
    · simp only [Bool.and_eq_true] at h
      obtain ⟨⟨⟨⟨⟨⟨h1, h0⟩, h2⟩, h3⟩, h3'⟩, h4⟩, h5⟩ := h
      have := nm_of h1
      subst this
      cases tg <;> first | exact s_zip xo (gl_of xo h2) h3 h3' (chkE_ok a h4 xo).1 (chkE_ok b h5 xo).1 | cases h0
    · cases h
  | .rev a, o, tg, e, h, X, k, W, xo => by
    simp only [chkSrc] at h
    split at h
    · simp only [Bool.and_eq_true] at h
      obtain ⟨⟨⟨h1, h2⟩, h3⟩, h4⟩ := h
      have := nm_of h1
      subst this
      exact s_rev xo (gl_of xo h2) h3 (chkE_ok a h4 xo).1
    · cases h
  | .rng3 _ _ _, o, tg, e, h, X, k, W, xo => by simp [chkSrc] at h
  | .items a, o, tg, e, h, X, k, W, xo => by
    simp only [chkSrc] at h
    split at h
    · simp only [Bool.and_eq_true] at h
      obtain ⟨⟨⟨⟨h1, h0⟩, h2⟩, h3⟩, h4⟩ := h
      have := nm_of h1
      subst this
      cases tg <;> first | exact s_items (chkE_ok a h4 xo).1 (base_of h2) h3 | cases h0
    · cases h
  | .values a, o, tg, e, h, X, k, W, xo => by
    simp only [chkSrc] at h
    split at h
    · simp only [Bool.and_eq_true] at h
      obtain ⟨⟨⟨h1, h2⟩, h3⟩, h4⟩ := h
      have := nm_of h1
      subst this
      exact s_vals (chkE_ok a h4 xo).1 (base_of h2) h3
    · cases h
  | .keys a, o, tg, e, h, X, k, W, xo => s_keys (chkE_ok a (by simpa only [chkSrc] using h) xo).1
end
end
end Mi

set_option maxHeartbeats 4000000
namespace Mi
open PySem PySem.Spec L2 PyProof.Rows
/-! ### statements -/
section
variable (cl : Cl) (mg : Str → Option Value) (m : Sm)
def liftXS (W : WX) : XS := fun c env S' => ∀ m' σ' C, Ev m m' → SH cl m' S' → SV m' env σ' → mg (Str.ofString c) = some (.ref C) → W (.ref C) none σ' m'.H
def liftE (Q : L2.St → Hp → Prop) : Env → Hm → Prop := fun env S' => ∀ m' σ', Ev m m' → SH cl m' S' → SV m' env σ' → Q σ' m'.H
def liftD (D : Ends) : Mi.Sp := { nx := liftE cl m D.nx, rt := liftQ cl m D.rt, ct := liftE cl m D.ct }
end
section
variable (P : Pg) (cl : Cl) (k : Nat) (X : Cx) (W : WX)
def tSt (s : Mi.St) : TS := fun D σ H => ∃ m env S, m.K = X.K ∧ m.H = H ∧ SH cl m S ∧ SV m env σ ∧ wS P.con P.sub (callW P k) s (liftXS cl X.mg m W) (liftD cl m D) env S
def tSts (s : Sts) : TS := fun D σ H => ∃ m env S, m.K = X.K ∧ m.H = H ∧ SH cl m S ∧ SV m env σ ∧ wSs P.con P.sub (callW P k) s (liftXS cl X.mg m W) (liftD cl m D) env S
end
section
variable {P : Pg} {cl : Cl} {k : Nat} {X : Cx} {W : WX} {o : Ko} {m m0 m1 : Sm} {env : Env} {S : Hm} {σ : L2.St} {D : Ends}
theorem liftXS.ev {mg : Str → Option Value} (e : Ev m m1) {c : String} {env : Env} {S : Hm} (h : liftXS cl mg m W c env S) : liftXS cl mg m1 W c env S :=
  fun m' σ' C e' hS hV hC => h m' σ' C (e.trans e') hS hV hC
theorem liftE.ev {Q : L2.St → Hp → Prop} (e : Ev m m1) {env : Env} {S : Hm} (h : liftE cl m Q env S) : liftE cl m1 Q env S := fun m' σ' e' hS hV => h m' σ' (e.trans e') hS hV
theorem liftD.ev (e : Ev m m1) : Sp.Le (liftD cl m D) (liftD cl m1 D) := ⟨fun _ _ h => liftE.ev e h, fun _ _ h => liftQ.ev e (fun _ _ _ q => q) h, fun _ _ h => liftE.ev e h⟩
theorem lx (e0 : Ev m0 m) (hS : SH cl m S) (hV : SV m env σ) {c : String} {S1 : Hm} (h1 : liftXS cl X.mg m0 W c env S1) : liftX cl X.mg m (fun c d H => W c d σ H) c S1 := fun m' C e1 hS1 hC => h1 m' σ C (e0.trans e1) hS1 (hV.up (e1.up hS)) hC
theorem sE_of {e : E} {Q1 : Post} {R : VK} (hK : m.K = X.K) (hS : SH cl m S) (hV : SV m env σ) (e0 : Ev m0 m) (h : wE P.con (callW P k) (fun c S' => liftXS cl X.mg m0 W c env S') e env S Q1)
    (hq : ∀ m1 x S1 v, Ev m m1 → SH cl m1 S1 → RD m1 v x → SV m1 env σ → Q1 v S1 → R x m1.H) : tE P cl k X W e σ m.H R :=
  tE_of (m0 := m) hK hS hV (Ev.refl m) (wE_mono (callW_mono P k) (fun c S1 h1 => lx e0 hS hV h1) e (fun _ _ h => h) h) hq
theorem sEs_of {e : Es} {Q1 : List Val → Hm → Prop} {R : List V → Hp → Prop} (hK : m.K = X.K) (hS : SH cl m S) (hV : SV m env σ) (e0 : Ev m0 m) (h : wEs P.con (callW P k) (fun c S' => liftXS cl X.mg m0 W c env S') e env S Q1)
    (hq : ∀ m1 x S1 v, Ev m m1 → SH cl m1 S1 → RDs m1 v x → SV m1 env σ → Q1 v S1 → R x m1.H) : tEs P cl k X W e σ m.H R :=
  tEs_of (m0 := m) hK hS hV (Ev.refl m) (wEs_mono (callW_mono P k) (fun c S1 h1 => lx e0 hS hV h1) e (fun _ _ h => h) h) hq
theorem sT_of {e : T} {Q1 : Bool → Hm → Prop} {R : Bool → Hp → Prop} (hK : m.K = X.K) (hS : SH cl m S) (hV : SV m env σ) (e0 : Ev m0 m) (h : wT P.con (callW P k) (fun c S' => liftXS cl X.mg m0 W c env S') e env S Q1)
    (hq : ∀ m1 S1 b, Ev m m1 → SH cl m1 S1 → SV m1 env σ → Q1 b S1 → R b m1.H) : tTs P cl k X W e σ m.H R :=
  tTs_of (m0 := m) hK hS hV (Ev.refl m) (wT_mono (callW_mono P k) (fun c S1 h1 => lx e0 hS hV h1) e (fun _ _ h => h) h) hq
theorem sSrc_of {src : Src} {Q1 : List Val → (Hm → Prop) → Hm → Prop} {R : It → Hp → Prop} (hK : m.K = X.K) (hS : SH cl m S) (hV : SV m env σ) (e0 : Ev m0 m) (h : wSrc P.con (callW P k) (fun c S' => liftXS cl X.mg m0 W c env S') src env S Q1)
    (hq : ∀ m1 J S1 items g, Ev m m1 → SH cl m1 S1 → ItOk cl m1 J items g → SV m1 env σ → Q1 items g S1 → R J m1.H) : tSrc P cl k X W src σ m.H R :=
  tSrc_of (m0 := m) hK hS hV (Ev.refl m) (wSrc_mono (callW_mono P k) (fun c S1 h1 => lx e0 hS hV h1) src (fun _ _ _ h => h) h) hq
theorem PS.imp {st : Stmt} {t t' : TS} (h : PS X st t) (f : ∀ D σ H, t' D σ H → t D σ H) : PS X st t' := ⟨fun pins s σ H D I hw => h.run pins s σ H D I (f _ _ _ hw)⟩
theorem PSs.imp {st : List Stmt} {t t' : TS} (h : PSs X st t) (f : ∀ D σ H, t' D σ H → t D σ H) : PSs X st t' := ⟨fun pins s σ H D I hw => h.run pins s σ H D I (f _ _ _ hw)⟩
/-- .. with the written part in mind -/
theorem PS.kf {st : Stmt} {t : TS} (h : PS X st t) : PS X st (fun D σ H => t { D with nx := fun σ' H' => KF X.K H' → D.nx σ' H' } σ H) := ⟨fun pins s σ H D I hw => thn (h.run pins s σ H _ I hw) fun f s1 q => by
  cases f with
  | next => obtain ⟨σ', H', I', q⟩ := q; exact ⟨σ', H', I', q (kfree I')⟩
  | ret v => exact q
  | brk => exact q
  | cont => exact q⟩

/-- a statement's context -/
structure XSt (P : Pg) (cl : Cl) (X : Cx) (k : Nat) (o : Ko) (W : WX) : Prop where
  xo : XO P cl X k o W
  po : (!o.hot) = true → PassesOwn (model X.prog X.w) X.A X.env X.xe
  tks : L2N.Takes X W
  stk : X.stack = X.env :: X.outer
  frm : X.env.frame = some X.env.locals
  fk : o.sc.kind = .function
variable {e a c : E} {ex : Expr} {pos p' : Pos} {st : Stmt} {rest : List Stmt} {s : Mi.St} {ss : Sts}
theorem ss_nil : PSs X [] (tSts P cl k X W .nil) :=
  PSs.imp pss_nil fun D σ H ⟨m, env, S, hK, eH, hS, hV, h⟩ => by
    subst eH
    simp only [wSs] at h
    exact h m σ (Ev.refl m) hS hV
theorem ss_cons (h1 : PS X st (tSt P cl k X W s)) (h2 : PSs X rest (tSts P cl k X W ss)) : PSs X (st :: rest) (tSts P cl k X W (.cons s ss)) :=
  PSs.imp (pss_cons h1 h2) fun D σ H ⟨m, env, S, hK, eH, hS, hV, h⟩ => by
    subst eH
    simp only [wSs] at h
    refine ⟨m, env, S, hK, rfl, hS, hV, wS_mono (callW_mono P k) s (D := { nx := fun env' S' => wSs P.con P.sub (callW P k) ss (liftXS cl X.mg m W) (liftD cl m D) env' S', rt := (liftD cl m D).rt, ct := (liftD cl m D).ct }) (D' := liftD cl m { D with nx := tSts P cl k X W ss D }) (fun _ _ _ h => h) ⟨fun env' S' h1 m' σ' e' hS' hV' => ?_, fun _ _ h => h, fun _ _ h => h⟩ h⟩
    exact ⟨m', env', S', e'.k.trans hK, rfl, hS', hV', wSs_mono (callW_mono P k) ss (fun _ _ _ h => liftXS.ev e' h) (liftD.ev e') h1⟩
theorem s_set {i : Nat} {x : Str} (xo : XO P cl X k o W) (hn : NmOk X i (.Name x p')) (hs : swapsWith ex (some (.Name x p')) pos.line X.env = pure false) (he : PE X ex (tE P cl k X W e)) : PS X (.Assign [.Name x p'] ex pos) (tSt P cl k X W (.set i e)) := by
  obtain ⟨x', pos', h0, h1, h2, h3⟩ := hn.ok
  cases h0
  refine PS.imp (ps_set xo.nd h1 h2 he hs h3) fun D σ H ⟨m, env, S, hK, eH, hS, hV, h⟩ => ?_
  subst eH
  simp only [wS] at h
  exact sE_of hK hS hV (Ev.refl m) h fun m1 x S1 v e1 hS1 r1 hV1 h1 => h1 m1 _ e1 hS1 (hV1.set r1)
variable {elt : E} {tgt : Tg} {src : Src} {cond : Ot} {own : List (String × Nat)} {eelt tg iter : Expr} {ifs : List Expr} {scope : Scope} {spos : Pos}
theorem s_setLc {i : Nat} {y : Str} (xo : XO P cl X k o W) (hcold : (!o.hot) = true) (hy : X.N[i]? = some y) (hyl : X.env.scope.names.lookup y = some .local) (hsw : swapsWith (.ListComp eelt [⟨tg, iter, ifs, 0⟩] scope pos) (some (.Name y p')) spos.line X.env = pure true)
    (hsrc : PI X tg iter (tSrc P cl k X W src)) (hfold : ∀ x, foldedSetIterable iter X.env x = pure x) (L : LcOk P cl k X W elt tgt cond own eelt tg ifs scope) : PS X (.Assign [.Name y p'] (.ListComp eelt [⟨tg, iter, ifs, 0⟩] scope pos) spos) (tSt P cl k X W (.set i (.lc elt tgt src cond own))) :=
  PS.imp (PS.kf (psE_setLc (xo.calm hcold) xo.nd xo.fr xo.tk hy hyl hsw hsrc L.ok (L.pg xo hcold) L.cd L.el hfold)) fun D σ H ⟨m, env, S, hK, eH, hS, hV, h⟩ => by
    subst eH
    rw [own_snd]
    simp only [wS] at h
    exact lc_run hK hS hV L.sl (Q := fun x H1 => D.nx (σ.set i (some x)) H1) (fun v S' h m' x e hS' r => h m' _ e hS' ((hV.up (e.up hS)).set r))
      (wE_mono (callW_mono P k) (fun c S1 h1 => lx (Ev.refl m) hS hV h1) _ (fun _ _ h => h) h)
theorem s_setT {is : List Nat} (xo : XO P cl X k o W) (hcold : (!o.hot) = true) (hn : TgOk X (.tp is) tg) (hs : swapsWith ex (some tg) pos.line X.env = pure false) (hw : swappedStores [tg] ex X.env = pure none) (ha : (assignEach [tg] X.env).map (·.2) = [assign tg X.env]) (he : PE X ex (tE P cl k X W e)) : PS X (.Assign [tg] ex pos) (tSt P cl k X W (.setT is e)) :=
  PS.imp (ps_asg he (hn.pg xo.nd (xo.calm hcold)) hs hw ha) fun D σ H ⟨m, env, S, hK, eH, hS, hV, h⟩ => by
    subst eH
    simp only [wS] at h
    refine sE_of hK hS hV (Ev.refl m) h fun m1 x S1 v e1 hS1 r1 hV1 h1 => ?_
    exact tG_of (e1.k.trans hK) r1 hV1 h1 fun env' xs h2 hV2 => h2 m1 _ e1 hS1 hV2
theorem s_par {i j : Nat} {x y : Str} {ea eb : Expr} {es' : Es} {px py pt : Pos} {kt k2 pt2} (xo : XO P cl X k o W) (hcold : (!o.hot) = true) (hi : X.N[i]? = some x) (hj : X.N[j]? = some y) (hij : i ≠ j)
    (hx : X.env.scope.names.lookup x = some .local) (hy : X.env.scope.names.lookup y = some .local) (ha : PA X [ea, eb] (tEs P cl k X W es'))
    (hw : swappedStores [.Tuple [.Name x px, .Name y py] kt pt] (.Tuple [ea, eb] k2 pt2) X.env = pure (some [x, y])) :
    PS X (.Assign [.Tuple [.Name x px, .Name y py] kt pt] (.Tuple [ea, eb] k2 pt2) pos) (tSt P cl k X W (.par [i, j] es')) :=
  PS.imp (ps_par (xo.calm hcold) xo.nd hi hj hij hx hy ha hw) fun D σ H ⟨m, env, S, hK, eH, hS, hV, h⟩ => by
    subst eH
    simp only [wS] at h
    refine sEs_of hK hS hV (Ev.refl m) h fun m1 x S1 v e1 hS1 r1 hV1 h1 => ?_
    obtain ⟨hl, h1⟩ := h1
    cases r1 with
    | nil => cases hl
    | cons ra r1 =>
      cases r1 with
      | nil => cases hl
      | cons rb r1 =>
        cases r1 with
        | nil => exact ⟨_, _, rfl, h1 m1 _ e1 hS1 ((hV1.set ra).set rb)⟩
        | cons _ _ => simp at hl
def tPar3 (i j l : Nat) (ta : TA) : TS := fun D e H => ta e H fun vs H1 => ∃ v1 v2 v3, vs = [v1, v2, v3] ∧ D.nx (((e.set i (some v1)).set j (some v2)).set l (some v3)) H1
theorem set_turn {α : Type} {e : List α} {i j l : Nat} {a b c : α} (ij : i ≠ j) (il : i ≠ l) (jl : j ≠ l) : ((e.set l c).set j b).set i a = ((e.set i a).set j b).set l c := by
  rw [List.set_comm (l := e.set l c) b a ij.symm, List.set_comm (l := e) c a il.symm, List.set_comm (l := e.set i a) c b jl.symm]
theorem three_of {vs : List V} {us : List Value} {v1 v2 v3 : V} (ev : vs = [v1, v2, v3]) (r : Vals vs us) : ∃ u1 u2 u3, us = [u1, u2, u3] ∧ RelV v1 u1 ∧ RelV v2 u2 ∧ RelV v3 u3 := by
  subst ev
  rcases r with _ | ⟨p1, _ | ⟨p2, _ | ⟨p3, _ | ⟨_, _⟩⟩⟩⟩
  exact ⟨_, _, _, rfl, p1, p2, p3⟩
theorem ps_par3 {i j l : Nat} {x y z : Str} {ea eb ec : Expr} {ta : TA} {px py pz pt : Pos} {kt k2 pt2} (calm : X.calm = true) (nd : X.N.Nodup) (hi : X.N[i]? = some x) (hj : X.N[j]? = some y) (hl : X.N[l]? = some z) (hij : i ≠ j) (hil : i ≠ l) (hjl : j ≠ l)
    (hx : X.env.scope.names.lookup x = some .local) (hy : X.env.scope.names.lookup y = some .local) (hz : X.env.scope.names.lookup z = some .local) (ha : PA X [ea, eb, ec] ta)
    (hw : swappedStores [.Tuple [.Name x px, .Name y py, .Name z pz] kt pt] (.Tuple [ea, eb, ec] k2 pt2) X.env = pure (some [x, y, z])) :
    PS X (.Assign [.Tuple [.Name x px, .Name y py, .Name z pz] kt pt] (.Tuple [ea, eb, ec] k2 pt2) pos) (tPar3 i j l ta) := by
  refine ⟨fun pn t e H Z J g => ?_⟩
  rw [exec_Assign_arm]
  refine wpAny_bind (wpAny_standAt (wpAny_bind ?_))
  rw [show swapsWithSole [.Tuple [.Name x px, .Name y py, .Name z pz] kt pt] (.Tuple [ea, eb, ec] k2 pt2) pos.line X.env = pure false from rfl]
  refine wpAny_pure ?_
  rw [if_neg Bool.false_ne_true]
  refine wpAny_bind (Tuple_ (thn (ha.run _ pn t e H _ J g) fun us t1 ⟨vs, H1, J1, r1, v1, v2, v3, ev, q⟩ => ?_))
  obtain ⟨u1, u2, u3, rfl, r11, r12, r13⟩ := three_of ev r1
  refine wpAny_newObj_type ?_ (show 3 ≤ sizeLine from by decide)
  have J2 : Inv X pn e H1 { t1 with heap := t1.heap.push { cls := .type "tuple", data := .seq [u1, u2, u3].toArray } } := J1.kept (t' := t1.toks) fun _ _ w => Heap.get?_push_of_some _ w
  rw [hw]
  refine wpAny_bind (wpAny_pure ?_)
  show wpAny _ X.A (do rule "assign.swapped-stores"; let us ← unpackItems (.ref t1.heap.objs.size) 3 none; assignInOrder [fun v => bindName X.env z v, fun v => bindName X.env y v, fun v => bindName X.env x v] us.reverse; pure Flow.next) _ _ _
  refine wpAny_bind (wpAny_rule (wpAny_bind ?_))
  refine unpackItems_tuple (items := #[u1, u2, u3]) (J.ok.hd calm) (IsTup.new t1.heap _) fun h3 k3 => ?_
  have J3 := J2.kept (h' := h3) (t' := t1.toks) fun n o w => k3 n o (Nat.ne_of_lt (Heap.lt_size w)) w
  show wpAny _ _ (assignInOrder [fun v => bindName X.env z v, fun v => bindName X.env y v, fun v => bindName X.env x v] [u3, u2, u1] >>= fun _ => pure Flow.next) _ _ _
  refine wpAny_bind (assignInOrder_cons (wpAny_bindName (store_ok J3 nd hl (.inl hz) r13 (fun t4 J4 => ?_) (.inr hz))))
  refine assignInOrder_cons (wpAny_bindName (store_ok J4 nd hj (.inl hy) r12 (fun t5 J5 => ?_) (.inr hy)))
  refine assignInOrder_cons (wpAny_bindName (store_ok J5 nd hi (.inl hx) r11 (fun t6 J6 => assignInOrder_nil (wpAny_pure ?_)) (.inr hx)))
  rw [set_turn hij hil hjl] at J6
  exact ⟨_, H1, J6, q⟩
theorem s_par3 {i j l : Nat} {x y z : Str} {ea eb ec : Expr} {es' : Es} {px py pz pt : Pos} {kt k2 pt2} (xo : XO P cl X k o W) (hcold : (!o.hot) = true) (hi : X.N[i]? = some x) (hj : X.N[j]? = some y) (hl : X.N[l]? = some z) (hij : i ≠ j) (hil : i ≠ l) (hjl : j ≠ l)
    (hx : X.env.scope.names.lookup x = some .local) (hy : X.env.scope.names.lookup y = some .local) (hz : X.env.scope.names.lookup z = some .local) (ha : PA X [ea, eb, ec] (tEs P cl k X W es'))
    (hw : swappedStores [.Tuple [.Name x px, .Name y py, .Name z pz] kt pt] (.Tuple [ea, eb, ec] k2 pt2) X.env = pure (some [x, y, z])) :
    PS X (.Assign [.Tuple [.Name x px, .Name y py, .Name z pz] kt pt] (.Tuple [ea, eb, ec] k2 pt2) pos) (tSt P cl k X W (.par [i, j, l] es')) :=
  PS.imp (ps_par3 (xo.calm hcold) xo.nd hi hj hl hij hil hjl hx hy hz ha hw) fun D σ H ⟨m, env, S, hK, eH, hS, hV, h⟩ => by
    subst eH
    simp only [wS] at h
    refine sEs_of hK hS hV (Ev.refl m) h fun m1 x S1 v e1 hS1 r1 hV1 h1 => ?_
    obtain ⟨hlen, h1⟩ := h1
    rcases r1 with _ | ⟨ra, _ | ⟨rb, _ | ⟨rc, _ | ⟨_, _⟩⟩⟩⟩
    · cases hlen
    · cases hlen
    · cases hlen
    · exact ⟨_, _, _, rfl, h1 m1 _ e1 hS1 (((hV1.set ra).set rb).set rc)⟩
    · simp at hlen
theorem noswap_sub {ex a b : Expr} {c : Pos} {l : Nat} {env : PySem.Env} : swapsWith ex (some (.Subscript a b c)) l env = pure false := by
  cases ex <;> rfl
theorem s_setI {oo i : E} {eo ei : Expr} {p2 : Pos} (xo : XO P cl X k o W) (hi : plainIx ei = true) (ho : PE X eo (tE P cl k X W oo)) (hx : PE X ei (tE P cl k X W i)) (he : PE X ex (tE P cl k X W e)) : PS X (.Assign [.Subscript eo ei p2] ex pos) (tSt P cl k X W (.setI oo i e)) :=
  PS.imp (ps_asg he (pg_sub ho hx (set_ok (cl := cl) xo.u1) (by cases ei <;> first | (intro _; rfl) | cases hi)) (by simpa only [swapsWithSole] using noswap_sub (ex := ex) (a := eo) (b := ei) (c := p2) (l := pos.line) (env := X.env)) (by cases ex <;> rfl)) fun D σ H ⟨m, env, S, hK, eH, hS, hV, h⟩ => by
    subst eH
    simp only [wS] at h
    refine sE_of hK hS hV (Ev.refl m) h fun m1 x S1 v e1 hS1 r1 hV1 h1 => ?_
    refine sE_of (e1.k.trans hK) hS1 hV1 e1 h1 fun m2 y S2 w e2 hS2 r2 hV2 h2 => ?_
    refine sE_of ((e1.trans e2).k.trans hK) hS2 hV2 (e1.trans e2) h2 fun m3 z S3 u e3 hS3 r3 hV3 h3 => ?_
    have e13 := (e1.trans e2).trans e3
    exact ⟨m3, S3, w, u, v, e13.k.trans hK, rfl, hS3, r2.up (e3.up hS2), r3, r1.up ((e2.trans e3).up hS1), setW_mono (fun S4 h4 m' e4 hS4 => h4 m' σ (e13.trans e4) hS4 (hV3.up (e4.up hS3))) h3⟩
theorem s_setF {oo : E} {eo : Expr} {f : String} (xo : XO P cl X k o W) (hf : f ∈ P.flds) (hc : swapsWith ex (some (.Attribute eo (Str.ofString f) p')) pos.line X.env = pure false) (ho : PE X eo (tE P cl k X W oo)) (he : PE X ex (tE P cl k X W e)) : PS X (.Assign [.Attribute eo (Str.ofString f) p'] ex pos) (tSt P cl k X W (.setF oo f e)) :=
  PS.imp (ps_fld ho he hc) fun D σ H ⟨m, env, S, hK, eH, hS, hV, h⟩ => by
    subst eH
    simp only [wS] at h
    refine sE_of hK hS hV (Ev.refl m) h fun m1 x S1 v e1 hS1 r1 hV1 h1 => ?_
    refine sE_of (e1.k.trans hK) hS1 hV1 e1 h1 fun m2 y S2 w e2 hS2 r2 hV2 h2 => ?_
    obtain ⟨n, c, fs, rfl, h3, h4, h5⟩ := h2
    cases r2 with
    | @ref _ y hy =>
    obtain ⟨C, dx, gs, hy2, hC, rf⟩ := hS2.ob n _ y h3 hy
    have r1' := r1.up (e2.up hS1)
    have e3 : Ev m2 { m2 with H := upd m2.H y (.ins C dx (L2.putF (Str.ofString f) x gs)) } := Ev.write hy hy2
    have hS3 : SH cl { m2 with H := upd m2.H y (.ins C dx (L2.putF (Str.ofString f) x gs)) } (S2.set n (.ins c (putF f v fs))) := hS2.write hy hy2 ⟨C, dx, _, upd_same, hC, (rf.put f r1').up (e3.up hS2)⟩
    exact ⟨y, C, dx, gs, rfl, hy2, (xo.ln.clc c C hC).2, xo.ln.fld c C hC f hf, by rw [← rf.length]; exact h4, h5 _ σ ((e1.trans e2).trans e3) hS3 (hV2.up (e3.up hS2))⟩
theorem s_aug {i : Nat} {x : Str} {op : Operator} (xo : XO P cl X k o W) (hn : NmOk X i (.Name x p')) (he : PE X ex (tE P cl k X W e)) : PS X (.AugAssign (.Name x p') op ex pos) (tSt P cl k X W (.aug i op e)) := by
  obtain ⟨x', pos', h0, h1, h2, h3⟩ := hn.ok
  cases h0
  refine PS.imp (ps_aug xo.nd h1 h2 he (opr_ibin (cl := cl) op) h3) fun D σ H ⟨m, env, S, hK, eH, hS, hV, h⟩ => ?_
  subst eH
  simp only [wS] at h
  obtain ⟨v, hv, h⟩ := h
  obtain ⟨x, hx, rx⟩ := hV.get hv
  refine ⟨x, hx, sE_of hK hS hV (Ev.refl m) h fun m1 y S1 w e1 hS1 r1 hV1 h1 => ?_⟩
  exact ⟨m1, S1, v, w, e1.k.trans hK, rfl, hS1, rx.up (e1.up hS), r1, ibinW_mono (fun z S2 h2 m2 y2 e2 hS2 r2 => h2 m2 _ (e1.trans e2) hS2 ((hV1.up (e2.up hS1)).set r2)) h1⟩
theorem s_augI {oo i : E} {eo ei : Expr} {p2 : Pos} {op : Operator} (xo : XO P cl X k o W) (hi : plainIx ei = true) (ho : PE X eo (tE P cl k X W oo)) (hx : PE X ei (tE P cl k X W i)) (he : PE X ex (tE P cl k X W e)) : PS X (.AugAssign (.Subscript eo ei p2) op ex pos) (tSt P cl k X W (.augI oo i op e)) :=
  PS.imp (ps_augS ho hx (get_ok (cl := cl) xo.u1) he (opr_ibin (cl := cl) op) (set_ok (cl := cl) xo.u1) (by cases ei <;> first | (intros; rfl) | cases hi)) fun D σ H ⟨m, env, S, hK, eH, hS, hV, h⟩ => by
    subst eH
    simp only [wS] at h
    refine sE_of hK hS hV (Ev.refl m) h fun m1 x S1 v e1 hS1 r1 hV1 h1 => ?_
    refine sE_of (e1.k.trans hK) hS1 hV1 e1 h1 fun m2 y S2 w e2 hS2 r2 hV2 h2 => ?_
    have e12 := e1.trans e2
    refine ⟨m2, S2, v, w, e12.k.trans hK, rfl, hS2, r1.up (e2.up hS1), r2, h2.1, subW_mono (fun old S3 h3 m3 z e3 hS3 r3 => ?_) h2.2⟩
    have e13 := e12.trans e3
    refine sE_of (e13.k.trans hK) hS3 (hV2.up (e3.up hS2)) e13 h3 fun m4 z4 S4 v4 e4 hS4 r4 hV4 h4 => ?_
    have e14 := e13.trans e4
    refine ⟨m4, S4, old, v4, e14.k.trans hK, rfl, hS4, r3.up (e4.up hS3), r4, ibinW_mono (fun r S5 h5 m5 z5 e5 hS5 r5 => ?_) h4⟩
    have e15 := e14.trans e5
    exact ⟨m5, S5, v, w, r, e15.k.trans hK, rfl, hS5, (((r1.up (e2.up hS1)).up (e3.up hS2)).up (e4.up hS3)).up (e5.up hS4), ((r2.up (e3.up hS2)).up (e4.up hS3)).up (e5.up hS4), r5, setW_mono (fun S6 h6 m' e6 hS6 => h6 m' σ (e15.trans e6) hS6 ((hV4.up (e5.up hS4)).up (e6.up hS5))) h5⟩
theorem s_augF {oo : E} {eo : Expr} {f : String} {op : Operator} (xo : XO P cl X k o W) (hf : f ∈ P.flds) (ho : PE X eo (tE P cl k X W oo)) (he : PE X ex (tE P cl k X W e)) : PS X (.AugAssign (.Attribute eo (Str.ofString f) p') op ex pos) (tSt P cl k X W (.augF oo f op e)) :=
  PS.imp (ps_fldaug ho he (opr_ibin (cl := cl) op)) fun D σ H ⟨m, env, S, hK, eH, hS, hV, h⟩ => by
    subst eH
    simp only [wS] at h
    refine sE_of hK hS hV (Ev.refl m) h fun m1 y S1 w e1 hS1 r1 hV1 h1 => ?_
    obtain ⟨n, c, fs, v, rfl, h3, h4, h5⟩ := h1
    cases r1 with
    | @ref _ y hy =>
    obtain ⟨C, dx, gs, hy2, hC, rf⟩ := hS1.ob n _ y h3 hy
    rcases rf.look f with ⟨v', x, q1, q2, q3⟩ | ⟨q, _⟩
    · rw [h4] at q1
      cases q1
      refine ⟨y, C, dx, gs, x, rfl, hy2, (xo.ln.clc c C hC).2, xo.ln.fld c C hC f hf, q2, ?_⟩
      refine sE_of (e1.k.trans hK) hS1 hV1 e1 h5 fun m2 z S2 u e2 hS2 r2 hV2 h6 => ?_
      refine ⟨m2, S2, v, u, (e1.trans e2).k.trans hK, rfl, hS2, q3.up (e2.up hS1), r2, ibinW_mono (fun r S3 h7 m3 z3 e3 hS3 r3 => ?_) h6⟩
      obtain ⟨fs', h8, h9, h10⟩ := h7
      have hy3 := em_get (e2.trans e3).em hy
      obtain ⟨C', dx', gs', hy4, hC', rf'⟩ := hS3.ob n _ y h8 hy3
      have hCC : C' = C := by
        have a1 := (xo.ln.clc c C hC).1
        have a2 := (xo.ln.clc c C' hC').1
        rw [a1] at a2
        cases a2
        rfl
      subst hCC
      have e4 : Ev m3 { m3 with H := upd m3.H y (.ins C' dx' (L2.putF (Str.ofString f) z3 gs')) } := Ev.write hy3 hy4
      have hS4 : SH cl { m3 with H := upd m3.H y (.ins C' dx' (L2.putF (Str.ofString f) z3 gs')) } (S3.set n (.ins c (putF f r fs'))) := hS3.write hy3 hy4 ⟨C', dx', _, upd_same, hC', (rf'.put f r3).up (e4.up hS3)⟩
      exact ⟨dx', gs', hy4, by rw [← rf'.length]; exact h9, h10 _ σ (((e1.trans e2).trans e3).trans e4) hS4 (hV2.up ((e3.trans e4).up hS2))⟩
    · rw [h4] at q; cases q
theorem s_expr (hc : notComp ex = true) (he : PE X ex (tE P cl k X W e)) : PS X (.Expr ex pos) (tSt P cl k X W (.expr e)) :=
  PS.imp (ps_expr he (noswap hc)) fun D σ H ⟨m, env, S, hK, eH, hS, hV, h⟩ => by
    subst eH
    simp only [wS] at h
    exact sE_of hK hS hV (Ev.refl m) h fun m1 x S1 v e1 hS1 r1 hV1 h1 => h1 m1 _ e1 hS1 hV1
theorem s_next (h : PS X st tNext) : PS X st (tSt P cl k X W .pass) :=
  PS.imp h fun D σ H ⟨m, env, S, hK, eH, hS, hV, h⟩ => by
    subst eH
    simp only [wS] at h
    exact h m _ (Ev.refl m) hS hV
theorem s_raise {c : String} {msg : Str} {j : Nat} {p p2 : Pos} (xo : XO P cl X k o W) (tks : L2N.Takes X W) (hcold : (!o.hot) = true) (hg : Gl X (Str.ofString c)) (hdb : (Str.ofString c == ("__debug__" : Str)) = false) (hc : c ∈ P.excs) : PS X (.Raise (some (.Call (.Name (Str.ofString c) p) [.Constant (.str msg) j p2] [] p')) none pos) (tSt P cl k X W (.raise c)) := by
  obtain ⟨C, g, q, kp, sb, ty⟩ := xo.ln.exc c hc
  refine PS.imp (L2N.ps_raise (xo.calm hcold) tks (L2N.pmk_own PySem.F.excBase_ValueError q g kp (raises_own sb ty) hg hdb)) fun D σ H ⟨m, env, S, hK, eH, hS, hV, h⟩ => ?_
  subst eH
  simp only [wS] at h
  exact h m σ C (Ev.refl m) hS hV g
theorem s_lck {i : Nat} (hs : PS X st (tSt P cl k X W s)) : PS X st (tSt P cl k X W (.lck i s)) :=
  PS.imp (ps_lock hs) fun D σ H ⟨m, env, S, hK, eH, hS, hV, h⟩ => by
    subst eH
    simp only [wS] at h
    obtain ⟨n, kvs, h1, h2, h3⟩ := h
    obtain ⟨v, hv, rv⟩ := hV.get h1
    cases rv with
    | @ref _ a ha =>
    obtain ⟨ws, h4, r⟩ := hS.ob n _ a h2 ha
    refine ⟨a, _, h4, trivial, fun od => ?_⟩
    obtain ⟨e1, hS1⟩ := lock_sh (od := od) hS ha h4 r
    refine ⟨{ m with H := upd m.H a (.frz od (.dK ws)) }, env, _, hK, rfl, hS1, hV.up (e1.up hS), wS_mono (callW_mono P k) s (fun _ _ _ h => liftXS.ev e1 h) ⟨fun env' S' h m' σ' e' hS' hV' => ?_, fun v S' h m' x e' hS' r' => ?_, fun env' S' h m' σ' e' hS' hV' => ?_⟩ h3⟩
    · obtain ⟨h6, up, e3, hS3⟩ := unlock_sh ha h4 e' hS' h.1
      exact ⟨h6, h.2 _ σ' e3 hS3 (hV'.up up)⟩
    · obtain ⟨h6, up, e3, hS3⟩ := unlock_sh ha h4 e' hS' h.1
      exact ⟨h6, h.2 _ x e3 hS3 (r'.up up)⟩
    · obtain ⟨h6, up, e3, hS3⟩ := unlock_sh ha h4 e' hS' h.1
      exact ⟨h6, h.2 _ σ' e3 hS3 (hV'.up up)⟩
theorem s_cont : PS X (.Continue pos) (tSt P cl k X W .cont) :=
  PS.imp ps_continue fun D σ H ⟨m, env, S, hK, eH, hS, hV, h⟩ => by
    subst eH
    simp only [wS] at h
    exact h m _ (Ev.refl m) hS hV
theorem s_ret (he : PE X ex (tE P cl k X W e)) : PS X (.Return (some ex) pos) (tSt P cl k X W (.ret e)) :=
  PS.imp (ps_ret he) fun D σ H ⟨m, env, S, hK, eH, hS, hV, h⟩ => by
    subst eH
    simp only [wS] at h
    exact sE_of hK hS hV (Ev.refl m) h fun m1 x S1 v e1 hS1 r1 hV1 h1 => h1 m1 _ e1 hS1 r1
theorem s_retN : PS X (.Return none pos) (tSt P cl k X W .retN) :=
  PS.imp ps_retN fun D σ H ⟨m, env, S, hK, eH, hS, hV, h⟩ => by
    subst eH
    simp only [wS] at h
    exact h m _ (Ev.refl m) hS .non
variable {sa sb : Sts} {xa xb : List Stmt} {t : T}
theorem s_if (hc : PT X ex (tTs P cl k X W t)) (ha : PSs X xa (tSts P cl k X W sa)) (hb : PSs X xb (tSts P cl k X W sb)) : PS X (.If ex xa xb pos) (tSt P cl k X W (.ife t sa sb)) :=
  PS.imp (ps_if hc ha hb) fun D σ H ⟨m, env, S, hK, eH, hS, hV, h⟩ => by
    subst eH
    simp only [wS] at h
    refine sT_of hK hS hV (Ev.refl m) h fun m1 S1 b e1 hS1 hV1 h1 => ?_
    cases b with
    | true =>
      simp only [if_true] at h1 ⊢
      exact ⟨m1, env, S1, e1.k.trans hK, rfl, hS1, hV1, wSs_mono (callW_mono P k) sa (fun _ _ _ h => liftXS.ev e1 h) (liftD.ev e1) h1⟩
    | false =>
      simp only [Bool.false_eq_true, if_false] at h1 ⊢
      exact ⟨m1, env, S1, e1.k.trans hK, rfl, hS1, hV1, wSs_mono (callW_mono P k) sb (fun _ _ _ h => liftXS.ev e1 h) (liftD.ev e1) h1⟩
theorem s_while (xs : XSt P cl X k o W) (hcold : (!o.hot) = true) (hc : PT X ex (tTs P cl k X W t)) (ha : PSs X xa (tSts P cl k X W sa)) : PS X (.While ex xa [] pos) (tSt P cl k X W (.while t sa)) :=
  PS.imp (ps_while (xs.po hcold) hc ha) fun D σ H ⟨m, env, S, hK, eH, hS, hV, h⟩ => by
    subst eH
    simp only [wS] at h
    obtain ⟨n, h⟩ := h
    let wN : Nat → Env → Hm → Prop := whileN (fun env S K => wT P.con (callW P k) (fun c S' => liftXS cl X.mg m W c env S') t env S K) (wSs P.con P.sub (callW P k) sa (liftXS cl X.mg m W)) (liftD cl m D)
    refine ⟨fun μ σ' H' => ∃ m1 env1 S1, m1.K = X.K ∧ m1.H = H' ∧ Ev m m1 ∧ SH cl m1 S1 ∧ SV m1 env1 σ' ∧ wN μ env1 S1, ⟨n, m, env, S, hK, rfl, Ev.refl m, hS, hV, h⟩, ?_⟩
    rintro μ σ1 H1 ⟨m1, env1, S1, hK1, rfl, e1, hS1, hV1, h1⟩
    cases μ with
    | zero => exact h1.elim
    | succ μ =>
      refine sT_of hK1 hS1 hV1 e1 h1 fun m2 S2 b e2 hS2 hV2 h2 => ?_
      have e12 := e1.trans e2
      cases b with
      | false =>
        simp only [Bool.false_eq_true, if_false] at h2 ⊢
        exact h2 m2 _ e12 hS2 hV2
      | true =>
        simp only [if_true] at h2 ⊢
        refine ⟨fun σ' H' => ∃ m1 env1 S1, m1.K = X.K ∧ m1.H = H' ∧ Ev m m1 ∧ SH cl m1 S1 ∧ SV m1 env1 σ' ∧ wN μ env1 S1, fun σ' H' hn => ⟨μ, Nat.lt_succ_self _, hn⟩, ?_⟩
        refine ⟨m2, env1, S2, e2.k.trans hK1, rfl, hS2, hV2, wSs_mono (callW_mono P k) sa (fun _ _ _ h => liftXS.ev e12 h) ⟨fun env3 S3 h3 m3 σ3 e3 hS3 hV3 => ?_, fun _ _ h => liftQ.ev e12 (fun _ _ _ q => q) h, fun env3 S3 h3 m3 σ3 e3 hS3 hV3 => ?_⟩ h2⟩
        · exact ⟨m3, env3, S3, (e12.trans e3).k.trans hK, rfl, e12.trans e3, hS3, hV3, h3⟩
        · exact ⟨m3, env3, S3, (e12.trans e3).k.trans hK, rfl, e12.trans e3, hS3, hV3, h3⟩
theorem forL_guard {tg : Tg} {g : Hm → Prop} {body : Mi.Sp → Env → Hm → Prop} {D : Mi.Sp} {vs : List Val} {env : Env} {S : Hm} (h : forL tg g body D vs env S) : g S := by
  cases vs <;> exact h.1
theorem s_for {tgt : Tg} {src : Src} (xs : XSt P cl X k o W) (hcold : (!o.hot) = true) (hi : PI X tg iter (tSrc P cl k X W src)) (hfold : ∀ x, foldedSetIterable iter X.env x = pure x) (ht : TgOk X tgt tg) (ha : PSs X xa (tSts P cl k X W sa)) : PS X (.For tg iter xa [] pos) (tSt P cl k X W (.for tgt src sa)) :=
  PS.imp (ps_for (xs.po hcold) (xs.xo.calm hcold) hi (PG.pre (ht.pg xs.xo.nd (xs.xo.calm hcold))) ha hfold) fun D σ H ⟨m, env, S, hK, eH, hS, hV, h⟩ => by
    subst eH
    simp only [wS] at h
    refine sSrc_of hK hS hV (Ev.refl m) h fun m1 J S1 items g e1 hS1 ok hV1 h1 => ?_
    have hK1 := e1.k.trans hK
    let fL : List Val → Env → Hm → Prop := forL tgt g (wSs P.con P.sub (callW P k) sa (liftXS cl X.mg m W)) (liftD cl m D)
    let LW : Nat → L2.St → Hp → Prop := fun i σ' H' => ∃ m2 env2 S2, m2.K = X.K ∧ m2.H = H' ∧ Ev m1 m2 ∧ SH cl m2 S2 ∧ SV m2 env2 σ' ∧ fL (items.drop i) env2 S2
    refine ⟨fun i μ σ' H' => μ = items.length - i ∧ i ≤ items.length ∧ LW i σ' H', ⟨items.length, by simp, Nat.zero_le _, m1, env, S1, hK1, rfl, Ev.refl m1, hS1, hV1, h1⟩, ?_⟩
    rintro i μ σ2 H2 ⟨rfl, hi, m2, env2, S2, hK2, rfl, e2, hS2, hV2, h2⟩
    have hg : g S2 := forL_guard h2
    have e12 := e1.trans e2
    by_cases he : i = items.length
    · refine .inl ⟨ok.stop i m2 S2 e2 hS2 hg (by omega), ?_⟩
      rw [List.drop_eq_nil_of_le (by omega)] at h2
      exact h2.2 m2 _ e12 hS2 hV2
    · have hlt : i < items.length := by omega
      refine .inr ⟨ok.go i m2 S2 items[i] e2 hS2 hg (List.getElem?_eq_getElem hlt), LW (i + 1), fun σ' H' lw => ⟨items.length - (i + 1), by omega, rfl, by omega, lw⟩, fun x H' y kf => ?_⟩
      rw [List.drop_eq_getElem_cons hlt] at h2
      obtain ⟨_, h2⟩ := h2
      obtain ⟨m3, rfl, e3, hS3, rv⟩ := ok.yld i m2 S2 items[i] x H' e2 hS2 hg (List.getElem?_eq_getElem hlt) y (by rw [hK2]; exact kf)
      have e13 := e12.trans e3
      refine tG_of (e13.k.trans hK) rv (hV2.up (e3.up hS2)) h2 fun env4 xs4 h4 hV4 => ?_
      refine ⟨m3, env4, S2, e13.k.trans hK, rfl, hS3, hV4, wSs_mono (callW_mono P k) sa (fun _ _ _ h => liftXS.ev e13 h) ⟨fun env5 S5 h5 m5 σ5 e5 hS5 hV5 => ?_, fun _ _ h => liftQ.ev e13 (fun _ _ _ q => q) h, fun env5 S5 h5 m5 σ5 e5 hS5 hV5 => ?_⟩ h4⟩
      · exact ⟨m5, env5, S5, (e13.trans e5).k.trans hK, rfl, (e2.trans e3).trans e5, hS5, hV5, h5⟩
      · exact ⟨m5, env5, S5, (e13.trans e5).k.trans hK, rfl, (e2.trans e3).trans e5, hS5, hV5, h5⟩
/-! ### try -/
theorem XSt.tr (xs : XSt P cl X k o W) (hcold : (!o.hot) = true) {W' : WX} {pn : List (Addr × Obj)} {xe : Value → Shared → Prop} (tk : L2N.Takes (X.tr pn xe) W') (po : PassesOwn (model X.prog X.w) X.A X.env xe) : XSt P cl (X.tr pn xe) k o W' where
  xo := { ln := xs.xo.ln, nd := xs.xo.nd, nn := xs.xo.nn, sc := xs.xo.sc, fnc := xs.xo.fnc, isi := xs.xo.isi, lx := xs.xo.lx, calm := xs.xo.calm, room := xs.xo.room, un := xs.xo.un, zc := xs.xo.zc, rmh := fun h => (by rw [h] at hcold; cases hcold), zx := fun h => (by rw [h] at hcold; cases hcold), hots := xs.xo.hots, tk := tkF_of xs.frm tk, fr := xs.xo.fr, fns := xs.xo.fns }
  tks := tk
  po := fun _ => po
  stk := xs.stk
  frm := xs.frm
  fk := xs.fk
def Ko.heat (o : Ko) : Ko := { o with hot := true }
theorem XSt.suite (xs : XSt P cl X k o W) (hcold : (!o.hot) = true) {a : Addr} {oe : Obj} {pn : List (Addr × Obj)} {c : String} (hc : ExO P X.K X.mg c oe) : XSt P (cl.at a c) (X.suite a ((a, oe) :: pn)) k o.heat noW where
  xo :=
    { ln := ⟨xs.xo.ln.con, xs.xo.ln.clc, xs.xo.ln.fld, xs.xo.ln.has, xs.xo.ln.exc, xs.xo.ln.bi⟩
      nd := xs.xo.nd
      nn := xs.xo.nn
      sc := xs.xo.sc
      fnc := xs.xo.fnc
      isi := ⟨xs.xo.isi.isT, xs.xo.isi.isB, xs.xo.isi.isC, xs.xo.isi.isCC⟩
      lx := xs.xo.lx
      calm := fun h => nomatch h
      room := fun h => nomatch h
      un := xs.xo.un
      zc := fun h => nomatch h
      rmh := fun _ _ => ⟨(xs.xo.room hcold).dp, (xs.xo.room hcold).un⟩
      zx := fun _ => by
        obtain ⟨ho, C, hC, hz, vs, hv⟩ := hc
        exact ⟨(a, oe), c, ⟨rfl, vs, hv, hz.2.2 vs hv⟩, List.mem_cons_self, fun b d h => h, ho, C, hC, hz, vs, hv⟩
      hots := xs.xo.hots
      tk := tkF_none
      fr := xs.xo.fr
      fns := fun h => nomatch h }
  tks := fun _ _ ⟨_, _, _, _, _, _, _, _, _, _, _, _, _, _, _, _, w⟩ => w.elim
  po := fun h => nomatch h
  stk := xs.stk
  frm := xs.frm
  fk := xs.fk
theorem es_get {env : Env} {i j : Nat} {v : Val} (h : eg (es env i none) j = some v) : j ≠ i ∧ eg env j = some v := by
  rw [eg_eq, es_eq] at h
  rw [eg_eq]
  by_cases hj : j = i
  · subst hj
    by_cases hl : j < env.length
    · rw [List.getElem?_set_self hl] at h; cases h
    · rw [List.getElem?_eq_none (by simp; omega)] at h; cases h
  · rw [List.getElem?_set_ne (Ne.symm hj)] at h
    exact ⟨hj, h⟩
theorem s_try {c x : String} {i : Nat} {n : Str} {body suite : Sts} {xb : List Stmt} {b0 : Stmt} {xsu : List Stmt} {np p' : Pos} (xs : XSt P cl X k o W) (hcold : (!o.hot) = true) (hi : X.N[i]? = some n) (hln : X.env.kindOf n = some .local) (hg : Gl X (Str.ofString c)) (hdb : (Str.ofString c == ("__debug__" : Str)) = false) (hc : c ∈ P.excs)
    (hb : ∀ {X' : Cx} {W' : WX}, XSt P cl X' k o W' → PSs X' xb (tSts P cl k X' W' body)) (hs : ∀ {X' : Cx} {cl' : Cl}, XSt P cl' X' k o.heat noW → PSs X' (b0 :: xsu) (tSts P cl' k X' noW suite)) :
    PS X (.Try xb [.ExceptHandler (some (.Name (Str.ofString c) np)) (some n) (b0 :: xsu) p'] [] [] pos) (tSt P cl k X W (.try body (.cons c (some i) suite .nil) .nil)) := by
  obtain ⟨C, hC, _, _, hsB, hty⟩ := xs.xo.ln.exc c hc
  have hE := (xs.xo.lx.ex c hc C hC).1
  let ts : Addr → Value → Option Addr → TS := fun a cls d D σ H => ∃ c0 C0, c0 ∈ P.excs ∧ X.mg (Str.ofString c0) = some (.ref C0) ∧ cls = .ref C0 ∧ d = none ∧ tSts P (cl.at a c0) k X noW suite D σ H
  refine PS.imp (L2N.ps_try_as (c := .ref C) (ts := ts) (tb := fun W' => tSts P cl k X W' body) xs.stk xs.frm xs.xo.nd hi hln ⟨hg, hdb, .inl hC⟩ xs.tks (fun W' pn xe tk po => hb (xs.tr hcold tk po)) fun a oe cls d pn hz hf => ?_) fun D σ H ⟨m, env, S, hK, eH, hS, hV, h⟩ => ?_
  · refine ⟨fun pins s σ H D I ⟨c0, C0, h1, h2, h3, h4, h5⟩ => ?_⟩
    subst h3 h4
    exact (hs (xs.suite hcold (pn := pn) (c := c0) ⟨h1, C0, h2, hz, hf⟩)).run pins s σ H D I h5
  · subst eH
    simp only [wS] at h
    refine ⟨m, env, S, hK, rfl, hS, hV, wSs_mono (callW_mono P k) body (fun c0 e0 S0 hw => ?_) ⟨fun e1 S1 h1 => by simpa only [wSs] using h1, fun _ _ h => h, fun _ _ h => h⟩ h⟩
    obtain ⟨hsub, hw⟩ := hw
    intro m' σ' C0 e' hS' hV' hC0
    have h0 := Pg.sub_me hsub
    have hsb := (xs.xo.lx.sb c0 h0 c hc C0 C hC0 hC).2
    have hz : m.z = none := by
      cases q : m.z with
      | none => rfl
      | some p => exact absurd (hS.z p.1 p.2 q) (xs.xo.zc hcold _ _)
    have hz' : m'.z = none := e'.z.trans hz
    refine ⟨P.sub c0 c, PySem.W.exm_ref hE.hs hE.hd hty hsb, fun hb a na => ?_, fun hb => ?_⟩
    · simp only [wHs, hb, if_true] at hw
      have hup : Up m' { m' with z := some (a, c0) } := ⟨fun _ _ q => q, ⟨[], by simp⟩, fun p q => by rw [hz'] at q; cases q⟩
      refine ⟨c0, C0, h0, hC0, rfl, rfl, { m' with z := some (a, c0) }, es e0 i (some (.exc c0)), S0, e'.k.trans hK, rfl, hS'.inz hz' a c0, (hV'.up hup).set (.exc rfl), wSs_mono (callW_mono P k) suite (X := fun _ _ _ => False) (D := { nx := fun env' S' => back i e0 S0 env' S' ∧ (liftD cl m D).nx (es env' i none) S', rt := fun _ _ => False }) (fun _ _ _ h => h.elim) ⟨fun e2 S2 h2 m2 σ2 ev2 hS2 hV2 => ?_, fun _ _ h => h.elim, fun _ _ h => h.elim⟩ hw⟩
      obtain ⟨⟨hl, hlen, hfr⟩, hn⟩ := h2
      obtain ⟨e3, hS3⟩ := hS'.outz hz' ev2 hS2 hl
      refine hn { m2 with z := none } (σ2.set i none) (e'.trans e3) hS3 ⟨by rw [es_eq]; simp [hV2.1], fun j v hj => ?_⟩
      obtain ⟨hji, hj2⟩ := es_get (by rw [eg_eq, hj]; rfl)
      obtain ⟨y, hy, ry⟩ := hV2.get hj2
      refine ⟨y, by rw [List.getElem?_set_ne (Ne.symm hji)]; exact hy, ry.out ?_⟩
      rcases hfr j v hji hj2 with h5 | h5
      · obtain ⟨_, _, r5⟩ := hV'.get h5
        exact r5.fr hz'
      · exact h5
    · simp only [wHs, hb] at hw
      exact hw m' σ' C0 e' hS' hV' hC0
end
end Mi

set_option maxHeartbeats 4000000
namespace Mi
open PySem PySem.Spec L2 PyProof.Rows
/-! ### statements, checked -/
/-- how a comprehension's value is stored: 1: the name is a local on its line; 2: it is a cell -/
def lcSet (o : Ko) (x : Str) (p' : Pos) (ex : Expr) : Nat := match ex with
  | .ListComp _ _ scope cpos => if decide (o.sc.names.lookup x = some .local) && (p'.line == cpos.line) && !(scope.names.any fun (n, k) => n == x && (k == .local || k == .cell)) then 1 else if decide (o.sc.names.lookup x = some .cell) then 2 else 0
  | _ => 0
def isLck : E → Bool
  | .lck _ _ => true
  | _ => false
def notTup : Expr → Bool
  | .Tuple .. => false
  | _ => true
def isDoc : Expr → Bool
  | .Constant (.str _) _ _ => true
  | _ => false
section
variable (P : Pg)
mutual
def chkS : Ko → Mi.St → Stmt → Bool
  | o, .set i e, st => match st with
    | .Assign [.Name x p'] ex pos => nmB o i (.Name x p') && chkE P o e ex && (notComp ex || (!isLck e && decide (lcSet o x p' ex ≠ 0)))
    | _ => false
  | o, .setT is e, st => match st with
    | .Assign [.Tuple es k p] ex pos => !o.hot && (nmsB o is es && chkE P o e ex && notComp ex && notTup ex)
    | _ => false
  | o, .par is es, st => match st with
    | .Assign [.Tuple [.Name x px, .Name y py] kt pt] (.Tuple [ea, eb] k2 pt2) pos => (match is with
      | [i, j] => !o.hot && (decide (o.N[i]? = some x) && decide (o.N[j]? = some y) && decide (i ≠ j) && decide (x ≠ y) && decide (o.sc.names.lookup x = some .local) && decide (o.sc.names.lookup y = some .local) && (px.line == py.line) && notStar ea && notStar eb &&
          !([ea, eb].all (foldedForSure 8)) && !([ea, eb].all (constantsAlone 8)) && chkEs P o es [ea, eb])
      | _ => false)
    | .Assign [.Tuple [.Name x px, .Name y py, .Name z pz] kt pt] (.Tuple [ea, eb, ec] k2 pt2) pos => (match is with
      | [i, j, l] => !o.hot && (decide (o.N[i]? = some x) && decide (o.N[j]? = some y) && decide (o.N[l]? = some z) && decide (i ≠ j) && decide (i ≠ l) && decide (j ≠ l) && decide (x ≠ y) && decide (x ≠ z) && decide (y ≠ z) &&
          decide (o.sc.names.lookup x = some .local) && decide (o.sc.names.lookup y = some .local) && decide (o.sc.names.lookup z = some .local) && (px.line == py.line) && (px.line == pz.line) && notStar ea && notStar eb && notStar ec &&
          !([ea, eb, ec].all (foldedForSure 8)) && !([ea, eb, ec].all (constantsAlone 8)) && chkEs P o es [ea, eb, ec])
      | _ => false)
    | _ => false
  | o, .setI a i e, st => match st with
    | .Assign [.Subscript eo ei _] ex _ => plainIx ei && chkE P o a eo && chkE P o i ei && chkE P o e ex
    | _ => false
  | o, .setF a f e, st => match st with
    | .Assign [.Attribute eo x p'] ex _ => nmEq f x && P.flds.contains f && chkE P o a eo && chkE P o e ex
    | _ => false
  | o, .aug i op e, st => match st with
    | .AugAssign (.Name x p') op' ex _ => decide (op = op') && nmB o i (.Name x p') && chkE P o e ex
    | _ => false
  | o, .augI a i op e, st => match st with
    | .AugAssign (.Subscript eo ei _) op' ex _ => decide (op = op') && plainIx ei && chkE P o a eo && chkE P o i ei && chkE P o e ex
    | _ => false
  | o, .augF a f op e, st => match st with
    | .AugAssign (.Attribute eo x _) op' ex _ => decide (op = op') && nmEq f x && P.flds.contains f && chkE P o a eo && chkE P o e ex
    | _ => false
  | o, .expr e, st => match st with
    | .Expr ex _ => notComp ex && chkE P o e ex
    | _ => false
  | o, .ret e, st => match st with
    | .Return (some ex) _ => chkE P o e ex
    | _ => false
  | o, .retN, st => match st with
    | .Return none _ => true
    | _ => false
  | o, .ife c a b, st => match st with
    | .If ex xa xb _ => chkT P o c ex && chkSs o a xa && chkSs o b xb
    | _ => false
  | o, .for tg src body, st => match st with
    | .For etg iter xa [] _ => !o.hot && (tgB o tg etg && notSet iter && chkSrc P o src etg iter && chkSs o body xa)
    | _ => false
  | o, .while c body, st => match st with
    | .While ex xa [] _ => !o.hot && (chkT P o c ex && chkSs o body xa)
    | _ => false
  | o, .raise c, st => match st with
    | .Raise (some (.Call (.Name x _) [.Constant (.str _) _ _] [] _)) none _ => !o.hot && (nmEq c x && glB o.sc x && ndb x && P.excs.contains c)
    | _ => false
  | o, .try body hs orelse, st => match hs, orelse with
    | .cons c (some i) suite .nil, .nil => (match st with
      | .Try xb [.ExceptHandler (some (.Name x _)) (some n) (b0 :: xsu) _] [] [] _ => !o.hot && (nmEq c x && glB o.sc x && ndb x && P.excs.contains c && decide (o.N[i]? = some n) && decide (o.sc.names.lookup n = some .local) && chkSs o body xb && chkSs o.heat suite (b0 :: xsu))
      | _ => false)
    | _, _ => false
  | o, .cont, st => match st with
    | .Continue _ => true
    | _ => false
  | o, .pass, st => match st with
    | .Pass _ => true
    | .Expr ex _ => isDoc ex
    | _ => false
  | o, .lck _ s, st => chkS o s st
def chkSs : Ko → Sts → List Stmt → Bool
  | o, .nil, sts => match sts with
    | [] => true
    | _ => false
  | o, .cons s ss, sts => match sts with
    | st :: rest => chkS o s st && chkSs o ss rest
    | _ => false
end
end
section
variable {P : Pg} {cl : Cl} {k : Nat} {X : Cx} {W : WX} {o : Ko}
theorem lc_parts {e : E} {eelt : Expr} {gens : List Comprehension} {scope : Scope} {pos : Pos} (h : chkE P o e (.ListComp eelt gens scope pos) = true) (hl : isLck e = false) (xo : XO P cl X k o W) :
    ∃ elt tgt src cond own tg iter ifs, e = .lc elt tgt src cond own ∧ gens = [⟨tg, iter, ifs, 0⟩] ∧ PI X tg iter (tSrc P cl k X W src) ∧ (∀ x, foldedSetIterable iter X.env x = pure x) ∧ LcOk P cl k X W elt tgt cond own eelt tg ifs scope ∧ (!o.hot) = true := by
  cases e with
  | lc elt tgt src cond own =>
    simp only [chkE] at h
    split at h
    · rename_i x1 x2 x3 x4 x5 x6 x7 heq
      cases heq
      simp only [Bool.and_eq_true, beq_iff_eq] at h
      obtain ⟨h00, ⟨⟨⟨⟨⟨⟨⟨rfl, h1⟩, h2⟩, h3⟩, h4⟩, h5⟩, h6⟩, h7⟩⟩ := h
      refine ⟨elt, tgt, src, cond, own, _, _, _, rfl, rfl, chkSrc_ok src h4 xo, folded_of (by revert h1; unfold notSet; split <;> simp), ⟨?_, ?_, fun σ s H C c fp => ?_, fun σ s H C c fp => ?_, fun σ s H C c fp => ?_⟩, h00⟩
      · rw [xo.nn, xo.sc]
        exact blkOk_by h2
      · intro i hi
        rw [List.all_eq_true] at h3
        simpa using h3 i hi
      · exact tgB_of (xo.lc h00 σ scope s H C c fp) h5
      · exact chkOt_ok cond h6 (xo.lc h00 σ scope s H C c fp)
      · exact (chkE_ok elt h7 (xo.lc h00 σ scope s H C c fp)).1
    · cases h
  | lck _ _ => cases hl
  | not a => unfold chkE at h; simp at h
  | vi f es => unfold chkE at h; split at h <;> first | (cases h; done) | (cases f <;> cases h; done) | (simp at h; done)
  | _ => simp [chkE] at h
theorem sw_cell {elt : Expr} {gs : List Comprehension} {scope : Scope} {pos py : Pos} {y : Str} {l : Nat} {env : PySem.Env} (hy : env.scope.names.lookup y = some .cell) : swapsWith (.ListComp elt gs scope pos) (some (.Name y py)) l env = pure false := by
  have ky : env.kindOf y = some .cell := hy
  unfold swapsWith
  simp only [ky]
  have e1 : ((some NameKind.cell : Option NameKind) == some .local) = false := by decide
  simp only [e1, Bool.and_false, Bool.false_and]
theorem sw_fld {ex eo : Expr} {f : Str} {p : Pos} {l : Nat} {env : PySem.Env} : swapsWith ex (some (.Attribute eo f p)) l env = pure false := by cases ex <;> rfl
theorem sw_tup {ex : Expr} {es : List Expr} {kk : Nat} {p : Pos} {l : Nat} {env : PySem.Env} : swapsWith ex (some (.Tuple es kk p)) l env = pure false := by cases ex <;> rfl
theorem stores_none {ex : Expr} {es : List Expr} {kk : Nat} {p : Pos} {env : PySem.Env} (h : notTup ex = true) : swappedStores [.Tuple es kk p] ex env = pure none := by cases ex <;> first | rfl | cases h
theorem stores_two {x y : Str} {px py pt pt2 : Pos} {kt k2 : Nat} {ea eb : Expr} {env : PySem.Env} (hb : env.scope.kind = .function) (hx : env.scope.names.lookup x = some .local) (hy : env.scope.names.lookup y = some .local) (hl : (px.line == py.line) = true) (hne : x ≠ y)
    (s1 : notStar ea = true) (s2 : notStar eb = true) (hf : [ea, eb].all (foldedForSure 8) = false) (hc : [ea, eb].all (constantsAlone 8) = false) : swappedStores [.Tuple [.Name x px, .Name y py] kt pt] (.Tuple [ea, eb] k2 pt2) env = pure (some [x, y]) := by
  have kx : env.kindOf x = some .local := hx
  have ky : env.kindOf y = some .local := hy
  have hbk : env.blockKind = .function := by unfold Env.blockKind; rw [hb]; rfl
  have hl' : py.line = px.line := (beq_iff_eq.mp hl).symm
  have hyx : ¬ y = x := fun e => hne e.symm
  have ed : [x, y].eraseDups = [x, y] := by
    simp [List.eraseDups_cons, hyx]
  unfold swappedStores
  simp only [hbk]
  rw [if_neg (show ¬ ((!([Expr.Name x px, Expr.Name y py].length == 2 || [Expr.Name x px, Expr.Name y py].length == 3) || [ea, eb].length != [Expr.Name x px, Expr.Name y py].length || ScopeKind.function != ScopeKind.function) = true) from Bool.false_ne_true), if_neg (by
    simp only [List.any_cons, List.any_nil, Bool.or_false, Bool.or_eq_true, not_or]
    exact ⟨by cases ea <;> first | exact Bool.false_ne_true | exact (Bool.false_ne_true s1).elim, by cases eb <;> first | exact Bool.false_ne_true | exact (Bool.false_ne_true s2).elim⟩)]
  simp only [List.filterMap_cons, List.filterMap_nil, Option.map_some, List.head?_cons, Option.getD_some, Expr.pos, kx, ky, hl', beq_self_eq_true, Bool.and_self, if_true, ed, hf, hc]
  rfl
theorem stores_three {x y z : Str} {px py pz pt pt2 : Pos} {kt k2 : Nat} {ea eb ec : Expr} {env : PySem.Env} (hb : env.scope.kind = .function) (hx : env.scope.names.lookup x = some .local) (hy : env.scope.names.lookup y = some .local) (hz : env.scope.names.lookup z = some .local) (hl : (px.line == py.line) = true) (hl2 : (px.line == pz.line) = true) (xy : x ≠ y) (xz : x ≠ z) (yz : y ≠ z)
    (s1 : notStar ea = true) (s2 : notStar eb = true) (s3 : notStar ec = true) (hf : [ea, eb, ec].all (foldedForSure 8) = false) (hc : [ea, eb, ec].all (constantsAlone 8) = false) : swappedStores [.Tuple [.Name x px, .Name y py, .Name z pz] kt pt] (.Tuple [ea, eb, ec] k2 pt2) env = pure (some [x, y, z]) := by
  have kx : env.kindOf x = some .local := hx
  have ky : env.kindOf y = some .local := hy
  have kz : env.kindOf z = some .local := hz
  have hbk : env.blockKind = .function := by unfold Env.blockKind; rw [hb]; rfl
  have hl' : py.line = px.line := (beq_iff_eq.mp hl).symm
  have hl2' : pz.line = px.line := (beq_iff_eq.mp hl2).symm
  have ed : [x, y, z].eraseDups = [x, y, z] := by
    simp [List.eraseDups_cons, xy.symm, xz.symm, yz.symm]
  have ns : ∀ {e : Expr}, notStar e = true → ¬ ((match e with | .Starred .. => true | _ => false) = true) := fun {e} h => by
    cases e <;> first | exact Bool.false_ne_true | exact (Bool.false_ne_true h).elim
  unfold swappedStores
  simp only [hbk]
  rw [if_neg (show ¬ ((!([Expr.Name x px, Expr.Name y py, Expr.Name z pz].length == 2 || [Expr.Name x px, Expr.Name y py, Expr.Name z pz].length == 3) || [ea, eb, ec].length != [Expr.Name x px, Expr.Name y py, Expr.Name z pz].length || ScopeKind.function != ScopeKind.function) = true) from Bool.false_ne_true), if_neg (by
    simp only [List.any_cons, List.any_nil, Bool.or_false, Bool.or_eq_true, not_or]
    exact ⟨ns s1, ns s2, ns s3⟩)]
  simp only [List.filterMap_cons, List.filterMap_nil, Option.map_some, List.head?_cons, Option.getD_some, Expr.pos, kx, ky, kz, hl', hl2', beq_self_eq_true, Bool.and_self, if_true, ed, hf, hc]
  rfl
mutual
theorem chkS_ok : ∀ (s : Mi.St) {o : Ko} {st : Stmt}, chkS P o s st = true → ∀ {cl : Cl} {X : Cx} {k : Nat} {W : WX}, XSt P cl X k o W → PS X st (tSt P cl k X W s)
  | .set i e, o, st, h, cl, X, k, W, xs => by
    simp only [chkS] at h
    split at h
    · rename_i x p' ex pos
      simp only [Bool.and_eq_true, Bool.or_eq_true, decide_eq_true_eq, Bool.not_eq_true'] at h
      obtain ⟨⟨h1, h2⟩, h3⟩ := h
      have nm := nmB_of xs.xo h1
      rcases h3 with h3 | ⟨hnl, h3⟩
      · exact s_set xs.xo nm (noswap h3) (chkE_ok e h2 xs.xo).1
      · unfold lcSet at h3
        split at h3
        · rename_i eelt gens scope cpos
          split at h3
          · rename_i hc
            simp only [Bool.and_eq_true, decide_eq_true_eq, Bool.not_eq_true'] at hc
            obtain ⟨⟨c1, c2⟩, c3⟩ := hc
            obtain ⟨elt, tgt, src, cond, own, tg, iter, ifs, rfl, rfl, hsrc, hf, L, h00⟩ := lc_parts h2 hnl xs.xo
            obtain ⟨x', pos', e0, n1, n2, n3⟩ := nm.ok
            cases e0
            have hl : X.env.scope.names.lookup x = some .local := by rw [xs.xo.sc]; exact c1
            exact s_setLc xs.xo h00 n1 hl (sw_true (by rw [xs.xo.sc]; exact xs.fk) hl c2 c3) hsrc hf L
          · split at h3
            · rename_i hc
              have hc := of_decide_eq_true hc
              exact s_set xs.xo nm (sw_cell (by rw [xs.xo.sc]; exact hc)) (chkE_ok e h2 xs.xo).1
            · exact absurd rfl h3
        · exact absurd rfl h3
    · cases h
  | .setT is e, o, st, h, cl, X, k, W, xs => by
    simp only [chkS] at h
    split at h
    · simp only [Bool.and_eq_true] at h
      obtain ⟨h00, ⟨⟨⟨h1, h2⟩, h3⟩, h4⟩⟩ := h
      exact s_setT xs.xo h00 (.tp (nmsB_of xs.xo h1)) (noswap h3) (stores_none h4) rfl (chkE_ok e h2 xs.xo).1
    · cases h
  | .par is es, o, st, h, cl, X, k, W, xs => by
    simp only [chkS] at h
    split at h
    · split at h
      · simp only [Bool.and_eq_true, decide_eq_true_eq, Bool.not_eq_true'] at h
        obtain ⟨h00, h⟩ := h
        obtain ⟨⟨⟨⟨⟨⟨⟨⟨⟨⟨⟨h1, h2⟩, h3⟩, h4⟩, h5⟩, h6⟩, h7⟩, h8⟩, h9⟩, h10⟩, h11⟩, h12⟩ := h
        exact s_par xs.xo (by rw [h00]; rfl) (by rw [xs.xo.nn]; exact h1) (by rw [xs.xo.nn]; exact h2) h3 (by rw [xs.xo.sc]; exact h5) (by rw [xs.xo.sc]; exact h6) (chkEs_ok es h12 xs.xo) (stores_two (by rw [xs.xo.sc]; exact xs.fk) (by rw [xs.xo.sc]; exact h5) (by rw [xs.xo.sc]; exact h6) h7 h4 h8 h9 h10 h11)
      · cases h
    · split at h
      · simp only [Bool.and_eq_true, decide_eq_true_eq, Bool.not_eq_true'] at h
        obtain ⟨h00, h⟩ := h
        obtain ⟨⟨⟨⟨⟨⟨⟨⟨⟨⟨⟨⟨⟨⟨⟨⟨⟨⟨⟨a1, a2⟩, a3⟩, a4⟩, a5⟩, a6⟩, a7⟩, a8⟩, a9⟩, a10⟩, a11⟩, a12⟩, a13⟩, a14⟩, a15⟩, a16⟩, a17⟩, a18⟩, a19⟩, a20⟩ := h
        exact s_par3 xs.xo (by rw [h00]; rfl) (by rw [xs.xo.nn]; exact a1) (by rw [xs.xo.nn]; exact a2) (by rw [xs.xo.nn]; exact a3) a4 a5 a6 (by rw [xs.xo.sc]; exact a10) (by rw [xs.xo.sc]; exact a11) (by rw [xs.xo.sc]; exact a12) (chkEs_ok es a20 xs.xo)
          (stores_three (by rw [xs.xo.sc]; exact xs.fk) (by rw [xs.xo.sc]; exact a10) (by rw [xs.xo.sc]; exact a11) (by rw [xs.xo.sc]; exact a12) a13 a14 a7 a8 a9 a15 a16 a17 a18 a19)
      · cases h
    · cases h
  | .setI a i e, o, st, h, cl, X, k, W, xs => by
    simp only [chkS] at h
    split at h
    · simp only [Bool.and_eq_true] at h
      obtain ⟨⟨⟨h1, h3⟩, h4⟩, h5⟩ := h
      exact s_setI xs.xo h1 (chkE_ok a h3 xs.xo).1 (chkE_ok i h4 xs.xo).1 (chkE_ok e h5 xs.xo).1
    · cases h
  | .setF a f e, o, st, h, cl, X, k, W, xs => by
    simp only [chkS] at h
    split at h
    · simp only [Bool.and_eq_true] at h
      obtain ⟨⟨⟨h1, h2⟩, h3⟩, h4⟩ := h
      have := nm_of h1
      subst this
      exact s_setF xs.xo (by simpa using h2) sw_fld (chkE_ok a h3 xs.xo).1 (chkE_ok e h4 xs.xo).1
    · cases h
  | .aug i op e, o, st, h, cl, X, k, W, xs => by
    simp only [chkS] at h
    split at h
    · simp only [Bool.and_eq_true, decide_eq_true_eq] at h
      obtain ⟨⟨rfl, h2⟩, h3⟩ := h
      exact s_aug xs.xo (nmB_of xs.xo h2) (chkE_ok e h3 xs.xo).1
    · cases h
  | .augI a i op e, o, st, h, cl, X, k, W, xs => by
    simp only [chkS] at h
    split at h
    · simp only [Bool.and_eq_true, decide_eq_true_eq] at h
      obtain ⟨⟨⟨⟨rfl, h1⟩, h2⟩, h3⟩, h4⟩ := h
      exact s_augI xs.xo h1 (chkE_ok a h2 xs.xo).1 (chkE_ok i h3 xs.xo).1 (chkE_ok e h4 xs.xo).1
    · cases h
  | .augF a f op e, o, st, h, cl, X, k, W, xs => by
    simp only [chkS] at h
    split at h
    · simp only [Bool.and_eq_true, decide_eq_true_eq] at h
      obtain ⟨⟨⟨⟨rfl, h1⟩, h2⟩, h3⟩, h4⟩ := h
      have := nm_of h1
      subst this
      exact s_augF xs.xo (by simpa using h2) (chkE_ok a h3 xs.xo).1 (chkE_ok e h4 xs.xo).1
    · cases h
  | .expr e, o, st, h, cl, X, k, W, xs => by
    simp only [chkS] at h
    split at h
    · simp only [Bool.and_eq_true] at h
      exact s_expr h.1 (chkE_ok e h.2 xs.xo).1
    · cases h
  | .ret e, o, st, h, cl, X, k, W, xs => by
    simp only [chkS] at h
    split at h
    · exact s_ret (chkE_ok e h xs.xo).1
    · cases h
  | .retN, o, st, h, cl, X, k, W, xs => by
    simp only [chkS] at h
    split at h
    · exact s_retN
    · cases h
  | .ife c a b, o, st, h, cl, X, k, W, xs => by
    simp only [chkS] at h
    split at h
    · simp only [Bool.and_eq_true] at h
      exact s_if (chkT_ok c h.1.1 xs.xo).1 (chkSs_ok a h.1.2 xs) (chkSs_ok b h.2 xs)
    · cases h
  | .for tg src body, o, st, h, cl, X, k, W, xs => by
    simp only [chkS] at h
    split at h
    · simp only [Bool.and_eq_true] at h
      obtain ⟨h00, ⟨⟨⟨h1, h2⟩, h3⟩, h4⟩⟩ := h
      exact s_for xs h00 (chkSrc_ok src h3 xs.xo) (folded_of (by revert h2; unfold notSet; split <;> simp)) (tgB_of xs.xo h1) (chkSs_ok body h4 xs)
    · cases h
  | .while c body, o, st, h, cl, X, k, W, xs => by
    simp only [chkS] at h
    split at h
    · simp only [Bool.and_eq_true] at h
      exact s_while xs h.1 (chkT_ok c h.2.1 xs.xo).1 (chkSs_ok body h.2.2 xs)
    · cases h
  | .raise c, o, st, h, cl, X, k, W, xs => by
    simp only [chkS] at h
    split at h
    · simp only [Bool.and_eq_true] at h
      obtain ⟨h00, ⟨⟨⟨h1, h2⟩, h3⟩, h4⟩⟩ := h
      have := nm_of h1
      subst this
      exact s_raise xs.xo xs.tks h00 (gl_of xs.xo h2) (ndb_of h3) (by simpa using h4)
    · cases h
  | .try body hs orelse, o, st, h, cl, X, k, W, xs => by
    unfold chkS at h
    split at h
    · rename_i c i suite
      split at h
      · simp only [Bool.and_eq_true, decide_eq_true_eq] at h
        obtain ⟨h00, ⟨⟨⟨⟨⟨⟨⟨h1, h2⟩, h3⟩, h4⟩, h5⟩, h6⟩, h7⟩, h8⟩⟩ := h
        have := nm_of h1
        subst this
        exact s_try (x := c) xs h00 (by rw [xs.xo.nn]; exact h5) (by show X.env.scope.names.lookup _ = _; rw [xs.xo.sc]; exact h6) (gl_of xs.xo h2) (ndb_of h3) (by simpa using h4) (fun xs' => chkSs_ok body h7 xs') (fun xs' => chkSs_ok suite h8 xs')
      · cases h
    · cases h
  | .cont, o, st, h, cl, X, k, W, xs => by
    simp only [chkS] at h
    split at h
    · exact s_cont
    · cases h
  | .pass, o, st, h, cl, X, k, W, xs => by
    simp only [chkS] at h
    split at h
    · exact s_next ps_pass
    · unfold isDoc at h
      split at h
      · exact s_next ps_doc
      · cases h
    · cases h
  | .lck i s, o, st, h, cl, X, k, W, xs => by
    simp only [chkS] at h
    exact s_lck (chkS_ok s h xs)
theorem chkSs_ok : ∀ (ss : Sts) {o : Ko} {sts : List Stmt}, chkSs P o ss sts = true → ∀ {cl : Cl} {X : Cx} {k : Nat} {W : WX}, XSt P cl X k o W → PSs X sts (tSts P cl k X W ss)
  | .nil, o, sts, h, cl, X, k, W, xs => by
    simp only [chkSs] at h
    split at h
    · exact ss_nil
    · cases h
  | .cons s ss, o, sts, h, cl, X, k, W, xs => by
    simp only [chkSs] at h
    split at h
    · simp only [Bool.and_eq_true] at h
      exact ss_cons (chkS_ok s h.1 xs) (chkSs_ok ss h.2 xs)
    · cases h
end
end
end Mi

set_option maxHeartbeats 4000000
namespace Mi
open PySem PySem.Spec L2 PyProof.Rows
/-! ### defs -/
structure Rw where
  fk : FK
  d : FDef
  dd : He.DefD
def atOf : FK → Str × Option Str
  | .f x => (Str.ofString x, none)
  | .m c x => (Str.ofString c, some (Str.ofString x))
def Rw.N (r : Rw) : List Str := r.d.names.map Str.ofString
def Rw.ps (r : Rw) : List Str := r.N.take r.d.params
def scB (N ps : List Str) (sc : Scope) : Bool := decide (sc.kind = .function) && !sc.isCoroutine && !sc.isGenerator && decide N.Nodup && (ps.all fun x => locB sc x) && (sc.names.all fun y => decide (y.2 ≠ .free))
def dflB : List Lit → List He.Dv → Bool
  | [], [] => true
  | .non :: r, .non :: q => dflB r q
  | .bl b :: r, .bl c :: q => (b == c) && dflB r q
  | .int b :: r, .int c :: q => (b == c) && dflB r q
  | .str b :: r, .str c :: q => nmEq b c && dflB r q
  | _, _ => false
theorem dflB_of {K : PySem.W.Frag} : ∀ {ls : List Lit} {ds : List He.Dv}, dflB ls ds = true → ds.map (He.Dv.v K) = ls.map litV
  | [], [], _ => rfl
  | .non :: r, .non :: q, h => by simp only [dflB] at h; rw [List.map_cons, List.map_cons, dflB_of h]; rfl
  | .bl b :: r, .bl c :: q, h => by
    simp only [dflB, Bool.and_eq_true, beq_iff_eq] at h
    rw [List.map_cons, List.map_cons, dflB_of h.2, h.1]; rfl
  | .int b :: r, .int c :: q, h => by
    simp only [dflB, Bool.and_eq_true, beq_iff_eq] at h
    rw [List.map_cons, List.map_cons, dflB_of h.2, h.1]; rfl
  | .str b :: r, .str c :: q, h => by
    simp only [dflB, Bool.and_eq_true] at h
    rw [List.map_cons, List.map_cons, dflB_of h.2, nm_of h.1]; rfl
  | [], _ :: _, h => by cases h
  | l :: _, [], h => by cases l <;> cases h
  | .non :: _, .bl _ :: _, h | .non :: _, .int _ :: _, h | .non :: _, .str _ :: _, h | .non :: _, .byt _ :: _, h | .non :: _, .flt _ :: _, h | .non :: _, .ty _ :: _, h | .non :: _, .glo _ :: _, h | .non :: _, .adr _ :: _, h => by cases h
  | .bl _ :: _, .non :: _, h | .bl _ :: _, .int _ :: _, h | .bl _ :: _, .str _ :: _, h | .bl _ :: _, .byt _ :: _, h | .bl _ :: _, .flt _ :: _, h | .bl _ :: _, .ty _ :: _, h | .bl _ :: _, .glo _ :: _, h | .bl _ :: _, .adr _ :: _, h => by cases h
  | .int _ :: _, .non :: _, h | .int _ :: _, .bl _ :: _, h | .int _ :: _, .str _ :: _, h | .int _ :: _, .byt _ :: _, h | .int _ :: _, .flt _ :: _, h | .int _ :: _, .ty _ :: _, h | .int _ :: _, .glo _ :: _, h | .int _ :: _, .adr _ :: _, h => by cases h
  | .str _ :: _, .non :: _, h | .str _ :: _, .bl _ :: _, h | .str _ :: _, .int _ :: _, h | .str _ :: _, .byt _ :: _, h | .str _ :: _, .flt _ :: _, h | .str _ :: _, .ty _ :: _, h | .str _ :: _, .glo _ :: _, h | .str _ :: _, .adr _ :: _, h => by cases h
def Rw.ko (P : Pg) (r : Rw) : Ko := ⟨r.N, r.dd.scope, fun _ => true, P.isHot r.fk, if P.isHot r.fk = true then [] else P.hotf⟩
def Rw.ok (P : Pg) (r : Rw) : Bool := decide (r.dd.at_ = atOf r.fk) && scB r.N r.ps r.dd.scope && dflB r.d.dflt r.dd.dfl && r.dd.kwd.isEmpty && decide (r.d.dflt.length ≤ r.d.params) && decide (r.d.params ≤ r.d.names.length) && chkSs P (r.ko P) r.d.body r.dd.body
theorem len1 {α : Type} {l : List α} (h : l.length = 1) : ∃ a, l = [a] := by
  match l, h with
  | [a], _ => exact ⟨a, rfl⟩
theorem len2 {α : Type} {l : List α} (h : l.length = 2) : ∃ a b, l = [a, b] := by
  match l, h with
  | [a, b], _ => exact ⟨a, b, rfl⟩
theorem len3 {α : Type} {l : List α} (h : l.length = 3) : ∃ a b c, l = [a, b, c] := by
  match l, h with
  | [a, b, c], _ => exact ⟨a, b, c, rfl⟩
theorem len4 {α : Type} {l : List α} (h : l.length = 4) : ∃ a b c d, l = [a, b, c, d] := by
  match l, h with
  | [a, b, c, d], _ => exact ⟨a, b, c, d, rfl⟩
theorem len5 {α : Type} {l : List α} (h : l.length = 5) : ∃ a b c d e, l = [a, b, c, d, e] := by
  match l, h with
  | [a, b, c, d, e], _ => exact ⟨a, b, c, d, e, rfl⟩
/-- how its arguments bind -/
structure BindP (r : Rw) : Prop where
  none : r.dd.dfl = [] → ∀ (kV doc pm : Value) (an : Option Addr) (cdv ct : Value) (us : List Value), us.length = r.ps.length → bindArgs (PySem.W.fnOf r.dd.name r.dd.qual r.dd.params r.dd.body r.dd.scope .none kV doc pm an cdv ct) ⟨us, []⟩ = pure (r.ps.zip us)
  some : r.dd.dfl ≠ [] → ∀ j, j ≤ r.dd.dfl.length → ∀ (T : Addr) (kV doc pm : Value) (an : Option Addr) (cdv ct : Value) (us its : List Value), us.length + (r.dd.dfl.length - j) = r.ps.length → its.length = r.dd.dfl.length →
    ∃ k, bindArgs (PySem.W.fnOf r.dd.name r.dd.qual r.dd.params r.dd.body r.dd.scope (.ref T) kV doc pm an cdv ct) ⟨us, []⟩ = seqItems? (.ref T) >>= k ∧ k (some its.toArray) = pure (r.ps.zip (us ++ its.drop j))
theorem BindP.of0 {r : Rw} (h0 : r.dd.dfl = []) (h : ∀ (kV doc pm : Value) (an : Option Addr) (cdv ct : Value) (us : List Value), us.length = r.ps.length → bindArgs (PySem.W.fnOf r.dd.name r.dd.qual r.dd.params r.dd.body r.dd.scope .none kV doc pm an cdv ct) ⟨us, []⟩ = pure (r.ps.zip us)) : BindP r := ⟨fun _ => h, fun z => absurd h0 z⟩
section
variable {P : Pg} {cl : Cl} {prog : Program} {w : World} {K : PySem.W.Frag} {mg : Str → Option Value} {base : Heap} {k : Nat}
theorem start_sv {m : Sm} {d : FDef} {args : List Val} {vs : List V} {N : List Str} (r : RDs m args vs) (hN : N.length = d.names.length) (hl : args.length ≤ d.names.length) : SV m (startE d args) (L2.start N vs) := by
  have e := r.length
  refine ⟨by unfold startE L2.start; simp [hN, e], fun i v h => ?_⟩
  unfold startE at h
  unfold L2.start
  by_cases hi : i < args.length
  · rw [List.getElem?_append_left (by simpa using hi)] at h
    rw [List.getElem?_append_left (by simpa [← e] using hi)]
    rw [List.getElem?_map] at h ⊢
    cases q : args[i]? with
    | none => rw [q] at h; cases h
    | some u =>
      rw [q] at h
      cases h
      obtain ⟨x, h1, h2⟩ := r.get q
      exact ⟨x, by rw [h1]; rfl, h2⟩
  · rw [List.getElem?_append_right (by simpa using hi)] at h
    rw [List.getElem?_replicate] at h
    split at h <;> cases h
theorem Rw.parts {r : Rw} (h : r.ok P = true) : r.dd.at_ = atOf r.fk ∧ scB r.N r.ps r.dd.scope = true ∧ dflB r.d.dflt r.dd.dfl = true ∧ r.dd.kwd = [] ∧ r.d.dflt.length ≤ r.d.params ∧ r.d.params ≤ r.d.names.length ∧ chkSs P (r.ko P) r.d.body r.dd.body = true := by
  unfold Rw.ok at h
  simp only [Bool.and_eq_true, decide_eq_true_eq, List.isEmpty_iff] at h
  obtain ⟨⟨⟨⟨⟨⟨h1, h2⟩, h3⟩, h4⟩, h5⟩, h6⟩, h7⟩ := h
  exact ⟨h1, h2, h3, h4, h5, h6, h7⟩
theorem Rw.psl {r : Rw} (h : r.ok P = true) : r.ps.length = r.d.params := by
  obtain ⟨_, _, _, _, _, h6, _⟩ := Rw.parts h
  unfold Rw.ps Rw.N
  rw [List.length_take, List.length_map]
  omega
theorem Rw.scope {r : Rw} (h : r.ok P = true) : FnScope r.N r.ps r.dd.scope := by
  obtain ⟨_, h2, _⟩ := Rw.parts h
  unfold scB at h2
  simp only [Bool.and_eq_true, decide_eq_true_eq, Bool.not_eq_true', List.all_eq_true] at h2
  obtain ⟨⟨⟨⟨⟨k1, k2⟩, k3⟩, k4⟩, k5⟩, k6⟩ := h2
  exact ⟨k1, k2, k3, k4, by rw [Rw.psl h]; rfl, fun x hx => loc_of (k5 x hx), fun y hy => k6 y hy⟩
theorem PSs.pre {X : Cx} {st : List Stmt} {t : TS} (h : PSs X st t) : PSs X st (fun D σ H => KF X.K H → t D σ H) := ⟨fun pins s σ H D I hw => h.run pins s σ H D I (hw (kfree I))⟩
/-- a def keeps its promise, if those below do -/
theorem row_ok {r : Rw} {fd : FuncData} {a : Addr} (hr : r.ok P = true) (F : FunD K r.dd.name r.dd.qual r.dd.params r.dd.body r.dd.scope (r.dd.dvs K) (r.dd.kws K) a fd) (ln : Ln P K mg cl) (li : LnI K cl) (lx : LnX P K mg) (hcl : ∀ a c, ¬ cl.z a c) (hh : P.isHot r.fk = false) (ho : HotAll P cl prog w K mg base P.hotf) (fa : FnAll P cl prog w K mg base k) :
    FnOk prog w K mg base (L2N.CX prog w) (k + 1) a fd r.ps (fun vs H Q E => vs.length = r.ps.length ∧ (KF K H → spF P cl K mg k r.d vs H Q E)) := by
  have S := Rw.scope hr
  obtain ⟨_, _, _, _, _, h6, h7⟩ := Rw.parts hr
  refine F.ok S (fun vs H Q E h => h.1) fun cdv A outer s H vs Q E hroom h => ?_
  generalize hX : cxOf (L2N.CX prog w) prog w K mg base r.N r.dd.qual r.dd.scope a cdv A outer s H E = X
  have hhot : (r.ko P).hot = false := hh
  have xs : XSt P cl X k (r.ko P) (fun cls d _ H => E cls d H) := by
    subst hX
    exact { xo := { ln := ln, nd := S.nd, nn := rfl, sc := rfl, fnc := fun _ _ => rfl, isi := li, lx := lx, calm := fun _ => rfl, room := fun _ => hroom, un := Nat.lt_of_le_of_lt (Nat.add_le_add_right (Nat.le_add_right _ _) 200) hroom.un, zc := fun _ => hcl, rmh := fun h => (by rw [hhot] at h; cases h), zx := fun h => (by rw [hhot] at h; cases h), hots := (by unfold Rw.ko; rw [hh]; exact ho), tk := tkF_of rfl (L2N.takes_of rfl rfl rfl rfl), fr := inFr_of rfl rfl, fns := fun _ => fa }, tks := L2N.takes_of rfl rfl rfl rfl, po := fun _ => passes_of rfl, stk := rfl, frm := rfl, fk := S.kind }
  refine ⟨_, PSs.pre (chkSs_ok r.d.body h7 xs), fun kf => ?_⟩
  have hXK : X.K = K := by subst hX; rfl
  have hXm : X.mg = mg := by subst hX; rfl
  rw [hXK] at kf
  obtain ⟨m, args, S', hK, hH, hS, rr, hl, hw⟩ := h.2 kf
  refine ⟨m, startE r.d args, S', by rw [hXK]; exact hK, hH, hS, start_sv rr (by unfold Rw.N; simp) (by omega), ?_⟩
  rw [hXm]
  exact wSs_mono (callW_mono P k) r.d.body (X := fun c _ S' => liftX cl mg m E c S') (D := { nx := fun _ S' => liftQ cl m Q .non S', rt := liftQ cl m Q })
    (fun c e S1 h1 m' σ' C e1 hS1 hV1 hC => h1 m' C e1 hS1 hC) ⟨fun e S1 h1 m' σ' e1 hS1 hV1 => h1 m' .non e1 hS1 .non, fun v S1 h1 => h1, fun _ _ h1 => h1.elim⟩ hw
/-- where the table's defs stand -/
theorem at_of {r : Rw} {fd : FuncData} (hr : r.ok P = true) (hb : BindP r) (F : FunD K r.dd.name r.dd.qual r.dd.params r.dd.body r.dd.scope (r.dd.dvs K) (r.dd.kws K) (He.fAd K r.dd.at_) fd)
    (hnm : match r.fk with
      | .f x => mg (Str.ofString x) = some (.ref (He.fAd K r.dd.at_))
      | .m c x => ∀ C, cl c C → Meth K C (Str.ofString x) (He.fAd K r.dd.at_) ∧ (x = "__init__" → Mk K C (He.fAd K r.dd.at_))) : At P cl K mg r.fk r.d (He.fAd K r.dd.at_) fd r.ps := by
  obtain ⟨h1, h2, h3, h4, h5, h6, h7⟩ := Rw.parts hr
  have hps := Rw.psl hr
  have hdv : r.dd.dvs K = r.d.dflt.map litV := dflB_of h3
  refine ⟨hnm, F.kp, hps, fun n hn => ?_⟩
  have hl : r.dd.dfl.length = r.d.dflt.length := by
    have := congrArg List.length hdv
    unfold He.DefD.dvs at this
    simpa using this
  have hkw : r.dd.kws K = [] := by unfold He.DefD.kws; rw [h4]; rfl
  by_cases hd : r.dd.dfl = []
  · have hd2 : r.d.dflt = [] := by
      rw [hd] at hl
      exact List.length_eq_zero_iff.mp hl.symm
    have hd3 : r.dd.dvs K = [] := by rw [hdv, hd2]; rfl
    rw [hkw, hd3] at F
    rw [hd2]
    simp only [List.drop_nil, List.map_nil]
    exact ⟨[], .nil, F.bindsN (hb.none hd)⟩
  · have hdl : (r.dd.dvs K).length = r.dd.dfl.length := by unfold He.DefD.dvs; simp
    have hd4 : r.dd.dvs K ≠ [] := fun e => by
      rw [e] at hdl
      exact hd (List.length_eq_zero_iff.mp hdl.symm)
    rw [hkw] at F
    have := F.binds1 (ps := r.ps) (r.ps.length - (r.dd.dfl.length - n)) n hd4 (by rw [hdl, hps]; omega) fun T kV doc pm an cdv ct us its hu hi => hb.some hd n (by omega) T kV doc pm an cdv ct us its (by rw [hu, hps]; omega) (by rw [hi, hdl])
    rw [hdv] at this
    rw [← List.map_drop] at this
    exact this
end
/-! ### facts -/
abbrev biNames : List String := ["len", "abs", "min", "max", "int", "str", "list", "tuple", "dict", "sum", "sorted", "all", "any", "range", "enumerate", "zip", "reversed", "isinstance", "bool"]
def faRow (r : Rw) : List He.Fa := match r.fk with
  | .f x => [.glo (Str.ofString x)]
  | .m c x => .meth (Str.ofString c) (Str.ofString x) :: (if x = "__init__" then [.mkr (Str.ofString c)] else [])
def faCls (flds : List String) (c : String) : List He.Fa := .glo (Str.ofString c) :: .cls (Str.ofString c) :: flds.map fun f => .noat (Str.ofString c) (Str.ofString f)
def faCon (p : String × Lit) : List He.Fa := match p.2 with
  | .int i => [.int (Str.ofString p.1) i]
  | .str z => [.str (Str.ofString p.1) (Str.ofString z)]
  | _ => []
def conOk (p : String × Lit) : Bool := match p.2 with
  | .int _ => true
  | .str _ => true
  | _ => false
def faOf (P : Pg) (tab : List Rw) (con : List (String × Lit)) : List He.Fa := tab.flatMap faRow ++ (P.cls.flatMap (faCls P.flds) ++ (con.flatMap faCon ++ (("ValueError" :: biNames).map (fun x => He.Fa.free (Str.ofString x)) ++ (P.excs.flatMap (fun c => [.glo (Str.ofString c), .exc (Str.ofString c)]) ++ P.tups.map fun p => .glo (Str.ofString p.1)))))
/-- literals beside values -/
def litVB : Value → Lit → Bool
  | .none, .non => true
  | .bool a, .bl b => a == b
  | .int i _, .int j => decide (i = j)
  | .str x _, .str y => decide (x = Str.ofString y)
  | _, _ => false
def litsVB : List Value → List Lit → Bool
  | [], [] => true
  | u :: us, l :: ls => litVB u l && litsVB us ls
  | _, _ => false
theorem litsVB_of : ∀ {us : List Value} {ls : List Lit}, litsVB us ls = true → Vals (ls.map litV) us
  | [], [], _ => .nil
  | u :: us, l :: ls, h => by
    simp only [litsVB, Bool.and_eq_true] at h
    refine .cons ?_ (litsVB_of h.2)
    have h1 := h.1
    unfold litVB at h1
    split at h1
    · rfl
    · rw [beq_iff_eq.mp h1]; rfl
    · rw [of_decide_eq_true h1]; exact ⟨_, rfl⟩
    · rw [of_decide_eq_true h1]; exact ⟨_, rfl⟩
    · cases h1
  | [], _ :: _, h => by cases h
  | _ :: _, [], h => by cases h
/-- a tuple of literals at the top -/
def tupB (K : PySem.W.Frag) (p : String × List Lit) : Bool := match K.lookup (He.ga K (Str.ofString p.1)) with
  | some o => decide (o.cls = .type "tuple") && (match o.data with
    | .seq its _ => decide (its.size ≤ sizeLine) && litsVB its.toList p.2
    | _ => false)
  | none => false
theorem tupB_of {K : PySem.W.Frag} {p : String × List Lit} (h : tupB K p = true) (H : Hp) : SqT K H (He.ga K (Str.ofString p.1)) (p.2.map litV) := by
  unfold tupB at h
  split at h
  · rename_i o ho
    simp only [Bool.and_eq_true, decide_eq_true_eq] at h
    obtain ⟨h1, h2⟩ := h
    split at h2
    · rename_i its n hd
      simp only [Bool.and_eq_true, decide_eq_true_eq] at h2
      exact .inr ⟨o, its, n, ho, h1, hd, h2.1, litsVB_of h2.2⟩
    · cases h2
  · cases h
def clOf (P : Pg) (K : PySem.W.Frag) : Cl := ⟨fun c C => c ∈ P.cls ∧ C = He.ga K (Str.ofString c), fun _ _ => False⟩
def lniB (cls : List String) (K : PySem.W.Frag) : Bool :=
  cls.all fun c => decide (PySem.W.findIn K (.ref (He.ga K (Str.ofString c))) "__class__" = some (some (.builtin "object.__class__"))) && decide (PySem.W.specialIn K (.builtin "object.__class__") "__get__" = some (some (.builtin "getset_descriptor.__get__"))) && decide (PySem.W.takesIn K (.builtin "object.__class__") = some true) && decide (PySem.W.mroIn K (He.ga K (Str.ofString c)) (.type "object") = some true) &&
    (["int", "bool", "str", "tuple", "list", "dict"].all fun n => decide (PySem.W.kitOne K (.ref (He.ga K (Str.ofString c))) (.type n) = some false)) &&
    (["NoneType", "int", "bool", "str", "tuple", "list", "dict"].all fun n => decide (PySem.W.kitOne K (.type n) (.ref (He.ga K (Str.ofString c))) = some false)) &&
    (cls.all fun c' => decide (PySem.W.kitOne K (.ref (He.ga K (Str.ofString c))) (.ref (He.ga K (Str.ofString c'))) = some (c == c')))
theorem lni_of {P : Pg} {K : PySem.W.Frag} (h : lniB P.cls K = true) : LnI K (clOf P K) := by
  unfold lniB at h
  simp only [List.all_eq_true, Bool.and_eq_true, decide_eq_true_eq] at h
  refine ⟨?_, ?_, ?_, ?_⟩
  · rintro c C ⟨hc, rfl⟩
    obtain ⟨⟨⟨⟨⟨⟨h1, h2⟩, h3⟩, h4⟩, h5⟩, h6⟩, h7⟩ := h c hc
    exact ⟨h1, h2, h3, h4⟩
  · rintro c C ⟨hc, rfl⟩ n hn
    obtain ⟨⟨⟨⟨⟨⟨h1, h2⟩, h3⟩, h4⟩, h5⟩, h6⟩, h7⟩ := h c hc
    exact h5 n hn
  · rintro c C ⟨hc, rfl⟩ n hn
    obtain ⟨⟨⟨⟨⟨⟨h1, h2⟩, h3⟩, h4⟩, h5⟩, h6⟩, h7⟩ := h c hc
    exact h6 n hn
  · rintro c C c' C' ⟨hc, rfl⟩ ⟨hc', rfl⟩
    obtain ⟨⟨⟨⟨⟨⟨h1, h2⟩, h3⟩, h4⟩, h5⟩, h6⟩, h7⟩ := h c hc
    exact h7 c' hc'
/-- .. about exceptions -/
def lnxB (P : Pg) (K : PySem.W.Frag) : Bool := P.excs.all fun c =>
  decide (PySem.W.findIn K (.ref (He.ga K (Str.ofString c))) "__getattribute__" = some (some (.builtin "BaseException.__getattribute__"))) && decide (PySem.W.findIn K (.ref (He.ga K (Str.ofString c))) "__getattr__" = some none) && decide (PySem.W.subIn K (.ref (He.ga K (Str.ofString c))) (.type "BaseException") = some true) && PySem.W.hasDictIn K (He.ga K (Str.ofString c)) &&
    decide (PySem.W.findIn K (.ref (He.ga K (Str.ofString c))) "__class__" = some (some (.builtin "object.__class__"))) && decide (PySem.W.specialIn K (.builtin "object.__class__") "__get__" = some (some (.builtin "getset_descriptor.__get__"))) && decide (PySem.W.takesIn K (.builtin "object.__class__") = some true) && decide (PySem.W.mroIn K (He.ga K (Str.ofString c)) (.type "object") = some true) &&
    decide (PySem.W.kitOne K (.ref (He.ga K (Str.ofString c))) (.type "ValueError") = some (P.sub c "ValueError")) && (P.excs.all fun d => decide (PySem.W.kitOne K (.ref (He.ga K (Str.ofString c))) (.ref (He.ga K (Str.ofString d))) = some (P.sub c d)) && decide (PySem.W.subIn K (.ref (He.ga K (Str.ofString c))) (.ref (He.ga K (Str.ofString d))) = some (P.sub c d)))
def exB (P : Pg) (K : PySem.W.Frag) : Bool := lniB P.cls K && (lnxB P K && P.tups.all (tupB K))
section
variable {P : Pg} {tab : List Rw} {con : List (String × Lit)} {K : PySem.W.Frag} {mg : Str → Option Value} {h : Heap}
theorem fact_of (c : He.SaysD (faOf P tab con) (tab.map (·.dd)) K) {f : He.Fa} (hf : f ∈ faOf P tab con) : f.ok K = true := c.facts hf
theorem ln_of (KX : K.In h) (G : h.Ns mainGlobals mg) (c : He.SaysD (faOf P tab con) (tab.map (·.dd)) K) (hcon : ∀ x v, P.con x = some v → (∃ l, (x, l) ∈ con ∧ v = Lit.val l) ∨ ∃ ls, (x, ls) ∈ P.tups ∧ v = .tup (ls.map Lit.val)) (hc : con.all conOk = true) (ht : P.tups.all (tupB K) = true) : Ln P K mg (clOf P K) := by
  refine ⟨?_, ?_, ?_, ?_, ?_, ?_⟩
  · intro x v hx
    rcases hcon x v hx with ⟨l, hl, rfl⟩ | ⟨ls, hl, rfl⟩
    rotate_left
    · have sq := tupB_of (List.all_eq_true.mp ht _ hl)
      refine ⟨.ref (He.ga K (Str.ofString x)), _, He.glo_ok KX G (fact_of c (f := .glo (Str.ofString x)) (List.mem_append_right _ (List.mem_append_right _ (List.mem_append_right _ (List.mem_append_right _ (List.mem_append_right _ (List.mem_map.mpr ⟨_, hl, rfl⟩))))))), rfl, fun m hm => .tup (by rw [hm]; exact sq m.H) (lits_rd ls)⟩
    have ok := List.all_eq_true.mp hc _ hl
    have mem : ∀ f ∈ faCon (x, l), f ∈ faOf P tab con := fun f hf => List.mem_append_right _ (List.mem_append_right _ (List.mem_append_left _ (List.mem_flatMap.mpr ⟨_, hl, hf⟩)))
    cases l with
    | int i =>
      obtain ⟨t, e⟩ := He.int_ok KX G (fact_of c (mem (.int (Str.ofString x) i) (by simp [faCon])))
      exact ⟨.int i, _, e, ⟨t, rfl⟩, fun m _ => .int i⟩
    | str z =>
      obtain ⟨t, e⟩ := He.str_ok KX G (fact_of c (mem (.str (Str.ofString x) (Str.ofString z)) (by simp [faCon])))
      exact ⟨.str _, _, e, ⟨t, rfl⟩, fun m _ => .str z⟩
    | non => cases ok
    | bl b => cases ok
  · rintro c' C ⟨hc', rfl⟩
    have mem : ∀ f ∈ faCls P.flds c', f ∈ faOf P tab con := fun f hf => List.mem_append_right _ (List.mem_append_left _ (List.mem_flatMap.mpr ⟨_, hc', hf⟩))
    exact ⟨He.glo_ok KX G (fact_of c (mem (.glo _) (by simp [faCls]))), He.cls_ok (fact_of c (mem (.cls _) (by simp [faCls])))⟩
  · rintro c' C ⟨hc', rfl⟩ f hf
    have mem : ∀ f ∈ faCls P.flds c', f ∈ faOf P tab con := fun f hf => List.mem_append_right _ (List.mem_append_left _ (List.mem_flatMap.mpr ⟨_, hc', hf⟩))
    exact He.noat_ok (fact_of c (mem (.noat _ (Str.ofString f)) (by simp [faCls]; exact ⟨f, hf, rfl⟩)))
  · intro c' hc'
    exact ⟨_, hc', rfl⟩
  · intro c' hc'
    have mem : ∀ f ∈ [He.Fa.glo (Str.ofString c'), .exc (Str.ofString c')], f ∈ faOf P tab con := fun f hf => List.mem_append_right _ (List.mem_append_right _ (List.mem_append_right _ (List.mem_append_right _ (List.mem_append_left _ (List.mem_flatMap.mpr ⟨c', hc', hf⟩)))))
    obtain ⟨e1, e2, e3, e4⟩ := He.exc_ok (fact_of c (mem (.exc (Str.ofString c')) (by simp)))
    exact ⟨_, He.glo_ok KX G (fact_of c (mem (.glo (Str.ofString c')) (by simp))), e1, e2, e3, e4⟩
  · intro x hx
    exact He.free_ok KX G (fact_of c (List.mem_append_right _ (List.mem_append_right _ (List.mem_append_right _ (List.mem_append_left _ (List.mem_map.mpr ⟨x, List.mem_cons_of_mem _ hx, rfl⟩))))))
theorem lnx_of (KX : K.In h) (G : h.Ns mainGlobals mg) (c : He.SaysD (faOf P tab con) (tab.map (·.dd)) K) (hx : lnxB P K = true) : LnX P K mg := by
  have at_ : ∀ d ∈ P.excs, ∀ D, mg (Str.ofString d) = some (.ref D) → D = He.ga K (Str.ofString d) := fun d hd D hD => by
    have mem : ∀ f ∈ [He.Fa.glo (Str.ofString d), .exc (Str.ofString d)], f ∈ faOf P tab con := fun f hf => List.mem_append_right _ (List.mem_append_right _ (List.mem_append_right _ (List.mem_append_right _ (List.mem_append_left _ (List.mem_flatMap.mpr ⟨d, hd, hf⟩)))))
    have := He.glo_ok KX G (fact_of c (mem (.glo (Str.ofString d)) (by simp)))
    rw [this] at hD
    cases hD
    rfl
  unfold lnxB at hx
  simp only [List.all_eq_true, Bool.and_eq_true, decide_eq_true_eq] at hx
  refine ⟨fun d hd D hD => ?_, fun d hd d2 hd2 D D2 hD hD2 => ?_, ?_⟩
  · rw [at_ d hd D hD]
    obtain ⟨⟨⟨⟨⟨⟨⟨⟨⟨h1, h2⟩, h3⟩, h4⟩, h5⟩, h6⟩, h7⟩, h8⟩, h9⟩, _⟩ := hx d hd
    exact ⟨⟨h1, h2, h3, h4, h5, h6, h7, h8⟩, h9⟩
  · rw [at_ d hd D hD, at_ d2 hd2 D2 hD2]
    exact (hx d hd).2 d2 hd2
  · exact He.free_ok KX G (fact_of c (List.mem_append_right _ (List.mem_append_right _ (List.mem_append_right _ (List.mem_append_left _ (List.mem_map.mpr ⟨"ValueError", List.mem_cons_self, rfl⟩))))))
/-- a def keeps its promise where an exception is handled -/
theorem fn_ofE {prog : Program} {w : World} {base : Heap} {x qual : Str} {params : Arguments} {body : List Stmt} {scope : Scope} {dvs : List V} {kws : List (Str × V)} {f : Addr} {fd : FuncData} {N ps : List Str} {sp : Addr × Obj → L2.Sp} (F : FunD K x qual params body scope dvs kws f fd) (S : FnScope N ps scope) (len : ∀ q vs H Q E, sp q vs H Q E → vs.length = ps.length)
    (hbody : ∀ (cdv : Value) (q : Addr × Obj) (A : Around) (outer : List PySem.Env) (s : Shared) (H : Hp) (vs : List V) (Q : VK) (E : XK), L2H.Hot1 A q → L2H.RoomH 1 A → sp q vs H Q E →
      ∃ t, PSs (L2H.cxH (L2N.CX prog w) prog w K mg base N qual scope f cdv A outer s H E q) body t ∧ t { nx := fun _ H' => Q .non H', rt := Q } (L2.start N vs) H) : FnE prog w K mg base f fd ps sp := by
  obtain ⟨oc, od, dV, kV, doc, pm, an, cdv, ct, osl, rfl, lk, hcd, _, _⟩ := F.ex
  refine ⟨len, fun q A outer s H args us vs Q E rm hot1 pin e0 hb r hsp => ?_⟩
  have kin := e0.mod.kin.keeps fun b o e => (e0.bs b o e).1
  have nolim := e0.mod.nolimit.keeps fun b o e => (e0.bs b o e).1
  have kinds : ∀ y ∈ ps.zip us, scope.names.lookup y.1 = some .local ∨ (scope.names.lookup y.1 = some .cell ∧ ((cellsFrom (s.heap.objs.size + 1) scope.names []).lookup y.1).isSome = true) := by
    rintro ⟨n, v⟩ hy
    exact (S.par n (List.of_mem_zip hy).1).imp id fun z => ⟨z, PySem.W.cellsFrom_some _ _ _ (.inl z)⟩
  refine codeAny_call_function (by have := rm.dp; omega) (kin _ _ lk) rfl S.co S.gen rfl (PySem.W.codeRec_of kin hcd) (hb _ _ _ _ ?_)
  refine wpAny_newFunctionEnv_cells S.kind kinds fun env he s1 hx => ?_
  subst he
  refine ⟨nolim.keeps hx.toInCall.keep, codeAny_func ?_⟩
  obtain ⟨t, ht, hq⟩ := hbody cdv q A outer s H vs Q E hot1 rm hsp
  have J := L2H.inv_startH (CX := L2N.CX prog w) (cd := cdv) (E := E) S pin e0 (len _ _ _ _ _ hsp) r hx
  refine wpAny_mono (ht.run [] s1 (L2.start N vs) H _ J hq) (fun fl s' hs => ?_) fun _ _ h => h
  have done : ∀ {σ' : L2.St} {H' : Hp} {v : V} {u : Value}, Inv (L2H.cxH (L2N.CX prog w) prog w K mg base N qual scope f cdv A outer s H E q) [] σ' H' s' → RelV v u → Q v H' → CE outer prog w H s Q u s' :=
    fun {_ H' v _} J2 rv q2 => ⟨v, H', J2.os, J2.bare, J2.base, J2.hok, rv, q2⟩
  cases fl with
  | ret u => obtain ⟨v, σ', H', J2, rv, q2⟩ := hs; exact done J2 rv q2
  | next => obtain ⟨σ', H', J2, q2⟩ := hs; exact done (v := V.non) (u := Value.none) J2 rfl q2
  | brk => obtain ⟨_, _, _, z⟩ := hs; exact z.elim
  | cont => obtain ⟨_, _, _, z⟩ := hs; exact z.elim
theorem row_okE {prog : Program} {w : World} {base : Heap} {cl : Cl} {r : Rw} {fd : FuncData} {a : Addr} (hr : r.ok P = true) (F : FunD K r.dd.name r.dd.qual r.dd.params r.dd.body r.dd.scope (r.dd.dvs K) (r.dd.kws K) a fd) (ln : Ln P K mg cl) (li : LnI K cl) (lx : LnX P K mg) (hh : P.isHot r.fk = true) (j : Nat) :
    FnE prog w K mg base a fd r.ps fun q vs H Q E => vs.length = r.ps.length ∧ (KF K H → spH P cl K mg j r.d q vs H Q E) := by
  have S := Rw.scope hr
  obtain ⟨_, _, _, _, _, h6, h7⟩ := Rw.parts hr
  refine fn_ofE F S (fun q vs H Q E h => h.1) fun cdv q A outer s H vs Q E hot1 rm h => ?_
  generalize hX : L2H.cxH (L2N.CX prog w) prog w K mg base r.N r.dd.qual r.dd.scope a cdv A outer s H E q = X
  have hhot : (r.ko P).hot = true := hh
  have hhf : (r.ko P).hf = [] := by unfold Rw.ko; rw [hh]; rfl
  have hXK : X.K = K := by subst hX; rfl
  have hXm : X.mg = mg := by subst hX; rfl
  have xs : ∀ c, ExO P K mg c q.2 → XSt P (cl.at q.1 c) X j (r.ko P) (fun cls d _ H => E cls d H) := fun c ho => by
    subst hX
    exact {
      xo := {
        ln := ⟨ln.con, ln.clc, ln.fld, ln.has, ln.exc, ln.bi⟩
        nd := S.nd
        nn := rfl
        sc := rfl
        fnc := fun _ _ => rfl
        isi := ⟨li.isT, li.isB, li.isC, li.isCC⟩
        lx := lx
        calm := fun h => by rw [hhot] at h; cases h
        room := fun h => by rw [hhot] at h; cases h
        un := by
          have := rm.un
          show A.units + 3 + 200 < cLine
          omega
        zc := fun h => by rw [hhot] at h; cases h
        rmh := fun _ h => absurd hhf h
        zx := fun _ => ⟨q, c, hot1, List.mem_singleton.mpr rfl, fun _ _ h => h, ho⟩
        hots := by
          rw [hhf]
          intro f hf
          cases hf
        tk := tkF_of rfl (L2N.takes_of rfl rfl rfl rfl)
        fr := inFr_of rfl rfl
        fns := fun h => by rw [hhot] at h; cases h }
      po := fun h => by rw [hhot] at h; cases h
      tks := L2N.takes_of rfl rfl rfl rfl
      stk := rfl
      frm := rfl
      fk := S.kind }
  refine ⟨_, PSs.pre (t := fun D σ H => ∃ c, ExO P K mg c q.2 ∧ tSts P (cl.at q.1 c) j X (fun cls d _ H => E cls d H) r.d.body D σ H) ⟨fun pins s σ H D I ⟨c, ho, ht⟩ => (chkSs_ok r.d.body h7 (xs c ho)).run pins s σ H D I ht⟩, fun kf => ?_⟩
  rw [hXK] at kf
  obtain ⟨c, m, args, S', hK, hH, ho, hS, rr, hl, hw⟩ := h.2 kf
  refine ⟨c, ho, m, startE r.d args, S', by rw [hXK]; exact hK, hH, hS, start_sv rr (by unfold Rw.N; simp) (by omega), ?_⟩
  rw [hXm]
  exact wSs_mono (callW_mono P j) r.d.body (X := fun c' _ S' => liftX (cl.at q.1 c) mg m E c' S') (D := { nx := fun _ S' => liftQ (cl.at q.1 c) m Q .non S', rt := liftQ (cl.at q.1 c) m Q })
    (fun c' e S1 h1 m' σ' C e1 hS1 hV1 hC => h1 m' C e1 hS1 hC) ⟨fun e S1 h1 m' σ' e1 hS1 hV1 => h1 m' .non e1 hS1 .non, fun v S1 h1 => h1, fun _ _ h1 => h1.elim⟩ hw
theorem hotAll_of {prog : Program} {w : World} {base : Heap} (KX : K.In h) (G : h.Ns mainGlobals mg) (c : He.SaysD (faOf P tab con) (tab.map (·.dd)) K) (ln : Ln P K mg (clOf P K)) (li : LnI K (clOf P K)) (lx : LnX P K mg) (hrow : ∀ r ∈ tab, r.ok P = true) (hbind : ∀ r ∈ tab, BindP r) (hfn : ∀ f d, P.fn f = some d → ∃ r ∈ tab, r.fk = f ∧ r.d = d) : HotAll P (clOf P K) prog w K mg base P.hotf := by
  intro f hf d hd hd0
  obtain ⟨r, hr, hfk, rfl⟩ := hfn (.f f) d hd
  obtain ⟨fd, F⟩ := c.defs (d := r.dd) (List.mem_map.mpr ⟨r, hr, rfl⟩)
  have hglo : mg (Str.ofString f) = some (.ref (He.fAd K r.dd.at_)) := by
    have := He.glo_ok KX G (fact_of c (f := .glo (Str.ofString f)) (List.mem_append_left _ (List.mem_flatMap.mpr ⟨r, hr, by unfold faRow; rw [hfk]; simp⟩)))
    rw [(Rw.parts (hrow r hr)).1, hfk]
    exact this
  have hat : At P (clOf P K) K mg r.fk r.d (He.fAd K r.dd.at_) fd r.ps := at_of (hrow r hr) (hbind r hr) F (by rw [hfk]; exact hglo)
  obtain ⟨ds, hv, hb⟩ := hat.bd 0 (Nat.zero_le _)
  rw [hd0] at hv
  cases hv
  refine ⟨_, fd, r.ps, hglo, F.kp, Rw.psl (hrow r hr), hb, fun j => row_okE (hrow r hr) F ln li lx (by rw [hfk]; simpa [Pg.isHot] using hf) j⟩
theorem fnAll_of {prog : Program} {w : World} {base : Heap} (KX : K.In h) (G : h.Ns mainGlobals mg) (c : He.SaysD (faOf P tab con) (tab.map (·.dd)) K) (ln : Ln P K mg (clOf P K)) (li : LnI K (clOf P K)) (lx : LnX P K mg) (hrow : ∀ r ∈ tab, r.ok P = true) (hbind : ∀ r ∈ tab, BindP r) (hfn : ∀ f d, P.fn f = some d → ∃ r ∈ tab, r.fk = f ∧ r.d = d) : ∀ k, FnAll P (clOf P K) prog w K mg base k
  | 0 => fun f d hd _ => by
    obtain ⟨r, hr, rfl, rfl⟩ := hfn f d hd
    obtain ⟨fd, F⟩ := c.defs (d := r.dd) (List.mem_map.mpr ⟨r, hr, rfl⟩)
    refine ⟨_, fd, r.ps, at_of (hrow r hr) (hbind r hr) F ?_, fun j hj => absurd hj (Nat.not_lt_zero _)⟩
    have mem : ∀ f ∈ faRow r, f ∈ faOf P tab con := fun f hf => List.mem_append_left _ (List.mem_flatMap.mpr ⟨_, hr, hf⟩)
    rw [(Rw.parts (hrow r hr)).1]
    revert mem
    unfold faRow
    cases r.fk with
    | f x =>
      intro mem
      exact He.glo_ok KX G (fact_of c (mem (.glo _) (by simp)))
    | m c' x =>
      rintro mem C ⟨hc', rfl⟩
      refine ⟨He.meth_ok (fact_of c (mem (.meth _ _) (by simp))), fun e => ?_⟩
      subst e
      exact He.mkr_ok (fact_of c (mem (.mkr _) (by simp)))
  | k + 1 => fun f d hd hh => by
    have ih := fnAll_of (prog := prog) (w := w) (base := base) KX G c ln li lx hrow hbind hfn k
    obtain ⟨r, hr, rfl, rfl⟩ := hfn f d hd
    obtain ⟨fd, F⟩ := c.defs (d := r.dd) (List.mem_map.mpr ⟨r, hr, rfl⟩)
    refine ⟨_, fd, r.ps, at_of (hrow r hr) (hbind r hr) F ?_, fun j hj => ?_⟩
    · have mem : ∀ f ∈ faRow r, f ∈ faOf P tab con := fun f hf => List.mem_append_left _ (List.mem_flatMap.mpr ⟨_, hr, hf⟩)
      rw [(Rw.parts (hrow r hr)).1]
      revert mem
      unfold faRow
      cases r.fk with
      | f x =>
        intro mem
        exact He.glo_ok KX G (fact_of c (mem (.glo _) (by simp)))
      | m c' x =>
        rintro mem C ⟨hc', rfl⟩
        refine ⟨He.meth_ok (fact_of c (mem (.meth _ _) (by simp))), fun e => ?_⟩
        subst e
        exact He.mkr_ok (fact_of c (mem (.mkr _) (by simp)))
    · have fj : FnAll P (clOf P K) prog w K mg base j := fun f d hd hh => by
        obtain ⟨a, fd, ps, h1, h2⟩ := ih f d hd hh
        exact ⟨a, fd, ps, h1, fun i hi => h2 i (by omega)⟩
      refine (row_ok (hrow r hr) F ln li lx (fun _ _ h => h) hh (hotAll_of KX G c ln li lx hrow hbind hfn) fj).imp fun vs H Q E hsp => ⟨?_, fun _ => hsp⟩
      obtain ⟨m, args, S, hK, hH, hS, rr, hb⟩ := hsp
      rw [Rw.psl (hrow r hr), ← rr.length]
      exact hb.1
end
def fnOfT (tab : List Rw) : FK → Option FDef := fun f => (tab.find? fun r => decide (r.fk = f)).map (·.d)
theorem fnOfT_of {tab : List Rw} {f : FK} {d : FDef} (h : fnOfT tab f = some d) : ∃ r ∈ tab, r.fk = f ∧ r.d = d := by
  unfold fnOfT at h
  cases e : tab.find? fun r => decide (r.fk = f) with
  | none => rw [e] at h; cases h
  | some r =>
    rw [e] at h
    cases h
    exact ⟨r, List.mem_of_find?_eq_some e, of_decide_eq_true (List.find?_some (p := fun r : Rw => decide (r.fk = f)) e), rfl⟩
theorem look_mem {x : String} {l : Lit} : ∀ {con : List (String × Lit)}, con.lookup x = some l → (x, l) ∈ con
  | [], e => by cases e
  | (y, m) :: r, e => by
    rw [List.lookup_cons] at e
    split at e
    · rename_i hb
      have := beq_iff_eq.mp hb
      subst this
      cases e
      exact List.mem_cons_self
    · exact List.mem_cons_of_mem _ (look_mem e)
theorem lookT_mem {x : String} {l : List Lit} : ∀ {con : List (String × List Lit)}, con.lookup x = some l → (x, l) ∈ con
  | [], e => by cases e
  | (y, m) :: r, e => by
    rw [List.lookup_cons] at e
    split at e
    · rename_i hb
      have := beq_iff_eq.mp hb
      subst this
      cases e
      exact List.mem_cons_self
    · exact List.mem_cons_of_mem _ (lookT_mem e)
def conV (con : List (String × Lit)) (tups : List (String × List Lit)) (x : String) : Option Val := match con.lookup x with
  | some l => some l.val
  | none => (tups.lookup x).map fun ls => .tup (ls.map Lit.val)
theorem conV_of {con : List (String × Lit)} {tups : List (String × List Lit)} {x : String} {v : Val} (h : conV con tups x = some v) : (∃ l, (x, l) ∈ con ∧ v = Lit.val l) ∨ ∃ ls, (x, ls) ∈ tups ∧ v = .tup (ls.map Lit.val) := by
  unfold conV at h
  split at h
  · rename_i l e
    cases h
    exact .inl ⟨l, look_mem e, rfl⟩
  · cases e : tups.lookup x with
    | none => rw [e] at h; cases h
    | some ls =>
      rw [e] at h
      cases h
      exact .inr ⟨ls, lookT_mem e, rfl⟩
theorem con_of {con : List (String × Lit)} {x : String} {v : Val} (h : (con.lookup x).map Lit.val = some v) : ∃ l, (x, l) ∈ con ∧ v = Lit.val l := by
  cases e : con.lookup x with
  | none => rw [e] at h; cases h
  | some l =>
    rw [e] at h
    cases h
    exact ⟨l, look_mem e, rfl⟩
/-- THE END: a law's text holds, if its small text does -/
theorem mi_hc {l : PySem.W.OpenLaw} {q : Program} {loose : List Str} {XP : (Str → Option Value) → Heap → Prop} {d : DefRec} {P : Pg} {tab : List Rw} {con : List (String × Lit)} {n j : Nat} {r : Rw} {x : Str}
    (hn : l.most = some 63) (hdf : d.params.defaults = []) (hname : d.name = Str.ofString "law") (hroom : Room (j + 1) callerA)
    (hrow : ∀ r ∈ tab, r.ok P = true) (hbind : ∀ r ∈ tab, BindP r) (hfn : ∀ f d, P.fn f = some d → ∃ r ∈ tab, r.fk = f ∧ r.d = d) (hcon : ∀ x v, P.con x = some v → (∃ l, (x, l) ∈ con ∧ v = Lit.val l) ∨ ∃ ls, (x, ls) ∈ P.tups ∧ v = .tup (ls.map Lit.val)) (hc : con.all conOk = true)
    (hr : r ∈ tab) (hfk : r.fk = .f "law") (hlaw : P.isHot r.fk = false) (hdl : r.dd.dfl = []) (hps : r.ps = [x])
    (law : ∀ ns : List Int, ns.length ≤ 63 → bodyW P (callW P j) r.d [.ref 0] [.lck (.lst (ns.map Val.int))] (fun v _ => v = .bl true) (fun _ _ => False)) :
    PySem.W.WalkO q loose XP (He.hookX n (faOf P tab con) (tab.map (·.dd)) [] [] (exB P)).says l.row.toRowW d [] (fun f vs => PySem.call f vs) := by
  refine Att.attach_call hn hdf fun w t₀ t₁ mg mb f0 ob pm cd doc a us ns G Y ho hd hcd hmg hobj hints hlen hgen => ?_
  obtain ⟨K, KX, sx⟩ := Y
  have c : He.SaysD (faOf P tab con) (tab.map (·.dd)) K := sx.t.d
  have sm : exB P K = true := sx.more
  rw [exB, Bool.and_eq_true, Bool.and_eq_true] at sm
  have ln := ln_of KX G.T.g c hcon hc sm.2.2
  have lx := lnx_of KX G.T.g c sm.2.1
  have li := lni_of (P := P) sm.1
  obtain ⟨fd, F⟩ := c.defs (d := r.dd) (List.mem_map.mpr ⟨r, hr, rfl⟩)
  have hok := hrow r hr
  obtain ⟨h1, h2, h3, h4, h5, h6, h7⟩ := Rw.parts hok
  have hfa : mg (Str.ofString "law") = some (.ref (He.fAd K r.dd.at_)) := by
    have := He.glo_ok KX G.T.g (fact_of c (f := .glo (Str.ofString "law")) (List.mem_append_left _ (List.mem_flatMap.mpr ⟨r, hr, by unfold faRow; rw [hfk]; simp⟩)))
    rw [h1, hfk]
    exact this
  rw [hname, hfa] at hmg
  cases hmg
  have hdv : r.dd.dvs K = [] := by unfold He.DefD.dvs; rw [hdl]; rfl
  have hkw : r.dd.kws K = [] := by unfold He.DefD.kws; rw [h4]; rfl
  have F' := F
  rw [hdv, hkw] at F'
  have bA := FunD.bindsA (ps := r.ps) F' ((hbind r hr).none hdl)
  rw [hps] at bA
  refine law_call (CX := L2N.CX l.prog w) (x := x) (fd := fd) (k := j + 1) (sp := fun vs H Q E => vs.length = r.ps.length ∧ (KF K H → spF P (clOf P K) K mg j r.d vs H Q E)) KX G.T.g G.T.b G.T.builtins G.T.nolimit hgen hobj hints (Nat.le_trans hlen (by rw [sizeLine_eq]; omega)) hroom (fun base hKb hNs => ?_) (fun s u => bA s [u] rfl) (fun H hO hS => ⟨by rw [hps]; rfl, fun kf => ?_⟩) ?_
  · rw [← hps]
    exact row_ok hok F ln li lx (fun _ _ h => h) hlaw (hotAll_of KX G.T.g c ln li lx hrow hbind hfn) (fnAll_of KX G.T.g c ln li lx hrow hbind hfn j)
  · have SH0 : SH (clOf P K) ⟨K, H, [a], none⟩ [.lck (.lst (ns.map Val.int))] := by
      refine ⟨rfl, by simp, kf, fun i o b e1 e2 => ?_, fun _ _ h => nomatch h⟩
      cases i with
      | succ i => simp at e1
      | zero =>
        simp at e1 e2
        subst e1 e2
        rcases hS with (hS | ⟨o, hS⟩) | ⟨o, its, n', hk, hc, hdct, hdat, hsz, hv⟩
        · rcases hO a with h | ⟨o, xs, h⟩
          · rw [h] at hS; cases hS
          · rw [h] at hS; cases hS
        · exact .inl ⟨o, _, hS, RDs.of_ints ns⟩
        · exact .inr ⟨o, its, n', _, hk, hc, hdct, hdat, hsz, hv, RDs.of_ints ns⟩
    refine ⟨⟨K, H, [a], none⟩, [.ref 0], [.lck (.lst (ns.map Val.int))], rfl, rfl, SH0, .cons (.ref rfl) .nil, bodyW_mono (callW_mono P j) (fun v S' hv m' y e hS' rv => ?_) (fun _ _ h => h.elim) (law ns hlen)⟩
    subst hv
    cases rv
    rfl
  · intro H e s' hx
    obtain ⟨b, B, H', cls, dd, e1, e2, e3, e4, e5, e6, e7, e8⟩ := hx
    exact e8
end Mi

set_option maxHeartbeats 1000000
namespace Mi
open PySem
/-! ### how one reasons about the small text -/
abbrev noX : XPost := fun _ _ => False
section
variable {P : Pg} {k : Nat} {f : FK} {d : FDef} {args : List Val} {S : Hm} {Q Q0 : Post} {X : XPost}
theorem call_open {x : String} (hd : P.fn (.f x) = some d) (h : bodyW P (callW P k) d (padded d args) S Q X) : callW P (k + 1) (.f x) args S Q X := by
  cases k with
  | zero => exact ⟨d, hd, by simpa [FK.init] using h⟩
  | succ k =>
    rw [callW_two]
    exact ⟨d, hd, by simpa [FK.init] using h⟩
/-- a function that is known not to raise -/
theorem call_use (h : callW P k f args S Q0 noX) (hq : ∀ v S', Q0 v S' → Q v S') : callW P k f args S Q X := callW_mono P k f args S _ _ _ _ hq (fun _ _ h => h.elim) h
end
section
variable {S : Hm} {Q : Bool → Prop}
theorem eqW_int {a b : Int} : eqW (.int a) (.int b) S Q = Q (decide (a = b)) := by
  simp only [eqW, eqD, or_false, dat, Option.some.injEq, exists_eq_left', exists_and_left]
  have : PyData.eqv (.int a) (.int b) = decide (a = b) := by
    simp only [PyData.eqv]
    first | rfl | (by_cases h : a = b <;> simp [h])
  rw [this]
theorem eqW_str {a b : String} : eqW (.str a) (.str b) S Q = Q (decide (a = b)) := by
  simp only [eqW, eqD, or_false, dat, Option.some.injEq, exists_eq_left', exists_and_left]
  have : PyData.eqv (.str (Str.ofString a)) (.str (Str.ofString b)) = decide (a = b) := by
    simp only [PyData.eqv]
    by_cases h : a = b
    · subst h; simp
    · have : ¬ Str.ofString a = Str.ofString b := fun z => h (ofString_inj z)
      simp [h, this]
  rw [this]
end
section
variable {S : Hm} {Q : Post} {n : Nat} {kvs : List (Key × Val)} {xs : List Val}
theorem lst_at (h : S[n]? = some (.lst xs)) : Hm.lst S n = some xs := by simp only [Hm.lst, h]
theorem lst_lck (h : S[n]? = some (.lck (.lst xs))) : Hm.lst S n = some xs := by simp only [Hm.lst, h]
theorem dic_at (h : S[n]? = some (.dic kvs)) : Hm.dic S n = some kvs := by simp only [Hm.dic, h]
theorem nodic_of (h : S[n]? = some (.lst xs)) : Hm.dic S n = none := by simp only [Hm.dic, h]
theorem nolst_of (h : S[n]? = some (.dic kvs)) : Hm.lst S n = none := by simp only [Hm.lst, h]
theorem subW_dic {k : Val} {q : Key} {v : Val} (h : S[n]? = some (.dic kvs)) (hk : k.key = some q) (hv : lookK kvs q = some v) (hq : Q v S) : subW (.ref n) k S Q := .inr ⟨kvs, q, v, dic_at h, hk, hv, hq⟩
theorem subW_lst {i : Int} {v : Val} (h : Hm.lst S n = some xs) (hv : atI xs i = some v) (hq : Q v S) : subW (.ref n) (.int i) S Q := .inl ⟨xs, i, v, rfl, h, hv, hq⟩
theorem setW_dic {k v : Val} {q : Key} {Q : Hm → Prop} (h : S[n]? = some (.dic kvs)) (hk : k.key = some q) (hl : kvs.length < sizeLine) (hq : Q (S.set n (.dic (putK kvs q v)))) : setW (.ref n) k v S Q := .inr ⟨kvs, q, h, hk, hl, hq⟩
theorem setW_lst {i : Int} {j : Nat} {v : Val} {Q : Hm → Prop} (h : S[n]? = some (.lst xs)) (hj : ixN xs.length i = some j) (hq : Q (S.set n (.lst (xs.set j v)))) : setW (.ref n) (.int i) v S Q := .inl ⟨xs, i, j, h, rfl, hj, hq⟩
theorem lenW_lst (h : Hm.lst S n = some xs) (hq : Q (.int xs.length) S) : biW .len [.ref n] S Q := .inl ⟨xs, h, hq⟩
theorem lenW_dic (h : S[n]? = some (.dic kvs)) (hq : Q (.int kvs.length) S) : biW .len [.ref n] S Q := .inr ⟨kvs, h, hq⟩
end
/-! ### loops -/
/-- behind a loop's turn -/
abbrev lp (I : Env → Hm → Prop) (D : Mi.Sp) : Mi.Sp := { nx := I, rt := D.rt, ct := I }
section
variable {G : String → Option Val} {sub : String → String → Bool} {C : CallW} (hC : CMono C)
include hC
theorem for_inv {tg : Tg} {guard : Hm → Prop} {body : Sts} {X : XS} {D : Mi.Sp} {items : List Val} (I : Nat → Env → Hm → Prop)
    (step : ∀ i v env S, items[i]? = some v → I i env S → guard S ∧ tgW tg v env fun env2 => wSs G sub C body X (lp (I (i + 1)) D) env2 S)
    (fin : ∀ env S, I items.length env S → guard S ∧ D.nx env S) {env : Env} {S : Hm} (h : I 0 env S) : forL tg guard (wSs G sub C body X) D items env S := by
  have key : ∀ (n i : Nat) (env : Env) (S : Hm), items.length - i = n → i ≤ items.length → I i env S → forL tg guard (wSs G sub C body X) D (items.drop i) env S := by
    intro n
    induction n with
    | zero =>
      intro i env S hn hi h
      have e : i = items.length := by omega
      subst e
      rw [List.drop_length]
      exact fin env S h
    | succ n ih =>
      intro i env S hn hi h
      have hlt : i < items.length := by omega
      rw [List.drop_eq_getElem_cons hlt]
      obtain ⟨h1, h2⟩ := step i items[i] env S (List.getElem?_eq_getElem hlt) h
      refine ⟨h1, tgW_mono (fun env2 h3 => ?_) h2⟩
      exact wSs_mono hC body (D := lp (I (i + 1)) D) (fun _ _ _ h => h) ⟨fun e S1 h4 => ih (i + 1) e S1 (by omega) (by omega) h4, fun _ _ h => h, fun e S1 h4 => ih (i + 1) e S1 (by omega) (by omega) h4⟩ h3
  have := key items.length 0 env S (by omega) (by omega) h
  simpa using this
theorem while_inv {c : T} {body : Sts} {X : XS} {D : Mi.Sp} (I : Nat → Env → Hm → Prop)
    (step : ∀ n env S, I n env S → wT G C (fun c S' => X c env S') c env S fun b S1 => if b = true then wSs G sub C body X (lp (fun e S => ∃ m, m < n ∧ I m e S) D) env S1 else D.nx env S1)
    {n : Nat} {env : Env} {S : Hm} (h : I n env S) : ∃ N, whileN (fun env S K => wT G C (fun c S' => X c env S') c env S K) (wSs G sub C body X) D N env S := by
  have le : ∀ (a : Nat) {env : Env} {S : Hm}, whileN (fun env S K => wT G C (fun c S' => X c env S') c env S K) (wSs G sub C body X) D a env S → whileN (fun env S K => wT G C (fun c S' => X c env S') c env S K) (wSs G sub C body X) D (a + 1) env S := by
    intro a
    induction a with
    | zero => intro env S h; exact h.elim
    | succ a ih =>
      intro env S h
      refine wT_mono hC (fun _ _ h => h) c (fun b S1 h1 => ?_) h
      cases b with
      | false => simpa using h1
      | true =>
        simp only [if_true] at h1 ⊢
        exact wSs_mono hC body (D := lp (whileN (fun env S K => wT G C (fun c S' => X c env S') c env S K) (wSs G sub C body X) D a) D) (fun _ _ _ h => h) ⟨fun e S2 h2 => ih h2, fun _ _ h => h, fun e S2 h2 => ih h2⟩ h1
  have les : ∀ (a b : Nat), a ≤ b → ∀ {env : Env} {S : Hm}, whileN (fun env S K => wT G C (fun c S' => X c env S') c env S K) (wSs G sub C body X) D a env S → whileN (fun env S K => wT G C (fun c S' => X c env S') c env S K) (wSs G sub C body X) D b env S := by
    intro a b hab
    induction hab with
    | refl => intro env S h; exact h
    | step _ ih => intro env S h; exact le _ (ih h)
  have key : ∀ n env S, I n env S → whileN (fun env S K => wT G C (fun c S' => X c env S') c env S K) (wSs G sub C body X) D (n + 1) env S := by
    intro n
    induction n using Nat.strongRecOn with
    | _ n ih =>
      intro env S h
      refine wT_mono hC (fun _ _ h => h) c (fun b S1 h1 => ?_) (step n env S h)
      cases b with
      | false => simpa using h1
      | true =>
        simp only [if_true] at h1 ⊢
        exact wSs_mono hC body (D := lp (fun e S => ∃ m, m < n ∧ I m e S) D) (fun _ _ _ h => h) ⟨fun e S2 ⟨m, hm, h2⟩ => les (m + 1) n hm (ih m hm e S2 h2), fun _ _ h => h, fun e S2 ⟨m, hm, h2⟩ => les (m + 1) n hm (ih m hm e S2 h2)⟩ h1
  exact ⟨n + 1, key n env S h⟩
/-- a comprehension's turn, as the reading has it -/
theorem lc_inv {X : XPost} {elt : E} {tg : Tg} {cond : Ot} {env : Env} {vs : List Nat} {guard : Hm → Prop} {items : List Val} {Q : List Val → Hm → Prop} (I : Nat → List Val → Hm → Prop)
    (step : ∀ i v acc S, items[i]? = some v → I i acc S → guard S ∧ tgW tg v (ewipe env vs) fun env2 => wC G C X cond env2 S fun b S2 => if b = true then wE G C X elt env2 S2 fun x S3 => acc.length < sizeLine ∧ I (i + 1) (acc ++ [x]) S3 else I (i + 1) acc S2)
    (fin : ∀ acc S, I items.length acc S → guard S ∧ Q acc S) {S : Hm} (h : I 0 [] S) :
    lcLoop (fun v S K => tgW tg v (ewipe env vs) fun env2 => wC G C X cond env2 S fun b S2 => if b = true then wE G C X elt env2 S2 fun x S3 => K (some x) S3 else K none S2) guard items [] S Q := by
  have key : ∀ (n i : Nat) (acc : List Val) (S : Hm), items.length - i = n → i ≤ items.length → I i acc S → lcLoop (fun v S K => tgW tg v (ewipe env vs) fun env2 => wC G C X cond env2 S fun b S2 => if b = true then wE G C X elt env2 S2 fun x S3 => K (some x) S3 else K none S2) guard (items.drop i) acc S Q := by
    intro n
    induction n with
    | zero =>
      intro i acc S hn hi h
      have e : i = items.length := by omega
      subst e
      rw [List.drop_length]
      exact fin acc S h
    | succ n ih =>
      intro i acc S hn hi h
      have hlt : i < items.length := by omega
      rw [List.drop_eq_getElem_cons hlt]
      obtain ⟨h1, h2⟩ := step i items[i] acc S (List.getElem?_eq_getElem hlt) h
      refine ⟨h1, tgW_mono (fun env2 h3 => wC_mono hC (fun _ _ h => h) cond (fun b S2 h4 => ?_) h3) h2⟩
      cases b with
      | false =>
        simp only [Bool.false_eq_true, if_false] at h4 ⊢
        exact ih (i + 1) acc S2 (by omega) (by omega) h4
      | true =>
        simp only [if_true] at h4 ⊢
        exact wE_mono hC (fun _ _ h => h) elt (fun x S3 h5 => ⟨h5.1, ih (i + 1) _ S3 (by omega) (by omega) h5.2⟩) h4
  have := key items.length 0 [] S (by omega) (by omega) h
  simpa using this
end

/-! ### rewriting -/
def lstO : Option Ob → Option (List Val)
  | some (.lst xs) => some xs
  | some (.lck (.lst xs)) => some xs
  | _ => none
def dicO : Option Ob → Option (List (Key × Val))
  | some (.dic xs) => some xs
  | some (.lck (.dic xs)) => some xs
  | _ => none
theorem Hm.lst_eq {S : Hm} {n : Nat} : Hm.lst S n = lstO S[n]? := by
  unfold Hm.lst lstO
  rfl
theorem Hm.dic_eq {S : Hm} {n : Nat} : Hm.dic S n = dicO S[n]? := by
  unfold Hm.dic dicO
  rfl
section
variable {S : Hm} {n : Nat} {k v : Val} {Q : Post} {R : Hm → Prop}
def subD (o : Option Ob) (k : Val) (S : Hm) (Q : Post) : Prop := match o with
  | some (.dic kvs) => ∃ q, k.key = some q ∧ ∃ v, lookK kvs q = some v ∧ Q v S
  | some (.lst xs) => ∃ j, k = .int j ∧ ∃ v, atI xs j = some v ∧ Q v S
  | some (.lck (.lst xs)) => ∃ j, k = .int j ∧ ∃ v, atI xs j = some v ∧ Q v S
  | some (.lck (.dic kvs)) => ∃ q, k.key = some q ∧ ∃ v, lookK kvs q = some v ∧ Q v S
  | _ => False
theorem subW_ref : subW (.ref n) k S Q = subD S[n]? k S Q := by
  apply propext
  simp only [subW, Hm.lst_eq, Hm.dic_eq]
  generalize S[n]? = o
  unfold subD lstO dicO
  constructor
  · intro h
    split <;> simp_all <;> grind
  · intro h
    split at h <;> simp_all <;> grind
def setD (o : Option Ob) (n : Nat) (k v : Val) (S : Hm) (R : Hm → Prop) : Prop := match o with
  | some (.dic kvs) => ∃ q, k.key = some q ∧ kvs.length < sizeLine ∧ R (S.set n (.dic (putK kvs q v)))
  | some (.lst xs) => ∃ j, k = .int j ∧ ∃ i, ixN xs.length j = some i ∧ R (S.set n (.lst (xs.set i v)))
  | _ => False
theorem setW_ref : setW (.ref n) k v S R = setD S[n]? n k v S R := by
  apply propext
  simp only [setW]
  generalize S[n]? = o
  unfold setD
  constructor
  · intro h
    split <;> simp_all <;> grind
  · intro h
    split at h <;> simp_all <;> grind
theorem get_set {o : Ob} : (S.set n o)[n]? = (S[n]?).map fun _ => o := by
  by_cases h : n < S.length
  · rw [List.getElem?_set_self h, List.getElem?_eq_getElem h]; rfl
  · rw [List.getElem?_eq_none (by simp; omega), List.getElem?_eq_none (by omega)]; rfl
theorem get_ne {m : Nat} {o : Ob} (h : m ≠ n) : (S.set n o)[m]? = S[m]? := List.getElem?_set_ne (Ne.symm h)
theorem get_app {m : Nat} {o : Ob} {l : Hm} (h : S[m]? = some o) : (S ++ l)[m]? = some o := by
  rw [List.getElem?_append_left (List.getElem?_eq_some_iff.mp h).1]; exact h
theorem get_new {o : Ob} : (S ++ [o])[S.length]? = some o := by simp
def lenD (o : Option Ob) (S : Hm) (Q : Post) : Prop := match o with
  | some (.dic kvs) => Q (.int kvs.length) S
  | some (.lst xs) => Q (.int xs.length) S
  | some (.lck (.lst xs)) => Q (.int xs.length) S
  | _ => False
theorem lenW_ref : biW .len [.ref n] S Q = lenD S[n]? S Q := by
  apply propext
  simp only [biW, Hm.lst_eq]
  generalize S[n]? = o
  unfold lenD lstO
  constructor
  · intro h
    split <;> simp_all <;> grind
  · intro h
    split at h <;> simp_all <;> grind
end

/-! ### whole numbers alone -/
def opI : Operator → Int → Int → Option Int
  | .Add, i, j => some (i + j)
  | .Sub, i, j => some (i - j)
  | .Mult, i, j => some (i * j)
  | .FloorDiv, i, j => some (i / j)
  | .Mod, i, j => some (i % j)
  | .Pow, i, j => some (i ^ j.toNat)
  | _, _, _ => none
def okI : Operator → Int → Int → Prop
  | .Mult, i, j => mulOk i j
  | .FloorDiv, _, j => divOk j
  | .Mod, _, j => 0 < j
  | .Pow, i, j => powOk i j
  | _, _, _ => True
def vI : Option Val → Option Int
  | some (.int n) => some n
  | _ => none
def iv (env : Env) : E → Option Int
  | .loc i => vI (eg env i)
  | .lit (.int n) => some n
  | .neg a => match iv env a with
    | some i => some (-i)
    | none => none
  | .bin op a b => match iv env a with
    | some i => match iv env b with
      | some j => opI op i j
      | none => none
    | none => none
  | _ => none
def ik (env : Env) : E → Prop
  | .neg a => ik env a
  | .bin op a b => ik env a ∧ ik env b ∧ match iv env a with
    | some i => match iv env b with
      | some j => okI op i j
      | none => True
    | none => True
  | _ => True
theorem wE_iv {G : String → Option Val} {C : CallW} {X : XPost} {env : Env} : ∀ (e : E) {n : Int} {S : Hm} {Q : Post}, iv env e = some n → ik env e → Q (.int n) S → wE G C X e env S Q
  | .loc i, n, S, Q, h, hk, hq => by
    simp only [iv] at h
    unfold vI at h
    split at h
    · rename_i m hm
      cases h
      simp only [wE]
      exact ⟨_, hm, hq⟩
    · cases h
  | .lit c, n, S, Q, h, hk, hq => by
    cases c <;> simp only [iv] at h
    · cases h
    · cases h
    · cases h; simp only [wE]; exact hq
    · cases h
  | .neg a, n, S, Q, h, hk, hq => by
    simp only [iv] at h
    split at h
    · rename_i i hi
      cases h
      simp only [wE]
      exact wE_iv a hi hk ⟨_, rfl, hq⟩
    · cases h
  | .bin op a b, n, S, Q, h, hk, hq => by
    simp only [iv] at h
    simp only [ik] at hk
    split at h
    · rename_i i hi
      split at h
      · rename_i j hj
        obtain ⟨k1, k2, k3⟩ := hk
        rw [hi, hj] at k3
        simp only [wE]
        refine wE_iv a hi k1 (wE_iv b hj k2 ?_)
        cases op <;> simp only [opI] at h <;> first | (cases h; done) | skip
        all_goals (cases h; simp only [binW]; first | exact hq | exact ⟨k3, hq⟩)
      · cases h
    · cases h
  | .con _, n, S, Q, h, _, _ => by simp [iv] at h
  | .cmp _ _ _, n, S, Q, h, _, _ => by simp [iv] at h
  | .cmp2 _ _ _ _ _, n, S, Q, h, _, _ => by simp [iv] at h
  | .isN _, n, S, Q, h, _, _ => by simp [iv] at h
  | .notN _, n, S, Q, h, _, _ => by simp [iv] at h
  | .isB _ _, n, S, Q, h, _, _ => by simp [iv] at h
  | .not _, n, S, Q, h, _, _ => by simp [iv] at h
  | .and _ _, n, S, Q, h, _, _ => by simp [iv] at h
  | .or _ _, n, S, Q, h, _, _ => by simp [iv] at h
  | .ite _ _ _, n, S, Q, h, _, _ => by simp [iv] at h
  | .tup _, n, S, Q, h, _, _ => by simp [iv] at h
  | .lst _, n, S, Q, h, _, _ => by simp [iv] at h
  | .dic _, n, S, Q, h, _, _ => by simp [iv] at h
  | .call _ _, n, S, Q, h, _, _ => by simp [iv] at h
  | .make _ _, n, S, Q, h, _, _ => by simp [iv] at h
  | .meth _ _ _ _, n, S, Q, h, _, _ => by simp [iv] at h
  | .fld _ _, n, S, Q, h, _, _ => by simp [iv] at h
  | .sub _ _, n, S, Q, h, _, _ => by simp [iv] at h
  | .slice _ _ _, n, S, Q, h, _, _ => by simp [iv] at h
  | .bi _ _, n, S, Q, h, _, _ => by simp [iv] at h
  | .vi _ _, n, S, Q, h, _, _ => by simp [iv] at h
  | .bm _ _ _, n, S, Q, h, _, _ => by simp [iv] at h
  | .isi _ _, n, S, Q, h, _, _ => by simp [iv] at h
  | .lc _ _ _ _ _, n, S, Q, h, _, _ => by simp [iv] at h
  | .lck _ _, n, S, Q, h, _, _ => by simp [iv] at h
/-! ### one form at a time; a comprehension stays folded -/
section
variable {G : String → Option Val} {C : CallW} {X : XPost} {env : Env} {S : Hm} {Q : Post}
/-- a comprehension's run -/
def lcRun (G : String → Option Val) (C : CallW) (X : XPost) (elt : E) (tg : Tg) (cond : Ot) (env : Env) (vs : List Nat) (guard : Hm → Prop) (items acc : List Val) (S : Hm) (Q : List Val → Hm → Prop) : Prop :=
  lcLoop (fun v S K => tgW tg v (ewipe env vs) fun env2 => wC G C X cond env2 S fun b S2 => if b = true then wE G C X elt env2 S2 fun x S3 => K (some x) S3 else K none S2) guard items acc S Q
theorem wE_lc {elt : E} {tg : Tg} {src : Src} {cond : Ot} {own : List (String × Nat)} : wE G C X (.lc elt tg src cond own) env S Q = wSrc G C X src env S fun items guard S1 => lcRun G C X elt tg cond env (own.map (·.2)) guard items [] S1 fun acc S2 => Q (.ref S2.length) (S2 ++ [.lst acc]) := by simp only [wE, lcRun]
theorem wE_lck {i : Nat} {e : E} : wE G C X (.lck i e) env S Q = (∃ n kvs, eg env i = some (.ref n) ∧ S[n]? = some (.dic kvs) ∧ wE G C X e env (S.set n (.lck (.dic kvs))) fun v S' => S'[n]? = some (.lck (.dic kvs)) ∧ Q v (S'.set n (.dic kvs))) := by simp only [wE]
theorem wE_loc {i : Nat} : wE G C X (.loc i) env S Q = (∃ v, eg env i = some v ∧ Q v S) := by simp only [wE]
theorem wE_lit {c : Lit} : wE G C X (.lit c) env S Q = (Q c.val S) := by simp only [wE]
theorem wE_con {x : String} : wE G C X (.con x) env S Q = (∃ v, G x = some v ∧ Q v S) := by simp only [wE]
theorem wE_bin {op : Operator} {a b : E} : wE G C X (.bin op a b) env S Q = (wE G C X a env S fun x S1 => wE G C X b env S1 fun y S2 => binW op x y S2 Q) := by simp only [wE]
theorem wE_neg {a : E} : wE G C X (.neg a) env S Q = (wE G C X a env S fun x S1 => ∃ i, x = .int i ∧ Q (.int (-i)) S1) := by simp only [wE]
theorem wE_cmp {op : CmpOp} {a b : E} : wE G C X (.cmp op a b) env S Q = (wE G C X a env S fun x S1 => wE G C X b env S1 fun y S2 => cmpW op x y S2 fun r => Q (.bl r) S2) := by simp only [wE]
theorem wE_cmp2 {op op' : CmpOp} {a b c : E} : wE G C X (.cmp2 op op' a b c) env S Q = (wE G C X a env S fun x S1 => wE G C X b env S1 fun y S2 => cmpW op x y S2 fun r => if r = true then wE G C X c env S2 fun z S3 => cmpW op' y z S3 fun r' => Q (.bl r') S3 else Q (.bl false) S2) := by simp only [wE]
def isNon : Val → Bool
  | .non => true
  | _ => false
theorem wE_isN {a : E} : wE G C X (.isN a) env S Q = (wE G C X a env S fun x S1 => Q (.bl (isNon x)) S1) := by
  simp only [wE]
  congr 1 <;> (funext x S1; cases x <;> rfl)
theorem wE_notN {a : E} : wE G C X (.notN a) env S Q = (wE G C X a env S fun x S1 => Q (.bl (!isNon x)) S1) := by
  simp only [wE]
  congr 1 <;> (funext x S1; cases x <;> rfl)
theorem wE_isB {a : E} {b : Bool} : wE G C X (.isB a b) env S Q = (wE G C X a env S fun x S1 => ∃ c, x = .bl c ∧ Q (.bl (c == b)) S1) := by simp only [wE]
theorem wE_not {a : E} : wE G C X (.not a) env S Q = (wE G C X a env S fun x S1 => ∃ b, x = .bl b ∧ Q (.bl (!b)) S1) := by simp only [wE]
theorem wE_and {a b : E} : wE G C X (.and a b) env S Q = (wE G C X a env S fun x S1 => ∃ c, x = .bl c ∧ if c = true then wE G C X b env S1 Q else Q (.bl false) S1) := by simp only [wE]
theorem wE_or {a b : E} : wE G C X (.or a b) env S Q = (wE G C X a env S fun x S1 => ∃ c, x = .bl c ∧ if c = true then Q (.bl true) S1 else wE G C X b env S1 Q) := by simp only [wE]
theorem wE_ite {c : T} {a b : E} : wE G C X (.ite c a b) env S Q = (wT G C X c env S fun r S1 => if r = true then wE G C X a env S1 Q else wE G C X b env S1 Q) := by simp only [wE]
theorem wE_tup {es : Es} : wE G C X (.tup es) env S Q = (wEs G C X es env S fun vs S1 => vs.length ≤ sizeLine ∧ Q (.tup vs) S1) := by simp only [wE]
theorem wE_lst {es : Es} : wE G C X (.lst es) env S Q = (wEs G C X es env S fun vs S1 => vs.length ≤ sizeLine ∧ Q (.ref S1.length) (S1 ++ [.lst vs])) := by simp only [wE]
theorem wE_dic {ps : Ps} : wE G C X (.dic ps) env S Q = (wPs G C X ps env S fun kvs S1 => Q (.ref S1.length) (S1 ++ [.dic (kvs.foldl (fun d p => putK d p.1 p.2) [])])) := by simp only [wE]
theorem wE_call {f : String} {es : Es} : wE G C X (.call f es) env S Q = (wEs G C X es env S fun vs S1 => C (.f f) vs S1 Q X) := by simp only [wE]
theorem wE_make {c : String} {es : Es} : wE G C X (.make c es) env S Q = (wEs G C X es env S fun vs S1 => C (.m c "__init__") (.ref S1.length :: vs) (S1 ++ [.ins c []]) (fun v S2 => v = .non ∧ Q (.ref S1.length) S2) X) := by simp only [wE]
theorem wE_meth {c m : String} {o : E} {es : Es} : wE G C X (.meth c m o es) env S Q = (wE G C X o env S fun x S1 => ∃ n fs, x = .ref n ∧ S1[n]? = some (.ins c fs) ∧ fs.lookup m = none ∧ wEs G C X es env S1 fun vs S2 => C (.m c m) (x :: vs) S2 Q X) := by simp only [wE]
theorem wE_fld {o : E} {f : String} : wE G C X (.fld o f) env S Q = (wE G C X o env S fun x S1 => ∃ n c fs v, x = .ref n ∧ S1[n]? = some (.ins c fs) ∧ fs.lookup f = some v ∧ Q v S1) := by simp only [wE]
theorem wE_sub {o i : E} : wE G C X (.sub o i) env S Q = (wE G C X o env S fun x S1 => wE G C X i env S1 fun y S2 => subW x y S2 Q) := by simp only [wE]
theorem wE_slice {o : E} {lo hi : Oe} : wE G C X (.slice o lo hi) env S Q = (wE G C X o env S fun x S1 => wO G C X lo env S1 fun a S2 => wO G C X hi env S2 fun b S3 => sliceW x a b S3 Q) := by simp only [wE]
theorem wE_bi {f : Bi} {es : Es} : wE G C X (.bi f es) env S Q = (wEs G C X es env S fun vs S1 => biW f vs S1 Q) := by simp only [wE]
theorem wE_vi {f : Vi} {es : Es} : wE G C X (.vi f es) env S Q = (wEs G C X es env S fun vs S1 => viW f vs S1 Q) := by simp only [wE]
theorem wE_bm {m : Bm} {o : E} {es : Es} : wE G C X (.bm m o es) env S Q = (wE G C X o env S fun x S1 => bmT m x S1 ∧ wEs G C X es env S1 fun vs S2 => bmW m x vs S2 Q) := by simp only [wE]
theorem wE_isi {a : E} {ts : List Ty} : wE G C X (.isi a ts) env S Q = (wE G C X a env S fun x S1 => ∃ bs, ts.mapM (isTy x S1) = some bs ∧ Q (.bl (bs.any id)) S1) := by simp only [wE]
end
section
variable {G : String → Option Val} {C : CallW} (hC : CMono C)
include hC
theorem lcr_inv {X : XPost} {elt : E} {tg : Tg} {cond : Ot} {env : Env} {vs : List Nat} {guard : Hm → Prop} {items : List Val} {Q : List Val → Hm → Prop} (I : Nat → List Val → Hm → Prop)
    (step : ∀ i v acc S, items[i]? = some v → I i acc S → guard S ∧ tgW tg v (ewipe env vs) fun env2 => wC G C X cond env2 S fun b S2 => if b = true then wE G C X elt env2 S2 fun x S3 => acc.length < sizeLine ∧ I (i + 1) (acc ++ [x]) S3 else I (i + 1) acc S2)
    (fin : ∀ acc S, I items.length acc S → guard S ∧ Q acc S) {S : Hm} (h : I 0 [] S) : lcRun G C X elt tg cond env vs guard items [] S Q := lc_inv hC I step fin h
end
end Mi

set_option maxHeartbeats 1000000
namespace Mi
open PySem
/-! MiV: what texts are split into -/
def splitC (c : Char) : List Char → List (List Char)
  | [] => [[]]
  | x :: r => if x = c then [] :: splitC c r else match splitC c r with
    | [] => [[x]]
    | p :: ps => (x :: p) :: ps
theorem splitC_ne (c : Char) : ∀ l, splitC c l ≠ []
  | [] => by simp [splitC]
  | x :: r => by
    unfold splitC
    split
    · simp
    · split <;> simp
theorem splitC_free (c : Char) : ∀ l, ∀ p ∈ splitC c l, c ∉ p
  | [], p, h => by
    have : p = [] := by simpa [splitC] using h
    subst this; simp
  | x :: r, p, h => by
    unfold splitC at h
    split at h
    · rcases List.mem_cons.mp h with rfl | h
      · simp
      · exact splitC_free c r p h
    · rename_i hx
      have ih := splitC_free c r
      split at h
      · have : p = [x] := by simpa using h
        subst this
        simpa using fun z => hx z.symm
      · rename_i q qs e
        rw [e] at ih
        rcases List.mem_cons.mp h with rfl | h
        · intro hc
          rcases List.mem_cons.mp hc with hc | hc
          · exact hx hc.symm
          · exact ih q List.mem_cons_self hc
        · exact ih p (List.mem_cons_of_mem _ h)
def joinN (c : Nat) : List (List Nat) → List Nat
  | [] => []
  | [p] => p
  | p :: q :: r => p ++ c :: joinN c (q :: r)
theorem joinN_cons {c : Nat} {p : List Nat} {r : List (List Nat)} (h : r ≠ []) : joinN c (p :: r) = p ++ c :: joinN c r := by
  cases r with
  | nil => exact absurd rfl h
  | cons q s => rfl
theorem splitC_join (c : Char) : ∀ l, joinN c.toNat ((splitC c l).map (·.map Char.toNat)) = l.map Char.toNat
  | [] => rfl
  | x :: r => by
    have ih := splitC_join c r
    have ne := splitC_ne c r
    unfold splitC
    split
    · rename_i e
      subst e
      rw [List.map_cons, joinN_cons (by simpa using ne), ih]
      rfl
    · split
      · rename_i e
        exact absurd e ne
      · rename_i p ps e
        rw [e] at ih
        cases ps with
        | nil => simpa [joinN] using ih
        | cons q qs =>
          rw [List.map_cons, joinN_cons (by simp)] at ih ⊢
          rw [List.map_cons (l := r), ← ih]
          rfl
theorem cut_uniq {c : Nat} : ∀ {p q a b : List Nat}, c ∉ p → c ∉ q → p ++ c :: a = q ++ c :: b → p = q ∧ a = b
  | [], [], a, b, _, _, h => by simpa using h
  | [], y :: q, a, b, _, hq, h => by
    simp only [List.nil_append, List.cons_append, List.cons.injEq] at h
    exact absurd (by rw [h.1]; exact List.mem_cons_self) hq
  | x :: p, [], a, b, hp, _, h => by
    simp only [List.nil_append, List.cons_append, List.cons.injEq] at h
    exact absurd (by rw [← h.1]; exact List.mem_cons_self) hp
  | x :: p, y :: q, a, b, hp, hq, h => by
    simp only [List.cons_append, List.cons.injEq] at h
    obtain ⟨h1, h2⟩ := cut_uniq (fun z => hp (List.mem_cons_of_mem _ z)) (fun z => hq (List.mem_cons_of_mem _ z)) h.2
    rw [h.1, h1]
    exact ⟨rfl, h2⟩
theorem join_uniq {c : Nat} : ∀ {L M : List (List Nat)}, L ≠ [] → M ≠ [] → (∀ p ∈ L, c ∉ p) → (∀ p ∈ M, c ∉ p) → joinN c L = joinN c M → L = M
  | [], _, h, _, _, _, _ => absurd rfl h
  | _ :: _, [], _, h, _, _, _ => absurd rfl h
  | [p], [q], _, _, _, _, h => by
    simp only [joinN] at h
    rw [h]
  | [p], q :: r :: s, _, _, hp, _, h => by
    rw [joinN_cons (c := c) (p := q) (by simp)] at h
    simp only [joinN] at h
    exact absurd (by rw [h]; simp) (hp p List.mem_cons_self)
  | q :: r :: s, [p], _, _, _, hp, h => by
    rw [joinN_cons (c := c) (p := q) (by simp)] at h
    simp only [joinN] at h
    exact absurd (by rw [← h]; simp) (hp p List.mem_cons_self)
  | p :: r :: s, q :: r' :: s', _, _, hL, hM, h => by
    rw [joinN_cons (c := c) (p := p) (by simp), joinN_cons (c := c) (p := q) (by simp)] at h
    obtain ⟨h1, h2⟩ := cut_uniq (hL p List.mem_cons_self) (hM q List.mem_cons_self) h
    rw [h1, join_uniq (by simp) (by simp) (fun x hx => hL x (List.mem_cons_of_mem _ hx)) (fun x hx => hM x (List.mem_cons_of_mem _ hx)) h2]
theorem strjoin_cps {c : Nat} : ∀ L : List Str, (Str.join ⟨#[c]⟩ L).cps.toList = joinN c (L.map (·.cps.toList))
  | [] => rfl
  | [x] => rfl
  | x :: y :: r => by
    have ih := strjoin_cps (c := c) (y :: r)
    rw [List.map_cons, joinN_cons (by simp), ← ih]
    show (x ++ ⟨#[c]⟩ ++ Str.join ⟨#[c]⟩ (y :: r)).cps.toList = _
    show (x.cps ++ #[c] ++ (Str.join ⟨#[c]⟩ (y :: r)).cps).toList = _
    simp
theorem str_cps {a b : Str} (h : a.cps.toList = b.cps.toList) : a = b := Str.ext' (Array.toList_inj.mp h)
theorem map_cps_inj : ∀ {L M : List Str}, L.map (·.cps.toList) = M.map (·.cps.toList) → L = M
  | [], [], _ => rfl
  | [], _ :: _, h => by cases h
  | _ :: _, [], h => by cases h
  | a :: l, b :: m, h => by
    simp only [List.map_cons, List.cons.injEq] at h
    rw [str_cps h.1, map_cps_inj h.2]
theorem ofs_one (c : Char) : Str.ofString (String.singleton c) = ⟨#[c.toNat]⟩ := by
  apply str_cps
  rw [cps_ofString]
  simp
theorem char_mem {c : Char} {l : List Char} (h : c.toNat ∈ l.map Char.toNat) : c ∈ l := by
  obtain ⟨d, h1, h2⟩ := List.mem_map.mp h
  have : d = c := Char.ext (UInt32.toNat_inj.mp h2)
  exact this ▸ h1
/-- a text split by one sign -/
theorem split_eq (s : String) (c : Char) : Txt.split (Str.ofString s) (Str.ofString (String.singleton c)) = ((splitC c s.toList).map String.ofList).map Str.ofString := by
  rw [ofs_one]
  apply map_cps_inj
  refine join_uniq (c := c.toNat) ?_ ?_ ?_ ?_ ?_
  · intro h
    have h1 := PyProof.Rows.split_pos (Str.ofString s) ⟨#[c.toNat]⟩
    rw [List.map_eq_nil_iff] at h
    rw [h] at h1
    cases h1
  · intro h
    rw [List.map_eq_nil_iff, List.map_eq_nil_iff, List.map_eq_nil_iff] at h
    exact splitC_ne c _ h
  · intro p hp
    obtain ⟨q, h1, rfl⟩ := List.mem_map.mp hp
    exact StrLaws.split_free _ _ q h1
  · intro p hp
    obtain ⟨q, h1, rfl⟩ := List.mem_map.mp hp
    obtain ⟨z, h2, rfl⟩ := List.mem_map.mp h1
    obtain ⟨l, h3, rfl⟩ := List.mem_map.mp h2
    intro h4
    rw [cps_ofString, String.toList_ofList] at h4
    exact splitC_free c _ l h3 (char_mem h4)
  · rw [← strjoin_cps, StrLaws.join_split, cps_ofString, ← splitC_join c]
    congr 1
    rw [List.map_map, List.map_map]
    apply List.map_congr_left
    intro l _
    show _ = (Str.ofString (String.ofList l)).cps.toList
    rw [cps_ofString, String.toList_ofList]
/-- no sign, no cut -/
theorem splitC_none {c : Char} : ∀ {l : List Char}, c ∉ l → splitC c l = [l]
  | [], _ => rfl
  | x :: r, h => by
    have hx : x ≠ c := fun z => h (by rw [z]; exact List.mem_cons_self)
    rw [splitC, if_neg hx, splitC_none fun z => h (List.mem_cons_of_mem _ z)]
theorem splitC_at {c : Char} : ∀ {l r : List Char}, c ∉ l → splitC c (l ++ c :: r) = l :: splitC c r
  | [], r, _ => by rw [List.nil_append, splitC, if_pos rfl]
  | x :: l, r, h => by
    have hx : x ≠ c := fun z => h (by rw [z]; exact List.mem_cons_self)
    rw [List.cons_append, splitC, if_neg hx, splitC_at fun z => h (List.mem_cons_of_mem _ z)]
/-! ### more of heaps -/
theorem dic_lck {S : Hm} {n : Nat} {kvs : List (Key × Val)} (h : S[n]? = some (.lck (.dic kvs))) : Hm.dic S n = some kvs := by simp only [Hm.dic, h]
theorem ix_zero {α : Type} {x : α} {xs : List α} : atI (x :: xs) 0 = some x := by simp [atI, ixN]
theorem ix_nat {α : Type} {xs : List α} {i : Nat} {x : α} (h : xs[i]? = some x) : atI xs (i : Int) = some x := by
  have := (List.getElem?_eq_some_iff.mp h).1
  simp only [atI, ixN]
  rw [if_pos (Int.natCast_nonneg i), if_pos (by omega)]
  simpa using h
theorem cut_from {α : Type} {xs : List α} {i : Nat} : cut xs (some (i : Int)) none = xs.drop i := by
  unfold cut sIx
  simp only [Int.not_lt.mpr (Int.natCast_nonneg i), if_false, Int.toNat_natCast]
  rcases Nat.le_total i xs.length with h | h
  · rw [Nat.min_eq_left h, List.take_of_length_le (by simp)]
  · rw [Nat.min_eq_right h]; simp [List.drop_eq_nil_of_le h]
theorem cut_to {α : Type} {xs : List α} {i : Nat} : cut xs none (some (i : Int)) = xs.take i := by
  unfold cut sIx
  simp only [Int.not_lt.mpr (Int.natCast_nonneg i), if_false, Int.toNat_natCast]
  rcases Nat.le_total i xs.length with h | h
  · rw [Nat.min_eq_left h]; simp
  · rw [Nat.min_eq_right h]; simp [List.take_of_length_le h]
theorem cut_ft {α : Type} {xs : List α} {i j : Nat} : cut xs (some (i : Int)) (some (j : Int)) = (xs.drop i).take (j - i) := by
  unfold cut sIx
  simp only [Int.not_lt.mpr (Int.natCast_nonneg i), Int.not_lt.mpr (Int.natCast_nonneg j), if_false, Int.toNat_natCast]
  rcases Nat.le_total i xs.length with h | h
  · rw [Nat.min_eq_left h]
    rcases Nat.le_total j xs.length with h2 | h2
    · rw [Nat.min_eq_left h2]
    · rw [Nat.min_eq_right h2, List.take_of_length_le (by simp), List.take_of_length_le (by simp; omega)]
  · rw [Nat.min_eq_right h, List.drop_eq_nil_of_le h, List.drop_eq_nil_of_le (Nat.le_refl _)]
    simp
theorem lt_get {α : Type} {S : List α} {n : Nat} {o : α} (h : S[n]? = some o) : n < S.length := (List.getElem?_eq_some_iff.mp h).1
theorem rng_get {lo : Int} {n i : Nat} {v : Val} (h : (rangeL lo 1 n)[i]? = some v) : i < n ∧ v = .int (lo + i) := by
  rw [rangeL_get] at h
  split at h
  · exact ⟨by assumption, by cases h; rfl⟩
  · cases h
/-! ### one step of reckoning -/
section
variable {S : Hm} {Q : Post} {i j : Int}
theorem bmul (h : mulOk i j) (q : Q (.int (i * j)) S) : binW .Mult (.int i) (.int j) S Q := ⟨h, q⟩
theorem badd (q : Q (.int (i + j)) S) : binW .Add (.int i) (.int j) S Q := q
theorem bsub (q : Q (.int (i - j)) S) : binW .Sub (.int i) (.int j) S Q := q
theorem bmod (h : 0 < j) (q : Q (.int (i % j)) S) : binW .Mod (.int i) (.int j) S Q := ⟨h, q⟩
theorem bdiv (h : divOk j) (q : Q (.int (i / j)) S) : binW .FloorDiv (.int i) (.int j) S Q := ⟨h, q⟩
theorem bpow (h : powOk i j) (q : Q (.int (i ^ j.toNat)) S) : binW .Pow (.int i) (.int j) S Q := ⟨h, q⟩
theorem saddW {a b : String} (h : a.length + b.length ≤ sizeLine) (q : Q (.str (a ++ b)) S) : binW .Add (.str a) (.str b) S Q := ⟨h, q⟩
theorem log_le {a : Int} {n : Nat} (h : a.natAbs < 2 ^ (n + 1)) : a.natAbs.log2 ≤ n := by
  by_cases h0 : a.natAbs = 0
  · rw [h0]; exact Nat.zero_le _
  · have := (Nat.log2_lt h0 (k := n + 1)).mpr h
    omega
theorem mul_ok {n m : Nat} (h : i.natAbs < 2 ^ (n + 1)) (h2 : j.natAbs < 2 ^ (m + 1)) (hs : n + m < 100000000) : mulOk i j := by
  have := log_le h
  have := log_le h2
  unfold mulOk
  omega
theorem div_ok {n : Nat} (h : 0 < j) (h2 : j.natAbs < 2 ^ (n + 1)) (hs : n < 9000) : divOk j := by
  have := log_le h2
  exact ⟨h, by omega⟩
theorem nbs_lt {n : Nat} (h0 : 0 ≤ i) (h1 : i < 2 ^ n) : i.natAbs < 2 ^ n := by
  have : ((i.natAbs : Nat) : Int) = i := Int.natAbs_of_nonneg h0
  have h2 : ((i.natAbs : Nat) : Int) < ((2 ^ n : Nat) : Int) := by rw [this]; simpa using h1
  exact_mod_cast h2
end
/-! ### frames: all but one place stay -/
def Fm (p : Nat) (S S' : Hm) : Prop := S.length ≤ S'.length ∧ ∀ n, n < S.length → n ≠ p → S'[n]? = S[n]?
theorem Fm.refl (p : Nat) (S : Hm) : Fm p S S := ⟨Nat.le_refl _, fun _ _ _ => rfl⟩
theorem Fm.trans {p : Nat} {S S1 S2 : Hm} (a : Fm p S S1) (b : Fm p S1 S2) : Fm p S S2 := ⟨Nat.le_trans a.1 b.1, fun n h hn => (b.2 n (Nat.lt_of_lt_of_le h a.1) hn).trans (a.2 n h hn)⟩
theorem Fm.get {p : Nat} {S S1 : Hm} (a : Fm p S S1) {n : Nat} {o : Ob} (hn : n ≠ p) (h : S[n]? = some o) : S1[n]? = some o := (a.2 n (lt_get h) hn).trans h
theorem Fm.app {p : Nat} {S : Hm} (l : Hm) : Fm p S (S ++ l) := ⟨by simp, fun n h _ => List.getElem?_append_left h⟩
theorem Fm.set {p : Nat} {S S' : Hm} {n : Nat} {o : Ob} (h : Fm p S S') (hn : S.length ≤ n) : Fm p S (S'.set n o) := ⟨by simpa using h.1, fun m hm hp => by rw [get_ne (by omega)]; exact h.2 m hm hp⟩
theorem Fm.own {p : Nat} {S : Hm} {o : Ob} : Fm p S (S.set p o) := ⟨by simp, fun m _ hp => get_ne hp⟩
end Mi

set_option maxHeartbeats 1000000
namespace Mi
open PySem
/-! ### cells: a heap told by a list of places, each place once -/
structure Lay (S : Hm) (cs : List (Nat × Ob)) : Prop where
  nd : (cs.map (·.1)).Nodup
  at_ : ∀ c ∈ cs, S[c.1]? = some c.2
section
variable {S : Hm} {cs cs' A B : List (Nat × Ob)} {j : Nat} {o o' : Ob} {a b c d e n : Nat × Ob}
theorem Lay.get (h : Lay S cs) (m : (j, o) ∈ cs) : S[j]? = some o := h.at_ _ m
theorem Lay.lt (h : Lay S cs) (m : (j, o) ∈ cs) : j < S.length := lt_get (h.get m)
theorem Lay.perm (h : Lay S cs) (p : cs.Perm cs') : Lay S cs' := ⟨(p.map _).nodup_iff.mp h.nd, fun c m => h.at_ c (p.mem_iff.mpr m)⟩
theorem Lay.sub (h : Lay S cs) (p : cs'.Sublist cs) : Lay S cs' := ⟨(p.map _).nodup h.nd, fun c m => h.at_ c (p.subset m)⟩
theorem Lay.put (h : Lay S (A ++ (j, o) :: B)) : Lay (S.set j o') (A ++ (j, o') :: B) := by
  have e : (A ++ (j, o') :: B).map (·.1) = (A ++ (j, o) :: B).map (·.1) := by simp
  refine ⟨by rw [e]; exact h.nd, fun c m => ?_⟩
  have nd := h.nd
  rw [List.map_append, List.map_cons, List.nodup_append] at nd
  obtain ⟨_, n2, n3⟩ := nd
  rw [List.nodup_cons] at n2
  rcases List.mem_append.mp m with m | m
  · have : c.1 ≠ j := fun z => n3 c.1 (List.mem_map.mpr ⟨c, m, rfl⟩) j List.mem_cons_self z
    rw [get_ne this]
    exact h.at_ c (List.mem_append_left _ m)
  · rcases List.mem_cons.mp m with rfl | m
    · show (S.set j o')[j]? = some o'
      rw [get_set, h.get (j := j) (o := o) (by simp)]
      rfl
    · have : c.1 ≠ j := fun z => n2.1 (List.mem_map.mpr ⟨c, m, z⟩)
      rw [get_ne this]
      exact h.at_ c (List.mem_append_right _ (List.mem_cons_of_mem _ m))
theorem Lay.p0 (h : Lay S ((j, o) :: B)) : Lay (S.set j o') ((j, o') :: B) := Lay.put (A := []) h
theorem Lay.p1 (h : Lay S (a :: (j, o) :: B)) : Lay (S.set j o') (a :: (j, o') :: B) := Lay.put (A := [a]) h
theorem Lay.p2 (h : Lay S (a :: b :: (j, o) :: B)) : Lay (S.set j o') (a :: b :: (j, o') :: B) := Lay.put (A := [a, b]) h
theorem Lay.p3 (h : Lay S (a :: b :: c :: (j, o) :: B)) : Lay (S.set j o') (a :: b :: c :: (j, o') :: B) := Lay.put (A := [a, b, c]) h
theorem Lay.p4 (h : Lay S (a :: b :: c :: d :: (j, o) :: B)) : Lay (S.set j o') (a :: b :: c :: d :: (j, o') :: B) := Lay.put (A := [a, b, c, d]) h
theorem Lay.p5 (h : Lay S (a :: b :: c :: d :: e :: (j, o) :: B)) : Lay (S.set j o') (a :: b :: c :: d :: e :: (j, o') :: B) := Lay.put (A := [a, b, c, d, e]) h
theorem Lay.new (h : Lay S cs) : Lay (S ++ [o]) ((S.length, o) :: cs) := by
  refine ⟨?_, fun c m => ?_⟩
  · rw [List.map_cons, List.nodup_cons]
    refine ⟨fun z => ?_, h.nd⟩
    obtain ⟨c, m, hc⟩ := List.mem_map.mp z
    have := h.lt (j := c.1) (o := c.2) m
    simp only at hc
    omega
  · rcases List.mem_cons.mp m with rfl | m
    · exact get_new
    · exact get_app (h.at_ c m)
theorem Lay.ins (h : Lay S (n :: (A ++ B))) : Lay S (A ++ n :: B) := h.perm List.perm_middle.symm
theorem Lay.to4 (h : Lay S (n :: a :: b :: c :: d :: B)) : Lay S (a :: b :: c :: d :: n :: B) := Lay.ins (A := [a, b, c, d]) h
theorem Lay.all (S : Hm) : Lay S (S.zipIdx.map fun p => (p.2, p.1)) := by
  refine ⟨?_, fun c m => ?_⟩
  · rw [List.map_map]
    have : ((fun x : Nat × Ob => x.1) ∘ fun p : Ob × Nat => (p.2, p.1)) = fun p : Ob × Nat => p.2 := rfl
    rw [this, List.zipIdx_map_snd]
    exact List.nodup_range'
  · obtain ⟨p, hp, rfl⟩ := List.mem_map.mp m
    have := List.mem_zipIdx_iff_getElem?.mp hp
    simpa using this
theorem Lay.all_mem (h : S[j]? = some o) : (j, o) ∈ S.zipIdx.map fun p => (p.2, p.1) := List.mem_map.mpr ⟨(o, j), List.mem_zipIdx_iff_getElem?.mpr (by simpa using h), rfl⟩
end
section
variable {P : Pg} {k : Nat} {d : FDef} {args : List Val} {S : Hm} {Q Q0 : Post} {X : XPost} {c x : String}
theorem call_openM (hd : P.fn (.m c x) = some d) (hx : (x == "__init__") = false) (h : bodyW P (callW P k) d (padded d args) S Q X) : callW P (k + 1) (.m c x) args S Q X := by
  cases k with
  | zero => exact ⟨d, hd, by simpa [FK.init, hx] using h⟩
  | succ k =>
    rw [callW_two]
    exact ⟨d, hd, by simpa [FK.init, hx] using h⟩
theorem call_openI (hd : P.fn (.m c "__init__") = some d) (h : bodyW P (callW P k) d (padded d args) S Q X) : callW P (k + 2) (.m c "__init__") args S Q X := by
  rw [callW_two]
  exact ⟨d, hd, by simpa [FK.init] using h⟩
end
theorem atI_last {α : Type} {l : List α} {x : α} : atI (l ++ [x]) (-1) = some x := by
  have : ixN (l ++ [x]).length (-1) = some l.length := by
    unfold ixN
    rw [if_neg (by decide), if_pos (by simp; omega)]
    congr 1
    rw [List.length_append]
    simp only [List.length_cons, List.length_nil]
    omega
  unfold atI
  rw [this]
  simp
theorem popW {S : Hm} {n : Nat} {xs : List Val} {y : Val} {Q : Post} (h : S[n]? = some (.lst (xs ++ [y]))) (hq : Q y (S.set n (.lst xs))) : bmW .pop (.ref n) [] S Q := by
  simp only [bmW]
  refine ⟨_, y, h, by simp, ?_⟩
  rw [List.dropLast_concat]
  exact hq
theorem appW {S : Hm} {n : Nat} {xs : List Val} {y : Val} {Q : Post} (h : S[n]? = some (.lst xs)) (hl : xs.length < sizeLine) (hq : Q .non (S.set n (.lst (xs ++ [y])))) : bmW .append (.ref n) [y] S Q := by
  simp only [bmW]
  exact ⟨_, h, hl, hq⟩
theorem popT {S : Hm} {n : Nat} {xs : List Val} (h : S[n]? = some (.lst xs)) : bmT .pop (.ref n) S := ⟨n, xs, rfl, lst_at h⟩
theorem appT {S : Hm} {n : Nat} {xs : List Val} (h : S[n]? = some (.lst xs)) : bmT .append (.ref n) S := ⟨n, xs, rfl, lst_at h⟩
theorem last_get {α : Type} {l : List α} {x : α} : (l ++ [x])[(l ++ [x]).length - 1]? = some x := by simp
end Mi

set_option maxHeartbeats 1000000
namespace Mi
open PySem
section
variable {S : Hm} {Q : Post} {a b c d : Val} {xs : List Val}
theorem tup0 : subW (.tup (a :: xs)) (.int 0) S Q = Q a S := by
  apply propext
  simp only [subW]
  have : atI (a :: xs) 0 = some a := ix_zero
  rw [this]
  constructor
  · rintro ⟨v, h, q⟩; cases h; exact q
  · intro q; exact ⟨a, rfl, q⟩
theorem tup1 : subW (.tup (a :: b :: xs)) (.int 1) S Q = Q b S := by
  apply propext
  simp only [subW]
  have : atI (a :: b :: xs) 1 = some b := ix_nat (i := 1) rfl
  rw [this]
  constructor
  · rintro ⟨v, h, q⟩; cases h; exact q
  · intro q; exact ⟨b, rfl, q⟩
theorem tup2 : subW (.tup (a :: b :: c :: xs)) (.int 2) S Q = Q c S := by
  apply propext
  simp only [subW]
  have : atI (a :: b :: c :: xs) 2 = some c := ix_nat (i := 2) rfl
  rw [this]
  constructor
  · rintro ⟨v, h, q⟩; cases h; exact q
  · intro q; exact ⟨c, rfl, q⟩
theorem tup3 : subW (.tup (a :: b :: c :: d :: xs)) (.int 3) S Q = Q d S := by
  apply propext
  simp only [subW]
  have : atI (a :: b :: c :: d :: xs) 3 = some d := ix_nat (i := 3) rfl
  rw [this]
  constructor
  · rintro ⟨v, h, q⟩; cases h; exact q
  · intro q; exact ⟨d, rfl, q⟩
end
section
variable {α : Type} {q q' : Key} {v : α}
theorem look_cons {a : Key} {b : α} {r : List (Key × α)} : lookK ((a, b) :: r) q = if a = q then some b else lookK r q := by
  unfold lookK
  rw [List.find?_cons]
  by_cases h : a = q
  · simp [h]
  · simp [h]
theorem look_map : ∀ (kvs : List (Key × α)), lookK (kvs.map fun kv => if kv.1 = q then (kv.1, v) else kv) q' = if q' = q then (lookK kvs q).map (fun _ => v) else lookK kvs q'
  | [] => by simp [lookK]
  | (a, b) :: r => by
    rw [List.map_cons]
    have ih := look_map r
    by_cases h : a = q
    · subst h
      rw [if_pos rfl, look_cons, look_cons, look_cons, ih]
      by_cases h2 : a = q'
      · subst h2; simp
      · rw [if_neg h2, if_neg h2, if_neg (Ne.symm h2), if_neg (Ne.symm h2)]
    · rw [if_neg h, look_cons, look_cons, look_cons, ih]
      by_cases h2 : a = q'
      · subst h2; simp [h]
      · rw [if_neg h2, if_neg h2, if_neg h]
theorem look_app : ∀ (kvs : List (Key × α)), lookK (kvs ++ [(q, v)]) q' = match lookK kvs q' with | some x => some x | none => if q = q' then some v else none
  | [] => by
    rw [List.nil_append, look_cons]
    simp [lookK]
  | (a, b) :: r => by
    rw [List.cons_append, look_cons, look_cons, look_app r]
    by_cases h2 : a = q'
    · rw [if_pos h2, if_pos h2]
    · rw [if_neg h2, if_neg h2]
theorem look_any : ∀ (kvs : List (Key × α)), (kvs.any fun kv => decide (kv.1 = q)) = (lookK kvs q).isSome
  | [] => rfl
  | (a, b) :: r => by
    rw [List.any_cons, look_cons, look_any r]
    by_cases h : a = q <;> simp [h]
theorem look_put {kvs : List (Key × α)} : lookK (putK kvs q v) q' = if q' = q then some v else lookK kvs q' := by
  unfold putK
  by_cases h : (kvs.any fun kv => decide (kv.1 = q)) = true
  · rw [if_pos h, look_map]
    rw [look_any] at h
    by_cases h2 : q' = q
    · rw [if_pos h2, if_pos h2]
      cases e : lookK kvs q with
      | none => rw [e] at h; cases h
      | some x => rfl
    · rw [if_neg h2, if_neg h2]
  · rw [if_neg h, look_app]
    rw [look_any] at h
    by_cases h2 : q' = q
    · subst h2
      cases e : lookK kvs q' with
      | none => simp
      | some x => rw [e] at h; simp at h
    · rw [if_neg h2, if_neg (Ne.symm h2)]
      cases lookK kvs q' <;> rfl
theorem put_len {kvs : List (Key × α)} : (putK kvs q v).length ≤ kvs.length + 1 := by
  unfold putK
  split
  · simp
  · simp
end
theorem repr_len {n d : Nat} (hd : 0 < d) : (toString (n : Int)).length ≤ d ↔ n < 10 ^ d := by
  have e : (toString (n : Int)).length = (Nat.toDigits 10 n).length := by
    rw [← String.length_toList]
    show (Nat.repr n).toList.length = _
    rw [Nat.toList_repr]
  rw [e]
  exact Nat.length_toDigits_le_iff (by decide) hd
/-! ### data that stays the same -/
def pureV : Nat → Val → Bool
  | _, .non => true
  | _, .bl _ => true
  | _, .int _ => true
  | _, .str _ => true
  | k + 1, .tup xs => xs.all (pureV k)
  | _, _ => false
theorem dat_pure {S : Hm} : ∀ (k : Nat) (v : Val), pureV k v = true → ∃ x, dat S k v = some x ∧ PyData.eqv x x = true
  | 0, .non, _ => ⟨_, rfl, by simp only [PyData.eqv]⟩
  | 0, .bl b, _ => ⟨_, rfl, by simp [PyData.eqv]⟩
  | 0, .int b, _ => ⟨_, rfl, by simp [PyData.eqv]⟩
  | 0, .str b, _ => ⟨_, rfl, by simp [PyData.eqv]⟩
  | k + 1, .non, _ => ⟨_, rfl, by simp only [PyData.eqv]⟩
  | k + 1, .bl b, _ => ⟨_, rfl, by simp [PyData.eqv]⟩
  | k + 1, .int b, _ => ⟨_, rfl, by simp [PyData.eqv]⟩
  | k + 1, .str b, _ => ⟨_, rfl, by simp [PyData.eqv]⟩
  | k + 1, .tup xs, h => by
    simp only [pureV, List.all_eq_true] at h
    have all : ∀ (ws : List Val), (∀ w ∈ ws, pureV k w = true) → ∃ ys, ws.mapM (dat S k) = some ys ∧ PyData.eqvAll ys ys = true := by
      intro ws
      induction ws with
      | nil => intro _; exact ⟨[], rfl, by simp only [PyData.eqvAll]⟩
      | cons w r ih =>
        intro hh
        obtain ⟨y, e1, e2⟩ := dat_pure (S := S) k w (hh w List.mem_cons_self)
        obtain ⟨ys, e3, e4⟩ := ih fun w hw => hh w (List.mem_cons_of_mem _ hw)
        refine ⟨y :: ys, ?_, ?_⟩
        · rw [List.mapM_cons, e1, e3]; rfl
        · simp only [PyData.eqvAll, e2, e4, Bool.and_self]
    obtain ⟨ys, e1, e2⟩ := all xs h
    refine ⟨.tuple ys, ?_, ?_⟩
    · simp only [dat, e1, Option.map_some]
    · simp only [PyData.eqv, e2]
theorem same_ne {S : Hm} {v : Val} {Q : Bool → Prop} (h : pureV 60 v = true) (hq : Q false) : cmpW .NotEq v v S Q := by
  obtain ⟨x, e1, e2⟩ := dat_pure (S := S) 60 v h
  simp only [cmpW]
  refine .inl ⟨x, x, e1, e1, ?_⟩
  rw [e2]
  exact hq
theorem same_eq {S : Hm} {v : Val} {Q : Bool → Prop} (h : pureV 60 v = true) (hq : Q true) : eqW v v S Q := by
  obtain ⟨x, e1, e2⟩ := dat_pure (S := S) 60 v h
  refine .inl ⟨x, x, e1, e1, ?_⟩
  rw [e2]
  exact hq
theorem pure_mono : ∀ (k j : Nat) (v : Val), k ≤ j → pureV k v = true → pureV j v = true
  | k, j, .non, _, _ => by cases j <;> rfl
  | k, j, .bl _, _, _ => by cases j <;> rfl
  | k, j, .int _, _, _ => by cases j <;> rfl
  | k, j, .str _, _, _ => by cases j <;> rfl
  | k + 1, j + 1, .tup xs, hk, h => by
    simp only [pureV, List.all_eq_true] at h ⊢
    exact fun x hx => pure_mono k j x (by omega) (h x hx)
  | k + 1, 0, .tup xs, hk, h => by omega
  | 0, _, .tup _, _, h => by simp [pureV] at h
  | 0, _, .ref _, _, h => by simp [pureV] at h
  | k + 1, _, .ref _, _, h => by simp [pureV] at h
  | 0, _, .exc _, _, h => by simp [pureV] at h
  | k + 1, _, .exc _, _, h => by simp [pureV] at h
theorem mapM_map {α β γ : Type} {f : β → Option γ} {g : α → β} {h : α → γ} : ∀ (l : List α), (∀ x, f (g x) = some (h x)) → (l.map g).mapM f = some (l.map h)
  | [], _ => rfl
  | x :: r, e => by
    rw [List.map_cons, List.mapM_cons, e x, mapM_map r e]
    rfl
theorem mapM_app {β γ : Type} {f : β → Option γ} : ∀ {a b : List β} {c d : List γ}, a.mapM f = some c → b.mapM f = some d → (a ++ b).mapM f = some (c ++ d)
  | [], b, c, d, h1, h2 => by
    simp only [List.mapM_nil] at h1
    cases h1
    exact h2
  | x :: a, b, c, d, h1, h2 => by
    rw [List.mapM_cons] at h1
    rw [List.cons_append, List.mapM_cons]
    cases e : f x with
    | none => rw [e] at h1; cases h1
    | some y =>
      rw [e] at h1
      cases e2 : a.mapM f with
      | none => rw [e2] at h1; cases h1
      | some ys =>
        rw [e2] at h1
        cases h1
        rw [mapM_app e2 h2]
        rfl
theorem eqD_nil {ds : List PyData} : PyData.eqv (.list ds) (.list []) = ds.isEmpty := by cases ds <;> rfl
/-- l != [] -/
theorem ne_nil {S : Hm} {a b : Nat} {xs : List Val} {ds : List PyData} {Q : Bool → Prop} (ha : S[a]? = some (.lst xs)) (hb : S[b]? = some (.lst [])) (hd : xs.mapM (dat S 59) = some ds) (hq : Q (!xs.isEmpty)) : cmpW .NotEq (.ref a) (.ref b) S Q := by
  simp only [cmpW]
  refine .inl ⟨.list ds, .list [], ?_, ?_, ?_⟩
  · simp only [dat, lst_at ha, hd, Option.map_some]
  · simp only [dat, lst_at hb]; rfl
  · rw [eqD_nil]
    have : ds.isEmpty = xs.isEmpty := by
      cases xs with
      | nil => simp only [List.mapM_nil] at hd; cases hd; rfl
      | cons x r =>
        rw [List.mapM_cons] at hd
        cases e : dat S 59 x with
        | none => rw [e] at hd; cases hd
        | some y =>
          rw [e] at hd
          cases e2 : r.mapM (dat S 59) with
          | none => rw [e2] at hd; cases hd
          | some ys => rw [e2] at hd; cases hd; rfl
    rw [this]
    exact hq
theorem set_mid {α : Type} {A B : List α} {a b : α} : (A ++ a :: B).set A.length b = A ++ b :: B := by simp
theorem set_at {α : Type} {A B : List α} {a b : α} {n : Nat} (h : n = A.length) : (A ++ a :: B).set n b = A ++ b :: B := by subst h; simp
theorem ixN_nat {n j : Nat} (h : j < n) : ixN n (j : Int) = some j := by
  unfold ixN
  rw [if_pos (by omega), if_pos (by omega), Int.toNat_natCast]
section
variable {S : Hm}
theorem at_mem {n : Nat} {xs : List Val} {r : Int} {Q : Post} (h : S[n]? = some (.lst xs)) (h0 : 0 ≤ r) (h1 : r < xs.length) (hq : ∀ v ∈ xs, Q v S) : subW (.ref n) (.int r) S Q := by
  obtain ⟨j, rfl⟩ := Int.eq_ofNat_of_zero_le h0
  have hj : j < xs.length := by omega
  exact subW_lst (lst_at h) (ix_nat (List.getElem?_eq_getElem hj)) (hq _ (List.getElem_mem hj))
end
end Mi

set_option maxHeartbeats 4000000
namespace K14
open Mi PySem PySem.Spec L2 PyProof.Rows
abbrev pw : Program := PySem.Challenge.pw_facework_k14_schemes_of_sorts
def top (i : Nat) : Stmt := pw.main.body.getD i (.Pass ⟨0, 0, 0, 0⟩)
def mth (i j : Nat) : Stmt := match top i with
  | .ClassDef _ _ _ b _ _ _ _ _ _ _ => b.getD j (.Pass ⟨0, 0, 0, 0⟩)
  | _ => .Pass ⟨0, 0, 0, 0⟩
def s1_f_arrow : Sts := (.cons (.set 1 (.tup (.cons (.lit (.str "->")) (.cons (.loc 2) (.cons (.loc 1) .nil))))) .nil)
def s2_f_arrow : Sts := (.cons (.ret (.loc 1)) .nil)
def s3_f_arrow : Sts := (.cons (.for (.nm 2) (.rev (.loc 0)) s1_f_arrow) s2_f_arrow)
def d_f_arrow : FDef := { params := 2, names := ["kinds", "last", "kind"], dflt := [], body :=
    s3_f_arrow }
def r_f_arrow : Rw := ⟨.f "arrow", d_f_arrow, ⟨("arrow", none), "arrow", "arrow", defArgs (top 1), defBody (top 1), defScope (top 1), [], []⟩⟩
theorem b_f_arrow : BindP r_f_arrow := .of0 rfl fun _ _ _ _ _ _ us hl => match us, hl with | [_, _], _ => rfl
def s1_f_whole_of : Sts := (.cons (.ret (.sub (.loc 0) (.lit (.int 1)))) .nil)
def s2_f_whole_of : Sts := (.cons (.ret (.bin .Add (.tup (.cons (.sub (.loc 0) (.lit (.int 1))) .nil)) (.sub (.loc 0) (.lit (.int 2))))) .nil)
def s3_f_whole_of : Sts := (.cons (.ife (.v (.cmp .Eq (.bi .len (.cons (.sub (.loc 0) (.lit (.int 2))) .nil)) (.lit (.int 0)))) s1_f_whole_of .nil) s2_f_whole_of)
def d_f_whole_of : FDef := { params := 1, names := ["row"], dflt := [], body :=
    s3_f_whole_of }
def r_f_whole_of : Rw := ⟨.f "whole_of", d_f_whole_of, ⟨("whole_of", none), "whole_of", "whole_of", defArgs (top 2), defBody (top 2), defScope (top 2), [], []⟩⟩
theorem b_f_whole_of : BindP r_f_whole_of := .of0 rfl fun _ _ _ _ _ _ us hl => match us, hl with | [_], _ => rfl
def s1_f_law_next : Sts := (.cons (.expr (.bm .pop (.loc 0) (.cons (.lit (.int 0)) .nil))) .nil)
def s2_f_law_next : Sts := (.cons (.ret (.loc 2)) .nil)
def s3_f_law_next : Sts := (.cons (.set 2 (.bin .Mod (.sub (.loc 0) (.lit (.int 0))) (.loc 1))) (.cons (.setI (.loc 0) (.lit (.int 0)) (.bin .FloorDiv (.sub (.loc 0) (.lit (.int 0))) (.loc 1))) (.cons (.ife (.v (.cmp .In (.sub (.loc 0) (.lit (.int 0))) (.tup (.cons (.lit (.int 0)) (.cons (.neg (.lit (.int 1))) .nil))))) s1_f_law_next .nil) s2_f_law_next)))
def s4_f_law_next : Sts := (.cons (.setI (.loc 0) (.lit (.int 0)) (.bin .Mod (.bin .Add (.bin .Mult (.sub (.loc 0) (.lit (.int 0))) (.lit (.int 1181783497276652981))) (.lit (.int 12345678910987))) (.bin .Sub (.bin .Pow (.lit (.int 2)) (.lit (.int 61))) (.lit (.int 1))))) (.cons (.ret (.bin .Mod (.bin .FloorDiv (.sub (.loc 0) (.lit (.int 0))) (.lit (.int 65537))) (.loc 1))) .nil))
def s5_f_law_next : Sts := (.cons (.ife (.v (.cmp .Gt (.bi .len (.cons (.loc 0) .nil)) (.lit (.int 1)))) s3_f_law_next .nil) s4_f_law_next)
def d_f_law_next : FDef := { params := 2, names := ["_law_state", "_law_many", "_law_digit"], dflt := [], body :=
    s5_f_law_next }
def r_f_law_next : Rw := ⟨.f "_law_next", d_f_law_next, ⟨("_law_next", none), "_law_next", "_law_next", defArgs (top 5), defBody (top 5), defScope (top 5), [], []⟩⟩
theorem b_f_law_next : BindP r_f_law_next := .of0 rfl fun _ _ _ _ _ _ us hl => match us, hl with | [_, _], _ => rfl
def s1_f_law_drawn : Sts := (.cons (.set 1 (.bin .Mod (.bin .Add (.bin .Add (.bin .Mult (.loc 1) (.lit (.int 7368787))) (.bin .Mod (.loc 2) (.bin .Pow (.lit (.int 10)) (.lit (.int 30))))) (.lit (.int 11))) (.bin .Sub (.bin .Pow (.lit (.int 2)) (.lit (.int 61))) (.lit (.int 1))))) .nil)
def s2_f_law_drawn : Sts := (.cons (.ret (.bin .Add (.bin .Add (.lst (.cons (.bin .FloorDiv (.sub (.loc 0) (.lit (.int 0))) (.lit (.int 2))) .nil)) (.slice (.loc 0) (.some (.lit (.int 1))) (.some (.lit (.int 63))))) (.lst (.cons (.loc 1) .nil)))) .nil)
def s3_f_law_drawn : Sts := (.cons (.ret (.lst (.cons (.loc 1) .nil))) .nil)
def s4_f_law_drawn : Sts := (.cons (.ife (.and (.v (.cmp .Gt (.bi .len (.cons (.loc 0) .nil)) (.lit (.int 0)))) (.v (.cmp .Eq (.bin .Mod (.sub (.loc 0) (.lit (.int 0))) (.lit (.int 2))) (.lit (.int 1))))) s2_f_law_drawn .nil) s3_f_law_drawn)
def s5_f_law_drawn : Sts := (.cons (.set 1 (.lit (.int 1000003))) (.cons (.for (.nm 2) (.seq (.loc 0)) s1_f_law_drawn) s4_f_law_drawn))
def d_f_law_drawn : FDef := { params := 1, names := ["_law_script", "_law_seed", "_law_cell"], dflt := [], body :=
    s5_f_law_drawn }
def r_f_law_drawn : Rw := ⟨.f "_law_drawn", d_f_law_drawn, ⟨("_law_drawn", none), "_law_drawn", "_law_drawn", defArgs (top 6), defBody (top 6), defScope (top 6), [], []⟩⟩
theorem b_f_law_drawn : BindP r_f_law_drawn := .of0 rfl fun _ _ _ _ _ _ us hl => match us, hl with | [_], _ => rfl
def s1_f_law_words : Sts := (.cons (.set 5 (.lc (.bin .Add (.bin .Add (.bm .upper (.slice (.bin .Add (.loc 2) (.lit (.str "a"))) .none (.some (.lit (.int 1)))) .nil) (.loc 6)) (.slice (.loc 2) (.some (.lit (.int 1))) .none)) (.nm 6) (.seq (.loc 1)) .none [("_law_sign", 6)])) .nil)
def s2_f_law_words : Sts := (.cons (.set 5 (.lc (.bin .Add (.bm .upper (.sub (.loc 1) (.bin .Sub (.lit (.int 25)) (.loc 7))) .nil) (.slice (.loc 2) .none (.some (.bin .Mod (.bin .Mult (.loc 7) (.lit (.int 5))) (.lit (.int 6)))))) (.nm 7) (.rng1 (.lit (.int 26))) .none [("_law_k", 7)])) .nil)
def s3_f_law_words : Sts := (.cons (.set 4 (.lc (.bin .Add (.bin .Add (.sub (.loc 1) (.bin .Sub (.lit (.int 25)) (.loc 7))) (.lit (.str "x"))) (.slice (.loc 2) .none (.some (.bin .Mod (.bin .Mult (.loc 7) (.lit (.int 5))) (.lit (.int 6)))))) (.nm 7) (.rng1 (.lit (.int 26))) .none [("_law_k", 7)])) s2_f_law_words)
def s4_f_law_words : Sts := (.cons (.ret (.dic (.cons (.lit (.str "small")) (.loc 4) (.cons (.lit (.str "great")) (.loc 5) (.cons (.lit (.str "any")) (.lc (.bin .Add (.bin .Add (.lit (.str "?")) (.loc 6)) (.loc 2)) (.nm 6) (.seq (.loc 1)) .none [("_law_sign", 6)]) .nil))))) .nil)
def s5_f_law_words : Sts := (.cons (.set 5 (.bin .Add (.loc 5) (.lc (.bin .Add (.loc 8) (.lit (.str "q"))) (.nm 8) (.seq (.loc 5)) (.some (.v (.cmp .NotIn (.bin .Add (.loc 8) (.lit (.str "q"))) (.loc 5)))) [("_law_word", 8)]))) s4_f_law_words)
def s6_f_law_words : Sts := (.cons (.set 4 (.bin .Add (.loc 4) (.lc (.bin .Add (.loc 8) (.lit (.str "q"))) (.nm 8) (.seq (.loc 4)) (.some (.v (.cmp .NotIn (.bin .Add (.loc 8) (.lit (.str "q"))) (.loc 4)))) [("_law_word", 8)]))) s5_f_law_words)
def s7_f_law_words : Sts := (.cons (.ife (.v (.cmp .Eq (.call "_law_next" (.cons (.loc 0) (.cons (.lit (.int 3)) .nil))) (.lit (.int 0)))) s3_f_law_words .nil) s6_f_law_words)
def s8_f_law_words : Sts := (.cons (.ife (.v (.cmp .Eq (.call "_law_next" (.cons (.loc 0) (.cons (.lit (.int 2)) .nil))) (.lit (.int 0)))) s1_f_law_words .nil) s7_f_law_words)
def s9_f_law_words : Sts := (.cons (.set 5 (.lc (.bin .Add (.loc 6) (.loc 2)) (.nm 6) (.seq (.bm .upper (.loc 1) .nil)) .none [("_law_sign", 6)])) s8_f_law_words)
def s10_f_law_words : Sts := (.cons (.set 4 (.lc (.bin .Add (.bin .Add (.bin .Add (.slice (.loc 2) .none (.some (.loc 3))) (.lit (.str "x"))) (.loc 6)) (.slice (.loc 2) (.some (.loc 3)) .none)) (.nm 6) (.seq (.loc 1)) .none [("_law_sign", 6)])) s9_f_law_words)
def s11_f_law_words : Sts := (.cons (.set 3 (.call "_law_next" (.cons (.loc 0) (.cons (.bin .Add (.bi .len (.cons (.loc 2) .nil)) (.lit (.int 1))) .nil)))) s10_f_law_words)
def s12_f_law_words : Sts := (.cons (.set 1 (.lit (.str "abcdefghijklmnopqrstuvwxyz"))) (.cons (.set 2 (.bm .join (.lit (.str "")) (.cons (.lc (.sub (.loc 1) (.call "_law_next" (.cons (.loc 0) (.cons (.lit (.int 26)) .nil)))) (.nm 7) (.rng1 (.call "_law_next" (.cons (.loc 0) (.cons (.lit (.int 6)) .nil)))) .none [("_law_k", 7)]) .nil))) s11_f_law_words))
def d_f_law_words : FDef := { params := 1, names := ["_law_state", "_law_letters", "_law_stem", "_law_cut", "_law_small", "_law_great", "_law_sign", "_law_k", "_law_word"], dflt := [], body :=
    s12_f_law_words }
def r_f_law_words : Rw := ⟨.f "_law_words", d_f_law_words, ⟨("_law_words", none), "_law_words", "_law_words", defArgs (top 7), defBody (top 7), defScope (top 7), [], []⟩⟩
theorem b_f_law_words : BindP r_f_law_words := .of0 rfl fun _ _ _ _ _ _ us hl => match us, hl with | [_], _ => rfl
def s1_f_law_new : Sts := (.cons (.ret (.sub (.lc (.loc 3) (.nm 3) (.seq (.sub (.loc 0) (.loc 1))) (.some (.v (.cmp .NotIn (.loc 3) (.loc 2)))) [("_law_word", 3)]) (.lit (.int 0)))) .nil)
def d_f_law_new : FDef := { params := 3, names := ["_law_words_here", "_law_sort_here", "_law_taken", "_law_word"], dflt := [], body :=
    s1_f_law_new }
def r_f_law_new : Rw := ⟨.f "_law_new", d_f_law_new, ⟨("_law_new", none), "_law_new", "_law_new", defArgs (top 8), defBody (top 8), defScope (top 8), [], []⟩⟩
theorem b_f_law_new : BindP r_f_law_new := .of0 rfl fun _ _ _ _ _ _ us hl => match us, hl with | [_, _, _], _ => rfl
def s1_f_law_paths : Sts := (.cons (.aug 2 .Add (.lc (.bin .Add (.tup (.cons (.bin .Add (.bin .Add (.loc 3) (.lit (.str "."))) (.sub (.loc 5) (.lit (.int 0)))) .nil)) (.slice (.loc 5) (.some (.lit (.int 1))) .none)) (.nm 5) (.seq (.sub (.sub (.sub (.loc 0) (.lit (.str "faces"))) (.loc 4)) (.loc 1))) .none [("_law_item", 5)])) .nil)
def s2_f_law_paths : Sts := (.cons (.ret (.loc 2)) .nil)
def s3_f_law_paths : Sts := (.cons (.set 2 (.lst .nil)) (.cons (.for (.tp [3, 4]) (.seq (.sub (.loc 0) (.lit (.str "parts")))) s1_f_law_paths) s2_f_law_paths))
def d_f_law_paths : FDef := { params := 2, names := ["_law_there", "_law_what", "_law_rows", "_law_part", "_law_face", "_law_item"], dflt := [], body :=
    s3_f_law_paths }
def r_f_law_paths : Rw := ⟨.f "_law_paths", d_f_law_paths, ⟨("_law_paths", none), "_law_paths", "_law_paths", defArgs (top 9), defBody (top 9), defScope (top 9), [], []⟩⟩
theorem b_f_law_paths : BindP r_f_law_paths := .of0 rfl fun _ _ _ _ _ _ us hl => match us, hl with | [_, _], _ => rfl
def s1_f_law_kind : Sts := (.cons (.ret (.tup (.cons (.lit (.str "->")) (.cons (.call "_law_kind" (.cons (.loc 0) (.cons (.loc 1) (.cons (.loc 2) (.cons (.loc 3) (.cons (.bin .Sub (.loc 4) (.lit (.int 1))) .nil)))))) (.cons (.call "_law_kind" (.cons (.loc 0) (.cons (.loc 1) (.cons (.loc 2) (.cons (.loc 3) (.cons (.bin .Sub (.loc 4) (.lit (.int 1))) .nil)))))) .nil))))) .nil)
def s2_f_law_kind : Sts := (.cons (.ret (.sub (.loc 2) (.call "_law_next" (.cons (.loc 0) (.cons (.bi .len (.cons (.loc 2) .nil)) .nil))))) .nil)
def s3_f_law_kind : Sts := (.cons (.ret (.ite (.v (.cmp .Gt (.loc 8) (.lit (.int 0)))) (.bin .Add (.tup (.cons (.loc 7) .nil)) (.bi .tuple (.cons (.loc 9) .nil))) (.loc 7))) .nil)
def s4_f_law_kind : Sts := (.cons (.set 9 (.lc (.call "_law_kind" (.cons (.loc 0) (.cons (.loc 1) (.cons (.loc 2) (.cons (.loc 3) (.cons (.bin .Sub (.loc 4) (.lit (.int 1))) .nil)))))) (.nm 10) (.rng1 (.loc 8)) .none [("_law_k", 10)])) s3_f_law_kind)
def s5_f_law_kind : Sts := (.cons (.ife (.or (.v (.cmp .Gt (.loc 4) (.lit (.int 0)))) (.v (.cmp .Eq (.loc 8) (.lit (.int 0))))) s4_f_law_kind .nil) .nil)
def s6_f_law_kind : Sts := (.cons (.setT [7, 8] (.sub (.loc 6) (.call "_law_next" (.cons (.loc 0) (.cons (.bi .len (.cons (.loc 6) .nil)) .nil))))) s5_f_law_kind)
def s7_f_law_kind : Sts := (.cons (.ret (.lit (.str "num"))) .nil)
def s8_f_law_kind : Sts := (.cons (.ife (.and (.v (.cmp .Gt (.loc 5) (.lit (.int 1)))) (.v (.cmp .Gt (.bi .len (.cons (.loc 6) .nil)) (.lit (.int 0))))) s6_f_law_kind .nil) s7_f_law_kind)
def s9_f_law_kind : Sts := (.cons (.ife (.and (.v (.cmp .Eq (.loc 5) (.lit (.int 1)))) (.v (.cmp .Gt (.bi .len (.cons (.loc 2) .nil)) (.lit (.int 0))))) s2_f_law_kind .nil) s8_f_law_kind)
def s10_f_law_kind : Sts := (.cons (.ife (.and (.v (.cmp .Eq (.loc 5) (.lit (.int 0)))) (.v (.cmp .Gt (.loc 4) (.lit (.int 0))))) s1_f_law_kind .nil) s9_f_law_kind)
def s11_f_law_kind : Sts := (.cons (.set 6 (.bin .Add (.bin .Add (.sub (.loc 1) (.lit (.str "sorts"))) (.loc 3)) (.call "_law_paths" (.cons (.loc 1) (.cons (.lit (.str "hides")) .nil))))) s10_f_law_kind)
def s12_f_law_kind : Sts := (.cons (.set 5 (.call "_law_next" (.cons (.loc 0) (.cons (.lit (.int 4)) .nil)))) s11_f_law_kind)
def d_f_law_kind : FDef := { params := 5, names := ["_law_state", "_law_there", "_law_own", "_law_hides", "_law_deep", "_law_way", "_law_heads", "_law_name", "_law_many", "_law_parts", "_law_k"], dflt := [], body :=
    s12_f_law_kind }
def r_f_law_kind : Rw := ⟨.f "_law_kind", d_f_law_kind, ⟨("_law_kind", none), "_law_kind", "_law_kind", defArgs (top 10), defBody (top 10), defScope (top 10), [], []⟩⟩
theorem b_f_law_kind : BindP r_f_law_kind := .of0 rfl fun _ _ _ _ _ _ us hl => match us, hl with | [_, _, _, _, _], _ => rfl
def s1_f_law_sort : Sts := (.cons (.expr (.bm .append (.loc 7) (.cons (.bin .Add (.tup (.cons (.loc 8) .nil)) (.bi .tuple (.cons (.lc (.call "_law_kind" (.cons (.loc 0) (.cons (.loc 2) (.cons (.loc 4) (.cons (.lst .nil) (.cons (.lit (.int 2)) .nil)))))) (.nm 12) (.rng1 (.loc 9)) .none [("_law_k", 12)]) .nil))) .nil))) .nil)
def s2_f_law_sort : Sts := (.cons (.expr (.bm .append (.sub (.loc 2) (.loc 5)) (.cons (.loc 8) .nil))) (.cons (.set 9 (.ite (.v (.cmp .Eq (.loc 5) (.lit (.str "kind")))) (.call "_law_next" (.cons (.loc 0) (.cons (.lit (.int 5)) .nil))) (.lit (.int 1)))) s1_f_law_sort))
def s3_f_law_sort : Sts := (.cons (.ret (.bin .Add (.tup (.cons (.loc 5) (.cons (.loc 3) (.cons (.bi .tuple (.cons (.loc 4) .nil)) .nil)))) (.bi .tuple (.cons (.loc 7) .nil)))) .nil)
def s4_f_law_sort : Sts := (.cons (.set 6 (.sub (.loc 1) (.sub (.lst (.cons (.lit (.str "great")) (.cons (.lit (.str "small")) .nil))) (.bi .int (.cons (.cmp .Eq (.loc 5) (.lit (.str "record"))) .nil))))) (.cons (.set 7 (.lst .nil)) (.cons (.for (.nm 8) (.seq (.slice (.lc (.loc 11) (.nm 11) (.seq (.loc 6)) (.some (.v (.cmp .NotIn (.loc 11) (.sub (.loc 2) (.loc 5))))) [("_law_one", 11)]) .none (.some (.bin .Add (.lit (.int 1)) (.call "_law_next" (.cons (.loc 0) (.cons (.sub (.lst (.cons (.lit (.int 6)) (.cons (.lit (.int 4)) .nil))) (.bi .int (.cons (.cmp .Eq (.loc 5) (.lit (.str "record"))) .nil))) .nil))))))) s2_f_law_sort) s3_f_law_sort)))
def s5_f_law_sort : Sts := (.cons (.expr (.bm .append (.sub (.loc 2) (.lit (.str "sorts"))) (.cons (.tup (.cons (.loc 3) (.cons (.bi .len (.cons (.loc 4) .nil)) .nil))) .nil))) (.cons (.set 5 (.sub (.lst (.cons (.lit (.str "kind")) (.cons (.lit (.str "record")) .nil))) (.call "_law_next" (.cons (.loc 0) (.cons (.lit (.int 2)) .nil))))) s4_f_law_sort))
def s6_f_law_sort : Sts := (.cons (.set 4 (.slice (.sub (.loc 1) (.lit (.str "any"))) .none (.some (.call "_law_next" (.cons (.loc 0) (.cons (.lit (.int 4)) .nil)))))) s5_f_law_sort)
def s7_f_law_sort : Sts := (.cons (.set 3 (.call "_law_new" (.cons (.loc 1) (.cons (.lit (.str "small")) (.cons (.lc (.sub (.loc 10) (.lit (.int 0))) (.nm 10) (.seq (.sub (.loc 2) (.lit (.str "sorts")))) .none [("_law_row", 10)]) .nil))))) s6_f_law_sort)
def d_f_law_sort : FDef := { params := 3, names := ["_law_state", "_law_words_here", "_law_there", "_law_name", "_law_own", "_law_sort_here", "_law_pool", "_law_rows", "_law_word", "_law_many", "_law_row", "_law_one", "_law_k"], dflt := [], body :=
    s7_f_law_sort }
def r_f_law_sort : Rw := ⟨.f "_law_sort", d_f_law_sort, ⟨("_law_sort", none), "_law_sort", "_law_sort", defArgs (top 11), defBody (top 11), defScope (top 11), [], []⟩⟩
theorem b_f_law_sort : BindP r_f_law_sort := .of0 rfl fun _ _ _ _ _ _ us hl => match us, hl with | [_, _, _], _ => rfl
def s1_f_law_arrow : Sts := (.cons (.ret (.ite (.v (.cmp .Eq (.bi .len (.cons (.loc 0) .nil)) (.lit (.int 0)))) (.loc 1) (.tup (.cons (.lit (.str "->")) (.cons (.sub (.loc 0) (.lit (.int 0))) (.cons (.call "_law_arrow" (.cons (.slice (.loc 0) (.some (.lit (.int 1))) .none) (.cons (.loc 1) .nil))) .nil)))))) .nil)
def d_f_law_arrow : FDef := { params := 2, names := ["_law_kinds", "_law_last"], dflt := [], body :=
    s1_f_law_arrow }
def r_f_law_arrow : Rw := ⟨.f "_law_arrow", d_f_law_arrow, ⟨("_law_arrow", none), "_law_arrow", "_law_arrow", defArgs (top 12), defBody (top 12), defScope (top 12), [], []⟩⟩
theorem b_f_law_arrow : BindP r_f_law_arrow := .of0 rfl fun _ _ _ _ _ _ us hl => match us, hl with | [_, _], _ => rfl
def s1_f_law_row_right : Sts := (.cons (.ret (.lit (.bl false))) .nil)
def s2_f_law_row_right : Sts := (.cons (.ret (.bi .all (.cons (.lc (.cmp .Eq (.meth "Sorts" "field" (.loc 0) (.cons (.loc 6) .nil)) (.tup (.cons (.sub (.loc 1) (.lit (.int 2))) (.cons (.tup (.cons (.lit (.str "->")) (.cons (.loc 2) (.cons (.loc 7) .nil)))) .nil)))) (.tp [6, 7]) (.seq (.slice (.loc 1) (.some (.lit (.int 3))) .none)) .none [("_law_name", 6), ("_law_kind_here", 7)]) .nil))) .nil)
def s3_f_law_row_right : Sts := (.cons (.ife (.v (.cmp .NotEq (.meth "Sorts" "record" (.loc 0) (.cons (.sub (.loc 1) (.lit (.int 1))) .nil)) (.tup (.cons (.sub (.loc 1) (.lit (.int 2))) (.cons (.call "_law_arrow" (.cons (.lc (.loc 7) (.tp [6, 7]) (.seq (.slice (.loc 1) (.some (.lit (.int 3))) .none)) .none [("_law_name", 6), ("_law_kind_here", 7)]) (.cons (.loc 2) .nil))) .nil))))) s1_f_law_row_right .nil) s2_f_law_row_right)
def s4_f_law_row_right : Sts := (.cons (.ret (.lit (.bl false))) .nil)
def s5_f_law_row_right : Sts := (.cons (.ife (.or (.v (.cmp .NotEq (.meth "Sorts" "tag" (.loc 0) (.cons (.sub (.loc 3) (.lit (.int 0))) .nil)) (.tup (.cons (.sub (.loc 1) (.lit (.int 2))) (.cons (.call "_law_arrow" (.cons (.slice (.loc 3) (.some (.lit (.int 1))) .none) (.cons (.loc 2) .nil))) .nil))))) (.v (.cmp .NotEq (.meth "Sorts" "kind_of" (.loc 0) (.cons (.sub (.loc 3) (.lit (.int 0))) .nil)) (.sub (.loc 1) (.lit (.int 1)))))) s4_f_law_row_right .nil) .nil)
def s6_f_law_row_right : Sts := (.cons (.ret (.lit (.bl false))) .nil)
def s7_f_law_row_right : Sts := (.cons (.expr (.bm .append (.loc 4) (.cons (.sub (.loc 1) (.lit (.int 1))) .nil))) (.cons (.ret (.cmp .Eq (.meth "Sorts" "tags" (.loc 0) (.cons (.sub (.loc 1) (.lit (.int 1))) .nil)) (.loc 5))) .nil))
def s8_f_law_row_right : Sts := (.cons (.ife (.or (.not (.v (.isi (.loc 4) [.list]))) (.v (.cmp .NotEq (.loc 4) (.loc 5)))) s6_f_law_row_right .nil) s7_f_law_row_right)
def s9_f_law_row_right : Sts := (.cons (.set 5 (.lc (.sub (.loc 3) (.lit (.int 0))) (.nm 3) (.seq (.slice (.loc 1) (.some (.lit (.int 3))) .none)) .none [("_law_tag", 3)])) s8_f_law_row_right)
def s10_f_law_row_right : Sts := (.cons (.set 4 (.meth "Sorts" "tags" (.loc 0) (.cons (.sub (.loc 1) (.lit (.int 1))) .nil))) s9_f_law_row_right)
def s11_f_law_row_right : Sts := (.cons (.for (.nm 3) (.seq (.slice (.loc 1) (.some (.lit (.int 3))) .none)) s5_f_law_row_right) s10_f_law_row_right)
def s12_f_law_row_right : Sts := (.cons (.set 2 (.ite (.v (.cmp .Eq (.bi .len (.cons (.sub (.loc 1) (.lit (.int 2))) .nil)) (.lit (.int 0)))) (.sub (.loc 1) (.lit (.int 1))) (.bin .Add (.tup (.cons (.sub (.loc 1) (.lit (.int 1))) .nil)) (.sub (.loc 1) (.lit (.int 2)))))) (.cons (.ife (.v (.cmp .Eq (.sub (.loc 1) (.lit (.int 0))) (.lit (.str "record")))) s3_f_law_row_right .nil) s11_f_law_row_right))
def d_f_law_row_right : FDef := { params := 2, names := ["_law_sorts", "_law_row", "_law_last", "_law_tag", "_law_told", "_law_due", "_law_name", "_law_kind_here"], dflt := [], body :=
    s12_f_law_row_right }
def r_f_law_row_right : Rw := ⟨.f "_law_row_right", d_f_law_row_right, ⟨("_law_row_right", none), "_law_row_right", "_law_row_right", defArgs (top 13), defBody (top 13), defScope (top 13), [], []⟩⟩
theorem b_f_law_row_right : BindP r_f_law_row_right := .of0 rfl fun _ _ _ _ _ _ us hl => match us, hl with | [_, _], _ => rfl
def s1_f_law : Sts := (.cons (.ret (.lit (.bl false))) .nil)
def s2_f_law : Sts := (.cons (.ife (.not (.v (.call "_law_row_right" (.cons (.loc 7) (.cons (.loc 9) .nil))))) s1_f_law .nil) .nil)
def s3_f_law : Sts := (.cons (.ret (.call "_law_row_right" (.cons (.loc 8) (.cons (.sub (.loc 6) (.lit (.int 0))) .nil)))) .nil)
def s4_f_law : Sts := (.cons (.for (.nm 9) (.seq (.loc 6)) s2_f_law) s3_f_law)
def s5_f_law : Sts := (.cons (.set 8 (.make "Sorts" (.cons (.tup (.cons (.loc 4) (.cons (.loc 5) (.cons (.sub (.loc 6) (.lit (.int 0))) (.cons (.tup (.cons (.lit (.str "main")) (.cons (.lit (.int 0)) .nil))) .nil))))) .nil))) s4_f_law)
def s6_f_law : Sts := (.cons (.set 7 (.make "Sorts" (.cons (.bin .Add (.bin .Add (.tup (.cons (.loc 4) (.cons (.loc 5) .nil))) (.bi .tuple (.cons (.loc 6) .nil))) (.tup (.cons (.tup (.cons (.lit (.str "main")) (.cons (.lit (.int 0)) .nil))) .nil))) .nil))) s5_f_law)
def s7_f_law : Sts := (.cons (.par [10, 11, 12] (.cons (.sub (.loc 2) (.lit (.str "small"))) (.cons (.sub (.loc 2) (.lit (.str "great"))) (.cons (.sub (.loc 2) (.lit (.str "any"))) .nil)))) (.cons (.set 3 (.dic (.cons (.lit (.str "sorts")) (.lst .nil) (.cons (.lit (.str "kind")) (.lst .nil) (.cons (.lit (.str "record")) (.lst .nil) (.cons (.lit (.str "faces")) (.dic .nil) (.cons (.lit (.str "parts")) (.lst (.cons (.tup (.cons (.sub (.loc 11) (.neg (.lit (.int 2)))) (.cons (.sub (.loc 11) (.neg (.lit (.int 1)))) .nil))) .nil)) .nil))))))) (.cons (.setI (.sub (.loc 3) (.lit (.str "faces"))) (.sub (.loc 11) (.neg (.lit (.int 1)))) (.dic (.cons (.lit (.str "hides")) (.lst (.cons (.tup (.cons (.sub (.loc 10) (.neg (.lit (.int 1)))) (.cons (.lit (.int 0)) .nil))) (.cons (.tup (.cons (.sub (.loc 10) (.neg (.lit (.int 2)))) (.cons (.lit (.int 2)) .nil))) .nil))) .nil))) (.cons (.set 4 (.tup (.cons (.lit (.str "face")) (.cons (.sub (.loc 11) (.neg (.lit (.int 1)))) (.cons (.tup .nil) (.cons (.tup (.cons (.lit (.str "hide")) (.cons (.sub (.loc 10) (.neg (.lit (.int 1)))) (.cons (.lit (.int 0)) .nil)))) (.cons (.tup (.cons (.lit (.str "hide")) (.cons (.sub (.loc 10) (.neg (.lit (.int 2)))) (.cons (.lit (.int 2)) .nil)))) .nil))))))) (.cons (.set 5 (.tup (.cons (.lit (.str "part")) (.cons (.sub (.loc 11) (.neg (.lit (.int 2)))) (.cons (.sub (.loc 11) (.neg (.lit (.int 1)))) (.cons (.tup (.cons (.lit (.str "hide")) (.cons (.sub (.loc 10) (.neg (.lit (.int 1)))) (.cons (.tup .nil) (.cons (.lit (.str "num")) .nil))))) (.cons (.tup (.cons (.lit (.str "hide")) (.cons (.sub (.loc 10) (.neg (.lit (.int 2)))) (.cons (.tup (.cons (.sub (.loc 12) (.lit (.int 0))) (.cons (.sub (.loc 12) (.lit (.int 1))) .nil))) (.cons (.sub (.loc 12) (.lit (.int 1))) .nil))))) .nil))))))) (.cons (.set 6 (.lc (.call "_law_sort" (.cons (.loc 1) (.cons (.loc 2) (.cons (.loc 3) .nil)))) (.nm 13) (.rng1 (.bin .Add (.lit (.int 1)) (.call "_law_next" (.cons (.loc 1) (.cons (.sub (.lst (.cons (.lit (.int 4)) (.cons (.lit (.int 8)) .nil))) (.bi .int (.cons (.cmp .Eq (.call "_law_next" (.cons (.loc 1) (.cons (.lit (.int 3)) .nil))) (.lit (.int 0))) .nil))) .nil))))) .none [("_law_k", 13)])) s6_f_law))))))
def s8_f_law : Sts := (.cons (.set 2 (.call "_law_words" (.cons (.loc 1) .nil))) s7_f_law)
def s9_f_law : Sts := (.cons (.set 1 (.call "_law_drawn" (.cons (.loc 0) .nil))) s8_f_law)
def d_f_law : FDef := { params := 1, names := ["_law_script", "_law_state", "_law_words_here", "_law_there", "_law_face", "_law_part", "_law_rows", "_law_sorts", "_law_other", "_law_row", "_law_s", "_law_g", "_law_a", "_law_k"], dflt := [], body :=
    s9_f_law }
def r_f_law : Rw := ⟨.f "law", d_f_law, ⟨("law", none), "law", "law", defArgs (top 14), defBody (top 14), defScope (top 14), [], []⟩⟩
theorem b_f_law : BindP r_f_law := .of0 rfl fun _ _ _ _ _ _ us hl => match us, hl with | [_], _ => rfl
def s1_m_Sorts_init : Sts := (.cons (.expr (.meth "Sorts" "put_kind" (.loc 0) (.cons (.loc 2) .nil))) .nil)
def s2_m_Sorts_init : Sts := (.cons (.expr (.meth "Sorts" "put_record" (.loc 0) (.cons (.loc 2) .nil))) .nil)
def s3_m_Sorts_init : Sts := (.cons (.ife (.v (.cmp .Eq (.sub (.loc 2) (.lit (.int 0))) (.lit (.str "record")))) s2_m_Sorts_init .nil) .nil)
def s4_m_Sorts_init : Sts := (.cons (.ife (.v (.cmp .Eq (.sub (.loc 2) (.lit (.int 0))) (.lit (.str "kind")))) s1_m_Sorts_init s3_m_Sorts_init) .nil)
def s5_m_Sorts_init : Sts := (.cons (.setF (.loc 0) "tag_schemes" (.dic .nil)) (.cons (.setF (.loc 0) "record_schemes" (.dic .nil)) (.cons (.setF (.loc 0) "field_schemes" (.dic .nil)) (.cons (.setF (.loc 0) "kinds" (.dic .nil)) (.cons (.setF (.loc 0) "rows" (.dic .nil)) (.cons (.for (.nm 2) (.seq (.loc 1)) s4_m_Sorts_init) .nil))))))
def d_m_Sorts_init : FDef := { params := 2, names := ["self", "program", "row"], dflt := [], body :=
    s5_m_Sorts_init }
def r_m_Sorts_init : Rw := ⟨.m "Sorts" "__init__", d_m_Sorts_init, ⟨("Sorts", some "__init__"), "__init__", "Sorts.__init__", defArgs (mth 3 0), defBody (mth 3 0), defScope (mth 3 0), [], []⟩⟩
theorem b_m_Sorts_init : BindP r_m_Sorts_init := .of0 rfl fun _ _ _ _ _ _ us hl => match us, hl with | [_, _], _ => rfl
def s1_m_Sorts_put_kind : Sts := (.cons (.setI (.fld (.loc 0) "kinds") (.sub (.loc 2) (.lit (.int 0))) (.sub (.loc 1) (.lit (.int 1)))) (.cons (.setI (.fld (.loc 0) "tag_schemes") (.sub (.loc 2) (.lit (.int 0))) (.tup (.cons (.sub (.loc 1) (.lit (.int 2))) (.cons (.call "arrow" (.cons (.slice (.loc 2) (.some (.lit (.int 1))) .none) (.cons (.call "whole_of" (.cons (.loc 1) .nil)) .nil))) .nil)))) .nil))
def s2_m_Sorts_put_kind : Sts := (.cons (.for (.nm 2) (.seq (.slice (.loc 1) (.some (.lit (.int 3))) .none)) s1_m_Sorts_put_kind) .nil)
def s3_m_Sorts_put_kind : Sts := (.cons (.setI (.fld (.loc 0) "rows") (.sub (.loc 1) (.lit (.int 1))) (.lc (.sub (.loc 2) (.lit (.int 0))) (.nm 2) (.seq (.slice (.loc 1) (.some (.lit (.int 3))) .none)) .none [("tag", 2)])) s2_m_Sorts_put_kind)
def d_m_Sorts_put_kind : FDef := { params := 2, names := ["self", "row", "tag"], dflt := [], body :=
    s3_m_Sorts_put_kind }
def r_m_Sorts_put_kind : Rw := ⟨.m "Sorts" "put_kind", d_m_Sorts_put_kind, ⟨("Sorts", some "put_kind"), "put_kind", "Sorts.put_kind", defArgs (mth 3 1), defBody (mth 3 1), defScope (mth 3 1), [], []⟩⟩
theorem b_m_Sorts_put_kind : BindP r_m_Sorts_put_kind := .of0 rfl fun _ _ _ _ _ _ us hl => match us, hl with | [_, _], _ => rfl
def s1_m_Sorts_put_record : Sts := (.cons (.setI (.fld (.loc 0) "field_schemes") (.loc 3) (.tup (.cons (.sub (.loc 1) (.lit (.int 2))) (.cons (.tup (.cons (.lit (.str "->")) (.cons (.call "whole_of" (.cons (.loc 1) .nil)) (.cons (.loc 4) .nil)))) .nil)))) .nil)
def s2_m_Sorts_put_record : Sts := (.cons (.for (.tp [3, 4]) (.seq (.slice (.loc 1) (.some (.lit (.int 3))) .none)) s1_m_Sorts_put_record) .nil)
def s3_m_Sorts_put_record : Sts := (.cons (.setI (.fld (.loc 0) "record_schemes") (.sub (.loc 1) (.lit (.int 1))) (.tup (.cons (.sub (.loc 1) (.lit (.int 2))) (.cons (.call "arrow" (.cons (.loc 2) (.cons (.call "whole_of" (.cons (.loc 1) .nil)) .nil))) .nil)))) s2_m_Sorts_put_record)
def s4_m_Sorts_put_record : Sts := (.cons (.set 2 (.lc (.loc 4) (.tp [3, 4]) (.seq (.slice (.loc 1) (.some (.lit (.int 3))) .none)) .none [("name", 3), ("kind", 4)])) s3_m_Sorts_put_record)
def d_m_Sorts_put_record : FDef := { params := 2, names := ["self", "row", "fields", "name", "kind"], dflt := [], body :=
    s4_m_Sorts_put_record }
def r_m_Sorts_put_record : Rw := ⟨.m "Sorts" "put_record", d_m_Sorts_put_record, ⟨("Sorts", some "put_record"), "put_record", "Sorts.put_record", defArgs (mth 3 2), defBody (mth 3 2), defScope (mth 3 2), [], []⟩⟩
theorem b_m_Sorts_put_record : BindP r_m_Sorts_put_record := .of0 rfl fun _ _ _ _ _ _ us hl => match us, hl with | [_, _], _ => rfl
def s1_m_Sorts_tag : Sts := (.cons (.ret (.sub (.fld (.loc 0) "tag_schemes") (.loc 1))) .nil)
def d_m_Sorts_tag : FDef := { params := 2, names := ["self", "name"], dflt := [], body :=
    s1_m_Sorts_tag }
def r_m_Sorts_tag : Rw := ⟨.m "Sorts" "tag", d_m_Sorts_tag, ⟨("Sorts", some "tag"), "tag", "Sorts.tag", defArgs (mth 3 3), defBody (mth 3 3), defScope (mth 3 3), [], []⟩⟩
theorem b_m_Sorts_tag : BindP r_m_Sorts_tag := .of0 rfl fun _ _ _ _ _ _ us hl => match us, hl with | [_, _], _ => rfl
def s1_m_Sorts_record : Sts := (.cons (.ret (.sub (.fld (.loc 0) "record_schemes") (.loc 1))) .nil)
def d_m_Sorts_record : FDef := { params := 2, names := ["self", "name"], dflt := [], body :=
    s1_m_Sorts_record }
def r_m_Sorts_record : Rw := ⟨.m "Sorts" "record", d_m_Sorts_record, ⟨("Sorts", some "record"), "record", "Sorts.record", defArgs (mth 3 4), defBody (mth 3 4), defScope (mth 3 4), [], []⟩⟩
theorem b_m_Sorts_record : BindP r_m_Sorts_record := .of0 rfl fun _ _ _ _ _ _ us hl => match us, hl with | [_, _], _ => rfl
def s1_m_Sorts_field : Sts := (.cons (.ret (.sub (.fld (.loc 0) "field_schemes") (.loc 1))) .nil)
def d_m_Sorts_field : FDef := { params := 2, names := ["self", "name"], dflt := [], body :=
    s1_m_Sorts_field }
def r_m_Sorts_field : Rw := ⟨.m "Sorts" "field", d_m_Sorts_field, ⟨("Sorts", some "field"), "field", "Sorts.field", defArgs (mth 3 5), defBody (mth 3 5), defScope (mth 3 5), [], []⟩⟩
theorem b_m_Sorts_field : BindP r_m_Sorts_field := .of0 rfl fun _ _ _ _ _ _ us hl => match us, hl with | [_, _], _ => rfl
def s1_m_Sorts_kind_of : Sts := (.cons (.ret (.sub (.fld (.loc 0) "kinds") (.loc 1))) .nil)
def d_m_Sorts_kind_of : FDef := { params := 2, names := ["self", "name"], dflt := [], body :=
    s1_m_Sorts_kind_of }
def r_m_Sorts_kind_of : Rw := ⟨.m "Sorts" "kind_of", d_m_Sorts_kind_of, ⟨("Sorts", some "kind_of"), "kind_of", "Sorts.kind_of", defArgs (mth 3 6), defBody (mth 3 6), defScope (mth 3 6), [], []⟩⟩
theorem b_m_Sorts_kind_of : BindP r_m_Sorts_kind_of := .of0 rfl fun _ _ _ _ _ _ us hl => match us, hl with | [_, _], _ => rfl
def s1_m_Sorts_tags : Sts := (.cons (.ret (.bi .list (.cons (.sub (.fld (.loc 0) "rows") (.loc 1)) .nil))) .nil)
def d_m_Sorts_tags : FDef := { params := 2, names := ["self", "name"], dflt := [], body :=
    s1_m_Sorts_tags }
def r_m_Sorts_tags : Rw := ⟨.m "Sorts" "tags", d_m_Sorts_tags, ⟨("Sorts", some "tags"), "tags", "Sorts.tags", defArgs (mth 3 7), defBody (mth 3 7), defScope (mth 3 7), [], []⟩⟩
theorem b_m_Sorts_tags : BindP r_m_Sorts_tags := .of0 rfl fun _ _ _ _ _ _ us hl => match us, hl with | [_, _], _ => rfl
def tab : List Rw := [r_f_arrow, r_f_whole_of, r_f_law_next, r_f_law_drawn, r_f_law_words, r_f_law_new, r_f_law_paths, r_f_law_kind, r_f_law_sort, r_f_law_arrow, r_f_law_row_right, r_f_law, r_m_Sorts_init, r_m_Sorts_put_kind, r_m_Sorts_put_record, r_m_Sorts_tag, r_m_Sorts_record, r_m_Sorts_field, r_m_Sorts_kind_of, r_m_Sorts_tags]
def con : List (String × Lit) := []
def tups : List (String × List Lit) := []
def P : Pg := { flds := ["tag_schemes", "record_schemes", "field_schemes", "kinds", "rows"], cls := ["Sorts"], tups := tups, fn := fnOfT tab, con := conV con tups, subs := [], hotf := [] }
theorem fn_f_arrow : P.fn (.f "arrow") = some d_f_arrow := by kernel_rfl
theorem fn_f_whole_of : P.fn (.f "whole_of") = some d_f_whole_of := by kernel_rfl
theorem fn_f_law_next : P.fn (.f "_law_next") = some d_f_law_next := by kernel_rfl
theorem fn_f_law_drawn : P.fn (.f "_law_drawn") = some d_f_law_drawn := by kernel_rfl
theorem fn_f_law_words : P.fn (.f "_law_words") = some d_f_law_words := by kernel_rfl
theorem fn_f_law_new : P.fn (.f "_law_new") = some d_f_law_new := by kernel_rfl
theorem fn_f_law_paths : P.fn (.f "_law_paths") = some d_f_law_paths := by kernel_rfl
theorem fn_f_law_kind : P.fn (.f "_law_kind") = some d_f_law_kind := by kernel_rfl
theorem fn_f_law_sort : P.fn (.f "_law_sort") = some d_f_law_sort := by kernel_rfl
theorem fn_f_law_arrow : P.fn (.f "_law_arrow") = some d_f_law_arrow := by kernel_rfl
theorem fn_f_law_row_right : P.fn (.f "_law_row_right") = some d_f_law_row_right := by kernel_rfl
theorem fn_f_law : P.fn (.f "law") = some d_f_law := by kernel_rfl
theorem fn_m_Sorts_init : P.fn (.m "Sorts" "__init__") = some d_m_Sorts_init := by kernel_rfl
theorem fn_m_Sorts_put_kind : P.fn (.m "Sorts" "put_kind") = some d_m_Sorts_put_kind := by kernel_rfl
theorem fn_m_Sorts_put_record : P.fn (.m "Sorts" "put_record") = some d_m_Sorts_put_record := by kernel_rfl
theorem fn_m_Sorts_tag : P.fn (.m "Sorts" "tag") = some d_m_Sorts_tag := by kernel_rfl
theorem fn_m_Sorts_record : P.fn (.m "Sorts" "record") = some d_m_Sorts_record := by kernel_rfl
theorem fn_m_Sorts_field : P.fn (.m "Sorts" "field") = some d_m_Sorts_field := by kernel_rfl
theorem fn_m_Sorts_kind_of : P.fn (.m "Sorts" "kind_of") = some d_m_Sorts_kind_of := by kernel_rfl
theorem fn_m_Sorts_tags : P.fn (.m "Sorts" "tags") = some d_m_Sorts_tags := by kernel_rfl
theorem rows_ok : tab.all (Rw.ok P) = true := by kernel_rfl
theorem bind_ok : ∀ r ∈ tab, BindP r := by
  intro r hr
  simp only [tab, List.mem_cons, List.not_mem_nil, or_false] at hr
  rcases hr with rfl | rfl | rfl | rfl | rfl | rfl | rfl | rfl | rfl | rfl | rfl | rfl | rfl | rfl | rfl | rfl | rfl | rfl | rfl | rfl
  · exact b_f_arrow
  · exact b_f_whole_of
  · exact b_f_law_next
  · exact b_f_law_drawn
  · exact b_f_law_words
  · exact b_f_law_new
  · exact b_f_law_paths
  · exact b_f_law_kind
  · exact b_f_law_sort
  · exact b_f_law_arrow
  · exact b_f_law_row_right
  · exact b_f_law
  · exact b_m_Sorts_init
  · exact b_m_Sorts_put_kind
  · exact b_m_Sorts_put_record
  · exact b_m_Sorts_tag
  · exact b_m_Sorts_record
  · exact b_m_Sorts_field
  · exact b_m_Sorts_kind_of
  · exact b_m_Sorts_tags
abbrev R : PySem.W.OpenRow := PySem.W.OpenLaw.row PySem.Challenge.rw_facework_k14_schemes_of_sorts
abbrev fas : List He.Fa := faOf P tab con
abbrev fns : List He.DefD := tab.map (·.dd)
abbrev ex : PySem.W.Frag → Bool := exB P
abbrev hk : PySem.W.Hook := He.hookX 5 fas fns [] [] ex
def ob (s : PySem.W.SharedT) : He.AlX := He.obsX 5 fas fns [] [] ex (HandSHeadRun.getT s)
theorem ob_eq (s : PySem.W.SharedT) : ob s = hk.obs s.abs := He.obsX_eq (HandSHeadRun.getT_eq s)
def loose0 : List PySem.Str := ["arrow", "whole_of", "Sorts", "_law_next", "_law_drawn", "_law_words", "_law_new", "_law_paths", "_law_kind", "_law_sort", "_law_arrow", "_law_row_right"]
abbrev loose : List PySem.Str := loose0
end K14

set_option maxHeartbeats 0
namespace K14
open PySem PySem.W PySem.Calls PyProof.Rows
theorem run (w : World) : HandSHeadRun.RunEq R (view R.prog [14]) hk ob 2850 loose w := by
  intro os
  kernel_rfl
end K14

set_option maxHeartbeats 2000000
namespace Cd
open Mi PySem
/-! ### the machine's objects -/
structure Fr where
  (f k : Nat) (kept : List Val) (behind : Val)
structure M where
  (mo pa fa sa : Nat) (most calls : Int) (pile : List Val) (fr : List Fr) (sh : List Val) (at_ : Val) (fz : List (Nat × Ob))
def Fr.cells (f : Fr) : List (Nat × Ob) := [(f.f, .ins "Frame" [("kept", .ref f.k), ("behind", f.behind)]), (f.k, .lst f.kept)]
def M.fs (m : M) : List (String × Val) := [("most", .int m.most), ("calls", .int m.calls), ("pile", .ref m.pa), ("frames", .ref m.fa), ("shared", .ref m.sa), ("at", m.at_)]
def M.frl (m : M) : List Val := (m.fr.map fun f => Val.ref f.f).reverse
def M.rest (m : M) : List (Nat × Ob) := m.fr.flatMap Fr.cells ++ m.fz
def M.cells (m : M) : List (Nat × Ob) := (m.mo, .ins "Machine" m.fs) :: (m.pa, .lst m.pile) :: (m.fa, .lst m.frl) :: (m.sa, .lst m.sh) :: m.rest
abbrev MS (S : Hm) (m : M) : Prop := Lay S m.cells
section
variable {S : Hm} {m : M}
theorem MS.mo (h : MS S m) : S[m.mo]? = some (.ins "Machine" m.fs) := h.get (by simp [M.cells])
theorem MS.pa (h : MS S m) : S[m.pa]? = some (.lst m.pile) := h.get (by simp [M.cells])
theorem MS.fa (h : MS S m) : S[m.fa]? = some (.lst m.frl) := h.get (by simp [M.cells])
theorem MS.sa (h : MS S m) : S[m.sa]? = some (.lst m.sh) := h.get (by simp [M.cells])
theorem MS.f0 {f : Fr} {r : List Fr} (h : MS S m) (e : m.fr = f :: r) : S[f.f]? = some (.ins "Frame" [("kept", .ref f.k), ("behind", f.behind)]) := h.get (by simp [M.cells, M.rest, e, Fr.cells])
theorem MS.k0 {f : Fr} {r : List Fr} (h : MS S m) (e : m.fr = f :: r) : S[f.k]? = some (.lst f.kept) := h.get (by simp [M.cells, M.rest, e, Fr.cells])
theorem MS.fzg (h : MS S m) {j : Nat} {o : Ob} (hm : (j, o) ∈ m.fz) : S[j]? = some o := h.get (by simp [M.cells, M.rest, hm])
theorem MS.setMo {x : M} (h : MS S m) (e : x = { m with most := x.most, calls := x.calls, at_ := x.at_ }) : MS (S.set m.mo (.ins "Machine" x.fs)) x := by
  rw [e]
  exact Lay.p0 h
theorem MS.setPa (h : MS S m) (l : List Val) : MS (S.set m.pa (.lst l)) { m with pile := l } := Lay.p1 h
theorem MS.setSa (h : MS S m) (l : List Val) : MS (S.set m.sa (.lst l)) { m with sh := l } := Lay.p3 h
theorem MS.setK0 {f : Fr} {r : List Fr} (h : MS S m) (e : m.fr = f :: r) (l : List Val) : MS (S.set f.k (.lst l)) { m with fr := { f with kept := l } :: r } := by
  have h' : MS S { m with fr := f :: r } := by rw [← e]; exact h
  exact Lay.p5 h'
theorem MS.frz (h : MS S m) (o : Ob) : MS (S ++ [o]) { m with fz := (S.length, o) :: m.fz } := by
  have := Lay.new (o := o) h
  have e : (S.length, o) :: m.cells = (S.length, o) :: (((m.mo, Ob.ins "Machine" m.fs) :: (m.pa, Ob.lst m.pile) :: (m.fa, Ob.lst m.frl) :: (m.sa, Ob.lst m.sh) :: m.fr.flatMap Fr.cells) ++ m.fz) := by simp [M.cells, M.rest]
  rw [e] at this
  have := Lay.ins this
  have e2 : M.cells { m with fz := (S.length, o) :: m.fz } = (((m.mo, Ob.ins "Machine" m.fs) :: (m.pa, Ob.lst m.pile) :: (m.fa, Ob.lst m.frl) :: (m.sa, Ob.lst m.sh) :: m.fr.flatMap Fr.cells) ++ (S.length, o) :: m.fz) := by simp [M.cells, M.rest, M.fs, M.frl]
  rw [MS, e2]
  exact this
theorem lk_most : m.fs.lookup "most" = some (.int m.most) := by simp [M.fs, List.lookup]
theorem lk_calls : m.fs.lookup "calls" = some (.int m.calls) := by simp [M.fs, List.lookup]
theorem lk_pile : m.fs.lookup "pile" = some (.ref m.pa) := by simp [M.fs, List.lookup]
theorem lk_frames : m.fs.lookup "frames" = some (.ref m.fa) := by simp [M.fs, List.lookup]
theorem lk_shared : m.fs.lookup "shared" = some (.ref m.sa) := by simp [M.fs, List.lookup]
theorem lk_at : m.fs.lookup "at" = some m.at_ := by simp [M.fs, List.lookup]
theorem lk_near : m.fs.lookup "near" = none := by simp [M.fs, List.lookup]
theorem lk_taken : m.fs.lookup "number_taken" = none := by simp [M.fs, List.lookup]
theorem pf_at {v : Val} : putF "at" v m.fs = M.fs { m with at_ := v } := by simp [M.fs, putF]
theorem pf_calls {i : Int} : putF "calls" (.int i) m.fs = M.fs { m with calls := i } := by simp [M.fs, putF]
theorem pf_pile {p : Nat} : putF "pile" (.ref p) m.fs = M.fs { m with pa := p } := by simp [M.fs, putF]
theorem fs_len : m.fs.length < 1000 := by simp [M.fs]
theorem frl_last {f : Fr} {r : List Fr} (e : m.fr = f :: r) : atI m.frl (-1) = some (.ref f.f) := by
  unfold M.frl
  rw [e, List.map_cons, List.reverse_cons]
  exact atI_last
end
abbrev BIG : Int := 1000000000000000000000000000000000000000000000000000000000000
/-- a number of few figures -/
def few (a : Int) : Prop := -BIG < a ∧ a < BIG
instance {a : Int} : Decidable (few a) := by unfold few; infer_instance
def opv (w : String) (a b : Int) : Int := if w = "less" then (if a < b then 1 else 0) else if w = "minus" then a - b else if w = "plus" then a + b else a * b
theorem few_mul {a b : Int} (ha : few a) (hb : few b) : mulOk a b := by
  have h1 : a.natAbs < 2 ^ (200 + 1) := by have := ha.1; have := ha.2; unfold BIG at *; omega
  have h2 : b.natAbs < 2 ^ (200 + 1) := by have := hb.1; have := hb.2; unfold BIG at *; omega
  exact mul_ok h1 h2 (by decide)
theorem abs_ge {a : Int} : decide (BIG ≤ (if a < 0 then -a else a)) = !decide (few a) := by
  by_cases h : few a
  · rw [decide_eq_true h]
    have := h.1; have := h.2
    simp only [Bool.not_true, decide_eq_false_iff_not]
    split <;> omega
  · rw [decide_eq_false h]
    unfold few at h
    simp only [Bool.not_false, decide_eq_true_eq]
    split <;> omega
abbrev ops : List String := ["plus", "minus", "times", "less"]
abbrev four : List String := ["Stuck", "TooGreat", "TooLong", "TooDeep"]
def Same (S S' : Hm) : Prop := ∀ (n : Nat) (o : Ob), S[n]? = some o → S'[n]? = some o
abbrev CS (S : Hm) : List (Nat × Ob) := S.zipIdx.map fun p => (p.2, p.1)
theorem Same.of {m : M} {S' : Hm} (h : MS S' m) (hc : ∀ c ∈ S.zipIdx.map fun p => (p.2, p.1), c ∈ m.fz) : Same S S' := fun n o hn => h.fzg (hc _ (Lay.all_mem hn))
theorem Same.refl (S : Hm) : Same S S := fun _ _ h => h
theorem Same.trans {S S1 S2 : Hm} (a : Same S S1) (b : Same S1 S2) : Same S S2 := fun n o h => b n o (a n o h)
theorem Same.app {S : Hm} (l : Hm) : Same S (S ++ l) := fun _ _ h => get_app h
/-! ### the machine without a heap -/
inductive AV where
  | num (n : Int) | clo (to : Nat) (kept : List AV) | blk (place : Int) (parts : List AV)
def AV.isNum : AV → Bool
  | .num _ => true
  | _ => false
def AV.isClo : AV → Bool
  | .clo _ _ => true
  | _ => false
def AV.isBlk : AV → Bool
  | .blk _ _ => true
  | _ => false
structure AF where
  (kept : List AV) (behind : Option Nat)
structure AM where
  (most calls : Int) (pile : List AV) (fr : List AF) (sh : List AV) (at_ : Option Nat)
inductive Row where
  | number (n : Int) | loc (j : Nat) | glob (j : Nat) | close (to : Nat) (js : List Nat) | block (pl : Int) (n : Nat) | field (j : Nat)
  | op (w : String) | keep | store | drop (n : Nat) | jump (j : Nat) | «unless» (j : Nat) | back | call | case (rows : List Nat)
def Row.enc : Row → Val
  | .number n => .tup [.str "number", .int n]
  | .loc j => .tup [.str "local", .int j]
  | .glob j => .tup [.str "global", .int j]
  | .close to js => .tup [.str "close", .int to, .tup ((js.map fun (j : Nat) => (j : Int)).map .int)]
  | .block pl n => .tup [.str "block", .int pl, .int n]
  | .field j => .tup [.str "field", .int j]
  | .op w => .tup [.str w]
  | .keep => .tup [.str "keep"]
  | .store => .tup [.str "store"]
  | .drop n => .tup [.str "drop", .int n]
  | .jump j => .tup [.str "jump", .int j]
  | .«unless» j => .tup [.str "unless", .int j]
  | .back => .tup [.str "back"]
  | .call => .tup [.str "call"]
  | .case rows => .tup [.str "case", .tup (rows.map fun (j : Nat) => .int j)]
inductive Stp (code : List Row) : AM → AM → Prop where
  | number {mo ca pi fr sh i n} : code[i]? = some (.number n) → pi.length < 16000000 → Stp code ⟨mo, ca, pi, fr, sh, some i⟩ ⟨mo, ca, pi ++ [.num n], fr, sh, some (i + 1)⟩
  | loc {mo ca pi f fr sh i j v} : code[i]? = some (.loc j) → pi.length < 16000000 → f.kept[j]? = some v → Stp code ⟨mo, ca, pi, f :: fr, sh, some i⟩ ⟨mo, ca, pi ++ [v], f :: fr, sh, some (i + 1)⟩
  | glob {mo ca pi fr sh i j v} : code[i]? = some (.glob j) → pi.length < 16000000 → sh[j]? = some v → Stp code ⟨mo, ca, pi, fr, sh, some i⟩ ⟨mo, ca, pi ++ [v], fr, sh, some (i + 1)⟩
  | close {mo ca pi f fr sh i to js vs} : code[i]? = some (.close to js) → pi.length < 16000000 → js.length < 16000000 → js.map (fun j => f.kept[j]?) = vs.map some → Stp code ⟨mo, ca, pi, f :: fr, sh, some i⟩ ⟨mo, ca, pi ++ [.clo to vs], f :: fr, sh, some (i + 1)⟩
  | block {mo ca r ps fr sh i pl} : code[i]? = some (.block pl ps.length) → r.length < 16000000 → Stp code ⟨mo, ca, r ++ ps, fr, sh, some i⟩ ⟨mo, ca, r ++ [.blk pl ps], fr, sh, some (i + 1)⟩
  | field {mo ca r ps fr sh i pl j v} : code[i]? = some (.field j) → r.length < 16000000 → ps[j]? = some v → Stp code ⟨mo, ca, r ++ [.blk pl ps], fr, sh, some i⟩ ⟨mo, ca, r ++ [v], fr, sh, some (i + 1)⟩
  | op {mo ca r fr sh i w a b} : code[i]? = some (.op w) → w ∈ ops → few a → few b → few (opv w a b) → r.length < 16000000 → Stp code ⟨mo, ca, r ++ [.num a, .num b], fr, sh, some i⟩ ⟨mo, ca, r ++ [.num (opv w a b)], fr, sh, some (i + 1)⟩
  | keep {mo ca r v f fr sh i} : code[i]? = some .keep → f.kept.length < 16000000 → Stp code ⟨mo, ca, r ++ [v], f :: fr, sh, some i⟩ ⟨mo, ca, r, ⟨f.kept ++ [v], f.behind⟩ :: fr, sh, some (i + 1)⟩
  | store {mo ca r v f fr sh i} : code[i]? = some .store → sh.length < 16000000 → Stp code ⟨mo, ca, r ++ [v], f :: fr, sh, some i⟩ ⟨mo, ca, r, f :: fr, sh ++ [v], some (i + 1)⟩
  | drop {mo ca pi l l' be fr sh i} : code[i]? = some (.drop l'.length) → Stp code ⟨mo, ca, pi, ⟨l ++ l', be⟩ :: fr, sh, some i⟩ ⟨mo, ca, pi, ⟨l, be⟩ :: fr, sh, some (i + 1)⟩
  | jump {mo ca pi fr sh i j} : code[i]? = some (.jump j) → Stp code ⟨mo, ca, pi, fr, sh, some i⟩ ⟨mo, ca, pi, fr, sh, some j⟩
  | «unless» {mo ca r n fr sh i j} : code[i]? = some (.«unless» j) → Stp code ⟨mo, ca, r ++ [.num n], fr, sh, some i⟩ ⟨mo, ca, r, fr, sh, some (if n = 0 then j else i + 1)⟩
  | back {mo ca pi f fr sh i} : code[i]? = some .back → Stp code ⟨mo, ca, pi, f :: fr, sh, some i⟩ ⟨mo, ca, pi, fr, sh, f.behind⟩
  | call {mo ca r to vs v fr sh i} : code[i]? = some .call → vs.length < 16000000 → ca < mo → fr.length ≤ 10 → Stp code ⟨mo, ca, r ++ [.clo to vs, v], fr, sh, some i⟩ ⟨mo, ca + 1, r, ⟨vs ++ [v], some (i + 1)⟩ :: fr, sh, some to⟩
  | case {mo ca r n ps f fr sh i rows j} : code[i]? = some (.case rows) → f.kept.length + ps.length < 16000000 → rows[n]? = some j → Stp code ⟨mo, ca, r ++ [.blk (n : Nat) ps], f :: fr, sh, some i⟩ ⟨mo, ca, r, ⟨f.kept ++ ps, f.behind⟩ :: fr, sh, some j⟩
inductive Bad (code : List Row) : AM → String → Prop where
  | great {mo ca r fr sh i w a b} : code[i]? = some (.op w) → w ∈ ops → few a → few b → ¬ few (opv w a b) → r.length < 16000000 → Bad code ⟨mo, ca, r ++ [.num a, .num b], fr, sh, some i⟩ "TooGreat"
  | long {mo ca r to vs v fr sh i} : code[i]? = some .call → vs.length < 16000000 → mo ≤ ca → Bad code ⟨mo, ca, r ++ [.clo to vs, v], fr, sh, some i⟩ "TooLong"
  | deep {mo ca r to vs v fr sh i} : code[i]? = some .call → vs.length < 16000000 → ca < mo → 10 < fr.length → Bad code ⟨mo, ca, r ++ [.clo to vs, v], fr, sh, some i⟩ "TooDeep"
  | opS {mo ca r fr sh i w a b} : code[i]? = some (.op w) → w ∈ ops → (a.isNum && b.isNum) = false → Bad code ⟨mo, ca, r ++ [a, b], fr, sh, some i⟩ "Stuck"
  | ifS {mo ca r a fr sh i j} : code[i]? = some (.«unless» j) → a.isNum = false → Bad code ⟨mo, ca, r ++ [a], fr, sh, some i⟩ "Stuck"
  | callS {mo ca r a v fr sh i} : code[i]? = some .call → a.isClo = false → Bad code ⟨mo, ca, r ++ [a, v], fr, sh, some i⟩ "Stuck"
  | fieldS {mo ca r a fr sh i j} : code[i]? = some (.field j) → a.isBlk = false → Bad code ⟨mo, ca, r ++ [a], fr, sh, some i⟩ "Stuck"
  | caseS {mo ca r a fr sh i rows} : code[i]? = some (.case rows) → a.isBlk = false → Bad code ⟨mo, ca, r ++ [a], fr, sh, some i⟩ "Stuck"
  | caseO {mo ca r ps fr sh i rows} {n : Int} : code[i]? = some (.case rows) → ¬ (0 ≤ n ∧ n < rows.length) → Bad code ⟨mo, ca, r ++ [.blk n ps], fr, sh, some i⟩ "Stuck"
inductive Rch (code : List Row) : Nat → AM → AM → Prop where
  | refl {a} : Rch code 0 a a
  | step {n a b c} : Stp code a b → Rch code n b c → Rch code (n + 1) a c
theorem Rch.trans {code : List Row} : ∀ {n m : Nat} {a b c : AM}, Rch code n a b → Rch code m b c → Rch code (n + m) a c
  | _, m, _, _, _, .refl, h => by rw [Nat.zero_add]; exact h
  | n + 1, m, _, _, _, .step s r, h => by rw [show n + 1 + m = (n + m) + 1 by omega]; exact .step s (r.trans h)
theorem Rch.one {code : List Row} {a b : AM} (h : Stp code a b) : Rch code 1 a b := .step h .refl
/-! ### it and the heap -/
mutual
inductive VR (fz : List (Nat × Ob)) : AV → Val → Prop where
  | num {n} : VR fz (.num n) (.int n)
  | clo {to kept c q vs} : (c, Ob.ins "Closure" [("to", .int (to : Nat)), ("kept", .ref q)]) ∈ fz → (q, Ob.lst vs) ∈ fz → VRs fz kept vs → VR fz (.clo to kept) (.ref c)
  | blk {pl ps b q vs} : (b, Ob.ins "Block" [("place", .int pl), ("parts", .ref q)]) ∈ fz → (q, Ob.lst vs) ∈ fz → VRs fz ps vs → VR fz (.blk pl ps) (.ref b)
inductive VRs (fz : List (Nat × Ob)) : List AV → List Val → Prop where
  | nil : VRs fz [] []
  | cons {a v as vs} : VR fz a v → VRs fz as vs → VRs fz (a :: as) (v :: vs)
end
section
variable {fz fz' : List (Nat × Ob)} (hs : ∀ c ∈ fz, c ∈ fz')
include hs
mutual
theorem VR.mono : ∀ {a : AV} {v : Val}, VR fz a v → VR fz' a v
  | _, _, .num => .num
  | _, _, .clo h1 h2 h3 => .clo (hs _ h1) (hs _ h2) (VRs.mono h3)
  | _, _, .blk h1 h2 h3 => .blk (hs _ h1) (hs _ h2) (VRs.mono h3)
theorem VRs.mono : ∀ {a : List AV} {v : List Val}, VRs fz a v → VRs fz' a v
  | _, _, .nil => .nil
  | _, _, .cons h1 h2 => .cons (VR.mono h1) (VRs.mono h2)
end
end
section
variable {fz : List (Nat × Ob)}
theorem VRs.len : ∀ {a : List AV} {v : List Val}, VRs fz a v → a.length = v.length
  | _, _, .nil => rfl
  | _, _, .cons _ h => by rw [List.length_cons, List.length_cons, h.len]
theorem VRs.app : ∀ {a b : List AV} {v w : List Val}, VRs fz a v → VRs fz b w → VRs fz (a ++ b) (v ++ w)
  | _, _, _, _, .nil, h => h
  | _, _, _, _, .cons h1 h2, h => .cons h1 (h2.app h)
theorem VRs.split : ∀ {a b : List AV} {v : List Val}, VRs fz (a ++ b) v → ∃ v1 v2, v = v1 ++ v2 ∧ VRs fz a v1 ∧ VRs fz b v2
  | [], b, v, h => ⟨[], v, rfl, .nil, h⟩
  | x :: a, b, _, .cons h1 h2 => by
    obtain ⟨v1, v2, rfl, h3, h4⟩ := VRs.split h2
    exact ⟨_ :: v1, v2, rfl, .cons h1 h3, h4⟩
theorem VRs.get : ∀ {a : List AV} {v : List Val} {j : Nat} {x : AV}, VRs fz a v → a[j]? = some x → ∃ u, v[j]? = some u ∧ VR fz x u
  | _, _, 0, _, .cons h1 h2, e => ⟨_, rfl, by simp at e; exact e ▸ h1⟩
  | _, _, j + 1, _, .cons h1 h2, e => by
    obtain ⟨u, q1, q2⟩ := VRs.get (j := j) h2 (by simpa using e)
    exact ⟨u, by simpa using q1, q2⟩
theorem VRs.last {r : List AV} {x : AV} {v : List Val} (h : VRs fz (r ++ [x]) v) : ∃ r' u, v = r' ++ [u] ∧ VRs fz r r' ∧ VR fz x u := by
  obtain ⟨v1, v2, rfl, h1, h2⟩ := h.split
  cases h2 with
  | cons a b => cases b; exact ⟨v1, _, rfl, h1, a⟩
theorem VRs.last2 {r : List AV} {x y : AV} {v : List Val} (h : VRs fz (r ++ [x, y]) v) : ∃ r' u w, v = r' ++ [u, w] ∧ VRs fz r r' ∧ VR fz x u ∧ VR fz y w := by
  obtain ⟨v1, v2, rfl, h1, h2⟩ := h.split
  cases h2 with
  | cons a b => cases b with
    | cons c d => cases d; exact ⟨v1, _, _, rfl, h1, a, c⟩
theorem VRs.picks {a : List AV} {v : List Val} (h : VRs fz a v) : ∀ {js : List Nat} {xs : List AV}, js.map (fun j => a[j]?) = xs.map some → ∃ us : List Val, (js.map fun (j : Nat) => (j : Int)).map (atI v) = us.map some ∧ VRs fz xs us
  | [], [], _ => ⟨[], rfl, .nil⟩
  | j :: js, x :: xs, e => by
    simp only [List.map_cons, List.cons.injEq] at e
    obtain ⟨u, q1, q2⟩ := h.get e.1
    obtain ⟨us, q3, q4⟩ := VRs.picks h e.2
    exact ⟨u :: us, by simp only [List.map_cons, q3, ix_nat q1], .cons q2 q4⟩
  | [], _ :: _, e => by simp at e
  | _ :: _, [], e => by simp at e
end
def atV : Option Nat → Val
  | none => .non
  | some i => .int i
inductive FRs (fz : List (Nat × Ob)) : List AF → List Fr → Prop where
  | nil : FRs fz [] []
  | cons {f g fs gs} : VRs fz f.kept g.kept → g.behind = atV f.behind → FRs fz fs gs → FRs fz (f :: fs) (g :: gs)
theorem FRs.mono {fz fz' : List (Nat × Ob)} (hs : ∀ c ∈ fz, c ∈ fz') : ∀ {a : List AF} {v : List Fr}, FRs fz a v → FRs fz' a v
  | _, _, .nil => .nil
  | _, _, .cons h1 h2 h3 => .cons (h1.mono hs) h2 (FRs.mono hs h3)
theorem FRs.len {fz : List (Nat × Ob)} : ∀ {a : List AF} {v : List Fr}, FRs fz a v → a.length = v.length
  | _, _, .nil => rfl
  | _, _, .cons _ _ h => by rw [List.length_cons, List.length_cons, h.len]
structure AR (cs : List (Nat × Ob)) (m : M) (a : AM) : Prop where
  most : m.most = a.most
  calls : m.calls = a.calls
  pile : VRs m.fz a.pile m.pile
  fr : FRs m.fz a.fr m.fr
  sh : VRs m.fz a.sh m.sh
  at_ : m.at_ = atV a.at_
  cs : ∀ c ∈ cs, c ∈ m.fz
theorem lineK {n : Nat} (h : n < 16000000) : n < sizeLine := by rw [sizeLine_eq]; omega
/-- how a run ends -/
inductive Ends (code : List Row) : Nat → AM → Except String Int → Prop where
  | ok {n a r x mo ca fr sh} : Rch code n a ⟨mo, ca, r ++ [.num x], fr, sh, none⟩ → Ends code n a (.ok x)
  | bad {n a b c} : Rch code n a b → Bad code b c → Ends code n a (.error c)
  | stuck {n a r x mo ca fr sh} : Rch code n a ⟨mo, ca, r ++ [x], fr, sh, none⟩ → x.isNum = false → Ends code n a (.error "Stuck")
theorem Ends.pre {code : List Row} {n m : Nat} {a b : AM} {o : Except String Int} (h : Rch code n a b) (g : Ends code m b o) : Ends code (n + m) a o := by
  cases g with
  | ok g => exact .ok (h.trans g)
  | bad g z => exact .bad (h.trans g) z
  | stuck g z => exact .stuck (h.trans g) z
end Cd

set_option maxHeartbeats 4000000
namespace K14
open Mi PySem
open Cd (Same)
/-! ### drawing -/
def Sta (p : Nat) (S : Hm) : Prop := ∃ (ys : List Int) (z : Int), S[p]? = some (.lst ((ys ++ [z]).map .int)) ∧ ys.length ≤ 70 ∧ 0 ≤ z ∧ z < 2 ^ 61
theorem Sta.app {p : Nat} {S : Hm} (h : Sta p S) (l : Hm) : Sta p (S ++ l) := by
  obtain ⟨x, z, h1, h2⟩ := h
  exact ⟨x, z, get_app h1, h2⟩
theorem Sta.same {p : Nat} {S S' : Hm} (h : Sta p S) (s : Same S S') : Sta p S' := by
  obtain ⟨x, z, h1, h2⟩ := h
  exact ⟨x, z, s _ _ h1, h2⟩
theorem new_ne {p : Nat} {S : Hm} (h : Sta p S) : S.length ≠ p := by obtain ⟨_, _, g, _⟩ := h; have := lt_get g; omega
theorem next_ok {k p : Nat} {m : Int} {S : Hm} (h : Sta p S) (hm : 0 < m) (hm2 : m < 2 ^ 64) : callW P (k + 1) (.f "_law_next") [.ref p, .int m] S (fun v S' => (∃ r, v = .int r ∧ 0 ≤ r ∧ r < m) ∧ Sta p S' ∧ Fm p S S' ∧ S'.length = S.length) noX := by
  obtain ⟨ys, z, hp, hy, z0, z1⟩ := h
  refine call_open fn_f_law_next ⟨rfl, ?_⟩
  show wSs _ _ _ s5_f_law_next _ _ [some (.ref p), some (.int m), none] S
  simp only [s5_f_law_next, wSs, wS, wT, wEs, wO, wPs, wC, wSrc, wE_loc, wE_lit, wE_con, wE_bin, wE_neg, wE_cmp, wE_cmp2, wE_isN, wE_notN, wE_isB, wE_not, wE_and, wE_or, wE_ite, wE_tup, wE_lst, wE_dic, wE_call, wE_make, wE_meth, wE_fld, wE_sub, wE_slice, wE_bi, wE_vi, wE_bm, wE_isi, wE_lc, wE_lck, eg, es, Option.some.injEq, exists_eq_left', Lit.val]
  have lg : m.natAbs.log2 < 9000 := by
    have : m.natAbs.log2 ≤ 64 := by
      by_cases h0 : m.natAbs = 0
      · rw [h0]; decide
      · have := (Nat.log2_lt h0 (k := 65)).mpr (by omega)
        omega
    omega
  refine lenW_lst (lst_at hp) ?_
  simp only [List.length_map, cmpW, truth, Option.some.injEq, exists_eq_left']
  cases ys with
  | nil =>
    rw [if_neg (by simp)]
    simp only [s4_f_law_next, wSs, wS, wT, wEs, wO, wPs, wC, wSrc, wE_loc, wE_lit, wE_con, wE_bin, wE_neg, wE_cmp, wE_cmp2, wE_isN, wE_notN, wE_isB, wE_not, wE_and, wE_or, wE_ite, wE_tup, wE_lst, wE_dic, wE_call, wE_make, wE_meth, wE_fld, wE_sub, wE_slice, wE_bi, wE_vi, wE_bm, wE_isi, wE_lc, wE_lck, eg, es, Option.some.injEq, exists_eq_left', Lit.val]
    refine subW_lst (lst_at hp) (v := .int z) rfl ?_
    refine bmul (mul_ok (n := 60) (m := 60) (nbs_lt z0 z1) (by decide) (by decide)) ?_
    refine badd (bpow ⟨by decide, by decide, by decide⟩ (bsub ?_))
    have e61 : (2 : Int) ^ (61 : Int).toNat - 1 = 2305843009213693951 := by decide
    rw [e61]
    refine bmod (by decide) ?_
    generalize hw : (z * 1181783497276652981 + 12345678910987) % 2305843009213693951 = w
    have w0 : 0 ≤ w := by rw [← hw]; exact Int.emod_nonneg _ (by decide)
    have w1 : w < 2305843009213693951 := by rw [← hw]; exact Int.emod_lt_of_pos _ (by decide)
    refine setW_lst (j := 0) hp rfl ?_
    have hp2 : (S.set p (.lst [.int w]))[p]? = some (.lst [.int w]) := by rw [get_set, hp]; rfl
    refine subW_lst (lst_at hp2) (v := .int w) rfl ?_
    refine bdiv (div_ok (n := 20) (by decide) (by decide) (by decide)) (bmod hm ?_)
    exact ⟨⟨_, rfl, Int.emod_nonneg _ (by omega), Int.emod_lt_of_pos _ hm⟩, ⟨[], w, hp2, Nat.zero_le _, w0, by omega⟩, Fm.own, by simp⟩
  | cons y ys =>
    rw [if_pos (by simp <;> omega)]
    simp only [s3_f_law_next, wSs, wS, wT, wEs, wO, wPs, wC, wSrc, wE_loc, wE_lit, wE_con, wE_bin, wE_neg, wE_cmp, wE_cmp2, wE_isN, wE_notN, wE_isB, wE_not, wE_and, wE_or, wE_ite, wE_tup, wE_lst, wE_dic, wE_call, wE_make, wE_meth, wE_fld, wE_sub, wE_slice, wE_bi, wE_vi, wE_bm, wE_isi, wE_lc, wE_lck, eg, es, Option.some.injEq, exists_eq_left', Lit.val]
    refine subW_lst (lst_at hp) (v := .int y) ix_zero (bmod hm ?_)
    refine subW_lst (lst_at hp) (v := .int y) ix_zero (bdiv ⟨hm, lg⟩ ?_)
    refine setW_lst (j := 0) hp (by simp [ixN] <;> omega) ?_
    have hp2 : (S.set p (.lst ((((y :: ys) ++ [z]).map Val.int).set 0 (.int (y / m)))))[p]? = some (.lst ((((y / m) :: ys) ++ [z]).map .int)) := by rw [get_set, hp]; rfl
    have fin : Sta p (S.set p (.lst ((((y :: ys) ++ [z]).map Val.int).set 0 (.int (y / m))))) := ⟨_, _, hp2, hy, z0, z1⟩
    refine subW_lst (lst_at hp2) (v := .int (y / m)) ix_zero ?_
    refine ⟨1, rfl, (by rw [sizeLine_eq]; simp; done), ?_⟩
    simp only [cmpW, inW]
    refine ⟨rfl, rfl, ?_⟩
    simp only [truth, Option.some.injEq, exists_eq_left']
    split
    · simp only [s1_f_law_next, wSs, wS, wT, wEs, wO, wPs, wC, wSrc, wE_loc, wE_lit, wE_con, wE_bin, wE_neg, wE_cmp, wE_cmp2, wE_isN, wE_notN, wE_isB, wE_not, wE_and, wE_or, wE_ite, wE_tup, wE_lst, wE_dic, wE_call, wE_make, wE_meth, wE_fld, wE_sub, wE_slice, wE_bi, wE_vi, wE_bm, wE_isi, wE_lc, wE_lck, eg, es, Option.some.injEq, exists_eq_left', Lit.val]
      refine ⟨⟨_, _, rfl, lst_at hp2⟩, ?_⟩
      simp only [bmW]
      refine ⟨_, 0, _, hp2, by simp [ixN] <;> omega, by rw [sizeLine_eq]; simp at hy ⊢; omega, rfl, ?_⟩
      simp only [s2_f_law_next, wSs, wS, wT, wEs, wO, wPs, wC, wSrc, wE_loc, wE_lit, wE_con, wE_bin, wE_neg, wE_cmp, wE_cmp2, wE_isN, wE_notN, wE_isB, wE_not, wE_and, wE_or, wE_ite, wE_tup, wE_lst, wE_dic, wE_call, wE_make, wE_meth, wE_fld, wE_sub, wE_slice, wE_bi, wE_vi, wE_bm, wE_isi, wE_lc, wE_lck, eg, es, Option.some.injEq, exists_eq_left', Lit.val]
      rw [List.set_set]
      refine ⟨⟨_, rfl, Int.emod_nonneg _ (by omega), Int.emod_lt_of_pos _ hm⟩, ⟨ys, z, by rw [get_set, hp]; rfl, by simp at hy; omega, z0, z1⟩, Fm.own, by simp⟩
    · simp only [s2_f_law_next, wSs, wS, wT, wEs, wO, wPs, wC, wSrc, wE_loc, wE_lit, wE_con, wE_bin, wE_neg, wE_cmp, wE_cmp2, wE_isN, wE_notN, wE_isB, wE_not, wE_and, wE_or, wE_ite, wE_tup, wE_lst, wE_dic, wE_call, wE_make, wE_meth, wE_fld, wE_sub, wE_slice, wE_bi, wE_vi, wE_bm, wE_isi, wE_lc, wE_lck, eg, es, Option.some.injEq, exists_eq_left', Lit.val]
      exact ⟨⟨_, rfl, Int.emod_nonneg _ (by omega), Int.emod_lt_of_pos _ hm⟩, fin, Fm.own, by simp⟩
theorem at_mem {n : Nat} {xs : List Val} {r : Int} {S : Hm} {Q : Post} (h : S[n]? = some (.lst xs)) (h0 : 0 ≤ r) (h1 : r < xs.length) (hq : ∀ v ∈ xs, Q v S) : subW (.ref n) (.int r) S Q := by
  obtain ⟨j, rfl⟩ := Int.eq_ofNat_of_zero_le h0
  have hj : j < xs.length := by omega
  exact subW_lst (lst_at h) (ix_nat (List.getElem?_eq_getElem hj)) (hq _ (List.getElem_mem hj))
theorem cut_le {α : Type} (xs : List α) (lo hi : Option Int) : (cut xs lo hi).length ≤ xs.length := by
  unfold cut
  rw [List.length_take, List.length_drop]
  omega
theorem cut_map {α β : Type} (f : α → β) (xs : List α) (lo hi : Option Int) : cut (xs.map f) lo hi = (cut xs lo hi).map f := by
  unfold cut
  rw [List.length_map, List.map_take, List.map_drop]
theorem drawn_ok {k p : Nat} {ns : List Int} {S : Hm} {Q : Post} {X : XPost} (h : S[p]? = some (.lck (.lst (ns.map .int)))) (hl : ns.length ≤ 63) (hq : ∀ n S', S.length ≤ n → Sta n S' → Same S S' → Q (.ref n) S') : callW P (k + 1) (.f "_law_drawn") [.ref p] S Q X := by
  refine call_open fn_f_law_drawn ⟨rfl, ?_⟩
  show wSs _ _ _ s5_f_law_drawn _ _ [some (.ref p), none, none] S
  simp only [s5_f_law_drawn, wSs, wS, wT, wEs, wO, wPs, wC, wSrc, wE_loc, wE_lit, wE_con, wE_bin, wE_neg, wE_cmp, wE_cmp2, wE_isN, wE_notN, wE_isB, wE_not, wE_and, wE_or, wE_ite, wE_tup, wE_lst, wE_dic, wE_call, wE_make, wE_meth, wE_fld, wE_sub, wE_slice, wE_bi, wE_vi, wE_bm, wE_isi, wE_lc, wE_lck, eg, es, Option.some.injEq, exists_eq_left', Lit.val, seqOf]
  refine ⟨_, lst_lck h, ?_⟩
  refine for_inv (callW_mono P _) (fun i env S' => (∃ (z : Int) (x2 : Option Val), env = [some (.ref p), some (.int z), x2] ∧ 0 ≤ z ∧ z < 2 ^ 61) ∧ S' = S) ?_ ?_ ⟨⟨_, _, rfl, by decide, by decide⟩, rfl⟩
  · rintro i v env S2 hi ⟨⟨z, x2, rfl, z0, z1⟩, rfl⟩
    rw [List.getElem?_map] at hi
    obtain ⟨c, hc, rfl⟩ := Option.map_eq_some_iff.mp hi
    refine ⟨lst_lck h, ?_⟩
    simp only [tgW, s1_f_law_drawn, wSs, wS, wT, wEs, wO, wPs, wC, wSrc, wE_loc, wE_lit, wE_con, wE_bin, wE_neg, wE_cmp, wE_cmp2, wE_isN, wE_notN, wE_isB, wE_not, wE_and, wE_or, wE_ite, wE_tup, wE_lst, wE_dic, wE_call, wE_make, wE_meth, wE_fld, wE_sub, wE_slice, wE_bi, wE_vi, wE_bm, wE_isi, wE_lc, wE_lck, eg, es, Option.some.injEq, exists_eq_left', Lit.val]
    refine bmul (mul_ok (n := 60) (m := 60) (nbs_lt z0 z1) (by decide) (by decide)) ?_
    refine bpow ⟨by decide, by decide, by decide⟩ (bmod (by decide) (badd (badd (bpow ⟨by decide, by decide, by decide⟩ (bsub ?_)))))
    have e61 : (2 : Int) ^ (61 : Int).toNat - 1 = 2305843009213693951 := by decide
    rw [e61]
    refine bmod (by decide) ?_
    refine ⟨⟨_, _, rfl, Int.emod_nonneg _ (by decide), ?_⟩, rfl⟩
    have := Int.emod_lt_of_pos (z * 7368787 + c % 10 ^ (30 : Int).toNat + 11) (b := 2305843009213693951) (by decide)
    omega
  · rintro env S2 ⟨⟨z, x2, rfl, z0, z1⟩, rfl⟩
    refine ⟨lst_lck h, ?_⟩
    have last : wSs P.con P.sub (callW P k) s3_f_law_drawn (fun c _ S' => X c S') { nx := fun _ S' => Q .non S', rt := Q } [some (.ref p), some (.int z), x2] S2 := by
      simp only [s3_f_law_drawn, wSs, wS, wT, wEs, wO, wPs, wC, wSrc, wE_loc, wE_lit, wE_con, wE_bin, wE_neg, wE_cmp, wE_cmp2, wE_isN, wE_notN, wE_isB, wE_not, wE_and, wE_or, wE_ite, wE_tup, wE_lst, wE_dic, wE_call, wE_make, wE_meth, wE_fld, wE_sub, wE_slice, wE_bi, wE_vi, wE_bm, wE_isi, wE_lc, wE_lck, eg, es, Option.some.injEq, exists_eq_left', Lit.val]
      exact ⟨(by rw [sizeLine_eq]; simp; done), hq _ _ (Nat.le_refl _) ⟨[], z, get_new, Nat.zero_le _, z0, z1⟩ (Same.app _)⟩
    simp only [s4_f_law_drawn, wSs, wS, wT, wEs, wO, wPs, wC, wSrc, wE_loc, wE_lit, wE_con, wE_bin, wE_neg, wE_cmp, wE_cmp2, wE_isN, wE_notN, wE_isB, wE_not, wE_and, wE_or, wE_ite, wE_tup, wE_lst, wE_dic, wE_call, wE_make, wE_meth, wE_fld, wE_sub, wE_slice, wE_bi, wE_vi, wE_bm, wE_isi, wE_lc, wE_lck, eg, es, Option.some.injEq, exists_eq_left', Lit.val]
    refine lenW_lst (lst_lck h) ?_
    simp only [List.length_map, cmpW, truth, Option.some.injEq, exists_eq_left']
    cases ns with
    | nil =>
      rw [if_neg (by simp)]
      exact last
    | cons c cs =>
      rw [if_pos (by simp <;> omega)]
      refine subW_lst (lst_lck h) (v := .int c) ix_zero (bmod (by decide) ?_)
      simp only [cmpW, eqW_int, truth, Option.some.injEq, exists_eq_left']
      split
      · simp only [s2_f_law_drawn, wSs, wS, wT, wEs, wO, wPs, wC, wSrc, wE_loc, wE_lit, wE_con, wE_bin, wE_neg, wE_cmp, wE_cmp2, wE_isN, wE_notN, wE_isB, wE_not, wE_and, wE_or, wE_ite, wE_tup, wE_lst, wE_dic, wE_call, wE_make, wE_meth, wE_fld, wE_sub, wE_slice, wE_bi, wE_vi, wE_bm, wE_isi, wE_lc, wE_lck, eg, es, Option.some.injEq, exists_eq_left', Lit.val]
        refine subW_lst (lst_lck h) (v := .int c) ix_zero (bdiv (div_ok (n := 20) (by decide) (by decide) (by decide)) ⟨(by rw [sizeLine_eq]; simp; done), ?_⟩)
        simp only [sliceW]
        refine ⟨_, rfl, _, rfl, _, lst_lck (get_app h), ?_⟩
        rw [cut_map]
        have hc := cut_le (c :: cs) (some 1) (some 63)
        generalize hcs : cut (c :: cs) (some 1) (some 63) = ds at hc ⊢
        have g1 : (S2 ++ [Ob.lst [.int (c / 2)]] ++ [Ob.lst (ds.map Val.int)])[S2.length]? = some (.lst [.int (c / 2)]) := get_app get_new
        refine ⟨_, _, g1, get_new, by rw [sizeLine_eq]; simp at hc hl ⊢; omega, (by rw [sizeLine_eq]; simp; done), ?_⟩
        have g2 := get_app (l := [Ob.lst [.int z]]) (get_new (S := S2 ++ [Ob.lst [.int (c / 2)]] ++ [Ob.lst (ds.map Val.int)]) (o := .lst ([.int (c / 2)] ++ ds.map Val.int)))
        refine ⟨_, _, g2, get_new, by rw [sizeLine_eq]; simp at hc hl ⊢; omega, ?_⟩
        refine hq _ _ (by simp <;> omega) ⟨(c / 2) :: ds, z, ?_, by simp at hc hl ⊢; omega, z0, z1⟩ ?_
        · rw [get_new]; simp
        · exact ((((Same.app _).trans (Same.app _)).trans (Same.app _)).trans (Same.app _)).trans (Same.app _)
      · exact last
theorem rng_len (lo : Int) : ∀ n : Nat, (rangeL lo 1 n).length = n := by
  intro n
  induction n generalizing lo with
  | zero => rfl
  | succ n ih => simp [rangeL, ih]
end K14

set_option maxHeartbeats 1000000
namespace K14
open Mi PySem
open Cd (Same)
def ABC : String := "abcdefghijklmnopqrstuvwxyz"
def UPP : String := "ABCDEFGHIJKLMNOPQRSTUVWXYZ"
theorem abc_len : ABC.toList.length = 26 := by decide
theorem upp_len : UPP.toList.length = 26 := by decide
theorem abc_nd : ABC.toList.Nodup := by decide
theorem upp_nd : UPP.toList.Nodup := by decide
theorem up_all : Txt.upper (Str.ofString "abcdefghijklmnopqrstuvwxyz") = Str.ofString "ABCDEFGHIJKLMNOPQRSTUVWXYZ" := by decide +kernel
theorem up_one : ∀ i : Fin 26, Txt.upper (Str.ofString (String.singleton (ABC.toList[i.val]'(by rw [abc_len]; exact i.isLt)))) = Str.ofString (String.singleton (UPP.toList[i.val]'(by rw [upp_len]; exact i.isLt))) := by decide +kernel
theorem one_len (c : Char) : (String.singleton c).length = 1 := by simp
def cat : List String → String
  | [] => ""
  | x :: r => x ++ cat r
theorem cat_ok : ∀ ys : List String, Txt.join (Str.ofString "") (ys.map Str.ofString) = Str.ofString (cat ys) := by
  have key : ∀ ys : List String, Str.join (Str.ofString "") (ys.map Str.ofString) = Str.ofString (cat ys) := by
    intro ys
    induction ys with
    | nil => rfl
    | cons x r ih =>
      cases r with
      | nil =>
        show Str.ofString x = Str.ofString (x ++ "")
        rw [String.append_empty]
      | cons y r =>
        rw [cat, ofString_append, ← ih]
        show Str.ofString x ++ Str.ofString "" ++ Str.join (Str.ofString "") (List.map Str.ofString (y :: r)) = _
        rw [← ofString_append, String.append_empty]
  intro ys
  rw [← key]
  exact StrLaws.glued_eq_join _ _
theorem cat_one : ∀ cs : List Char, (cat (cs.map String.singleton)).toList = cs
  | [] => by simp [cat]
  | c :: cs => by rw [List.map_cons, cat, String.toList_append, cat_one cs]; simp
theorem nd_map {α β : Type} {f : α → β} {l : List α} (hl : l.Nodup) (hf : ∀ a ∈ l, ∀ b ∈ l, f a = f b → a = b) : (l.map f).Nodup := by
  induction l with
  | nil => exact List.nodup_nil
  | cons a r ih =>
    rw [List.nodup_cons] at hl
    rw [List.map_cons, List.nodup_cons]
    refine ⟨fun h => ?_, ih hl.2 fun x hx y hy => hf x (List.mem_cons_of_mem _ hx) y (List.mem_cons_of_mem _ hy)⟩
    obtain ⟨b, hb, e⟩ := List.mem_map.mp h
    have := hf b (List.mem_cons_of_mem _ hb) a List.mem_cons_self e
    exact hl.1 (this ▸ hb)
/-- words that differ -/
def WL (n m : Nat) (ws : List String) : Prop := ws.Nodup ∧ 26 ≤ ws.length ∧ ws.length ≤ n ∧ ∀ w ∈ ws, w.length ≤ m
theorem wl_abc {l : List Char} {pre post : String} (hl : l.Nodup) (h26 : l.length = 26) (hp : pre.length + post.length ≤ 14) : WL 26 15 (l.map fun c => pre ++ String.singleton c ++ post) := by
  refine ⟨nd_map hl fun a _ b _ e => ?_, by simp [h26], by simp [h26], fun w hw => ?_⟩
  · have := congrArg String.toList e
    simp only [String.toList_append] at this
    have h2 := List.append_cancel_right this
    have h3 := List.append_cancel_left h2
    simpa using h3
  · obtain ⟨c, _, rfl⟩ := List.mem_map.mp hw
    rw [String.length_append, String.length_append, one_len]
    omega
theorem wl_rng {l : List Char} {g : Nat → String} (hl : l.Nodup) (h26 : l.length = 26) (hp : ∀ k, (g k).length ≤ 14) : WL 26 15 ((List.range 26).map fun k => String.singleton (l.getD (25 - k) 'a') ++ g k) := by
  refine ⟨nd_map List.nodup_range fun a ha b hb e => ?_, by simp, by simp, fun w hw => ?_⟩
  · have ha := List.mem_range.mp ha
    have hb := List.mem_range.mp hb
    have := congrArg String.toList e
    simp only [String.toList_append] at this
    have h1 : l.getD (25 - a) 'a' = l.getD (25 - b) 'a' := by
      have h2 := congrArg List.head? this
      simpa using h2
    rw [List.getD_eq_getElem?_getD, List.getD_eq_getElem?_getD, List.getElem?_eq_getElem (show 25 - a < l.length by omega), List.getElem?_eq_getElem (show 25 - b < l.length by omega), Option.getD_some, Option.getD_some] at h1
    have := (List.getElem_inj hl).mp h1
    omega
  · obtain ⟨c, _, rfl⟩ := List.mem_map.mp hw
    have := hp c
    rw [String.length_append, one_len]
    omega
def qs (ws : List String) : List String := (ws.filter fun w => !decide (w ++ "q" ∈ ws)).map (· ++ "q")
theorem wl_q {n m : Nat} {ws : List String} (h : WL n m ws) : WL (n + n) (m + 1) (ws ++ qs ws) := by
  obtain ⟨h1, h2, h3, h4⟩ := h
  have hf : (ws.filter fun w => !decide (w ++ "q" ∈ ws)).length ≤ ws.length := List.length_filter_le _ _
  have hq : "q".length = 1 := by decide
  refine ⟨?_, by rw [List.length_append]; omega, by rw [List.length_append]; unfold qs; rw [List.length_map]; omega, fun w hw => ?_⟩
  · rw [List.nodup_append]
    refine ⟨h1, nd_map (h1.filter _) fun a _ b _ e => ?_, fun a ha b hb e => ?_⟩
    · have := congrArg String.toList e
      simp only [String.toList_append] at this
      exact String.ext_iff.mpr (List.append_cancel_right this)
    · unfold qs at hb
      obtain ⟨c, hc, rfl⟩ := List.mem_map.mp hb
      have := (List.mem_filter.mp hc).2
      simp at this
      exact this (e ▸ ha)
  · rcases List.mem_append.mp hw with hw | hw
    · have := h4 w hw; omega
    · unfold qs at hw
      obtain ⟨c, hc, rfl⟩ := List.mem_map.mp hw
      have := h4 c (List.mem_filter.mp hc).1
      rw [String.length_append]
      omega
theorem any_str {ws : List String} {w : String} : (ws.map Val.str).any (fun y => feq y (.str w)) = decide (w ∈ ws) := by
  induction ws with
  | nil => rfl
  | cons a r ih =>
    rw [List.map_cons, List.any_cons, ih]
    show ((a == w) || decide (w ∈ r)) = decide (w ∈ a :: r)
    by_cases h : a = w
    · subst h; simp
    · have : ¬ w = a := fun e => h e.symm
      have e2 : (a == w) = false := by simpa using h
      rw [e2, Bool.false_or]
      simp [this]
theorem flat_strs (ws : List String) : (ws.map Val.str).all flat = true := by
  rw [List.all_eq_true]
  intro v hv
  obtain ⟨w, _, rfl⟩ := List.mem_map.mp hv
  rfl
theorem notin_ok {S : Hm} {n : Nat} {ws : List String} {s : String} {Q : Bool → Prop} (h : Hm.lst S n = some (ws.map .str)) (hq : Q (!decide (s ∈ ws))) : cmpW .NotIn (.str s) (.ref n) S Q := by
  simp only [cmpW]
  refine .inl ⟨_, h, .inl ⟨rfl, flat_strs ws, ?_⟩⟩
  rw [any_str]
  exact hq
theorem addL {S : Hm} {n m : Nat} {xs ys : List Val} {Q : Post} (h1 : S[n]? = some (.lst xs)) (h2 : S[m]? = some (.lst ys)) (hl : xs.length + ys.length ≤ sizeLine) (hq : Q (.ref S.length) (S ++ [.lst (xs ++ ys)])) : binW .Add (.ref n) (.ref m) S Q := ⟨xs, ys, h1, h2, hl, hq⟩
theorem q_ok4 {k : Nat} {X : XPost} {a0 a1 a2 a3 a4 a5 : Option Val} {S : Hm} {n : Nat} {ws : List String} {Q : Post} (hl : WL 26 15 ws) (hn : S[n]? = some (.lst (ws.map .str))) (ea : a4 = some (.ref n))
    (hq : ∀ S', Same S S' → S.length ≤ S'.length → S'[S.length + 1]? = some (.lst ((ws ++ qs ws).map .str)) → Q (.ref (S.length + 1)) S') :
    wE P.con (callW P k) X (.bin .Add (.loc 4) (.lc (.bin .Add (.loc 8) (.lit (.str "q"))) (.nm 8) (.seq (.loc 4)) (.some (.v (.cmp .NotIn (.bin .Add (.loc 8) (.lit (.str "q"))) (.loc 4)))) [("_law_word", 8)])) [a0, a1, a2, a3, a4, a5, none, none, none] S Q := by
  subst ea
  obtain ⟨l1, l2, l3, l4⟩ := hl
  have hq1 : "q".length = 1 := by decide
  simp only [wSs, wS, wT, wEs, wO, wPs, wC, wSrc, wE_loc, wE_lit, wE_con, wE_bin, wE_neg, wE_cmp, wE_cmp2, wE_isN, wE_notN, wE_isB, wE_not, wE_and, wE_or, wE_ite, wE_tup, wE_lst, wE_dic, wE_call, wE_make, wE_meth, wE_fld, wE_sub, wE_slice, wE_bi, wE_vi, wE_bm, wE_isi, wE_lc, wE_lck, eg, es, Option.some.injEq, exists_eq_left', Lit.val, seqOf]
  refine ⟨_, lst_at hn, ?_⟩
  refine lcr_inv (callW_mono P _) (fun i acc S' => S' = S ∧ acc = (((ws.take i).filter fun w => !decide (w ++ "q" ∈ ws)).map (· ++ "q")).map Val.str) ?_ ?_ ⟨rfl, by simp⟩
  · rintro i v acc S' hi ⟨rfl, rfl⟩
    rw [List.getElem?_map] at hi
    obtain ⟨w, hw, rfl⟩ := Option.map_eq_some_iff.mp hi
    have wl := l4 w (List.mem_of_getElem? hw)
    have il := lt_get hw
    refine ⟨lst_at hn, ?_⟩
    simp only [tgW, ewipe, List.map_cons, List.map_nil, wSs, wS, wT, wEs, wO, wPs, wC, wSrc, wE_loc, wE_lit, wE_con, wE_bin, wE_neg, wE_cmp, wE_cmp2, wE_isN, wE_notN, wE_isB, wE_not, wE_and, wE_or, wE_ite, wE_tup, wE_lst, wE_dic, wE_call, wE_make, wE_meth, wE_fld, wE_sub, wE_slice, wE_bi, wE_vi, wE_bm, wE_isi, wE_lc, wE_lck, eg, es, Option.some.injEq, exists_eq_left', Lit.val]
    refine saddW (by rw [sizeLine_eq]; omega) (notin_ok (lst_at hn) ?_)
    simp only [truth, Option.some.injEq, exists_eq_left']
    have tk : (ws.take (i + 1)).filter (fun w => !decide (w ++ "q" ∈ ws)) = (ws.take i).filter (fun w => !decide (w ++ "q" ∈ ws)) ++ (if w ++ "q" ∈ ws then [] else [w]) := by
      rw [List.take_add_one, hw, List.filter_append]
      by_cases h : w ++ "q" ∈ ws <;> simp [h]
    rw [tk]
    have fl := List.length_filter_le (fun w => !decide (w ++ "q" ∈ ws)) (ws.take i)
    rw [List.length_take] at fl
    by_cases h : w ++ "q" ∈ ws
    · rw [if_neg (by simp [h])]
      simp [h]
    · rw [if_pos (by simp [h])]
      refine saddW (by rw [sizeLine_eq]; omega) ⟨by rw [sizeLine_eq, List.length_map, List.length_map]; omega, rfl, ?_⟩
      simp [h]
  · rintro acc S' ⟨rfl, rfl⟩
    refine ⟨lst_at hn, ?_⟩
    rw [List.length_map, List.take_length]
    have e : S'.length + 1 = (S' ++ [Ob.lst ((qs ws).map .str)]).length := by simp
    refine addL (get_app hn) get_new ?_ ?_
    · have := (wl_q ⟨l1, l2, l3, l4⟩ (m := 15) (n := 26)).2.2.1
      rw [List.length_append] at this
      unfold qs at this
      rw [sizeLine_eq, List.length_map, List.length_map]
      omega
    · have h2 := hq (S' ++ [Ob.lst ((qs ws).map .str)] ++ [Ob.lst ((ws ++ qs ws).map .str)]) ((Same.app _).trans (Same.app _)) (by simp <;> omega) (by rw [e]; exact get_new)
      rw [e] at h2
      rw [List.map_append] at h2
      exact h2
theorem q_ok5 {k : Nat} {X : XPost} {a0 a1 a2 a3 a4 a5 : Option Val} {S : Hm} {n : Nat} {ws : List String} {Q : Post} (hl : WL 26 15 ws) (hn : S[n]? = some (.lst (ws.map .str))) (ea : a5 = some (.ref n))
    (hq : ∀ S', Same S S' → S.length ≤ S'.length → S'[S.length + 1]? = some (.lst ((ws ++ qs ws).map .str)) → Q (.ref (S.length + 1)) S') :
    wE P.con (callW P k) X (.bin .Add (.loc 5) (.lc (.bin .Add (.loc 8) (.lit (.str "q"))) (.nm 8) (.seq (.loc 5)) (.some (.v (.cmp .NotIn (.bin .Add (.loc 8) (.lit (.str "q"))) (.loc 5)))) [("_law_word", 8)])) [a0, a1, a2, a3, a4, a5, none, none, none] S Q := by
  subst ea
  obtain ⟨l1, l2, l3, l4⟩ := hl
  have hq1 : "q".length = 1 := by decide
  simp only [wSs, wS, wT, wEs, wO, wPs, wC, wSrc, wE_loc, wE_lit, wE_con, wE_bin, wE_neg, wE_cmp, wE_cmp2, wE_isN, wE_notN, wE_isB, wE_not, wE_and, wE_or, wE_ite, wE_tup, wE_lst, wE_dic, wE_call, wE_make, wE_meth, wE_fld, wE_sub, wE_slice, wE_bi, wE_vi, wE_bm, wE_isi, wE_lc, wE_lck, eg, es, Option.some.injEq, exists_eq_left', Lit.val, seqOf]
  refine ⟨_, lst_at hn, ?_⟩
  refine lcr_inv (callW_mono P _) (fun i acc S' => S' = S ∧ acc = (((ws.take i).filter fun w => !decide (w ++ "q" ∈ ws)).map (· ++ "q")).map Val.str) ?_ ?_ ⟨rfl, by simp⟩
  · rintro i v acc S' hi ⟨rfl, rfl⟩
    rw [List.getElem?_map] at hi
    obtain ⟨w, hw, rfl⟩ := Option.map_eq_some_iff.mp hi
    have wl := l4 w (List.mem_of_getElem? hw)
    have il := lt_get hw
    refine ⟨lst_at hn, ?_⟩
    simp only [tgW, ewipe, List.map_cons, List.map_nil, wSs, wS, wT, wEs, wO, wPs, wC, wSrc, wE_loc, wE_lit, wE_con, wE_bin, wE_neg, wE_cmp, wE_cmp2, wE_isN, wE_notN, wE_isB, wE_not, wE_and, wE_or, wE_ite, wE_tup, wE_lst, wE_dic, wE_call, wE_make, wE_meth, wE_fld, wE_sub, wE_slice, wE_bi, wE_vi, wE_bm, wE_isi, wE_lc, wE_lck, eg, es, Option.some.injEq, exists_eq_left', Lit.val]
    refine saddW (by rw [sizeLine_eq]; omega) (notin_ok (lst_at hn) ?_)
    simp only [truth, Option.some.injEq, exists_eq_left']
    have tk : (ws.take (i + 1)).filter (fun w => !decide (w ++ "q" ∈ ws)) = (ws.take i).filter (fun w => !decide (w ++ "q" ∈ ws)) ++ (if w ++ "q" ∈ ws then [] else [w]) := by
      rw [List.take_add_one, hw, List.filter_append]
      by_cases h : w ++ "q" ∈ ws <;> simp [h]
    rw [tk]
    have fl := List.length_filter_le (fun w => !decide (w ++ "q" ∈ ws)) (ws.take i)
    rw [List.length_take] at fl
    by_cases h : w ++ "q" ∈ ws
    · rw [if_neg (by simp [h])]
      simp [h]
    · rw [if_pos (by simp [h])]
      refine saddW (by rw [sizeLine_eq]; omega) ⟨by rw [sizeLine_eq, List.length_map, List.length_map]; omega, rfl, ?_⟩
      simp [h]
  · rintro acc S' ⟨rfl, rfl⟩
    refine ⟨lst_at hn, ?_⟩
    rw [List.length_map, List.take_length]
    have e : S'.length + 1 = (S' ++ [Ob.lst ((qs ws).map .str)]).length := by simp
    refine addL (get_app hn) get_new ?_ ?_
    · have := (wl_q ⟨l1, l2, l3, l4⟩ (m := 15) (n := 26)).2.2.1
      rw [List.length_append] at this
      unfold qs at this
      rw [sizeLine_eq, List.length_map, List.length_map]
      omega
    · have h2 := hq (S' ++ [Ob.lst ((qs ws).map .str)] ++ [Ob.lst ((ws ++ qs ws).map .str)]) ((Same.app _).trans (Same.app _)) (by simp <;> omega) (by rw [e]; exact get_new)
      rw [e] at h2
      rw [List.map_append] at h2
      exact h2
theorem lc_map {α : Type} {k : Nat} {X : XPost} {elt : E} {t : Nat} {env : Mi.Env} {vs : List Nat} {S : Hm} {Q : List Val → Hm → Prop} (l : List α) (enc f : α → Val) (hl : l.length ≤ 1000) (h : ∀ a ∈ l, ∀ Q' : Post, Q' (f a) S → wE P.con (callW P k) X elt (es (ewipe env vs) t (some (enc a))) S Q') (hq : Q (l.map f) S) : lcRun P.con (callW P k) X elt (.nm t) .none env vs (fun _ => True) (l.map enc) [] S Q := by
  refine lcr_inv (callW_mono P _) (fun i acc S' => S' = S ∧ acc = (l.take i).map f) ?_ ?_ ⟨rfl, by simp⟩
  · rintro i v acc S' hi ⟨rfl, rfl⟩
    rw [List.getElem?_map] at hi
    obtain ⟨a, ha, rfl⟩ := Option.map_eq_some_iff.mp hi
    have il := lt_get ha
    refine ⟨trivial, ?_⟩
    simp only [tgW, wC, if_true]
    refine h a (List.mem_of_getElem? ha) _ ⟨by rw [sizeLine_eq, List.length_map, List.length_take]; omega, rfl, ?_⟩
    rw [List.take_add_one, ha]
    simp
  · rintro acc S' ⟨rfl, rfl⟩
    rw [List.length_map, List.take_length]
    exact ⟨trivial, hq⟩
theorem rng_map (n : Nat) : rangeL 0 1 n = (List.range n).map fun (k : Nat) => Val.int (k : Int) := by
  apply List.ext_getElem?
  intro i
  rw [rangeL_get, List.getElem?_map]
  by_cases h : i < n
  · rw [if_pos h, List.getElem?_range h]
    simp
  · rw [if_neg h, List.getElem?_eq_none (by simpa using h)]
    rfl
theorem mulOk_s {a b : Int} (ha : a.natAbs < 2 ^ 60) (hb : b.natAbs < 2 ^ 60) : mulOk a b := mul_ok (n := 59) (m := 59) (by omega) (by omega) (by decide)
theorem subS {s : String} {i : Nat} {c : Char} {S : Hm} {Q : Post} (h : s.toList[i]? = some c) (hl : s.length ≤ 1000) (q : Q (.str (String.singleton c)) S) : subW (.str s) (.int i) S Q := by
  simp only [subW]
  exact ⟨by rw [sizeLine_eq]; omega, c, ix_nat h, q⟩
theorem upS {a y : String} {S : Hm} {Q : Post} (h : Txt.upper (Str.ofString a) = Str.ofString y) (hl : a.length ≤ 1000) (q : Q (.str y) S) : bmW .upper (.str a) [] S Q := by
  simp only [bmW]
  exact ⟨y, h, by omega, q⟩
theorem first_up {cs : List Char} (h : ∀ c ∈ cs, c ∈ ABC.toList) : ∃ up : String, up.length = 1 ∧ Txt.upper (Str.ofString (String.ofList (cut (cs ++ ['a']) none (some 1)))) = Str.ofString up := by
  obtain ⟨c, hc, e⟩ : ∃ c, c ∈ ABC.toList ∧ cut (cs ++ ['a']) none (some 1) = [c] := by
    cases cs with
    | nil => exact ⟨'a', by decide, by decide⟩
    | cons c r => exact ⟨c, h c List.mem_cons_self, by unfold cut sIx; simp⟩
  obtain ⟨i, hi, rfl⟩ := List.getElem_of_mem hc
  have hu : i < UPP.toList.length := by rw [upp_len, ← abc_len]; exact hi
  refine ⟨String.singleton UPP.toList[i], one_len _, ?_⟩
  rw [e]
  have := up_one ⟨i, by rw [← abc_len]; exact hi⟩
  rw [← this]
  rfl
structure Wd (p : Nat) (S0 S : Hm) (w a g y : Nat) (sm gr an : List String) : Prop where
  d : S[w]? = some (.dic [(.inr "small", .ref a), (.inr "great", .ref g), (.inr "any", .ref y)])
  a : S[a]? = some (.lst (sm.map .str))
  g : S[g]? = some (.lst (gr.map .str))
  y : S[y]? = some (.lst (an.map .str))
  sm : WL 52 16 sm
  gr : WL 52 16 gr
  al : an.length = 26
  an : ∀ x ∈ an, x.length ≤ 20
theorem words_ok {k p : Nat} {S : Hm} (h : Sta p S) : callW P (k + 2) (.f "_law_words") [.ref p] S (fun v S' => ∃ w a g y sm gr an, v = .ref w ∧ S.length ≤ w ∧ S.length ≤ a ∧ S.length ≤ g ∧ S.length ≤ y ∧ a < g ∧ g < y ∧ y < w ∧ Wd p S S' w a g y sm gr an ∧ Sta p S' ∧ Fm p S S') noX := by
  refine call_open (k := k + 1) fn_f_law_words ⟨rfl, ?_⟩
  show wSs _ _ _ s12_f_law_words _ _ [some (.ref p), none, none, none, none, none, none, none, none] S
  have hx : "x".length = 1 := by decide
  have hqm : "?".length = 1 := by decide
  have pl : p < S.length := by obtain ⟨_, _, g, _⟩ := h; exact lt_get g
  -- the last part
  have s6 : ∀ (stem : String) (x3 : Option Val) (S2 : Hm) (a g : Nat) (sm gr : List String) X (D : Mi.Sp), stem.length ≤ 5 → WL 26 15 sm → WL 26 15 gr → S2[a]? = some (.lst (sm.map .str)) → S2[g]? = some (.lst (gr.map .str)) → Sta p S2 → Fm p S S2 →
      D.rt = (fun v S' => ∃ w a g y sm gr an, v = .ref w ∧ S.length ≤ w ∧ S.length ≤ a ∧ S.length ≤ g ∧ S.length ≤ y ∧ a < g ∧ g < y ∧ y < w ∧ Wd p S S' w a g y sm gr an ∧ Sta p S' ∧ Fm p S S') →
      wSs P.con P.sub (callW P (k + 1)) s6_f_law_words X D [some (.ref p), some (.str ABC), some (.str stem), x3, some (.ref a), some (.ref g), none, none, none] S2 := by
    intro stem x3 S2 a g sm gr X D hst hsm hgr ga gg st f2 eD
    rw [s6_f_law_words, wSs, wS]
    refine q_ok4 hsm ga rfl fun S3 s3 l3 g3 => ?_
    have f3 : Fm p S2 S3 := ⟨l3, fun n hn _ => by
      obtain ⟨o, ho⟩ : ∃ o, S2[n]? = some o := ⟨_, List.getElem?_eq_getElem hn⟩
      rw [ho]; exact s3 _ _ ho⟩
    have t3 := st.same s3
    rw [s5_f_law_words]
    simp only [es, wSs]
    rw [wS]
    refine q_ok5 (a4 := some (.ref (S2.length + 1))) hgr (s3 _ _ gg) rfl fun S4 s4 l4 g4 => ?_
    have f4 : Fm p S3 S4 := ⟨l4, fun n hn _ => by
      obtain ⟨o, ho⟩ : ∃ o, S3[n]? = some o := ⟨_, List.getElem?_eq_getElem hn⟩
      rw [ho]; exact s4 _ _ ho⟩
    have t4 := t3.same s4
    simp only [s4_f_law_words, wSs, wS, wT, wEs, wO, wPs, wC, wSrc, wE_loc, wE_lit, wE_con, wE_bin, wE_neg, wE_cmp, wE_cmp2, wE_isN, wE_notN, wE_isB, wE_not, wE_and, wE_or, wE_ite, wE_tup, wE_lst, wE_dic, wE_call, wE_make, wE_meth, wE_fld, wE_sub, wE_slice, wE_bi, wE_vi, wE_bm, wE_isi, wE_lc, wE_lck, eg, es, Option.some.injEq, exists_eq_left', Lit.val, wPs, seqOf]
    have e26 := abc_len
    refine ⟨_, rfl, _, rfl, ?_⟩
    refine lc_map ABC.toList (fun c => Val.str (String.singleton c)) (fun c => Val.str ("?" ++ String.singleton c ++ stem)) (by omega) (fun c _ Q' hQ => ?_) ?_
    · simp only [ewipe, List.map_cons, List.map_nil, wSs, wS, wT, wEs, wO, wPs, wC, wSrc, wE_loc, wE_lit, wE_con, wE_bin, wE_neg, wE_cmp, wE_cmp2, wE_isN, wE_notN, wE_isB, wE_not, wE_and, wE_or, wE_ite, wE_tup, wE_lst, wE_dic, wE_call, wE_make, wE_meth, wE_fld, wE_sub, wE_slice, wE_bi, wE_vi, wE_bm, wE_isi, wE_lc, wE_lck, eg, es, Option.some.injEq, exists_eq_left', Lit.val]
      have := one_len c
      exact saddW (by rw [sizeLine_eq]; omega) (saddW (by rw [sizeLine_eq, String.length_append]; omega) hQ)
    · rw [eD]
      refine ⟨_, rfl, ?_⟩
      have f5 := f2.trans (f3.trans f4)
      refine ⟨_, S2.length + 1, S3.length + 1, S4.length, sm ++ qs sm, gr ++ qs gr, ABC.toList.map fun c => "?" ++ String.singleton c ++ stem, rfl, ?_, ?_, ?_, ?_, ?_, ?_, ?_, ⟨?_, ?_, ?_, ?_, wl_q hsm, wl_q hgr, by simp [e26], ?_⟩, (t4.app _).app _, f5.trans ((Fm.app _).trans (Fm.app _))⟩
      · have := f5.1; simp; omega
      · have := f2.1; omega
      · have := f2.1; have := f3.1; omega
      · have := f5.1; omega
      · have := lt_get g3; omega
      · have := lt_get g4; omega
      · simp
      · rw [get_new]
        simp [putK]
      · exact get_app (get_app (s4 _ _ g3))
      · exact get_app (get_app g4)
      · rw [List.map_map]
        exact get_app get_new
      · intro w hw
        obtain ⟨c, _, rfl⟩ := List.mem_map.mp hw
        rw [String.length_append, String.length_append, one_len]
        omega
  -- the words of the third sort
  have s7 : ∀ (stem : String) (x3 : Option Val) (S2 : Hm) (a g : Nat) (sm gr : List String) (D : Mi.Sp), stem.length ≤ 5 → WL 26 15 sm → WL 26 15 gr → S2[a]? = some (.lst (sm.map .str)) → S2[g]? = some (.lst (gr.map .str)) → a ≠ p → g ≠ p → Sta p S2 → Fm p S S2 →
      D.rt = (fun v S' => ∃ w a g y sm gr an, v = .ref w ∧ S.length ≤ w ∧ S.length ≤ a ∧ S.length ≤ g ∧ S.length ≤ y ∧ a < g ∧ g < y ∧ y < w ∧ Wd p S S' w a g y sm gr an ∧ Sta p S' ∧ Fm p S S') →
      wSs P.con P.sub (callW P (k + 1)) s7_f_law_words (fun c env => noX c) D [some (.ref p), some (.str ABC), some (.str stem), x3, some (.ref a), some (.ref g), none, none, none] S2 := by
    intro stem x3 S2 a g sm gr D hst hsm hgr ga gg an gn st f2 eD
    simp only [s7_f_law_words, wSs, wS, wT, wEs, wO, wPs, wC, wSrc, wE_loc, wE_lit, wE_con, wE_bin, wE_neg, wE_cmp, wE_cmp2, wE_isN, wE_notN, wE_isB, wE_not, wE_and, wE_or, wE_ite, wE_tup, wE_lst, wE_dic, wE_call, wE_make, wE_meth, wE_fld, wE_sub, wE_slice, wE_bi, wE_vi, wE_bm, wE_isi, wE_lc, wE_lck, eg, es, Option.some.injEq, exists_eq_left', Lit.val]
    refine call_use (next_ok st (by decide) (by decide)) ?_
    rintro _ S3 ⟨⟨r, rfl, r0, r1⟩, t3, f3, _⟩
    simp only [cmpW, eqW_int, truth, Option.some.injEq, exists_eq_left']
    have g3a := f3.get an ga
    have g3g := f3.get gn gg
    have f23 := f2.trans f3
    by_cases hr : r = 0
    · rw [if_pos (by simp [hr])]
      simp only [s3_f_law_words, wSs, wS, wT, wEs, wO, wPs, wC, wSrc, wE_loc, wE_lit, wE_con, wE_bin, wE_neg, wE_cmp, wE_cmp2, wE_isN, wE_notN, wE_isB, wE_not, wE_and, wE_or, wE_ite, wE_tup, wE_lst, wE_dic, wE_call, wE_make, wE_meth, wE_fld, wE_sub, wE_slice, wE_bi, wE_vi, wE_bm, wE_isi, wE_lc, wE_lck, eg, es, Option.some.injEq, exists_eq_left', Lit.val]
      refine ⟨26, rfl, ⟨by decide, by decide⟩, ?_⟩
      rw [show (26 : Int).toNat = 26 from rfl, rng_map]
      have cutl : ∀ kk : Int, (String.ofList (cut stem.toList none (some kk))).length ≤ 5 := fun kk => by
        rw [String.length_ofList]
        exact Nat.le_trans (cut_le _ _ _) (by rw [String.length_toList]; exact hst)
      have kk : ∀ j : Nat, j < 26 → (25 : Int) - (j : Int) = ((25 - j : Nat) : Int) := fun j hj => by omega
      have ga' : ∀ j : Nat, j < 26 → ABC.toList[25 - j]? = some (ABC.toList.getD (25 - j) 'a') := fun j hj => by
        rw [List.getD_eq_getElem?_getD, List.getElem?_eq_getElem (show 25 - j < ABC.toList.length by rw [abc_len]; omega)]; rfl
      have gu' : ∀ j : Nat, j < 26 → Txt.upper (Str.ofString (String.singleton (ABC.toList.getD (25 - j) 'a'))) = Str.ofString (String.singleton (UPP.toList.getD (25 - j) 'a')) := fun j hj => by
        have := up_one ⟨25 - j, by omega⟩
        rw [List.getD_eq_getElem?_getD, List.getElem?_eq_getElem (show 25 - j < ABC.toList.length by rw [abc_len]; omega), List.getD_eq_getElem?_getD, List.getElem?_eq_getElem (show 25 - j < UPP.toList.length by rw [upp_len]; omega)]
        exact this
      have al : ABC.length = 26 := by decide
      refine lc_map (List.range 26) (fun (j : Nat) => Val.int (j : Int)) (fun j => Val.str (String.singleton (ABC.toList.getD (25 - j) 'a') ++ ("x" ++ String.ofList (cut stem.toList none (some ((j : Int) * 5 % 6)))))) (by simp) (fun j hj Q' hQ => ?_) ?_
      · have hj := List.mem_range.mp hj
        simp only [ewipe, List.map_cons, List.map_nil, wSs, wS, wT, wEs, wO, wPs, wC, wSrc, wE_loc, wE_lit, wE_con, wE_bin, wE_neg, wE_cmp, wE_cmp2, wE_isN, wE_notN, wE_isB, wE_not, wE_and, wE_or, wE_ite, wE_tup, wE_lst, wE_dic, wE_call, wE_make, wE_meth, wE_fld, wE_sub, wE_slice, wE_bi, wE_vi, wE_bm, wE_isi, wE_lc, wE_lck, eg, es, Option.some.injEq, exists_eq_left', Lit.val]
        refine bsub ?_
        rw [kk j hj]
        refine subS (ga' j hj) (by omega) (saddW (by rw [sizeLine_eq, one_len]; omega) ?_)
        refine bmul (mulOk_s (by omega) (by omega)) (bmod (by decide) ?_)
        simp only [Val.int.injEq, exists_eq_left', sliceW]
        refine ⟨by rw [sizeLine_eq]; omega, saddW ?_ ?_⟩
        · have := cutl ((j : Int) * 5 % 6)
          rw [sizeLine_eq, String.length_append, one_len]; omega
        · rw [String.append_assoc]
          exact hQ
      · simp only [s2_f_law_words, wSs, wS, wT, wEs, wO, wPs, wC, wSrc, wE_loc, wE_lit, wE_con, wE_bin, wE_neg, wE_cmp, wE_cmp2, wE_isN, wE_notN, wE_isB, wE_not, wE_and, wE_or, wE_ite, wE_tup, wE_lst, wE_dic, wE_call, wE_make, wE_meth, wE_fld, wE_sub, wE_slice, wE_bi, wE_vi, wE_bm, wE_isi, wE_lc, wE_lck, eg, es, Option.some.injEq, exists_eq_left', Lit.val]
        refine ⟨26, rfl, ⟨by decide, by decide⟩, ?_⟩
        rw [show (26 : Int).toNat = 26 from rfl, rng_map]
        refine lc_map (List.range 26) (fun (j : Nat) => Val.int (j : Int)) (fun j => Val.str (String.singleton (UPP.toList.getD (25 - j) 'a') ++ String.ofList (cut stem.toList none (some ((j : Int) * 5 % 6))))) (by simp) (fun j hj Q' hQ => ?_) ?_
        · have hj := List.mem_range.mp hj
          simp only [ewipe, List.map_cons, List.map_nil, wSs, wS, wT, wEs, wO, wPs, wC, wSrc, wE_loc, wE_lit, wE_con, wE_bin, wE_neg, wE_cmp, wE_cmp2, wE_isN, wE_notN, wE_isB, wE_not, wE_and, wE_or, wE_ite, wE_tup, wE_lst, wE_dic, wE_call, wE_make, wE_meth, wE_fld, wE_sub, wE_slice, wE_bi, wE_vi, wE_bm, wE_isi, wE_lc, wE_lck, eg, es, Option.some.injEq, exists_eq_left', Lit.val]
          refine bsub ?_
          rw [kk j hj]
          refine subS (ga' j hj) (by omega) ⟨by simp [bmT], upS (gu' j hj) (by rw [one_len]; omega) ?_⟩
          refine bmul (mulOk_s (by omega) (by omega)) (bmod (by decide) ?_)
          simp only [Val.int.injEq, exists_eq_left', sliceW]
          refine ⟨by rw [sizeLine_eq]; omega, saddW ?_ hQ⟩
          have := cutl ((j : Int) * 5 % 6)
          rw [sizeLine_eq, one_len]; omega
        · have w1 : WL 26 15 ((List.range 26).map fun j => String.singleton (ABC.toList.getD (25 - j) 'a') ++ ("x" ++ String.ofList (cut stem.toList none (some ((j : Int) * 5 % 6))))) := wl_rng abc_nd abc_len fun j => by
            have := cutl ((j : Int) * 5 % 6)
            rw [String.length_append]; omega
          have w2 : WL 26 15 ((List.range 26).map fun j => String.singleton (UPP.toList.getD (25 - j) 'a') ++ String.ofList (cut stem.toList none (some ((j : Int) * 5 % 6)))) := wl_rng upp_nd upp_len fun j => by
            have := cutl ((j : Int) * 5 % 6)
            omega
          refine s6 stem _ _ S3.length _ _ _ _ _ hst w1 w2 ?_ ?_ ((t3.app _).app _) (f23.trans ((Fm.app _).trans (Fm.app _))) eD
          · rw [List.map_map]
            exact get_app get_new
          · rw [List.map_map]
            exact get_new
    · rw [if_neg (by simp [hr])]
      exact s6 _ _ _ _ _ _ _ _ _ hst hsm hgr g3a g3g t3 f23 eD
  simp only [s12_f_law_words, wSs, wS, wT, wEs, wO, wPs, wC, wSrc, wE_loc, wE_lit, wE_con, wE_bin, wE_neg, wE_cmp, wE_cmp2, wE_isN, wE_notN, wE_isB, wE_not, wE_and, wE_or, wE_ite, wE_tup, wE_lst, wE_dic, wE_call, wE_make, wE_meth, wE_fld, wE_sub, wE_slice, wE_bi, wE_vi, wE_bm, wE_isi, wE_lc, wE_lck, eg, es, Option.some.injEq, exists_eq_left', Lit.val]
  refine ⟨by simp [bmT], ?_⟩
  refine call_use (next_ok (k := k) h (by decide) (by decide)) ?_
  rintro _ S1 ⟨⟨n0, rfl, n1, n2⟩, t1, f1, _⟩
  refine ⟨n0, rfl, ⟨by omega, by omega⟩, ?_⟩
  refine lcr_inv (callW_mono P _) (fun i acc S' => ∃ cs : List Char, acc = (cs.map fun c => Val.str (String.singleton c)) ∧ cs.length = i ∧ (∀ c ∈ cs, c ∈ ABC.toList) ∧ Sta p S' ∧ Fm p S S') ?_ ?_ ⟨[], rfl, rfl, by simp, t1, f1⟩
  · rintro i v acc S' hi ⟨cs, rfl, cl, hc, t2, f2⟩
    have il := lt_get hi
    rw [rng_len] at il
    refine ⟨trivial, ?_⟩
    simp only [tgW, ewipe, List.map_cons, List.map_nil, wSs, wS, wT, wEs, wO, wPs, wC, wSrc, wE_loc, wE_lit, wE_con, wE_bin, wE_neg, wE_cmp, wE_cmp2, wE_isN, wE_notN, wE_isB, wE_not, wE_and, wE_or, wE_ite, wE_tup, wE_lst, wE_dic, wE_call, wE_make, wE_meth, wE_fld, wE_sub, wE_slice, wE_bi, wE_vi, wE_bm, wE_isi, wE_lc, wE_lck, eg, es, Option.some.injEq, exists_eq_left', Lit.val, if_true]
    refine call_use (next_ok (k := k) t2 (by decide) (by decide)) ?_
    rintro _ S3 ⟨⟨r, rfl, r0, r1⟩, t3, f3, _⟩
    obtain ⟨j, rfl⟩ := Int.eq_ofNat_of_zero_le r0
    have hj : j < ABC.toList.length := by rw [abc_len]; omega
    refine subS (s := ABC) (List.getElem?_eq_getElem hj) (by decide) ?_
    refine ⟨by rw [sizeLine_eq, List.length_map]; omega, cs ++ [ABC.toList[j]], by simp, by simp [cl], fun c h => ?_, t3, f2.trans f3⟩
    rcases List.mem_append.mp h with h | h
    · exact hc c h
    · rw [List.mem_singleton.mp h]; exact List.getElem_mem hj
  · rintro acc S' ⟨cs, rfl, cl, hc, t2, f2⟩
    rw [rng_len] at cl
    refine ⟨trivial, ?_⟩
    obtain ⟨stem, hstem⟩ : ∃ stem, stem = cat (cs.map String.singleton) := ⟨_, rfl⟩
    have sl : stem.toList = cs := by rw [hstem]; exact cat_one cs
    have hst : stem.length ≤ 5 := by rw [← String.length_toList, sl]; omega
    have hsum : ((cs.map String.singleton).map String.length).sum = cs.length := by
      clear cl hc t2 f2 sl hst hstem
      induction cs with
      | nil => rfl
      | cons c r ih => simp at ih ⊢; omega
    simp only [bmW]
    refine ⟨cs.map String.singleton, stem, by rw [lst_at get_new, List.map_map]; rfl, by rw [hstem]; exact cat_ok _, by rw [hsum, List.length_map]; simp; omega, ?_⟩
    have t3 := t2.app [Ob.lst (cs.map fun c => Val.str (String.singleton c))]
    have f3 := f2.trans (Fm.app (p := p) [Ob.lst (cs.map fun c => Val.str (String.singleton c))])
    generalize S' ++ [Ob.lst (cs.map fun c => Val.str (String.singleton c))] = S3 at t3 f3
    clear t2 f2 hsum
    simp only [s11_f_law_words, wSs, wS, wT, wEs, wO, wPs, wC, wSrc, wE_loc, wE_lit, wE_con, wE_bin, wE_neg, wE_cmp, wE_cmp2, wE_isN, wE_notN, wE_isB, wE_not, wE_and, wE_or, wE_ite, wE_tup, wE_lst, wE_dic, wE_call, wE_make, wE_meth, wE_fld, wE_sub, wE_slice, wE_bi, wE_vi, wE_bm, wE_isi, wE_lc, wE_lck, eg, es, Option.some.injEq, exists_eq_left', Lit.val, biW]
    refine ⟨by rw [sizeLine_eq]; omega, badd ?_⟩
    refine call_use (next_ok (k := k) t3 (by omega) (by omega)) ?_
    rintro _ S4 ⟨⟨ct, rfl, c0, c1⟩, t4, f4, _⟩
    have f04 := f3.trans f4
    have cl2 : ∀ lo hi, (String.ofList (cut stem.toList lo hi)).length ≤ 5 := fun lo hi => by
      rw [String.length_ofList]
      exact Nat.le_trans (cut_le _ _ _) (by rw [String.length_toList]; exact hst)
    have cl3 : ∀ lo hi lo' hi', (String.ofList (cut stem.toList lo hi)).length ≤ 5 ∧ (String.ofList (cut stem.toList lo' hi')).length ≤ 5 := fun _ _ _ _ => ⟨cl2 _ _, cl2 _ _⟩
    simp only [s10_f_law_words, wSs, wS, wT, wEs, wO, wPs, wC, wSrc, wE_loc, wE_lit, wE_con, wE_bin, wE_neg, wE_cmp, wE_cmp2, wE_isN, wE_notN, wE_isB, wE_not, wE_and, wE_or, wE_ite, wE_tup, wE_lst, wE_dic, wE_call, wE_make, wE_meth, wE_fld, wE_sub, wE_slice, wE_bi, wE_vi, wE_bm, wE_isi, wE_lc, wE_lck, eg, es, Option.some.injEq, exists_eq_left', Lit.val, seqOf]
    refine lc_map ABC.toList (fun c => Val.str (String.singleton c)) (fun c => Val.str ((String.ofList (cut stem.toList none (some ct)) ++ "x") ++ String.singleton c ++ String.ofList (cut stem.toList (some ct) none))) (by rw [abc_len]; omega) (fun c _ Q' hQ => ?_) ?_
    · simp only [ewipe, List.map_cons, List.map_nil, wSs, wS, wT, wEs, wO, wPs, wC, wSrc, wE_loc, wE_lit, wE_con, wE_bin, wE_neg, wE_cmp, wE_cmp2, wE_isN, wE_notN, wE_isB, wE_not, wE_and, wE_or, wE_ite, wE_tup, wE_lst, wE_dic, wE_call, wE_make, wE_meth, wE_fld, wE_sub, wE_slice, wE_bi, wE_vi, wE_bm, wE_isi, wE_lc, wE_lck, eg, es, Option.some.injEq, exists_eq_left', Lit.val, Val.int.injEq, exists_eq_left', sliceW]
      obtain ⟨z1, z2⟩ := cl3 none (some ct) (some ct) none
      have z3 := one_len c
      exact ⟨by rw [sizeLine_eq]; omega, saddW (by rw [sizeLine_eq]; omega) (saddW (by rw [sizeLine_eq, String.length_append]; omega) ⟨by rw [sizeLine_eq]; omega, saddW (by rw [sizeLine_eq, String.length_append, String.length_append]; omega) hQ⟩)⟩
    have w1 : WL 26 15 (ABC.toList.map fun c => (String.ofList (cut stem.toList none (some ct)) ++ "x") ++ String.singleton c ++ String.ofList (cut stem.toList (some ct) none)) := wl_abc abc_nd abc_len (by
      obtain ⟨z1, z2⟩ := cl3 none (some ct) (some ct) none
      rw [String.length_append]; omega)
    have g5 : (S4 ++ [Ob.lst (ABC.toList.map fun c => Val.str ((String.ofList (cut stem.toList none (some ct)) ++ "x") ++ String.singleton c ++ String.ofList (cut stem.toList (some ct) none)))])[S4.length]? = some (.lst ((ABC.toList.map fun c => (String.ofList (cut stem.toList none (some ct)) ++ "x") ++ String.singleton c ++ String.ofList (cut stem.toList (some ct) none)).map .str)) := by rw [List.map_map]; exact get_new
    have t5 := t4.app [Ob.lst (ABC.toList.map fun c => Val.str ((String.ofList (cut stem.toList none (some ct)) ++ "x") ++ String.singleton c ++ String.ofList (cut stem.toList (some ct) none)))]
    have f5 := f04.trans (Fm.app (p := p) [Ob.lst (ABC.toList.map fun c => Val.str ((String.ofList (cut stem.toList none (some ct)) ++ "x") ++ String.singleton c ++ String.ofList (cut stem.toList (some ct) none)))])
    have l5 : (S4 ++ [Ob.lst (ABC.toList.map fun c => Val.str ((String.ofList (cut stem.toList none (some ct)) ++ "x") ++ String.singleton c ++ String.ofList (cut stem.toList (some ct) none)))]).length = S4.length + 1 := by simp
    generalize S4 ++ [Ob.lst (ABC.toList.map fun c => Val.str ((String.ofList (cut stem.toList none (some ct)) ++ "x") ++ String.singleton c ++ String.ofList (cut stem.toList (some ct) none)))] = S5 at g5 t5 f5 l5
    generalize (ABC.toList.map fun c => (String.ofList (cut stem.toList none (some ct)) ++ "x") ++ String.singleton c ++ String.ofList (cut stem.toList (some ct) none)) = sm at w1 g5
    have a4p : S4.length ≠ p := by have := f04.1; omega
    simp only [s9_f_law_words, wSs, wS, wT, wEs, wO, wPs, wC, wSrc, wE_loc, wE_lit, wE_con, wE_bin, wE_neg, wE_cmp, wE_cmp2, wE_isN, wE_notN, wE_isB, wE_not, wE_and, wE_or, wE_ite, wE_tup, wE_lst, wE_dic, wE_call, wE_make, wE_meth, wE_fld, wE_sub, wE_slice, wE_bi, wE_vi, wE_bm, wE_isi, wE_lc, wE_lck, eg, es, Option.some.injEq, exists_eq_left', Lit.val]
    refine ⟨by simp [bmT], upS (y := UPP) up_all (by decide) ?_⟩
    simp only [seqOf]
    refine lc_map UPP.toList (fun c => Val.str (String.singleton c)) (fun c => Val.str (String.singleton c ++ stem)) (by rw [upp_len]; omega) (fun c _ Q' hQ => ?_) ?_
    · simp only [ewipe, List.map_cons, List.map_nil, wSs, wS, wT, wEs, wO, wPs, wC, wSrc, wE_loc, wE_lit, wE_con, wE_bin, wE_neg, wE_cmp, wE_cmp2, wE_isN, wE_notN, wE_isB, wE_not, wE_and, wE_or, wE_ite, wE_tup, wE_lst, wE_dic, wE_call, wE_make, wE_meth, wE_fld, wE_sub, wE_slice, wE_bi, wE_vi, wE_bm, wE_isi, wE_lc, wE_lck, eg, es, Option.some.injEq, exists_eq_left', Lit.val]
      exact saddW (by rw [sizeLine_eq, one_len]; omega) hQ
    have w2 : WL 26 15 (UPP.toList.map fun c => String.singleton c ++ stem) := by
      have := wl_abc (pre := "") (post := stem) upp_nd upp_len (by have : "".length = 0 := by decide
                                                                   omega)
      simpa using this
    have g6 : (S5 ++ [Ob.lst (UPP.toList.map fun c => Val.str (String.singleton c ++ stem))])[S5.length]? = some (.lst ((UPP.toList.map fun c => String.singleton c ++ stem).map .str)) := by rw [List.map_map]; exact get_new
    have t6 := t5.app [Ob.lst (UPP.toList.map fun c => Val.str (String.singleton c ++ stem))]
    have f6 := f5.trans (Fm.app (p := p) [Ob.lst (UPP.toList.map fun c => Val.str (String.singleton c ++ stem))])
    have g5' := get_app (l := [Ob.lst (UPP.toList.map fun c => Val.str (String.singleton c ++ stem))]) g5
    generalize S5 ++ [Ob.lst (UPP.toList.map fun c => Val.str (String.singleton c ++ stem))] = S6 at g6 t6 f6 g5'
    generalize (UPP.toList.map fun c => String.singleton c ++ stem) = gr at w2 g6
    have a5p : S5.length ≠ p := by have := f5.1; omega
    simp only [s8_f_law_words, wSs, wS, wT, wEs, wO, wPs, wC, wSrc, wE_loc, wE_lit, wE_con, wE_bin, wE_neg, wE_cmp, wE_cmp2, wE_isN, wE_notN, wE_isB, wE_not, wE_and, wE_or, wE_ite, wE_tup, wE_lst, wE_dic, wE_call, wE_make, wE_meth, wE_fld, wE_sub, wE_slice, wE_bi, wE_vi, wE_bm, wE_isi, wE_lc, wE_lck, eg, es, Option.some.injEq, exists_eq_left', Lit.val]
    refine call_use (next_ok (k := k) t6 (by decide) (by decide)) ?_
    rintro _ S7 ⟨⟨r, rfl, r0, r1⟩, t7, f7, _⟩
    have f07 := f6.trans f7
    have g57 := f7.get a4p g5'
    have g67 := f7.get a5p g6
    simp only [cmpW, eqW_int, truth, Option.some.injEq, exists_eq_left']
    by_cases hr : r = 0
    · rw [if_pos (by simp [hr])]
      simp only [s1_f_law_words, wSs, wS, wT, wEs, wO, wPs, wC, wSrc, wE_loc, wE_lit, wE_con, wE_bin, wE_neg, wE_cmp, wE_cmp2, wE_isN, wE_notN, wE_isB, wE_not, wE_and, wE_or, wE_ite, wE_tup, wE_lst, wE_dic, wE_call, wE_make, wE_meth, wE_fld, wE_sub, wE_slice, wE_bi, wE_vi, wE_bm, wE_isi, wE_lc, wE_lck, eg, es, Option.some.injEq, exists_eq_left', Lit.val, seqOf]
      obtain ⟨up, u1, u2⟩ := first_up (cs := cs) hc
      refine lc_map ABC.toList (fun c => Val.str (String.singleton c)) (fun c => Val.str (up ++ String.singleton c ++ String.ofList (cut stem.toList (some 1) none))) (by rw [abc_len]; omega) (fun c _ Q' hQ => ?_) ?_
      · simp only [ewipe, List.map_cons, List.map_nil, wSs, wS, wT, wEs, wO, wPs, wC, wSrc, wE_loc, wE_lit, wE_con, wE_bin, wE_neg, wE_cmp, wE_cmp2, wE_isN, wE_notN, wE_isB, wE_not, wE_and, wE_or, wE_ite, wE_tup, wE_lst, wE_dic, wE_call, wE_make, wE_meth, wE_fld, wE_sub, wE_slice, wE_bi, wE_vi, wE_bm, wE_isi, wE_lc, wE_lck, eg, es, Option.some.injEq, exists_eq_left', Lit.val]
        have ha : "a".length = 1 := by decide
        have z1 := cl2 (some 1) none
        have z3 := one_len c
        refine saddW (by rw [sizeLine_eq]; omega) ?_
        simp only [Val.int.injEq, exists_eq_left', sliceW]
        have e : (stem ++ "a").toList = cs ++ ['a'] := by rw [String.toList_append, sl]; rfl
        have z2 : (String.ofList (cut (stem ++ "a").toList none (some 1))).length ≤ 6 := by
          rw [String.length_ofList]
          exact Nat.le_trans (cut_le _ _ _) (by rw [String.length_toList, String.length_append]; omega)
        refine ⟨by rw [sizeLine_eq, String.length_append]; omega, by simp [bmT], upS (y := up) (by rw [e]; exact u2) (by omega) ?_⟩
        exact saddW (by rw [sizeLine_eq]; omega) ⟨by rw [sizeLine_eq]; omega, saddW (by rw [sizeLine_eq, String.length_append]; omega) hQ⟩
      · have w3 : WL 26 15 (ABC.toList.map fun c => up ++ String.singleton c ++ String.ofList (cut stem.toList (some 1) none)) := wl_abc abc_nd abc_len (by
          have z1 := cl2 (some 1) none
          omega)
        refine s7 stem _ _ S4.length S7.length _ _ _ hst w1 w3 (get_app g57) (by rw [List.map_map]; exact get_new) a4p (by have := f07.1; omega) (t7.app _) (f07.trans (Fm.app _)) rfl
    · rw [if_neg (by simp [hr])]
      exact s7 stem _ _ S4.length S5.length _ _ _ hst w1 w2 g57 g67 a4p a5p t7 f07 rfl
end K14

set_option maxHeartbeats 1000000
namespace K14
open Mi PySem
open Cd (Same)
theorem nodup_sub : ∀ {xs ys : List String}, xs.Nodup → (∀ x ∈ xs, x ∈ ys) → xs.length ≤ ys.length
  | [], _, _, _ => Nat.zero_le _
  | x :: xs, ys, hn, hs => by
    rw [List.nodup_cons] at hn
    have hm := hs x List.mem_cons_self
    have := nodup_sub (xs := xs) (ys := ys.erase x) hn.2 fun y hy => by
      have ne : y ≠ x := fun z => hn.1 (by rw [← z]; exact hy)
      exact (List.mem_erase_of_ne ne).mpr (hs y (List.mem_cons_of_mem _ hy))
    have h1 := List.length_erase_of_mem hm
    have h2 : 0 < ys.length := List.length_pos_of_mem hm
    simp only [List.length_cons]
    omega
def rest (ws ts : List String) : List String := ws.filter fun w => !decide (w ∈ ts)
theorem rest_ne {ws ts : List String} (hn : ws.Nodup) (hl : ts.length < ws.length) : rest ws ts ≠ [] := by
  intro e
  have := nodup_sub hn (ys := ts) fun x hx => by
    by_cases h : x ∈ ts
    · exact h
    · have : x ∈ rest ws ts := List.mem_filter.mpr ⟨hx, by simp [h]⟩
      rw [e] at this
      cases this
  omega
theorem rest_take {ws ts : List String} {i : Nat} {w : String} (h : ws[i]? = some w) : rest (ws.take (i + 1)) ts = rest (ws.take i) ts ++ (if w ∈ ts then [] else [w]) := by
  unfold rest
  rw [List.take_add_one, h, List.filter_append]
  by_cases h : w ∈ ts <;> simp [h]
theorem new_ok {k w a t : Nat} {d : List (Key × Val)} {key : String} {ws ts : List String} {S : Hm} (hw : S[w]? = some (.dic d)) (hk : lookK d (.inr key) = some (.ref a)) (ha : S[a]? = some (.lst (ws.map .str))) (ht : S[t]? = some (.lst (ts.map .str))) (hn : ws.Nodup) (hl : ts.length < ws.length) (hs : ws.length ≤ 1000) :
    callW P (k + 1) (.f "_law_new") [.ref w, .str key, .ref t] S (fun v S' => (∃ x, v = .str x ∧ x ∈ ws ∧ x ∉ ts) ∧ ∃ l, S' = S ++ l) noX := by
  refine call_open fn_f_law_new ⟨rfl, ?_⟩
  show wSs _ _ _ s1_f_law_new _ _ [some (.ref w), some (.str key), some (.ref t), none] S
  simp only [s1_f_law_new, wSs, wS, wT, wEs, wO, wPs, wC, wSrc, wE_loc, wE_lit, wE_con, wE_bin, wE_neg, wE_cmp, wE_cmp2, wE_isN, wE_notN, wE_isB, wE_not, wE_and, wE_or, wE_ite, wE_tup, wE_lst, wE_dic, wE_call, wE_make, wE_meth, wE_fld, wE_sub, wE_slice, wE_bi, wE_vi, wE_bm, wE_isi, wE_lc, wE_lck, eg, es, Option.some.injEq, exists_eq_left', Lit.val]
  refine .inr ⟨_, .inr key, _, dic_at hw, rfl, hk, ?_⟩
  simp only [seqOf]
  refine ⟨_, lst_at ha, ?_⟩
  refine lcr_inv (callW_mono P _) (fun i acc S' => S' = S ∧ acc = (rest (ws.take i) ts).map Val.str) ?_ ?_ ⟨rfl, by simp [rest]⟩
  · rintro i v acc S' hi ⟨rfl, rfl⟩
    rw [List.getElem?_map] at hi
    obtain ⟨x, hx, rfl⟩ := Option.map_eq_some_iff.mp hi
    have il := lt_get hx
    refine ⟨lst_at ha, ?_⟩
    simp only [tgW, ewipe, List.map_cons, List.map_nil, wSs, wS, wT, wEs, wO, wPs, wC, wSrc, wE_loc, wE_lit, wE_con, wE_bin, wE_neg, wE_cmp, wE_cmp2, wE_isN, wE_notN, wE_isB, wE_not, wE_and, wE_or, wE_ite, wE_tup, wE_lst, wE_dic, wE_call, wE_make, wE_meth, wE_fld, wE_sub, wE_slice, wE_bi, wE_vi, wE_bm, wE_isi, wE_lc, wE_lck, eg, es, Option.some.injEq, exists_eq_left', Lit.val]
    refine notin_ok (lst_at ht) ?_
    simp only [truth, Option.some.injEq, exists_eq_left']
    rw [rest_take hx]
    have fl := List.length_filter_le (fun w => !decide (w ∈ ts)) (ws.take i)
    rw [List.length_take] at fl
    by_cases h : x ∈ ts
    · rw [if_neg (by simp [h])]
      simp [h]
    · rw [if_pos (by simp [h])]
      refine ⟨by rw [sizeLine_eq, List.length_map]; unfold rest; omega, trivial, ?_⟩
      simp [h]
  · rintro acc S' ⟨rfl, rfl⟩
    refine ⟨lst_at ha, ?_⟩
    rw [List.length_map, List.take_length]
    cases e : rest ws ts with
    | nil => exact (rest_ne hn hl e).elim
    | cons x r =>
      have hx : x ∈ rest ws ts := by rw [e]; exact List.mem_cons_self
      obtain ⟨h1, h2⟩ := List.mem_filter.mp hx
      refine subW_lst (lst_at get_new) (v := .str x) ix_zero ⟨⟨x, rfl, h1, by simpa using h2⟩, _, rfl⟩
/-- the world -/
structure Th (p th so ki re fa pa fd hl : Nat) (part face h1 h2 : String) (S : Hm) : Prop where
  eth : S[th]? = some (.dic [(.inr "sorts", .ref so), (.inr "kind", .ref ki), (.inr "record", .ref re), (.inr "faces", .ref fa), (.inr "parts", .ref pa)])
  efa : S[fa]? = some (.dic [(.inr face, .ref fd)])
  efd : S[fd]? = some (.dic [(.inr "hides", .ref hl)])
  ehl : S[hl]? = some (.lst [.tup [.str h1, .int 0], .tup [.str h2, .int 2]])
  epa : S[pa]? = some (.lst [.tup [.str part, .str face]])
  np : th ≠ p ∧ fa ≠ p ∧ fd ≠ p ∧ hl ≠ p ∧ pa ≠ p
  ln : part.length ≤ 20 ∧ h1.length ≤ 20 ∧ h2.length ≤ 20
def IsHd (v : Val) : Prop := ∃ (s : String) (m : Int), v = .tup [.str s, .int m] ∧ 0 ≤ m ∧ m ≤ 3
theorem Fm.in {p : Nat} {S S' : Hm} (h : Fm p S S') {n : Nat} {o : Ob} (e : S[n]? = some o) (hn : n ≠ p) : S'[n]? = some o := h.get hn e
theorem Th.fm {p th so ki re fa pa fd hl : Nat} {part face h1 h2 : String} {S S' : Hm} (h : Th p th so ki re fa pa fd hl part face h1 h2 S) (f : Fm p S S') : Th p th so ki re fa pa fd hl part face h1 h2 S' :=
  ⟨f.get h.np.1 h.eth, f.get h.np.2.1 h.efa, f.get h.np.2.2.1 h.efd, f.get h.np.2.2.2.1 h.ehl, f.get h.np.2.2.2.2 h.epa, h.np, h.ln⟩
theorem paths_ok {k p th so ki re fa pa fd hl : Nat} {part face h1 h2 : String} {S : Hm} (h : Th p th so ki re fa pa fd hl part face h1 h2 S) : callW P (k + 1) (.f "_law_paths") [.ref th, .str "hides"] S (fun v S' => ∃ n xs, v = .ref n ∧ S.length ≤ n ∧ S'[n]? = some (.lst xs) ∧ (∀ x ∈ xs, IsHd x) ∧ xs.length = 2 ∧ S.length ≤ S'.length ∧ ∀ m, m < S.length → S'[m]? = S[m]?) noX := by
  refine call_open fn_f_law_paths ⟨rfl, ?_⟩
  show wSs _ _ _ s3_f_law_paths _ _ [some (.ref th), some (.str "hides"), none, none, none, none] S
  simp only [s3_f_law_paths, wSs, wS, wT, wEs, wO, wPs, wC, wSrc, wE_loc, wE_lit, wE_con, wE_bin, wE_neg, wE_cmp, wE_cmp2, wE_isN, wE_notN, wE_isB, wE_not, wE_and, wE_or, wE_ite, wE_tup, wE_lst, wE_dic, wE_call, wE_make, wE_meth, wE_fld, wE_sub, wE_slice, wE_bi, wE_vi, wE_bm, wE_isi, wE_lc, wE_lck, eg, es, Option.some.injEq, exists_eq_left', Lit.val]
  refine ⟨by rw [sizeLine_eq]; simp, ?_⟩
  refine .inr ⟨_, .inr "parts", _, dic_at (get_app h.eth), rfl, rfl, ?_⟩
  simp only [seqOf]
  refine ⟨_, lst_at (get_app h.epa), ?_⟩
  have l1 := lt_get h.epa
  have l2 := lt_get h.eth
  have l3 := lt_get h.efa
  have l4 := lt_get h.efd
  have l5 := lt_get h.ehl
  obtain ⟨q1, q2, q3⟩ := h.ln
  refine for_inv (callW_mono P _) (fun i env S' => ∃ x3 x4 xs, env = [some (.ref th), some (.str "hides"), some (.ref S.length), x3, x4, none] ∧ S'[S.length]? = some (.lst xs) ∧ (∀ x ∈ xs, IsHd x) ∧ xs.length = 2 * i ∧ S.length < S'.length ∧ ∀ m, m < S.length → S'[m]? = S[m]?) ?_ ?_ ⟨none, none, [], rfl, get_new, by simp, rfl, by simp, fun m hm => List.getElem?_append_left hm⟩
  · rintro i v env S' hi ⟨x3, x4, xs, rfl, g1, g2, g3, g4, g5⟩
    have il := lt_get hi
    simp only [List.length_cons, List.length_nil] at il
    obtain rfl : i = 0 := by omega
    have ev : v = .tup [.str part, .str face] := by simpa using hi.symm
    subst ev
    refine ⟨lst_at (by rw [g5 _ l1]; exact h.epa), ?_⟩
    simp only [tgW, Val.tup.injEq, exists_eq_left', List.length_cons, List.length_nil, List.zip_cons_cons, List.zip_nil_right, List.foldl_cons, List.foldl_nil, es, true_and, s1_f_law_paths, wSs, wS, wT, wEs, wO, wPs, wC, wSrc, wE_loc, wE_lit, wE_con, wE_bin, wE_neg, wE_cmp, wE_cmp2, wE_isN, wE_notN, wE_isB, wE_not, wE_and, wE_or, wE_ite, wE_tup, wE_lst, wE_dic, wE_call, wE_make, wE_meth, wE_fld, wE_sub, wE_slice, wE_bi, wE_vi, wE_bm, wE_isi, wE_lc, wE_lck, eg, es, Option.some.injEq, exists_eq_left', Lit.val]
    refine .inr ⟨_, .inr "faces", _, dic_at (by rw [g5 _ l2]; exact h.eth), rfl, rfl, ?_⟩
    refine .inr ⟨_, .inr face, .ref fd, dic_at (by rw [g5 _ l3]; exact h.efa), rfl, by simp [lookK], ?_⟩
    refine .inr ⟨_, .inr "hides", _, dic_at (by rw [g5 _ l4]; exact h.efd), rfl, rfl, ?_⟩
    simp only [seqOf]
    have hh : Hm.lst S' hl = some [.tup [.str h1, .int 0], .tup [.str h2, .int 2]] := lst_at (by rw [g5 _ l5]; exact h.ehl)
    refine ⟨_, hh, ?_⟩
    refine lcr_inv (callW_mono P _) (fun j acc S2 => S2 = S' ∧ (∀ x ∈ acc, IsHd x) ∧ acc.length = j) ?_ ?_ ⟨rfl, by simp, rfl⟩
    · rintro j v acc S2 hj ⟨rfl, a1, a2⟩
      obtain ⟨s, m, rfl, sl, m0, m1⟩ : ∃ (s : String) (m : Int), v = .tup [.str s, .int m] ∧ s.length ≤ 20 ∧ 0 ≤ m ∧ m ≤ 3 := by
        have := List.mem_of_getElem? hj
        simp only [List.mem_cons, List.not_mem_nil, or_false] at this
        rcases this with rfl | rfl
        · exact ⟨h1, 0, rfl, q2, by decide, by decide⟩
        · exact ⟨h2, 2, rfl, q3, by decide, by decide⟩
      have jl := lt_get hj
      simp only [List.length_cons, List.length_nil] at jl
      refine ⟨hh, ?_⟩
      have hd : ".".length = 1 := by decide
      simp only [tgW, ewipe, List.map_cons, List.map_nil, wSs, wS, wT, wEs, wO, wPs, wC, wSrc, wE_loc, wE_lit, wE_con, wE_bin, wE_neg, wE_cmp, wE_cmp2, wE_isN, wE_notN, wE_isB, wE_not, wE_and, wE_or, wE_ite, wE_tup, wE_lst, wE_dic, wE_call, wE_make, wE_meth, wE_fld, wE_sub, wE_slice, wE_bi, wE_vi, wE_bm, wE_isi, wE_lc, wE_lck, eg, es, Option.some.injEq, exists_eq_left', Lit.val, if_true]
      refine saddW (by rw [sizeLine_eq]; omega) ?_
      simp only [subW]
      refine ⟨.str s, ix_zero, saddW (by rw [sizeLine_eq, String.length_append]; omega) ⟨by rw [sizeLine_eq]; simp, 1, rfl, ?_⟩⟩
      simp only [sliceW, binW]
      rw [show cut [Val.str s, .int m] (some 1) none = [.int m] from rfl]
      refine ⟨by rw [sizeLine_eq]; simp, by rw [sizeLine_eq]; omega, trivial, fun x hx => ?_, by simp [a2]⟩
      rcases List.mem_append.mp hx with hx | hx
      · exact a1 x hx
      · rw [List.mem_singleton.mp hx]
        exact ⟨_, m, rfl, m0, m1⟩
    · rintro acc S2 ⟨rfl, a1, a2⟩
      refine ⟨hh, ?_⟩
      simp only [ibinW]
      simp only [List.length_cons, List.length_nil] at a2
      refine ⟨_, _, get_app g1, get_new, by rw [sizeLine_eq, a2, g3]; omega, _, _, _, rfl, by rw [get_set, get_app g1]; rfl, fun x hx => ?_, ?_, by simp; omega, fun m hm => ?_⟩
      · rcases List.mem_append.mp hx with hx | hx
        · exact g2 x hx
        · exact a1 x hx
      · rw [List.length_append, a2, g3]
      · rw [get_ne (by omega), List.getElem?_append_left (by omega)]
        exact g5 m hm
  · rintro env S' ⟨x3, x4, xs, rfl, g1, g2, g3, g4, g5⟩
    refine ⟨lst_at (by rw [g5 _ l1]; exact h.epa), ?_⟩
    simp only [s2_f_law_paths, wSs, wS, wT, wEs, wO, wPs, wC, wSrc, wE_loc, wE_lit, wE_con, wE_bin, wE_neg, wE_cmp, wE_cmp2, wE_isN, wE_notN, wE_isB, wE_not, wE_and, wE_or, wE_ite, wE_tup, wE_lst, wE_dic, wE_call, wE_make, wE_meth, wE_fld, wE_sub, wE_slice, wE_bi, wE_vi, wE_bm, wE_isi, wE_lc, wE_lck, eg, es, Option.some.injEq, exists_eq_left', Lit.val]
    exact ⟨_, xs, rfl, Nat.le_refl _, g1, g2, by simpa using g3, by omega, g5⟩
end K14

set_option maxHeartbeats 1000000
namespace K14
open Mi PySem
open Cd (Same)
/-- kinds -/
inductive KV : Nat → Val → Prop where
  | str {n s} : KV n (.str s)
  | tup {n h vs} : (∀ v ∈ vs, KV n v) → vs.length ≤ 3 → KV (n + 1) (.tup (.str h :: vs))
theorem KV.le {n m : Nat} {v : Val} (h : KV n v) (hm : n ≤ m) : KV m v := by
  induction h generalizing m with
  | str => exact .str
  | tup hv hl ih =>
    cases m with
    | zero => omega
    | succ m => exact .tup (fun v hv' => ih v hv' (by omega)) hl
theorem KV.pure {n : Nat} {v : Val} (h : KV n v) : pureV n v = true := by
  induction h with
  | str => cases ‹Nat› <;> rfl
  | tup hv hl ih =>
    simp only [pureV, List.all_cons, List.all_eq_true, Bool.and_eq_true]
    exact ⟨trivial, ih⟩
theorem lift_to {k j : Nat} (e : k = j) {f : FK} {args : List Val} {S : Hm} {Q : Post} {X : XPost} (h : callW P k f args S Q X) : callW P j f args S Q X := e ▸ h
theorem at_in {n : Nat} {xs : List Val} {r : Int} {S : Hm} {Q : Post} (h : S[n]? = some (.lst xs)) (h0 : 0 ≤ r) (h1 : r < xs.length) (hq : ∀ v ∈ xs, Q v S) : subW (.ref n) (.int r) S Q := at_mem h h0 h1 hq
theorem Sta.keep {p : Nat} {S S' : Hm} (h : Sta p S) (e : ∀ m, m < S.length → S'[m]? = S[m]?) : Sta p S' := by
  obtain ⟨x, z, h1, h2⟩ := h
  exact ⟨x, z, by rw [e _ (lt_get h1)]; exact h1, h2⟩
theorem kind_ok {p th so ki re fa pa fd hl : Nat} {part face h1 h2 : String} {own hid : Nat} {os : List String} {ss : List Val} (op : own ≠ p) (hp : hid ≠ p) (sp : so ≠ p) (hss : ∀ x ∈ ss, IsHd x) (hsl : ss.length ≤ 20) (hol : os.length ≤ 100) :
    ∀ (d k : Nat) (S : Hm), Sta p S → Th p th so ki re fa pa fd hl part face h1 h2 S → S[own]? = some (.lst (os.map .str)) → S[hid]? = some (.lst []) → S[so]? = some (.lst ss) →
    callW P (k + d + 3) (.f "_law_kind") [.ref p, .ref th, .ref own, .ref hid, .int d] S (fun v S' => KV d v ∧ Sta p S' ∧ Fm p S S') noX := by
  intro d
  induction d using Nat.strongRecOn with
  | _ d ih =>
  intro k S hS hT hO hH hs
  refine call_open (k := k + d + 2) fn_f_law_kind ⟨rfl, ?_⟩
  show wSs _ _ _ s12_f_law_kind _ _ [some (.ref p), some (.ref th), some (.ref own), some (.ref hid), some (.int d), none, none, none, none, none, none] S
  simp only [s12_f_law_kind, wSs, wS, wT, wEs, wO, wPs, wC, wSrc, wE_loc, wE_lit, wE_con, wE_bin, wE_neg, wE_cmp, wE_cmp2, wE_isN, wE_notN, wE_isB, wE_not, wE_and, wE_or, wE_ite, wE_tup, wE_lst, wE_dic, wE_call, wE_make, wE_meth, wE_fld, wE_sub, wE_slice, wE_bi, wE_vi, wE_bm, wE_isi, wE_lc, wE_lck, eg, es, Option.some.injEq, exists_eq_left', Lit.val]
  refine call_use (lift_to (k := k + d + 1 + 1) (by omega) (next_ok (k := k + d + 1) hS (by decide) (by decide))) ?_
  rintro _ S1 ⟨⟨way, rfl, w0, w1⟩, t1, f1, _⟩
  have hT1 := hT.fm f1
  simp only [s11_f_law_kind, wSs, wS, wT, wEs, wO, wPs, wC, wSrc, wE_loc, wE_lit, wE_con, wE_bin, wE_neg, wE_cmp, wE_cmp2, wE_isN, wE_notN, wE_isB, wE_not, wE_and, wE_or, wE_ite, wE_tup, wE_lst, wE_dic, wE_call, wE_make, wE_meth, wE_fld, wE_sub, wE_slice, wE_bi, wE_vi, wE_bm, wE_isi, wE_lc, wE_lck, eg, es, Option.some.injEq, exists_eq_left', Lit.val]
  refine .inr ⟨_, .inr "sorts", _, dic_at hT1.eth, rfl, rfl, ?_⟩
  have hs1 := f1.get sp hs
  have hH1 := f1.get hp hH
  refine addL hs1 hH1 (by rw [sizeLine_eq]; simp; omega) ?_
  have t2 := t1.app [Ob.lst (ss ++ [])]
  have f2 := f1.trans (Fm.app (p := p) [Ob.lst (ss ++ [])])
  have g2 : (S1 ++ [Ob.lst (ss ++ [])])[S1.length]? = some (.lst ss) := by rw [get_new, List.append_nil]
  have np2 : S1.length ≠ p := new_ne t1
  generalize S1 ++ [Ob.lst (ss ++ [])] = S2 at t2 f2 g2
  have hT2 := hT.fm f2
  refine call_use (lift_to (k := k + d + 1 + 1) (by omega) (paths_ok hT2)) ?_
  rintro _ S3 ⟨n, xs, rfl, n1, n2, n3, n4, n5, n6⟩
  have g3 : S3[S1.length]? = some (.lst ss) := by rw [n6 _ (lt_get g2)]; exact g2
  refine addL g3 n2 (by rw [sizeLine_eq]; omega) ?_
  have t3 := (t2.keep n6).app [Ob.lst (ss ++ xs)]
  have f3 := (f2.trans ⟨n5, fun m hm _ => n6 m hm⟩).trans (Fm.app (p := p) [Ob.lst (ss ++ xs)])
  have g4 : (S3 ++ [Ob.lst (ss ++ xs)])[S3.length]? = some (.lst (ss ++ xs)) := get_new
  have np4 : S3.length ≠ p := new_ne (t2.keep n6)
  generalize S3 ++ [Ob.lst (ss ++ xs)] = S4 at t3 f3 g4
  generalize S3.length = hd at g4 np4
  have hds : ∀ x ∈ ss ++ xs, IsHd x := fun x hx => by
    rcases List.mem_append.mp hx with hx | hx
    · exact hss x hx
    · exact n3 x hx
  have hdl : 0 < (ss ++ xs).length ∧ (ss ++ xs).length ≤ 22 := by rw [List.length_append]; omega
  generalize ss ++ xs = hs' at g4 hds hdl
  clear n1 n2 n3 n4 n5 n6 g2 g3 t2 f2 hT2
  have s7 : ∀ X (D : Mi.Sp) (x7 x8 x9 : Option Val) (S5 : Hm), Sta p S5 → Fm p S S5 → D.rt = (fun v S' => KV d v ∧ Sta p S' ∧ Fm p S S') → wSs P.con P.sub (callW P (k + d + 2)) s7_f_law_kind X D [some (.ref p), some (.ref th), some (.ref own), some (.ref hid), some (.int d), some (.int way), some (.ref hd), x7, x8, x9, none] S5 := by
    intro X D x7 x8 x9 S5 t5 f5 eD
    simp only [s7_f_law_kind, wSs, wS, wT, wEs, wO, wPs, wC, wSrc, wE_loc, wE_lit, wE_con, wE_bin, wE_neg, wE_cmp, wE_cmp2, wE_isN, wE_notN, wE_isB, wE_not, wE_and, wE_or, wE_ite, wE_tup, wE_lst, wE_dic, wE_call, wE_make, wE_meth, wE_fld, wE_sub, wE_slice, wE_bi, wE_vi, wE_bm, wE_isi, wE_lc, wE_lck, eg, es, Option.some.injEq, exists_eq_left', Lit.val]
    rw [eD]
    exact ⟨.str, t5, f5⟩
  have s8 : wSs P.con P.sub (callW P (k + d + 2)) s8_f_law_kind (fun c x S' => noX c S') { nx := fun _ S' => (fun v S' => KV d v ∧ Sta p S' ∧ Fm p S S') .non S', rt := fun v S' => KV d v ∧ Sta p S' ∧ Fm p S S' } [some (.ref p), some (.ref th), some (.ref own), some (.ref hid), some (.int d), some (.int way), some (.ref hd), none, none, none, none] S4 := by
    simp only [s8_f_law_kind, wSs, wS, wT, wEs, wO, wPs, wC, wSrc, wE_loc, wE_lit, wE_con, wE_bin, wE_neg, wE_cmp, wE_cmp2, wE_isN, wE_notN, wE_isB, wE_not, wE_and, wE_or, wE_ite, wE_tup, wE_lst, wE_dic, wE_call, wE_make, wE_meth, wE_fld, wE_sub, wE_slice, wE_bi, wE_vi, wE_bm, wE_isi, wE_lc, wE_lck, eg, es, Option.some.injEq, exists_eq_left', Lit.val, cmpW, truth, Option.some.injEq, exists_eq_left']
    by_cases hw : 1 < way
    · rw [if_pos (by simp [hw])]
      refine lenW_lst (lst_at g4) ?_
      simp only [truth, Option.some.injEq, exists_eq_left']
      rw [if_pos (by simp; omega)]
      simp only [s6_f_law_kind, wSs, wS, wT, wEs, wO, wPs, wC, wSrc, wE_loc, wE_lit, wE_con, wE_bin, wE_neg, wE_cmp, wE_cmp2, wE_isN, wE_notN, wE_isB, wE_not, wE_and, wE_or, wE_ite, wE_tup, wE_lst, wE_dic, wE_call, wE_make, wE_meth, wE_fld, wE_sub, wE_slice, wE_bi, wE_vi, wE_bm, wE_isi, wE_lc, wE_lck, eg, es, Option.some.injEq, exists_eq_left', Lit.val]
      refine lenW_lst (lst_at g4) ?_
      refine call_use (lift_to (k := k + d + 1 + 1) (by omega) (next_ok (k := k + d + 1) t3 (by omega) (by omega))) ?_
      rintro _ S5 ⟨⟨r, rfl, r0, r1⟩, t5, f5, _⟩
      have f05 := f3.trans f5
      refine at_mem (f5.get np4 g4) r0 r1 fun v hv => ?_
      obtain ⟨s, m, rfl, m0, m1⟩ := hds v hv
      simp only [tgW, Val.tup.injEq, exists_eq_left', List.length_cons, List.length_nil, List.zip_cons_cons, List.zip_nil_right, List.foldl_cons, List.foldl_nil, es, true_and, s5_f_law_kind, wSs, wS, wT, wEs, wO, wPs, wC, wSrc, wE_loc, wE_lit, wE_con, wE_bin, wE_neg, wE_cmp, wE_cmp2, wE_isN, wE_notN, wE_isB, wE_not, wE_and, wE_or, wE_ite, wE_tup, wE_lst, wE_dic, wE_call, wE_make, wE_meth, wE_fld, wE_sub, wE_slice, wE_bi, wE_vi, wE_bm, wE_isi, wE_lc, wE_lck, eg, es, Option.some.injEq, exists_eq_left', Lit.val, cmpW, eqW_int, truth, Option.some.injEq]
      have s4 : (0 < d ∨ m = 0) → wSs P.con P.sub (callW P (k + d + 2)) s4_f_law_kind (fun c x S' => noX c S') { nx := fun env' S' => wSs P.con P.sub (callW P (k + d + 2)) s7_f_law_kind (fun c x S' => noX c S') { nx := fun _ S' => (fun v S' => KV d v ∧ Sta p S' ∧ Fm p S S') .non S', rt := fun v S' => KV d v ∧ Sta p S' ∧ Fm p S S' } env' S', rt := fun v S' => KV d v ∧ Sta p S' ∧ Fm p S S' } [some (.ref p), some (.ref th), some (.ref own), some (.ref hid), some (.int d), some (.int way), some (.ref hd), some (.str s), some (.int m), none, none] S5 := by
        intro hdm
        simp only [s4_f_law_kind, wSs, wS, wT, wEs, wO, wPs, wC, wSrc, wE_loc, wE_lit, wE_con, wE_bin, wE_neg, wE_cmp, wE_cmp2, wE_isN, wE_notN, wE_isB, wE_not, wE_and, wE_or, wE_ite, wE_tup, wE_lst, wE_dic, wE_call, wE_make, wE_meth, wE_fld, wE_sub, wE_slice, wE_bi, wE_vi, wE_bm, wE_isi, wE_lc, wE_lck, eg, es, Option.some.injEq, exists_eq_left', Lit.val]
        refine ⟨m, rfl, ⟨by omega, by omega⟩, ?_⟩
        refine lcr_inv (callW_mono P _) (fun i acc S' => acc.length = i ∧ (∀ v ∈ acc, KV (d - 1) v) ∧ Sta p S' ∧ Fm p S S') ?_ ?_ ⟨rfl, by simp, t5, f05⟩
        · rintro i v acc S' hi ⟨a1, a2, a3, a4⟩
          have il := lt_get hi
          rw [rng_len] at il
          have hd0 : 0 < d := by omega
          obtain ⟨e, rfl⟩ : ∃ e, d = e + 1 := ⟨d - 1, by omega⟩
          refine ⟨trivial, ?_⟩
          simp only [tgW, ewipe, List.map_cons, List.map_nil, wSs, wS, wT, wEs, wO, wPs, wC, wSrc, wE_loc, wE_lit, wE_con, wE_bin, wE_neg, wE_cmp, wE_cmp2, wE_isN, wE_notN, wE_isB, wE_not, wE_and, wE_or, wE_ite, wE_tup, wE_lst, wE_dic, wE_call, wE_make, wE_meth, wE_fld, wE_sub, wE_slice, wE_bi, wE_vi, wE_bm, wE_isi, wE_lc, wE_lck, eg, es, Option.some.injEq, exists_eq_left', Lit.val, if_true]
          refine bsub ?_
          rw [show (((e + 1 : Nat) : Int) - 1) = (e : Int) from by omega]
          refine call_use (lift_to (k := k + e + 3) (by omega) (ih e (by omega) k S' a3 (hT.fm a4) (a4.get op hO) (a4.get hp hH) (a4.get sp hs))) ?_
          rintro v S6 ⟨kv, t6, f6⟩
          refine ⟨by rw [sizeLine_eq]; omega, by simp [a1], fun u hu => ?_, t6, a4.trans f6⟩
          rcases List.mem_append.mp hu with hu | hu
          · exact a2 u hu
          · rw [List.mem_singleton.mp hu]; exact kv
        · rintro acc S' ⟨a1, a2, a3, a4⟩
          rw [rng_len] at a1
          refine ⟨trivial, ?_⟩
          simp only [s3_f_law_kind, wSs, wS, wT, wEs, wO, wPs, wC, wSrc, wE_loc, wE_lit, wE_con, wE_bin, wE_neg, wE_cmp, wE_cmp2, wE_isN, wE_notN, wE_isB, wE_not, wE_and, wE_or, wE_ite, wE_tup, wE_lst, wE_dic, wE_call, wE_make, wE_meth, wE_fld, wE_sub, wE_slice, wE_bi, wE_vi, wE_bm, wE_isi, wE_lc, wE_lck, eg, es, Option.some.injEq, exists_eq_left', Lit.val, cmpW, truth, Option.some.injEq, exists_eq_left']
          by_cases hm : 0 < m
          · rw [if_pos (by simp [hm])]
            refine ⟨by rw [sizeLine_eq]; simp, ?_⟩
            simp only [biW]
            refine ⟨acc, lst_at get_new, ?_⟩
            simp only [binW]
            have hd0 : 0 < d := by omega
            obtain ⟨e, rfl⟩ : ∃ e, d = e + 1 := ⟨d - 1, by omega⟩
            exact ⟨by rw [sizeLine_eq]; simp; omega, .tup a2 (by simp; omega), a3.app _, a4.trans (Fm.app _)⟩
          · rw [if_neg (by simp [hm])]
            exact ⟨.str, a3.app _, a4.trans (Fm.app _)⟩
      by_cases hd0 : 0 < d
      · rw [if_pos (by simp; omega)]
        exact s4 (.inl hd0)
      · rw [if_neg (by simp; omega)]
        by_cases hm : m = 0
        · simp only [hm, decide_true, if_true]
          subst hm
          exact s4 (.inr rfl)
        · simp only [hm, decide_false, Bool.false_eq_true, if_false]
          exact s7 _ _ _ _ _ S5 t5 f05 rfl
    · rw [if_neg (by simp [hw])]
      simp only [Bool.false_eq_true, if_false]
      exact s7 _ _ _ _ _ S4 t3 f3 rfl
  have s9 : wSs P.con P.sub (callW P (k + d + 2)) s9_f_law_kind (fun c x S' => noX c S') { nx := fun _ S' => (fun v S' => KV d v ∧ Sta p S' ∧ Fm p S S') .non S', rt := fun v S' => KV d v ∧ Sta p S' ∧ Fm p S S' } [some (.ref p), some (.ref th), some (.ref own), some (.ref hid), some (.int d), some (.int way), some (.ref hd), none, none, none, none] S4 := by
    simp only [s9_f_law_kind, wSs, wS, wT, wEs, wO, wPs, wC, wSrc, wE_loc, wE_lit, wE_con, wE_bin, wE_neg, wE_cmp, wE_cmp2, wE_isN, wE_notN, wE_isB, wE_not, wE_and, wE_or, wE_ite, wE_tup, wE_lst, wE_dic, wE_call, wE_make, wE_meth, wE_fld, wE_sub, wE_slice, wE_bi, wE_vi, wE_bm, wE_isi, wE_lc, wE_lck, eg, es, Option.some.injEq, exists_eq_left', Lit.val, cmpW, eqW_int, truth, Option.some.injEq, exists_eq_left']
    have hO4 := f3.get op hO
    by_cases hw : way = 1
    · rw [if_pos (by simp [hw])]
      refine lenW_lst (lst_at hO4) ?_
      simp only [truth, Option.some.injEq, exists_eq_left', List.length_map]
      by_cases ho : 0 < os.length
      · rw [if_pos (by simp; omega)]
        simp only [s2_f_law_kind, wSs, wS, wT, wEs, wO, wPs, wC, wSrc, wE_loc, wE_lit, wE_con, wE_bin, wE_neg, wE_cmp, wE_cmp2, wE_isN, wE_notN, wE_isB, wE_not, wE_and, wE_or, wE_ite, wE_tup, wE_lst, wE_dic, wE_call, wE_make, wE_meth, wE_fld, wE_sub, wE_slice, wE_bi, wE_vi, wE_bm, wE_isi, wE_lc, wE_lck, eg, es, Option.some.injEq, exists_eq_left', Lit.val]
        refine lenW_lst (lst_at hO4) ?_
        refine call_use (lift_to (k := k + d + 1 + 1) (by omega) (next_ok (k := k + d + 1) t3 (by simp; omega) (by simp; omega))) ?_
        rintro _ S5 ⟨⟨r, rfl, r0, r1⟩, t5, f5, _⟩
        refine at_mem (f5.get op hO4) r0 r1 fun v hv => ?_
        obtain ⟨s, _, rfl⟩ := List.mem_map.mp hv
        exact ⟨.str, t5, f3.trans f5⟩
      · rw [if_neg (by have : os.length = 0 := by omega
                       simp [this])]
        exact s8
    · rw [if_neg (by simp [hw])]
      simp only [Bool.false_eq_true, if_false]
      exact s8
  simp only [s10_f_law_kind, wSs, wS, wT, wEs, wO, wPs, wC, wSrc, wE_loc, wE_lit, wE_con, wE_bin, wE_neg, wE_cmp, wE_cmp2, wE_isN, wE_notN, wE_isB, wE_not, wE_and, wE_or, wE_ite, wE_tup, wE_lst, wE_dic, wE_call, wE_make, wE_meth, wE_fld, wE_sub, wE_slice, wE_bi, wE_vi, wE_bm, wE_isi, wE_lc, wE_lck, eg, es, Option.some.injEq, exists_eq_left', Lit.val, cmpW, eqW_int, truth, Option.some.injEq, exists_eq_left']
  by_cases hw : way = 0
  · rw [if_pos (by simp [hw])]
    by_cases hd0 : 0 < d
    · rw [if_pos (by simp; omega)]
      obtain ⟨e, rfl⟩ : ∃ e, d = e + 1 := ⟨d - 1, by omega⟩
      simp only [s1_f_law_kind, wSs, wS, wT, wEs, wO, wPs, wC, wSrc, wE_loc, wE_lit, wE_con, wE_bin, wE_neg, wE_cmp, wE_cmp2, wE_isN, wE_notN, wE_isB, wE_not, wE_and, wE_or, wE_ite, wE_tup, wE_lst, wE_dic, wE_call, wE_make, wE_meth, wE_fld, wE_sub, wE_slice, wE_bi, wE_vi, wE_bm, wE_isi, wE_lc, wE_lck, eg, es, Option.some.injEq, exists_eq_left', Lit.val]
      refine bsub ?_
      rw [show (((e + 1 : Nat) : Int) - 1) = (e : Int) from by omega]
      refine call_use (lift_to (k := k + e + 3) (by omega) (ih e (by omega) k S4 t3 (hT.fm f3) (f3.get op hO) (f3.get hp hH) (f3.get sp hs))) ?_
      rintro v S5 ⟨kv, t5, f5⟩
      have f05 := f3.trans f5
      refine bsub ?_
      rw [show (((e + 1 : Nat) : Int) - 1) = (e : Int) from by omega]
      refine call_use (lift_to (k := k + e + 3) (by omega) (ih e (by omega) k S5 t5 (hT.fm f05) (f05.get op hO) (f05.get hp hH) (f05.get sp hs))) ?_
      rintro v2 S6 ⟨kv2, t6, f6⟩
      refine ⟨by rw [sizeLine_eq]; simp, .tup (fun u hu => ?_) (by simp), t6, f05.trans f6⟩
      simp only [List.mem_cons, List.not_mem_nil, or_false] at hu
      rcases hu with rfl | rfl
      · exact kv
      · exact kv2
    · rw [if_neg (by simp; omega)]
      exact s9
  · rw [if_neg (by simp [hw])]
    simp only [Bool.false_eq_true, if_false]
    exact s9
end K14

set_option maxHeartbeats 1000000
namespace K14
open Mi PySem
open Cd (Same)
structure Row where
  (rc : Bool) (name : String) (own : List String) (items : List (String × List Val))
def itV (it : String × List Val) : Val := .tup (.str it.1 :: it.2)
def srt (rc : Bool) : String := if rc then "record" else "kind"
def Row.val (r : Row) : Val := .tup ([.str (srt r.rc), .str r.name, .tup (r.own.map .str)] ++ r.items.map itV)
def ItOk (rc : Bool) (it : String × List Val) : Prop := (∀ v ∈ it.2, KV 2 v) ∧ it.2.length ≤ 4 ∧ (rc = true → it.2.length = 1)
structure Row.ok (r : Row) : Prop where
  own : r.own.length ≤ 3
  len : r.items.length ≤ 6
  its : ∀ it ∈ r.items, ItOk r.rc it
def F2 (p q : Nat) (S S' : Hm) : Prop := S.length ≤ S'.length ∧ ∀ n, n < S.length → n ≠ p → n ≠ q → S'[n]? = S[n]?
theorem F2.refl {p q : Nat} {S : Hm} : F2 p q S S := ⟨Nat.le_refl _, fun _ _ _ _ => rfl⟩
theorem F2.fm {p q : Nat} {S S1 S2 : Hm} (a : F2 p q S S1) (b : Fm p S1 S2) : F2 p q S S2 := ⟨Nat.le_trans a.1 b.1, fun n h h1 h2 => (b.2 n (Nat.lt_of_lt_of_le h a.1) h1).trans (a.2 n h h1 h2)⟩
theorem F2.get {p q : Nat} {S S1 : Hm} (a : F2 p q S S1) {n : Nat} {o : Ob} (h1 : n ≠ p) (h2 : n ≠ q) (h : S[n]? = some o) : S1[n]? = some o := (a.2 n (lt_get h) h1 h2).trans h
theorem Th.f2 {p q th so ki re fa pa fd hl : Nat} {part face h1 h2 : String} {S S' : Hm} (h : Th p th so ki re fa pa fd hl part face h1 h2 S) (f : F2 p q S S') (nq : th ≠ q ∧ fa ≠ q ∧ fd ≠ q ∧ hl ≠ q ∧ pa ≠ q) : Th p th so ki re fa pa fd hl part face h1 h2 S' :=
  ⟨f.get h.np.1 nq.1 h.eth, f.get h.np.2.1 nq.2.1 h.efa, f.get h.np.2.2.1 nq.2.2.1 h.efd, f.get h.np.2.2.2.1 nq.2.2.2.1 h.ehl, f.get h.np.2.2.2.2 nq.2.2.2.2 h.epa, h.np, h.ln⟩
theorem Sta.set {p n : Nat} {S : Hm} {o : Ob} (h : Sta p S) (hn : n ≠ p) : Sta p (S.set n o) := by
  obtain ⟨x, z, h1, h2⟩ := h
  exact ⟨x, z, by rw [get_ne (Ne.symm hn)]; exact h1, h2⟩
theorem pick2 {α : Type} {f : α → Val} {x y : α} {b : Bool} {S : Hm} {Q : Post} {n : Nat} (h : S[n]? = some (.lst [f x, f y])) (hq : Q (f (if b then y else x)) S) : biW .int [.bl b] S fun v S2 => subW (.ref n) v S2 Q := by
  simp only [biW]
  cases b with
  | true => exact subW_lst (lst_at h) (v := f y) (by rfl) hq
  | false => exact subW_lst (lst_at h) (v := f x) (by rfl) hq
theorem cut_sub {α : Type} (xs : List α) (lo hi : Option Int) : (cut xs lo hi).Sublist xs := (List.take_sublist _ _).trans (List.drop_sublist _ _)
theorem cut_first {α : Type} {xs : List α} {r : Int} (h : 0 ≤ r) : (cut xs none (some r)).length ≤ r.toNat := by
  unfold cut sIx
  rw [List.length_take]
  have : ¬ r < 0 := by omega
  simp [this]
  omega
section
variable {p th so ki re fa pa fd hl : Nat} {part face h1 h2 : String} {w a g y : Nat} {sm gr an : List String}
theorem rows_ok2 {rc : Bool} {k q own pl : Nat} {name : String} {os us ws : List String} {ss : List Val} {S S0 : Hm} {x8 x9 : Option Val} {Q : Post}
    (hS : Sta p S) (hT : Th p th so ki re fa pa fd hl part face h1 h2 S) (hO : S[own]? = some (.lst (os.map .str))) (hs : S[so]? = some (.lst ss)) (hq : S[q]? = some (.lst (us.map .str))) (hW : S[w]? = some (.dic [(.inr "small", .ref a), (.inr "great", .ref g), (.inr "any", .ref y)])) (epl : pl = if rc then a else g) (hpl : S[pl]? = some (.lst (ws.map .str)))
    (eq : q = if rc then re else ki) (qp : q ≠ p) (qs : q ≠ so) (qo : q ≠ own) (qT : th ≠ q ∧ fa ≠ q ∧ fd ≠ q ∧ hl ≠ q ∧ pa ≠ q) (op : own ≠ p) (sp : so ≠ p) (wp : w ≠ p) (plp : pl ≠ p) (plq : pl ≠ q)
    (hss : ∀ x ∈ ss, IsHd x) (hsl : ss.length ≤ 20) (hol : os.length ≤ 3) (hws : WL 52 16 ws) (hul : us.length ≤ 60)
    (hQ : ∀ (its : List (String × List Val)) (S' : Hm), its.length ≤ 6 → (∀ it ∈ its, ItOk rc it) → (its.map (·.1)).Nodup → (∀ x ∈ its.map (·.1), x ∉ us) → S'[q]? = some (.lst ((us ++ its.map (·.1)).map .str)) → Sta p S' → F2 p q S S' → Q (Row.val ⟨rc, name, os, its⟩) S') :
    wSs P.con P.sub (callW P (k + 10)) s4_f_law_sort (fun c x S' => noX c S') { nx := fun _ S' => Q .non S', rt := Q } [some (.ref p), some (.ref w), some (.ref th), some (.str name), some (.ref own), some (.str (srt rc)), none, none, x8, x9, none, none, none] S := by
  simp only [s4_f_law_sort, wSs, wS, wT, wEs, wO, wPs, wC, wSrc, wE_loc, wE_lit, wE_con, wE_bin, wE_neg, wE_cmp, wE_cmp2, wE_isN, wE_notN, wE_isB, wE_not, wE_and, wE_or, wE_ite, wE_tup, wE_lst, wE_dic, wE_call, wE_make, wE_meth, wE_fld, wE_sub, wE_slice, wE_bi, wE_vi, wE_bm, wE_isi, wE_lc, wE_lck, eg, es, Option.some.injEq, exists_eq_left', Lit.val]
  refine ⟨by rw [sizeLine_eq]; simp, ?_⟩
  have esr : ∀ {S : Hm} {Q : Bool → Prop}, Q rc → eqW (.str (srt rc)) (.str "record") S Q := fun h => by
    rw [eqW_str]
    cases rc <;> exact h
  have esk : ∀ {S : Hm} {Q : Bool → Prop}, Q (!rc) → eqW (.str (srt rc)) (.str "kind") S Q := fun h => by
    rw [eqW_str]
    cases rc <;> exact h
  simp only [cmpW]
  refine esr ?_
  refine pick2 (f := Val.str) (x := "great") (y := "small") get_new ?_
  refine .inr ⟨_, .inr (if rc then "small" else "great"), .ref pl, dic_at (get_app hW), by cases rc <;> rfl, by rw [epl]; cases rc <;> rfl, ?_⟩
  obtain ⟨l1, hl1⟩ : ∃ l, l = [Ob.lst [.str "great", .str "small"]] := ⟨_, rfl⟩
  rw [← hl1]
  have t1 := hS.app l1
  have f1 : Fm p S (S ++ l1) := Fm.app l1
  generalize S ++ l1 = S1 at t1 f1
  refine ⟨by rw [sizeLine_eq]; simp, ?_⟩
  obtain ⟨rw', hrw⟩ : ∃ n, n = S1.length := ⟨_, rfl⟩
  rw [← hrw]
  have g2 : (S1 ++ [Ob.lst []])[rw']? = some (.lst []) := by rw [hrw]; exact get_new
  have t2 := t1.app [Ob.lst []]
  have f2 := f1.trans (Fm.app (p := p) [Ob.lst []])
  have l2 : (S1 ++ [Ob.lst []]).length = rw' + 1 := by simp [hrw]
  have rS : S.length ≤ rw' := by rw [hrw]; exact f1.1
  generalize S1 ++ [Ob.lst []] = S2 at g2 t2 f2 l2
  clear f1 t1 hrw
  simp only [seqOf]
  have hpl2 := f2.get plp hpl
  have hT2 := hT.fm f2
  have hq2 := f2.get qp hq
  refine ⟨_, lst_at hpl2, ?_⟩
  refine lcr_inv (callW_mono P _) (fun i acc S' => S' = S2 ∧ acc = (rest (ws.take i) us).map Val.str) ?_ ?_ ⟨rfl, by simp [rest]⟩
  · rintro i v acc S' hi ⟨rfl, rfl⟩
    rw [List.getElem?_map] at hi
    obtain ⟨x, hx, rfl⟩ := Option.map_eq_some_iff.mp hi
    have il := lt_get hx
    refine ⟨lst_at hpl2, ?_⟩
    simp only [tgW, ewipe, List.map_cons, List.map_nil, wSs, wS, wT, wEs, wO, wPs, wC, wSrc, wE_loc, wE_lit, wE_con, wE_bin, wE_neg, wE_cmp, wE_cmp2, wE_isN, wE_notN, wE_isB, wE_not, wE_and, wE_or, wE_ite, wE_tup, wE_lst, wE_dic, wE_call, wE_make, wE_meth, wE_fld, wE_sub, wE_slice, wE_bi, wE_vi, wE_bm, wE_isi, wE_lc, wE_lck, eg, es, Option.some.injEq, exists_eq_left', Lit.val]
    refine .inr ⟨_, .inr (srt rc), .ref q, dic_at hT2.eth, rfl, by rw [eq]; cases rc <;> rfl, ?_⟩
    refine notin_ok (lst_at hq2) ?_
    simp only [truth, Option.some.injEq, exists_eq_left']
    rw [rest_take hx]
    have fl := List.length_filter_le (fun w => !decide (w ∈ us)) (ws.take i)
    rw [List.length_take] at fl
    have := hws.2.2.1
    by_cases h : x ∈ us
    · rw [if_neg (by simp [h])]
      simp [h]
    · rw [if_pos (by simp [h])]
      refine ⟨by rw [sizeLine_eq, List.length_map]; unfold rest; omega, trivial, ?_⟩
      simp [h]
  rintro acc S' ⟨rfl, rfl⟩
  refine ⟨lst_at hpl2, ?_⟩
  rw [List.length_map, List.take_length]
  obtain ⟨l3, hl3⟩ : ∃ l, l = [Ob.lst ((rest ws us).map .str)] := ⟨_, rfl⟩
  have g3 : (S' ++ l3)[S'.length]? = some (.lst ((rest ws us).map .str)) := by rw [hl3]; exact get_new
  rw [← hl3]
  have t3 := t2.app l3
  have f3 := f2.trans (Fm.app (p := p) l3)
  have gr3 := get_app (l := l3) g2
  have rp : rw' ≠ p := by have := lt_get hT.eth; have := new_ne t2; obtain ⟨_, _, gg, _⟩ := hS; have := lt_get gg; omega
  have np3 : S'.length ≠ p := new_ne t2
  generalize S' ++ l3 = S3 at g3 t3 f3 gr3
  refine ⟨by rw [sizeLine_eq]; simp, ?_⟩
  refine esr ?_
  refine pick2 (f := Val.int) (x := 6) (y := 4) get_new ?_
  refine call_use (next_ok (k := k + 9) (t3.app _) (by cases rc <;> decide) (by cases rc <;> decide)) ?_
  rintro _ S4 ⟨⟨r, rfl, r0, r1⟩, t4, f4, _⟩
  have f34 := (Fm.app (p := p) (S := S3) [Ob.lst [.int 6, .int 4]]).trans f4
  have r6 : r < 6 := by cases rc <;> simp at r1 <;> omega
  have f04 := f3.trans f34
  have g4 := f34.get np3 g3
  have gr4 := f34.get rp gr3
  refine badd ?_
  simp only [Val.int.injEq, exists_eq_left', Option.some.injEq, sliceW]
  refine ⟨_, lst_at g4, ?_⟩
  rw [cut_map]
  obtain ⟨nw, hnw⟩ : ∃ nw, nw = cut (rest ws us) none (some (1 + r)) := ⟨_, rfl⟩
  rw [← hnw]
  have nsub : nw.Sublist ws := by rw [hnw]; exact (cut_sub _ _ _).trans List.filter_sublist
  have nnd : nw.Nodup := hws.1.sublist nsub
  have nlen : nw.length ≤ 6 := by
    have := cut_first (xs := rest ws us) (r := 1 + r) (by omega)
    rw [← hnw] at this
    omega
  have nus : ∀ x ∈ nw, x ∉ us := fun x hx => by
    rw [hnw] at hx
    have := (List.mem_filter.mp ((cut_sub _ _ _).subset hx)).2
    simpa using this
  refine ⟨_, lst_at get_new, ?_⟩
  have t5 := t4.app [Ob.lst (nw.map Val.str)]
  have f05 := f04.trans (Fm.app (p := p) [Ob.lst (nw.map Val.str)])
  have g5 : (S4 ++ [Ob.lst (nw.map Val.str)])[S4.length]? = some (.lst (nw.map .str)) := get_new
  have gr5 := get_app (l := [Ob.lst (nw.map Val.str)]) gr4
  have np5 : S4.length ≠ p := new_ne t4
  have nr5 : S4.length ≠ rw' := by have := lt_get gr4; omega
  have nq5 : S4.length ≠ q := by have := lt_get hq; have := f04.1; omega
  generalize S4 ++ [Ob.lst (nw.map Val.str)] = S5 at t5 f05 g5 gr5
  generalize S4.length = ln at g5 np5 nr5 nq5
  have rq : rw' ≠ q := by have := lt_get hq; omega
  have rso : rw' ≠ so := by have := lt_get hs; omega
  have row : rw' ≠ own := by have := lt_get hO; omega
  have rth : rw' ≠ th := by have := lt_get hT.eth; omega
  refine for_inv (callW_mono P _) (fun i env S' => ∃ (x8 x9 : Option Val) (its : List (String × List Val)), env = [some (.ref p), some (.ref w), some (.ref th), some (.str name), some (.ref own), some (.str (srt rc)), some (.ref pl), some (.ref rw'), x8, x9, none, none, none] ∧ its.map (·.1) = nw.take i ∧ (∀ it ∈ its, ItOk rc it) ∧ S'[rw']? = some (.lst (its.map itV)) ∧ S'[q]? = some (.lst ((us ++ nw.take i).map .str)) ∧ S'[ln]? = some (.lst (nw.map .str)) ∧ Sta p S' ∧ F2 p q S S') ?_ ?_ ⟨x8, x9, [], rfl, rfl, by simp, gr5, by simpa using f05.get qp hq, g5, t5, F2.refl.fm f05⟩
  · rintro i v env S6 hi ⟨x8, x9, its, rfl, e1, e2, e3, e4, e5, e6, e7⟩
    rw [List.getElem?_map] at hi
    obtain ⟨x, hx, rfl⟩ := Option.map_eq_some_iff.mp hi
    have il := lt_get hx
    have itl : its.length ≤ 6 := by
      have := congrArg List.length e1
      simp at this
      omega
    have hT6 := hT.f2 e7 qT
    refine ⟨lst_at e5, ?_⟩
    simp only [tgW, es, s2_f_law_sort, wSs, wS, wT, wEs, wO, wPs, wC, wSrc, wE_loc, wE_lit, wE_con, wE_bin, wE_neg, wE_cmp, wE_cmp2, wE_isN, wE_notN, wE_isB, wE_not, wE_and, wE_or, wE_ite, wE_tup, wE_lst, wE_dic, wE_call, wE_make, wE_meth, wE_fld, wE_sub, wE_slice, wE_bi, wE_vi, wE_bm, wE_isi, wE_lc, wE_lck, eg, es, Option.some.injEq, exists_eq_left', Lit.val]
    refine .inr ⟨_, .inr (srt rc), .ref q, dic_at hT6.eth, rfl, by rw [eq]; cases rc <;> rfl, ?_⟩
    simp only [bmT, bmW]
    refine ⟨⟨_, _, rfl, lst_at e4⟩, _, e4, by rw [sizeLine_eq]; simp; omega, ?_⟩
    have ql := lt_get e4
    obtain ⟨S7, hS7⟩ : ∃ S7, S7 = S6.set q (.lst ((us ++ nw.take i).map .str ++ [.str x])) := ⟨_, rfl⟩
    rw [← hS7]
    have l7 : S7.length = S6.length := by rw [hS7]; simp
    have k1 : S7[q]? = some (.lst ((us ++ nw.take (i + 1)).map .str)) := by
      rw [hS7, get_set, e4, List.take_add_one, hx]
      simp
    have k2 : S7[rw']? = some (.lst (its.map itV)) := by rw [hS7, get_ne rq]; exact e3
    have k3 : S7[ln]? = some (.lst (nw.map .str)) := by rw [hS7, get_ne nq5]; exact e5
    have k4 : Sta p S7 := by rw [hS7]; exact e6.set qp
    have k5 : F2 p q S S7 := ⟨by have := e7.1; omega, fun n hn a1 a2 => by rw [hS7, get_ne a2]; exact e7.2 n hn a1 a2⟩
    have tail : ∀ (m : Int) (S8 : Hm), 0 ≤ m → m ≤ 4 → (rc = true → m = 1) → Sta p S8 → Fm p S7 S8 → wSs P.con P.sub (callW P (k + 10)) s1_f_law_sort (fun c x S' => noX c S') (lp (fun env S' => ∃ (x8 x9 : Option Val) (its : List (String × List Val)), env = [some (.ref p), some (.ref w), some (.ref th), some (.str name), some (.ref own), some (.str (srt rc)), some (.ref pl), some (.ref rw'), x8, x9, none, none, none] ∧ its.map (·.1) = nw.take (i + 1) ∧ (∀ it ∈ its, ItOk rc it) ∧ S'[rw']? = some (.lst (its.map itV)) ∧ S'[q]? = some (.lst ((us ++ nw.take (i + 1)).map .str)) ∧ S'[ln]? = some (.lst (nw.map .str)) ∧ Sta p S' ∧ F2 p q S S') { nx := fun env' S' => wSs P.con P.sub (callW P (k + 10)) s3_f_law_sort (fun c x S' => noX c S') { nx := fun _ S' => Q .non S', rt := Q } env' S', rt := Q }) [some (.ref p), some (.ref w), some (.ref th), some (.str name), some (.ref own), some (.str (srt rc)), some (.ref pl), some (.ref rw'), some (.str x), some (.int m), none, none, none] S8 := by
      intro m S8 m0 m1 m2 t8 f8
      simp only [s1_f_law_sort, wSs, wS, wT, wEs, wO, wPs, wC, wSrc, wE_loc, wE_lit, wE_con, wE_bin, wE_neg, wE_cmp, wE_cmp2, wE_isN, wE_notN, wE_isB, wE_not, wE_and, wE_or, wE_ite, wE_tup, wE_lst, wE_dic, wE_call, wE_make, wE_meth, wE_fld, wE_sub, wE_slice, wE_bi, wE_vi, wE_bm, wE_isi, wE_lc, wE_lck, eg, es, Option.some.injEq, exists_eq_left', Lit.val, bmT]
      have k28 := f8.get rp k2
      refine ⟨⟨_, _, rfl, lst_at k28⟩, by rw [sizeLine_eq]; simp, m, rfl, ⟨by omega, by omega⟩, ?_⟩
      refine lcr_inv (callW_mono P _) (fun j acc S' => acc.length = j ∧ (∀ v ∈ acc, KV 2 v) ∧ Sta p S' ∧ Fm p S7 S') ?_ ?_ ⟨rfl, by simp, t8, f8⟩
      · rintro j v acc S9 hj ⟨b1, b2, b3, b4⟩
        have jl := lt_get hj
        rw [rng_len] at jl
        refine ⟨trivial, ?_⟩
        simp only [tgW, ewipe, List.map_cons, List.map_nil, wSs, wS, wT, wEs, wO, wPs, wC, wSrc, wE_loc, wE_lit, wE_con, wE_bin, wE_neg, wE_cmp, wE_cmp2, wE_isN, wE_notN, wE_isB, wE_not, wE_and, wE_or, wE_ite, wE_tup, wE_lst, wE_dic, wE_call, wE_make, wE_meth, wE_fld, wE_sub, wE_slice, wE_bi, wE_vi, wE_bm, wE_isi, wE_lc, wE_lck, eg, es, Option.some.injEq, exists_eq_left', Lit.val, if_true]
        refine ⟨by rw [sizeLine_eq]; simp, ?_⟩
        have b5 := k5.fm (b4.trans (Fm.app (p := p) [Ob.lst []]))
        refine call_use (lift_to (k := k + 5 + 2 + 3) (by omega) (kind_ok (hid := S9.length) op (new_ne b3) sp hss hsl (by omega) 2 (k + 5) _ (b3.app _) (hT.f2 b5 qT) (b5.get op (Ne.symm qo) hO) get_new (b5.get sp (Ne.symm qs) hs))) ?_
        rintro v S10 ⟨kv, t10, f10⟩
        refine ⟨by rw [sizeLine_eq]; omega, by simp [b1], fun u hu => ?_, t10, (b4.trans (Fm.app _)).trans f10⟩
        rcases List.mem_append.mp hu with hu | hu
        · exact b2 u hu
        · rw [List.mem_singleton.mp hu]; exact kv
      · rintro acc S9 ⟨b1, b2, b3, b4⟩
        rw [rng_len] at b1
        refine ⟨trivial, ?_⟩
        simp only [biW]
        refine ⟨acc, lst_at get_new, ?_⟩
        simp only [binW, bmW]
        have c1 := b4.get rp k2
        have c2 := b4.get qp k1
        have c3 := b4.get np5 k3
        refine ⟨by rw [sizeLine_eq]; simp; omega, _, get_app c1, by rw [sizeLine_eq]; simp; omega, ?_⟩
        have rl := lt_get c1
        refine ⟨_, _, its ++ [(x, acc)], rfl, ?_, ?_, ?_, ?_, ?_, ?_, ?_⟩
        · rw [List.map_append, e1, List.take_add_one, hx]; rfl
        · intro it hit
          rcases List.mem_append.mp hit with hit | hit
          · exact e2 it hit
          · rw [List.mem_singleton.mp hit]
            exact ⟨b2, by show acc.length ≤ 4; omega, fun z => by show acc.length = 1; have := m2 z; omega⟩
        · rw [get_set, get_app c1]
          simp [itV]
        · rw [get_ne rq.symm]; exact get_app c2
        · rw [get_ne nr5]; exact get_app c3
        · exact (b3.app _).set rp
        · refine ⟨by have := k5.1; have := b4.1; simp; omega, fun n hn a1 a2 => ?_⟩
          rw [get_ne (by omega), List.getElem?_append_left (by have := k5.1; have := b4.1; omega), b4.2 n (by have := k5.1; omega) a1]
          exact k5.2 n hn a1 a2
    simp only [cmpW]
    refine esk ?_
    simp only [truth, Option.some.injEq, exists_eq_left']
    cases hrc : rc with
    | true =>
      rw [hrc] at tail
      simp only [Bool.not_true, Bool.false_eq_true, if_false]
      exact tail 1 S7 (by decide) (by decide) (fun _ => rfl) k4 (Fm.refl _ _)
    | false =>
      rw [hrc] at tail
      simp only [Bool.not_false, if_true]
      refine call_use (next_ok (k := k + 9) k4 (by decide) (by decide)) ?_
      rintro _ S8 ⟨⟨m, rfl, m0, m1⟩, t8, f8, _⟩
      exact tail m S8 m0 (by omega) (fun z => by cases z) t8 f8
  · rintro env S6 ⟨x8, x9, its, rfl, e1, e2, e3, e4, e5, e6, e7⟩
    rw [List.length_map, List.take_length] at e1 e4
    refine ⟨lst_at e5, ?_⟩
    simp only [s3_f_law_sort, wSs, wS, wT, wEs, wO, wPs, wC, wSrc, wE_loc, wE_lit, wE_con, wE_bin, wE_neg, wE_cmp, wE_cmp2, wE_isN, wE_notN, wE_isB, wE_not, wE_and, wE_or, wE_ite, wE_tup, wE_lst, wE_dic, wE_call, wE_make, wE_meth, wE_fld, wE_sub, wE_slice, wE_bi, wE_vi, wE_bm, wE_isi, wE_lc, wE_lck, eg, es, Option.some.injEq, exists_eq_left', Lit.val]
    have hO6 := e7.get op (Ne.symm qo) hO
    have itl : its.length ≤ 6 := by
      have := congrArg List.length e1
      simp at this
      omega
    simp only [biW]
    refine ⟨_, lst_at hO6, by rw [sizeLine_eq]; simp, _, lst_at e3, ?_⟩
    simp only [binW]
    refine ⟨by rw [sizeLine_eq]; simp; omega, ?_⟩
    exact hQ its S6 itl e2 (by rw [e1]; exact nnd) (by rw [e1]; exact nus) (by rw [e1]; exact e4) e6 e7
end
end K14

set_option maxHeartbeats 1000000
namespace K14
open Mi PySem
open Cd (Same)
def sV (s : String × Int) : Val := .tup [.str s.1, .int s.2]
def stL (ws : List String) : Ob := .lst (ws.map .str)
def F4 (p so ki re : Nat) (S S' : Hm) : Prop := S.length ≤ S'.length ∧ ∀ n, n < S.length → n ≠ p → n ≠ so → n ≠ ki → n ≠ re → S'[n]? = S[n]?
theorem F4.get {p so ki re : Nat} {S S1 : Hm} (a : F4 p so ki re S S1) {n : Nat} {o : Ob} (h1 : n ≠ p) (h2 : n ≠ so) (h3 : n ≠ ki) (h4 : n ≠ re) (h : S[n]? = some o) : S1[n]? = some o := (a.2 n (lt_get h) h1 h2 h3 h4).trans h
theorem F4.trans {p so ki re : Nat} {S S1 S2 : Hm} (a : F4 p so ki re S S1) (b : F4 p so ki re S1 S2) : F4 p so ki re S S2 := ⟨Nat.le_trans a.1 b.1, fun n h h1 h2 h3 h4 => (b.2 n (Nat.lt_of_lt_of_le h a.1) h1 h2 h3 h4).trans (a.2 n h h1 h2 h3 h4)⟩
theorem F4.of {p so ki re : Nat} {S S1 : Hm} (a : Fm p S S1) : F4 p so ki re S S1 := ⟨a.1, fun n h h1 _ _ _ => a.2 n h h1⟩
theorem F4.of2 {p q so ki re : Nat} {S S1 : Hm} (a : F2 p q S S1) (h : q = ki ∨ q = re) : F4 p so ki re S S1 := ⟨a.1, fun n h' h1 _ h3 h4 => a.2 n h' h1 (by rcases h with rfl | rfl <;> assumption)⟩
theorem Sta.keep4 {p : Nat} {S S' : Hm} (h : Sta p S) (e : S'[p]? = S[p]?) : Sta p S' := by
  obtain ⟨x, z, h1, h2⟩ := h
  exact ⟨x, z, by rw [e]; exact h1, h2⟩
structure World (p th so ki re fa pa fd hl w a g y : Nat) (part face h1 h2 : String) (sm gr an : List String) (ss : List (String × Int)) (kis res : List String) (S : Hm) : Prop where
  st : Sta p S
  wd : Wd p S S w a g y sm gr an
  t : Th p th so ki re fa pa fd hl part face h1 h2 S
  s : S[so]? = some (.lst (ss.map sV))
  k : S[ki]? = some (stL kis)
  r : S[re]? = some (stL res)
  nd : [p, so, ki, re, th, fa, pa, fd, hl, w, a, g, y].Nodup
  sl : ss.length ≤ 10
  sn : ∀ s ∈ ss, 0 ≤ s.2 ∧ s.2 ≤ 3
  kl : kis.length ≤ 60
  rl : res.length ≤ 60
theorem ne_of {l : List Nat} (nd : l.Nodup) (i j : Nat) {a b : Nat} (hi : l[i]? = some a) (hj : l[j]? = some b) (h : i ≠ j) : a ≠ b := by
  obtain ⟨h1, rfl⟩ := List.getElem?_eq_some_iff.mp hi
  obtain ⟨h2, rfl⟩ := List.getElem?_eq_some_iff.mp hj
  exact fun e => h ((List.getElem_inj nd).mp e)
section
variable {p th so ki re fa pa fd hl w a g y : Nat} {part face h1 h2 : String} {sm gr an : List String} {ss : List (String × Int)} {kis res : List String}
theorem sort_ok {k : Nat} {S : Hm} (W : World p th so ki re fa pa fd hl w a g y part face h1 h2 sm gr an ss kis res S) : callW P (k + 11) (.f "_law_sort") [.ref p, .ref w, .ref th] S (fun v S' => ∃ r : Row, v = r.val ∧ r.ok ∧ r.name ∉ ss.map (·.1) ∧ (r.items.map (·.1)).Nodup ∧ (∀ x ∈ r.items.map (·.1), x ∉ (if r.rc then res else kis)) ∧ S'[so]? = some (.lst ((ss ++ [(r.name, (r.own.length : Int))]).map sV)) ∧ S'[ki]? = some (stL (if r.rc then kis else kis ++ r.items.map (·.1))) ∧ S'[re]? = some (stL (if r.rc then res ++ r.items.map (·.1) else res)) ∧ Sta p S' ∧ F4 p so ki re S S') noX := by
  obtain ⟨hS, hW, hT, hs, hk, hr, nd, sl, sn, kl, rl⟩ := W
  have so_p : so ≠ p := ne_of nd 1 0 rfl rfl (by decide)
  have ki_p : ki ≠ p := ne_of nd 2 0 rfl rfl (by decide)
  have re_p : re ≠ p := ne_of nd 3 0 rfl rfl (by decide)
  have w_p : w ≠ p := ne_of nd 9 0 rfl rfl (by decide)
  have a_p : a ≠ p := ne_of nd 10 0 rfl rfl (by decide)
  have g_p : g ≠ p := ne_of nd 11 0 rfl rfl (by decide)
  have y_p : y ≠ p := ne_of nd 12 0 rfl rfl (by decide)
  have ki_so : ki ≠ so := ne_of nd 2 1 rfl rfl (by decide)
  have re_so : re ≠ so := ne_of nd 3 1 rfl rfl (by decide)
  have w_so : w ≠ so := ne_of nd 9 1 rfl rfl (by decide)
  have a_so : a ≠ so := ne_of nd 10 1 rfl rfl (by decide)
  have g_so : g ≠ so := ne_of nd 11 1 rfl rfl (by decide)
  have re_ki : re ≠ ki := ne_of nd 3 2 rfl rfl (by decide)
  have a_re : a ≠ re := ne_of nd 10 3 rfl rfl (by decide)
  have g_ki : g ≠ ki := ne_of nd 11 2 rfl rfl (by decide)
  have tso : th ≠ so ∧ fa ≠ so ∧ fd ≠ so ∧ hl ≠ so ∧ pa ≠ so := ⟨ne_of nd 4 1 rfl rfl (by decide), ne_of nd 5 1 rfl rfl (by decide), ne_of nd 7 1 rfl rfl (by decide), ne_of nd 8 1 rfl rfl (by decide), ne_of nd 6 1 rfl rfl (by decide)⟩
  have tki : th ≠ ki ∧ fa ≠ ki ∧ fd ≠ ki ∧ hl ≠ ki ∧ pa ≠ ki := ⟨ne_of nd 4 2 rfl rfl (by decide), ne_of nd 5 2 rfl rfl (by decide), ne_of nd 7 2 rfl rfl (by decide), ne_of nd 8 2 rfl rfl (by decide), ne_of nd 6 2 rfl rfl (by decide)⟩
  have tre : th ≠ re ∧ fa ≠ re ∧ fd ≠ re ∧ hl ≠ re ∧ pa ≠ re := ⟨ne_of nd 4 3 rfl rfl (by decide), ne_of nd 5 3 rfl rfl (by decide), ne_of nd 7 3 rfl rfl (by decide), ne_of nd 8 3 rfl rfl (by decide), ne_of nd 6 3 rfl rfl (by decide)⟩
  clear nd
  refine call_open (k := k + 10) fn_f_law_sort ⟨rfl, ?_⟩
  show wSs _ _ _ s7_f_law_sort _ _ [some (.ref p), some (.ref w), some (.ref th), none, none, none, none, none, none, none, none, none, none] S
  simp only [s7_f_law_sort, wSs, wS, wT, wEs, wO, wPs, wC, wSrc, wE_loc, wE_lit, wE_con, wE_bin, wE_neg, wE_cmp, wE_cmp2, wE_isN, wE_notN, wE_isB, wE_not, wE_and, wE_or, wE_ite, wE_tup, wE_lst, wE_dic, wE_call, wE_make, wE_meth, wE_fld, wE_sub, wE_slice, wE_bi, wE_vi, wE_bm, wE_isi, wE_lc, wE_lck, eg, es, Option.some.injEq, exists_eq_left', Lit.val]
  refine .inr ⟨_, .inr "sorts", .ref so, dic_at hT.eth, rfl, rfl, ?_⟩
  simp only [seqOf]
  refine ⟨_, lst_at hs, ?_⟩
  refine lcr_inv (callW_mono P _) (fun i acc S' => S' = S ∧ acc = ((ss.take i).map (·.1)).map Val.str) ?_ ?_ ⟨rfl, by simp⟩
  · rintro i v acc S' hi ⟨rfl, rfl⟩
    rw [List.getElem?_map] at hi
    obtain ⟨x, hx, rfl⟩ := Option.map_eq_some_iff.mp hi
    have il := lt_get hx
    refine ⟨lst_at hs, ?_⟩
    simp only [tgW, ewipe, List.map_cons, List.map_nil, wSs, wS, wT, wEs, wO, wPs, wC, wSrc, wE_loc, wE_lit, wE_con, wE_bin, wE_neg, wE_cmp, wE_cmp2, wE_isN, wE_notN, wE_isB, wE_not, wE_and, wE_or, wE_ite, wE_tup, wE_lst, wE_dic, wE_call, wE_make, wE_meth, wE_fld, wE_sub, wE_slice, wE_bi, wE_vi, wE_bm, wE_isi, wE_lc, wE_lck, eg, es, Option.some.injEq, exists_eq_left', Lit.val, if_true, sV, subW]
    refine ⟨.str x.1, ix_zero, by rw [sizeLine_eq]; simp; omega, trivial, ?_⟩
    rw [List.take_add_one, hx]
    simp
  rintro acc S' ⟨rfl, rfl⟩
  refine ⟨lst_at hs, ?_⟩
  rw [List.length_map, List.take_length]
  obtain ⟨l1, hl1⟩ : ∃ l, l = [Ob.lst ((ss.map (·.1)).map Val.str)] := ⟨_, rfl⟩
  have g1 : (S' ++ l1)[S'.length]? = some (.lst ((ss.map (·.1)).map Val.str)) := by rw [hl1]; exact get_new
  rw [← hl1]
  have hsm := hW.sm
  refine call_use (lift_to (k := k + 9 + 1) (by omega) (new_ok (d := [(.inr "small", .ref a), (.inr "great", .ref g), (.inr "any", .ref y)]) (key := "small") (get_app hW.d) rfl (get_app hW.a) g1 hsm.1 (by have := hsm.2.1; simp; omega) (by have := hsm.2.2.1; omega))) ?_
  rintro _ S1 ⟨⟨name, rfl, n1, n2⟩, l2, rfl⟩
  have f1 : Fm p S' (S' ++ l1 ++ l2) := (Fm.app l1).trans (Fm.app l2)
  have t1 := (hS.app l1).app l2
  generalize S' ++ l1 ++ l2 = S1 at f1 t1
  clear g1
  simp only [s6_f_law_sort, wSs, wS, wT, wEs, wO, wPs, wC, wSrc, wE_loc, wE_lit, wE_con, wE_bin, wE_neg, wE_cmp, wE_cmp2, wE_isN, wE_notN, wE_isB, wE_not, wE_and, wE_or, wE_ite, wE_tup, wE_lst, wE_dic, wE_call, wE_make, wE_meth, wE_fld, wE_sub, wE_slice, wE_bi, wE_vi, wE_bm, wE_isi, wE_lc, wE_lck, eg, es, Option.some.injEq, exists_eq_left', Lit.val]
  refine .inr ⟨_, .inr "any", .ref y, dic_at (f1.get w_p hW.d), rfl, rfl, ?_⟩
  refine call_use (lift_to (k := k + 9 + 1) (by omega) (next_ok (k := k + 9) t1 (by decide) (by decide))) ?_
  rintro _ S2 ⟨⟨r0, rfl, r1, r2⟩, t2, f2, _⟩
  have f02 := f1.trans f2
  simp only [sliceW]
  refine ⟨_, rfl, _, lst_at (f02.get y_p hW.y), ?_⟩
  rw [cut_map]
  obtain ⟨os, hos⟩ : ∃ os, os = cut an none (some r0) := ⟨_, rfl⟩
  have osl : os.length ≤ 3 := by
    have := cut_first (xs := an) (r := r0) r1
    rw [← hos] at this
    omega
  rw [← hos]
  obtain ⟨own, hown⟩ : ∃ own, own = S2.length := ⟨_, rfl⟩
  have gO : (S2 ++ [Ob.lst (os.map Val.str)])[own]? = some (.lst (os.map .str)) := by rw [hown]; exact get_new
  have t3 := t2.app [Ob.lst (os.map Val.str)]
  have f3 := f02.trans (Fm.app (p := p) [Ob.lst (os.map Val.str)])
  have lS : S'.length ≤ own := by rw [hown]; exact f02.1
  rw [← hown]
  generalize S2 ++ [Ob.lst (os.map Val.str)] = S3 at gO t3 f3
  have lso := lt_get hs
  have lki := lt_get hk
  have lre := lt_get hr
  have lp : p < S'.length := by obtain ⟨_, _, gg, _⟩ := hS; exact lt_get gg
  simp only [s5_f_law_sort, wSs, wS, wT, wEs, wO, wPs, wC, wSrc, wE_loc, wE_lit, wE_con, wE_bin, wE_neg, wE_cmp, wE_cmp2, wE_isN, wE_notN, wE_isB, wE_not, wE_and, wE_or, wE_ite, wE_tup, wE_lst, wE_dic, wE_call, wE_make, wE_meth, wE_fld, wE_sub, wE_slice, wE_bi, wE_vi, wE_bm, wE_isi, wE_lc, wE_lck, eg, es, Option.some.injEq, exists_eq_left', Lit.val, bmT]
  have hT3 := hT.fm f3
  refine .inr ⟨_, .inr "sorts", .ref so, dic_at hT3.eth, rfl, rfl, ?_⟩
  have hs3 := f3.get so_p hs
  refine ⟨⟨_, _, rfl, lst_at hs3⟩, ?_⟩
  refine lenW_lst (lst_at gO) ⟨by rw [sizeLine_eq]; simp, ?_⟩
  simp only [bmW]
  refine ⟨_, hs3, by rw [sizeLine_eq]; simp; omega, ?_⟩
  obtain ⟨S4, hS4⟩ : ∃ S4, S4 = S3.set so (.lst (ss.map sV ++ [.tup [.str name, .int ((os.map Val.str).length : Nat)]])) := ⟨_, rfl⟩
  rw [← hS4]
  have s4 : S4[so]? = some (.lst ((ss ++ [(name, (os.length : Int))]).map sV)) := by
    rw [hS4, get_set, hs3]
    simp [sV]
  have f4 : F2 p so S' S4 := ⟨by rw [hS4]; simpa using f3.1, fun n hn a1 a2 => by rw [hS4, get_ne a2]; exact f3.2 n hn a1⟩
  have t4 : Sta p S4 := by rw [hS4]; exact t3.set so_p
  have gO4 : S4[own]? = some (.lst (os.map .str)) := by rw [hS4, get_ne (by omega)]; exact gO
  clear hS4
  refine ⟨by rw [sizeLine_eq]; simp, ?_⟩
  refine call_use (lift_to (k := k + 9 + 1) (by omega) (next_ok (k := k + 9) (t4.app _) (by decide) (by decide))) ?_
  rintro _ S5 ⟨⟨b, rfl, b0, b1⟩, t5, f5, _⟩
  have f45 := (Fm.app (p := p) (S := S4) [Ob.lst [.str "kind", .str "record"]]).trans f5
  have f05 := f4.fm f45
  obtain ⟨rc, hrc⟩ : ∃ rc, rc = decide (b = 1) := ⟨_, rfl⟩
  have gl := f5.get (new_ne t4) get_new
  have pk : ∀ Q : Post, Q (.str (srt rc)) S5 → subW (.ref S4.length) (.int b) S5 Q := fun Q hQ => by
    have : b = 0 ∨ b = 1 := by omega
    rcases this with rfl | rfl
    · exact subW_lst (lst_at gl) (v := .str "kind") (by rfl) (by rw [hrc] at hQ; exact hQ)
    · exact subW_lst (lst_at gl) (v := .str "record") (by rfl) (by rw [hrc] at hQ; exact hQ)
  refine pk _ ?_
  have hOf := f45.get (by omega) gO4
  have hsf := f45.get so_p s4
  have nSo : S'.length ≤ S5.length := f05.1
  have ownp : own ≠ p := by omega
  have sso : ∀ x ∈ (ss ++ [(name, (os.length : Int))]).map sV, IsHd x := fun x hx => by
    obtain ⟨s, hs', rfl⟩ := List.mem_map.mp hx
    rcases List.mem_append.mp hs' with hs' | hs'
    · exact ⟨s.1, s.2, rfl, sn s hs'⟩
    · rw [List.mem_singleton.mp hs']
      exact ⟨_, _, rfl, by show (0 : Int) ≤ (os.length : Int); omega, by show (os.length : Int) ≤ 3; omega⟩
  refine rows_ok2 (rc := rc) (q := if rc then re else ki) (pl := if rc then a else g) (us := if rc then res else kis) (ws := if rc then sm else gr) (S0 := S') t5 (hT.f2 f05 tso) hOf hsf ?_ (f05.get w_p w_so hW.d) rfl ?_ rfl (by split <;> assumption) (by split <;> assumption) (by split <;> omega) (by split <;> assumption) ownp so_p w_p (by split <;> assumption) (by cases rc <;> assumption) sso (by simp; omega) osl (by split; exact hW.sm; exact hW.gr) (by split <;> assumption) ?_
  · split
    · exact f05.get re_p re_so hr
    · exact f05.get ki_p ki_so hk
  · split
    · exact f05.get a_p a_so hW.a
    · exact f05.get g_p g_so hW.g
  · intro its S6 q1 q2 q3 q4 q5 q6 q7
    have fF : F4 p so ki re S' S6 := F4.trans (S1 := S5) ⟨f05.1, fun n hn a1 a2 _ _ => f05.2 n hn a1 a2⟩ (F4.of2 q7 (by cases rc; exact .inl rfl; exact .inr rfl))
    refine ⟨⟨rc, name, os, its⟩, rfl, ⟨osl, q1, q2⟩, n2, q3, q4, ?_, ?_, ?_, q6, fF⟩
    · exact q7.get so_p (by cases rc; exact ki_so.symm; exact re_so.symm) hsf
    · have hk5 := f05.get ki_p ki_so hk
      cases rc with
      | true => exact q7.get ki_p re_ki.symm hk5
      | false => exact q5
    · have hr5 := f05.get re_p re_so hr
      cases rc with
      | true => exact q5
      | false => exact q7.get re_p re_ki hr5
end
end K14

set_option maxHeartbeats 1000000
namespace K14
open Mi PySem
open Cd (Same)
def arr : List Val → Val → Val
  | [], l => l
  | k :: ks, l => .tup [.str "->", k, arr ks l]
def lastV (r : Row) : Val := if r.own = [] then .str r.name else .tup (.str r.name :: r.own.map .str)
def ownV (r : Row) : Val := .tup (r.own.map .str)
def schT (r : Row) (it : String × List Val) : Val := .tup [ownV r, arr it.2 (lastV r)]
def hd1 (it : String × List Val) : Val := it.2.headD .non
def schR (r : Row) : Val := .tup [ownV r, arr (r.items.map hd1) (lastV r)]
def schF (r : Row) (it : String × List Val) : Val := .tup [ownV r, .tup [.str "->", lastV r, hd1 it]]
theorem val_eq (r : Row) : r.val = .tup (.str (srt r.rc) :: .str r.name :: ownV r :: r.items.map itV) := rfl
theorem cut3 {a b c : Val} {xs : List Val} : cut (a :: b :: c :: xs) (some 3) none = xs := by
  unfold cut sIx
  simp
theorem cut1 {a : Val} {xs : List Val} : cut (a :: xs) (some 1) none = xs := by
  unfold cut sIx
  simp
theorem arr_drop {ks : List Val} {l : Val} {j : Nat} {x : Val} (h : ks[j]? = some x) : arr (ks.drop j) l = .tup [.str "->", x, arr (ks.drop (j + 1)) l] := by
  obtain ⟨h1, rfl⟩ := List.getElem?_eq_some_iff.mp h
  rw [List.drop_eq_getElem_cons h1, arr]
theorem arrow_for {k : Nat} {x0 : Val} {ks : List Val} {l : Val} {S : Hm} {g : Hm → Prop} (hg : g S) {Q : Post} (hq : Q (arr ks l) S) :
    forL (.nm 2) g (wSs P.con P.sub (callW P k) s1_f_arrow (fun c x S' => noX c S')) { nx := fun env' S' => wSs P.con P.sub (callW P k) s2_f_arrow (fun c x S' => noX c S') { nx := fun _ S' => Q .non S', rt := Q } env' S', rt := Q } ks.reverse [some x0, some l, none] S := by
  refine for_inv (callW_mono P _) (fun i env S' => S' = S ∧ ∃ x2, env = [some x0, some (arr (ks.drop (ks.length - i)) l), x2]) ?_ ?_ ⟨rfl, none, by simp [arr]⟩
  · rintro i v env S' hi ⟨rfl, x2, rfl⟩
    have il := lt_get hi
    rw [List.length_reverse] at il
    refine ⟨hg, ?_⟩
    simp only [tgW, es, s1_f_arrow, wSs, wS, wT, wEs, wO, wPs, wC, wSrc, wE_loc, wE_lit, wE_con, wE_bin, wE_neg, wE_cmp, wE_cmp2, wE_isN, wE_notN, wE_isB, wE_not, wE_and, wE_or, wE_ite, wE_tup, wE_lst, wE_dic, wE_call, wE_make, wE_meth, wE_fld, wE_sub, wE_slice, wE_bi, wE_vi, wE_bm, wE_isi, wE_lc, wE_lck, eg, es, Option.some.injEq, exists_eq_left', Lit.val]
    refine ⟨by rw [sizeLine_eq]; simp, trivial, some v, ?_⟩
    have hx : ks[ks.length - (i + 1)]? = some v := by
      rw [List.getElem?_reverse (by omega)] at hi
      rw [← hi]; congr 1; omega
    rw [arr_drop hx, show ks.length - (i + 1) + 1 = ks.length - i from by omega]
  · rintro env S' ⟨rfl, x2, rfl⟩
    refine ⟨hg, ?_⟩
    rw [List.length_reverse, Nat.sub_self, List.drop_zero]
    simp only [s2_f_arrow, wSs, wS, wT, wEs, wO, wPs, wC, wSrc, wE_loc, wE_lit, wE_con, wE_bin, wE_neg, wE_cmp, wE_cmp2, wE_isN, wE_notN, wE_isB, wE_not, wE_and, wE_or, wE_ite, wE_tup, wE_lst, wE_dic, wE_call, wE_make, wE_meth, wE_fld, wE_sub, wE_slice, wE_bi, wE_vi, wE_bm, wE_isi, wE_lc, wE_lck, eg, es, Option.some.injEq, exists_eq_left', Lit.val]
    exact hq
theorem arrow_t {k : Nat} {ks : List Val} {l : Val} {S : Hm} {Q : Post} {X : XPost} (hq : Q (arr ks l) S) : callW P (k + 1) (.f "arrow") [.tup ks, l] S Q X := by
  refine call_use (Q0 := fun v S' => v = arr ks l ∧ S' = S) ?_ (fun v S' h => by obtain ⟨rfl, rfl⟩ := h; exact hq)
  refine call_open fn_f_arrow ⟨rfl, ?_⟩
  show wSs _ _ _ s3_f_arrow _ _ [some (.tup ks), some l, none] S
  simp only [s3_f_arrow, wSs, wS, wT, wEs, wO, wPs, wC, wSrc, wE_loc, wE_lit, wE_con, wE_bin, wE_neg, wE_cmp, wE_cmp2, wE_isN, wE_notN, wE_isB, wE_not, wE_and, wE_or, wE_ite, wE_tup, wE_lst, wE_dic, wE_call, wE_make, wE_meth, wE_fld, wE_sub, wE_slice, wE_bi, wE_vi, wE_bm, wE_isi, wE_lc, wE_lck, eg, es, Option.some.injEq, exists_eq_left', Lit.val, ltOf]
  exact arrow_for (Q := fun v S' => v = arr ks l ∧ S' = S) trivial ⟨rfl, rfl⟩
theorem arrow_l {k n : Nat} {ks : List Val} {l : Val} {S : Hm} {Q : Post} {X : XPost} (hn : S[n]? = some (.lst ks)) (hq : Q (arr ks l) S) : callW P (k + 1) (.f "arrow") [.ref n, l] S Q X := by
  refine call_use (Q0 := fun v S' => v = arr ks l ∧ S' = S) ?_ (fun v S' h => by obtain ⟨rfl, rfl⟩ := h; exact hq)
  refine call_open fn_f_arrow ⟨rfl, ?_⟩
  show wSs _ _ _ s3_f_arrow _ _ [some (.ref n), some l, none] S
  simp only [s3_f_arrow, wSs, wS, wT, wEs, wO, wPs, wC, wSrc, wE_loc, wE_lit, wE_con, wE_bin, wE_neg, wE_cmp, wE_cmp2, wE_isN, wE_notN, wE_isB, wE_not, wE_and, wE_or, wE_ite, wE_tup, wE_lst, wE_dic, wE_call, wE_make, wE_meth, wE_fld, wE_sub, wE_slice, wE_bi, wE_vi, wE_bm, wE_isi, wE_lc, wE_lck, eg, es, Option.some.injEq, exists_eq_left', Lit.val, ltOf]
  refine ⟨_, lst_at hn, ?_⟩
  exact arrow_for (g := fun S => Hm.lst S n = some ks) (Q := fun v S' => v = arr ks l ∧ S' = S) (lst_at hn) ⟨rfl, rfl⟩
theorem whole_ok {k : Nat} {r : Row} {S : Hm} {Q : Post} {X : XPost} (ho : r.own.length ≤ 3) (hq : Q (lastV r) S) : callW P (k + 1) (.f "whole_of") [r.val] S Q X := by
  refine call_use (Q0 := fun v S' => v = lastV r ∧ S' = S) ?_ (fun v S' h => by obtain ⟨rfl, rfl⟩ := h; exact hq)
  refine call_open fn_f_whole_of ⟨rfl, ?_⟩
  show wSs _ _ _ s3_f_whole_of _ _ [some r.val, none] S
  rw [val_eq]
  simp only [s3_f_whole_of, wSs, wS, wT, wEs, wO, wPs, wC, wSrc, wE_loc, wE_lit, wE_con, wE_bin, wE_neg, wE_cmp, wE_cmp2, wE_isN, wE_notN, wE_isB, wE_not, wE_and, wE_or, wE_ite, wE_tup, wE_lst, wE_dic, wE_call, wE_make, wE_meth, wE_fld, wE_sub, wE_slice, wE_bi, wE_vi, wE_bm, wE_isi, wE_lc, wE_lck, eg, es, Option.some.injEq, exists_eq_left', Lit.val, tup2, ownV]
  simp only [biW, cmpW, eqW_int, truth, Option.some.injEq, exists_eq_left', List.length_map]
  by_cases h : r.own = []
  · rw [if_pos (by simp [h])]
    simp only [s1_f_whole_of, wSs, wS, wT, wEs, wO, wPs, wC, wSrc, wE_loc, wE_lit, wE_con, wE_bin, wE_neg, wE_cmp, wE_cmp2, wE_isN, wE_notN, wE_isB, wE_not, wE_and, wE_or, wE_ite, wE_tup, wE_lst, wE_dic, wE_call, wE_make, wE_meth, wE_fld, wE_sub, wE_slice, wE_bi, wE_vi, wE_bm, wE_isi, wE_lc, wE_lck, eg, es, Option.some.injEq, exists_eq_left', Lit.val, tup1]
    exact ⟨by unfold lastV; rw [if_pos h], trivial⟩
  · rw [if_neg (by simp [h])]
    simp only [s2_f_whole_of, wSs, wS, wT, wEs, wO, wPs, wC, wSrc, wE_loc, wE_lit, wE_con, wE_bin, wE_neg, wE_cmp, wE_cmp2, wE_isN, wE_notN, wE_isB, wE_not, wE_and, wE_or, wE_ite, wE_tup, wE_lst, wE_dic, wE_call, wE_make, wE_meth, wE_fld, wE_sub, wE_slice, wE_bi, wE_vi, wE_bm, wE_isi, wE_lc, wE_lck, eg, es, Option.some.injEq, exists_eq_left', Lit.val, tup1, tup2]
    refine ⟨by rw [sizeLine_eq]; simp, ?_⟩
    simp only [binW]
    exact ⟨by rw [sizeLine_eq]; simp; omega, by unfold lastV; rw [if_neg h]; rfl, trivial⟩
/-- the object -/
def flds (T R F K W : Nat) : List (String × Val) := [("tag_schemes", .ref T), ("record_schemes", .ref R), ("field_schemes", .ref F), ("kinds", .ref K), ("rows", .ref W)]
structure Sor (n T R F K W : Nat) (dT dR dF dK dW : List (Key × Val)) (S : Hm) : Prop where
  i : S[n]? = some (.ins "Sorts" (flds T R F K W))
  t : S[T]? = some (.dic dT)
  r : S[R]? = some (.dic dR)
  f : S[F]? = some (.dic dF)
  k : S[K]? = some (.dic dK)
  w : S[W]? = some (.dic dW)
  nd : [n, T, R, F, K, W].Nodup
def Knows (r : Row) (dT dR dF dK dW : List (Key × Val)) (S : Hm) : Prop :=
  (r.rc = false → (∀ it ∈ r.items, lookK dT (.inr it.1) = some (schT r it) ∧ lookK dK (.inr it.1) = some (.str r.name)) ∧ ∃ m, lookK dW (.inr r.name) = some (.ref m) ∧ S[m]? = some (stL (r.items.map (·.1)))) ∧
  (r.rc = true → lookK dR (.inr r.name) = some (schR r) ∧ ∀ it ∈ r.items, lookK dF (.inr it.1) = some (schF r it))
def F6 (T R F K W : Nat) (S S' : Hm) : Prop := S.length ≤ S'.length ∧ ∀ m, m < S.length → m ≠ T → m ≠ R → m ≠ F → m ≠ K → m ≠ W → S'[m]? = S[m]?
theorem F6.refl {T R F K W : Nat} {S : Hm} : F6 T R F K W S S := ⟨Nat.le_refl _, fun _ _ _ _ _ _ _ => rfl⟩
theorem F6.trans {T R F K W : Nat} {S S1 S2 : Hm} (a : F6 T R F K W S S1) (b : F6 T R F K W S1 S2) : F6 T R F K W S S2 := ⟨Nat.le_trans a.1 b.1, fun n h h1 h2 h3 h4 h5 => (b.2 n (Nat.lt_of_lt_of_le h a.1) h1 h2 h3 h4 h5).trans (a.2 n h h1 h2 h3 h4 h5)⟩
section
variable {n T R F K W : Nat} {dT dR dF dK dW : List (Key × Val)} {S : Hm}
theorem Sor.app (h : Sor n T R F K W dT dR dF dK dW S) (l : Hm) : Sor n T R F K W dT dR dF dK dW (S ++ l) := ⟨get_app h.i, get_app h.t, get_app h.r, get_app h.f, get_app h.k, get_app h.w, h.nd⟩
theorem Sor.setT (h : Sor n T R F K W dT dR dF dK dW S) {d : List (Key × Val)} : Sor n T R F K W d dR dF dK dW (S.set T (.dic d)) :=
  ⟨by rw [get_ne (ne_of h.nd 0 1 rfl rfl (by decide))]; exact h.i, by rw [get_set, h.t]; rfl, by rw [get_ne (ne_of h.nd 2 1 rfl rfl (by decide))]; exact h.r, by rw [get_ne (ne_of h.nd 3 1 rfl rfl (by decide))]; exact h.f, by rw [get_ne (ne_of h.nd 4 1 rfl rfl (by decide))]; exact h.k, by rw [get_ne (ne_of h.nd 5 1 rfl rfl (by decide))]; exact h.w, h.nd⟩
theorem Sor.setR (h : Sor n T R F K W dT dR dF dK dW S) {d : List (Key × Val)} : Sor n T R F K W dT d dF dK dW (S.set R (.dic d)) :=
  ⟨by rw [get_ne (ne_of h.nd 0 2 rfl rfl (by decide))]; exact h.i, by rw [get_ne (ne_of h.nd 1 2 rfl rfl (by decide))]; exact h.t, by rw [get_set, h.r]; rfl, by rw [get_ne (ne_of h.nd 3 2 rfl rfl (by decide))]; exact h.f, by rw [get_ne (ne_of h.nd 4 2 rfl rfl (by decide))]; exact h.k, by rw [get_ne (ne_of h.nd 5 2 rfl rfl (by decide))]; exact h.w, h.nd⟩
theorem Sor.setF (h : Sor n T R F K W dT dR dF dK dW S) {d : List (Key × Val)} : Sor n T R F K W dT dR d dK dW (S.set F (.dic d)) :=
  ⟨by rw [get_ne (ne_of h.nd 0 3 rfl rfl (by decide))]; exact h.i, by rw [get_ne (ne_of h.nd 1 3 rfl rfl (by decide))]; exact h.t, by rw [get_ne (ne_of h.nd 2 3 rfl rfl (by decide))]; exact h.r, by rw [get_set, h.f]; rfl, by rw [get_ne (ne_of h.nd 4 3 rfl rfl (by decide))]; exact h.k, by rw [get_ne (ne_of h.nd 5 3 rfl rfl (by decide))]; exact h.w, h.nd⟩
theorem Sor.setK (h : Sor n T R F K W dT dR dF dK dW S) {d : List (Key × Val)} : Sor n T R F K W dT dR dF d dW (S.set K (.dic d)) :=
  ⟨by rw [get_ne (ne_of h.nd 0 4 rfl rfl (by decide))]; exact h.i, by rw [get_ne (ne_of h.nd 1 4 rfl rfl (by decide))]; exact h.t, by rw [get_ne (ne_of h.nd 2 4 rfl rfl (by decide))]; exact h.r, by rw [get_ne (ne_of h.nd 3 4 rfl rfl (by decide))]; exact h.f, by rw [get_set, h.k]; rfl, by rw [get_ne (ne_of h.nd 5 4 rfl rfl (by decide))]; exact h.w, h.nd⟩
theorem Sor.setW (h : Sor n T R F K W dT dR dF dK dW S) {d : List (Key × Val)} : Sor n T R F K W dT dR dF dK d (S.set W (.dic d)) :=
  ⟨by rw [get_ne (ne_of h.nd 0 5 rfl rfl (by decide))]; exact h.i, by rw [get_ne (ne_of h.nd 1 5 rfl rfl (by decide))]; exact h.t, by rw [get_ne (ne_of h.nd 2 5 rfl rfl (by decide))]; exact h.r, by rw [get_ne (ne_of h.nd 3 5 rfl rfl (by decide))]; exact h.f, by rw [get_ne (ne_of h.nd 4 5 rfl rfl (by decide))]; exact h.k, by rw [get_set, h.w]; rfl, h.nd⟩
theorem F6.set {S' : Hm} (h : F6 T R F K W S S') {q : Nat} {o : Ob} (hq : q = T ∨ q = R ∨ q = F ∨ q = K ∨ q = W) : F6 T R F K W S (S'.set q o) :=
  ⟨by simpa using h.1, fun m hm h1 h2 h3 h4 h5 => by rw [get_ne (by rcases hq with rfl | rfl | rfl | rfl | rfl <;> assumption)]; exact h.2 m hm h1 h2 h3 h4 h5⟩
theorem F6.app {S' : Hm} (h : F6 T R F K W S S') (l : Hm) : F6 T R F K W S (S' ++ l) := ⟨by have := h.1; simp; omega, fun m hm h1 h2 h3 h4 h5 => by rw [List.getElem?_append_left (Nat.lt_of_lt_of_le hm h.1)]; exact h.2 m hm h1 h2 h3 h4 h5⟩
theorem put_kind_ok {k : Nat} {r : Row} (h : Sor n T R F K W dT dR dF dK dW S) (hr : r.rc = false) (ok : r.ok) (nd : (r.items.map (·.1)).Nodup) (l1 : dT.length ≤ 1000) (l2 : dK.length ≤ 1000) (l3 : dW.length ≤ 1000) {Q : Post}
    (hq : ∀ dT' dK' dW' S', Sor n T R F K W dT' dR dF dK' dW' S' → dT'.length ≤ dT.length + 6 → dK'.length ≤ dK.length + 6 → dW'.length ≤ dW.length + 1 → Knows r dT' dR dF dK' dW' S' → (∀ x, x ∉ r.items.map (·.1) → lookK dT' (.inr x) = lookK dT (.inr x) ∧ lookK dK' (.inr x) = lookK dK (.inr x)) → (∀ x, x ≠ r.name → lookK dW' (.inr x) = lookK dW (.inr x)) → F6 T R F K W S S' → Q .non S') {X : XPost} :
    callW P (k + 2) (.m "Sorts" "put_kind") [.ref n, r.val] S Q X := by
  refine call_openM (k := k + 1) fn_m_Sorts_put_kind (by decide) ⟨rfl, ?_⟩
  show wSs _ _ _ s3_m_Sorts_put_kind _ _ [some (.ref n), some r.val, none] S
  rw [val_eq, hr]
  obtain ⟨o1, o2, o3⟩ := ok
  simp only [s3_m_Sorts_put_kind, wSs, wS, wT, wEs, wO, wPs, wC, wSrc, wE_loc, wE_lit, wE_con, wE_bin, wE_neg, wE_cmp, wE_cmp2, wE_isN, wE_notN, wE_isB, wE_not, wE_and, wE_or, wE_ite, wE_tup, wE_lst, wE_dic, wE_call, wE_make, wE_meth, wE_fld, wE_sub, wE_slice, wE_bi, wE_vi, wE_bm, wE_isi, wE_lc, wE_lck, eg, es, Option.some.injEq, exists_eq_left', Lit.val, sliceW, Val.int.injEq, exists_eq_left', cut3, seqOf]
  refine lcr_inv (callW_mono P _) (fun i acc S' => S' = S ∧ acc = ((r.items.take i).map (·.1)).map Val.str) ?_ ?_ ⟨rfl, by simp⟩
  · rintro i v acc S' hi ⟨rfl, rfl⟩
    rw [List.getElem?_map] at hi
    obtain ⟨x, hx, rfl⟩ := Option.map_eq_some_iff.mp hi
    have il := lt_get hx
    refine ⟨trivial, ?_⟩
    simp only [tgW, ewipe, List.map_cons, List.map_nil, wSs, wS, wT, wEs, wO, wPs, wC, wSrc, wE_loc, wE_lit, wE_con, wE_bin, wE_neg, wE_cmp, wE_cmp2, wE_isN, wE_notN, wE_isB, wE_not, wE_and, wE_or, wE_ite, wE_tup, wE_lst, wE_dic, wE_call, wE_make, wE_meth, wE_fld, wE_sub, wE_slice, wE_bi, wE_vi, wE_bm, wE_isi, wE_lc, wE_lck, eg, es, Option.some.injEq, exists_eq_left', Lit.val, if_true, itV, subW]
    refine ⟨.str x.1, ix_zero, by rw [sizeLine_eq]; simp; omega, trivial, ?_⟩
    rw [List.take_add_one, hx]
    simp
  rintro acc S' ⟨rfl, rfl⟩
  refine ⟨trivial, ?_⟩
  rw [List.length_map, List.take_length]
  obtain ⟨m, hm⟩ : ∃ m, m = S'.length := ⟨_, rfl⟩
  have gm : (S' ++ [Ob.lst ((r.items.map (·.1)).map Val.str)])[m]? = some (stL (r.items.map (·.1))) := by rw [hm]; exact get_new
  have h1 := h.app [Ob.lst ((r.items.map (·.1)).map Val.str)]
  have f1 : F6 T R F K W S' (S' ++ [Ob.lst ((r.items.map (·.1)).map Val.str)]) := F6.refl.app _
  have mW : m ≠ W := by have := lt_get h.w; omega
  have mT : m ≠ T := by have := lt_get h.t; omega
  have mK : m ≠ K := by have := lt_get h.k; omega
  rw [← hm]
  generalize S' ++ [Ob.lst ((r.items.map (·.1)).map Val.str)] = S1 at gm h1 f1
  refine ⟨n, "Sorts", flds T R F K W, .ref W, rfl, h1.i, rfl, ?_⟩
  rw [tup1]
  refine setW_dic h1.w (q := .inr r.name) rfl (by rw [sizeLine_eq]; omega) ?_
  have h2 := h1.setW (d := putK dW (.inr r.name) (.ref m))
  have f2 := f1.set (q := W) (o := .dic (putK dW (.inr r.name) (.ref m))) (by simp)
  have g2 : (S1.set W (.dic (putK dW (.inr r.name) (.ref m))))[m]? = some (stL (r.items.map (·.1))) := by rw [get_ne mW]; exact gm
  generalize S1.set W (.dic (putK dW (.inr r.name) (.ref m))) = S2 at h2 f2 g2
  clear h1 f1 gm
  have pl := put_len (kvs := dW) (q := .inr r.name) (v := Val.ref m)
  simp only [s2_m_Sorts_put_kind, wSs, wS, wT, wEs, wO, wPs, wC, wSrc, wE_loc, wE_lit, wE_con, wE_bin, wE_neg, wE_cmp, wE_cmp2, wE_isN, wE_notN, wE_isB, wE_not, wE_and, wE_or, wE_ite, wE_tup, wE_lst, wE_dic, wE_call, wE_make, wE_meth, wE_fld, wE_sub, wE_slice, wE_bi, wE_vi, wE_bm, wE_isi, wE_lc, wE_lck, eg, es, Option.some.injEq, exists_eq_left', Lit.val, sliceW, Val.int.injEq, exists_eq_left', cut3, seqOf]
  refine for_inv (callW_mono P _) (fun i env S3 => ∃ (x2 : Option Val) (eT eK : List (Key × Val)), env = [some (.ref n), some (.tup (.str (srt false) :: .str r.name :: ownV r :: r.items.map itV)), x2] ∧ Sor n T R F K W eT dR dF eK (putK dW (.inr r.name) (.ref m)) S3 ∧ eT.length ≤ dT.length + i ∧ eK.length ≤ dK.length + i ∧ (∀ it ∈ r.items.take i, lookK eT (.inr it.1) = some (schT r it) ∧ lookK eK (.inr it.1) = some (.str r.name)) ∧ (∀ x, x ∉ (r.items.take i).map (·.1) → lookK eT (.inr x) = lookK dT (.inr x) ∧ lookK eK (.inr x) = lookK dK (.inr x)) ∧ F6 T R F K W S' S3 ∧ S3[m]? = some (stL (r.items.map (·.1)))) ?_ ?_ ⟨none, dT, dK, rfl, h2, by simp, by simp, by simp, fun x _ => ⟨rfl, rfl⟩, f2, g2⟩
  · rintro i v env S3 hi ⟨x2, eT, eK, rfl, h3, lT, lK, kn, un, f3, g3⟩
    rw [List.getElem?_map] at hi
    obtain ⟨it, hx, rfl⟩ := Option.map_eq_some_iff.mp hi
    have il := lt_get hx
    refine ⟨trivial, ?_⟩
    have nit : it.1 ∉ (r.items.take i).map (·.1) := fun z => by
      rw [List.map_take] at z
      have hx2 : (r.items.map (·.1))[i]? = some it.1 := by rw [List.getElem?_map, hx]; rfl
      obtain ⟨j, hj, ej⟩ := List.mem_take_iff_getElem.mp z
      obtain ⟨q1, q2⟩ := List.getElem?_eq_some_iff.mp hx2
      have := (List.getElem_inj nd).mp (ej.trans q2.symm)
      omega
    simp only [tgW, es, s1_m_Sorts_put_kind, wSs, wS, wT, wEs, wO, wPs, wC, wSrc, wE_loc, wE_lit, wE_con, wE_bin, wE_neg, wE_cmp, wE_cmp2, wE_isN, wE_notN, wE_isB, wE_not, wE_and, wE_or, wE_ite, wE_tup, wE_lst, wE_dic, wE_call, wE_make, wE_meth, wE_fld, wE_sub, wE_slice, wE_bi, wE_vi, wE_bm, wE_isi, wE_lc, wE_lck, eg, es, Option.some.injEq, exists_eq_left', Lit.val, itV, tup1, tup2]
    refine ⟨n, "Sorts", flds T R F K W, .ref K, rfl, h3.i, rfl, ?_⟩
    rw [show subW (.tup (.str it.1 :: it.2)) (.int 0) = fun S Q => subW (.tup (.str it.1 :: it.2)) (.int 0) S Q from rfl]
    have s0 : ∀ {S : Hm} {Q : Post}, Q (.str it.1) S → subW (.tup (.str it.1 :: it.2)) (.int 0) S Q := fun q => by
      simp only [subW]
      exact ⟨_, ix_zero, q⟩
    refine s0 ?_
    refine setW_dic h3.k (q := .inr it.1) rfl (by rw [sizeLine_eq]; omega) ?_
    have h4 := h3.setK (d := putK eK (.inr it.1) (.str r.name))
    have f4 := f3.set (q := K) (o := .dic (putK eK (.inr it.1) (.str r.name))) (by simp)
    have g4 : (S3.set K (.dic (putK eK (.inr it.1) (.str r.name))))[m]? = some (stL (r.items.map (·.1))) := by rw [get_ne mK]; exact g3
    generalize S3.set K (.dic (putK eK (.inr it.1) (.str r.name))) = S4 at h4 f4 g4
    simp only [sliceW, Val.int.injEq, exists_eq_left', cut1]
    rw [← hr, ← val_eq]
    refine whole_ok (k := k) o1 (arrow_t (k := k) ⟨by rw [sizeLine_eq]; simp, ?_⟩)
    refine ⟨n, "Sorts", flds T R F K W, .ref T, rfl, h4.i, rfl, ?_⟩
    refine s0 ?_
    refine setW_dic h4.t (q := .inr it.1) rfl (by rw [sizeLine_eq]; omega) ?_
    have p1 := put_len (kvs := eT) (q := .inr it.1) (v := .tup [ownV r, arr it.2 (lastV r)])
    have p2 := put_len (kvs := eK) (q := .inr it.1) (v := Val.str r.name)
    have tk : ∀ z, z ∈ r.items.take (i + 1) ↔ z ∈ r.items.take i ∨ z = it := fun z => by rw [List.take_add_one, hx]; simp
    refine ⟨_, putK eT (.inr it.1) (.tup [ownV r, arr it.2 (lastV r)]), putK eK (.inr it.1) (.str r.name), rfl, h4.setT, by omega, by omega, fun z hz => ?_, fun z hz => ?_, f4.set (by simp), by rw [get_ne mT]; exact g4⟩
    · rw [look_put, look_put]
      rcases (tk z).mp hz with hz | rfl
      · have : (Sum.inr z.1 : Key) ≠ .inr it.1 := fun e => nit (by rw [← Sum.inr.inj e]; exact List.mem_map_of_mem hz)
        rw [if_neg this, if_neg this]
        exact kn z hz
      · rw [if_pos rfl, if_pos rfl]
        exact ⟨rfl, rfl⟩
    · rw [look_put, look_put]
      have z1 : z ∉ (r.items.take i).map (·.1) := fun q => hz (by
        obtain ⟨u, hu, rfl⟩ := List.mem_map.mp q
        exact List.mem_map_of_mem ((tk u).mpr (.inl hu)))
      have z2 : (Sum.inr z : Key) ≠ .inr it.1 := fun e => hz (by rw [Sum.inr.inj e]; exact List.mem_map_of_mem ((tk it).mpr (.inr rfl)))
      rw [if_neg z2, if_neg z2]
      exact un z z1
  · rintro env S3 ⟨x2, eT, eK, rfl, h3, lT, lK, kn, un, f3, g3⟩
    rw [List.length_map, List.take_length] at kn un
    rw [List.length_map] at lT lK
    refine ⟨trivial, ?_⟩
    refine hq eT eK _ S3 h3 (by omega) (by omega) pl ⟨fun _ => ⟨kn, m, by rw [look_put, if_pos rfl], g3⟩, fun z => by rw [hr] at z; cases z⟩ un (fun x hx => ?_) f3
    rw [look_put, if_neg (fun e => hx (Sum.inr.inj e))]
end
end K14

set_option maxHeartbeats 1000000
namespace K14
open Mi PySem
open Cd (Same)
section
variable {n T R F K W : Nat} {dT dR dF dK dW : List (Key × Val)} {S : Hm}
theorem it_one {it : String × List Val} (h : it.2.length = 1) : itV it = .tup [.str it.1, hd1 it] := by
  obtain ⟨x, vs⟩ := it
  match vs, h with
  | [v], _ => rfl
theorem put_record_ok {k : Nat} {r : Row} (h : Sor n T R F K W dT dR dF dK dW S) (hr : r.rc = true) (ok : r.ok) (nd : (r.items.map (·.1)).Nodup) (l1 : dR.length ≤ 1000) (l2 : dF.length ≤ 1000) {Q : Post}
    (hq : ∀ dR' dF' S', Sor n T R F K W dT dR' dF' dK dW S' → dR'.length ≤ dR.length + 1 → dF'.length ≤ dF.length + 6 → Knows r dT dR' dF' dK dW S' → (∀ x, x ∉ r.items.map (·.1) → lookK dF' (.inr x) = lookK dF (.inr x)) → (∀ x, x ≠ r.name → lookK dR' (.inr x) = lookK dR (.inr x)) → F6 T R F K W S S' → Q .non S') {X : XPost} :
    callW P (k + 2) (.m "Sorts" "put_record") [.ref n, r.val] S Q X := by
  refine call_openM (k := k + 1) fn_m_Sorts_put_record (by decide) ⟨rfl, ?_⟩
  show wSs _ _ _ s4_m_Sorts_put_record _ _ [some (.ref n), some r.val, none, none, none] S
  obtain ⟨o1, o2, o3⟩ := ok
  have o4 : ∀ it ∈ r.items, itV it = .tup [.str it.1, hd1 it] := fun it hi => it_one ((o3 it hi).2.2 hr)
  rw [val_eq]
  simp only [s4_m_Sorts_put_record, wSs, wS, wT, wEs, wO, wPs, wC, wSrc, wE_loc, wE_lit, wE_con, wE_bin, wE_neg, wE_cmp, wE_cmp2, wE_isN, wE_notN, wE_isB, wE_not, wE_and, wE_or, wE_ite, wE_tup, wE_lst, wE_dic, wE_call, wE_make, wE_meth, wE_fld, wE_sub, wE_slice, wE_bi, wE_vi, wE_bm, wE_isi, wE_lc, wE_lck, eg, es, Option.some.injEq, exists_eq_left', Lit.val, sliceW, Val.int.injEq, exists_eq_left', cut3, seqOf]
  refine lcr_inv (callW_mono P _) (fun i acc S' => S' = S ∧ acc = (r.items.take i).map hd1) ?_ ?_ ⟨rfl, by simp⟩
  · rintro i v acc S' hi ⟨rfl, rfl⟩
    rw [List.getElem?_map] at hi
    obtain ⟨it, hx, rfl⟩ := Option.map_eq_some_iff.mp hi
    have il := lt_get hx
    refine ⟨trivial, ?_⟩
    rw [o4 it (List.mem_of_getElem? hx)]
    simp only [tgW, Val.tup.injEq, exists_eq_left', List.length_cons, List.length_nil, List.zip_cons_cons, List.zip_nil_right, List.foldl_cons, List.foldl_nil, true_and, ewipe, List.map_cons, List.map_nil, wSs, wS, wT, wEs, wO, wPs, wC, wSrc, wE_loc, wE_lit, wE_con, wE_bin, wE_neg, wE_cmp, wE_cmp2, wE_isN, wE_notN, wE_isB, wE_not, wE_and, wE_or, wE_ite, wE_tup, wE_lst, wE_dic, wE_call, wE_make, wE_meth, wE_fld, wE_sub, wE_slice, wE_bi, wE_vi, wE_bm, wE_isi, wE_lc, wE_lck, eg, es, Option.some.injEq, exists_eq_left', Lit.val, if_true]
    refine ⟨by rw [sizeLine_eq]; simp; omega, ?_⟩
    rw [List.take_add_one, hx]
    simp
  rintro acc S' ⟨rfl, rfl⟩
  refine ⟨trivial, ?_⟩
  rw [List.length_map, List.take_length]
  obtain ⟨m, hm⟩ : ∃ m, m = S'.length := ⟨_, rfl⟩
  have gm : (S' ++ [Ob.lst (r.items.map hd1)])[m]? = some (.lst (r.items.map hd1)) := by rw [hm]; exact get_new
  have h1 := h.app [Ob.lst (r.items.map hd1)]
  have f1 : F6 T R F K W S' (S' ++ [Ob.lst (r.items.map hd1)]) := F6.refl.app _
  rw [← hm]
  generalize S' ++ [Ob.lst (r.items.map hd1)] = S1 at gm h1 f1
  simp only [s3_m_Sorts_put_record, wSs, wS, wT, wEs, wO, wPs, wC, wSrc, wE_loc, wE_lit, wE_con, wE_bin, wE_neg, wE_cmp, wE_cmp2, wE_isN, wE_notN, wE_isB, wE_not, wE_and, wE_or, wE_ite, wE_tup, wE_lst, wE_dic, wE_call, wE_make, wE_meth, wE_fld, wE_sub, wE_slice, wE_bi, wE_vi, wE_bm, wE_isi, wE_lc, wE_lck, eg, es, Option.some.injEq, exists_eq_left', Lit.val, tup1, tup2]
  rw [← val_eq]
  refine whole_ok (k := k) o1 (arrow_l (k := k) gm ⟨by rw [sizeLine_eq]; simp, ?_⟩)
  refine ⟨n, "Sorts", flds T R F K W, .ref R, rfl, h1.i, rfl, ?_⟩
  rw [val_eq]
  refine setW_dic h1.r (q := .inr r.name) rfl (by rw [sizeLine_eq]; omega) ?_
  have h2 := h1.setR (d := putK dR (.inr r.name) (.tup [ownV r, arr (r.items.map hd1) (lastV r)]))
  have f2 := f1.set (q := R) (o := .dic (putK dR (.inr r.name) (.tup [ownV r, arr (r.items.map hd1) (lastV r)]))) (by simp)
  generalize S1.set R (.dic (putK dR (.inr r.name) (.tup [ownV r, arr (r.items.map hd1) (lastV r)]))) = S2 at h2 f2
  have pl := put_len (kvs := dR) (q := .inr r.name) (v := .tup [ownV r, arr (r.items.map hd1) (lastV r)])
  obtain ⟨dR', hdR⟩ : ∃ d, d = putK dR (.inr r.name) (.tup [ownV r, arr (r.items.map hd1) (lastV r)]) := ⟨_, rfl⟩
  have lR : lookK dR' (.inr r.name) = some (schR r) := by rw [hdR, look_put, if_pos rfl]; rfl
  have lR2 : ∀ x, x ≠ r.name → lookK dR' (.inr x) = lookK dR (.inr x) := fun x hx => by rw [hdR, look_put, if_neg (fun e => hx (Sum.inr.inj e))]
  rw [← hdR] at h2 pl
  clear h1 f1 gm hdR
  simp only [s2_m_Sorts_put_record, wSs, wS, wT, wEs, wO, wPs, wC, wSrc, wE_loc, wE_lit, wE_con, wE_bin, wE_neg, wE_cmp, wE_cmp2, wE_isN, wE_notN, wE_isB, wE_not, wE_and, wE_or, wE_ite, wE_tup, wE_lst, wE_dic, wE_call, wE_make, wE_meth, wE_fld, wE_sub, wE_slice, wE_bi, wE_vi, wE_bm, wE_isi, wE_lc, wE_lck, eg, es, Option.some.injEq, exists_eq_left', Lit.val, sliceW, Val.int.injEq, exists_eq_left', cut3, seqOf]
  refine for_inv (callW_mono P _) (fun i env S3 => ∃ (x3 x4 : Option Val) (eF : List (Key × Val)), env = [some (.ref n), some (.tup (.str (srt r.rc) :: .str r.name :: ownV r :: r.items.map itV)), some (.ref m), x3, x4] ∧ Sor n T R F K W dT dR' eF dK dW S3 ∧ eF.length ≤ dF.length + i ∧ (∀ it ∈ r.items.take i, lookK eF (.inr it.1) = some (schF r it)) ∧ (∀ x, x ∉ (r.items.take i).map (·.1) → lookK eF (.inr x) = lookK dF (.inr x)) ∧ F6 T R F K W S' S3) ?_ ?_ ⟨none, none, dF, rfl, h2, by simp, by simp, fun x _ => rfl, f2⟩
  · rintro i v env S3 hi ⟨x3, x4, eF, rfl, h3, lF, kn, un, f3⟩
    rw [List.getElem?_map] at hi
    obtain ⟨it, hx, rfl⟩ := Option.map_eq_some_iff.mp hi
    have il := lt_get hx
    refine ⟨trivial, ?_⟩
    have nit : it.1 ∉ (r.items.take i).map (·.1) := fun z => by
      rw [List.map_take] at z
      have hx2 : (r.items.map (·.1))[i]? = some it.1 := by rw [List.getElem?_map, hx]; rfl
      obtain ⟨j, hj, ej⟩ := List.mem_take_iff_getElem.mp z
      obtain ⟨q1, q2⟩ := List.getElem?_eq_some_iff.mp hx2
      have := (List.getElem_inj nd).mp (ej.trans q2.symm)
      omega
    rw [o4 it (List.mem_of_getElem? hx)]
    simp only [tgW, Val.tup.injEq, exists_eq_left', List.length_cons, List.length_nil, List.zip_cons_cons, List.zip_nil_right, List.foldl_cons, List.foldl_nil, true_and, es, s1_m_Sorts_put_record, wSs, wS, wT, wEs, wO, wPs, wC, wSrc, wE_loc, wE_lit, wE_con, wE_bin, wE_neg, wE_cmp, wE_cmp2, wE_isN, wE_notN, wE_isB, wE_not, wE_and, wE_or, wE_ite, wE_tup, wE_lst, wE_dic, wE_call, wE_make, wE_meth, wE_fld, wE_sub, wE_slice, wE_bi, wE_vi, wE_bm, wE_isi, wE_lc, wE_lck, eg, es, Option.some.injEq, exists_eq_left', Lit.val, tup1, tup2]
    rw [← val_eq]
    refine whole_ok (k := k) o1 ⟨by rw [sizeLine_eq]; simp, by rw [sizeLine_eq]; simp, ?_⟩
    refine ⟨n, "Sorts", flds T R F K W, .ref F, rfl, h3.i, rfl, ?_⟩
    refine setW_dic h3.f (q := .inr it.1) rfl (by rw [sizeLine_eq]; omega) ?_
    have p1 := put_len (kvs := eF) (q := .inr it.1) (v := schF r it)
    have tk : ∀ z, z ∈ r.items.take (i + 1) ↔ z ∈ r.items.take i ∨ z = it := fun z => by rw [List.take_add_one, hx]; simp
    refine ⟨_, _, putK eF (.inr it.1) (schF r it), rfl, h3.setF, by omega, fun z hz => ?_, fun z hz => ?_, f3.set (by simp)⟩
    · rw [look_put]
      rcases (tk z).mp hz with hz | rfl
      · have : (Sum.inr z.1 : Key) ≠ .inr it.1 := fun e => nit (by rw [← Sum.inr.inj e]; exact List.mem_map_of_mem hz)
        rw [if_neg this]
        exact kn z hz
      · rw [if_pos rfl]
    · rw [look_put]
      have z1 : z ∉ (r.items.take i).map (·.1) := fun q => hz (by
        obtain ⟨u, hu, rfl⟩ := List.mem_map.mp q
        exact List.mem_map_of_mem ((tk u).mpr (.inl hu)))
      have z2 : (Sum.inr z : Key) ≠ .inr it.1 := fun e => hz (by rw [Sum.inr.inj e]; exact List.mem_map_of_mem ((tk it).mpr (.inr rfl)))
      rw [if_neg z2]
      exact un z z1
  · rintro env S3 ⟨x3, x4, eF, rfl, h3, lF, kn, un, f3⟩
    rw [List.length_map, List.take_length] at kn un
    rw [List.length_map] at lF
    exact ⟨trivial, hq _ eF S3 h3 pl (by omega) ⟨(fun z => by rw [hr] at z; cases z), fun _ => ⟨lR, kn⟩⟩ un lR2 f3⟩
theorem Knows.keep {r : Row} {eT eR eF eK eW : List (Key × Val)} {S' : Hm} (h : Knows r dT dR dF dK dW S) (hs : Sor n T R F K W dT dR dF dK dW S) (f : F6 T R F K W S S')
    (kt : r.rc = false → ∀ x ∈ r.items.map (·.1), lookK eT (.inr x) = lookK dT (.inr x) ∧ lookK eK (.inr x) = lookK dK (.inr x)) (kw : lookK eW (.inr r.name) = lookK dW (.inr r.name)) (kr : lookK eR (.inr r.name) = lookK dR (.inr r.name)) (kf : r.rc = true → ∀ x ∈ r.items.map (·.1), lookK eF (.inr x) = lookK dF (.inr x)) : Knows r eT eR eF eK eW S' := by
  refine ⟨fun z => ?_, fun z => ?_⟩
  · obtain ⟨h1, m, h2, h3⟩ := h.1 z
    refine ⟨fun it hi => ?_, m, by rw [kw]; exact h2, ?_⟩
    · obtain ⟨a, b⟩ := kt z it.1 (List.mem_map_of_mem hi)
      rw [a, b]
      exact h1 it hi
    · have ne : ∀ {q d}, S[q]? = some (.dic d) → m ≠ q := fun e z => by subst z; rw [h3] at e; cases e
      rw [f.2 m (lt_get h3) (ne hs.t) (ne hs.r) (ne hs.f) (ne hs.k) (ne hs.w)]
      exact h3
  · obtain ⟨h1, h2⟩ := h.2 z
    refine ⟨by rw [kr]; exact h1, fun it hi => ?_⟩
    rw [kf z it.1 (List.mem_map_of_mem hi)]
    exact h2 it hi
def Dj (r r' : Row) : Prop := r.name ≠ r'.name ∧ (r.rc = r'.rc → ∀ x ∈ r.items.map (·.1), x ∉ r'.items.map (·.1))
def PEok (e : Val × Option Row) : Prop := match e.2 with
  | some r => e.1 = r.val ∧ r.ok ∧ (r.items.map (·.1)).Nodup
  | none => ∃ s xs, e.1 = .tup (.str s :: xs) ∧ s ≠ "kind" ∧ s ≠ "record"
def rowsOf (ps : List (Val × Option Row)) : List Row := ps.filterMap (·.2)
theorem init_ok {k : Nat} {S0 : Hm} {ps : List (Val × Option Row)} (hp : ∀ e ∈ ps, PEok e) (hd : (rowsOf ps).Pairwise Dj) (hl : ps.length ≤ 20) {Q : Post} {X : XPost}
    (hq : ∀ T R F K W dT dR dF dK dW S', Sor S0.length T R F K W dT dR dF dK dW S' → (∀ r ∈ rowsOf ps, Knows r dT dR dF dK dW S') → S0.length ≤ S'.length → (∀ m, m < S0.length → S'[m]? = S0[m]?) → Q .non S') :
    callW P (k + 4) (.m "Sorts" "__init__") [.ref S0.length, .tup (ps.map (·.1))] (S0 ++ [.ins "Sorts" []]) Q X := by
  refine call_openI (k := k + 2) fn_m_Sorts_init ⟨rfl, ?_⟩
  show wSs _ _ _ s5_m_Sorts_init _ _ [some (.ref S0.length), some (.tup (ps.map (·.1))), none] _
  obtain ⟨n, hn⟩ : ∃ n, n = S0.length := ⟨_, rfl⟩
  rw [← hn]
  simp only [s5_m_Sorts_init, wSs, wS, wT, wEs, wO, wPs, wC, wSrc, wE_loc, wE_lit, wE_con, wE_bin, wE_neg, wE_cmp, wE_cmp2, wE_isN, wE_notN, wE_isB, wE_not, wE_and, wE_or, wE_ite, wE_tup, wE_lst, wE_dic, wE_call, wE_make, wE_meth, wE_fld, wE_sub, wE_slice, wE_bi, wE_vi, wE_bm, wE_isi, wE_lc, wE_lck, eg, es, Option.some.injEq, exists_eq_left', Lit.val, wPs, List.foldl_nil]
  have e1 : ∀ l : Hm, (S0 ++ l).length = n + l.length := fun l => by simp [hn]
  have set1 : ∀ (a b : Ob) (l : Hm), (S0 ++ a :: l).set n b = S0 ++ b :: l := fun a b l => by rw [hn]; simp
  have get1 : ∀ (a : Ob) (l : Hm), (S0 ++ a :: l)[n]? = some a := fun a l => by rw [hn]; simp
  simp only [List.append_assoc, List.cons_append, List.nil_append, e1, List.length_cons, List.length_nil]
  refine ⟨n, _, _, rfl, get1 _ _, by simp [Mi.putF], ?_⟩
  rw [set1]
  simp only [List.append_assoc, List.cons_append, List.nil_append, e1, List.length_cons, List.length_nil]
  refine ⟨n, _, _, rfl, get1 _ _, by simp [Mi.putF], ?_⟩
  rw [set1]
  simp only [List.append_assoc, List.cons_append, List.nil_append, e1, List.length_cons, List.length_nil]
  refine ⟨n, _, _, rfl, get1 _ _, by simp [Mi.putF], ?_⟩
  rw [set1]
  simp only [List.append_assoc, List.cons_append, List.nil_append, e1, List.length_cons, List.length_nil]
  refine ⟨n, _, _, rfl, get1 _ _, by simp [Mi.putF], ?_⟩
  rw [set1]
  simp only [List.append_assoc, List.cons_append, List.nil_append, e1, List.length_cons, List.length_nil]
  refine ⟨n, _, _, rfl, get1 _ _, by simp [Mi.putF], ?_⟩
  rw [set1]
  have eF : putF "rows" (Val.ref (n + (0 + 1 + 1 + 1 + 1 + 1))) (putF "kinds" (.ref (n + (0 + 1 + 1 + 1 + 1))) (putF "field_schemes" (.ref (n + (0 + 1 + 1 + 1))) (putF "record_schemes" (.ref (n + (0 + 1 + 1))) (putF "tag_schemes" (.ref (n + (0 + 1))) [])))) = flds (n + 1) (n + 2) (n + 3) (n + 4) (n + 5) := by
    simp [putF, flds]
  rw [eF]
  have h1 : Sor n (n + 1) (n + 2) (n + 3) (n + 4) (n + 5) [] [] [] [] [] (S0 ++ [Ob.ins "Sorts" (flds (n + 1) (n + 2) (n + 3) (n + 4) (n + 5)), Ob.dic [], Ob.dic [], Ob.dic [], Ob.dic [], Ob.dic []]) := by
    refine ⟨get1 _ _, ?_, ?_, ?_, ?_, ?_, ?_⟩
    · rw [List.getElem?_append_right (by omega), hn]; simp
    · rw [List.getElem?_append_right (by omega), hn]; simp
    · rw [List.getElem?_append_right (by omega), hn]; simp
    · rw [List.getElem?_append_right (by omega), hn]; simp
    · rw [List.getElem?_append_right (by omega), hn]; simp
    · simp
  have f1 : ∀ m, m < S0.length → (S0 ++ [Ob.ins "Sorts" (flds (n + 1) (n + 2) (n + 3) (n + 4) (n + 5)), Ob.dic [], Ob.dic [], Ob.dic [], Ob.dic [], Ob.dic []])[m]? = S0[m]? := fun m hm => List.getElem?_append_left hm
  have l1 : S0.length ≤ (S0 ++ [Ob.ins "Sorts" (flds (n + 1) (n + 2) (n + 3) (n + 4) (n + 5)), Ob.dic [], Ob.dic [], Ob.dic [], Ob.dic [], Ob.dic []]).length := by simp
  generalize S0 ++ [Ob.ins "Sorts" (flds (n + 1) (n + 2) (n + 3) (n + 4) (n + 5)), Ob.dic [], Ob.dic [], Ob.dic [], Ob.dic [], Ob.dic []] = S1 at h1 f1 l1
  simp only [seqOf]
  refine for_inv (callW_mono P _) (fun i env S' => ∃ (x2 : Option Val) (dT dR dF dK dW : List (Key × Val)), env = [some (.ref n), some (.tup (ps.map (·.1))), x2] ∧ Sor n (n + 1) (n + 2) (n + 3) (n + 4) (n + 5) dT dR dF dK dW S' ∧ (dT.length ≤ 6 * i ∧ dR.length ≤ 6 * i ∧ dF.length ≤ 6 * i ∧ dK.length ≤ 6 * i ∧ dW.length ≤ 6 * i) ∧ (∀ r ∈ rowsOf (ps.take i), Knows r dT dR dF dK dW S') ∧ S0.length ≤ S'.length ∧ ∀ m, m < S0.length → S'[m]? = S0[m]?) ?_ ?_ ⟨none, _, _, _, _, _, rfl, h1, by simp, by simp [rowsOf], l1, f1⟩
  · rintro i v env S2 hi ⟨x2, dT, dR, dF, dK, dW, rfl, h2, ⟨b1, b2, b3, b4, b5⟩, kn, l2, f2⟩
    rw [List.getElem?_map] at hi
    obtain ⟨e, hx, rfl⟩ := Option.map_eq_some_iff.mp hi
    have il := lt_get hx
    have eok := hp e (List.mem_of_getElem? hx)
    refine ⟨trivial, ?_⟩
    obtain ⟨v, o⟩ := e
    have tk : rowsOf (ps.take (i + 1)) = rowsOf (ps.take i) ++ o.toList := by
      unfold rowsOf
      rw [List.take_add_one, hx, List.filterMap_append]
      cases o <;> rfl
    have s0 : ∀ {a : Val} {xs : List Val} {S : Hm} {Q : Post}, Q a S → subW (.tup (a :: xs)) (.int 0) S Q := fun q => by
      simp only [subW]
      exact ⟨_, ix_zero, q⟩
    cases o with
    | none =>
      obtain ⟨s, xs, ev, ne1, ne2⟩ := eok
      simp only at ev
      subst ev
      simp only [tgW, es, s4_m_Sorts_init, wSs, wS, wT, wEs, wO, wPs, wC, wSrc, wE_loc, wE_lit, wE_con, wE_bin, wE_neg, wE_cmp, wE_cmp2, wE_isN, wE_notN, wE_isB, wE_not, wE_and, wE_or, wE_ite, wE_tup, wE_lst, wE_dic, wE_call, wE_make, wE_meth, wE_fld, wE_sub, wE_slice, wE_bi, wE_vi, wE_bm, wE_isi, wE_lc, wE_lck, eg, es, Option.some.injEq, exists_eq_left', Lit.val]
      refine s0 ?_
      simp only [cmpW, eqW_str, truth, Option.some.injEq, exists_eq_left']
      rw [if_neg (by simp [ne1])]
      simp only [s3_m_Sorts_init, wSs, wS, wT, wEs, wO, wPs, wC, wSrc, wE_loc, wE_lit, wE_con, wE_bin, wE_neg, wE_cmp, wE_cmp2, wE_isN, wE_notN, wE_isB, wE_not, wE_and, wE_or, wE_ite, wE_tup, wE_lst, wE_dic, wE_call, wE_make, wE_meth, wE_fld, wE_sub, wE_slice, wE_bi, wE_vi, wE_bm, wE_isi, wE_lc, wE_lck, eg, es, Option.some.injEq, exists_eq_left', Lit.val]
      refine s0 ?_
      simp only [cmpW, eqW_str, truth, Option.some.injEq, exists_eq_left']
      rw [if_neg (by simp [ne2])]
      refine ⟨_, dT, dR, dF, dK, dW, rfl, h2, ⟨by omega, by omega, by omega, by omega, by omega⟩, ?_, l2, f2⟩
      rw [tk]
      simpa using kn
    | some r =>
      obtain ⟨ev, ok, nd⟩ := eok
      simp only at ev
      subst ev
      have dj : ∀ r' ∈ rowsOf (ps.take i), Dj r' r := fun r' hr' => by
        have e2 : rowsOf ps = rowsOf (ps.take i) ++ r :: rowsOf (ps.drop (i + 1)) := by
          conv => lhs; rw [← List.take_append_drop i ps]
          unfold rowsOf
          obtain ⟨q1, q2⟩ := List.getElem?_eq_some_iff.mp hx
          rw [List.filterMap_append, List.drop_eq_getElem_cons q1, q2]
          rfl
        rw [e2] at hd
        exact (List.pairwise_append.mp hd).2.2 r' hr' r List.mem_cons_self
      have fix : ∀ (S3 : Hm), F6 (n + 1) (n + 2) (n + 3) (n + 4) (n + 5) S2 S3 → S0.length ≤ S3.length ∧ ∀ m, m < S0.length → S3[m]? = S0[m]? := fun S3 f3 => ⟨Nat.le_trans l2 f3.1, fun m hm => by rw [f3.2 m (by omega) (by omega) (by omega) (by omega) (by omega) (by omega)]; exact f2 m hm⟩
      have m0 : ("Sorts" : String) = "Sorts" := rfl
      have sv : ∀ {S : Hm} {Q : Post}, Q (.str (srt r.rc)) S → subW r.val (.int 0) S Q := fun q => s0 q
      simp only [tgW, es, s4_m_Sorts_init, wSs, wS, wT, wEs, wO, wPs, wC, wSrc, wE_loc, wE_lit, wE_con, wE_bin, wE_neg, wE_cmp, wE_cmp2, wE_isN, wE_notN, wE_isB, wE_not, wE_and, wE_or, wE_ite, wE_tup, wE_lst, wE_dic, wE_call, wE_make, wE_meth, wE_fld, wE_sub, wE_slice, wE_bi, wE_vi, wE_bm, wE_isi, wE_lc, wE_lck, eg, es, Option.some.injEq, exists_eq_left', Lit.val]
      refine sv ?_
      simp only [cmpW, eqW_str, truth, Option.some.injEq, exists_eq_left']
      cases hrc : r.rc with
      | false =>
        rw [if_pos (by simp [srt])]
        simp only [s1_m_Sorts_init, wSs, wS, wT, wEs, wO, wPs, wC, wSrc, wE_loc, wE_lit, wE_con, wE_bin, wE_neg, wE_cmp, wE_cmp2, wE_isN, wE_notN, wE_isB, wE_not, wE_and, wE_or, wE_ite, wE_tup, wE_lst, wE_dic, wE_call, wE_make, wE_meth, wE_fld, wE_sub, wE_slice, wE_bi, wE_vi, wE_bm, wE_isi, wE_lc, wE_lck, eg, es, Option.some.injEq, exists_eq_left', Lit.val]
        refine ⟨n, _, rfl, h2.i, rfl, ?_⟩
        refine put_kind_ok (k := k) h2 hrc ok nd (by omega) (by omega) (by omega) fun eT eK eW S3 h3 c1 c2 c3 c4 c5 c6 c7 => ?_
        refine ⟨_, eT, dR, dF, eK, eW, rfl, h3, ⟨by omega, by omega, by omega, by omega, by omega⟩, fun r' hr' => ?_, fix S3 c7⟩
        rw [tk] at hr'
        rcases List.mem_append.mp hr' with hr' | hr'
        · obtain ⟨d1, d2⟩ := dj r' hr'
          exact (kn r' hr').keep h2 c7 (fun z x hx => c5 x (d2 (z.trans hrc.symm) x hx)) (c6 _ d1) rfl (fun _ _ _ => rfl)
        · have : r' = r := by simpa using hr'
          subst this
          exact c4
      | true =>
        rw [if_neg (by simp [srt])]
        simp only [s3_m_Sorts_init, wSs, wS, wT, wEs, wO, wPs, wC, wSrc, wE_loc, wE_lit, wE_con, wE_bin, wE_neg, wE_cmp, wE_cmp2, wE_isN, wE_notN, wE_isB, wE_not, wE_and, wE_or, wE_ite, wE_tup, wE_lst, wE_dic, wE_call, wE_make, wE_meth, wE_fld, wE_sub, wE_slice, wE_bi, wE_vi, wE_bm, wE_isi, wE_lc, wE_lck, eg, es, Option.some.injEq, exists_eq_left', Lit.val]
        refine sv ?_
        simp only [cmpW, eqW_str, truth, Option.some.injEq, exists_eq_left']
        rw [if_pos (by simp [srt, hrc])]
        simp only [s2_m_Sorts_init, wSs, wS, wT, wEs, wO, wPs, wC, wSrc, wE_loc, wE_lit, wE_con, wE_bin, wE_neg, wE_cmp, wE_cmp2, wE_isN, wE_notN, wE_isB, wE_not, wE_and, wE_or, wE_ite, wE_tup, wE_lst, wE_dic, wE_call, wE_make, wE_meth, wE_fld, wE_sub, wE_slice, wE_bi, wE_vi, wE_bm, wE_isi, wE_lc, wE_lck, eg, es, Option.some.injEq, exists_eq_left', Lit.val]
        refine ⟨n, _, rfl, h2.i, rfl, ?_⟩
        refine put_record_ok (k := k) h2 hrc ok nd (by omega) (by omega) fun eR eF S3 h3 c1 c2 c4 c5 c6 c7 => ?_
        refine ⟨_, dT, eR, eF, dK, dW, rfl, h3, ⟨by omega, by omega, by omega, by omega, by omega⟩, fun r' hr' => ?_, fix S3 c7⟩
        rw [tk] at hr'
        rcases List.mem_append.mp hr' with hr' | hr'
        · obtain ⟨d1, d2⟩ := dj r' hr'
          exact (kn r' hr').keep h2 c7 (fun _ _ _ => ⟨rfl, rfl⟩) rfl (c6 _ d1) (fun z x hx => c5 x (d2 (z.trans hrc.symm) x hx))
        · have : r' = r := by simpa using hr'
          subst this
          exact c4
  · rintro env S2 ⟨x2, dT, dR, dF, dK, dW, rfl, h2, ⟨b1, b2, b3, b4, b5⟩, kn, l2, f2⟩
    refine ⟨trivial, ?_⟩
    rw [List.length_map, List.take_length] at kn
    exact hq _ _ _ _ _ dT dR dF dK dW S2 (by rw [← hn]; exact h2) kn l2 f2
end
end K14

set_option maxHeartbeats 1000000
namespace K14
open Mi PySem
open Cd (Same)
section
variable {n T R F K W : Nat} {dT dR dF dK dW : List (Key × Val)} {S : Hm} {Q : Post} {X : XPost} {k : Nat} {x : String} {v : Val}
theorem m_tag (h : Sor n T R F K W dT dR dF dK dW S) (hx : lookK dT (.inr x) = some v) (hq : Q v S) : callW P (k + 1) (.m "Sorts" "tag") [.ref n, .str x] S Q X := by
  refine call_openM fn_m_Sorts_tag (by decide) ⟨rfl, ?_⟩
  show wSs _ _ _ s1_m_Sorts_tag _ _ [some (.ref n), some (.str x)] S
  simp only [s1_m_Sorts_tag, wSs, wS, wT, wEs, wO, wPs, wC, wSrc, wE_loc, wE_lit, wE_con, wE_bin, wE_neg, wE_cmp, wE_cmp2, wE_isN, wE_notN, wE_isB, wE_not, wE_and, wE_or, wE_ite, wE_tup, wE_lst, wE_dic, wE_call, wE_make, wE_meth, wE_fld, wE_sub, wE_slice, wE_bi, wE_vi, wE_bm, wE_isi, wE_lc, wE_lck, eg, es, Option.some.injEq, exists_eq_left', Lit.val]
  exact ⟨n, "Sorts", flds T R F K W, .ref T, rfl, h.i, rfl, .inr ⟨_, .inr x, v, dic_at h.t, rfl, hx, hq⟩⟩
theorem m_record (h : Sor n T R F K W dT dR dF dK dW S) (hx : lookK dR (.inr x) = some v) (hq : Q v S) : callW P (k + 1) (.m "Sorts" "record") [.ref n, .str x] S Q X := by
  refine call_openM fn_m_Sorts_record (by decide) ⟨rfl, ?_⟩
  show wSs _ _ _ s1_m_Sorts_record _ _ [some (.ref n), some (.str x)] S
  simp only [s1_m_Sorts_record, wSs, wS, wT, wEs, wO, wPs, wC, wSrc, wE_loc, wE_lit, wE_con, wE_bin, wE_neg, wE_cmp, wE_cmp2, wE_isN, wE_notN, wE_isB, wE_not, wE_and, wE_or, wE_ite, wE_tup, wE_lst, wE_dic, wE_call, wE_make, wE_meth, wE_fld, wE_sub, wE_slice, wE_bi, wE_vi, wE_bm, wE_isi, wE_lc, wE_lck, eg, es, Option.some.injEq, exists_eq_left', Lit.val]
  exact ⟨n, "Sorts", flds T R F K W, .ref R, rfl, h.i, rfl, .inr ⟨_, .inr x, v, dic_at h.r, rfl, hx, hq⟩⟩
theorem m_field (h : Sor n T R F K W dT dR dF dK dW S) (hx : lookK dF (.inr x) = some v) (hq : Q v S) : callW P (k + 1) (.m "Sorts" "field") [.ref n, .str x] S Q X := by
  refine call_openM fn_m_Sorts_field (by decide) ⟨rfl, ?_⟩
  show wSs _ _ _ s1_m_Sorts_field _ _ [some (.ref n), some (.str x)] S
  simp only [s1_m_Sorts_field, wSs, wS, wT, wEs, wO, wPs, wC, wSrc, wE_loc, wE_lit, wE_con, wE_bin, wE_neg, wE_cmp, wE_cmp2, wE_isN, wE_notN, wE_isB, wE_not, wE_and, wE_or, wE_ite, wE_tup, wE_lst, wE_dic, wE_call, wE_make, wE_meth, wE_fld, wE_sub, wE_slice, wE_bi, wE_vi, wE_bm, wE_isi, wE_lc, wE_lck, eg, es, Option.some.injEq, exists_eq_left', Lit.val]
  exact ⟨n, "Sorts", flds T R F K W, .ref F, rfl, h.i, rfl, .inr ⟨_, .inr x, v, dic_at h.f, rfl, hx, hq⟩⟩
theorem m_kind_of (h : Sor n T R F K W dT dR dF dK dW S) (hx : lookK dK (.inr x) = some v) (hq : Q v S) : callW P (k + 1) (.m "Sorts" "kind_of") [.ref n, .str x] S Q X := by
  refine call_openM fn_m_Sorts_kind_of (by decide) ⟨rfl, ?_⟩
  show wSs _ _ _ s1_m_Sorts_kind_of _ _ [some (.ref n), some (.str x)] S
  simp only [s1_m_Sorts_kind_of, wSs, wS, wT, wEs, wO, wPs, wC, wSrc, wE_loc, wE_lit, wE_con, wE_bin, wE_neg, wE_cmp, wE_cmp2, wE_isN, wE_notN, wE_isB, wE_not, wE_and, wE_or, wE_ite, wE_tup, wE_lst, wE_dic, wE_call, wE_make, wE_meth, wE_fld, wE_sub, wE_slice, wE_bi, wE_vi, wE_bm, wE_isi, wE_lc, wE_lck, eg, es, Option.some.injEq, exists_eq_left', Lit.val]
  exact ⟨n, "Sorts", flds T R F K W, .ref K, rfl, h.i, rfl, .inr ⟨_, .inr x, v, dic_at h.k, rfl, hx, hq⟩⟩
theorem m_tags {m : Nat} {xs : List Val} (h : Sor n T R F K W dT dR dF dK dW S) (hx : lookK dW (.inr x) = some (.ref m)) (hm : S[m]? = some (.lst xs)) (hq : Q (.ref S.length) (S ++ [.lst xs])) : callW P (k + 1) (.m "Sorts" "tags") [.ref n, .str x] S Q X := by
  refine call_openM fn_m_Sorts_tags (by decide) ⟨rfl, ?_⟩
  show wSs _ _ _ s1_m_Sorts_tags _ _ [some (.ref n), some (.str x)] S
  simp only [s1_m_Sorts_tags, wSs, wS, wT, wEs, wO, wPs, wC, wSrc, wE_loc, wE_lit, wE_con, wE_bin, wE_neg, wE_cmp, wE_cmp2, wE_isN, wE_notN, wE_isB, wE_not, wE_and, wE_or, wE_ite, wE_tup, wE_lst, wE_dic, wE_call, wE_make, wE_meth, wE_fld, wE_sub, wE_slice, wE_bi, wE_vi, wE_bm, wE_isi, wE_lc, wE_lck, eg, es, Option.some.injEq, exists_eq_left', Lit.val]
  refine ⟨n, "Sorts", flds T R F K W, .ref W, rfl, h.i, rfl, .inr ⟨_, .inr x, _, dic_at h.w, rfl, hx, ?_⟩⟩
  simp only [biW]
  exact ⟨xs, lst_at hm, hq⟩
theorem arr2_t {l : Val} : ∀ (ks : List Val) (k : Nat) (S : Hm), callW P (k + ks.length + 1) (.f "_law_arrow") [.tup ks, l] S (fun v S' => v = arr ks l ∧ S' = S) noX := by
  intro ks
  induction ks with
  | nil =>
    intro k S
    refine call_open (k := k + 0) fn_f_law_arrow ⟨rfl, ?_⟩
    show wSs _ _ _ s1_f_law_arrow _ _ [some (.tup []), some l] S
    simp only [s1_f_law_arrow, wSs, wS, wT, wEs, wO, wPs, wC, wSrc, wE_loc, wE_lit, wE_con, wE_bin, wE_neg, wE_cmp, wE_cmp2, wE_isN, wE_notN, wE_isB, wE_not, wE_and, wE_or, wE_ite, wE_tup, wE_lst, wE_dic, wE_call, wE_make, wE_meth, wE_fld, wE_sub, wE_slice, wE_bi, wE_vi, wE_bm, wE_isi, wE_lc, wE_lck, eg, es, Option.some.injEq, exists_eq_left', Lit.val, biW, cmpW, eqW_int, truth]
    rw [if_pos (by simp)]
    exact ⟨rfl, trivial⟩
  | cons x r ih =>
    intro k S
    refine call_open (k := k + (r.length + 1)) fn_f_law_arrow ⟨rfl, ?_⟩
    show wSs _ _ _ s1_f_law_arrow _ _ [some (.tup (x :: r)), some l] S
    simp only [s1_f_law_arrow, wSs, wS, wT, wEs, wO, wPs, wC, wSrc, wE_loc, wE_lit, wE_con, wE_bin, wE_neg, wE_cmp, wE_cmp2, wE_isN, wE_notN, wE_isB, wE_not, wE_and, wE_or, wE_ite, wE_tup, wE_lst, wE_dic, wE_call, wE_make, wE_meth, wE_fld, wE_sub, wE_slice, wE_bi, wE_vi, wE_bm, wE_isi, wE_lc, wE_lck, eg, es, Option.some.injEq, exists_eq_left', Lit.val, biW, cmpW, eqW_int, truth]
    rw [if_neg (by simp <;> omega)]
    simp only [subW, sliceW, Val.int.injEq, exists_eq_left', cut1]
    refine ⟨x, ix_zero, ?_⟩
    refine call_use (ih k S) ?_
    rintro _ S' ⟨rfl, rfl⟩
    exact ⟨by rw [sizeLine_eq]; simp, rfl, rfl⟩
theorem arr2_l {l : Val} : ∀ (ks : List Val) (k a : Nat) (S : Hm), S[a]? = some (.lst ks) → callW P (k + ks.length + 1) (.f "_law_arrow") [.ref a, l] S (fun v S' => v = arr ks l ∧ ∃ t, S' = S ++ t) noX := by
  intro ks
  induction ks with
  | nil =>
    intro k a S ha
    refine call_open (k := k + 0) fn_f_law_arrow ⟨rfl, ?_⟩
    show wSs _ _ _ s1_f_law_arrow _ _ [some (.ref a), some l] S
    simp only [s1_f_law_arrow, wSs, wS, wT, wEs, wO, wPs, wC, wSrc, wE_loc, wE_lit, wE_con, wE_bin, wE_neg, wE_cmp, wE_cmp2, wE_isN, wE_notN, wE_isB, wE_not, wE_and, wE_or, wE_ite, wE_tup, wE_lst, wE_dic, wE_call, wE_make, wE_meth, wE_fld, wE_sub, wE_slice, wE_bi, wE_vi, wE_bm, wE_isi, wE_lc, wE_lck, eg, es, Option.some.injEq, exists_eq_left', Lit.val]
    refine lenW_lst (lst_at ha) ?_
    simp only [cmpW, eqW_int, truth, Option.some.injEq, exists_eq_left']
    rw [if_pos (by simp)]
    exact ⟨rfl, [], by simp⟩
  | cons x r ih =>
    intro k a S ha
    refine call_open (k := k + (r.length + 1)) fn_f_law_arrow ⟨rfl, ?_⟩
    show wSs _ _ _ s1_f_law_arrow _ _ [some (.ref a), some l] S
    simp only [s1_f_law_arrow, wSs, wS, wT, wEs, wO, wPs, wC, wSrc, wE_loc, wE_lit, wE_con, wE_bin, wE_neg, wE_cmp, wE_cmp2, wE_isN, wE_notN, wE_isB, wE_not, wE_and, wE_or, wE_ite, wE_tup, wE_lst, wE_dic, wE_call, wE_make, wE_meth, wE_fld, wE_sub, wE_slice, wE_bi, wE_vi, wE_bm, wE_isi, wE_lc, wE_lck, eg, es, Option.some.injEq, exists_eq_left', Lit.val]
    refine lenW_lst (lst_at ha) ?_
    simp only [cmpW, eqW_int, truth, Option.some.injEq, exists_eq_left']
    rw [if_neg (by simp <;> omega)]
    refine subW_lst (lst_at ha) (v := x) ix_zero ?_
    simp only [sliceW, Val.int.injEq, exists_eq_left']
    refine ⟨_, lst_at ha, ?_⟩
    rw [cut1]
    refine call_use (ih k S.length _ get_new) ?_
    rintro _ S' ⟨rfl, t, rfl⟩
    exact ⟨by rw [sizeLine_eq]; simp, rfl, _, by rw [List.append_assoc]⟩
theorem arr_pure {l : Val} (hl : pureV 10 l = true) : ∀ ks : List Val, (∀ x ∈ ks, pureV 10 x = true) → pureV (10 + ks.length) (arr ks l) = true
  | [], _ => hl
  | x :: r, h => by
    have ih := arr_pure hl r fun y hy => h y (List.mem_cons_of_mem _ hy)
    show pureV (10 + r.length + 1) (.tup [.str "->", x, arr r l]) = true
    simp only [pureV, List.all_cons, List.all_nil, Bool.and_true, Bool.and_eq_true]
    exact ⟨trivial, pure_mono 10 _ x (by omega) (h x List.mem_cons_self), ih⟩
theorem strs_pure (ws : List String) (k : Nat) : (ws.map Val.str).all (pureV k) = true := by
  rw [List.all_eq_true]
  intro v hv
  obtain ⟨w, _, rfl⟩ := List.mem_map.mp hv
  cases k <;> rfl
theorem last_pure (r : Row) : pureV 10 (lastV r) = true := by
  unfold lastV
  split
  · rfl
  · show ((.str r.name :: r.own.map .str).all (pureV 9)) = true
    rw [List.all_cons, strs_pure]
    rfl
theorem own_pure (r : Row) (k : Nat) : pureV (k + 1) (ownV r) = true := strs_pure _ _
theorem two_pure {a b : Val} {k : Nat} (h1 : pureV k a = true) (h2 : pureV k b = true) : pureV (k + 1) (.tup [a, b]) = true := by
  simp only [pureV, List.all_cons, List.all_nil, h1, h2, Bool.and_self]
theorem schT_pure {r : Row} {it : String × List Val} (h : ItOk r.rc it) : pureV 60 (schT r it) = true := by
  have h1 := arr_pure (last_pure r) it.2 fun x hx => pure_mono 2 10 x (by omega) (h.1 x hx).pure
  have := h.2.1
  exact two_pure (k := 59) (own_pure r 58) (pure_mono _ 59 _ (by omega) h1)
theorem hd1_pure {rc : Bool} {it : String × List Val} (h : ItOk rc it) : pureV 10 (hd1 it) = true := by
  unfold hd1
  cases e : it.2 with
  | nil => rfl
  | cons v vs => exact pure_mono 2 10 v (by omega) (h.1 v (by rw [e]; exact List.mem_cons_self)).pure
theorem schR_pure {r : Row} (h : r.ok) : pureV 60 (schR r) = true := by
  have h1 := arr_pure (last_pure r) (r.items.map hd1) fun x hx => by
    obtain ⟨it, hi, rfl⟩ := List.mem_map.mp hx
    exact hd1_pure (h.its it hi)
  have := h.len
  rw [List.length_map] at h1
  exact two_pure (k := 59) (own_pure r 58) (pure_mono _ 59 _ (by omega) h1)
theorem schF_pure {r : Row} {it : String × List Val} (h : ItOk r.rc it) : pureV 60 (schF r it) = true := by
  refine two_pure (k := 59) (own_pure r 58) ?_
  show pureV (58 + 1) (.tup [.str "->", lastV r, hd1 it]) = true
  simp only [pureV, List.all_cons, List.all_nil, Bool.and_true, Bool.and_eq_true]
  exact ⟨trivial, pure_mono 10 58 _ (by omega) (last_pure r), pure_mono 10 58 _ (by omega) (hd1_pure h)⟩
theorem str_all (ws : List String) : PyData.eqvAll (ws.map fun s => PyData.str (Str.ofString s)) (ws.map fun s => PyData.str (Str.ofString s)) = true := by
  induction ws with
  | nil => simp only [List.map_nil, PyData.eqvAll]
  | cons w r ih => simp only [List.map_cons, PyData.eqvAll, PyData.eqv, ih, beq_self_eq_true, Bool.and_self]
theorem lst_eq {a b : Nat} {ws : List String} {S : Hm} {Q : Bool → Prop} (ha : S[a]? = some (.lst (ws.map .str))) (hb : S[b]? = some (.lst (ws.map .str))) (hq : Q true) : eqW (.ref a) (.ref b) S Q := by
  have e : (ws.map Val.str).mapM (dat S 59) = some (ws.map fun s => PyData.str (Str.ofString s)) := mapM_map ws fun s => rfl
  refine .inl ⟨.list (ws.map fun s => PyData.str (Str.ofString s)), .list (ws.map fun s => PyData.str (Str.ofString s)), ?_, ?_, ?_⟩
  · simp only [dat, lst_at ha, e, Option.map_some]
  · simp only [dat, lst_at hb, e, Option.map_some]
  · rw [show PyData.eqv (.list (ws.map fun s => PyData.str (Str.ofString s))) (.list (ws.map fun s => PyData.str (Str.ofString s))) = true from by simp only [PyData.eqv, str_all]]
    exact hq
def rr : Sts := .cons (.ife (.v (.cmp .Eq (.sub (.loc 1) (.lit (.int 0))) (.lit (.str "record")))) s3_f_law_row_right .nil) s11_f_law_row_right
theorem right_ok {r : Row} {k : Nat} {S : Hm} (h : Sor n T R F K W dT dR dF dK dW S) (kn : Knows r dT dR dF dK dW S) (ok : r.ok) : callW P (k + 10) (.f "_law_row_right") [.ref n, r.val] S (fun v S' => v = .bl true ∧ S.length ≤ S'.length ∧ ∀ m, m < S.length → S'[m]? = S[m]?) noX := by
  refine call_open (k := k + 9) fn_f_law_row_right ⟨rfl, ?_⟩
  show wSs _ _ _ s12_f_law_row_right _ _ [some (.ref n), some r.val, none, none, none, none, none, none] S
  obtain ⟨o1, o2, o3⟩ := ok
  have okr : r.ok := ⟨o1, o2, o3⟩
  have s0 : ∀ {a : Val} {xs : List Val} {S : Hm} {Q : Post}, Q a S → subW (.tup (a :: xs)) (.int 0) S Q := fun q => by
    simp only [subW]
    exact ⟨_, ix_zero, q⟩
  rw [val_eq]
  generalize hQ : (fun (v : Val) (S' : Hm) => v = .bl true ∧ S.length ≤ S'.length ∧ ∀ m, m < S.length → S'[m]? = S[m]?) = QQ
  have rest : wSs P.con P.sub (callW P (k + 9)) rr (fun c x S' => noX c S') { nx := fun _ S' => QQ .non S', rt := QQ } [some (.ref n), some (.tup (.str (srt r.rc) :: .str r.name :: ownV r :: r.items.map itV)), some (lastV r), none, none, none, none, none] S := by
    simp only [rr, wSs, wS, wT, wEs, wO, wPs, wC, wSrc, wE_loc, wE_lit, wE_con, wE_bin, wE_neg, wE_cmp, wE_cmp2, wE_isN, wE_notN, wE_isB, wE_not, wE_and, wE_or, wE_ite, wE_tup, wE_lst, wE_dic, wE_call, wE_make, wE_meth, wE_fld, wE_sub, wE_slice, wE_bi, wE_vi, wE_bm, wE_isi, wE_lc, wE_lck, eg, es, Option.some.injEq, exists_eq_left', Lit.val]
    refine s0 ?_
    simp only [cmpW, eqW_str, truth, Option.some.injEq, exists_eq_left']
    cases hrc : r.rc with
    | true =>
      rw [if_pos (by simp [srt])]
      obtain ⟨kr, kf⟩ := kn.2 hrc
      have o4 : ∀ it ∈ r.items, itV it = .tup [.str it.1, hd1 it] := fun it hi => it_one ((o3 it hi).2.2 hrc)
      simp only [s3_f_law_row_right, wSs, wS, wT, wEs, wO, wPs, wC, wSrc, wE_loc, wE_lit, wE_con, wE_bin, wE_neg, wE_cmp, wE_cmp2, wE_isN, wE_notN, wE_isB, wE_not, wE_and, wE_or, wE_ite, wE_tup, wE_lst, wE_dic, wE_call, wE_make, wE_meth, wE_fld, wE_sub, wE_slice, wE_bi, wE_vi, wE_bm, wE_isi, wE_lc, wE_lck, eg, es, Option.some.injEq, exists_eq_left', Lit.val, tup1, tup2]
      refine ⟨n, _, rfl, h.i, rfl, m_record h kr ?_⟩
      simp only [sliceW, Val.int.injEq, exists_eq_left', cut3, seqOf]
      refine lcr_inv (callW_mono P _) (fun i acc S' => S' = S ∧ acc = (r.items.take i).map hd1) ?_ ?_ ⟨rfl, by simp⟩
      · rintro i v acc S' hi ⟨rfl, rfl⟩
        rw [List.getElem?_map] at hi
        obtain ⟨it, hx, rfl⟩ := Option.map_eq_some_iff.mp hi
        have il := lt_get hx
        refine ⟨trivial, ?_⟩
        rw [o4 it (List.mem_of_getElem? hx)]
        simp only [tgW, Val.tup.injEq, exists_eq_left', List.length_cons, List.length_nil, List.zip_cons_cons, List.zip_nil_right, List.foldl_cons, List.foldl_nil, true_and, ewipe, List.map_cons, List.map_nil, wSs, wS, wT, wEs, wO, wPs, wC, wSrc, wE_loc, wE_lit, wE_con, wE_bin, wE_neg, wE_cmp, wE_cmp2, wE_isN, wE_notN, wE_isB, wE_not, wE_and, wE_or, wE_ite, wE_tup, wE_lst, wE_dic, wE_call, wE_make, wE_meth, wE_fld, wE_sub, wE_slice, wE_bi, wE_vi, wE_bm, wE_isi, wE_lc, wE_lck, eg, es, Option.some.injEq, exists_eq_left', Lit.val, if_true]
        refine ⟨by rw [sizeLine_eq]; simp; omega, ?_⟩
        rw [List.take_add_one, hx]
        simp
      rintro acc S' ⟨rfl, rfl⟩
      refine ⟨trivial, ?_⟩
      rw [List.length_map, List.take_length]
      refine call_use (lift_to (k := (k + 8 - r.items.length) + (r.items.map hd1).length + 1) (by simp; omega) (arr2_l (r.items.map hd1) (k + 8 - r.items.length) S'.length _ get_new)) ?_
      rintro _ S2 ⟨rfl, t, rfl⟩
      refine ⟨by rw [sizeLine_eq]; simp, same_ne (schR_pure okr) ?_⟩
      simp only [truth, Option.some.injEq, exists_eq_left', Bool.false_eq_true, if_false]
      simp only [s2_f_law_row_right, wSs, wS, wT, wEs, wO, wPs, wC, wSrc, wE_loc, wE_lit, wE_con, wE_bin, wE_neg, wE_cmp, wE_cmp2, wE_isN, wE_notN, wE_isB, wE_not, wE_and, wE_or, wE_ite, wE_tup, wE_lst, wE_dic, wE_call, wE_make, wE_meth, wE_fld, wE_sub, wE_slice, wE_bi, wE_vi, wE_bm, wE_isi, wE_lc, wE_lck, eg, es, Option.some.injEq, exists_eq_left', Lit.val, sliceW, Val.int.injEq, exists_eq_left', cut3, seqOf]
      have h2 := (h.app [Ob.lst (r.items.map hd1)]).app t
      have f2 : ∀ m, m < S'.length → (S' ++ [Ob.lst (r.items.map hd1)] ++ t)[m]? = S'[m]? := fun m hm => by
        rw [List.getElem?_append_left (by simp; omega), List.getElem?_append_left hm]
      have l2 : S'.length ≤ (S' ++ [Ob.lst (r.items.map hd1)] ++ t).length := by simp <;> omega
      generalize S' ++ [Ob.lst (r.items.map hd1)] ++ t = S2 at h2 f2 l2
      refine lcr_inv (callW_mono P _) (fun i bs S3 => bs = (List.replicate i true).map Val.bl ∧ S3 = S2) ?_ ?_ ⟨rfl, rfl⟩
      · rintro i v bs S3 hi ⟨rfl, rfl⟩
        rw [List.getElem?_map] at hi
        obtain ⟨it, hx, rfl⟩ := Option.map_eq_some_iff.mp hi
        have il := lt_get hx
        have im := List.mem_of_getElem? hx
        refine ⟨trivial, ?_⟩
        rw [o4 it im]
        simp only [tgW, Val.tup.injEq, exists_eq_left', List.length_cons, List.length_nil, List.zip_cons_cons, List.zip_nil_right, List.foldl_cons, List.foldl_nil, true_and, ewipe, List.map_cons, List.map_nil, wSs, wS, wT, wEs, wO, wPs, wC, wSrc, wE_loc, wE_lit, wE_con, wE_bin, wE_neg, wE_cmp, wE_cmp2, wE_isN, wE_notN, wE_isB, wE_not, wE_and, wE_or, wE_ite, wE_tup, wE_lst, wE_dic, wE_call, wE_make, wE_meth, wE_fld, wE_sub, wE_slice, wE_bi, wE_vi, wE_bm, wE_isi, wE_lc, wE_lck, eg, es, Option.some.injEq, exists_eq_left', Lit.val, if_true, tup2]
        refine ⟨n, _, rfl, h2.i, rfl, m_field h2 (kf it im) ⟨by rw [sizeLine_eq]; simp, by rw [sizeLine_eq]; simp, ?_⟩⟩
        simp only [cmpW]
        refine same_eq (schF_pure (o3 it im)) ⟨by rw [sizeLine_eq]; simp; omega, ?_, trivial⟩
        rw [List.replicate_succ', List.map_append]
        rfl
      · rintro bs S3 ⟨rfl, rfl⟩
        refine ⟨trivial, ?_⟩
        simp only [biW]
        refine ⟨_, lst_at get_new, ?_⟩
        rw [← hQ]
        refine ⟨by simp, by simp; omega, fun m hm => ?_⟩
        rw [List.getElem?_append_left (by omega)]
        exact f2 m hm
    | false =>
      rw [if_neg (by simp [srt])]
      obtain ⟨kt, m, kw, km⟩ := kn.1 hrc
      simp only [s11_f_law_row_right, wSs, wS, wT, wEs, wO, wPs, wC, wSrc, wE_loc, wE_lit, wE_con, wE_bin, wE_neg, wE_cmp, wE_cmp2, wE_isN, wE_notN, wE_isB, wE_not, wE_and, wE_or, wE_ite, wE_tup, wE_lst, wE_dic, wE_call, wE_make, wE_meth, wE_fld, wE_sub, wE_slice, wE_bi, wE_vi, wE_bm, wE_isi, wE_lc, wE_lck, eg, es, Option.some.injEq, exists_eq_left', Lit.val, sliceW, Val.int.injEq, exists_eq_left', cut3, seqOf]
      refine for_inv (callW_mono P _) (fun i env S' => S' = S ∧ ∃ x3, env = [some (.ref n), some (.tup (.str (srt false) :: .str r.name :: ownV r :: r.items.map itV)), some (lastV r), x3, none, none, none, none]) ?_ ?_ ⟨rfl, none, rfl⟩
      · rintro i v env S' hi ⟨rfl, x3, rfl⟩
        rw [List.getElem?_map] at hi
        obtain ⟨it, hx, rfl⟩ := Option.map_eq_some_iff.mp hi
        have im := List.mem_of_getElem? hx
        obtain ⟨k1, k2⟩ := kt it im
        have i4 := (o3 it im).2.1
        refine ⟨trivial, ?_⟩
        simp only [tgW, es, s5_f_law_row_right, wSs, wS, wT, wEs, wO, wPs, wC, wSrc, wE_loc, wE_lit, wE_con, wE_bin, wE_neg, wE_cmp, wE_cmp2, wE_isN, wE_notN, wE_isB, wE_not, wE_and, wE_or, wE_ite, wE_tup, wE_lst, wE_dic, wE_call, wE_make, wE_meth, wE_fld, wE_sub, wE_slice, wE_bi, wE_vi, wE_bm, wE_isi, wE_lc, wE_lck, eg, es, Option.some.injEq, exists_eq_left', Lit.val, itV, tup1, tup2]
        refine ⟨n, _, rfl, h.i, rfl, s0 (m_tag h k1 ?_)⟩
        simp only [sliceW, Val.int.injEq, exists_eq_left', cut1]
        refine call_use (lift_to (k := (k + 8 - it.2.length) + it.2.length + 1) (by omega) (arr2_t it.2 (k + 8 - it.2.length) S')) ?_
        rintro _ S2 ⟨rfl, rfl⟩
        refine ⟨by rw [sizeLine_eq]; simp, same_ne (schT_pure (o3 it im)) ?_⟩
        simp only [truth, Option.some.injEq, exists_eq_left', Bool.false_eq_true, if_false]
        refine ⟨n, _, rfl, h.i, rfl, s0 (m_kind_of h k2 ?_)⟩
        simp only [cmpW, eqW_str, decide_true, Bool.not_true, truth, Option.some.injEq, exists_eq_left', Bool.false_eq_true, if_false]
        exact ⟨trivial, _, rfl⟩
      · rintro env S' ⟨rfl, x3, rfl⟩
        refine ⟨trivial, ?_⟩
        simp only [s10_f_law_row_right, wSs, wS, wT, wEs, wO, wPs, wC, wSrc, wE_loc, wE_lit, wE_con, wE_bin, wE_neg, wE_cmp, wE_cmp2, wE_isN, wE_notN, wE_isB, wE_not, wE_and, wE_or, wE_ite, wE_tup, wE_lst, wE_dic, wE_call, wE_make, wE_meth, wE_fld, wE_sub, wE_slice, wE_bi, wE_vi, wE_bm, wE_isi, wE_lc, wE_lck, eg, es, Option.some.injEq, exists_eq_left', Lit.val, tup1]
        refine ⟨n, _, rfl, h.i, rfl, m_tags h kw km ?_⟩
        have h2 := h.app [Ob.lst ((r.items.map (·.1)).map Val.str)]
        have g2 : (S' ++ [Ob.lst ((r.items.map (·.1)).map Val.str)])[S'.length]? = some (.lst ((r.items.map (·.1)).map Val.str)) := get_new
        have km2 := get_app (l := [Ob.lst ((r.items.map (·.1)).map Val.str)]) km
        simp only [s9_f_law_row_right, wSs, wS, wT, wEs, wO, wPs, wC, wSrc, wE_loc, wE_lit, wE_con, wE_bin, wE_neg, wE_cmp, wE_cmp2, wE_isN, wE_notN, wE_isB, wE_not, wE_and, wE_or, wE_ite, wE_tup, wE_lst, wE_dic, wE_call, wE_make, wE_meth, wE_fld, wE_sub, wE_slice, wE_bi, wE_vi, wE_bm, wE_isi, wE_lc, wE_lck, eg, es, Option.some.injEq, exists_eq_left', Lit.val, sliceW, Val.int.injEq, exists_eq_left', cut3, seqOf]
        refine lcr_inv (callW_mono P _) (fun i acc S2 => S2 = S' ++ [Ob.lst ((r.items.map (·.1)).map Val.str)] ∧ acc = ((r.items.take i).map (·.1)).map Val.str) ?_ ?_ ⟨rfl, by simp⟩
        · rintro i v acc S2 hi ⟨rfl, rfl⟩
          rw [List.getElem?_map] at hi
          obtain ⟨x, hx, rfl⟩ := Option.map_eq_some_iff.mp hi
          have il := lt_get hx
          refine ⟨trivial, ?_⟩
          simp only [tgW, ewipe, List.map_cons, List.map_nil, wSs, wS, wT, wEs, wO, wPs, wC, wSrc, wE_loc, wE_lit, wE_con, wE_bin, wE_neg, wE_cmp, wE_cmp2, wE_isN, wE_notN, wE_isB, wE_not, wE_and, wE_or, wE_ite, wE_tup, wE_lst, wE_dic, wE_call, wE_make, wE_meth, wE_fld, wE_sub, wE_slice, wE_bi, wE_vi, wE_bm, wE_isi, wE_lc, wE_lck, eg, es, Option.some.injEq, exists_eq_left', Lit.val, if_true, itV]
          refine s0 ⟨by rw [sizeLine_eq]; simp; omega, rfl, ?_⟩
          rw [List.take_add_one, hx]
          simp
        rintro acc S2 ⟨rfl, rfl⟩
        refine ⟨trivial, ?_⟩
        rw [List.length_map, List.take_length]
        generalize hws : (r.items.map (·.1)) = ws at *
        obtain ⟨S2, hS2⟩ : ∃ S2, S2 = S' ++ [Ob.lst (ws.map Val.str)] := ⟨_, rfl⟩
        rw [← hS2] at h2 g2 km2 ⊢
        have l2 : S2.length = S'.length + 1 := by rw [hS2]; simp
        have k22 : ∀ m, m < S'.length → S2[m]? = S'[m]? := fun m hm => by rw [hS2]; exact List.getElem?_append_left hm
        have g3 := get_app (l := [Ob.lst (ws.map Val.str)]) g2
        have g4 : (S2 ++ [Ob.lst (ws.map Val.str)])[S2.length]? = some (.lst (ws.map Val.str)) := get_new
        have h3 := h2.app [Ob.lst (ws.map Val.str)]
        have km3 := get_app (l := [Ob.lst (ws.map Val.str)]) km2
        simp only [s8_f_law_row_right, wSs, wS, wT, wEs, wO, wPs, wC, wSrc, wE_loc, wE_lit, wE_con, wE_bin, wE_neg, wE_cmp, wE_cmp2, wE_isN, wE_notN, wE_isB, wE_not, wE_and, wE_or, wE_ite, wE_tup, wE_lst, wE_dic, wE_call, wE_make, wE_meth, wE_fld, wE_sub, wE_slice, wE_bi, wE_vi, wE_bm, wE_isi, wE_lc, wE_lck, eg, es, Option.some.injEq, exists_eq_left', Lit.val]
        refine ⟨[true], by simp [isTy, g3], true, rfl, ?_⟩
        rw [if_neg (by decide)]
        simp only [cmpW]
        refine lst_eq g3 g4 ?_
        simp only [Bool.not_true, truth, Option.some.injEq, exists_eq_left', Bool.false_eq_true, if_false]
        simp only [s7_f_law_row_right, wSs, wS, wT, wEs, wO, wPs, wC, wSrc, wE_loc, wE_lit, wE_con, wE_bin, wE_neg, wE_cmp, wE_cmp2, wE_isN, wE_notN, wE_isB, wE_not, wE_and, wE_or, wE_ite, wE_tup, wE_lst, wE_dic, wE_call, wE_make, wE_meth, wE_fld, wE_sub, wE_slice, wE_bi, wE_vi, wE_bm, wE_isi, wE_lc, wE_lck, eg, es, Option.some.injEq, exists_eq_left', Lit.val, bmT, tup1]
        refine ⟨⟨_, _, rfl, lst_at g3⟩, ?_⟩
        simp only [bmW]
        have wl : ws.length ≤ 6 := by rw [← hws]; simpa using o2
        refine ⟨_, g3, by rw [sizeLine_eq, List.length_map]; omega, ?_⟩
        have mS : m < S'.length := lt_get km
        have ne : S'.length ≠ n ∧ S'.length ≠ W := ⟨by have := lt_get h.i; omega, by have := lt_get h.w; omega⟩
        obtain ⟨S5, hS5⟩ : ∃ S5, S5 = (S2 ++ [Ob.lst (ws.map Val.str)]).set S'.length (.lst (ws.map Val.str ++ [.str r.name])) := ⟨_, rfl⟩
        rw [← hS5]
        have k5 : ∀ j, j < S'.length → S5[j]? = S'[j]? := fun j hj => by
          rw [hS5, get_ne (by omega), List.getElem?_append_left (by omega)]
          exact k22 j hj
        have l5 : S5.length = S'.length + 2 := by rw [hS5]; simp [l2]
        have h5 : Sor n T R F K W dT dR dF dK dW S5 := ⟨by rw [k5 _ (lt_get h.i)]; exact h.i, by rw [k5 _ (lt_get h.t)]; exact h.t, by rw [k5 _ (lt_get h.r)]; exact h.r, by rw [k5 _ (lt_get h.f)]; exact h.f, by rw [k5 _ (lt_get h.k)]; exact h.k, by rw [k5 _ (lt_get h.w)]; exact h.w, h.nd⟩
        have g5 : S5[S2.length]? = some (.lst (ws.map Val.str)) := by rw [hS5, get_ne (by omega)]; exact g4
        refine ⟨n, _, rfl, h5.i, rfl, m_tags h5 kw (by rw [k5 _ mS]; exact km) ?_⟩
        simp only [cmpW]
        refine lst_eq get_new (get_app g5) ?_
        rw [← hQ]
        refine ⟨rfl, by simp; omega, fun j hj => ?_⟩
        rw [List.getElem?_append_left (by omega)]
        exact k5 j hj
  show wSs _ _ _ (.cons _ rr) _ _ _ _
  rw [wSs, wS]
  generalize rr = RR at rest ⊢
  simp only [wSs, wS, wT, wEs, wO, wPs, wC, wSrc, wE_loc, wE_lit, wE_con, wE_bin, wE_neg, wE_cmp, wE_cmp2, wE_isN, wE_notN, wE_isB, wE_not, wE_and, wE_or, wE_ite, wE_tup, wE_lst, wE_dic, wE_call, wE_make, wE_meth, wE_fld, wE_sub, wE_slice, wE_bi, wE_vi, wE_bm, wE_isi, wE_lc, wE_lck, eg, es, Option.some.injEq, exists_eq_left', Lit.val, tup2, tup1, ownV]
  simp only [biW, cmpW, eqW_int, truth, Option.some.injEq, exists_eq_left', List.length_map]
  by_cases hown : r.own = []
  · rw [if_pos (by simp [hown])]
    have : lastV r = .str r.name := by unfold lastV; rw [if_pos hown]
    rw [this] at rest
    exact rest
  · rw [if_neg (by simp [hown])]
    simp only [binW]
    have : lastV r = .tup (.str r.name :: r.own.map .str) := by unfold lastV; rw [if_neg hown]
    rw [this] at rest
    exact ⟨by rw [sizeLine_eq]; simp, by rw [sizeLine_eq]; simp; omega, rest⟩
end
end K14

set_option maxHeartbeats 1000000
namespace K14
open Mi PySem
open Cd (Same)
section
variable {n T R F K W : Nat} {dT dR dF dK dW : List (Key × Val)} {S S' : Hm}
theorem Sor.keep (h : Sor n T R F K W dT dR dF dK dW S) (e : ∀ m, m < S.length → S'[m]? = S[m]?) : Sor n T R F K W dT dR dF dK dW S' :=
  ⟨by rw [e _ (lt_get h.i)]; exact h.i, by rw [e _ (lt_get h.t)]; exact h.t, by rw [e _ (lt_get h.r)]; exact h.r, by rw [e _ (lt_get h.f)]; exact h.f, by rw [e _ (lt_get h.k)]; exact h.k, by rw [e _ (lt_get h.w)]; exact h.w, h.nd⟩
theorem Knows.same {r : Row} (h : Knows r dT dR dF dK dW S) (e : ∀ m, m < S.length → S'[m]? = S[m]?) : Knows r dT dR dF dK dW S' := by
  refine ⟨fun z => ?_, h.2⟩
  obtain ⟨h1, m, h2, h3⟩ := h.1 z
  exact ⟨h1, m, h2, by rw [e _ (lt_get h3)]; exact h3⟩
end
theorem at_neg {xs : List String} {j : Nat} (h0 : 0 < j) (h : j ≤ xs.length) : ∃ x, atI (xs.map Val.str) (-(j : Int)) = some (.str x) ∧ x ∈ xs := by
  have hl : xs.length - j < xs.length := by omega
  refine ⟨xs[xs.length - j], ?_, List.getElem_mem hl⟩
  unfold atI ixN
  rw [if_neg (by omega), if_pos (by simp; omega), List.length_map]
  have : (-(j : Int) + (xs.length : Int)).toNat = xs.length - j := by omega
  simp [this, List.getElem?_eq_getElem hl]
section
variable {p th so ki re fa pa fd hl w a g y : Nat} {part face h1 h2 : String} {sm gr an : List String}
/-- rows drawn -/
def Rs (rs : List Row) (ss : List (String × Int)) (kis res : List String) : Prop :=
  ss.map (·.1) = rs.map (·.name) ∧ (∀ r ∈ rs, r.ok ∧ (r.items.map (·.1)).Nodup) ∧ rs.Pairwise Dj ∧ (∀ r ∈ rs, ∀ x ∈ r.items.map (·.1), x ∈ (if r.rc then res else kis)) ∧ kis.length ≤ 6 * rs.length ∧ res.length ≤ 6 * rs.length
theorem World.next {ss : List (String × Int)} {kis res : List String} {S S' : Hm} (h : World p th so ki re fa pa fd hl w a g y part face h1 h2 sm gr an ss kis res S) (f : F4 p so ki re S S') (st : Sta p S') {ss' : List (String × Int)} {kis' res' : List String} (hs : S'[so]? = some (.lst (ss'.map sV))) (hk : S'[ki]? = some (stL kis')) (hr : S'[re]? = some (stL res')) (sl : ss'.length ≤ 10) (sn : ∀ s ∈ ss', 0 ≤ s.2 ∧ s.2 ≤ 3) (kl : kis'.length ≤ 60) (rl : res'.length ≤ 60) : World p th so ki re fa pa fd hl w a g y part face h1 h2 sm gr an ss' kis' res' S' := by
  have nd := h.nd
  have q : ∀ (j : Nat) {b : Nat} {o : Ob}, [p, so, ki, re, th, fa, pa, fd, hl, w, a, g, y][j]? = some b → 4 ≤ j → S[b]? = some o → S'[b]? = some o := fun j b o e hj e2 =>
    f.get (ne_of nd j 0 e rfl (by omega)) (ne_of nd j 1 e rfl (by omega)) (ne_of nd j 2 e rfl (by omega)) (ne_of nd j 3 e rfl (by omega)) e2
  exact ⟨st, ⟨q 9 rfl (by decide) h.wd.d, q 10 rfl (by decide) h.wd.a, q 11 rfl (by decide) h.wd.g, q 12 rfl (by decide) h.wd.y, h.wd.sm, h.wd.gr, h.wd.al, h.wd.an⟩,
    ⟨q 4 rfl (by decide) h.t.eth, q 5 rfl (by decide) h.t.efa, q 7 rfl (by decide) h.t.efd, q 8 rfl (by decide) h.t.ehl, q 6 rfl (by decide) h.t.epa, h.t.np, h.t.ln⟩, hs, hk, hr, nd, sl, sn, kl, rl⟩
theorem fm_some : ∀ t : List Row, List.filterMap ((fun x => x.2) ∘ fun r : Row => (r.val, some r)) t = t
  | [] => rfl
  | r :: t => by
    rw [List.filterMap_cons]
    show r :: List.filterMap ((fun x => x.2) ∘ fun r : Row => (r.val, some r)) t = r :: t
    rw [fm_some t]
def mainV : Val := .tup [.str "main", .int 0]
theorem end_ok {rs : List Row} {S : Hm} {lr : Nat} {fv pv : Val} {x10 x11 x12 : Option Val} {x1 x2 x3 : Option Val} (hf : ∃ xs, fv = .tup (.str "face" :: xs)) (hpv : ∃ xs, pv = .tup (.str "part" :: xs)) (hl : S[lr]? = some (.lst (rs.map Row.val))) (h0 : 0 < rs.length) (h8 : rs.length ≤ 8) (ok : ∀ r ∈ rs, r.ok ∧ (r.items.map (·.1)).Nodup) (dj : rs.Pairwise Dj) :
    wSs P.con P.sub (callW P 230) s6_f_law (fun c x S' => noX c S') { nx := fun _ S' => (fun (v : Val) (_ : Hm) => v = .bl true) .non S', rt := fun v _ => v = .bl true } [some (.ref 0), x1, x2, x3, some fv, some pv, some (.ref lr), none, none, none, x10, x11, x12, none] S := by
  simp only [s6_f_law, wSs, wS, wT, wEs, wO, wPs, wC, wSrc, wE_loc, wE_lit, wE_con, wE_bin, wE_neg, wE_cmp, wE_cmp2, wE_isN, wE_notN, wE_isB, wE_not, wE_and, wE_or, wE_ite, wE_tup, wE_lst, wE_dic, wE_call, wE_make, wE_meth, wE_fld, wE_sub, wE_slice, wE_bi, wE_vi, wE_bm, wE_isi, wE_lc, wE_lck, eg, es, Option.some.injEq, exists_eq_left', Lit.val]
  refine ⟨by rw [sizeLine_eq]; simp, ?_⟩
  simp only [biW]
  refine ⟨_, lst_at hl, ?_⟩
  simp only [binW]
  refine ⟨by rw [sizeLine_eq]; simp; omega, by rw [sizeLine_eq]; simp, by rw [sizeLine_eq]; simp, by rw [sizeLine_eq]; simp; omega, ?_⟩
  obtain ⟨ps, hps⟩ : ∃ ps, ps = [(fv, none), (pv, none)] ++ rs.map (fun r => (r.val, some r)) ++ [(mainV, (none : Option Row))] := ⟨_, rfl⟩
  have eps : [fv, pv] ++ rs.map Row.val ++ [.tup [.str "main", .int 0]] = ps.map (·.1) := by
    rw [hps]; simp [mainV]
  have okps : ∀ e ∈ ps, PEok e := fun e he => by
    rw [hps] at he
    simp only [List.mem_append, List.mem_cons, List.not_mem_nil, or_false, List.mem_map] at he
    rcases he with ((rfl | rfl) | ⟨r, hr, rfl⟩) | rfl
    · obtain ⟨xs, rfl⟩ := hf
      exact ⟨_, xs, rfl, by decide, by decide⟩
    · obtain ⟨xs, rfl⟩ := hpv
      exact ⟨_, xs, rfl, by decide, by decide⟩
    · exact ⟨rfl, (ok r hr).1, (ok r hr).2⟩
    · exact ⟨"main", [.int 0], rfl, by decide, by decide⟩
  have rps : rowsOf ps = rs := by
    rw [hps]
    unfold rowsOf
    simp [List.filterMap_append, List.filterMap_map]
    exact fm_some rs
  rw [eps]
  refine init_ok (k := 226) okps (by rw [rps]; exact dj) (by rw [hps]; simp; omega) fun T R F K W dT dR dF dK dW S1 s1 kn1 l1 f1 => ⟨rfl, ?_⟩
  rw [rps] at kn1
  simp only [s5_f_law, wSs, wS, wT, wEs, wO, wPs, wC, wSrc, wE_loc, wE_lit, wE_con, wE_bin, wE_neg, wE_cmp, wE_cmp2, wE_isN, wE_notN, wE_isB, wE_not, wE_and, wE_or, wE_ite, wE_tup, wE_lst, wE_dic, wE_call, wE_make, wE_meth, wE_fld, wE_sub, wE_slice, wE_bi, wE_vi, wE_bm, wE_isi, wE_lc, wE_lck, eg, es, Option.some.injEq, exists_eq_left', Lit.val]
  obtain ⟨r0, rt, hr0⟩ : ∃ r0 rt, rs = r0 :: rt := by
    cases rs with
    | nil => cases h0
    | cons r0 rt => exact ⟨r0, rt, rfl⟩
  have hl1 : S1[lr]? = some (.lst (rs.map Row.val)) := by rw [f1 _ (lt_get hl)]; exact hl
  refine subW_lst (lst_at hl1) (v := r0.val) (by rw [hr0]; exact ix_zero) ?_
  refine ⟨by rw [sizeLine_eq]; simp, by rw [sizeLine_eq]; simp, ?_⟩
  obtain ⟨qs, hqs⟩ : ∃ qs, qs = [(fv, none), (pv, none), (r0.val, some r0), (mainV, (none : Option Row))] := ⟨_, rfl⟩
  have eqs : [fv, pv, r0.val, .tup [.str "main", .int 0]] = qs.map (·.1) := by rw [hqs]; simp [mainV]
  have okqs : ∀ e ∈ qs, PEok e := fun e he => by
    rw [hqs] at he
    simp only [List.mem_cons, List.not_mem_nil, or_false] at he
    rcases he with rfl | rfl | rfl | rfl
    · obtain ⟨xs, rfl⟩ := hf
      exact ⟨_, xs, rfl, by decide, by decide⟩
    · obtain ⟨xs, rfl⟩ := hpv
      exact ⟨_, xs, rfl, by decide, by decide⟩
    · have := ok r0 (by rw [hr0]; exact List.mem_cons_self)
      exact ⟨rfl, this.1, this.2⟩
    · exact ⟨"main", [.int 0], rfl, by decide, by decide⟩
  have rqs : rowsOf qs = [r0] := by rw [hqs]; rfl
  rw [eqs]
  refine init_ok (k := 226) okqs (by rw [rqs]; simp) (by rw [hqs]; simp) fun T2 R2 F2 K2 W2 eT eR eF eK eW S2 s2 kn2 l2 f2 => ⟨rfl, ?_⟩
  rw [rqs] at kn2
  have hl2 : S2[lr]? = some (.lst (rs.map Row.val)) := by rw [f2 _ (lt_get hl1)]; exact hl1
  have s12 := s1.keep f2
  have kn12 : ∀ r ∈ rs, Knows r dT dR dF dK dW S2 := fun r hr => (kn1 r hr).same f2
  simp only [s4_f_law, wSs, wS, wT, wEs, wO, wPs, wC, wSrc, wE_loc, wE_lit, wE_con, wE_bin, wE_neg, wE_cmp, wE_cmp2, wE_isN, wE_notN, wE_isB, wE_not, wE_and, wE_or, wE_ite, wE_tup, wE_lst, wE_dic, wE_call, wE_make, wE_meth, wE_fld, wE_sub, wE_slice, wE_bi, wE_vi, wE_bm, wE_isi, wE_lc, wE_lck, eg, es, Option.some.injEq, exists_eq_left', Lit.val, seqOf]
  refine ⟨_, lst_at hl2, ?_⟩
  refine for_inv (callW_mono P _) (fun i env S' => ∃ x9, env = [some (.ref 0), x1, x2, x3, some fv, some pv, some (.ref lr), some (.ref S.length), some (.ref S1.length), x9, x10, x11, x12, none] ∧ S2.length ≤ S'.length ∧ ∀ m, m < S2.length → S'[m]? = S2[m]?) ?_ ?_ ⟨none, rfl, Nat.le_refl _, fun _ _ => rfl⟩
  · rintro i v env S3 hi ⟨x9, rfl, l3, f3⟩
    rw [List.getElem?_map] at hi
    obtain ⟨r, hr, rfl⟩ := Option.map_eq_some_iff.mp hi
    have rm := List.mem_of_getElem? hr
    refine ⟨lst_at (by rw [f3 _ (lt_get hl2)]; exact hl2), ?_⟩
    simp only [tgW, es, s2_f_law, wSs, wS, wT, wEs, wO, wPs, wC, wSrc, wE_loc, wE_lit, wE_con, wE_bin, wE_neg, wE_cmp, wE_cmp2, wE_isN, wE_notN, wE_isB, wE_not, wE_and, wE_or, wE_ite, wE_tup, wE_lst, wE_dic, wE_call, wE_make, wE_meth, wE_fld, wE_sub, wE_slice, wE_bi, wE_vi, wE_bm, wE_isi, wE_lc, wE_lck, eg, es, Option.some.injEq, exists_eq_left', Lit.val]
    refine call_use (right_ok (k := 220) (s12.keep f3) ((kn12 r rm).same f3) (ok r rm).1) ?_
    rintro _ S4 ⟨rfl, l4, f4⟩
    simp only [truth, Option.some.injEq, exists_eq_left', Bool.not_true, Bool.false_eq_true, if_false]
    exact ⟨_, rfl, by omega, fun m hm => (f4 m (by omega)).trans (f3 m hm)⟩
  · rintro env S3 ⟨x9, rfl, l3, f3⟩
    have hl3 : S3[lr]? = some (.lst (rs.map Row.val)) := by rw [f3 _ (lt_get hl2)]; exact hl2
    refine ⟨lst_at hl3, ?_⟩
    simp only [s3_f_law, wSs, wS, wT, wEs, wO, wPs, wC, wSrc, wE_loc, wE_lit, wE_con, wE_bin, wE_neg, wE_cmp, wE_cmp2, wE_isN, wE_notN, wE_isB, wE_not, wE_and, wE_or, wE_ite, wE_tup, wE_lst, wE_dic, wE_call, wE_make, wE_meth, wE_fld, wE_sub, wE_slice, wE_bi, wE_vi, wE_bm, wE_isi, wE_lc, wE_lck, eg, es, Option.some.injEq, exists_eq_left', Lit.val]
    refine subW_lst (lst_at hl3) (v := r0.val) (by rw [hr0]; exact ix_zero) ?_
    refine call_use (right_ok (k := 220) (s2.keep f3) ((kn2 r0 (by simp)).same f3) (ok r0 (by rw [hr0]; exact List.mem_cons_self)).1) ?_
    rintro _ S4 ⟨rfl, l4, f4⟩
    rfl
end
end K14

set_option maxHeartbeats 2000000
namespace K14
open Mi PySem
open Cd (Same)
theorem Rs.next {rs : List Row} {ss : List (String × Int)} {kis res : List String} {r : Row} {o : Int} (h : Rs rs ss kis res) (ok : r.ok) (nn : r.name ∉ ss.map (·.1)) (nd : (r.items.map (·.1)).Nodup) (nu : ∀ x ∈ r.items.map (·.1), x ∉ (if r.rc then res else kis)) :
    Rs (rs ++ [r]) (ss ++ [(r.name, o)]) (if r.rc then kis else kis ++ r.items.map (·.1)) (if r.rc then res ++ r.items.map (·.1) else res) := by
  obtain ⟨h1, h2, h3, h4, h5, h6⟩ := h
  have hl := ok.len
  refine ⟨by simp [h1], fun a ha => ?_, List.pairwise_append.mpr ⟨h3, by simp, fun a ha b hb => ?_⟩, fun a ha x hx => ?_, ?_, ?_⟩
  · rcases List.mem_append.mp ha with ha | ha
    · exact h2 a ha
    · rw [List.mem_singleton.mp ha]; exact ⟨ok, nd⟩
  · rw [List.mem_singleton.mp hb]
    refine ⟨fun e => nn (by rw [h1, ← e]; exact List.mem_map_of_mem ha), fun e x hx hx2 => nu x hx2 ?_⟩
    rw [← e]
    exact h4 a ha x hx
  · rcases List.mem_append.mp ha with ha | ha
    · have := h4 a ha x hx
      cases e1 : a.rc <;> cases e2 : r.rc <;> rw [e1] at this <;> simp at this ⊢ <;> first | exact this | exact .inl this
    · rw [List.mem_singleton.mp ha] at hx ⊢
      cases e2 : r.rc <;> simp at hx ⊢ <;> exact .inr hx
  · cases e2 : r.rc <;> simp <;> omega
  · cases e2 : r.rc <;> simp <;> omega
section
variable {p th so ki re fa pa fd hl w a g y : Nat} {part face h1 h2 : String} {sm gr an : List String} {ss : List (String × Int)} {kis res : List String}
theorem World.fm {S S' : Hm} (h : World p th so ki re fa pa fd hl w a g y part face h1 h2 sm gr an ss kis res S) (f : Fm p S S') (st : Sta p S') : World p th so ki re fa pa fd hl w a g y part face h1 h2 sm gr an ss kis res S' :=
  h.next (F4.of f) st (f.get (ne_of h.nd 1 0 rfl rfl (by decide)) h.s) (f.get (ne_of h.nd 2 0 rfl rfl (by decide)) h.k) (f.get (ne_of h.nd 3 0 rfl rfl (by decide)) h.r) h.sl h.sn h.kl h.rl
end
theorem law_small (ns : List Int) (hl : ns.length ≤ 63) : bodyW P (callW P 230) r_f_law.d [.ref 0] [.lck (.lst (ns.map Val.int))] (fun v _ => v = .bl true) (fun _ _ => False) := by
  refine ⟨rfl, ?_⟩
  show wSs _ _ _ s9_f_law _ _ [some (.ref 0), none, none, none, none, none, none, none, none, none, none, none, none, none] _
  simp only [s9_f_law, wSs, wS, wT, wEs, wO, wPs, wC, wSrc, wE_loc, wE_lit, wE_con, wE_bin, wE_neg, wE_cmp, wE_cmp2, wE_isN, wE_notN, wE_isB, wE_not, wE_and, wE_or, wE_ite, wE_tup, wE_lst, wE_dic, wE_call, wE_make, wE_meth, wE_fld, wE_sub, wE_slice, wE_bi, wE_vi, wE_bm, wE_isi, wE_lc, wE_lck, eg, es, Option.some.injEq, exists_eq_left', Lit.val]
  refine drawn_ok (k := 229) (p := 0) (ns := ns) rfl hl fun p S1 p1 t1 _ => ?_
  simp only [s8_f_law, wSs, wS, wT, wEs, wO, wPs, wC, wSrc, wE_loc, wE_lit, wE_con, wE_bin, wE_neg, wE_cmp, wE_cmp2, wE_isN, wE_notN, wE_isB, wE_not, wE_and, wE_or, wE_ite, wE_tup, wE_lst, wE_dic, wE_call, wE_make, wE_meth, wE_fld, wE_sub, wE_slice, wE_bi, wE_vi, wE_bm, wE_isi, wE_lc, wE_lck, eg, es, Option.some.injEq, exists_eq_left', Lit.val]
  refine call_use (words_ok (k := 228) t1) ?_
  rintro _ S2 ⟨w, a, g, y, sm, gr, an, rfl, lw, la, lg, ly, lag, lgy, lyw, wd, t2, f2⟩
  have pS1 : p < S1.length := by obtain ⟨_, _, gg, _⟩ := t1; exact lt_get gg
  have hsm := wd.sm
  have hgr := wd.gr
  obtain ⟨g1, eg1, mg1⟩ := at_neg (xs := gr) (j := 1) (by omega) (by have := hgr.2.1; omega)
  obtain ⟨g2, eg2, mg2⟩ := at_neg (xs := gr) (j := 2) (by omega) (by have := hgr.2.1; omega)
  obtain ⟨s1, es1, ms1⟩ := at_neg (xs := sm) (j := 1) (by omega) (by have := hsm.2.1; omega)
  obtain ⟨s2, es2, ms2⟩ := at_neg (xs := sm) (j := 2) (by omega) (by have := hsm.2.1; omega)
  have bg1 := hgr.2.2.2 g1 mg1
  have bg2 := hgr.2.2.2 g2 mg2
  have bs1 := hsm.2.2.2 s1 ms1
  have bs2 := hsm.2.2.2 s2 ms2
  obtain ⟨a0, a1, ar, ean⟩ : ∃ a0 a1 ar, an = a0 :: a1 :: ar := by
    have := wd.al
    match an, this with
    | a0 :: a1 :: ar, _ => exact ⟨a0, a1, ar, rfl⟩
  have xa : ∀ {l : Hm} {i : Int} {v : Val} {Q : Post}, atI (gr.map Val.str) i = some v → Q v (S2 ++ l) → subW (.ref g) (.int i) (S2 ++ l) Q := fun e q => subW_lst (lst_at (get_app wd.g)) e q
  have xs' : ∀ {l : Hm} {i : Int} {v : Val} {Q : Post}, atI (sm.map Val.str) i = some v → Q v (S2 ++ l) → subW (.ref a) (.int i) (S2 ++ l) Q := fun e q => subW_lst (lst_at (get_app wd.a)) e q
  rw [s7_f_law]
  simp only [wSs, wS, wT, wEs, wO, wPs, wC, wSrc, wE_loc, wE_lit, wE_con, wE_bin, wE_neg, wE_cmp, wE_cmp2, wE_isN, wE_notN, wE_isB, wE_not, wE_and, wE_or, wE_ite, wE_tup, wE_lst, wE_dic, wE_call, wE_make, wE_meth, wE_fld, wE_sub, wE_slice, wE_bi, wE_vi, wE_bm, wE_isi, wE_lc, wE_lck, eg, es, Option.some.injEq, exists_eq_left', Lit.val]
  refine .inr ⟨_, .inr "small", .ref a, dic_at wd.d, rfl, rfl, ?_⟩
  refine .inr ⟨_, .inr "great", .ref g, dic_at wd.d, rfl, rfl, ?_⟩
  refine .inr ⟨_, .inr "any", .ref y, dic_at wd.d, rfl, rfl, ?_⟩
  refine ⟨rfl, ?_⟩
  simp only [List.zip_cons_cons, List.zip_nil_right, List.foldl_cons, List.foldl_nil, wSs, wS, wT, wEs, wO, wPs, wC, wSrc, wE_loc, wE_lit, wE_con, wE_bin, wE_neg, wE_cmp, wE_cmp2, wE_isN, wE_notN, wE_isB, wE_not, wE_and, wE_or, wE_ite, wE_tup, wE_lst, wE_dic, wE_call, wE_make, wE_meth, wE_fld, wE_sub, wE_slice, wE_bi, wE_vi, wE_bm, wE_isi, wE_lc, wE_lck, eg, es, Option.some.injEq, exists_eq_left', Lit.val, wPs]
  obtain ⟨N, hN⟩ : ∃ N, N = S2.length := ⟨_, rfl⟩
  have e1 : ∀ l : Hm, (S2 ++ l).length = N + l.length := fun l => by simp [hN]
  have gi : ∀ (l : Hm) (j : Nat), (S2 ++ l)[N + j]? = l[j]? := fun l j => by
    rw [hN, List.getElem?_append_right (by omega)]
    congr 1; omega
  have si : ∀ (l : Hm) (j : Nat) (o : Ob), (S2 ++ l).set (N + j) o = S2 ++ l.set j o := fun l j o => by
    rw [hN, List.set_append_right _ _ (by omega)]
    congr 2; omega
  have sz : ∀ xs : List Val, xs.length ≤ 10 → xs.length ≤ sizeLine := fun xs h => by rw [sizeLine_eq]; omega
  have sn : ∀ k : Nat, k ≤ 10 → k ≤ sizeLine := fun k h => by rw [sizeLine_eq]; omega
  refine ⟨sz _ (by simp), _, rfl, sz _ (by simp), _, rfl, sz _ (by simp), _, rfl, _, rfl, 2, rfl, ?_⟩
  simp only [List.append_assoc, List.cons_append, List.nil_append, e1, List.length_cons, List.length_nil, ← hN, Nat.zero_add, Nat.reduceAdd]
  refine xa eg2 ⟨1, rfl, xa eg1 ?_⟩
  refine ⟨sn _ (by decide), sn _ (by decide), _, rfl, 1, rfl, ?_⟩
  simp only [List.append_assoc, List.cons_append, List.nil_append, e1, List.length_cons, List.length_nil, Nat.zero_add, Nat.reduceAdd]
  refine xs' es1 ⟨sn _ (by decide), 2, rfl, xs' es2 ?_⟩
  refine ⟨sn _ (by decide), sn _ (by decide), _, rfl, ?_⟩
  simp only [List.append_assoc, List.cons_append, List.nil_append, e1, List.length_cons, List.length_nil, Nat.zero_add, Nat.reduceAdd]
  have ep : ∀ u1 u2 u3 u4 u5 : Val, putK (putK (putK (putK (putK [] (.inr "sorts") u1) (.inr "kind") u2) (.inr "record") u3) (.inr "faces") u4) (.inr "parts") u5 = [(.inr "sorts", u1), (.inr "kind", u2), (.inr "record", u3), (.inr "faces", u4), (.inr "parts", u5)] := fun u1 u2 u3 u4 u5 => by simp [putK]
  have ep1 : ∀ (k : Key) (u : Val), putK [] k u = [(k, u)] := fun k u => by simp [putK]
  rw [ep, ep1]
  refine .inr ⟨_, .inr "faces", .ref (N + 3), dic_at (by rw [gi]; rfl), rfl, rfl, 1, rfl, ?_⟩
  refine xa eg1 ?_
  refine setW_dic (kvs := []) (q := .inr g1) (by rw [gi]; rfl) rfl (by rw [sizeLine_eq]; simp) ?_
  rw [ep1, si]
  simp only [List.set_cons_succ, List.set_cons_zero]
  have ya : ∀ {l : Hm} {Q : Post}, Q (.str a0) (S2 ++ l) → subW (.ref y) (.int 0) (S2 ++ l) Q := fun q => subW_lst (lst_at (get_app wd.y)) (by rw [ean]; exact ix_zero) q
  have yb : ∀ {l : Hm} {Q : Post}, Q (.str a1) (S2 ++ l) → subW (.ref y) (.int 1) (S2 ++ l) Q := fun q => subW_lst (lst_at (get_app wd.y)) (by rw [ean]; exact ix_nat (i := 1) rfl) q
  refine ⟨1, rfl, xa eg1 ⟨sn _ (by decide), 1, rfl, xs' es1 ⟨sn _ (by decide), 2, rfl, xs' es2 ⟨sn _ (by decide), sn _ (by decide), 2, rfl, xa eg2 ⟨1, rfl, xa eg1 ⟨1, rfl, xs' es1 ⟨sn _ (by decide), sn _ (by decide), 2, rfl, xs' es2 (ya (yb ⟨sn _ (by decide), yb ⟨sn _ (by decide), sn _ (by decide), sn _ (by decide), ?_⟩⟩))⟩⟩⟩⟩⟩⟩⟩
  obtain ⟨H, hH⟩ : ∃ H, H = S2 ++ [Ob.lst [], Ob.lst [], Ob.lst [], Ob.dic [(Sum.inr g1, Val.ref (N + 7))], Ob.lst [.tup [.str g2, .str g1]], Ob.dic [(Sum.inr "sorts", .ref N), (.inr "kind", .ref (N + 1)), (.inr "record", .ref (N + 2)), (.inr "faces", .ref (N + 3)), (.inr "parts", .ref (N + 4))], Ob.lst [.tup [.str s1, .int 0], .tup [.str s2, .int 2]], Ob.dic [(.inr "hides", .ref (N + 6))]] := ⟨_, rfl⟩
  have gj : ∀ (j : Nat) (o : Ob), [Ob.lst [], Ob.lst [], Ob.lst [], Ob.dic [(Sum.inr g1, Val.ref (N + 7))], Ob.lst [.tup [.str g2, .str g1]], Ob.dic [(Sum.inr "sorts", .ref N), (.inr "kind", .ref (N + 1)), (.inr "record", .ref (N + 2)), (.inr "faces", .ref (N + 3)), (.inr "parts", .ref (N + 4))], Ob.lst [.tup [.str s1, .int 0], .tup [.str s2, .int 2]], Ob.dic [(.inr "hides", .ref (N + 6))]][j]? = some o → H[N + j]? = some o := fun j o e => by rw [hH, gi]; exact e
  have gS : ∀ {m : Nat} {o : Ob}, S2[m]? = some o → H[m]? = some o := fun e => by rw [hH]; exact get_app e
  have pN : p < N := by have := f2.1; omega
  have wN : w < N := by rw [hN]; exact lt_get wd.d
  have aN : a < N := by rw [hN]; exact lt_get wd.a
  have gN : g < N := by rw [hN]; exact lt_get wd.g
  have yN : y < N := by rw [hN]; exact lt_get wd.y
  have dif : ∀ {m q : Nat} {o1 o2 : Ob}, S2[m]? = some o1 → S2[q]? = some o2 → o1 ≠ o2 → m ≠ q := fun e1 e2 ne z => by subst z; rw [e1] at e2; exact ne (Option.some.inj e2)
  have World0 : World p (N + 5) N (N + 1) (N + 2) (N + 3) (N + 4) (N + 7) (N + 6) w a g y g2 g1 s1 s2 sm gr an [] [] [] H := by
    refine ⟨?_, ⟨gS wd.d, gS wd.a, gS wd.g, gS wd.y, wd.sm, wd.gr, wd.al, wd.an⟩, ⟨gj 5 _ rfl, gj 3 _ rfl, gj 7 _ rfl, gj 6 _ rfl, gj 4 _ rfl, ⟨by omega, by omega, by omega, by omega, by omega⟩, by omega, by omega, by omega⟩, gj 0 _ rfl, gj 1 _ rfl, gj 2 _ rfl, ?_, by simp, by simp, by simp, by simp⟩
    · rw [hH]; exact t2.app _
    · simp only [List.nodup_cons, List.mem_cons, List.not_mem_nil, or_false, not_or, List.nodup_nil, not_false_eq_true, and_true]
      refine ⟨⟨?_, ?_, ?_, ?_, ?_, ?_, ?_, ?_, ?_, ?_, ?_, ?_⟩, ⟨?_, ?_, ?_, ?_, ?_, ?_, ?_, ?_, ?_, ?_, ?_⟩, ⟨?_, ?_, ?_, ?_, ?_, ?_, ?_, ?_, ?_, ?_⟩, ⟨?_, ?_, ?_, ?_, ?_, ?_, ?_, ?_, ?_⟩, ⟨?_, ?_, ?_, ?_, ?_, ?_, ?_, ?_⟩, ⟨?_, ?_, ?_, ?_, ?_, ?_, ?_⟩, ⟨?_, ?_, ?_, ?_, ?_, ?_⟩, ⟨?_, ?_, ?_, ?_, ?_⟩, ⟨?_, ?_, ?_, ?_⟩, ⟨?_, ?_, ?_⟩, ⟨?_, ?_⟩, ?_⟩ <;> omega
  rw [← hH]
  refine call_use (next_ok (k := 229) (World0.st.app _) (by decide) (by decide)) ?_
  rintro _ S4 ⟨⟨r3, rfl, r30, r31⟩, t4, f4, _⟩
  have f04 := (Fm.app (p := p) (S := H) [Ob.lst [.int 4, .int 8]]).trans f4
  simp only [cmpW, eqW_int]
  refine pick2 (f := Val.int) (x := 4) (y := 8) (f4.get (new_ne World0.st) get_new) ?_
  refine call_use (next_ok (k := 229) t4 (by split <;> decide) (by split <;> decide)) ?_
  rintro _ S5 ⟨⟨m, rfl, m0, m1⟩, t5, f5, _⟩
  have m8 : m < 8 := by
    have : (if decide (r3 = 0) = true then (8 : Int) else 4) ≤ 8 := by split <;> decide
    omega
  simp only [binW]
  refine ⟨1 + m, rfl, ⟨by omega, by omega⟩, ?_⟩
  have W5 := World0.fm (f04.trans f5) t5
  refine lcr_inv (callW_mono P _) (fun i acc S' => ∃ (rs : List Row) (ss : List (String × Int)) (kis res : List String), acc = rs.map Row.val ∧ rs.length = i ∧ ss.length = i ∧ Rs rs ss kis res ∧ World p (N + 5) N (N + 1) (N + 2) (N + 3) (N + 4) (N + 7) (N + 6) w a g y g2 g1 s1 s2 sm gr an ss kis res S') ?_ ?_ ⟨[], [], [], [], rfl, rfl, rfl, ⟨rfl, by simp, by simp, by simp, by simp, by simp⟩, W5⟩
  · rintro i v acc S6 hi ⟨rs, ss, kis, res, rfl, c1, c2, cR, cW⟩
    have il := lt_get hi
    rw [rng_len] at il
    refine ⟨trivial, ?_⟩
    simp only [tgW, ewipe, List.map_cons, List.map_nil, wSs, wS, wT, wEs, wO, wPs, wC, wSrc, wE_loc, wE_lit, wE_con, wE_bin, wE_neg, wE_cmp, wE_cmp2, wE_isN, wE_notN, wE_isB, wE_not, wE_and, wE_or, wE_ite, wE_tup, wE_lst, wE_dic, wE_call, wE_make, wE_meth, wE_fld, wE_sub, wE_slice, wE_bi, wE_vi, wE_bm, wE_isi, wE_lc, wE_lck, eg, es, Option.some.injEq, exists_eq_left', Lit.val, if_true]
    refine call_use (sort_ok (k := 219) cW) ?_
    rintro _ S7 ⟨r, rfl, ok, nn, nd, nu, e1, e2, e3, st, f7⟩
    have cN := cR.next (o := (r.own.length : Int)) ok nn nd nu
    have ol := ok.own
    refine ⟨by rw [sizeLine_eq, List.length_map]; omega, rs ++ [r], _, _, _, by simp, by simp [c1], by simp [c2], cN, ?_⟩
    have q1 := cN.2.2.2.2.1
    have q2 := cN.2.2.2.2.2
    rw [List.length_append, List.length_singleton] at q1 q2
    refine cW.next f7 st e1 e2 e3 (by simp; omega) (fun s hs => ?_) (by omega) (by omega)
    rcases List.mem_append.mp hs with hs | hs
    · exact cW.sn s hs
    · rw [List.mem_singleton.mp hs]
      exact ⟨by show (0 : Int) ≤ (r.own.length : Int); omega, by show (r.own.length : Int) ≤ 3; omega⟩
  · rintro acc S6 ⟨rs, ss, kis, res, rfl, c1, c2, cR, cW⟩
    rw [rng_len] at c1
    refine ⟨trivial, ?_⟩
    exact end_ok ⟨_, rfl⟩ ⟨_, rfl⟩ get_new (by omega) (by omega) cR.2.1 cR.2.2.1
end K14

set_option maxHeartbeats 0
open PySem PySem.W PySem.Calls PyProof.Rows in
theorem PySem.Challenge.cw_facework_k14_schemes_of_sorts_holds : PySem.Challenge.rw_facework_k14_schemes_of_sorts.Holds := by
  w_on; o_law
  refine HandSHeadRun.head_any (r := OpenLaw.row PySem.Challenge.rw_facework_k14_schemes_of_sorts) (q := view (OpenLaw.row PySem.Challenge.rw_facework_k14_schemes_of_sorts).prog [14]) (H := K14.hk) (ob := K14.ob) (M := 2850) (loose := K14.loose) (d := HandSHeadRun.topDef (OpenLaw.row PySem.Challenge.rw_facework_k14_schemes_of_sorts).prog 14) (kwd := []) K14.ob_eq
    (by kernel_rfl) (fun s => by kernel_rfl) K14.run (by kernel_rfl) (by kernel_rfl) (by kernel_rfl) (by rfl) (by first | assumption | decide +kernel) (by decide +kernel) ⟨rfl, rfl, rfl, rfl, rfl, by decide +kernel⟩ ?hw ?hc
  case hw => w_witness2
  case hc => exact Mi.mi_hc (P := K14.P) (tab := K14.tab) (con := K14.con) (j := 230) (r := K14.r_f_law) (x := "_law_script") rfl (by decide) (by kernel_rfl) ⟨rfl, by decide, by decide⟩ (List.all_eq_true.mp K14.rows_ok) K14.bind_ok (fun f d h => Mi.fnOfT_of h) (fun x v h => Mi.conV_of h) (by decide +kernel) (by simp [K14.tab]) rfl (by kernel_rfl) rfl (by kernel_rfl) K14.law_small

