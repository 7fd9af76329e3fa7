import PyProof.Rows.All
import Wide.All
import OpenK.AllK
import Wide.FinOn
import HandS.ForMost
import HandS.ForExc
import HandS.Wide
import HandS.WideBits
import HandS.TupAny
import HandS.TupMul
import HandS.TupLe
import HandS.Deep
import HandS.Small
import HandS.IsInst
import HandS.Style
import HandS.SetKeys
import HandS.SortInts
import HandS.WordsDict
import HandS.WordsExc
import HandS.More
import HandS.RaiseMore
import HandS.StrMore
import HandS.CallSlots
import HandS.Rev
import HandS.Zip
import HandS.RevTup
import KE.KDictList
import HandS.Defaults
import HandS.Head0
import HandS.Head1
import HandS.Head2
import HandS.HeadEnd
import HandS.HeadHook1
import HandS.HeadHook2
import HandS.HeadHook3
import HandS.HeadHook4
import PyProof.StrLawsTight
import PyProof.StrLawsChain
import KE.KStateDown
import Lean
import KE.KIntText
import PySem.Challenge.RW_facework_k08_whole_programs_go_round
set_option Elab.async false
set_option linter.all false
set_option maxRecDepth 100000
/-! MiA: a small language for the program's own text: values with tuples as data, a heap of lists, dicts and instances, and what must hold so that a piece of text runs. -/
namespace Mi
open PySem

/-- a value: tuples are data, lists, dicts and instances stand at a place of the heap -/
inductive Val where
  | non | bl (b : Bool) | int (i : Int) | str (x : String) | tup (xs : List Val) | ref (n : Nat) | exc (c : String)
  deriving Inhabited

abbrev Key := Sum Int String
def Key.val : Key → Val
  | .inl i => .int i
  | .inr x => .str x
def Val.key : Val → Option Key
  | .int i => some (.inl i)
  | .str x => some (.inr x)
  | _ => none

inductive Ob where
  | lst (xs : List Val)
  | dic (kvs : List (Key × Val))
  | ins (c : String) (fs : List (String × Val))
  | lck (o : Ob)
  deriving Inhabited

abbrev Hm := List Ob
abbrev Env := List (Option Val)
abbrev Post := Val → Hm → Prop
abbrev XPost := String → Hm → Prop

/-- what a function is called by: its name, or its class's and its own -/
inductive FK where
  | f (x : String) | m (c x : String)
  deriving DecidableEq, Repr, Inhabited
abbrev CallW := FK → List Val → Hm → Post → XPost → Prop

inductive Lit where
  | non | bl (b : Bool) | int (i : Int) | str (x : String)
  deriving DecidableEq, Repr, Inhabited
def Lit.val : Lit → Val
  | .non => .non
  | .bl b => .bl b
  | .int i => .int i
  | .str x => .str x

/-- types for isinstance -/
inductive Ty where
  | int | bool | str | tuple | list | dict | cls (c : String)
  deriving DecidableEq, Repr, Inhabited

/-- built-in functions -/
inductive Bi where
  | len | abs | min | max | int | str | list | tuple | dict | sum | sorted | all | any | range
  deriving DecidableEq, Repr, Inhabited
/-- methods of built-in types -/
inductive Bm where
  | append | extend | pop | insert | reverse | count | index | clear
  | dclear | get | setdefault | update | startswith | split | join | isupper | upper | replace
  deriving DecidableEq, Repr, Inhabited

/-- forms of a built-in's call over another one's -/
inductive Vi where
  | listRev
  deriving DecidableEq, Repr, Inhabited

inductive Tg where
  | nm (i : Nat)
  | tp (is : List Nat)
  deriving DecidableEq, Repr, Inhabited

mutual
inductive E where
  | loc (i : Nat)
  | lit (c : Lit)
  | con (x : String)
  | bin (op : Operator) (a b : E)
  | neg (a : E)
  | cmp (op : CmpOp) (a b : E)
  | cmp2 (op op' : CmpOp) (a b c : E)
  | isN (a : E)
  | notN (a : E)
  | isB (a : E) (b : Bool)
  | not (a : E)
  | and (a b : E)
  | or (a b : E)
  | ite (c : T) (a b : E)
  | tup (es : Es)
  | lst (es : Es)
  | dic (ps : Ps)
  | call (f : String) (es : Es)
  | make (c : String) (es : Es)
  | meth (c m : String) (o : E) (es : Es)
  | fld (o : E) (f : String)
  | sub (o i : E)
  | slice (o : E) (lo hi : Oe)
  | bi (f : Bi) (es : Es)
  | vi (f : Vi) (es : Es)
  | bm (m : Bm) (o : E) (es : Es)
  | isi (a : E) (ts : List Ty)
  | lc (elt : E) (tg : Tg) (src : Src) (cond : Ot) (own : List (String × Nat))
  | lck (i : Nat) (e : E)
/-- a test -/
inductive T where
  | v (e : E)
  | not (t : T)
  | and (t u : T)
  | or (t u : T)
inductive Ot where
  | none
  | some (t : T)
inductive Ps where
  | nil
  | cons (k v : E) (ps : Ps)
inductive Es where
  | nil
  | cons (e : E) (es : Es)
inductive Oe where
  | none
  | some (e : E)
/-- what a loop walks -/
inductive Src where
  | seq (e : E)
  | rng1 (a : E)
  | rng2 (a b : E)
  | rng3 (a b c : E)
  | enum (a : E)
  | zip (a b : E)
  | rev (a : E)
  | items (a : E)
  | values (a : E)
  | keys (a : E)
end

mutual
inductive St where
  | set (i : Nat) (e : E)
  | setT (is : List Nat) (e : E)
  | par (is : List Nat) (es : Es)
  | setI (o i e : E)
  | setF (o : E) (f : String) (e : E)
  | aug (i : Nat) (op : Operator) (e : E)
  | augI (o i : E) (op : Operator) (e : E)
  | augF (o : E) (f : String) (op : Operator) (e : E)
  | expr (e : E)
  | ret (e : E)
  | retN
  | ife (c : T) (a b : Sts)
  | for (tg : Tg) (src : Src) (body : Sts)
  | while (c : T) (body : Sts)
  | raise (c : String)
  | try (body : Sts) (hs : Hs) (orelse : Sts)
  | cont
  | pass
  | lck (i : Nat) (s : St)
inductive Sts where
  | nil
  | cons (s : St) (ss : Sts)
inductive Hs where
  | nil
  | cons (c : String) (i : Option Nat) (body : Sts) (rest : Hs)
end

/-! ### environments -/
def eg : Env → Nat → Option Val
  | [], _ => none
  | x :: _, 0 => x
  | _ :: r, n + 1 => eg r n
def es : Env → Nat → Option Val → Env
  | [], _, _ => []
  | _ :: r, 0, v => v :: r
  | x :: r, n + 1, v => x :: es r n v
theorem eg_eq : ∀ (e : Env) (i : Nat), eg e i = (e[i]?).join
  | [], i => by simp [eg]
  | x :: r, 0 => by simp [eg]
  | x :: r, n + 1 => by simp [eg, eg_eq r n]
theorem es_eq : ∀ (e : Env) (i : Nat) (v : Option Val), es e i v = e.set i v
  | [], i, v => by simp [es]
  | x :: r, 0, v => by simp [es]
  | x :: r, n + 1, v => by simp [es, es_eq r n]
def ewipe (e : Env) : List Nat → Env
  | [] => e
  | v :: vs => es (ewipe e vs) v none

/-! ### values -/
def Hm.lst (S : Hm) (n : Nat) : Option (List Val) := match S[n]? with
  | some (.lst xs) => some xs
  | some (.lck (.lst xs)) => some xs
  | _ => none
def Hm.dic (S : Hm) (n : Nat) : Option (List (Key × Val)) := match S[n]? with
  | some (.dic xs) => some xs
  | some (.lck (.dic xs)) => some xs
  | _ => none
def lookK {α : Type} (kvs : List (Key × α)) (k : Key) : Option α := (kvs.find? fun kv => decide (kv.1 = k)).map (·.2)
def putK {α : Type} (kvs : List (Key × α)) (k : Key) (v : α) : List (Key × α) :=
  if (kvs.any fun kv => decide (kv.1 = k)) = true then kvs.map (fun kv => if kv.1 = k then (kv.1, v) else kv) else kvs ++ [(k, v)]
def dropK {α : Type} (kvs : List (Key × α)) (k : Key) : List (Key × α) := kvs.filter fun kv => !decide (kv.1 = k)
def putF {α : Type} (f : String) (v : α) : List (String × α) → List (String × α)
  | [] => [(f, v)]
  | (g, x) :: r => if g = f then (g, v) :: r else (g, x) :: putF f v r

def truth (v : Val) (S : Hm) : Option Bool := match v with
  | .non => some false
  | .bl b => some b
  | .int i => some (i != 0)
  | .str x => if x.length ≤ sizeLine then some (x.length != 0) else none
  | .tup xs => some (!xs.isEmpty)
  | .ref n => match S[n]? with
    | some (.lst xs) => some (!xs.isEmpty)
    | some (.lck (.lst xs)) => some (!xs.isEmpty)
    | some (.dic xs) => some (!xs.isEmpty)
    | _ => none
  | .exc _ => none

/-- the place of an index -/
def ixN (n : Nat) (i : Int) : Option Nat := if 0 ≤ i then (if i < n then some i.toNat else none) else if -(n : Int) ≤ i then some (i + n).toNat else none
def atI {α : Type} (xs : List α) (i : Int) : Option α := (ixN xs.length i).bind fun j => xs[j]?
def sIx (n d : Nat) : Option Int → Nat
  | none => d
  | some v => if v < 0 then (v + (n : Int)).toNat else min v.toNat n
def cut {α : Type} (xs : List α) (lo hi : Option Int) : List α := (xs.drop (sIx xs.length 0 lo)).take (sIx xs.length xs.length hi - sIx xs.length 0 lo)


/-- nested data, read through the heap, for == -/
def dat (S : Hm) : Nat → Val → Option PyData
  | _, .non => some .none
  | _, .bl b => some (.bool b)
  | _, .int i => some (.int i)
  | _, .str x => some (.str (Str.ofString x))
  | k + 1, .tup xs => (xs.mapM (dat S k)).map .tuple
  | k + 1, .ref n => match Hm.lst S n with
    | some xs => (xs.mapM (dat S k)).map .list
    | none => none
  | _, _ => none
/-- a dict's values beside another one's -/
def dHits (S : Hm) (ls : List (Key × Val)) : List (Key × Val) → Option Bool
  | [] => some true
  | p :: r => match lookK ls p.1 with
    | none => some false
    | some u => match dat S 58 p.2 with
      | none => none
      | some d => match dat S 58 u with
        | none => none
        | some e => match dHits S ls r with
          | none => none
          | some b => some (PyData.eqv d e && b)
def eqD (x y : Val) (S : Hm) (Q : Bool → Prop) : Prop := match x, y with
  | .ref n, .ref m => ∃ ks ls b, S[n]? = some (.dic ks) ∧ S[m]? = some (.dic ls) ∧ dHits S ls ks = some b ∧ Q (decide (ks.length = ls.length) && b)
  | _, _ => False
def eqW (x y : Val) (S : Hm) (Q : Bool → Prop) : Prop := (∃ d e, dat S 60 x = some d ∧ dat S 60 y = some e ∧ Q (PyData.eqv d e)) ∨ eqD x y S Q

def flat : Val → Bool
  | .non => true
  | .bl _ => true
  | .int _ => true
  | .str _ => true
  | _ => false
/-- == of flat values -/
def feq : Val → Val → Bool
  | .non, .non => true
  | .bl a, .bl b => a == b
  | .bl a, .int b => (if a then 1 else 0) == b
  | .int a, .bl b => a == (if b then 1 else 0)
  | .int a, .int b => a == b
  | .str a, .str b => a == b
  | _, _ => false
/-- a text in a text -/
def subIn (x y : String) : Bool := !(Builtin.Str.occurrences (Str.ofString y) (Str.ofString x) 0 (Str.ofString y).length 1).isEmpty

def inW (x y : Val) (S : Hm) (Q : Bool → Prop) : Prop := match y with
  | .str b => match x with
    | .str a => (∃ c, a.toList = [c] ∧ Q (decide (c ∈ b.toList))) ∨ Q (subIn a b)
    | _ => False
  | .tup xs => flat x = true ∧ xs.all flat = true ∧ Q (xs.any fun y => feq y x)
  | .ref n =>
    (∃ xs, Hm.lst S n = some xs ∧ ((flat x = true ∧ xs.all flat = true ∧ Q (xs.any fun y => feq y x)) ∨ ∃ d ds, dat S 60 x = some d ∧ xs.mapM (dat S 59) = some ds ∧ Q (ds.any fun z => PyData.eqv z d)))
    ∨ ∃ kvs k, Hm.dic S n = some kvs ∧ x.key = some k ∧ Q (lookK kvs k).isSome
  | _ => False

def mulOk (i j : Int) : Prop := i.natAbs.log2 + j.natAbs.log2 < 100000000
def divOk (j : Int) : Prop := 0 < j ∧ j.natAbs.log2 < 9000
def powOk (i j : Int) : Prop := 0 ≤ j ∧ j ≤ 1000000 ∧ i.natAbs < 2 ^ 64
def shlOk (i j : Int) : Prop := 0 ≤ j ∧ j ≤ 1000000 ∧ i.natAbs < 2 ^ 64

/-- a text n times -/
def strRep (a : String) : Nat → String
  | 0 => ""
  | n + 1 => strRep a n ++ a
def binW (op : Operator) (x y : Val) (S : Hm) (Q : Post) : Prop := match op, x, y with
  | .Add, .int i, .int j => Q (.int (i + j)) S
  | .Add, .str a, .str b => a.length + b.length ≤ sizeLine ∧ Q (.str (a ++ b)) S
  | .Add, .tup xs, .tup ys => xs.length + ys.length ≤ sizeLine ∧ Q (.tup (xs ++ ys)) S
  | .Add, .ref n, .ref m => ∃ xs ys, S[n]? = some (.lst xs) ∧ S[m]? = some (.lst ys) ∧ xs.length + ys.length ≤ sizeLine ∧ Q (.ref S.length) (S ++ [.lst (xs ++ ys)])
  | .Sub, .int i, .int j => Q (.int (i - j)) S
  | .Mult, .int i, .int j => mulOk i j ∧ Q (.int (i * j)) S
  | .Mult, .ref n, .int k => ∃ xs, S[n]? = some (.lst xs) ∧ -(2 ^ 63) ≤ k ∧ k < 2 ^ 63 ∧ xs.length * k.toNat ≤ sizeLine ∧ Q (.ref S.length) (S ++ [.lst (List.replicate k.toNat xs).flatten])
  | .Mult, .str a, .int k => -(2 ^ 63) ≤ k ∧ k ≤ 16777216 ∧ a.length * k.toNat ≤ 16777216 ∧ Q (.str (strRep a k.toNat)) S
  | .Mult, .tup xs, .int k => xs ≠ [] ∧ 2 ≤ k ∧ k ≤ 1000 ∧ xs.length ≤ 1000 ∧ Q (.tup (List.replicate k.toNat xs).flatten) S
  | .FloorDiv, .int i, .int j => divOk j ∧ Q (.int (i / j)) S
  | .Mod, .int i, .int j => 0 < j ∧ Q (.int (i % j)) S
  | .Pow, .int i, .int j => powOk i j ∧ Q (.int (i ^ j.toNat)) S
  | .LShift, .int i, .int j => shlOk i j ∧ Q (.int (i * 2 ^ j.toNat)) S
  | .RShift, .int i, .int j => 0 ≤ j ∧ Q (.int (i / 2 ^ j.toNat)) S
  | _, _, _ => False

/-- the same in place -/
def ibinW (op : Operator) (x y : Val) (S : Hm) (Q : Post) : Prop := match op, x, y with
  | .Add, .int i, .int j => Q (.int (i + j)) S
  | .Add, .str a, .str b => a.length + b.length ≤ sizeLine ∧ Q (.str (a ++ b)) S
  | .Sub, .int i, .int j => Q (.int (i - j)) S
  | .Add, .ref n, .ref m => ∃ xs ys, S[n]? = some (.lst xs) ∧ S[m]? = some (.lst ys) ∧ xs.length + ys.length ≤ sizeLine ∧ Q (.ref n) (S.set n (.lst (xs ++ ys)))
  | _, _, _ => False

def cmpW (op : CmpOp) (x y : Val) (S : Hm) (Q : Bool → Prop) : Prop := match op with
  | .Eq => eqW x y S Q
  | .NotEq => eqW x y S fun b => Q (!b)
  | .In => inW x y S Q
  | .NotIn => inW x y S fun b => Q (!b)
  | .Lt => match x, y with
    | .int i, .int j => Q (decide (i < j))
    | _, _ => False
  | .LtE => match x, y with
    | .int i, .int j => Q (decide (i ≤ j))
    | _, _ => False
  | .Gt => match x, y with
    | .int i, .int j => Q (decide (j < i))
    | _, _ => False
  | .GtE => match x, y with
    | .int i, .int j => Q (decide (j ≤ i))
    | _, _ => False
  | _ => False

def subW (o i : Val) (S : Hm) (Q : Post) : Prop := match o, i with
  | .tup xs, .int k => ∃ v, atI xs k = some v ∧ Q v S
  | .str x, .int k => x.length ≤ sizeLine ∧ ∃ c, atI x.toList k = some c ∧ Q (.str (String.singleton c)) S
  | .ref n, k => (∃ xs j v, k = .int j ∧ Hm.lst S n = some xs ∧ atI xs j = some v ∧ Q v S) ∨ ∃ kvs q v, Hm.dic S n = some kvs ∧ k.key = some q ∧ lookK kvs q = some v ∧ Q v S
  | _, _ => False

def sliceW (o : Val) (lo hi : Option Int) (S : Hm) (Q : Post) : Prop := match o with
  | .tup xs => Q (.tup (cut xs lo hi)) S
  | .str x => x.length ≤ sizeLine ∧ Q (.str (String.ofList (cut x.toList lo hi))) S
  | .ref n => ∃ xs, Hm.lst S n = some xs ∧ Q (.ref S.length) (S ++ [.lst (cut xs lo hi)])
  | _ => False

def biW (f : Bi) (args : List Val) (S : Hm) (Q : Post) : Prop := match f, args with
  | .len, [x] => match x with
    | .str a => a.length ≤ sizeLine ∧ Q (.int a.length) S
    | .tup xs => Q (.int xs.length) S
    | .ref n => (∃ xs, Hm.lst S n = some xs ∧ Q (.int xs.length) S) ∨ ∃ kvs, S[n]? = some (.dic kvs) ∧ Q (.int kvs.length) S
    | _ => False
  | .abs, [.int i] => Q (.int (if i < 0 then -i else i)) S
  | .min, [.int i, .int j] => Q (.int (if j < i then j else i)) S
  | .max, [.int i, .int j] => Q (.int (if j > i then j else i)) S
  | .min, [.ref n] => ∃ ns : List Int, Hm.lst S n = some (ns.map Val.int) ∧ ns ≠ [] ∧ ∀ m, m ∈ ns → (∀ y, y ∈ ns → m ≤ y) → Q (.int m) S
  | .max, [.ref n] => ∃ ns : List Int, Hm.lst S n = some (ns.map Val.int) ∧ ns ≠ [] ∧ ∀ m, m ∈ ns → (∀ y, y ∈ ns → y ≤ m) → Q (.int m) S
  | .int, [.int i] => Q (.int i) S
  | .int, [.bl b] => Q (.int (if b then 1 else 0)) S
  | .int, [.str x] => ∃ n, PySem.intText? (Str.ofString x) = some n ∧ x.length ≤ 640 ∧ Q (.int n) S
  | .str, [.int i] => i.natAbs.log2 < 1920 ∧ Q (.str (toString i)) S
  | .str, [.str a] => Q (.str a) S
  | .list, [.tup xs] => Q (.ref S.length) (S ++ [.lst xs])
  | .list, [.ref n] => ∃ xs, Hm.lst S n = some xs ∧ Q (.ref S.length) (S ++ [.lst xs])
  | .tuple, [.tup xs] => Q (.tup xs) S
  | .tuple, [.ref n] => ∃ xs, Hm.lst S n = some xs ∧ Q (.tup xs) S
  | .dict, [.ref n] => ∃ kvs, Hm.dic S n = some kvs ∧ Q (.ref S.length) (S ++ [.dic kvs])
  | .sum, [.ref n] => ∃ ns : List Int, Hm.lst S n = some (ns.map Val.int) ∧ Q (.int ns.sum) S
  | .all, [.ref n] => ∃ bs : List Bool, Hm.lst S n = some (bs.map Val.bl) ∧ Q (.bl (bs.all id)) S
  | .any, [.ref n] => ∃ bs : List Bool, Hm.lst S n = some (bs.map Val.bl) ∧ Q (.bl (bs.any id)) S
  | .sorted, [.ref n] => ∃ ns : List Int, Hm.lst S n = some (ns.map Val.int) ∧ ∀ ns' : List Int, ns'.Perm ns → ns'.Pairwise (· ≤ ·) → Q (.ref S.length) (S ++ [.lst (ns'.map Val.int)])
  | _, _ => False

def viW (f : Vi) (args : List Val) (S : Hm) (Q : Post) : Prop := match f, args with
  | .listRev, [.tup xs] => Q (.ref S.length) (S ++ [.lst xs.reverse])
  | _, _ => False
/-- which objects a method belongs to, and what it does -/
def bmT (m : Bm) (o : Val) (S : Hm) : Prop := match m with
  | .append | .extend | .insert | .reverse | .count | .index | .clear => ∃ n xs, o = .ref n ∧ Hm.lst S n = some xs
  | .pop => ∃ n xs, o = .ref n ∧ Hm.lst S n = some xs
  | .startswith | .split | .join | .isupper | .upper | .replace => ∃ x, o = .str x
  | .dclear | .get | .setdefault | .update => ∃ n kvs, o = .ref n ∧ S[n]? = some (.dic kvs)
def bmW (m : Bm) (o : Val) (args : List Val) (S : Hm) (Q : Post) : Prop := match m, o, args with
  | .append, .ref n, [y] => ∃ xs, S[n]? = some (.lst xs) ∧ xs.length < sizeLine ∧ Q .non (S.set n (.lst (xs ++ [y])))
  | .extend, .ref n, [.ref b] => ∃ xs ys, S[n]? = some (.lst xs) ∧ S[b]? = some (.lst ys) ∧ xs.length + ys.length ≤ sizeLine ∧ Q .non (S.set n (.lst (xs ++ ys)))
  | .pop, .ref n, [] => ∃ xs y, S[n]? = some (.lst xs) ∧ xs[xs.length - 1]? = some y ∧ Q y (S.set n (.lst xs.dropLast))
  | .pop, .ref n, [.int i] => ∃ xs k y, S[n]? = some (.lst xs) ∧ ixN xs.length i = some k ∧ xs.length ≤ sizeLine ∧ xs[k]? = some y ∧ Q y (S.set n (.lst (xs.eraseIdx k)))
  | .insert, .ref n, [.int i, y] => ∃ xs, S[n]? = some (.lst xs) ∧ xs.length < sizeLine ∧ 0 ≤ i ∧ i < 2 ^ 63 ∧ Q .non (S.set n (.lst (xs.take i.toNat ++ [y] ++ xs.drop i.toNat)))
  | .reverse, .ref n, [] => ∃ xs, S[n]? = some (.lst xs) ∧ Q .non (S.set n (.lst xs.reverse))
  | .index, .ref n, [y] => ∃ xs j z, Hm.lst S n = some xs ∧ flat y = true ∧ xs.all flat = true ∧ xs[j]? = some z ∧ feq z y = true ∧ (∀ (m : Nat) (z' : Val), m < j → xs[m]? = some z' → feq z' y = false) ∧ Q (.int (j : Nat)) S
  | .dclear, .ref n, [] => ∃ kvs, S[n]? = some (.dic kvs) ∧ Q .non (S.set n (.dic []))
  | .get, .ref n, [k] => ∃ kvs q, Hm.dic S n = some kvs ∧ k.key = some q ∧ Q ((lookK kvs q).getD .non) S
  | .get, .ref n, [k, d] => ∃ kvs q, Hm.dic S n = some kvs ∧ k.key = some q ∧ Q ((lookK kvs q).getD d) S
  | .setdefault, .ref n, [k, d] => ∃ kvs q, S[n]? = some (.dic kvs) ∧ k.key = some q ∧ kvs.length < sizeLine ∧ (∀ v, lookK kvs q = some v → Q v S) ∧ (lookK kvs q = none → Q d (S.set n (.dic (putK kvs q d))))
  | .startswith, .str a, [.str b] => Q (.bl (Txt.startswith (Str.ofString a) (Str.ofString b))) S
  | .split, .str a, [.str b] => ∃ ys : List String, Txt.split (Str.ofString a) (Str.ofString b) = ys.map Str.ofString ∧ b.length ≠ 0 ∧ a.length + 2 ≤ sizeLine ∧ Q (.ref S.length) (S ++ [.lst (ys.map Val.str)])
  | .split, .str a, [] => ∃ ys : List String, Txt.words (Str.ofString a) = ys.map Str.ofString ∧ a.length + 2 ≤ sizeLine ∧ Q (.ref S.length) (S ++ [.lst (ys.map Val.str)])
  | .join, .str a, [.ref n] => ∃ (ys : List String) (y : String), Hm.lst S n = some (ys.map Val.str) ∧ Txt.join (Str.ofString a) (ys.map Str.ofString) = Str.ofString y ∧ (ys.map String.length).sum + ys.length * a.length ≤ 16777216 ∧ Q (.str y) S
  | .isupper, .str a, [] => Q (.bl (Txt.isupper (Str.ofString a))) S
  | .upper, .str a, [] => ∃ y : String, Txt.upper (Str.ofString a) = Str.ofString y ∧ a.length ≤ 5592405 ∧ Q (.str y) S
  | _, _, _ => False

/-- o[i] = v -/
def setW (o i v : Val) (S : Hm) (Q : Hm → Prop) : Prop := match o with
  | .ref n => (∃ xs k j, S[n]? = some (.lst xs) ∧ i = .int k ∧ ixN xs.length k = some j ∧ Q (S.set n (.lst (xs.set j v)))) ∨ ∃ kvs q, S[n]? = some (.dic kvs) ∧ i.key = some q ∧ kvs.length < sizeLine ∧ Q (S.set n (.dic (putK kvs q v)))
  | _ => False

def isTy (v : Val) (S : Hm) : Ty → Option Bool
  | .int => match v with
    | .int _ | .bl _ => some true
    | .exc _ => none
    | _ => some false
  | .bool => match v with
    | .bl _ => some true
    | .exc _ => none
    | _ => some false
  | .str => match v with
    | .str _ => some true
    | .exc _ => none
    | _ => some false
  | .tuple => match v with
    | .tup _ => some true
    | .exc _ => none
    | _ => some false
  | .list => match v with
    | .ref n => match S[n]? with
      | some (.lst _) | some (.lck (.lst _)) => some true
      | some (.dic _) | some (.lck (.dic _)) | some (.ins _ _) => some false
      | _ => none
    | .exc _ => none
    | _ => some false
  | .dict => match v with
    | .ref n => match S[n]? with
      | some (.dic _) | some (.lck (.dic _)) => some true
      | some (.lst _) | some (.lck (.lst _)) | some (.ins _ _) => some false
      | _ => none
    | .exc _ => none
    | _ => some false
  | .cls c => match v with
    | .ref n => match S[n]? with
      | some (.ins c' _) => some (c' == c)
      | some (.dic _) | some (.lst _) => some false
      | _ => none
    | .exc _ => none
    | _ => some false

def tgW : Tg → Val → Env → (Env → Prop) → Prop
  | .nm i, v, env, K => K (es env i (some v))
  | .tp is, v, env, K => ∃ xs, v = .tup xs ∧ xs.length = is.length ∧ K ((is.zip xs).foldl (fun e p => es e p.1 (some p.2)) env)

/-- a comprehension's turns -/
def lcLoop (turn : Val → Hm → (Option Val → Hm → Prop) → Prop) (guard : Hm → Prop) : List Val → List Val → Hm → (List Val → Hm → Prop) → Prop
  | [], acc, S, Q => guard S ∧ Q acc S
  | v :: vs, acc, S, Q => guard S ∧ turn v S fun r S1 => match r with
    | some x => acc.length < sizeLine ∧ lcLoop turn guard vs (acc ++ [x]) S1 Q
    | none => lcLoop turn guard vs acc S1 Q

def rangeL (lo step : Int) : Nat → List Val
  | 0 => []
  | n + 1 => .int lo :: rangeL (lo + step) step n
def enumL : Nat → List Val → List Val
  | _, [] => []
  | i, x :: xs => .tup [.int (i : Nat), x] :: enumL (i + 1) xs
def pairL : List Val → List Val → List Val
  | x :: xs, y :: ys => .tup [x, y] :: pairL xs ys
  | _, _ => []
/-- what a list or tuple holds, and what must stay -/
def seqOf (v : Val) (S : Hm) (K : List Val → (Hm → Prop) → Prop) : Prop := match v with
  | .tup xs => K xs fun _ => True
  | .ref n => ∃ xs, Hm.lst S n = some xs ∧ K xs fun S => Hm.lst S n = some xs
  | .str x => K (x.toList.map fun c => .str (String.singleton c)) fun _ => True
  | _ => False
def lstOf (v : Val) (S : Hm) (K : List Val → (Hm → Prop) → Prop) : Prop := match v with
  | .ref n => ∃ xs, Hm.lst S n = some xs ∧ K xs fun S => Hm.lst S n = some xs
  | _ => False
def ltOf (v : Val) (S : Hm) (K : List Val → (Hm → Prop) → Prop) : Prop := match v with
  | .tup xs => K xs fun _ => True
  | .ref n => ∃ xs, Hm.lst S n = some xs ∧ K xs fun S => Hm.lst S n = some xs
  | _ => False
def zipOf (v w : Val) (S : Hm) (K : List Val → (Hm → Prop) → Prop) : Prop :=
  (∃ n m xs ys, v = .ref n ∧ w = .ref m ∧ Hm.lst S n = some xs ∧ Hm.lst S m = some ys ∧ K (pairL xs ys) fun S => Hm.lst S n = some xs ∧ Hm.lst S m = some ys) ∨
    ∃ xs ys, v = .tup xs ∧ w = .tup ys ∧ K (pairL xs ys) fun _ => True
def rOk (j : Int) : Prop := -(2 ^ 62) ≤ j ∧ j < 2 ^ 62

section
variable (G : String → Option Val) (C : CallW)
mutual
def wE : XPost → E → Env → Hm → Post → Prop
  | X, .loc i, env, S, Q => ∃ v, eg env i = some v ∧ Q v S
  | X, .lit c, _, S, Q => Q c.val S
  | X, .con x, _, S, Q => ∃ v, G x = some v ∧ Q v S
  | X, .bin op a b, env, S, Q => wE X a env S fun x S1 => wE X b env S1 fun y S2 => binW op x y S2 Q
  | X, .neg a, env, S, Q => wE X a env S fun x S1 => ∃ i, x = .int i ∧ Q (.int (-i)) S1
  | X, .cmp op a b, env, S, Q => wE X a env S fun x S1 => wE X b env S1 fun y S2 => cmpW op x y S2 fun r => Q (.bl r) S2
  | X, .cmp2 op op' a b c, env, S, Q => wE X a env S fun x S1 => wE X b env S1 fun y S2 => cmpW op x y S2 fun r => if r = true then wE X c env S2 fun z S3 => cmpW op' y z S3 fun r' => Q (.bl r') S3 else Q (.bl false) S2
  | X, .isN a, env, S, Q => wE X a env S fun x S1 => Q (.bl (match x with | .non => true | _ => false)) S1
  | X, .notN a, env, S, Q => wE X a env S fun x S1 => Q (.bl (match x with | .non => false | _ => true)) S1
  | X, .isB a b, env, S, Q => wE X a env S fun x S1 => ∃ c, x = .bl c ∧ Q (.bl (c == b)) S1
  | X, .not a, env, S, Q => wE X a env S fun x S1 => ∃ b, x = .bl b ∧ Q (.bl (!b)) S1
  | X, .and a b, env, S, Q => wE X a env S fun x S1 => ∃ c, x = .bl c ∧ if c = true then wE X b env S1 Q else Q (.bl false) S1
  | X, .or a b, env, S, Q => wE X a env S fun x S1 => ∃ c, x = .bl c ∧ if c = true then Q (.bl true) S1 else wE X b env S1 Q
  | X, .ite c a b, env, S, Q => wT X c env S fun r S1 => if r = true then wE X a env S1 Q else wE X b env S1 Q
  | X, .tup es, env, S, Q => wEs X es env S fun vs S1 => vs.length ≤ sizeLine ∧ Q (.tup vs) S1
  | X, .lst es, env, S, Q => wEs X es env S fun vs S1 => vs.length ≤ sizeLine ∧ Q (.ref S1.length) (S1 ++ [.lst vs])
  | X, .dic ps, env, S, Q => wPs X ps env S fun kvs S1 => Q (.ref S1.length) (S1 ++ [.dic (kvs.foldl (fun d p => putK d p.1 p.2) [])])
  | X, .call f es, env, S, Q => wEs X es env S fun vs S1 => C (.f f) vs S1 Q X
  | X, .make c es, env, S, Q => wEs X es env S fun vs S1 => C (.m c "__init__") (.ref S1.length :: vs) (S1 ++ [.ins c []]) (fun v S2 => v = .non ∧ Q (.ref S1.length) S2) X
  | X, .meth c m o es, env, S, Q => wE X o env S fun x S1 => ∃ n fs, x = .ref n ∧ S1[n]? = some (.ins c fs) ∧ fs.lookup m = none ∧ wEs X es env S1 fun vs S2 => C (.m c m) (x :: vs) S2 Q X
  | X, .fld o f, env, S, Q => wE X o env S fun x S1 => ∃ n c fs v, x = .ref n ∧ S1[n]? = some (.ins c fs) ∧ fs.lookup f = some v ∧ Q v S1
  | X, .sub o i, env, S, Q => wE X o env S fun x S1 => wE X i env S1 fun y S2 => subW x y S2 Q
  | X, .slice o lo hi, env, S, Q => wE X o env S fun x S1 => wO X lo env S1 fun a S2 => wO X hi env S2 fun b S3 => sliceW x a b S3 Q
  | X, .bi f es, env, S, Q => wEs X es env S fun vs S1 => biW f vs S1 Q
  | X, .vi f es, env, S, Q => wEs X es env S fun vs S1 => viW f vs S1 Q
  | X, .bm m o es, env, S, Q => wE X o env S fun x S1 => bmT m x S1 ∧ wEs X es env S1 fun vs S2 => bmW m x vs S2 Q
  | X, .isi a ts, env, S, Q => wE X a env S fun x S1 => ∃ bs, ts.mapM (isTy x S1) = some bs ∧ Q (.bl (bs.any id)) S1
  | X, .lc elt tg src cond own, env, S, Q => wSrc X src env S fun items guard S1 =>
      lcLoop (fun v S K => tgW tg v (ewipe env (own.map (·.2))) fun env2 => wC (fun _ _ => False) cond env2 S fun b S2 => if b = true then wE (fun _ _ => False) elt env2 S2 fun x S3 => K (some x) S3 else K none S2) guard items [] S1
        fun acc S2 => Q (.ref S2.length) (S2 ++ [.lst acc])
  | X, .lck i e, env, S, Q => ∃ n kvs, eg env i = some (.ref n) ∧ S[n]? = some (.dic kvs) ∧ wE X e env (S.set n (.lck (.dic kvs))) fun v S' => S'[n]? = some (.lck (.dic kvs)) ∧ Q v (S'.set n (.dic kvs))
def wEs : XPost → Es → Env → Hm → (List Val → Hm → Prop) → Prop
  | X, .nil, _, S, Q => Q [] S
  | X, .cons e es, env, S, Q => wE X e env S fun x S1 => wEs X es env S1 fun xs S2 => Q (x :: xs) S2
def wPs : XPost → Ps → Env → Hm → (List (Key × Val) → Hm → Prop) → Prop
  | X, .nil, _, S, Q => Q [] S
  | X, .cons k v ps, env, S, Q => wE X k env S fun x S1 => wE X v env S1 fun y S2 => ∃ q, x.key = some q ∧ wPs X ps env S2 fun r S3 => Q ((q, y) :: r) S3
def wO : XPost → Oe → Env → Hm → (Option Int → Hm → Prop) → Prop
  | X, .none, _, S, Q => Q none S
  | X, .some e, env, S, Q => wE X e env S fun x S1 => ∃ i, x = .int i ∧ Q (some i) S1
/-- a comprehension's test -/
def wC : XPost → Ot → Env → Hm → (Bool → Hm → Prop) → Prop
  | X, .none, _, S, Q => Q true S
  | X, .some t, env, S, Q => wT X t env S Q
def wT : XPost → T → Env → Hm → (Bool → Hm → Prop) → Prop
  | X, .v e, env, S, Q => wE X e env S fun x S1 => ∃ b, truth x S1 = some b ∧ Q b S1
  | X, .not a, env, S, Q => wT X a env S fun b S1 => Q (!b) S1
  | X, .and a b, env, S, Q => wT X a env S fun c S1 => if c = true then wT X b env S1 Q else Q false S1
  | X, .or a b, env, S, Q => wT X a env S fun c S1 => if c = true then Q true S1 else wT X b env S1 Q
def wSrc : XPost → Src → Env → Hm → (List Val → (Hm → Prop) → Hm → Prop) → Prop
  | X, .seq e, env, S, K => wE X e env S fun x S1 => seqOf x S1 fun items guard => K items guard S1
  | X, .rng1 a, env, S, K => wE X a env S fun x S1 => ∃ j, x = .int j ∧ rOk j ∧ K (rangeL 0 1 j.toNat) (fun _ => True) S1
  | X, .rng2 a b, env, S, K => wE X a env S fun x S1 => wE X b env S1 fun y S2 => ∃ i j, x = .int i ∧ y = .int j ∧ rOk i ∧ rOk j ∧ K (rangeL i 1 (j - i).toNat) (fun _ => True) S2
  | X, .enum a, env, S, K => wE X a env S fun x S1 => lstOf x S1 fun items guard => K (enumL 0 items) guard S1
  | X, .zip a b, env, S, K => wE X a env S fun x S1 => wE X b env S1 fun y S2 => zipOf x y S2 fun items guard => K items guard S2
  | X, .rev a, env, S, K => wE X a env S fun x S1 => ltOf x S1 fun items guard => K items.reverse guard S1
  | X, .keys a, env, S, K => wE X a env S fun x S1 => ∃ n kvs, x = .ref n ∧ S1[n]? = some (.lck (.dic kvs)) ∧ K (kvs.map (·.1.val)) (fun S => S[n]? = some (.lck (.dic kvs))) S1
  | X, .values a, env, S, K => wE X a env S fun x S1 => ∃ n kvs, x = .ref n ∧ S1[n]? = some (.lck (.dic kvs)) ∧ K (kvs.map (·.2)) (fun S => S[n]? = some (.lck (.dic kvs))) S1
  | X, .items a, env, S, K => wE X a env S fun x S1 => ∃ n kvs, x = .ref n ∧ S1[n]? = some (.lck (.dic kvs)) ∧ K (kvs.map fun p => .tup [p.1.val, p.2]) (fun S => S[n]? = some (.lck (.dic kvs))) S1
  | _, _, _, _, _ => False
end

/-- what is wanted behind a statement -/
structure Sp where
  nx : Env → Hm → Prop
  rt : Post
  ct : Env → Hm → Prop := fun _ _ => False
/-- .. where the dict at n stays as it is -/
def lckD (n : Nat) (kvs : List (Key × Val)) (D : Sp) : Sp :=
  { nx := fun env' S' => S'[n]? = some (.lck (.dic kvs)) ∧ D.nx env' (S'.set n (.dic kvs)), rt := fun v S' => S'[n]? = some (.lck (.dic kvs)) ∧ D.rt v (S'.set n (.dic kvs)), ct := fun env' S' => S'[n]? = some (.lck (.dic kvs)) ∧ D.ct env' (S'.set n (.dic kvs)) }
def forL (tg : Tg) (guard : Hm → Prop) (body : Sp → Env → Hm → Prop) (D : Sp) : List Val → Env → Hm → Prop
  | [], env, S => guard S ∧ D.nx env S
  | v :: vs, env, S => guard S ∧ tgW tg v env fun env2 => body { nx := forL tg guard body D vs, rt := D.rt, ct := forL tg guard body D vs } env2 S
def whileN (c : Env → Hm → (Bool → Hm → Prop) → Prop) (body : Sp → Env → Hm → Prop) (D : Sp) : Nat → Env → Hm → Prop
  | 0, _, _ => False
  | n + 1, env, S => c env S fun b S1 => if b = true then body { nx := whileN c body D n, rt := D.rt, ct := whileN c body D n } env S1 else D.nx env S1
/-- an exception of class c leaves, where the names are so -/
abbrev XS := String → Env → Hm → Prop
end
section
variable (G : String → Option Val) (sub : String → String → Bool) (C : CallW)
mutual
def wS : St → XS → Sp → Env → Hm → Prop
  | .set i e, X, D, env, S => wE G C (fun c S' => X c env S') e env S fun v S1 => D.nx (es env i (some v)) S1
  | .setT is e, X, D, env, S => wE G C (fun c S' => X c env S') e env S fun v S1 => tgW (.tp is) v env fun env2 => D.nx env2 S1
  | .par is es', X, D, env, S => wEs G C (fun c S' => X c env S') es' env S fun vs S1 => vs.length = is.length ∧ D.nx ((is.zip vs).foldl (fun e p => es e p.1 (some p.2)) env) S1
  | .setI o i e, X, D, env, S => wE G C (fun c S' => X c env S') e env S fun v S1 => wE G C (fun c S' => X c env S') o env S1 fun x S2 => wE G C (fun c S' => X c env S') i env S2 fun y S3 => setW x y v S3 fun S4 => D.nx env S4
  | .setF o f e, X, D, env, S => wE G C (fun c S' => X c env S') e env S fun v S1 => wE G C (fun c S' => X c env S') o env S1 fun x S2 => ∃ n c fs, x = .ref n ∧ S2[n]? = some (.ins c fs) ∧ fs.length < 1000 ∧ D.nx env (S2.set n (.ins c (putF f v fs)))
  | .aug i op e, X, D, env, S => ∃ x, eg env i = some x ∧ wE G C (fun c S' => X c env S') e env S fun y S1 => ibinW op x y S1 fun z S2 => D.nx (es env i (some z)) S2
  | .augI o i op e, X, D, env, S => wE G C (fun c S' => X c env S') o env S fun x S1 => wE G C (fun c S' => X c env S') i env S1 fun y S2 => (∃ n, x = .ref n) ∧ subW x y S2 fun old S3 => wE G C (fun c S' => X c env S') e env S3 fun z S4 => ibinW op old z S4 fun r S5 => setW x y r S5 fun S6 => D.nx env S6
  | .augF o f op e, X, D, env, S => wE G C (fun c S' => X c env S') o env S fun x S1 => ∃ n c fs v, x = .ref n ∧ S1[n]? = some (.ins c fs) ∧ fs.lookup f = some v ∧ wE G C (fun c S' => X c env S') e env S1 fun z S2 => ibinW op v z S2 fun r S3 => ∃ fs', S3[n]? = some (.ins c fs') ∧ fs'.length < 1000 ∧ D.nx env (S3.set n (.ins c (putF f r fs')))
  | .expr e, X, D, env, S => wE G C (fun c S' => X c env S') e env S fun _ S1 => D.nx env S1
  | .ret e, X, D, env, S => wE G C (fun c S' => X c env S') e env S D.rt
  | .retN, _, D, _, S => D.rt .non S
  | .ife c a b, X, D, env, S => wT G C (fun c S' => X c env S') c env S fun r S1 => if r = true then wSs a X D env S1 else wSs b X D env S1
  | .for tg src body, X, D, env, S => wSrc G C (fun c S' => X c env S') src env S fun items guard S1 => forL tg guard (wSs body X) D items env S1
  | .while c body, X, D, env, S => ∃ n, whileN (fun env S K => wT G C (fun c S' => X c env S') c env S K) (wSs body X) D n env S
  | .raise c, X, _, env, S => X c env S
  | .try body hs orelse, X, D, env, S => wSs body (fun c env' S' => wHs c hs X D env' S') { nx := fun env' S' => wSs orelse X D env' S', rt := D.rt, ct := D.ct } env S
  | .cont, _, D, env, S => D.ct env S
  | .pass, _, D, env, S => D.nx env S
  | .lck i s, X, D, env, S => ∃ n kvs, eg env i = some (.ref n) ∧ S[n]? = some (.dic kvs) ∧ wS s X (lckD n kvs D) env (S.set n (.lck (.dic kvs)))
def wSs : Sts → XS → Sp → Env → Hm → Prop
  | .nil, _, D, env, S => D.nx env S
  | .cons s ss, X, D, env, S => wS s X { nx := fun env' S' => wSs ss X D env' S', rt := D.rt, ct := D.ct } env S
def wHs (c : String) : Hs → XS → Sp → Env → Hm → Prop
  | .nil, X, _, env, S => X c env S
  | .cons h i body rest, X, D, env, S => if sub c h = true then (match i with
      | none => wSs body X D env S
      | some i => wSs body X { nx := fun env' S' => D.nx (es env' i none) S', rt := D.rt, ct := fun env' S' => D.ct (es env' i none) S' } (es env i (some (.exc c))) S) else wHs c rest X D env S
end
end
end Mi

set_option maxHeartbeats 2000000
namespace Mi
open PySem
section
variable {Q Q' : Post} {x y z : Val} {S : Hm}
theorem eqD_mono {Q Q' : Bool → Prop} (hq : ∀ b, Q b → Q' b) (h : eqD x y S Q) : eqD x y S Q' := by
  revert h
  unfold eqD
  split
  · rintro ⟨ks, ls, b, h1, h2, h3, h4⟩
    exact ⟨ks, ls, b, h1, h2, h3, hq _ h4⟩
  · exact fun h => h
theorem eqW_mono {Q Q' : Bool → Prop} (hq : ∀ b, Q b → Q' b) (h : eqW x y S Q) : eqW x y S Q' := by
  rcases h with ⟨d, e, h1, h2, h3⟩ | h
  · exact .inl ⟨d, e, h1, h2, hq _ h3⟩
  · exact .inr (eqD_mono hq h)
theorem inW_mono {Q Q' : Bool → Prop} (hq : ∀ b, Q b → Q' b) (h : inW x y S Q) : inW x y S Q' := by
  revert h
  unfold inW
  cases y with
  | str b =>
    cases x with
    | str a =>
      intro h
      rcases h with ⟨c, h1, h2⟩ | h
      · exact .inl ⟨c, h1, hq _ h2⟩
      · exact .inr (hq _ h)
    | _ => intro h; exact h.elim
  | tup xs => exact fun h => ⟨h.1, h.2.1, hq _ h.2.2⟩
  | ref n =>
    intro h
    rcases h with ⟨xs, h1, ⟨h2, h3, h4⟩ | ⟨d, ds, h2, h3, h4⟩⟩ | ⟨kvs, k, h1, h2, h3⟩
    · exact .inl ⟨xs, h1, .inl ⟨h2, h3, hq _ h4⟩⟩
    · exact .inl ⟨xs, h1, .inr ⟨d, ds, h2, h3, hq _ h4⟩⟩
    · exact .inr ⟨kvs, k, h1, h2, hq _ h3⟩
  | _ => intro h; exact h.elim
theorem binW_mono {op : Operator} (hq : ∀ v S, Q v S → Q' v S) (h : binW op x y S Q) : binW op x y S Q' := by
  revert h
  unfold binW
  split <;> intro h <;> grind
theorem ibinW_mono {op : Operator} (hq : ∀ v S, Q v S → Q' v S) (h : ibinW op x y S Q) : ibinW op x y S Q' := by
  revert h
  unfold ibinW
  split <;> intro h <;> grind
theorem cmpW_mono {op : CmpOp} {Q Q' : Bool → Prop} (hq : ∀ b, Q b → Q' b) (h : cmpW op x y S Q) : cmpW op x y S Q' := by
  revert h
  unfold cmpW
  cases op <;> intro h
  case Eq => exact eqW_mono hq h
  case NotEq => exact eqW_mono (fun b => hq _) h
  case In => exact inW_mono hq h
  case NotIn => exact inW_mono (fun b => hq _) h
  all_goals grind
theorem subW_mono (hq : ∀ v S, Q v S → Q' v S) (h : subW x y S Q) : subW x y S Q' := by
  revert h
  unfold subW
  split <;> intro h <;> grind
theorem sliceW_mono {lo hi : Option Int} (hq : ∀ v S, Q v S → Q' v S) (h : sliceW x lo hi S Q) : sliceW x lo hi S Q' := by
  revert h
  unfold sliceW
  split <;> intro h <;> grind
theorem viW_mono {f : Vi} {vs : List Val} {S : Hm} {Q Q' : Post} (hq : ∀ v S, Q v S → Q' v S) (h : viW f vs S Q) : viW f vs S Q' := by
  revert h
  unfold viW
  split <;> intro h
  · exact hq _ _ h
  · exact h
theorem biW_mono {f : Bi} {args : List Val} (hq : ∀ v S, Q v S → Q' v S) (h : biW f args S Q) : biW f args S Q' := by
  revert h
  unfold biW
  split <;> intro h <;> grind
theorem bmW_mono {m : Bm} {args : List Val} (hq : ∀ v S, Q v S → Q' v S) (h : bmW m x args S Q) : bmW m x args S Q' := by
  revert h
  unfold bmW
  split <;> intro h <;> grind
theorem setW_mono {Q Q' : Hm → Prop} (hq : ∀ S, Q S → Q' S) (h : setW x y z S Q) : setW x y z S Q' := by
  revert h
  unfold setW
  split <;> intro h <;> grind
theorem tgW_mono {tg : Tg} {e : Env} {K K' : Env → Prop} (hq : ∀ e, K e → K' e) (h : tgW tg x e K) : tgW tg x e K' := by
  revert h
  unfold tgW
  split <;> intro h <;> grind
theorem seqOf_mono {K K' : List Val → (Hm → Prop) → Prop} (hq : ∀ xs g, K xs g → K' xs g) (h : seqOf x S K) : seqOf x S K' := by
  revert h
  unfold seqOf
  split <;> intro h <;> grind
theorem ltOf_mono {K K' : List Val → (Hm → Prop) → Prop} (hq : ∀ xs g, K xs g → K' xs g) (h : ltOf x S K) : ltOf x S K' := by
  revert h
  unfold ltOf
  split <;> intro h
  · exact hq _ _ h
  · exact let ⟨xs, h1, h2⟩ := h; ⟨xs, h1, hq _ _ h2⟩
  · exact h
theorem zipOf_mono {y : Val} {K K' : List Val → (Hm → Prop) → Prop} (hq : ∀ xs g, K xs g → K' xs g) (h : zipOf x y S K) : zipOf x y S K' := by
  rcases h with ⟨n, m, xs, ys, h1, h2, h3, h4, h5⟩ | ⟨xs, ys, h1, h2, h3⟩
  · exact .inl ⟨n, m, xs, ys, h1, h2, h3, h4, hq _ _ h5⟩
  · exact .inr ⟨xs, ys, h1, h2, hq _ _ h3⟩
theorem lstOf_mono {K K' : List Val → (Hm → Prop) → Prop} (hq : ∀ xs g, K xs g → K' xs g) (h : lstOf x S K) : lstOf x S K' := by
  revert h
  unfold lstOf
  split <;> intro h <;> grind
theorem lcLoop_mono {turn turn' : Val → Hm → (Option Val → Hm → Prop) → Prop} {guard : Hm → Prop} (ht : ∀ v S K K', (∀ r S, K r S → K' r S) → turn v S K → turn' v S K') : ∀ {vs acc : List Val} {S : Hm} {Q Q' : List Val → Hm → Prop}, (∀ a S, Q a S → Q' a S) → lcLoop turn guard vs acc S Q → lcLoop turn' guard vs acc S Q'
  | [], acc, S, Q, Q', hq, h => ⟨h.1, hq _ _ h.2⟩
  | v :: vs, acc, S, Q, Q', hq, h => by
    refine ⟨h.1, ht _ _ _ _ (fun r S1 h1 => ?_) h.2⟩
    cases r with
    | none => exact lcLoop_mono ht hq h1
    | some x => exact ⟨h1.1, lcLoop_mono ht hq h1.2⟩
end
/-- a call's reading, with more wished for -/
def CMono (C : CallW) : Prop := ∀ f vs S Q Q' X X', (∀ v S, Q v S → Q' v S) → (∀ c S, X c S → X' c S) → C f vs S Q X → C f vs S Q' X'
section
variable {G : String → Option Val} {C : CallW} (hC : CMono C)
include hC
mutual
theorem wE_mono : ∀ {X X' : XPost}, (∀ c S, X c S → X' c S) → ∀ (e : E) {env : Env} {S : Hm} {Q Q' : Post}, (∀ v S, Q v S → Q' v S) → wE G C X e env S Q → wE G C X' e env S Q'
  | X, X', hX, .loc i, env, S, Q, Q', hq, h => by
    simp only [wE] at h ⊢
    obtain ⟨v, h1, h2⟩ := h
    exact ⟨v, h1, hq _ _ h2⟩
  | X, X', hX, .lit c, env, S, Q, Q', hq, h => hq _ _ h
  | X, X', hX, .con x, env, S, Q, Q', hq, h => by
    simp only [wE] at h ⊢
    obtain ⟨v, h1, h2⟩ := h
    exact ⟨v, h1, hq _ _ h2⟩
  | X, X', hX, .bin op a b, env, S, Q, Q', hq, h => by
    simp only [wE] at h ⊢
    exact wE_mono hX a (fun x S1 h1 => wE_mono hX b (fun y S2 h2 => binW_mono hq h2) h1) h
  | X, X', hX, .neg a, env, S, Q, Q', hq, h => by
    simp only [wE] at h ⊢
    exact wE_mono hX a (fun x S1 ⟨i, h1, h2⟩ => ⟨i, h1, hq _ _ h2⟩) h
  | X, X', hX, .cmp op a b, env, S, Q, Q', hq, h => by
    simp only [wE] at h ⊢
    exact wE_mono hX a (fun x S1 h1 => wE_mono hX b (fun y S2 h2 => cmpW_mono (fun r h3 => hq _ _ h3) h2) h1) h
  | X, X', hX, .cmp2 op op' a b c, env, S, Q, Q', hq, h => by
    simp only [wE] at h ⊢
    refine wE_mono hX a (fun x S1 h1 => wE_mono hX b (fun y S2 h2 => cmpW_mono (fun r h3 => ?_) h2) h1) h
    cases r with
    | true =>
      simp only [if_true] at h3 ⊢
      exact wE_mono hX c (fun z S3 h4 => cmpW_mono (fun r' h5 => hq _ _ h5) h4) h3
    | false =>
      simp only [Bool.false_eq_true, if_false] at h3 ⊢
      exact hq _ _ h3
  | X, X', hX, .isN a, env, S, Q, Q', hq, h => by
    simp only [wE] at h ⊢
    exact wE_mono hX a (fun x S1 h1 => hq _ _ h1) h
  | X, X', hX, .notN a, env, S, Q, Q', hq, h => by
    simp only [wE] at h ⊢
    exact wE_mono hX a (fun x S1 h1 => hq _ _ h1) h
  | X, X', hX, .isB a b, env, S, Q, Q', hq, h => by
    simp only [wE] at h ⊢
    exact wE_mono hX a (fun x S1 ⟨c, h1, h2⟩ => ⟨c, h1, hq _ _ h2⟩) h
  | X, X', hX, .not a, env, S, Q, Q', hq, h => by
    simp only [wE] at h ⊢
    exact wE_mono hX a (fun x S1 ⟨c, h1, h2⟩ => ⟨c, h1, hq _ _ h2⟩) h
  | X, X', hX, .and a b, env, S, Q, Q', hq, h => by
    simp only [wE] at h ⊢
    refine wE_mono hX a (fun x S1 ⟨c, h1, h2⟩ => ⟨c, h1, ?_⟩) h
    cases c with
    | true =>
      simp only [if_true] at h2 ⊢
      exact wE_mono hX b hq h2
    | false =>
      simp only [Bool.false_eq_true, if_false] at h2 ⊢
      exact hq _ _ h2
  | X, X', hX, .or a b, env, S, Q, Q', hq, h => by
    simp only [wE] at h ⊢
    refine wE_mono hX a (fun x S1 ⟨c, h1, h2⟩ => ⟨c, h1, ?_⟩) h
    cases c with
    | true =>
      simp only [if_true] at h2 ⊢
      exact hq _ _ h2
    | false =>
      simp only [Bool.false_eq_true, if_false] at h2 ⊢
      exact wE_mono hX b hq h2
  | X, X', hX, .ite c a b, env, S, Q, Q', hq, h => by
    simp only [wE] at h ⊢
    refine wT_mono hX c (fun r S1 h1 => ?_) h
    cases r with
    | true =>
      simp only [if_true] at h1 ⊢
      exact wE_mono hX a hq h1
    | false =>
      simp only [Bool.false_eq_true, if_false] at h1 ⊢
      exact wE_mono hX b hq h1
  | X, X', hX, .tup es, env, S, Q, Q', hq, h => by
    simp only [wE] at h ⊢
    exact wEs_mono hX es (fun vs S1 h1 => ⟨h1.1, hq _ _ h1.2⟩) h
  | X, X', hX, .lst es, env, S, Q, Q', hq, h => by
    simp only [wE] at h ⊢
    exact wEs_mono hX es (fun vs S1 h1 => ⟨h1.1, hq _ _ h1.2⟩) h
  | X, X', hX, .dic ps, env, S, Q, Q', hq, h => by
    simp only [wE] at h ⊢
    exact wPs_mono hX ps (fun vs S1 h1 => hq _ _ h1) h
  | X, X', hX, .call f es, env, S, Q, Q', hq, h => by
    simp only [wE] at h ⊢
    exact wEs_mono hX es (fun vs S1 h1 => hC _ _ _ _ _ _ _ hq hX h1) h
  | X, X', hX, .make c es, env, S, Q, Q', hq, h => by
    simp only [wE] at h ⊢
    exact wEs_mono hX es (fun vs S1 h1 => hC _ _ _ _ _ _ _ (fun v S2 h2 => ⟨h2.1, hq _ _ h2.2⟩) hX h1) h
  | X, X', hX, .meth c m o es, env, S, Q, Q', hq, h => by
    simp only [wE] at h ⊢
    exact wE_mono hX o (fun x S1 ⟨n, fs, h1, h2, h3, h4⟩ => ⟨n, fs, h1, h2, h3, wEs_mono hX es (fun vs S2 h5 => hC _ _ _ _ _ _ _ hq hX h5) h4⟩) h
  | X, X', hX, .fld o f, env, S, Q, Q', hq, h => by
    simp only [wE] at h ⊢
    exact wE_mono hX o (fun x S1 ⟨n, c, fs, v, h1, h2, h3, h4⟩ => ⟨n, c, fs, v, h1, h2, h3, hq _ _ h4⟩) h
  | X, X', hX, .sub o i, env, S, Q, Q', hq, h => by
    simp only [wE] at h ⊢
    exact wE_mono hX o (fun x S1 h1 => wE_mono hX i (fun y S2 h2 => subW_mono hq h2) h1) h
  | X, X', hX, .slice o lo hi, env, S, Q, Q', hq, h => by
    simp only [wE] at h ⊢
    exact wE_mono hX o (fun x S1 h1 => wO_mono hX lo (fun a S2 h2 => wO_mono hX hi (fun b S3 h3 => sliceW_mono hq h3) h2) h1) h
  | X, X', hX, .bi f es, env, S, Q, Q', hq, h => by
    simp only [wE] at h ⊢
    exact wEs_mono hX es (fun vs S1 h1 => biW_mono hq h1) h
  | X, X', hX, .vi f es, env, S, Q, Q', hq, h => by
    simp only [wE] at h ⊢
    exact wEs_mono hX es (fun vs S1 h1 => viW_mono hq h1) h
  | X, X', hX, .bm m o es, env, S, Q, Q', hq, h => by
    simp only [wE] at h ⊢
    exact wE_mono hX o (fun x S1 h1 => ⟨h1.1, wEs_mono hX es (fun vs S2 h2 => bmW_mono hq h2) h1.2⟩) h
  | X, X', hX, .isi a ts, env, S, Q, Q', hq, h => by
    simp only [wE] at h ⊢
    exact wE_mono hX a (fun x S1 ⟨bs, h1, h2⟩ => ⟨bs, h1, hq _ _ h2⟩) h
  | X, X', hX, .lc elt tg src cond own, env, S, Q, Q', hq, h => by
    simp only [wE] at h ⊢
    refine wSrc_mono hX src (fun items guard S1 h1 => lcLoop_mono (fun v S2 K K' hk h2 => tgW_mono (fun e2 h3 => wC_mono (fun _ _ h => h) cond (fun b S3 h4 => ?_) h3) h2) (fun acc S2 h2 => hq _ _ h2) h1) h
    cases b with
    | true =>
      simp only [if_true] at h4 ⊢
      exact wE_mono (fun _ _ h => h) elt (fun x S4 h5 => hk _ _ h5) h4
    | false =>
      simp only [Bool.false_eq_true, if_false] at h4 ⊢
      exact hk _ _ h4
  | X, X', hX, .lck i e, env, S, Q, Q', hq, h => by
    simp only [wE] at h ⊢
    obtain ⟨n, kvs, h1, h2, h3⟩ := h
    exact ⟨n, kvs, h1, h2, wE_mono hX e (fun v S1 h4 => ⟨h4.1, hq _ _ h4.2⟩) h3⟩
theorem wEs_mono : ∀ {X X' : XPost}, (∀ c S, X c S → X' c S) → ∀ (es : Es) {env : Env} {S : Hm} {Q Q' : List Val → Hm → Prop}, (∀ v S, Q v S → Q' v S) → wEs G C X es env S Q → wEs G C X' es env S Q'
  | X, X', hX, .nil, env, S, Q, Q', hq, h => hq _ _ h
  | X, X', hX, .cons e es, env, S, Q, Q', hq, h => by
    simp only [wEs] at h ⊢
    exact wE_mono hX e (fun x S1 h1 => wEs_mono hX es (fun xs S2 h2 => hq _ _ h2) h1) h
theorem wPs_mono : ∀ {X X' : XPost}, (∀ c S, X c S → X' c S) → ∀ (ps : Ps) {env : Env} {S : Hm} {Q Q' : List (Key × Val) → Hm → Prop}, (∀ v S, Q v S → Q' v S) → wPs G C X ps env S Q → wPs G C X' ps env S Q'
  | X, X', hX, .nil, env, S, Q, Q', hq, h => hq _ _ h
  | X, X', hX, .cons k v ps, env, S, Q, Q', hq, h => by
    simp only [wPs] at h ⊢
    exact wE_mono hX k (fun x S1 h1 => wE_mono hX v (fun y S2 ⟨q, h2, h3⟩ => ⟨q, h2, wPs_mono hX ps (fun r S3 h4 => hq _ _ h4) h3⟩) h1) h
theorem wO_mono : ∀ {X X' : XPost}, (∀ c S, X c S → X' c S) → ∀ (o : Oe) {env : Env} {S : Hm} {Q Q' : Option Int → Hm → Prop}, (∀ v S, Q v S → Q' v S) → wO G C X o env S Q → wO G C X' o env S Q'
  | X, X', hX, .none, env, S, Q, Q', hq, h => hq _ _ h
  | X, X', hX, .some e, env, S, Q, Q', hq, h => by
    simp only [wO] at h ⊢
    exact wE_mono hX e (fun x S1 ⟨i, h1, h2⟩ => ⟨i, h1, hq _ _ h2⟩) h
theorem wC_mono : ∀ {X X' : XPost}, (∀ c S, X c S → X' c S) → ∀ (o : Ot) {env : Env} {S : Hm} {Q Q' : Bool → Hm → Prop}, (∀ v S, Q v S → Q' v S) → wC G C X o env S Q → wC G C X' o env S Q'
  | X, X', hX, .none, env, S, Q, Q', hq, h => hq _ _ h
  | X, X', hX, .some t, env, S, Q, Q', hq, h => by
    simp only [wC] at h ⊢
    exact wT_mono hX t hq h
theorem wT_mono : ∀ {X X' : XPost}, (∀ c S, X c S → X' c S) → ∀ (t : T) {env : Env} {S : Hm} {Q Q' : Bool → Hm → Prop}, (∀ v S, Q v S → Q' v S) → wT G C X t env S Q → wT G C X' t env S Q'
  | X, X', hX, .v e, env, S, Q, Q', hq, h => by
    simp only [wT] at h ⊢
    exact wE_mono hX e (fun x S1 ⟨b, h1, h2⟩ => ⟨b, h1, hq _ _ h2⟩) h
  | X, X', hX, .not a, env, S, Q, Q', hq, h => by
    simp only [wT] at h ⊢
    exact wT_mono hX a (fun b S1 h1 => hq _ _ h1) h
  | X, X', hX, .and a b, env, S, Q, Q', hq, h => by
    simp only [wT] at h ⊢
    refine wT_mono hX a (fun c S1 h1 => ?_) h
    cases c with
    | true =>
      simp only [if_true] at h1 ⊢
      exact wT_mono hX b hq h1
    | false =>
      simp only [Bool.false_eq_true, if_false] at h1 ⊢
      exact hq _ _ h1
  | X, X', hX, .or a b, env, S, Q, Q', hq, h => by
    simp only [wT] at h ⊢
    refine wT_mono hX a (fun c S1 h1 => ?_) h
    cases c with
    | true =>
      simp only [if_true] at h1 ⊢
      exact hq _ _ h1
    | false =>
      simp only [Bool.false_eq_true, if_false] at h1 ⊢
      exact wT_mono hX b hq h1
theorem wSrc_mono : ∀ {X X' : XPost}, (∀ c S, X c S → X' c S) → ∀ (s : Src) {env : Env} {S : Hm} {K K' : List Val → (Hm → Prop) → Hm → Prop}, (∀ xs g S, K xs g S → K' xs g S) → wSrc G C X s env S K → wSrc G C X' s env S K'
  | X, X', hX, .seq e, env, S, K, K', hk, h => by
    simp only [wSrc] at h ⊢
    exact wE_mono hX e (fun x S1 h1 => seqOf_mono (fun xs g h2 => hk _ _ _ h2) h1) h
  | X, X', hX, .rng1 a, env, S, K, K', hk, h => by
    simp only [wSrc] at h ⊢
    exact wE_mono hX a (fun x S1 ⟨j, h1, h2, h3⟩ => ⟨j, h1, h2, hk _ _ _ h3⟩) h
  | X, X', hX, .rng2 a b, env, S, K, K', hk, h => by
    simp only [wSrc] at h ⊢
    exact wE_mono hX a (fun x S1 h1 => wE_mono hX b (fun y S2 ⟨i, j, h2, h3, h4, h5, h6⟩ => ⟨i, j, h2, h3, h4, h5, hk _ _ _ h6⟩) h1) h
  | X, X', hX, .enum a, env, S, K, K', hk, h => by
    simp only [wSrc] at h ⊢
    exact wE_mono hX a (fun x S1 h1 => lstOf_mono (fun xs g h2 => hk _ _ _ h2) h1) h
  | X, X', hX, .zip a b, env, S, K, K', hk, h => by
    simp only [wSrc] at h ⊢
    exact wE_mono hX a (fun x S1 h1 => wE_mono hX b (fun y S2 h2 => zipOf_mono (fun xs g h3 => hk _ _ _ h3) h2) h1) h
  | X, X', hX, .rev a, env, S, K, K', hk, h => by
    simp only [wSrc] at h ⊢
    exact wE_mono hX a (fun x S1 h1 => ltOf_mono (fun xs g h2 => hk _ _ _ h2) h1) h
  | X, X', hX, .rng3 a b c, env, S, K, K', hk, h => by simp only [wSrc] at h
  | X, X', hX, .items a, env, S, K, K', hk, h => by
    simp only [wSrc] at h ⊢
    exact wE_mono hX a (fun x S1 ⟨n, kvs, h1, h2, h3⟩ => ⟨n, kvs, h1, h2, hk _ _ _ h3⟩) h
  | X, X', hX, .values a, env, S, K, K', hk, h => by
    simp only [wSrc] at h ⊢
    exact wE_mono hX a (fun x S1 ⟨n, kvs, h1, h2, h3⟩ => ⟨n, kvs, h1, h2, hk _ _ _ h3⟩) h
  | X, X', hX, .keys a, env, S, K, K', hk, h => by
    simp only [wSrc] at h ⊢
    exact wE_mono hX a (fun x S1 ⟨n, kvs, h1, h2, h3⟩ => ⟨n, kvs, h1, h2, hk _ _ _ h3⟩) h
end
end

/-- more is wished for behind a statement -/
structure Sp.Le (D D' : Sp) : Prop where
  nx : ∀ e S, D.nx e S → D'.nx e S
  rt : ∀ v S, D.rt v S → D'.rt v S
  ct : ∀ e S, D.ct e S → D'.ct e S
theorem forL_mono {tg : Tg} {guard : Hm → Prop} {body body' : Sp → Env → Hm → Prop} (hb : ∀ D D' e S, Sp.Le D D' → body D e S → body' D' e S) {D D' : Sp} (hD : Sp.Le D D') : ∀ {vs : List Val} {e : Env} {S : Hm}, forL tg guard body D vs e S → forL tg guard body' D' vs e S
  | [], e, S, h => ⟨h.1, hD.nx _ _ h.2⟩
  | v :: vs, e, S, h => ⟨h.1, tgW_mono (fun e2 h2 => hb { nx := forL tg guard body D vs, rt := D.rt, ct := forL tg guard body D vs } { nx := forL tg guard body' D' vs, rt := D'.rt, ct := forL tg guard body' D' vs } _ _ ⟨fun _ _ => forL_mono hb hD, hD.rt, fun _ _ => forL_mono hb hD⟩ h2) h.2⟩
theorem whileN_mono {c c' : Env → Hm → (Bool → Hm → Prop) → Prop} (hc : ∀ e S Q Q', (∀ b S, Q b S → Q' b S) → c e S Q → c' e S Q') {body body' : Sp → Env → Hm → Prop} (hb : ∀ D D' e S, Sp.Le D D' → body D e S → body' D' e S) {D D' : Sp} (hD : Sp.Le D D') :
    ∀ {n : Nat} {e : Env} {S : Hm}, whileN c body D n e S → whileN c' body' D' n e S
  | 0, e, S, h => h
  | n + 1, e, S, h => by
    refine hc _ _ _ _ (fun b S1 h1 => ?_) h
    cases b with
    | true =>
      simp only [if_true] at h1 ⊢
      exact hb { nx := whileN c body D n, rt := D.rt, ct := whileN c body D n } { nx := whileN c' body' D' n, rt := D'.rt, ct := whileN c' body' D' n } _ _ ⟨fun _ _ => whileN_mono hc hb hD, hD.rt, fun _ _ => whileN_mono hc hb hD⟩ h1
    | false =>
      simp only [Bool.false_eq_true, if_false] at h1 ⊢
      exact hD.nx _ _ h1
section
variable {G : String → Option Val} {sub : String → String → Bool} {C : CallW} (hC : CMono C)
include hC
mutual
theorem wS_mono : ∀ (s : St) {X X' : XS} {D D' : Sp} {env : Env} {S : Hm}, (∀ c e S, X c e S → X' c e S) → Sp.Le D D' → wS G sub C s X D env S → wS G sub C s X' D' env S
  | .set i e, X, X', D, D', env, S, hX, hD, h => by
    simp only [wS] at h ⊢
    exact wE_mono hC (fun c S1 => hX c env S1) e (fun v S1 h1 => hD.nx _ _ h1) h
  | .setT is e, X, X', D, D', env, S, hX, hD, h => by
    simp only [wS] at h ⊢
    exact wE_mono hC (fun c S1 => hX c env S1) e (fun v S1 h1 => tgW_mono (fun e2 h2 => hD.nx _ _ h2) h1) h
  | .par is es', X, X', D, D', env, S, hX, hD, h => by
    simp only [wS] at h ⊢
    exact wEs_mono hC (fun c S1 => hX c env S1) es' (fun v S1 h1 => ⟨h1.1, hD.nx _ _ h1.2⟩) h
  | .setI o i e, X, X', D, D', env, S, hX, hD, h => by
    simp only [wS] at h ⊢
    exact wE_mono hC (fun c S1 => hX c env S1) e (fun v S1 h1 => wE_mono hC (fun c S1 => hX c env S1) o (fun x S2 h2 => wE_mono hC (fun c S1 => hX c env S1) i (fun y S3 h3 => setW_mono (fun S4 h4 => hD.nx _ _ h4) h3) h2) h1) h
  | .setF o f e, X, X', D, D', env, S, hX, hD, h => by
    simp only [wS] at h ⊢
    exact wE_mono hC (fun c S1 => hX c env S1) e (fun v S1 h1 => wE_mono hC (fun c S1 => hX c env S1) o (fun x S2 ⟨n, c, fs, h2, h3, h4, h5⟩ => ⟨n, c, fs, h2, h3, h4, hD.nx _ _ h5⟩) h1) h
  | .aug i op e, X, X', D, D', env, S, hX, hD, h => by
    simp only [wS] at h ⊢
    obtain ⟨x, h1, h2⟩ := h
    exact ⟨x, h1, wE_mono hC (fun c S1 => hX c env S1) e (fun y S1 h3 => ibinW_mono (fun z S2 h4 => hD.nx _ _ h4) h3) h2⟩
  | .augI o i op e, X, X', D, D', env, S, hX, hD, h => by
    simp only [wS] at h ⊢
    exact wE_mono hC (fun c S1 => hX c env S1) o (fun x S1 h1 => wE_mono hC (fun c S1 => hX c env S1) i (fun y S2 h2 => ⟨h2.1, subW_mono (fun old S3 h3 => wE_mono hC (fun c S1 => hX c env S1) e (fun z S4 h4 => ibinW_mono (fun r S5 h5 => setW_mono (fun S6 h6 => hD.nx _ _ h6) h5) h4) h3) h2.2⟩) h1) h
  | .augF o f op e, X, X', D, D', env, S, hX, hD, h => by
    simp only [wS] at h ⊢
    exact wE_mono hC (fun c S1 => hX c env S1) o (fun x S1 ⟨n, c, fs, v, h1, h2, h3, h4⟩ => ⟨n, c, fs, v, h1, h2, h3, wE_mono hC (fun c S1 => hX c env S1) e (fun z S2 h5 => ibinW_mono (fun r S3 ⟨fs', h6, h7, h8⟩ => ⟨fs', h6, h7, hD.nx _ _ h8⟩) h5) h4⟩) h
  | .expr e, X, X', D, D', env, S, hX, hD, h => by
    simp only [wS] at h ⊢
    exact wE_mono hC (fun c S1 => hX c env S1) e (fun v S1 h1 => hD.nx _ _ h1) h
  | .ret e, X, X', D, D', env, S, hX, hD, h => by
    simp only [wS] at h ⊢
    exact wE_mono hC (fun c S1 => hX c env S1) e hD.rt h
  | .retN, X, X', D, D', env, S, hX, hD, h => hD.rt _ _ h
  | .ife c a b, X, X', D, D', env, S, hX, hD, h => by
    simp only [wS] at h ⊢
    refine wT_mono hC (fun c S1 => hX c env S1) c (fun r S1 h1 => ?_) h
    cases r with
    | true =>
      simp only [if_true] at h1 ⊢
      exact wSs_mono a hX hD h1
    | false =>
      simp only [Bool.false_eq_true, if_false] at h1 ⊢
      exact wSs_mono b hX hD h1
  | .for tg src body, X, X', D, D', env, S, hX, hD, h => by
    simp only [wS] at h ⊢
    exact wSrc_mono hC (fun c S1 => hX c env S1) src (fun items g S1 h1 => forL_mono (body := wSs G sub C body X) (body' := wSs G sub C body X') (fun D D' e S hd h2 => wSs_mono body hX hd h2) hD h1) h
  | .while c body, X, X', D, D', env, S, hX, hD, h => by
    simp only [wS] at h ⊢
    obtain ⟨n, h⟩ := h
    exact ⟨n, whileN_mono (c := fun env S K => wT G C (fun c S' => X c env S') c env S K) (c' := fun env S K => wT G C (fun c S' => X' c env S') c env S K) (body := wSs G sub C body X) (body' := wSs G sub C body X') (fun e S Q Q' hq h1 => wT_mono hC (fun c S1 => hX c e S1) c hq h1) (fun D D' e S hd h2 => wSs_mono body hX hd h2) hD h⟩
  | .raise c, X, X', D, D', env, S, hX, hD, h => hX _ _ _ h
  | .try body hs orelse, X, X', D, D', env, S, hX, hD, h => by
    simp only [wS] at h ⊢
    exact wSs_mono body (X := fun c env' S' => wHs G sub C c hs X D env' S') (X' := fun c env' S' => wHs G sub C c hs X' D' env' S') (D := { nx := fun env' S' => wSs G sub C orelse X D env' S', rt := D.rt, ct := D.ct }) (D' := { nx := fun env' S' => wSs G sub C orelse X' D' env' S', rt := D'.rt, ct := D'.ct }) (fun c e S1 h1 => wHs_mono c hs hX hD h1) ⟨fun e S1 h1 => wSs_mono orelse hX hD h1, hD.rt, hD.ct⟩ h
  | .cont, X, X', D, D', env, S, hX, hD, h => hD.ct _ _ h
  | .pass, X, X', D, D', env, S, hX, hD, h => hD.nx _ _ h
  | .lck i s, X, X', D, D', env, S, hX, hD, h => by
    simp only [wS] at h ⊢
    obtain ⟨n, kvs, h1, h2, h3⟩ := h
    exact ⟨n, kvs, h1, h2, wS_mono s (D := lckD n kvs D) (D' := lckD n kvs D') hX ⟨fun _ _ h => ⟨h.1, hD.nx _ _ h.2⟩, fun _ _ h => ⟨h.1, hD.rt _ _ h.2⟩, fun _ _ h => ⟨h.1, hD.ct _ _ h.2⟩⟩ h3⟩
theorem wSs_mono : ∀ (ss : Sts) {X X' : XS} {D D' : Sp} {env : Env} {S : Hm}, (∀ c e S, X c e S → X' c e S) → Sp.Le D D' → wSs G sub C ss X D env S → wSs G sub C ss X' D' env S
  | .nil, X, X', D, D', env, S, hX, hD, h => hD.nx _ _ h
  | .cons s ss, X, X', D, D', env, S, hX, hD, h => by
    simp only [wSs] at h ⊢
    exact wS_mono s (D := { nx := fun env' S' => wSs G sub C ss X D env' S', rt := D.rt, ct := D.ct }) (D' := { nx := fun env' S' => wSs G sub C ss X' D' env' S', rt := D'.rt, ct := D'.ct }) hX ⟨fun e S1 h1 => wSs_mono ss hX hD h1, hD.rt, hD.ct⟩ h
theorem wHs_mono (c : String) : ∀ (hs : Hs) {X X' : XS} {D D' : Sp} {env : Env} {S : Hm}, (∀ c e S, X c e S → X' c e S) → Sp.Le D D' → wHs G sub C c hs X D env S → wHs G sub C c hs X' D' env S
  | .nil, X, X', D, D', env, S, hX, hD, h => hX _ _ _ h
  | .cons h' i body rest, X, X', D, D', env, S, hX, hD, h => by
    simp only [wHs] at h ⊢
    split at h
    · rename_i hs
      rw [if_pos hs]
      cases i with
      | none => exact wSs_mono body hX hD h
      | some i => exact wSs_mono body (D := { nx := fun env' S' => D.nx (es env' i none) S', rt := D.rt, ct := fun env' S' => D.ct (es env' i none) S' }) (D' := { nx := fun env' S' => D'.nx (es env' i none) S', rt := D'.rt, ct := fun env' S' => D'.ct (es env' i none) S' }) hX ⟨fun e S1 h1 => hD.nx _ _ h1, hD.rt, fun e S1 h1 => hD.ct _ _ h1⟩ h
    · rename_i hs
      rw [if_neg hs]
      exact wHs_mono c rest hX hD h
end
end

/-! ### programs -/
structure FDef where
  params : Nat
  names : List String
  dflt : List Lit
  body : Sts
structure Pg where
  flds : List String
  cls : List String
  excs : List String
  tups : List (String × List Lit)
  fn : FK → Option FDef
  con : String → Option Val
  sub : String → String → Bool
def startE (d : FDef) (args : List Val) : Env := args.map some ++ List.replicate (d.names.length - args.length) none
/-- a def's body, run with all its arguments -/
def bodyW (P : Pg) (C : CallW) (d : FDef) (args : List Val) (S : Hm) (Q : Post) (X : XPost) : Prop :=
  args.length = d.params ∧ wSs P.con P.sub C d.body (fun c _ S' => X c S') { nx := fun _ S' => Q .non S', rt := Q } (startE d args) S
def padded (d : FDef) (args : List Val) : List Val := args ++ (d.dflt.drop (args.length + d.dflt.length - d.params)).map Lit.val
def FK.init : FK → Bool
  | .f _ => false
  | .m _ x => x == "__init__"
/-- a call, k deep at most; an __init__ counts twice -/
def callW (P : Pg) : Nat → CallW
  | 0 => fun _ _ _ _ _ => False
  | k + 1 => fun f args S Q X => ∃ d, P.fn f = some d ∧ if f.init = true then (match k with
      | 0 => False
      | k' + 1 => bodyW P (callW P k') d (padded d args) S Q X) else bodyW P (callW P k) d (padded d args) S Q X
theorem bodyW_mono {P : Pg} {C : CallW} (hC : CMono C) {d : FDef} {args : List Val} {S : Hm} {Q Q' : Post} {X X' : XPost} (hq : ∀ v S, Q v S → Q' v S) (hx : ∀ c S, X c S → X' c S) (h : bodyW P C d args S Q X) : bodyW P C d args S Q' X' :=
  ⟨h.1, wSs_mono hC d.body (X := fun c _ S' => X c S') (X' := fun c _ S' => X' c S') (D := { nx := fun _ S' => Q .non S', rt := Q }) (D' := { nx := fun _ S' => Q' .non S', rt := Q' }) (fun c _ S1 => hx c S1) ⟨fun _ S1 => hq _ S1, hq, fun _ _ h => h⟩ h.2⟩
theorem callW_one {P : Pg} {f : FK} {args : List Val} {S : Hm} {Q : Post} {X : XPost} : callW P 1 f args S Q X = ∃ d, P.fn f = some d ∧ if f.init = true then False else bodyW P (callW P 0) d (padded d args) S Q X := rfl
theorem callW_two {P : Pg} {k : Nat} {f : FK} {args : List Val} {S : Hm} {Q : Post} {X : XPost} : callW P (k + 2) f args S Q X = ∃ d, P.fn f = some d ∧ if f.init = true then bodyW P (callW P k) d (padded d args) S Q X else bodyW P (callW P (k + 1)) d (padded d args) S Q X := rfl
theorem callW_mono (P : Pg) : ∀ k, CMono (callW P k)
  | 0 => fun _ _ _ _ _ _ _ _ _ h => h
  | 1 => fun f vs S Q Q' X X' hq hx h => by
      rw [callW_one] at h ⊢
      obtain ⟨d, h1, h2⟩ := h
      refine ⟨d, h1, ?_⟩
      split at h2
      · exact h2.elim
      · rename_i hi
        rw [if_neg hi]
        exact bodyW_mono (callW_mono P 0) hq hx h2
  | k + 2 => fun f vs S Q Q' X X' hq hx h => by
      rw [callW_two] at h ⊢
      obtain ⟨d, h1, h2⟩ := h
      refine ⟨d, h1, ?_⟩
      split at h2
      · rename_i hi
        rw [if_pos hi]
        exact bodyW_mono (callW_mono P k) hq hx h2
      · rename_i hi
        rw [if_neg hi]
        exact bodyW_mono (callW_mono P (k + 1)) hq hx h2
end Mi

set_option maxHeartbeats 2000000
namespace Mi
open PySem PySem.Spec L2 PyProof.Rows

/-- how the small heap lies in the abstract one: em, the addresses of its places; z, the exception at hand -/
structure Sm where
  K : PySem.W.Frag
  H : Hp
  em : List Addr
  z : Option (Addr × String)

mutual
inductive RD (m : Sm) : Val → V → Prop where
  | non : RD m .non .non
  | bl (b : Bool) : RD m (.bl b) (.bl b)
  | int (i : Int) : RD m (.int i) (.int i)
  | str (x : String) : RD m (.str x) (.str (Str.ofString x))
  | tup {a : Addr} {xs : List V} {ds : List Val} : SqT m.K m.H a xs → RDs m ds xs → RD m (.tup ds) (.ref a)
  | ref {n : Nat} {a : Addr} : m.em[n]? = some a → RD m (.ref n) (.ref a)
  | exc {a : Addr} {c : String} : m.z = some (a, c) → RD m (.exc c) (.ref a)
inductive RDs (m : Sm) : List Val → List V → Prop where
  | nil : RDs m [] []
  | cons {d : Val} {x : V} {ds : List Val} {xs : List V} : RD m d x → RDs m ds xs → RDs m (d :: ds) (x :: xs)
end
section
variable {m m' : Sm}
/-- what keeps values: the tuples stay, places are added -/
structure Up (m m' : Sm) : Prop where
  tup : ∀ a xs, SqT m.K m.H a xs → SqT m'.K m'.H a xs
  em : ∃ l, m'.em = m.em ++ l
  z : ∀ p, m.z = some p → m'.z = some p
theorem em_get (h : ∃ l, m'.em = m.em ++ l) {n : Nat} {a : Addr} (e : m.em[n]? = some a) : m'.em[n]? = some a := by
  obtain ⟨l, h⟩ := h
  rw [h, List.getElem?_append_left (List.getElem?_eq_some_iff.mp e).1]
  exact e
mutual
theorem RD.up (u : Up m m') : ∀ {d : Val} {x : V}, RD m d x → RD m' d x
  | _, _, .non => .non
  | _, _, .bl b => .bl b
  | _, _, .int i => .int i
  | _, _, .str x => .str x
  | _, _, .tup h hs => .tup (u.tup _ _ h) (RDs.up u hs)
  | _, _, .ref h => .ref (em_get u.em h)
  | _, _, .exc h => .exc (u.z _ h)
theorem RDs.up (u : Up m m') : ∀ {ds : List Val} {xs : List V}, RDs m ds xs → RDs m' ds xs
  | _, _, .nil => .nil
  | _, _, .cons h hs => .cons (RD.up u h) (RDs.up u hs)
end
theorem RDs.length : ∀ {ds : List Val} {xs : List V}, RDs m ds xs → ds.length = xs.length
  | _, _, .nil => rfl
  | _, _, .cons h hs => by simp [RDs.length hs]
theorem RDs.append : ∀ {ds ds' : List Val} {xs xs' : List V}, RDs m ds xs → RDs m ds' xs' → RDs m (ds ++ ds') (xs ++ xs')
  | _, _, _, _, .nil, h => h
  | _, _, _, _, .cons h hs, h' => .cons h (RDs.append hs h')
theorem RDs.get : ∀ {ds : List Val} {xs : List V} {i : Nat} {d : Val}, RDs m ds xs → ds[i]? = some d → ∃ x, xs[i]? = some x ∧ RD m d x
  | _, _, i, d, .nil, h => by simp at h
  | _, _, 0, d, .cons h hs, e => by simp at e; subst e; exact ⟨_, rfl, h⟩
  | _, _, i + 1, d, .cons h hs, e => by
    obtain ⟨x, h1, h2⟩ := RDs.get (i := i) hs (by simpa using e)
    exact ⟨x, by simpa using h1, h2⟩
theorem RDs.getV : ∀ {ds : List Val} {xs : List V} {i : Nat} {x : V}, RDs m ds xs → xs[i]? = some x → ∃ d, ds[i]? = some d ∧ RD m d x
  | _, _, i, d, .nil, h => by simp at h
  | _, _, 0, d, .cons h hs, e => by simp at e; subst e; exact ⟨_, rfl, h⟩
  | _, _, i + 1, d, .cons h hs, e => by
    obtain ⟨x, h1, h2⟩ := RDs.getV (i := i) hs (by simpa using e)
    exact ⟨x, by simpa using h1, h2⟩
theorem RDs.take : ∀ {ds : List Val} {xs : List V} (n : Nat), RDs m ds xs → RDs m (ds.take n) (xs.take n)
  | _, _, 0, _ => by simp; exact .nil
  | _, _, n + 1, .nil => by simp; exact .nil
  | _, _, n + 1, .cons h hs => .cons h (RDs.take n hs)
theorem RDs.drop : ∀ {ds : List Val} {xs : List V} (n : Nat), RDs m ds xs → RDs m (ds.drop n) (xs.drop n)
  | _, _, 0, h => h
  | _, _, n + 1, .nil => by simp; exact .nil
  | _, _, n + 1, .cons h hs => RDs.drop n hs
theorem RDs.set {d : Val} {x : V} (r : RD m d x) : ∀ {ds : List Val} {xs : List V} (i : Nat), RDs m ds xs → RDs m (ds.set i d) (xs.set i x)
  | _, _, _, .nil => .nil
  | _, _, 0, .cons _ hs => .cons r hs
  | _, _, i + 1, .cons h hs => .cons h (RDs.set r i hs)
theorem RDs.rev : ∀ {ds : List Val} {xs : List V}, RDs m ds xs → RDs m ds.reverse xs.reverse
  | _, _, .nil => .nil
  | _, _, .cons h hs => by
    rw [List.reverse_cons, List.reverse_cons]
    exact (RDs.rev hs).append (.cons h .nil)
theorem RDs.dropLast {ds : List Val} {xs : List V} (h : RDs m ds xs) : RDs m ds.dropLast xs.dropLast := by
  rw [List.dropLast_eq_take, List.dropLast_eq_take, h.length]
  exact h.take _
theorem RDs.erase : ∀ {ds : List Val} {xs : List V} (i : Nat), RDs m ds xs → RDs m (ds.eraseIdx i) (xs.eraseIdx i)
  | _, _, _, .nil => .nil
  | _, _, 0, .cons h hs => hs
  | _, _, i + 1, .cons h hs => .cons h (RDs.erase i hs)
theorem RDs.ints : ∀ {ns : List Int} {xs : List V}, RDs m (ns.map Val.int) xs → xs = ns.map V.int
  | [], _, h => by cases h; rfl
  | n :: ns, _, h => by
    cases h with
    | cons h hs =>
      cases h
      rw [RDs.ints hs]
      rfl
theorem RDs.of_ints : ∀ (ns : List Int), RDs m (ns.map Val.int) (ns.map V.int)
  | [] => .nil
  | n :: ns => .cons (.int n) (RDs.of_ints ns)
theorem RDs.bls : ∀ {ns : List Bool} {xs : List V}, RDs m (ns.map Val.bl) xs → xs = ns.map V.bl
  | [], _, h => by cases h; rfl
  | n :: ns, _, h => by
    cases h with
    | cons h hs =>
      cases h
      rw [RDs.bls hs]
      rfl
theorem RDs.replicate {ds : List Val} {xs : List V} (h : RDs m ds xs) : ∀ n : Nat, RDs m (List.replicate n ds).flatten (List.replicate n xs).flatten
  | 0 => .nil
  | n + 1 => by
    rw [List.replicate_succ, List.replicate_succ, List.flatten_cons, List.flatten_cons]
    exact h.append (RDs.replicate h n)
theorem RDs.isEmpty {ds : List Val} {xs : List V} (h : RDs m ds xs) : xs.isEmpty = ds.isEmpty := by cases h <;> rfl
end

theorem ofString_inj {x y : String} (h : Str.ofString x = Str.ofString y) : x = y := by
  rw [Str.ofString_eq_toList, Str.ofString_eq_toList] at h
  have h1 : x.toList.map Char.toNat = y.toList.map Char.toNat := by
    have := congrArg (fun s : Str => s.cps.toList) h
    simpa using this
  have inj : ∀ a b : Char, a.toNat = b.toNat → a = b := fun a b e => by
    apply Char.ext
    apply UInt32.toNat_inj.mp
    exact e
  have h2 : ∀ l l' : List Char, l.map Char.toNat = l'.map Char.toNat → l = l' := by
    intro l
    induction l with
    | nil => intro l' h; cases l' with
      | nil => rfl
      | cons a r => simp at h
    | cons a r ih => intro l' h; cases l' with
      | nil => simp at h
      | cons b r' =>
        simp only [List.map_cons, List.cons.injEq] at h
        rw [inj a b h.1, ih r' h.2]
  exact String.ext (h2 _ _ h1)
theorem ofString_iff {x y : String} : Str.ofString x = Str.ofString y ↔ x = y := ⟨ofString_inj, fun h => by rw [h]⟩
theorem len_ofString (x : String) : (Str.ofString x).length = x.length := by
  rw [Str.ofString_eq_toList]
  simp [Str.length, String.length_toList]
theorem cps_ofString (x : String) : (Str.ofString x).cps.toList = x.toList.map Char.toNat := by
  rw [Str.ofString_eq_toList]
theorem ofString_append (x y : String) : Str.ofString (x ++ y) = Str.ofString x ++ Str.ofString y := by
  rw [Str.ofString_eq_toList, Str.ofString_eq_toList, Str.ofString_eq_toList, String.toList_append, List.map_append]
  show _ = (⟨_⟩ : Str)
  simp
theorem ofString_ofList (l : List Char) : Str.ofString (String.ofList l) = ⟨(l.map Char.toNat).toArray⟩ := by
  rw [Str.ofString_eq_toList, String.toList_ofList]

def kk : Key → L2.Key
  | .inl i => .inl i
  | .inr x => .inr (Str.ofString x)
theorem kk_inj {a b : Key} (h : kk a = kk b) : a = b := by
  cases a with
  | inl i => cases b with
    | inl j => injection h with h; rw [h]
    | inr y => cases h
  | inr x => cases b with
    | inl j => cases h
    | inr y => injection h with h; rw [ofString_inj h]
theorem key_rd {m : Sm} {v : Val} {x : V} {q : Key} (h : RD m v x) (e : v.key = some q) : x = L2.kV (kk q) := by
  cases h <;> simp [Val.key] at e <;> subst e <;> rfl
theorem rd_key {m : Sm} (q : Key) : RD m (Key.val q) (L2.kV (kk q)) := by
  cases q with
  | inl i => exact .int i
  | inr x => exact .str x

/-! ### objects -/
def RKs (m : Sm) (kvs : List (Key × Val)) (ws : List (L2.Key × V)) : Prop := Paired (fun (p : Key × Val) (q : L2.Key × V) => q.1 = kk p.1 ∧ RD m p.2 q.2) kvs ws
def RFs (m : Sm) (fs : List (String × Val)) (gs : List (Str × V)) : Prop := Paired (fun (p : String × Val) (q : Str × V) => q.1 = Str.ofString p.1 ∧ RD m p.2 q.2) fs gs
section
variable {m m' : Sm}
theorem RKs.up (u : Up m m') {kvs ws} (h : RKs m kvs ws) : RKs m' kvs ws := Paired.mapP h fun _ _ r => ⟨r.1, r.2.up u⟩
theorem RFs.up (u : Up m m') {fs gs} (h : RFs m fs gs) : RFs m' fs gs := Paired.mapP h fun _ _ r => ⟨r.1, r.2.up u⟩
theorem RKs.length {kvs ws} (h : RKs m kvs ws) : kvs.length = ws.length := Paired.length h
theorem RFs.length {kvs ws} (h : RFs m kvs ws) : kvs.length = ws.length := Paired.length h
theorem RKs.look {kvs ws} (h : RKs m kvs ws) (q : Key) : (∃ v x, lookK kvs q = some v ∧ valV ws (kk q) = some x ∧ RD m v x) ∨ (lookK kvs q = none ∧ valV ws (kk q) = none) := by
  unfold RKs at h
  induction h with
  | nil => exact .inr ⟨rfl, rfl⟩
  | @cons p r ps rs h t ih =>
    by_cases e : p.1 = q
    · refine .inl ⟨p.2, r.2, ?_, ?_, h.2⟩
      · simp [lookK, e]
      · have e2 : r.1 = kk q := by rw [h.1, e]
        simp [valV, e2]
    · have e2 : ¬ r.1 = kk q := fun z => e (kk_inj (h.1.symm.trans z))
      have e3 : lookK (p :: ps) q = lookK ps q := by simp [lookK, List.find?_cons, e]
      have e4 : valV (r :: rs) (kk q) = valV rs (kk q) := valV_neg e2
      rw [e3, e4]
      exact ih
theorem RKs.any {kvs ws} (h : RKs m kvs ws) (q : Key) : (kvs.any fun kv => decide (kv.1 = q)) = (ws.any fun kv => decide (kv.1 = kk q)) := by
  unfold RKs at h
  induction h with
  | nil => rfl
  | @cons p r ps rs h t ih =>
    rw [List.any_cons, List.any_cons, ih]
    congr 1
    by_cases e : p.1 = q
    · have e2 : r.1 = kk q := by rw [h.1, e]
      simp [e, e2]
    · have e2 : ¬ r.1 = kk q := fun z => e (kk_inj (h.1.symm.trans z))
      simp [e, e2]
theorem RKs.put {kvs ws} (h : RKs m kvs ws) (q : Key) {v : Val} {x : V} (r : RD m v x) : RKs m (putK kvs q v) (L2.putK ws (kk q) x) := by
  unfold putK L2.putK
  rw [h.any q]
  split
  · rename_i hh
    clear hh
    unfold RKs at h ⊢
    induction h with
    | nil => exact .nil
    | @cons p r' ps rs h t ih =>
      rw [List.map_cons, List.map_cons]
      refine .cons ?_ ih
      by_cases e : p.1 = q
      · have e2 : r'.1 = kk q := by rw [h.1, e]
        simp only [e, e2, if_true]
        exact ⟨trivial, r⟩
      · have e2 : ¬ r'.1 = kk q := fun z => e (kk_inj (h.1.symm.trans z))
        rw [if_neg e, if_neg e2]
        exact h
  · rename_i hh
    clear hh
    unfold RKs at h ⊢
    induction h with
    | nil => exact .cons ⟨rfl, r⟩ .nil
    | cons h t ih => exact .cons h ih
theorem RKs.drop {kvs ws} (h : RKs m kvs ws) (q : Key) : RKs m (dropK kvs q) (L2.dropK ws (kk q)) := by
  unfold dropK L2.dropK
  unfold RKs at h ⊢
  induction h with
  | nil => exact .nil
  | @cons p r' ps rs h t ih =>
    by_cases e : p.1 = q
    · have e2 : r'.1 = kk q := by rw [h.1, e]
      simpa [List.filter_cons, e, e2] using ih
    · have e2 : ¬ r'.1 = kk q := fun z => e (kk_inj (h.1.symm.trans z))
      have e5 : decide (r'.1 ≠ kk q) = true := decide_eq_true e2
      have e6 : (!decide (p.1 = q)) = true := by simp [e]
      rw [List.filter_cons, List.filter_cons, e5, e6]
      exact Paired.cons h ih
theorem RFs.look {fs gs} (h : RFs m fs gs) (f : String) : (∃ v x, fs.lookup f = some v ∧ gs.lookup (Str.ofString f) = some x ∧ RD m v x) ∨ (fs.lookup f = none ∧ gs.lookup (Str.ofString f) = none) := by
  unfold RFs at h
  induction h with
  | nil => exact .inr ⟨rfl, rfl⟩
  | @cons p r ps rs h t ih =>
    obtain ⟨p1, p2⟩ := p
    obtain ⟨r1, r2⟩ := r
    have h1 : r1 = Str.ofString p1 := h.1
    by_cases e : f = p1
    · subst e
      refine .inl ⟨p2, r2, ?_, ?_, h.2⟩
      · simp [List.lookup_cons]
      · simp [List.lookup_cons, h1]
    · have e2 : ¬ Str.ofString f = r1 := fun z => e (ofString_inj (z.trans h1))
      have e3 : (f == p1) = false := by simpa using e
      have e4 : (Str.ofString f == r1) = false := by simpa using e2
      rw [List.lookup_cons, List.lookup_cons, e3, e4]
      exact ih
theorem RFs.put {fs gs} (h : RFs m fs gs) (f : String) {v : Val} {x : V} (r : RD m v x) : RFs m (putF f v fs) (L2.putF (Str.ofString f) x gs) := by
  unfold RFs at h
  induction h with
  | nil => exact .cons ⟨rfl, r⟩ .nil
  | @cons p q ps qs h t ih =>
    obtain ⟨p1, p2⟩ := p
    obtain ⟨q1, q2⟩ := q
    have h1 : q1 = Str.ofString p1 := h.1
    unfold putF L2.putF
    by_cases e : p1 = f
    · have e2 : q1 = Str.ofString f := by rw [h1, e]
      rw [if_pos e, if_pos e2]
      exact .cons ⟨h1, r⟩ t
    · have e2 : ¬ q1 = Str.ofString f := fun z => e (ofString_inj (h1.symm.trans z))
      rw [if_neg e, if_neg e2]
      exact .cons h ih
end

/-- the object at a -/
def RO (mg : String → Addr → Prop) (m : Sm) (a : Addr) : Ob → Prop
  | .lst ds => ∃ vs, m.H a = some (.lst vs) ∧ RDs m ds vs
  | .dic kvs => ∃ ws, m.H a = some (.dK ws) ∧ RKs m kvs ws
  | .ins c fs => ∃ C dx gs, m.H a = some (.ins C dx gs) ∧ mg c C ∧ RFs m fs gs
  | .lck (.lst ds) => (∃ o vs, m.H a = some (.frz o (.lst vs)) ∧ RDs m ds vs) ∨
      ∃ (o : Obj) (its : Array Value) (n : Nat) (vs : List V), m.K.lookup a = some o ∧ o.cls = .type "list" ∧ o.dict = none ∧ o.data = .seq its n ∧ its.size ≤ sizeLine ∧ Vals vs its.toList ∧ RDs m ds vs
  | .lck (.dic kvs) => ∃ o ws, m.H a = some (.frz o (.dK ws)) ∧ RKs m kvs ws
  | .lck _ => False
/-- the written part is not tracked -/
def KF (K : PySem.W.Frag) (H : Hp) : Prop := ∀ a o, K.lookup a = some o → H a = none
structure SH (mg : String → Addr → Prop) (m : Sm) (S : Hm) : Prop where
  len : m.em.length = S.length
  nd : m.em.Nodup
  kf : KF m.K m.H
  ob : ∀ (n : Nat) o a, S[n]? = some o → m.em[n]? = some a → RO mg m a o
/-- what a piece of code may do: things outside of the small heap stay, new places were free -/
structure Ev (m m' : Sm) : Prop where
  k : m'.K = m.K
  z : m'.z = m.z
  em : ∃ l, m'.em = m.em ++ l
  keep : ∀ b o, m.H b = some o → b ∉ m.em → m'.H b = some o
  new : ∀ b ∈ m'.em, b ∉ m.em → m.H b = none
  frz : ∀ b o u, m.H b = some (.frz o u) → m'.H b = some (.frz o u)
section
variable {mg : String → Addr → Prop} {m m' m1 m2 : Sm} {S S' : Hm} {n : Nat} {a : Addr} {o : Ob}
theorem Ev.refl (m : Sm) : Ev m m := ⟨rfl, rfl, ⟨[], by simp⟩, fun _ _ h _ => h, fun b h h' => absurd h h', fun _ _ _ h => h⟩
theorem Ev.mem (e : Ev m m') {b : Addr} (h : b ∈ m.em) : b ∈ m'.em := by
  obtain ⟨l, q⟩ := e.em
  rw [q]
  exact List.mem_append_left _ h
theorem Ev.trans (e : Ev m m1) (e' : Ev m1 m2) : Ev m m2 where
  k := e'.k.trans e.k
  z := e'.z.trans e.z
  em := by
    obtain ⟨l, q⟩ := e.em
    obtain ⟨l', q'⟩ := e'.em
    exact ⟨l ++ l', by rw [q', q, List.append_assoc]⟩
  keep := fun b o h n => e'.keep b o (e.keep b o h n) fun z => by
    have := e.new b z n
    rw [h] at this
    cases this
  new := fun b h n => by
    by_cases z : b ∈ m1.em
    · exact e.new b z n
    · have h1 := e'.new b h z
      cases q : m.H b with
      | none => rfl
      | some o => rw [e.keep b o q n] at h1; cases h1
  frz := fun b o u h => e'.frz b o u (e.frz b o u h)
theorem SH.at (h : SH mg m S) (e : S[n]? = some o) : ∃ a, m.em[n]? = some a ∧ RO mg m a o := by
  have hn : n < m.em.length := by rw [h.len]; exact (List.getElem?_eq_some_iff.mp e).1
  exact ⟨m.em[n], List.getElem?_eq_getElem hn, h.ob n o _ e (List.getElem?_eq_getElem hn)⟩
theorem SH.lt (h : SH mg m S) (e : m.em[n]? = some a) : ∃ o, S[n]? = some o := by
  have hn : n < S.length := by rw [← h.len]; exact (List.getElem?_eq_some_iff.mp e).1
  exact ⟨S[n], List.getElem?_eq_getElem hn⟩
/-- what stands at a place is no tuple -/
theorem SH.notup (h : SH mg m S) {a : Addr} {xs : List V} (e : m.H a = some (.tup xs) ∨ ∃ o, m.H a = some (.frz o (.tup xs))) : a ∉ m.em := fun z => by
  obtain ⟨n, hn⟩ := List.getElem?_of_mem z
  obtain ⟨o, ho⟩ := h.lt hn
  have r := h.ob n o a ho hn
  cases o with
  | lst ds => obtain ⟨vs, q, _⟩ := r; rcases e with e | ⟨_, e⟩ <;> rw [q] at e <;> cases e
  | dic ds => obtain ⟨vs, q, _⟩ := r; rcases e with e | ⟨_, e⟩ <;> rw [q] at e <;> cases e
  | ins c fs => obtain ⟨C, dx, gs, q, _⟩ := r; rcases e with e | ⟨_, e⟩ <;> rw [q] at e <;> cases e
  | lck o =>
    cases o with
    | lst ds =>
      rcases r with ⟨o, vs, q, _⟩ | ⟨o, its, k, vs, q, _⟩
      · rcases e with e | ⟨_, e⟩ <;> rw [q] at e <;> cases e
      · have := h.kf a o q
        rcases e with e | ⟨_, e⟩ <;> rw [this] at e <;> cases e
    | dic ds => obtain ⟨o, vs, q, _⟩ := r; rcases e with e | ⟨_, e⟩ <;> rw [q] at e <;> cases e
    | ins c fs => exact r
    | lck o => exact r
theorem Ev.up (e : Ev m m') (h : SH mg m S) : Up m m' where
  tup := fun a xs q => by
    rcases q with (q | ⟨o, q⟩) | q
    · exact .inl (.inl (e.keep _ _ q (h.notup (.inl q))))
    · exact .inl (.inr ⟨o, e.keep _ _ q (h.notup (.inr ⟨o, q⟩))⟩)
    · rw [e.k]
      exact .inr q
  em := e.em
  z := fun p q => by rw [e.z]; exact q
theorem SH.inj (h : SH mg m S) {i j : Nat} {a : Addr} (hi : m.em[i]? = some a) (hj : m.em[j]? = some a) : i = j := by
  obtain ⟨h1, e1⟩ := List.getElem?_eq_some_iff.mp hi
  obtain ⟨h2, e2⟩ := List.getElem?_eq_some_iff.mp hj
  exact (List.getElem_inj h.nd).mp (e1.trans e2.symm)
theorem RO.up (u : Up m m') (hk : m'.K = m.K) (hH : m'.H a = m.H a) (r : RO mg m a o) : RO mg m' a o := by
  cases o with
  | lst ds => obtain ⟨vs, q, r⟩ := r; exact ⟨vs, hH.trans q, r.up u⟩
  | dic ds => obtain ⟨vs, q, r⟩ := r; exact ⟨vs, hH.trans q, r.up u⟩
  | ins c fs => obtain ⟨C, dx, gs, q, g, r⟩ := r; exact ⟨C, dx, gs, hH.trans q, g, r.up u⟩
  | lck o =>
    cases o with
    | lst ds =>
      rcases r with ⟨o, vs, q, r⟩ | ⟨o, its, k, vs, q, h1, h2, h3, h4, h5, r⟩
      · exact .inl ⟨o, vs, hH.trans q, r.up u⟩
      · exact .inr ⟨o, its, k, vs, by rw [hk]; exact q, h1, h2, h3, h4, h5, r.up u⟩
    | dic ds => obtain ⟨o, vs, q, r⟩ := r; exact ⟨o, vs, hH.trans q, r.up u⟩
    | ins c fs => exact r
    | lck o => exact r
/-- a new tuple (or any thing outside of the small heap) -/
theorem SH.more (h : SH mg m S) {H' : Hp} (e : Ev m { m with H := H' }) (hH : ∀ b ∈ m.em, H' b = m.H b) (kf : KF m.K H') : SH mg { m with H := H' } S :=
  ⟨h.len, h.nd, kf, fun n o a e1 e2 => (h.ob n o a e1 e2).up (e.up h) rfl (hH a (List.mem_of_getElem? e2))⟩
theorem SH.free (h : SH mg m S) {p : Addr} (hp : m.H p = none) (kp : m.K.lookup p = none) : p ∉ m.em := fun z => by
  obtain ⟨n, hn⟩ := List.getElem?_of_mem z
  obtain ⟨o, ho⟩ := h.lt hn
  have r := h.ob n o p ho hn
  cases o with
  | lst ds => obtain ⟨vs, q, _⟩ := r; rw [hp] at q; cases q
  | dic ds => obtain ⟨vs, q, _⟩ := r; rw [hp] at q; cases q
  | ins c fs => obtain ⟨C, dx, gs, q, _⟩ := r; rw [hp] at q; cases q
  | lck o =>
    cases o with
    | lst ds =>
      rcases r with ⟨o, vs, q, _⟩ | ⟨o, its, k, vs, q, _⟩
      · rw [hp] at q; cases q
      · rw [kp] at q; cases q
    | dic ds => obtain ⟨o, vs, q, _⟩ := r; rw [hp] at q; cases q
    | ins c fs => exact r
    | lck o => exact r
theorem kf_free {K : PySem.W.Frag} {H : Hp} {p : Addr} {o : HO} (k : KF K H) (h : H p = some o) : K.lookup p = none := by
  cases q : K.lookup p with
  | none => rfl
  | some u => rw [k p u q] at h; cases h
/-- a thing outside of the small heap is made at p -/
theorem Ev.outside {p : Addr} {o : HO} (hp : m.H p = none) : Ev m { m with H := L2.upd m.H p o } :=
  ⟨rfl, rfl, ⟨[], by simp⟩, fun b u h _ => by show L2.upd m.H p o b = _; rw [upd_ne (ne_of_none h hp)]; exact h, fun b h h' => absurd h h', fun b q u h => by show L2.upd m.H p o b = _; rw [upd_ne (ne_of_none h hp)]; exact h⟩
theorem SH.outside (h : SH mg m S) {p : Addr} {o : HO} (hp : m.H p = none) (kf : KF m.K (L2.upd m.H p o)) : SH mg { m with H := L2.upd m.H p o } S := by
  have kp : m.K.lookup p = none := kf_free kf (upd_same (H := m.H) (a := p) (o := o))
  have np := h.free hp kp
  exact h.more (Ev.outside hp) (fun b hb => upd_ne fun z => np (z ▸ hb)) kf
/-- a new object at p comes to the small heap -/
theorem Ev.alloc {p : Addr} {o : HO} (hp : m.H p = none) : Ev m { m with H := L2.upd m.H p o, em := m.em ++ [p] } :=
  ⟨rfl, rfl, ⟨[p], rfl⟩, fun b u h _ => by show L2.upd m.H p o b = _; rw [upd_ne (ne_of_none h hp)]; exact h, fun b h h' => by
    rcases List.mem_append.mp h with z | z
    · exact absurd z h'
    · have : b = p := by simpa using z
      rw [this]; exact hp, fun b q u h => by show L2.upd m.H p o b = _; rw [upd_ne (ne_of_none h hp)]; exact h⟩
theorem SH.alloc (h : SH mg m S) {p : Addr} {o : HO} {ob : Ob} (hp : m.H p = none) (kf : KF m.K (L2.upd m.H p o)) (r : RO mg { m with H := L2.upd m.H p o, em := m.em ++ [p] } p ob) :
    SH mg { m with H := L2.upd m.H p o, em := m.em ++ [p] } (S ++ [ob]) := by
  have kp : m.K.lookup p = none := kf_free kf (upd_same (H := m.H) (a := p) (o := o))
  have np := h.free hp kp
  refine ⟨by simp [h.len], ?_, kf, fun n u a e1 e2 => ?_⟩
  · show (m.em ++ [p]).Nodup
    rw [List.nodup_append]
    refine ⟨h.nd, by simp, fun x hx y hy => ?_⟩
    have : y = p := by simpa using hy
    rw [this]
    exact fun z => np (z ▸ hx)
  · have e2 : (m.em ++ [p])[n]? = some a := e2
    by_cases hn : n < S.length
    · rw [List.getElem?_append_left hn] at e1
      rw [List.getElem?_append_left (by rw [h.len]; exact hn)] at e2
      exact (h.ob n u a e1 e2).up (m' := { m with H := L2.upd m.H p o, em := m.em ++ [p] }) ((Ev.alloc hp).up h) rfl (upd_ne fun z => np (z ▸ List.mem_of_getElem? e2))
    · have hn2 : n = S.length := by
        have := (List.getElem?_eq_some_iff.mp e1).1
        simp at this
        omega
      subst hn2
      rw [List.getElem?_append_right (Nat.le_refl _)] at e1
      rw [← h.len, List.getElem?_append_right (Nat.le_refl _)] at e2
      simp at e1 e2
      subst e1 e2
      exact r
/-- the object at place n is changed -/
theorem Ev.put {o : HO} (e : Ev m m1) (ha : m.em[n]? = some a) (nf : ∀ q u, m.H a ≠ some (.frz q u)) : Ev m { m1 with H := L2.upd m1.H a o } :=
  ⟨e.k, e.z, e.em, fun b u h nb => by show L2.upd m1.H a o b = _; rw [upd_ne fun z => nb (by rw [z]; exact List.mem_of_getElem? ha)]; exact e.keep b u h nb, e.new, fun b q u h => by show L2.upd m1.H a o b = _; rw [upd_ne fun z => nf q u (by rw [← z]; exact h)]; exact e.frz b q u h⟩
theorem Ev.write {o u : HO} (ha : m.em[n]? = some a) (hu : m.H a = some u) (nf : ∀ q x, u ≠ .frz q x := by intro _ _ h; cases h) : Ev m { m with H := L2.upd m.H a o } := (Ev.refl m).put ha fun q x h => nf q x (by rw [hu] at h; exact Option.some.inj h)
theorem SH.upw (h : SH mg m S) {o : HO} (ha : m.em[n]? = some a) : Up m { m with H := L2.upd m.H a o } where
  tup := fun b xs q => by
    have ne : ∀ b, b ∉ m.em → b ≠ a := fun b nb z => nb (by rw [z]; exact List.mem_of_getElem? ha)
    rcases q with (q | ⟨u, q⟩) | q
    · exact .inl (.inl (by show L2.upd m.H a o b = _; rw [upd_ne (ne b (h.notup (.inl q)))]; exact q))
    · exact .inl (.inr ⟨u, by show L2.upd m.H a o b = _; rw [upd_ne (ne b (h.notup (.inr ⟨u, q⟩)))]; exact q⟩)
    · exact .inr q
  em := ⟨[], by simp⟩
  z := fun _ h => h
theorem SH.write (h : SH mg m S) {o : HO} {u : HO} {ob : Ob} (ha : m.em[n]? = some a) (hu : m.H a = some u) (r : RO mg { m with H := L2.upd m.H a o } a ob) : SH mg { m with H := L2.upd m.H a o } (S.set n ob) := by
  refine ⟨by simp [h.len], h.nd, fun b q e => ?_, fun k v b e1 e2 => ?_⟩
  · show L2.upd m.H a o b = none
    have hb := h.kf b q e
    rw [upd_ne fun z => by rw [z, hu] at hb; cases hb]
    exact hb
  · by_cases hk : k = n
    · subst hk
      have e2 : m.em[k]? = some b := e2
      rw [ha] at e2
      cases e2
      have hl : k < S.length := by rw [← h.len]; exact (List.getElem?_eq_some_iff.mp ha).1
      rw [List.getElem?_set_self hl] at e1
      cases e1
      exact r
    · rw [List.getElem?_set_ne (Ne.symm hk)] at e1
      exact (h.ob k v b e1 e2).up (m' := { m with H := L2.upd m.H a o }) (h.upw ha) rfl (upd_ne fun z => hk (h.inj e2 (z ▸ ha)))

/-! ### reading -/
theorem SH.lst (h : SH mg m S) {xs : List Val} (e : Hm.lst S n = some xs) (ha : m.em[n]? = some a) : ∃ vs, SqL m.K m.H a vs ∧ RDs m xs vs := by
  obtain ⟨o, ho⟩ := h.lt ha
  have r := h.ob n o a ho ha
  unfold Hm.lst at e
  rw [ho] at e
  cases o with
  | lst ds => cases e; obtain ⟨vs, q, r⟩ := r; exact ⟨vs, .inl (.inl q), r⟩
  | dic ds => cases e
  | ins c fs => cases e
  | lck o =>
    cases o with
    | lst ds =>
      cases e
      rcases r with ⟨o, vs, q, r⟩ | ⟨o, its, k, vs, q, h1, h2, h3, h4, h5, r⟩
      · exact ⟨vs, .inl (.inr ⟨o, q⟩), r⟩
      · exact ⟨vs, .inr ⟨o, its, k, q, h1, h2, h3, h4, h5⟩, r⟩
    | dic ds => cases e
    | ins c fs => cases e
    | lck o => cases e
theorem SH.dic (h : SH mg m S) {xs : List (Key × Val)} (e : Hm.dic S n = some xs) (ha : m.em[n]? = some a) : ∃ ws, Rd m.H a (.dK ws) ∧ RKs m xs ws := by
  obtain ⟨o, ho⟩ := h.lt ha
  have r := h.ob n o a ho ha
  unfold Hm.dic at e
  rw [ho] at e
  cases o with
  | lst ds => cases e
  | dic ds => cases e; obtain ⟨vs, q, r⟩ := r; exact ⟨vs, .inl q, r⟩
  | ins c fs => cases e
  | lck o =>
    cases o with
    | lst ds => cases e
    | dic ds =>
      cases e
      obtain ⟨o, vs, q, r⟩ := r
      exact ⟨vs, .inr ⟨o, q⟩, r⟩
    | ins c fs => cases e
    | lck o => cases e
theorem lst_of (e : S[n]? = some (.lst xs)) : Hm.lst S n = some xs := by unfold Hm.lst; rw [e]
theorem dic_of (e : S[n]? = some (.dic xs)) : Hm.dic S n = some xs := by unfold Hm.dic; rw [e]
/-- wishes, lifted -/
def liftQ (mg : String → Addr → Prop) (m : Sm) (Q : VK) : Post := fun v S' => ∀ m' x, Ev m m' → SH mg m' S' → RD m' v x → Q x m'.H
theorem liftQ.ev {Q Q' : VK} (e : Ev m m1) (hq : ∀ x H, KF m.K H → Q x H → Q' x H) {v : Val} {S : Hm} (h : liftQ mg m Q v S) : liftQ mg m1 Q' v S := fun m' x e' hS r => by
  have e2 := e.trans e'
  exact hq _ _ (e2.k ▸ hS.kf) (h m' x e2 hS r)
end
end Mi

set_option maxHeartbeats 2000000
namespace Mi
open PySem PySem.Spec L2 PyProof.Rows
section
variable {X : Cx} {cl : String → Addr → Prop} {pins : List (Addr × Obj)} {σ : L2.St} {H : Hp} {s : Shared} {Q : VK}
theorem kfree (I : Inv X pins σ H s) : KF X.K H := fun a o e => (I.bs a o (I.ok.mod.kin a o e)).2
/-- what follows may use that the written part is not tracked -/
theorem epkf {M : Model} {A : Around} {E : Value → Shared → Prop} {f : Sem Value} (h : wpAny M A f (EP X pins σ fun x H' => KF X.K H' → Q x H') E s) : wpAny M A f (EP X pins σ Q) E s :=
  thn h fun _ _ ⟨v, H', I, r, q⟩ => ⟨v, H', I, r, q (kfree I)⟩
theorem PE.kf {e : Expr} {t : TE} (h : PE X e t) : PE X e (fun σ H Q => t σ H fun x H' => KF X.K H' → Q x H') := ⟨fun pins s σ H Q I hw => epkf (h.run pins s σ H _ I hw)⟩
theorem PE.imp {e : Expr} {t t' : TE} (h : PE X e t) (f : ∀ σ H Q, t' σ H Q → t σ H Q) : PE X e t' := ⟨fun pins s σ H Q I hw => h.run pins s σ H Q I (f _ _ _ hw)⟩
theorem OpR.kf {f : Value → Value → Sem Value} {r : R2} (h : OpR X f r) : OpR X f (fun x y H Q => r x y H fun z H' => KF X.K H' → Q z H') :=
  fun pins s σ H x y v u Q I rx ry hw => epkf (h pins s σ H x y v u _ I rx ry hw)
theorem CallR.kf {f : Value} {r : List V → Hp → VK → Prop} (h : CallR X f r) : CallR X f (fun xs H Q => r xs H fun z H' => KF X.K H' → Q z H') :=
  fun pins s σ H xs us Q I rx hw => epkf (h pins s σ H xs us _ I rx hw)
theorem MtR.kf {id : String} {r : V → List V → Hp → VK → Prop} (h : MtR X id r) : MtR X id (fun x xs H Q => r x xs H fun z H' => KF X.K H' → Q z H') :=
  fun pins s σ H x xs v us Q I rx rs hw => epkf (h pins s σ H x xs v us _ I rx rs hw)

/-! ### making things -/
variable {m : Sm} {S : Hm}
theorem mk_tup (hS : SH cl m S) {ds : List Val} {vs : List V} (r : RDs m ds vs) {p : Addr} (hp : m.H p = none) (kf : KF m.K (L2.upd m.H p (.tup vs))) (h : liftQ cl m Q (.tup ds) S) : Q (.ref p) (L2.upd m.H p (.tup vs)) := by
  have e : Ev m { m with H := L2.upd m.H p (.tup vs) } := Ev.outside hp
  exact h { m with H := L2.upd m.H p (.tup vs) } (.ref p) e (hS.outside hp kf) (.tup (.inl (.inl upd_same)) (r.up (e.up hS)))
theorem mk_lst (hS : SH cl m S) {ds : List Val} {vs : List V} (r : RDs m ds vs) {p : Addr} (hp : m.H p = none) (kf : KF m.K (L2.upd m.H p (.lst vs))) (h : liftQ cl m Q (.ref S.length) (S ++ [.lst ds])) : Q (.ref p) (L2.upd m.H p (.lst vs)) := by
  have e : Ev m { m with H := L2.upd m.H p (.lst vs), em := m.em ++ [p] } := Ev.alloc hp
  refine h { m with H := L2.upd m.H p (.lst vs), em := m.em ++ [p] } (.ref p) e (hS.alloc hp kf ⟨vs, upd_same, r.up (e.up hS)⟩) (.ref ?_)
  show (m.em ++ [p])[S.length]? = some p
  rw [← hS.len]
  simp
theorem mk_dic (hS : SH cl m S) {kvs : List (Key × Val)} {ws : List (L2.Key × V)} (r : RKs m kvs ws) {p : Addr} (hp : m.H p = none) (kf : KF m.K (L2.upd m.H p (.dK ws))) (h : liftQ cl m Q (.ref S.length) (S ++ [.dic kvs])) : Q (.ref p) (L2.upd m.H p (.dK ws)) := by
  have e : Ev m { m with H := L2.upd m.H p (.dK ws), em := m.em ++ [p] } := Ev.alloc hp
  refine h { m with H := L2.upd m.H p (.dK ws), em := m.em ++ [p] } (.ref p) e (hS.alloc hp kf ⟨ws, upd_same, r.up (e.up hS)⟩) (.ref ?_)
  show (m.em ++ [p])[S.length]? = some p
  rw [← hS.len]
  simp
/-- a list changed -/
theorem wr_lst (hS : SH cl m S) {n : Nat} {a : Addr} {u : HO} {ds : List Val} {vs : List V} {v : Val} {x : V} (ha : m.em[n]? = some a) (hu : m.H a = some u) (r : RDs m ds vs) (rx : RD m v x) (h : liftQ cl m Q v (S.set n (.lst ds))) (nf : ∀ q x, u ≠ .frz q x := by intro _ _ h; cases h) : Q x (L2.upd m.H a (.lst vs)) := by
  have e : Ev m { m with H := L2.upd m.H a (.lst vs) } := Ev.write ha hu nf
  exact h { m with H := L2.upd m.H a (.lst vs) } x e (hS.write ha hu ⟨vs, upd_same, r.up (e.up hS)⟩) (rx.up (e.up hS))
theorem wr_dic (hS : SH cl m S) {n : Nat} {a : Addr} {u : HO} {kvs : List (Key × Val)} {ws : List (L2.Key × V)} {v : Val} {x : V} (ha : m.em[n]? = some a) (hu : m.H a = some u) (r : RKs m kvs ws) (rx : RD m v x) (h : liftQ cl m Q v (S.set n (.dic kvs))) (nf : ∀ q x, u ≠ .frz q x := by intro _ _ h; cases h) : Q x (L2.upd m.H a (.dK ws)) := by
  have e : Ev m { m with H := L2.upd m.H a (.dK ws) } := Ev.write ha hu nf
  exact h { m with H := L2.upd m.H a (.dK ws) } x e (hS.write ha hu ⟨ws, upd_same, r.up (e.up hS)⟩) (rx.up (e.up hS))
theorem SH.lst' (h : SH cl m S) {n : Nat} {a : Addr} {xs : List Val} (e : S[n]? = some (.lst xs)) (ha : m.em[n]? = some a) : ∃ vs, m.H a = some (.lst vs) ∧ RDs m xs vs := h.ob n _ a e ha
theorem SH.dic' (h : SH cl m S) {n : Nat} {a : Addr} {xs : List (Key × Val)} (e : S[n]? = some (.dic xs)) (ha : m.em[n]? = some a) : ∃ ws, m.H a = some (.dK ws) ∧ RKs m xs ws := h.ob n _ a e ha
theorem stay (hS : SH cl m S) {v : Val} {x : V} (r : RD m v x) (h : liftQ cl m Q v S) : Q x m.H := h m x (Ev.refl m) hS r

/-! ### == -/
theorem strOk_ofString (x : String) : PyData.strOk (Str.ofString x) = true := by
  unfold PyData.strOk
  rw [← Array.all_toList, cps_ofString, List.all_eq_true]
  intro c hc
  obtain ⟨d, _, rfl⟩ := List.mem_map.mp hc
  have h := d.valid
  simp only [UInt32.isValidChar, Nat.isValidChar] at h
  have : d.toNat = d.val.toNat := rfl
  rw [decide_eq_true_eq]
  omega
theorem mapM_some {α β : Type} {f : α → Option β} : ∀ {xs : List α} {ys : List β}, xs.mapM f = some ys → Paired (fun x y => f x = some y) xs ys
  | [], ys, h => by
    simp at h
    subst h
    exact .nil
  | x :: xs, ys, h => by
    rw [List.mapM_cons] at h
    cases e : f x with
    | none => rw [e] at h; simp at h
    | some y =>
      rw [e] at h
      cases e2 : xs.mapM f with
      | none => rw [e2] at h; simp at h
      | some zs =>
        rw [e2] at h
        simp at h
        subst h
        exact .cons e (mapM_some e2)
theorem some_mapM {α β : Type} {f : α → Option β} {xs : List α} {ys : List β} (h : Paired (fun x y => f x = some y) xs ys) : xs.mapM f = some ys := by
  induction h with
  | nil => rfl
  | cons h t ih => rw [List.mapM_cons, h, ih]; rfl
theorem dat_dp (hS : SH cl m S) : ∀ (k : Nat) {v : Val} {x : V} {d : PyData}, RD m v x → dat S k v = some d → Dp m.K m.H x d ∧ d.canLay0 = true ∧ d.depth ≤ k := by
  have all : ∀ (k : Nat), (∀ {v : Val} {x : V} {d : PyData}, RD m v x → dat S k v = some d → Dp m.K m.H x d ∧ d.canLay0 = true ∧ d.depth ≤ k) →
      ∀ {ds : List Val} {xs : List V} {es : List PyData}, RDs m ds xs → Paired (fun x y => dat S k x = some y) ds es → DpAll m.K m.H xs es ∧ PyData.canLayAll0 es = true ∧ PyData.depthAll es ≤ k := by
    intro k ih ds xs es r p
    induction p generalizing xs with
    | nil => cases r; exact ⟨.nil, by simp [PyData.canLayAll0], by simp [PyData.depthAll]⟩
    | cons h t iht =>
      cases r with
      | cons r rs =>
        obtain ⟨a1, a2, a3⟩ := ih r h
        obtain ⟨b1, b2, b3⟩ := iht rs
        exact ⟨.cons a1 b1, by simp [PyData.canLayAll0, a2, b2], by simp [PyData.depthAll]; omega⟩
  intro k
  induction k with
  | zero =>
    intro v x d r e
    cases r <;> simp [dat] at e
    · subst e; exact ⟨.non, rfl, by simp [PyData.depth]⟩
    · subst e; exact ⟨.bl _, rfl, by simp [PyData.depth]⟩
    · subst e; exact ⟨.int _, rfl, by simp [PyData.depth]⟩
    · subst e; exact ⟨.str _, by simp [PyData.canLay0, strOk_ofString], by simp [PyData.depth]⟩
  | succ k ih =>
    intro v x d r e
    cases r with
    | non => simp [dat] at e; subst e; exact ⟨.non, rfl, by simp [PyData.depth]⟩
    | bl b => simp [dat] at e; subst e; exact ⟨.bl _, rfl, by simp [PyData.depth]⟩
    | int i => simp [dat] at e; subst e; exact ⟨.int _, rfl, by simp [PyData.depth]⟩
    | str x => simp [dat] at e; subst e; exact ⟨.str _, by simp [PyData.canLay0, strOk_ofString], by simp [PyData.depth]⟩
    | @tup a xs ds hq rs =>
      simp only [dat, Option.map_eq_some_iff] at e
      obtain ⟨es, e1, rfl⟩ := e
      obtain ⟨a1, a2, a3⟩ := all k ih rs (mapM_some e1)
      exact ⟨.tup hq a1, by simpa [PyData.canLay0] using a2, by simp [PyData.depth]; exact a3⟩
    | @ref n a ha =>
      simp only [dat] at e
      split at e
      · rename_i xs hl
        rw [Option.map_eq_some_iff] at e
        obtain ⟨es, e1, rfl⟩ := e
        obtain ⟨vs, hq, rs⟩ := hS.lst hl ha
        obtain ⟨a1, a2, a3⟩ := all k ih rs (mapM_some e1)
        exact ⟨.lst hq a1, by simpa [PyData.canLay0] using a2, by simp [PyData.depth]; exact a3⟩
      · cases e
    | exc h => simp [dat] at e
theorem dat_shaped {k : Nat} (hS : SH cl m S) {v : Val} {x : V} {d : PyData} (hk : k ≤ 64) (r : RD m v x) (e : dat S k v = some d) : Dp m.K m.H x d ∧ SeqAt.shaped d = true := by
  obtain ⟨a, b, c⟩ := dat_dp hS k r e
  refine ⟨a, ?_⟩
  unfold SeqAt.shaped
  rw [b, decide_eq_true (by omega)]
  rfl
theorem datAll_dp (hS : SH cl m S) {k : Nat} {ds : List Val} {xs : List V} {es : List PyData} (hk : k + 1 ≤ 64) (r : RDs m ds xs) (e : ds.mapM (dat S k) = some es) : DpAll m.K m.H xs es ∧ SeqAt.shaped (.list es) = true := by
  have p := mapM_some e
  have all : DpAll m.K m.H xs es ∧ PyData.canLayAll0 es = true ∧ PyData.depthAll es ≤ k := by
    clear e
    induction p generalizing xs with
    | nil => cases r; exact ⟨.nil, by simp [PyData.canLayAll0], by simp [PyData.depthAll]⟩
    | cons h t iht =>
      cases r with
      | cons r rs =>
        obtain ⟨a1, a2, a3⟩ := dat_dp hS k r h
        obtain ⟨b1, b2, b3⟩ := iht rs
        exact ⟨.cons a1 b1, by simp [PyData.canLayAll0, a2, b2], by simp [PyData.depthAll]; omega⟩
  refine ⟨all.1, ?_⟩
  unfold SeqAt.shaped
  have h1 : (PyData.list es).canLay0 = true := by simpa [PyData.canLay0] using all.2.1
  have h2 : (PyData.list es).depth ≤ 64 := by simp [PyData.depth]; omega
  rw [h1, decide_eq_true h2]
  rfl
theorem flat_rd {v : Val} {x : V} (r : RD m v x) (h : flat v = true) : flatV x = true := by cases r <;> first | rfl | cases h
theorem feq_rd {v w : Val} {x y : V} (r : RD m v x) (r' : RD m w y) (h : flat v = true) (h' : flat w = true) : eqV x y = feq v w := by
  cases r <;> cases r' <;> first | rfl | cases h | cases h' | skip
  rename_i a b
  show (Str.ofString a == Str.ofString b) = (a == b)
  by_cases e : a = b
  · subst e; simp
  · have e2 : ¬ Str.ofString a = Str.ofString b := fun z => e (ofString_inj z)
    rw [beq_eq_false_iff_ne.mpr e, beq_eq_false_iff_ne.mpr e2]
theorem flats_rd {ds : List Val} {xs : List V} (r : RDs m ds xs) (h : ds.all flat = true) : xs.all flatV = true := by
  induction ds generalizing xs with
  | nil => cases r; rfl
  | cons d ds ih =>
    cases r with
    | cons r rs =>
      rw [List.all_cons, Bool.and_eq_true] at h
      rw [List.all_cons, flat_rd r h.1, ih rs h.2]
      rfl
theorem inV_rd {ds : List Val} {xs : List V} {v : Val} {x : V} (r : RDs m ds xs) (h : ds.all flat = true) (rv : RD m v x) (hv : flat v = true) : inV x xs = ds.any fun y => feq y v := by
  unfold inV
  induction ds generalizing xs with
  | nil => cases r; rfl
  | cons d ds ih =>
    cases r with
    | cons r rs =>
      rw [List.all_cons, Bool.and_eq_true] at h
      rw [List.any_cons, List.any_cons, feq_rd r rv h.1 hv, ih rs h.2]
end
end Mi

set_option maxHeartbeats 2000000
namespace Mi
open PySem PySem.Spec L2 PyProof.Rows
section
variable {X : Cx} {cl : String → Addr → Prop}
/-- values that lie in the small heap, of which r holds -/
def r2 (X : Cx) (cl : String → Addr → Prop) (r : Val → Val → Hm → Post → Prop) : R2 := fun x y H Q => ∃ m S v w, m.K = X.K ∧ m.H = H ∧ SH cl m S ∧ RD m v x ∧ RD m w y ∧ r v w S (liftQ cl m Q)
/-- an operator with the conditions of one of its kinds -/
theorem opr_of {f : Value → Value → Sem Value} {r : R2} (h : OpR X f r) {pins : List (Addr × Obj)} {s : Shared} {σ : L2.St} {H : Hp} {x y : V} {v u : Value} {Q : VK} (I : Inv X pins σ H s) (rx : RelV x v) (ry : RelV y u)
    (hw : r x y H fun z H' => KF X.K H' → Q z H') : wpAny (model X.prog X.w) X.A (f v u) (EP X pins σ Q) X.xe s := OpR.kf h pins s σ H x y v u Q I rx ry hw
theorem mulOk_X {i j : Int} (h : mulOk i j) : CMulX i j := by
  have b : ∀ x : Int, Builtin.Int.intBits x ≤ x.natAbs.log2 + 1 := fun x => by
    unfold Builtin.Int.intBits
    split <;> omega
  have h1 := b i
  have h2 := b j
  unfold mulOk at h
  unfold CMulX
  omega
theorem rep_cps (a : String) : ∀ n : Nat, (List.replicate n (Str.ofString a).cps).foldl (· ++ ·) #[] = (Str.ofString (strRep a n)).cps
  | 0 => rfl
  | n + 1 => by
    rw [List.replicate_succ', List.foldl_append, rep_cps a n]
    show (Str.ofString (strRep a n)).cps ++ (Str.ofString a).cps = (Str.ofString (strRep a n ++ a)).cps
    rw [ofString_append]
    rfl
theorem mul_rep {a : String} {k : Int} : Txt.mul (Str.ofString a) k = Str.ofString (strRep a k.toNat) := by
  unfold Txt.mul
  by_cases h : k < 1
  · rw [if_pos h]
    have e : k.toNat = 0 := by omega
    rw [e]
    rfl
  · rw [if_neg h]
    by_cases h2 : (k == 1 || (Str.ofString a).length == 0) = true
    · rw [if_pos h2]
      rw [Bool.or_eq_true, beq_iff_eq, beq_iff_eq, len_ofString] at h2
      rcases h2 with h2 | h2
      · subst h2
        show _ = Str.ofString ("" ++ a)
        rw [String.empty_append]
      · have e : a = "" := String.length_eq_zero_iff.mp h2
        subst e
        have : ∀ n : Nat, strRep "" n = "" := fun n => by
          induction n with
          | zero => rfl
          | succ n ih => show strRep "" n ++ "" = ""; rw [ih]; rfl
        rw [this]
    · rw [if_neg h2]
      show (⟨_⟩ : Str) = _
      rw [rep_cps]
theorem op_mulS : OpR X (binaryOp .Mult) (fun x y H Q => ∃ a k, x = .str a ∧ y = .int k ∧ -(2 ^ 63) ≤ k ∧ k ≤ 16777216 ∧ a.length * k.toNat ≤ 16777216 ∧ Q (.str (Txt.mul a k)) H) := by
  intro pins s σ H x y v u Q I rx ry h
  obtain ⟨a, k, rfl, rfl, h1, h2, h3, q⟩ := h
  obtain ⟨t, rfl⟩ := rx
  obtain ⟨t', rfl⟩ := ry
  have ok : MulOk a k := by
    by_cases hk : k < 1
    · refine ⟨?_, fun z => absurd hk z, fun z => absurd hk z⟩
      rw [decide_eq_false (by omega), decide_eq_false (by omega)]
      rfl
    · exact mulOk_of a.length k.toNat (Nat.le_refl _) (by omega) h1 (by omega) h3
  exact SB.mul ok fun t' k' => ⟨.str (Txt.mul a k), H, I.tok _, ⟨_, rfl⟩, q⟩
theorem opr_bin (op : Operator) : OpR X (binaryOp op) (r2 X cl (binW op)) := by
  intro pins s σ H x y v u Q I rx ry h
  obtain ⟨m, S, a, b, hK, rfl, hS, ra, rb, h⟩ := h
  revert h
  unfold binW
  split <;> intro h
  · cases ra; cases rb
    exact opr_of op_add I rx ry ⟨_, _, rfl, rfl, fun _ => stay hS (.int _) h⟩
  · rename_i a b
    cases ra; cases rb
    refine opr_of op_add_str I rx ry ⟨_, _, rfl, rfl, by rw [len_ofString, len_ofString]; exact h.1, fun _ => ?_⟩
    rw [← ofString_append]
    exact stay hS (.str _) h.2
  · rename_i xs ys
    cases ra with
    | @tup a xs' _ ha ras =>
    cases rb with
    | @tup b ys' _ hb rbs =>
    have hl := ras.length
    have hl' := rbs.length
    rw [hK] at ha hb
    refine opr_of op_catA I rx ry ⟨_, _, _, _, rfl, rfl, ha, hb, by rw [← hl, ← hl']; exact h.1, fun e _ => ?_, fun e1 e2 _ => ?_, fun e1 e2 p hp kf => ?_⟩
    · subst e
      have : xs = [] := by cases ras; rfl
      subst this
      exact stay hS (.tup (by rw [hK]; exact hb) rbs) h.2
    · subst e2
      have : ys = [] := by cases rbs; rfl
      subst this
      have h2 := h.2
      rw [List.append_nil] at h2
      exact stay hS (.tup (by rw [hK]; exact ha) ras) h2
    · exact mk_tup hS (ras.append rbs) hp (hK ▸ kf) h.2
  · rename_i n k
    obtain ⟨xs, ys, h1, h2, h3, h4⟩ := h
    cases ra with
    | @ref _ a ha =>
    cases rb with
    | @ref _ b hb =>
    obtain ⟨vs, e1, r1⟩ := hS.lst' h1 ha
    obtain ⟨ws, e2, r2⟩ := hS.lst' h2 hb
    exact opr_of op_cat I rx ry ⟨_, _, _, _, rfl, rfl, e1, e2, by rw [← r1.length, ← r2.length]; exact h3, fun p hp kf => mk_lst hS (r1.append r2) hp (hK ▸ kf) h4⟩
  · cases ra; cases rb
    exact opr_of op_sub I rx ry ⟨_, _, rfl, rfl, fun _ => stay hS (.int _) h⟩
  · cases ra; cases rb
    exact opr_of op_mulX I rx ry ⟨_, _, rfl, rfl, mulOk_X h.1, fun _ => stay hS (.int _) h.2⟩
  · obtain ⟨xs, h1, h2, h3, h4, h5⟩ := h
    cases ra with
    | @ref _ a ha =>
    cases rb
    obtain ⟨vs, e1, r1⟩ := hS.lst' h1 ha
    exact opr_of op_rep I rx ry ⟨_, _, _, rfl, rfl, e1, h2, h3, by rw [← r1.length]; exact h4, fun p hp kf => mk_lst hS (r1.replicate _) hp (hK ▸ kf) h5⟩
  · cases ra; cases rb
    exact opr_of op_mulS I rx ry ⟨_, _, rfl, rfl, h.1, h.2.1, by rw [len_ofString]; exact h.2.2.1, fun _ => by rw [mul_rep]; exact stay hS (.str _) h.2.2.2⟩
  · obtain ⟨h1, h2, h3, h4, h5⟩ := h
    cases ra with
    | @tup a xs' _ ha ras =>
    cases rb
    rw [hK] at ha
    exact opr_of op_repT I rx ry ⟨_, _, _, rfl, rfl, ha, fun e => h1 (by subst e; cases ras; rfl), h2, h3, by rw [← ras.length]; exact h4, fun p hp kf => mk_tup hS (ras.replicate _) hp (hK ▸ kf) h5⟩
  · cases ra; cases rb
    exact opr_of op_fdivW I rx ry ⟨_, _, rfl, rfl, h.1, fun _ => stay hS (.int _) h.2⟩
  · cases ra; cases rb
    exact opr_of op_mod I rx ry ⟨_, _, rfl, rfl, h.1, fun _ => stay hS (.int _) h.2⟩
  · cases ra; cases rb
    exact opr_of op_pow I rx ry ⟨_, _, rfl, rfl, h.1, fun _ => stay hS (.int _) h.2⟩
  · cases ra; cases rb
    exact opr_of op_shl I rx ry ⟨_, _, rfl, rfl, h.1, fun _ => stay hS (.int _) h.2⟩
  · cases ra; cases rb
    exact opr_of op_shr I rx ry ⟨_, _, rfl, rfl, h.1, fun _ => stay hS (.int _) h.2⟩
  · exact h.elim
theorem opr_ibin (op : Operator) : OpR X (inplaceOp op) (r2 X cl (ibinW op)) := by
  intro pins s σ H x y v u Q I rx ry h
  obtain ⟨m, S, a, b, hK, rfl, hS, ra, rb, h⟩ := h
  revert h
  unfold ibinW
  split <;> intro h
  · cases ra; cases rb
    exact opr_of iop_add I rx ry ⟨_, _, rfl, rfl, fun _ => stay hS (.int _) h⟩
  · rename_i a b
    cases ra; cases rb
    refine opr_of iop_add_str I rx ry ⟨_, _, rfl, rfl, by rw [len_ofString, len_ofString]; exact h.1, fun _ => ?_⟩
    rw [← ofString_append]
    exact stay hS (.str _) h.2
  · cases ra; cases rb
    exact opr_of iop_sub I rx ry ⟨_, _, rfl, rfl, fun _ => stay hS (.int _) h⟩
  · obtain ⟨xs, ys, h1, h2, h3, h4⟩ := h
    cases ra with
    | @ref _ a ha =>
    cases rb with
    | @ref _ b hb =>
    obtain ⟨vs, e1, r1⟩ := hS.lst' h1 ha
    obtain ⟨ws, e2, r2⟩ := hS.lst' h2 hb
    exact opr_of iop_ext I rx ry ⟨_, _, _, _, rfl, rfl, e1, e2, by rw [← r1.length, ← r2.length]; exact h3, fun _ => wr_lst hS ha e1 (r1.append r2) (.ref ha) h4⟩
  · exact h.elim

/-! ### comparisons -/
/-- a dict's values beside another one's, in the state -/
theorem hits_rd {pins : List (Addr × Obj)} {s : Shared} {σ : L2.St} {m : Sm} {S : Hm} (hK : m.K = X.K) (hS : SH cl m S) (I : Inv X pins σ m.H s) (hu : X.A.units + 65 < cLine) {ls : List (Key × Val)} {wl : List (L2.Key × V)} {vb : List (L2.Key × Value)} (rl : RKs m ls wl) (kb : KV wl vb) :
    ∀ {ks : List (Key × Val)} {ws : List (L2.Key × V)} {va : List (L2.Key × Value)} {b : Bool}, RKs m ks ws → KV ws va → dHits S ls ks = some b → PySem.W.KeqHits X.A.in1 s vb va b := by
  intro ks
  induction ks with
  | nil =>
    intro ws va b r ka h
    cases r
    cases ka
    cases h
    exact .nil
  | cons p ks ih =>
    intro ws va b r ka h
    unfold RKs at r
    cases r with
    | @cons _ q _ qs hr tr =>
    unfold KV at ka
    cases ka with
    | @cons _ z _ zs hz tz =>
    obtain ⟨zk, zv⟩ := z
    have e1 : q.1 = zk := hz.1
    have e2 : q.1 = kk p.1 := hr.1
    have ek : zk = kk p.1 := e1.symm.trans e2
    have rr : RelO (valV wl (kk p.1)) (PySem.valueAt vb (kk p.1)) := kb.val (kk p.1)
    simp only [dHits] at h
    rcases rl.look p.1 with ⟨u, x, l1, l2, l3⟩ | ⟨l1, l2⟩
    · rw [l1] at h
      rw [l2] at rr
      obtain ⟨y, hy, ry⟩ := rr.some_of
      cases hd : dat S 58 p.2 with
      | none => simp only [hd] at h; cases h
      | some d =>
      cases he : dat S 58 u with
      | none => simp only [hd, he] at h; cases h
      | some e =>
      cases hb : dHits S ls ks with
      | none => simp only [hd, he, hb] at h; cases h
      | some b' =>
      simp only [hd, he, hb] at h
      cases h
      obtain ⟨p1, p2⟩ := dat_shaped hS (by decide) hr.2 hd
      obtain ⟨q1, q2⟩ := dat_shaped hS (by decide) l3 he
      obtain ⟨as, r1⟩ := Dp.reads I d q.2 zv (hK ▸ p1) hz.2
      obtain ⟨bs, r2⟩ := Dp.reads I e x y (hK ▸ q1) ry
      rw [← ek] at hy
      exact .hit hy (PySem.W.keq_at r1 r2 p2 q2 (by show X.A.units + 1 + 64 < cLine; omega)) (ih tr tz hb)
    · rw [l1] at h
      rw [l2] at rr
      cases h
      have hn : PySem.valueAt vb (kk p.1) = none := by
        cases hv : PySem.valueAt vb (kk p.1) with
        | none => rfl
        | some v => rw [hv] at rr; exact rr.elim
      rw [← ek] at hn
      exact .miss hn
theorem opr_eq (hu : X.A.units + 65 < cLine) : OpR X (compareOp .Eq) (r2 X cl fun v w S Q => eqW v w S fun b => Q (.bl b) S) := by
  intro pins s σ H x y v u Q I rx ry h
  obtain ⟨m, S, a, b, hK, rfl, hS, ra, rb, ⟨d, e, h1, h2, h3⟩ | h⟩ := h
  · obtain ⟨p1, p2⟩ := dat_shaped hS (by decide) ra h1
    obtain ⟨q1, q2⟩ := dat_shaped hS (by decide) rb h2
    exact opr_of (op_eqD (by omega)) I rx ry ⟨d, e, hK ▸ p1, hK ▸ q1, p2, q2, fun _ => stay hS (.bl _) h3⟩
  · revert h
    unfold eqD
    split
    · rintro ⟨ks, ls, bb, h1, h2, h3, h4⟩
      cases ra with
      | @ref _ pa ha =>
      cases rb with
      | @ref _ pb hb =>
      obtain ⟨ws, e1, r1⟩ := hS.dic' h1 ha
      obtain ⟨wl, e2, r2⟩ := hS.dic' h2 hb
      obtain rfl : v = Value.ref pa := rx
      obtain rfl : u = Value.ref pb := ry
      obtain ⟨_, ya, va, ka, da⟩ := (show ObjOk X.prog X.w m.H s.heap pa (.dK ws) from I.hok pa _ e1)
      obtain ⟨_, yb, vb, kb, db⟩ := (show ObjOk X.prog X.w m.H s.heap pb (.dK wl) from I.hok pb _ e2)
      have hits := hits_rd hK hS I hu r2 kb r1 ka h3
      have hl : va.length = ks.length := by rw [← ka.length, ← r1.length]
      have hl2 : vb.length = ls.length := by rw [← kb.length, ← r2.length]
      refine PySem.W.keq_eq (knd := mixKind X.prog X.w) (r := bb) ya yb da db (by omega) (fun _ => hits) ⟨.bl _, m.H, I, rfl, ?_⟩
      have e : (va.length == vb.length && bb) = (decide (ks.length = ls.length) && bb) := by rw [hl, hl2]; by_cases h : ks.length = ls.length <;> simp [h]
      rw [e]
      exact stay hS (.bl _) h4
    · exact fun h => h.elim
theorem opr_ne (hu : X.A.units + 65 < cLine) : OpR X (compareOp .NotEq) (r2 X cl fun v w S Q => eqW v w S fun b => Q (.bl (!b)) S) := by
  intro pins s σ H x y v u Q I rx ry h
  obtain ⟨m, S, a, b, hK, rfl, hS, ra, rb, ⟨d, e, h1, h2, h3⟩ | h⟩ := h
  · obtain ⟨p1, p2⟩ := dat_shaped hS (by decide) ra h1
    obtain ⟨q1, q2⟩ := dat_shaped hS (by decide) rb h2
    exact opr_of (op_neD (by omega)) I rx ry ⟨d, e, hK ▸ p1, hK ▸ q1, p2, q2, fun _ => stay hS (.bl _) h3⟩
  · revert h
    unfold eqD
    split
    · rintro ⟨ks, ls, bb, h1, h2, h3, h4⟩
      cases ra with
      | @ref _ pa ha =>
      cases rb with
      | @ref _ pb hb =>
      obtain ⟨ws, e1, r1⟩ := hS.dic' h1 ha
      obtain ⟨wl, e2, r2⟩ := hS.dic' h2 hb
      obtain rfl : v = Value.ref pa := rx
      obtain rfl : u = Value.ref pb := ry
      obtain ⟨_, ya, va, ka, da⟩ := (show ObjOk X.prog X.w m.H s.heap pa (.dK ws) from I.hok pa _ e1)
      obtain ⟨_, yb, vb, kb, db⟩ := (show ObjOk X.prog X.w m.H s.heap pb (.dK wl) from I.hok pb _ e2)
      have hits := hits_rd hK hS I hu r2 kb r1 ka h3
      have hl : va.length = ks.length := by rw [← ka.length, ← r1.length]
      have hl2 : vb.length = ls.length := by rw [← kb.length, ← r2.length]
      refine PySem.W.keq_ne (knd := mixKind X.prog X.w) (r := bb) ya yb da db (by omega) (fun _ => hits) ⟨.bl _, m.H, I, rfl, ?_⟩
      have e : (!(va.length == vb.length && bb)) = (!(decide (ks.length = ls.length) && bb)) := by rw [hl, hl2]; by_cases h : ks.length = ls.length <;> simp [h]
      rw [e]
      exact stay hS (.bl _) h4
    · exact fun h => h.elim
theorem sign_ofString {x : String} {c : Char} (h : x.toList = [c]) : Str.ofString x = ⟨#[c.toNat]⟩ := by
  rw [Str.ofString_eq_toList, h]
  rfl
theorem char_toNat_inj {a b : Char} (e : a.toNat = b.toNat) : a = b := by
  apply Char.ext
  apply UInt32.toNat_inj.mp
  exact e
theorem mem_cps {c : Char} {y : String} : decide (c.toNat ∈ (Str.ofString y).cps.toList) = decide (c ∈ y.toList) := by
  rw [cps_ofString]
  by_cases h : c ∈ y.toList
  · rw [decide_eq_true h, decide_eq_true (List.mem_map.mpr ⟨c, h, rfl⟩)]
  · rw [decide_eq_false h, decide_eq_false fun z => ?_]
    obtain ⟨d, hd, e⟩ := List.mem_map.mp z
    exact h (char_toNat_inj e ▸ hd)
theorem opr_in (hu : X.A.units + 65 < cLine) : OpR X (compareOp .In) (r2 X cl fun v w S Q => inW v w S fun b => Q (.bl b) S) := by
  intro pins s σ H x y v u Q I rx ry h
  obtain ⟨m, S, a, b, hK, rfl, hS, ra, rb, h⟩ := h
  revert h
  unfold inW
  cases b with
  | str b =>
    cases a with
    | str a =>
      intro h
      cases ra; cases rb
      rcases h with ⟨c, h1, h2⟩ | h
      · rw [sign_ofString h1] at rx
        refine opr_of op_in_sign I rx ry ⟨_, _, rfl, rfl, fun _ => ?_⟩
        rw [mem_cps]
        exact stay hS (.bl _) h2
      · exact opr_of op_in_str I rx ry ⟨_, _, rfl, rfl, fun _ => stay hS (.bl _) h⟩
    | _ => intro h; exact h.elim
  | tup xs =>
    intro h
    cases rb with
    | @tup a' vs _ hq rs =>
    rw [hK] at hq
    refine opr_of op_in_seq I rx ry ⟨_, _, rfl, .inr hq, flat_rd ra h.1, flats_rd rs h.2.1, fun _ => ?_⟩
    show Q (.bl (if false = true then _ else inV _ _)) m.H
    rw [if_neg Bool.false_ne_true, inV_rd rs h.2.1 ra h.1]
    exact stay hS (.bl _) h.2.2
  | ref n =>
    intro h
    cases rb with
    | @ref _ a' ha =>
    rcases h with ⟨xs, h1, ⟨h2, h3, h4⟩ | ⟨d, ds, h2, h3, h4⟩⟩ | ⟨kvs, k, h1, h2, h3⟩
    · obtain ⟨vs, hq, rs⟩ := hS.lst h1 ha
      rw [hK] at hq
      refine opr_of op_in_seq I rx ry ⟨_, _, rfl, .inl hq, flat_rd ra h2, flats_rd rs h3, fun _ => ?_⟩
      show Q (.bl (if false = true then _ else inV _ _)) m.H
      rw [if_neg Bool.false_ne_true, inV_rd rs h3 ra h2]
      exact stay hS (.bl _) h4
    · obtain ⟨vs, hq, rs⟩ := hS.lst h1 ha
      obtain ⟨p1, p2⟩ := dat_shaped hS (by decide) ra h2
      obtain ⟨q1, q2⟩ := datAll_dp hS (by decide) rs h3
      exact opr_of (op_inD hu) I rx ry ⟨d, ds, hK ▸ p1, hK ▸ .lst hq q1, p2, q2, fun _ => stay hS (.bl _) h4⟩
    · obtain ⟨ws, hq, rs⟩ := hS.dic h1 ha
      have ek := key_rd ra h2
      subst ek
      cases (show u = Value.ref a' from ry)
      have g : DGet m.H a' (L2.kV (kk k)) (valV ws (kk k)) := .inl ⟨ws, _, hq, rfl, rfl⟩
      refine d_in (by omega) I g rx fun s' I' => ⟨.bl _, m.H, I', rfl, ?_⟩
      rcases rs.look k with ⟨v, x, e1, e2, _⟩ | ⟨e1, e2⟩
      · rw [e2]; rw [e1] at h3; exact stay hS (.bl _) h3
      · rw [e2]; rw [e1] at h3; exact stay hS (.bl _) h3
  | _ => intro h; exact h.elim
theorem opr_notin (hu : X.A.units + 65 < cLine) : OpR X (compareOp .NotIn) (r2 X cl fun v w S Q => inW v w S fun b => Q (.bl (!b)) S) := by
  intro pins s σ H x y v u Q I rx ry h
  obtain ⟨m, S, a, b, hK, rfl, hS, ra, rb, h⟩ := h
  revert h
  unfold inW
  cases b with
  | str b =>
    cases a with
    | str a =>
      intro h
      cases ra; cases rb
      rcases h with ⟨c, h1, h2⟩ | h
      · rw [sign_ofString h1] at rx
        refine opr_of op_notIn_sign I rx ry ⟨_, _, rfl, rfl, fun _ => ?_⟩
        rw [mem_cps]
        exact stay hS (.bl _) h2
      · exact opr_of op_notin_str I rx ry ⟨_, _, rfl, rfl, fun _ => stay hS (.bl _) h⟩
    | _ => intro h; exact h.elim
  | tup xs =>
    intro h
    cases rb with
    | @tup a' vs _ hq rs =>
    rw [hK] at hq
    refine opr_of op_notIn_seq I rx ry ⟨_, _, rfl, .inr hq, flat_rd ra h.1, flats_rd rs h.2.1, fun _ => ?_⟩
    show Q (.bl (if true = true then !inV _ _ else _)) m.H
    rw [if_pos rfl, inV_rd rs h.2.1 ra h.1]
    exact stay hS (.bl _) h.2.2
  | ref n =>
    intro h
    cases rb with
    | @ref _ a' ha =>
    rcases h with ⟨xs, h1, ⟨h2, h3, h4⟩ | ⟨d, ds, h2, h3, h4⟩⟩ | ⟨kvs, k, h1, h2, h3⟩
    · obtain ⟨vs, hq, rs⟩ := hS.lst h1 ha
      rw [hK] at hq
      refine opr_of op_notIn_seq I rx ry ⟨_, _, rfl, .inl hq, flat_rd ra h2, flats_rd rs h3, fun _ => ?_⟩
      show Q (.bl (if true = true then !inV _ _ else _)) m.H
      rw [if_pos rfl, inV_rd rs h3 ra h2]
      exact stay hS (.bl _) h4
    · obtain ⟨vs, hq, rs⟩ := hS.lst h1 ha
      obtain ⟨p1, p2⟩ := dat_shaped hS (by decide) ra h2
      obtain ⟨q1, q2⟩ := datAll_dp hS (by decide) rs h3
      exact opr_of (op_notInD hu) I rx ry ⟨d, ds, hK ▸ p1, hK ▸ .lst hq q1, p2, q2, fun _ => stay hS (.bl _) h4⟩
    · obtain ⟨ws, hq, rs⟩ := hS.dic h1 ha
      have ek := key_rd ra h2
      subst ek
      cases (show u = Value.ref a' from ry)
      have g : DGet m.H a' (L2.kV (kk k)) (valV ws (kk k)) := .inl ⟨ws, _, hq, rfl, rfl⟩
      refine d_notIn (by omega) I g rx fun s' I' => ⟨.bl _, m.H, I', rfl, ?_⟩
      rcases rs.look k with ⟨v, x, e1, e2, _⟩ | ⟨e1, e2⟩
      · rw [e2]; rw [e1] at h3; exact stay hS (.bl _) h3
      · rw [e2]; rw [e1] at h3; exact stay hS (.bl _) h3
  | _ => intro h; exact h.elim
theorem opr_cmp (hu : X.A.units + 65 < cLine) (op : CmpOp) : OpR X (compareOp op) (r2 X cl fun v w S Q => cmpW op v w S fun b => Q (.bl b) S) := by
  cases op
  case Eq => exact opr_eq hu
  case NotEq => exact opr_ne hu
  case In => exact opr_in hu
  case NotIn => exact opr_notin hu
  case Is => intro pins s σ H x y v u Q I rx ry h; obtain ⟨m, S, a, b, hK, rfl, hS, ra, rb, h⟩ := h; exact h.elim
  case IsNot => intro pins s σ H x y v u Q I rx ry h; obtain ⟨m, S, a, b, hK, rfl, hS, ra, rb, h⟩ := h; exact h.elim
  all_goals
    intro pins s σ H x y v u Q I rx ry h
    obtain ⟨m, S, a, b, hK, rfl, hS, ra, rb, h⟩ := h
    revert h
    unfold cmpW
    cases a <;> cases b <;> intro h <;> try exact h.elim
    cases ra; cases rb
  · exact opr_of op_lt I rx ry ⟨_, _, rfl, rfl, fun _ => stay hS (.bl _) h⟩
  · exact opr_of op_le I rx ry ⟨_, _, rfl, rfl, fun _ => stay hS (.bl _) h⟩
  · exact opr_of op_gt I rx ry ⟨_, _, rfl, rfl, fun _ => stay hS (.bl _) h⟩
  · exact opr_of op_ge I rx ry ⟨_, _, rfl, rfl, fun _ => stay hS (.bl _) h⟩
end
end Mi

set_option maxHeartbeats 2000000
namespace Mi
open PySem PySem.Spec L2 PyProof.Rows
section
variable {X : Cx} {cl : String → Addr → Prop}
theorem ixN_eq (n : Nat) (i : Int) : Mi.ixN n i = L2.ixN n i := rfl
theorem atI_rd {m : Sm} {ds : List Val} {xs : List V} {i : Int} {v : Val} (r : RDs m ds xs) (h : Mi.atI ds i = some v) : ∃ x, L2.atI xs i = some x ∧ RD m v x := by
  unfold Mi.atI at h
  unfold L2.atI
  rw [← r.length, ← ixN_eq]
  cases e : Mi.ixN ds.length i with
  | none => rw [e] at h; cases h
  | some j =>
    rw [e] at h
    exact r.get h
theorem atI_map {α β : Type} (f : α → β) {xs : List α} {i : Int} {c : α} (h : Mi.atI xs i = some c) : L2.atI (xs.map f) i = some (f c) := by
  unfold Mi.atI at h
  unfold L2.atI
  rw [List.length_map, ← ixN_eq]
  cases e : Mi.ixN xs.length i with
  | none => rw [e] at h; cases h
  | some j =>
    rw [e] at h
    have h' : xs[j]? = some c := h
    show (xs.map f)[j]? = some (f c)
    rw [List.getElem?_map, h']
    rfl
theorem ix_dict (hu : X.A.units + 1 < cLine) : IxR X (fun x y H Q => ∃ a v, x = .ref a ∧ DGet H a y (some v) ∧ Q v H) := by
  intro value slice pins s σ H x y v u Q I rx ry h hs
  obtain ⟨a, z, rfl, g, q⟩ := h
  obtain rfl : v = Value.ref a := rx
  have hT := dict_typeIs I g
  unfold subscriptTail
  refine wpAny_bind ?_
  rw [getitemInPython_of_ne hT.not_modules]
  refine wpAny_bind (wpAny_specialOf hT PySem.F.slot_dict_getitem.lookup ?_)
  have fin : wpAny (model X.prog X.w) X.A (subscripted slice false (.ref a) u) (fun r s₃ => wpAny (model X.prog X.w) X.A (letTemporaryGo value (.ref a) r >>= fun _ => pure r) (EP X pins σ Q) X.xe s₃) X.xe s := by
    rw [hs]
    exact wpAny_operating (d_getItem hu I g ry fun w' s3 I3 rw' => wpAny_bind (wpAny_letTemporaryGo (wpAny_pure ⟨z, H, I3, rw', q⟩)))
  first
    | exact wpAny_pure (wpAny_bind fin)
    | exact wpAny_bind (wpAny_pure (wpAny_bind fin))
    | exact wpAny_bind fin
theorem singleton_ofString (c : Char) : Str.ofString (String.singleton c) = ⟨#[c.toNat]⟩ := by
  rw [Str.ofString_eq_toList]
  simp [String.toList_singleton]
theorem ix_ok (hu : X.A.units + 1 < cLine) : IxR X (r2 X cl subW) := by
  intro value slice pins s σ H x y v u Q I rx ry h hs
  obtain ⟨m, S, a, b, hK, rfl, hS, ra, rb, h⟩ := h
  revert h
  unfold subW
  split <;> intro h
  · obtain ⟨w, h1, h2⟩ := h
    cases ra with
    | @tup p xs _ hq rs =>
    cases rb
    rw [hK] at hq
    obtain ⟨z, e, rz⟩ := atI_rd rs h1
    exact ix_tup value slice pins s σ _ _ _ v u Q I rx ry ⟨p, xs, _, z, rfl, rfl, hq, e, stay hS rz h2⟩ hs
  · obtain ⟨hl, c, h1, h2⟩ := h
    cases ra; cases rb
    rename_i x k
    refine ix_str value slice pins s σ _ _ _ v u Q I rx ry ⟨_, _, c.toNat, rfl, rfl, by rw [len_ofString]; exact hl, ?_, ?_⟩ hs
    · rw [cps_ofString]
      exact atI_map Char.toNat h1
    · rw [← singleton_ofString]
      exact stay hS (.str _) h2
  · cases ra with
    | @ref n p hp =>
    rcases h with ⟨xs, j, w, rfl, h1, h2, h3⟩ | ⟨kvs, q, w, h1, h2, h3, h4⟩
    · cases rb
      obtain ⟨vs, hq, rs⟩ := hS.lst h1 hp
      rw [hK] at hq
      obtain ⟨z, e, rz⟩ := atI_rd rs h2
      exact ix_list value slice pins s σ _ _ _ v u Q I rx ry ⟨p, vs, _, z, rfl, rfl, hq, e, stay hS rz h3⟩ hs
    · obtain ⟨ws, hq, rs⟩ := hS.dic h1 hp
      have ek := key_rd rb h2
      subst ek
      rcases rs.look q with ⟨v', x', e1, e2, r⟩ | ⟨e1, e2⟩
      · rw [h3] at e1
        cases e1
        exact ix_dict hu value slice pins s σ _ _ _ v u Q I rx ry ⟨p, x', rfl, .inl ⟨ws, _, hq, rfl, e2.symm⟩, stay hS r h4⟩ hs
      · rw [h3] at e1; cases e1
  · exact h.elim

theorem get_ok (hu : X.A.units + 1 < cLine) : PGet X (fun o i H Q => ∃ m S a b, m.K = X.K ∧ m.H = H ∧ SH cl m S ∧ RD m a o ∧ RD m b i ∧ (∃ n, a = .ref n) ∧ subW a b S (liftQ cl m Q)) := by
  intro pins s σ H x y v u Q I rx ry h
  obtain ⟨m, S, a, b, hK, rfl, hS, ra, rb, ⟨n, rfl⟩, h⟩ := h
  cases ra with
  | @ref _ p hp =>
  rcases h with ⟨xs, j, w, rfl, h1, h2, h3⟩ | ⟨kvs, q, w, h1, h2, h3, h4⟩
  · cases rb
    obtain ⟨vs, hq, rs⟩ := hS.lst h1 hp
    rw [hK] at hq
    obtain ⟨z, e, rz⟩ := atI_rd rs h2
    cases rx
    obtain ⟨t, rfl⟩ := ry
    obtain ⟨its, r, pl, hz⟩ := I.list hq
    obtain ⟨i, e1, e2, e3, e4, e5⟩ := atI_get e
    obtain ⟨w', ew, rw'⟩ := r.get e2
    have hl := r.length
    have hn := line63
    have fin : EP X pins σ Q w' s := ⟨z, m.H, I, rw', stay hS rz h3⟩
    by_cases h0 : 0 ≤ j
    · have hj : j.toNat = i := by
        rw [seqIndex_of h0 e5] at e1
        exact Option.some.inj e1
      exact wpAny_getItem_list pl.isList h0 (by omega) (by rw [hj]; simpa using ew) fin
    · have hj : (j + (its.toArray.size : Int)).toNat = i := by
        rw [seqIndex_neg (by omega) e4] at e1
        rw [List.size_toArray, ← hl]
        exact Option.some.inj e1
      exact wpAny_getItem_list_neg pl.isList (by omega) (by rw [List.size_toArray] <;> omega) (by omega) (by rw [hj]; simpa using ew) fin
  · obtain ⟨ws, hq, rs⟩ := hS.dic h1 hp
    have ek := key_rd rb h2
    subst ek
    rcases rs.look q with ⟨v', x', e1, e2, r⟩ | ⟨e1, e2⟩
    · rw [h3] at e1
      cases e1
      obtain rfl : v = Value.ref p := rx
      exact d_getItem hu I (.inl ⟨ws, _, hq, rfl, e2.symm⟩) ry fun w' s3 I3 rw' => ⟨x', m.H, I3, rw', stay hS r h4⟩
    · rw [h3] at e1; cases e1

/-! ### slices -/
theorem sIx_eq (n d : Nat) (o : Option Int) : Mi.sIx n d o = HT.sIx n d o := by cases o <;> rfl
theorem cut_rd {m : Sm} {ds : List Val} {xs : List V} {lo hi : Option Int} (r : RDs m ds xs) : RDs m (cut ds lo hi) (cutV xs lo hi) := by
  unfold cut cutV
  rw [sIx_eq, sIx_eq, r.length]
  exact (r.drop _).take _
theorem cut_all {α : Type} {xs : List α} {lo hi : Option Int} (h : HT.sIx xs.length 0 lo = 0 ∧ HT.sIx xs.length xs.length hi = xs.length) : cut xs lo hi = xs := by
  unfold cut
  rw [sIx_eq, sIx_eq, h.1, h.2]
  simp
theorem cut_map {α β : Type} (f : α → β) (xs : List α) (lo hi : Option Int) : (cut xs lo hi).map f = (((xs.map f).drop (HT.sIx (xs.map f).length 0 lo)).take (HT.sIx (xs.map f).length (xs.map f).length hi - HT.sIx (xs.map f).length 0 lo)) := by
  unfold cut
  rw [sIx_eq, sIx_eq, List.length_map, List.map_take, List.map_drop]
theorem cutS_ofString (x : String) (lo hi : Option Int) : cutS (Str.ofString x) lo hi = Str.ofString (String.ofList (cut x.toList lo hi)) := by
  rw [ofString_ofList, cut_map]
  unfold cutS
  rw [cps_ofString, len_ofString]
  simp [String.length_toList]
theorem sl_ok : SlR X (fun x lo hi H Q => ∃ m S v, m.K = X.K ∧ m.H = H ∧ SH cl m S ∧ RD m v x ∧ sliceW v lo hi S (liftQ cl m Q)) := by
  have key : ∀ {r : V → Option Int → Option Int → Hp → VK → Prop}, SlR X r → SlR X (fun x lo hi H Q => r x lo hi H fun z H' => KF X.K H' → Q z H') := by
    intro r hr pins s σ H x v vl vu lo hi sl Q I rx hs pl pu h
    obtain ⟨T, id, h1, h2, h3⟩ := hr pins s σ H x v vl vu lo hi sl _ I rx hs pl pu h
    exact ⟨T, id, h1, h2, epkf h3⟩
  intro pins s σ H x v vl vu lo hi sl Q I rx hs pl pu h
  obtain ⟨m, S, a, hK, rfl, hS, ra, h⟩ := h
  revert h
  unfold sliceW
  split <;> intro h
  · rename_i xs
    cases ra with
    | @tup p vs _ hq rs =>
    rw [hK] at hq
    refine key sl_tupA pins s σ _ _ v vl vu lo hi sl Q I rx hs pl pu ⟨p, vs, rfl, hq, fun e _ => ?_, fun e q hq' kf => mk_tup hS (cut_rd rs) hq' (hK ▸ kf) h⟩
    rw [cut_all (by rw [rs.length]; exact e)] at h
    exact stay hS (.tup (by rw [hK]; exact hq) rs) h
  · cases ra
    refine key sl_str pins s σ _ _ v vl vu lo hi sl Q I rx hs pl pu ⟨_, rfl, by rw [len_ofString]; exact h.1, fun _ => ?_⟩
    rw [cutS_ofString]
    exact stay hS (.str _) h.2
  · obtain ⟨xs, h1, h2⟩ := h
    cases ra with
    | @ref n p hp =>
    obtain ⟨vs, hq, rs⟩ := hS.lst h1 hp
    rw [hK] at hq
    exact key sl_list pins s σ _ _ v vl vu lo hi sl Q I rx hs pl pu ⟨p, vs, rfl, hq, fun q hq' kf => mk_lst hS (cut_rd rs) hq' (hK ▸ kf) h2⟩
  · exact h.elim

/-! ### truth -/
theorem truth_rd {m : Sm} {S : Hm} {v : Val} {x : V} {b : Bool} (hS : SH cl m S) (hK : m.K = X.K) (r : RD m v x) (h : truth v S = some b) : TruV X.K x m.H b := by
  cases r with
  | non => simp [truth] at h; exact h.symm ▸ rfl
  | bl c => simp [truth] at h; exact h ▸ rfl
  | int i => simp only [truth, Option.some.injEq] at h; exact h ▸ rfl
  | str z =>
    simp only [truth] at h
    split at h
    case isFalse => cases h
    rename_i hl
    simp only [Option.some.injEq] at h
    refine ⟨by rw [len_ofString]; exact hl, ?_⟩
    rw [len_ofString, ← h]
    by_cases e : z.length = 0
    · simp [e]
    · have e2 : ¬ ((z.length : Nat) : Int) = 0 := by omega
      rw [bne_iff_ne.mpr e, bne_iff_ne.mpr e2]
  | @tup a xs ds hq rs =>
    simp only [truth, Option.some.injEq] at h
    rw [hK] at hq
    exact .inr (.inl ⟨xs, hq, by rw [← h, rs.isEmpty]⟩)
  | @ref n a ha =>
    simp only [truth] at h
    split at h
    · rename_i xs e
      cases h
      obtain ⟨vs, hq, rs⟩ := hS.lst (lst_of e) ha
      rw [hK] at hq
      exact .inl ⟨vs, hq, by rw [rs.isEmpty]⟩
    · rename_i xs e
      cases h
      obtain ⟨vs, hq, rs⟩ := hS.lst (xs := xs) (by unfold Hm.lst; rw [e]) ha
      rw [hK] at hq
      exact .inl ⟨vs, hq, by rw [rs.isEmpty]⟩
    · rename_i xs e
      cases h
      obtain ⟨ws, hq, rs⟩ := hS.dic' e ha
      refine .inr (.inr ⟨ws, hq, ?_⟩)
      unfold RKs at rs
      cases rs <;> rfl
    · cases h
  | exc h' => simp [truth] at h

/-! ### built-in functions -/
def rA (X : Cx) (cl : String → Addr → Prop) (r : List Val → Hm → Post → Prop) : List V → Hp → VK → Prop := fun xs H Q => ∃ m S vs, m.K = X.K ∧ m.H = H ∧ SH cl m S ∧ RDs m vs xs ∧ r vs S (liftQ cl m Q)
def biV : Bi → Value
  | .len => .builtin "len"
  | .abs => .builtin "abs"
  | .min => .builtin "min"
  | .max => .builtin "max"
  | .int => .type "int"
  | .str => .type "str"
  | .list => .type "list"
  | .tuple => .type "tuple"
  | .dict => .type "dict"
  | .sum => .builtin "sum"
  | .sorted => .builtin "sorted"
  | .all => .builtin "all"
  | .any => .builtin "any"
  | .range => .type "range"
theorem toString_ofString (i : Int) : (toString i : String) = toString i := rfl
theorem bi_ok (hc : X.calm = true) (f : Bi) : CallR X (biV f) (rA X cl (biW f)) := by
  intro pins s σ H xs us Q I r h
  obtain ⟨m, S, vs, hK, rfl, hS, rs, h⟩ := h
  have use : ∀ {f : Value} {r' : List V → Hp → VK → Prop}, CallR X f r' → r' xs m.H (fun z H' => KF X.K H' → Q z H') → wpAny (model X.prog X.w) X.A (call f us) (EP X pins σ Q) X.xe s := fun h1 h2 => CallR.kf h1 pins s σ m.H xs us Q I r h2
  revert h
  unfold biW
  split <;> intro h
  · -- len
    rename_i x
    cases rs with
    | cons r1 r2 =>
    cases r2
    cases r1 with
    | str a => exact use call_len_str ⟨_, rfl, by rw [len_ofString]; exact h.1, fun _ => by rw [len_ofString]; exact stay hS (.int _) h.2⟩
    | @tup p ys ds hq rs => 
      rw [hK] at hq
      exact use call_len_seq ⟨p, ys, rfl, .inr hq, fun _ => by rw [← rs.length]; exact stay hS (.int _) h⟩
    | @ref n p hp =>
      rcases h with ⟨ys, h1, h2⟩ | ⟨kvs, h1, h2⟩
      · obtain ⟨ws, hq, rs⟩ := hS.lst h1 hp
        rw [hK] at hq
        exact use call_len_seq ⟨p, ws, rfl, .inl hq, fun _ => by rw [← rs.length]; exact stay hS (.int _) h2⟩
      · obtain ⟨ws, hq, rs⟩ := hS.dic' h1 hp
        exact use call_lenD ⟨p, ws, rfl, hq, fun _ => by rw [← rs.length]; exact stay hS (.int _) h2⟩
    | _ => exact h.elim
  · -- abs
    cases rs with
    | cons r1 r2 =>
    cases r2; cases r1
    exact use call_abs ⟨_, rfl, fun _ => stay hS (.int _) h⟩
  · -- min
    cases rs with
    | cons r1 r2 =>
    cases r2 with
    | cons r2 r3 =>
    cases r3; cases r1; cases r2
    exact use (call_min2 hc) ⟨_, _, rfl, fun _ => stay hS (.int _) h⟩
  · cases rs with
    | cons r1 r2 =>
    cases r2 with
    | cons r2 r3 =>
    cases r3; cases r1; cases r2
    exact use (call_max2 hc) ⟨_, _, rfl, fun _ => stay hS (.int _) h⟩
  · cases rs with
    | cons r1 r2 =>
    cases r2
    cases r1 with
    | @ref n p hp =>
    obtain ⟨ns, h1, h2, h3⟩ := h
    obtain ⟨ws, hq, rs⟩ := hS.lst h1 hp
    rw [hK] at hq
    have e := rs.ints
    subst e
    exact use (cr_min hc) ⟨p, ns, rfl, hq, List.length_pos_iff.mpr h2, fun k h4 h5 _ => stay hS (.int _) (h3 k h4 h5)⟩
  · cases rs with
    | cons r1 r2 =>
    cases r2
    cases r1 with
    | @ref n p hp =>
    obtain ⟨ns, h1, h2, h3⟩ := h
    obtain ⟨ws, hq, rs⟩ := hS.lst h1 hp
    rw [hK] at hq
    have e := rs.ints
    subst e
    exact use (cr_max hc) ⟨p, ns, rfl, hq, List.length_pos_iff.mpr h2, fun k h4 h5 _ => stay hS (.int _) (h3 k h4 h5)⟩
  · cases rs with
    | cons r1 r2 =>
    cases r2; cases r1
    exact use call_int1 (.inl ⟨_, rfl, fun _ => stay hS (.int _) h⟩)
  · cases rs with
    | cons r1 r2 =>
    cases r2; cases r1
    exact use call_int1 (.inr ⟨_, rfl, fun _ => stay hS (.int _) h⟩)
  · cases rs with
    | cons r1 r2 =>
    cases r2; cases r1
    obtain ⟨n, h1, h2, h3⟩ := h
    exact use call_int_str ⟨_, n, rfl, h1, by rw [len_ofString]; exact h2, fun _ => stay hS (.int _) h3⟩
  · cases rs with
    | cons r1 r2 =>
    cases r2; cases r1
    exact use call_str_int ⟨_, rfl, h.1, fun _ => stay hS (.str _) h.2⟩
  · cases rs with
    | cons r1 r2 =>
    cases r2; cases r1
    exact use SkE.call_str_str ⟨_, rfl, fun _ => stay hS (.str _) h⟩
  · cases rs with
    | cons r1 r2 =>
    cases r2
    cases r1 with
    | @tup p ys ds hq rs =>
    rw [hK] at hq
    exact use call_list_of ⟨p, ys, rfl, .inr hq, fun l hl kf => mk_lst hS rs hl (hK ▸ kf) h⟩
  · cases rs with
    | cons r1 r2 =>
    cases r2
    cases r1 with
    | @ref n p hp =>
    obtain ⟨ys, h1, h2⟩ := h
    obtain ⟨ws, hq, rs⟩ := hS.lst h1 hp
    rw [hK] at hq
    exact use call_list_of ⟨p, ws, rfl, .inl hq, fun l hl kf => mk_lst hS rs hl (hK ▸ kf) h2⟩
  · cases rs with
    | cons r1 r2 =>
    cases r2
    cases r1 with
    | @tup p ys ds hq rs =>
    rw [hK] at hq
    exact use call_tuple_of ⟨p, ys, rfl, .inr ⟨hq, fun _ => stay hS (.tup (by rw [hK]; exact hq) rs) h⟩⟩
  · cases rs with
    | cons r1 r2 =>
    cases r2
    cases r1 with
    | @ref n p hp =>
    obtain ⟨ys, h1, h2⟩ := h
    obtain ⟨ws, hq, rs⟩ := hS.lst h1 hp
    rw [hK] at hq
    exact use call_tuple_of ⟨p, ws, rfl, .inl ⟨hq, fun l hl kf => mk_tup hS rs hl (hK ▸ kf) h2⟩⟩
  · cases rs with
    | cons r1 r2 =>
    cases r2
    cases r1 with
    | @ref n p hp =>
    obtain ⟨kvs, h1, h2⟩ := h
    obtain ⟨ws, hq, rs⟩ := hS.dic h1 hp
    exact use call_dictD ⟨p, ws, rfl, hq, fun l hl kf => mk_dic hS rs hl (hK ▸ kf) h2⟩
  · cases rs with
    | cons r1 r2 =>
    cases r2
    cases r1 with
    | @ref n p hp =>
    obtain ⟨ns, h1, h2⟩ := h
    obtain ⟨ws, hq, rs⟩ := hS.lst h1 hp
    rw [hK] at hq
    have e := rs.ints
    subst e
    exact use (cr_sum hc) ⟨p, ns, rfl, hq, fun _ => stay hS (.int _) h2⟩
  · cases rs with
    | cons r1 r2 =>
    cases r2
    cases r1 with
    | @ref n p hp =>
    obtain ⟨bs, h1, h2⟩ := h
    obtain ⟨ws, hq, rs⟩ := hS.lst h1 hp
    rw [hK] at hq
    have e := rs.bls
    subst e
    exact use (cr_all hc) ⟨p, bs, rfl, hq, fun _ => stay hS (.bl _) h2⟩
  · cases rs with
    | cons r1 r2 =>
    cases r2
    cases r1 with
    | @ref n p hp =>
    obtain ⟨bs, h1, h2⟩ := h
    obtain ⟨ws, hq, rs⟩ := hS.lst h1 hp
    rw [hK] at hq
    have e := rs.bls
    subst e
    exact use (cr_any hc) ⟨p, bs, rfl, hq, fun _ => stay hS (.bl _) h2⟩
  · cases rs with
    | cons r1 r2 =>
    cases r2
    cases r1 with
    | @ref n p hp =>
    obtain ⟨ns, h1, h2⟩ := h
    obtain ⟨ws, hq, rs⟩ := hS.lst h1 hp
    rw [hK] at hq
    have e := rs.ints
    subst e
    exact use cr_sortedI ⟨p, ns, rfl, hq, fun ns' l hp1 hp2 hl kf => mk_lst hS (RDs.of_ints ns') hl (hK ▸ kf) (h2 ns' hp1 hp2)⟩
  · exact h.elim
end
end Mi

set_option maxHeartbeats 2000000
namespace Mi
open PySem PySem.Spec L2 PyProof.Rows
section
variable {X : Cx} {cl : String → Addr → Prop}
theorem seqIx_eq {n : Nat} {i : Int} {j : Nat} (h : Mi.ixN n i = some j) : seqIndex? i n = some j ∧ j < n ∧ -(n : Int) ≤ i ∧ i < n := ixN_seq (by rw [← ixN_eq]; exact h)
def rM (X : Cx) (cl : String → Addr → Prop) (r : Val → List Val → Hm → Post → Prop) : V → List V → Hp → VK → Prop := fun x xs H Q => ∃ m S v vs, m.K = X.K ∧ m.H = H ∧ SH cl m S ∧ RD m v x ∧ RDs m vs xs ∧ r v vs S (liftQ cl m Q)
/-- the type, the name and the built-in of a method -/
def bmI : Bm → String × String × String
  | .append => ("list", "append", "list.append")
  | .extend => ("list", "extend", "list.extend")
  | .pop => ("list", "pop", "list.pop")
  | .insert => ("list", "insert", "list.insert")
  | .reverse => ("list", "reverse", "list.reverse")
  | .count => ("list", "count", "list.count")
  | .index => ("list", "index", "list.index")
  | .clear => ("list", "clear", "list.clear")
  | .dclear => ("dict", "clear", "dict.clear")
  | .get => ("dict", "get", "dict.get")
  | .setdefault => ("dict", "setdefault", "dict.setdefault")
  | .update => ("dict", "update", "dict.update")
  | .startswith => ("str", "startswith", "str.startswith")
  | .split => ("str", "split", "str.split")
  | .join => ("str", "join", "str.join")
  | .isupper => ("str", "isupper", "str.isupper")
  | .upper => ("str", "upper", "str.upper")
  | .replace => ("str", "replace", "str.replace")
theorem strs_rd {m : Sm} : ∀ (ys : List String), RDs m (ys.map Val.str) ((ys.map Str.ofString).map V.str)
  | [] => .nil
  | y :: ys => .cons (.str y) (strs_rd ys)
theorem rd_strs {m : Sm} : ∀ {ys : List String} {xs : List V}, RDs m (ys.map Val.str) xs → xs = (ys.map Str.ofString).map V.str
  | [], _, h => by cases h; rfl
  | y :: ys, _, h => by
    cases h with
    | cons h hs =>
      cases h
      rw [rd_strs hs]
      rfl
theorem mt_ok (hu : X.A.units + 1 < cLine) (b : Bm) : MtR X (bmI b).2.2 (rM X cl (bmW b)) := by
  intro pins s σ H x xs v us Q I rx rxs h
  obtain ⟨m, S, o, vs, hK, rfl, hS, ro, rs, h⟩ := h
  have use : ∀ {id : String} {r' : V → List V → Hp → VK → Prop}, MtR X id r' → r' x xs m.H (fun z H' => KF X.K H' → Q z H') → wpAny (model X.prog X.w) X.A (call (.builtin id) (v :: us)) (EP X pins σ Q) X.xe s := fun h1 h2 => MtR.kf h1 pins s σ m.H x xs v us Q I rx rxs h2
  revert h
  unfold bmW
  split <;> intro h
  · -- append
    obtain ⟨ys, h1, h2, h3⟩ := h
    cases ro with
    | @ref n p hp =>
    cases rs with
    | cons r1 r2 =>
    cases r2
    obtain ⟨ws, hq, rs⟩ := hS.lst' h1 hp
    exact use mt_append ⟨p, ws, _, rfl, rfl, hq, by rw [← rs.length]; exact h2, fun _ => wr_lst hS hp hq (rs.append (.cons r1 .nil)) .non h3⟩
  · -- extend
    obtain ⟨ys, zs, h1, h2, h3, h4⟩ := h
    cases ro with
    | @ref n p hp =>
    cases rs with
    | cons r1 r2 =>
    cases r2
    cases r1 with
    | @ref k q hq' =>
    obtain ⟨ws, hq, rs⟩ := hS.lst' h1 hp
    obtain ⟨wz, hz, rz⟩ := hS.lst' h2 hq'
    exact use mt_extend ⟨p, q, ws, wz, rfl, rfl, hq, hz, by rw [← rs.length, ← rz.length]; exact h3, fun _ => wr_lst hS hp hq (rs.append rz) .non h4⟩
  · -- pop
    obtain ⟨ys, y, h1, h2, h3⟩ := h
    cases ro with
    | @ref n p hp =>
    cases rs
    obtain ⟨ws, hq, rs⟩ := hS.lst' h1 hp
    obtain ⟨z, hz, rz⟩ := rs.get h2
    exact use mt_pop ⟨p, ws, z, rfl, rfl, hq, by rw [← rs.length]; exact hz, fun _ => wr_lst hS hp hq rs.dropLast rz h3⟩
  · obtain ⟨ys, k, y, h1, h2, h3, h4, h5⟩ := h
    cases ro with
    | @ref n p hp =>
    cases rs with
    | cons r1 r2 =>
    cases r2; cases r1
    obtain ⟨ws, hq, rs⟩ := hS.lst' h1 hp
    obtain ⟨z, hz, rz⟩ := rs.get h4
    obtain ⟨q1, q2, q3, q4⟩ := seqIx_eq h2
    have hn := line63
    exact use mt_popAt ⟨p, ws, _, k, z, rfl, rfl, hq, by omega, by omega, by rw [← rs.length]; exact q1, hz, fun _ => wr_lst hS hp hq (rs.erase k) rz h5⟩
  · -- insert
    obtain ⟨ys, h1, h2, h3, h4, h5⟩ := h
    cases ro with
    | @ref n p hp =>
    cases rs with
    | cons r1 r2 =>
    cases r2 with
    | cons r2 r3 =>
    cases r3; cases r1
    obtain ⟨ws, hq, rs⟩ := hS.lst' h1 hp
    exact use mt_insert ⟨p, ws, _, _, rfl, rfl, hq, by rw [← rs.length]; exact h2, h3, h4, fun _ => wr_lst hS hp hq (((rs.take _).append (.cons r2 .nil)).append (rs.drop _)) .non h5⟩
  · -- reverse
    obtain ⟨ys, h1, h2⟩ := h
    cases ro with
    | @ref n p hp =>
    cases rs
    obtain ⟨ws, hq, rs⟩ := hS.lst' h1 hp
    exact use mt_reverse ⟨p, ws, rfl, rfl, hq, fun _ => wr_lst hS hp hq rs.rev .non h2⟩
  · -- index
    obtain ⟨ys, j, z, h1, h2, h3, h4, h5, h6, h7⟩ := h
    cases ro with
    | @ref n p hp =>
    cases rs with
    | cons r1 r2 =>
    cases r2
    obtain ⟨ws, hq, rs⟩ := hS.lst h1 hp
    rw [hK] at hq
    obtain ⟨z', hz, rz⟩ := rs.get h4
    have fl : ∀ (k : Nat) w, ys[k]? = some w → flat w = true := fun k w e => List.all_eq_true.mp h3 w (List.mem_of_getElem? e)
    refine use mt_index ⟨p, ws, _, j, z', rfl, rfl, hq, flat_rd r1 h2, flats_rd rs h3, hz, by rw [feq_rd rz r1 (fl j z h4) h2]; exact h5, fun k w hk hw => ?_, fun _ => stay hS (.int _) h7⟩
    obtain ⟨d, hd, rd⟩ := rs.getV hw
    rw [feq_rd rd r1 (fl k d hd) h2]
    exact h6 k d hk hd
  · -- dclear
    obtain ⟨kvs, h1, h2⟩ := h
    cases ro with
    | @ref n p hp =>
    cases rs
    cases rxs
    obtain ⟨ws, hq, rs⟩ := hS.dic' h1 hp
    obtain rfl : v = Value.ref p := rx
    exact d_clear I hq fun s' I' => ⟨.non, _, I', rfl, wr_dic hS hp hq .nil .non h2⟩
  · -- get
    obtain ⟨kvs, q, h1, h2, h3⟩ := h
    cases ro with
    | @ref n p hp =>
    cases rs with
    | cons r1 r2 =>
    cases r2
    obtain ⟨ws, hq, rs⟩ := hS.dic h1 hp
    have ek := key_rd r1 h2
    subst ek
    obtain rfl : v = Value.ref p := rx
    cases rxs with
    | cons t1 t2 =>
    cases t2
    refine d_get1 (A := X.A) hu I (.inl ⟨ws, _, hq, rfl, rfl⟩) t1 fun w' s' I' rw' => ?_
    rcases rs.look q with ⟨v', x', e1, e2, r⟩ | ⟨e1, e2⟩
    · rw [e2] at rw'; rw [e1] at h3
      exact ⟨x', m.H, I', rw', stay hS r h3⟩
    · rw [e2] at rw'; rw [e1] at h3
      exact ⟨.non, m.H, I', rw', stay hS .non h3⟩
  · obtain ⟨kvs, q, h1, h2, h3⟩ := h
    cases ro with
    | @ref n p hp =>
    cases rs with
    | cons r1 r2 =>
    cases r2 with
    | cons r2 r3 =>
    cases r3
    obtain ⟨ws, hq, rs⟩ := hS.dic h1 hp
    have ek := key_rd r1 h2
    subst ek
    obtain rfl : v = Value.ref p := rx
    cases rxs with
    | cons t1 t2 =>
    cases t2 with
    | cons t2 t3 =>
    cases t3
    refine d_get2 (A := X.A) hu I (.inl ⟨ws, _, hq, rfl, rfl⟩) t1 t2 fun w' s' I' rw' => ?_
    rcases rs.look q with ⟨v', x', e1, e2, r⟩ | ⟨e1, e2⟩
    · rw [e2] at rw'; rw [e1] at h3
      exact ⟨x', m.H, I', rw', stay hS r h3⟩
    · rw [e2] at rw'; rw [e1] at h3
      exact ⟨_, m.H, I', rw', stay hS r2 h3⟩
  · -- setdefault
    obtain ⟨kvs, q, h1, h2, h3, h4, h5⟩ := h
    cases ro with
    | @ref n p hp =>
    cases rs with
    | cons r1 r2 =>
    cases r2 with
    | cons r2 r3 =>
    cases r3
    obtain ⟨ws, hq, rs⟩ := hS.dic' h1 hp
    have ek := key_rd r1 h2
    subst ek
    obtain rfl : v = Value.ref p := rx
    cases rxs with
    | cons t1 t2 =>
    cases t2 with
    | cons t2 t3 =>
    cases t3
    refine d_setd (A := X.A) I hq t1 t2 (by rw [← rs.length]; exact h3) (fun z hz w' s' I' rw' => ?_) (fun hn w' s' I' rw' => ?_)
    · rcases rs.look q with ⟨v', x', e1, e2, r⟩ | ⟨e1, e2⟩
      · rw [hz] at e2; cases e2
        exact ⟨z, m.H, I', rw', stay hS r (h4 v' e1)⟩
      · rw [hz] at e2; cases e2
    · rcases rs.look q with ⟨v', x', e1, e2, r⟩ | ⟨e1, e2⟩
      · rw [hn] at e2; cases e2
      · exact ⟨_, _, I', rw', wr_dic hS hp hq (rs.put q r2) r2 (h5 e1)⟩
  · -- startswith
    cases ro
    cases rs with
    | cons r1 r2 =>
    cases r2; cases r1
    exact use mt_startswith ⟨_, _, rfl, rfl, fun _ => stay hS (.bl _) h⟩
  · -- split
    obtain ⟨ys, h1, h2, h3, h4⟩ := h
    cases ro
    cases rs with
    | cons r1 r2 =>
    cases r2; cases r1
    refine use mt_split ⟨_, _, rfl, rfl, by rw [len_ofString]; exact beq_eq_false_iff_ne.mpr h2, by rw [len_ofString]; exact h3, fun p hp kf => ?_⟩
    rw [h1] at kf ⊢
    exact mk_lst hS (strs_rd ys) hp (hK ▸ kf) h4
  · obtain ⟨ys, h1, h3, h4⟩ := h
    cases ro
    cases rs
    refine use mt_words ⟨_, rfl, rfl, by rw [len_ofString]; exact h3, fun p hp kf => ?_⟩
    rw [h1] at kf ⊢
    exact mk_lst hS (strs_rd ys) hp (hK ▸ kf) h4
  · -- join
    obtain ⟨ys, y, h1, h2, h3, h4⟩ := h
    cases ro
    cases rs with
    | cons r1 r2 =>
    cases r2
    cases r1 with
    | @ref k q hq' =>
    obtain ⟨ws, hq, rs⟩ := hS.lst h1 hq'
    rw [hK] at hq
    have e := rd_strs rs
    subst e
    refine use mt_join ⟨_, q, ys.map Str.ofString, rfl, rfl, .inl hq, ?_, fun _ => ?_⟩
    · rw [List.length_map, len_ofString, List.map_map]
      have e : ((fun x : Str => x.length) ∘ Str.ofString) = String.length := by funext z; exact len_ofString z
      rw [e]
      exact h3
    · rw [h2]
      exact stay hS (.str _) h4
  · cases ro; cases rs
    exact use mt_isupper ⟨_, rfl, rfl, trivial, fun _ => stay hS (.bl _) h⟩
  · obtain ⟨y, h1, h2, h3⟩ := h
    cases ro; cases rs
    refine use mt_upper ⟨_, rfl, rfl, by rw [len_ofString]; exact h2, fun _ => ?_⟩
    rw [h1]
    exact stay hS (.str _) h3
  · exact h.elim
/-- o[i] = v -/
theorem set_ok (hu : X.A.units + 1 < cLine) : PSet X (fun o i v H Q => ∃ m S a b c, m.K = X.K ∧ m.H = H ∧ SH cl m S ∧ RD m a o ∧ RD m b i ∧ RD m c v ∧ setW a b c S fun S' => ∀ m', Ev m m' → SH cl m' S' → Q m'.H) := by
  intro pins s σ H o i v ov iv u Q I ro ri rv h
  obtain ⟨m, S, a, b, c, hK, rfl, hS, ra, rb, rc, h⟩ := h
  revert h
  unfold setW
  split <;> intro h
  · cases ra with
    | @ref n p hp =>
    rcases h with ⟨xs, k, j, h1, rfl, h2, h3⟩ | ⟨kvs, q, h1, h2, h3, h4⟩
    · cases rb
      obtain ⟨ws, hq, rs⟩ := hS.lst' h1 hp
      refine set_list pins s σ m.H _ _ _ ov iv u Q I ro ri rv ⟨p, ws, k, j, rfl, rfl, hq, by rw [← rs.length, ← ixN_eq]; exact h2, ?_⟩
      have e : Ev m { m with H := L2.upd m.H p (.lst (ws.set j v)) } := Ev.write hp hq
      exact h3 { m with H := L2.upd m.H p (.lst (ws.set j v)) } e (hS.write hp hq ⟨_, upd_same, (rs.set rc j).up (e.up hS)⟩)
    · obtain ⟨ws, hq, rs⟩ := hS.dic' h1 hp
      have ek := key_rd rb h2
      subst ek
      refine set_dict hu pins s σ m.H _ _ _ ov iv u Q I ro ri rv ⟨p, _, rfl, .inl ⟨ws, _, hq, rfl, by rw [← rs.length]; exact h3, rfl⟩, ?_⟩
      have e : Ev m { m with H := L2.upd m.H p (.dK (L2.putK ws (kk q) v)) } := Ev.write hp hq
      exact h4 { m with H := L2.upd m.H p (.dK (L2.putK ws (kk q) v)) } e (hS.write hp hq ⟨_, upd_same, (rs.put q rc).up (e.up hS)⟩)
  · exact h.elim
end
end Mi

set_option maxHeartbeats 4000000
namespace Mi
open PySem PySem.Spec L2 PyProof.Rows

/-! ### what the top has left -/
structure Ln (P : Pg) (K : PySem.W.Frag) (mg : Str → Option Value) (cl : String → Addr → Prop) : Prop where
  con : ∀ x v, P.con x = some v → ∃ a u, mg (Str.ofString x) = some u ∧ L2.RelV a u ∧ ∀ m : Sm, m.K = K → RD m v a
  clc : ∀ c C, cl c C → mg (Str.ofString c) = some (.ref C) ∧ Cls K C
  fld : ∀ c C, cl c C → ∀ f ∈ P.flds, NoAttr K C (Str.ofString f)
  has : ∀ c ∈ P.cls, ∃ C, cl c C
  exc : ∀ c ∈ P.excs, ∃ C, mg (Str.ofString c) = some (.ref C) ∧ PySem.W.excIn K C [.type "ValueError", .type "Exception", .type "BaseException", .type "object"] "ValueError.__new__" = true ∧ PySem.W.keepIn K (.ref C) = true ∧ PySem.W.subIn K (.ref C) (.type "BaseException") = some true ∧ PySem.W.typeIn K (.ref C) = some (.type "type")
  bi : ∀ x ∈ ["len", "abs", "min", "max", "int", "str", "list", "tuple", "dict", "sum", "sorted", "all", "any", "range", "enumerate", "zip", "reversed", "isinstance", "bool"], mg (Str.ofString x) = none
/-- .. for isinstance -/
structure LnI (K : PySem.W.Frag) (cl : String → Addr → Prop) : Prop where
  isT : ∀ c C, cl c C → PySem.W.findIn K (.ref C) "__class__" = some (some (.builtin "object.__class__")) ∧ PySem.W.specialIn K (.builtin "object.__class__") "__get__" = some (some (.builtin "getset_descriptor.__get__")) ∧ PySem.W.takesIn K (.builtin "object.__class__") = some true ∧ PySem.W.mroIn K C (.type "object") = some true
  isB : ∀ c C, cl c C → ∀ n ∈ ["int", "bool", "str", "tuple", "list", "dict"], PySem.W.kitOne K (.ref C) (.type n) = some false
  isC : ∀ c C, cl c C → ∀ n ∈ ["NoneType", "int", "bool", "str", "tuple", "list", "dict"], PySem.W.kitOne K (.type n) (.ref C) = some false
  isCC : ∀ c C c' C', cl c C → cl c' C' → PySem.W.kitOne K (.ref C) (.ref C') = some (c == c')
/-- wishes about exceptions, lifted -/
def liftX (cl : String → Addr → Prop) (mg : Str → Option Value) (m : Sm) (W : Value → Option Addr → Hp → Prop) : XPost := fun c S' => ∀ m' d C, Ev m m' → SH cl m' S' → mg (Str.ofString c) = some (.ref C) → W (.ref C) d m'.H
theorem liftX.ev {cl : String → Addr → Prop} {mg : Str → Option Value} {m m1 : Sm} {W : Value → Option Addr → Hp → Prop} (e : Ev m m1) {c : String} {S : Hm} (h : liftX cl mg m W c S) : liftX cl mg m1 W c S :=
  fun m' d C e' hS hC => h m' d C (e.trans e') hS hC
/-- a def's promise: its body's reading -/
def spF (P : Pg) (cl : String → Addr → Prop) (K : PySem.W.Frag) (mg : Str → Option Value) (k : Nat) (d : FDef) : L2.Sp := fun vs H Q E => ∃ m args S, m.K = K ∧ m.H = H ∧ SH cl m S ∧ RDs m args vs ∧ bodyW P (callW P k) d args S (liftQ cl m Q) (liftX cl mg m E)
def litV : Lit → V
  | .non => .non
  | .bl b => .bl b
  | .int i => .int i
  | .str x => .str (Str.ofString x)
theorem litV_rd {m : Sm} (c : Lit) : RD m c.val (litV c) := by
  cases c with
  | non => exact .non
  | bl b => exact .bl b
  | int i => exact .int i
  | str x => exact .str x
theorem lits_rd {m : Sm} : ∀ cs : List Lit, RDs m (cs.map Lit.val) (cs.map litV)
  | [] => .nil
  | c :: cs => .cons (litV_rd c) (lits_rd cs)
/-- where a def stands -/
structure At (P : Pg) (cl : String → Addr → Prop) (K : PySem.W.Frag) (mg : Str → Option Value) (f : FK) (d : FDef) (a : Addr) (fd : FuncData) (ps : List Str) : Prop where
  nm : match f with
    | .f x => mg (Str.ofString x) = some (.ref a)
    | .m c x => ∀ C, cl c C → Meth K C (Str.ofString x) a ∧ (x = "__init__" → Mk K C a)
  kp : PySem.W.keepIn K (.ref a) = true
  len : ps.length = d.params
  bd : ∀ n, n ≤ d.dflt.length → ∃ ds : List Value, Vals ((d.dflt.drop n).map litV) ds ∧ Binds K fd ps ds
/-- all defs keep their promises below level k -/
def FnAll (P : Pg) (cl : String → Addr → Prop) (prog : Program) (w : World) (K : PySem.W.Frag) (mg : Str → Option Value) (base : Heap) (k : Nat) : Prop :=
  ∀ f d, P.fn f = some d → ∃ a fd ps, At P cl K mg f d a fd ps ∧ ∀ j, j < k → FnOk prog w K mg base (L2.CX prog w) (j + 1) a fd ps (spF P cl K mg j d)
/-- the names of a text: the slots, the scope, the cells -/
structure Ko where
  N : List Str
  sc : Scope
  cf : Str → Bool
/-- where a text stands -/
structure XO (P : Pg) (cl : String → Addr → Prop) (X : Cx) (k : Nat) (o : Ko) (W : WX) : Prop where
  ln : Ln P X.K X.mg cl
  nd : X.N.Nodup
  nn : X.N = o.N
  sc : X.env.scope = o.sc
  fnc : ∀ x, o.cf x = true → X.fn x = true
  isi : LnI X.K cl
  calm : X.calm = true
  room : Room k X.A
  tk : Takes X W
  fns : FnAll P cl X.prog X.w X.K X.mg X.base k
/-- the slots -/
def SV (m : Sm) (env : Env) (σ : L2.St) : Prop := env.length = σ.length ∧ ∀ (i : Nat) (v : Val), env[i]? = some (some v) → ∃ x, σ[i]? = some (some x) ∧ RD m v x
theorem SV.up {m m' : Sm} (u : Up m m') {env : Env} {σ : L2.St} (h : SV m env σ) : SV m' env σ := ⟨h.1, fun i v e => let ⟨x, h1, h2⟩ := h.2 i v e; ⟨x, h1, h2.up u⟩⟩
theorem SV.get {m : Sm} {env : Env} {σ : L2.St} (h : SV m env σ) {i : Nat} {v : Val} (e : eg env i = some v) : ∃ x, σ[i]? = some (some x) ∧ RD m v x := by
  refine h.2 i v ?_
  rw [eg_eq] at e
  cases q : env[i]? with
  | none => rw [q] at e; cases e
  | some o => rw [q] at e; simp at e; rw [e]
theorem SV.set {m : Sm} {env : Env} {σ : L2.St} (h : SV m env σ) {i : Nat} {v : Val} {x : V} (r : RD m v x) : SV m (es env i (some v)) (σ.set i (some x)) := by
  rw [es_eq]
  refine ⟨by simp [h.1], fun j w e => ?_⟩
  by_cases hj : j = i
  · subst hj
    have hl : j < env.length := by
      have := (List.getElem?_eq_some_iff.mp e).1
      simpa using this
    rw [List.getElem?_set_self hl] at e
    cases e
    exact ⟨x, by rw [List.getElem?_set_self (by rw [← h.1]; exact hl)], r⟩
  · rw [List.getElem?_set_ne (Ne.symm hj)] at e
    rw [List.getElem?_set_ne (Ne.symm hj)]
    exact h.2 j w e
theorem SV.none {m : Sm} {env : Env} {σ : L2.St} (h : SV m env σ) (i : Nat) : SV m (es env i .none) (σ.set i .none) := by
  rw [es_eq]
  refine ⟨by simp [h.1], fun j w e => ?_⟩
  by_cases hj : j = i
  · subst hj
    have hl : j < env.length := by
      have := (List.getElem?_eq_some_iff.mp e).1
      simpa using this
    rw [List.getElem?_set_self hl] at e
    cases e
  · rw [List.getElem?_set_ne (Ne.symm hj)] at e
    rw [List.getElem?_set_ne (Ne.symm hj)]
    exact h.2 j w e
theorem SV.wipe {m : Sm} {env : Env} {σ : L2.St} (h : SV m env σ) : ∀ vs : List Nat, SV m (ewipe env vs) (L2.wipe σ vs)
  | [] => h
  | v :: vs => (SV.wipe h vs).none v

section
variable (P : Pg) (cl : String → Addr → Prop) (k : Nat) (X : Cx) (W : WX)
/-- the readings -/
def tE (e : E) : TE := fun σ H Q => ∃ m env S, m.K = X.K ∧ m.H = H ∧ SH cl m S ∧ SV m env σ ∧ wE P.con (callW P k) (liftX cl X.mg m fun c d H => W c d σ H) e env S (liftQ cl m Q)
def tEs (e : Es) : TA := fun σ H Q => ∃ m env S, m.K = X.K ∧ m.H = H ∧ SH cl m S ∧ SV m env σ ∧ wEs P.con (callW P k) (liftX cl X.mg m fun c d H => W c d σ H) e env S fun vs S' => ∀ m' xs, Ev m m' → SH cl m' S' → RDs m' vs xs → Q xs m'.H
def tTs (e : T) : TT := fun σ H Q => ∃ m env S, m.K = X.K ∧ m.H = H ∧ SH cl m S ∧ SV m env σ ∧ wT P.con (callW P k) (liftX cl X.mg m fun c d H => W c d σ H) e env S fun b S' => ∀ m', Ev m m' → SH cl m' S' → Q b m'.H
def tCs (e : Ot) : TT := fun σ H Q => ∃ m env S, m.K = X.K ∧ m.H = H ∧ SH cl m S ∧ SV m env σ ∧ wC P.con (callW P k) (liftX cl X.mg m fun c d H => W c d σ H) e env S fun b S' => ∀ m', Ev m m' → SH cl m' S' → Q b m'.H
def tOs (e : Oe) : TO := fun σ H Q => ∃ m env S, m.K = X.K ∧ m.H = H ∧ SH cl m S ∧ SV m env σ ∧ wO P.con (callW P k) (liftX cl X.mg m fun c d H => W c d σ H) e env S fun b S' => ∀ m', Ev m m' → SH cl m' S' → Q b m'.H
end
section
variable {P : Pg} {cl : String → Addr → Prop} {k : Nat} {X : Cx} {W : WX} {m m0 : Sm} {env : Env} {S : Hm} {σ : L2.St}
theorem tE_of {e : E} {Q1 : Post} {R : VK} (hK : m.K = X.K) (hS : SH cl m S) (hV : SV m env σ) (e0 : Ev m0 m) (h : wE P.con (callW P k) (liftX cl X.mg m0 fun c d H => W c d σ H) e env S Q1)
    (hq : ∀ m1 x S1 v, Ev m m1 → SH cl m1 S1 → RD m1 v x → SV m1 env σ → Q1 v S1 → R x m1.H) : tE P cl k X W e σ m.H R :=
  ⟨m, env, S, hK, rfl, hS, hV, wE_mono (callW_mono P k) (fun _ _ h1 => liftX.ev e0 h1) e (fun v S1 h1 m1 x e1 hS1 r1 => hq m1 x S1 v e1 hS1 r1 (hV.up (e1.up hS)) h1) h⟩
theorem tEs_of {e : Es} {Q1 : List Val → Hm → Prop} {R : List V → Hp → Prop} (hK : m.K = X.K) (hS : SH cl m S) (hV : SV m env σ) (e0 : Ev m0 m) (h : wEs P.con (callW P k) (liftX cl X.mg m0 fun c d H => W c d σ H) e env S Q1)
    (hq : ∀ m1 x S1 v, Ev m m1 → SH cl m1 S1 → RDs m1 v x → SV m1 env σ → Q1 v S1 → R x m1.H) : tEs P cl k X W e σ m.H R :=
  ⟨m, env, S, hK, rfl, hS, hV, wEs_mono (callW_mono P k) (fun _ _ h1 => liftX.ev e0 h1) e (fun v S1 h1 m1 x e1 hS1 r1 => hq m1 x S1 v e1 hS1 r1 (hV.up (e1.up hS)) h1) h⟩
theorem tTs_of {e : T} {Q1 : Bool → Hm → Prop} {R : Bool → Hp → Prop} (hK : m.K = X.K) (hS : SH cl m S) (hV : SV m env σ) (e0 : Ev m0 m) (h : wT P.con (callW P k) (liftX cl X.mg m0 fun c d H => W c d σ H) e env S Q1)
    (hq : ∀ m1 S1 b, Ev m m1 → SH cl m1 S1 → SV m1 env σ → Q1 b S1 → R b m1.H) : tTs P cl k X W e σ m.H R :=
  ⟨m, env, S, hK, rfl, hS, hV, wT_mono (callW_mono P k) (fun _ _ h1 => liftX.ev e0 h1) e (fun v S1 h1 m1 e1 hS1 => hq m1 S1 v e1 hS1 (hV.up (e1.up hS)) h1) h⟩
theorem tOs_of {e : Oe} {Q1 : Option Int → Hm → Prop} {R : Option Int → Hp → Prop} (hK : m.K = X.K) (hS : SH cl m S) (hV : SV m env σ) (e0 : Ev m0 m) (h : wO P.con (callW P k) (liftX cl X.mg m0 fun c d H => W c d σ H) e env S Q1)
    (hq : ∀ m1 S1 b, Ev m m1 → SH cl m1 S1 → SV m1 env σ → Q1 b S1 → R b m1.H) : tOs P cl k X W e σ m.H R :=
  ⟨m, env, S, hK, rfl, hS, hV, wO_mono (callW_mono P k) (fun _ _ h1 => liftX.ev e0 h1) e (fun v S1 h1 m1 e1 hS1 => hq m1 S1 v e1 hS1 (hV.up (e1.up hS)) h1) h⟩

/-! ### syntax -/
def notStar : Expr → Bool
  | .Starred _ _ => false
  | _ => true
theorem star_cons {e : Expr} {es : List Expr} {env : PySem.Env} (h : notStar e = true) : starEach (e :: es) env = (false, eval e env) :: starEach es env := by
  cases e <;> first | rfl | cases h
theorem star_any {env : PySem.Env} {pos : Pos} : ∀ {es : List Expr}, es.all notStar = true → (backTo pos (starEach es env)).any (·.1) = false
  | [], _ => rfl
  | e :: es, h => by
    rw [List.all_cons, Bool.and_eq_true] at h
    rw [star_cons h.1]
    show (false || (backTo pos (starEach es env)).any (·.1)) = false
    rw [star_any h.2]
    rfl
theorem star_all {env : PySem.Env} {pos : Pos} : ∀ {es : List Expr}, es.all notStar = true → (backTo pos (starEach es env)).all (fun x => !x.1) = true
  | [], _ => rfl
  | e :: es, h => by
    rw [List.all_cons, Bool.and_eq_true] at h
    rw [star_cons h.1]
    show (true && (backTo pos (starEach es env)).all (fun x => !x.1)) = true
    rw [star_all h.2]
    rfl
def notComp : Expr → Bool
  | .ListComp .. => false
  | .SetComp .. => false
  | .DictComp .. => false
  | _ => true
theorem noswap {e : Expr} {t : Option Expr} {l : Nat} {env : PySem.Env} (h : notComp e = true) : swapsWith e t l env = pure false := by
  cases e <;> first | rfl | cases h
/-- no call of a plain name (super) -/
def plainBase : Expr → Bool
  | .Call (.Name _ _) _ _ _ => false
  | _ => true
theorem base_of {e : Expr} {f : Str} {env : PySem.Env} {w : Sem Value} (h : plainBase e = true) : attributeBase e f env w = w := by
  unfold attributeBase
  split
  · cases h
  · rfl
def plainTest : Expr → Bool
  | .UnaryOp .Not _ _ => false
  | .BoolOp .. => false
  | .IfExp .. => false
  | .Compare .. => false
  | _ => true
theorem test_of {e : Expr} {env : PySem.Env} (h : plainTest e = true) : ∀ whole, isTrue e env whole = (do let v ← whole; standAt e.pos; holding [v] (truthy v)) := by
  intro whole
  cases e with
  | UnaryOp op x p => cases op <;> first | rfl | cases h
  | BoolOp op vs p => cases h
  | IfExp a b c p => cases h
  | Compare a b c p => cases h
  | _ => rfl
def plainIx : Expr → Bool
  | .Slice .. => false
  | _ => true
theorem plainIx_of {e : Expr} (h : plainIx e = true) : PlainIx e := by
  intro o i
  cases e <;> first | rfl | cases h
theorem plainAug_of {e : Expr} (h : plainIx e = true) : ∀ ov iv new, augStore e ov iv new = (do holding [new, ov, iv] (setItem ov iv new); release [new, ov, iv] []; pure .next) := by
  intro o i n
  cases e <;> first | rfl | cases h
def plainAsg : Expr → Bool
  | _ => true
theorem folded_of {e : Expr} {env : PySem.Env} (h : (match e with | .Set .. => false | _ => true) = true) : ∀ x, foldedSetIterable e env x = pure x := by
  intro x
  cases e <;> first | rfl | cases h
/-- a method's call -/
theorem meth_eval {o : Expr} {m : Str} {apos pos : Pos} {args : List Expr} {env : PySem.Env} (hb : plainBase o = true) (hs : args.all notStar = true) (hn : args.length < 29) (hl : (apos.endLine == pos.line) = true) :
    eval (.Call (.Attribute o m apos) args [] pos) env = (do
      let ov ← eval o env
      standAt apos.atName
      let (f, first) ← holding [ov] (getMethod ov m (do return (← importBound o env).getD true))
      callWith pos f first (backTo pos (starEach args env)) (backToKw pos (keywordEach [] env))) := by
  have hform : methodCallForm (args.length + ([] : List Keyword).length) (backTo pos (starEach args env)) (backToKw pos (keywordEach [] env)) = true := by
    unfold methodCallForm
    rw [star_all hs]
    show (true && true && decide (args.length + 0 + (if ([] : List Keyword).isEmpty then 0 else 1) < 30)) = true
    simp
    omega
  have hpos : methodCallPos true o env apos pos = pure pos := by unfold methodCallPos; simp [hl]
  rw [arm_eval_Call, base_of hb]
  unfold methodCall
  rw [hform, hpos]
  rfl
end
end Mi

set_option maxHeartbeats 4000000
namespace Mi
open PySem PySem.Spec L2 PyProof.Rows
section
variable {P : Pg} {cl : String → Addr → Prop} {k : Nat} {X : Cx} {W : WX} {sc : Ko}
theorem PT.kf {e : Expr} {t : TT} (h : PT X e t) : PT X e (fun σ H Q => t σ H fun x H' => KF X.K H' → Q x H') := ⟨fun pins s σ H Q I hw => thn (h.run pins s σ H _ I hw) fun _ _ ⟨H', I', q⟩ => ⟨H', I', q (kfree I')⟩⟩
theorem PT.imp {e : Expr} {t t' : TT} (h : PT X e t) (f : ∀ σ H Q, t' σ H Q → t σ H Q) : PT X e t' := ⟨fun pins s σ H Q I hw => h.run pins s σ H Q I (f _ _ _ hw)⟩
theorem PW.imp {e : Expr} {t t' : TT} (h : PW X e t) (f : ∀ σ H Q, t' σ H Q → t σ H Q) : PW X e t' := ⟨fun wh pins s σ H Q I hw => h.run wh pins s σ H Q I (f _ _ _ hw)⟩
theorem PA.imp {e : List Expr} {t t' : TA} (h : PA X e t) (f : ∀ σ H Q, t' σ H Q → t σ H Q) : PA X e t' := ⟨fun pos pins s σ H Q I hw => h.run pos pins s σ H Q I (f _ _ _ hw)⟩
theorem PA.kf {e : List Expr} {t : TA} (h : PA X e t) : PA X e (fun σ H Q => t σ H fun x H' => KF X.K H' → Q x H') := ⟨fun pos pins s σ H Q I hw => thn (h.run pos pins s σ H _ I hw) fun _ _ ⟨v, H', I', r, q⟩ => ⟨v, H', I', r, q (kfree I')⟩⟩
theorem PO.imp {e : Option Expr} {t t' : TO} (h : PO X e t) (f : ∀ σ H Q, t' σ H Q → t σ H Q) : PO X e t' := ⟨fun pins s σ H Q I hw => h.run pins s σ H Q I (f _ _ _ hw)⟩

/-! ### names, constants -/
theorem e_loc {i : Nat} {x : Str} {pos : Pos} (hN : X.N[i]? = some x) (hv : Vis X.env.scope x) (hd : (x == ("__debug__" : Str)) = false) (hcd : (x == ("__classdict__" : Str)) = false) : PE X (.Name x pos) (tE P cl k X W (.loc i)) :=
  PE.imp (PE.kf (pe_var hN hv hd hcd)) fun σ H Q ⟨m, env, S, hK, eH, hS, hV, h⟩ => by
    subst eH
    simp only [wE] at h
    obtain ⟨v, e, h⟩ := h
    obtain ⟨x, e', r⟩ := hV.get e
    exact ⟨x, e', fun _ => stay hS r h⟩
theorem e_lit {c : Lit} {e : Expr} (h : PE X e (tC (litV c))) : PE X e (tE P cl k X W (.lit c)) :=
  PE.imp (PE.kf h) fun σ H Q ⟨m, env, S, hK, eH, hS, hV, h⟩ => by
    subst eH
    simp only [wE] at h
    exact fun _ => stay hS (litV_rd c) h
theorem e_con {x : String} {v : Val} {pos : Pos} (ln : Ln P X.K X.mg cl) (hg : Gl X (Str.ofString x)) (hc : P.con x = some v) (hd : (Str.ofString x == ("__debug__" : Str)) = false) : PE X (.Name (Str.ofString x) pos) (tE P cl k X W (.con x)) := by
  obtain ⟨a, u, h1, h2, h3⟩ := ln.con x v hc
  refine PE.imp (PE.kf (pe_glob hg h1 h2 hd)) fun σ H Q ⟨m, env, S, hK, eH, hS, hV, h⟩ => ?_
  subst eH
  simp only [wE] at h
  obtain ⟨w, e, h⟩ := h
  rw [hc] at e
  cases e
  exact fun _ => stay hS (h3 m hK) h

/-! ### operators -/
variable {a b c o i : E} {ea eb ec eo ei : Expr} {pos : Pos}
theorem e_bin {op : Operator} (ha : PE X ea (tE P cl k X W a)) (hb : PE X eb (tE P cl k X W b)) : PE X (.BinOp ea op eb pos) (tE P cl k X W (.bin op a b)) :=
  PE.imp (pe_op (opr_bin (cl := cl) op) ha hb) fun σ H Q ⟨m, env, S, hK, eH, hS, hV, h⟩ => by
    subst eH
    simp only [wE] at h
    refine tE_of hK hS hV (Ev.refl m) h fun m1 x S1 v e1 hS1 r1 hV1 h1 => ?_
    refine tE_of (e1.k.trans hK) hS1 hV1 e1 h1 fun m2 y S2 w e2 hS2 r2 hV2 h2 => ?_
    exact ⟨m2, S2, v, w, (e1.trans e2).k.trans hK, rfl, hS2, r1.up (e2.up hS1), r2, binW_mono (fun z S3 h3 => liftQ.ev (e1.trans e2) (fun _ _ _ q => q) h3) h2⟩
theorem e_neg (ha : PE X ea (tE P cl k X W a)) : PE X (.UnaryOp .USub ea pos) (tE P cl k X W (.neg a)) :=
  PE.imp (pe_un un_neg ha) fun σ H Q ⟨m, env, S, hK, eH, hS, hV, h⟩ => by
    subst eH
    simp only [wE] at h
    refine tE_of hK hS hV (Ev.refl m) h fun m1 x S1 v e1 hS1 r1 hV1 h1 => ?_
    obtain ⟨i, rfl, h1⟩ := h1
    cases r1
    exact ⟨i, rfl, h1 m1 (.int (-i)) e1 hS1 (.int _)⟩
theorem e_cmp {op : CmpOp} (hu : X.A.units + 65 < cLine) (hm : behindInMarks op eb = false) (ha : PE X ea (tE P cl k X W a)) (hb : PE X eb (tE P cl k X W b)) : PE X (.Compare ea [op] [eb] pos) (tE P cl k X W (.cmp op a b)) :=
  PE.imp (pe_cmpR (opr_cmp (cl := cl) hu op) ha hb hm) fun σ H Q ⟨m, env, S, hK, eH, hS, hV, h⟩ => by
    subst eH
    simp only [wE] at h
    refine tE_of hK hS hV (Ev.refl m) h fun m1 x S1 v e1 hS1 r1 hV1 h1 => ?_
    refine tE_of (e1.k.trans hK) hS1 hV1 e1 h1 fun m2 y S2 w e2 hS2 r2 hV2 h2 => ?_
    exact ⟨m2, S2, v, w, (e1.trans e2).k.trans hK, rfl, hS2, r1.up (e2.up hS1), r2, cmpW_mono (fun z h3 => liftQ.ev (e1.trans e2) (fun _ _ _ q => q) h3) h2⟩
theorem t_cmp {op : CmpOp} (hu : X.A.units + 65 < cLine) (hm : behindInMarks op eb = false) (ha : PE X ea (tE P cl k X W a)) (hb : PE X eb (tE P cl k X W b)) : PT X (.Compare ea [op] [eb] pos) (tTs P cl k X W (.v (.cmp op a b))) :=
  PT.imp (pt_cmpR (opr_cmp (cl := cl) hu op) ha hb hm) fun σ H Q ⟨m, env, S, hK, eH, hS, hV, h⟩ => by
    subst eH
    simp only [wT, wE] at h
    refine tE_of hK hS hV (Ev.refl m) h fun m1 x S1 v e1 hS1 r1 hV1 h1 => ?_
    refine tE_of (e1.k.trans hK) hS1 hV1 e1 h1 fun m2 y S2 w e2 hS2 r2 hV2 h2 => ?_
    refine ⟨m2, S2, v, w, (e1.trans e2).k.trans hK, rfl, hS2, r1.up (e2.up hS1), r2, cmpW_mono (fun z h3 => ?_) h2⟩
    obtain ⟨d, e, h3⟩ := h3
    cases e
    exact fun m' x e hS r => by cases r; exact ⟨_, rfl, h3 m' ((e1.trans e2).trans e) hS⟩
theorem chain_of {op op' : CmpOp} {σ : L2.St} {m : Sm} {env : Env} {S : Hm} {Q1 : Post} {Q : VK} (hK : m.K = X.K) (hS : SH cl m S) (hV : SV m env σ) (hq : ∀ m' b S', Ev m m' → SH cl m' S' → Q1 (.bl b) S' → Q (.bl b) m'.H)
    (h : wE P.con (callW P k) (liftX cl X.mg m fun c d H => W c d σ H) (.cmp2 op op' a b c) env S Q1) :
    tChain (r2 X cl fun v w S Q => cmpW op v w S fun b => Q (.bl b) S) (r2 X cl fun v w S Q => cmpW op' v w S fun b => Q (.bl b) S) (tE P cl k X W a) (tE P cl k X W b) (tE P cl k X W c) σ m.H Q := by
  simp only [wE] at h
  refine tE_of hK hS hV (Ev.refl m) h fun m1 x S1 v e1 hS1 r1 hV1 h1 => ?_
  refine tE_of (e1.k.trans hK) hS1 hV1 e1 h1 fun m2 y S2 w e2 hS2 r2 hV2 h2 => ?_
  refine ⟨m2, S2, v, w, (e1.trans e2).k.trans hK, rfl, hS2, r1.up (e2.up hS1), r2, cmpW_mono (fun z h3 => ?_) h2⟩
  intro m3 x3 e3 hS3 r3
  cases r3
  refine ⟨z, rfl, ?_⟩
  have e123 := (e1.trans e2).trans e3
  cases z with
  | false =>
    simp only [Bool.false_eq_true, if_false] at h3 ⊢
    exact hq m3 false _ e123 hS3 h3
  | true =>
    simp only [if_true] at h3 ⊢
    refine tE_of (e123.k.trans hK) hS3 (hV2.up (e3.up hS2)) e123 h3 fun m4 y4 S4 w4 e4 hS4 r4 hV4 h4 => ?_
    exact ⟨m4, S4, w, w4, (e123.trans e4).k.trans hK, rfl, hS4, r2.up ((e3.trans e4).up hS2), r4, cmpW_mono (fun z h5 m5 x5 e5 hS5 r5 => by cases r5; exact hq m5 z _ ((e123.trans e4).trans e5) hS5 h5) h4⟩
theorem e_cmp2 {op op' : CmpOp} (hu : X.A.units + 65 < cLine) (hm : lastMarks [op, op'] [eb, ec] = false) (ha : PE X ea (tE P cl k X W a)) (hb : PE X eb (tE P cl k X W b)) (hc : PE X ec (tE P cl k X W c)) : PE X (.Compare ea [op, op'] [eb, ec] pos) (tE P cl k X W (.cmp2 op op' a b c)) :=
  PE.imp (pe_chain (opr_cmp (cl := cl) hu op) (opr_cmp (cl := cl) hu op') ha hb hc hm) fun σ H Q ⟨m, env, S, hK, eH, hS, hV, h⟩ => by
    subst eH
    exact chain_of hK hS hV (fun m' b S' e hS' h => h m' _ e hS' (.bl b)) h
theorem t_cmp2 {op op' : CmpOp} (hu : X.A.units + 65 < cLine) (hm : lastMarks [op, op'] [eb, ec] = false) (ha : PE X ea (tE P cl k X W a)) (hb : PE X eb (tE P cl k X W b)) (hc : PE X ec (tE P cl k X W c)) : PT X (.Compare ea [op, op'] [eb, ec] pos) (tTs P cl k X W (.v (.cmp2 op op' a b c))) :=
  PT.imp (pt_chain (opr_cmp (cl := cl) hu op) (opr_cmp (cl := cl) hu op') ha hb hc hm) fun σ H Q ⟨m, env, S, hK, eH, hS, hV, h⟩ => by
    subst eH
    simp only [wT] at h
    refine chain_of hK hS hV (fun m' b S' e hS' h => ?_) h
    obtain ⟨d, e1, h1⟩ := h
    simp [truth] at e1
    subst e1
    exact ⟨_, rfl, h1 m' e hS'⟩
theorem e_isN {j pos'} (ha : PE X ea (tE P cl k X W a)) : PE X (.Compare ea [.Is] [.Constant .none j pos'] pos) (tE P cl k X W (.isN a)) :=
  PE.imp (pe_cmp (pc_isN ha) rfl) fun σ H Q ⟨m, env, S, hK, eH, hS, hV, h⟩ => by
    subst eH
    simp only [wE] at h
    refine tE_of hK hS hV (Ev.refl m) h fun m1 x S1 v e1 hS1 r1 hV1 h1 => ?_
    have := h1 m1 _ e1 hS1 (.bl _)
    cases r1 <;> simpa using this
theorem e_notN {j pos'} (ha : PE X ea (tE P cl k X W a)) : PE X (.Compare ea [.IsNot] [.Constant .none j pos'] pos) (tE P cl k X W (.notN a)) :=
  PE.imp (pe_cmp (pc_notN ha) rfl) fun σ H Q ⟨m, env, S, hK, eH, hS, hV, h⟩ => by
    subst eH
    simp only [wE] at h
    refine tE_of hK hS hV (Ev.refl m) h fun m1 x S1 v e1 hS1 r1 hV1 h1 => ?_
    have := h1 m1 _ e1 hS1 (.bl _)
    cases r1 <;> simpa using this
theorem t_isN {j pos'} (ha : PE X ea (tE P cl k X W a)) : PT X (.Compare ea [.Is] [.Constant .none j pos'] pos) (tTs P cl k X W (.v (.isN a))) :=
  PT.imp (pt_cmp (pc_isN ha) rfl) fun σ H Q ⟨m, env, S, hK, eH, hS, hV, h⟩ => by
    subst eH
    simp only [wT, wE] at h
    refine tE_of hK hS hV (Ev.refl m) h fun m1 x S1 v e1 hS1 r1 hV1 h1 => ?_
    obtain ⟨d, e, h1⟩ := h1
    have := h1 m1 e1 hS1
    simp [truth] at e
    subst e
    cases r1 <;> exact ⟨_, rfl, by simpa using this⟩
theorem t_notN {j pos'} (ha : PE X ea (tE P cl k X W a)) : PT X (.Compare ea [.IsNot] [.Constant .none j pos'] pos) (tTs P cl k X W (.v (.notN a))) :=
  PT.imp (pt_cmp (pc_notN ha) rfl) fun σ H Q ⟨m, env, S, hK, eH, hS, hV, h⟩ => by
    subst eH
    simp only [wT, wE] at h
    refine tE_of hK hS hV (Ev.refl m) h fun m1 x S1 v e1 hS1 r1 hV1 h1 => ?_
    obtain ⟨d, e, h1⟩ := h1
    have := h1 m1 e1 hS1
    simp [truth] at e
    subst e
    cases r1 <;> exact ⟨_, rfl, by simpa using this⟩
theorem e_isB {b : Bool} {j pos'} (ha : PE X ea (tE P cl k X W a)) : PE X (.Compare ea [.Is] [.Constant (.bool b) j pos'] pos) (tE P cl k X W (.isB a b)) :=
  PE.imp (pe_cmpR (op_is_bl (X := X)) ha (pe_bl (X := X)) rfl) fun σ H Q ⟨m, env, S, hK, eH, hS, hV, h⟩ => by
    subst eH
    simp only [wE] at h
    refine tE_of hK hS hV (Ev.refl m) h fun m1 x S1 v e1 hS1 r1 hV1 h1 => ?_
    obtain ⟨d, rfl, h1⟩ := h1
    cases r1
    have := h1 m1 _ e1 hS1 (.bl _)
    exact ⟨d, b, rfl, rfl, by rw [← Bool.beq_eq_decide_eq]; exact this⟩
theorem t_isB {b : Bool} {j pos'} (ha : PE X ea (tE P cl k X W a)) : PT X (.Compare ea [.Is] [.Constant (.bool b) j pos'] pos) (tTs P cl k X W (.v (.isB a b))) :=
  PT.imp (pt_cmpR (op_is_bl (X := X)) ha (pe_bl (X := X)) rfl) fun σ H Q ⟨m, env, S, hK, eH, hS, hV, h⟩ => by
    subst eH
    simp only [wT, wE] at h
    refine tE_of hK hS hV (Ev.refl m) h fun m1 x S1 v e1 hS1 r1 hV1 h1 => ?_
    obtain ⟨d, rfl, d', e, h1⟩ := h1
    cases r1
    have := h1 m1 e1 hS1
    simp [truth] at e
    subst e
    exact ⟨d, b, rfl, rfl, _, by rw [← Bool.beq_eq_decide_eq], this⟩

theorem e_isnB {b : Bool} {j pos'} (ha : PE X ea (tE P cl k X W a)) : PE X (.Compare ea [.IsNot] [.Constant (.bool b) j pos'] pos) (tE P cl k X W (.not (.isB a b))) :=
  PE.imp (pe_cmpR (op_isnot_bl (X := X)) ha (pe_bl (X := X)) rfl) fun σ H Q ⟨m, env, S, hK, eH, hS, hV, h⟩ => by
    subst eH
    simp only [wE] at h
    refine tE_of hK hS hV (Ev.refl m) h fun m1 x S1 v e1 hS1 r1 hV1 h1 => ?_
    obtain ⟨d, rfl, d', e, h1⟩ := h1
    cases r1
    cases e
    have := h1 m1 _ e1 hS1 (.bl _)
    exact ⟨d, b, rfl, rfl, by rw [← Bool.beq_eq_decide_eq]; exact this⟩
theorem t_isnB {b : Bool} {j pos'} (ha : PE X ea (tE P cl k X W a)) : PT X (.Compare ea [.IsNot] [.Constant (.bool b) j pos'] pos) (tTs P cl k X W (.v (.not (.isB a b)))) :=
  PT.imp (pt_cmpR (op_isnot_bl (X := X)) ha (pe_bl (X := X)) rfl) fun σ H Q ⟨m, env, S, hK, eH, hS, hV, h⟩ => by
    subst eH
    simp only [wT, wE] at h
    refine tE_of hK hS hV (Ev.refl m) h fun m1 x S1 v e1 hS1 r1 hV1 h1 => ?_
    obtain ⟨d, rfl, d', e', d2, e, h1⟩ := h1
    cases r1
    cases e'
    have := h1 m1 e1 hS1
    simp [truth] at e
    exact ⟨d, b, rfl, rfl, d2, by rw [← Bool.beq_eq_decide_eq, e]; simp, this⟩

/-! ### and, or, not, if -/
theorem e_not (ha : PE X ea (tE P cl k X W a)) : PE X (.UnaryOp .Not ea pos) (tE P cl k X W (.not a)) :=
  PE.imp (pe_not ha) fun σ H Q ⟨m, env, S, hK, eH, hS, hV, h⟩ => by
    subst eH
    simp only [wE] at h
    refine tE_of hK hS hV (Ev.refl m) h fun m1 x S1 v e1 hS1 r1 hV1 h1 => ?_
    obtain ⟨d, rfl, h1⟩ := h1
    cases r1
    exact ⟨d, rfl, h1 m1 _ e1 hS1 (.bl _)⟩
theorem and_of {R : VK} {σ : L2.St} {m : Sm} {env : Env} {S : Hm} {Q1 : Post} (hK : m.K = X.K) (hS : SH cl m S) (hV : SV m env σ) (hq : ∀ m' x v S', Ev m m' → SH cl m' S' → RD m' v x → Q1 v S' → R x m'.H)
    (h : wE P.con (callW P k) (liftX cl X.mg m fun c d H => W c d σ H) (.and a b) env S Q1) : tAndV (tE P cl k X W a) (tE P cl k X W b) σ m.H R := by
  simp only [wE] at h
  refine tE_of hK hS hV (Ev.refl m) h fun m1 x S1 v e1 hS1 r1 hV1 h1 => ?_
  obtain ⟨d, rfl, h1⟩ := h1
  cases r1
  refine ⟨d, rfl, ?_⟩
  cases d with
  | false =>
    simp only [Bool.false_eq_true, if_false] at h1 ⊢
    exact hq m1 _ _ _ e1 hS1 (.bl _) h1
  | true =>
    simp only [if_true] at h1 ⊢
    exact tE_of (e1.k.trans hK) hS1 hV1 e1 h1 fun m2 y S2 w e2 hS2 r2 hV2 h2 => hq m2 _ _ _ (e1.trans e2) hS2 r2 h2
theorem or_of {R : VK} {σ : L2.St} {m : Sm} {env : Env} {S : Hm} {Q1 : Post} (hK : m.K = X.K) (hS : SH cl m S) (hV : SV m env σ) (hq : ∀ m' x v S', Ev m m' → SH cl m' S' → RD m' v x → Q1 v S' → R x m'.H)
    (h : wE P.con (callW P k) (liftX cl X.mg m fun c d H => W c d σ H) (.or a b) env S Q1) : tOrV (tE P cl k X W a) (tE P cl k X W b) σ m.H R := by
  simp only [wE] at h
  refine tE_of hK hS hV (Ev.refl m) h fun m1 x S1 v e1 hS1 r1 hV1 h1 => ?_
  obtain ⟨d, rfl, h1⟩ := h1
  cases r1
  refine ⟨d, rfl, ?_⟩
  cases d with
  | true =>
    simp only [if_true] at h1 ⊢
    exact hq m1 _ _ _ e1 hS1 (.bl _) h1
  | false =>
    simp only [Bool.false_eq_true, if_false] at h1 ⊢
    exact tE_of (e1.k.trans hK) hS1 hV1 e1 h1 fun m2 y S2 w e2 hS2 r2 hV2 h2 => hq m2 _ _ _ (e1.trans e2) hS2 r2 h2
variable {rest : List Expr}
theorem e_and (ha : PE X ea (tE P cl k X W a)) (hb : PE X (.BoolOp .And (eb :: rest) pos) (tE P cl k X W b)) : PE X (.BoolOp .And (ea :: eb :: rest) pos) (tE P cl k X W (.and a b)) :=
  PE.imp (pe_and ha hb) fun σ H Q ⟨m, env, S, hK, eH, hS, hV, h⟩ => by
    subst eH
    exact and_of hK hS hV (fun m' x v S' e hS' r h => h m' x e hS' r) h
theorem e_or (ha : PE X ea (tE P cl k X W a)) (hb : PE X (.BoolOp .Or (eb :: rest) pos) (tE P cl k X W b)) : PE X (.BoolOp .Or (ea :: eb :: rest) pos) (tE P cl k X W (.or a b)) :=
  PE.imp (pe_or ha hb) fun σ H Q ⟨m, env, S, hK, eH, hS, hV, h⟩ => by
    subst eH
    exact or_of hK hS hV (fun m' x v S' e hS' r h => h m' x e hS' r) h
theorem e_ite {c : T} (hc : PT X ec (tTs P cl k X W c)) (ha : PE X ea (tE P cl k X W a)) (hb : PE X eb (tE P cl k X W b)) : PE X (.IfExp ec ea eb pos) (tE P cl k X W (.ite c a b)) :=
  PE.imp (pe_ifExp hc ha hb) fun σ H Q ⟨m, env, S, hK, eH, hS, hV, h⟩ => by
    subst eH
    simp only [wE] at h
    refine tTs_of hK hS hV (Ev.refl m) h fun m1 S1 d e1 hS1 hV1 h1 => ?_
    cases d with
    | false =>
      simp only [Bool.false_eq_true, if_false] at h1 ⊢
      exact tE_of (e1.k.trans hK) hS1 hV1 e1 h1 fun m2 y S2 w e2 hS2 r2 hV2 h2 => h2 m2 _ (e1.trans e2) hS2 r2
    | true =>
      simp only [if_true] at h1 ⊢
      exact tE_of (e1.k.trans hK) hS1 hV1 e1 h1 fun m2 y S2 w e2 hS2 r2 hV2 h2 => h2 m2 _ (e1.trans e2) hS2 r2

/-! ### tests -/
theorem t_val (ha : PE X ea (tE P cl k X W a)) (hp : plainTest ea = true) : PT X ea (tTs P cl k X W (.v a)) :=
  PT.imp (pt_truth ha (test_of hp)) fun σ H Q ⟨m, env, S, hK, eH, hS, hV, h⟩ => by
    subst eH
    simp only [wT] at h
    refine tE_of hK hS hV (Ev.refl m) h fun m1 x S1 v e1 hS1 r1 hV1 h1 => ?_
    obtain ⟨d, e, h1⟩ := h1
    exact ⟨d, truth_rd hS1 (e1.k.trans hK) r1 e, h1 m1 e1 hS1⟩
variable {ta tb : T}
theorem t_not (ha : PT X ea (tTs P cl k X W ta)) : PT X (.UnaryOp .Not ea pos) (tTs P cl k X W (.not ta)) :=
  PT.imp (pt_not ha) fun σ H Q ⟨m, env, S, hK, eH, hS, hV, h⟩ => by
    subst eH
    simp only [wT] at h
    exact tTs_of hK hS hV (Ev.refl m) h fun m1 S1 d e1 hS1 hV1 h1 => h1 m1 e1 hS1
theorem t_and1 (ha : PT X ea (tTs P cl k X W ta)) : PW X (.BoolOp .And [ea] pos) (tTs P cl k X W ta) := pw_and1 ha
theorem t_or1 (ha : PT X ea (tTs P cl k X W ta)) : PW X (.BoolOp .Or [ea] pos) (tTs P cl k X W ta) := pw_or1 ha
theorem t_and (ha : PT X ea (tTs P cl k X W ta)) (hb : PW X (.BoolOp .And (eb :: rest) pos) (tTs P cl k X W tb)) : PW X (.BoolOp .And (ea :: eb :: rest) pos) (tTs P cl k X W (.and ta tb)) :=
  PW.imp (pw_and ha hb) fun σ H Q ⟨m, env, S, hK, eH, hS, hV, h⟩ => by
    subst eH
    simp only [wT] at h
    refine tTs_of hK hS hV (Ev.refl m) h fun m1 S1 d e1 hS1 hV1 h1 => ?_
    cases d with
    | false =>
      simp only [Bool.false_eq_true, if_false] at h1 ⊢
      exact h1 m1 e1 hS1
    | true =>
      simp only [if_true] at h1 ⊢
      exact tTs_of (e1.k.trans hK) hS1 hV1 e1 h1 fun m2 S2 w e2 hS2 hV2 h2 => h2 m2 (e1.trans e2) hS2
theorem t_or (ha : PT X ea (tTs P cl k X W ta)) (hb : PW X (.BoolOp .Or (eb :: rest) pos) (tTs P cl k X W tb)) : PW X (.BoolOp .Or (ea :: eb :: rest) pos) (tTs P cl k X W (.or ta tb)) :=
  PW.imp (pw_or ha hb) fun σ H Q ⟨m, env, S, hK, eH, hS, hV, h⟩ => by
    subst eH
    simp only [wT] at h
    refine tTs_of hK hS hV (Ev.refl m) h fun m1 S1 d e1 hS1 hV1 h1 => ?_
    cases d with
    | true =>
      simp only [if_true] at h1 ⊢
      exact h1 m1 e1 hS1
    | false =>
      simp only [Bool.false_eq_true, if_false] at h1 ⊢
      exact tTs_of (e1.k.trans hK) hS1 hV1 e1 h1 fun m2 S2 w e2 hS2 hV2 h2 => h2 m2 (e1.trans e2) hS2
theorem t_ite {c : T} (hc : PT X ec (tTs P cl k X W c)) (ha : PT X ea (tTs P cl k X W (.v a))) (hb : PT X eb (tTs P cl k X W (.v b))) : True := True.intro

/-! ### lists of expressions, displays -/
variable {es' : Es} {xs : List Expr}
theorem a_nil : PA X [] (tEs P cl k X W .nil) :=
  PA.imp pa_nil fun σ H Q ⟨m, env, S, hK, eH, hS, hV, h⟩ => by
    subst eH
    simp only [wEs] at h
    exact h m [] (Ev.refl m) hS .nil
theorem a_cons (ha : PE X ea (tE P cl k X W a)) (hs : notStar ea = true) (hr : PA X xs (tEs P cl k X W es')) : PA X (ea :: xs) (tEs P cl k X W (.cons a es')) :=
  PA.imp (pa_cons ha hr (star_cons hs)) fun σ H Q ⟨m, env, S, hK, eH, hS, hV, h⟩ => by
    subst eH
    simp only [wEs] at h
    refine tE_of hK hS hV (Ev.refl m) h fun m1 x S1 v e1 hS1 r1 hV1 h1 => ?_
    refine tEs_of (e1.k.trans hK) hS1 hV1 e1 h1 fun m2 y S2 w e2 hS2 r2 hV2 h2 => ?_
    exact h2 m2 _ (e1.trans e2) hS2 (.cons (r1.up (e2.up hS1)) r2)
theorem e_tup {kk} (ha : PA X xs (tEs P cl k X W es')) : PE X (.Tuple xs kk pos) (tE P cl k X W (.tup es')) :=
  PE.imp (PE.kf (pe_tup ha)) fun σ H Q ⟨m, env, S, hK, eH, hS, hV, h⟩ => by
    subst eH
    simp only [wE] at h
    refine tEs_of hK hS hV (Ev.refl m) h fun m1 x S1 v e1 hS1 r1 hV1 h1 => ?_
    exact ⟨by rw [← r1.length]; exact h1.1, fun p hp kf => mk_tup hS1 r1 hp (by rw [e1.k, hK]; exact kf) (liftQ.ev e1 (fun _ _ _ q => q) h1.2)⟩
theorem e_lst (ha : PA X xs (tEs P cl k X W es')) : PE X (.List xs pos) (tE P cl k X W (.lst es')) :=
  PE.imp (PE.kf (pe_lst ha)) fun σ H Q ⟨m, env, S, hK, eH, hS, hV, h⟩ => by
    subst eH
    simp only [wE] at h
    refine tEs_of hK hS hV (Ev.refl m) h fun m1 x S1 v e1 hS1 r1 hV1 h1 => ?_
    exact ⟨by rw [← r1.length]; exact h1.1, fun p hp kf => mk_lst hS1 r1 hp (by rw [e1.k, hK]; exact kf) (liftQ.ev e1 (fun _ _ _ q => q) h1.2)⟩
end
end Mi

set_option maxHeartbeats 4000000
namespace Mi
open PySem PySem.Spec L2 PyProof.Rows
def Es.len : Es → Nat
  | .nil => 0
  | .cons _ es => es.len + 1
theorem wEs_len {G : String → Option Val} {C : CallW} (hC : CMono C) {X : XPost} : ∀ (es : Es) {env : Env} {S : Hm} {Q : List Val → Hm → Prop}, wEs G C X es env S Q → wEs G C X es env S fun vs S' => vs.length = es.len ∧ Q vs S'
  | .nil, env, S, Q, h => by
    simp only [wEs] at h ⊢
    exact ⟨rfl, h⟩
  | .cons e es, env, S, Q, h => by
    simp only [wEs] at h ⊢
    exact wE_mono hC (fun _ _ h => h) e (fun v S1 h1 => wEs_mono hC (fun _ _ h => h) es (fun vs S2 h2 => ⟨by rw [List.length_cons, h2.1]; rfl, h2.2⟩) (wEs_len hC es h1)) h
/-- a promise one level below -/
def spK (P : Pg) (cl : String → Addr → Prop) (K : PySem.W.Frag) (mg : Str → Option Value) : Nat → FDef → L2.Sp
  | 0, _ => fun _ _ _ _ => False
  | k + 1, d => spF P cl K mg k d
def spI (P : Pg) (cl : String → Addr → Prop) (K : PySem.W.Frag) (mg : Str → Option Value) : Nat → FDef → L2.Sp
  | k + 2, d => spF P cl K mg k d
  | _, _ => fun _ _ _ _ => False
section
variable {P : Pg} {cl : String → Addr → Prop} {k : Nat} {X : Cx} {W : WX} {sc : Ko}
theorem FnOk.never {P : Program} {w : World} {K : PySem.W.Frag} {mg : Str → Option Value} {base : Heap} {CX : CXT} {k : Nat} {f : Addr} {fd : FuncData} {ps : List Str} : FnOk P w K mg base CX k f fd ps fun _ _ _ _ => False :=
  ⟨fun _ _ _ _ h => h.elim, fun _ _ _ _ _ _ _ _ _ _ _ _ _ h => h.elim⟩
theorem XO.fnK (xo : XO P cl X k sc W) {f : FK} {d : FDef} (h : P.fn f = some d) : ∃ a fd ps, At P cl X.K X.mg f d a fd ps ∧ FnOk X.prog X.w X.K X.mg X.base (L2.CX X.prog X.w) k a fd ps (spK P cl X.K X.mg k d) := by
  obtain ⟨a, fd, ps, h1, h2⟩ := xo.fns f d h
  refine ⟨a, fd, ps, h1, ?_⟩
  cases k with
  | zero => exact FnOk.never
  | succ k => exact h2 k (Nat.lt_succ_self _)
theorem XO.fnI (xo : XO P cl X k sc W) {f : FK} {d : FDef} (h : P.fn f = some d) : ∃ a fd ps, At P cl X.K X.mg f d a fd ps ∧ FnOk X.prog X.w X.K X.mg X.base (L2.CX X.prog X.w) (k - 1) a fd ps (spI P cl X.K X.mg k d) := by
  obtain ⟨a, fd, ps, h1, h2⟩ := xo.fns f d h
  refine ⟨a, fd, ps, h1, ?_⟩
  match k, h2 with
  | 0, _ => exact FnOk.never
  | 1, _ => exact FnOk.never
  | k + 2, h2 => exact h2 k (by omega)
theorem callW_body {f : FK} {d : FDef} (hf : f.init = false) (hd : P.fn f = some d) {args : List Val} {S : Hm} {m m1 : Sm} {xs : List V} {H : Hp} {Q : VK} {E : Value → Option Addr → Hp → Prop} (e : Ev m m1) (hK : m1.K = X.K) (hH : m1.H = H) (hS : SH cl m1 S) (r : RDs m1 (padded d args) xs)
    (h : callW P k f args S (liftQ cl m Q) (liftX cl X.mg m E)) : spK P cl X.K X.mg k d xs H Q E := by
  have key : ∀ j, bodyW P (callW P j) d (padded d args) S (liftQ cl m Q) (liftX cl X.mg m E) → spF P cl X.K X.mg j d xs H Q E := fun j h =>
    ⟨m1, padded d args, S, hK, hH, hS, r, bodyW_mono (callW_mono P j) (fun v S' h' => liftQ.ev e (fun _ _ _ q => q) h') (fun c S' h' => liftX.ev e h') h⟩
  match k, h with
  | 0, h => exact h
  | 1, h =>
    rw [callW_one] at h
    obtain ⟨d', h1, h2⟩ := h
    rw [hd] at h1
    cases h1
    rw [hf] at h2
    exact key 0 h2
  | k + 2, h =>
    rw [callW_two] at h
    obtain ⟨d', h1, h2⟩ := h
    rw [hd] at h1
    cases h1
    rw [hf] at h2
    exact key (k + 1) h2
theorem callW_init {f : FK} {d : FDef} (hf : f.init = true) (hd : P.fn f = some d) {args : List Val} {S : Hm} {m m1 : Sm} {xs : List V} {H : Hp} {Q : VK} {Q0 : Post} {E : Value → Option Addr → Hp → Prop} (e : Ev m m1) (hK : m1.K = X.K) (hH : m1.H = H) (hS : SH cl m1 S) (r : RDs m1 (padded d args) xs) (hq : ∀ v S', Q0 v S' → liftQ cl m1 Q v S')
    (h : callW P k f args S Q0 (liftX cl X.mg m E)) : spI P cl X.K X.mg k d xs H Q E := by
  match k, h with
  | 0, h => exact h
  | 1, h =>
    rw [callW_one] at h
    obtain ⟨d', h1, h2⟩ := h
    rw [hf] at h2
    exact h2
  | k + 2, h =>
    rw [callW_two] at h
    obtain ⟨d', h1, h2⟩ := h
    rw [hd] at h1
    cases h1
    rw [hf] at h2
    exact ⟨m1, padded d args, S, hK, hH, hS, r, bodyW_mono (callW_mono P k) hq (fun c S' h' => liftX.ev e h') h2⟩
/-- how many defaults are dropped -/
def FDef.cut (d : FDef) (n : Nat) : Nat := n + d.dflt.length - d.params
theorem padded_rd {m : Sm} {d : FDef} {args : List Val} {xs : List V} {n : Nat} (hn : args.length = n) (r : RDs m args xs) : RDs m (padded d args) (xs ++ (d.dflt.drop (d.cut n)).map litV) := by
  unfold padded
  subst hn
  exact r.append (lits_rd _)

variable {a b c o i : E} {ea eb ec eo ei : Expr} {pos : Pos} {es' : Es} {xs : List Expr}
/-! ### calls -/
theorem pe_call0SD {sp : L2.Sp} {CX : CXT} {f : Addr} {fd : FuncData} {ps : List Str} {dvs : List V} {ds : List Value} {E : L2.St → XK} {x : Str} {p : Pos} (F : FnOk X.prog X.w X.K X.mg X.base CX k f fd ps sp) (hr : Room k X.A) (hg : Gl X x) (hm : X.mg x = some (.ref f)) (hk : PySem.W.keepIn X.K (.ref f) = true) (hb : Binds X.K fd ps ds) (hd : Vals dvs ds) (hx : ∀ σ, PassesAt CX X σ (E σ))
    (hdb : (x == ("__debug__" : Str)) = false) : PE X (.Call (.Name x p) [] [] pos) (tCallSD sp dvs E tNil) := by
  refine ⟨fun pins s σ H Q I h => ?_⟩
  refine wpAny_Call_Name_kw (ld_glob I hg hm ?_ hdb)
  exact PySem.W.callWith_K0 I.kIn hk (run_fnSD (us := []) F hr hb hd (hx σ) I .nil h)
theorem e_call {f : String} {d : FDef} {p : Pos} (xo : XO P cl X k sc W) (hg : Gl X (Str.ofString f)) (hdb : (Str.ofString f == ("__debug__" : Str)) = false) (hd : P.fn (.f f) = some d) (hn : es'.len ≤ d.params) (hs : xs.all notStar = true) (h0 : xs = [] → es' = .nil) (ha : PA X xs (tEs P cl k X W es')) :
    PE X (.Call (.Name (Str.ofString f) p) xs [] pos) (tE P cl k X W (.call f es')) := by
  obtain ⟨g, fd, ps, at', F⟩ := xo.fnK hd
  obtain ⟨ds, vd, hb⟩ := at'.bd (d.cut es'.len) (by unfold FDef.cut; omega)
  have hm : X.mg (Str.ofString f) = some (.ref g) := at'.nm
  have fin : ∀ {σ : L2.St} {m : Sm} {env : Env} {S : Hm} {Q : VK} {m1 : Sm} {S1 : Hm} {vs : List Val} {xs : List V}, m.K = X.K → Ev m m1 → SH cl m1 S1 → RDs m1 vs xs → vs.length = es'.len → callW P k (.f f) vs S1 (liftQ cl m Q) (liftX cl X.mg m fun c d H => W c d σ H) →
      spK P cl X.K X.mg k d (xs ++ (d.dflt.drop (d.cut es'.len)).map litV) m1.H Q (WE W σ) := fun {σ m env S Q m1 S1 vs xs} hK e1 hS1 r1 hl h1 => callW_body (k := k) rfl hd e1 (e1.k.trans hK) rfl hS1 (padded_rd hl r1) h1
  cases xs with
  | nil =>
    refine PE.imp (pe_call0SD (E := WE W) F xo.room hg hm at'.kp hb vd (fun σ => passAt xo.tk σ) hdb) fun σ H Q ⟨m, env, S, hK, eH, hS, hV, h⟩ => ?_
    subst eH
    simp only [wE] at h
    have h := wEs_len (callW_mono P k) es' h
    rw [h0 rfl] at h fin
    simp only [wEs] at h
    have z := fin (env := env) (S := S) (Q := Q) hK (Ev.refl m) hS .nil h.1 h.2
    rw [h0 rfl]
    exact z
  | cons e es =>
    rw [List.all_cons, Bool.and_eq_true] at hs
    refine PE.imp (pe_callSD (E := WE W) F xo.room hg hm at'.kp hb vd (fun σ => passAt xo.tk σ) ha hdb (star_cons hs.1) (star_any hs.2)) fun σ H Q ⟨m, env, S, hK, eH, hS, hV, h⟩ => ?_
    subst eH
    simp only [wE] at h
    refine tEs_of hK hS hV (Ev.refl m) (wEs_len (callW_mono P k) es' h) fun m1 x S1 v e1 hS1 r1 hV1 h1 => ?_
    exact fin (env := env) (S := S) hK e1 hS1 r1 h1.1 h1.2

/-- what is between an instance's making and its end -/
theorem run_mk {C f : Addr} {sp : L2.Sp} {fd : FuncData} {ps : List Str} {dvs : List V} {ds : List Value} {kk : Nat} {pins : List (Addr × Obj)} {σ : L2.St} {H : Hp} {s : Shared} {Q : VK} {us : List Value} {vs : List V} (M : Mk X.K C f) (F : FnOk X.prog X.w X.K X.mg X.base (L2.CX X.prog X.w) kk f fd ps sp) (hr : ∀ vs H Q E, sp vs H Q E → Room (kk + 1) X.A)
    (hb : Binds X.K fd ps ds) (hd : Vals dvs ds) (tk : Takes X W) (I : Inv X pins σ H s) (r : Vals vs us)
    (h : ∀ x dx, H x = none → H dx = none → dx ≠ x → KF X.K (upd (upd H dx (.own x)) x (.ins C dx [])) → sp (.ref x :: (vs ++ dvs)) (upd (upd H dx (.own x)) x (.ins C dx [])) (fun v H2 => v = .non ∧ Q (.ref x) H2) (WE W σ)) :
    wpAny (model X.prog X.w) X.A (call (.ref C) us) (EP X pins σ Q) X.xe s := by
  have I2 := Inv.made (C := C) I
  have hq := h (s.heap.objs.size + 1) s.heap.objs.size (I.hok.fresh (Nat.le_succ _)) (I.hok.fresh (Nat.le_refl _)) (Nat.ne_of_lt (Nat.lt_succ_self _)) (kfree I2)
  have r2 : Vals (V.ref (s.heap.objs.size + 1) :: (vs ++ dvs)) (Value.ref (s.heap.objs.size + 1) :: (us ++ ds)) := .cons rfl (r.append hd)
  have hl : (Value.ref (s.heap.objs.size + 1) :: us ++ ds).length = ps.length := r2.length.symm.trans (F.len _ _ _ _ hq)
  have body := F.run _ X.stack _ _ ⟨Value.ref (s.heap.objs.size + 1) :: us, []⟩ (Value.ref (s.heap.objs.size + 1) :: (us ++ ds)) _ _ (WE W σ) ((hr _ _ _ _ hq).make C us []) (I2.env0.make C us []) (hb _ (Value.ref (s.heap.objs.size + 1) :: us) I2.kIn hl) r2 hq
  refine wpAny_call (make_map (f := f) I.kIn M.makes M.init (beq_iff_eq.mp M.fn) (codeAny_mono body fun r s' h1 => ?_))
  match r, h1 with
  | .error e, h1 => exact passAt tk σ pins _ _ e s' I2 h1
  | .ok (.ret u), h1 =>
    obtain ⟨v, H', I3, rv, ev, q3⟩ := I2.after h1
    subst ev
    exact ⟨rv, V.ref (s.heap.objs.size + 1), H', I3, rfl, q3⟩
def tMk (K : PySem.W.Frag) (C : Addr) (sp : L2.Sp) (dvs : List V) (W : WX) (t : TA) : TE := fun σ H Q => t σ H fun vs H1 => ∀ x dx, H1 x = none → H1 dx = none → dx ≠ x → KF K (upd (upd H1 dx (.own x)) x (.ins C dx [])) →
  sp (.ref x :: (vs ++ dvs)) (upd (upd H1 dx (.own x)) x (.ins C dx [])) (fun v H2 => v = .non ∧ Q (.ref x) H2) (WE W σ)
theorem pe_mk {C f : Addr} {sp : L2.Sp} {fd : FuncData} {ps : List Str} {dvs : List V} {ds : List Value} {kk : Nat} {x : Str} {p : Pos} {t : TA} (M : Mk X.K C f) (F : FnOk X.prog X.w X.K X.mg X.base (L2.CX X.prog X.w) kk f fd ps sp) (hr : ∀ vs H Q E, sp vs H Q E → Room (kk + 1) X.A) (hg : Gl X x) (hm : X.mg x = some (.ref C))
    (hb : Binds X.K fd ps ds) (hd : Vals dvs ds) (tk : Takes X W) (ha : PA X xs t) (hs : xs.all notStar = true) (hdb : (x == ("__debug__" : Str)) = false) (h0 : xs = [] → ∀ σ H Q, t σ H Q → Q [] H) :
    PE X (.Call (.Name x p) xs [] pos) (tMk X.K C sp dvs W t) := by
  refine ⟨fun pins s σ H Q I h => ?_⟩
  refine wpAny_Call_Name_kw (ld_glob I hg hm ?_ hdb)
  cases xs with
  | nil => exact PySem.W.callWith_K0 I.kIn M.kp (run_mk (us := []) M F hr hb hd tk I .nil (h0 rfl _ _ _ h))
  | cons e es =>
    rw [List.all_cons, Bool.and_eq_true] at hs
    exact PySem.W.callWith_K (h₀ := X.base) I.ok.mod.kin M.kp (thn (ha.run pos pins s σ H _ I h) fun us s1 ⟨vs, H1, I1, r, q⟩ => ⟨I1.kIn, run_mk M F hr hb hd tk I1 r q⟩) (star_cons hs.1) (star_any hs.2)
theorem kf_under {K : PySem.W.Frag} {H : Hp} {x dx : Addr} {o o' : HO} (h : KF K (upd (upd H dx o) x o')) : KF K (upd H dx o) := fun b u e => by
  have := h b u e
  by_cases z : b = x
  · subst z; rw [upd_same] at this; cases this
  · rwa [upd_ne z] at this
theorem e_make {c : String} {C : Addr} {d : FDef} {p : Pos} (xo : XO P cl X k sc W) (hg : Gl X (Str.ofString c)) (hdb : (Str.ofString c == ("__debug__" : Str)) = false) (hd : P.fn (.m c "__init__") = some d) (hC : cl c C) (hn : es'.len + 1 ≤ d.params) (hs : xs.all notStar = true) (h0 : xs = [] → es' = .nil) (ha : PA X xs (tEs P cl k X W es')) :
    PE X (.Call (.Name (Str.ofString c) p) xs [] pos) (tE P cl k X W (.make c es')) := by
  obtain ⟨g, fd, ps, at', F⟩ := xo.fnI hd
  obtain ⟨ds, vd, hb⟩ := at'.bd (d.cut (es'.len + 1)) (by unfold FDef.cut; omega)
  obtain ⟨hm, cls⟩ := xo.ln.clc c C hC
  have M : Mk X.K C g := (at'.nm C hC).2 rfl
  have hr : ∀ vs H Q E, spI P cl X.K X.mg k d vs H Q E → Room (k - 1 + 1) X.A := fun vs H Q E h => by
    match k, h, xo.room with
    | 0, h, _ => exact h.elim
    | k + 1, _, r => exact r
  refine PE.imp (pe_mk M F hr hg hm hb vd xo.tk ha hs hdb fun hx σ H Q ⟨m, env, S, hK, eH, hS, hV, h⟩ => ?_) fun σ H Q ⟨m, env, S, hK, eH, hS, hV, h⟩ => ?_
  · subst eH
    rw [h0 hx] at h
    simp only [wEs] at h
    exact h m [] (Ev.refl m) hS .nil
  · subst eH
    simp only [wE] at h
    refine tEs_of hK hS hV (Ev.refl m) (wEs_len (callW_mono P k) es' h) fun m1 x S1 v e1 hS1 r1 hV1 h1 => ?_
    intro y dy hy hdy hne kf
    rw [← hK, ← e1.k] at kf
    have e2 : Ev m1 { m1 with H := upd m1.H dy (.own y) } := Ev.outside hdy
    have hS2 := hS1.outside hdy (kf_under kf)
    have hy2 : upd m1.H dy (.own y) y = none := by rw [upd_ne (Ne.symm hne)]; exact hy
    have e3 : Ev { m1 with H := upd m1.H dy (.own y) } { m1 with H := upd (upd m1.H dy (.own y)) y (.ins C dy []), em := m1.em ++ [y] } := Ev.alloc (m := { m1 with H := upd m1.H dy (.own y) }) hy2
    have hS3 : SH cl { m1 with H := upd (upd m1.H dy (.own y)) y (.ins C dy []), em := m1.em ++ [y] } (S1 ++ [.ins c []]) := hS2.alloc hy2 kf ⟨C, dy, [], upd_same, hC, .nil⟩
    have e13 := (e1.trans e2).trans e3
    have r3 : RDs { m1 with H := upd (upd m1.H dy (.own y)) y (.ins C dy []), em := m1.em ++ [y] } (.ref S1.length :: v) (.ref y :: x) := .cons (.ref (by show (m1.em ++ [y])[S1.length]? = some y; rw [← hS1.len]; simp)) (r1.up ((e2.trans e3).up hS1))
    refine callW_init (f := .m c "__init__") (k := k) rfl hd e13 (e13.k.trans hK) rfl hS3 (padded_rd (n := es'.len + 1) (by rw [List.length_cons, h1.1]) r3) (fun v' S' hv => ?_) h1.2
    obtain ⟨rfl, hv⟩ := hv
    intro m' x' e' hS' r'
    cases r'
    refine ⟨rfl, hv m' (.ref y) (e13.trans e') hS' (.ref (em_get e'.em ?_))⟩
    show (m1.em ++ [y])[S1.length]? = some y
    rw [← hS1.len]
    simp
/-- o.m(..) -/
theorem e_meth {c mt : String} {d : FDef} {apos : Pos} (xo : XO P cl X k sc W) (hd : P.fn (.m c mt) = some d) (hni : (mt == "__init__") = false) (hn : es'.len + 1 ≤ d.params) (hb : plainBase eo = true) (hl : (apos.endLine == pos.line) = true) (hlen : xs.length < 29) (hs : xs.all notStar = true) (h0 : xs = [] → es' = .nil) (ho : PE X eo (tE P cl k X W o)) (ha : PA X xs (tEs P cl k X W es')) :
    PE X (.Call (.Attribute eo (Str.ofString mt) apos) xs [] pos) (tE P cl k X W (.meth c mt o es')) := by
  obtain ⟨g, fd, ps, at', F⟩ := xo.fnK hd
  obtain ⟨ds, vd, hbd⟩ := at'.bd (d.cut (es'.len + 1)) (by unfold FDef.cut; omega)
  refine ⟨fun pins s σ H Q I ⟨m, env, S, hK, eH, hS, hV, h⟩ => ?_⟩
  subst eH
  simp only [wE] at h
  refine methcall_of ho I (tE_of hK hS hV (Ev.refl m) h fun m1 x S1 v e1 hS1 r1 hV1 h1 => ?_) (meth_eval hb hs hlen hl)
  obtain ⟨n, fs, rfl, h2, h3, h4⟩ := h1
  obtain ⟨y, hy, C, dx, gs, hy2, hC, rf⟩ := hS1.at h2
  cases r1 with
  | @ref _ y' hy' =>
  rw [hy] at hy'
  cases hy'
  obtain ⟨hm, cls⟩ := xo.ln.clc c C hC
  have mt' : Meth X.K C (Str.ofString mt) g := (at'.nm C hC).1
  have lk : gs.lookup (Str.ofString mt) = none := by
    rcases rf.look mt with ⟨v, x, q, _⟩ | ⟨_, q⟩
    · rw [h3] at q; cases q
    · exact q
  refine ⟨y, C, dx, gs, g, rfl, hy2, cls, mt', lk, fun s1 I1 => ?_⟩
  have fin : ∀ {m2 : Sm} {S2 : Hm} {vs : List Val} {xs : List V}, Ev m1 m2 → SH cl m2 S2 → RDs m2 vs xs → vs.length = es'.len → callW P k (.m c mt) (.ref n :: vs) S2 (liftQ cl m Q) (liftX cl X.mg m fun c d H => W c d σ H) →
      spK P cl X.K X.mg k d ((.ref y :: xs) ++ (d.dflt.drop (d.cut (es'.len + 1))).map litV) m2.H Q (WE W σ) := fun {m2 S2 vs xs} e2 hS2 r2 hl h5 =>
        callW_body (k := k) (f := .m c mt) hni hd (e1.trans e2) ((e1.trans e2).k.trans hK) rfl hS2 (padded_rd (n := es'.len + 1) (by rw [List.length_cons, hl]) (.cons (.ref (em_get e2.em hy)) r2)) h5
  cases xs with
  | nil =>
    have h4 := wEs_len (callW_mono P k) es' h4
    rw [h0 rfl] at h4 fin
    simp only [wEs] at h4
    exact PySem.W.callWith_K0 (first := [.ref y]) I1.kIn mt'.kp (run_fnSD (us := [.ref y]) (vs := [.ref y]) (E := WE W) F xo.room hbd (by rw [h0 rfl] at vd; exact vd) (passAt xo.tk σ) I1 (.cons rfl .nil) (fin (Ev.refl m1) hS1 .nil h4.1 h4.2))
  | cons e es =>
    rw [List.all_cons, Bool.and_eq_true] at hs
    refine PySem.W.callWith_K (first := [.ref y]) (h₀ := X.base) I1.ok.mod.kin mt'.kp (thn (ha.run pos pins s1 σ m1.H (fun xs H => spK P cl X.K X.mg k d ((.ref y :: xs) ++ (d.dflt.drop (d.cut (es'.len + 1))).map litV) H Q (WE W σ)) I1 ?_) fun us s2 ⟨vs, H2, I2, r, q⟩ => ⟨I2.kIn, ?_⟩) (star_cons hs.1) (star_any hs.2)
    · exact tEs_of (e1.k.trans hK) hS1 hV1 e1 (wEs_len (callW_mono P k) es' h4) fun m2 x2 S2 v2 e2 hS2 r2 hV2 h5 => fin e2 hS2 r2 h5.1 h5.2
    · exact run_fnSD (us := .ref y :: us) (vs := .ref y :: vs) (E := WE W) F xo.room hbd vd (passAt xo.tk σ) I2 (.cons rfl r) q
end
end Mi

set_option maxHeartbeats 4000000
namespace Mi
open PySem PySem.Spec L2 PyProof.Rows
/-! ### built-in functions: names -/
def biN : Bi → String
  | .len => "len"
  | .abs => "abs"
  | .min => "min"
  | .max => "max"
  | .int => "int"
  | .str => "str"
  | .list => "list"
  | .tuple => "tuple"
  | .dict => "dict"
  | .sum => "sum"
  | .sorted => "sorted"
  | .all => "all"
  | .any => "any"
  | .range => "range"
theorem bi_boot (f : Bi) : bootBuiltins (Str.ofString (biN f)) = some (biV f) := by cases f <;> decide +kernel
theorem bi_mem (f : Bi) : biN f ∈ ["len", "abs", "min", "max", "int", "str", "list", "tuple", "dict", "sum", "sorted", "all", "any", "range", "enumerate", "zip", "reversed", "isinstance", "bool"] := by cases f <;> decide
theorem bi_name (f : Bi) : Str.ofString (biN f) ≠ ("__name__" : Str) := by cases f <;> decide +kernel
theorem bi_debug (f : Bi) : (Str.ofString (biN f) == ("__debug__" : Str)) = false := by cases f <;> decide +kernel
theorem bm_pa (b : Bm) : PlainAttrs (bmI b).1 := by cases b <;> first | exact PySem.F.plainAttrs_list | exact PySem.F.plainAttrs_dict | exact PySem.F.plainAttrs_str
theorem bm_slot (b : Bm) : Slot (bmI b).1 (Str.ofString (bmI b).2.1) (bmI b).2.2 := by
  cases b
  · exact PySem.F.slot_list_append
  · exact PySem.F.slot_list_extend
  · exact PySem.F.slot_list_pop
  · exact PySem.F.slot_list_insert
  · exact PySem.F.slot_list_reverse
  · exact PySem.F.slot_list_count
  · exact PySem.F.slot_list_index
  · exact PySem.F.slot_list_clear
  · exact PySem.F.slot_dict_clear
  · exact PySem.F.slot_dict_get
  · exact PySem.F.slot_dict_setdefault
  · exact PySem.F.slot_dict_update
  · exact PySem.F.slot_str_startswith
  · exact PySem.F.slot_str_split
  · exact PySem.F.slot_str_join
  · exact PySem.F.slot_str_isupper
  · exact PySem.F.slot_str_upper
  · exact PySem.F.slot_str_replace
theorem bm_type (b : Bm) : typeOf (.builtin (bmI b).2.2) = pure (.type "method_descriptor") := by
  cases b
  · exact PySem.F.type_list_append
  · exact PySem.F.type_list_extend
  · exact PySem.F.type_list_pop
  · exact PySem.F.type_list_insert
  · exact PySem.F.type_list_reverse
  · exact PySem.F.type_list_count
  · exact PySem.F.type_list_index
  · exact PySem.F.type_list_clear
  · exact PySem.F.type_dict_clear
  · exact PySem.F.type_dict_get
  · exact PySem.F.type_dict_setdefault
  · exact PySem.F.type_dict_update
  · exact PySem.F.type_str_startswith
  · exact PySem.F.type_str_split
  · exact PySem.F.type_str_join
  · exact PySem.F.type_str_isupper
  · exact PySem.F.type_str_upper
  · exact PySem.F.type_str_replace
section
variable {P : Pg} {cl : String → Addr → Prop} {k : Nat} {X : Cx} {W : WX} {sc : Ko}
variable {a b c o i : E} {ea eb ec eo ei : Expr} {pos : Pos} {es' : Es} {xs : List Expr}
theorem e_fld {f : String} (xo : XO P cl X k sc W) (hf : f ∈ P.flds) (hb : plainBase eo = true) (ho : PE X eo (tE P cl k X W o)) : PE X (.Attribute eo (Str.ofString f) pos) (tE P cl k X W (.fld o f)) :=
  PE.imp (PE.kf (pe_fld ho (base_of hb))) fun σ H Q ⟨m, env, S, hK, eH, hS, hV, h⟩ => by
    subst eH
    simp only [wE] at h
    refine tE_of hK hS hV (Ev.refl m) h fun m1 x S1 v e1 hS1 r1 hV1 h1 => ?_
    obtain ⟨n, c, fs, w, rfl, h2, h3, h4⟩ := h1
    cases r1 with
    | @ref _ y hy =>
    obtain ⟨C, dx, gs, hy2, hC, rf⟩ := hS1.ob n _ y h2 hy
    rcases rf.look f with ⟨v, x, q1, q2, q3⟩ | ⟨q, _⟩
    · rw [h3] at q1
      cases q1
      exact ⟨y, C, dx, gs, x, rfl, hy2, (xo.ln.clc c C hC).2, xo.ln.fld c C hC f hf, q2, fun _ => h4 m1 x e1 hS1 q3⟩
    · rw [h3] at q; cases q
theorem e_sub (hu : X.A.units + 1 < cLine) (hi : plainIx ei = true) (ho : PE X eo (tE P cl k X W o)) (hx : PE X ei (tE P cl k X W i)) : PE X (.Subscript eo ei pos) (tE P cl k X W (.sub o i)) :=
  PE.imp (pe_ix (ix_ok (cl := cl) hu) ho hx (plainIx_of hi)) fun σ H Q ⟨m, env, S, hK, eH, hS, hV, h⟩ => by
    subst eH
    simp only [wE] at h
    refine tE_of hK hS hV (Ev.refl m) h fun m1 x S1 v e1 hS1 r1 hV1 h1 => ?_
    refine tE_of (e1.k.trans hK) hS1 hV1 e1 h1 fun m2 y S2 w e2 hS2 r2 hV2 h2 => ?_
    exact ⟨m2, S2, v, w, (e1.trans e2).k.trans hK, rfl, hS2, r1.up (e2.up hS1), r2, subW_mono (fun z S3 h3 => liftQ.ev (e1.trans e2) (fun _ _ _ q => q) h3) h2⟩
theorem o_none : PO X none (tOs P cl k X W .none) :=
  PO.imp po_none fun σ H Q ⟨m, env, S, hK, eH, hS, hV, h⟩ => by
    subst eH
    simp only [wO] at h
    exact h m (Ev.refl m) hS
theorem o_some (ha : PE X ea (tE P cl k X W a)) : PO X (some ea) (tOs P cl k X W (.some a)) :=
  PO.imp (po_some ha) fun σ H Q ⟨m, env, S, hK, eH, hS, hV, h⟩ => by
    subst eH
    simp only [wO] at h
    refine tE_of hK hS hV (Ev.refl m) h fun m1 x S1 v e1 hS1 r1 hV1 h1 => ?_
    obtain ⟨j, rfl, h1⟩ := h1
    cases r1
    exact ⟨j, rfl, h1 m1 e1 hS1⟩
theorem e_slice {lo hi : Oe} {el eh : Option Expr} {p2 : Pos} (ho : PE X eo (tE P cl k X W o)) (hl : PO X el (tOs P cl k X W lo)) (hh : PO X eh (tOs P cl k X W hi)) : PE X (.Subscript eo (.Slice el eh none p2) pos) (tE P cl k X W (.slice o lo hi)) :=
  PE.imp (pe_slice (sl_ok (cl := cl)) ho hl hh) fun σ H Q ⟨m, env, S, hK, eH, hS, hV, h⟩ => by
    subst eH
    simp only [wE] at h
    refine tE_of hK hS hV (Ev.refl m) h fun m1 x S1 v e1 hS1 r1 hV1 h1 => ?_
    refine tOs_of (e1.k.trans hK) hS1 hV1 e1 h1 fun m2 S2 l e2 hS2 hV2 h2 => ?_
    refine tOs_of ((e1.trans e2).k.trans hK) hS2 hV2 (e1.trans e2) h2 fun m3 S3 u e3 hS3 hV3 h3 => ?_
    exact ⟨m3, S3, v, ((e1.trans e2).trans e3).k.trans hK, rfl, hS3, r1.up ((e2.trans e3).up hS1), sliceW_mono (fun z S4 h4 => liftQ.ev ((e1.trans e2).trans e3) (fun _ _ _ q => q) h4) h3⟩
theorem e_bi {f : Bi} {p : Pos} {e : Expr} {es : List Expr} (xo : XO P cl X k sc W) (hg : Gl X (Str.ofString (biN f))) (hs : (e :: es).all notStar = true) (ha : PA X (e :: es) (tEs P cl k X W es')) :
    PE X (.Call (.Name (Str.ofString (biN f)) p) (e :: es) [] pos) (tE P cl k X W (.bi f es')) := by
  have hm := xo.ln.bi (biN f) (bi_mem f)
  rw [List.all_cons, Bool.and_eq_true] at hs
  have ok := bi_ok (cl := cl) xo.calm f
  have hv := bi_boot f
  have rd : PE X (.Call (.Name (Str.ofString (biN f)) p) (e :: es) [] pos) (tCB (rA X cl (biW f)) (tEs P cl k X W es')) := by
    cases f <;> first
      | exact pe_callB ok hg hm hv ha (bi_name _) (bi_debug _) (star_cons hs.1) (star_any hs.2)
      | exact pe_callTy ok hg hm hv ha (bi_name _) (bi_debug _) (star_cons hs.1) (star_any hs.2)
  refine PE.imp rd fun σ H Q ⟨m, env, S, hK, eH, hS, hV, h⟩ => ?_
  subst eH
  simp only [wE] at h
  refine tEs_of hK hS hV (Ev.refl m) h fun m1 x S1 v e1 hS1 r1 hV1 h1 => ?_
  exact ⟨m1, S1, v, e1.k.trans hK, rfl, hS1, r1, biW_mono (fun z S3 h3 => liftQ.ev e1 (fun _ _ _ q => q) h3) h1⟩
theorem bmT_rd {b : Bm} {m : Sm} {S : Hm} {v : Val} {x : V} (hS : SH cl m S) (r : RD m v x) (h : bmT b v S) : tyV m.K (bmI b).1 x m.H := by
  cases b <;> simp only [bmT, bmI] at h ⊢
  all_goals first
    | (obtain ⟨n, xs, rfl, h⟩ := h
       cases r with
       | @ref _ y hy =>
       first
         | (obtain ⟨vs, hq, _⟩ := hS.lst h hy
            exact .inl ⟨rfl, vs, hq⟩)
         | (obtain ⟨vs, hq, _⟩ := hS.dic' h hy
            exact .inr (.inr (.inl ⟨rfl, .inl ⟨vs, hq⟩⟩))))
    | (obtain ⟨z, rfl⟩ := h
       cases r
       rfl)
theorem e_bm0 {bm : Bm} {apos : Pos} (xo : XO P cl X k sc W) (hb : plainBase eo = true) (hl : (apos.endLine == pos.line) = true) (ho : PE X eo (tE P cl k X W o)) :
    PE X (.Call (.Attribute eo (Str.ofString (bmI bm).2.1) apos) [] [] pos) (tE P cl k X W (.bm bm o .nil)) :=
  PE.imp (pe_bm0 (bm_pa bm) (bm_slot bm) (bm_type bm) (mt_ok (cl := cl) (by have := xo.room.units; omega) bm) ho (base_of hb) hl) fun σ H Q ⟨m, env, S, hK, eH, hS, hV, h⟩ => by
    subst eH
    simp only [wE, wEs] at h
    refine tE_of hK hS hV (Ev.refl m) h fun m1 x S1 v e1 hS1 r1 hV1 h1 => ?_
    refine ⟨by rw [← hK, ← e1.k]; exact bmT_rd hS1 r1 h1.1, m1, S1, v, [], e1.k.trans hK, rfl, hS1, r1, .nil, bmW_mono (fun z S3 h3 => liftQ.ev e1 (fun _ _ _ q => q) h3) h1.2⟩
theorem e_bm {bm : Bm} {apos : Pos} {e : Expr} {es : List Expr} (xo : XO P cl X k sc W) (hb : plainBase eo = true) (hl : (apos.endLine == pos.line) = true) (hs : (e :: es).all notStar = true) (hlen : (e :: es).length < 29) (ho : PE X eo (tE P cl k X W o)) (ha : PA X (e :: es) (tEs P cl k X W es')) :
    PE X (.Call (.Attribute eo (Str.ofString (bmI bm).2.1) apos) (e :: es) [] pos) (tE P cl k X W (.bm bm o es')) := by
  have hs' := hs
  rw [List.all_cons, Bool.and_eq_true] at hs
  refine PE.imp (pe_bm (bm_pa bm) (bm_slot bm) (bm_type bm) (mt_ok (cl := cl) (by have := xo.room.units; omega) bm) ho ha (base_of hb) ?_ hl (star_cons hs.1) (star_any hs.2)) fun σ H Q ⟨m, env, S, hK, eH, hS, hV, h⟩ => ?_
  · rw [star_all hs']
    show (true && true && decide ((e :: es).length + 0 + 0 < 30)) = true
    simp
    simp at hlen
    omega
  · subst eH
    simp only [wE] at h
    refine tE_of hK hS hV (Ev.refl m) h fun m1 x S1 v e1 hS1 r1 hV1 h1 => ?_
    refine ⟨by rw [← hK, ← e1.k]; exact bmT_rd hS1 r1 h1.1, ?_⟩
    refine tEs_of (e1.k.trans hK) hS1 hV1 e1 h1.2 fun m2 y S2 w e2 hS2 r2 hV2 h2 => ?_
    exact ⟨m2, S2, v, w, (e1.trans e2).k.trans hK, rfl, hS2, r1.up (e2.up hS1), r2, bmW_mono (fun z S3 h3 => liftQ.ev (e1.trans e2) (fun _ _ _ q => q) h3) h2⟩
end
end Mi

set_option maxHeartbeats 4000000
namespace Mi
open PySem PySem.Spec L2 PyProof.Rows
/-! ### isinstance -/
def tyS : Ty → String
  | .int => "int"
  | .bool => "bool"
  | .str => "str"
  | .tuple => "tuple"
  | .list => "list"
  | .dict => "dict"
  | .cls c => c
def TyU (cl : String → Addr → Prop) : Ty → Value → Prop
  | .cls c, u => ∃ C, cl c C ∧ u = .ref C
  | t, u => u = .type (tyS t)
section
variable {P : Pg} {cl : String → Addr → Prop} {k : Nat} {X : Cx} {W : WX} {sc : Ko} {m : Sm} {S : Hm}
theorem tag_B {K : PySem.W.Frag} (ln : LnI K cl) {v : Val} {tag : String} (ht : tag ∈ ["NoneType", "int", "bool", "str", "tuple", "list", "dict"]) (hc : ∀ c b, isTy v S (.cls c) = some b → b = false)
    (h1 : ∀ b, isTy v S .int = some b → kitB tag "int" = some b) (h2 : ∀ b, isTy v S .bool = some b → kitB tag "bool" = some b) (h3 : ∀ b, isTy v S .str = some b → kitB tag "str" = some b)
    (h4 : ∀ b, isTy v S .tuple = some b → kitB tag "tuple" = some b) (h5 : ∀ b, isTy v S .list = some b → kitB tag "list" = some b) (h6 : ∀ b, isTy v S .dict = some b → kitB tag "dict" = some b) :
    ∀ t b u, isTy v S t = some b → TyU cl t u → PySem.W.kitOne K (.type tag) u = some b := by
  intro t b u h hu
  cases t with
  | cls c =>
    obtain ⟨C, hC, rfl⟩ := hu
    rw [hc c b h]
    exact ln.isC c C hC tag ht
  | int => cases hu; exact kit_ty (h1 b h)
  | bool => cases hu; exact kit_ty (h2 b h)
  | str => cases hu; exact kit_ty (h3 b h)
  | tuple => cases hu; exact kit_ty (h4 b h)
  | list => cases hu; exact kit_ty (h5 b h)
  | dict => cases hu; exact kit_ty (h6 b h)
theorem kbs : kitB "NoneType" "int" = some false ∧ kitB "NoneType" "bool" = some false ∧ kitB "NoneType" "str" = some false ∧ kitB "NoneType" "tuple" = some false ∧ kitB "NoneType" "list" = some false ∧ kitB "NoneType" "dict" = some false := by decide +kernel
theorem kbb : kitB "bool" "int" = some true ∧ kitB "bool" "bool" = some true ∧ kitB "bool" "str" = some false ∧ kitB "bool" "tuple" = some false ∧ kitB "bool" "list" = some false ∧ kitB "bool" "dict" = some false := by decide +kernel
theorem kbi : kitB "int" "int" = some true ∧ kitB "int" "bool" = some false ∧ kitB "int" "str" = some false ∧ kitB "int" "tuple" = some false ∧ kitB "int" "list" = some false ∧ kitB "int" "dict" = some false := by decide +kernel
theorem kbt : kitB "str" "int" = some false ∧ kitB "str" "bool" = some false ∧ kitB "str" "str" = some true ∧ kitB "str" "tuple" = some false ∧ kitB "str" "list" = some false ∧ kitB "str" "dict" = some false := by decide +kernel
theorem kbu : kitB "tuple" "int" = some false ∧ kitB "tuple" "bool" = some false ∧ kitB "tuple" "str" = some false ∧ kitB "tuple" "tuple" = some true ∧ kitB "tuple" "list" = some false ∧ kitB "tuple" "dict" = some false := by decide +kernel
theorem kbl : kitB "list" "int" = some false ∧ kitB "list" "bool" = some false ∧ kitB "list" "str" = some false ∧ kitB "list" "tuple" = some false ∧ kitB "list" "list" = some true ∧ kitB "list" "dict" = some false := by decide +kernel
theorem kbd : kitB "dict" "int" = some false ∧ kitB "dict" "bool" = some false ∧ kitB "dict" "str" = some false ∧ kitB "dict" "tuple" = some false ∧ kitB "dict" "list" = some false ∧ kitB "dict" "dict" = some true := by decide +kernel
theorem tag_rd (ln : LnI m.K cl) (lc : ∀ c C, cl c C → Cls m.K C) (hS : SH cl m S) {v : Val} {x : V} (r : RD m v x) {t : Ty} {b : Bool} (h : isTy v S t = some b) : ∃ tg, TyX m.K m.H x tg ∧ ∀ t b u, isTy v S t = some b → TyU cl t u → PySem.W.kitOne m.K tg u = some b := by
  cases r with
  | non => exact ⟨_, .base .non, tag_B ln (by decide) (fun c b h => by simp [isTy] at h; exact h) (fun b h => by simp [isTy] at h; subst h; exact kbs.1) (fun b h => by simp [isTy] at h; subst h; exact kbs.2.1) (fun b h => by simp [isTy] at h; subst h; exact kbs.2.2.1) (fun b h => by simp [isTy] at h; subst h; exact kbs.2.2.2.1) (fun b h => by simp [isTy] at h; subst h; exact kbs.2.2.2.2.1) (fun b h => by simp [isTy] at h; subst h; exact kbs.2.2.2.2.2)⟩
  | bl z => exact ⟨_, .base (.bl z), tag_B ln (by decide) (fun c b h => by simp [isTy] at h; exact h) (fun b h => by simp [isTy] at h; subst h; exact kbb.1) (fun b h => by simp [isTy] at h; subst h; exact kbb.2.1) (fun b h => by simp [isTy] at h; subst h; exact kbb.2.2.1) (fun b h => by simp [isTy] at h; subst h; exact kbb.2.2.2.1) (fun b h => by simp [isTy] at h; subst h; exact kbb.2.2.2.2.1) (fun b h => by simp [isTy] at h; subst h; exact kbb.2.2.2.2.2)⟩
  | int z => exact ⟨_, .base (.int z), tag_B ln (by decide) (fun c b h => by simp [isTy] at h; exact h) (fun b h => by simp [isTy] at h; subst h; exact kbi.1) (fun b h => by simp [isTy] at h; subst h; exact kbi.2.1) (fun b h => by simp [isTy] at h; subst h; exact kbi.2.2.1) (fun b h => by simp [isTy] at h; subst h; exact kbi.2.2.2.1) (fun b h => by simp [isTy] at h; subst h; exact kbi.2.2.2.2.1) (fun b h => by simp [isTy] at h; subst h; exact kbi.2.2.2.2.2)⟩
  | str z => exact ⟨_, .base (.str _), tag_B ln (by decide) (fun c b h => by simp [isTy] at h; exact h) (fun b h => by simp [isTy] at h; subst h; exact kbt.1) (fun b h => by simp [isTy] at h; subst h; exact kbt.2.1) (fun b h => by simp [isTy] at h; subst h; exact kbt.2.2.1) (fun b h => by simp [isTy] at h; subst h; exact kbt.2.2.2.1) (fun b h => by simp [isTy] at h; subst h; exact kbt.2.2.2.2.1) (fun b h => by simp [isTy] at h; subst h; exact kbt.2.2.2.2.2)⟩
  | @tup a xs ds hq rs =>
    have fin : ∀ t b u, isTy (.tup ds) S t = some b → TyU cl t u → PySem.W.kitOne m.K (.type "tuple") u = some b := tag_B ln (by decide) (fun c b h => by simp [isTy] at h; exact h) (fun b h => by simp [isTy] at h; subst h; exact kbu.1) (fun b h => by simp [isTy] at h; subst h; exact kbu.2.1) (fun b h => by simp [isTy] at h; subst h; exact kbu.2.2.1) (fun b h => by simp [isTy] at h; subst h; exact kbu.2.2.2.1) (fun b h => by simp [isTy] at h; subst h; exact kbu.2.2.2.2.1) (fun b h => by simp [isTy] at h; subst h; exact kbu.2.2.2.2.2)
    rcases hq with (hq | ⟨o, hq⟩) | ⟨o, its, n, hk, hc, hd, hz, hv⟩
    · exact ⟨_, .base (.tup hq), fin⟩
    · exact ⟨_, .fTuple hq, fin⟩
    · exact ⟨_, .kTuple hk hc, fin⟩
  | @ref n a ha =>
    have fl : (∀ c b, isTy (.ref n) S (.cls c) = some b → b = false) → (∀ b, isTy (.ref n) S .list = some b → b = true) → (∀ b, isTy (.ref n) S .dict = some b → b = false) → ∀ t b u, isTy (.ref n) S t = some b → TyU cl t u → PySem.W.kitOne m.K (.type "list") u = some b := fun hc h1 h2 =>
      tag_B ln (by decide) hc (fun b h => by simp [isTy] at h; subst h; exact kbl.1) (fun b h => by simp [isTy] at h; subst h; exact kbl.2.1) (fun b h => by simp [isTy] at h; subst h; exact kbl.2.2.1) (fun b h => by simp [isTy] at h; subst h; exact kbl.2.2.2.1) (fun b h => by rw [h1 b h]; exact kbl.2.2.2.2.1) (fun b h => by rw [h2 b h]; exact kbl.2.2.2.2.2)
    have fd : (∀ c b, isTy (.ref n) S (.cls c) = some b → b = false) → (∀ b, isTy (.ref n) S .list = some b → b = false) → (∀ b, isTy (.ref n) S .dict = some b → b = true) → ∀ t b u, isTy (.ref n) S t = some b → TyU cl t u → PySem.W.kitOne m.K (.type "dict") u = some b := fun hc h1 h2 =>
      tag_B ln (by decide) hc (fun b h => by simp [isTy] at h; subst h; exact kbd.1) (fun b h => by simp [isTy] at h; subst h; exact kbd.2.1) (fun b h => by simp [isTy] at h; subst h; exact kbd.2.2.1) (fun b h => by simp [isTy] at h; subst h; exact kbd.2.2.2.1) (fun b h => by rw [h1 b h]; exact kbd.2.2.2.2.1) (fun b h => by rw [h2 b h]; exact kbd.2.2.2.2.2)
    have hn : n < S.length := by rw [← hS.len]; exact (List.getElem?_eq_some_iff.mp ha).1
    have hob := hS.ob n S[n] a (List.getElem?_eq_getElem hn) ha
    have e : S[n]? = some S[n] := List.getElem?_eq_getElem hn
    generalize hoo : S[n] = oo at hob e
    cases oo with
    | lst ds =>
      obtain ⟨vs, hq, _⟩ := hob
      exact ⟨_, .base (.lst hq), fl (fun c b h => by simp [isTy, e] at h; exact h) (fun b h => by simp [isTy, e] at h; exact h) (fun b h => by simp [isTy, e] at h; exact h)⟩
    | dic ds =>
      obtain ⟨vs, hq, _⟩ := hob
      exact ⟨_, .base (.dK hq), fd (fun c b h => by simp [isTy, e] at h; exact h) (fun b h => by simp [isTy, e] at h; exact h) (fun b h => by simp [isTy, e] at h; exact h)⟩
    | ins c fs =>
      obtain ⟨C, dx, gs, hq, hC, _⟩ := hob
      obtain ⟨i1, i2, i3, i4⟩ := ln.isT c C hC
      refine ⟨_, .base (.ins hq (lc c C hC) i1 i2 i3 i4), fun t b u h hu => ?_⟩
      have nb : ∀ s ∈ ["int", "bool", "str", "tuple", "list", "dict"], PySem.W.kitOne m.K (.ref C) (.type s) = some false := ln.isB c C hC
      cases t with
      | cls c' =>
        obtain ⟨C', hC', rfl⟩ := hu
        simp [isTy, e] at h
        rw [← h]
        exact ln.isCC c C c' C' hC hC'
      | int => cases hu; simp [isTy, e] at h; subst h; exact nb _ (by decide)
      | bool => cases hu; simp [isTy, e] at h; subst h; exact nb _ (by decide)
      | str => cases hu; simp [isTy, e] at h; subst h; exact nb _ (by decide)
      | tuple => cases hu; simp [isTy, e] at h; subst h; exact nb _ (by decide)
      | list => cases hu; simp [isTy, e] at h; subst h; exact nb _ (by decide)
      | dict => cases hu; simp [isTy, e] at h; subst h; exact nb _ (by decide)
    | lck o =>
      cases o with
      | lst ds =>
        have fin : ∀ t b u, isTy (.ref n) S t = some b → TyU cl t u → PySem.W.kitOne m.K (.type "list") u = some b := fl (fun c b h => by simp [isTy, e] at h) (fun b h => by simp [isTy, e] at h; exact h) (fun b h => by simp [isTy, e] at h; exact h)
        rcases hob with ⟨o, vs, hq, _⟩ | ⟨o, its, n', vs, hk, hc, _⟩
        · exact ⟨_, .base (.frz hq), fin⟩
        · exact ⟨_, .kList hk hc, fin⟩
      | dic ds =>
        obtain ⟨o, vs, hq, _⟩ := hob
        exact ⟨_, .fDict hq, fd (fun c b h => by simp [isTy, e] at h) (fun b h => by simp [isTy, e] at h; exact h) (fun b h => by simp [isTy, e] at h; exact h)⟩
      | _ => exact hob.elim
  | exc hz => cases t <;> simp [isTy] at h
/-- a type's name, as an expression -/
structure TyN (X : Cx) (cl : String → Addr → Prop) (t : Ty) (e : Expr) (c : V) (u : Value) : Prop where
  pe : PE X e (tC c)
  un : TyU cl t u
  cv : ClsV c u
theorem tyN_B {t : Ty} {s : String} {p : Pos} (xo : XO P cl X k sc W) (hs : s ∈ ["len", "abs", "min", "max", "int", "str", "list", "tuple", "dict", "sum", "sorted", "all", "any", "range", "enumerate", "zip", "reversed", "isinstance", "bool"]) (hg : Gl X (Str.ofString s)) (hb : bootBuiltins (Str.ofString s) = some (.type s)) (hn : Str.ofString s ≠ ("__name__" : Str)) (hd : (Str.ofString s == ("__debug__" : Str)) = false) (hu : TyU cl t (.type s)) :
    TyN X cl t (.Name (Str.ofString s) p) (.ty s) (.type s) := ⟨pe_bltn hg (xo.ln.bi s hs) hb rfl hn hd, hu, .ty s⟩
theorem ty_boot (t : Ty) (h : ∀ c, t ≠ .cls c) : bootBuiltins (Str.ofString (tyS t)) = some (.type (tyS t)) ∧ Str.ofString (tyS t) ≠ ("__name__" : Str) ∧ (Str.ofString (tyS t) == ("__debug__" : Str)) = false ∧ tyS t ∈ ["len", "abs", "min", "max", "int", "str", "list", "tuple", "dict", "sum", "sorted", "all", "any", "range", "enumerate", "zip", "reversed", "isinstance", "bool"] := by
  cases t with
  | cls c => exact absurd rfl (h c)
  | int => decide +kernel
  | bool => decide +kernel
  | str => decide +kernel
  | tuple => decide +kernel
  | list => decide +kernel
  | dict => decide +kernel
theorem tyN_of {t : Ty} {p : Pos} (xo : XO P cl X k sc W) (hg : Gl X (Str.ofString (tyS t))) (hcls : ∀ c, t = .cls c → (∃ C, cl c C) ∧ (Str.ofString c == ("__debug__" : Str)) = false) : ∃ c u, TyN X cl t (.Name (Str.ofString (tyS t)) p) c u := by
  cases t with
  | cls c =>
    obtain ⟨⟨C, hC⟩, hd⟩ := hcls c rfl
    exact ⟨_, _, pe_glob hg (xo.ln.clc c C hC).1 (v := .ref C) rfl hd, ⟨C, hC, rfl⟩, .own C⟩
  | int => obtain ⟨h1, h2, h3, h4⟩ := ty_boot .int (by simp); exact ⟨_, _, tyN_B xo h4 hg h1 h2 h3 rfl⟩
  | bool => obtain ⟨h1, h2, h3, h4⟩ := ty_boot .bool (by simp); exact ⟨_, _, tyN_B xo h4 hg h1 h2 h3 rfl⟩
  | str => obtain ⟨h1, h2, h3, h4⟩ := ty_boot .str (by simp); exact ⟨_, _, tyN_B xo h4 hg h1 h2 h3 rfl⟩
  | tuple => obtain ⟨h1, h2, h3, h4⟩ := ty_boot .tuple (by simp); exact ⟨_, _, tyN_B xo h4 hg h1 h2 h3 rfl⟩
  | list => obtain ⟨h1, h2, h3, h4⟩ := ty_boot .list (by simp); exact ⟨_, _, tyN_B xo h4 hg h1 h2 h3 rfl⟩
  | dict => obtain ⟨h1, h2, h3, h4⟩ := ty_boot .dict (by simp); exact ⟨_, _, tyN_B xo h4 hg h1 h2 h3 rfl⟩
variable {a b c o i : E} {ea eb ec eo ei : Expr} {pos : Pos}
theorem isi_boot : bootBuiltins (Str.ofString "isinstance") = some (.builtin "isinstance") := by decide +kernel
theorem e_isi1 {t : Ty} {et : Expr} {p : Pos} {cv : V} {u : Value} (xo : XO P cl X k sc W) (hg : Gl X (Str.ofString "isinstance")) (ht : TyN X cl t et cv u) (hs : notStar ea = true) (hs2 : notStar et = true) (ha : PE X ea (tE P cl k X W a)) :
    PE X (.Call (.Name (Str.ofString "isinstance") p) [ea, et] [] pos) (tE P cl k X W (.isi a [t])) := by
  have hA : PA X [ea, et] (tCons (tE P cl k X W a) (tCons (tC cv) tNil)) := pa_cons ha (pa_cons ht.pe pa_nil (star_cons hs2)) (star_cons hs)
  refine PE.imp (pe_callB call_isi hg (xo.ln.bi "isinstance" (by decide)) isi_boot hA (by decide +kernel) (by decide +kernel) (star_cons hs) (star_any (by simp [hs2]))) fun σ H Q ⟨m, env, S, hK, eH, hS, hV, h⟩ => ?_
  subst eH
  simp only [wE] at h
  refine tE_of hK hS hV (Ev.refl m) h fun m1 x S1 v e1 hS1 r1 hV1 h1 => ?_
  obtain ⟨bs, h2, h3⟩ := h1
  rw [List.mapM_cons] at h2
  cases hb : isTy v S1 t with
  | none => rw [hb] at h2; simp at h2
  | some b =>
    rw [hb] at h2
    simp at h2
    subst h2
    have hK1 := e1.k.trans hK
    obtain ⟨tg, ty, kt⟩ := tag_rd (by rw [hK1]; exact xo.isi) (fun c C hC => by rw [hK1]; exact (xo.ln.clc c C hC).2) hS1 r1 hb
    refine ⟨x, cv, tg, u, b, rfl, ht.cv, by rw [← hK1]; exact ty, by rw [← hK1]; exact kt t b u hb ht.un, ?_⟩
    have := h3 m1 _ e1 hS1 (.bl _)
    simpa using this
/-- several types -/
inductive TyNs (X : Cx) (cl : String → Addr → Prop) : List Ty → List Expr → List V → List Value → Prop where
  | nil : TyNs X cl [] [] [] []
  | cons {t e c u ts es cs us} : TyN X cl t e c u → notStar e = true → TyNs X cl ts es cs us → TyNs X cl (t :: ts) (e :: es) (c :: cs) (u :: us)
def tVs : List V → TA
  | [] => tNil
  | c :: cs => tCons (tC c) (tVs cs)
theorem TyNs.pa {ts es cs us} (h : TyNs X cl ts es cs us) : PA X es (tVs cs) := by
  induction h with
  | nil => exact pa_nil
  | cons h1 h2 h3 ih => exact pa_cons h1.pe ih (star_cons h2)
theorem tVs_run : ∀ (cs : List V) (σ : L2.St) (H : Hp) (Q : List V → Hp → Prop), Q cs H → tVs cs σ H Q
  | [], σ, H, Q, h => h
  | c :: cs, σ, H, Q, h => tVs_run cs σ H _ h
theorem TyNs.cls {ts es cs us} (h : TyNs X cl ts es cs us) : Paired ClsV cs us := by
  induction h with
  | nil => exact .nil
  | cons h1 _ _ ih => exact .cons h1.cv ih
theorem TyNs.len {ts es cs us} (h : TyNs X cl ts es cs us) : cs.length = ts.length := by
  induction h with
  | nil => rfl
  | cons _ _ _ ih => simp [ih]
theorem TyNs.any {ts es cs us} (h : TyNs X cl ts es cs us) {K : PySem.W.Frag} {tg : Value} {v : Val} (kt : ∀ t b u, isTy v S t = some b → TyU cl t u → PySem.W.kitOne K tg u = some b) : ∀ {bs : List Bool}, ts.mapM (isTy v S) = some bs → PySem.W.kitAny K tg us = some (bs.any id) := by
  induction h with
  | nil => intro bs h; simp at h; subst h; rfl
  | @cons t e c u ts es cs us h1 h2 h3 ih =>
    intro bs h
    rw [List.mapM_cons] at h
    cases hb : isTy v S t with
    | none => rw [hb] at h; simp at h
    | some b =>
      rw [hb] at h
      cases hr : ts.mapM (isTy v S) with
      | none => rw [hr] at h; simp at h
      | some bs' =>
        rw [hr] at h
        simp at h
        subst h
        refine kitAny_cons (kt t b u hb h1.un) (fun e => ?_) (fun e => by subst e; simp)
        subst e
        simpa using ih hr
theorem TyX.up {K : PySem.W.Frag} {H : Hp} {p : Addr} {o : HO} (hp : H p = none) {x : V} {t : Value} (h : TyX K H x t) : TyX K (upd H p o) x t := by
  have k : ∀ {a : Addr} {u : HO}, H a = some u → upd H p o a = some u := fun {a u} e => by rw [upd_ne (ne_of_none e hp)]; exact e
  cases h with
  | base b =>
    cases b with
    | non => exact .base .non
    | bl y => exact .base (.bl y)
    | int i => exact .base (.int i)
    | str y => exact .base (.str y)
    | flt y => exact .base (.flt y)
    | lst e => exact .base (.lst (k e))
    | frz e => exact .base (.frz (k e))
    | tup e => exact .base (.tup (k e))
    | dK e => exact .base (.dK (k e))
    | dT e => exact .base (.dT (k e))
    | ins e c h1 h2 h3 h4 => exact .base (.ins (k e) c h1 h2 h3 h4)
  | byt b => exact .byt b
  | set e => exact .set (k e)
  | kList e c => exact .kList e c
  | kTuple e c => exact .kTuple e c
  | kDict e c => exact .kDict e c
  | fTuple e => exact .fTuple (k e)
  | fDict e => exact .fDict (k e)
theorem e_isiT {ts : List Ty} {es : List Expr} {cs : List V} {us : List Value} {p p2 : Pos} {kk} (xo : XO P cl X k sc W) (hg : Gl X (Str.ofString "isinstance")) (ht : TyNs X cl ts es cs us) (h0 : ts ≠ []) (hlen : ts.length ≤ sizeLine) (hs : notStar ea = true) (ha : PE X ea (tE P cl k X W a)) :
    PE X (.Call (.Name (Str.ofString "isinstance") p) [ea, .Tuple es kk p2] [] pos) (tE P cl k X W (.isi a ts)) := by
  have hA : PA X [ea, .Tuple es kk p2] (tCons (tE P cl k X W a) (tCons (tTup (tVs cs)) tNil)) := pa_cons ha (pa_cons (pe_tup ht.pa) pa_nil (star_cons rfl)) (star_cons hs)
  refine PE.imp (PE.kf (pe_callB call_isiT hg (xo.ln.bi "isinstance" (by decide)) isi_boot hA (by decide +kernel) (by decide +kernel) (star_cons hs) (star_any (by simp [notStar])))) fun σ H Q ⟨m, env, S, hK, eH, hS, hV, h⟩ => ?_
  subst eH
  simp only [wE] at h
  refine tE_of hK hS hV (Ev.refl m) h fun m1 x S1 v e1 hS1 r1 hV1 h1 => ?_
  obtain ⟨bs, h2, h3⟩ := h1
  refine tVs_run cs σ m1.H _ ⟨by rw [ht.len]; exact hlen, fun p hp => ?_⟩
  have hK1 := e1.k.trans hK
  cases ts with
  | nil => exact absurd rfl h0
  | cons t ts =>
  have hb : ∃ b, isTy v S1 t = some b := by
    rw [List.mapM_cons] at h2
    cases hb : isTy v S1 t with
    | none => rw [hb] at h2; simp at h2
    | some b => exact ⟨b, rfl⟩
  obtain ⟨b, hb⟩ := hb
  obtain ⟨tg, ty, kt⟩ := tag_rd (by rw [hK1]; exact xo.isi) (fun c C hC => by rw [hK1]; exact (xo.ln.clc c C hC).2) hS1 r1 hb
  refine ⟨x, p, cs, tg, us, bs.any id, rfl, upd_same, ht.cls, TyX.up hp (by rw [← hK1]; exact ty), ht.any (by rw [← hK1]; exact kt) h2, fun kf => ?_⟩
  exact h3 { m1 with H := upd m1.H p (.tup cs) } _ (e1.trans (Ev.outside hp)) (hS1.outside hp (by rw [hK1]; exact kf)) (.bl _)
/-! ### dict displays -/
variable {ps : Ps} {pos : Pos}
theorem e_dic0 : PE X (.Dict [] [] pos) (tE P cl k X W (.dic .nil)) :=
  PE.imp (PE.kf pe_dnewK) fun σ H Q ⟨m, env, S, hK, eH, hS, hV, h⟩ => by
    subst eH
    simp only [wE, wPs] at h
    exact fun p hp kf => mk_dic hS .nil hp (by rw [hK]; exact kf) h
/-- the pairs' readings -/
def tPs (P : Pg) (cl : String → Addr → Prop) (k : Nat) (X : Cx) (W : WX) : Ps → List (TE × TE)
  | .nil => []
  | .cons a b ps => (tE P cl k X W a, tE P cl k X W b) :: tPs P cl k X W ps
def Ps.len : Ps → Nat
  | .nil => 0
  | .cons _ _ ps => ps.len + 1
theorem tPs_of : ∀ (ps : Ps) {m m0 : Sm} {env : Env} {S : Hm} {σ : L2.St} {Q1 : List (Key × Val) → Hm → Prop} {R : List (V × V) → Hp → Prop}, m.K = X.K → SH cl m S → SV m env σ → Ev m0 m → wPs P.con (callW P k) (liftX cl X.mg m0 fun c d H => W c d σ H) ps env S Q1 →
    (∀ m1 kvs (ws : List (L2.Key × V)) S1, Ev m m1 → SH cl m1 S1 → RKs m1 kvs ws → kvs.length = ps.len → Q1 kvs S1 → R (ws.map fun kv => (kV kv.1, kv.2)) m1.H) → tPairs (tPs P cl k X W ps) σ m.H R
  | .nil, m, m0, env, S, σ, Q1, R, hK, hS, hV, e0, h, hq => by
    simp only [wPs] at h
    exact hq m [] [] S (Ev.refl m) hS .nil rfl h
  | .cons a b ps, m, m0, env, S, σ, Q1, R, hK, hS, hV, e0, h, hq => by
    simp only [wPs] at h
    refine tE_of hK hS hV e0 h fun m1 x S1 v e1 hS1 r1 hV1 h1 => ?_
    refine tE_of (e1.k.trans hK) hS1 hV1 (e0.trans e1) h1 fun m2 y S2 w e2 hS2 r2 hV2 h2 => ?_
    obtain ⟨q, hk, h2⟩ := h2
    have ex := key_rd r1 hk
    refine tPs_of ps ((e1.trans e2).k.trans hK) hS2 hV2 ((e0.trans e1).trans e2) h2 fun m3 kvs ws S3 e3 hS3 r3 hl h3 => ?_
    have := hq m3 ((q, w) :: kvs) ((kk q, y) :: ws) S3 ((e1.trans e2).trans e3) hS3 (.cons ⟨rfl, r2.up (e3.up hS2)⟩ r3) (by rw [List.length_cons, hl]; rfl) h3
    rw [ex]
    exact this
theorem merge_rd {m : Sm} : ∀ {kvs : List (Key × Val)} {ws : List (L2.Key × V)} {d : List (Key × Val)} {e : List (L2.Key × V)}, RKs m kvs ws → RKs m d e → RKs m (kvs.foldl (fun d p => putK d p.1 p.2) d) (mergeK e ws) := by
  intro kvs ws d e r
  unfold RKs at r
  induction r generalizing d e with
  | nil => intro h; exact h
  | @cons p q ps qs h t ih =>
    intro h0
    have := h0.put p.1 h.2
    rw [← h.1] at this
    exact ih this
/-- .. with the written part in mind -/
theorem pe_dispK {keys : List (Option Expr)} {values : List Expr} {trs : List (TE × TE)} (h : PPs X pos keys values trs) (hall : keys.all (·.isSome) = true) (hl : keys.length = values.length) (h0 : keys ≠ []) (h15 : keys.length ≤ 15) :
    PE X (.Dict keys values pos) (fun σ H Q => ∀ p, H p = none → KF X.K (upd H p (.dK [])) → tPairs trs σ (upd H p (.dK [])) fun ps H2 => H2 p = some (.dK []) ∧ ∃ kvs : List (L2.Key × V), ps = kvs.map (fun kv => (kV kv.1, kv.2)) ∧ kvs.length ≤ 15 ∧ (KF X.K (upd H2 p (.dK (mergeK [] kvs))) → Q (.ref p) (upd H2 p (.dK (mergeK [] kvs))))) := by
  refine ⟨fun pins s σ H Q I q => ?_⟩
  have I1 := I.laid (a := s.heap.objs.size) (o := .dK []) (h' := s.heap.push { cls := .type "dict", data := .dict #[] }) (t' := s.toks) (fun _ _ q => Heap.get?_push_of_some _ q) (Nat.le_refl _) (dk_empty s.heap I.big)
  have q1 := q _ (I.hok.fresh (Nat.le_refl s.heap.objs.size)) (kfree I1)
  refine wpAny_Dict_walk (knd := mixKind X.prog X.w) hall hl h0 h15 (thn (h.run pins _ σ _ _ I1 q1) fun ws s2 ⟨ps, H2, I2, rel, e, kvs, ep, lk, q2⟩ => ?_)
  subst ep
  obtain ⟨rs, c, rk⟩ := carries_of (P := X.prog) (w := X.w) rel
  obtain ⟨z, hd, vs0, r0, dd⟩ := dk_of I2.hok e
  cases r0
  refine ⟨rs, c, dd, fun h' dd' hs => ?_⟩
  have hz : (mergeK [] kvs).length ≤ sizeLine := by
    have h1 := length_mergeK kvs []
    rw [sizeLine_eq]
    simp at h1
    omega
  have I3 := d_write (t' := s2.toks + ws.length) I2 (by rw [e]; exact True.intro) hs (let ⟨q, _, _, hq, _⟩ := dd'; ⟨q, hq⟩) (dk_new hz hd (rk.merge .nil) dd')
  exact ⟨.ref s.heap.objs.size, _, I3, rfl, q2 (kfree I3)⟩
theorem e_dic {keys : List (Option Expr)} {values : List Expr} (h : PPs X pos keys values (tPs P cl k X W ps)) (hall : keys.all (·.isSome) = true) (hl : keys.length = values.length) (h0 : keys ≠ []) (h15 : keys.length ≤ 15) (hlen : ps.len ≤ 15) :
    PE X (.Dict keys values pos) (tE P cl k X W (.dic ps)) :=
  PE.imp (pe_dispK h hall hl h0 h15) fun σ H Q ⟨m, env, S, hK, eH, hS, hV, h⟩ p hp kf => by
    subst eH
    simp only [wE] at h
    rw [← hK] at kf
    have e1 : Ev m { m with H := upd m.H p (.dK []) } := Ev.outside hp
    have hS1 := hS.outside hp kf
    have np1 : p ∉ m.em := hS.free hp (kf_free kf (upd_same (H := m.H) (a := p)))
    refine tPs_of (m := { m with H := upd m.H p (.dK []) }) ps hK hS1 (hV.up (e1.up hS)) e1 h fun m2 kvs ws S2 e2 hS2 r2 hlk h2 => ?_
    have hp2 : m2.H p = some (.dK []) := e2.keep p _ (upd_same (H := m.H) (a := p)) np1
    have np2 : p ∉ m2.em := fun z => by
      have := e2.new p z np1
      rw [show (({ m with H := upd m.H p (.dK []) } : Sm).H p) = some (.dK []) from upd_same (H := m.H) (a := p)] at this
      cases this
    refine ⟨hp2, ws, rfl, by rw [← r2.length, hlk]; exact hlen, fun kf2 => ?_⟩
    have e12 := e1.trans e2
    have e3 : Ev m { m2 with H := upd m2.H p (.dK (mergeK [] ws)), em := m2.em ++ [p] } := by
      obtain ⟨l, hl⟩ := e12.em
      refine ⟨e12.k, e12.z, ⟨l ++ [p], ?_⟩, fun b o hb nb => ?_, fun b hb nb => ?_, fun b q u hb => ?_⟩
      rotate_right
      · show upd m2.H p _ b = some _
        rw [upd_ne (ne_of_none hb hp)]
        exact e12.frz b q u hb
      · show m2.em ++ [p] = m.em ++ (l ++ [p])
        rw [hl, List.append_assoc]
      · show upd m2.H p _ b = some o
        rw [upd_ne (ne_of_none hb hp)]
        exact e12.keep b o hb nb
      · rcases List.mem_append.mp hb with z | z
        · exact e12.new b z nb
        · have : b = p := by simpa using z
          rw [this]; exact hp
    have up3 : Up m2 { m2 with H := upd m2.H p (.dK (mergeK [] ws)), em := m2.em ++ [p] } := by
      refine ⟨fun a xs h => ?_, ⟨[p], rfl⟩, fun _ h => h⟩
      rcases h with (h | ⟨o, h⟩) | h
      · have : a ≠ p := fun z => by rw [z, hp2] at h; cases h
        exact .inl (.inl (by show upd m2.H p _ a = _; rw [upd_ne this]; exact h))
      · have : a ≠ p := fun z => by rw [z, hp2] at h; cases h
        exact .inl (.inr ⟨o, by show upd m2.H p _ a = _; rw [upd_ne this]; exact h⟩)
      · exact .inr h
    have hS3 : SH cl { m2 with H := upd m2.H p (.dK (mergeK [] ws)), em := m2.em ++ [p] } (S2 ++ [.dic (kvs.foldl (fun d p => putK d p.1 p.2) [])]) := by
      refine ⟨by simp [hS2.len], ?_, by rw [e12.k, hK]; exact kf2, fun n u a e1 e2 => ?_⟩
      · show (m2.em ++ [p]).Nodup
        rw [List.nodup_append]
        refine ⟨hS2.nd, by simp, fun x hx y hy => ?_⟩
        have : y = p := by simpa using hy
        rw [this]
        exact fun z => np2 (z ▸ hx)
      · have e2 : (m2.em ++ [p])[n]? = some a := e2
        by_cases hn : n < S2.length
        · rw [List.getElem?_append_left hn] at e1
          rw [List.getElem?_append_left (by rw [hS2.len]; exact hn)] at e2
          exact (hS2.ob n u a e1 e2).up (m' := { m2 with H := upd m2.H p (.dK (mergeK [] ws)), em := m2.em ++ [p] }) up3 rfl (upd_ne fun z => np2 (z ▸ List.mem_of_getElem? e2))
        · have hn2 : n = S2.length := by
            have := (List.getElem?_eq_some_iff.mp e1).1
            simp at this
            omega
          subst hn2
          rw [List.getElem?_append_right (Nat.le_refl _)] at e1
          rw [← hS2.len, List.getElem?_append_right (Nat.le_refl _)] at e2
          simp at e1 e2
          subst e1 e2
          exact ⟨_, upd_same, merge_rd (r2.up up3) .nil⟩
    refine h2 { m2 with H := upd m2.H p (.dK (mergeK [] ws)), em := m2.em ++ [p] } (.ref p) e3 hS3 (.ref ?_)
    show (m2.em ++ [p])[S2.length]? = some p
    rw [← hS2.len]
    simp
end
end Mi

set_option maxHeartbeats 4000000
namespace Mi
open PySem PySem.Spec L2 PyProof.Rows
/-! ### what an iterator over items is -/
structure ItOk (cl : String → Addr → Prop) (m0 : Sm) (J : It) (items : List Val) (g : Hm → Prop) : Prop where
  go : ∀ i m S v, Ev m0 m → SH cl m S → g S → items[i]? = some v → J.go i m.H
  stop : ∀ i m S, Ev m0 m → SH cl m S → g S → items.length ≤ i → J.stop i m.H
  yld : ∀ i m S v x H', Ev m0 m → SH cl m S → g S → items[i]? = some v → J.yld i m.H x H' → KF m.K H' → ∃ m', m'.H = H' ∧ Ev m m' ∧ SH cl m' S ∧ RD m' v x
  go0 : ∀ D o v, m0.H D = none → items[0]? = some v → J.go 0 (upd m0.H D o)
  stop0 : ∀ D o, m0.H D = none → items.length = 0 → J.stop 0 (upd m0.H D o)
  kfb : ∀ i H x H', J.yld i H x H' → KF m0.K H' → KF m0.K H
theorem getElem?_getD {α : Type} {xs : List α} {i : Nat} {x : α} (h : xs[i]? = some x) : i < xs.length := (List.getElem?_eq_some_iff.mp h).1
section
variable {cl : String → Addr → Prop} {m0 : Sm} {S0 : Hm}
theorem sqlUp {K : PySem.W.Frag} {H : Hp} {a D : Addr} {o : HO} {xs : List V} (h : SqL K H a xs) (hD : H D = none) : SqL K (upd H D o) a xs := by
  rcases h with (h | ⟨u, h⟩) | h
  · exact .inl (.inl (by rw [upd_ne (ne_of_none h hD)]; exact h))
  · exact .inl (.inr ⟨u, by rw [upd_ne (ne_of_none h hD)]; exact h⟩)
  · exact .inr h
theorem sqtUp {K : PySem.W.Frag} {H : Hp} {a D : Addr} {o : HO} {xs : List V} (h : SqT K H a xs) (hD : H D = none) : SqT K (upd H D o) a xs := by
  rcases h with (h | ⟨u, h⟩) | h
  · exact .inl (.inl (by rw [upd_ne (ne_of_none h hD)]; exact h))
  · exact .inl (.inr ⟨u, by rw [upd_ne (ne_of_none h hD)]; exact h⟩)
  · exact .inr h
theorem kf_outside {K : PySem.W.Frag} {H : Hp} {T : Addr} {o : HO} (hT : H T = none) (h : KF K (upd H T o)) : KF K H := fun b u e => by
  have := h b u e
  by_cases z : b = T
  · rw [z]; exact hT
  · rwa [upd_ne z] at this
theorem it_lst {n : Nat} {a : Addr} {items : List Val} {vs : List V} (ha : m0.em[n]? = some a) (h0 : SqL m0.K m0.H a vs) (hl : items.length = vs.length) : ItOk cl m0 (Itl m0.K a) items (fun S => Hm.lst S n = some items) where
  go := fun i m S v e hS g hv => by
    obtain ⟨vs, hq, rs⟩ := hS.lst g (em_get e.em ha)
    obtain ⟨x, hx, _⟩ := rs.get hv
    rw [e.k] at hq
    exact ⟨vs, x, hq, hx⟩
  stop := fun i m S e hS g hi => by
    obtain ⟨vs, hq, rs⟩ := hS.lst g (em_get e.em ha)
    rw [e.k] at hq
    exact ⟨vs, hq, by rw [← rs.length]; exact hi⟩
  yld := fun i m S v x H' e hS g hv y kf => by
    obtain ⟨rfl, y⟩ := y
    obtain ⟨vs, hq, rs⟩ := hS.lst g (em_get e.em ha)
    rw [e.k] at hq
    obtain ⟨x', hx, r⟩ := rs.get hv
    rw [y vs hq] at hx
    cases hx
    exact ⟨m, rfl, Ev.refl m, hS, r⟩
  go0 := fun D o v hD hv => by
    have hlt : 0 < vs.length := by rw [← hl]; exact getElem?_getD hv
    exact ⟨vs, vs[0], (sqlUp h0 hD), List.getElem?_eq_getElem hlt⟩
  stop0 := fun D o hD hi => ⟨vs, (sqlUp h0 hD), by omega⟩
  kfb := fun i H x H' y kf => by obtain ⟨rfl, _⟩ := y; exact kf
theorem it_tup {a : Addr} {items : List Val} {vs : List V} (hS0 : SH cl m0 S0) (h0 : SqT m0.K m0.H a vs) (r0 : RDs m0 items vs) : ItOk cl m0 (Itt m0.K a) items (fun _ => True) where
  go := fun i m S v e hS g hv => by
    have u := e.up hS0
    obtain ⟨x, hx, _⟩ := r0.get hv
    have := u.tup a vs h0
    rw [e.k] at this
    exact ⟨vs, x, this, hx⟩
  stop := fun i m S e hS g hi => by
    have u := e.up hS0
    have := u.tup a vs h0
    rw [e.k] at this
    exact ⟨vs, this, by rw [← r0.length]; exact hi⟩
  yld := fun i m S v x H' e hS g hv y kf => by
    obtain ⟨rfl, y⟩ := y
    have u := e.up hS0
    have hq := u.tup a vs h0
    rw [e.k] at hq
    obtain ⟨x', hx, r⟩ := r0.get hv
    rw [y vs hq] at hx
    cases hx
    exact ⟨m, rfl, Ev.refl m, hS, r.up u⟩
  go0 := fun D o v hD hv => by
    have hlt : 0 < vs.length := by rw [← r0.length]; exact getElem?_getD hv
    exact ⟨vs, vs[0], (sqtUp h0 hD), List.getElem?_eq_getElem hlt⟩
  stop0 := fun D o hD hi => ⟨vs, (sqtUp h0 hD), by rw [← r0.length]; omega⟩
  kfb := fun i H x H' y kf => by obtain ⟨rfl, _⟩ := y; exact kf
theorem it_str (z : String) : ItOk cl m0 (Its (Str.ofString z)) (z.toList.map fun c => .str (String.singleton c)) (fun _ => True) := by
  have hsz : (Str.ofString z).cps.size = z.toList.length := by
    have := congrArg List.length (cps_ofString z)
    simpa using this
  refine ⟨fun i m S v e hS g hv => ?_, fun i m S e hS g hi => ?_, fun i m S v x H' e hS g hv y kf => ?_, fun D o v hD hv => ?_, fun D o hD hi => ?_, fun i H x H' y kf => by obtain ⟨rfl, _⟩ := y; exact kf⟩
  · have := getElem?_getD hv
    rw [List.length_map] at this
    exact show i < (Str.ofString z).cps.size by rw [hsz]; exact this
  · rw [List.length_map] at hi
    exact show (Str.ofString z).cps.size ≤ i by rw [hsz]; exact hi
  · obtain ⟨rfl, c, hc, rfl⟩ := y
    refine ⟨m, rfl, Ev.refl m, hS, ?_⟩
    rw [List.getElem?_map] at hv
    cases hz : z.toList[i]? with
    | none => rw [hz] at hv; cases hv
    | some d =>
      rw [hz] at hv
      cases hv
      have : (Str.ofString z).cps.toList[i]? = some d.toNat := by rw [cps_ofString, List.getElem?_map, hz]; rfl
      rw [Array.getElem?_toList, hc] at this
      cases this
      rw [← singleton_ofString]
      exact .str _
  · have := getElem?_getD hv
    rw [List.length_map] at this
    exact show 0 < (Str.ofString z).cps.size by rw [hsz]; exact this
  · rw [List.length_map] at hi
    exact show (Str.ofString z).cps.size ≤ 0 by rw [hsz]; omega
theorem rangeL_get : ∀ (lo : Int) (n i : Nat), (rangeL lo 1 n)[i]? = if i < n then some (.int (lo + i)) else none
  | lo, 0, i => by simp [rangeL]
  | lo, n + 1, 0 => by simp [rangeL]
  | lo, n + 1, i + 1 => by
    rw [rangeL, List.getElem?_cons_succ, rangeL_get]
    by_cases h : i < n
    · rw [if_pos h, if_pos (by omega)]
      congr 2
      push_cast
      omega
    · rw [if_neg h, if_neg (by omega)]
theorem rangeL_len : ∀ (lo st : Int) (n : Nat), (rangeL lo st n).length = n
  | lo, st, 0 => rfl
  | lo, st, n + 1 => by rw [rangeL, List.length_cons, rangeL_len]
theorem it_rng (lo : Int) (n : Nat) : ItOk cl m0 (Itr lo n) (rangeL lo 1 n) (fun _ => True) := by
  refine ⟨fun i m S v e hS g hv => ?_, fun i m S e hS g hi => ?_, fun i m S v x H' e hS g hv y kf => ?_, fun D o v hD hv => ?_, fun D o hD hi => ?_, fun i H x H' y kf => by obtain ⟨rfl, _⟩ := y; exact kf⟩
  · have := getElem?_getD hv
    rw [rangeL_len] at this
    exact this
  · rw [rangeL_len] at hi
    exact hi
  · obtain ⟨rfl, rfl⟩ := y
    refine ⟨m, rfl, Ev.refl m, hS, ?_⟩
    rw [rangeL_get] at hv
    split at hv
    · cases hv
      exact .int _
    · cases hv
  · have := getElem?_getD hv
    rw [rangeL_len] at this
    exact this
  · rw [rangeL_len] at hi
    exact show n ≤ 0 by omega
theorem it_rev {n : Nat} {a : Addr} {items : List Val} {vs : List V} (ha : m0.em[n]? = some a) (h0 : SqL m0.K m0.H a vs) (hl : items.length = vs.length) : ItOk cl m0 (Itv m0.K a vs.length) items.reverse (fun S => Hm.lst S n = some items) where
  go := fun i m S v e hS g hv => by
    obtain ⟨ws, hq, rs⟩ := hS.lst g (em_get e.em ha)
    rw [e.k] at hq
    have hi := getElem?_getD hv
    rw [List.length_reverse] at hi
    rw [List.getElem?_reverse hi] at hv
    obtain ⟨x, hx, _⟩ := rs.get hv
    rw [hl] at hx
    exact ⟨by omega, ws, x, hq, hx⟩
  stop := fun i m S e hS g hi => by
    rw [List.length_reverse] at hi
    exact show vs.length ≤ i by omega
  yld := fun i m S v x H' e hS g hv y kf => by
    obtain ⟨rfl, y⟩ := y
    obtain ⟨ws, hq, rs⟩ := hS.lst g (em_get e.em ha)
    rw [e.k] at hq
    have hi := getElem?_getD hv
    rw [List.length_reverse] at hi
    rw [List.getElem?_reverse hi] at hv
    obtain ⟨x', hx, r⟩ := rs.get hv
    rw [hl, y ws hq] at hx
    cases hx
    exact ⟨m, rfl, Ev.refl m, hS, r⟩
  go0 := fun D o v hD hv => by
    have hi := getElem?_getD hv
    rw [List.length_reverse] at hi
    have hlt : vs.length - 1 - 0 < vs.length := by omega
    exact ⟨by omega, vs, vs[vs.length - 1 - 0], (sqlUp h0 hD), List.getElem?_eq_getElem hlt⟩
  stop0 := fun D o hD hi => by
    rw [List.length_reverse] at hi
    exact show vs.length ≤ 0 by omega
  kfb := fun i H x H' y kf => by obtain ⟨rfl, _⟩ := y; exact kf
theorem it_revT {a : Addr} {items : List Val} {vs : List V} (hS0 : SH cl m0 S0) (h0 : SqT m0.K m0.H a vs) (r0 : RDs m0 items vs) : ItOk cl m0 (RT.ItvT m0.K a vs.length) items.reverse (fun _ => True) where
  go := fun i m S v e hS g hv => by
    have hq := (e.up hS0).tup a vs h0
    rw [e.k] at hq
    have hi := getElem?_getD hv
    rw [List.length_reverse] at hi
    rw [List.getElem?_reverse hi] at hv
    obtain ⟨x, hx, _⟩ := r0.get hv
    have hl := r0.length
    rw [hl] at hx
    exact ⟨by omega, vs, x, hq, hx⟩
  stop := fun i m S e hS g hi => by
    have hl := r0.length
    rw [List.length_reverse] at hi
    exact show vs.length ≤ i by omega
  yld := fun i m S v x H' e hS g hv y kf => by
    obtain ⟨rfl, y⟩ := y
    have hq := (e.up hS0).tup a vs h0
    rw [e.k] at hq
    have hi := getElem?_getD hv
    rw [List.length_reverse] at hi
    rw [List.getElem?_reverse hi] at hv
    obtain ⟨x', hx, r⟩ := r0.get hv
    have hl := r0.length
    rw [hl, y vs hq] at hx
    cases hx
    exact ⟨m, rfl, Ev.refl m, hS, r.up (e.up hS0)⟩
  go0 := fun D o v hD hv => by
    have hl := r0.length
    have hi := getElem?_getD hv
    rw [List.length_reverse] at hi
    have hlt : vs.length - 1 - 0 < vs.length := by omega
    exact ⟨by omega, vs, vs[vs.length - 1 - 0], (sqtUp h0 hD), List.getElem?_eq_getElem hlt⟩
  stop0 := fun D o hD hi => by
    have hl := r0.length
    rw [List.length_reverse] at hi
    exact show vs.length ≤ 0 by omega
  kfb := fun i H x H' y kf => by obtain ⟨rfl, _⟩ := y; exact kf
theorem enumL_len : ∀ (n : Nat) (xs : List Val), (enumL n xs).length = xs.length
  | n, [] => rfl
  | n, x :: xs => by rw [enumL, List.length_cons, List.length_cons, enumL_len]
theorem enumL_get : ∀ (n : Nat) (xs : List Val) (i : Nat), (enumL n xs)[i]? = (xs[i]?).map fun x => .tup [.int ((n + i : Nat) : Int), x]
  | n, [], i => by simp [enumL]
  | n, x :: xs, 0 => by simp [enumL]
  | n, x :: xs, i + 1 => by
    rw [enumL, List.getElem?_cons_succ, List.getElem?_cons_succ, enumL_get]
    have : n + 1 + i = n + (i + 1) := by omega
    rw [this]
theorem pairL_len : ∀ (xs ys : List Val), (pairL xs ys).length = min xs.length ys.length
  | [], ys => by simp [pairL]
  | x :: xs, [] => by simp [pairL]
  | x :: xs, y :: ys => by simp only [pairL, List.length_cons, pairL_len]; omega
theorem pairL_get : ∀ (xs ys : List Val) (i : Nat) {v : Val}, (pairL xs ys)[i]? = some v → ∃ x y, xs[i]? = some x ∧ ys[i]? = some y ∧ v = .tup [x, y]
  | [], ys, i, v, h => by simp [pairL] at h
  | x :: xs, [], i, v, h => by simp [pairL] at h
  | x :: xs, y :: ys, 0, v, h => by simp [pairL] at h; exact ⟨x, y, rfl, rfl, h.symm⟩
  | x :: xs, y :: ys, i + 1, v, h => by
    rw [pairL, List.getElem?_cons_succ] at h
    rw [List.getElem?_cons_succ, List.getElem?_cons_succ]
    exact pairL_get xs ys i h
theorem RKs.get {m : Sm} {kvs : List (Key × Val)} {ws : List (L2.Key × V)} (h : RKs m kvs ws) {i : Nat} : ∀ {p : Key × Val}, kvs[i]? = some p → ∃ q, ws[i]? = some q ∧ q.1 = kk p.1 ∧ RD m p.2 q.2 := by
  unfold RKs at h
  induction h generalizing i with
  | nil => intro p e; simp at e
  | @cons p r ps rs h t ih =>
    intro q e
    cases i with
    | zero => simp at e; subst e; exact ⟨r, rfl, h⟩
    | succ i => simpa using ih (i := i) (by simpa using e)
section
variable {n : Nat} {a : Addr} {o : Obj} {ws : List (L2.Key × V)} {kvs : List (Key × Val)}
theorem frz_at {m : Sm} {S : Hm} (ha : m0.em[n]? = some a) (h0 : m0.H a = some (.frz o (.dK ws))) (e : Ev m0 m) (hS : SH cl m S) (g : S[n]? = some (.lck (.dic kvs))) : m.H a = some (.frz o (.dK ws)) ∧ RKs m kvs ws := by
  have h1 := e.frz a o _ h0
  obtain ⟨o', ws', h2, h3⟩ := hS.ob n _ a g (em_get e.em ha)
  rw [h1] at h2
  cases h2
  exact ⟨h1, h3⟩
theorem it_keys (ha : m0.em[n]? = some a) (h0 : m0.H a = some (.frz o (.dK ws))) (hl : kvs.length = ws.length) : ItOk cl m0 (Itk a o ws) (kvs.map (·.1.val)) (fun S => S[n]? = some (.lck (.dic kvs))) where
  go := fun i m S v e hS g hv => by
    have := getElem?_getD hv
    rw [List.length_map] at this
    exact ⟨(frz_at ha h0 e hS g).1, by omega⟩
  stop := fun i m S e hS g hi => by
    rw [List.length_map] at hi
    exact ⟨(frz_at ha h0 e hS g).1, by omega⟩
  yld := fun i m S v x H' e hS g hv y kf => by
    obtain ⟨rfl, k, u, hw, rfl⟩ := y
    rw [List.getElem?_map] at hv
    obtain ⟨p, hp, rfl⟩ := Option.map_eq_some_iff.mp hv
    obtain ⟨q, hq, e1, _⟩ := (frz_at ha h0 e hS g).2.get hp
    rw [hw] at hq
    cases hq
    refine ⟨m, rfl, Ev.refl m, hS, ?_⟩
    show RD m _ (kV k)
    rw [show k = kk p.1 from e1]
    exact rd_key p.1
  go0 := fun D u v hD hv => by
    have := getElem?_getD hv
    rw [List.length_map] at this
    exact ⟨by rw [upd_ne (ne_of_none h0 hD)]; exact h0, by omega⟩
  stop0 := fun D u hD hi => by
    rw [List.length_map] at hi
    exact ⟨by rw [upd_ne (ne_of_none h0 hD)]; exact h0, by omega⟩
  kfb := fun i H x H' y kf => by obtain ⟨rfl, _⟩ := y; exact kf
theorem it_vals (ha : m0.em[n]? = some a) (h0 : m0.H a = some (.frz o (.dK ws))) (hl : kvs.length = ws.length) : ItOk cl m0 (Itd a o ws) (kvs.map (·.2)) (fun S => S[n]? = some (.lck (.dic kvs))) where
  go := fun i m S v e hS g hv => by
    have := getElem?_getD hv
    rw [List.length_map] at this
    exact ⟨(frz_at ha h0 e hS g).1, by omega⟩
  stop := fun i m S e hS g hi => by
    rw [List.length_map] at hi
    exact ⟨(frz_at ha h0 e hS g).1, by omega⟩
  yld := fun i m S v x H' e hS g hv y kf => by
    obtain ⟨rfl, k, hw⟩ := y
    rw [List.getElem?_map] at hv
    obtain ⟨p, hp, rfl⟩ := Option.map_eq_some_iff.mp hv
    obtain ⟨q, hq, _, r⟩ := (frz_at ha h0 e hS g).2.get hp
    rw [hw] at hq
    cases hq
    exact ⟨m, rfl, Ev.refl m, hS, r⟩
  go0 := fun D u v hD hv => by
    have := getElem?_getD hv
    rw [List.length_map] at this
    exact ⟨by rw [upd_ne (ne_of_none h0 hD)]; exact h0, by omega⟩
  stop0 := fun D u hD hi => by
    rw [List.length_map] at hi
    exact ⟨by rw [upd_ne (ne_of_none h0 hD)]; exact h0, by omega⟩
  kfb := fun i H x H' y kf => by obtain ⟨rfl, _⟩ := y; exact kf
theorem it_items (ha : m0.em[n]? = some a) (h0 : m0.H a = some (.frz o (.dK ws))) (hl : kvs.length = ws.length) : ItOk cl m0 (Iti a o ws) (kvs.map fun p => .tup [p.1.val, p.2]) (fun S => S[n]? = some (.lck (.dic kvs))) where
  go := fun i m S v e hS g hv => by
    have := getElem?_getD hv
    rw [List.length_map] at this
    exact ⟨(frz_at ha h0 e hS g).1, by omega⟩
  stop := fun i m S e hS g hi => by
    rw [List.length_map] at hi
    exact ⟨(frz_at ha h0 e hS g).1, by omega⟩
  yld := fun i m S v x H' e hS g hv y kf => by
    obtain ⟨T, k, z, hw, rfl, hT, rfl⟩ := y
    rw [List.getElem?_map] at hv
    obtain ⟨p, hp, rfl⟩ := Option.map_eq_some_iff.mp hv
    obtain ⟨q, hq, e1, r⟩ := (frz_at ha h0 e hS g).2.get hp
    rw [hw] at hq
    cases hq
    have e2 : Ev m { m with H := upd m.H T (.tup [kV k, z]) } := Ev.outside hT
    refine ⟨{ m with H := upd m.H T (.tup [kV k, z]) }, rfl, e2, hS.outside hT kf, .tup (.inl (.inl upd_same)) (.cons ?_ (.cons (r.up (e2.up hS)) .nil))⟩
    rw [show k = kk p.1 from e1]
    exact rd_key p.1
  go0 := fun D u v hD hv => by
    have := getElem?_getD hv
    rw [List.length_map] at this
    exact ⟨by rw [upd_ne (ne_of_none h0 hD)]; exact h0, by omega⟩
  stop0 := fun D u hD hi => by
    rw [List.length_map] at hi
    exact ⟨by rw [upd_ne (ne_of_none h0 hD)]; exact h0, by omega⟩
  kfb := fun i H x H' y kf => by obtain ⟨T, k, z, _, rfl, hT, rfl⟩ := y; exact kf_outside hT kf
end
theorem it_enum {n : Nat} {a : Addr} {items : List Val} {vs : List V} (ha : m0.em[n]? = some a) (h0 : SqL m0.K m0.H a vs) (hl : items.length = vs.length) : ItOk cl m0 (Ite m0.K a) (enumL 0 items) (fun S => Hm.lst S n = some items) where
  go := fun i m S v e hS g hv => by
    obtain ⟨ws, hq, rs⟩ := hS.lst g (em_get e.em ha)
    rw [e.k] at hq
    rw [enumL_get] at hv
    cases hi : items[i]? with
    | none => rw [hi] at hv; cases hv
    | some d =>
      obtain ⟨x, hx, _⟩ := rs.get hi
      exact ⟨ws, x, hq, hx⟩
  stop := fun i m S e hS g hi => by
    obtain ⟨ws, hq, rs⟩ := hS.lst g (em_get e.em ha)
    rw [e.k] at hq
    rw [enumL_len] at hi
    exact ⟨ws, hq, by rw [← rs.length]; exact hi⟩
  yld := fun i m S v x H' e hS g hv y kf => by
    obtain ⟨T, z, rfl, hT, rfl, y⟩ := y
    obtain ⟨ws, hq, rs⟩ := hS.lst g (em_get e.em ha)
    rw [e.k] at hq
    rw [enumL_get] at hv
    cases hi : items[i]? with
    | none => rw [hi] at hv; cases hv
    | some d =>
      rw [hi] at hv
      cases hv
      obtain ⟨x', hx, r⟩ := rs.get hi
      rw [y ws hq] at hx
      cases hx
      have e1 : Ev m { m with H := upd m.H T (.tup [.int (i : Nat), z]) } := Ev.outside hT
      refine ⟨{ m with H := upd m.H T (.tup [.int (i : Nat), z]) }, rfl, e1, hS.outside hT kf, .tup (.inl (.inl upd_same)) ?_⟩
      rw [Nat.zero_add]
      exact .cons (.int _) (.cons (r.up (e1.up hS)) .nil)
  go0 := fun D o v hD hv => by
    have hi := getElem?_getD hv
    rw [enumL_len, hl] at hi
    exact ⟨vs, vs[0], (sqlUp h0 hD), List.getElem?_eq_getElem hi⟩
  stop0 := fun D o hD hi => by
    rw [enumL_len] at hi
    exact ⟨vs, (sqlUp h0 hD), by omega⟩
  kfb := fun i H x H' y kf => by obtain ⟨T, z, rfl, hT, rfl, y⟩ := y; exact kf_outside hT kf
theorem it_zip {n n' : Nat} {a b : Addr} {xs ys : List Val} {vs ws : List V} (ha : m0.em[n]? = some a) (hb : m0.em[n']? = some b) (h0 : SqL m0.K m0.H a vs) (h1 : SqL m0.K m0.H b ws) (hl : xs.length = vs.length) (hl' : ys.length = ws.length) :
    ItOk cl m0 (Itz m0.K a b) (pairL xs ys) (fun S => Hm.lst S n = some xs ∧ Hm.lst S n' = some ys) where
  go := fun i m S v e hS g hv => by
    obtain ⟨ps, hq, rs⟩ := hS.lst g.1 (em_get e.em ha)
    obtain ⟨qs, hq', rs'⟩ := hS.lst g.2 (em_get e.em hb)
    rw [e.k] at hq hq'
    obtain ⟨d, d', h2, h3, rfl⟩ := pairL_get xs ys i hv
    obtain ⟨x, hx, _⟩ := rs.get h2
    obtain ⟨x', hx', _⟩ := rs'.get h3
    exact ⟨ps, qs, x, x', hq, hq', hx, hx'⟩
  stop := fun i m S e hS g hi => by
    obtain ⟨ps, hq, rs⟩ := hS.lst g.1 (em_get e.em ha)
    obtain ⟨qs, hq', rs'⟩ := hS.lst g.2 (em_get e.em hb)
    rw [e.k] at hq hq'
    rw [pairL_len] at hi
    have l1 := rs.length
    have l2 := rs'.length
    exact ⟨ps, qs, hq, hq', by omega⟩
  yld := fun i m S v x H' e hS g hv y kf => by
    obtain ⟨T, z, z', rfl, hT, rfl, y, y'⟩ := y
    obtain ⟨ps, hq, rs⟩ := hS.lst g.1 (em_get e.em ha)
    obtain ⟨qs, hq', rs'⟩ := hS.lst g.2 (em_get e.em hb)
    rw [e.k] at hq hq'
    obtain ⟨d, d', h2, h3, rfl⟩ := pairL_get xs ys i hv
    obtain ⟨x, hx, r⟩ := rs.get h2
    obtain ⟨x', hx', r'⟩ := rs'.get h3
    rw [y ps hq] at hx
    rw [y' qs hq'] at hx'
    cases hx
    cases hx'
    have e1 : Ev m { m with H := upd m.H T (.tup [z, z']) } := Ev.outside hT
    exact ⟨{ m with H := upd m.H T (.tup [z, z']) }, rfl, e1, hS.outside hT kf, .tup (.inl (.inl upd_same)) (.cons (r.up (e1.up hS)) (.cons (r'.up (e1.up hS)) .nil))⟩
  go0 := fun D o v hD hv => by
    have hi := getElem?_getD hv
    rw [pairL_len] at hi
    have h2 : 0 < vs.length := by omega
    have h3 : 0 < ws.length := by omega
    exact ⟨vs, ws, vs[0], ws[0], (sqlUp h0 hD), (sqlUp h1 hD), List.getElem?_eq_getElem h2, List.getElem?_eq_getElem h3⟩
  stop0 := fun D o hD hi => by
    rw [pairL_len] at hi
    exact ⟨vs, ws, (sqlUp h0 hD), (sqlUp h1 hD), by omega⟩
  kfb := fun i H x H' y kf => by obtain ⟨T, z, z', rfl, hT, rfl, y⟩ := y; exact kf_outside hT kf
theorem it_zipT {a b : Addr} {xs ys : List Val} {vs ws : List V} (hS0 : SH cl m0 S0) (h0 : SqT m0.K m0.H a vs) (h1 : SqT m0.K m0.H b ws) (r0 : RDs m0 xs vs) (r1 : RDs m0 ys ws) : ItOk cl m0 (RZ.ItzT m0.K a b) (pairL xs ys) (fun _ => True) where
  go := fun i m S v e hS g hv => by
    have hq := (e.up hS0).tup a vs h0
    have hq' := (e.up hS0).tup b ws h1
    rw [e.k] at hq hq'
    obtain ⟨d, d', h2, h3, rfl⟩ := pairL_get xs ys i hv
    obtain ⟨x, hx, _⟩ := r0.get h2
    obtain ⟨x', hx', _⟩ := r1.get h3
    exact ⟨vs, ws, x, x', hq, hq', hx, hx'⟩
  stop := fun i m S e hS g hi => by
    have hq := (e.up hS0).tup a vs h0
    have hq' := (e.up hS0).tup b ws h1
    rw [e.k] at hq hq'
    rw [pairL_len] at hi
    have l1 := r0.length
    have l2 := r1.length
    exact ⟨vs, ws, hq, hq', by omega⟩
  yld := fun i m S v x H' e hS g hv y kf => by
    obtain ⟨T, z, z', rfl, hT, rfl, y, y'⟩ := y
    have hq := (e.up hS0).tup a vs h0
    have hq' := (e.up hS0).tup b ws h1
    rw [e.k] at hq hq'
    obtain ⟨d, d', h2, h3, rfl⟩ := pairL_get xs ys i hv
    obtain ⟨x, hx, r⟩ := r0.get h2
    obtain ⟨x', hx', r'⟩ := r1.get h3
    rw [y vs hq] at hx
    rw [y' ws hq'] at hx'
    cases hx
    cases hx'
    have e1 : Ev m { m with H := upd m.H T (.tup [z, z']) } := Ev.outside hT
    exact ⟨{ m with H := upd m.H T (.tup [z, z']) }, rfl, e1, hS.outside hT kf, .tup (.inl (.inl upd_same)) (.cons (r.up ((e.trans e1).up hS0)) (.cons (r'.up ((e.trans e1).up hS0)) .nil))⟩
  go0 := fun D o v hD hv => by
    have hi := getElem?_getD hv
    rw [pairL_len] at hi
    have l1 := r0.length
    have l2 := r1.length
    have h2 : 0 < vs.length := by omega
    have h3 : 0 < ws.length := by omega
    exact ⟨vs, ws, vs[0], ws[0], (sqtUp h0 hD), (sqtUp h1 hD), List.getElem?_eq_getElem h2, List.getElem?_eq_getElem h3⟩
  stop0 := fun D o hD hi => by
    rw [pairL_len] at hi
    have l1 := r0.length
    have l2 := r1.length
    exact ⟨vs, ws, (sqtUp h0 hD), (sqtUp h1 hD), by omega⟩
  kfb := fun i H x H' y kf => by obtain ⟨T, z, z', rfl, hT, rfl, y⟩ := y; exact kf_outside hT kf
end
end Mi

set_option maxHeartbeats 4000000
namespace Mi
open PySem PySem.Spec L2 PyProof.Rows
section
variable (P : Pg) (cl : String → Addr → Prop) (k : Nat) (X : Cx) (W : WX)
def tSrc (src : Src) : TI := fun σ H R => ∃ m env S, m.K = X.K ∧ m.H = H ∧ SH cl m S ∧ SV m env σ ∧ wSrc P.con (callW P k) (liftX cl X.mg m fun c d H => W c d σ H) src env S fun items g S' => ∀ m' J, Ev m m' → SH cl m' S' → ItOk cl m' J items g → R J m'.H
end
section
variable {P : Pg} {cl : String → Addr → Prop} {k : Nat} {X : Cx} {W : WX} {sc : Ko} {m m0 : Sm} {env : Env} {S : Hm} {σ : L2.St}
theorem tSrc_of {src : Src} {Q1 : List Val → (Hm → Prop) → Hm → Prop} {R : It → Hp → Prop} (hK : m.K = X.K) (hS : SH cl m S) (hV : SV m env σ) (e0 : Ev m0 m) (h : wSrc P.con (callW P k) (liftX cl X.mg m0 fun c d H => W c d σ H) src env S Q1)
    (hq : ∀ m1 J S1 items g, Ev m m1 → SH cl m1 S1 → ItOk cl m1 J items g → SV m1 env σ → Q1 items g S1 → R J m1.H) : tSrc P cl k X W src σ m.H R :=
  ⟨m, env, S, hK, rfl, hS, hV, wSrc_mono (callW_mono P k) (fun _ _ h1 => liftX.ev e0 h1) src (fun items g S1 h1 m1 J e1 hS1 ok => hq m1 J S1 items g e1 hS1 ok (hV.up (e1.up hS)) h1) h⟩
theorem PI.imp {tg e : Expr} {t t' : TI} (h : PI X tg e t) (f : ∀ σ H Q, t' σ H Q → t σ H Q) : PI X tg e t' := ⟨fun pins s σ H R I hw => h.run pins s σ H R I (f _ _ _ hw)⟩
variable {a b : E} {ea eb tg : Expr} {pos p : Pos}
/-- a list, a tuple or a text, walked -/
theorem pi_seq {e : Expr} {te : TE} (he : PE X e te) : PI X tg e (fun σ H R => te σ H fun x H1 => (∃ a xs, x = .ref a ∧ SqL X.K H1 a xs ∧ R (Itl X.K a) H1) ∨ (∃ a xs, x = .ref a ∧ SqT X.K H1 a xs ∧ R (Itt X.K a) H1) ∨ ∃ z, x = .str z ∧ R (Its z) H1) := by
  refine ⟨fun pins s σ H R I h => thn (he.run pins s σ H _ I h) fun v s1 ⟨x, H1, I1, r1, q1⟩ => ?_⟩
  rcases q1 with ⟨a, xs, rfl, hq, q⟩ | ⟨a, xs, rfl, hq, q⟩ | ⟨z, rfl, q⟩
  · cases r1
    obtain ⟨its, rv, p, _⟩ := I1.list hq
    exact wpAny_pyIter_list p.isList (pi_one (tk := s1.toks) I1 _ (turn_list a _) ⟨_, Heap.get?_push_size _ rfl, rfl, rfl⟩ q)
  · cases r1
    obtain ⟨its, rv, p, _⟩ := I1.tuple hq
    exact wpAny_pyIter_tuple (show s1.heap.IsTuple a its.toArray from p) (pi_one (tk := s1.toks) I1 _ (turn_tuple a _) ⟨_, Heap.get?_push_size _ rfl, rfl, rfl⟩ q)
  · obtain ⟨t, rfl⟩ := r1
    cases hz : z.cps.all (· < 128)
    · exact wpAny_pyIter_wide hz (pi_one (tk := s1.toks) I1 _ (turn_str _ z t "str_iterator" (.inr rfl)) ⟨_, Heap.get?_push_size _ rfl, rfl, rfl⟩ q)
    · exact wpAny_pyIter_ascii hz (pi_one (tk := s1.toks) I1 _ (turn_str _ z t "str_ascii_iterator" (.inl rfl)) ⟨_, Heap.get?_push_size _ rfl, rfl, rfl⟩ q)
theorem s_seq (ha : PE X ea (tE P cl k X W a)) : PI X tg ea (tSrc P cl k X W (.seq a)) :=
  PI.imp (pi_seq ha) fun σ H Q ⟨m, env, S, hK, eH, hS, hV, h⟩ => by
    subst eH
    simp only [wSrc] at h
    refine tE_of hK hS hV (Ev.refl m) h fun m1 x S1 v e1 hS1 r1 hV1 h1 => ?_
    have hK1 := e1.k.trans hK
    cases r1 with
    | str z => exact .inr (.inr ⟨_, rfl, h1 m1 _ e1 hS1 (it_str z)⟩)
    | @tup q xs ds hq rs =>
      have hq' := hq
      rw [hK1] at hq'
      refine .inr (.inl ⟨q, xs, rfl, hq', ?_⟩)
      have := it_tup hS1 hq rs
      rw [hK1] at this
      exact h1 m1 _ e1 hS1 this
    | @ref n q hq =>
      obtain ⟨ds, h2, h3⟩ := h1
      obtain ⟨vs, hv, rs⟩ := hS1.lst h2 hq
      have hv' := hv
      rw [hK1] at hv'
      refine .inl ⟨q, vs, rfl, hv', ?_⟩
      have := it_lst (cl := cl) hq hv rs.length
      rw [hK1] at this
      exact h3 m1 _ e1 hS1 this
    | _ => exact h1.elim
theorem s_rng1 (xo : XO P cl X k sc W) (hg : Gl X (Str.ofString "range")) (hs : notStar ea = true) (ha : PE X ea (tE P cl k X W a)) : PI X tg (.Call (.Name (Str.ofString "range") p) [ea] [] pos) (tSrc P cl k X W (.rng1 a)) :=
  PI.imp (pi_range1 hg (xo.ln.bi "range" (by decide)) (pa_cons ha pa_nil (star_cons hs)) (star_cons hs)) fun σ H Q ⟨m, env, S, hK, eH, hS, hV, h⟩ => by
    subst eH
    simp only [wSrc] at h
    refine tE_of hK hS hV (Ev.refl m) h fun m1 x S1 v e1 hS1 r1 hV1 h1 => ?_
    obtain ⟨j, rfl, h2, h3⟩ := h1
    cases r1
    exact ⟨j, rfl, h2.1, h2.2, h3 m1 _ e1 hS1 (it_rng 0 j.toNat)⟩
theorem s_rng2 (xo : XO P cl X k sc W) (hg : Gl X (Str.ofString "range")) (hs : notStar ea = true) (hs2 : notStar eb = true) (ha : PE X ea (tE P cl k X W a)) (hb : PE X eb (tE P cl k X W b)) : PI X tg (.Call (.Name (Str.ofString "range") p) [ea, eb] [] pos) (tSrc P cl k X W (.rng2 a b)) :=
  PI.imp (pi_range2 hg (xo.ln.bi "range" (by decide)) (pa_cons ha (pa_cons hb pa_nil (star_cons hs2)) (star_cons hs)) (by rw [star_cons hs, star_cons hs2]; rfl) (star_cons hs2)) fun σ H Q ⟨m, env, S, hK, eH, hS, hV, h⟩ => by
    subst eH
    simp only [wSrc] at h
    refine tE_of hK hS hV (Ev.refl m) h fun m1 x S1 v e1 hS1 r1 hV1 h1 => ?_
    refine tE_of (e1.k.trans hK) hS1 hV1 e1 h1 fun m2 y S2 w e2 hS2 r2 hV2 h2 => ?_
    obtain ⟨i, j, rfl, rfl, h3, h4, h5⟩ := h2
    cases r1
    cases r2
    exact ⟨i, j, rfl, ⟨h3.1, h3.2, h4.1, h4.2⟩, h5 m2 _ (e1.trans e2) hS2 (it_rng i (j - i).toNat)⟩
theorem s_rev (xo : XO P cl X k sc W) (hg : Gl X (Str.ofString "reversed")) (hs : notStar ea = true) (ha : PE X ea (tE P cl k X W a)) : PI X tg (.Call (.Name (Str.ofString "reversed") p) [ea] [] pos) (tSrc P cl k X W (.rev a)) :=
  PI.imp (RT.pi_revA hg (xo.ln.bi "reversed" (by decide)) ha (star_cons hs)) fun σ H Q ⟨m, env, S, hK, eH, hS, hV, h⟩ => by
    subst eH
    simp only [wSrc] at h
    refine tE_of hK hS hV (Ev.refl m) h fun m1 x S1 v e1 hS1 r1 hV1 h1 => ?_
    have hK1 := e1.k.trans hK
    cases r1 with
    | @tup q xs ds hq rs =>
      have hq' := hq
      rw [hK1] at hq'
      refine ⟨q, xs, rfl, .inr ⟨hq', ?_⟩⟩
      have := it_revT hS1 hq rs
      rw [hK1] at this
      exact h1 m1 _ e1 hS1 this
    | @ref n q hq =>
      obtain ⟨ds, h2, h3⟩ := h1
      obtain ⟨vs, hv, rs⟩ := hS1.lst h2 hq
      have hv' := hv
      rw [hK1] at hv'
      refine ⟨q, vs, rfl, .inl ⟨hv', ?_⟩⟩
      have := it_rev (cl := cl) hq hv rs.length
      rw [hK1] at this
      exact h3 m1 _ e1 hS1 this
    | _ => exact h1.elim
variable {elts : List Expr} {kk : Nat} {tpos : Pos}
theorem s_enum (xo : XO P cl X k sc W) (hg : Gl X (Str.ofString "enumerate")) (hs : notStar ea = true) (ha : PE X ea (tE P cl k X W a)) : PI X (.Tuple elts kk tpos) (.Call (.Name (Str.ofString "enumerate") p) [ea] [] pos) (tSrc P cl k X W (.enum a)) :=
  PI.imp (pi_enum hg (xo.ln.bi "enumerate" (by decide)) (pa_cons ha pa_nil (star_cons hs)) (star_cons hs)) fun σ H Q ⟨m, env, S, hK, eH, hS, hV, h⟩ => by
    subst eH
    simp only [wSrc] at h
    refine tE_of hK hS hV (Ev.refl m) h fun m1 x S1 v e1 hS1 r1 hV1 h1 => ?_
    have hK1 := e1.k.trans hK
    cases r1 with
    | @ref n q hq =>
      obtain ⟨ds, h2, h3⟩ := h1
      obtain ⟨vs, hv, rs⟩ := hS1.lst h2 hq
      have hv' := hv
      rw [hK1] at hv'
      refine ⟨q, vs, rfl, hv', ?_⟩
      have := it_enum (cl := cl) hq hv rs.length
      rw [hK1] at this
      exact h3 m1 _ e1 hS1 this
    | _ => exact h1.elim
theorem s_keys (ha : PE X ea (tE P cl k X W a)) : PI X tg ea (tSrc P cl k X W (.keys a)) :=
  PI.imp (pi_keys ha) fun σ H Q ⟨m, env, S, hK, eH, hS, hV, h⟩ => by
    subst eH
    simp only [wSrc] at h
    refine tE_of hK hS hV (Ev.refl m) h fun m1 x S1 v e1 hS1 r1 hV1 h1 => ?_
    obtain ⟨n, kvs, rfl, h2, h3⟩ := h1
    cases r1 with
    | @ref _ q hq =>
    obtain ⟨o, ws, h4, r⟩ := hS1.ob n _ q h2 hq
    exact ⟨q, o, rfl, .inl ⟨ws, h4, h3 m1 _ e1 hS1 (it_keys hq h4 r.length)⟩⟩
theorem s_vals {e : Expr} {apos cpos : Pos} (ha : PE X e (tE P cl k X W a)) (hbase : attributeBase e "values" X.env (eval e X.env) = eval e X.env) (hline : (apos.endLine == cpos.line) = true) : PI X tg (.Call (.Attribute e "values" apos) [] [] cpos) (tSrc P cl k X W (.values a)) :=
  PI.imp (pi_values ha hbase hline) fun σ H Q ⟨m, env, S, hK, eH, hS, hV, h⟩ => by
    subst eH
    simp only [wSrc] at h
    refine tE_of hK hS hV (Ev.refl m) h fun m1 x S1 v e1 hS1 r1 hV1 h1 => ?_
    obtain ⟨n, kvs, rfl, h2, h3⟩ := h1
    cases r1 with
    | @ref _ q hq =>
    obtain ⟨o, ws, h4, r⟩ := hS1.ob n _ q h2 hq
    exact ⟨q, o, ws, rfl, h4, h3 m1 _ e1 hS1 (it_vals hq h4 r.length)⟩
theorem s_items {e : Expr} {apos cpos : Pos} (ha : PE X e (tE P cl k X W a)) (hbase : attributeBase e "items" X.env (eval e X.env) = eval e X.env) (hline : (apos.endLine == cpos.line) = true) : PI X (.Tuple elts kk tpos) (.Call (.Attribute e "items" apos) [] [] cpos) (tSrc P cl k X W (.items a)) :=
  PI.imp (pi_items ha hbase hline) fun σ H Q ⟨m, env, S, hK, eH, hS, hV, h⟩ => by
    subst eH
    simp only [wSrc] at h
    refine tE_of hK hS hV (Ev.refl m) h fun m1 x S1 v e1 hS1 r1 hV1 h1 => ?_
    obtain ⟨n, kvs, rfl, h2, h3⟩ := h1
    cases r1 with
    | @ref _ q hq =>
    obtain ⟨o, ws, h4, r⟩ := hS1.ob n _ q h2 hq
    exact ⟨q, o, ws, rfl, h4, h3 m1 _ e1 hS1 (it_items hq h4 r.length)⟩
theorem s_zip (xo : XO P cl X k sc W) (hg : Gl X (Str.ofString "zip")) (hs : notStar ea = true) (hs2 : notStar eb = true) (ha : PE X ea (tE P cl k X W a)) (hb : PE X eb (tE P cl k X W b)) : PI X (.Tuple elts kk tpos) (.Call (.Name (Str.ofString "zip") p) [ea, eb] [] pos) (tSrc P cl k X W (.zip a b)) :=
  PI.imp (RZ.pi_zipA hg (xo.ln.bi "zip" (by decide)) (pa_cons ha (pa_cons hb pa_nil (star_cons hs2)) (star_cons hs)) (star_cons hs) (star_any (by simp [hs2]))) fun σ H Q ⟨m, env, S, hK, eH, hS, hV, h⟩ => by
    subst eH
    simp only [wSrc] at h
    refine tE_of hK hS hV (Ev.refl m) h fun m1 x S1 v e1 hS1 r1 hV1 h1 => ?_
    refine tE_of (e1.k.trans hK) hS1 hV1 e1 h1 fun m2 y S2 w e2 hS2 r2 hV2 h2 => ?_
    have hK2 := (e1.trans e2).k.trans hK
    have r1' := r1.up (e2.up hS1)
    rcases h2 with ⟨n, n', xs, ys, rfl, rfl, hx, hy, h3⟩ | ⟨xs, ys, rfl, rfl, h3⟩
    · cases r1' with
      | @ref _ q hq =>
      cases r2 with
      | @ref _ q' hq' =>
      obtain ⟨vs, hv, rs⟩ := hS2.lst hx hq
      obtain ⟨vs', hv', rs'⟩ := hS2.lst hy hq'
      have z1 := hv
      have z2 := hv'
      rw [hK2] at z1 z2
      refine ⟨q, q', vs, vs', rfl, .inl ⟨z1, z2, ?_⟩⟩
      have := it_zip (cl := cl) hq hq' hv hv' rs.length rs'.length
      rw [hK2] at this
      exact h3 m2 _ (e1.trans e2) hS2 this
    · cases r1' with
      | @tup q vs _ hv rs =>
      cases r2 with
      | @tup q' vs' _ hv' rs' =>
      have z1 := hv
      have z2 := hv'
      rw [hK2] at z1 z2
      refine ⟨q, q', vs, vs', rfl, .inr ⟨z1, z2, ?_⟩⟩
      have := it_zipT hS2 hv hv' rs rs'
      rw [hK2] at this
      exact h3 m2 _ (e1.trans e2) hS2 this

/-! ### targets -/
def setN : List Nat → List V → L2.St → L2.St
  | i :: is, x :: xs, σ => setN is xs (σ.set i (some x))
  | _, _, σ => σ
def Tg.slots : Tg → List Nat
  | .nm i => [i]
  | .tp is => is
def tG (K : PySem.W.Frag) : Tg → TG
  | .nm i => fun v σ H Q => Q (σ.set i (some v)) H
  | .tp is => fun v σ H Q => ∃ a xs, v = .ref a ∧ SqT K H a xs ∧ xs.length = is.length ∧ Q (setN is xs σ) H
theorem PG.imp {tg : Expr} {t t' : TG} (h : PG X tg t) (f : ∀ v σ H Q, t' v σ H Q → t v σ H Q) : PG X tg t' := ⟨fun pins s σ H v u Q I r hw => h.run pins s σ H v u Q I r (f _ _ _ _ hw)⟩
theorem PG.pre {tg : Expr} {t : TG} (h : PG X tg t) : PG X tg (fun v σ H Q => KF X.K H → t v σ H Q) := ⟨fun pins s σ H v u Q I r hw => h.run pins s σ H v u Q I r (hw (kfree I))⟩
/-- a name that is stored -/
structure NmOk (X : Cx) (i : Nat) (e : Expr) : Prop where
  ok : ∃ x pos, e = .Name x pos ∧ X.N[i]? = some x ∧ Loc X.env.scope x ∧ (X.fn x = true ∨ X.env.scope.names.lookup x = some .local)
theorem g_nm {i : Nat} {e : Expr} (hN : X.N.Nodup) (h : NmOk X i e) : PG X e (gName i) := by
  obtain ⟨x, pos, rfl, h1, h2, h3⟩ := h.ok
  exact pg_name hN h1 h2 h3
def gNs : List Nat → TGs
  | [] => gNil
  | i :: is => gCons (gName i) (gNs is)
inductive NmsOk (X : Cx) : List Nat → List Expr → Prop where
  | nil : NmsOk X [] []
  | cons {i e is es} : NmOk X i e → NmsOk X is es → NmsOk X (i :: is) (e :: es)
theorem NmsOk.pgs {is es} (hN : X.N.Nodup) (h : NmsOk X is es) : PGs X es (gNs is) := by
  induction h with
  | nil => exact pgs_nil
  | cons h1 h2 ih =>
    refine pgs_cons (g_nm hN h1) ih ?_
    obtain ⟨x, pos, rfl, _⟩ := h1.ok
    rfl
theorem NmsOk.len {is es} (h : NmsOk X is es) : (assignEach es X.env).length = is.length := by
  induction h with
  | nil => rfl
  | cons h1 h2 ih =>
    obtain ⟨x, pos, rfl, _⟩ := h1.ok
    show (assignEach _ X.env).length + 1 = _
    rw [ih]
    rfl
theorem NmsOk.star {is es} (h : NmsOk X is es) : (assignEach es X.env).findIdx? (·.1) = none := by
  rw [List.findIdx?_eq_none_iff]
  induction h with
  | nil => intro x hx; cases hx
  | cons h1 h2 ih =>
    obtain ⟨x, pos, rfl, _⟩ := h1.ok
    intro y hy
    rcases List.mem_cons.mp hy with rfl | hy
    · rfl
    · exact ih y hy
theorem gNs_of : ∀ (is : List Nat) (xs : List V) (σ : L2.St) (H : Hp) (Q : L2.St → Hp → Prop), xs.length = is.length → Q (setN is xs σ) H → gNs is xs σ H Q
  | [], xs, σ, H, Q, hl, h => by
    cases xs with
    | nil => exact ⟨rfl, h⟩
    | cons _ _ => cases hl
  | i :: is, [], σ, H, Q, hl, h => by cases hl
  | i :: is, x :: xs, σ, H, Q, hl, h => ⟨x, xs, rfl, gNs_of is xs _ H Q (by simpa using hl) h⟩
inductive TgOk (X : Cx) : Tg → Expr → Prop where
  | nm {i e} : NmOk X i e → TgOk X (.nm i) e
  | tp {is es kk pos} : NmsOk X is es → TgOk X (.tp is) (.Tuple es kk pos)
theorem TgOk.pg {t e} (hN : X.N.Nodup) (hc : X.calm = true) (h : TgOk X t e) : PG X e (tG X.K t) := by
  cases h with
  | nm h => exact g_nm hN h
  | tp h => exact PG.imp (pg_tup hc (h.pgs hN) h.len h.star) fun v σ H Q ⟨a, xs, h1, h2, h3, h4⟩ => ⟨a, xs, h1, h2, h3, gNs_of _ _ _ _ _ h3 h4⟩
theorem SV.setN : ∀ {is : List Nat} {ds : List Val} {xs : List V} {env : Env} {σ : L2.St}, SV m env σ → RDs m ds xs → SV m ((is.zip ds).foldl (fun e p => es e p.1 (some p.2)) env) (setN is xs σ)
  | [], ds, xs, env, σ, h, r => by simpa [Mi.setN] using h
  | i :: is, _, _, env, σ, h, .nil => by simpa [Mi.setN] using h
  | i :: is, _, _, env, σ, h, .cons r rs => by
    simp only [List.zip_cons_cons, List.foldl_cons, Mi.setN]
    exact SV.setN (h.set r) rs
theorem tG_of {t : Tg} {d : Val} {x : V} {K1 : Env → Prop} {Q : L2.St → Hp → Prop} (hK : m.K = X.K) (r : RD m d x) (hV : SV m env σ) (h : tgW t d env K1) (hq : ∀ env' xs, K1 env' → SV m env' (setN t.slots xs σ) → Q (setN t.slots xs σ) m.H) : tG X.K t x σ m.H Q := by
  cases t with
  | nm i =>
    have := hq _ [x] h (by simpa [Tg.slots, setN] using hV.set r)
    simpa [Tg.slots, setN, tG] using this
  | tp is =>
    obtain ⟨ds, rfl, hl, h⟩ := h
    cases r with
    | @tup a xs _ hq' rs =>
    rw [hK] at hq'
    exact ⟨a, xs, rfl, hq', by rw [← rs.length]; exact hl, hq _ xs h (hV.setN rs)⟩
theorem wipe_get (σ : L2.St) : ∀ (vs : List Nat) (j : Nat), (L2.wipe σ vs)[j]? = if j ∈ vs then (σ[j]?).map fun _ => none else σ[j]?
  | [], j => by simp [L2.wipe]
  | v :: vs, j => by
    unfold L2.wipe
    rw [List.getElem?_set]
    by_cases h : v = j
    · subst h
      rw [if_pos rfl, if_pos List.mem_cons_self, L2.wipe_length]
      by_cases hl : v < σ.length
      · rw [if_pos hl, List.getElem?_eq_getElem hl]; rfl
      · rw [if_neg hl, List.getElem?_eq_none (by omega)]; rfl
    · rw [if_neg h, wipe_get]
      by_cases h2 : j ∈ vs
      · rw [if_pos h2, if_pos (List.mem_cons_of_mem _ h2)]
      · rw [if_neg h2, if_neg (by
          intro z
          rcases List.mem_cons.mp z with z | z
          · exact h z.symm
          · exact h2 z)]
theorem wipe_set {σ τ : L2.St} {vs : List Nat} {i : Nat} {x : Option V} (hi : i ∈ vs) (h : L2.wipe τ vs = L2.wipe σ vs) : L2.wipe (τ.set i x) vs = L2.wipe σ vs := by
  rw [← h]
  apply List.ext_getElem?
  intro j
  rw [wipe_get, wipe_get]
  by_cases hj : j ∈ vs
  · rw [if_pos hj, if_pos hj, List.getElem?_set]
    by_cases e : i = j
    · subst e
      rw [if_pos rfl]
      by_cases hl : i < τ.length
      · rw [if_pos hl, List.getElem?_eq_getElem hl]; rfl
      · rw [if_neg hl, List.getElem?_eq_none (by omega)]
    · rw [if_neg e]
  · rw [if_neg hj, if_neg hj, List.getElem?_set, if_neg (show ¬ i = j from fun e => hj (e ▸ hi))]
theorem wipe_wipe {σ : L2.St} {vs : List Nat} : L2.wipe (L2.wipe σ vs) vs = L2.wipe σ vs := by
  apply List.ext_getElem?
  intro j
  rw [wipe_get, wipe_get]
  by_cases hj : j ∈ vs
  · rw [if_pos hj, if_pos hj]
    cases σ[j]? <;> rfl
  · rw [if_neg hj, if_neg hj]
theorem wipe_setN {vs : List Nat} : ∀ {is : List Nat} {xs : List V} {σ τ : L2.St}, (∀ i ∈ is, i ∈ vs) → L2.wipe τ vs = L2.wipe σ vs → L2.wipe (setN is xs τ) vs = L2.wipe σ vs
  | [], _, σ, τ, _, h => by simpa [setN] using h
  | i :: is, [], σ, τ, _, h => by simpa [setN] using h
  | i :: is, x :: xs, σ, τ, hi, h => by
    simp only [setN]
    exact wipe_setN (fun j hj => hi j (List.mem_cons_of_mem _ hj)) (wipe_set (hi i List.mem_cons_self) h)
end
end Mi

set_option maxHeartbeats 4000000
namespace Mi
open PySem PySem.Spec L2 PyProof.Rows
section
variable {cl : String → Addr → Prop} {m m0 : Sm} {S : Hm} {D : Addr} {ob : Ob}
theorem up_em : Up m { m with em := m.em ++ [D] } := ⟨fun _ _ h => h, ⟨[D], rfl⟩, fun _ h => h⟩
/-- an object that stood outside comes in -/
theorem SH.adopt (h : SH cl m S) (hD : D ∉ m.em) (r : RO cl m D ob) : SH cl { m with em := m.em ++ [D] } (S ++ [ob]) := by
  refine ⟨by simp [h.len], ?_, h.kf, fun n u a e1 e2 => ?_⟩
  · show (m.em ++ [D]).Nodup
    rw [List.nodup_append]
    refine ⟨h.nd, by simp, fun x hx y hy => ?_⟩
    have : y = D := by simpa using hy
    rw [this]
    exact fun z => hD (z ▸ hx)
  · have e2 : (m.em ++ [D])[n]? = some a := e2
    by_cases hn : n < S.length
    · rw [List.getElem?_append_left hn] at e1
      rw [List.getElem?_append_left (by rw [h.len]; exact hn)] at e2
      exact (h.ob n u a e1 e2).up up_em rfl rfl
    · have hn2 : n = S.length := by
        have := (List.getElem?_eq_some_iff.mp e1).1
        simp at this
        omega
      subst hn2
      rw [List.getElem?_append_right (Nat.le_refl _)] at e1
      rw [← h.len, List.getElem?_append_right (Nat.le_refl _)] at e2
      simp at e1 e2
      subst e1 e2
      exact r.up up_em rfl rfl
theorem Ev.adopt (e : Ev m0 m) (hD : m0.H D = none) : Ev m0 { m with em := m.em ++ [D] } := by
  obtain ⟨l, hl⟩ := e.em
  refine ⟨e.k, e.z, ⟨l ++ [D], ?_⟩, e.keep, fun b hb nb => ?_, e.frz⟩
  · show m.em ++ [D] = m0.em ++ (l ++ [D])
    rw [hl, List.append_assoc]
  · rcases List.mem_append.mp hb with z | z
    · exact e.new b z nb
    · have : b = D := by simpa using z
      rw [this]; exact hD
/-- a list outside is changed -/
theorem up_poke {ws ws' : List V} (hl : m.H D = some (.lst ws)) : Up m { m with H := L2.upd m.H D (.lst ws') } := by
  refine ⟨fun a xs h => ?_, ⟨[], by simp⟩, fun _ h => h⟩
  rcases h with (h | ⟨o, h⟩) | h
  · have : a ≠ D := fun z => by rw [z, hl] at h; cases h
    exact .inl (.inl (by show upd m.H D _ a = _; rw [upd_ne this]; exact h))
  · have : a ≠ D := fun z => by rw [z, hl] at h; cases h
    exact .inl (.inr ⟨o, by show upd m.H D _ a = _; rw [upd_ne this]; exact h⟩)
  · exact .inr h
theorem SH.poke {ws ws' : List V} (h : SH cl m S) (hD : D ∉ m.em) (hl : m.H D = some (.lst ws)) : SH cl { m with H := L2.upd m.H D (.lst ws') } S := by
  refine ⟨h.len, h.nd, fun b o e => ?_, fun n o a e1 e2 => ?_⟩
  · show upd m.H D _ b = none
    have hb := h.kf b o e
    rw [upd_ne (fun z => by rw [z, hl] at hb; cases hb)]
    exact hb
  · exact (h.ob n o a e1 e2).up (up_poke hl) rfl (upd_ne fun z => hD (z ▸ List.mem_of_getElem? e2))
theorem Ev.poke {o : HO} (e : Ev m0 m) (hD : m0.H D = none) : Ev m0 { m with H := L2.upd m.H D o } :=
  ⟨e.k, e.z, e.em, fun b u h nb => by show upd m.H D o b = _; rw [upd_ne (ne_of_none h hD)]; exact e.keep b u h nb, e.new, fun b q u h => by show L2.upd m.H D o b = _; rw [upd_ne (ne_of_none h hD)]; exact e.frz b q u h⟩
theorem Ev.out {u : HO} {m' : Sm} (e : Ev m m') (hl : m.H D = some u) (hD : D ∉ m.em) : m'.H D = some u ∧ D ∉ m'.em :=
  ⟨e.keep D _ hl hD, fun z => by
    have := e.new D z hD
    rw [hl] at this
    cases this⟩
end
section
variable {P : Pg} {cl : String → Addr → Prop} {k : Nat} {X : Cx} {W : WX} {sc : Ko}
abbrev noW : WX := fun _ _ _ _ => False
theorem lcLoop_guard {turn : Val → Hm → (Option Val → Hm → Prop) → Prop} {g : Hm → Prop} {vs acc : List Val} {S : Hm} {Q : List Val → Hm → Prop} (h : lcLoop turn g vs acc S Q) : g S := by
  cases vs <;> exact h.1
/-- one turn of a comprehension -/
def lcTurn (P : Pg) (k : Nat) (elt : E) (tgt : Tg) (cond : Ot) (env : Env) (vs : List Nat) : Val → Hm → (Option Val → Hm → Prop) → Prop :=
  fun v S K => tgW tgt v (ewipe env vs) fun env2 => wC P.con (callW P k) (fun _ _ => False) cond env2 S fun b S2 => if b = true then wE P.con (callW P k) (fun _ _ => False) elt env2 S2 fun x S3 => K (some x) S3 else K none S2
/-- the new list stands at D, i items are through -/
def LW (cl : String → Addr → Prop) (X : Cx) (m1 : Sm) (turn : Val → Hm → (Option Val → Hm → Prop) → Prop) (g : Hm → Prop) (items : List Val) (Q1 : List Val → Hm → Prop) (D : Addr) (i : Nat) (H : Hp) : Prop :=
  ∃ m S acc ws, m.K = X.K ∧ m.H = H ∧ Ev m1 m ∧ SH cl m S ∧ D ∉ m.em ∧ H D = some (.lst ws) ∧ RDs m acc ws ∧ lcLoop turn g (items.drop i) acc S Q1
theorem lc_run {elt : E} {tgt : Tg} {src : Src} {cond : Ot} {own : List (String × Nat)} {σ : L2.St} {m : Sm} {env : Env} {S : Hm} {Q : VK} (hK : m.K = X.K) (hS : SH cl m S) (hV : SV m env σ) (hslots : ∀ i ∈ tgt.slots, i ∈ own.map (·.2)) (hQ : ∀ v S', Q1 v S' → ∀ m' x, Ev m m' → SH cl m' S' → RD m' v x → Q x m'.H)
    (h : wE P.con (callW P k) (liftX cl X.mg m fun c d H => W c d σ H) (.lc elt tgt src cond own) env S Q1) :
    tLc (tSrc P cl k X W src) (fun v σ H Q => KF X.K H → tG X.K tgt v σ H Q) (tCs P cl k X noW cond) (tE P cl k X noW elt) (own.map (·.2)) σ m.H (fun x H' => KF X.K H' → Q x H') := by
  simp only [wE] at h
  refine tSrc_of hK hS hV (Ev.refl m) h fun m1 J S1 items g e1 hS1 ok hV1 h1 => ?_
  intro D hD
  have hK1 := e1.k.trans hK
  -- the invariant
  let turn := lcTurn P k elt tgt cond env (own.map (·.2))
  let Q2 : List Val → Hm → Prop := fun acc S2 => Q1 (.ref S2.length) (S2 ++ [.lst acc])
  have h1 : lcLoop turn g items [] S1 Q2 := h1
  have adv : ∀ i H, i ≤ items.length → LW cl X m1 turn g items Q2 D i H → (i < items.length → J.go i H) ∧ (i = items.length → J.stop i H) := by
    rintro i H hi ⟨m2, S2, acc, ws, hK2, rfl, e2, hS2, nD, hDl, ra, hl⟩
    have hg := lcLoop_guard hl
    exact ⟨fun hlt => ok.go i m2 S2 items[i] e2 hS2 hg (List.getElem?_eq_getElem hlt), fun he => ok.stop i m2 S2 e2 hS2 hg (by omega)⟩
  refine ⟨fun i μ H => μ = items.length - i ∧ i ≤ items.length ∧ (i < items.length → J.go i H) ∧ (i = items.length → J.stop i H) ∧ (KF X.K H → LW cl X m1 turn g items Q2 D i H), ⟨items.length, by simp, Nat.zero_le _, fun hlt => ?_, fun he => ?_, fun kf => ?_⟩, ?_⟩
  · exact ok.go0 D _ items[0] hD (List.getElem?_eq_getElem hlt)
  · exact ok.stop0 D _ hD (by omega)
  · rw [← hK1] at kf
    have e2 : Ev m1 { m1 with H := upd m1.H D (.lst []) } := Ev.outside hD
    exact ⟨{ m1 with H := upd m1.H D (.lst []) }, S1, [], [], hK1, rfl, e2, hS1.outside hD kf, hS1.free hD (kf_free kf (upd_same (H := m1.H) (a := D))), upd_same, .nil, h1⟩
  · rintro i μ H ⟨rfl, hi, hgo, hstop, lw⟩
    by_cases he : i = items.length
    · refine .inl ⟨hstop he, fun kf => ?_⟩
      obtain ⟨m2, S2, acc, ws, hK2, rfl, e2, hS2, nD, hDl, ra, hl⟩ := lw kf
      rw [List.drop_eq_nil_of_le (by omega)] at hl
      obtain ⟨_, hl⟩ := hl
      have e3 := (e1.trans (e2.adopt hD))
      refine hQ _ _ hl { m2 with em := m2.em ++ [D] } (.ref D) e3 (hS2.adopt nD ⟨ws, hDl, ra⟩) (.ref ?_)
      show (m2.em ++ [D])[S2.length]? = some D
      rw [← hS2.len]
      simp
    · have hlt : i < items.length := by omega
      refine .inr ⟨hgo hlt, LW cl X m1 turn g items Q2 D (i + 1), fun H' lw' => ?_, fun x H' y => ?_⟩
      · obtain ⟨a1, a2⟩ := adv (i + 1) H' (by omega) lw'
        exact ⟨items.length - (i + 1), by omega, rfl, by omega, a1, a2, fun _ => lw'⟩
      · intro kf'
        have kf := ok.kfb i H x H' y (by rw [hK1]; exact kf')
        rw [hK1] at kf
        obtain ⟨m2, S2, acc, ws, hK2, rfl, e2, hS2, nD, hDl, ra, hl⟩ := lw kf
        rw [List.drop_eq_getElem_cons hlt] at hl
        obtain ⟨hg, hl⟩ := hl
        obtain ⟨m3, rfl, e3, hS3, rv⟩ := ok.yld i m2 S2 items[i] x H' e2 hS2 hg (List.getElem?_eq_getElem hlt) y (by rw [hK2]; exact kf')
        have e23 := e2.trans e3
        obtain ⟨hDl3, nD3⟩ := e3.out hDl nD
        have hV3 := ((hV1.up (e23.up hS1)).wipe (own.map (·.2)))
        refine tG_of (e23.k.trans hK1) rv hV3 hl fun env2 xs ht hV4 => ⟨wipe_setN (fun i hi => hslots i hi) wipe_wipe, ?_⟩
        refine ⟨m3, env2, S2, e23.k.trans hK1, rfl, hS3, hV4, wC_mono (callW_mono P k) (fun _ _ h => h.elim) cond (fun b S4 h4 m4 e4 hS4 => ?_) ht⟩
        obtain ⟨hDl4, nD4⟩ := e4.out hDl3 nD3
        have e24 := e23.trans e4
        cases b with
        | false =>
          simp only [Bool.false_eq_true, if_false] at h4 ⊢
          exact ⟨m4, S4, acc, ws, e24.k.trans hK1, rfl, e24, hS4, nD4, hDl4, ra.up ((e3.trans e4).up hS2), h4⟩
        | true =>
          simp only [if_true] at h4 ⊢
          refine ⟨m4, env2, S4, e24.k.trans hK1, rfl, hS4, hV4.up (e4.up hS3), wE_mono (callW_mono P k) (fun _ _ h => h.elim) elt (fun v S5 h5 m5 x5 e5 hS5 r5 => ?_) h4⟩
          obtain ⟨hDl5, nD5⟩ := e5.out hDl4 nD4
          have e25 := e24.trans e5
          have ra5 := ra.up (((e3.trans e4).trans e5).up hS2)
          have u6 := up_poke (ws' := ws ++ [x5]) hDl5
          refine ⟨ws, hDl5, by rw [← ra5.length]; exact h5.1, { m5 with H := upd m5.H D (.lst (ws ++ [x5])) }, S5, acc ++ [v], ws ++ [x5], e25.k.trans hK1, rfl, e25.poke hD, hS5.poke nD5 hDl5, nD5, upd_same, ra5.append (.cons r5 .nil) |>.up u6, h5.2⟩
theorem PTs.imp {e : List Expr} {t t' : TT} (h : PTs X e t) (f : ∀ σ H Q, t' σ H Q → t σ H Q) : PTs X e t' := ⟨fun pins s σ H Q I hw => h.run pins s σ H Q I (f _ _ _ hw)⟩
theorem c_none : PTs X [] (tCs P cl k X W .none) :=
  PTs.imp pts_nil fun σ H Q ⟨m, env, S, hK, eH, hS, hV, h⟩ => by
    subst eH
    simp only [wC] at h
    exact h m (Ev.refl m) hS
theorem c_some {t : T} {e : Expr} (h : PT X e (tTs P cl k X W t)) : PTs X [e] (tCs P cl k X W (.some t)) :=
  PTs.imp (pts_one h) fun σ H Q ⟨m, env, S, hK, eH, hS, hV, h⟩ => ⟨m, env, S, hK, eH, hS, hV, by simpa only [wC] using h⟩
structure LcOk (P : Pg) (cl : String → Addr → Prop) (k : Nat) (X : Cx) (elt : E) (tgt : Tg) (cond : Ot) (own : List (String × Nat)) (eelt tg : Expr) (ifs : List Expr) (scope : Scope) : Prop where
  ok : BlkOk X.N X.env.scope scope (own.map fun p => (Str.ofString p.1, p.2))
  sl : ∀ i ∈ tgt.slots, i ∈ own.map (·.2)
  tg : ∀ s H C c fp, TgOk (X.blk s H scope (compEnvC scope c C X.env) fp) tgt tg
  cd : ∀ s H C c fp, PTs (X.blk s H scope (compEnvC scope c C X.env) fp) ifs (tCs P cl k X noW cond)
  el : ∀ s H C c fp, PE (X.blk s H scope (compEnvC scope c C X.env) fp) eelt (tE P cl k X noW elt)
variable {elt : E} {tgt : Tg} {src : Src} {cond : Ot} {own : List (String × Nat)} {eelt tg iter : Expr} {ifs : List Expr} {scope : Scope} {pos : Pos}
theorem own_snd : (own.map fun p => (Str.ofString p.1, p.2)).map (·.2) = own.map (·.2) := by rw [List.map_map]; rfl
theorem LcOk.pg (xo : XO P cl X k sc W) (L : LcOk P cl k X elt tgt cond own eelt tg ifs scope) (s : Shared) (H : Hp) (C : Addr) (c : List (Str × Addr)) (fp : List Addr) : PG (X.blk s H scope (compEnvC scope c C X.env) fp) tg (fun v σ H Q => KF X.K H → tG X.K tgt v σ H Q) :=
  PG.pre (X := X.blk s H scope (compEnvC scope c C X.env) fp) ((L.tg s H C c fp).pg xo.nd xo.calm)
theorem e_lc (xo : XO P cl X k sc W) (hsrc : PI X tg iter (tSrc P cl k X W src)) (hfold : ∀ x, foldedSetIterable iter X.env x = pure x) (L : LcOk P cl k X elt tgt cond own eelt tg ifs scope) :
    PE X (.ListComp eelt [⟨tg, iter, ifs, 0⟩] scope pos) (tE P cl k X W (.lc elt tgt src cond own)) :=
  PE.imp (PE.kf (pe_lc xo.calm xo.nd hsrc L.ok (L.pg xo) L.cd L.el hfold)) fun σ H Q ⟨m, env, S, hK, eH, hS, hV, h⟩ => by
    subst eH
    rw [own_snd]
    exact lc_run hK hS hV L.sl (fun v S' h m' x e hS' r => h m' x e hS' r) h
/-- a dict is locked while an expression runs -/
theorem lock_sh {cl : String → Addr → Prop} {m : Sm} {S : Hm} {n : Nat} {a : Addr} {kvs : List (Key × Val)} {ws : List (L2.Key × V)} {od : Obj} (hS : SH cl m S) (ha : m.em[n]? = some a) (h : m.H a = some (.dK ws)) (r : RKs m kvs ws) :
    Ev m { m with H := upd m.H a (.frz od (.dK ws)) } ∧ SH cl { m with H := upd m.H a (.frz od (.dK ws)) } (S.set n (.lck (.dic kvs))) :=
  have e : Ev m { m with H := upd m.H a (.frz od (.dK ws)) } := Ev.write ha h
  ⟨e, hS.write ha h ⟨od, ws, upd_same, r.up (e.up hS)⟩⟩
theorem unlock_sh {cl : String → Addr → Prop} {m m2 : Sm} {S2 : Hm} {n : Nat} {a : Addr} {kvs : List (Key × Val)} {ws : List (L2.Key × V)} {od : Obj} (ha : m.em[n]? = some a) (h : m.H a = some (.dK ws)) (e : Ev { m with H := upd m.H a (.frz od (.dK ws)) } m2) (hS2 : SH cl m2 S2) (h2 : S2[n]? = some (.lck (.dic kvs))) :
    m2.H a = some (.frz od (.dK ws)) ∧ Up m2 { m2 with H := upd m2.H a (.dK ws) } ∧ Ev m { m2 with H := upd m2.H a (.dK ws) } ∧ SH cl { m2 with H := upd m2.H a (.dK ws) } (S2.set n (.dic kvs)) := by
  obtain ⟨h3, r⟩ := frz_at (m0 := { m with H := upd m.H a (.frz od (.dK ws)) }) ha (show (({ m with H := upd m.H a (.frz od (.dK ws)) } : Sm).H a) = _ from upd_same) e hS2 h2
  have e1 : Ev m { m with H := upd m.H a (.frz od (.dK ws)) } := Ev.write ha h
  have ha2 := em_get e.em ha
  exact ⟨h3, hS2.upw ha2, (e1.trans e).put ha (fun q u z => by rw [h] at z; cases z), hS2.write ha2 h3 ⟨ws, upd_same, r.up (hS2.upw ha2)⟩⟩
theorem e_lck {i : Nat} {e : E} {ex : Expr} (he : PE X ex (tE P cl k X W e)) : PE X ex (tE P cl k X W (.lck i e)) :=
  PE.imp (pe_lock he) fun σ H Q ⟨m, env, S, hK, eH, hS, hV, h⟩ => by
    subst eH
    simp only [wE] at h
    obtain ⟨n, kvs, h1, h2, h3⟩ := h
    obtain ⟨v, hv, rv⟩ := hV.get h1
    cases rv with
    | @ref _ a ha =>
    obtain ⟨ws, h4, r⟩ := hS.ob n _ a h2 ha
    refine ⟨a, _, h4, trivial, fun od => ?_⟩
    obtain ⟨e1, hS1⟩ := lock_sh (od := od) hS ha h4 r
    refine tE_of (m0 := m) (m := { m with H := upd m.H a (.frz od (.dK ws)) }) hK hS1 (hV.up (e1.up hS)) e1 h3 fun m2 x S2 v e2 hS2 r2 hV2 h5 => ?_
    obtain ⟨h6, up, e3, hS3⟩ := unlock_sh ha h4 e2 hS2 h5.1
    exact ⟨h6, h5.2 _ x e3 hS3 (r2.up up)⟩
end
end Mi

set_option maxHeartbeats 4000000
/-! MiT: list(reversed(x)). -/
namespace Mi
open PySem PySem.Spec L2 PyProof.Rows
section
variable {prog : Program} {w : World} {A : Around} {E : Value → Shared → Prop} {s : Shared} {T : String} {r : Addr} {fp : List Addr} {n : Nat} {P : Nat → Value → Prop} {St : Nat → Heap → Prop}
/-- an iterator that is its own iter -/
structure OwnW (prog : Program) (w : World) (T : String) (r : Addr) (fp : List Addr) (n : Nat) (P : Nat → Value → Prop) (St : Nat → Heap → Prop) : Prop where
  W : ∀ A : Around, A.handled = none → Walks prog w A r fp [r] n P St
  ty : ∀ s : Shared, St 0 s.heap → s.TypeIs (.ref r) T
  nl : (Value.type T == Value.type "list") = false
  nt : (Value.type T == Value.type "tuple") = false
  hint : ∀ (A : Around) (E : Value → Shared → Prop) (s : Shared) (Q : Bool → Shared → Prop), St 0 s.heap → (∀ b tk, Q b { s with toks := tk }) → wpAny (model prog w) A (Builtin.List.listLengthHint (.ref r)) Q E s
  rf : r ∈ fp
theorem own_ext {R : Result → Shared → Prop} (K : OwnW prog w T r fp n P St) (hh : A.handled = none) (hst : St 0 s.heap) (L : Addr) (hL : L ∉ fp) (res : Value) (c₀ : Nat) (h0 : s.heap.get? L = some { cls := .type "list", data := .seq #[] c₀ }) (hn : n ≤ sizeLine)
    (hR : ∀ h' tk acc c, (∀ b o, b ≠ L → b ≠ r → s.heap.get? b = some o → h'.get? b = some o) → h'.get? L = some { cls := .type "list", dict := none, data := .seq acc c, slots := #[] } → ItemsOf P acc n → R (.ok (.ret res)) { s with heap := h', toks := tk }) :
    wpAny (model prog w) A.in1 (Builtin.List.listExtendWith (.ref L) (.ref r) res)
      (fun fin s' => match fin with | .done f => R (.ok f) s' | .again c' => c'.quiet = true ∧ codeAny (model prog w) A c' R s') (fun e s' => R (.error e) s') s := by
  have hLr : L ≠ r := fun e => hL (e ▸ K.rf)
  have go : ∀ (h : Heap) (c tk0 : Nat), St 0 h → (∀ b o, b ≠ L → s.heap.get? b = some o → h.get? b = some o) →
      h.get? L = some { cls := .type "list", data := .seq #[] c } → codeAny (model prog w) A (.builtin "list.extend.loop" ⟨[.ref L, .ref r, res], []⟩) R { s with heap := h, toks := tk0 } := by
    intro h c tk0 st kp e0
    refine codeAny_extend_loopS (K.W A.in1 hh).toS hn L hL res n 0 _ #[] c rfl (Nat.zero_le _) st e0 (ItemsOf.nil _) fun z accz cz mz ez iz => ?_
    rw [Moved.eq_with mz]
    refine hR z.heap z.toks accz cz (fun b o n1 n2 e => mz.heap b o (fun hm => ?_) (kp b o n1 e)) ez iz
    rcases List.mem_cons.mp hm with x | x
    · exact n1 x
    · exact n2 (List.mem_singleton.mp x)
  unfold Builtin.List.listExtendWith
  refine wpAny_bind (wpAny_typeOf (T := T) (K.ty s hst) ?_)
  have q1 : Builtin.List.listSameRef (.ref L) (.ref r) = false := by simp [Builtin.List.listSameRef, hLr]
  simp only [q1, K.nl, K.nt, Bool.or_false, Bool.false_eq_true, if_false]
  refine wpAny_bind ((K.W A.in1 hh).self 0 _ _ _ hst ?_)
  refine wpAny_bind (wpAny_holding (K.hint _ _ _ _ hst fun b tk => ?_))
  refine wpAny_ite_split (fun _ => ?_) (fun _ => wpAny_pure ⟨plainId_quiet PySem.F.plain_extend_loop _, go s.heap c₀ tk hst (fun _ _ _ e => e) h0⟩)
  refine wpAny_bind (wpAny_rule (wpAny_bind ?_))
  show wpAny _ _ (updateSeq L (·.push .none) >>= fun _ => updateSeq L (·.pop)) _ _ _
  refine wpAny_bind (wpAny_updateSeq h0 rfl ?_)
  have u1 := Heap.get?_update_self (Obj.mapSeq (·.push Value.none)) h0 rfl
  refine wpAny_updateSeq (hz := by seq_fits) u1 rfl ?_
  have u2 := Heap.get?_update_self (Obj.mapSeq (·.pop)) u1 rfl
  have oth : ∀ b o, b ≠ L → s.heap.get? b = some o → ((s.heap.update L (Obj.mapSeq (·.push Value.none))).update L (Obj.mapSeq (·.pop))).get? b = some o :=
    fun b o hb e => (Heap.get?_update_other _ _ (Ne.symm hb)).trans ((Heap.get?_update_other _ _ (Ne.symm hb)).trans e)
  exact wpAny_pure ⟨plainId_quiet PySem.F.plain_extend_loop _, go _ _ _ ((K.W A hh).frame 0 _ _ hst fun b hb o e => oth b o (fun z => hL (z ▸ hb)) e) oth u2⟩
/-- list(it) -/
theorem call_list_self {Q : Value → Shared → Prop} (K : OwnW prog w T r fp n P St) (hh : A.handled = none) (hst : St 0 s.heap) (hfp : ∀ b ∈ fp, b < s.heap.objs.size) (hn : n ≤ sizeLine)
    (hQ : ∀ h' tk acc c, (∀ b o, b ≠ r → s.heap.get? b = some o → h'.get? b = some o) → h'.get? s.heap.objs.size = some { cls := .type "list", dict := none, data := .seq acc c, slots := #[] } → ItemsOf P acc n → Q (.ref s.heap.objs.size) { s with heap := h', toks := tk }) :
    wpAny (model prog w) A (call (.type "list") [.ref r]) Q E s := by
  have hL : s.heap.objs.size ∉ fp := fun hm => Nat.lt_irrefl _ (hfp _ hm)
  refine callType_codes (Q₁ := fun obj z => obj = .ref s.heap.objs.size ∧ z = { s with heap := s.heap.push { cls := .type "list", data := .seq #[] } }) PySem.F.called_list (PySem.F.typeCall_list_1 _) PySem.F.entry_list_init (code_list_new _ ⟨rfl, rfl⟩) fun obj z hz => ?_
  obtain ⟨rfl, rfl⟩ := hz
  have e0 : (s.heap.push { cls := .type "list", data := .seq #[] }).get? s.heap.objs.size = some { cls := .type "list", data := .seq #[] } := Heap.get?_push_size _ rfl
  have st1 : St 0 (s.heap.push { cls := .type "list", data := .seq #[] }) := (K.W A hh).frame 0 _ _ hst fun b _ o e => Heap.get?_push_of_some _ e
  refine ⟨⟨_, e0, rfl⟩, PySem.F.args_list_init_2 _ _, ?_⟩
  show wpAny _ _ (do let old ← Builtin.List.listItems (.ref s.heap.objs.size); Builtin.List.listUpdate (.ref s.heap.objs.size) (fun _ => #[]); letGo old.toList.reverse; Builtin.List.listExtendWith (.ref s.heap.objs.size) (.ref r) .none) _ _ _
  refine wpAny_bind ?_
  unfold Builtin.List.listItems
  refine wpAny_bind (wpAny_seqItems e0 rfl (wpAny_pure ?_))
  show wpAny _ _ (updateSeq s.heap.objs.size (fun _ => #[]) >>= fun _ => letGo (#[] : Array Value).toList.reverse >>= fun _ => Builtin.List.listExtendWith (.ref s.heap.objs.size) (.ref r) .none) _ _ _
  refine wpAny_bind (wpAny_updateSeq e0 rfl ?_)
  have u1 := Heap.get?_update_self (Obj.mapSeq (fun _ => (#[] : Array Value))) e0 rfl
  have oth : ∀ b o, b ≠ s.heap.objs.size → (s.heap.push { cls := .type "list", data := .seq #[] }).get? b = some o → ((s.heap.push { cls := .type "list", data := .seq #[] }).update s.heap.objs.size (Obj.mapSeq (fun _ => (#[] : Array Value)))).get? b = some o :=
    fun b o hb e => (Heap.get?_update_other _ _ (Ne.symm hb)).trans e
  refine wpAny_bind (wpAny_letGo ?_)
  refine own_ext (A := A.in1) K hh ((K.W A hh).frame 0 _ _ st1 fun b hb o e => oth b o (fun z => hL (z ▸ hb)) e) _ hL .none _ u1 hn fun h' tk acc c kp e1 iz => ?_
  exact ⟨rfl, hQ h' tk acc c (fun b o hb e => kp b o (Nat.ne_of_lt (Heap.lt_size e)) hb (oth b o (Nat.ne_of_lt (Heap.lt_size e)) (Heap.get?_push_of_some _ e))) e1 iz⟩
end
section
open RT
variable {prog : Program} {w : World}
theorem tupAt {h h' : Heap} {t : Addr} {its : Array Value} (x : IsTup h t its) (k : ∀ o, h.get? t = some o → h'.get? t = some o) : IsTup h' t its := let ⟨o, ho, hc, hd⟩ := x; ⟨o, k o ho, hc, hd⟩
theorem slot_rt_hint : Slot "reversed" "__length_hint__" "reversed.__length_hint__" :=
  .of (owner := "reversed") (n := "__length_hint__") (by rw [typeLookup_type, builtinLookup_eq_fast]; kernel_rfl) (by decide +kernel) (by decide +kernel) (by decide +kernel) (by first | exact .inl (by decide +kernel) | exact .inr (by decide +kernel)) (by rw [isSubtype_type]; kernel_rfl)
theorem entry_rt_hint : entryFor table "reversed.__length_hint__" = some Builtin.«reversed.__length_hint__» := entryFor_of_tree (by kernel_rfl)
theorem args_rt_hint (a : Value) : argsOk "reversed.__length_hint__" ⟨[a], []⟩ := by
  unfold argsOk
  rw [signature?_of (id := "reversed.__length_hint__") (n := ['_', '_', 't', 'n', 'i', 'h', '_', 'h', 't', 'g', 'n', 'e', 'l', '_', '_']) (o := ['d', 'e', 's', 'r', 'e', 'v', 'e', 'r']) (by kernel_rfl) owner_rt]
  kernel_rfl
theorem nolen_rt : typeLookup (.type "reversed") "__len__" = pure none := by rw [typeLookup_type, builtinLookup_eq_fast]; kernel_rfl
theorem hint_rt : typeLookup (.type "reversed") "__length_hint__" = pure (some (.builtin "reversed.__length_hint__")) := by rw [typeLookup_type, builtinLookup_eq_fast]; kernel_rfl
theorem ownW_rt {t r : Addr} {its : Array Value} (hne : t ≠ r) (hz : its.size ≤ sizeLine) : OwnW prog w "reversed" r [r, t] its.size (fun i v => its[its.size - 1 - i]? = some v) (fun i h => i ≤ its.size ∧ IsRt h r t ((its.size : Int) - 1 - (i : Nat)) ∧ IsTup h t its) where
  W := fun A hh => {
    sub := fun b hb => by simp at hb; simp [hb]
    frame := fun _ _ _ x hk => ⟨x.1, x.2.1.at fun o e => hk r (by simp) o e, tupAt x.2.2 fun o e => hk t (by simp) o e⟩
    item := fun i s Q E hi x hQ => by
      have e : (its.size : Int) - 1 - (i : Int) = ((its.size - 1 - i : Nat) : Int) := by omega
      have hit := x.2.1
      rw [e] at hit
      have hx : its[its.size - 1 - i]? = some (its[its.size - 1 - i]'(by omega)) := Array.getElem?_eq_getElem (by omega)
      refine next_rt_item hit x.2.2 hx hz fun h' hit' hs' => ?_
      have e2 : ((its.size - 1 - i : Nat) : Int) - 1 = (its.size : Int) - 1 - ((i + 1 : Nat) : Int) := by omega
      rw [e2] at hit'
      exact hQ _ h' _ hx ⟨hi, hit', tupAt x.2.2 fun o eo => (hs'.2 t hne).trans eo⟩ fun b o hb eo => hs'.extBut b o (fun h => hb (by simp [h])) eo
    done := fun s Q E x hQ => by
      have e : (its.size : Int) - 1 - (its.size : Int) = -1 := by omega
      have hit := x.2.1
      rw [e] at hit
      exact next_rt_end hh hit fun h' hk => hQ h' s.toks fun b o hb eo => hk b o (fun h => hb (by simp [h])) eo
    self := fun i s Q E x hQ => iter_rt x.2.1 hQ }
  ty := fun s x => x.2.1.typeIs
  nl := by decide
  nt := by decide
  hint := fun A E s Q x hQ => by
    have hT : s.TypeIs (.ref r) "reversed" := x.2.1.typeIs
    unfold Builtin.List.listLengthHint
    refine wpAny_bind (wpAny_specialOf hT nolen_rt ?_)
    show wpAny _ A (specialOf (Value.ref r) (Str.ofString "__length_hint__") >>= _) _ _ _
    refine wpAny_bind (wpAny_specialOf hT hint_rt ?_)
    generalize hid : ("reversed.__length_hint__" : String) = id0
    wp_delta
    rw [show splitId id0 = some ("reversed", "__length_hint__") from by subst hid; decide +kernel]
    subst hid
    refine wpAny_bind (wpAny_isInstance (b := true) hT (by rw [isSubtype_type]; kernel_rfl) ?_)
    rw [if_neg (by decide)]
    dsimp only
    rw [if_neg (by decide +kernel)]
    refine wpAny_bind (wpAny_rule ?_)
    rw [slot_rt_hint.bind]
    refine wpAny_bind (wpAny_pure ?_)
    dsimp only
    obtain ⟨o, ho, hc, hd⟩ := id x.2.1
    have hln : its.size < 2 ^ 63 := by rw [sizeLine_eq] at hz; omega
    refine wpAny_bind (wpAny_attempt (wpAny_call_entry slot_rt_hint hT entry_rt_hint ?_ (args_rt_hint _)))
    unfold Builtin.«reversed.__length_hint__»
    refine wpAny_bind (wpAny_of_eq (a := Value.ref r) rfl ?_)
    refine wpAny_bind (wpAny_field ho hd (x := .ref t) rfl ?_)
    rw [if_neg (by simp)]
    dsimp only
    refine wpAny_bind (len_tuple x.2.2 (by omega) ?_)
    refine wpAny_bind (wpAny_of_eq (a := some ((its.size : Nat) : Int)) rfl ?_)
    dsimp only
    refine wpAny_bind (wpAny_field ho hd (x := rawInt (((its.size : Nat) : Int) - 1 - ((0 : Nat) : Int))) rfl ?_)
    show wpAny _ _ (if ((its.size : Nat) : Int) < (((its.size : Nat) : Int) - 1 - ((0 : Nat) : Int)) + 1 then _ else _) _ _ _
    rw [if_neg (by omega)]
    unfold retInt
    refine wpAny_bind (wpAny_mkInt (wpAny_pure ⟨_, rfl, ?_⟩))
    dsimp only
    refine wpAny_bind (wpAny_of_eq (a := some (((its.size : Nat) : Int) - 1 - ((0 : Nat) : Int) + 1)) rfl ?_)
    dsimp only
    have f1 : Builtin.List.listFitsIndex (((its.size : Nat) : Int) - 1 - ((0 : Nat) : Int) + 1) = true := by
      unfold Builtin.List.listFitsIndex
      rw [Bool.and_eq_true, decide_eq_true_eq, decide_eq_true_eq]
      omega
    have f2 : Builtin.List.listTooLong (((its.size : Nat) : Int) - 1 - ((0 : Nat) : Int) + 1).toNat = false := by
      unfold Builtin.List.listTooLong
      rw [decide_eq_false]
      omega
    rw [if_neg (by rw [f1]; decide), if_neg (by omega), if_neg (by rw [f2]; decide)]
    exact wpAny_pure (hQ _ _)
  rf := by simp
end
section
variable {X : Cx}
/-- list(reversed(x)), x a tuple: a new list -/
def tLstRev (K : PySem.W.Frag) (te : TE) : TE := fun σ H Q => te σ H fun v H1 => ∃ (a : Addr) (xs : List V), v = .ref a ∧ SqT K H1 a xs ∧ ∀ q, H1 q = none → Q (.ref q) (upd H1 q (.lst xs.reverse))
theorem pe_lstRev {e : Expr} {te : TE} {p p2 pos pos2 : Pos} (hc : X.calm = true) (hg : Gl X "list") (hm : X.mg "list" = none) (hg2 : Gl X "reversed") (hm2 : X.mg "reversed" = none) (he : PE X e te) (hs : starEach [e] X.env = (false, eval e X.env) :: starEach [] X.env) :
    PE X (.Call (.Name "list" p) [.Call (.Name "reversed" p2) [e] [] pos2] [] pos) (tLstRev X.K te) := by
  have hs2 : starEach [.Call (.Name "reversed" p2) [e] [] pos2] X.env = (false, eval (.Call (.Name "reversed" p2) [e] [] pos2) X.env) :: starEach [] X.env := by rfl
  refine ⟨fun pins s σ H Q I h => ?_⟩
  refine Call_ (ld_blt I hg hm boot_list (PyProof.Rows.callWith_type1 (args_cons (Call_ (ld_blt I hg2 hm2 PyProof.Rows.boot_reversed (PyProof.Rows.callWith_type1 (args_cons (thn (he.run pins s σ H _ I h) fun u z ⟨v, H1, I1, r1, q1⟩ => args_nil ?_) hs) hs rfl))) hs2) hs2 rfl))
  obtain ⟨a, xs, ev, hq, q⟩ := q1
  subst ev
  obtain rfl : u = Value.ref a := r1
  obtain ⟨its, rv, p', hz⟩ := I1.tuple hq
  have hsz : its.toArray.size ≤ sizeLine := by rw [List.size_toArray, ← rv.length]; exact hz
  have hn63 := line63
  have hlen := rv.length
  refine RT.call_reversed_tup p' (fun A E Q k => len_tuple p' (by simp only [List.size_toArray] <;> omega) k) (args_nil ?_)
  have k0 : ∀ b o, z.heap.get? b = some o → (z.heap.push (RT.rtObj a ((its.toArray.size : Int) - 1))).get? b = some o := fun b o e => Heap.get?_push_of_some _ e
  obtain ⟨ot, hot, _⟩ := id p'
  have hlt : a < z.heap.objs.size := Heap.lt_size hot
  have e1 : ((its.toArray.size : Nat) : Int) - 1 = (its.toArray.size : Int) - 1 - ((0 : Nat) : Int) := by omega
  have hps : (z.heap.push (RT.rtObj a ((its.toArray.size : Int) - 1))).objs.size = z.heap.objs.size + 1 := Heap.size_push ..
  refine call_list_self (s := { z with heap := z.heap.push (RT.rtObj a ((its.toArray.size : Int) - 1)), toks := z.toks + 1 + 1 }) (ownW_rt (t := a) (r := z.heap.objs.size) (Nat.ne_of_lt hlt) hsz) (I1.ok.hd hc) ⟨Nat.zero_le _, by rw [← e1]; exact ⟨_, Heap.get?_push_size _ rfl, rfl, rfl⟩, tupAt p' fun o e => k0 _ _ e⟩ (fun b hb => ?_) hsz fun h' tk acc c kp eL hi => ?_
  · show b < (z.heap.push _).objs.size
    rw [hps]
    rcases List.mem_cons.mp hb with x | x
    · rw [x]; exact Nat.lt_succ_self _
    · rw [List.mem_singleton.mp x]; exact Nat.lt_succ_of_lt hlt
  · have hkeep : ∀ b o, z.heap.get? b = some o → h'.get? b = some o := fun b o e => kp b o (Nat.ne_of_lt (Heap.lt_size e)) (k0 b o e)
    refine ⟨.ref (z.heap.push (RT.rtObj a ((its.toArray.size : Int) - 1))).objs.size, upd H1 (z.heap.push (RT.rtObj a ((its.toArray.size : Int) - 1))).objs.size (.lst xs.reverse), I1.laid (t' := tk) hkeep (by rw [hps]; exact Nat.le_succ _) (show ObjOk X.prog X.w _ _ _ (.lst xs.reverse) from ⟨by rw [List.length_reverse]; exact hz, acc.toList, c, RT.vals_rev rv hi, ?_⟩), rfl, q _ (I1.hok.fresh (by rw [hps]; exact Nat.le_succ _))⟩
    rw [Array.toArray_toList]
    exact eL
end
section
variable {P : Pg} {cl : String → Addr → Prop} {k : Nat} {X : Cx} {W : WX} {o : Ko} {a : E} {ea : Expr} {pos pos2 p p2 : Pos}
theorem e_listRev (xo : XO P cl X k o W) (hg : Gl X (Str.ofString "list")) (hg2 : Gl X (Str.ofString "reversed")) (hs : notStar ea = true) (ha : PE X ea (tE P cl k X W a)) :
    PE X (.Call (.Name (Str.ofString "list") p) [.Call (.Name (Str.ofString "reversed") p2) [ea] [] pos2] [] pos) (tE P cl k X W (.vi .listRev (.cons a .nil))) :=
  PE.imp (PE.kf (pe_lstRev xo.calm hg (xo.ln.bi "list" (by decide)) hg2 (xo.ln.bi "reversed" (by decide)) ha (star_cons hs))) fun σ H Q ⟨m, env, S, hK, eH, hS, hV, h⟩ => by
    subst eH
    simp only [wE, wEs] at h
    refine tE_of hK hS hV (Ev.refl m) h fun m1 x S1 v e1 hS1 r1 hV1 h1 => ?_
    cases r1 with
    | @tup q xs ds hq rs =>
      rw [e1.k, hK] at hq
      exact ⟨q, xs, rfl, hq, fun p hp kf => mk_lst hS1 rs.rev hp (by rw [e1.k, hK]; exact kf) (liftQ.ev e1 (fun _ _ _ q => q) h1)⟩
    | _ => exact h1.elim
end
end Mi

set_option maxHeartbeats 4000000
namespace Mi
open PySem PySem.Spec L2 PyProof.Rows
/-! ### the text and the small text: checked -/
def nmEq (s : String) (x : Str) : Bool := Str.ofString s == x
theorem nm_of {s : String} {x : Str} (h : nmEq s x = true) : x = Str.ofString s := (beq_iff_eq.mp h).symm
def visB (sc : Scope) (x : Str) : Bool := match sc.names.lookup x with
  | some .local => true
  | some .cell => true
  | some .free => true
  | _ => false
theorem vis_of {sc : Scope} {x : Str} (h : visB sc x = true) : Vis sc x := by
  unfold visB at h
  split at h <;> first | exact .inl (by assumption) | exact .inr (.inl (by assumption)) | exact .inr (.inr (by assumption)) | cases h
def locB (sc : Scope) (x : Str) : Bool := match sc.names.lookup x with
  | some .local => true
  | some .cell => true
  | _ => false
theorem loc_of {sc : Scope} {x : Str} (h : locB sc x = true) : Loc sc x := by
  unfold locB at h
  split at h <;> first | exact .inl (by assumption) | exact .inr (by assumption) | cases h
def glB (sc : Scope) (x : Str) : Bool := decide (sc.names.lookup x = some .globalImplicit)
def ndb (x : Str) : Bool := !(x == ("__debug__" : Str))
def ncd (x : Str) : Bool := !(x == ("__classdict__" : Str))
theorem ndb_of {x : Str} (h : ndb x = true) : (x == ("__debug__" : Str)) = false := by simpa [ndb] using h
theorem ncd_of {x : Str} (h : ncd x = true) : (x == ("__classdict__" : Str)) = false := by simpa [ncd] using h
def litB : Lit → Const → Bool
  | .non, .none => true
  | .bl b, .bool c => b == c
  | .int i, .int j => i == j
  | .str s, .str x => nmEq s x
  | _, _ => false
def nmB (o : Ko) (i : Nat) (e : Expr) : Bool := match e with
  | .Name x _ => decide (o.N[i]? = some x) && locB o.sc x && (o.cf x || decide (o.sc.names.lookup x = some .local))
  | _ => false
def nmsB (o : Ko) : List Nat → List Expr → Bool
  | [], [] => true
  | i :: is, e :: es => nmB o i e && nmsB o is es
  | _, _ => false
def tgB (o : Ko) : Tg → Expr → Bool
  | .nm i, e => nmB o i e
  | .tp is, e => match e with
    | .Tuple es _ _ => nmsB o is es
    | _ => false
def isTup : Expr → Bool
  | .Tuple .. => true
  | _ => false
def notSet : Expr → Bool
  | .Set .. => false
  | _ => true
def isCmp : Expr → Bool
  | .Compare .. => true
  | _ => false
def isBool : Expr → Bool
  | .BoolOp .. => true
  | _ => false
def tyB (P : Pg) (o : Ko) (t : Ty) (e : Expr) : Bool := match e with
  | .Name x _ => nmEq (tyS t) x && glB o.sc x && (match t with | .cls c => P.cls.contains c && ndb x | _ => true)
  | _ => false
def tysB (P : Pg) (o : Ko) : List Ty → List Expr → Bool
  | [], [] => true
  | t :: ts, e :: es => tyB P o t e && tysB P o ts es
  | _, _ => false
def dOk (d : Option FDef) (n : Nat) : Bool := match d with
  | some d => decide (n ≤ d.params)
  | none => false
theorem dOk_of {d : Option FDef} {n : Nat} (h : dOk d n = true) : ∃ d', d = some d' ∧ n ≤ d'.params := by
  cases d with
  | none => cases h
  | some d => exact ⟨d, rfl, of_decide_eq_true h⟩
def lcKo (o : Ko) (scope : Scope) : Ko := ⟨o.N, relS scope o.sc, fun x => scope.names.lookup x == some .cell⟩
section
variable (P : Pg)
mutual
def chkE : Ko → E → Expr → Bool
  | o, .loc i, e => match e with
    | .Name x _ => decide (o.N[i]? = some x) && visB o.sc x && ndb x && ncd x
    | _ => false
  | o, .lit c, e => match e with
    | .Constant v _ _ => litB c v
    | _ => false
  | o, .con y, e => match e with
    | .Name x _ => nmEq y x && glB o.sc x && ndb x && (P.con y).isSome
    | _ => false
  | o, .bin op a b, e => match e with
    | .BinOp l op' r _ => decide (op = op') && chkE o a l && chkE o b r
    | _ => false
  | o, .neg a, e => match e with
    | .UnaryOp .USub x _ => chkE o a x
    | _ => false
  | o, .cmp op a b, e => match e with
    | .Compare l [op'] [r] _ => decide (op = op') && !behindInMarks op r && chkE o a l && chkE o b r
    | _ => false
  | o, .cmp2 op op2 a b c, e => match e with
    | .Compare l [op', op2'] [r, r2] _ => decide (op = op') && decide (op2 = op2') && !lastMarks [op, op2] [r, r2] && chkE o a l && chkE o b r && chkE o c r2
    | _ => false
  | o, .isN a, e => match e with
    | .Compare l [.Is] [.Constant .none _ _] _ => chkE o a l
    | _ => false
  | o, .notN a, e => match e with
    | .Compare l [.IsNot] [.Constant .none _ _] _ => chkE o a l
    | _ => false
  | o, .isB a b, e => match e with
    | .Compare l [.Is] [.Constant (.bool c) _ _] _ => (b == c) && chkE o a l
    | _ => false
  | o, .not a, e => match e with
    | .UnaryOp .Not x _ => chkE o a x
    | .Compare l [.IsNot] [.Constant (.bool c) _ _] _ => (match a with
      | .isB a' b => (b == c) && chkE o a' l
      | _ => false)
    | _ => false
  | o, .and a b, e => match e with
    | .BoolOp .And [x, y] pos => chkE o a x && chkE o b y
    | .BoolOp .And (x :: y :: z :: rest) pos => chkE o a x && chkE o b (.BoolOp .And (y :: z :: rest) pos)
    | _ => false
  | o, .or a b, e => match e with
    | .BoolOp .Or [x, y] pos => chkE o a x && chkE o b y
    | .BoolOp .Or (x :: y :: z :: rest) pos => chkE o a x && chkE o b (.BoolOp .Or (y :: z :: rest) pos)
    | _ => false
  | o, .ite c a b, e => match e with
    | .IfExp t x y _ => chkT o c t && chkE o a x && chkE o b y
    | _ => false
  | o, .tup es, e => match e with
    | .Tuple xs _ _ => chkEs o es xs
    | _ => false
  | o, .lst es, e => match e with
    | .List xs _ => chkEs o es xs
    | _ => false
  | o, .dic ps, e => match e with
    | .Dict ks vs _ => decide (ks.length ≤ 15) && chkPs o ps ks vs
    | _ => false
  | o, .call f es, e => match e with
    | .Call (.Name x _) xs [] _ => nmEq f x && glB o.sc x && ndb x && dOk (P.fn (.f f)) es.len && xs.all notStar && chkEs o es xs
    | _ => false
  | o, .make c es, e => match e with
    | .Call (.Name x _) xs [] _ => nmEq c x && glB o.sc x && ndb x && P.cls.contains c && dOk (P.fn (.m c "__init__")) (es.len + 1) && xs.all notStar && chkEs o es xs
    | _ => false
  | o, .meth c m a es, e => match e with
    | .Call (.Attribute eo x apos) xs [] pos => nmEq m x && dOk (P.fn (.m c m)) (es.len + 1) && !(m == "__init__") && plainBase eo && (apos.endLine == pos.line) && decide (xs.length < 29) && xs.all notStar && chkE o a eo && chkEs o es xs
    | _ => false
  | o, .fld a f, e => match e with
    | .Attribute eo x _ => nmEq f x && P.flds.contains f && plainBase eo && chkE o a eo
    | _ => false
  | o, .sub a i, e => match e with
    | .Subscript eo ei _ => plainIx ei && chkE o a eo && chkE o i ei
    | _ => false
  | o, .slice a lo hi, e => match e with
    | .Subscript eo (.Slice l h none _) _ => chkE o a eo && chkOe o lo l && chkOe o hi h
    | _ => false
  | o, .bi f es, e => match e with
    | .Call (.Name x _) (y :: ys) [] _ => nmEq (biN f) x && glB o.sc x && (y :: ys).all notStar && chkEs o es (y :: ys)
    | _ => false
  | o, .vi f es, e => match es with
    | .cons a .nil => (match e with
      | .Call (.Name x _) [.Call (.Name y _) [ea] [] _] [] _ => (match f with
        | .listRev => nmEq "list" x && nmEq "reversed" y && glB o.sc x && glB o.sc y && notStar ea && chkE o a ea)
      | _ => false)
    | _ => false
  | o, .bm m a es, e => match e with
    | .Call (.Attribute eo x apos) [] [] pos => nmEq (bmI m).2.1 x && plainBase eo && (apos.endLine == pos.line) && chkE o a eo && chkEs o es []
    | .Call (.Attribute eo x apos) (y :: ys) [] pos => nmEq (bmI m).2.1 x && plainBase eo && (apos.endLine == pos.line) && (y :: ys).all notStar && decide ((y :: ys).length < 29) && chkE o a eo && chkEs o es (y :: ys)
    | _ => false
  | o, .isi a ts, e => match e with
    | .Call (.Name x _) [ea, .Tuple es _ _] [] _ => nmEq "isinstance" x && glB o.sc x && !ts.isEmpty && decide (ts.length ≤ 60) && notStar ea && tysB P o ts es && chkE o a ea
    | .Call (.Name x _) [ea, et] [] _ => (match ts with
      | [t] => nmEq "isinstance" x && glB o.sc x && notStar ea && notStar et && tyB P o t et && chkE o a ea
      | _ => false)
    | _ => false
  | o, .lc elt tgt src cond own, e => match e with
    | .ListComp eelt [⟨tg, iter, ifs, ia⟩] scope pos => (ia == 0) && notSet iter && blkC o.N o.sc scope (own.map fun p => (Str.ofString p.1, p.2)) && (tgt.slots.all fun i => (own.map (·.2)).contains i) && chkSrc o src tg iter && tgB (lcKo o scope) tgt tg && chkOt (lcKo o scope) cond ifs && chkE (lcKo o scope) elt eelt
    | _ => false
  | o, .lck _ a, e => !isCmp e && chkE o a e
def chkT : Ko → T → Expr → Bool
  | o, .v a, e => (plainTest e || isCmp e) && chkE o a e
  | o, .not t, e => match e with
    | .UnaryOp .Not x _ => chkT o t x
    | _ => false
  | o, .and a b, e => match e with
    | .BoolOp .And [x, y] pos => chkT o a x && chkT o b y
    | .BoolOp .And (x :: y :: z :: rest) pos => chkT o a x && chkT o b (.BoolOp .And (y :: z :: rest) pos)
    | _ => false
  | o, .or a b, e => match e with
    | .BoolOp .Or [x, y] pos => chkT o a x && chkT o b y
    | .BoolOp .Or (x :: y :: z :: rest) pos => chkT o a x && chkT o b (.BoolOp .Or (y :: z :: rest) pos)
    | _ => false
def chkEs : Ko → Es → List Expr → Bool
  | o, .nil, xs => match xs with
    | [] => true
    | _ => false
  | o, .cons a es, xs => match xs with
    | x :: xs => notStar x && chkE o a x && chkEs o es xs
    | _ => false
def chkPs : Ko → Ps → List (Option Expr) → List Expr → Bool
  | o, .nil, ks, vs => match ks, vs with
    | [], [] => true
    | _, _ => false
  | o, .cons a b ps, ks, vs => match ks, vs with
    | some x :: ks, y :: vs => chkE o a x && chkE o b y && chkPs o ps ks vs
    | _, _ => false
def chkOe : Ko → Oe → Option Expr → Bool
  | o, .none, e => match e with
    | none => true
    | _ => false
  | o, .some a, e => match e with
    | some x => chkE o a x
    | none => false
def chkOt : Ko → Ot → List Expr → Bool
  | o, .none, xs => match xs with
    | [] => true
    | _ => false
  | o, .some t, xs => match xs with
    | [x] => chkT o t x
    | _ => false
def chkSrc : Ko → Src → Expr → Expr → Bool
  | o, .seq a, tg, e => chkE o a e
  | o, .rng1 a, tg, e => match e with
    | .Call (.Name x _) [ea] [] _ => nmEq "range" x && glB o.sc x && notStar ea && chkE o a ea
    | _ => false
  | o, .rng2 a b, tg, e => match e with
    | .Call (.Name x _) [ea, eb] [] _ => nmEq "range" x && glB o.sc x && notStar ea && notStar eb && chkE o a ea && chkE o b eb
    | _ => false
  | o, .enum a, tg, e => match e with
    | .Call (.Name x _) [ea] [] _ => nmEq "enumerate" x && isTup tg && glB o.sc x && notStar ea && chkE o a ea
    | _ => false
  | o, .zip a b, tg, e => match e with
    | .Call (.Name x _) [ea, eb] [] _ => nmEq "zip" x && isTup tg && glB o.sc x && notStar ea && notStar eb && chkE o a ea && chkE o b eb
    | _ => false
  | o, .rev a, tg, e => match e with
    | .Call (.Name x _) [ea] [] _ => nmEq "reversed" x && glB o.sc x && notStar ea && chkE o a ea
    | _ => false
  | _, .rng3 _ _ _, _, _ => false
  | o, .items a, tg, e => match e with
    | .Call (.Attribute eo x apos) [] [] pos => nmEq "items" x && isTup tg && plainBase eo && (apos.endLine == pos.line) && chkE o a eo
    | _ => false
  | o, .values a, tg, e => match e with
    | .Call (.Attribute eo x apos) [] [] pos => nmEq "values" x && plainBase eo && (apos.endLine == pos.line) && chkE o a eo
    | _ => false
  | o, .keys a, tg, e => chkE o a e
end
end
section
variable {P : Pg} {cl : String → Addr → Prop} {k : Nat} {X : Cx} {W : WX} {o : Ko}
theorem gl_of (xo : XO P cl X k o W) {x : Str} (h : glB o.sc x = true) : Gl X x := by
  show X.env.scope.names.lookup x = _
  rw [xo.sc]
  exact of_decide_eq_true h
theorem nmB_of (xo : XO P cl X k o W) {i : Nat} {e : Expr} (h : nmB o i e = true) : NmOk X i e := by
  unfold nmB at h
  split at h
  · simp only [Bool.and_eq_true, Bool.or_eq_true, decide_eq_true_eq] at h
    refine ⟨_, _, rfl, by rw [xo.nn]; exact h.1.1, by rw [xo.sc]; exact loc_of h.1.2, ?_⟩
    rcases h.2 with h | h
    · exact .inl (xo.fnc _ h)
    · exact .inr (by rw [xo.sc]; exact h)
  · cases h
theorem nmsB_of (xo : XO P cl X k o W) : ∀ {is : List Nat} {es : List Expr}, nmsB o is es = true → NmsOk X is es
  | [], [], _ => .nil
  | i :: is, e :: es, h => by
    simp only [nmsB, Bool.and_eq_true] at h
    exact .cons (nmB_of xo h.1) (nmsB_of xo h.2)
  | [], _ :: _, h => by cases h
  | _ :: _, [], h => by cases h
theorem tgB_of (xo : XO P cl X k o W) {t : Tg} {e : Expr} (h : tgB o t e = true) : TgOk X t e := by
  cases t with
  | nm i => exact .nm (nmB_of xo h)
  | tp is =>
    simp only [tgB] at h
    split at h
    · exact .tp (nmsB_of xo h)
    · cases h
theorem tyB_of (xo : XO P cl X k o W) {t : Ty} {e : Expr} (h : tyB P o t e = true) : notStar e = true ∧ ∃ c u, TyN X cl t e c u := by
  unfold tyB at h
  split at h
  · simp only [Bool.and_eq_true] at h
    obtain ⟨⟨h1, h2⟩, h3⟩ := h
    have := nm_of h1
    subst this
    refine ⟨rfl, tyN_of xo (gl_of xo h2) fun c e => ?_⟩
    subst e
    simp only [Bool.and_eq_true] at h3
    exact ⟨xo.ln.has c (by simpa using h3.1), ndb_of h3.2⟩
  · cases h
theorem tysB_of (xo : XO P cl X k o W) : ∀ {ts : List Ty} {es : List Expr}, tysB P o ts es = true → ∃ cs us, TyNs X cl ts es cs us
  | [], [], _ => ⟨_, _, .nil⟩
  | t :: ts, e :: es, h => by
    simp only [tysB, Bool.and_eq_true] at h
    obtain ⟨hs, c, u, h1⟩ := tyB_of xo h.1
    obtain ⟨cs, us, h2⟩ := tysB_of xo h.2
    exact ⟨_, _, .cons h1 hs h2⟩
  | [], _ :: _, h => by cases h
  | _ :: _, [], h => by cases h
theorem es_nil {es : Es} {xs : List Expr} (h : chkEs P o es xs = true) : xs = [] → es = .nil := by
  intro e
  subst e
  cases es with
  | nil => rfl
  | cons a es => simp [chkEs] at h
theorem XO.lc (xo : XO P cl X k o W) (scope : Scope) (s : Shared) (H : Hp) (C : Addr) (c : List (Str × Addr)) (fp : List Addr) : XO P cl (X.blk s H scope (compEnvC scope c C X.env) fp) k (lcKo o scope) noW where
  ln := xo.ln
  nd := xo.nd
  nn := xo.nn
  sc := by
    show relS scope X.env.scope = relS scope o.sc
    rw [xo.sc]
  fnc := fun x h => h
  isi := xo.isi
  calm := xo.calm
  room := xo.room
  tk := fun u s' ⟨a, B, sI, pins, σ, H, cls, d, e, I, nb, up, sky, na, os, ag, w⟩ => w.elim
  fns := xo.fns
theorem XO.u65 (xo : XO P cl X k o W) : X.A.units + 65 < cLine := by have := xo.room.un; omega
theorem XO.u1 (xo : XO P cl X k o W) : X.A.units + 1 < cLine := by have := xo.room.un; omega
theorem lit_of {c : Lit} {v : Const} {j : Nat} {pos : Pos} (h : litB c v = true) : PE X (.Constant v j pos) (tC (litV c)) := by
  cases c <;> cases v <;> first | cases h | skip
  · exact pe_non
  · have := (beq_iff_eq.mp h); subst this; exact pe_bl
  · have := (beq_iff_eq.mp h); subst this; exact pe_int
  · have := nm_of h; subst this; exact pe_str
theorem ps_len : ∀ (ps : Ps) {ks : List (Option Expr)} {vs : List Expr}, chkPs P o ps ks vs = true → ks.all (·.isSome) = true ∧ ks.length = vs.length ∧ ps.len = ks.length
  | .nil, ks, vs, h => by
    cases ks <;> cases vs <;> simp [chkPs] at h
    exact ⟨rfl, rfl, rfl⟩
  | .cons a b ps, ks, vs, h => by
    simp only [chkPs] at h
    split at h
    · simp only [Bool.and_eq_true] at h
      obtain ⟨h1, h2, h3⟩ := ps_len ps h.2
      exact ⟨by simp [h1], by simp [h2], by simp [Ps.len, h3]⟩
    · cases h
mutual
theorem chkE_ok : ∀ (e : E) {o : Ko} {x : Expr}, chkE P o e x = true → ∀ {X : Cx} {k : Nat} {W : WX}, XO P cl X k o W → PE X x (tE P cl k X W e) ∧ (isCmp x = true → PT X x (tTs P cl k X W (.v e)))
  | .loc i, o, x, h, X, k, W, xo => by
    simp only [chkE] at h
    split at h
    · simp only [Bool.and_eq_true, decide_eq_true_eq] at h
      obtain ⟨⟨⟨h1, h2⟩, h3⟩, h4⟩ := h
      exact ⟨e_loc (by rw [xo.nn]; exact h1) (by rw [xo.sc]; exact vis_of h2) (ndb_of h3) (ncd_of h4), fun h => nomatch h⟩
    · cases h
  | .lit c, o, x, h, X, k, W, xo => by
    simp only [chkE] at h
    split at h
    · exact ⟨e_lit (lit_of h), fun h => nomatch h⟩
    · cases h
  | .con y, o, x, h, X, k, W, xo => by
    simp only [chkE] at h
    split at h
    · simp only [Bool.and_eq_true] at h
      obtain ⟨⟨⟨h1, h2⟩, h3⟩, h4⟩ := h
      have := nm_of h1
      subst this
      obtain ⟨v, hv⟩ := Option.isSome_iff_exists.mp h4
      exact ⟨e_con xo.ln (gl_of xo h2) hv (ndb_of h3), fun h => nomatch h⟩
    · cases h
  | .bin op a b, o, x, h, X, k, W, xo => by
    simp only [chkE] at h
    split at h
    · simp only [Bool.and_eq_true, decide_eq_true_eq] at h
      obtain ⟨⟨rfl, h1⟩, h2⟩ := h
      exact ⟨e_bin (chkE_ok a h1 xo).1 (chkE_ok b h2 xo).1, fun h => nomatch h⟩
    · cases h
  | .neg a, o, x, h, X, k, W, xo => by
    simp only [chkE] at h
    split at h
    · exact ⟨e_neg (chkE_ok a h xo).1, fun h => nomatch h⟩
    · cases h
  | .cmp op a b, o, x, h, X, k, W, xo => by
    simp only [chkE] at h
    split at h
    · simp only [Bool.and_eq_true, decide_eq_true_eq, Bool.not_eq_true'] at h
      obtain ⟨⟨⟨rfl, h0⟩, h1⟩, h2⟩ := h
      exact ⟨e_cmp xo.u65 h0 (chkE_ok a h1 xo).1 (chkE_ok b h2 xo).1, fun _ => t_cmp xo.u65 h0 (chkE_ok a h1 xo).1 (chkE_ok b h2 xo).1⟩
    · cases h
  | .cmp2 op op2 a b c, o, x, h, X, k, W, xo => by
    simp only [chkE] at h
    split at h
    · simp only [Bool.and_eq_true, decide_eq_true_eq, Bool.not_eq_true'] at h
      obtain ⟨⟨⟨⟨⟨rfl, rfl⟩, h0⟩, h1⟩, h2⟩, h3⟩ := h
      exact ⟨e_cmp2 xo.u65 h0 (chkE_ok a h1 xo).1 (chkE_ok b h2 xo).1 (chkE_ok c h3 xo).1, fun _ => t_cmp2 xo.u65 h0 (chkE_ok a h1 xo).1 (chkE_ok b h2 xo).1 (chkE_ok c h3 xo).1⟩
    · cases h
  | .isN a, o, x, h, X, k, W, xo => by
    simp only [chkE] at h
    split at h
    · exact ⟨e_isN (chkE_ok a h xo).1, fun _ => t_isN (chkE_ok a h xo).1⟩
    · cases h
  | .notN a, o, x, h, X, k, W, xo => by
    simp only [chkE] at h
    split at h
    · exact ⟨e_notN (chkE_ok a h xo).1, fun _ => t_notN (chkE_ok a h xo).1⟩
    · cases h
  | .isB a b, o, x, h, X, k, W, xo => by
    simp only [chkE] at h
    split at h
    · simp only [Bool.and_eq_true, beq_iff_eq] at h
      obtain ⟨rfl, h⟩ := h
      exact ⟨e_isB (chkE_ok a h xo).1, fun _ => t_isB (chkE_ok a h xo).1⟩
    · cases h
  | .not a, o, x, h, X, k, W, xo => by
    unfold chkE at h
    split at h
    · exact ⟨e_not (chkE_ok a h xo).1, fun h => nomatch h⟩
    · split at h
      · rename_i a' b
        simp only [Bool.and_eq_true, beq_iff_eq] at h
        obtain ⟨rfl, h⟩ := h
        exact ⟨e_isnB (chkE_ok a' h xo).1, fun _ => t_isnB (chkE_ok a' h xo).1⟩
      · cases h
    · cases h
  | .and a b, o, x, h, X, k, W, xo => by
    simp only [chkE] at h
    split at h
    · simp only [Bool.and_eq_true] at h
      exact ⟨e_and (chkE_ok a h.1 xo).1 (pe_one (chkE_ok b h.2 xo).1), fun h => nomatch h⟩
    · simp only [Bool.and_eq_true] at h
      exact ⟨e_and (chkE_ok a h.1 xo).1 (chkE_ok b h.2 xo).1, fun h => nomatch h⟩
    · cases h
  | .or a b, o, x, h, X, k, W, xo => by
    simp only [chkE] at h
    split at h
    · simp only [Bool.and_eq_true] at h
      exact ⟨e_or (chkE_ok a h.1 xo).1 (pe_one (chkE_ok b h.2 xo).1), fun h => nomatch h⟩
    · simp only [Bool.and_eq_true] at h
      exact ⟨e_or (chkE_ok a h.1 xo).1 (chkE_ok b h.2 xo).1, fun h => nomatch h⟩
    · cases h
  | .ite c a b, o, x, h, X, k, W, xo => by
    simp only [chkE] at h
    split at h
    · simp only [Bool.and_eq_true] at h
      exact ⟨e_ite (chkT_ok c h.1.1 xo).1 (chkE_ok a h.1.2 xo).1 (chkE_ok b h.2 xo).1, fun h => nomatch h⟩
    · cases h
  | .tup es, o, x, h, X, k, W, xo => by
    simp only [chkE] at h
    split at h
    · exact ⟨e_tup (chkEs_ok es h xo), fun h => nomatch h⟩
    · cases h
  | .lst es, o, x, h, X, k, W, xo => by
    simp only [chkE] at h
    split at h
    · exact ⟨e_lst (chkEs_ok es h xo), fun h => nomatch h⟩
    · cases h
  | .dic ps, o, x, h, X, k, W, xo => by
    simp only [chkE] at h
    split at h
    · rename_i ks vs pos
      simp only [Bool.and_eq_true, decide_eq_true_eq] at h
      refine ⟨?_, fun h => nomatch h⟩
      cases ps with
      | nil =>
        have := h.2
        cases ks <;> cases vs <;> simp [chkPs] at this
        exact e_dic0
      | cons a b ps =>
        obtain ⟨h1, h2, h3⟩ := ps_len _ h.2
        refine e_dic (chkPs_ok (.cons a b ps) h.2 xo) h1 h2 (fun e => ?_) h.1 (by rw [h3]; exact h.1)
        subst e
        simp [Ps.len] at h3
    · cases h
  | .call f es, o, x, h, X, k, W, xo => by
    simp only [chkE] at h
    split at h
    · simp only [Bool.and_eq_true] at h
      obtain ⟨⟨⟨⟨⟨h1, h2⟩, h3⟩, h4⟩, h5⟩, h6⟩ := h
      have := nm_of h1
      subst this
      obtain ⟨d, hd, hn⟩ := dOk_of h4
      exact ⟨e_call xo (gl_of xo h2) (ndb_of h3) hd hn h5 (es_nil h6) (chkEs_ok es h6 xo), fun h => nomatch h⟩
    · cases h
  | .make c es, o, x, h, X, k, W, xo => by
    simp only [chkE] at h
    split at h
    · simp only [Bool.and_eq_true] at h
      obtain ⟨⟨⟨⟨⟨⟨h1, h2⟩, h3⟩, h0⟩, h4⟩, h5⟩, h6⟩ := h
      have := nm_of h1
      subst this
      obtain ⟨d, hd, hn⟩ := dOk_of h4
      obtain ⟨C, hC⟩ := xo.ln.has c (by simpa using h0)
      exact ⟨e_make xo (gl_of xo h2) (ndb_of h3) hd hC hn h5 (es_nil h6) (chkEs_ok es h6 xo), fun h => nomatch h⟩
    · cases h
  | .meth c m a es, o, x, h, X, k, W, xo => by
    simp only [chkE] at h
    split at h
    · simp only [Bool.and_eq_true, decide_eq_true_eq, Bool.not_eq_true'] at h
      obtain ⟨⟨⟨⟨⟨⟨⟨⟨h1, h2⟩, h3⟩, h4⟩, h5⟩, h6⟩, h7⟩, h8⟩, h9⟩ := h
      have := nm_of h1
      subst this
      obtain ⟨d, hd, hn⟩ := dOk_of h2
      exact ⟨e_meth xo hd h3 hn h4 h5 h6 h7 (es_nil h9) (chkE_ok a h8 xo).1 (chkEs_ok es h9 xo), fun h => nomatch h⟩
    · cases h
  | .fld a f, o, x, h, X, k, W, xo => by
    simp only [chkE] at h
    split at h
    · simp only [Bool.and_eq_true] at h
      obtain ⟨⟨⟨h1, h2⟩, h3⟩, h4⟩ := h
      have := nm_of h1
      subst this
      exact ⟨e_fld xo (by simpa using h2) h3 (chkE_ok a h4 xo).1, fun h => nomatch h⟩
    · cases h
  | .sub a i, o, x, h, X, k, W, xo => by
    simp only [chkE] at h
    split at h
    · simp only [Bool.and_eq_true] at h
      obtain ⟨⟨h1, h2⟩, h3⟩ := h
      exact ⟨e_sub xo.u1 h1 (chkE_ok a h2 xo).1 (chkE_ok i h3 xo).1, fun h => nomatch h⟩
    · cases h
  | .slice a lo hi, o, x, h, X, k, W, xo => by
    simp only [chkE] at h
    split at h
    · simp only [Bool.and_eq_true] at h
      obtain ⟨⟨h1, h2⟩, h3⟩ := h
      exact ⟨e_slice (chkE_ok a h1 xo).1 (chkOe_ok lo h2 xo) (chkOe_ok hi h3 xo), fun h => nomatch h⟩
    · cases h
  | .bi f es, o, x, h, X, k, W, xo => by
    simp only [chkE] at h
    split at h
    · simp only [Bool.and_eq_true] at h
      obtain ⟨⟨⟨h1, h2⟩, h3⟩, h4⟩ := h
      have := nm_of h1
      subst this
      exact ⟨e_bi xo (gl_of xo h2) h3 (chkEs_ok es h4 xo), fun h => nomatch h⟩
    · cases h
  | .vi f es, o, x, h, X, k, W, xo => by
    unfold chkE at h
    split at h
    · rename_i a
      split at h
      · cases f with
        | listRev =>
          simp only [Bool.and_eq_true] at h
          obtain ⟨⟨⟨⟨⟨h1, h2⟩, h3⟩, h4⟩, h5⟩, h6⟩ := h
          have := nm_of h1
          subst this
          have := nm_of h2
          subst this
          exact ⟨e_listRev xo (gl_of xo h3) (gl_of xo h4) h5 (chkE_ok a h6 xo).1, fun h => nomatch h⟩
      · cases h
    · cases h
  | .bm m a es, o, x, h, X, k, W, xo => by
    simp only [chkE] at h
    split at h
    · simp only [Bool.and_eq_true] at h
      obtain ⟨⟨⟨⟨h1, h2⟩, h3⟩, h4⟩, h5⟩ := h
      have := nm_of h1
      subst this
      have := es_nil h5 rfl
      subst this
      exact ⟨e_bm0 xo h2 h3 (chkE_ok a h4 xo).1, fun h => nomatch h⟩
    · simp only [Bool.and_eq_true, decide_eq_true_eq] at h
      obtain ⟨⟨⟨⟨⟨⟨h1, h2⟩, h3⟩, h4⟩, h5⟩, h6⟩, h7⟩ := h
      have := nm_of h1
      subst this
      exact ⟨e_bm xo h2 h3 h4 h5 (chkE_ok a h6 xo).1 (chkEs_ok es h7 xo), fun h => nomatch h⟩
    · cases h
  | .isi a ts, o, x, h, X, k, W, xo => by
    simp only [chkE] at h
    split at h
    · simp only [Bool.and_eq_true, decide_eq_true_eq, Bool.not_eq_true'] at h
      obtain ⟨⟨⟨⟨⟨⟨h1, h2⟩, h3⟩, h4⟩, h5⟩, h6⟩, h7⟩ := h
      have := nm_of h1
      subst this
      obtain ⟨cs, us, hT⟩ := tysB_of xo h6
      exact ⟨e_isiT xo (gl_of xo h2) hT (fun e => by subst e; cases h3) (by rw [sizeLine_eq]; omega) h5 (chkE_ok a h7 xo).1, fun h => nomatch h⟩
    · split at h
      · simp only [Bool.and_eq_true] at h
        obtain ⟨⟨⟨⟨⟨h1, h2⟩, h3⟩, h4⟩, h5⟩, h6⟩ := h
        have := nm_of h1
        subst this
        obtain ⟨_, c, u, hT⟩ := tyB_of xo h5
        exact ⟨e_isi1 xo (gl_of xo h2) hT h3 h4 (chkE_ok a h6 xo).1, fun h => nomatch h⟩
      · cases h
    · cases h
  | .lc elt tgt src cond own, o, x, h, X, k, W, xo => by
    simp only [chkE] at h
    split at h
    · rename_i eelt tg iter ifs ia scope pos
      simp only [Bool.and_eq_true, beq_iff_eq] at h
      obtain ⟨⟨⟨⟨⟨⟨⟨rfl, h1⟩, h2⟩, h3⟩, h4⟩, h5⟩, h6⟩, h7⟩ := h
      refine ⟨e_lc xo (chkSrc_ok src h4 xo) (folded_of (by cases iter <;> first | rfl | cases h1)) ⟨?_, ?_, fun s H C c fp => ?_, fun s H C c fp => ?_, fun s H C c fp => ?_⟩, fun h => nomatch h⟩
      · rw [xo.nn, xo.sc]
        exact blkOk_by h2
      · intro i hi
        rw [List.all_eq_true] at h3
        simpa using h3 i hi
      · exact tgB_of (xo.lc scope s H C c fp) h5
      · exact chkOt_ok cond h6 (xo.lc scope s H C c fp)
      · exact (chkE_ok elt h7 (xo.lc scope s H C c fp)).1
    · cases h
  | .lck i a, o, x, h, X, k, W, xo => by
    simp only [chkE, Bool.and_eq_true, Bool.not_eq_true'] at h
    exact ⟨e_lck (chkE_ok a h.2 xo).1, fun hc => by rw [h.1] at hc; cases hc⟩
theorem chkT_ok : ∀ (t : T) {o : Ko} {x : Expr}, chkT P o t x = true → ∀ {X : Cx} {k : Nat} {W : WX}, XO P cl X k o W → PT X x (tTs P cl k X W t) ∧ (isBool x = true → PW X x (tTs P cl k X W t))
  | .v a, o, x, h, X, k, W, xo => by
    simp only [chkT, Bool.and_eq_true, Bool.or_eq_true] at h
    obtain ⟨h1 | h1, h2⟩ := h
    · refine ⟨t_val (chkE_ok a h2 xo).1 h1, fun h => ?_⟩
      cases x <;> first | exact (Bool.false_ne_true h).elim | exact (Bool.false_ne_true h1).elim
    · refine ⟨(chkE_ok a h2 xo).2 h1, fun h => ?_⟩
      cases x <;> first | exact (Bool.false_ne_true h).elim | exact (Bool.false_ne_true h1).elim
  | .not t, o, x, h, X, k, W, xo => by
    simp only [chkT] at h
    split at h
    · exact ⟨t_not (chkT_ok t h xo).1, fun h => nomatch h⟩
    · cases h
  | .and a b, o, x, h, X, k, W, xo => by
    simp only [chkT] at h
    split at h
    · simp only [Bool.and_eq_true] at h
      have := t_and (pos := ‹Pos›) (chkT_ok a h.1 xo).1 (t_and1 (chkT_ok b h.2 xo).1)
      exact ⟨this.pt, fun _ => this⟩
    · simp only [Bool.and_eq_true] at h
      have := t_and (chkT_ok a h.1 xo).1 ((chkT_ok b h.2 xo).2 rfl)
      exact ⟨this.pt, fun _ => this⟩
    · cases h
  | .or a b, o, x, h, X, k, W, xo => by
    simp only [chkT] at h
    split at h
    · simp only [Bool.and_eq_true] at h
      have := t_or (pos := ‹Pos›) (chkT_ok a h.1 xo).1 (t_or1 (chkT_ok b h.2 xo).1)
      exact ⟨this.pt, fun _ => this⟩
    · simp only [Bool.and_eq_true] at h
      have := t_or (chkT_ok a h.1 xo).1 ((chkT_ok b h.2 xo).2 rfl)
      exact ⟨this.pt, fun _ => this⟩
    · cases h
theorem chkEs_ok : ∀ (es : Es) {o : Ko} {xs : List Expr}, chkEs P o es xs = true → ∀ {X : Cx} {k : Nat} {W : WX}, XO P cl X k o W → PA X xs (tEs P cl k X W es)
  | .nil, o, xs, h, X, k, W, xo => by
    simp only [chkEs] at h
    split at h
    · exact a_nil
    · cases h
  | .cons a es, o, xs, h, X, k, W, xo => by
    simp only [chkEs] at h
    split at h
    · simp only [Bool.and_eq_true] at h
      exact a_cons (chkE_ok a h.1.2 xo).1 h.1.1 (chkEs_ok es h.2 xo)
    · cases h
theorem chkPs_ok : ∀ (ps : Ps) {o : Ko} {ks : List (Option Expr)} {vs : List Expr} {pos : Pos}, chkPs P o ps ks vs = true → ∀ {X : Cx} {k : Nat} {W : WX}, XO P cl X k o W → PPs X pos ks vs (tPs P cl k X W ps)
  | .nil, o, ks, vs, pos, h, X, k, W, xo => by
    simp only [chkPs] at h
    split at h
    · exact pps_nil
    · cases h
  | .cons a b ps, o, ks, vs, pos, h, X, k, W, xo => by
    simp only [chkPs] at h
    split at h
    · simp only [Bool.and_eq_true] at h
      exact pps_cons (chkE_ok a h.1.1 xo).1 (chkE_ok b h.1.2 xo).1 (chkPs_ok ps h.2 xo)
    · cases h
theorem chkOe_ok : ∀ (e : Oe) {o : Ko} {x : Option Expr}, chkOe P o e x = true → ∀ {X : Cx} {k : Nat} {W : WX}, XO P cl X k o W → PO X x (tOs P cl k X W e)
  | .none, o, x, h, X, k, W, xo => by
    cases x with
    | none => exact o_none
    | some x => simp [chkOe] at h
  | .some a, o, x, h, X, k, W, xo => by
    cases x with
    | none => simp [chkOe] at h
    | some x =>
      simp only [chkOe] at h
      exact o_some (chkE_ok a h xo).1
theorem chkOt_ok : ∀ (e : Ot) {o : Ko} {x : List Expr}, chkOt P o e x = true → ∀ {X : Cx} {k : Nat} {W : WX}, XO P cl X k o W → PTs X x (tCs P cl k X W e)
  | .none, o, x, h, X, k, W, xo => by
    simp only [chkOt] at h
    split at h
    · exact c_none
    · cases h
  | .some a, o, x, h, X, k, W, xo => by
    simp only [chkOt] at h
    split at h
    · exact c_some (chkT_ok a h xo).1
    · cases h
theorem chkSrc_ok : ∀ (src : Src) {o : Ko} {tg e : Expr}, chkSrc P o src tg e = true → ∀ {X : Cx} {k : Nat} {W : WX}, XO P cl X k o W → PI X tg e (tSrc P cl k X W src)
  | .seq a, o, tg, e, h, X, k, W, xo => by
    simp only [chkSrc] at h
    exact s_seq (chkE_ok a h xo).1
  | .rng1 a, o, tg, e, h, X, k, W, xo => by
    simp only [chkSrc] at h
    split at h
    · simp only [Bool.and_eq_true] at h
      obtain ⟨⟨⟨h1, h2⟩, h3⟩, h4⟩ := h
      have := nm_of h1
      subst this
      exact s_rng1 xo (gl_of xo h2) h3 (chkE_ok a h4 xo).1
    · cases h
  | .rng2 a b, o, tg, e, h, X, k, W, xo => by
    simp only [chkSrc] at h
    split at h
    · simp only [Bool.and_eq_true] at h
      obtain ⟨⟨⟨⟨⟨h1, h2⟩, h3⟩, h3'⟩, h4⟩, h5⟩ := h
      have := nm_of h1
      subst this
      exact s_rng2 xo (gl_of xo h2) h3 h3' (chkE_ok a h4 xo).1 (chkE_ok b h5 xo).1
    · cases h
  | .enum a, o, tg, e, h, X, k, W, xo => by
    simp only [chkSrc] at h
    split at h
    · simp only [Bool.and_eq_true] at h
      obtain ⟨⟨⟨⟨h1, h0⟩, h2⟩, h3⟩, h4⟩ := h
      have := nm_of h1
      subst this
      cases tg <;> first | exact s_enum xo (gl_of xo h2) h3 (chkE_ok a h4 xo).1 | cases h0
    · cases h
  | .zip a b, o, tg, e, h, X, k, W, xo => by
    simp only [chkSrc] at h
    split at h
    · simp only [Bool.and_eq_true] at h
      obtain ⟨⟨⟨⟨⟨⟨h1, h0⟩, h2⟩, h3⟩, h3'⟩, h4⟩, h5⟩ := h
      have := nm_of h1
      subst this
      cases tg <;> first | exact s_zip xo (gl_of xo h2) h3 h3' (chkE_ok a h4 xo).1 (chkE_ok b h5 xo).1 | cases h0
    · cases h
  | .rev a, o, tg, e, h, X, k, W, xo => by
    simp only [chkSrc] at h
    split at h
    · simp only [Bool.and_eq_true] at h
      obtain ⟨⟨⟨h1, h2⟩, h3⟩, h4⟩ := h
      have := nm_of h1
      subst this
      exact s_rev xo (gl_of xo h2) h3 (chkE_ok a h4 xo).1
    · cases h
  | .rng3 _ _ _, o, tg, e, h, X, k, W, xo => by simp [chkSrc] at h
  | .items a, o, tg, e, h, X, k, W, xo => by
    simp only [chkSrc] at h
    split at h
    · simp only [Bool.and_eq_true] at h
      obtain ⟨⟨⟨⟨h1, h0⟩, h2⟩, h3⟩, h4⟩ := h
      have := nm_of h1
      subst this
      cases tg <;> first | exact s_items (chkE_ok a h4 xo).1 (base_of h2) h3 | cases h0
    · cases h
  | .values a, o, tg, e, h, X, k, W, xo => by
    simp only [chkSrc] at h
    split at h
    · simp only [Bool.and_eq_true] at h
      obtain ⟨⟨⟨h1, h2⟩, h3⟩, h4⟩ := h
      have := nm_of h1
      subst this
      exact s_vals (chkE_ok a h4 xo).1 (base_of h2) h3
    · cases h
  | .keys a, o, tg, e, h, X, k, W, xo => s_keys (chkE_ok a (by simpa only [chkSrc] using h) xo).1
end
end
end Mi

set_option maxHeartbeats 4000000
namespace Mi
open PySem PySem.Spec L2 PyProof.Rows
/-! ### statements -/
section
variable (cl : String → Addr → Prop) (mg : Str → Option Value) (m : Sm)
def liftXS (W : WX) : XS := fun c env S' => ∀ m' σ' d C, Ev m m' → SH cl m' S' → SV m' env σ' → mg (Str.ofString c) = some (.ref C) → W (.ref C) d σ' m'.H
def liftE (Q : L2.St → Hp → Prop) : Env → Hm → Prop := fun env S' => ∀ m' σ', Ev m m' → SH cl m' S' → SV m' env σ' → Q σ' m'.H
def liftD (D : Ends) : Mi.Sp := { nx := liftE cl m D.nx, rt := liftQ cl m D.rt, ct := liftE cl m D.ct }
end
section
variable (P : Pg) (cl : String → Addr → Prop) (k : Nat) (X : Cx) (W : WX)
def tSt (s : Mi.St) : TS := fun D σ H => ∃ m env S, m.K = X.K ∧ m.H = H ∧ SH cl m S ∧ SV m env σ ∧ wS P.con P.sub (callW P k) s (liftXS cl X.mg m W) (liftD cl m D) env S
def tSts (s : Sts) : TS := fun D σ H => ∃ m env S, m.K = X.K ∧ m.H = H ∧ SH cl m S ∧ SV m env σ ∧ wSs P.con P.sub (callW P k) s (liftXS cl X.mg m W) (liftD cl m D) env S
end
section
variable {P : Pg} {cl : String → Addr → Prop} {k : Nat} {X : Cx} {W : WX} {o : Ko} {m m0 m1 : Sm} {env : Env} {S : Hm} {σ : L2.St} {D : Ends}
theorem liftXS.ev {mg : Str → Option Value} (e : Ev m m1) {c : String} {env : Env} {S : Hm} (h : liftXS cl mg m W c env S) : liftXS cl mg m1 W c env S :=
  fun m' σ' d C e' hS hV hC => h m' σ' d C (e.trans e') hS hV hC
theorem liftE.ev {Q : L2.St → Hp → Prop} (e : Ev m m1) {env : Env} {S : Hm} (h : liftE cl m Q env S) : liftE cl m1 Q env S := fun m' σ' e' hS hV => h m' σ' (e.trans e') hS hV
theorem liftD.ev (e : Ev m m1) : Sp.Le (liftD cl m D) (liftD cl m1 D) := ⟨fun _ _ h => liftE.ev e h, fun _ _ h => liftQ.ev e (fun _ _ _ q => q) h, fun _ _ h => liftE.ev e h⟩
theorem lx (e0 : Ev m0 m) (hS : SH cl m S) (hV : SV m env σ) {c : String} {S1 : Hm} (h1 : liftXS cl X.mg m0 W c env S1) : liftX cl X.mg m (fun c d H => W c d σ H) c S1 := fun m' d C e1 hS1 hC => h1 m' σ d C (e0.trans e1) hS1 (hV.up (e1.up hS)) hC
theorem sE_of {e : E} {Q1 : Post} {R : VK} (hK : m.K = X.K) (hS : SH cl m S) (hV : SV m env σ) (e0 : Ev m0 m) (h : wE P.con (callW P k) (fun c S' => liftXS cl X.mg m0 W c env S') e env S Q1)
    (hq : ∀ m1 x S1 v, Ev m m1 → SH cl m1 S1 → RD m1 v x → SV m1 env σ → Q1 v S1 → R x m1.H) : tE P cl k X W e σ m.H R :=
  tE_of (m0 := m) hK hS hV (Ev.refl m) (wE_mono (callW_mono P k) (fun c S1 h1 => lx e0 hS hV h1) e (fun _ _ h => h) h) hq
theorem sEs_of {e : Es} {Q1 : List Val → Hm → Prop} {R : List V → Hp → Prop} (hK : m.K = X.K) (hS : SH cl m S) (hV : SV m env σ) (e0 : Ev m0 m) (h : wEs P.con (callW P k) (fun c S' => liftXS cl X.mg m0 W c env S') e env S Q1)
    (hq : ∀ m1 x S1 v, Ev m m1 → SH cl m1 S1 → RDs m1 v x → SV m1 env σ → Q1 v S1 → R x m1.H) : tEs P cl k X W e σ m.H R :=
  tEs_of (m0 := m) hK hS hV (Ev.refl m) (wEs_mono (callW_mono P k) (fun c S1 h1 => lx e0 hS hV h1) e (fun _ _ h => h) h) hq
theorem sT_of {e : T} {Q1 : Bool → Hm → Prop} {R : Bool → Hp → Prop} (hK : m.K = X.K) (hS : SH cl m S) (hV : SV m env σ) (e0 : Ev m0 m) (h : wT P.con (callW P k) (fun c S' => liftXS cl X.mg m0 W c env S') e env S Q1)
    (hq : ∀ m1 S1 b, Ev m m1 → SH cl m1 S1 → SV m1 env σ → Q1 b S1 → R b m1.H) : tTs P cl k X W e σ m.H R :=
  tTs_of (m0 := m) hK hS hV (Ev.refl m) (wT_mono (callW_mono P k) (fun c S1 h1 => lx e0 hS hV h1) e (fun _ _ h => h) h) hq
theorem sSrc_of {src : Src} {Q1 : List Val → (Hm → Prop) → Hm → Prop} {R : It → Hp → Prop} (hK : m.K = X.K) (hS : SH cl m S) (hV : SV m env σ) (e0 : Ev m0 m) (h : wSrc P.con (callW P k) (fun c S' => liftXS cl X.mg m0 W c env S') src env S Q1)
    (hq : ∀ m1 J S1 items g, Ev m m1 → SH cl m1 S1 → ItOk cl m1 J items g → SV m1 env σ → Q1 items g S1 → R J m1.H) : tSrc P cl k X W src σ m.H R :=
  tSrc_of (m0 := m) hK hS hV (Ev.refl m) (wSrc_mono (callW_mono P k) (fun c S1 h1 => lx e0 hS hV h1) src (fun _ _ _ h => h) h) hq
theorem PS.imp {st : Stmt} {t t' : TS} (h : PS X st t) (f : ∀ D σ H, t' D σ H → t D σ H) : PS X st t' := ⟨fun pins s σ H D I hw => h.run pins s σ H D I (f _ _ _ hw)⟩
theorem PSs.imp {st : List Stmt} {t t' : TS} (h : PSs X st t) (f : ∀ D σ H, t' D σ H → t D σ H) : PSs X st t' := ⟨fun pins s σ H D I hw => h.run pins s σ H D I (f _ _ _ hw)⟩
/-- .. with the written part in mind -/
theorem PS.kf {st : Stmt} {t : TS} (h : PS X st t) : PS X st (fun D σ H => t { D with nx := fun σ' H' => KF X.K H' → D.nx σ' H' } σ H) := ⟨fun pins s σ H D I hw => thn (h.run pins s σ H _ I hw) fun f s1 q => by
  cases f with
  | next => obtain ⟨σ', H', I', q⟩ := q; exact ⟨σ', H', I', q (kfree I')⟩
  | ret v => exact q
  | brk => exact q
  | cont => exact q⟩

/-- a statement's context -/
structure XSt (P : Pg) (cl : String → Addr → Prop) (X : Cx) (k : Nat) (o : Ko) (W : WX) : Prop where
  xo : XO P cl X k o W
  po : PassesOwn (model X.prog X.w) X.A X.env X.xe
  stk : X.stack = X.env :: X.outer
  frm : X.env.frame = some X.env.locals
  fk : o.sc.kind = .function
variable {e a c : E} {ex : Expr} {pos p' : Pos} {st : Stmt} {rest : List Stmt} {s : Mi.St} {ss : Sts}
theorem ss_nil : PSs X [] (tSts P cl k X W .nil) :=
  PSs.imp pss_nil fun D σ H ⟨m, env, S, hK, eH, hS, hV, h⟩ => by
    subst eH
    simp only [wSs] at h
    exact h m σ (Ev.refl m) hS hV
theorem ss_cons (h1 : PS X st (tSt P cl k X W s)) (h2 : PSs X rest (tSts P cl k X W ss)) : PSs X (st :: rest) (tSts P cl k X W (.cons s ss)) :=
  PSs.imp (pss_cons h1 h2) fun D σ H ⟨m, env, S, hK, eH, hS, hV, h⟩ => by
    subst eH
    simp only [wSs] at h
    refine ⟨m, env, S, hK, rfl, hS, hV, wS_mono (callW_mono P k) s (D := { nx := fun env' S' => wSs P.con P.sub (callW P k) ss (liftXS cl X.mg m W) (liftD cl m D) env' S', rt := (liftD cl m D).rt, ct := (liftD cl m D).ct }) (D' := liftD cl m { D with nx := tSts P cl k X W ss D }) (fun _ _ _ h => h) ⟨fun env' S' h1 m' σ' e' hS' hV' => ?_, fun _ _ h => h, fun _ _ h => h⟩ h⟩
    exact ⟨m', env', S', e'.k.trans hK, rfl, hS', hV', wSs_mono (callW_mono P k) ss (fun _ _ _ h => liftXS.ev e' h) (liftD.ev e') h1⟩
theorem s_set {i : Nat} {x : Str} (xo : XO P cl X k o W) (hn : NmOk X i (.Name x p')) (hs : swapsWith ex (some (.Name x p')) pos.line X.env = pure false) (he : PE X ex (tE P cl k X W e)) : PS X (.Assign [.Name x p'] ex pos) (tSt P cl k X W (.set i e)) := by
  obtain ⟨x', pos', h0, h1, h2, h3⟩ := hn.ok
  cases h0
  refine PS.imp (ps_set xo.nd h1 h2 he hs h3) fun D σ H ⟨m, env, S, hK, eH, hS, hV, h⟩ => ?_
  subst eH
  simp only [wS] at h
  exact sE_of hK hS hV (Ev.refl m) h fun m1 x S1 v e1 hS1 r1 hV1 h1 => h1 m1 _ e1 hS1 (hV1.set r1)
variable {elt : E} {tgt : Tg} {src : Src} {cond : Ot} {own : List (String × Nat)} {eelt tg iter : Expr} {ifs : List Expr} {scope : Scope} {spos : Pos}
theorem s_setLc {i : Nat} {y : Str} (xo : XO P cl X k o W) (hy : X.N[i]? = some y) (hyl : X.env.scope.names.lookup y = some .local) (hsw : swapsWith (.ListComp eelt [⟨tg, iter, ifs, 0⟩] scope pos) (some (.Name y p')) spos.line X.env = pure true)
    (hsrc : PI X tg iter (tSrc P cl k X W src)) (hfold : ∀ x, foldedSetIterable iter X.env x = pure x) (L : LcOk P cl k X elt tgt cond own eelt tg ifs scope) : PS X (.Assign [.Name y p'] (.ListComp eelt [⟨tg, iter, ifs, 0⟩] scope pos) spos) (tSt P cl k X W (.set i (.lc elt tgt src cond own))) :=
  PS.imp (PS.kf (ps_setLc xo.calm xo.nd hy hyl hsw hsrc L.ok (L.pg xo) L.cd L.el hfold)) fun D σ H ⟨m, env, S, hK, eH, hS, hV, h⟩ => by
    subst eH
    rw [own_snd]
    simp only [wS] at h
    exact lc_run hK hS hV L.sl (Q := fun x H1 => D.nx (σ.set i (some x)) H1) (fun v S' h m' x e hS' r => h m' _ e hS' ((hV.up (e.up hS)).set r))
      (wE_mono (callW_mono P k) (fun c S1 h1 => lx (Ev.refl m) hS hV h1) _ (fun _ _ h => h) h)
theorem s_setT {is : List Nat} (xo : XO P cl X k o W) (hn : TgOk X (.tp is) tg) (hs : swapsWith ex (some tg) pos.line X.env = pure false) (hw : swappedStores [tg] ex X.env = pure none) (ha : (assignEach [tg] X.env).map (·.2) = [assign tg X.env]) (he : PE X ex (tE P cl k X W e)) : PS X (.Assign [tg] ex pos) (tSt P cl k X W (.setT is e)) :=
  PS.imp (ps_asg he (hn.pg xo.nd xo.calm) hs hw ha) fun D σ H ⟨m, env, S, hK, eH, hS, hV, h⟩ => by
    subst eH
    simp only [wS] at h
    refine sE_of hK hS hV (Ev.refl m) h fun m1 x S1 v e1 hS1 r1 hV1 h1 => ?_
    exact tG_of (e1.k.trans hK) r1 hV1 h1 fun env' xs h2 hV2 => h2 m1 _ e1 hS1 hV2
theorem s_par {i j : Nat} {x y : Str} {ea eb : Expr} {es' : Es} {px py pt : Pos} {kt k2 pt2} (xo : XO P cl X k o W) (hi : X.N[i]? = some x) (hj : X.N[j]? = some y) (hij : i ≠ j)
    (hx : X.env.scope.names.lookup x = some .local) (hy : X.env.scope.names.lookup y = some .local) (ha : PA X [ea, eb] (tEs P cl k X W es'))
    (hw : swappedStores [.Tuple [.Name x px, .Name y py] kt pt] (.Tuple [ea, eb] k2 pt2) X.env = pure (some [x, y])) :
    PS X (.Assign [.Tuple [.Name x px, .Name y py] kt pt] (.Tuple [ea, eb] k2 pt2) pos) (tSt P cl k X W (.par [i, j] es')) :=
  PS.imp (ps_par xo.calm xo.nd hi hj hij hx hy ha hw) fun D σ H ⟨m, env, S, hK, eH, hS, hV, h⟩ => by
    subst eH
    simp only [wS] at h
    refine sEs_of hK hS hV (Ev.refl m) h fun m1 x S1 v e1 hS1 r1 hV1 h1 => ?_
    obtain ⟨hl, h1⟩ := h1
    cases r1 with
    | nil => cases hl
    | cons ra r1 =>
      cases r1 with
      | nil => cases hl
      | cons rb r1 =>
        cases r1 with
        | nil => exact ⟨_, _, rfl, h1 m1 _ e1 hS1 ((hV1.set ra).set rb)⟩
        | cons _ _ => simp at hl
theorem s_setI {oo i : E} {eo ei : Expr} {p2 : Pos} (xo : XO P cl X k o W) (hi : plainIx ei = true) (hc : notComp ex = true) (ho : PE X eo (tE P cl k X W oo)) (hx : PE X ei (tE P cl k X W i)) (he : PE X ex (tE P cl k X W e)) : PS X (.Assign [.Subscript eo ei p2] ex pos) (tSt P cl k X W (.setI oo i e)) :=
  PS.imp (ps_asg he (pg_sub ho hx (set_ok (cl := cl) xo.u1) (by cases ei <;> first | (intro _; rfl) | cases hi)) (by simpa only [swapsWithSole] using noswap (e := ex) (t := some (.Subscript eo ei p2)) (l := pos.line) (env := X.env) hc) (by cases ex <;> rfl)) fun D σ H ⟨m, env, S, hK, eH, hS, hV, h⟩ => by
    subst eH
    simp only [wS] at h
    refine sE_of hK hS hV (Ev.refl m) h fun m1 x S1 v e1 hS1 r1 hV1 h1 => ?_
    refine sE_of (e1.k.trans hK) hS1 hV1 e1 h1 fun m2 y S2 w e2 hS2 r2 hV2 h2 => ?_
    refine sE_of ((e1.trans e2).k.trans hK) hS2 hV2 (e1.trans e2) h2 fun m3 z S3 u e3 hS3 r3 hV3 h3 => ?_
    have e13 := (e1.trans e2).trans e3
    exact ⟨m3, S3, w, u, v, e13.k.trans hK, rfl, hS3, r2.up (e3.up hS2), r3, r1.up ((e2.trans e3).up hS1), setW_mono (fun S4 h4 m' e4 hS4 => h4 m' σ (e13.trans e4) hS4 (hV3.up (e4.up hS3))) h3⟩
theorem s_setF {oo : E} {eo : Expr} {f : String} (xo : XO P cl X k o W) (hf : f ∈ P.flds) (hc : swapsWith ex (some (.Attribute eo (Str.ofString f) p')) pos.line X.env = pure false) (ho : PE X eo (tE P cl k X W oo)) (he : PE X ex (tE P cl k X W e)) : PS X (.Assign [.Attribute eo (Str.ofString f) p'] ex pos) (tSt P cl k X W (.setF oo f e)) :=
  PS.imp (ps_fld ho he hc) fun D σ H ⟨m, env, S, hK, eH, hS, hV, h⟩ => by
    subst eH
    simp only [wS] at h
    refine sE_of hK hS hV (Ev.refl m) h fun m1 x S1 v e1 hS1 r1 hV1 h1 => ?_
    refine sE_of (e1.k.trans hK) hS1 hV1 e1 h1 fun m2 y S2 w e2 hS2 r2 hV2 h2 => ?_
    obtain ⟨n, c, fs, rfl, h3, h4, h5⟩ := h2
    cases r2 with
    | @ref _ y hy =>
    obtain ⟨C, dx, gs, hy2, hC, rf⟩ := hS2.ob n _ y h3 hy
    have r1' := r1.up (e2.up hS1)
    have e3 : Ev m2 { m2 with H := upd m2.H y (.ins C dx (L2.putF (Str.ofString f) x gs)) } := Ev.write hy hy2
    have hS3 : SH cl { m2 with H := upd m2.H y (.ins C dx (L2.putF (Str.ofString f) x gs)) } (S2.set n (.ins c (putF f v fs))) := hS2.write hy hy2 ⟨C, dx, _, upd_same, hC, (rf.put f r1').up (e3.up hS2)⟩
    exact ⟨y, C, dx, gs, rfl, hy2, (xo.ln.clc c C hC).2, xo.ln.fld c C hC f hf, by rw [← rf.length]; exact h4, h5 _ σ ((e1.trans e2).trans e3) hS3 (hV2.up (e3.up hS2))⟩
theorem s_aug {i : Nat} {x : Str} {op : Operator} (xo : XO P cl X k o W) (hn : NmOk X i (.Name x p')) (he : PE X ex (tE P cl k X W e)) : PS X (.AugAssign (.Name x p') op ex pos) (tSt P cl k X W (.aug i op e)) := by
  obtain ⟨x', pos', h0, h1, h2, h3⟩ := hn.ok
  cases h0
  refine PS.imp (ps_aug xo.nd h1 h2 he (opr_ibin (cl := cl) op) h3) fun D σ H ⟨m, env, S, hK, eH, hS, hV, h⟩ => ?_
  subst eH
  simp only [wS] at h
  obtain ⟨v, hv, h⟩ := h
  obtain ⟨x, hx, rx⟩ := hV.get hv
  refine ⟨x, hx, sE_of hK hS hV (Ev.refl m) h fun m1 y S1 w e1 hS1 r1 hV1 h1 => ?_⟩
  exact ⟨m1, S1, v, w, e1.k.trans hK, rfl, hS1, rx.up (e1.up hS), r1, ibinW_mono (fun z S2 h2 m2 y2 e2 hS2 r2 => h2 m2 _ (e1.trans e2) hS2 ((hV1.up (e2.up hS1)).set r2)) h1⟩
theorem s_augI {oo i : E} {eo ei : Expr} {p2 : Pos} {op : Operator} (xo : XO P cl X k o W) (hi : plainIx ei = true) (ho : PE X eo (tE P cl k X W oo)) (hx : PE X ei (tE P cl k X W i)) (he : PE X ex (tE P cl k X W e)) : PS X (.AugAssign (.Subscript eo ei p2) op ex pos) (tSt P cl k X W (.augI oo i op e)) :=
  PS.imp (ps_augS ho hx (get_ok (cl := cl) xo.u1) he (opr_ibin (cl := cl) op) (set_ok (cl := cl) xo.u1) (by cases ei <;> first | (intros; rfl) | cases hi)) fun D σ H ⟨m, env, S, hK, eH, hS, hV, h⟩ => by
    subst eH
    simp only [wS] at h
    refine sE_of hK hS hV (Ev.refl m) h fun m1 x S1 v e1 hS1 r1 hV1 h1 => ?_
    refine sE_of (e1.k.trans hK) hS1 hV1 e1 h1 fun m2 y S2 w e2 hS2 r2 hV2 h2 => ?_
    have e12 := e1.trans e2
    refine ⟨m2, S2, v, w, e12.k.trans hK, rfl, hS2, r1.up (e2.up hS1), r2, h2.1, subW_mono (fun old S3 h3 m3 z e3 hS3 r3 => ?_) h2.2⟩
    have e13 := e12.trans e3
    refine sE_of (e13.k.trans hK) hS3 (hV2.up (e3.up hS2)) e13 h3 fun m4 z4 S4 v4 e4 hS4 r4 hV4 h4 => ?_
    have e14 := e13.trans e4
    refine ⟨m4, S4, old, v4, e14.k.trans hK, rfl, hS4, r3.up (e4.up hS3), r4, ibinW_mono (fun r S5 h5 m5 z5 e5 hS5 r5 => ?_) h4⟩
    have e15 := e14.trans e5
    exact ⟨m5, S5, v, w, r, e15.k.trans hK, rfl, hS5, (((r1.up (e2.up hS1)).up (e3.up hS2)).up (e4.up hS3)).up (e5.up hS4), ((r2.up (e3.up hS2)).up (e4.up hS3)).up (e5.up hS4), r5, setW_mono (fun S6 h6 m' e6 hS6 => h6 m' σ (e15.trans e6) hS6 ((hV4.up (e5.up hS4)).up (e6.up hS5))) h5⟩
theorem s_augF {oo : E} {eo : Expr} {f : String} {op : Operator} (xo : XO P cl X k o W) (hf : f ∈ P.flds) (ho : PE X eo (tE P cl k X W oo)) (he : PE X ex (tE P cl k X W e)) : PS X (.AugAssign (.Attribute eo (Str.ofString f) p') op ex pos) (tSt P cl k X W (.augF oo f op e)) :=
  PS.imp (ps_fldaug ho he (opr_ibin (cl := cl) op)) fun D σ H ⟨m, env, S, hK, eH, hS, hV, h⟩ => by
    subst eH
    simp only [wS] at h
    refine sE_of hK hS hV (Ev.refl m) h fun m1 y S1 w e1 hS1 r1 hV1 h1 => ?_
    obtain ⟨n, c, fs, v, rfl, h3, h4, h5⟩ := h1
    cases r1 with
    | @ref _ y hy =>
    obtain ⟨C, dx, gs, hy2, hC, rf⟩ := hS1.ob n _ y h3 hy
    rcases rf.look f with ⟨v', x, q1, q2, q3⟩ | ⟨q, _⟩
    · rw [h4] at q1
      cases q1
      refine ⟨y, C, dx, gs, x, rfl, hy2, (xo.ln.clc c C hC).2, xo.ln.fld c C hC f hf, q2, ?_⟩
      refine sE_of (e1.k.trans hK) hS1 hV1 e1 h5 fun m2 z S2 u e2 hS2 r2 hV2 h6 => ?_
      refine ⟨m2, S2, v, u, (e1.trans e2).k.trans hK, rfl, hS2, q3.up (e2.up hS1), r2, ibinW_mono (fun r S3 h7 m3 z3 e3 hS3 r3 => ?_) h6⟩
      obtain ⟨fs', h8, h9, h10⟩ := h7
      have hy3 := em_get (e2.trans e3).em hy
      obtain ⟨C', dx', gs', hy4, hC', rf'⟩ := hS3.ob n _ y h8 hy3
      have hCC : C' = C := by
        have a1 := (xo.ln.clc c C hC).1
        have a2 := (xo.ln.clc c C' hC').1
        rw [a1] at a2
        cases a2
        rfl
      subst hCC
      have e4 : Ev m3 { m3 with H := upd m3.H y (.ins C' dx' (L2.putF (Str.ofString f) z3 gs')) } := Ev.write hy3 hy4
      have hS4 : SH cl { m3 with H := upd m3.H y (.ins C' dx' (L2.putF (Str.ofString f) z3 gs')) } (S3.set n (.ins c (putF f r fs'))) := hS3.write hy3 hy4 ⟨C', dx', _, upd_same, hC', (rf'.put f r3).up (e4.up hS3)⟩
      exact ⟨dx', gs', hy4, by rw [← rf'.length]; exact h9, h10 _ σ (((e1.trans e2).trans e3).trans e4) hS4 (hV2.up ((e3.trans e4).up hS2))⟩
    · rw [h4] at q; cases q
theorem s_expr (hc : notComp ex = true) (he : PE X ex (tE P cl k X W e)) : PS X (.Expr ex pos) (tSt P cl k X W (.expr e)) :=
  PS.imp (ps_expr he (noswap hc)) fun D σ H ⟨m, env, S, hK, eH, hS, hV, h⟩ => by
    subst eH
    simp only [wS] at h
    exact sE_of hK hS hV (Ev.refl m) h fun m1 x S1 v e1 hS1 r1 hV1 h1 => h1 m1 _ e1 hS1 hV1
theorem s_next (h : PS X st tNext) : PS X st (tSt P cl k X W .pass) :=
  PS.imp h fun D σ H ⟨m, env, S, hK, eH, hS, hV, h⟩ => by
    subst eH
    simp only [wS] at h
    exact h m _ (Ev.refl m) hS hV
theorem s_raise {c : String} {msg : Str} {j : Nat} {p p2 : Pos} (xo : XO P cl X k o W) (hg : Gl X (Str.ofString c)) (hdb : (Str.ofString c == ("__debug__" : Str)) = false) (hc : c ∈ P.excs) : PS X (.Raise (some (.Call (.Name (Str.ofString c) p) [.Constant (.str msg) j p2] [] p')) none pos) (tSt P cl k X W (.raise c)) := by
  obtain ⟨C, g, q, kp, sb, ty⟩ := xo.ln.exc c hc
  refine PS.imp (ps_raise xo.calm xo.tk (pmk_own PySem.F.excBase_ValueError q g kp (raises_own sb ty) hg hdb)) fun D σ H ⟨m, env, S, hK, eH, hS, hV, h⟩ => ?_
  subst eH
  simp only [wS] at h
  exact h m σ none C (Ev.refl m) hS hV g
theorem s_lck {i : Nat} (hs : PS X st (tSt P cl k X W s)) : PS X st (tSt P cl k X W (.lck i s)) :=
  PS.imp (ps_lock hs) fun D σ H ⟨m, env, S, hK, eH, hS, hV, h⟩ => by
    subst eH
    simp only [wS] at h
    obtain ⟨n, kvs, h1, h2, h3⟩ := h
    obtain ⟨v, hv, rv⟩ := hV.get h1
    cases rv with
    | @ref _ a ha =>
    obtain ⟨ws, h4, r⟩ := hS.ob n _ a h2 ha
    refine ⟨a, _, h4, trivial, fun od => ?_⟩
    obtain ⟨e1, hS1⟩ := lock_sh (od := od) hS ha h4 r
    refine ⟨{ m with H := upd m.H a (.frz od (.dK ws)) }, env, _, hK, rfl, hS1, hV.up (e1.up hS), wS_mono (callW_mono P k) s (fun _ _ _ h => liftXS.ev e1 h) ⟨fun env' S' h m' σ' e' hS' hV' => ?_, fun v S' h m' x e' hS' r' => ?_, fun env' S' h m' σ' e' hS' hV' => ?_⟩ h3⟩
    · obtain ⟨h6, up, e3, hS3⟩ := unlock_sh ha h4 e' hS' h.1
      exact ⟨h6, h.2 _ σ' e3 hS3 (hV'.up up)⟩
    · obtain ⟨h6, up, e3, hS3⟩ := unlock_sh ha h4 e' hS' h.1
      exact ⟨h6, h.2 _ x e3 hS3 (r'.up up)⟩
    · obtain ⟨h6, up, e3, hS3⟩ := unlock_sh ha h4 e' hS' h.1
      exact ⟨h6, h.2 _ σ' e3 hS3 (hV'.up up)⟩
theorem s_cont : PS X (.Continue pos) (tSt P cl k X W .cont) :=
  PS.imp ps_continue fun D σ H ⟨m, env, S, hK, eH, hS, hV, h⟩ => by
    subst eH
    simp only [wS] at h
    exact h m _ (Ev.refl m) hS hV
theorem s_ret (he : PE X ex (tE P cl k X W e)) : PS X (.Return (some ex) pos) (tSt P cl k X W (.ret e)) :=
  PS.imp (ps_ret he) fun D σ H ⟨m, env, S, hK, eH, hS, hV, h⟩ => by
    subst eH
    simp only [wS] at h
    exact sE_of hK hS hV (Ev.refl m) h fun m1 x S1 v e1 hS1 r1 hV1 h1 => h1 m1 _ e1 hS1 r1
theorem s_retN : PS X (.Return none pos) (tSt P cl k X W .retN) :=
  PS.imp ps_retN fun D σ H ⟨m, env, S, hK, eH, hS, hV, h⟩ => by
    subst eH
    simp only [wS] at h
    exact h m _ (Ev.refl m) hS .non
variable {sa sb : Sts} {xa xb : List Stmt} {t : T}
theorem s_if (hc : PT X ex (tTs P cl k X W t)) (ha : PSs X xa (tSts P cl k X W sa)) (hb : PSs X xb (tSts P cl k X W sb)) : PS X (.If ex xa xb pos) (tSt P cl k X W (.ife t sa sb)) :=
  PS.imp (ps_if hc ha hb) fun D σ H ⟨m, env, S, hK, eH, hS, hV, h⟩ => by
    subst eH
    simp only [wS] at h
    refine sT_of hK hS hV (Ev.refl m) h fun m1 S1 b e1 hS1 hV1 h1 => ?_
    cases b with
    | true =>
      simp only [if_true] at h1 ⊢
      exact ⟨m1, env, S1, e1.k.trans hK, rfl, hS1, hV1, wSs_mono (callW_mono P k) sa (fun _ _ _ h => liftXS.ev e1 h) (liftD.ev e1) h1⟩
    | false =>
      simp only [Bool.false_eq_true, if_false] at h1 ⊢
      exact ⟨m1, env, S1, e1.k.trans hK, rfl, hS1, hV1, wSs_mono (callW_mono P k) sb (fun _ _ _ h => liftXS.ev e1 h) (liftD.ev e1) h1⟩
theorem s_while (xs : XSt P cl X k o W) (hc : PT X ex (tTs P cl k X W t)) (ha : PSs X xa (tSts P cl k X W sa)) : PS X (.While ex xa [] pos) (tSt P cl k X W (.while t sa)) :=
  PS.imp (ps_while xs.po hc ha) fun D σ H ⟨m, env, S, hK, eH, hS, hV, h⟩ => by
    subst eH
    simp only [wS] at h
    obtain ⟨n, h⟩ := h
    let wN : Nat → Env → Hm → Prop := whileN (fun env S K => wT P.con (callW P k) (fun c S' => liftXS cl X.mg m W c env S') t env S K) (wSs P.con P.sub (callW P k) sa (liftXS cl X.mg m W)) (liftD cl m D)
    refine ⟨fun μ σ' H' => ∃ m1 env1 S1, m1.K = X.K ∧ m1.H = H' ∧ Ev m m1 ∧ SH cl m1 S1 ∧ SV m1 env1 σ' ∧ wN μ env1 S1, ⟨n, m, env, S, hK, rfl, Ev.refl m, hS, hV, h⟩, ?_⟩
    rintro μ σ1 H1 ⟨m1, env1, S1, hK1, rfl, e1, hS1, hV1, h1⟩
    cases μ with
    | zero => exact h1.elim
    | succ μ =>
      refine sT_of hK1 hS1 hV1 e1 h1 fun m2 S2 b e2 hS2 hV2 h2 => ?_
      have e12 := e1.trans e2
      cases b with
      | false =>
        simp only [Bool.false_eq_true, if_false] at h2 ⊢
        exact h2 m2 _ e12 hS2 hV2
      | true =>
        simp only [if_true] at h2 ⊢
        refine ⟨fun σ' H' => ∃ m1 env1 S1, m1.K = X.K ∧ m1.H = H' ∧ Ev m m1 ∧ SH cl m1 S1 ∧ SV m1 env1 σ' ∧ wN μ env1 S1, fun σ' H' hn => ⟨μ, Nat.lt_succ_self _, hn⟩, ?_⟩
        refine ⟨m2, env1, S2, e2.k.trans hK1, rfl, hS2, hV2, wSs_mono (callW_mono P k) sa (fun _ _ _ h => liftXS.ev e12 h) ⟨fun env3 S3 h3 m3 σ3 e3 hS3 hV3 => ?_, fun _ _ h => liftQ.ev e12 (fun _ _ _ q => q) h, fun env3 S3 h3 m3 σ3 e3 hS3 hV3 => ?_⟩ h2⟩
        · exact ⟨m3, env3, S3, (e12.trans e3).k.trans hK, rfl, e12.trans e3, hS3, hV3, h3⟩
        · exact ⟨m3, env3, S3, (e12.trans e3).k.trans hK, rfl, e12.trans e3, hS3, hV3, h3⟩
theorem forL_guard {tg : Tg} {g : Hm → Prop} {body : Mi.Sp → Env → Hm → Prop} {D : Mi.Sp} {vs : List Val} {env : Env} {S : Hm} (h : forL tg g body D vs env S) : g S := by
  cases vs <;> exact h.1
theorem s_for {tgt : Tg} {src : Src} (xs : XSt P cl X k o W) (hi : PI X tg iter (tSrc P cl k X W src)) (hfold : ∀ x, foldedSetIterable iter X.env x = pure x) (ht : TgOk X tgt tg) (ha : PSs X xa (tSts P cl k X W sa)) : PS X (.For tg iter xa [] pos) (tSt P cl k X W (.for tgt src sa)) :=
  PS.imp (ps_for xs.po xs.xo.calm hi (PG.pre (ht.pg xs.xo.nd xs.xo.calm)) ha hfold) fun D σ H ⟨m, env, S, hK, eH, hS, hV, h⟩ => by
    subst eH
    simp only [wS] at h
    refine sSrc_of hK hS hV (Ev.refl m) h fun m1 J S1 items g e1 hS1 ok hV1 h1 => ?_
    have hK1 := e1.k.trans hK
    let fL : List Val → Env → Hm → Prop := forL tgt g (wSs P.con P.sub (callW P k) sa (liftXS cl X.mg m W)) (liftD cl m D)
    let LW : Nat → L2.St → Hp → Prop := fun i σ' H' => ∃ m2 env2 S2, m2.K = X.K ∧ m2.H = H' ∧ Ev m1 m2 ∧ SH cl m2 S2 ∧ SV m2 env2 σ' ∧ fL (items.drop i) env2 S2
    refine ⟨fun i μ σ' H' => μ = items.length - i ∧ i ≤ items.length ∧ LW i σ' H', ⟨items.length, by simp, Nat.zero_le _, m1, env, S1, hK1, rfl, Ev.refl m1, hS1, hV1, h1⟩, ?_⟩
    rintro i μ σ2 H2 ⟨rfl, hi, m2, env2, S2, hK2, rfl, e2, hS2, hV2, h2⟩
    have hg : g S2 := forL_guard h2
    have e12 := e1.trans e2
    by_cases he : i = items.length
    · refine .inl ⟨ok.stop i m2 S2 e2 hS2 hg (by omega), ?_⟩
      rw [List.drop_eq_nil_of_le (by omega)] at h2
      exact h2.2 m2 _ e12 hS2 hV2
    · have hlt : i < items.length := by omega
      refine .inr ⟨ok.go i m2 S2 items[i] e2 hS2 hg (List.getElem?_eq_getElem hlt), LW (i + 1), fun σ' H' lw => ⟨items.length - (i + 1), by omega, rfl, by omega, lw⟩, fun x H' y kf => ?_⟩
      rw [List.drop_eq_getElem_cons hlt] at h2
      obtain ⟨_, h2⟩ := h2
      obtain ⟨m3, rfl, e3, hS3, rv⟩ := ok.yld i m2 S2 items[i] x H' e2 hS2 hg (List.getElem?_eq_getElem hlt) y (by rw [hK2]; exact kf)
      have e13 := e12.trans e3
      refine tG_of (e13.k.trans hK) rv (hV2.up (e3.up hS2)) h2 fun env4 xs4 h4 hV4 => ?_
      refine ⟨m3, env4, S2, e13.k.trans hK, rfl, hS3, hV4, wSs_mono (callW_mono P k) sa (fun _ _ _ h => liftXS.ev e13 h) ⟨fun env5 S5 h5 m5 σ5 e5 hS5 hV5 => ?_, fun _ _ h => liftQ.ev e13 (fun _ _ _ q => q) h, fun env5 S5 h5 m5 σ5 e5 hS5 hV5 => ?_⟩ h4⟩
      · exact ⟨m5, env5, S5, (e13.trans e5).k.trans hK, rfl, (e2.trans e3).trans e5, hS5, hV5, h5⟩
      · exact ⟨m5, env5, S5, (e13.trans e5).k.trans hK, rfl, (e2.trans e3).trans e5, hS5, hV5, h5⟩
end
end Mi

set_option maxHeartbeats 4000000
namespace Mi
open PySem PySem.Spec L2 PyProof.Rows
/-! ### statements, checked -/
/-- how a comprehension's value is stored: 1: the name is a local on its line; 2: it is a cell -/
def lcSet (o : Ko) (x : Str) (p' : Pos) (ex : Expr) : Nat := match ex with
  | .ListComp _ _ scope cpos => if decide (o.sc.names.lookup x = some .local) && (p'.line == cpos.line) && !(scope.names.any fun (n, k) => n == x && (k == .local || k == .cell)) then 1 else if decide (o.sc.names.lookup x = some .cell) then 2 else 0
  | _ => 0
def isLck : E → Bool
  | .lck _ _ => true
  | _ => false
def notTup : Expr → Bool
  | .Tuple .. => false
  | _ => true
def isDoc : Expr → Bool
  | .Constant (.str _) _ _ => true
  | _ => false
section
variable (P : Pg)
mutual
def chkS : Ko → Mi.St → Stmt → Bool
  | o, .set i e, st => match st with
    | .Assign [.Name x p'] ex pos => nmB o i (.Name x p') && chkE P o e ex && (notComp ex || (!isLck e && decide (lcSet o x p' ex ≠ 0)))
    | _ => false
  | o, .setT is e, st => match st with
    | .Assign [.Tuple es k p] ex pos => nmsB o is es && chkE P o e ex && notComp ex && notTup ex
    | _ => false
  | o, .par is es, st => match st with
    | .Assign [.Tuple [.Name x px, .Name y py] kt pt] (.Tuple [ea, eb] k2 pt2) pos => (match is with
      | [i, j] => decide (o.N[i]? = some x) && decide (o.N[j]? = some y) && decide (i ≠ j) && decide (x ≠ y) && decide (o.sc.names.lookup x = some .local) && decide (o.sc.names.lookup y = some .local) && (px.line == py.line) && notStar ea && notStar eb &&
          !([ea, eb].all (foldedForSure 8)) && !([ea, eb].all (constantsAlone 8)) && chkEs P o es [ea, eb]
      | _ => false)
    | _ => false
  | o, .setI a i e, st => match st with
    | .Assign [.Subscript eo ei _] ex _ => plainIx ei && notComp ex && chkE P o a eo && chkE P o i ei && chkE P o e ex
    | _ => false
  | o, .setF a f e, st => match st with
    | .Assign [.Attribute eo x p'] ex _ => nmEq f x && P.flds.contains f && chkE P o a eo && chkE P o e ex
    | _ => false
  | o, .aug i op e, st => match st with
    | .AugAssign (.Name x p') op' ex _ => decide (op = op') && nmB o i (.Name x p') && chkE P o e ex
    | _ => false
  | o, .augI a i op e, st => match st with
    | .AugAssign (.Subscript eo ei _) op' ex _ => decide (op = op') && plainIx ei && chkE P o a eo && chkE P o i ei && chkE P o e ex
    | _ => false
  | o, .augF a f op e, st => match st with
    | .AugAssign (.Attribute eo x _) op' ex _ => decide (op = op') && nmEq f x && P.flds.contains f && chkE P o a eo && chkE P o e ex
    | _ => false
  | o, .expr e, st => match st with
    | .Expr ex _ => notComp ex && chkE P o e ex
    | _ => false
  | o, .ret e, st => match st with
    | .Return (some ex) _ => chkE P o e ex
    | _ => false
  | o, .retN, st => match st with
    | .Return none _ => true
    | _ => false
  | o, .ife c a b, st => match st with
    | .If ex xa xb _ => chkT P o c ex && chkSs o a xa && chkSs o b xb
    | _ => false
  | o, .for tg src body, st => match st with
    | .For etg iter xa [] _ => tgB o tg etg && notSet iter && chkSrc P o src etg iter && chkSs o body xa
    | _ => false
  | o, .while c body, st => match st with
    | .While ex xa [] _ => chkT P o c ex && chkSs o body xa
    | _ => false
  | o, .raise c, st => match st with
    | .Raise (some (.Call (.Name x _) [.Constant (.str _) _ _] [] _)) none _ => nmEq c x && glB o.sc x && ndb x && P.excs.contains c
    | _ => false
  | _, .try _ _ _, _ => false
  | o, .cont, st => match st with
    | .Continue _ => true
    | _ => false
  | o, .pass, st => match st with
    | .Pass _ => true
    | .Expr ex _ => isDoc ex
    | _ => false
  | o, .lck _ s, st => chkS o s st
def chkSs : Ko → Sts → List Stmt → Bool
  | o, .nil, sts => match sts with
    | [] => true
    | _ => false
  | o, .cons s ss, sts => match sts with
    | st :: rest => chkS o s st && chkSs o ss rest
    | _ => false
end
end
section
variable {P : Pg} {cl : String → Addr → Prop} {k : Nat} {X : Cx} {W : WX} {o : Ko}
theorem lc_parts {e : E} {eelt : Expr} {gens : List Comprehension} {scope : Scope} {pos : Pos} (h : chkE P o e (.ListComp eelt gens scope pos) = true) (hl : isLck e = false) (xo : XO P cl X k o W) :
    ∃ elt tgt src cond own tg iter ifs, e = .lc elt tgt src cond own ∧ gens = [⟨tg, iter, ifs, 0⟩] ∧ PI X tg iter (tSrc P cl k X W src) ∧ (∀ x, foldedSetIterable iter X.env x = pure x) ∧ LcOk P cl k X elt tgt cond own eelt tg ifs scope := by
  cases e with
  | lc elt tgt src cond own =>
    simp only [chkE] at h
    split at h
    · rename_i x1 x2 x3 x4 x5 x6 x7 heq
      cases heq
      simp only [Bool.and_eq_true, beq_iff_eq] at h
      obtain ⟨⟨⟨⟨⟨⟨⟨rfl, h1⟩, h2⟩, h3⟩, h4⟩, h5⟩, h6⟩, h7⟩ := h
      refine ⟨elt, tgt, src, cond, own, _, _, _, rfl, rfl, chkSrc_ok src h4 xo, folded_of (by revert h1; unfold notSet; split <;> simp), ⟨?_, ?_, fun s H C c fp => ?_, fun s H C c fp => ?_, fun s H C c fp => ?_⟩⟩
      · rw [xo.nn, xo.sc]
        exact blkOk_by h2
      · intro i hi
        rw [List.all_eq_true] at h3
        simpa using h3 i hi
      · exact tgB_of (xo.lc scope s H C c fp) h5
      · exact chkOt_ok cond h6 (xo.lc scope s H C c fp)
      · exact (chkE_ok elt h7 (xo.lc scope s H C c fp)).1
    · cases h
  | lck _ _ => cases hl
  | not a => unfold chkE at h; simp at h
  | vi f es => unfold chkE at h; split at h <;> first | (cases h; done) | (simp at h; done)
  | _ => simp [chkE] at h
theorem sw_cell {elt : Expr} {gs : List Comprehension} {scope : Scope} {pos py : Pos} {y : Str} {l : Nat} {env : PySem.Env} (hy : env.scope.names.lookup y = some .cell) : swapsWith (.ListComp elt gs scope pos) (some (.Name y py)) l env = pure false := by
  have ky : env.kindOf y = some .cell := hy
  unfold swapsWith
  simp only [ky]
  have e1 : ((some NameKind.cell : Option NameKind) == some .local) = false := by decide
  simp only [e1, Bool.and_false, Bool.false_and]
theorem sw_fld {ex eo : Expr} {f : Str} {p : Pos} {l : Nat} {env : PySem.Env} : swapsWith ex (some (.Attribute eo f p)) l env = pure false := by cases ex <;> rfl
theorem sw_tup {ex : Expr} {es : List Expr} {kk : Nat} {p : Pos} {l : Nat} {env : PySem.Env} : swapsWith ex (some (.Tuple es kk p)) l env = pure false := by cases ex <;> rfl
theorem stores_none {ex : Expr} {es : List Expr} {kk : Nat} {p : Pos} {env : PySem.Env} (h : notTup ex = true) : swappedStores [.Tuple es kk p] ex env = pure none := by cases ex <;> first | rfl | cases h
theorem stores_two {x y : Str} {px py pt pt2 : Pos} {kt k2 : Nat} {ea eb : Expr} {env : PySem.Env} (hb : env.scope.kind = .function) (hx : env.scope.names.lookup x = some .local) (hy : env.scope.names.lookup y = some .local) (hl : (px.line == py.line) = true) (hne : x ≠ y)
    (s1 : notStar ea = true) (s2 : notStar eb = true) (hf : [ea, eb].all (foldedForSure 8) = false) (hc : [ea, eb].all (constantsAlone 8) = false) : swappedStores [.Tuple [.Name x px, .Name y py] kt pt] (.Tuple [ea, eb] k2 pt2) env = pure (some [x, y]) := by
  have kx : env.kindOf x = some .local := hx
  have ky : env.kindOf y = some .local := hy
  have hbk : env.blockKind = .function := by unfold Env.blockKind; rw [hb]; rfl
  have hl' : py.line = px.line := (beq_iff_eq.mp hl).symm
  have hyx : ¬ y = x := fun e => hne e.symm
  have ed : [x, y].eraseDups = [x, y] := by
    simp [List.eraseDups_cons, hyx]
  unfold swappedStores
  simp only [hbk]
  rw [if_neg (show ¬ ((!([Expr.Name x px, Expr.Name y py].length == 2 || [Expr.Name x px, Expr.Name y py].length == 3) || [ea, eb].length != [Expr.Name x px, Expr.Name y py].length || ScopeKind.function != ScopeKind.function) = true) from Bool.false_ne_true), if_neg (by
    simp only [List.any_cons, List.any_nil, Bool.or_false, Bool.or_eq_true, not_or]
    exact ⟨by cases ea <;> first | exact Bool.false_ne_true | exact (Bool.false_ne_true s1).elim, by cases eb <;> first | exact Bool.false_ne_true | exact (Bool.false_ne_true s2).elim⟩)]
  simp only [List.filterMap_cons, List.filterMap_nil, Option.map_some, List.head?_cons, Option.getD_some, Expr.pos, kx, ky, hl', beq_self_eq_true, Bool.and_self, if_true, ed, hf, hc]
  rfl
mutual
theorem chkS_ok : ∀ (s : Mi.St) {o : Ko} {st : Stmt}, chkS P o s st = true → ∀ {X : Cx} {k : Nat} {W : WX}, XSt P cl X k o W → PS X st (tSt P cl k X W s)
  | .set i e, o, st, h, X, k, W, xs => by
    simp only [chkS] at h
    split at h
    · rename_i x p' ex pos
      simp only [Bool.and_eq_true, Bool.or_eq_true, decide_eq_true_eq, Bool.not_eq_true'] at h
      obtain ⟨⟨h1, h2⟩, h3⟩ := h
      have nm := nmB_of xs.xo h1
      rcases h3 with h3 | ⟨hnl, h3⟩
      · exact s_set xs.xo nm (noswap h3) (chkE_ok e h2 xs.xo).1
      · unfold lcSet at h3
        split at h3
        · rename_i eelt gens scope cpos
          split at h3
          · rename_i hc
            simp only [Bool.and_eq_true, decide_eq_true_eq, Bool.not_eq_true'] at hc
            obtain ⟨⟨c1, c2⟩, c3⟩ := hc
            obtain ⟨elt, tgt, src, cond, own, tg, iter, ifs, rfl, rfl, hsrc, hf, L⟩ := lc_parts h2 hnl xs.xo
            obtain ⟨x', pos', e0, n1, n2, n3⟩ := nm.ok
            cases e0
            have hl : X.env.scope.names.lookup x = some .local := by rw [xs.xo.sc]; exact c1
            exact s_setLc xs.xo n1 hl (sw_true (by rw [xs.xo.sc]; exact xs.fk) hl c2 c3) hsrc hf L
          · split at h3
            · rename_i hc
              have hc := of_decide_eq_true hc
              exact s_set xs.xo nm (sw_cell (by rw [xs.xo.sc]; exact hc)) (chkE_ok e h2 xs.xo).1
            · exact absurd rfl h3
        · exact absurd rfl h3
    · cases h
  | .setT is e, o, st, h, X, k, W, xs => by
    simp only [chkS] at h
    split at h
    · simp only [Bool.and_eq_true] at h
      obtain ⟨⟨⟨h1, h2⟩, h3⟩, h4⟩ := h
      exact s_setT xs.xo (.tp (nmsB_of xs.xo h1)) (noswap h3) (stores_none h4) rfl (chkE_ok e h2 xs.xo).1
    · cases h
  | .par is es, o, st, h, X, k, W, xs => by
    simp only [chkS] at h
    split at h
    · split at h
      · simp only [Bool.and_eq_true, decide_eq_true_eq, Bool.not_eq_true'] at h
        obtain ⟨⟨⟨⟨⟨⟨⟨⟨⟨⟨⟨h1, h2⟩, h3⟩, h4⟩, h5⟩, h6⟩, h7⟩, h8⟩, h9⟩, h10⟩, h11⟩, h12⟩ := h
        exact s_par xs.xo (by rw [xs.xo.nn]; exact h1) (by rw [xs.xo.nn]; exact h2) h3 (by rw [xs.xo.sc]; exact h5) (by rw [xs.xo.sc]; exact h6) (chkEs_ok es h12 xs.xo) (stores_two (by rw [xs.xo.sc]; exact xs.fk) (by rw [xs.xo.sc]; exact h5) (by rw [xs.xo.sc]; exact h6) h7 h4 h8 h9 h10 h11)
      · cases h
    · cases h
  | .setI a i e, o, st, h, X, k, W, xs => by
    simp only [chkS] at h
    split at h
    · simp only [Bool.and_eq_true] at h
      obtain ⟨⟨⟨⟨h1, h2⟩, h3⟩, h4⟩, h5⟩ := h
      exact s_setI xs.xo h1 h2 (chkE_ok a h3 xs.xo).1 (chkE_ok i h4 xs.xo).1 (chkE_ok e h5 xs.xo).1
    · cases h
  | .setF a f e, o, st, h, X, k, W, xs => by
    simp only [chkS] at h
    split at h
    · simp only [Bool.and_eq_true] at h
      obtain ⟨⟨⟨h1, h2⟩, h3⟩, h4⟩ := h
      have := nm_of h1
      subst this
      exact s_setF xs.xo (by simpa using h2) sw_fld (chkE_ok a h3 xs.xo).1 (chkE_ok e h4 xs.xo).1
    · cases h
  | .aug i op e, o, st, h, X, k, W, xs => by
    simp only [chkS] at h
    split at h
    · simp only [Bool.and_eq_true, decide_eq_true_eq] at h
      obtain ⟨⟨rfl, h2⟩, h3⟩ := h
      exact s_aug xs.xo (nmB_of xs.xo h2) (chkE_ok e h3 xs.xo).1
    · cases h
  | .augI a i op e, o, st, h, X, k, W, xs => by
    simp only [chkS] at h
    split at h
    · simp only [Bool.and_eq_true, decide_eq_true_eq] at h
      obtain ⟨⟨⟨⟨rfl, h1⟩, h2⟩, h3⟩, h4⟩ := h
      exact s_augI xs.xo h1 (chkE_ok a h2 xs.xo).1 (chkE_ok i h3 xs.xo).1 (chkE_ok e h4 xs.xo).1
    · cases h
  | .augF a f op e, o, st, h, X, k, W, xs => by
    simp only [chkS] at h
    split at h
    · simp only [Bool.and_eq_true, decide_eq_true_eq] at h
      obtain ⟨⟨⟨⟨rfl, h1⟩, h2⟩, h3⟩, h4⟩ := h
      have := nm_of h1
      subst this
      exact s_augF xs.xo (by simpa using h2) (chkE_ok a h3 xs.xo).1 (chkE_ok e h4 xs.xo).1
    · cases h
  | .expr e, o, st, h, X, k, W, xs => by
    simp only [chkS] at h
    split at h
    · simp only [Bool.and_eq_true] at h
      exact s_expr h.1 (chkE_ok e h.2 xs.xo).1
    · cases h
  | .ret e, o, st, h, X, k, W, xs => by
    simp only [chkS] at h
    split at h
    · exact s_ret (chkE_ok e h xs.xo).1
    · cases h
  | .retN, o, st, h, X, k, W, xs => by
    simp only [chkS] at h
    split at h
    · exact s_retN
    · cases h
  | .ife c a b, o, st, h, X, k, W, xs => by
    simp only [chkS] at h
    split at h
    · simp only [Bool.and_eq_true] at h
      exact s_if (chkT_ok c h.1.1 xs.xo).1 (chkSs_ok a h.1.2 xs) (chkSs_ok b h.2 xs)
    · cases h
  | .for tg src body, o, st, h, X, k, W, xs => by
    simp only [chkS] at h
    split at h
    · simp only [Bool.and_eq_true] at h
      obtain ⟨⟨⟨h1, h2⟩, h3⟩, h4⟩ := h
      exact s_for xs (chkSrc_ok src h3 xs.xo) (folded_of (by revert h2; unfold notSet; split <;> simp)) (tgB_of xs.xo h1) (chkSs_ok body h4 xs)
    · cases h
  | .while c body, o, st, h, X, k, W, xs => by
    simp only [chkS] at h
    split at h
    · simp only [Bool.and_eq_true] at h
      exact s_while xs (chkT_ok c h.1 xs.xo).1 (chkSs_ok body h.2 xs)
    · cases h
  | .raise c, o, st, h, X, k, W, xs => by
    simp only [chkS] at h
    split at h
    · simp only [Bool.and_eq_true] at h
      obtain ⟨⟨⟨h1, h2⟩, h3⟩, h4⟩ := h
      have := nm_of h1
      subst this
      exact s_raise xs.xo (gl_of xs.xo h2) (ndb_of h3) (by simpa using h4)
    · cases h
  | .try _ _ _, o, st, h, X, k, W, xs => by simp [chkS] at h
  | .cont, o, st, h, X, k, W, xs => by
    simp only [chkS] at h
    split at h
    · exact s_cont
    · cases h
  | .pass, o, st, h, X, k, W, xs => by
    simp only [chkS] at h
    split at h
    · exact s_next ps_pass
    · unfold isDoc at h
      split at h
      · exact s_next ps_doc
      · cases h
    · cases h
  | .lck i s, o, st, h, X, k, W, xs => by
    simp only [chkS] at h
    exact s_lck (chkS_ok s h xs)
theorem chkSs_ok : ∀ (ss : Sts) {o : Ko} {sts : List Stmt}, chkSs P o ss sts = true → ∀ {X : Cx} {k : Nat} {W : WX}, XSt P cl X k o W → PSs X sts (tSts P cl k X W ss)
  | .nil, o, sts, h, X, k, W, xs => by
    simp only [chkSs] at h
    split at h
    · exact ss_nil
    · cases h
  | .cons s ss, o, sts, h, X, k, W, xs => by
    simp only [chkSs] at h
    split at h
    · simp only [Bool.and_eq_true] at h
      exact ss_cons (chkS_ok s h.1 xs) (chkSs_ok ss h.2 xs)
    · cases h
end
end
end Mi

set_option maxHeartbeats 4000000
namespace Mi
open PySem PySem.Spec L2 PyProof.Rows
/-! ### defs -/
structure Rw where
  fk : FK
  d : FDef
  dd : He.DefD
def atOf : FK → Str × Option Str
  | .f x => (Str.ofString x, none)
  | .m c x => (Str.ofString c, some (Str.ofString x))
def Rw.N (r : Rw) : List Str := r.d.names.map Str.ofString
def Rw.ps (r : Rw) : List Str := r.N.take r.d.params
def scB (N ps : List Str) (sc : Scope) : Bool := decide (sc.kind = .function) && !sc.isCoroutine && !sc.isGenerator && decide N.Nodup && (ps.all fun x => locB sc x) && (sc.names.all fun y => decide (y.2 ≠ .free))
def dflB : List Lit → List He.Dv → Bool
  | [], [] => true
  | .non :: r, .non :: q => dflB r q
  | .bl b :: r, .bl c :: q => (b == c) && dflB r q
  | .int b :: r, .int c :: q => (b == c) && dflB r q
  | .str b :: r, .str c :: q => nmEq b c && dflB r q
  | _, _ => false
theorem dflB_of {K : PySem.W.Frag} : ∀ {ls : List Lit} {ds : List He.Dv}, dflB ls ds = true → ds.map (He.Dv.v K) = ls.map litV
  | [], [], _ => rfl
  | .non :: r, .non :: q, h => by simp only [dflB] at h; rw [List.map_cons, List.map_cons, dflB_of h]; rfl
  | .bl b :: r, .bl c :: q, h => by
    simp only [dflB, Bool.and_eq_true, beq_iff_eq] at h
    rw [List.map_cons, List.map_cons, dflB_of h.2, h.1]; rfl
  | .int b :: r, .int c :: q, h => by
    simp only [dflB, Bool.and_eq_true, beq_iff_eq] at h
    rw [List.map_cons, List.map_cons, dflB_of h.2, h.1]; rfl
  | .str b :: r, .str c :: q, h => by
    simp only [dflB, Bool.and_eq_true] at h
    rw [List.map_cons, List.map_cons, dflB_of h.2, nm_of h.1]; rfl
  | [], _ :: _, h => by cases h
  | l :: _, [], h => by cases l <;> cases h
  | .non :: _, .bl _ :: _, h | .non :: _, .int _ :: _, h | .non :: _, .str _ :: _, h | .non :: _, .byt _ :: _, h | .non :: _, .flt _ :: _, h | .non :: _, .ty _ :: _, h | .non :: _, .glo _ :: _, h | .non :: _, .adr _ :: _, h => by cases h
  | .bl _ :: _, .non :: _, h | .bl _ :: _, .int _ :: _, h | .bl _ :: _, .str _ :: _, h | .bl _ :: _, .byt _ :: _, h | .bl _ :: _, .flt _ :: _, h | .bl _ :: _, .ty _ :: _, h | .bl _ :: _, .glo _ :: _, h | .bl _ :: _, .adr _ :: _, h => by cases h
  | .int _ :: _, .non :: _, h | .int _ :: _, .bl _ :: _, h | .int _ :: _, .str _ :: _, h | .int _ :: _, .byt _ :: _, h | .int _ :: _, .flt _ :: _, h | .int _ :: _, .ty _ :: _, h | .int _ :: _, .glo _ :: _, h | .int _ :: _, .adr _ :: _, h => by cases h
  | .str _ :: _, .non :: _, h | .str _ :: _, .bl _ :: _, h | .str _ :: _, .int _ :: _, h | .str _ :: _, .byt _ :: _, h | .str _ :: _, .flt _ :: _, h | .str _ :: _, .ty _ :: _, h | .str _ :: _, .glo _ :: _, h | .str _ :: _, .adr _ :: _, h => by cases h
def Rw.ok (P : Pg) (r : Rw) : Bool := decide (r.dd.at_ = atOf r.fk) && scB r.N r.ps r.dd.scope && dflB r.d.dflt r.dd.dfl && r.dd.kwd.isEmpty && decide (r.d.dflt.length ≤ r.d.params) && decide (r.d.params ≤ r.d.names.length) && chkSs P ⟨r.N, r.dd.scope, fun _ => true⟩ r.d.body r.dd.body
/-- how its arguments bind -/
structure BindP (r : Rw) : Prop where
  none : r.dd.dfl = [] → ∀ (kV doc pm : Value) (an : Option Addr) (cdv ct : Value) (us : List Value), us.length = r.ps.length → bindArgs (PySem.W.fnOf r.dd.name r.dd.qual r.dd.params r.dd.body r.dd.scope .none kV doc pm an cdv ct) ⟨us, []⟩ = pure (r.ps.zip us)
  some : r.dd.dfl ≠ [] → ∀ j, j ≤ r.dd.dfl.length → ∀ (T : Addr) (kV doc pm : Value) (an : Option Addr) (cdv ct : Value) (us its : List Value), us.length + (r.dd.dfl.length - j) = r.ps.length → its.length = r.dd.dfl.length →
    ∃ k, bindArgs (PySem.W.fnOf r.dd.name r.dd.qual r.dd.params r.dd.body r.dd.scope (.ref T) kV doc pm an cdv ct) ⟨us, []⟩ = seqItems? (.ref T) >>= k ∧ k (some its.toArray) = pure (r.ps.zip (us ++ its.drop j))
theorem BindP.of0 {r : Rw} (h0 : r.dd.dfl = []) (h : ∀ (kV doc pm : Value) (an : Option Addr) (cdv ct : Value) (us : List Value), us.length = r.ps.length → bindArgs (PySem.W.fnOf r.dd.name r.dd.qual r.dd.params r.dd.body r.dd.scope .none kV doc pm an cdv ct) ⟨us, []⟩ = pure (r.ps.zip us)) : BindP r := ⟨fun _ => h, fun z => absurd h0 z⟩
section
variable {P : Pg} {cl : String → Addr → Prop} {prog : Program} {w : World} {K : PySem.W.Frag} {mg : Str → Option Value} {base : Heap} {k : Nat}
theorem start_sv {m : Sm} {d : FDef} {args : List Val} {vs : List V} {N : List Str} (r : RDs m args vs) (hN : N.length = d.names.length) (hl : args.length ≤ d.names.length) : SV m (startE d args) (L2.start N vs) := by
  have e := r.length
  refine ⟨by unfold startE L2.start; simp [hN, e], fun i v h => ?_⟩
  unfold startE at h
  unfold L2.start
  by_cases hi : i < args.length
  · rw [List.getElem?_append_left (by simpa using hi)] at h
    rw [List.getElem?_append_left (by simpa [← e] using hi)]
    rw [List.getElem?_map] at h ⊢
    cases q : args[i]? with
    | none => rw [q] at h; cases h
    | some u =>
      rw [q] at h
      cases h
      obtain ⟨x, h1, h2⟩ := r.get q
      exact ⟨x, by rw [h1]; rfl, h2⟩
  · rw [List.getElem?_append_right (by simpa using hi)] at h
    rw [List.getElem?_replicate] at h
    split at h <;> cases h
theorem Rw.parts {r : Rw} (h : r.ok P = true) : r.dd.at_ = atOf r.fk ∧ scB r.N r.ps r.dd.scope = true ∧ dflB r.d.dflt r.dd.dfl = true ∧ r.dd.kwd = [] ∧ r.d.dflt.length ≤ r.d.params ∧ r.d.params ≤ r.d.names.length ∧ chkSs P ⟨r.N, r.dd.scope, fun _ => true⟩ r.d.body r.dd.body = true := by
  unfold Rw.ok at h
  simp only [Bool.and_eq_true, decide_eq_true_eq, List.isEmpty_iff] at h
  obtain ⟨⟨⟨⟨⟨⟨h1, h2⟩, h3⟩, h4⟩, h5⟩, h6⟩, h7⟩ := h
  exact ⟨h1, h2, h3, h4, h5, h6, h7⟩
theorem Rw.psl {r : Rw} (h : r.ok P = true) : r.ps.length = r.d.params := by
  obtain ⟨_, _, _, _, _, h6, _⟩ := Rw.parts h
  unfold Rw.ps Rw.N
  rw [List.length_take, List.length_map]
  omega
theorem Rw.scope {r : Rw} (h : r.ok P = true) : FnScope r.N r.ps r.dd.scope := by
  obtain ⟨_, h2, _⟩ := Rw.parts h
  unfold scB at h2
  simp only [Bool.and_eq_true, decide_eq_true_eq, Bool.not_eq_true', List.all_eq_true] at h2
  obtain ⟨⟨⟨⟨⟨k1, k2⟩, k3⟩, k4⟩, k5⟩, k6⟩ := h2
  exact ⟨k1, k2, k3, k4, by rw [Rw.psl h]; rfl, fun x hx => loc_of (k5 x hx), fun y hy => k6 y hy⟩
theorem PSs.pre {X : Cx} {st : List Stmt} {t : TS} (h : PSs X st t) : PSs X st (fun D σ H => KF X.K H → t D σ H) := ⟨fun pins s σ H D I hw => h.run pins s σ H D I (hw (kfree I))⟩
/-- a def keeps its promise, if those below do -/
theorem row_ok {r : Rw} {fd : FuncData} {a : Addr} (hr : r.ok P = true) (F : FunD K r.dd.name r.dd.qual r.dd.params r.dd.body r.dd.scope (r.dd.dvs K) (r.dd.kws K) a fd) (ln : Ln P K mg cl) (li : LnI K cl) (fa : FnAll P cl prog w K mg base k) :
    FnOk prog w K mg base (L2.CX prog w) (k + 1) a fd r.ps (fun vs H Q E => vs.length = r.ps.length ∧ (KF K H → spF P cl K mg k r.d vs H Q E)) := by
  have S := Rw.scope hr
  obtain ⟨_, _, _, _, _, h6, h7⟩ := Rw.parts hr
  refine F.ok S (fun vs H Q E h => h.1) fun cdv A outer s H vs Q E hroom h => ?_
  generalize hX : cxOf (L2.CX prog w) prog w K mg base r.N r.dd.qual r.dd.scope a cdv A outer s H E = X
  have xs : XSt P cl X k ⟨r.N, r.dd.scope, fun _ => true⟩ (fun cls d _ H => E cls d H) := by
    subst hX
    exact { xo := { ln := ln, nd := S.nd, nn := rfl, sc := rfl, fnc := fun _ _ => rfl, isi := li, calm := rfl, room := hroom, tk := takes_of rfl rfl rfl rfl, fns := fa }, po := passes_of rfl, stk := rfl, frm := rfl, fk := S.kind }
  refine ⟨_, PSs.pre (chkSs_ok r.d.body h7 xs), fun kf => ?_⟩
  have hXK : X.K = K := by subst hX; rfl
  have hXm : X.mg = mg := by subst hX; rfl
  rw [hXK] at kf
  obtain ⟨m, args, S', hK, hH, hS, rr, hl, hw⟩ := h.2 kf
  refine ⟨m, startE r.d args, S', by rw [hXK]; exact hK, hH, hS, start_sv rr (by unfold Rw.N; simp) (by omega), ?_⟩
  rw [hXm]
  exact wSs_mono (callW_mono P k) r.d.body (X := fun c _ S' => liftX cl mg m E c S') (D := { nx := fun _ S' => liftQ cl m Q .non S', rt := liftQ cl m Q })
    (fun c e S1 h1 m' σ' d C e1 hS1 hV1 hC => h1 m' d C e1 hS1 hC) ⟨fun e S1 h1 m' σ' e1 hS1 hV1 => h1 m' .non e1 hS1 .non, fun v S1 h1 => h1, fun _ _ h1 => h1.elim⟩ hw
/-- where the table's defs stand -/
theorem at_of {r : Rw} {fd : FuncData} (hr : r.ok P = true) (hb : BindP r) (F : FunD K r.dd.name r.dd.qual r.dd.params r.dd.body r.dd.scope (r.dd.dvs K) (r.dd.kws K) (He.fAd K r.dd.at_) fd)
    (hnm : match r.fk with
      | .f x => mg (Str.ofString x) = some (.ref (He.fAd K r.dd.at_))
      | .m c x => ∀ C, cl c C → Meth K C (Str.ofString x) (He.fAd K r.dd.at_) ∧ (x = "__init__" → Mk K C (He.fAd K r.dd.at_))) : At P cl K mg r.fk r.d (He.fAd K r.dd.at_) fd r.ps := by
  obtain ⟨h1, h2, h3, h4, h5, h6, h7⟩ := Rw.parts hr
  have hps := Rw.psl hr
  have hdv : r.dd.dvs K = r.d.dflt.map litV := dflB_of h3
  refine ⟨hnm, F.kp, hps, fun n hn => ?_⟩
  have hl : r.dd.dfl.length = r.d.dflt.length := by
    have := congrArg List.length hdv
    unfold He.DefD.dvs at this
    simpa using this
  have hkw : r.dd.kws K = [] := by unfold He.DefD.kws; rw [h4]; rfl
  by_cases hd : r.dd.dfl = []
  · have hd2 : r.d.dflt = [] := by
      rw [hd] at hl
      exact List.length_eq_zero_iff.mp hl.symm
    have hd3 : r.dd.dvs K = [] := by rw [hdv, hd2]; rfl
    rw [hkw, hd3] at F
    rw [hd2]
    simp only [List.drop_nil, List.map_nil]
    exact ⟨[], .nil, F.bindsN (hb.none hd)⟩
  · have hdl : (r.dd.dvs K).length = r.dd.dfl.length := by unfold He.DefD.dvs; simp
    have hd4 : r.dd.dvs K ≠ [] := fun e => by
      rw [e] at hdl
      exact hd (List.length_eq_zero_iff.mp hdl.symm)
    rw [hkw] at F
    have := F.binds1 (ps := r.ps) (r.ps.length - (r.dd.dfl.length - n)) n hd4 (by rw [hdl, hps]; omega) fun T kV doc pm an cdv ct us its hu hi => hb.some hd n (by omega) T kV doc pm an cdv ct us its (by rw [hu, hps]; omega) (by rw [hi, hdl])
    rw [hdv] at this
    rw [← List.map_drop] at this
    exact this
end
/-! ### facts -/
abbrev biNames : List String := ["len", "abs", "min", "max", "int", "str", "list", "tuple", "dict", "sum", "sorted", "all", "any", "range", "enumerate", "zip", "reversed", "isinstance", "bool"]
def faRow (r : Rw) : List He.Fa := match r.fk with
  | .f x => [.glo (Str.ofString x)]
  | .m c x => .meth (Str.ofString c) (Str.ofString x) :: (if x = "__init__" then [.mkr (Str.ofString c)] else [])
def faCls (flds : List String) (c : String) : List He.Fa := .glo (Str.ofString c) :: .cls (Str.ofString c) :: flds.map fun f => .noat (Str.ofString c) (Str.ofString f)
def faCon (p : String × Lit) : List He.Fa := match p.2 with
  | .int i => [.int (Str.ofString p.1) i]
  | .str z => [.str (Str.ofString p.1) (Str.ofString z)]
  | _ => []
def conOk (p : String × Lit) : Bool := match p.2 with
  | .int _ => true
  | .str _ => true
  | _ => false
def faOf (P : Pg) (tab : List Rw) (con : List (String × Lit)) : List He.Fa := tab.flatMap faRow ++ (P.cls.flatMap (faCls P.flds) ++ (con.flatMap faCon ++ (biNames.map (fun x => He.Fa.free (Str.ofString x)) ++ (P.excs.flatMap (fun c => [.glo (Str.ofString c), .exc (Str.ofString c)]) ++ P.tups.map fun p => .glo (Str.ofString p.1)))))
/-- literals beside values -/
def litVB : Value → Lit → Bool
  | .none, .non => true
  | .bool a, .bl b => a == b
  | .int i _, .int j => decide (i = j)
  | .str x _, .str y => decide (x = Str.ofString y)
  | _, _ => false
def litsVB : List Value → List Lit → Bool
  | [], [] => true
  | u :: us, l :: ls => litVB u l && litsVB us ls
  | _, _ => false
theorem litsVB_of : ∀ {us : List Value} {ls : List Lit}, litsVB us ls = true → Vals (ls.map litV) us
  | [], [], _ => .nil
  | u :: us, l :: ls, h => by
    simp only [litsVB, Bool.and_eq_true] at h
    refine .cons ?_ (litsVB_of h.2)
    have h1 := h.1
    unfold litVB at h1
    split at h1
    · rfl
    · rw [beq_iff_eq.mp h1]; rfl
    · rw [of_decide_eq_true h1]; exact ⟨_, rfl⟩
    · rw [of_decide_eq_true h1]; exact ⟨_, rfl⟩
    · cases h1
  | [], _ :: _, h => by cases h
  | _ :: _, [], h => by cases h
/-- a tuple of literals at the top -/
def tupB (K : PySem.W.Frag) (p : String × List Lit) : Bool := match K.lookup (He.ga K (Str.ofString p.1)) with
  | some o => decide (o.cls = .type "tuple") && (match o.data with
    | .seq its _ => decide (its.size ≤ sizeLine) && litsVB its.toList p.2
    | _ => false)
  | none => false
theorem tupB_of {K : PySem.W.Frag} {p : String × List Lit} (h : tupB K p = true) (H : Hp) : SqT K H (He.ga K (Str.ofString p.1)) (p.2.map litV) := by
  unfold tupB at h
  split at h
  · rename_i o ho
    simp only [Bool.and_eq_true, decide_eq_true_eq] at h
    obtain ⟨h1, h2⟩ := h
    split at h2
    · rename_i its n hd
      simp only [Bool.and_eq_true, decide_eq_true_eq] at h2
      exact .inr ⟨o, its, n, ho, h1, hd, h2.1, litsVB_of h2.2⟩
    · cases h2
  · cases h
def clOf (P : Pg) (K : PySem.W.Frag) : String → Addr → Prop := fun c C => c ∈ P.cls ∧ C = He.ga K (Str.ofString c)
def lniB (cls : List String) (K : PySem.W.Frag) : Bool :=
  cls.all fun c => decide (PySem.W.findIn K (.ref (He.ga K (Str.ofString c))) "__class__" = some (some (.builtin "object.__class__"))) && decide (PySem.W.specialIn K (.builtin "object.__class__") "__get__" = some (some (.builtin "getset_descriptor.__get__"))) && decide (PySem.W.takesIn K (.builtin "object.__class__") = some true) && decide (PySem.W.mroIn K (He.ga K (Str.ofString c)) (.type "object") = some true) &&
    (["int", "bool", "str", "tuple", "list", "dict"].all fun n => decide (PySem.W.kitOne K (.ref (He.ga K (Str.ofString c))) (.type n) = some false)) &&
    (["NoneType", "int", "bool", "str", "tuple", "list", "dict"].all fun n => decide (PySem.W.kitOne K (.type n) (.ref (He.ga K (Str.ofString c))) = some false)) &&
    (cls.all fun c' => decide (PySem.W.kitOne K (.ref (He.ga K (Str.ofString c))) (.ref (He.ga K (Str.ofString c'))) = some (c == c')))
theorem lni_of {P : Pg} {K : PySem.W.Frag} (h : lniB P.cls K = true) : LnI K (clOf P K) := by
  unfold lniB at h
  simp only [List.all_eq_true, Bool.and_eq_true, decide_eq_true_eq] at h
  refine ⟨?_, ?_, ?_, ?_⟩
  · rintro c C ⟨hc, rfl⟩
    obtain ⟨⟨⟨⟨⟨⟨h1, h2⟩, h3⟩, h4⟩, h5⟩, h6⟩, h7⟩ := h c hc
    exact ⟨h1, h2, h3, h4⟩
  · rintro c C ⟨hc, rfl⟩ n hn
    obtain ⟨⟨⟨⟨⟨⟨h1, h2⟩, h3⟩, h4⟩, h5⟩, h6⟩, h7⟩ := h c hc
    exact h5 n hn
  · rintro c C ⟨hc, rfl⟩ n hn
    obtain ⟨⟨⟨⟨⟨⟨h1, h2⟩, h3⟩, h4⟩, h5⟩, h6⟩, h7⟩ := h c hc
    exact h6 n hn
  · rintro c C c' C' ⟨hc, rfl⟩ ⟨hc', rfl⟩
    obtain ⟨⟨⟨⟨⟨⟨h1, h2⟩, h3⟩, h4⟩, h5⟩, h6⟩, h7⟩ := h c hc
    exact h7 c' hc'
def exB (P : Pg) (K : PySem.W.Frag) : Bool := lniB P.cls K && P.tups.all (tupB K)
section
variable {P : Pg} {tab : List Rw} {con : List (String × Lit)} {K : PySem.W.Frag} {mg : Str → Option Value} {h : Heap}
theorem fact_of (c : He.SaysD (faOf P tab con) (tab.map (·.dd)) K) {f : He.Fa} (hf : f ∈ faOf P tab con) : f.ok K = true := c.facts hf
theorem ln_of (KX : K.In h) (G : h.Ns mainGlobals mg) (c : He.SaysD (faOf P tab con) (tab.map (·.dd)) K) (hcon : ∀ x v, P.con x = some v → (∃ l, (x, l) ∈ con ∧ v = Lit.val l) ∨ ∃ ls, (x, ls) ∈ P.tups ∧ v = .tup (ls.map Lit.val)) (hc : con.all conOk = true) (ht : P.tups.all (tupB K) = true) : Ln P K mg (clOf P K) := by
  refine ⟨?_, ?_, ?_, ?_, ?_, ?_⟩
  · intro x v hx
    rcases hcon x v hx with ⟨l, hl, rfl⟩ | ⟨ls, hl, rfl⟩
    rotate_left
    · have sq := tupB_of (List.all_eq_true.mp ht _ hl)
      refine ⟨.ref (He.ga K (Str.ofString x)), _, He.glo_ok KX G (fact_of c (f := .glo (Str.ofString x)) (List.mem_append_right _ (List.mem_append_right _ (List.mem_append_right _ (List.mem_append_right _ (List.mem_append_right _ (List.mem_map.mpr ⟨_, hl, rfl⟩))))))), rfl, fun m hm => .tup (by rw [hm]; exact sq m.H) (lits_rd ls)⟩
    have ok := List.all_eq_true.mp hc _ hl
    have mem : ∀ f ∈ faCon (x, l), f ∈ faOf P tab con := fun f hf => List.mem_append_right _ (List.mem_append_right _ (List.mem_append_left _ (List.mem_flatMap.mpr ⟨_, hl, hf⟩)))
    cases l with
    | int i =>
      obtain ⟨t, e⟩ := He.int_ok KX G (fact_of c (mem (.int (Str.ofString x) i) (by simp [faCon])))
      exact ⟨.int i, _, e, ⟨t, rfl⟩, fun m _ => .int i⟩
    | str z =>
      obtain ⟨t, e⟩ := He.str_ok KX G (fact_of c (mem (.str (Str.ofString x) (Str.ofString z)) (by simp [faCon])))
      exact ⟨.str _, _, e, ⟨t, rfl⟩, fun m _ => .str z⟩
    | non => cases ok
    | bl b => cases ok
  · rintro c' C ⟨hc', rfl⟩
    have mem : ∀ f ∈ faCls P.flds c', f ∈ faOf P tab con := fun f hf => List.mem_append_right _ (List.mem_append_left _ (List.mem_flatMap.mpr ⟨_, hc', hf⟩))
    exact ⟨He.glo_ok KX G (fact_of c (mem (.glo _) (by simp [faCls]))), He.cls_ok (fact_of c (mem (.cls _) (by simp [faCls])))⟩
  · rintro c' C ⟨hc', rfl⟩ f hf
    have mem : ∀ f ∈ faCls P.flds c', f ∈ faOf P tab con := fun f hf => List.mem_append_right _ (List.mem_append_left _ (List.mem_flatMap.mpr ⟨_, hc', hf⟩))
    exact He.noat_ok (fact_of c (mem (.noat _ (Str.ofString f)) (by simp [faCls]; exact ⟨f, hf, rfl⟩)))
  · intro c' hc'
    exact ⟨_, hc', rfl⟩
  · intro c' hc'
    have mem : ∀ f ∈ [He.Fa.glo (Str.ofString c'), .exc (Str.ofString c')], f ∈ faOf P tab con := fun f hf => List.mem_append_right _ (List.mem_append_right _ (List.mem_append_right _ (List.mem_append_right _ (List.mem_append_left _ (List.mem_flatMap.mpr ⟨c', hc', hf⟩)))))
    obtain ⟨e1, e2, e3, e4⟩ := He.exc_ok (fact_of c (mem (.exc (Str.ofString c')) (by simp)))
    exact ⟨_, He.glo_ok KX G (fact_of c (mem (.glo (Str.ofString c')) (by simp))), e1, e2, e3, e4⟩
  · intro x hx
    exact He.free_ok KX G (fact_of c (List.mem_append_right _ (List.mem_append_right _ (List.mem_append_right _ (List.mem_append_left _ (List.mem_map.mpr ⟨x, hx, rfl⟩))))))
theorem fnAll_of {prog : Program} {w : World} {base : Heap} (KX : K.In h) (G : h.Ns mainGlobals mg) (c : He.SaysD (faOf P tab con) (tab.map (·.dd)) K) (ln : Ln P K mg (clOf P K)) (li : LnI K (clOf P K)) (hrow : ∀ r ∈ tab, r.ok P = true) (hbind : ∀ r ∈ tab, BindP r) (hfn : ∀ f d, P.fn f = some d → ∃ r ∈ tab, r.fk = f ∧ r.d = d) : ∀ k, FnAll P (clOf P K) prog w K mg base k
  | 0 => fun f d hd => by
    obtain ⟨r, hr, rfl, rfl⟩ := hfn f d hd
    obtain ⟨fd, F⟩ := c.defs (d := r.dd) (List.mem_map.mpr ⟨r, hr, rfl⟩)
    refine ⟨_, fd, r.ps, at_of (hrow r hr) (hbind r hr) F ?_, fun j hj => absurd hj (Nat.not_lt_zero _)⟩
    have mem : ∀ f ∈ faRow r, f ∈ faOf P tab con := fun f hf => List.mem_append_left _ (List.mem_flatMap.mpr ⟨_, hr, hf⟩)
    rw [(Rw.parts (hrow r hr)).1]
    revert mem
    unfold faRow
    cases r.fk with
    | f x =>
      intro mem
      exact He.glo_ok KX G (fact_of c (mem (.glo _) (by simp)))
    | m c' x =>
      rintro mem C ⟨hc', rfl⟩
      refine ⟨He.meth_ok (fact_of c (mem (.meth _ _) (by simp))), fun e => ?_⟩
      subst e
      exact He.mkr_ok (fact_of c (mem (.mkr _) (by simp)))
  | k + 1 => fun f d hd => by
    have ih := fnAll_of (prog := prog) (w := w) (base := base) KX G c ln li hrow hbind hfn k
    obtain ⟨r, hr, rfl, rfl⟩ := hfn f d hd
    obtain ⟨fd, F⟩ := c.defs (d := r.dd) (List.mem_map.mpr ⟨r, hr, rfl⟩)
    refine ⟨_, fd, r.ps, at_of (hrow r hr) (hbind r hr) F ?_, fun j hj => ?_⟩
    · have mem : ∀ f ∈ faRow r, f ∈ faOf P tab con := fun f hf => List.mem_append_left _ (List.mem_flatMap.mpr ⟨_, hr, hf⟩)
      rw [(Rw.parts (hrow r hr)).1]
      revert mem
      unfold faRow
      cases r.fk with
      | f x =>
        intro mem
        exact He.glo_ok KX G (fact_of c (mem (.glo _) (by simp)))
      | m c' x =>
        rintro mem C ⟨hc', rfl⟩
        refine ⟨He.meth_ok (fact_of c (mem (.meth _ _) (by simp))), fun e => ?_⟩
        subst e
        exact He.mkr_ok (fact_of c (mem (.mkr _) (by simp)))
    · have fj : FnAll P (clOf P K) prog w K mg base j := fun f d hd => by
        obtain ⟨a, fd, ps, h1, h2⟩ := ih f d hd
        exact ⟨a, fd, ps, h1, fun i hi => h2 i (by omega)⟩
      refine (row_ok (hrow r hr) F ln li fj).imp fun vs H Q E hsp => ⟨?_, fun _ => hsp⟩
      obtain ⟨m, args, S, hK, hH, hS, rr, hb⟩ := hsp
      rw [Rw.psl (hrow r hr), ← rr.length]
      exact hb.1
end
def fnOfT (tab : List Rw) : FK → Option FDef := fun f => (tab.find? fun r => decide (r.fk = f)).map (·.d)
theorem fnOfT_of {tab : List Rw} {f : FK} {d : FDef} (h : fnOfT tab f = some d) : ∃ r ∈ tab, r.fk = f ∧ r.d = d := by
  unfold fnOfT at h
  cases e : tab.find? fun r => decide (r.fk = f) with
  | none => rw [e] at h; cases h
  | some r =>
    rw [e] at h
    cases h
    exact ⟨r, List.mem_of_find?_eq_some e, of_decide_eq_true (List.find?_some (p := fun r : Rw => decide (r.fk = f)) e), rfl⟩
theorem look_mem {x : String} {l : Lit} : ∀ {con : List (String × Lit)}, con.lookup x = some l → (x, l) ∈ con
  | [], e => by cases e
  | (y, m) :: r, e => by
    rw [List.lookup_cons] at e
    split at e
    · rename_i hb
      have := beq_iff_eq.mp hb
      subst this
      cases e
      exact List.mem_cons_self
    · exact List.mem_cons_of_mem _ (look_mem e)
theorem lookT_mem {x : String} {l : List Lit} : ∀ {con : List (String × List Lit)}, con.lookup x = some l → (x, l) ∈ con
  | [], e => by cases e
  | (y, m) :: r, e => by
    rw [List.lookup_cons] at e
    split at e
    · rename_i hb
      have := beq_iff_eq.mp hb
      subst this
      cases e
      exact List.mem_cons_self
    · exact List.mem_cons_of_mem _ (lookT_mem e)
def conV (con : List (String × Lit)) (tups : List (String × List Lit)) (x : String) : Option Val := match con.lookup x with
  | some l => some l.val
  | none => (tups.lookup x).map fun ls => .tup (ls.map Lit.val)
theorem conV_of {con : List (String × Lit)} {tups : List (String × List Lit)} {x : String} {v : Val} (h : conV con tups x = some v) : (∃ l, (x, l) ∈ con ∧ v = Lit.val l) ∨ ∃ ls, (x, ls) ∈ tups ∧ v = .tup (ls.map Lit.val) := by
  unfold conV at h
  split at h
  · rename_i l e
    cases h
    exact .inl ⟨l, look_mem e, rfl⟩
  · cases e : tups.lookup x with
    | none => rw [e] at h; cases h
    | some ls =>
      rw [e] at h
      cases h
      exact .inr ⟨ls, lookT_mem e, rfl⟩
theorem con_of {con : List (String × Lit)} {x : String} {v : Val} (h : (con.lookup x).map Lit.val = some v) : ∃ l, (x, l) ∈ con ∧ v = Lit.val l := by
  cases e : con.lookup x with
  | none => rw [e] at h; cases h
  | some l =>
    rw [e] at h
    cases h
    exact ⟨l, look_mem e, rfl⟩
/-- THE END: a law's text holds, if its small text does -/
theorem mi_hc {l : PySem.W.OpenLaw} {q : Program} {loose : List Str} {XP : (Str → Option Value) → Heap → Prop} {d : DefRec} {P : Pg} {tab : List Rw} {con : List (String × Lit)} {n j : Nat} {r : Rw} {x : Str}
    (hn : l.most = some 63) (hdf : d.params.defaults = []) (hname : d.name = Str.ofString "law") (hroom : Room (j + 1) callerA)
    (hrow : ∀ r ∈ tab, r.ok P = true) (hbind : ∀ r ∈ tab, BindP r) (hfn : ∀ f d, P.fn f = some d → ∃ r ∈ tab, r.fk = f ∧ r.d = d) (hcon : ∀ x v, P.con x = some v → (∃ l, (x, l) ∈ con ∧ v = Lit.val l) ∨ ∃ ls, (x, ls) ∈ P.tups ∧ v = .tup (ls.map Lit.val)) (hc : con.all conOk = true)
    (hr : r ∈ tab) (hfk : r.fk = .f "law") (hdl : r.dd.dfl = []) (hps : r.ps = [x])
    (law : ∀ ns : List Int, ns.length ≤ 63 → bodyW P (callW P j) r.d [.ref 0] [.lck (.lst (ns.map Val.int))] (fun v _ => v = .bl true) (fun _ _ => False)) :
    PySem.W.WalkO q loose XP (He.hookX n (faOf P tab con) (tab.map (·.dd)) [] [] (exB P)).says l.row.toRowW d [] (fun f vs => PySem.call f vs) := by
  refine Att.attach_call hn hdf fun w t₀ t₁ mg mb f0 ob pm cd doc a us ns G Y ho hd hcd hmg hobj hints hlen hgen => ?_
  obtain ⟨K, KX, sx⟩ := Y
  have c : He.SaysD (faOf P tab con) (tab.map (·.dd)) K := sx.t.d
  have sm : exB P K = true := sx.more
  rw [exB, Bool.and_eq_true] at sm
  have ln := ln_of KX G.T.g c hcon hc sm.2
  have li := lni_of (P := P) sm.1
  obtain ⟨fd, F⟩ := c.defs (d := r.dd) (List.mem_map.mpr ⟨r, hr, rfl⟩)
  have hok := hrow r hr
  obtain ⟨h1, h2, h3, h4, h5, h6, h7⟩ := Rw.parts hok
  have hfa : mg (Str.ofString "law") = some (.ref (He.fAd K r.dd.at_)) := by
    have := He.glo_ok KX G.T.g (fact_of c (f := .glo (Str.ofString "law")) (List.mem_append_left _ (List.mem_flatMap.mpr ⟨r, hr, by unfold faRow; rw [hfk]; simp⟩)))
    rw [h1, hfk]
    exact this
  rw [hname, hfa] at hmg
  cases hmg
  have hdv : r.dd.dvs K = [] := by unfold He.DefD.dvs; rw [hdl]; rfl
  have hkw : r.dd.kws K = [] := by unfold He.DefD.kws; rw [h4]; rfl
  have F' := F
  rw [hdv, hkw] at F'
  have bA := FunD.bindsA (ps := r.ps) F' ((hbind r hr).none hdl)
  rw [hps] at bA
  refine law_call (CX := L2.CX l.prog w) (x := x) (fd := fd) (k := j + 1) (sp := fun vs H Q E => vs.length = r.ps.length ∧ (KF K H → spF P (clOf P K) K mg j r.d vs H Q E)) KX G.T.g G.T.b G.T.builtins G.T.nolimit hgen hobj hints (Nat.le_trans hlen (by rw [sizeLine_eq]; omega)) hroom (fun base hKb hNs => ?_) (fun s u => bA s [u] rfl) (fun H hO hS => ⟨by rw [hps]; rfl, fun kf => ?_⟩) ?_
  · rw [← hps]
    exact row_ok hok F ln li (fnAll_of KX G.T.g c ln li hrow hbind hfn j)
  · have SH0 : SH (clOf P K) ⟨K, H, [a], none⟩ [.lck (.lst (ns.map Val.int))] := by
      refine ⟨rfl, by simp, kf, fun i o b e1 e2 => ?_⟩
      cases i with
      | succ i => simp at e1
      | zero =>
        simp at e1 e2
        subst e1 e2
        rcases hS with (hS | ⟨o, hS⟩) | ⟨o, its, n', hk, hc, hdct, hdat, hsz, hv⟩
        · rcases hO a with h | ⟨o, xs, h⟩
          · rw [h] at hS; cases hS
          · rw [h] at hS; cases hS
        · exact .inl ⟨o, _, hS, RDs.of_ints ns⟩
        · exact .inr ⟨o, its, n', _, hk, hc, hdct, hdat, hsz, hv, RDs.of_ints ns⟩
    refine ⟨⟨K, H, [a], none⟩, [.ref 0], [.lck (.lst (ns.map Val.int))], rfl, rfl, SH0, .cons (.ref rfl) .nil, bodyW_mono (callW_mono P j) (fun v S' hv m' y e hS' rv => ?_) (fun _ _ h => h.elim) (law ns hlen)⟩
    subst hv
    cases rv
    rfl
  · intro H e s' hx
    obtain ⟨b, B, H', cls, dd, e1, e2, e3, e4, e5, e6, e7, e8⟩ := hx
    exact e8
end Mi

set_option maxHeartbeats 1000000
namespace Mi
open PySem
/-! ### how one reasons about the small text -/
abbrev noX : XPost := fun _ _ => False
section
variable {P : Pg} {k : Nat} {f : FK} {d : FDef} {args : List Val} {S : Hm} {Q Q0 : Post} {X : XPost}
theorem call_open {x : String} (hd : P.fn (.f x) = some d) (h : bodyW P (callW P k) d (padded d args) S Q X) : callW P (k + 1) (.f x) args S Q X := by
  cases k with
  | zero => exact ⟨d, hd, by simpa [FK.init] using h⟩
  | succ k =>
    rw [callW_two]
    exact ⟨d, hd, by simpa [FK.init] using h⟩
/-- a function that is known not to raise -/
theorem call_use (h : callW P k f args S Q0 noX) (hq : ∀ v S', Q0 v S' → Q v S') : callW P k f args S Q X := callW_mono P k f args S _ _ _ _ hq (fun _ _ h => h.elim) h
end
section
variable {S : Hm} {Q : Bool → Prop}
theorem eqW_int {a b : Int} : eqW (.int a) (.int b) S Q = Q (decide (a = b)) := by
  simp only [eqW, eqD, or_false, dat, Option.some.injEq, exists_eq_left', exists_and_left]
  have : PyData.eqv (.int a) (.int b) = decide (a = b) := by
    simp only [PyData.eqv]
    first | rfl | (by_cases h : a = b <;> simp [h])
  rw [this]
theorem eqW_str {a b : String} : eqW (.str a) (.str b) S Q = Q (decide (a = b)) := by
  simp only [eqW, eqD, or_false, dat, Option.some.injEq, exists_eq_left', exists_and_left]
  have : PyData.eqv (.str (Str.ofString a)) (.str (Str.ofString b)) = decide (a = b) := by
    simp only [PyData.eqv]
    by_cases h : a = b
    · subst h; simp
    · have : ¬ Str.ofString a = Str.ofString b := fun z => h (ofString_inj z)
      simp [h, this]
  rw [this]
end
section
variable {S : Hm} {Q : Post} {n : Nat} {kvs : List (Key × Val)} {xs : List Val}
theorem lst_at (h : S[n]? = some (.lst xs)) : Hm.lst S n = some xs := by simp only [Hm.lst, h]
theorem lst_lck (h : S[n]? = some (.lck (.lst xs))) : Hm.lst S n = some xs := by simp only [Hm.lst, h]
theorem dic_at (h : S[n]? = some (.dic kvs)) : Hm.dic S n = some kvs := by simp only [Hm.dic, h]
theorem nodic_of (h : S[n]? = some (.lst xs)) : Hm.dic S n = none := by simp only [Hm.dic, h]
theorem nolst_of (h : S[n]? = some (.dic kvs)) : Hm.lst S n = none := by simp only [Hm.lst, h]
theorem subW_dic {k : Val} {q : Key} {v : Val} (h : S[n]? = some (.dic kvs)) (hk : k.key = some q) (hv : lookK kvs q = some v) (hq : Q v S) : subW (.ref n) k S Q := .inr ⟨kvs, q, v, dic_at h, hk, hv, hq⟩
theorem subW_lst {i : Int} {v : Val} (h : Hm.lst S n = some xs) (hv : atI xs i = some v) (hq : Q v S) : subW (.ref n) (.int i) S Q := .inl ⟨xs, i, v, rfl, h, hv, hq⟩
theorem setW_dic {k v : Val} {q : Key} {Q : Hm → Prop} (h : S[n]? = some (.dic kvs)) (hk : k.key = some q) (hl : kvs.length < sizeLine) (hq : Q (S.set n (.dic (putK kvs q v)))) : setW (.ref n) k v S Q := .inr ⟨kvs, q, h, hk, hl, hq⟩
theorem setW_lst {i : Int} {j : Nat} {v : Val} {Q : Hm → Prop} (h : S[n]? = some (.lst xs)) (hj : ixN xs.length i = some j) (hq : Q (S.set n (.lst (xs.set j v)))) : setW (.ref n) (.int i) v S Q := .inl ⟨xs, i, j, h, rfl, hj, hq⟩
theorem lenW_lst (h : Hm.lst S n = some xs) (hq : Q (.int xs.length) S) : biW .len [.ref n] S Q := .inl ⟨xs, h, hq⟩
theorem lenW_dic (h : S[n]? = some (.dic kvs)) (hq : Q (.int kvs.length) S) : biW .len [.ref n] S Q := .inr ⟨kvs, h, hq⟩
end
/-! ### loops -/
/-- behind a loop's turn -/
abbrev lp (I : Env → Hm → Prop) (D : Mi.Sp) : Mi.Sp := { nx := I, rt := D.rt, ct := I }
section
variable {G : String → Option Val} {sub : String → String → Bool} {C : CallW} (hC : CMono C)
include hC
theorem for_inv {tg : Tg} {guard : Hm → Prop} {body : Sts} {X : XS} {D : Mi.Sp} {items : List Val} (I : Nat → Env → Hm → Prop)
    (step : ∀ i v env S, items[i]? = some v → I i env S → guard S ∧ tgW tg v env fun env2 => wSs G sub C body X (lp (I (i + 1)) D) env2 S)
    (fin : ∀ env S, I items.length env S → guard S ∧ D.nx env S) {env : Env} {S : Hm} (h : I 0 env S) : forL tg guard (wSs G sub C body X) D items env S := by
  have key : ∀ (n i : Nat) (env : Env) (S : Hm), items.length - i = n → i ≤ items.length → I i env S → forL tg guard (wSs G sub C body X) D (items.drop i) env S := by
    intro n
    induction n with
    | zero =>
      intro i env S hn hi h
      have e : i = items.length := by omega
      subst e
      rw [List.drop_length]
      exact fin env S h
    | succ n ih =>
      intro i env S hn hi h
      have hlt : i < items.length := by omega
      rw [List.drop_eq_getElem_cons hlt]
      obtain ⟨h1, h2⟩ := step i items[i] env S (List.getElem?_eq_getElem hlt) h
      refine ⟨h1, tgW_mono (fun env2 h3 => ?_) h2⟩
      exact wSs_mono hC body (D := lp (I (i + 1)) D) (fun _ _ _ h => h) ⟨fun e S1 h4 => ih (i + 1) e S1 (by omega) (by omega) h4, fun _ _ h => h, fun e S1 h4 => ih (i + 1) e S1 (by omega) (by omega) h4⟩ h3
  have := key items.length 0 env S (by omega) (by omega) h
  simpa using this
theorem while_inv {c : T} {body : Sts} {X : XS} {D : Mi.Sp} (I : Nat → Env → Hm → Prop)
    (step : ∀ n env S, I n env S → wT G C (fun c S' => X c env S') c env S fun b S1 => if b = true then wSs G sub C body X (lp (fun e S => ∃ m, m < n ∧ I m e S) D) env S1 else D.nx env S1)
    {n : Nat} {env : Env} {S : Hm} (h : I n env S) : ∃ N, whileN (fun env S K => wT G C (fun c S' => X c env S') c env S K) (wSs G sub C body X) D N env S := by
  have le : ∀ (a : Nat) {env : Env} {S : Hm}, whileN (fun env S K => wT G C (fun c S' => X c env S') c env S K) (wSs G sub C body X) D a env S → whileN (fun env S K => wT G C (fun c S' => X c env S') c env S K) (wSs G sub C body X) D (a + 1) env S := by
    intro a
    induction a with
    | zero => intro env S h; exact h.elim
    | succ a ih =>
      intro env S h
      refine wT_mono hC (fun _ _ h => h) c (fun b S1 h1 => ?_) h
      cases b with
      | false => simpa using h1
      | true =>
        simp only [if_true] at h1 ⊢
        exact wSs_mono hC body (D := lp (whileN (fun env S K => wT G C (fun c S' => X c env S') c env S K) (wSs G sub C body X) D a) D) (fun _ _ _ h => h) ⟨fun e S2 h2 => ih h2, fun _ _ h => h, fun e S2 h2 => ih h2⟩ h1
  have les : ∀ (a b : Nat), a ≤ b → ∀ {env : Env} {S : Hm}, whileN (fun env S K => wT G C (fun c S' => X c env S') c env S K) (wSs G sub C body X) D a env S → whileN (fun env S K => wT G C (fun c S' => X c env S') c env S K) (wSs G sub C body X) D b env S := by
    intro a b hab
    induction hab with
    | refl => intro env S h; exact h
    | step _ ih => intro env S h; exact le _ (ih h)
  have key : ∀ n env S, I n env S → whileN (fun env S K => wT G C (fun c S' => X c env S') c env S K) (wSs G sub C body X) D (n + 1) env S := by
    intro n
    induction n using Nat.strongRecOn with
    | _ n ih =>
      intro env S h
      refine wT_mono hC (fun _ _ h => h) c (fun b S1 h1 => ?_) (step n env S h)
      cases b with
      | false => simpa using h1
      | true =>
        simp only [if_true] at h1 ⊢
        exact wSs_mono hC body (D := lp (fun e S => ∃ m, m < n ∧ I m e S) D) (fun _ _ _ h => h) ⟨fun e S2 ⟨m, hm, h2⟩ => les (m + 1) n hm (ih m hm e S2 h2), fun _ _ h => h, fun e S2 ⟨m, hm, h2⟩ => les (m + 1) n hm (ih m hm e S2 h2)⟩ h1
  exact ⟨n + 1, key n env S h⟩
/-- a comprehension's turn, as the reading has it -/
theorem lc_inv {elt : E} {tg : Tg} {cond : Ot} {env : Env} {vs : List Nat} {guard : Hm → Prop} {items : List Val} {Q : List Val → Hm → Prop} (I : Nat → List Val → Hm → Prop)
    (step : ∀ i v acc S, items[i]? = some v → I i acc S → guard S ∧ tgW tg v (ewipe env vs) fun env2 => wC G C (fun _ _ => False) cond env2 S fun b S2 => if b = true then wE G C (fun _ _ => False) elt env2 S2 fun x S3 => acc.length < sizeLine ∧ I (i + 1) (acc ++ [x]) S3 else I (i + 1) acc S2)
    (fin : ∀ acc S, I items.length acc S → guard S ∧ Q acc S) {S : Hm} (h : I 0 [] S) :
    lcLoop (fun v S K => tgW tg v (ewipe env vs) fun env2 => wC G C (fun _ _ => False) cond env2 S fun b S2 => if b = true then wE G C (fun _ _ => False) elt env2 S2 fun x S3 => K (some x) S3 else K none S2) guard items [] S Q := by
  have key : ∀ (n i : Nat) (acc : List Val) (S : Hm), items.length - i = n → i ≤ items.length → I i acc S → lcLoop (fun v S K => tgW tg v (ewipe env vs) fun env2 => wC G C (fun _ _ => False) cond env2 S fun b S2 => if b = true then wE G C (fun _ _ => False) elt env2 S2 fun x S3 => K (some x) S3 else K none S2) guard (items.drop i) acc S Q := by
    intro n
    induction n with
    | zero =>
      intro i acc S hn hi h
      have e : i = items.length := by omega
      subst e
      rw [List.drop_length]
      exact fin acc S h
    | succ n ih =>
      intro i acc S hn hi h
      have hlt : i < items.length := by omega
      rw [List.drop_eq_getElem_cons hlt]
      obtain ⟨h1, h2⟩ := step i items[i] acc S (List.getElem?_eq_getElem hlt) h
      refine ⟨h1, tgW_mono (fun env2 h3 => wC_mono hC (fun _ _ h => h) cond (fun b S2 h4 => ?_) h3) h2⟩
      cases b with
      | false =>
        simp only [Bool.false_eq_true, if_false] at h4 ⊢
        exact ih (i + 1) acc S2 (by omega) (by omega) h4
      | true =>
        simp only [if_true] at h4 ⊢
        exact wE_mono hC (fun _ _ h => h) elt (fun x S3 h5 => ⟨h5.1, ih (i + 1) _ S3 (by omega) (by omega) h5.2⟩) h4
  have := key items.length 0 [] S (by omega) (by omega) h
  simpa using this
end

/-! ### rewriting -/
def lstO : Option Ob → Option (List Val)
  | some (.lst xs) => some xs
  | some (.lck (.lst xs)) => some xs
  | _ => none
def dicO : Option Ob → Option (List (Key × Val))
  | some (.dic xs) => some xs
  | some (.lck (.dic xs)) => some xs
  | _ => none
theorem Hm.lst_eq {S : Hm} {n : Nat} : Hm.lst S n = lstO S[n]? := by
  unfold Hm.lst lstO
  rfl
theorem Hm.dic_eq {S : Hm} {n : Nat} : Hm.dic S n = dicO S[n]? := by
  unfold Hm.dic dicO
  rfl
section
variable {S : Hm} {n : Nat} {k v : Val} {Q : Post} {R : Hm → Prop}
def subD (o : Option Ob) (k : Val) (S : Hm) (Q : Post) : Prop := match o with
  | some (.dic kvs) => ∃ q, k.key = some q ∧ ∃ v, lookK kvs q = some v ∧ Q v S
  | some (.lst xs) => ∃ j, k = .int j ∧ ∃ v, atI xs j = some v ∧ Q v S
  | some (.lck (.lst xs)) => ∃ j, k = .int j ∧ ∃ v, atI xs j = some v ∧ Q v S
  | some (.lck (.dic kvs)) => ∃ q, k.key = some q ∧ ∃ v, lookK kvs q = some v ∧ Q v S
  | _ => False
theorem subW_ref : subW (.ref n) k S Q = subD S[n]? k S Q := by
  apply propext
  simp only [subW, Hm.lst_eq, Hm.dic_eq]
  generalize S[n]? = o
  unfold subD lstO dicO
  constructor
  · intro h
    split <;> simp_all <;> grind
  · intro h
    split at h <;> simp_all <;> grind
def setD (o : Option Ob) (n : Nat) (k v : Val) (S : Hm) (R : Hm → Prop) : Prop := match o with
  | some (.dic kvs) => ∃ q, k.key = some q ∧ kvs.length < sizeLine ∧ R (S.set n (.dic (putK kvs q v)))
  | some (.lst xs) => ∃ j, k = .int j ∧ ∃ i, ixN xs.length j = some i ∧ R (S.set n (.lst (xs.set i v)))
  | _ => False
theorem setW_ref : setW (.ref n) k v S R = setD S[n]? n k v S R := by
  apply propext
  simp only [setW]
  generalize S[n]? = o
  unfold setD
  constructor
  · intro h
    split <;> simp_all <;> grind
  · intro h
    split at h <;> simp_all <;> grind
theorem get_set {o : Ob} : (S.set n o)[n]? = (S[n]?).map fun _ => o := by
  by_cases h : n < S.length
  · rw [List.getElem?_set_self h, List.getElem?_eq_getElem h]; rfl
  · rw [List.getElem?_eq_none (by simp; omega), List.getElem?_eq_none (by omega)]; rfl
theorem get_ne {m : Nat} {o : Ob} (h : m ≠ n) : (S.set n o)[m]? = S[m]? := List.getElem?_set_ne (Ne.symm h)
theorem get_app {m : Nat} {o : Ob} {l : Hm} (h : S[m]? = some o) : (S ++ l)[m]? = some o := by
  rw [List.getElem?_append_left (List.getElem?_eq_some_iff.mp h).1]; exact h
theorem get_new {o : Ob} : (S ++ [o])[S.length]? = some o := by simp
def lenD (o : Option Ob) (S : Hm) (Q : Post) : Prop := match o with
  | some (.dic kvs) => Q (.int kvs.length) S
  | some (.lst xs) => Q (.int xs.length) S
  | some (.lck (.lst xs)) => Q (.int xs.length) S
  | _ => False
theorem lenW_ref : biW .len [.ref n] S Q = lenD S[n]? S Q := by
  apply propext
  simp only [biW, Hm.lst_eq]
  generalize S[n]? = o
  unfold lenD lstO
  constructor
  · intro h
    split <;> simp_all <;> grind
  · intro h
    split at h <;> simp_all <;> grind
end

/-! ### whole numbers alone -/
def opI : Operator → Int → Int → Option Int
  | .Add, i, j => some (i + j)
  | .Sub, i, j => some (i - j)
  | .Mult, i, j => some (i * j)
  | .FloorDiv, i, j => some (i / j)
  | .Mod, i, j => some (i % j)
  | .Pow, i, j => some (i ^ j.toNat)
  | _, _, _ => none
def okI : Operator → Int → Int → Prop
  | .Mult, i, j => mulOk i j
  | .FloorDiv, _, j => divOk j
  | .Mod, _, j => 0 < j
  | .Pow, i, j => powOk i j
  | _, _, _ => True
def vI : Option Val → Option Int
  | some (.int n) => some n
  | _ => none
def iv (env : Env) : E → Option Int
  | .loc i => vI (eg env i)
  | .lit (.int n) => some n
  | .neg a => match iv env a with
    | some i => some (-i)
    | none => none
  | .bin op a b => match iv env a with
    | some i => match iv env b with
      | some j => opI op i j
      | none => none
    | none => none
  | _ => none
def ik (env : Env) : E → Prop
  | .neg a => ik env a
  | .bin op a b => ik env a ∧ ik env b ∧ match iv env a with
    | some i => match iv env b with
      | some j => okI op i j
      | none => True
    | none => True
  | _ => True
theorem wE_iv {G : String → Option Val} {C : CallW} {X : XPost} {env : Env} : ∀ (e : E) {n : Int} {S : Hm} {Q : Post}, iv env e = some n → ik env e → Q (.int n) S → wE G C X e env S Q
  | .loc i, n, S, Q, h, hk, hq => by
    simp only [iv] at h
    unfold vI at h
    split at h
    · rename_i m hm
      cases h
      simp only [wE]
      exact ⟨_, hm, hq⟩
    · cases h
  | .lit c, n, S, Q, h, hk, hq => by
    cases c <;> simp only [iv] at h
    · cases h
    · cases h
    · cases h; simp only [wE]; exact hq
    · cases h
  | .neg a, n, S, Q, h, hk, hq => by
    simp only [iv] at h
    split at h
    · rename_i i hi
      cases h
      simp only [wE]
      exact wE_iv a hi hk ⟨_, rfl, hq⟩
    · cases h
  | .bin op a b, n, S, Q, h, hk, hq => by
    simp only [iv] at h
    simp only [ik] at hk
    split at h
    · rename_i i hi
      split at h
      · rename_i j hj
        obtain ⟨k1, k2, k3⟩ := hk
        rw [hi, hj] at k3
        simp only [wE]
        refine wE_iv a hi k1 (wE_iv b hj k2 ?_)
        cases op <;> simp only [opI] at h <;> first | (cases h; done) | skip
        all_goals (cases h; simp only [binW]; first | exact hq | exact ⟨k3, hq⟩)
      · cases h
    · cases h
  | .con _, n, S, Q, h, _, _ => by simp [iv] at h
  | .cmp _ _ _, n, S, Q, h, _, _ => by simp [iv] at h
  | .cmp2 _ _ _ _ _, n, S, Q, h, _, _ => by simp [iv] at h
  | .isN _, n, S, Q, h, _, _ => by simp [iv] at h
  | .notN _, n, S, Q, h, _, _ => by simp [iv] at h
  | .isB _ _, n, S, Q, h, _, _ => by simp [iv] at h
  | .not _, n, S, Q, h, _, _ => by simp [iv] at h
  | .and _ _, n, S, Q, h, _, _ => by simp [iv] at h
  | .or _ _, n, S, Q, h, _, _ => by simp [iv] at h
  | .ite _ _ _, n, S, Q, h, _, _ => by simp [iv] at h
  | .tup _, n, S, Q, h, _, _ => by simp [iv] at h
  | .lst _, n, S, Q, h, _, _ => by simp [iv] at h
  | .dic _, n, S, Q, h, _, _ => by simp [iv] at h
  | .call _ _, n, S, Q, h, _, _ => by simp [iv] at h
  | .make _ _, n, S, Q, h, _, _ => by simp [iv] at h
  | .meth _ _ _ _, n, S, Q, h, _, _ => by simp [iv] at h
  | .fld _ _, n, S, Q, h, _, _ => by simp [iv] at h
  | .sub _ _, n, S, Q, h, _, _ => by simp [iv] at h
  | .slice _ _ _, n, S, Q, h, _, _ => by simp [iv] at h
  | .bi _ _, n, S, Q, h, _, _ => by simp [iv] at h
  | .vi _ _, n, S, Q, h, _, _ => by simp [iv] at h
  | .bm _ _ _, n, S, Q, h, _, _ => by simp [iv] at h
  | .isi _ _, n, S, Q, h, _, _ => by simp [iv] at h
  | .lc _ _ _ _ _, n, S, Q, h, _, _ => by simp [iv] at h
  | .lck _ _, n, S, Q, h, _, _ => by simp [iv] at h
/-! ### one form at a time; a comprehension stays folded -/
section
variable {G : String → Option Val} {C : CallW} {X : XPost} {env : Env} {S : Hm} {Q : Post}
/-- a comprehension's run -/
def lcRun (G : String → Option Val) (C : CallW) (elt : E) (tg : Tg) (cond : Ot) (env : Env) (vs : List Nat) (guard : Hm → Prop) (items acc : List Val) (S : Hm) (Q : List Val → Hm → Prop) : Prop :=
  lcLoop (fun v S K => tgW tg v (ewipe env vs) fun env2 => wC G C (fun _ _ => False) cond env2 S fun b S2 => if b = true then wE G C (fun _ _ => False) elt env2 S2 fun x S3 => K (some x) S3 else K none S2) guard items acc S Q
theorem wE_lc {elt : E} {tg : Tg} {src : Src} {cond : Ot} {own : List (String × Nat)} : wE G C X (.lc elt tg src cond own) env S Q = wSrc G C X src env S fun items guard S1 => lcRun G C elt tg cond env (own.map (·.2)) guard items [] S1 fun acc S2 => Q (.ref S2.length) (S2 ++ [.lst acc]) := by simp only [wE, lcRun]
theorem wE_lck {i : Nat} {e : E} : wE G C X (.lck i e) env S Q = (∃ n kvs, eg env i = some (.ref n) ∧ S[n]? = some (.dic kvs) ∧ wE G C X e env (S.set n (.lck (.dic kvs))) fun v S' => S'[n]? = some (.lck (.dic kvs)) ∧ Q v (S'.set n (.dic kvs))) := by simp only [wE]
theorem wE_loc {i : Nat} : wE G C X (.loc i) env S Q = (∃ v, eg env i = some v ∧ Q v S) := by simp only [wE]
theorem wE_lit {c : Lit} : wE G C X (.lit c) env S Q = (Q c.val S) := by simp only [wE]
theorem wE_con {x : String} : wE G C X (.con x) env S Q = (∃ v, G x = some v ∧ Q v S) := by simp only [wE]
theorem wE_bin {op : Operator} {a b : E} : wE G C X (.bin op a b) env S Q = (wE G C X a env S fun x S1 => wE G C X b env S1 fun y S2 => binW op x y S2 Q) := by simp only [wE]
theorem wE_neg {a : E} : wE G C X (.neg a) env S Q = (wE G C X a env S fun x S1 => ∃ i, x = .int i ∧ Q (.int (-i)) S1) := by simp only [wE]
theorem wE_cmp {op : CmpOp} {a b : E} : wE G C X (.cmp op a b) env S Q = (wE G C X a env S fun x S1 => wE G C X b env S1 fun y S2 => cmpW op x y S2 fun r => Q (.bl r) S2) := by simp only [wE]
theorem wE_cmp2 {op op' : CmpOp} {a b c : E} : wE G C X (.cmp2 op op' a b c) env S Q = (wE G C X a env S fun x S1 => wE G C X b env S1 fun y S2 => cmpW op x y S2 fun r => if r = true then wE G C X c env S2 fun z S3 => cmpW op' y z S3 fun r' => Q (.bl r') S3 else Q (.bl false) S2) := by simp only [wE]
def isNon : Val → Bool
  | .non => true
  | _ => false
theorem wE_isN {a : E} : wE G C X (.isN a) env S Q = (wE G C X a env S fun x S1 => Q (.bl (isNon x)) S1) := by
  simp only [wE]
  congr 1 <;> (funext x S1; cases x <;> rfl)
theorem wE_notN {a : E} : wE G C X (.notN a) env S Q = (wE G C X a env S fun x S1 => Q (.bl (!isNon x)) S1) := by
  simp only [wE]
  congr 1 <;> (funext x S1; cases x <;> rfl)
theorem wE_isB {a : E} {b : Bool} : wE G C X (.isB a b) env S Q = (wE G C X a env S fun x S1 => ∃ c, x = .bl c ∧ Q (.bl (c == b)) S1) := by simp only [wE]
theorem wE_not {a : E} : wE G C X (.not a) env S Q = (wE G C X a env S fun x S1 => ∃ b, x = .bl b ∧ Q (.bl (!b)) S1) := by simp only [wE]
theorem wE_and {a b : E} : wE G C X (.and a b) env S Q = (wE G C X a env S fun x S1 => ∃ c, x = .bl c ∧ if c = true then wE G C X b env S1 Q else Q (.bl false) S1) := by simp only [wE]
theorem wE_or {a b : E} : wE G C X (.or a b) env S Q = (wE G C X a env S fun x S1 => ∃ c, x = .bl c ∧ if c = true then Q (.bl true) S1 else wE G C X b env S1 Q) := by simp only [wE]
theorem wE_ite {c : T} {a b : E} : wE G C X (.ite c a b) env S Q = (wT G C X c env S fun r S1 => if r = true then wE G C X a env S1 Q else wE G C X b env S1 Q) := by simp only [wE]
theorem wE_tup {es : Es} : wE G C X (.tup es) env S Q = (wEs G C X es env S fun vs S1 => vs.length ≤ sizeLine ∧ Q (.tup vs) S1) := by simp only [wE]
theorem wE_lst {es : Es} : wE G C X (.lst es) env S Q = (wEs G C X es env S fun vs S1 => vs.length ≤ sizeLine ∧ Q (.ref S1.length) (S1 ++ [.lst vs])) := by simp only [wE]
theorem wE_dic {ps : Ps} : wE G C X (.dic ps) env S Q = (wPs G C X ps env S fun kvs S1 => Q (.ref S1.length) (S1 ++ [.dic (kvs.foldl (fun d p => putK d p.1 p.2) [])])) := by simp only [wE]
theorem wE_call {f : String} {es : Es} : wE G C X (.call f es) env S Q = (wEs G C X es env S fun vs S1 => C (.f f) vs S1 Q X) := by simp only [wE]
theorem wE_make {c : String} {es : Es} : wE G C X (.make c es) env S Q = (wEs G C X es env S fun vs S1 => C (.m c "__init__") (.ref S1.length :: vs) (S1 ++ [.ins c []]) (fun v S2 => v = .non ∧ Q (.ref S1.length) S2) X) := by simp only [wE]
theorem wE_meth {c m : String} {o : E} {es : Es} : wE G C X (.meth c m o es) env S Q = (wE G C X o env S fun x S1 => ∃ n fs, x = .ref n ∧ S1[n]? = some (.ins c fs) ∧ fs.lookup m = none ∧ wEs G C X es env S1 fun vs S2 => C (.m c m) (x :: vs) S2 Q X) := by simp only [wE]
theorem wE_fld {o : E} {f : String} : wE G C X (.fld o f) env S Q = (wE G C X o env S fun x S1 => ∃ n c fs v, x = .ref n ∧ S1[n]? = some (.ins c fs) ∧ fs.lookup f = some v ∧ Q v S1) := by simp only [wE]
theorem wE_sub {o i : E} : wE G C X (.sub o i) env S Q = (wE G C X o env S fun x S1 => wE G C X i env S1 fun y S2 => subW x y S2 Q) := by simp only [wE]
theorem wE_slice {o : E} {lo hi : Oe} : wE G C X (.slice o lo hi) env S Q = (wE G C X o env S fun x S1 => wO G C X lo env S1 fun a S2 => wO G C X hi env S2 fun b S3 => sliceW x a b S3 Q) := by simp only [wE]
theorem wE_bi {f : Bi} {es : Es} : wE G C X (.bi f es) env S Q = (wEs G C X es env S fun vs S1 => biW f vs S1 Q) := by simp only [wE]
theorem wE_vi {f : Vi} {es : Es} : wE G C X (.vi f es) env S Q = (wEs G C X es env S fun vs S1 => viW f vs S1 Q) := by simp only [wE]
theorem wE_bm {m : Bm} {o : E} {es : Es} : wE G C X (.bm m o es) env S Q = (wE G C X o env S fun x S1 => bmT m x S1 ∧ wEs G C X es env S1 fun vs S2 => bmW m x vs S2 Q) := by simp only [wE]
theorem wE_isi {a : E} {ts : List Ty} : wE G C X (.isi a ts) env S Q = (wE G C X a env S fun x S1 => ∃ bs, ts.mapM (isTy x S1) = some bs ∧ Q (.bl (bs.any id)) S1) := by simp only [wE]
end
section
variable {G : String → Option Val} {C : CallW} (hC : CMono C)
include hC
theorem lcr_inv {elt : E} {tg : Tg} {cond : Ot} {env : Env} {vs : List Nat} {guard : Hm → Prop} {items : List Val} {Q : List Val → Hm → Prop} (I : Nat → List Val → Hm → Prop)
    (step : ∀ i v acc S, items[i]? = some v → I i acc S → guard S ∧ tgW tg v (ewipe env vs) fun env2 => wC G C (fun _ _ => False) cond env2 S fun b S2 => if b = true then wE G C (fun _ _ => False) elt env2 S2 fun x S3 => acc.length < sizeLine ∧ I (i + 1) (acc ++ [x]) S3 else I (i + 1) acc S2)
    (fin : ∀ acc S, I items.length acc S → guard S ∧ Q acc S) {S : Hm} (h : I 0 [] S) : lcRun G C elt tg cond env vs guard items [] S Q := lc_inv hC I step fin h
end
end Mi

set_option maxHeartbeats 1000000
namespace Mi
open PySem
/-! MiV: what texts are split into -/
def splitC (c : Char) : List Char → List (List Char)
  | [] => [[]]
  | x :: r => if x = c then [] :: splitC c r else match splitC c r with
    | [] => [[x]]
    | p :: ps => (x :: p) :: ps
theorem splitC_ne (c : Char) : ∀ l, splitC c l ≠ []
  | [] => by simp [splitC]
  | x :: r => by
    unfold splitC
    split
    · simp
    · split <;> simp
theorem splitC_free (c : Char) : ∀ l, ∀ p ∈ splitC c l, c ∉ p
  | [], p, h => by
    have : p = [] := by simpa [splitC] using h
    subst this; simp
  | x :: r, p, h => by
    unfold splitC at h
    split at h
    · rcases List.mem_cons.mp h with rfl | h
      · simp
      · exact splitC_free c r p h
    · rename_i hx
      have ih := splitC_free c r
      split at h
      · have : p = [x] := by simpa using h
        subst this
        simpa using fun z => hx z.symm
      · rename_i q qs e
        rw [e] at ih
        rcases List.mem_cons.mp h with rfl | h
        · intro hc
          rcases List.mem_cons.mp hc with hc | hc
          · exact hx hc.symm
          · exact ih q List.mem_cons_self hc
        · exact ih p (List.mem_cons_of_mem _ h)
def joinN (c : Nat) : List (List Nat) → List Nat
  | [] => []
  | [p] => p
  | p :: q :: r => p ++ c :: joinN c (q :: r)
theorem joinN_cons {c : Nat} {p : List Nat} {r : List (List Nat)} (h : r ≠ []) : joinN c (p :: r) = p ++ c :: joinN c r := by
  cases r with
  | nil => exact absurd rfl h
  | cons q s => rfl
theorem splitC_join (c : Char) : ∀ l, joinN c.toNat ((splitC c l).map (·.map Char.toNat)) = l.map Char.toNat
  | [] => rfl
  | x :: r => by
    have ih := splitC_join c r
    have ne := splitC_ne c r
    unfold splitC
    split
    · rename_i e
      subst e
      rw [List.map_cons, joinN_cons (by simpa using ne), ih]
      rfl
    · split
      · rename_i e
        exact absurd e ne
      · rename_i p ps e
        rw [e] at ih
        cases ps with
        | nil => simpa [joinN] using ih
        | cons q qs =>
          rw [List.map_cons, joinN_cons (by simp)] at ih ⊢
          rw [List.map_cons (l := r), ← ih]
          rfl
theorem cut_uniq {c : Nat} : ∀ {p q a b : List Nat}, c ∉ p → c ∉ q → p ++ c :: a = q ++ c :: b → p = q ∧ a = b
  | [], [], a, b, _, _, h => by simpa using h
  | [], y :: q, a, b, _, hq, h => by
    simp only [List.nil_append, List.cons_append, List.cons.injEq] at h
    exact absurd (by rw [h.1]; exact List.mem_cons_self) hq
  | x :: p, [], a, b, hp, _, h => by
    simp only [List.nil_append, List.cons_append, List.cons.injEq] at h
    exact absurd (by rw [← h.1]; exact List.mem_cons_self) hp
  | x :: p, y :: q, a, b, hp, hq, h => by
    simp only [List.cons_append, List.cons.injEq] at h
    obtain ⟨h1, h2⟩ := cut_uniq (fun z => hp (List.mem_cons_of_mem _ z)) (fun z => hq (List.mem_cons_of_mem _ z)) h.2
    rw [h.1, h1]
    exact ⟨rfl, h2⟩
theorem join_uniq {c : Nat} : ∀ {L M : List (List Nat)}, L ≠ [] → M ≠ [] → (∀ p ∈ L, c ∉ p) → (∀ p ∈ M, c ∉ p) → joinN c L = joinN c M → L = M
  | [], _, h, _, _, _, _ => absurd rfl h
  | _ :: _, [], _, h, _, _, _ => absurd rfl h
  | [p], [q], _, _, _, _, h => by
    simp only [joinN] at h
    rw [h]
  | [p], q :: r :: s, _, _, hp, _, h => by
    rw [joinN_cons (c := c) (p := q) (by simp)] at h
    simp only [joinN] at h
    exact absurd (by rw [h]; simp) (hp p List.mem_cons_self)
  | q :: r :: s, [p], _, _, _, hp, h => by
    rw [joinN_cons (c := c) (p := q) (by simp)] at h
    simp only [joinN] at h
    exact absurd (by rw [← h]; simp) (hp p List.mem_cons_self)
  | p :: r :: s, q :: r' :: s', _, _, hL, hM, h => by
    rw [joinN_cons (c := c) (p := p) (by simp), joinN_cons (c := c) (p := q) (by simp)] at h
    obtain ⟨h1, h2⟩ := cut_uniq (hL p List.mem_cons_self) (hM q List.mem_cons_self) h
    rw [h1, join_uniq (by simp) (by simp) (fun x hx => hL x (List.mem_cons_of_mem _ hx)) (fun x hx => hM x (List.mem_cons_of_mem _ hx)) h2]
theorem strjoin_cps {c : Nat} : ∀ L : List Str, (Str.join ⟨#[c]⟩ L).cps.toList = joinN c (L.map (·.cps.toList))
  | [] => rfl
  | [x] => rfl
  | x :: y :: r => by
    have ih := strjoin_cps (c := c) (y :: r)
    rw [List.map_cons, joinN_cons (by simp), ← ih]
    show (x ++ ⟨#[c]⟩ ++ Str.join ⟨#[c]⟩ (y :: r)).cps.toList = _
    show (x.cps ++ #[c] ++ (Str.join ⟨#[c]⟩ (y :: r)).cps).toList = _
    simp
theorem str_cps {a b : Str} (h : a.cps.toList = b.cps.toList) : a = b := Str.ext' (Array.toList_inj.mp h)
theorem map_cps_inj : ∀ {L M : List Str}, L.map (·.cps.toList) = M.map (·.cps.toList) → L = M
  | [], [], _ => rfl
  | [], _ :: _, h => by cases h
  | _ :: _, [], h => by cases h
  | a :: l, b :: m, h => by
    simp only [List.map_cons, List.cons.injEq] at h
    rw [str_cps h.1, map_cps_inj h.2]
theorem ofs_one (c : Char) : Str.ofString (String.singleton c) = ⟨#[c.toNat]⟩ := by
  apply str_cps
  rw [cps_ofString]
  simp
theorem char_mem {c : Char} {l : List Char} (h : c.toNat ∈ l.map Char.toNat) : c ∈ l := by
  obtain ⟨d, h1, h2⟩ := List.mem_map.mp h
  have : d = c := Char.ext (UInt32.toNat_inj.mp h2)
  exact this ▸ h1
/-- a text split by one sign -/
theorem split_eq (s : String) (c : Char) : Txt.split (Str.ofString s) (Str.ofString (String.singleton c)) = ((splitC c s.toList).map String.ofList).map Str.ofString := by
  rw [ofs_one]
  apply map_cps_inj
  refine join_uniq (c := c.toNat) ?_ ?_ ?_ ?_ ?_
  · intro h
    have h1 := PyProof.Rows.split_pos (Str.ofString s) ⟨#[c.toNat]⟩
    rw [List.map_eq_nil_iff] at h
    rw [h] at h1
    cases h1
  · intro h
    rw [List.map_eq_nil_iff, List.map_eq_nil_iff, List.map_eq_nil_iff] at h
    exact splitC_ne c _ h
  · intro p hp
    obtain ⟨q, h1, rfl⟩ := List.mem_map.mp hp
    exact StrLaws.split_free _ _ q h1
  · intro p hp
    obtain ⟨q, h1, rfl⟩ := List.mem_map.mp hp
    obtain ⟨z, h2, rfl⟩ := List.mem_map.mp h1
    obtain ⟨l, h3, rfl⟩ := List.mem_map.mp h2
    intro h4
    rw [cps_ofString, String.toList_ofList] at h4
    exact splitC_free c _ l h3 (char_mem h4)
  · rw [← strjoin_cps, StrLaws.join_split, cps_ofString, ← splitC_join c]
    congr 1
    rw [List.map_map, List.map_map]
    apply List.map_congr_left
    intro l _
    show _ = (Str.ofString (String.ofList l)).cps.toList
    rw [cps_ofString, String.toList_ofList]
/-- no sign, no cut -/
theorem splitC_none {c : Char} : ∀ {l : List Char}, c ∉ l → splitC c l = [l]
  | [], _ => rfl
  | x :: r, h => by
    have hx : x ≠ c := fun z => h (by rw [z]; exact List.mem_cons_self)
    rw [splitC, if_neg hx, splitC_none fun z => h (List.mem_cons_of_mem _ z)]
theorem splitC_at {c : Char} : ∀ {l r : List Char}, c ∉ l → splitC c (l ++ c :: r) = l :: splitC c r
  | [], r, _ => by rw [List.nil_append, splitC, if_pos rfl]
  | x :: l, r, h => by
    have hx : x ≠ c := fun z => h (by rw [z]; exact List.mem_cons_self)
    rw [List.cons_append, splitC, if_neg hx, splitC_at fun z => h (List.mem_cons_of_mem _ z)]
/-! ### more of heaps -/
theorem dic_lck {S : Hm} {n : Nat} {kvs : List (Key × Val)} (h : S[n]? = some (.lck (.dic kvs))) : Hm.dic S n = some kvs := by simp only [Hm.dic, h]
theorem ix_zero {α : Type} {x : α} {xs : List α} : atI (x :: xs) 0 = some x := by simp [atI, ixN]
theorem ix_nat {α : Type} {xs : List α} {i : Nat} {x : α} (h : xs[i]? = some x) : atI xs (i : Int) = some x := by
  have := (List.getElem?_eq_some_iff.mp h).1
  simp only [atI, ixN]
  rw [if_pos (Int.natCast_nonneg i), if_pos (by omega)]
  simpa using h
theorem cut_from {α : Type} {xs : List α} {i : Nat} : cut xs (some (i : Int)) none = xs.drop i := by
  unfold cut sIx
  simp only [Int.not_lt.mpr (Int.natCast_nonneg i), if_false, Int.toNat_natCast]
  rcases Nat.le_total i xs.length with h | h
  · rw [Nat.min_eq_left h, List.take_of_length_le (by simp)]
  · rw [Nat.min_eq_right h]; simp [List.drop_eq_nil_of_le h]
theorem cut_to {α : Type} {xs : List α} {i : Nat} : cut xs none (some (i : Int)) = xs.take i := by
  unfold cut sIx
  simp only [Int.not_lt.mpr (Int.natCast_nonneg i), if_false, Int.toNat_natCast]
  rcases Nat.le_total i xs.length with h | h
  · rw [Nat.min_eq_left h]; simp
  · rw [Nat.min_eq_right h]; simp [List.take_of_length_le h]
theorem cut_ft {α : Type} {xs : List α} {i j : Nat} : cut xs (some (i : Int)) (some (j : Int)) = (xs.drop i).take (j - i) := by
  unfold cut sIx
  simp only [Int.not_lt.mpr (Int.natCast_nonneg i), Int.not_lt.mpr (Int.natCast_nonneg j), if_false, Int.toNat_natCast]
  rcases Nat.le_total i xs.length with h | h
  · rw [Nat.min_eq_left h]
    rcases Nat.le_total j xs.length with h2 | h2
    · rw [Nat.min_eq_left h2]
    · rw [Nat.min_eq_right h2, List.take_of_length_le (by simp), List.take_of_length_le (by simp; omega)]
  · rw [Nat.min_eq_right h, List.drop_eq_nil_of_le h, List.drop_eq_nil_of_le (Nat.le_refl _)]
    simp
theorem lt_get {α : Type} {S : List α} {n : Nat} {o : α} (h : S[n]? = some o) : n < S.length := (List.getElem?_eq_some_iff.mp h).1
theorem rng_get {lo : Int} {n i : Nat} {v : Val} (h : (rangeL lo 1 n)[i]? = some v) : i < n ∧ v = .int (lo + i) := by
  rw [rangeL_get] at h
  split at h
  · exact ⟨by assumption, by cases h; rfl⟩
  · cases h
/-! ### one step of reckoning -/
section
variable {S : Hm} {Q : Post} {i j : Int}
theorem bmul (h : mulOk i j) (q : Q (.int (i * j)) S) : binW .Mult (.int i) (.int j) S Q := ⟨h, q⟩
theorem badd (q : Q (.int (i + j)) S) : binW .Add (.int i) (.int j) S Q := q
theorem bsub (q : Q (.int (i - j)) S) : binW .Sub (.int i) (.int j) S Q := q
theorem bmod (h : 0 < j) (q : Q (.int (i % j)) S) : binW .Mod (.int i) (.int j) S Q := ⟨h, q⟩
theorem bdiv (h : divOk j) (q : Q (.int (i / j)) S) : binW .FloorDiv (.int i) (.int j) S Q := ⟨h, q⟩
theorem bpow (h : powOk i j) (q : Q (.int (i ^ j.toNat)) S) : binW .Pow (.int i) (.int j) S Q := ⟨h, q⟩
theorem saddW {a b : String} (h : a.length + b.length ≤ sizeLine) (q : Q (.str (a ++ b)) S) : binW .Add (.str a) (.str b) S Q := ⟨h, q⟩
theorem log_le {a : Int} {n : Nat} (h : a.natAbs < 2 ^ (n + 1)) : a.natAbs.log2 ≤ n := by
  by_cases h0 : a.natAbs = 0
  · rw [h0]; exact Nat.zero_le _
  · have := (Nat.log2_lt h0 (k := n + 1)).mpr h
    omega
theorem mul_ok {n m : Nat} (h : i.natAbs < 2 ^ (n + 1)) (h2 : j.natAbs < 2 ^ (m + 1)) (hs : n + m < 100000000) : mulOk i j := by
  have := log_le h
  have := log_le h2
  unfold mulOk
  omega
theorem div_ok {n : Nat} (h : 0 < j) (h2 : j.natAbs < 2 ^ (n + 1)) (hs : n < 9000) : divOk j := by
  have := log_le h2
  exact ⟨h, by omega⟩
theorem nbs_lt {n : Nat} (h0 : 0 ≤ i) (h1 : i < 2 ^ n) : i.natAbs < 2 ^ n := by
  have : ((i.natAbs : Nat) : Int) = i := Int.natAbs_of_nonneg h0
  have h2 : ((i.natAbs : Nat) : Int) < ((2 ^ n : Nat) : Int) := by rw [this]; simpa using h1
  exact_mod_cast h2
end
/-! ### frames: all but one place stay -/
def Fm (p : Nat) (S S' : Hm) : Prop := S.length ≤ S'.length ∧ ∀ n, n < S.length → n ≠ p → S'[n]? = S[n]?
theorem Fm.refl (p : Nat) (S : Hm) : Fm p S S := ⟨Nat.le_refl _, fun _ _ _ => rfl⟩
theorem Fm.trans {p : Nat} {S S1 S2 : Hm} (a : Fm p S S1) (b : Fm p S1 S2) : Fm p S S2 := ⟨Nat.le_trans a.1 b.1, fun n h hn => (b.2 n (Nat.lt_of_lt_of_le h a.1) hn).trans (a.2 n h hn)⟩
theorem Fm.get {p : Nat} {S S1 : Hm} (a : Fm p S S1) {n : Nat} {o : Ob} (hn : n ≠ p) (h : S[n]? = some o) : S1[n]? = some o := (a.2 n (lt_get h) hn).trans h
theorem Fm.app {p : Nat} {S : Hm} (l : Hm) : Fm p S (S ++ l) := ⟨by simp, fun n h _ => List.getElem?_append_left h⟩
theorem Fm.set {p : Nat} {S S' : Hm} {n : Nat} {o : Ob} (h : Fm p S S') (hn : S.length ≤ n) : Fm p S (S'.set n o) := ⟨by simpa using h.1, fun m hm hp => by rw [get_ne (by omega)]; exact h.2 m hm hp⟩
theorem Fm.own {p : Nat} {S : Hm} {o : Ob} : Fm p S (S.set p o) := ⟨by simp, fun m _ hp => get_ne hp⟩
end Mi

set_option maxHeartbeats 4000000
namespace K08
open Mi PySem PySem.Spec L2 PyProof.Rows
abbrev pw : Program := PySem.Challenge.pw_facework_k08_whole_programs_go_round
def top (i : Nat) : Stmt := pw.main.body.getD i (.Pass ⟨0, 0, 0, 0⟩)
def mth (i j : Nat) : Stmt := match top i with
  | .ClassDef _ _ _ b _ _ _ _ _ _ _ => b.getD j (.Pass ⟨0, 0, 0, 0⟩)
  | _ => .Pass ⟨0, 0, 0, 0⟩
def s1_f_pieces_shown : Sts := (.cons (.ret (.lst (.cons (.bi .str (.cons (.loc 0) .nil)) .nil))) .nil)
def s2_f_pieces_shown : Sts := (.cons (.expr (.bm .extend (.loc 1) (.cons (.call "pieces_shown" (.cons (.loc 2) .nil)) .nil))) .nil)
def s3_f_pieces_shown : Sts := (.cons (.ret (.bin .Add (.loc 1) (.lst (.cons (.lit (.str ")")) .nil)))) .nil)
def s4_f_pieces_shown : Sts := (.cons (.set 1 (.lst (.cons (.lit (.str "(")) .nil))) (.cons (.for (.nm 2) (.seq (.loc 0)) s2_f_pieces_shown) s3_f_pieces_shown))
def s5_f_pieces_shown : Sts := (.cons (.ife (.not (.v (.isi (.loc 0) [.tuple]))) s1_f_pieces_shown .nil) s4_f_pieces_shown)
def d_f_pieces_shown : FDef := { params := 1, names := ["thing", "pieces", "one"], dflt := [], body :=
    s5_f_pieces_shown }
def r_f_pieces_shown : Rw := ⟨.f "pieces_shown", d_f_pieces_shown, ⟨("pieces_shown", none), "pieces_shown", "pieces_shown", defArgs (top 1), defBody (top 1), defScope (top 1), [], []⟩⟩
theorem b_f_pieces_shown : BindP r_f_pieces_shown := .of0 rfl fun _ _ _ _ _ _ us hl => match us, hl with | [_], _ => rfl
def s1_f_shown : Sts := (.cons (.aug 1 .Add (.lit (.str " "))) .nil)
def s2_f_shown : Sts := (.cons (.aug 1 .Add (.loc 3)) (.cons (.set 2 (.loc 3)) .nil))
def s3_f_shown : Sts := (.cons (.ife (.and (.v (.cmp .NotIn (.loc 2) (.tup (.cons (.lit (.str "(")) (.cons (.lit (.str ")")) .nil))))) (.v (.cmp .NotIn (.loc 3) (.tup (.cons (.lit (.str "(")) (.cons (.lit (.str ")")) .nil)))))) s1_f_shown .nil) s2_f_shown)
def s4_f_shown : Sts := (.cons (.ret (.loc 1)) .nil)
def s5_f_shown : Sts := (.cons (.set 1 (.lit (.str ""))) (.cons (.set 2 (.lit (.str "("))) (.cons (.for (.nm 3) (.seq (.call "pieces_shown" (.cons (.loc 0) .nil))) s3_f_shown) s4_f_shown)))
def d_f_shown : FDef := { params := 1, names := ["thing", "text", "ahead", "piece"], dflt := [], body :=
    s5_f_shown }
def r_f_shown : Rw := ⟨.f "shown", d_f_shown, ⟨("shown", none), "shown", "shown", defArgs (top 2), defBody (top 2), defScope (top 2), [], []⟩⟩
theorem b_f_shown : BindP r_f_shown := .of0 rfl fun _ _ _ _ _ _ us hl => match us, hl with | [_], _ => rfl
def s1_f_shown_program : Sts := (.cons (.ret (.bm .join (.lit (.str "")) (.cons (.lc (.call "shown" (.cons (.loc 1) .nil)) (.nm 1) (.seq (.loc 0)) .none [("declaration", 1)]) .nil))) .nil)
def d_f_shown_program : FDef := { params := 1, names := ["program", "declaration"], dflt := [], body :=
    s1_f_shown_program }
def r_f_shown_program : Rw := ⟨.f "shown_program", d_f_shown_program, ⟨("shown_program", none), "shown_program", "shown_program", defArgs (top 3), defBody (top 3), defScope (top 3), [], []⟩⟩
theorem b_f_shown_program : BindP r_f_shown_program := .of0 rfl fun _ _ _ _ _ _ us hl => match us, hl with | [_], _ => rfl
def s1_f_all_among : Sts := (.cons (.ret (.lit (.bl false))) .nil)
def s2_f_all_among : Sts := (.cons (.ife (.v (.cmp .NotIn (.loc 2) (.loc 1))) s1_f_all_among .nil) .nil)
def s3_f_all_among : Sts := (.cons (.ret (.lit (.bl true))) .nil)
def s4_f_all_among : Sts := (.cons (.for (.nm 2) (.seq (.loc 0)) s2_f_all_among) s3_f_all_among)
def d_f_all_among : FDef := { params := 2, names := ["word", "signs", "sign"], dflt := [], body :=
    s4_f_all_among }
def r_f_all_among : Rw := ⟨.f "all_among", d_f_all_among, ⟨("all_among", none), "all_among", "all_among", defArgs (top 16), defBody (top 16), defScope (top 16), [], []⟩⟩
theorem b_f_all_among : BindP r_f_all_among := .of0 rfl fun _ _ _ _ _ _ us hl => match us, hl with | [_, _], _ => rfl
def s1_f_is_letters : Sts := (.cons (.ret (.and (.cmp2 .LtE .LtE (.lit (.int 1)) (.bi .len (.cons (.loc 0) .nil)) (.con "MOST_LETTERS")) (.call "all_among" (.cons (.loc 0) (.cons (.con "SMALL") .nil))))) .nil)
def d_f_is_letters : FDef := { params := 1, names := ["word"], dflt := [], body :=
    s1_f_is_letters }
def r_f_is_letters : Rw := ⟨.f "is_letters", d_f_is_letters, ⟨("is_letters", none), "is_letters", "is_letters", defArgs (top 17), defBody (top 17), defScope (top 17), [], []⟩⟩
theorem b_f_is_letters : BindP r_f_is_letters := .of0 rfl fun _ _ _ _ _ _ us hl => match us, hl with | [_], _ => rfl
def s1_f_is_small : Sts := (.cons (.ret (.and (.call "is_letters" (.cons (.loc 0) .nil)) (.cmp .NotIn (.loc 0) (.bm .split (.con "KEPT") (.cons (.lit (.str " ")) .nil))))) .nil)
def d_f_is_small : FDef := { params := 1, names := ["word"], dflt := [], body :=
    s1_f_is_small }
def r_f_is_small : Rw := ⟨.f "is_small", d_f_is_small, ⟨("is_small", none), "is_small", "is_small", defArgs (top 18), defBody (top 18), defScope (top 18), [], []⟩⟩
theorem b_f_is_small : BindP r_f_is_small := .of0 rfl fun _ _ _ _ _ _ us hl => match us, hl with | [_], _ => rfl
def s1_f_is_great : Sts := (.cons (.ret (.and (.cmp2 .LtE .LtE (.lit (.int 1)) (.bi .len (.cons (.loc 0) .nil)) (.con "MOST_LETTERS")) (.and (.cmp .In (.sub (.loc 0) (.lit (.int 0))) (.con "GREAT")) (.call "all_among" (.cons (.slice (.loc 0) (.some (.lit (.int 1))) .none) (.cons (.con "SMALL") .nil)))))) .nil)
def d_f_is_great : FDef := { params := 1, names := ["word"], dflt := [], body :=
    s1_f_is_great }
def r_f_is_great : Rw := ⟨.f "is_great", d_f_is_great, ⟨("is_great", none), "is_great", "is_great", defArgs (top 19), defBody (top 19), defScope (top 19), [], []⟩⟩
theorem b_f_is_great : BindP r_f_is_great := .of0 rfl fun _ _ _ _ _ _ us hl => match us, hl with | [_], _ => rfl
def s1_f_is_path : Sts := (.cons (.set 1 (.bm .split (.loc 0) (.cons (.lit (.str ".")) .nil))) (.cons (.ret (.and (.cmp .Eq (.bi .len (.cons (.loc 1) .nil)) (.lit (.int 2))) (.and (.call "is_great" (.cons (.sub (.loc 1) (.lit (.int 0))) .nil)) (.call "is_small" (.cons (.sub (.loc 1) (.lit (.int 1))) .nil))))) .nil))
def d_f_is_path : FDef := { params := 1, names := ["word", "parts"], dflt := [], body :=
    s1_f_is_path }
def r_f_is_path : Rw := ⟨.f "is_path", d_f_is_path, ⟨("is_path", none), "is_path", "is_path", defArgs (top 20), defBody (top 20), defScope (top 20), [], []⟩⟩
theorem b_f_is_path : BindP r_f_is_path := .of0 rfl fun _ _ _ _ _ _ us hl => match us, hl with | [_], _ => rfl
def s1_f_is_variable : Sts := (.cons (.ret (.and (.bm .startswith (.loc 0) (.cons (.lit (.str "?")) .nil)) (.call "is_letters" (.cons (.slice (.loc 0) (.some (.lit (.int 1))) .none) .nil)))) .nil)
def d_f_is_variable : FDef := { params := 1, names := ["word"], dflt := [], body :=
    s1_f_is_variable }
def r_f_is_variable : Rw := ⟨.f "is_variable", d_f_is_variable, ⟨("is_variable", none), "is_variable", "is_variable", defArgs (top 21), defBody (top 21), defScope (top 21), [], []⟩⟩
theorem b_f_is_variable : BindP r_f_is_variable := .of0 rfl fun _ _ _ _ _ _ us hl => match us, hl with | [_], _ => rfl
def s1_f_is_number : Sts := (.cons (.set 1 (.slice (.loc 0) (.some (.lit (.int 1))) .none)) .nil)
def s2_f_is_number : Sts := (.cons (.ret (.lit (.bl false))) .nil)
def s3_f_is_number : Sts := (.cons (.ret (.or (.cmp .NotEq (.sub (.loc 1) (.lit (.int 0))) (.lit (.str "0"))) (.cmp .Eq (.loc 0) (.lit (.str "0"))))) .nil)
def s4_f_is_number : Sts := (.cons (.ife (.or (.not (.v (.cmp2 .LtE .LtE (.lit (.int 1)) (.bi .len (.cons (.loc 1) .nil)) (.con "MOST_FIGURES")))) (.not (.v (.call "all_among" (.cons (.loc 1) (.cons (.con "FIGURES") .nil)))))) s2_f_is_number .nil) s3_f_is_number)
def s5_f_is_number : Sts := (.cons (.set 1 (.loc 0)) (.cons (.ife (.v (.bm .startswith (.loc 0) (.cons (.lit (.str "-")) .nil))) s1_f_is_number .nil) s4_f_is_number))
def d_f_is_number : FDef := { params := 1, names := ["word", "figures"], dflt := [], body :=
    s5_f_is_number }
def r_f_is_number : Rw := ⟨.f "is_number", d_f_is_number, ⟨("is_number", none), "is_number", "is_number", defArgs (top 22), defBody (top 22), defScope (top 22), [], []⟩⟩
theorem b_f_is_number : BindP r_f_is_number := .of0 rfl fun _ _ _ _ _ _ us hl => match us, hl with | [_], _ => rfl
def s1_f_thing_of : Sts := (.cons (.ret (.bi .int (.cons (.loc 0) .nil))) .nil)
def s2_f_thing_of : Sts := (.cons (.ret (.loc 0)) .nil)
def s3_f_thing_of : Sts := (.cons (.raise "NoText") .nil)
def s4_f_thing_of : Sts := (.cons (.ife (.or (.v (.cmp .Eq (.loc 0) (.lit (.str "->")))) (.or (.v (.call "is_letters" (.cons (.loc 0) .nil))) (.or (.v (.call "is_great" (.cons (.loc 0) .nil))) (.or (.v (.call "is_path" (.cons (.loc 0) .nil))) (.v (.call "is_variable" (.cons (.loc 0) .nil))))))) s2_f_thing_of .nil) s3_f_thing_of)
def s5_f_thing_of : Sts := (.cons (.ife (.v (.call "is_number" (.cons (.loc 0) .nil))) s1_f_thing_of .nil) s4_f_thing_of)
def d_f_thing_of : FDef := { params := 1, names := ["word"], dflt := [], body :=
    s5_f_thing_of }
def r_f_thing_of : Rw := ⟨.f "thing_of", d_f_thing_of, ⟨("thing_of", none), "thing_of", "thing_of", defArgs (top 23), defBody (top 23), defScope (top 23), [], []⟩⟩
theorem b_f_thing_of : BindP r_f_thing_of := .of0 rfl fun _ _ _ _ _ _ us hl => match us, hl with | [_], _ => rfl
def s1_f_pieces_of : Sts := (.cons (.aug 2 .Add (.loc 3)) (.cons .cont .nil))
def s2_f_pieces_of : Sts := (.cons (.expr (.bm .append (.loc 1) (.cons (.loc 2) .nil))) (.cons (.set 2 (.lit (.str ""))) .nil))
def s3_f_pieces_of : Sts := (.cons (.expr (.bm .append (.loc 1) (.cons (.loc 3) .nil))) .nil)
def s4_f_pieces_of : Sts := (.cons (.ife (.or (.v (.cmp .Eq (.loc 3) (.lit (.str "(")))) (.v (.cmp .Eq (.loc 3) (.lit (.str ")"))))) s3_f_pieces_of .nil) .nil)
def s5_f_pieces_of : Sts := (.cons (.ife (.v (.cmp .NotEq (.loc 2) (.lit (.str "")))) s2_f_pieces_of .nil) s4_f_pieces_of)
def s6_f_pieces_of : Sts := (.cons (.ife (.v (.cmp .NotIn (.loc 3) (.lit (.str " \n()")))) s1_f_pieces_of .nil) s5_f_pieces_of)
def s7_f_pieces_of : Sts := (.cons (.expr (.bm .append (.loc 1) (.cons (.loc 2) .nil))) .nil)
def s8_f_pieces_of : Sts := (.cons (.ret (.loc 1)) .nil)
def s9_f_pieces_of : Sts := (.cons (.ife (.v (.cmp .NotEq (.loc 2) (.lit (.str "")))) s7_f_pieces_of .nil) s8_f_pieces_of)
def s10_f_pieces_of : Sts := (.cons (.set 1 (.lst .nil)) (.cons (.set 2 (.lit (.str ""))) (.cons (.for (.nm 3) (.seq (.loc 0)) s6_f_pieces_of) s9_f_pieces_of)))
def d_f_pieces_of : FDef := { params := 1, names := ["text", "pieces", "run", "sign"], dflt := [], body :=
    s10_f_pieces_of }
def r_f_pieces_of : Rw := ⟨.f "pieces_of", d_f_pieces_of, ⟨("pieces_of", none), "pieces_of", "pieces_of", defArgs (top 24), defBody (top 24), defScope (top 24), [], []⟩⟩
theorem b_f_pieces_of : BindP r_f_pieces_of := .of0 rfl fun _ _ _ _ _ _ us hl => match us, hl with | [_], _ => rfl
def s1_f_things_of : Sts := (.cons (.raise "NoText") .nil)
def s2_f_things_of : Sts := (.cons (.raise "NoText") .nil)
def s3_f_things_of : Sts := (.cons (.expr (.bm .append (.loc 1) (.cons (.lst .nil) .nil))) .nil)
def s4_f_things_of : Sts := (.cons (.ife (.v (.cmp .Gt (.bi .len (.cons (.loc 1) .nil)) (.con "MOST_OPEN"))) s2_f_things_of .nil) s3_f_things_of)
def s5_f_things_of : Sts := (.cons (.raise "NoText") .nil)
def s6_f_things_of : Sts := (.cons (.set 3 (.bi .tuple (.cons (.bm .pop (.loc 1) .nil) .nil))) (.cons (.expr (.bm .append (.sub (.loc 1) (.neg (.lit (.int 1)))) (.cons (.loc 3) .nil))) .nil))
def s7_f_things_of : Sts := (.cons (.ife (.v (.cmp .Eq (.bi .len (.cons (.loc 1) .nil)) (.lit (.int 1)))) s5_f_things_of .nil) s6_f_things_of)
def s8_f_things_of : Sts := (.cons (.expr (.bm .append (.sub (.loc 1) (.neg (.lit (.int 1)))) (.cons (.call "thing_of" (.cons (.loc 2) .nil)) .nil))) .nil)
def s9_f_things_of : Sts := (.cons (.ife (.v (.cmp .Eq (.loc 2) (.lit (.str ")")))) s7_f_things_of s8_f_things_of) .nil)
def s10_f_things_of : Sts := (.cons (.ife (.v (.cmp .Eq (.loc 2) (.lit (.str "(")))) s4_f_things_of s9_f_things_of) .nil)
def s11_f_things_of : Sts := (.cons (.raise "NoText") .nil)
def s12_f_things_of : Sts := (.cons (.ret (.bi .tuple (.cons (.sub (.loc 1) (.lit (.int 0))) .nil))) .nil)
def s13_f_things_of : Sts := (.cons (.ife (.v (.cmp .Gt (.bi .len (.cons (.loc 1) .nil)) (.lit (.int 1)))) s11_f_things_of .nil) s12_f_things_of)
def s14_f_things_of : Sts := (.cons (.set 1 (.lst (.cons (.lst .nil) .nil))) (.cons (.for (.nm 2) (.seq (.call "pieces_of" (.cons (.loc 0) .nil))) s10_f_things_of) s13_f_things_of))
def s15_f_things_of : Sts := (.cons (.ife (.v (.cmp .Gt (.bi .len (.cons (.loc 0) .nil)) (.con "MOST_SIGNS"))) s1_f_things_of .nil) s14_f_things_of)
def d_f_things_of : FDef := { params := 1, names := ["text", "piles", "piece", "done"], dflt := [], body :=
    s15_f_things_of }
def r_f_things_of : Rw := ⟨.f "things_of", d_f_things_of, ⟨("things_of", none), "things_of", "things_of", defArgs (top 25), defBody (top 25), defScope (top 25), [], []⟩⟩
theorem b_f_things_of : BindP r_f_things_of := .of0 rfl fun _ _ _ _ _ _ us hl => match us, hl with | [_], _ => rfl
def s1_f_is_word : Sts := (.cons (.ret (.isi (.loc 0) [.str])) .nil)
def d_f_is_word : FDef := { params := 1, names := ["thing"], dflt := [], body :=
    s1_f_is_word }
def r_f_is_word : Rw := ⟨.f "is_word", d_f_is_word, ⟨("is_word", none), "is_word", "is_word", defArgs (top 30), defBody (top 30), defScope (top 30), [], []⟩⟩
theorem b_f_is_word : BindP r_f_is_word := .of0 rfl fun _ _ _ _ _ _ us hl => match us, hl with | [_], _ => rfl
def s1_f_is_whole : Sts := (.cons (.ret (.and (.isi (.loc 0) [.int]) (.not (.isi (.loc 0) [.bool])))) .nil)
def d_f_is_whole : FDef := { params := 1, names := ["thing"], dflt := [], body :=
    s1_f_is_whole }
def r_f_is_whole : Rw := ⟨.f "is_whole", d_f_is_whole, ⟨("is_whole", none), "is_whole", "is_whole", defArgs (top 31), defBody (top 31), defScope (top 31), [], []⟩⟩
theorem b_f_is_whole : BindP r_f_is_whole := .of0 rfl fun _ _ _ _ _ _ us hl => match us, hl with | [_], _ => rfl
def s1_f_is_row : Sts := (.cons (.ret (.and (.isi (.loc 0) [.tuple]) (.cmp2 .LtE .LtE (.loc 1) (.bi .len (.cons (.loc 0) .nil)) (.loc 2)))) .nil)
def d_f_is_row : FDef := { params := 3, names := ["thing", "least", "most"], dflt := [], body :=
    s1_f_is_row }
def r_f_is_row : Rw := ⟨.f "is_row", d_f_is_row, ⟨("is_row", none), "is_row", "is_row", defArgs (top 32), defBody (top 32), defScope (top 32), [], []⟩⟩
theorem b_f_is_row : BindP r_f_is_row := .of0 rfl fun _ _ _ _ _ _ us hl => match us, hl with | [_, _, _], _ => rfl
def s1_f_is_small_name : Sts := (.cons (.ret (.and (.call "is_word" (.cons (.loc 0) .nil)) (.call "is_small" (.cons (.loc 0) .nil)))) .nil)
def d_f_is_small_name : FDef := { params := 1, names := ["thing"], dflt := [], body :=
    s1_f_is_small_name }
def r_f_is_small_name : Rw := ⟨.f "is_small_name", d_f_is_small_name, ⟨("is_small_name", none), "is_small_name", "is_small_name", defArgs (top 33), defBody (top 33), defScope (top 33), [], []⟩⟩
theorem b_f_is_small_name : BindP r_f_is_small_name := .of0 rfl fun _ _ _ _ _ _ us hl => match us, hl with | [_], _ => rfl
def s1_f_is_great_name : Sts := (.cons (.ret (.and (.call "is_word" (.cons (.loc 0) .nil)) (.call "is_great" (.cons (.loc 0) .nil)))) .nil)
def d_f_is_great_name : FDef := { params := 1, names := ["thing"], dflt := [], body :=
    s1_f_is_great_name }
def r_f_is_great_name : Rw := ⟨.f "is_great_name", d_f_is_great_name, ⟨("is_great_name", none), "is_great_name", "is_great_name", defArgs (top 34), defBody (top 34), defScope (top 34), [], []⟩⟩
theorem b_f_is_great_name : BindP r_f_is_great_name := .of0 rfl fun _ _ _ _ _ _ us hl => match us, hl with | [_], _ => rfl
def s1_f_is_kind_name : Sts := (.cons (.ret (.and (.call "is_word" (.cons (.loc 0) .nil)) (.or (.call "is_small" (.cons (.loc 0) .nil)) (.call "is_path" (.cons (.loc 0) .nil))))) .nil)
def d_f_is_kind_name : FDef := { params := 1, names := ["thing"], dflt := [], body :=
    s1_f_is_kind_name }
def r_f_is_kind_name : Rw := ⟨.f "is_kind_name", d_f_is_kind_name, ⟨("is_kind_name", none), "is_kind_name", "is_kind_name", defArgs (top 35), defBody (top 35), defScope (top 35), [], []⟩⟩
theorem b_f_is_kind_name : BindP r_f_is_kind_name := .of0 rfl fun _ _ _ _ _ _ us hl => match us, hl with | [_], _ => rfl
def s1_f_all_kinds : Sts := (.cons (.ret (.bi .all (.cons (.lc (.call "is_kind" (.cons (.loc 1) .nil)) (.nm 1) (.seq (.loc 0)) .none [("thing", 1)]) .nil))) .nil)
def d_f_all_kinds : FDef := { params := 1, names := ["things", "thing"], dflt := [], body :=
    s1_f_all_kinds }
def r_f_all_kinds : Rw := ⟨.f "all_kinds", d_f_all_kinds, ⟨("all_kinds", none), "all_kinds", "all_kinds", defArgs (top 36), defBody (top 36), defScope (top 36), [], []⟩⟩
theorem b_f_all_kinds : BindP r_f_all_kinds := .of0 rfl fun _ _ _ _ _ _ us hl => match us, hl with | [_], _ => rfl
def s1_f_is_kind : Sts := (.cons (.ret (.or (.cmp .Eq (.loc 0) (.lit (.str "num"))) (.or (.call "is_variable" (.cons (.loc 0) .nil)) (.call "is_kind_name" (.cons (.loc 0) .nil))))) .nil)
def s2_f_is_kind : Sts := (.cons (.ret (.lit (.bl false))) .nil)
def s3_f_is_kind : Sts := (.cons (.ret (.and (.cmp .Eq (.bi .len (.cons (.loc 0) .nil)) (.lit (.int 3))) (.call "all_kinds" (.cons (.slice (.loc 0) (.some (.lit (.int 1))) .none) .nil)))) .nil)
def s4_f_is_kind : Sts := (.cons (.ret (.and (.call "is_kind_name" (.cons (.sub (.loc 0) (.lit (.int 0))) .nil)) (.call "all_kinds" (.cons (.slice (.loc 0) (.some (.lit (.int 1))) .none) .nil)))) .nil)
def s5_f_is_kind : Sts := (.cons (.ife (.v (.cmp .Eq (.sub (.loc 0) (.lit (.int 0))) (.lit (.str "->")))) s3_f_is_kind .nil) s4_f_is_kind)
def s6_f_is_kind : Sts := (.cons (.ife (.not (.v (.call "is_row" (.cons (.loc 0) (.cons (.lit (.int 2)) (.cons (.lit (.int 4)) .nil)))))) s2_f_is_kind .nil) s5_f_is_kind)
def s7_f_is_kind : Sts := (.cons (.ife (.v (.call "is_word" (.cons (.loc 0) .nil))) s1_f_is_kind .nil) s6_f_is_kind)
def d_f_is_kind : FDef := { params := 1, names := ["thing"], dflt := [], body :=
    s7_f_is_kind }
def r_f_is_kind : Rw := ⟨.f "is_kind", d_f_is_kind, ⟨("is_kind", none), "is_kind", "is_kind", defArgs (top 37), defBody (top 37), defScope (top 37), [], []⟩⟩
theorem b_f_is_kind : BindP r_f_is_kind := .of0 rfl fun _ _ _ _ _ _ us hl => match us, hl with | [_], _ => rfl
def s1_f_all_phrases : Sts := (.cons (.ret (.bi .all (.cons (.lc (.call "is_phrase" (.cons (.loc 1) .nil)) (.nm 1) (.seq (.loc 0)) .none [("thing", 1)]) .nil))) .nil)
def d_f_all_phrases : FDef := { params := 1, names := ["things", "thing"], dflt := [], body :=
    s1_f_all_phrases }
def r_f_all_phrases : Rw := ⟨.f "all_phrases", d_f_all_phrases, ⟨("all_phrases", none), "all_phrases", "all_phrases", defArgs (top 38), defBody (top 38), defScope (top 38), [], []⟩⟩
theorem b_f_all_phrases : BindP r_f_all_phrases := .of0 rfl fun _ _ _ _ _ _ us hl => match us, hl with | [_], _ => rfl
def s1_f_is_ring_row : Sts := (.cons (.ret (.lit (.bl false))) .nil)
def s2_f_is_ring_row : Sts := (.cons (.ret (.call "is_phrase" (.cons (.sub (.loc 0) (.lit (.int 2))) .nil))) .nil)
def s3_f_is_ring_row : Sts := (.cons (.ife (.or (.not (.v (.call "is_row" (.cons (.loc 0) (.cons (.lit (.int 3)) (.cons (.lit (.int 3)) .nil)))))) (.or (.not (.v (.call "is_small_name" (.cons (.sub (.loc 0) (.lit (.int 0))) .nil)))) (.not (.v (.call "is_small_name" (.cons (.sub (.loc 0) (.lit (.int 1))) .nil)))))) s1_f_is_ring_row .nil) s2_f_is_ring_row)
def d_f_is_ring_row : FDef := { params := 1, names := ["thing"], dflt := [], body :=
    s3_f_is_ring_row }
def r_f_is_ring_row : Rw := ⟨.f "is_ring_row", d_f_is_ring_row, ⟨("is_ring_row", none), "is_ring_row", "is_ring_row", defArgs (top 39), defBody (top 39), defScope (top 39), [], []⟩⟩
theorem b_f_is_ring_row : BindP r_f_is_ring_row := .of0 rfl fun _ _ _ _ _ _ us hl => match us, hl with | [_], _ => rfl
def s1_f_is_ring : Sts := (.cons (.ret (.lit (.bl false))) .nil)
def s2_f_is_ring : Sts := (.cons (.ret (.and (.bi .all (.cons (.lc (.call "is_ring_row" (.cons (.loc 1) .nil)) (.nm 1) (.seq (.sub (.loc 0) (.lit (.int 1)))) .none [("row", 1)]) .nil)) (.call "is_phrase" (.cons (.sub (.loc 0) (.lit (.int 2))) .nil)))) .nil)
def s3_f_is_ring : Sts := (.cons (.ife (.or (.v (.cmp .NotEq (.bi .len (.cons (.loc 0) .nil)) (.lit (.int 3)))) (.not (.v (.call "is_row" (.cons (.sub (.loc 0) (.lit (.int 1))) (.cons (.lit (.int 1)) (.cons (.lit (.int 4)) .nil))))))) s1_f_is_ring .nil) s2_f_is_ring)
def d_f_is_ring : FDef := { params := 1, names := ["thing", "row"], dflt := [], body :=
    s3_f_is_ring }
def r_f_is_ring : Rw := ⟨.f "is_ring", d_f_is_ring, ⟨("is_ring", none), "is_ring", "is_ring", defArgs (top 40), defBody (top 40), defScope (top 40), [], []⟩⟩
theorem b_f_is_ring : BindP r_f_is_ring := .of0 rfl fun _ _ _ _ _ _ us hl => match us, hl with | [_], _ => rfl
def s1_f_is_arm : Sts := (.cons (.ret (.lit (.bl false))) .nil)
def s2_f_is_arm : Sts := (.cons (.ret (.and (.call "is_great_name" (.cons (.sub (.sub (.loc 0) (.lit (.int 0))) (.lit (.int 0))) .nil)) (.bi .all (.cons (.lc (.call "is_small_name" (.cons (.loc 1) .nil)) (.nm 1) (.seq (.slice (.sub (.loc 0) (.lit (.int 0))) (.some (.lit (.int 1))) .none)) .none [("name", 1)]) .nil)))) .nil)
def s3_f_is_arm : Sts := (.cons (.ife (.or (.not (.v (.call "is_row" (.cons (.loc 0) (.cons (.lit (.int 2)) (.cons (.lit (.int 2)) .nil)))))) (.or (.not (.v (.call "is_row" (.cons (.sub (.loc 0) (.lit (.int 0))) (.cons (.lit (.int 1)) (.cons (.lit (.int 5)) .nil)))))) (.not (.v (.call "is_phrase" (.cons (.sub (.loc 0) (.lit (.int 1))) .nil)))))) s1_f_is_arm .nil) s2_f_is_arm)
def d_f_is_arm : FDef := { params := 1, names := ["thing", "name"], dflt := [], body :=
    s3_f_is_arm }
def r_f_is_arm : Rw := ⟨.f "is_arm", d_f_is_arm, ⟨("is_arm", none), "is_arm", "is_arm", defArgs (top 41), defBody (top 41), defScope (top 41), [], []⟩⟩
theorem b_f_is_arm : BindP r_f_is_arm := .of0 rfl fun _ _ _ _ _ _ us hl => match us, hl with | [_], _ => rfl
def s1_f_is_case : Sts := (.cons (.ret (.and (.cmp2 .LtE .LtE (.lit (.int 3)) (.bi .len (.cons (.loc 0) .nil)) (.lit (.int 8))) (.and (.call "is_phrase" (.cons (.sub (.loc 0) (.lit (.int 1))) .nil)) (.bi .all (.cons (.lc (.call "is_arm" (.cons (.loc 1) .nil)) (.nm 1) (.seq (.slice (.loc 0) (.some (.lit (.int 2))) .none)) .none [("arm", 1)]) .nil))))) .nil)
def d_f_is_case : FDef := { params := 1, names := ["thing", "arm"], dflt := [], body :=
    s1_f_is_case }
def r_f_is_case : Rw := ⟨.f "is_case", d_f_is_case, ⟨("is_case", none), "is_case", "is_case", defArgs (top 42), defBody (top 42), defScope (top 42), [], []⟩⟩
theorem b_f_is_case : BindP r_f_is_case := .of0 rfl fun _ _ _ _ _ _ us hl => match us, hl with | [_], _ => rfl
def s1_f_is_named : Sts := (.cons (.ret (.lit (.bl false))) .nil)
def s2_f_is_named : Sts := (.cons (.ret (.call "all_phrases" (.cons (.slice (.loc 0) (.some (.lit (.int 2))) .none) .nil))) .nil)
def s3_f_is_named : Sts := (.cons (.ife (.or (.not (.v (.cmp2 .LtE .LtE (.loc 1) (.bin .Sub (.bi .len (.cons (.loc 0) .nil)) (.lit (.int 2))) (.loc 2)))) (.not (.v (.call "is_small_name" (.cons (.sub (.loc 0) (.lit (.int 1))) .nil))))) s1_f_is_named .nil) s2_f_is_named)
def d_f_is_named : FDef := { params := 3, names := ["thing", "least", "most"], dflt := [], body :=
    s3_f_is_named }
def r_f_is_named : Rw := ⟨.f "is_named", d_f_is_named, ⟨("is_named", none), "is_named", "is_named", defArgs (top 43), defBody (top 43), defScope (top 43), [], []⟩⟩
theorem b_f_is_named : BindP r_f_is_named := .of0 rfl fun _ _ _ _ _ _ us hl => match us, hl with | [_, _, _], _ => rfl
def s1_f_is_phrase : Sts := (.cons (.ret (.lit (.bl true))) .nil)
def s2_f_is_phrase : Sts := (.cons (.ret (.or (.call "is_small" (.cons (.loc 0) .nil)) (.or (.call "is_path" (.cons (.loc 0) .nil)) (.call "is_great" (.cons (.loc 0) .nil))))) .nil)
def s3_f_is_phrase : Sts := (.cons (.ret (.lit (.bl false))) .nil)
def s4_f_is_phrase : Sts := (.cons (.ret (.and (.cmp .LtE (.bi .len (.cons (.loc 0) .nil)) (.lit (.int 5))) (.call "all_phrases" (.cons (.slice (.loc 0) (.some (.lit (.int 1))) .none) .nil)))) .nil)
def s5_f_is_phrase : Sts := (.cons (.ret (.and (.cmp .Eq (.bi .len (.cons (.loc 0) .nil)) (.lit (.int 3))) (.call "all_phrases" (.cons (.slice (.loc 0) (.some (.lit (.int 1))) .none) .nil)))) .nil)
def s6_f_is_phrase : Sts := (.cons (.ret (.and (.cmp .Eq (.bi .len (.cons (.loc 0) .nil)) (.lit (.int 4))) (.call "all_phrases" (.cons (.slice (.loc 0) (.some (.lit (.int 1))) .none) .nil)))) .nil)
def s7_f_is_phrase : Sts := (.cons (.ret (.call "is_named" (.cons (.loc 0) (.cons (.lit (.int 1)) (.cons (.lit (.int 1)) .nil))))) .nil)
def s8_f_is_phrase : Sts := (.cons (.ret (.call "is_named" (.cons (.loc 0) (.cons (.lit (.int 2)) (.cons (.lit (.int 2)) .nil))))) .nil)
def s9_f_is_phrase : Sts := (.cons (.ret (.call "is_named" (.cons (.loc 0) (.cons (.lit (.int 1)) (.cons (.lit (.int 4)) .nil))))) .nil)
def s10_f_is_phrase : Sts := (.cons (.ret (.call "is_ring" (.cons (.loc 0) .nil))) .nil)
def s11_f_is_phrase : Sts := (.cons (.ret (.and (.cmp .Eq (.loc 1) (.lit (.str "case"))) (.call "is_case" (.cons (.loc 0) .nil)))) .nil)
def s12_f_is_phrase : Sts := (.cons (.ife (.v (.cmp .Eq (.loc 1) (.lit (.str "ring")))) s10_f_is_phrase .nil) s11_f_is_phrase)
def s13_f_is_phrase : Sts := (.cons (.ife (.v (.cmp .Eq (.loc 1) (.lit (.str "make")))) s9_f_is_phrase .nil) s12_f_is_phrase)
def s14_f_is_phrase : Sts := (.cons (.ife (.v (.cmp .Eq (.loc 1) (.lit (.str "let")))) s8_f_is_phrase .nil) s13_f_is_phrase)
def s15_f_is_phrase : Sts := (.cons (.ife (.or (.v (.cmp .Eq (.loc 1) (.lit (.str "fun")))) (.v (.cmp .Eq (.loc 1) (.lit (.str "pick"))))) s7_f_is_phrase .nil) s14_f_is_phrase)
def s16_f_is_phrase : Sts := (.cons (.ife (.v (.cmp .Eq (.loc 1) (.lit (.str "if")))) s6_f_is_phrase .nil) s15_f_is_phrase)
def s17_f_is_phrase : Sts := (.cons (.ife (.v (.cmp .In (.loc 1) (.con "PLAIN_HEADS"))) s5_f_is_phrase .nil) s16_f_is_phrase)
def s18_f_is_phrase : Sts := (.cons (.set 1 (.sub (.loc 0) (.lit (.int 0)))) (.cons (.ife (.v (.call "is_great" (.cons (.loc 1) .nil))) s4_f_is_phrase .nil) s17_f_is_phrase))
def s19_f_is_phrase : Sts := (.cons (.ife (.or (.not (.v (.call "is_row" (.cons (.loc 0) (.cons (.lit (.int 2)) (.cons (.lit (.int 8)) .nil)))))) (.not (.v (.call "is_word" (.cons (.sub (.loc 0) (.lit (.int 0))) .nil))))) s3_f_is_phrase .nil) s18_f_is_phrase)
def s20_f_is_phrase : Sts := (.cons (.ife (.v (.call "is_word" (.cons (.loc 0) .nil))) s2_f_is_phrase .nil) s19_f_is_phrase)
def s21_f_is_phrase : Sts := (.cons (.ife (.v (.call "is_whole" (.cons (.loc 0) .nil))) s1_f_is_phrase .nil) s20_f_is_phrase)
def d_f_is_phrase : FDef := { params := 1, names := ["thing", "head"], dflt := [], body :=
    s21_f_is_phrase }
def r_f_is_phrase : Rw := ⟨.f "is_phrase", d_f_is_phrase, ⟨("is_phrase", none), "is_phrase", "is_phrase", defArgs (top 44), defBody (top 44), defScope (top 44), [], []⟩⟩
theorem b_f_is_phrase : BindP r_f_is_phrase := .of0 rfl fun _ _ _ _ _ _ us hl => match us, hl with | [_], _ => rfl
def s1_f_are_variables : Sts := (.cons (.ret (.and (.call "is_row" (.cons (.loc 0) (.cons (.lit (.int 0)) (.cons (.loc 1) .nil)))) (.bi .all (.cons (.lc (.and (.call "is_word" (.cons (.loc 2) .nil)) (.call "is_variable" (.cons (.loc 2) .nil))) (.nm 2) (.seq (.loc 0)) .none [("one", 2)]) .nil)))) .nil)
def d_f_are_variables : FDef := { params := 2, names := ["thing", "most", "one"], dflt := [], body :=
    s1_f_are_variables }
def r_f_are_variables : Rw := ⟨.f "are_variables", d_f_are_variables, ⟨("are_variables", none), "are_variables", "are_variables", defArgs (top 45), defBody (top 45), defScope (top 45), [], []⟩⟩
theorem b_f_are_variables : BindP r_f_are_variables := .of0 rfl fun _ _ _ _ _ _ us hl => match us, hl with | [_, _], _ => rfl
def s1_f_is_given : Sts := (.cons (.ret (.lit (.bl true))) .nil)
def s2_f_is_given : Sts := (.cons (.ret (.and (.call "is_row" (.cons (.loc 0) (.cons (.lit (.int 2)) (.cons (.lit (.int 3)) .nil)))) (.bi .all (.cons (.lc (.call "is_great_name" (.cons (.loc 1) .nil)) (.nm 1) (.seq (.loc 0)) .none [("one", 1)]) .nil)))) .nil)
def s3_f_is_given : Sts := (.cons (.ife (.v (.call "is_great_name" (.cons (.loc 0) .nil))) s1_f_is_given .nil) s2_f_is_given)
def d_f_is_given : FDef := { params := 1, names := ["thing", "one"], dflt := [], body :=
    s3_f_is_given }
def r_f_is_given : Rw := ⟨.f "is_given", d_f_is_given, ⟨("is_given", none), "is_given", "is_given", defArgs (top 46), defBody (top 46), defScope (top 46), [], []⟩⟩
theorem b_f_is_given : BindP r_f_is_given := .of0 rfl fun _ _ _ _ _ _ us hl => match us, hl with | [_], _ => rfl
def s1_f_is_giver : Sts := (.cons (.ret (.and (.call "is_row" (.cons (.loc 0) (.cons (.lit (.int 2)) (.cons (.lit (.int 2)) .nil)))) (.and (.call "is_great_name" (.cons (.sub (.loc 0) (.lit (.int 0))) .nil)) (.call "is_given" (.cons (.sub (.loc 0) (.lit (.int 1))) .nil))))) .nil)
def d_f_is_giver : FDef := { params := 1, names := ["thing"], dflt := [], body :=
    s1_f_is_giver }
def r_f_is_giver : Rw := ⟨.f "is_giver", d_f_is_giver, ⟨("is_giver", none), "is_giver", "is_giver", defArgs (top 47), defBody (top 47), defScope (top 47), [], []⟩⟩
theorem b_f_is_giver : BindP r_f_is_giver := .of0 rfl fun _ _ _ _ _ _ us hl => match us, hl with | [_], _ => rfl
def s1_f_are_givers : Sts := (.cons (.ret (.and (.call "is_row" (.cons (.loc 0) (.cons (.loc 1) (.cons (.lit (.int 2)) .nil)))) (.bi .all (.cons (.lc (.call "is_giver" (.cons (.loc 2) .nil)) (.nm 2) (.seq (.loc 0)) .none [("one", 2)]) .nil)))) .nil)
def d_f_are_givers : FDef := { params := 2, names := ["thing", "least", "one"], dflt := [], body :=
    s1_f_are_givers }
def r_f_are_givers : Rw := ⟨.f "are_givers", d_f_are_givers, ⟨("are_givers", none), "are_givers", "are_givers", defArgs (top 48), defBody (top 48), defScope (top 48), [], []⟩⟩
theorem b_f_are_givers : BindP r_f_are_givers := .of0 rfl fun _ _ _ _ _ _ us hl => match us, hl with | [_, _], _ => rfl
def s1_f_is_tag : Sts := (.cons (.ret (.and (.call "is_row" (.cons (.loc 0) (.cons (.lit (.int 1)) (.cons (.lit (.int 5)) .nil)))) (.and (.call "is_great_name" (.cons (.sub (.loc 0) (.lit (.int 0))) .nil)) (.call "all_kinds" (.cons (.slice (.loc 0) (.some (.lit (.int 1))) .none) .nil))))) .nil)
def d_f_is_tag : FDef := { params := 1, names := ["thing"], dflt := [], body :=
    s1_f_is_tag }
def r_f_is_tag : Rw := ⟨.f "is_tag", d_f_is_tag, ⟨("is_tag", none), "is_tag", "is_tag", defArgs (top 49), defBody (top 49), defScope (top 49), [], []⟩⟩
theorem b_f_is_tag : BindP r_f_is_tag := .of0 rfl fun _ _ _ _ _ _ us hl => match us, hl with | [_], _ => rfl
def s1_f_is_field : Sts := (.cons (.ret (.and (.call "is_row" (.cons (.loc 0) (.cons (.lit (.int 2)) (.cons (.lit (.int 2)) .nil)))) (.and (.call "is_small_name" (.cons (.sub (.loc 0) (.lit (.int 0))) .nil)) (.call "is_kind" (.cons (.sub (.loc 0) (.lit (.int 1))) .nil))))) .nil)
def d_f_is_field : FDef := { params := 1, names := ["thing"], dflt := [], body :=
    s1_f_is_field }
def r_f_is_field : Rw := ⟨.f "is_field", d_f_is_field, ⟨("is_field", none), "is_field", "is_field", defArgs (top 50), defBody (top 50), defScope (top 50), [], []⟩⟩
theorem b_f_is_field : BindP r_f_is_field := .of0 rfl fun _ _ _ _ _ _ us hl => match us, hl with | [_], _ => rfl
def s1_f_is_item : Sts := (.cons (.ret (.lit (.bl false))) .nil)
def s2_f_is_item : Sts := (.cons (.ret (.and (.call "is_whole" (.cons (.sub (.loc 0) (.lit (.int 2))) .nil)) (.cmp2 .LtE .LtE (.lit (.int 0)) (.sub (.loc 0) (.lit (.int 2))) (.lit (.int 2))))) .nil)
def s3_f_is_item : Sts := (.cons (.ret (.and (.cmp .Eq (.sub (.loc 0) (.lit (.int 0))) (.lit (.str "val"))) (.call "is_kind" (.cons (.sub (.loc 0) (.lit (.int 2))) .nil)))) .nil)
def s4_f_is_item : Sts := (.cons (.ife (.v (.cmp .Eq (.sub (.loc 0) (.lit (.int 0))) (.lit (.str "hide")))) s2_f_is_item .nil) s3_f_is_item)
def s5_f_is_item : Sts := (.cons (.ife (.or (.not (.v (.call "is_row" (.cons (.loc 0) (.cons (.lit (.int 3)) (.cons (.lit (.int 3)) .nil)))))) (.not (.v (.call "is_small_name" (.cons (.sub (.loc 0) (.lit (.int 1))) .nil))))) s1_f_is_item .nil) s4_f_is_item)
def d_f_is_item : FDef := { params := 1, names := ["thing"], dflt := [], body :=
    s5_f_is_item }
def r_f_is_item : Rw := ⟨.f "is_item", d_f_is_item, ⟨("is_item", none), "is_item", "is_item", defArgs (top 51), defBody (top 51), defScope (top 51), [], []⟩⟩
theorem b_f_is_item : BindP r_f_is_item := .of0 rfl fun _ _ _ _ _ _ us hl => match us, hl with | [_], _ => rfl
def s1_f_is_body_row : Sts := (.cons (.ret (.lit (.bl false))) .nil)
def s2_f_is_body_row : Sts := (.cons (.ret (.and (.cmp .Eq (.bi .len (.cons (.loc 0) .nil)) (.lit (.int 4))) (.and (.call "are_variables" (.cons (.sub (.loc 0) (.lit (.int 2))) (.cons (.lit (.int 2)) .nil))) (.call "is_kind" (.cons (.sub (.loc 0) (.lit (.int 3))) .nil))))) .nil)
def s3_f_is_body_row : Sts := (.cons (.ret (.and (.cmp .Eq (.sub (.loc 0) (.lit (.int 0))) (.lit (.str "val"))) (.and (.cmp .Eq (.bi .len (.cons (.loc 0) .nil)) (.lit (.int 3))) (.call "is_phrase" (.cons (.sub (.loc 0) (.lit (.int 2))) .nil))))) .nil)
def s4_f_is_body_row : Sts := (.cons (.ife (.v (.cmp .Eq (.sub (.loc 0) (.lit (.int 0))) (.lit (.str "hide")))) s2_f_is_body_row .nil) s3_f_is_body_row)
def s5_f_is_body_row : Sts := (.cons (.ife (.or (.not (.v (.call "is_row" (.cons (.loc 0) (.cons (.lit (.int 3)) (.cons (.lit (.int 4)) .nil)))))) (.not (.v (.call "is_small_name" (.cons (.sub (.loc 0) (.lit (.int 1))) .nil))))) s1_f_is_body_row .nil) s4_f_is_body_row)
def d_f_is_body_row : FDef := { params := 1, names := ["thing"], dflt := [], body :=
    s5_f_is_body_row }
def r_f_is_body_row : Rw := ⟨.f "is_body_row", d_f_is_body_row, ⟨("is_body_row", none), "is_body_row", "is_body_row", defArgs (top 52), defBody (top 52), defScope (top 52), [], []⟩⟩
theorem b_f_is_body_row : BindP r_f_is_body_row := .of0 rfl fun _ _ _ _ _ _ us hl => match us, hl with | [_], _ => rfl
def s1_f_is_kind_told : Sts := (.cons (.ret (.lit (.bl false))) .nil)
def s2_f_is_kind_told : Sts := (.cons (.ret (.and (.cmp .LtE (.bi .len (.cons (.loc 0) .nil)) (.lit (.int 9))) (.bi .all (.cons (.lc (.call "is_tag" (.cons (.loc 2) .nil)) (.nm 2) (.seq (.slice (.loc 0) (.some (.lit (.int 3))) .none)) .none [("tag", 2)]) .nil)))) .nil)
def s3_f_is_kind_told : Sts := (.cons (.ret (.and (.cmp .LtE (.bi .len (.cons (.loc 0) .nil)) (.lit (.int 7))) (.bi .all (.cons (.lc (.call "is_field" (.cons (.loc 1) .nil)) (.nm 1) (.seq (.slice (.loc 0) (.some (.lit (.int 3))) .none)) .none [("field", 1)]) .nil)))) .nil)
def s4_f_is_kind_told : Sts := (.cons (.ife (.v (.cmp .Eq (.sub (.loc 0) (.lit (.int 0))) (.lit (.str "kind")))) s2_f_is_kind_told .nil) s3_f_is_kind_told)
def s5_f_is_kind_told : Sts := (.cons (.ife (.or (.v (.cmp .Lt (.bi .len (.cons (.loc 0) .nil)) (.lit (.int 4)))) (.or (.not (.v (.call "is_small_name" (.cons (.sub (.loc 0) (.lit (.int 1))) .nil)))) (.not (.v (.call "are_variables" (.cons (.sub (.loc 0) (.lit (.int 2))) (.cons (.lit (.int 3)) .nil))))))) s1_f_is_kind_told .nil) s4_f_is_kind_told)
def d_f_is_kind_told : FDef := { params := 1, names := ["thing", "field", "tag"], dflt := [], body :=
    s5_f_is_kind_told }
def r_f_is_kind_told : Rw := ⟨.f "is_kind_told", d_f_is_kind_told, ⟨("is_kind_told", none), "is_kind_told", "is_kind_told", defArgs (top 53), defBody (top 53), defScope (top 53), [], []⟩⟩
theorem b_f_is_kind_told : BindP r_f_is_kind_told := .of0 rfl fun _ _ _ _ _ _ us hl => match us, hl with | [_], _ => rfl
def s1_f_is_face : Sts := (.cons (.ret (.lit (.bl false))) .nil)
def s2_f_is_face : Sts := (.cons (.ret (.bi .all (.cons (.lc (.call "is_item" (.cons (.loc 1) .nil)) (.nm 1) (.seq (.slice (.loc 0) (.some (.lit (.int 3))) .none)) .none [("item", 1)]) .nil))) .nil)
def s3_f_is_face : Sts := (.cons (.ife (.or (.not (.v (.cmp2 .LtE .LtE (.lit (.int 3)) (.bi .len (.cons (.loc 0) .nil)) (.bin .Add (.lit (.int 3)) (.con "MOST_ROWS"))))) (.or (.not (.v (.call "is_great_name" (.cons (.sub (.loc 0) (.lit (.int 1))) .nil)))) (.not (.v (.call "are_givers" (.cons (.sub (.loc 0) (.lit (.int 2))) (.cons (.lit (.int 0)) .nil))))))) s1_f_is_face .nil) s2_f_is_face)
def d_f_is_face : FDef := { params := 1, names := ["thing", "item"], dflt := [], body :=
    s3_f_is_face }
def r_f_is_face : Rw := ⟨.f "is_face", d_f_is_face, ⟨("is_face", none), "is_face", "is_face", defArgs (top 54), defBody (top 54), defScope (top 54), [], []⟩⟩
theorem b_f_is_face : BindP r_f_is_face := .of0 rfl fun _ _ _ _ _ _ us hl => match us, hl with | [_], _ => rfl
def s1_f_is_part : Sts := (.cons (.ret (.lit (.bl false))) .nil)
def s2_f_is_part : Sts := (.cons (.ret (.bi .all (.cons (.lc (.call "is_body_row" (.cons (.loc 1) .nil)) (.nm 1) (.seq (.slice (.loc 0) (.some (.lit (.int 3))) .none)) .none [("row", 1)]) .nil))) .nil)
def s3_f_is_part : Sts := (.cons (.ife (.or (.not (.v (.cmp2 .LtE .LtE (.lit (.int 3)) (.bi .len (.cons (.loc 0) .nil)) (.bin .Add (.lit (.int 3)) (.con "MOST_ROWS"))))) (.or (.not (.v (.call "is_great_name" (.cons (.sub (.loc 0) (.lit (.int 1))) .nil)))) (.not (.v (.call "is_given" (.cons (.sub (.loc 0) (.lit (.int 2))) .nil)))))) s1_f_is_part .nil) s2_f_is_part)
def d_f_is_part : FDef := { params := 1, names := ["thing", "row"], dflt := [], body :=
    s3_f_is_part }
def r_f_is_part : Rw := ⟨.f "is_part", d_f_is_part, ⟨("is_part", none), "is_part", "is_part", defArgs (top 55), defBody (top 55), defScope (top 55), [], []⟩⟩
theorem b_f_is_part : BindP r_f_is_part := .of0 rfl fun _ _ _ _ _ _ us hl => match us, hl with | [_], _ => rfl
def s1_f_is_maker : Sts := (.cons (.ret (.lit (.bl false))) .nil)
def s2_f_is_maker : Sts := (.cons (.ret (.and (.call "is_given" (.cons (.sub (.loc 0) (.lit (.int 3))) .nil)) (.bi .all (.cons (.lc (.call "is_body_row" (.cons (.loc 1) .nil)) (.nm 1) (.seq (.slice (.loc 0) (.some (.lit (.int 4))) .none)) .none [("row", 1)]) .nil)))) .nil)
def s3_f_is_maker : Sts := (.cons (.ife (.or (.not (.v (.cmp2 .LtE .LtE (.lit (.int 4)) (.bi .len (.cons (.loc 0) .nil)) (.bin .Add (.lit (.int 4)) (.con "MOST_ROWS"))))) (.or (.not (.v (.call "is_great_name" (.cons (.sub (.loc 0) (.lit (.int 1))) .nil)))) (.not (.v (.call "are_givers" (.cons (.sub (.loc 0) (.lit (.int 2))) (.cons (.lit (.int 1)) .nil))))))) s1_f_is_maker .nil) s2_f_is_maker)
def d_f_is_maker : FDef := { params := 1, names := ["thing", "row"], dflt := [], body :=
    s3_f_is_maker }
def r_f_is_maker : Rw := ⟨.f "is_maker", d_f_is_maker, ⟨("is_maker", none), "is_maker", "is_maker", defArgs (top 56), defBody (top 56), defScope (top 56), [], []⟩⟩
theorem b_f_is_maker : BindP r_f_is_maker := .of0 rfl fun _ _ _ _ _ _ us hl => match us, hl with | [_], _ => rfl
def s1_f_is_declaration : Sts := (.cons (.ret (.lit (.bl false))) .nil)
def s2_f_is_declaration : Sts := (.cons (.ret (.and (.cmp .Eq (.bi .len (.cons (.loc 0) .nil)) (.lit (.int 2))) (.call "is_phrase" (.cons (.sub (.loc 0) (.lit (.int 1))) .nil)))) .nil)
def s3_f_is_declaration : Sts := (.cons (.ret (.and (.cmp2 .LtE .LtE (.lit (.int 4)) (.bi .len (.cons (.loc 0) .nil)) (.lit (.int 5))) (.bi .all (.cons (.lc (.call "is_great_name" (.cons (.loc 2) .nil)) (.nm 2) (.seq (.slice (.loc 0) (.some (.lit (.int 1))) .none)) .none [("one", 2)]) .nil)))) .nil)
def s4_f_is_declaration : Sts := (.cons (.ret (.call "is_face" (.cons (.loc 0) .nil))) .nil)
def s5_f_is_declaration : Sts := (.cons (.ret (.call "is_part" (.cons (.loc 0) .nil))) .nil)
def s6_f_is_declaration : Sts := (.cons (.ret (.call "is_maker" (.cons (.loc 0) .nil))) .nil)
def s7_f_is_declaration : Sts := (.cons (.ret (.and (.cmp .In (.loc 1) (.tup (.cons (.lit (.str "kind")) (.cons (.lit (.str "record")) .nil)))) (.call "is_kind_told" (.cons (.loc 0) .nil)))) .nil)
def s8_f_is_declaration : Sts := (.cons (.ife (.v (.cmp .Eq (.loc 1) (.lit (.str "maker")))) s6_f_is_declaration .nil) s7_f_is_declaration)
def s9_f_is_declaration : Sts := (.cons (.ife (.v (.cmp .Eq (.loc 1) (.lit (.str "part")))) s5_f_is_declaration .nil) s8_f_is_declaration)
def s10_f_is_declaration : Sts := (.cons (.ife (.v (.cmp .Eq (.loc 1) (.lit (.str "face")))) s4_f_is_declaration .nil) s9_f_is_declaration)
def s11_f_is_declaration : Sts := (.cons (.ife (.v (.cmp .Eq (.loc 1) (.lit (.str "apply")))) s3_f_is_declaration .nil) s10_f_is_declaration)
def s12_f_is_declaration : Sts := (.cons (.set 1 (.sub (.loc 0) (.lit (.int 0)))) (.cons (.ife (.v (.cmp .Eq (.loc 1) (.lit (.str "main")))) s2_f_is_declaration .nil) s11_f_is_declaration))
def s13_f_is_declaration : Sts := (.cons (.ife (.not (.v (.call "is_row" (.cons (.loc 0) (.cons (.lit (.int 2)) (.cons (.bin .Add (.lit (.int 4)) (.con "MOST_ROWS")) .nil)))))) s1_f_is_declaration .nil) s12_f_is_declaration)
def d_f_is_declaration : FDef := { params := 1, names := ["thing", "head", "one"], dflt := [], body :=
    s13_f_is_declaration }
def r_f_is_declaration : Rw := ⟨.f "is_declaration", d_f_is_declaration, ⟨("is_declaration", none), "is_declaration", "is_declaration", defArgs (top 57), defBody (top 57), defScope (top 57), [], []⟩⟩
theorem b_f_is_declaration : BindP r_f_is_declaration := .of0 rfl fun _ _ _ _ _ _ us hl => match us, hl with | [_], _ => rfl
def s1_f_read : Sts := (.cons (.raise "NoText") .nil)
def s2_f_read : Sts := (.cons (.raise "NoText") .nil)
def s3_f_read : Sts := (.cons (.ret (.loc 1)) .nil)
def s4_f_read : Sts := (.cons (.ife (.or (.v (.cmp .NotEq (.bi .len (.cons (.loc 2) .nil)) (.lit (.int 1)))) (.v (.cmp .NotEq (.sub (.sub (.loc 1) (.neg (.lit (.int 1)))) (.lit (.int 0))) (.lit (.str "main"))))) s2_f_read .nil) s3_f_read)
def s5_f_read : Sts := (.cons (.set 2 (.lc (.loc 3) (.nm 3) (.seq (.loc 1)) (.some (.v (.cmp .Eq (.sub (.loc 3) (.lit (.int 0))) (.lit (.str "main"))))) [("one", 3)])) s4_f_read)
def s6_f_read : Sts := (.cons (.ife (.or (.not (.v (.cmp2 .LtE .LtE (.lit (.int 1)) (.bi .len (.cons (.loc 1) .nil)) (.con "MOST_DECLARATIONS")))) (.not (.v (.bi .all (.cons (.lc (.call "is_declaration" (.cons (.loc 3) .nil)) (.nm 3) (.seq (.loc 1)) .none [("one", 3)]) .nil))))) s1_f_read .nil) s5_f_read)
def s7_f_read : Sts := (.cons (.set 1 (.call "things_of" (.cons (.loc 0) .nil))) s6_f_read)
def d_f_read : FDef := { params := 1, names := ["text", "program", "mains", "one"], dflt := [], body :=
    s7_f_read }
def r_f_read : Rw := ⟨.f "read", d_f_read, ⟨("read", none), "read", "read", defArgs (top 58), defBody (top 58), defScope (top 58), [], []⟩⟩
theorem b_f_read : BindP r_f_read := .of0 rfl fun _ _ _ _ _ _ us hl => match us, hl with | [_], _ => rfl
def s1_f_law_next : Sts := (.cons (.expr (.bm .pop (.loc 0) (.cons (.lit (.int 0)) .nil))) .nil)
def s2_f_law_next : Sts := (.cons (.ret (.loc 2)) .nil)
def s3_f_law_next : Sts := (.cons (.set 2 (.bin .Mod (.sub (.loc 0) (.lit (.int 0))) (.loc 1))) (.cons (.setI (.loc 0) (.lit (.int 0)) (.bin .FloorDiv (.sub (.loc 0) (.lit (.int 0))) (.loc 1))) (.cons (.ife (.v (.cmp .In (.sub (.loc 0) (.lit (.int 0))) (.tup (.cons (.lit (.int 0)) (.cons (.neg (.lit (.int 1))) .nil))))) s1_f_law_next .nil) s2_f_law_next)))
def s4_f_law_next : Sts := (.cons (.setI (.loc 0) (.lit (.int 0)) (.bin .Mod (.bin .Add (.bin .Mult (.sub (.loc 0) (.lit (.int 0))) (.lit (.int 1181783497276652981))) (.lit (.int 12345678910987))) (.bin .Sub (.bin .Pow (.lit (.int 2)) (.lit (.int 61))) (.lit (.int 1))))) (.cons (.ret (.bin .Mod (.bin .FloorDiv (.sub (.loc 0) (.lit (.int 0))) (.lit (.int 65537))) (.loc 1))) .nil))
def s5_f_law_next : Sts := (.cons (.ife (.v (.cmp .Gt (.bi .len (.cons (.loc 0) .nil)) (.lit (.int 1)))) s3_f_law_next .nil) s4_f_law_next)
def d_f_law_next : FDef := { params := 2, names := ["_law_state", "_law_many", "_law_digit"], dflt := [], body :=
    s5_f_law_next }
def r_f_law_next : Rw := ⟨.f "_law_next", d_f_law_next, ⟨("_law_next", none), "_law_next", "_law_next", defArgs (top 60), defBody (top 60), defScope (top 60), [], []⟩⟩
theorem b_f_law_next : BindP r_f_law_next := .of0 rfl fun _ _ _ _ _ _ us hl => match us, hl with | [_, _], _ => rfl
def s1_f_law_drawn : Sts := (.cons (.set 1 (.bin .Mod (.bin .Add (.bin .Add (.bin .Mult (.loc 1) (.lit (.int 7368787))) (.bin .Mod (.loc 2) (.bin .Pow (.lit (.int 10)) (.lit (.int 30))))) (.lit (.int 11))) (.bin .Sub (.bin .Pow (.lit (.int 2)) (.lit (.int 61))) (.lit (.int 1))))) .nil)
def s2_f_law_drawn : Sts := (.cons (.ret (.bin .Add (.bin .Add (.lst (.cons (.bin .FloorDiv (.sub (.loc 0) (.lit (.int 0))) (.lit (.int 2))) .nil)) (.slice (.loc 0) (.some (.lit (.int 1))) (.some (.lit (.int 63))))) (.lst (.cons (.loc 1) .nil)))) .nil)
def s3_f_law_drawn : Sts := (.cons (.ret (.lst (.cons (.loc 1) .nil))) .nil)
def s4_f_law_drawn : Sts := (.cons (.ife (.and (.v (.cmp .Gt (.bi .len (.cons (.loc 0) .nil)) (.lit (.int 0)))) (.v (.cmp .Eq (.bin .Mod (.sub (.loc 0) (.lit (.int 0))) (.lit (.int 2))) (.lit (.int 1))))) s2_f_law_drawn .nil) s3_f_law_drawn)
def s5_f_law_drawn : Sts := (.cons (.set 1 (.lit (.int 1000003))) (.cons (.for (.nm 2) (.seq (.loc 0)) s1_f_law_drawn) s4_f_law_drawn))
def d_f_law_drawn : FDef := { params := 1, names := ["_law_script", "_law_seed", "_law_cell"], dflt := [], body :=
    s5_f_law_drawn }
def r_f_law_drawn : Rw := ⟨.f "_law_drawn", d_f_law_drawn, ⟨("_law_drawn", none), "_law_drawn", "_law_drawn", defArgs (top 61), defBody (top 61), defScope (top 61), [], []⟩⟩
theorem b_f_law_drawn : BindP r_f_law_drawn := .of0 rfl fun _ _ _ _ _ _ us hl => match us, hl with | [_], _ => rfl
def s1_f_law_kept : Sts := (.cons (.set 0 (.lit (.str "num fun call let ring case make pick plus minus times less if kind record face"))) (.cons (.ret (.bm .split (.bin .Add (.loc 0) (.lit (.str " hide val part maker apply main"))) (.cons (.lit (.str " ")) .nil))) .nil))
def d_f_law_kept : FDef := { params := 0, names := ["_law_words"], dflt := [], body :=
    s1_f_law_kept }
def r_f_law_kept : Rw := ⟨.f "_law_kept", d_f_law_kept, ⟨("_law_kept", none), "_law_kept", "_law_kept", defArgs (top 62), defBody (top 62), defScope (top 62), [], []⟩⟩
theorem b_f_law_kept : BindP r_f_law_kept := .of0 rfl fun _ _ _ _ _ _ us hl => match us, hl with | [], _ => rfl
def s1_f_law_letters : Sts := (.cons (.aug 2 .Add (.sub (.lit (.str "abcdefghijklmnopqrstuvwxyz")) (.call "_law_next" (.cons (.loc 0) (.cons (.lit (.int 26)) .nil))))) .nil)
def s2_f_law_letters : Sts := (.cons (.ret (.loc 2)) .nil)
def s3_f_law_letters : Sts := (.cons (.set 2 (.lit (.str ""))) (.cons (.for (.nm 3) (.rng1 (.loc 1)) s1_f_law_letters) s2_f_law_letters))
def d_f_law_letters : FDef := { params := 2, names := ["_law_state", "_law_long", "_law_word", "_law_k"], dflt := [], body :=
    s3_f_law_letters }
def r_f_law_letters : Rw := ⟨.f "_law_letters", d_f_law_letters, ⟨("_law_letters", none), "_law_letters", "_law_letters", defArgs (top 63), defBody (top 63), defScope (top 63), [], []⟩⟩
theorem b_f_law_letters : BindP r_f_law_letters := .of0 rfl fun _ _ _ _ _ _ us hl => match us, hl with | [_, _], _ => rfl
def s1_f_law_small : Sts := (.cons (.ret (.bin .Add (.loc 1) (.lit (.str "q")))) .nil)
def s2_f_law_small : Sts := (.cons (.ret (.loc 1)) .nil)
def s3_f_law_small : Sts := (.cons (.ife (.v (.cmp .In (.loc 1) (.call "_law_kept" .nil))) s1_f_law_small .nil) s2_f_law_small)
def s4_f_law_small : Sts := (.cons (.set 1 (.call "_law_letters" (.cons (.loc 0) (.cons (.bin .Add (.lit (.int 1)) (.call "_law_next" (.cons (.loc 0) (.cons (.lit (.int 8)) .nil)))) .nil)))) s3_f_law_small)
def d_f_law_small : FDef := { params := 1, names := ["_law_state", "_law_word"], dflt := [], body :=
    s4_f_law_small }
def r_f_law_small : Rw := ⟨.f "_law_small", d_f_law_small, ⟨("_law_small", none), "_law_small", "_law_small", defArgs (top 64), defBody (top 64), defScope (top 64), [], []⟩⟩
theorem b_f_law_small : BindP r_f_law_small := .of0 rfl fun _ _ _ _ _ _ us hl => match us, hl with | [_], _ => rfl
def s1_f_law_great : Sts := (.cons (.ret (.bin .Add (.loc 1) (.call "_law_letters" (.cons (.loc 0) (.cons (.call "_law_next" (.cons (.loc 0) (.cons (.lit (.int 8)) .nil))) .nil))))) .nil)
def s2_f_law_great : Sts := (.cons (.set 1 (.sub (.lit (.str "ABCDEFGHIJKLMNOPQRSTUVWXYZ")) (.call "_law_next" (.cons (.loc 0) (.cons (.lit (.int 26)) .nil))))) s1_f_law_great)
def d_f_law_great : FDef := { params := 1, names := ["_law_state", "_law_sign"], dflt := [], body :=
    s2_f_law_great }
def r_f_law_great : Rw := ⟨.f "_law_great", d_f_law_great, ⟨("_law_great", none), "_law_great", "_law_great", defArgs (top 65), defBody (top 65), defScope (top 65), [], []⟩⟩
theorem b_f_law_great : BindP r_f_law_great := .of0 rfl fun _ _ _ _ _ _ us hl => match us, hl with | [_], _ => rfl
def s1_f_law_path : Sts := (.cons (.ret (.bin .Add (.bin .Add (.loc 1) (.lit (.str "."))) (.call "_law_small" (.cons (.loc 0) .nil)))) .nil)
def s2_f_law_path : Sts := (.cons (.set 1 (.call "_law_great" (.cons (.loc 0) .nil))) s1_f_law_path)
def d_f_law_path : FDef := { params := 1, names := ["_law_state", "_law_part"], dflt := [], body :=
    s2_f_law_path }
def r_f_law_path : Rw := ⟨.f "_law_path", d_f_law_path, ⟨("_law_path", none), "_law_path", "_law_path", defArgs (top 66), defBody (top 66), defScope (top 66), [], []⟩⟩
theorem b_f_law_path : BindP r_f_law_path := .of0 rfl fun _ _ _ _ _ _ us hl => match us, hl with | [_], _ => rfl
def s1_f_law_variable : Sts := (.cons (.ret (.bin .Add (.lit (.str "?")) (.call "_law_letters" (.cons (.loc 0) (.cons (.bin .Add (.lit (.int 1)) (.call "_law_next" (.cons (.loc 0) (.cons (.lit (.int 8)) .nil)))) .nil))))) .nil)
def d_f_law_variable : FDef := { params := 1, names := ["_law_state"], dflt := [], body :=
    s1_f_law_variable }
def r_f_law_variable : Rw := ⟨.f "_law_variable", d_f_law_variable, ⟨("_law_variable", none), "_law_variable", "_law_variable", defArgs (top 67), defBody (top 67), defScope (top 67), [], []⟩⟩
theorem b_f_law_variable : BindP r_f_law_variable := .of0 rfl fun _ _ _ _ _ _ us hl => match us, hl with | [_], _ => rfl
def s1_f_law_number : Sts := (.cons (.set 1 (.bin .Add (.bin .Mult (.loc 1) (.lit (.int 10))) (.call "_law_next" (.cons (.loc 0) (.cons (.lit (.int 10)) .nil))))) .nil)
def s2_f_law_number : Sts := (.cons (.for (.nm 2) (.rng1 (.call "_law_next" (.cons (.loc 0) (.cons (.lit (.int 30)) .nil)))) s1_f_law_number) .nil)
def s3_f_law_number : Sts := (.cons (.ret (.neg (.loc 1))) .nil)
def s4_f_law_number : Sts := (.cons (.ret (.loc 1)) .nil)
def s5_f_law_number : Sts := (.cons (.ife (.v (.cmp .Eq (.call "_law_next" (.cons (.loc 0) (.cons (.lit (.int 3)) .nil))) (.lit (.int 0)))) s3_f_law_number .nil) s4_f_law_number)
def s6_f_law_number : Sts := (.cons (.ife (.v (.cmp .Eq (.call "_law_next" (.cons (.loc 0) (.cons (.lit (.int 4)) .nil))) (.lit (.int 0)))) s2_f_law_number .nil) s5_f_law_number)
def s7_f_law_number : Sts := (.cons (.set 1 (.call "_law_next" (.cons (.loc 0) (.cons (.lit (.int 10)) .nil)))) s6_f_law_number)
def d_f_law_number : FDef := { params := 1, names := ["_law_state", "_law_number_here", "_law_k"], dflt := [], body :=
    s7_f_law_number }
def r_f_law_number : Rw := ⟨.f "_law_number", d_f_law_number, ⟨("_law_number", none), "_law_number", "_law_number", defArgs (top 68), defBody (top 68), defScope (top 68), [], []⟩⟩
theorem b_f_law_number : BindP r_f_law_number := .of0 rfl fun _ _ _ _ _ _ us hl => match us, hl with | [_], _ => rfl
def s1_f_law_kind_name : Sts := (.cons (.ret (.sub (.lst (.cons (.call "_law_small" (.cons (.loc 0) .nil)) (.cons (.call "_law_path" (.cons (.loc 0) .nil)) .nil))) (.call "_law_next" (.cons (.loc 0) (.cons (.lit (.int 2)) .nil))))) .nil)
def d_f_law_kind_name : FDef := { params := 1, names := ["_law_state"], dflt := [], body :=
    s1_f_law_kind_name }
def r_f_law_kind_name : Rw := ⟨.f "_law_kind_name", d_f_law_kind_name, ⟨("_law_kind_name", none), "_law_kind_name", "_law_kind_name", defArgs (top 69), defBody (top 69), defScope (top 69), [], []⟩⟩
theorem b_f_law_kind_name : BindP r_f_law_kind_name := .of0 rfl fun _ _ _ _ _ _ us hl => match us, hl with | [_], _ => rfl
def s1_f_law_kind : Sts := (.cons (.ret (.sub (.lst (.cons (.lit (.str "num")) (.cons (.call "_law_variable" (.cons (.loc 0) .nil)) (.cons (.call "_law_small" (.cons (.loc 0) .nil)) (.cons (.call "_law_path" (.cons (.loc 0) .nil)) .nil))))) (.bin .Mod (.loc 2) (.lit (.int 4))))) .nil)
def s2_f_law_kind : Sts := (.cons (.ret (.tup (.cons (.lit (.str "->")) (.cons (.call "_law_kind" (.cons (.loc 0) (.cons (.bin .Sub (.loc 1) (.lit (.int 1))) .nil))) (.cons (.call "_law_kind" (.cons (.loc 0) (.cons (.bin .Sub (.loc 1) (.lit (.int 1))) .nil))) .nil))))) .nil)
def s3_f_law_kind : Sts := (.cons (.ret (.bin .Add (.tup (.cons (.call "_law_kind_name" (.cons (.loc 0) .nil)) .nil)) (.bi .tuple (.cons (.lc (.call "_law_kind" (.cons (.loc 0) (.cons (.bin .Sub (.loc 1) (.lit (.int 1))) .nil))) (.nm 4) (.rng1 (.loc 3)) .none [("_law_k", 4)]) .nil)))) .nil)
def s4_f_law_kind : Sts := (.cons (.set 3 (.bin .Add (.lit (.int 1)) (.call "_law_next" (.cons (.loc 0) (.cons (.lit (.int 3)) .nil))))) s3_f_law_kind)
def s5_f_law_kind : Sts := (.cons (.ife (.v (.cmp .Eq (.loc 2) (.lit (.int 4)))) s2_f_law_kind .nil) s4_f_law_kind)
def s6_f_law_kind : Sts := (.cons (.ife (.or (.v (.cmp .Eq (.loc 1) (.lit (.int 0)))) (.v (.cmp .Lt (.loc 2) (.lit (.int 4))))) s1_f_law_kind .nil) s5_f_law_kind)
def s7_f_law_kind : Sts := (.cons (.set 2 (.call "_law_next" (.cons (.loc 0) (.cons (.lit (.int 7)) .nil)))) s6_f_law_kind)
def d_f_law_kind : FDef := { params := 2, names := ["_law_state", "_law_deep", "_law_way", "_law_many", "_law_k"], dflt := [], body :=
    s7_f_law_kind }
def r_f_law_kind : Rw := ⟨.f "_law_kind", d_f_law_kind, ⟨("_law_kind", none), "_law_kind", "_law_kind", defArgs (top 70), defBody (top 70), defScope (top 70), [], []⟩⟩
theorem b_f_law_kind : BindP r_f_law_kind := .of0 rfl fun _ _ _ _ _ _ us hl => match us, hl with | [_, _], _ => rfl
def s1_f_law_leaf : Sts := (.cons (.ret (.call "_law_number" (.cons (.loc 0) .nil))) .nil)
def s2_f_law_leaf : Sts := (.cons (.ret (.sub (.lst (.cons (.call "_law_small" (.cons (.loc 0) .nil)) (.cons (.call "_law_path" (.cons (.loc 0) .nil)) (.cons (.call "_law_great" (.cons (.loc 0) .nil)) .nil)))) (.bin .Sub (.loc 1) (.lit (.int 1))))) .nil)
def s3_f_law_leaf : Sts := (.cons (.ife (.v (.cmp .Eq (.loc 1) (.lit (.int 0)))) s1_f_law_leaf .nil) s2_f_law_leaf)
def d_f_law_leaf : FDef := { params := 2, names := ["_law_state", "_law_way"], dflt := [], body :=
    s3_f_law_leaf }
def r_f_law_leaf : Rw := ⟨.f "_law_leaf", d_f_law_leaf, ⟨("_law_leaf", none), "_law_leaf", "_law_leaf", defArgs (top 71), defBody (top 71), defScope (top 71), [], []⟩⟩
theorem b_f_law_leaf : BindP r_f_law_leaf := .of0 rfl fun _ _ _ _ _ _ us hl => match us, hl with | [_, _], _ => rfl
def s1_f_law_some : Sts := (.cons (.ret (.bi .tuple (.cons (.lc (.call "_law_phrase" (.cons (.loc 0) (.cons (.bin .Sub (.loc 1) (.lit (.int 1))) (.cons (.loc 2) .nil)))) (.nm 4) (.rng1 (.loc 3)) .none [("_law_k", 4)]) .nil))) .nil)
def d_f_law_some : FDef := { params := 4, names := ["_law_state", "_law_deep", "_law_left", "_law_many", "_law_k"], dflt := [], body :=
    s1_f_law_some }
def r_f_law_some : Rw := ⟨.f "_law_some", d_f_law_some, ⟨("_law_some", none), "_law_some", "_law_some", defArgs (top 72), defBody (top 72), defScope (top 72), [], []⟩⟩
theorem b_f_law_some : BindP r_f_law_some := .of0 rfl fun _ _ _ _ _ _ us hl => match us, hl with | [_, _, _, _], _ => rfl
def s1_f_law_ring : Sts := (.cons (.expr (.bm .append (.loc 3) (.cons (.bin .Add (.tup (.cons (.call "_law_small" (.cons (.loc 0) .nil)) (.cons (.call "_law_small" (.cons (.loc 0) .nil)) .nil))) (.call "_law_some" (.cons (.loc 0) (.cons (.loc 1) (.cons (.loc 2) (.cons (.lit (.int 1)) .nil)))))) .nil))) .nil)
def s2_f_law_ring : Sts := (.cons (.ret (.bin .Add (.tup (.cons (.lit (.str "ring")) (.cons (.bi .tuple (.cons (.loc 3) .nil)) .nil))) (.call "_law_some" (.cons (.loc 0) (.cons (.loc 1) (.cons (.loc 2) (.cons (.lit (.int 1)) .nil))))))) .nil)
def s3_f_law_ring : Sts := (.cons (.set 3 (.lst .nil)) (.cons (.for (.nm 4) (.rng1 (.bin .Add (.lit (.int 1)) (.call "_law_next" (.cons (.loc 0) (.cons (.lit (.int 4)) .nil))))) s1_f_law_ring) s2_f_law_ring))
def d_f_law_ring : FDef := { params := 3, names := ["_law_state", "_law_deep", "_law_left", "_law_rows", "_law_k"], dflt := [], body :=
    s3_f_law_ring }
def r_f_law_ring : Rw := ⟨.f "_law_ring", d_f_law_ring, ⟨("_law_ring", none), "_law_ring", "_law_ring", defArgs (top 73), defBody (top 73), defScope (top 73), [], []⟩⟩
theorem b_f_law_ring : BindP r_f_law_ring := .of0 rfl fun _ _ _ _ _ _ us hl => match us, hl with | [_, _, _], _ => rfl
def s1_f_law_case : Sts := (.cons (.expr (.bm .append (.loc 3) (.cons (.bin .Add (.tup (.cons (.bin .Add (.tup (.cons (.call "_law_great" (.cons (.loc 0) .nil)) .nil)) (.loc 6)) .nil)) (.call "_law_some" (.cons (.loc 0) (.cons (.loc 1) (.cons (.loc 2) (.cons (.lit (.int 1)) .nil)))))) .nil))) .nil)
def s2_f_law_case : Sts := (.cons (.set 6 (.bi .tuple (.cons (.lc (.call "_law_small" (.cons (.loc 0) .nil)) (.nm 7) (.rng1 (.call "_law_next" (.cons (.loc 0) (.cons (.lit (.int 5)) .nil)))) .none [("_law_j", 7)]) .nil))) s1_f_law_case)
def s3_f_law_case : Sts := (.cons (.ret (.bin .Add (.bin .Add (.tup (.cons (.lit (.str "case")) .nil)) (.loc 4)) (.bi .tuple (.cons (.loc 3) .nil)))) .nil)
def s4_f_law_case : Sts := (.cons (.for (.nm 5) (.rng1 (.bin .Add (.lit (.int 1)) (.call "_law_next" (.cons (.loc 0) (.cons (.lit (.int 6)) .nil))))) s2_f_law_case) s3_f_law_case)
def s5_f_law_case : Sts := (.cons (.set 3 (.lst .nil)) (.cons (.set 4 (.call "_law_some" (.cons (.loc 0) (.cons (.loc 1) (.cons (.loc 2) (.cons (.lit (.int 1)) .nil)))))) s4_f_law_case))
def d_f_law_case : FDef := { params := 3, names := ["_law_state", "_law_deep", "_law_left", "_law_arms", "_law_first", "_law_k", "_law_names", "_law_j"], dflt := [], body :=
    s5_f_law_case }
def r_f_law_case : Rw := ⟨.f "_law_case", d_f_law_case, ⟨("_law_case", none), "_law_case", "_law_case", defArgs (top 74), defBody (top 74), defScope (top 74), [], []⟩⟩
theorem b_f_law_case : BindP r_f_law_case := .of0 rfl fun _ _ _ _ _ _ us hl => match us, hl with | [_, _, _], _ => rfl
def s1_f_law_phrase : Sts := (.cons (.ret (.call "_law_leaf" (.cons (.loc 0) (.cons (.bin .Mod (.loc 3) (.lit (.int 4))) .nil)))) .nil)
def s2_f_law_phrase : Sts := (.cons (.ret (.bin .Add (.tup (.cons (.call "_law_great" (.cons (.loc 0) .nil)) .nil)) (.call "_law_some" (.cons (.loc 0) (.cons (.loc 1) (.cons (.loc 2) (.cons (.bin .Add (.lit (.int 1)) (.call "_law_next" (.cons (.loc 0) (.cons (.lit (.int 4)) .nil)))) .nil))))))) .nil)
def s3_f_law_phrase : Sts := (.cons (.ret (.bin .Add (.tup (.cons (.lit (.str "fun")) (.cons (.call "_law_small" (.cons (.loc 0) .nil)) .nil))) (.call "_law_some" (.cons (.loc 0) (.cons (.loc 1) (.cons (.loc 2) (.cons (.lit (.int 1)) .nil))))))) .nil)
def s4_f_law_phrase : Sts := (.cons (.ret (.bin .Add (.tup (.cons (.lit (.str "let")) (.cons (.call "_law_small" (.cons (.loc 0) .nil)) .nil))) (.call "_law_some" (.cons (.loc 0) (.cons (.loc 1) (.cons (.loc 2) (.cons (.lit (.int 2)) .nil))))))) .nil)
def s5_f_law_phrase : Sts := (.cons (.ret (.call "_law_ring" (.cons (.loc 0) (.cons (.loc 1) (.cons (.loc 2) .nil))))) .nil)
def s6_f_law_phrase : Sts := (.cons (.ret (.call "_law_case" (.cons (.loc 0) (.cons (.loc 1) (.cons (.loc 2) .nil))))) .nil)
def s7_f_law_phrase : Sts := (.cons (.ret (.bin .Add (.tup (.cons (.lit (.str "make")) (.cons (.call "_law_small" (.cons (.loc 0) .nil)) .nil))) (.call "_law_some" (.cons (.loc 0) (.cons (.loc 1) (.cons (.loc 2) (.cons (.bin .Add (.lit (.int 1)) (.call "_law_next" (.cons (.loc 0) (.cons (.lit (.int 4)) .nil)))) .nil))))))) .nil)
def s8_f_law_phrase : Sts := (.cons (.ret (.bin .Add (.tup (.cons (.lit (.str "pick")) (.cons (.call "_law_small" (.cons (.loc 0) .nil)) .nil))) (.call "_law_some" (.cons (.loc 0) (.cons (.loc 1) (.cons (.loc 2) (.cons (.lit (.int 1)) .nil))))))) .nil)
def s9_f_law_phrase : Sts := (.cons (.ret (.bin .Add (.tup (.cons (.lit (.str "if")) .nil)) (.call "_law_some" (.cons (.loc 0) (.cons (.loc 1) (.cons (.loc 2) (.cons (.lit (.int 3)) .nil))))))) .nil)
def s10_f_law_phrase : Sts := (.cons (.ret (.bin .Add (.tup (.cons (.sub (.lst (.cons (.lit (.str "call")) (.cons (.lit (.str "plus")) (.cons (.lit (.str "minus")) (.cons (.lit (.str "times")) (.cons (.lit (.str "less")) .nil)))))) (.bin .Sub (.loc 3) (.lit (.int 12)))) .nil)) (.call "_law_some" (.cons (.loc 0) (.cons (.loc 1) (.cons (.loc 2) (.cons (.lit (.int 2)) .nil))))))) .nil)
def s11_f_law_phrase : Sts := (.cons (.ife (.v (.cmp .Eq (.loc 3) (.lit (.int 11)))) s9_f_law_phrase .nil) s10_f_law_phrase)
def s12_f_law_phrase : Sts := (.cons (.ife (.v (.cmp .Eq (.loc 3) (.lit (.int 10)))) s8_f_law_phrase .nil) s11_f_law_phrase)
def s13_f_law_phrase : Sts := (.cons (.ife (.v (.cmp .Eq (.loc 3) (.lit (.int 9)))) s7_f_law_phrase .nil) s12_f_law_phrase)
def s14_f_law_phrase : Sts := (.cons (.ife (.v (.cmp .Eq (.loc 3) (.lit (.int 8)))) s6_f_law_phrase .nil) s13_f_law_phrase)
def s15_f_law_phrase : Sts := (.cons (.ife (.v (.cmp .Eq (.loc 3) (.lit (.int 7)))) s5_f_law_phrase .nil) s14_f_law_phrase)
def s16_f_law_phrase : Sts := (.cons (.ife (.v (.cmp .Eq (.loc 3) (.lit (.int 6)))) s4_f_law_phrase .nil) s15_f_law_phrase)
def s17_f_law_phrase : Sts := (.cons (.ife (.v (.cmp .Eq (.loc 3) (.lit (.int 5)))) s3_f_law_phrase .nil) s16_f_law_phrase)
def s18_f_law_phrase : Sts := (.cons (.ife (.v (.cmp .Eq (.loc 3) (.lit (.int 4)))) s2_f_law_phrase .nil) s17_f_law_phrase)
def s19_f_law_phrase : Sts := (.cons (.ife (.or (.v (.cmp .Eq (.loc 1) (.lit (.int 0)))) (.or (.v (.cmp .Lt (.sub (.loc 2) (.lit (.int 0))) (.lit (.int 0)))) (.v (.cmp .Lt (.loc 3) (.lit (.int 4)))))) s1_f_law_phrase .nil) s18_f_law_phrase)
def s20_f_law_phrase : Sts := (.cons (.augI (.loc 2) (.lit (.int 0)) .Sub (.lit (.int 1))) (.cons (.set 3 (.call "_law_next" (.cons (.loc 0) (.cons (.lit (.int 17)) .nil)))) s19_f_law_phrase))
def d_f_law_phrase : FDef := { params := 3, names := ["_law_state", "_law_deep", "_law_left", "_law_way"], dflt := [], body :=
    s20_f_law_phrase }
def r_f_law_phrase : Rw := ⟨.f "_law_phrase", d_f_law_phrase, ⟨("_law_phrase", none), "_law_phrase", "_law_phrase", defArgs (top 75), defBody (top 75), defScope (top 75), [], []⟩⟩
theorem b_f_law_phrase : BindP r_f_law_phrase := .of0 rfl fun _ _ _ _ _ _ us hl => match us, hl with | [_, _, _], _ => rfl
def s1_f_law_pieces : Sts := (.cons (.ret (.lst (.cons (.bi .str (.cons (.loc 0) .nil)) .nil))) .nil)
def s2_f_law_pieces : Sts := (.cons (.expr (.bm .extend (.loc 1) (.cons (.call "_law_pieces" (.cons (.loc 2) .nil)) .nil))) .nil)
def s3_f_law_pieces : Sts := (.cons (.ret (.bin .Add (.loc 1) (.lst (.cons (.lit (.str ")")) .nil)))) .nil)
def s4_f_law_pieces : Sts := (.cons (.set 1 (.lst (.cons (.lit (.str "(")) .nil))) (.cons (.for (.nm 2) (.seq (.loc 0)) s2_f_law_pieces) s3_f_law_pieces))
def s5_f_law_pieces : Sts := (.cons (.ife (.not (.v (.isi (.loc 0) [.tuple]))) s1_f_law_pieces .nil) s4_f_law_pieces)
def d_f_law_pieces : FDef := { params := 1, names := ["_law_thing", "_law_pieces_here", "_law_part"], dflt := [], body :=
    s5_f_law_pieces }
def r_f_law_pieces : Rw := ⟨.f "_law_pieces", d_f_law_pieces, ⟨("_law_pieces", none), "_law_pieces", "_law_pieces", defArgs (top 76), defBody (top 76), defScope (top 76), [], []⟩⟩
theorem b_f_law_pieces : BindP r_f_law_pieces := .of0 rfl fun _ _ _ _ _ _ us hl => match us, hl with | [_], _ => rfl
def s1_f_law_gap : Sts := (.cons (.aug 2 .Add (.sub (.lit (.str " \n")) (.call "_law_next" (.cons (.loc 0) (.cons (.lit (.int 2)) .nil))))) .nil)
def s2_f_law_gap : Sts := (.cons (.ret (.loc 2)) .nil)
def s3_f_law_gap : Sts := (.cons (.set 2 (.lit (.str ""))) (.cons (.for (.nm 3) (.rng1 (.bin .Add (.loc 1) (.sub (.lst (.cons (.lit (.int 0)) (.cons (.lit (.int 0)) (.cons (.lit (.int 0)) (.cons (.lit (.int 1)) (.cons (.lit (.int 2)) .nil)))))) (.call "_law_next" (.cons (.loc 0) (.cons (.lit (.int 5)) .nil)))))) s1_f_law_gap) s2_f_law_gap))
def d_f_law_gap : FDef := { params := 2, names := ["_law_state", "_law_least", "_law_gap_here", "_law_k"], dflt := [], body :=
    s3_f_law_gap }
def r_f_law_gap : Rw := ⟨.f "_law_gap", d_f_law_gap, ⟨("_law_gap", none), "_law_gap", "_law_gap", defArgs (top 77), defBody (top 77), defScope (top 77), [], []⟩⟩
theorem b_f_law_gap : BindP r_f_law_gap := .of0 rfl fun _ _ _ _ _ _ us hl => match us, hl with | [_, _], _ => rfl
def s1_f_law_written : Sts := (.cons (.set 3 (.loc 4)) .nil)
def s2_f_law_written : Sts := (.cons (.set 5 (.bi .int (.cons (.and (.cmp .NotIn (.loc 3) (.tup (.cons (.lit (.str "(")) (.cons (.lit (.str ")")) .nil)))) (.cmp .NotIn (.loc 4) (.tup (.cons (.lit (.str "(")) (.cons (.lit (.str ")")) .nil))))) .nil))) (.cons (.aug 2 .Add (.bin .Add (.call "_law_gap" (.cons (.loc 0) (.cons (.loc 5) .nil))) (.loc 4))) s1_f_law_written))
def s3_f_law_written : Sts := (.cons (.ret (.bin .Add (.loc 2) (.call "_law_gap" (.cons (.loc 0) (.cons (.lit (.int 0)) .nil))))) .nil)
def s4_f_law_written : Sts := (.cons (.set 3 (.lit (.str "("))) (.cons (.for (.nm 4) (.seq (.loc 1)) s2_f_law_written) s3_f_law_written))
def s5_f_law_written : Sts := (.cons (.set 2 (.call "_law_gap" (.cons (.loc 0) (.cons (.lit (.int 0)) .nil)))) s4_f_law_written)
def d_f_law_written : FDef := { params := 2, names := ["_law_state", "_law_pieces_here", "_law_text", "_law_ahead", "_law_piece", "_law_least"], dflt := [], body :=
    s5_f_law_written }
def r_f_law_written : Rw := ⟨.f "_law_written", d_f_law_written, ⟨("_law_written", none), "_law_written", "_law_written", defArgs (top 78), defBody (top 78), defScope (top 78), [], []⟩⟩
theorem b_f_law_written : BindP r_f_law_written := .of0 rfl fun _ _ _ _ _ _ us hl => match us, hl with | [_, _], _ => rfl
def s1_f_law_given : Sts := (.cons (.ret (.call "_law_great" (.cons (.loc 0) .nil))) .nil)
def s2_f_law_given : Sts := (.cons (.ret (.bi .tuple (.cons (.lc (.call "_law_great" (.cons (.loc 0) .nil)) (.nm 1) (.rng1 (.bin .Add (.lit (.int 2)) (.call "_law_next" (.cons (.loc 0) (.cons (.lit (.int 2)) .nil))))) .none [("_law_k", 1)]) .nil))) .nil)
def s3_f_law_given : Sts := (.cons (.ife (.v (.cmp .Eq (.call "_law_next" (.cons (.loc 0) (.cons (.lit (.int 2)) .nil))) (.lit (.int 0)))) s1_f_law_given .nil) s2_f_law_given)
def d_f_law_given : FDef := { params := 1, names := ["_law_state", "_law_k"], dflt := [], body :=
    s3_f_law_given }
def r_f_law_given : Rw := ⟨.f "_law_given", d_f_law_given, ⟨("_law_given", none), "_law_given", "_law_given", defArgs (top 79), defBody (top 79), defScope (top 79), [], []⟩⟩
theorem b_f_law_given : BindP r_f_law_given := .of0 rfl fun _ _ _ _ _ _ us hl => match us, hl with | [_], _ => rfl
def s1_f_law_givers : Sts := (.cons (.expr (.bm .append (.loc 2) (.cons (.tup (.cons (.call "_law_great" (.cons (.loc 0) .nil)) (.cons (.call "_law_given" (.cons (.loc 0) .nil)) .nil))) .nil))) .nil)
def s2_f_law_givers : Sts := (.cons (.ret (.bi .tuple (.cons (.loc 2) .nil))) .nil)
def s3_f_law_givers : Sts := (.cons (.set 2 (.lst .nil)) (.cons (.for (.nm 3) (.rng1 (.bin .Add (.loc 1) (.call "_law_next" (.cons (.loc 0) (.cons (.bin .Sub (.lit (.int 3)) (.loc 1)) .nil))))) s1_f_law_givers) s2_f_law_givers))
def d_f_law_givers : FDef := { params := 2, names := ["_law_state", "_law_least", "_law_givers_here", "_law_k"], dflt := [], body :=
    s3_f_law_givers }
def r_f_law_givers : Rw := ⟨.f "_law_givers", d_f_law_givers, ⟨("_law_givers", none), "_law_givers", "_law_givers", defArgs (top 80), defBody (top 80), defScope (top 80), [], []⟩⟩
theorem b_f_law_givers : BindP r_f_law_givers := .of0 rfl fun _ _ _ _ _ _ us hl => match us, hl with | [_, _], _ => rfl
def s1_f_law_some_variables : Sts := (.cons (.ret (.bi .tuple (.cons (.lc (.call "_law_variable" (.cons (.loc 0) .nil)) (.nm 2) (.rng1 (.call "_law_next" (.cons (.loc 0) (.cons (.bin .Add (.loc 1) (.lit (.int 1))) .nil)))) .none [("_law_k", 2)]) .nil))) .nil)
def d_f_law_some_variables : FDef := { params := 2, names := ["_law_state", "_law_most", "_law_k"], dflt := [], body :=
    s1_f_law_some_variables }
def r_f_law_some_variables : Rw := ⟨.f "_law_some_variables", d_f_law_some_variables, ⟨("_law_some_variables", none), "_law_some_variables", "_law_some_variables", defArgs (top 81), defBody (top 81), defScope (top 81), [], []⟩⟩
theorem b_f_law_some_variables : BindP r_f_law_some_variables := .of0 rfl fun _ _ _ _ _ _ us hl => match us, hl with | [_, _], _ => rfl
def s1_f_law_some_kinds : Sts := (.cons (.ret (.bi .tuple (.cons (.lc (.call "_law_kind" (.cons (.loc 0) (.cons (.lit (.int 2)) .nil))) (.nm 2) (.rng1 (.loc 1)) .none [("_law_k", 2)]) .nil))) .nil)
def d_f_law_some_kinds : FDef := { params := 2, names := ["_law_state", "_law_many", "_law_k"], dflt := [], body :=
    s1_f_law_some_kinds }
def r_f_law_some_kinds : Rw := ⟨.f "_law_some_kinds", d_f_law_some_kinds, ⟨("_law_some_kinds", none), "_law_some_kinds", "_law_some_kinds", defArgs (top 82), defBody (top 82), defScope (top 82), [], []⟩⟩
theorem b_f_law_some_kinds : BindP r_f_law_some_kinds := .of0 rfl fun _ _ _ _ _ _ us hl => match us, hl with | [_, _], _ => rfl
def s1_f_law_sort : Sts := (.cons (.expr (.bm .append (.loc 2) (.cons (.bin .Add (.tup (.cons (.call "_law_great" (.cons (.loc 0) .nil)) .nil)) (.call "_law_some_kinds" (.cons (.loc 0) (.cons (.call "_law_next" (.cons (.loc 0) (.cons (.sub (.lst (.cons (.lit (.int 2)) (.cons (.lit (.int 5)) .nil))) (.bi .int (.cons (.cmp .Eq (.loc 3) (.lit (.int 0))) .nil))) .nil))) .nil)))) .nil))) .nil)
def s2_f_law_sort : Sts := (.cons (.ret (.bin .Add (.tup (.cons (.lit (.str "kind")) (.cons (.call "_law_small" (.cons (.loc 0) .nil)) (.cons (.call "_law_some_variables" (.cons (.loc 0) (.cons (.lit (.int 3)) .nil))) .nil)))) (.bi .tuple (.cons (.loc 2) .nil)))) .nil)
def s3_f_law_sort : Sts := (.cons (.set 2 (.lst .nil)) (.cons (.for (.nm 3) (.rng1 (.bin .Add (.lit (.int 1)) (.call "_law_next" (.cons (.loc 0) (.cons (.lit (.int 6)) .nil))))) s1_f_law_sort) s2_f_law_sort))
def s4_f_law_sort : Sts := (.cons (.ret (.bin .Add (.tup (.cons (.lit (.str "record")) (.cons (.call "_law_small" (.cons (.loc 0) .nil)) (.cons (.call "_law_some_variables" (.cons (.loc 0) (.cons (.lit (.int 3)) .nil))) .nil)))) (.bi .tuple (.cons (.loc 1) .nil)))) .nil)
def s5_f_law_sort : Sts := (.cons (.set 1 (.lc (.tup (.cons (.call "_law_small" (.cons (.loc 0) .nil)) (.cons (.call "_law_kind" (.cons (.loc 0) (.cons (.lit (.int 2)) .nil))) .nil))) (.nm 3) (.rng1 (.bin .Add (.lit (.int 1)) (.call "_law_next" (.cons (.loc 0) (.cons (.lit (.int 4)) .nil))))) .none [("_law_k", 3)])) s4_f_law_sort)
def s6_f_law_sort : Sts := (.cons (.ife (.v (.cmp .Eq (.call "_law_next" (.cons (.loc 0) (.cons (.lit (.int 2)) .nil))) (.lit (.int 0)))) s3_f_law_sort .nil) s5_f_law_sort)
def d_f_law_sort : FDef := { params := 1, names := ["_law_state", "_law_fields", "_law_rows", "_law_k"], dflt := [], body :=
    s6_f_law_sort }
def r_f_law_sort : Rw := ⟨.f "_law_sort", d_f_law_sort, ⟨("_law_sort", none), "_law_sort", "_law_sort", defArgs (top 83), defBody (top 83), defScope (top 83), [], []⟩⟩
theorem b_f_law_sort : BindP r_f_law_sort := .of0 rfl fun _ _ _ _ _ _ us hl => match us, hl with | [_], _ => rfl
def s1_f_law_face : Sts := (.cons (.expr (.bm .append (.loc 1) (.cons (.tup (.cons (.lit (.str "hide")) (.cons (.call "_law_small" (.cons (.loc 0) .nil)) (.cons (.call "_law_next" (.cons (.loc 0) (.cons (.lit (.int 3)) .nil))) .nil)))) .nil))) .nil)
def s2_f_law_face : Sts := (.cons (.expr (.bm .append (.loc 1) (.cons (.tup (.cons (.lit (.str "val")) (.cons (.call "_law_small" (.cons (.loc 0) .nil)) (.cons (.call "_law_kind" (.cons (.loc 0) (.cons (.lit (.int 2)) .nil))) .nil)))) .nil))) .nil)
def s3_f_law_face : Sts := (.cons (.ife (.v (.cmp .Eq (.call "_law_next" (.cons (.loc 0) (.cons (.lit (.int 2)) .nil))) (.lit (.int 0)))) s1_f_law_face s2_f_law_face) .nil)
def s4_f_law_face : Sts := (.cons (.ret (.bin .Add (.tup (.cons (.lit (.str "face")) (.cons (.call "_law_great" (.cons (.loc 0) .nil)) (.cons (.call "_law_givers" (.cons (.loc 0) (.cons (.lit (.int 0)) .nil))) .nil)))) (.bi .tuple (.cons (.loc 1) .nil)))) .nil)
def s5_f_law_face : Sts := (.cons (.set 1 (.lst .nil)) (.cons (.for (.nm 2) (.rng1 (.sub (.lst (.cons (.call "_law_next" (.cons (.loc 0) (.cons (.lit (.int 9)) .nil))) (.cons (.lit (.int 24)) .nil))) (.bi .int (.cons (.cmp .Eq (.call "_law_next" (.cons (.loc 0) (.cons (.lit (.int 9)) .nil))) (.lit (.int 0))) .nil)))) s3_f_law_face) s4_f_law_face))
def d_f_law_face : FDef := { params := 1, names := ["_law_state", "_law_items", "_law_k"], dflt := [], body :=
    s5_f_law_face }
def r_f_law_face : Rw := ⟨.f "_law_face", d_f_law_face, ⟨("_law_face", none), "_law_face", "_law_face", defArgs (top 84), defBody (top 84), defScope (top 84), [], []⟩⟩
theorem b_f_law_face : BindP r_f_law_face := .of0 rfl fun _ _ _ _ _ _ us hl => match us, hl with | [_], _ => rfl
def s1_f_law_body : Sts := (.cons (.expr (.bm .append (.loc 2) (.cons (.tup (.cons (.lit (.str "hide")) (.cons (.call "_law_small" (.cons (.loc 0) .nil)) (.cons (.call "_law_some_variables" (.cons (.loc 0) (.cons (.lit (.int 2)) .nil))) (.cons (.call "_law_kind" (.cons (.loc 0) (.cons (.lit (.int 2)) .nil))) .nil))))) .nil))) .nil)
def s2_f_law_body : Sts := (.cons (.expr (.bm .append (.loc 2) (.cons (.tup (.cons (.lit (.str "val")) (.cons (.call "_law_small" (.cons (.loc 0) .nil)) (.cons (.call "_law_phrase" (.cons (.loc 0) (.cons (.lit (.int 3)) (.cons (.loc 1) .nil)))) .nil)))) .nil))) .nil)
def s3_f_law_body : Sts := (.cons (.ife (.v (.cmp .Eq (.call "_law_next" (.cons (.loc 0) (.cons (.lit (.int 3)) .nil))) (.lit (.int 0)))) s1_f_law_body s2_f_law_body) .nil)
def s4_f_law_body : Sts := (.cons (.ret (.bi .tuple (.cons (.loc 2) .nil))) .nil)
def s5_f_law_body : Sts := (.cons (.set 2 (.lst .nil)) (.cons (.for (.nm 3) (.rng1 (.sub (.lst (.cons (.call "_law_next" (.cons (.loc 0) (.cons (.lit (.int 9)) .nil))) (.cons (.lit (.int 24)) .nil))) (.bi .int (.cons (.cmp .Eq (.call "_law_next" (.cons (.loc 0) (.cons (.lit (.int 9)) .nil))) (.lit (.int 0))) .nil)))) s3_f_law_body) s4_f_law_body))
def d_f_law_body : FDef := { params := 2, names := ["_law_state", "_law_left", "_law_rows", "_law_k"], dflt := [], body :=
    s5_f_law_body }
def r_f_law_body : Rw := ⟨.f "_law_body", d_f_law_body, ⟨("_law_body", none), "_law_body", "_law_body", defArgs (top 85), defBody (top 85), defScope (top 85), [], []⟩⟩
theorem b_f_law_body : BindP r_f_law_body := .of0 rfl fun _ _ _ _ _ _ us hl => match us, hl with | [_, _], _ => rfl
def s1_f_law_declared : Sts := (.cons (.ret (.call "_law_sort" (.cons (.loc 0) .nil))) .nil)
def s2_f_law_declared : Sts := (.cons (.ret (.call "_law_face" (.cons (.loc 0) .nil))) .nil)
def s3_f_law_declared : Sts := (.cons (.ret (.bin .Add (.tup (.cons (.lit (.str "part")) (.cons (.call "_law_great" (.cons (.loc 0) .nil)) (.cons (.call "_law_given" (.cons (.loc 0) .nil)) .nil)))) (.call "_law_body" (.cons (.loc 0) (.cons (.loc 1) .nil))))) .nil)
def s4_f_law_declared : Sts := (.cons (.ret (.bin .Add (.tup (.cons (.lit (.str "maker")) (.cons (.call "_law_great" (.cons (.loc 0) .nil)) (.cons (.call "_law_givers" (.cons (.loc 0) (.cons (.lit (.int 1)) .nil))) (.cons (.call "_law_given" (.cons (.loc 0) .nil)) .nil))))) (.call "_law_body" (.cons (.loc 0) (.cons (.loc 1) .nil))))) .nil)
def s5_f_law_declared : Sts := (.cons (.ret (.bin .Add (.tup (.cons (.lit (.str "apply")) .nil)) (.loc 3))) .nil)
def s6_f_law_declared : Sts := (.cons (.set 3 (.bi .tuple (.cons (.lc (.call "_law_great" (.cons (.loc 0) .nil)) (.nm 4) (.rng1 (.bin .Add (.lit (.int 3)) (.call "_law_next" (.cons (.loc 0) (.cons (.lit (.int 2)) .nil))))) .none [("_law_k", 4)]) .nil))) s5_f_law_declared)
def s7_f_law_declared : Sts := (.cons (.ife (.v (.cmp .Eq (.loc 2) (.lit (.int 4)))) s4_f_law_declared .nil) s6_f_law_declared)
def s8_f_law_declared : Sts := (.cons (.ife (.v (.cmp .Eq (.loc 2) (.lit (.int 3)))) s3_f_law_declared .nil) s7_f_law_declared)
def s9_f_law_declared : Sts := (.cons (.ife (.v (.cmp .Eq (.loc 2) (.lit (.int 2)))) s2_f_law_declared .nil) s8_f_law_declared)
def s10_f_law_declared : Sts := (.cons (.ife (.v (.cmp .Lt (.loc 2) (.lit (.int 2)))) s1_f_law_declared .nil) s9_f_law_declared)
def s11_f_law_declared : Sts := (.cons (.set 2 (.call "_law_next" (.cons (.loc 0) (.cons (.lit (.int 6)) .nil)))) s10_f_law_declared)
def d_f_law_declared : FDef := { params := 2, names := ["_law_state", "_law_left", "_law_way", "_law_parts", "_law_k"], dflt := [], body :=
    s11_f_law_declared }
def r_f_law_declared : Rw := ⟨.f "_law_declared", d_f_law_declared, ⟨("_law_declared", none), "_law_declared", "_law_declared", defArgs (top 86), defBody (top 86), defScope (top 86), [], []⟩⟩
theorem b_f_law_declared : BindP r_f_law_declared := .of0 rfl fun _ _ _ _ _ _ us hl => match us, hl with | [_, _], _ => rfl
def s1_f_law_program : Sts := (.cons (.expr (.bm .append (.loc 2) (.cons (.tup (.cons (.lit (.str "kind")) (.cons (.call "_law_small" (.cons (.loc 0) .nil)) (.cons (.tup .nil) (.cons (.tup (.cons (.call "_law_great" (.cons (.loc 0) .nil)) .nil)) .nil))))) .nil))) .nil)
def s2_f_law_program : Sts := (.cons (.for (.nm 3) (.rng1 (.lit (.int 22))) s1_f_law_program) .nil)
def s3_f_law_program : Sts := (.cons (.expr (.bm .insert (.loc 2) (.cons (.call "_law_next" (.cons (.loc 0) (.cons (.bin .Add (.bi .len (.cons (.loc 2) .nil)) (.lit (.int 1))) .nil))) (.cons (.call "_law_declared" (.cons (.loc 0) (.cons (.loc 1) .nil))) .nil)))) .nil)
def s4_f_law_program : Sts := (.cons (.ret (.call "_law_fitted" (.cons (.bin .Add (.bi .tuple (.cons (.loc 2) .nil)) (.tup (.cons (.tup (.cons (.lit (.str "main")) (.cons (.call "_law_phrase" (.cons (.loc 0) (.cons (.lit (.int 4)) (.cons (.loc 1) .nil)))) .nil))) .nil))) .nil))) .nil)
def s5_f_law_program : Sts := (.cons (.for (.nm 3) (.rng1 (.sub (.lst (.cons (.call "_law_next" (.cons (.loc 0) (.cons (.lit (.int 5)) .nil))) (.cons (.call "_law_next" (.cons (.loc 0) (.cons (.lit (.int 2)) .nil))) .nil))) (.bi .int (.cons (.cmp .Gt (.bi .len (.cons (.loc 2) .nil)) (.lit (.int 0))) .nil)))) s3_f_law_program) s4_f_law_program)
def s6_f_law_program : Sts := (.cons (.set 1 (.lst (.cons (.lit (.int 30)) .nil))) (.cons (.set 2 (.lst .nil)) (.cons (.ife (.v (.cmp .Eq (.call "_law_next" (.cons (.loc 0) (.cons (.lit (.int 5)) .nil))) (.lit (.int 0)))) s2_f_law_program .nil) s5_f_law_program)))
def d_f_law_program : FDef := { params := 1, names := ["_law_state", "_law_left", "_law_rows", "_law_k"], dflt := [], body :=
    s6_f_law_program }
def r_f_law_program : Rw := ⟨.f "_law_program", d_f_law_program, ⟨("_law_program", none), "_law_program", "_law_program", defArgs (top 87), defBody (top 87), defScope (top 87), [], []⟩⟩
theorem b_f_law_program : BindP r_f_law_program := .of0 rfl fun _ _ _ _ _ _ us hl => match us, hl with | [_], _ => rfl
def s1_f_law_fitted : Sts := (.cons (.set 0 (.slice (.loc 0) (.some (.lit (.int 1))) .none)) .nil)
def s2_f_law_fitted : Sts := (.cons (.ret (.tup (.cons (.tup (.cons (.lit (.str "main")) (.cons (.lit (.int 7)) .nil))) .nil))) .nil)
def s3_f_law_fitted : Sts := (.cons (.ret (.loc 0)) .nil)
def s4_f_law_fitted : Sts := (.cons (.ife (.v (.cmp .Gt (.bi .len (.cons (.bm .join (.lit (.str " ")) (.cons (.call "_law_pieces" (.cons (.loc 0) .nil)) .nil)) .nil)) (.lit (.int 2900)))) s2_f_law_fitted .nil) s3_f_law_fitted)
def s5_f_law_fitted : Sts := (.cons (.while (.and (.v (.cmp .Gt (.bi .len (.cons (.loc 0) .nil)) (.lit (.int 1)))) (.v (.cmp .Gt (.bi .len (.cons (.bm .join (.lit (.str " ")) (.cons (.call "_law_pieces" (.cons (.loc 0) .nil)) .nil)) .nil)) (.lit (.int 2900))))) s1_f_law_fitted) s4_f_law_fitted)
def d_f_law_fitted : FDef := { params := 1, names := ["_law_program_here"], dflt := [], body :=
    s5_f_law_fitted }
def r_f_law_fitted : Rw := ⟨.f "_law_fitted", d_f_law_fitted, ⟨("_law_fitted", none), "_law_fitted", "_law_fitted", defArgs (top 88), defBody (top 88), defScope (top 88), [], []⟩⟩
theorem b_f_law_fitted : BindP r_f_law_fitted := .of0 rfl fun _ _ _ _ _ _ us hl => match us, hl with | [_], _ => rfl
def s1_f_law_same : Sts := (.cons (.ret (.lit (.bl false))) .nil)
def s2_f_law_same : Sts := (.cons (.ret (.bi .all (.cons (.lc (.call "_law_same" (.cons (.loc 2) (.cons (.loc 3) .nil))) (.tp [2, 3]) (.zip (.loc 0) (.loc 1)) .none [("_law_one", 2), ("_law_other", 3)]) .nil))) .nil)
def s3_f_law_same : Sts := (.cons (.ife (.or (.not (.v (.isi (.loc 0) [.tuple]))) (.v (.cmp .NotEq (.bi .len (.cons (.loc 0) .nil)) (.bi .len (.cons (.loc 1) .nil))))) s1_f_law_same .nil) s2_f_law_same)
def s4_f_law_same : Sts := (.cons (.ret (.and (.isi (.loc 0) [.str]) (.cmp .Eq (.loc 0) (.loc 1)))) .nil)
def s5_f_law_same : Sts := (.cons (.ret (.and (.isi (.loc 0) [.int]) (.and (.not (.isi (.loc 0) [.bool])) (.cmp .Eq (.loc 0) (.loc 1))))) .nil)
def s6_f_law_same : Sts := (.cons (.ife (.v (.isi (.loc 1) [.str])) s4_f_law_same .nil) s5_f_law_same)
def s7_f_law_same : Sts := (.cons (.ife (.v (.isi (.loc 1) [.tuple])) s3_f_law_same .nil) s6_f_law_same)
def d_f_law_same : FDef := { params := 2, names := ["_law_told", "_law_due", "_law_one", "_law_other"], dflt := [], body :=
    s7_f_law_same }
def r_f_law_same : Rw := ⟨.f "_law_same", d_f_law_same, ⟨("_law_same", none), "_law_same", "_law_same", defArgs (top 89), defBody (top 89), defScope (top 89), [], []⟩⟩
theorem b_f_law_same : BindP r_f_law_same := .of0 rfl fun _ _ _ _ _ _ us hl => match us, hl with | [_, _], _ => rfl
def s1_f_law : Sts := (.cons (.ret (.lit (.bl false))) .nil)
def s2_f_law : Sts := (.cons (.ret (.lit (.bl false))) .nil)
def s3_f_law : Sts := (.cons (.ife (.not (.v (.call "_law_same" (.cons (.call "read" (.cons (.loc 4) .nil)) (.cons (.loc 2) .nil))))) s2_f_law .nil) .nil)
def s4_f_law : Sts := (.cons (.set 4 (.call "shown_program" (.cons (.call "read" (.cons (.loc 4) .nil)) .nil))) s3_f_law)
def s5_f_law : Sts := (.cons (.ret (.bi .all (.cons (.lc (.call "_law_same" (.cons (.call "things_of" (.cons (.call "shown" (.cons (.loc 6) .nil)) .nil)) (.cons (.tup (.cons (.loc 6) .nil)) .nil))) (.nm 6) (.seq (.loc 2)) .none [("_law_row", 6)]) .nil))) .nil)
def s6_f_law : Sts := (.cons (.for (.nm 5) (.rng1 (.lit (.int 2))) s4_f_law) s5_f_law)
def s7_f_law : Sts := (.cons (.set 4 (.call "_law_written" (.cons (.loc 1) (.cons (.slice (.call "_law_pieces" (.cons (.loc 2) .nil)) (.some (.lit (.int 1))) (.some (.neg (.lit (.int 1))))) .nil)))) s6_f_law)
def s8_f_law : Sts := (.cons (.ife (.or (.not (.v (.isi (.loc 3) [.str]))) (.or (.not (.v (.call "_law_same" (.cons (.call "read" (.cons (.loc 3) .nil)) (.cons (.loc 2) .nil))))) (.not (.v (.call "_law_same" (.cons (.call "things_of" (.cons (.loc 3) .nil)) (.cons (.loc 2) .nil))))))) s1_f_law .nil) s7_f_law)
def s9_f_law : Sts := (.cons (.set 3 (.call "shown_program" (.cons (.loc 2) .nil))) s8_f_law)
def s10_f_law : Sts := (.cons (.set 2 (.call "_law_program" (.cons (.loc 1) .nil))) s9_f_law)
def s11_f_law : Sts := (.cons (.set 1 (.call "_law_drawn" (.cons (.loc 0) .nil))) s10_f_law)
def d_f_law : FDef := { params := 1, names := ["_law_script", "_law_state", "_law_due", "_law_text", "_law_own", "_law_k", "_law_row"], dflt := [], body :=
    s11_f_law }
def r_f_law : Rw := ⟨.f "law", d_f_law, ⟨("law", none), "law", "law", defArgs (top 90), defBody (top 90), defScope (top 90), [], []⟩⟩
theorem b_f_law : BindP r_f_law := .of0 rfl fun _ _ _ _ _ _ us hl => match us, hl with | [_], _ => rfl
def tab : List Rw := [r_f_pieces_shown, r_f_shown, r_f_shown_program, r_f_all_among, r_f_is_letters, r_f_is_small, r_f_is_great, r_f_is_path, r_f_is_variable, r_f_is_number, r_f_thing_of, r_f_pieces_of, r_f_things_of, r_f_is_word, r_f_is_whole, r_f_is_row, r_f_is_small_name, r_f_is_great_name, r_f_is_kind_name, r_f_all_kinds, r_f_is_kind, r_f_all_phrases, r_f_is_ring_row, r_f_is_ring, r_f_is_arm, r_f_is_case, r_f_is_named, r_f_is_phrase, r_f_are_variables, r_f_is_given, r_f_is_giver, r_f_are_givers, r_f_is_tag, r_f_is_field, r_f_is_item, r_f_is_body_row, r_f_is_kind_told, r_f_is_face, r_f_is_part, r_f_is_maker, r_f_is_declaration, r_f_read, r_f_law_next, r_f_law_drawn, r_f_law_kept, r_f_law_letters, r_f_law_small, r_f_law_great, r_f_law_path, r_f_law_variable, r_f_law_number, r_f_law_kind_name, r_f_law_kind, r_f_law_leaf, r_f_law_some, r_f_law_ring, r_f_law_case, r_f_law_phrase, r_f_law_pieces, r_f_law_gap, r_f_law_written, r_f_law_given, r_f_law_givers, r_f_law_some_variables, r_f_law_some_kinds, r_f_law_sort, r_f_law_face, r_f_law_body, r_f_law_declared, r_f_law_program, r_f_law_fitted, r_f_law_same, r_f_law]
def con : List (String × Lit) := [("SMALL", (.str "abcdefghijklmnopqrstuvwxyz")), ("GREAT", (.str "ABCDEFGHIJKLMNOPQRSTUVWXYZ")), ("FIGURES", (.str "0123456789")), ("KEPT", (.str "num fun call let ring case make pick plus minus times less if kind record face hide val part maker apply main")), ("MOST_SIGNS", (.int 6000)), ("MOST_OPEN", (.int 20)), ("MOST_FIGURES", (.int 30)), ("MOST_LETTERS", (.int 8)), ("MOST_DECLARATIONS", (.int 24)), ("MOST_ROWS", (.int 24))]
def tups : List (String × List Lit) := [("PLAIN_HEADS", [(.str "plus"), (.str "minus"), (.str "times"), (.str "less"), (.str "call")])]
def P : Pg := { flds := [], cls := [], excs := ["FaceError", "NoText"], tups := tups, fn := fnOfT tab, con := conV con tups, sub := fun a b => a == b }
theorem fn_f_pieces_shown : P.fn (.f "pieces_shown") = some d_f_pieces_shown := by kernel_rfl
theorem fn_f_shown : P.fn (.f "shown") = some d_f_shown := by kernel_rfl
theorem fn_f_shown_program : P.fn (.f "shown_program") = some d_f_shown_program := by kernel_rfl
theorem fn_f_all_among : P.fn (.f "all_among") = some d_f_all_among := by kernel_rfl
theorem fn_f_is_letters : P.fn (.f "is_letters") = some d_f_is_letters := by kernel_rfl
theorem fn_f_is_small : P.fn (.f "is_small") = some d_f_is_small := by kernel_rfl
theorem fn_f_is_great : P.fn (.f "is_great") = some d_f_is_great := by kernel_rfl
theorem fn_f_is_path : P.fn (.f "is_path") = some d_f_is_path := by kernel_rfl
theorem fn_f_is_variable : P.fn (.f "is_variable") = some d_f_is_variable := by kernel_rfl
theorem fn_f_is_number : P.fn (.f "is_number") = some d_f_is_number := by kernel_rfl
theorem fn_f_thing_of : P.fn (.f "thing_of") = some d_f_thing_of := by kernel_rfl
theorem fn_f_pieces_of : P.fn (.f "pieces_of") = some d_f_pieces_of := by kernel_rfl
theorem fn_f_things_of : P.fn (.f "things_of") = some d_f_things_of := by kernel_rfl
theorem fn_f_is_word : P.fn (.f "is_word") = some d_f_is_word := by kernel_rfl
theorem fn_f_is_whole : P.fn (.f "is_whole") = some d_f_is_whole := by kernel_rfl
theorem fn_f_is_row : P.fn (.f "is_row") = some d_f_is_row := by kernel_rfl
theorem fn_f_is_small_name : P.fn (.f "is_small_name") = some d_f_is_small_name := by kernel_rfl
theorem fn_f_is_great_name : P.fn (.f "is_great_name") = some d_f_is_great_name := by kernel_rfl
theorem fn_f_is_kind_name : P.fn (.f "is_kind_name") = some d_f_is_kind_name := by kernel_rfl
theorem fn_f_all_kinds : P.fn (.f "all_kinds") = some d_f_all_kinds := by kernel_rfl
theorem fn_f_is_kind : P.fn (.f "is_kind") = some d_f_is_kind := by kernel_rfl
theorem fn_f_all_phrases : P.fn (.f "all_phrases") = some d_f_all_phrases := by kernel_rfl
theorem fn_f_is_ring_row : P.fn (.f "is_ring_row") = some d_f_is_ring_row := by kernel_rfl
theorem fn_f_is_ring : P.fn (.f "is_ring") = some d_f_is_ring := by kernel_rfl
theorem fn_f_is_arm : P.fn (.f "is_arm") = some d_f_is_arm := by kernel_rfl
theorem fn_f_is_case : P.fn (.f "is_case") = some d_f_is_case := by kernel_rfl
theorem fn_f_is_named : P.fn (.f "is_named") = some d_f_is_named := by kernel_rfl
theorem fn_f_is_phrase : P.fn (.f "is_phrase") = some d_f_is_phrase := by kernel_rfl
theorem fn_f_are_variables : P.fn (.f "are_variables") = some d_f_are_variables := by kernel_rfl
theorem fn_f_is_given : P.fn (.f "is_given") = some d_f_is_given := by kernel_rfl
theorem fn_f_is_giver : P.fn (.f "is_giver") = some d_f_is_giver := by kernel_rfl
theorem fn_f_are_givers : P.fn (.f "are_givers") = some d_f_are_givers := by kernel_rfl
theorem fn_f_is_tag : P.fn (.f "is_tag") = some d_f_is_tag := by kernel_rfl
theorem fn_f_is_field : P.fn (.f "is_field") = some d_f_is_field := by kernel_rfl
theorem fn_f_is_item : P.fn (.f "is_item") = some d_f_is_item := by kernel_rfl
theorem fn_f_is_body_row : P.fn (.f "is_body_row") = some d_f_is_body_row := by kernel_rfl
theorem fn_f_is_kind_told : P.fn (.f "is_kind_told") = some d_f_is_kind_told := by kernel_rfl
theorem fn_f_is_face : P.fn (.f "is_face") = some d_f_is_face := by kernel_rfl
theorem fn_f_is_part : P.fn (.f "is_part") = some d_f_is_part := by kernel_rfl
theorem fn_f_is_maker : P.fn (.f "is_maker") = some d_f_is_maker := by kernel_rfl
theorem fn_f_is_declaration : P.fn (.f "is_declaration") = some d_f_is_declaration := by kernel_rfl
theorem fn_f_read : P.fn (.f "read") = some d_f_read := by kernel_rfl
theorem fn_f_law_next : P.fn (.f "_law_next") = some d_f_law_next := by kernel_rfl
theorem fn_f_law_drawn : P.fn (.f "_law_drawn") = some d_f_law_drawn := by kernel_rfl
theorem fn_f_law_kept : P.fn (.f "_law_kept") = some d_f_law_kept := by kernel_rfl
theorem fn_f_law_letters : P.fn (.f "_law_letters") = some d_f_law_letters := by kernel_rfl
theorem fn_f_law_small : P.fn (.f "_law_small") = some d_f_law_small := by kernel_rfl
theorem fn_f_law_great : P.fn (.f "_law_great") = some d_f_law_great := by kernel_rfl
theorem fn_f_law_path : P.fn (.f "_law_path") = some d_f_law_path := by kernel_rfl
theorem fn_f_law_variable : P.fn (.f "_law_variable") = some d_f_law_variable := by kernel_rfl
theorem fn_f_law_number : P.fn (.f "_law_number") = some d_f_law_number := by kernel_rfl
theorem fn_f_law_kind_name : P.fn (.f "_law_kind_name") = some d_f_law_kind_name := by kernel_rfl
theorem fn_f_law_kind : P.fn (.f "_law_kind") = some d_f_law_kind := by kernel_rfl
theorem fn_f_law_leaf : P.fn (.f "_law_leaf") = some d_f_law_leaf := by kernel_rfl
theorem fn_f_law_some : P.fn (.f "_law_some") = some d_f_law_some := by kernel_rfl
theorem fn_f_law_ring : P.fn (.f "_law_ring") = some d_f_law_ring := by kernel_rfl
theorem fn_f_law_case : P.fn (.f "_law_case") = some d_f_law_case := by kernel_rfl
theorem fn_f_law_phrase : P.fn (.f "_law_phrase") = some d_f_law_phrase := by kernel_rfl
theorem fn_f_law_pieces : P.fn (.f "_law_pieces") = some d_f_law_pieces := by kernel_rfl
theorem fn_f_law_gap : P.fn (.f "_law_gap") = some d_f_law_gap := by kernel_rfl
theorem fn_f_law_written : P.fn (.f "_law_written") = some d_f_law_written := by kernel_rfl
theorem fn_f_law_given : P.fn (.f "_law_given") = some d_f_law_given := by kernel_rfl
theorem fn_f_law_givers : P.fn (.f "_law_givers") = some d_f_law_givers := by kernel_rfl
theorem fn_f_law_some_variables : P.fn (.f "_law_some_variables") = some d_f_law_some_variables := by kernel_rfl
theorem fn_f_law_some_kinds : P.fn (.f "_law_some_kinds") = some d_f_law_some_kinds := by kernel_rfl
theorem fn_f_law_sort : P.fn (.f "_law_sort") = some d_f_law_sort := by kernel_rfl
theorem fn_f_law_face : P.fn (.f "_law_face") = some d_f_law_face := by kernel_rfl
theorem fn_f_law_body : P.fn (.f "_law_body") = some d_f_law_body := by kernel_rfl
theorem fn_f_law_declared : P.fn (.f "_law_declared") = some d_f_law_declared := by kernel_rfl
theorem fn_f_law_program : P.fn (.f "_law_program") = some d_f_law_program := by kernel_rfl
theorem fn_f_law_fitted : P.fn (.f "_law_fitted") = some d_f_law_fitted := by kernel_rfl
theorem fn_f_law_same : P.fn (.f "_law_same") = some d_f_law_same := by kernel_rfl
theorem fn_f_law : P.fn (.f "law") = some d_f_law := by kernel_rfl
theorem rows_ok : tab.all (Rw.ok P) = true := by kernel_rfl
theorem bind_ok : ∀ r ∈ tab, BindP r := by
  intro r hr
  simp only [tab, List.mem_cons, List.not_mem_nil, or_false] at hr
  rcases hr with rfl | rfl | rfl | rfl | rfl | rfl | rfl | rfl | rfl | rfl | rfl | rfl | rfl | rfl | rfl | rfl | rfl | rfl | rfl | rfl | rfl | rfl | rfl | rfl | rfl | rfl | rfl | rfl | rfl | rfl | rfl | rfl | rfl | rfl | rfl | rfl | rfl | rfl | rfl | rfl | rfl | rfl | rfl | rfl | rfl | rfl | rfl | rfl | rfl | rfl | rfl | rfl | rfl | rfl | rfl | rfl | rfl | rfl | rfl | rfl | rfl | rfl | rfl | rfl | rfl | rfl | rfl | rfl | rfl | rfl | rfl | rfl | rfl
  · exact b_f_pieces_shown
  · exact b_f_shown
  · exact b_f_shown_program
  · exact b_f_all_among
  · exact b_f_is_letters
  · exact b_f_is_small
  · exact b_f_is_great
  · exact b_f_is_path
  · exact b_f_is_variable
  · exact b_f_is_number
  · exact b_f_thing_of
  · exact b_f_pieces_of
  · exact b_f_things_of
  · exact b_f_is_word
  · exact b_f_is_whole
  · exact b_f_is_row
  · exact b_f_is_small_name
  · exact b_f_is_great_name
  · exact b_f_is_kind_name
  · exact b_f_all_kinds
  · exact b_f_is_kind
  · exact b_f_all_phrases
  · exact b_f_is_ring_row
  · exact b_f_is_ring
  · exact b_f_is_arm
  · exact b_f_is_case
  · exact b_f_is_named
  · exact b_f_is_phrase
  · exact b_f_are_variables
  · exact b_f_is_given
  · exact b_f_is_giver
  · exact b_f_are_givers
  · exact b_f_is_tag
  · exact b_f_is_field
  · exact b_f_is_item
  · exact b_f_is_body_row
  · exact b_f_is_kind_told
  · exact b_f_is_face
  · exact b_f_is_part
  · exact b_f_is_maker
  · exact b_f_is_declaration
  · exact b_f_read
  · exact b_f_law_next
  · exact b_f_law_drawn
  · exact b_f_law_kept
  · exact b_f_law_letters
  · exact b_f_law_small
  · exact b_f_law_great
  · exact b_f_law_path
  · exact b_f_law_variable
  · exact b_f_law_number
  · exact b_f_law_kind_name
  · exact b_f_law_kind
  · exact b_f_law_leaf
  · exact b_f_law_some
  · exact b_f_law_ring
  · exact b_f_law_case
  · exact b_f_law_phrase
  · exact b_f_law_pieces
  · exact b_f_law_gap
  · exact b_f_law_written
  · exact b_f_law_given
  · exact b_f_law_givers
  · exact b_f_law_some_variables
  · exact b_f_law_some_kinds
  · exact b_f_law_sort
  · exact b_f_law_face
  · exact b_f_law_body
  · exact b_f_law_declared
  · exact b_f_law_program
  · exact b_f_law_fitted
  · exact b_f_law_same
  · exact b_f_law
abbrev R : PySem.W.OpenRow := PySem.W.OpenLaw.row PySem.Challenge.rw_facework_k08_whole_programs_go_round
abbrev fas : List He.Fa := faOf P tab con
abbrev fns : List He.DefD := tab.map (·.dd)
abbrev ex : PySem.W.Frag → Bool := exB P
abbrev hk : PySem.W.Hook := He.hookX 4 fas fns [] [] ex
def ob (s : PySem.W.SharedT) : He.AlX := He.obsX 4 fas fns [] [] ex (HandSHeadRun.getT s)
theorem ob_eq (s : PySem.W.SharedT) : ob s = hk.obs s.abs := He.obsX_eq (HandSHeadRun.getT_eq s)
def loose0 : List PySem.Str := ["pieces_shown", "shown", "shown_program", "FaceError", "NoText", "SMALL", "GREAT", "FIGURES", "KEPT", "MOST_SIGNS", "MOST_OPEN", "MOST_FIGURES", "MOST_LETTERS", "all_among", "is_letters", "is_small", "is_great", "is_path", "is_variable", "is_number", "thing_of", "pieces_of", "things_of", "MOST_DECLARATIONS", "MOST_ROWS", "PLAIN_HEADS", "is_word", "is_whole", "is_row", "is_small_name"]
def loose1 : List PySem.Str := ["is_great_name", "is_kind_name", "all_kinds", "is_kind", "all_phrases", "is_ring_row", "is_ring", "is_arm", "is_case", "is_named", "is_phrase", "are_variables", "is_given", "is_giver", "are_givers", "is_tag", "is_field", "is_item", "is_body_row", "is_kind_told", "is_face", "is_part", "is_maker", "is_declaration", "read", "_law_next", "_law_drawn", "_law_kept", "_law_letters", "_law_small"]
def loose2 : List PySem.Str := ["_law_great", "_law_path", "_law_variable", "_law_number", "_law_kind_name", "_law_kind", "_law_leaf", "_law_some", "_law_ring", "_law_case", "_law_phrase", "_law_pieces", "_law_gap", "_law_written", "_law_given", "_law_givers", "_law_some_variables", "_law_some_kinds", "_law_sort", "_law_face", "_law_body", "_law_declared", "_law_program", "_law_fitted", "_law_same"]
abbrev loose : List PySem.Str := loose0 ++ loose1 ++ loose2
end K08

set_option maxHeartbeats 0
namespace K08
open PySem PySem.W PySem.Calls PyProof.Rows
theorem run (w : World) : HandSHeadRun.RunEq R (view R.prog [90]) hk ob 6060 loose w := by
  intro os
  kernel_rfl
end K08

set_option maxHeartbeats 1000000
namespace K08
open Mi PySem
/-! ### what a word is -/
abbrev sSMALL : String := "abcdefghijklmnopqrstuvwxyz"
abbrev sGREAT : String := "ABCDEFGHIJKLMNOPQRSTUVWXYZ"
abbrev sKEPT : String := "num fun call let ring case make pick plus minus times less if kind record face hide val part maker apply main"
def among (l : List Char) (g : String) : Bool := l.all fun c => decide (c ∈ g.toList)
def letters (s : String) : Bool := decide (1 ≤ s.length) && decide (s.length ≤ 8) && among s.toList sSMALL
def keptL : List String := (splitC ' ' sKEPT.toList).map String.ofList
def small (s : String) : Bool := letters s && !decide (s ∈ keptL)
def great (s : String) : Bool := decide (1 ≤ s.length) && decide (s.length ≤ 8) && match s.toList with
  | [] => false
  | c :: r => decide (c ∈ sGREAT.toList) && among r sSMALL
def path (s : String) : Bool := match (splitC '.' s.toList).map String.ofList with
  | [a, b] => great a && small b
  | _ => false
def qv (s : String) : Bool := Txt.startswith (Str.ofString s) (Str.ofString "?")
def vari (s : String) : Bool := qv s && letters (String.ofList (s.toList.drop 1))
theorem con_MOST : P.con "MOST_LETTERS" = some (.int 8) := by kernel_rfl
theorem con_SMALL : P.con "SMALL" = some (.str sSMALL) := by kernel_rfl
theorem con_GREAT : P.con "GREAT" = some (.str sGREAT) := by kernel_rfl
theorem con_KEPT : P.con "KEPT" = some (.str sKEPT) := by kernel_rfl
theorem all_among_ok {k : Nat} {w g : String} {S : Hm} : callW P (k + 1) (.f "all_among") [.str w, .str g] S (fun v S' => S' = S ∧ v = .bl (among w.toList g)) noX := by
  refine call_open fn_f_all_among ⟨rfl, ?_⟩
  show wSs _ _ _ s4_f_all_among _ _ [some (.str w), some (.str g), none] S
  simp only [s4_f_all_among, wSs, wS, wT, wEs, wO, wPs, wC, wSrc, wE_loc, wE_lit, wE_con, wE_bin, wE_neg, wE_cmp, wE_cmp2, wE_isN, wE_notN, wE_isB, wE_not, wE_and, wE_or, wE_ite, wE_tup, wE_lst, wE_dic, wE_call, wE_make, wE_meth, wE_fld, wE_sub, wE_slice, wE_bi, wE_vi, wE_bm, wE_isi, wE_lc, wE_lck, eg, es, Option.some.injEq, exists_eq_left', Lit.val, seqOf]
  refine for_inv (callW_mono P _) (fun i env S' => ∃ x2, env = [some (.str w), some (.str g), x2] ∧ S' = S ∧ among (w.toList.take i) g = true) ?_ ?_ ⟨_, rfl, rfl, by simp [among]⟩
  · rintro i v env S' hi ⟨x2, rfl, rfl, h⟩
    refine ⟨trivial, ?_⟩
    rw [List.getElem?_map] at hi
    obtain ⟨c, hc, rfl⟩ := Option.map_eq_some_iff.mp hi
    simp only [tgW, s2_f_all_among, wSs, wS, wT, wEs, wO, wPs, wC, wSrc, wE_loc, wE_lit, wE_con, wE_bin, wE_neg, wE_cmp, wE_cmp2, wE_isN, wE_notN, wE_isB, wE_not, wE_and, wE_or, wE_ite, wE_tup, wE_lst, wE_dic, wE_call, wE_make, wE_meth, wE_fld, wE_sub, wE_slice, wE_bi, wE_vi, wE_bm, wE_isi, wE_lc, wE_lck, eg, es, Option.some.injEq, exists_eq_left', Lit.val, cmpW, inW]
    refine .inl ⟨c, String.toList_singleton c, ?_⟩
    by_cases hm : c ∈ g.toList
    · simp only [hm, decide_true, Bool.not_true, truth, Option.some.injEq, exists_eq_left', Bool.false_eq_true, if_false]
      refine ⟨_, rfl, trivial, ?_⟩
      unfold among at h ⊢
      rw [List.take_add_one, hc, List.all_append, h]
      simpa using hm
    · simp only [hm, decide_false, Bool.not_false, truth, Option.some.injEq, exists_eq_left', if_true, s1_f_all_among, wSs, wS, wT, wEs, wO, wPs, wC, wSrc, wE_loc, wE_lit, wE_con, wE_bin, wE_neg, wE_cmp, wE_cmp2, wE_isN, wE_notN, wE_isB, wE_not, wE_and, wE_or, wE_ite, wE_tup, wE_lst, wE_dic, wE_call, wE_make, wE_meth, wE_fld, wE_sub, wE_slice, wE_bi, wE_vi, wE_bm, wE_isi, wE_lc, wE_lck, eg, es, Option.some.injEq, exists_eq_left', Lit.val]
      refine ⟨trivial, ?_⟩
      have : among w.toList g = false := by
        unfold among
        rw [List.all_eq_false]
        exact ⟨c, List.mem_of_getElem? hc, by simpa using hm⟩
      rw [this]
  · rintro env S' ⟨x2, rfl, rfl, h⟩
    refine ⟨trivial, ?_⟩
    simp only [s3_f_all_among, wSs, wS, wT, wEs, wO, wPs, wC, wSrc, wE_loc, wE_lit, wE_con, wE_bin, wE_neg, wE_cmp, wE_cmp2, wE_isN, wE_notN, wE_isB, wE_not, wE_and, wE_or, wE_ite, wE_tup, wE_lst, wE_dic, wE_call, wE_make, wE_meth, wE_fld, wE_sub, wE_slice, wE_bi, wE_vi, wE_bm, wE_isi, wE_lc, wE_lck, eg, es, Option.some.injEq, exists_eq_left', Lit.val]
    rw [List.length_map, List.take_length] at h
    exact ⟨trivial, by rw [h]⟩
theorem is_letters_ok {k : Nat} {w : String} {S : Hm} (hl : w.length ≤ 10 ^ 4) : callW P (k + 2) (.f "is_letters") [.str w] S (fun v S' => S' = S ∧ v = .bl (letters w)) noX := by
  refine call_open (k := k + 1) fn_f_is_letters ⟨rfl, ?_⟩
  show wSs _ _ _ s1_f_is_letters _ _ [some (.str w)] S
  simp only [s1_f_is_letters, wSs, wS, wT, wEs, wO, wPs, wC, wSrc, wE_loc, wE_lit, wE_con, wE_bin, wE_neg, wE_cmp, wE_cmp2, wE_isN, wE_notN, wE_isB, wE_not, wE_and, wE_or, wE_ite, wE_tup, wE_lst, wE_dic, wE_call, wE_make, wE_meth, wE_fld, wE_sub, wE_slice, wE_bi, wE_vi, wE_bm, wE_isi, wE_lc, wE_lck, eg, es, Option.some.injEq, exists_eq_left', Lit.val, con_MOST, con_SMALL, biW, cmpW]
  refine ⟨by rw [sizeLine_eq]; omega, ?_⟩
  unfold letters
  by_cases h1 : 1 ≤ w.length
  · rw [if_pos (decide_eq_true (by omega))]
    refine ⟨_, rfl, ?_⟩
    by_cases h2 : w.length ≤ 8
    · rw [if_pos (by simp; omega)]
      refine call_use (all_among_ok (k := k)) ?_
      rintro _ S1 ⟨rfl, rfl⟩
      simp [h1, h2]
    · rw [if_neg (by simp; omega)]
      simp [h2]
  · rw [if_neg (by rw [decide_eq_true_eq]; omega)]
    refine ⟨_, rfl, ?_⟩
    simp [h1]
theorem keptL_eq : keptL = ["num", "fun", "call", "let", "ring", "case", "make", "pick", "plus", "minus", "times", "less", "if", "kind", "record", "face", "hide", "val", "part", "maker", "apply", "main"] := by decide +kernel
theorem split_kept : Txt.split (Str.ofString sKEPT) (Str.ofString " ") = keptL.map Str.ofString := split_eq sKEPT ' '
theorem flat_strs (ws : List String) : (ws.map Val.str).all flat = true := by
  rw [List.all_map, List.all_eq_true]
  intro _ _
  rfl
theorem any_str {ws : List String} {w : String} : (ws.map Val.str).any (fun y => feq y (.str w)) = decide (w ∈ ws) := by
  induction ws with
  | nil => simp
  | cons a r ih =>
    rw [List.map_cons, List.any_cons, ih]
    have : feq (.str a) (.str w) = decide (a = w) := by simp only [feq]; by_cases h : a = w <;> simp [h]
    rw [this]
    by_cases h : a = w
    · subst h; simp
    · have h' : ¬ w = a := fun z => h z.symm
      simp [h, h']
theorem is_small_ok {k : Nat} {w : String} {S : Hm} (hl : w.length ≤ 10 ^ 4) : callW P (k + 3) (.f "is_small") [.str w] S (fun v S' => (∃ l, S' = S ++ l) ∧ v = .bl (small w)) noX := by
  refine call_open (k := k + 2) fn_f_is_small ⟨rfl, ?_⟩
  show wSs _ _ _ s1_f_is_small _ _ [some (.str w)] S
  simp only [s1_f_is_small, wSs, wS, wT, wEs, wO, wPs, wC, wSrc, wE_loc, wE_lit, wE_con, wE_bin, wE_neg, wE_cmp, wE_cmp2, wE_isN, wE_notN, wE_isB, wE_not, wE_and, wE_or, wE_ite, wE_tup, wE_lst, wE_dic, wE_call, wE_make, wE_meth, wE_fld, wE_sub, wE_slice, wE_bi, wE_vi, wE_bm, wE_isi, wE_lc, wE_lck, eg, es, Option.some.injEq, exists_eq_left', Lit.val, con_KEPT, bmT, bmW, cmpW]
  refine call_use (is_letters_ok (k := k) hl) ?_
  rintro _ S1 ⟨rfl, rfl⟩
  refine ⟨_, rfl, ?_⟩
  unfold small
  cases letters w with
  | false => simpa using ⟨[], by simp⟩
  | true =>
    rw [if_pos rfl]
    refine ⟨⟨_, rfl⟩, keptL, split_kept, by decide, by rw [sizeLine_eq]; decide, ?_⟩
    refine .inl ⟨_, lst_at get_new, .inl ⟨rfl, flat_strs _, ?_⟩⟩
    rw [any_str]
    exact ⟨⟨_, rfl⟩, by simp⟩
theorem atI_chars {w : String} {c : Char} {r : List Char} (h : w.toList = c :: r) : atI w.toList 0 = some c := by rw [h]; exact ix_zero
theorem is_great_ok {k : Nat} {w : String} {S : Hm} (hl : w.length ≤ 10 ^ 4) : callW P (k + 3) (.f "is_great") [.str w] S (fun v S' => S' = S ∧ v = .bl (great w)) noX := by
  refine call_open (k := k + 2) fn_f_is_great ⟨rfl, ?_⟩
  show wSs _ _ _ s1_f_is_great _ _ [some (.str w)] S
  simp only [s1_f_is_great, wSs, wS, wT, wEs, wO, wPs, wC, wSrc, wE_loc, wE_lit, wE_con, wE_bin, wE_neg, wE_cmp, wE_cmp2, wE_isN, wE_notN, wE_isB, wE_not, wE_and, wE_or, wE_ite, wE_tup, wE_lst, wE_dic, wE_call, wE_make, wE_meth, wE_fld, wE_sub, wE_slice, wE_bi, wE_vi, wE_bm, wE_isi, wE_lc, wE_lck, eg, es, Option.some.injEq, exists_eq_left', Lit.val, con_MOST, con_SMALL, con_GREAT, biW, cmpW]
  refine ⟨by rw [sizeLine_eq]; omega, ?_⟩
  unfold great
  by_cases h1 : 1 ≤ w.length
  · rw [if_pos (decide_eq_true (by omega))]
    refine ⟨_, rfl, ?_⟩
    by_cases h2 : w.length ≤ 8
    · rw [if_pos (by simp; omega)]
      cases hc : w.toList with
      | nil => rw [← String.length_toList, hc] at h1; simp at h1
      | cons c r =>
        simp only [subW, inW, sliceW]
        refine ⟨by rw [sizeLine_eq]; omega, c, atI_chars hc, .inl ⟨c, String.toList_singleton c, _, rfl, ?_⟩⟩
        by_cases hg : c ∈ sGREAT.toList
        · rw [if_pos (by simpa using hg)]
          refine ⟨1, rfl, by rw [sizeLine_eq]; omega, ?_⟩
          have : cut w.toList (some 1) none = r := by rw [hc]; exact cut_from (i := 1)
          rw [this]
          refine call_use (all_among_ok (k := k + 1)) ?_
          rintro _ S1 ⟨rfl, rfl⟩
          rw [String.toList_ofList]
          simp [h1, h2, hg]
        · rw [if_neg (by simpa using hg)]
          simp [hg]
    · rw [if_neg (by simp; omega)]
      simp [h2]
  · rw [if_neg (by rw [decide_eq_true_eq]; omega)]
    refine ⟨_, rfl, ?_⟩
    simp [h1]
theorem splitC_len {c : Char} : ∀ {l : List Char}, ∀ p ∈ splitC c l, p.length ≤ l.length
  | [], p, h => by
    have : p = [] := by simpa [splitC] using h
    subst this; simp
  | x :: r, p, h => by
    have ih := splitC_len (c := c) (l := r)
    unfold splitC at h
    split at h
    · rcases List.mem_cons.mp h with rfl | h
      · simp
      · have := ih p h; simp; omega
    · split at h
      · have : p = [x] := by simpa using h
        subst this; simp
      · rename_i q qs e
        rw [e] at ih
        rcases List.mem_cons.mp h with rfl | h
        · have := ih q List.mem_cons_self; simp; omega
        · have := ih p (List.mem_cons_of_mem _ h); simp; omega
theorem is_path_ok {k : Nat} {w : String} {S : Hm} (hl : w.length ≤ 10 ^ 4) : callW P (k + 4) (.f "is_path") [.str w] S (fun v S' => (∃ l, S' = S ++ l) ∧ v = .bl (path w)) noX := by
  refine call_open (k := k + 3) fn_f_is_path ⟨rfl, ?_⟩
  show wSs _ _ _ s1_f_is_path _ _ [some (.str w), none] S
  simp only [s1_f_is_path, wSs, wS, wT, wEs, wO, wPs, wC, wSrc, wE_loc, wE_lit, wE_con, wE_bin, wE_neg, wE_cmp, wE_cmp2, wE_isN, wE_notN, wE_isB, wE_not, wE_and, wE_or, wE_ite, wE_tup, wE_lst, wE_dic, wE_call, wE_make, wE_meth, wE_fld, wE_sub, wE_slice, wE_bi, wE_vi, wE_bm, wE_isi, wE_lc, wE_lck, eg, es, Option.some.injEq, exists_eq_left', Lit.val, bmT, bmW, cmpW]
  refine ⟨⟨_, rfl⟩, _, split_eq w '.', by decide, by rw [sizeLine_eq]; omega, ?_⟩
  have hp : ∀ x ∈ (splitC '.' w.toList).map String.ofList, x.length ≤ 10 ^ 4 := by
    intro x hx
    obtain ⟨l, h1, rfl⟩ := List.mem_map.mp hx
    have := splitC_len l h1
    rw [String.length_toList] at this
    rw [← String.length_toList, String.toList_ofList]
    omega
  unfold path
  generalize (splitC '.' w.toList).map String.ofList = ps at hp
  refine lenW_lst (lst_at get_new) ?_
  rw [eqW_int]
  refine ⟨_, rfl, ?_⟩
  match ps, hp with
  | [], _ => simpa using ⟨_, rfl⟩
  | [_], _ => simpa using ⟨_, rfl⟩
  | [a, b], hp =>
    rw [if_pos (by simp)]
    refine subW_lst (lst_at get_new) (v := .str a) ix_zero ?_
    refine call_use (is_great_ok (k := k) (hp a (by simp))) ?_
    rintro _ S1 ⟨e1, rfl⟩
    rw [e1]
    refine ⟨_, rfl, ?_⟩
    cases hg : great a with
    | false => exact ⟨⟨_, rfl⟩, by simp [hg]⟩
    | true =>
      rw [if_pos rfl]
      refine subW_lst (lst_at get_new) (v := .str b) rfl ?_
      refine call_use (is_small_ok (k := k) (hp b (by simp))) ?_
      rintro _ S2 ⟨⟨l, rfl⟩, rfl⟩
      exact ⟨⟨_, by rw [List.append_assoc]⟩, by simp [hg]⟩
  | _ :: _ :: _ :: _, _ =>
    rw [if_neg (by simp; omega)]
    simpa using ⟨_, rfl⟩
theorem is_variable_ok {k : Nat} {w : String} {S : Hm} (hl : w.length ≤ 10 ^ 4) : callW P (k + 3) (.f "is_variable") [.str w] S (fun v S' => S' = S ∧ v = .bl (vari w)) noX := by
  refine call_open (k := k + 2) fn_f_is_variable ⟨rfl, ?_⟩
  show wSs _ _ _ s1_f_is_variable _ _ [some (.str w)] S
  simp only [s1_f_is_variable, wSs, wS, wT, wEs, wO, wPs, wC, wSrc, wE_loc, wE_lit, wE_con, wE_bin, wE_neg, wE_cmp, wE_cmp2, wE_isN, wE_notN, wE_isB, wE_not, wE_and, wE_or, wE_ite, wE_tup, wE_lst, wE_dic, wE_call, wE_make, wE_meth, wE_fld, wE_sub, wE_slice, wE_bi, wE_vi, wE_bm, wE_isi, wE_lc, wE_lck, eg, es, Option.some.injEq, exists_eq_left', Lit.val, bmT, bmW, sliceW]
  refine ⟨⟨_, rfl⟩, _, rfl, ?_⟩
  unfold vari qv
  cases Txt.startswith (Str.ofString w) (Str.ofString "?") with
  | false => simp
  | true =>
    rw [if_pos rfl]
    refine ⟨1, rfl, by rw [sizeLine_eq]; omega, ?_⟩
    have : cut w.toList (some 1) none = w.toList.drop 1 := cut_from (i := 1)
    rw [this]
    refine call_use (is_letters_ok (k := k) ?_) ?_
    · rw [← String.length_toList, String.toList_ofList, List.length_drop, String.length_toList]; omega
    rintro _ S1 ⟨rfl, rfl⟩
    simp
end K08

set_option maxHeartbeats 1000000
namespace K08
open Mi PySem
/-! ### numbers and their texts -/
abbrev sFIG : String := "0123456789"
theorem con_FIG : P.con "FIGURES" = some (.str sFIG) := by kernel_rfl
theorem con_MFIG : P.con "MOST_FIGURES" = some (.int 30) := by kernel_rfl
def figs (w : String) : List Char := if Txt.startswith (Str.ofString w) (Str.ofString "-") = true then w.toList.drop 1 else w.toList
def numB (w : String) : Bool := decide (1 ≤ (figs w).length) && decide ((figs w).length ≤ 30) && among (figs w) sFIG && (match figs w with
  | [] => false
  | c :: _ => decide (c ≠ '0') || decide (w = "0"))
theorem starts1 {w : String} {c : Char} : Txt.startswith (Str.ofString w) (Str.ofString (String.singleton c)) = decide (w.toList.head? = some c) := by
  unfold Txt.startswith
  rw [StrLaws.subAt_eq, len_ofString, len_ofString, cps_ofString, cps_ofString]
  rw [String.toList_singleton, ← String.length_toList, ← String.length_toList, String.toList_singleton]
  cases e : w.toList with
  | nil => simp
  | cons x r =>
    simp
    by_cases h : x = c
    · subst h; simp
    · have : x.toNat ≠ c.toNat := fun z => h (Char.ext (UInt32.toNat_inj.mp z))
      simp [h, this]
theorem is_number_ok {k : Nat} {w : String} {S : Hm} (hl : w.length ≤ 10 ^ 4) : callW P (k + 2) (.f "is_number") [.str w] S (fun v S' => S' = S ∧ v = .bl (numB w)) noX := by
  refine call_open (k := k + 1) fn_f_is_number ⟨rfl, ?_⟩
  show wSs _ _ _ s5_f_is_number _ _ [some (.str w), none] S
  simp only [s5_f_is_number, wSs, wS, wT, wEs, wO, wPs, wC, wSrc, wE_loc, wE_lit, wE_con, wE_bin, wE_neg, wE_cmp, wE_cmp2, wE_isN, wE_notN, wE_isB, wE_not, wE_and, wE_or, wE_ite, wE_tup, wE_lst, wE_dic, wE_call, wE_make, wE_meth, wE_fld, wE_sub, wE_slice, wE_bi, wE_vi, wE_bm, wE_isi, wE_lc, wE_lck, eg, es, Option.some.injEq, exists_eq_left', Lit.val, bmT, bmW]
  have main : ∀ f : String, f.toList = figs w → f.length ≤ 10 ^ 4 → wSs P.con P.sub (callW P (k + 1)) s4_f_is_number (fun c x S' => noX c S') { nx := fun _ S' => S' = S ∧ Val.non = .bl (numB w), rt := fun v S' => S' = S ∧ v = .bl (numB w) } [some (.str w), some (.str f)] S := by
    intro f hf hfl
    have hfl2 : (figs w).length = f.length := by rw [← hf, String.length_toList]
    simp only [s4_f_is_number, wSs, wS, wT, wEs, wO, wPs, wC, wSrc, wE_loc, wE_lit, wE_con, wE_bin, wE_neg, wE_cmp, wE_cmp2, wE_isN, wE_notN, wE_isB, wE_not, wE_and, wE_or, wE_ite, wE_tup, wE_lst, wE_dic, wE_call, wE_make, wE_meth, wE_fld, wE_sub, wE_slice, wE_bi, wE_vi, wE_bm, wE_isi, wE_lc, wE_lck, eg, es, Option.some.injEq, exists_eq_left', Lit.val, con_MFIG, con_FIG, biW, cmpW]
    refine ⟨by rw [sizeLine_eq]; omega, ?_⟩
    unfold numB
    rw [hfl2]
    have no : ∀ b : Bool, b = false → wSs P.con P.sub (callW P (k + 1)) s2_f_is_number (fun c x S' => noX c S') { nx := fun env' S' => wSs P.con P.sub (callW P (k + 1)) s3_f_is_number (fun c x S' => noX c S') { nx := fun _ S' => S' = S ∧ Val.non = .bl b, rt := fun v S' => S' = S ∧ v = .bl b } env' S', rt := fun v S' => S' = S ∧ v = .bl b } [some (.str w), some (.str f)] S := by
      rintro b rfl
      simp only [s2_f_is_number, wSs, wS, wT, wEs, wO, wPs, wC, wSrc, wE_loc, wE_lit, wE_con, wE_bin, wE_neg, wE_cmp, wE_cmp2, wE_isN, wE_notN, wE_isB, wE_not, wE_and, wE_or, wE_ite, wE_tup, wE_lst, wE_dic, wE_call, wE_make, wE_meth, wE_fld, wE_sub, wE_slice, wE_bi, wE_vi, wE_bm, wE_isi, wE_lc, wE_lck, eg, es, Option.some.injEq, exists_eq_left', Lit.val]
      exact ⟨trivial, trivial⟩
    by_cases h1 : 1 ≤ f.length
    · rw [if_pos (decide_eq_true (by omega))]
      refine ⟨_, rfl, ?_⟩
      by_cases h2 : f.length ≤ 30
      · rw [if_neg (by simp; omega)]
        refine call_use (all_among_ok (k := k)) ?_
        rintro _ S1 ⟨rfl, rfl⟩
        refine ⟨_, rfl, ?_⟩
        rw [hf]
        cases ha : among (figs w) sFIG with
        | false =>
          rw [if_pos (by decide)]
          exact no _ (by simp)
        | true =>
          rw [if_neg (by decide)]
          simp only [s3_f_is_number, wSs, wS, wT, wEs, wO, wPs, wC, wSrc, wE_loc, wE_lit, wE_con, wE_bin, wE_neg, wE_cmp, wE_cmp2, wE_isN, wE_notN, wE_isB, wE_not, wE_and, wE_or, wE_ite, wE_tup, wE_lst, wE_dic, wE_call, wE_make, wE_meth, wE_fld, wE_sub, wE_slice, wE_bi, wE_vi, wE_bm, wE_isi, wE_lc, wE_lck, eg, es, Option.some.injEq, exists_eq_left', Lit.val, subW, cmpW]
          cases hc : figs w with
          | nil => rw [hc] at hfl2; simp at hfl2; omega
          | cons c r =>
            refine ⟨by rw [sizeLine_eq]; omega, c, by rw [hf, hc]; exact ix_zero, ?_⟩
            rw [eqW_str]
            refine ⟨_, rfl, ?_⟩
            have e0 : (String.singleton c = "0") ↔ c = '0' := by
              constructor
              · intro h
                have := congrArg String.toList h
                rw [String.toList_singleton] at this
                simpa using this
              · rintro rfl; rfl
            by_cases hc0 : c = '0'
            · rw [if_neg (by simp [e0, hc0]), eqW_str]
              exact ⟨trivial, by simp [h1, h2, hc0]⟩
            · rw [if_pos (by simp [e0, hc0])]
              exact ⟨trivial, by simp [h1, h2, hc0]⟩
      · rw [if_pos (by simp; omega), if_pos trivial]
        exact no _ (by simp [h2])
    · rw [if_neg (by rw [decide_eq_true_eq]; omega)]
      refine ⟨_, rfl, ?_⟩
      rw [if_pos (by decide), if_pos trivial]
      exact no _ (by simp [h1])
  refine ⟨⟨_, rfl⟩, _, rfl, ?_⟩
  unfold figs at main
  cases hs : Txt.startswith (Str.ofString w) (Str.ofString "-") with
  | true =>
    rw [hs] at main
    rw [if_pos rfl]
    simp only [s1_f_is_number, wSs, wS, wT, wEs, wO, wPs, wC, wSrc, wE_loc, wE_lit, wE_con, wE_bin, wE_neg, wE_cmp, wE_cmp2, wE_isN, wE_notN, wE_isB, wE_not, wE_and, wE_or, wE_ite, wE_tup, wE_lst, wE_dic, wE_call, wE_make, wE_meth, wE_fld, wE_sub, wE_slice, wE_bi, wE_vi, wE_bm, wE_isi, wE_lc, wE_lck, eg, es, Option.some.injEq, exists_eq_left', Lit.val, sliceW]
    refine ⟨1, rfl, by rw [sizeLine_eq]; omega, ?_⟩
    have : cut w.toList (some 1) none = w.toList.drop 1 := cut_from (i := 1)
    rw [this]
    refine main _ (by rw [String.toList_ofList]; rfl) ?_
    rw [← String.length_toList, String.toList_ofList, List.length_drop, String.length_toList]; omega
  | false =>
    rw [hs] at main
    rw [if_neg (by decide)]
    exact main w rfl hl
end K08

set_option maxHeartbeats 1000000
namespace K08
open Mi PySem
/-! ### what the law draws -/
def Sta (p : Nat) (S : Hm) : Prop := ∃ (xs : List Int) (z : Int), S[p]? = some (.lst (xs.map .int ++ [.int z])) ∧ xs.length ≤ 100 ∧ 0 ≤ z ∧ z < 2 ^ 61
theorem Sta.app {p : Nat} {S : Hm} (h : Sta p S) (l : Hm) : Sta p (S ++ l) := by
  obtain ⟨xs, z, h1, h2⟩ := h
  exact ⟨xs, z, get_app h1, h2⟩
theorem Sta.lt {p : Nat} {S : Hm} (h : Sta p S) : p < S.length := by
  obtain ⟨xs, z, h1, h2⟩ := h
  exact lt_get h1
theorem Sta.set {p n : Nat} {S : Hm} {o : Ob} (h : Sta p S) (hn : n ≠ p) : Sta p (S.set n o) := by
  obtain ⟨xs, z, h1, h2⟩ := h
  exact ⟨xs, z, by rw [get_ne (Ne.symm hn)]; exact h1, h2⟩
theorem next_ok {k p : Nat} {m : Int} {S : Hm} (h : Sta p S) (hm : 0 < m) (hm2 : m < 2 ^ 64) : callW P (k + 1) (.f "_law_next") [.ref p, .int m] S (fun v S' => (∃ r, v = .int r ∧ 0 ≤ r ∧ r < m) ∧ Sta p S' ∧ Fm p S S' ∧ S'.length = S.length) noX := by
  obtain ⟨xs, z, hp, hl, z0, z1⟩ := h
  refine call_open fn_f_law_next ⟨rfl, ?_⟩
  show wSs _ _ _ s5_f_law_next _ _ [some (.ref p), some (.int m), none] S
  simp only [s5_f_law_next, wSs, wS, wT, wEs, wO, wPs, wC, wSrc, wE_loc, wE_lit, wE_con, wE_bin, wE_neg, wE_cmp, wE_cmp2, wE_isN, wE_notN, wE_isB, wE_not, wE_and, wE_or, wE_ite, wE_tup, wE_lst, wE_dic, wE_call, wE_make, wE_meth, wE_fld, wE_sub, wE_slice, wE_bi, wE_vi, wE_bm, wE_isi, wE_lc, wE_lck, eg, es, Option.some.injEq, exists_eq_left', Lit.val, cmpW]
  refine lenW_lst (lst_at hp) ?_
  have lg : m.natAbs.log2 < 9000 := by
    have : m.natAbs.log2 ≤ 64 := by
      by_cases h0 : m.natAbs = 0
      · rw [h0]; decide
      · have := (Nat.log2_lt h0 (k := 65)).mpr (by omega)
        omega
    omega
  have hpl := lt_get hp
  cases xs with
  | nil =>
    simp only [List.map_nil, List.nil_append, List.length_cons, List.length_nil, truth, Option.some.injEq, exists_eq_left'] at hp ⊢
    rw [if_neg (by decide)]
    simp only [s4_f_law_next, wSs, wS, wT, wEs, wO, wPs, wC, wSrc, wE_loc, wE_lit, wE_con, wE_bin, wE_neg, wE_cmp, wE_cmp2, wE_isN, wE_notN, wE_isB, wE_not, wE_and, wE_or, wE_ite, wE_tup, wE_lst, wE_dic, wE_call, wE_make, wE_meth, wE_fld, wE_sub, wE_slice, wE_bi, wE_vi, wE_bm, wE_isi, wE_lc, wE_lck, eg, es, Option.some.injEq, exists_eq_left', Lit.val]
    refine subW_lst (lst_at hp) (v := .int z) ix_zero ?_
    refine bmul (mul_ok (n := 60) (m := 60) (nbs_lt z0 z1) (by decide) (by decide)) ?_
    refine badd ?_
    refine bpow ⟨by decide, by decide, by decide⟩ (bsub (bmod (by decide) ?_))
    have e61 : (2 : Int) ^ (61 : Int).toNat - 1 = 2305843009213693951 := by decide
    rw [e61]
    generalize hw : (z * 1181783497276652981 + 12345678910987) % 2305843009213693951 = w
    have w0 : 0 ≤ w := by rw [← hw]; exact Int.emod_nonneg _ (by decide)
    have w1 : w < 2305843009213693951 := by rw [← hw]; exact Int.emod_lt_of_pos _ (by decide)
    refine setW_lst (j := 0) hp rfl ?_
    have hp2 : (S.set p (.lst [.int w]))[p]? = some (.lst [.int w]) := by rw [get_set, hp]; rfl
    refine subW_lst (lst_at hp2) (v := .int w) ix_zero ?_
    refine bdiv (div_ok (n := 20) (by decide) (by decide) (by decide)) (bmod hm ?_)
    refine ⟨⟨_, rfl, Int.emod_nonneg _ (by omega), Int.emod_lt_of_pos _ hm⟩, ⟨[], w, hp2, by simp, w0, by omega⟩, Fm.own, by simp⟩
  | cons x xs =>
    simp only [List.map_cons, List.cons_append, List.length_cons, truth, Option.some.injEq, exists_eq_left'] at hp hl ⊢
    rw [if_pos (by simp; omega)]
    simp only [s3_f_law_next, wSs, wS, wT, wEs, wO, wPs, wC, wSrc, wE_loc, wE_lit, wE_con, wE_bin, wE_neg, wE_cmp, wE_cmp2, wE_isN, wE_notN, wE_isB, wE_not, wE_and, wE_or, wE_ite, wE_tup, wE_lst, wE_dic, wE_call, wE_make, wE_meth, wE_fld, wE_sub, wE_slice, wE_bi, wE_vi, wE_bm, wE_isi, wE_lc, wE_lck, eg, es, Option.some.injEq, exists_eq_left', Lit.val]
    refine subW_lst (lst_at hp) (v := .int x) ix_zero ?_
    refine bmod hm ?_
    refine subW_lst (lst_at hp) (v := .int x) ix_zero ?_
    refine bdiv ⟨hm, lg⟩ ?_
    refine setW_lst (j := 0) hp (by simp [ixN]; omega) ?_
    rw [List.set_cons_zero]
    generalize x / m = y
    have hp2 : (S.set p (.lst (.int y :: (xs.map Val.int ++ [.int z]))))[p]? = some (.lst (.int y :: (xs.map Val.int ++ [.int z]))) := by rw [get_set, hp]; rfl
    refine subW_lst (lst_at hp2) (v := .int y) ix_zero ?_
    have r1 : ∃ r, Val.int (x % m) = .int r ∧ 0 ≤ r ∧ r < m := ⟨_, rfl, Int.emod_nonneg _ (by omega), Int.emod_lt_of_pos _ hm⟩
    refine ⟨1, rfl, by rw [sizeLine_eq]; simp, ?_⟩
    simp only [cmpW, inW]
    refine ⟨rfl, rfl, _, rfl, ?_⟩
    by_cases hy : ([Val.int 0, Val.int (-1)].any fun v => feq v (.int y)) = true
    · rw [if_pos hy]
      simp only [s1_f_law_next, wSs, wS, wT, wEs, wO, wPs, wC, wSrc, wE_loc, wE_lit, wE_con, wE_bin, wE_neg, wE_cmp, wE_cmp2, wE_isN, wE_notN, wE_isB, wE_not, wE_and, wE_or, wE_ite, wE_tup, wE_lst, wE_dic, wE_call, wE_make, wE_meth, wE_fld, wE_sub, wE_slice, wE_bi, wE_vi, wE_bm, wE_isi, wE_lc, wE_lck, eg, es, Option.some.injEq, exists_eq_left', Lit.val, bmT, bmW]
      refine ⟨⟨_, _, rfl, lst_at hp2⟩, _, 0, _, hp2, by simp [ixN]; omega, by rw [sizeLine_eq]; simp; omega, rfl, ?_⟩
      simp only [s2_f_law_next, wSs, wS, wT, wEs, wO, wPs, wC, wSrc, wE_loc, wE_lit, wE_con, wE_bin, wE_neg, wE_cmp, wE_cmp2, wE_isN, wE_notN, wE_isB, wE_not, wE_and, wE_or, wE_ite, wE_tup, wE_lst, wE_dic, wE_call, wE_make, wE_meth, wE_fld, wE_sub, wE_slice, wE_bi, wE_vi, wE_bm, wE_isi, wE_lc, wE_lck, eg, es, Option.some.injEq, exists_eq_left', Lit.val]
      rw [List.set_set]
      exact ⟨r1, ⟨xs, z, by rw [get_set, hp]; rfl, by omega, z0, z1⟩, Fm.own, by simp⟩
    · rw [if_neg hy]
      simp only [s2_f_law_next, wSs, wS, wT, wEs, wO, wPs, wC, wSrc, wE_loc, wE_lit, wE_con, wE_bin, wE_neg, wE_cmp, wE_cmp2, wE_isN, wE_notN, wE_isB, wE_not, wE_and, wE_or, wE_ite, wE_tup, wE_lst, wE_dic, wE_call, wE_make, wE_meth, wE_fld, wE_sub, wE_slice, wE_bi, wE_vi, wE_bm, wE_isi, wE_lc, wE_lck, eg, es, Option.some.injEq, exists_eq_left', Lit.val]
      exact ⟨r1, ⟨y :: xs, z, hp2, by simpa using hl, z0, z1⟩, Fm.own, by simp⟩
end K08

set_option maxHeartbeats 1000000
namespace K08
open Mi PySem
/-! ### the texts of numbers -/
theorem text_pos (m : Nat) : (toString (m : Int)).toList = Nat.toDigits 10 m := by
  show (Nat.repr m).toList = _
  exact Nat.toList_repr
theorem text_neg (m : Nat) : (toString (Int.negSucc m)).toList = '-' :: Nat.toDigits 10 (m + 1) := by
  show ("-" ++ Nat.repr (m + 1)).toList = _
  rw [String.toList_append, Nat.toList_repr]
  rfl
theorem fig_mem : ∀ n : Fin 10, Char.ofNat (48 + n.val) ∈ sFIG.toList := by decide
theorem fig_of {c : Char} (h1 : 48 ≤ c.toNat) (h2 : c.toNat ≤ 57) : c ∈ sFIG.toList := by
  have := fig_mem ⟨c.toNat - 48, by omega⟩
  rw [show 48 + (c.toNat - 48) = c.toNat from by omega] at this
  rwa [Char.ofNat_toNat] at this
theorem dig_range {m : Nat} {c : Char} (h : c ∈ Nat.toDigits 10 m) : 48 ≤ c.toNat ∧ c.toNat ≤ 57 := PyProof.Rows.digit_range (Nat.isDigit_of_mem_toDigits (by decide) (by decide) h)
theorem dig_among (m : Nat) : among (Nat.toDigits 10 m) sFIG = true := by
  unfold among
  rw [List.all_eq_true]
  intro c hc
  have := dig_range hc
  exact decide_eq_true (fig_of this.1 this.2)
theorem dig_ne (m : Nat) : Nat.toDigits 10 m ≠ [] := by
  intro e
  have h := toDigits_len_ge 10 m
  rw [e] at h
  exact absurd h (by decide)
theorem dig_len {m : Nat} (h : m < 10 ^ 30) : (Nat.toDigits 10 m).length ≤ 30 := (Nat.length_toDigits_le_iff (by decide) (by decide)).mpr h
theorem dig_char : ∀ n : Fin 10, n.val ≠ 0 → Nat.digitChar n.val ≠ '0' := by decide
theorem dig_head (m : Nat) : m ≠ 0 → ∀ c r, Nat.toDigits 10 m = c :: r → c ≠ '0' := by
  induction m using Nat.strongRecOn with
  | _ m ih =>
    intro h0 c r e
    by_cases h : m < 10
    · rw [Nat.toDigits_of_lt_base h] at e
      cases e
      exact dig_char ⟨m, h⟩ h0
    · have hm : m % 10 < 10 := Nat.mod_lt m (by decide)
      have t : Nat.toDigits 10 (m / 10) ++ Nat.toDigits 10 (m % 10) = Nat.toDigits 10 (10 * (m / 10) + m % 10) := Nat.toDigits_append_toDigits (by decide) (by omega) hm
      rw [Nat.div_add_mod, e] at t
      cases e2 : Nat.toDigits 10 (m / 10) with
      | nil => exact absurd e2 (dig_ne _)
      | cons c2 r2 =>
        rw [e2] at t
        injection t with t1 t2
        rw [← t1]
        exact ih (m / 10) (by omega) (by omega) c2 r2 e2
theorem dig_all (m : Nat) : NumText.AllDigits ((Nat.toDigits 10 m).map Char.toNat) := by
  intro c hc
  obtain ⟨ch, h, e⟩ := List.mem_map.mp hc
  rw [← e]
  exact dig_range h
theorem minus_sing : "-" = String.singleton '-' := by decide
theorem numB_ok {i : Int} (h : i.natAbs < 10 ^ 30) : numB (toString i) = true ∧ PySem.intText? (Str.ofString (toString i)) = some i ∧ (toString i).length ≤ 31 ∧ (∀ c ∈ (toString i).toList, c = '-' ∨ (48 ≤ c.toNat ∧ c.toNat ≤ 57)) ∧ (toString i).toList ≠ [] := by
  cases i with
  | ofNat m =>
    have h : m < 10 ^ 30 := h
    have e := text_pos m
    have hl := dig_len h
    have hsz : (toString (m : Int)).length = (Nat.toDigits 10 m).length := by rw [← String.length_toList, e]
    show numB (toString (m : Int)) = true ∧ PySem.intText? (Str.ofString (toString (m : Int))) = some (m : Int) ∧ (toString (m : Int)).length ≤ 31 ∧ (∀ c ∈ (toString (m : Int)).toList, c = '-' ∨ (48 ≤ c.toNat ∧ c.toNat ≤ 57)) ∧ (toString (m : Int)).toList ≠ []
    refine ⟨?_, ?_, by omega, ?_, by rw [e]; exact dig_ne m⟩
    · have hf : figs (toString (m : Int)) = Nat.toDigits 10 m := by
        unfold figs
        rw [minus_sing, starts1, e, if_neg]
        cases e2 : Nat.toDigits 10 m with
        | nil => simp
        | cons c r =>
          have := dig_range (m := m) (c := c) (by rw [e2]; simp)
          simp only [List.head?_cons, Option.some.injEq, decide_eq_true_eq]
          rintro rfl
          revert this
          decide
      unfold numB
      rw [hf, dig_among]
      cases e2 : Nat.toDigits 10 m with
      | nil => exact absurd e2 (dig_ne m)
      | cons c r =>
        rw [e2] at hl
        have h1 : 1 ≤ (c :: r).length := by simp
        by_cases hm : m = 0
        · subst hm
          have : toString ((0 : Nat) : Int) = "0" := by decide +kernel
          rw [this]
          simp [h1, hl] <;> simpa using hl
        · have := dig_head m hm c r e2
          simp only [h1, hl, decide_true, Bool.and_true, Bool.true_and, Bool.or_eq_true, decide_eq_true_eq]
          exact .inl this
    · have e3 : (Str.ofString (toString (m : Int))).cps.toList = (Nat.toDigits 10 m).map Char.toNat := by rw [cps_ofString, e]
      have := PySem.intText_digits (x := Str.ofString (toString (m : Int))) (by rw [e3]; exact dig_all m) (by rw [e3]; simpa using dig_ne m) (by rw [len_ofString]; omega)
      rw [e3, PySem.W.KIN.val_back] at this
      exact this
    · intro c hc
      rw [e] at hc
      exact .inr (dig_range hc)
  | negSucc m =>
    have h : m + 1 < 10 ^ 30 := h
    have e := text_neg m
    have hl := dig_len h
    have hsz : (toString (Int.negSucc m)).length = (Nat.toDigits 10 (m + 1)).length + 1 := by rw [← String.length_toList, e]; rfl
    refine ⟨?_, ?_, by omega, ?_, by rw [e]; simp⟩
    · have hf : figs (toString (Int.negSucc m)) = Nat.toDigits 10 (m + 1) := by
        unfold figs
        rw [minus_sing, starts1, e, if_pos (by simp)]
        rfl
      unfold numB
      rw [hf, dig_among]
      cases e2 : Nat.toDigits 10 (m + 1) with
      | nil => exact absurd e2 (dig_ne _)
      | cons c r =>
        rw [e2] at hl
        have h1 : 1 ≤ (c :: r).length := by simp
        have := dig_head (m + 1) (by omega) c r e2
        simp only [h1, hl, decide_true, Bool.and_true, Bool.true_and, Bool.or_eq_true, decide_eq_true_eq]
        exact .inl this
    · have e3 : (Str.ofString (toString (Int.negSucc m))).cps.toList = 45 :: (Nat.toDigits 10 (m + 1)).map Char.toNat := by rw [cps_ofString, e]; rfl
      have := PySem.intText_neg (x := Str.ofString (toString (Int.negSucc m))) e3 (dig_all _) (by simpa using dig_ne _) (by rw [len_ofString]; omega)
      rw [PySem.W.KIN.val_back] at this
      rw [this]
      congr 1
    · intro c hc
      rw [e] at hc
      rcases List.mem_cons.mp hc with z | z
      · exact .inl z
      · exact .inr (dig_range z)
end K08

set_option maxHeartbeats 1000000
namespace K08
open Mi PySem
theorem pick {S : Hm} {n : Nat} {xs : List Val} {r : Int} {Q : Post} (h : S[n]? = some (.lst xs)) (h0 : 0 ≤ r) (h1 : r < xs.length) (hq : ∀ v ∈ xs, Q v S) : subW (.ref n) (.int r) S Q := by
  obtain ⟨j, rfl⟩ := Int.eq_ofNat_of_zero_le h0
  have hj : j < xs.length := by omega
  exact subW_lst (lst_at h) (ix_nat (List.getElem?_eq_getElem hj)) (hq _ (List.getElem_mem hj))
theorem sign {w : String} {S : Hm} {r : Int} {Q : Post} (hl : w.length ≤ 10 ^ 4) (h0 : 0 ≤ r) (h1 : r < w.length) (hq : ∀ c ∈ w.toList, Q (.str (String.singleton c)) S) : subW (.str w) (.int r) S Q := by
  obtain ⟨j, rfl⟩ := Int.eq_ofNat_of_zero_le h0
  have hj : j < w.toList.length := by rw [String.length_toList]; omega
  exact ⟨by rw [sizeLine_eq]; omega, w.toList[j], ix_nat (List.getElem?_eq_getElem hj), hq _ (List.getElem_mem hj)⟩
theorem among_app {l m : List Char} {g : String} : among (l ++ m) g = (among l g && among m g) := by unfold among; rw [List.all_append]
theorem len_sing {c : Char} : (String.singleton c).length = 1 := by rw [← String.length_toList, String.toList_singleton]; rfl
theorem letters_ok {k p : Nat} {n : Int} {S : Hm} (h : Sta p S) (h0 : 0 ≤ n) (h1 : n ≤ 100) : callW P (k + 2) (.f "_law_letters") [.ref p, .int n] S (fun v S' => (∃ w, v = .str w ∧ (w.length : Int) = n ∧ among w.toList sSMALL = true) ∧ Sta p S' ∧ Fm p S S') noX := by
  refine call_open (k := k + 1) fn_f_law_letters ⟨rfl, ?_⟩
  show wSs _ _ _ s3_f_law_letters _ _ [some (.ref p), some (.int n), none, none] S
  simp only [s3_f_law_letters, wSs, wS, wT, wEs, wO, wPs, wC, wSrc, wE_loc, wE_lit, wE_con, wE_bin, wE_neg, wE_cmp, wE_cmp2, wE_isN, wE_notN, wE_isB, wE_not, wE_and, wE_or, wE_ite, wE_tup, wE_lst, wE_dic, wE_call, wE_make, wE_meth, wE_fld, wE_sub, wE_slice, wE_bi, wE_vi, wE_bm, wE_isi, wE_lc, wE_lck, eg, es, Option.some.injEq, exists_eq_left', Lit.val]
  refine ⟨n, rfl, ⟨by omega, by omega⟩, ?_⟩
  refine for_inv (callW_mono P _) (fun i env S' => ∃ w x3, env = [some (.ref p), some (.int n), some (.str w), x3] ∧ w.length = i ∧ among w.toList sSMALL = true ∧ Sta p S' ∧ Fm p S S') ?_ ?_ ⟨"", _, rfl, rfl, by decide, h, Fm.refl _ _⟩
  · rintro i v env S' hi ⟨w, x3, rfl, q1, q2, q3, q4⟩
    obtain ⟨hi, rfl⟩ := rng_get hi
    refine ⟨trivial, ?_⟩
    simp only [tgW, s1_f_law_letters, wSs, wS, wT, wEs, wO, wPs, wC, wSrc, wE_loc, wE_lit, wE_con, wE_bin, wE_neg, wE_cmp, wE_cmp2, wE_isN, wE_notN, wE_isB, wE_not, wE_and, wE_or, wE_ite, wE_tup, wE_lst, wE_dic, wE_call, wE_make, wE_meth, wE_fld, wE_sub, wE_slice, wE_bi, wE_vi, wE_bm, wE_isi, wE_lc, wE_lck, eg, es, Option.some.injEq, exists_eq_left', Lit.val]
    refine call_use (next_ok (k := k) q3 (by decide) (by decide)) ?_
    rintro _ S2 ⟨⟨r, rfl, a, b⟩, p2, f2, _⟩
    refine sign (by decide) a (by exact b) fun c hc => ?_
    simp only [ibinW]
    refine ⟨by rw [sizeLine_eq, q1, len_sing]; omega, _, _, rfl, by rw [String.length_append, q1, len_sing], ?_, p2, q4.trans f2⟩
    rw [String.toList_append, among_app, q2, String.toList_singleton]
    unfold among
    simp only [List.all_cons, List.all_nil, Bool.and_true, Bool.true_and, decide_eq_true_eq]
    exact hc
  · rintro env S' ⟨w, x3, rfl, q1, q2, q3, q4⟩
    refine ⟨trivial, ?_⟩
    rw [rangeL_len] at q1
    simp only [s2_f_law_letters, wSs, wS, wT, wEs, wO, wPs, wC, wSrc, wE_loc, wE_lit, wE_con, wE_bin, wE_neg, wE_cmp, wE_cmp2, wE_isN, wE_notN, wE_isB, wE_not, wE_and, wE_or, wE_ite, wE_tup, wE_lst, wE_dic, wE_call, wE_make, wE_meth, wE_fld, wE_sub, wE_slice, wE_bi, wE_vi, wE_bm, wE_isi, wE_lc, wE_lck, eg, es, Option.some.injEq, exists_eq_left', Lit.val]
    exact ⟨⟨w, rfl, by omega, q2⟩, q3, q4⟩
theorem kept_ok {k : Nat} {S : Hm} : callW P (k + 1) (.f "_law_kept") [] S (fun v S' => v = .ref S.length ∧ S' = S ++ [.lst (keptL.map .str)]) noX := by
  refine call_open fn_f_law_kept ⟨rfl, ?_⟩
  show wSs _ _ _ s1_f_law_kept _ _ [none] S
  simp only [s1_f_law_kept, wSs, wS, wT, wEs, wO, wPs, wC, wSrc, wE_loc, wE_lit, wE_con, wE_bin, wE_neg, wE_cmp, wE_cmp2, wE_isN, wE_notN, wE_isB, wE_not, wE_and, wE_or, wE_ite, wE_tup, wE_lst, wE_dic, wE_call, wE_make, wE_meth, wE_fld, wE_sub, wE_slice, wE_bi, wE_vi, wE_bm, wE_isi, wE_lc, wE_lck, eg, es, Option.some.injEq, exists_eq_left', Lit.val]
  refine saddW (by rw [sizeLine_eq]; decide) ?_
  simp only [bmT, bmW]
  refine ⟨⟨_, rfl⟩, keptL, ?_, by decide, by rw [sizeLine_eq]; decide, trivial, rfl⟩
  rw [show "num fun call let ring case make pick plus minus times less if kind record face" ++ " hide val part maker apply main" = sKEPT from by decide +kernel]
  exact split_kept
theorem keptq : ∀ w ∈ keptL, small (w ++ "q") = true := by rw [keptL_eq]; decide +kernel
theorem keptq_len : ∀ w ∈ keptL, w.length ≤ 8 := by rw [keptL_eq]; decide +kernel
theorem letters_of {w : String} (h1 : 1 ≤ w.length) (h2 : w.length ≤ 8) (h : among w.toList sSMALL = true) : letters w = true := by unfold letters; rw [h]; simp [h1, h2]
theorem small_ok {k p : Nat} {S : Hm} (h : Sta p S) : callW P (k + 3) (.f "_law_small") [.ref p] S (fun v S' => (∃ w, v = .str w ∧ small w = true ∧ w.length ≤ 9) ∧ Sta p S' ∧ Fm p S S') noX := by
  refine call_open (k := k + 2) fn_f_law_small ⟨rfl, ?_⟩
  show wSs _ _ _ s4_f_law_small _ _ [some (.ref p), none] S
  simp only [s4_f_law_small, wSs, wS, wT, wEs, wO, wPs, wC, wSrc, wE_loc, wE_lit, wE_con, wE_bin, wE_neg, wE_cmp, wE_cmp2, wE_isN, wE_notN, wE_isB, wE_not, wE_and, wE_or, wE_ite, wE_tup, wE_lst, wE_dic, wE_call, wE_make, wE_meth, wE_fld, wE_sub, wE_slice, wE_bi, wE_vi, wE_bm, wE_isi, wE_lc, wE_lck, eg, es, Option.some.injEq, exists_eq_left', Lit.val]
  refine call_use (next_ok (k := k + 1) h (by decide) (by decide)) ?_
  rintro _ S1 ⟨⟨r, rfl, a, b⟩, p1, f1, _⟩
  refine badd ?_
  refine call_use (letters_ok (k := k) p1 (by omega) (by omega)) ?_
  rintro _ S2 ⟨⟨w, rfl, wl, wa⟩, p2, f2⟩
  simp only [s3_f_law_small, wSs, wS, wT, wEs, wO, wPs, wC, wSrc, wE_loc, wE_lit, wE_con, wE_bin, wE_neg, wE_cmp, wE_cmp2, wE_isN, wE_notN, wE_isB, wE_not, wE_and, wE_or, wE_ite, wE_tup, wE_lst, wE_dic, wE_call, wE_make, wE_meth, wE_fld, wE_sub, wE_slice, wE_bi, wE_vi, wE_bm, wE_isi, wE_lc, wE_lck, eg, es, Option.some.injEq, exists_eq_left', Lit.val]
  refine call_use (kept_ok (k := k + 1)) ?_
  rintro _ S3 ⟨rfl, rfl⟩
  have p3 := p2.app [.lst (keptL.map .str)]
  have f3 := (f1.trans f2).trans (Fm.app (p := p) [Ob.lst (keptL.map .str)])
  simp only [cmpW]
  refine .inl ⟨_, lst_at get_new, .inl ⟨rfl, flat_strs _, ?_⟩⟩
  rw [any_str]
  refine ⟨_, rfl, ?_⟩
  by_cases hm : w ∈ keptL
  · rw [if_pos (decide_eq_true hm)]
    simp only [s1_f_law_small, wSs, wS, wT, wEs, wO, wPs, wC, wSrc, wE_loc, wE_lit, wE_con, wE_bin, wE_neg, wE_cmp, wE_cmp2, wE_isN, wE_notN, wE_isB, wE_not, wE_and, wE_or, wE_ite, wE_tup, wE_lst, wE_dic, wE_call, wE_make, wE_meth, wE_fld, wE_sub, wE_slice, wE_bi, wE_vi, wE_bm, wE_isi, wE_lc, wE_lck, eg, es, Option.some.injEq, exists_eq_left', Lit.val]
    have := keptq_len w hm
    refine saddW (by rw [sizeLine_eq, show "q".length = 1 from rfl]; omega) ⟨⟨_, rfl, keptq w hm, by rw [String.length_append, show "q".length = 1 from rfl]; omega⟩, p3, f3⟩
  · rw [if_neg (by simpa using hm)]
    simp only [s2_f_law_small, wSs, wS, wT, wEs, wO, wPs, wC, wSrc, wE_loc, wE_lit, wE_con, wE_bin, wE_neg, wE_cmp, wE_cmp2, wE_isN, wE_notN, wE_isB, wE_not, wE_and, wE_or, wE_ite, wE_tup, wE_lst, wE_dic, wE_call, wE_make, wE_meth, wE_fld, wE_sub, wE_slice, wE_bi, wE_vi, wE_bm, wE_isi, wE_lc, wE_lck, eg, es, Option.some.injEq, exists_eq_left', Lit.val]
    refine ⟨⟨w, rfl, ?_, by omega⟩, p3, f3⟩
    unfold small
    rw [letters_of (by omega) (by omega) wa]
    simp [hm]
theorem great_ok {k p : Nat} {S : Hm} (h : Sta p S) : callW P (k + 3) (.f "_law_great") [.ref p] S (fun v S' => (∃ w, v = .str w ∧ great w = true ∧ w.length ≤ 8) ∧ Sta p S' ∧ Fm p S S') noX := by
  refine call_open (k := k + 2) fn_f_law_great ⟨rfl, ?_⟩
  show wSs _ _ _ s2_f_law_great _ _ [some (.ref p), none] S
  simp only [s2_f_law_great, wSs, wS, wT, wEs, wO, wPs, wC, wSrc, wE_loc, wE_lit, wE_con, wE_bin, wE_neg, wE_cmp, wE_cmp2, wE_isN, wE_notN, wE_isB, wE_not, wE_and, wE_or, wE_ite, wE_tup, wE_lst, wE_dic, wE_call, wE_make, wE_meth, wE_fld, wE_sub, wE_slice, wE_bi, wE_vi, wE_bm, wE_isi, wE_lc, wE_lck, eg, es, Option.some.injEq, exists_eq_left', Lit.val]
  refine call_use (next_ok (k := k + 1) h (by decide) (by decide)) ?_
  rintro _ S1 ⟨⟨r, rfl, a, b⟩, p1, f1, _⟩
  refine sign (by decide) a (by exact b) fun c hc => ?_
  simp only [s1_f_law_great, wSs, wS, wT, wEs, wO, wPs, wC, wSrc, wE_loc, wE_lit, wE_con, wE_bin, wE_neg, wE_cmp, wE_cmp2, wE_isN, wE_notN, wE_isB, wE_not, wE_and, wE_or, wE_ite, wE_tup, wE_lst, wE_dic, wE_call, wE_make, wE_meth, wE_fld, wE_sub, wE_slice, wE_bi, wE_vi, wE_bm, wE_isi, wE_lc, wE_lck, eg, es, Option.some.injEq, exists_eq_left', Lit.val]
  refine call_use (next_ok (k := k + 1) p1 (by decide) (by decide)) ?_
  rintro _ S2 ⟨⟨r2, rfl, a2, b2⟩, p2, f2, _⟩
  refine call_use (letters_ok (k := k) p2 (by omega) (by omega)) ?_
  rintro _ S3 ⟨⟨w, rfl, wl, wa⟩, p3, f3⟩
  refine saddW (by rw [sizeLine_eq, len_sing]; omega) ⟨⟨_, rfl, ?_, by rw [String.length_append, len_sing]; omega⟩, p3, f1.trans (f2.trans f3)⟩
  unfold great
  rw [String.length_append, len_sing, String.toList_append, String.toList_singleton]
  simp only [List.cons_append, List.nil_append, wa]
  simp [hc]
  omega
theorem nodot {l : List Char} {g : String} (hg : '.' ∉ g.toList) (h : among l g = true) : '.' ∉ l := by
  intro hc
  unfold among at h
  rw [List.all_eq_true] at h
  exact hg (by simpa using h '.' hc)
theorem great_parts {w : String} (h : great w = true) : ∃ c r, w.toList = c :: r ∧ c ∈ sGREAT.toList ∧ among r sSMALL = true ∧ 1 ≤ w.length ∧ w.length ≤ 8 := by
  unfold great at h
  cases e : w.toList with
  | nil => rw [e] at h; simp at h
  | cons c r =>
    rw [e] at h
    simp only [Bool.and_eq_true, decide_eq_true_eq] at h
    exact ⟨c, r, rfl, h.2.1, h.2.2, h.1.1, h.1.2⟩
theorem great_nodot {w : String} (h : great w = true) : '.' ∉ w.toList := by
  obtain ⟨c, r, e, h1, h2, _⟩ := great_parts h
  rw [e]
  intro hc
  rcases List.mem_cons.mp hc with z | z
  · rw [← z] at h1; revert h1; decide
  · exact nodot (by decide) h2 z
theorem letters_among {w : String} (h : letters w = true) : among w.toList sSMALL = true ∧ 1 ≤ w.length ∧ w.length ≤ 8 := by
  unfold letters at h
  simp only [Bool.and_eq_true, decide_eq_true_eq] at h
  exact ⟨h.2, h.1.1, h.1.2⟩
theorem small_letters {w : String} (h : small w = true) : letters w = true := by
  unfold small at h
  simp only [Bool.and_eq_true] at h
  exact h.1
theorem small_nodot {w : String} (h : small w = true) : '.' ∉ w.toList := nodot (by decide) (letters_among (small_letters h)).1
theorem path_of {g w : String} (hg : great g = true) (hw : small w = true) : path (g ++ "." ++ w) = true := by
  unfold path
  have : (g ++ "." ++ w).toList = g.toList ++ '.' :: w.toList := by
    rw [String.toList_append, String.toList_append]
    simp [show ".".toList = ['.'] from by decide]
  rw [this, splitC_at (great_nodot hg), splitC_none (small_nodot hw)]
  simp only [List.map_cons, List.map_nil, String.ofList_toList, hg, hw, Bool.and_self]
theorem path_nodot {w : String} (h : '.' ∉ w.toList) : path w = false := by
  unfold path
  rw [splitC_none h]
  rfl
theorem path_ok {k p : Nat} {S : Hm} (h : Sta p S) : callW P (k + 4) (.f "_law_path") [.ref p] S (fun v S' => (∃ g w, v = .str (g ++ "." ++ w) ∧ great g = true ∧ small w = true ∧ g.length ≤ 8 ∧ w.length ≤ 9) ∧ Sta p S' ∧ Fm p S S') noX := by
  refine call_open (k := k + 3) fn_f_law_path ⟨rfl, ?_⟩
  show wSs _ _ _ s2_f_law_path _ _ [some (.ref p), none] S
  simp only [s2_f_law_path, wSs, wS, wT, wEs, wO, wPs, wC, wSrc, wE_loc, wE_lit, wE_con, wE_bin, wE_neg, wE_cmp, wE_cmp2, wE_isN, wE_notN, wE_isB, wE_not, wE_and, wE_or, wE_ite, wE_tup, wE_lst, wE_dic, wE_call, wE_make, wE_meth, wE_fld, wE_sub, wE_slice, wE_bi, wE_vi, wE_bm, wE_isi, wE_lc, wE_lck, eg, es, Option.some.injEq, exists_eq_left', Lit.val]
  refine call_use (great_ok (k := k) h) ?_
  rintro _ S1 ⟨⟨g, rfl, hg, gl⟩, p1, f1⟩
  simp only [s1_f_law_path, wSs, wS, wT, wEs, wO, wPs, wC, wSrc, wE_loc, wE_lit, wE_con, wE_bin, wE_neg, wE_cmp, wE_cmp2, wE_isN, wE_notN, wE_isB, wE_not, wE_and, wE_or, wE_ite, wE_tup, wE_lst, wE_dic, wE_call, wE_make, wE_meth, wE_fld, wE_sub, wE_slice, wE_bi, wE_vi, wE_bm, wE_isi, wE_lc, wE_lck, eg, es, Option.some.injEq, exists_eq_left', Lit.val]
  have d1 : ".".length = 1 := rfl
  refine saddW (by rw [sizeLine_eq, d1]; omega) ?_
  refine call_use (small_ok (k := k) p1) ?_
  rintro _ S2 ⟨⟨w, rfl, hw, wl⟩, p2, f2⟩
  refine saddW (by rw [sizeLine_eq, String.length_append, d1]; omega) ⟨⟨g, w, rfl, hg, hw, gl, wl⟩, p2, f1.trans f2⟩
theorem vari_of {w : String} (h : letters w = true) : vari ("?" ++ w) = true := by
  unfold vari
  have e : ("?" ++ w).toList = '?' :: w.toList := by rw [String.toList_append]; rfl
  have : qv ("?" ++ w) = true := by
    unfold qv Txt.startswith
    rw [StrLaws.subAt_eq, len_ofString, len_ofString, cps_ofString, cps_ofString]
    have h1 : "?".length = 1 := by decide
    have h2 : "?".toList = ['?'] := by decide
    rw [e, h1, h2, String.length_append, h1]
    simp
  rw [this, e]
  simpa using h
theorem variable_ok {k p : Nat} {S : Hm} (h : Sta p S) : callW P (k + 3) (.f "_law_variable") [.ref p] S (fun v S' => (∃ w, v = .str ("?" ++ w) ∧ letters w = true) ∧ Sta p S' ∧ Fm p S S') noX := by
  refine call_open (k := k + 2) fn_f_law_variable ⟨rfl, ?_⟩
  show wSs _ _ _ s1_f_law_variable _ _ [some (.ref p)] S
  simp only [s1_f_law_variable, wSs, wS, wT, wEs, wO, wPs, wC, wSrc, wE_loc, wE_lit, wE_con, wE_bin, wE_neg, wE_cmp, wE_cmp2, wE_isN, wE_notN, wE_isB, wE_not, wE_and, wE_or, wE_ite, wE_tup, wE_lst, wE_dic, wE_call, wE_make, wE_meth, wE_fld, wE_sub, wE_slice, wE_bi, wE_vi, wE_bm, wE_isi, wE_lc, wE_lck, eg, es, Option.some.injEq, exists_eq_left', Lit.val]
  refine call_use (next_ok (k := k + 1) h (by decide) (by decide)) ?_
  rintro _ S1 ⟨⟨r, rfl, a, b⟩, p1, f1, _⟩
  refine badd ?_
  refine call_use (letters_ok (k := k) p1 (by omega) (by omega)) ?_
  rintro _ S2 ⟨⟨w, rfl, wl, wa⟩, p2, f2⟩
  have d1 : "?".length = 1 := rfl
  exact saddW (by rw [sizeLine_eq, d1]; omega) ⟨⟨w, rfl, letters_of (by omega) (by omega) wa⟩, p2, f1.trans f2⟩
theorem number_ok {k p : Nat} {S : Hm} (h : Sta p S) : callW P (k + 2) (.f "_law_number") [.ref p] S (fun v S' => (∃ i : Int, v = .int i ∧ i.natAbs < 10 ^ 30) ∧ Sta p S' ∧ Fm p S S') noX := by
  refine call_open (k := k + 1) fn_f_law_number ⟨rfl, ?_⟩
  show wSs _ _ _ s7_f_law_number _ _ [some (.ref p), none, none] S
  simp only [s7_f_law_number, wSs, wS, wT, wEs, wO, wPs, wC, wSrc, wE_loc, wE_lit, wE_con, wE_bin, wE_neg, wE_cmp, wE_cmp2, wE_isN, wE_notN, wE_isB, wE_not, wE_and, wE_or, wE_ite, wE_tup, wE_lst, wE_dic, wE_call, wE_make, wE_meth, wE_fld, wE_sub, wE_slice, wE_bi, wE_vi, wE_bm, wE_isi, wE_lc, wE_lck, eg, es, Option.some.injEq, exists_eq_left', Lit.val]
  refine call_use (next_ok (k := k) h (by decide) (by decide)) ?_
  rintro _ S1 ⟨⟨r, rfl, a, b⟩, p1, f1, _⟩
  simp only [s6_f_law_number, wSs, wS, wT, wEs, wO, wPs, wC, wSrc, wE_loc, wE_lit, wE_con, wE_bin, wE_neg, wE_cmp, wE_cmp2, wE_isN, wE_notN, wE_isB, wE_not, wE_and, wE_or, wE_ite, wE_tup, wE_lst, wE_dic, wE_call, wE_make, wE_meth, wE_fld, wE_sub, wE_slice, wE_bi, wE_vi, wE_bm, wE_isi, wE_lc, wE_lck, eg, es, Option.some.injEq, exists_eq_left', Lit.val]
  refine call_use (next_ok (k := k) p1 (by decide) (by decide)) ?_
  rintro _ S2 ⟨⟨r2, rfl, a2, b2⟩, p2, f2, _⟩
  have fin : ∀ (S3 : Hm) (n : Int) (x2 : Option Val), n.natAbs < 10 ^ 30 → Sta p S3 → Fm p S S3 → wSs P.con P.sub (callW P (k + 1)) s5_f_law_number (fun c x S' => noX c S') { nx := fun _ S' => (∃ i : Int, Val.non = .int i ∧ i.natAbs < 10 ^ 30) ∧ Sta p S' ∧ Fm p S S', rt := fun v S' => (∃ i : Int, v = .int i ∧ i.natAbs < 10 ^ 30) ∧ Sta p S' ∧ Fm p S S' } [some (.ref p), some (.int n), x2] S3 := by
    intro S3 n x2 hn p3 f3
    simp only [s5_f_law_number, wSs, wS, wT, wEs, wO, wPs, wC, wSrc, wE_loc, wE_lit, wE_con, wE_bin, wE_neg, wE_cmp, wE_cmp2, wE_isN, wE_notN, wE_isB, wE_not, wE_and, wE_or, wE_ite, wE_tup, wE_lst, wE_dic, wE_call, wE_make, wE_meth, wE_fld, wE_sub, wE_slice, wE_bi, wE_vi, wE_bm, wE_isi, wE_lc, wE_lck, eg, es, Option.some.injEq, exists_eq_left', Lit.val]
    refine call_use (next_ok (k := k) p3 (by decide) (by decide)) ?_
    rintro _ S4 ⟨⟨r4, rfl, a4, b4⟩, p4, f4, _⟩
    simp only [cmpW, eqW_int, truth, Option.some.injEq, exists_eq_left']
    by_cases hr : r4 = 0
    · rw [if_pos (decide_eq_true hr)]
      simp only [s3_f_law_number, wSs, wS, wT, wEs, wO, wPs, wC, wSrc, wE_loc, wE_lit, wE_con, wE_bin, wE_neg, wE_cmp, wE_cmp2, wE_isN, wE_notN, wE_isB, wE_not, wE_and, wE_or, wE_ite, wE_tup, wE_lst, wE_dic, wE_call, wE_make, wE_meth, wE_fld, wE_sub, wE_slice, wE_bi, wE_vi, wE_bm, wE_isi, wE_lc, wE_lck, eg, es, Option.some.injEq, exists_eq_left', Lit.val]
      exact ⟨n, rfl, ⟨_, rfl, by rw [Int.natAbs_neg]; exact hn⟩, p4, f3.trans f4⟩
    · rw [if_neg (by simpa using hr)]
      simp only [s4_f_law_number, wSs, wS, wT, wEs, wO, wPs, wC, wSrc, wE_loc, wE_lit, wE_con, wE_bin, wE_neg, wE_cmp, wE_cmp2, wE_isN, wE_notN, wE_isB, wE_not, wE_and, wE_or, wE_ite, wE_tup, wE_lst, wE_dic, wE_call, wE_make, wE_meth, wE_fld, wE_sub, wE_slice, wE_bi, wE_vi, wE_bm, wE_isi, wE_lc, wE_lck, eg, es, Option.some.injEq, exists_eq_left', Lit.val]
      exact ⟨⟨_, rfl, hn⟩, p4, f3.trans f4⟩
  simp only [cmpW, eqW_int, truth, Option.some.injEq, exists_eq_left']
  by_cases hr : r2 = 0
  · rw [if_pos (decide_eq_true hr)]
    simp only [s2_f_law_number, wSs, wS, wT, wEs, wO, wPs, wC, wSrc, wE_loc, wE_lit, wE_con, wE_bin, wE_neg, wE_cmp, wE_cmp2, wE_isN, wE_notN, wE_isB, wE_not, wE_and, wE_or, wE_ite, wE_tup, wE_lst, wE_dic, wE_call, wE_make, wE_meth, wE_fld, wE_sub, wE_slice, wE_bi, wE_vi, wE_bm, wE_isi, wE_lc, wE_lck, eg, es, Option.some.injEq, exists_eq_left', Lit.val]
    refine call_use (next_ok (k := k) p2 (by decide) (by decide)) ?_
    rintro _ S3 ⟨⟨r3, rfl, a3, b3⟩, p3, f3, _⟩
    refine ⟨r3, rfl, ⟨by omega, by omega⟩, ?_⟩
    refine for_inv (callW_mono P _) (fun i env S' => ∃ (n : Int) (x2 : Option Val), env = [some (.ref p), some (.int n), x2] ∧ 0 ≤ n ∧ n < 10 ^ (i + 1) ∧ Sta p S' ∧ Fm p S S') ?_ ?_ ⟨r, _, rfl, a, by simpa using b, p3, f1.trans (f2.trans f3)⟩
    · rintro i v env S' hi ⟨n, x2, rfl, q0, q1, q2, q3⟩
      obtain ⟨hi, rfl⟩ := rng_get hi
      refine ⟨trivial, ?_⟩
      simp only [tgW, s1_f_law_number, wSs, wS, wT, wEs, wO, wPs, wC, wSrc, wE_loc, wE_lit, wE_con, wE_bin, wE_neg, wE_cmp, wE_cmp2, wE_isN, wE_notN, wE_isB, wE_not, wE_and, wE_or, wE_ite, wE_tup, wE_lst, wE_dic, wE_call, wE_make, wE_meth, wE_fld, wE_sub, wE_slice, wE_bi, wE_vi, wE_bm, wE_isi, wE_lc, wE_lck, eg, es, Option.some.injEq, exists_eq_left', Lit.val]
      have hn : n < 10 ^ 40 := by
        have h1 : (10 : Nat) ^ (i + 1) ≤ 10 ^ 40 := Nat.pow_le_pow_right (by decide) (by omega)
        have h2 : (10 : Int) ^ (i + 1) = ((10 ^ (i + 1) : Nat) : Int) := by push_cast; rfl
        omega
      refine bmul (mul_ok (n := 133) (m := 4) (nbs_lt q0 (by omega)) (by decide) (by decide)) ?_
      refine call_use (next_ok (k := k) q2 (by decide) (by decide)) ?_
      rintro _ S4 ⟨⟨r4, rfl, a4, b4⟩, p4, f4, _⟩
      refine badd ⟨_, _, rfl, by omega, ?_, p4, q3.trans f4⟩
      rw [Int.pow_succ]
      omega
    · rintro env S' ⟨n, x2, rfl, q0, q1, q2, q3⟩
      refine ⟨trivial, fin S' n x2 ?_ q2 q3⟩
      rw [rangeL_len] at q1
      have h1 : (10 : Nat) ^ (r3.toNat + 1) ≤ 10 ^ 30 := Nat.pow_le_pow_right (by decide) (by omega)
      have h2 : (10 : Int) ^ (r3.toNat + 1) = ((10 ^ (r3.toNat + 1) : Nat) : Int) := by push_cast; rfl
      omega
  · rw [if_neg (by simpa using hr)]
    exact fin S2 r none (by omega) p2 (f1.trans f2)
end K08

set_option maxHeartbeats 1000000
namespace K08
open Mi PySem
/-! ### words and the atoms they tell -/
abbrev sSTOP : String := " \n()"
/-- a run of signs that no stop cuts -/
def runW (s : String) : Prop := s.toList ≠ [] ∧ ∀ c ∈ s.toList, c ∉ sSTOP.toList
inductive Tx : String → Prop where
  | letters {w : String} (h : letters w = true) : Tx w
  | great {w : String} (h : great w = true) : Tx w
  | path {g w : String} (h : great g = true) (h2 : small w = true) : Tx (g ++ "." ++ w)
  | vari {w : String} (h : letters w = true) : Tx ("?" ++ w)
  | arrow : Tx "->"
inductive Atm : Val → String → Prop where
  | num {i : Int} (h : i.natAbs < 10 ^ 30) : Atm (.int i) (toString i)
  | word {w : String} (h : Tx w) : Atm (.str w) w
theorem nostop {l : List Char} {g : String} (hg : ∀ c ∈ g.toList, c ∉ sSTOP.toList) (h : among l g = true) : ∀ c ∈ l, c ∉ sSTOP.toList := by
  intro c hc
  unfold among at h
  rw [List.all_eq_true] at h
  exact hg c (by simpa using h c hc)
theorem small_nostop : ∀ c ∈ sSMALL.toList, c ∉ sSTOP.toList := by decide +kernel
theorem great_nostop : ∀ c ∈ sGREAT.toList, c ∉ sSTOP.toList := by decide +kernel
theorem ne_of {w : String} (h : 1 ≤ w.length) : w.toList ≠ [] := by
  intro e
  rw [← String.length_toList, e] at h
  exact absurd h (by decide)
theorem letters_runW {w : String} (h : letters w = true) : runW w := by
  obtain ⟨h1, h2, h3⟩ := letters_among h
  exact ⟨ne_of h2, nostop small_nostop h1⟩
theorem great_runW {w : String} (h : great w = true) : runW w := by
  obtain ⟨c, r, e, h1, h2, h3, h4⟩ := great_parts h
  refine ⟨ne_of h3, ?_⟩
  rw [e]
  intro x hx
  rcases List.mem_cons.mp hx with rfl | hx
  · exact great_nostop _ h1
  · exact nostop small_nostop h2 x hx
theorem app_runW {a b : String} (h : runW a) (h2 : ∀ c ∈ b.toList, c ∉ sSTOP.toList) : runW (a ++ b) := by
  refine ⟨by rw [String.toList_append]; intro e; exact h.1 (List.append_eq_nil_iff.mp e).1, ?_⟩
  rw [String.toList_append]
  intro c hc
  rcases List.mem_append.mp hc with hc | hc
  · exact h.2 c hc
  · exact h2 c hc
theorem Tx.runW {w : String} (h : Tx w) : runW w := by
  cases h with
  | letters h => exact letters_runW h
  | great h => exact great_runW h
  | path h h2 => exact app_runW (app_runW (great_runW h) (by decide)) (letters_runW (small_letters h2)).2
  | vari h => exact app_runW (a := "?") ⟨by decide, by decide⟩ (letters_runW h).2
  | arrow => exact ⟨by decide, by decide⟩
theorem Tx.len {w : String} (h : Tx w) : w.length ≤ 20 := by
  cases h with
  | letters h => have := (letters_among h).2.2; omega
  | great h => obtain ⟨c, r, e, h1, h2, h3, h4⟩ := great_parts h; omega
  | path h h2 =>
    obtain ⟨c, r, e, h1, h2', h3, h4⟩ := great_parts h
    have := (letters_among (small_letters h2)).2.2
    rw [String.length_append, String.length_append, show ".".length = 1 from rfl]
    omega
  | vari h =>
    have := (letters_among h).2.2
    rw [String.length_append, show "?".length = 1 from rfl]
    omega
  | arrow => decide
theorem Atm.runW {v : Val} {s : String} (h : Atm v s) : runW s := by
  cases h with
  | num h =>
    obtain ⟨_, _, _, h4, h5⟩ := numB_ok h
    refine ⟨h5, fun c hc => ?_⟩
    have e : ∀ x ∈ sSTOP.toList, ¬ (x = '-' ∨ (48 ≤ x.toNat ∧ x.toNat ≤ 57)) := by decide
    exact fun hx => e c hx (h4 c hc)
  | word h => exact h.runW
theorem Atm.len {v : Val} {s : String} (h : Atm v s) : s.length ≤ 31 := by
  cases h with
  | num h => exact (numB_ok h).2.2.1
  | word h => have := h.len; omega
theorem num_not {w : String} {c : Char} {r : List Char} (h : w.toList = c :: r) (h1 : c ≠ '-') (h2 : c ∉ sFIG.toList) : numB w = false := by
  have hf : figs w = c :: r := by
    unfold figs
    rw [minus_sing, starts1, h, if_neg (by simpa using h1)]
  unfold numB
  rw [hf]
  have : among (c :: r) sFIG = false := by
    unfold among
    rw [List.all_cons, decide_eq_false h2, Bool.false_and]
  rw [this]
  simp
theorem small_head : ∀ c ∈ sSMALL.toList, c ≠ '-' ∧ c ∉ sFIG.toList := by decide +kernel
theorem great_head : ∀ c ∈ sGREAT.toList, c ≠ '-' ∧ c ∉ sFIG.toList := by decide +kernel
theorem Tx.not_num {w : String} (h : Tx w) : numB w = false := by
  cases h with
  | letters h =>
    obtain ⟨h1, h2, h3⟩ := letters_among h
    cases e : w.toList with
    | nil => exact absurd e (ne_of h2)
    | cons c r =>
      rw [e] at h1
      unfold among at h1
      rw [List.all_eq_true] at h1
      have := small_head c (by simpa using h1 c List.mem_cons_self)
      exact num_not e this.1 this.2
  | great h =>
    obtain ⟨c, r, e, h1, h2, h3, h4⟩ := great_parts h
    have := great_head c h1
    exact num_not e this.1 this.2
  | @path g w h h2 =>
    obtain ⟨c, r, e, h1, h2, h3, h4⟩ := great_parts h
    have := great_head c h1
    refine num_not (c := c) (r := r ++ ".".toList ++ w.toList) ?_ this.1 this.2
    rw [String.toList_append, String.toList_append, e]
    simp
  | @vari w h => exact num_not (c := '?') (r := w.toList) (by rw [String.toList_append]; rfl) (by decide) (by decide)
  | arrow => decide +kernel
theorem word_ok {k : Nat} {w : String} {S : Hm} (h : Tx w) (Q : Bool → Hm → Prop) (hq : ∀ l, Q true (S ++ l)) : wT P.con (callW P (k + 4)) noX (.or (.v (.cmp .Eq (.loc 0) (.lit (.str "->")))) (.or (.v (.call "is_letters" (.cons (.loc 0) .nil))) (.or (.v (.call "is_great" (.cons (.loc 0) .nil))) (.or (.v (.call "is_path" (.cons (.loc 0) .nil))) (.v (.call "is_variable" (.cons (.loc 0) .nil))))))) [some (.str w)] S Q := by
  have hl : w.length ≤ 10 ^ 4 := by have := h.len; omega
  simp only [wSs, wS, wT, wEs, wO, wPs, wC, wSrc, wE_loc, wE_lit, wE_con, wE_bin, wE_neg, wE_cmp, wE_cmp2, wE_isN, wE_notN, wE_isB, wE_not, wE_and, wE_or, wE_ite, wE_tup, wE_lst, wE_dic, wE_call, wE_make, wE_meth, wE_fld, wE_sub, wE_slice, wE_bi, wE_vi, wE_bm, wE_isi, wE_lc, wE_lck, eg, es, Option.some.injEq, exists_eq_left', Lit.val, cmpW]
  rw [eqW_str]
  simp only [truth, Option.some.injEq, exists_eq_left']
  have q0 := hq []
  rw [List.append_nil] at q0
  by_cases h1 : w = "->"
  · rw [if_pos (decide_eq_true h1)]; exact q0
  rw [if_neg (by simpa using h1)]
  refine call_use (is_letters_ok (k := k + 2) hl) ?_
  rintro _ S1 ⟨rfl, rfl⟩
  simp only [truth, Option.some.injEq, exists_eq_left']
  by_cases h2 : letters w = true
  · rw [if_pos h2]; exact q0
  rw [if_neg h2]
  refine call_use (is_great_ok (k := k + 1) hl) ?_
  rintro _ S1 ⟨rfl, rfl⟩
  simp only [truth, Option.some.injEq, exists_eq_left']
  by_cases h3 : great w = true
  · rw [if_pos h3]; exact q0
  rw [if_neg h3]
  refine call_use (is_path_ok (k := k) hl) ?_
  rintro _ S1 ⟨⟨l, rfl⟩, rfl⟩
  simp only [truth, Option.some.injEq, exists_eq_left']
  by_cases h4 : path w = true
  · rw [if_pos h4]; exact hq l
  rw [if_neg h4]
  refine call_use (is_variable_ok (k := k + 1) hl) ?_
  rintro _ S1 ⟨rfl, rfl⟩
  have : vari w = true := by
    cases h with
    | letters h => exact absurd h h2
    | great h => exact absurd h h3
    | path h h' => exact absurd (path_of h h') h4
    | vari h => exact vari_of h
    | arrow => exact absurd rfl h1
  refine ⟨true, by rw [this], hq l⟩
theorem thing_of_ok {k : Nat} {v : Val} {s : String} {S : Hm} (h : Atm v s) : callW P (k + 5) (.f "thing_of") [.str s] S (fun v' S' => v' = v ∧ ∃ l, S' = S ++ l) noX := by
  have hl : s.length ≤ 10 ^ 4 := by have := h.len; omega
  refine call_open (k := k + 4) fn_f_thing_of ⟨rfl, ?_⟩
  show wSs _ _ _ s5_f_thing_of _ _ [some (.str s)] S
  simp only [s5_f_thing_of, wSs, wS, wT, wEs, wE_call, wE_loc, eg, es, Option.some.injEq, exists_eq_left', List.getElem?_cons_zero, Option.join_some]
  refine call_use (is_number_ok (k := k + 2) hl) ?_
  rintro _ S1 ⟨rfl, rfl⟩
  refine ⟨numB s, rfl, ?_⟩
  cases h with
  | num h =>
    rw [(numB_ok h).1, if_pos rfl]
    simp only [s1_f_thing_of, wSs, wS, wT, wEs, wO, wPs, wC, wSrc, wE_loc, wE_lit, wE_con, wE_bin, wE_neg, wE_cmp, wE_cmp2, wE_isN, wE_notN, wE_isB, wE_not, wE_and, wE_or, wE_ite, wE_tup, wE_lst, wE_dic, wE_call, wE_make, wE_meth, wE_fld, wE_sub, wE_slice, wE_bi, wE_vi, wE_bm, wE_isi, wE_lc, wE_lck, eg, es, Option.some.injEq, exists_eq_left', Lit.val, biW]
    exact ⟨_, (numB_ok h).2.1, by have := (numB_ok h).2.2.1; omega, rfl, [], by simp⟩
  | word h =>
    rw [h.not_num, if_neg (by decide)]
    simp only [s4_f_thing_of, wSs, wS]
    refine word_ok (k := k) h _ fun l => ?_
    rw [if_pos rfl]
    simp only [s2_f_thing_of, wSs, wS, wT, wEs, wO, wPs, wC, wSrc, wE_loc, wE_lit, wE_con, wE_bin, wE_neg, wE_cmp, wE_cmp2, wE_isN, wE_notN, wE_isB, wE_not, wE_and, wE_or, wE_ite, wE_tup, wE_lst, wE_dic, wE_call, wE_make, wE_meth, wE_fld, wE_sub, wE_slice, wE_bi, wE_vi, wE_bm, wE_isi, wE_lc, wE_lck, eg, es, Option.some.injEq, exists_eq_left', Lit.val]
    exact ⟨trivial, l, rfl⟩
end K08

set_option maxHeartbeats 1000000
namespace K08
open Mi PySem
/-! ### drawn things: their pieces, how much they weigh, how deep they nest -/
inductive ThL : List Val → List String → Nat → Nat → Prop where
  | nil : ThL [] [] 0 0
  | atom {v : Val} {s : String} {vs : List Val} {ps : List String} {w n : Nat} (h : Atm v s) (r : ThL vs ps w n) : ThL (v :: vs) (s :: ps) (34 + w) n
  | tup {us vs : List Val} {qs ps : List String} {w1 n1 w2 n2 : Nat} (a : ThL us qs w1 n1) (r : ThL vs ps w2 n2) : ThL (.tup us :: vs) ("(" :: (qs ++ ")" :: ps)) (6 + w1 + w2) (max (n1 + 1) n2)
theorem ThL.app {vs us : List Val} {ps qs : List String} {w n w2 n2 : Nat} (h : ThL vs ps w n) (h2 : ThL us qs w2 n2) : ThL (vs ++ us) (ps ++ qs) (w + w2) (max n n2) := by
  induction h with
  | nil => simpa using h2
  | atom h r ih =>
    have := ThL.atom h ih
    rw [Nat.add_assoc]
    exact this
  | @tup us vs qs' ps w1 n1 w2' n2' a r _ ih =>
    have := ThL.tup a ih
    rw [Nat.add_assoc (6 + w1), Nat.max_assoc]
    simpa using this
theorem ThL.len {vs : List Val} {ps : List String} {w n : Nat} (h : ThL vs ps w n) : vs.length ≤ w ∧ ps.length ≤ w := by
  induction h with
  | nil => simp
  | atom h r ih => simp only [List.length_cons]; omega
  | tup a r ih1 ih2 => simp only [List.length_cons, List.length_append]; omega
def Wd (vs : List Val) (W D : Nat) : Prop := ∃ ps w n, ThL vs ps w n ∧ w ≤ W ∧ n ≤ D
theorem Wd.nil {W D : Nat} : Wd [] W D := ⟨_, _, _, .nil, by omega, by omega⟩
theorem Wd.le {vs : List Val} {W D W2 D2 : Nat} (h : Wd vs W D) (hw : W ≤ W2) (hd : D ≤ D2) : Wd vs W2 D2 := by
  obtain ⟨ps, w, n, t, a, b⟩ := h
  exact ⟨ps, w, n, t, by omega, by omega⟩
theorem Wd.app {vs us : List Val} {W W2 D : Nat} (h : Wd vs W D) (h2 : Wd us W2 D) : Wd (vs ++ us) (W + W2) D := by
  obtain ⟨ps, w, n, t, a, b⟩ := h
  obtain ⟨qs, w2, n2, t2, a2, b2⟩ := h2
  exact ⟨_, _, _, t.app t2, by omega, by omega⟩
theorem Wd.one {v : Val} {s : String} {D : Nat} (h : Atm v s) : Wd [v] 34 D := ⟨_, _, _, .atom h .nil, by omega, by omega⟩
theorem Wd.box {vs : List Val} {W D : Nat} (h : Wd vs W D) : Wd [.tup vs] (6 + W) (D + 1) := by
  obtain ⟨ps, w, n, t, a, b⟩ := h
  exact ⟨_, _, _, .tup t .nil, by omega, by omega⟩
theorem Wd.len {vs : List Val} {W D : Nat} (h : Wd vs W D) : vs.length ≤ W := by
  obtain ⟨ps, w, n, t, a, b⟩ := h
  have := t.len
  omega
theorem wd_all {vs : List Val} {W D : Nat} (h : ∀ v ∈ vs, Wd [v] W D) : Wd vs (W * vs.length) D := by
  induction vs with
  | nil => exact Wd.nil
  | cons v r ih =>
    have h1 := h v List.mem_cons_self
    have h2 := ih fun u hu => h u (List.mem_cons_of_mem _ hu)
    have := h1.app h2
    rw [List.length_cons, Nat.mul_add, Nat.mul_one, Nat.add_comm]
    exact this
theorem Wd.cons {v : Val} {vs : List Val} {W W2 D : Nat} (h : Wd [v] W D) (h2 : Wd vs W2 D) : Wd (v :: vs) (W + W2) D := h.app h2
theorem Wd.word {s : String} {D : Nat} (h : Tx s) : Wd [.str s] 34 D := Wd.one (.word h)
/-- the counter of forms -/
def Lf (q : Nat) (S : Hm) : Prop := ∃ n : Int, S[q]? = some (.lst [.int n])
def F2 (p q : Nat) (S S' : Hm) : Prop := S.length ≤ S'.length ∧ ∀ n, n < S.length → n ≠ p → n ≠ q → S'[n]? = S[n]?
theorem F2.refl (p q : Nat) (S : Hm) : F2 p q S S := ⟨Nat.le_refl _, fun _ _ _ _ => rfl⟩
theorem F2.trans {p q : Nat} {S S1 S2 : Hm} (a : F2 p q S S1) (b : F2 p q S1 S2) : F2 p q S S2 := ⟨Nat.le_trans a.1 b.1, fun n h hn hq => (b.2 n (Nat.lt_of_lt_of_le h a.1) hn hq).trans (a.2 n h hn hq)⟩
theorem F2.of {p q : Nat} {S S1 : Hm} (a : Fm p S S1) : F2 p q S S1 := ⟨a.1, fun n h hn _ => a.2 n h hn⟩
theorem F2.get {p q : Nat} {S S1 : Hm} (a : F2 p q S S1) {n : Nat} {o : Ob} (hn : n ≠ p) (hq : n ≠ q) (h : S[n]? = some o) : S1[n]? = some o := (a.2 n (lt_get h) hn hq).trans h
theorem F2.app {p q : Nat} {S : Hm} (l : Hm) : F2 p q S (S ++ l) := .of (Fm.app l)
theorem F2.set {p q : Nat} {S S' : Hm} {n : Nat} {o : Ob} (h : F2 p q S S') (hn : S.length ≤ n) : F2 p q S (S'.set n o) := ⟨by simpa using h.1, fun m hm hp hq => by rw [get_ne (by omega)]; exact h.2 m hm hp hq⟩
theorem Lf.app {q : Nat} {S : Hm} (h : Lf q S) (l : Hm) : Lf q (S ++ l) := let ⟨n, h⟩ := h; ⟨n, get_app h⟩
theorem Lf.fm {p q : Nat} {S S' : Hm} (h : Lf q S) (f : Fm p S S') (hpq : p ≠ q) : Lf q S' := let ⟨n, h⟩ := h; ⟨n, f.get (Ne.symm hpq) h⟩
theorem Lf.set {q n : Nat} {S : Hm} {o : Ob} (h : Lf q S) (hn : n ≠ q) : Lf q (S.set n o) := let ⟨m, h⟩ := h; ⟨m, by rw [get_ne (Ne.symm hn)]; exact h⟩
theorem Lf.lt {q : Nat} {S : Hm} (h : Lf q S) : q < S.length := let ⟨_, h⟩ := h; lt_get h
theorem lift_to {k j : Nat} (e : k = j) {f : FK} {args : List Val} {S : Hm} {Q : Post} {X : XPost} (h : callW P k f args S Q X) : callW P j f args S Q X := e ▸ h
end K08

set_option maxHeartbeats 1000000
namespace K08
open Mi PySem
/-! ### nothing old changes -/
def Fz (S S' : Hm) : Prop := S.length ≤ S'.length ∧ ∀ n, n < S.length → S'[n]? = S[n]?
theorem Fz.refl (S : Hm) : Fz S S := ⟨Nat.le_refl _, fun _ _ => rfl⟩
theorem Fz.trans {S S1 S2 : Hm} (a : Fz S S1) (b : Fz S1 S2) : Fz S S2 := ⟨Nat.le_trans a.1 b.1, fun n h => (b.2 n (Nat.lt_of_lt_of_le h a.1)).trans (a.2 n h)⟩
theorem Fz.get {S S1 : Hm} (a : Fz S S1) {n : Nat} {o : Ob} (h : S[n]? = some o) : S1[n]? = some o := (a.2 n (lt_get h)).trans h
theorem Fz.app {S : Hm} (l : Hm) : Fz S (S ++ l) := ⟨by simp, fun n h => List.getElem?_append_left h⟩
theorem Fz.set {S S' : Hm} {n : Nat} {o : Ob} (h : Fz S S') (hn : S.length ≤ n) : Fz S (S'.set n o) := ⟨by simpa using h.1, fun m hm => by rw [get_ne (by omega)]; exact h.2 m hm⟩
theorem Fz.of {S S' : Hm} (h : ∃ l, S' = S ++ l) : Fz S S' := let ⟨l, e⟩ := h; e ▸ Fz.app l
theorem Fz.fm {S S' : Hm} (h : Fz S S') (p : Nat) : Fm p S S' := ⟨h.1, fun n hn _ => h.2 n hn⟩
theorem Sta.fz {p : Nat} {S S' : Hm} (h : Sta p S) (f : Fz S S') : Sta p S' := by
  obtain ⟨xs, z, h1, h2⟩ := h
  exact ⟨xs, z, f.get h1, h2⟩
/-! ### the pieces of a thing -/
def pcQ (qs : List String) (S : Hm) (v : Val) (S' : Hm) : Prop := ∃ t, v = .ref t ∧ S.length ≤ t ∧ S'[t]? = some (.lst (qs.map .str)) ∧ Fz S S'
theorem atom_pieces {k : Nat} {v : Val} {s : String} {S : Hm} (h : Atm v s) : callW P (k + 1) (.f "_law_pieces") [v] S (pcQ [s] S) noX := by
  refine call_open fn_f_law_pieces ⟨rfl, ?_⟩
  show wSs _ _ _ s5_f_law_pieces _ _ [some v, none, none] S
  cases h with
  | @num i h =>
    simp only [s5_f_law_pieces, wSs, wS, wT, wEs, wO, wPs, wC, wSrc, wE_loc, wE_lit, wE_con, wE_bin, wE_neg, wE_cmp, wE_cmp2, wE_isN, wE_notN, wE_isB, wE_not, wE_and, wE_or, wE_ite, wE_tup, wE_lst, wE_dic, wE_call, wE_make, wE_meth, wE_fld, wE_sub, wE_slice, wE_bi, wE_vi, wE_bm, wE_isi, wE_lc, wE_lck, eg, es, Option.some.injEq, exists_eq_left', Lit.val, isTy, List.mapM_cons, List.mapM_nil]
    refine ⟨_, rfl, _, rfl, ?_⟩
    rw [if_pos (by rfl)]
    simp only [s1_f_law_pieces, wSs, wS, wT, wEs, wO, wPs, wC, wSrc, wE_loc, wE_lit, wE_con, wE_bin, wE_neg, wE_cmp, wE_cmp2, wE_isN, wE_notN, wE_isB, wE_not, wE_and, wE_or, wE_ite, wE_tup, wE_lst, wE_dic, wE_call, wE_make, wE_meth, wE_fld, wE_sub, wE_slice, wE_bi, wE_vi, wE_bm, wE_isi, wE_lc, wE_lck, eg, es, Option.some.injEq, exists_eq_left', Lit.val, biW]
    refine ⟨?_, by rw [sizeLine_eq]; simp, S.length, rfl, Nat.le_refl _, get_new, Fz.app _⟩
    have : i.natAbs < 2 ^ (100 + 1) := Nat.lt_trans h (by decide)
    have := log_le this
    omega
  | word h =>
    simp only [s5_f_law_pieces, wSs, wS, wT, wEs, wO, wPs, wC, wSrc, wE_loc, wE_lit, wE_con, wE_bin, wE_neg, wE_cmp, wE_cmp2, wE_isN, wE_notN, wE_isB, wE_not, wE_and, wE_or, wE_ite, wE_tup, wE_lst, wE_dic, wE_call, wE_make, wE_meth, wE_fld, wE_sub, wE_slice, wE_bi, wE_vi, wE_bm, wE_isi, wE_lc, wE_lck, eg, es, Option.some.injEq, exists_eq_left', Lit.val, isTy, List.mapM_cons, List.mapM_nil]
    refine ⟨_, rfl, _, rfl, ?_⟩
    rw [if_pos (by rfl)]
    simp only [s1_f_law_pieces, wSs, wS, wT, wEs, wO, wPs, wC, wSrc, wE_loc, wE_lit, wE_con, wE_bin, wE_neg, wE_cmp, wE_cmp2, wE_isN, wE_notN, wE_isB, wE_not, wE_and, wE_or, wE_ite, wE_tup, wE_lst, wE_dic, wE_call, wE_make, wE_meth, wE_fld, wE_sub, wE_slice, wE_bi, wE_vi, wE_bm, wE_isi, wE_lc, wE_lck, eg, es, Option.some.injEq, exists_eq_left', Lit.val, biW]
    exact ⟨by rw [sizeLine_eq]; simp, S.length, rfl, Nat.le_refl _, get_new, Fz.app _⟩
theorem pieces_all {vs : List Val} {ps : List String} {w n : Nat} (h : ThL vs ps w n) : w ≤ 10 ^ 7 → ∃ pss : List (List String), ps = pss.flatten ∧ pss.length = vs.length ∧ ∀ (i : Nat) (v : Val) (qs : List String), vs[i]? = some v → pss[i]? = some qs → ∀ k, n + 1 ≤ k → ∀ S, callW P k (.f "_law_pieces") [v] S (pcQ qs S) noX := by
  induction h with
  | nil => exact fun _ => ⟨[], rfl, rfl, fun i v qs hv => by simp at hv⟩
  | @atom v s vs ps w n h r ih =>
    intro hw
    obtain ⟨pss, e1, e2, e3⟩ := ih (by omega)
    refine ⟨[s] :: pss, by rw [e1]; rfl, by simp [e2], ?_⟩
    intro i v2 qs hv hq k hk S
    cases i with
    | zero =>
      cases hv; cases hq
      obtain ⟨j, rfl⟩ : ∃ j, k = j + 1 := ⟨k - 1, by omega⟩
      exact atom_pieces h
    | succ i => exact e3 i v2 qs hv hq k hk S
  | @tup us vs qs ps w1 n1 w2 n2 a r iha ihr =>
    intro hw
    obtain ⟨pss, e1, e2, e3⟩ := ihr (by omega)
    obtain ⟨rss, d1, d2, d3⟩ := iha (by omega)
    have la := a.len
    refine ⟨("(" :: (qs ++ [")"])) :: pss, by rw [e1]; simp, by simp [e2], ?_⟩
    intro i v2 qs2 hv hq k hk S
    cases i with
    | succ i => exact e3 i v2 qs2 hv hq k (by omega) S
    | zero =>
      cases hv; cases hq
      obtain ⟨j, rfl⟩ : ∃ j, k = j + 1 := ⟨k - 1, by omega⟩
      refine call_open (k := j) fn_f_law_pieces ⟨rfl, ?_⟩
      show wSs _ _ _ s5_f_law_pieces _ _ [some (.tup us), none, none] S
      simp only [s5_f_law_pieces, wSs, wS, wT, wEs, wO, wPs, wC, wSrc, wE_loc, wE_lit, wE_con, wE_bin, wE_neg, wE_cmp, wE_cmp2, wE_isN, wE_notN, wE_isB, wE_not, wE_and, wE_or, wE_ite, wE_tup, wE_lst, wE_dic, wE_call, wE_make, wE_meth, wE_fld, wE_sub, wE_slice, wE_bi, wE_vi, wE_bm, wE_isi, wE_lc, wE_lck, eg, es, Option.some.injEq, exists_eq_left', Lit.val, isTy, List.mapM_cons, List.mapM_nil]
      refine ⟨_, rfl, _, rfl, ?_⟩
      rw [if_neg (by decide)]
      simp only [s4_f_law_pieces, wSs, wS, wT, wEs, wO, wPs, wC, wSrc, wE_loc, wE_lit, wE_con, wE_bin, wE_neg, wE_cmp, wE_cmp2, wE_isN, wE_notN, wE_isB, wE_not, wE_and, wE_or, wE_ite, wE_tup, wE_lst, wE_dic, wE_call, wE_make, wE_meth, wE_fld, wE_sub, wE_slice, wE_bi, wE_vi, wE_bm, wE_isi, wE_lc, wE_lck, eg, es, Option.some.injEq, exists_eq_left', Lit.val, seqOf]
      refine ⟨by rw [sizeLine_eq]; simp, ?_⟩
      refine for_inv (callW_mono P _) (fun i env S' => ∃ x2, env = [some (.tup us), some (.ref S.length), x2] ∧ S'[S.length]? = some (.lst (("(" :: (rss.take i).flatten).map .str)) ∧ Fz S S') ?_ ?_ ⟨_, rfl, get_new, Fz.app _⟩
      · rintro i v env S' hi ⟨x2, rfl, c1, c2⟩
        have hlt : i < rss.length := by rw [d2]; exact lt_get hi
        have hr : rss[i]? = some rss[i] := List.getElem?_eq_getElem hlt
        refine ⟨trivial, ?_⟩
        simp only [tgW, s2_f_law_pieces, wSs, wS, wT, wEs, wO, wPs, wC, wSrc, wE_loc, wE_lit, wE_con, wE_bin, wE_neg, wE_cmp, wE_cmp2, wE_isN, wE_notN, wE_isB, wE_not, wE_and, wE_or, wE_ite, wE_tup, wE_lst, wE_dic, wE_call, wE_make, wE_meth, wE_fld, wE_sub, wE_slice, wE_bi, wE_vi, wE_bm, wE_isi, wE_lc, wE_lck, eg, es, Option.some.injEq, exists_eq_left', Lit.val, bmT, bmW]
        refine ⟨⟨_, _, rfl, lst_at c1⟩, ?_⟩
        refine call_use (d3 i v _ hi hr j (by omega) S') ?_
        rintro _ S2 ⟨t, rfl, g1, g2, g3⟩
        have hb : (rss.take (i + 1)).flatten.length ≤ qs.length := by
          rw [d1]
          have : (rss.take (i + 1)).flatten ++ (rss.drop (i + 1)).flatten = rss.flatten := by rw [← List.flatten_append, List.take_append_drop]
          rw [← this, List.length_append]
          omega
        rw [List.take_add_one, hr, Option.toList_some, List.flatten_append, List.length_append] at hb
        simp only [List.flatten_cons, List.flatten_nil, List.append_nil] at hb
        refine ⟨_, _, g3.get c1, g2, by rw [sizeLine_eq]; simp only [List.length_map, List.length_cons]; omega, _, rfl, ?_, (c2.trans g3).set (Nat.le_refl _)⟩
        have hf : (rss.take (i + 1)).flatten = (rss.take i).flatten ++ rss[i] := by
          rw [List.take_add_one, hr, Option.toList_some, List.flatten_append]
          simp only [List.flatten_cons, List.flatten_nil, List.append_nil]
        rw [get_set, g3.get c1, hf]
        simp only [Option.map_some, List.map_cons, List.map_append, List.cons_append]
      · rintro env S' ⟨x2, rfl, c1, c2⟩
        rw [← d2, List.take_length, ← d1] at c1
        refine ⟨trivial, ?_⟩
        simp only [s3_f_law_pieces, wSs, wS, wT, wEs, wO, wPs, wC, wSrc, wE_loc, wE_lit, wE_con, wE_bin, wE_neg, wE_cmp, wE_cmp2, wE_isN, wE_notN, wE_isB, wE_not, wE_and, wE_or, wE_ite, wE_tup, wE_lst, wE_dic, wE_call, wE_make, wE_meth, wE_fld, wE_sub, wE_slice, wE_bi, wE_vi, wE_bm, wE_isi, wE_lc, wE_lck, eg, es, Option.some.injEq, exists_eq_left', Lit.val, binW]
        refine ⟨by rw [sizeLine_eq]; simp, _, _, get_app c1, get_new, by rw [sizeLine_eq]; simp; omega, _, rfl, by simp; have := c2.1; omega, ?_, c2.trans ((Fz.app _).trans (Fz.app _))⟩
        rw [get_new]
        simp
/-! ### gaps -/
def blanks (g : String) : Prop := ∀ c ∈ g.toList, c = ' ' ∨ c = '\n'
theorem blanks_app {a b : String} (ha : blanks a) (hb : blanks b) : blanks (a ++ b) := by
  intro c hc
  rw [String.toList_append] at hc
  rcases List.mem_append.mp hc with hc | hc
  · exact ha c hc
  · exact hb c hc
theorem blank_sing : ∀ c ∈ (" \n" : String).toList, blanks (String.singleton c) := by
  intro c hc d hd
  rw [String.toList_singleton] at hd
  have : d = c := by simpa using hd
  subst this
  simpa using hc
theorem gap_ok {k p : Nat} {m : Int} {S : Hm} (h : Sta p S) (h0 : 0 ≤ m) (h1 : m ≤ 1) : callW P (k + 2) (.f "_law_gap") [.ref p, .int m] S (fun v S' => (∃ g, v = .str g ∧ blanks g ∧ m ≤ g.length ∧ (g.length : Int) ≤ m + 2) ∧ Sta p S' ∧ Fm p S S') noX := by
  refine call_open (k := k + 1) fn_f_law_gap ⟨rfl, ?_⟩
  show wSs _ _ _ s3_f_law_gap _ _ [some (.ref p), some (.int m), none, none] S
  simp only [s3_f_law_gap, wSs, wS, wT, wEs, wO, wPs, wC, wSrc, wE_loc, wE_lit, wE_con, wE_bin, wE_neg, wE_cmp, wE_cmp2, wE_isN, wE_notN, wE_isB, wE_not, wE_and, wE_or, wE_ite, wE_tup, wE_lst, wE_dic, wE_call, wE_make, wE_meth, wE_fld, wE_sub, wE_slice, wE_bi, wE_vi, wE_bm, wE_isi, wE_lc, wE_lck, eg, es, Option.some.injEq, exists_eq_left', Lit.val]
  have hlt := h.lt
  refine ⟨by rw [sizeLine_eq]; simp, ?_⟩
  refine call_use (next_ok (k := k) (h.app _) (by decide) (by decide)) ?_
  rintro _ S1 ⟨⟨r, rfl, a, b⟩, p1, f1, _⟩
  refine pick (f1.get (by omega : S.length ≠ p) get_new) a (by exact b) fun v hv => ?_
  obtain ⟨e, rfl, e0, e1⟩ : ∃ e : Int, v = .int e ∧ 0 ≤ e ∧ e ≤ 2 := by
    simp only [List.mem_cons, List.not_mem_nil, or_false] at hv
    rcases hv with rfl | rfl | rfl | rfl | rfl <;> exact ⟨_, rfl, by decide, by decide⟩
  refine badd ⟨m + e, rfl, ⟨by omega, by omega⟩, ?_⟩
  refine for_inv (callW_mono P _) (fun i env S' => ∃ g x3, env = [some (.ref p), some (.int m), some (.str g), x3] ∧ blanks g ∧ g.length = i ∧ Sta p S' ∧ Fm p S S') ?_ ?_ ⟨"", _, rfl, by simp [blanks], rfl, p1, (Fm.app _).trans f1⟩
  · rintro i v env S' hi ⟨g, x3, rfl, c1, c2, c3, c4⟩
    obtain ⟨hi, rfl⟩ := rng_get hi
    refine ⟨trivial, ?_⟩
    simp only [tgW, s1_f_law_gap, wSs, wS, wT, wEs, wO, wPs, wC, wSrc, wE_loc, wE_lit, wE_con, wE_bin, wE_neg, wE_cmp, wE_cmp2, wE_isN, wE_notN, wE_isB, wE_not, wE_and, wE_or, wE_ite, wE_tup, wE_lst, wE_dic, wE_call, wE_make, wE_meth, wE_fld, wE_sub, wE_slice, wE_bi, wE_vi, wE_bm, wE_isi, wE_lc, wE_lck, eg, es, Option.some.injEq, exists_eq_left', Lit.val]
    refine call_use (next_ok (k := k) c3 (by decide) (by decide)) ?_
    rintro _ S2 ⟨⟨r, rfl, a, b⟩, p2, f2, _⟩
    refine sign (by decide) a (by exact b) fun c hc => ?_
    simp only [ibinW]
    exact ⟨by rw [sizeLine_eq, len_sing]; omega, _, _, rfl, blanks_app c1 (blank_sing c hc), by rw [String.length_append, c2, len_sing], p2, c4.trans f2⟩
  · rintro env S' ⟨g, x3, rfl, c1, c2, c3, c4⟩
    rw [rangeL_len] at c2
    refine ⟨trivial, ?_⟩
    simp only [s2_f_law_gap, wSs, wS, wT, wEs, wO, wPs, wC, wSrc, wE_loc, wE_lit, wE_con, wE_bin, wE_neg, wE_cmp, wE_cmp2, wE_isN, wE_notN, wE_isB, wE_not, wE_and, wE_or, wE_ite, wE_tup, wE_lst, wE_dic, wE_call, wE_make, wE_meth, wE_fld, wE_sub, wE_slice, wE_bi, wE_vi, wE_bm, wE_isi, wE_lc, wE_lck, eg, es, Option.some.injEq, exists_eq_left', Lit.val]
    exact ⟨⟨g, rfl, c1, by omega, by omega⟩, c3, c4⟩
end K08

set_option maxHeartbeats 1000000
namespace K08
open Mi PySem
/-! ### cutting a text into pieces -/
def fl (st : List String × String) : List String := st.1 ++ if st.2 = "" then [] else [st.2]
def scan1 (st : List String × String) (c : Char) : List String × String :=
  if c ∈ sSTOP.toList then (fl st ++ (if c = '(' ∨ c = ')' then [String.singleton c] else []), "") else (st.1, st.2 ++ String.singleton c)
def scan (st : List String × String) (l : List Char) : List String × String := l.foldl scan1 st
theorem scan_app {st : List String × String} {l m : List Char} : scan st (l ++ m) = scan (scan st l) m := by unfold scan; rw [List.foldl_append]
theorem fl_nil {d : List String} : fl (d, "") = d := by unfold fl; simp
theorem scan1_blank {st : List String × String} {c : Char} (h : c = ' ' ∨ c = '\n') : scan1 st c = (fl st, "") := by
  have h1 : c ∈ sSTOP.toList := by rcases h with rfl | rfl <;> decide
  have h2 : ¬ (c = '(' ∨ c = ')') := by rcases h with rfl | rfl <;> decide
  unfold scan1
  rw [if_pos h1, if_neg h2, List.append_nil]
theorem scan_blanks : ∀ (l : List Char) (st : List String × String), (∀ c ∈ l, c = ' ' ∨ c = '\n') → scan st l = if l = [] then st else (fl st, "")
  | [], st, _ => rfl
  | c :: r, st, h => by
    show scan (scan1 st c) r = _
    rw [scan1_blank (h c List.mem_cons_self), scan_blanks r _ fun x hx => h x (List.mem_cons_of_mem _ hx), fl_nil]
    simp
theorem fl_blanks {st : List String × String} {g : String} (h : blanks g) : fl (scan st g.toList) = fl st := by
  rw [scan_blanks _ _ h]
  split
  · rfl
  · exact fl_nil
theorem scan_word : ∀ (l : List Char) (d : List String) (r : String), (∀ c ∈ l, c ∉ sSTOP.toList) → scan (d, r) l = (d, r ++ String.ofList l)
  | [], d, r, _ => by simp [scan]
  | c :: m, d, r, h => by
    show scan (scan1 (d, r) c) m = _
    rw [scan1, if_neg (h c List.mem_cons_self), scan_word m _ _ fun x hx => h x (List.mem_cons_of_mem _ hx)]
    congr 1
    apply String.toList_injective
    simp
theorem scan_par {st : List String × String} {c : Char} (h : c = '(' ∨ c = ')') : scan st [c] = (fl st ++ [String.singleton c], "") := by
  have h1 : c ∈ sSTOP.toList := by rcases h with rfl | rfl <;> decide
  show scan1 st c = _
  rw [scan1, if_pos h1, if_pos h]
theorem str_ne {w : String} (h : w.toList ≠ []) : w ≠ "" := by
  rintro rfl
  exact h rfl
/-- brackets -/
def par (s : String) : Prop := s = "(" ∨ s = ")"
instance : DecidablePred par := fun s => by unfold par; infer_instance
theorem runW_par {s : String} (h : runW s) : ¬ par s := by
  rintro (rfl | rfl)
  · exact absurd (h.2 '(' (by decide)) (by decide)
  · exact absurd (h.2 ')' (by decide)) (by decide)
def wt (s : String) : Nat := s.length + 3
def PcOk (ps : List String) : Prop := ∀ s ∈ ps, par s ∨ (runW s ∧ s.length ≤ 31)
theorem ThL.ok {vs : List Val} {ps : List String} {w n : Nat} (h : ThL vs ps w n) : PcOk ps := by
  induction h with
  | nil => exact fun s hs => by simp at hs
  | @atom v s vs ps w n h r ih =>
    intro x hx
    rcases List.mem_cons.mp hx with rfl | hx
    · exact .inr ⟨h.runW, h.len⟩
    · exact ih x hx
  | @tup us vs qs ps w1 n1 w2 n2 a r iha ihr =>
    intro x hx
    rcases List.mem_cons.mp hx with rfl | hx
    · exact .inl (.inl rfl)
    · rcases List.mem_append.mp hx with hx | hx
      · exact iha x hx
      · rcases List.mem_cons.mp hx with rfl | hx
        · exact .inl (.inr rfl)
        · exact ihr x hx
/-- how a scan stands: what is cut, and no run behind a bracket -/
def Std (ps : List String) (ahead : String) (x : String) : Prop := fl (scan ([], "") x.toList) = ps ∧ (par ahead → (scan ([], "") x.toList).2 = "")
theorem std_step {ps : List String} {ahead s g x : String} (h : Std ps ahead x) (hs : par s ∨ runW s) (hg : blanks g) (hl : ¬ par ahead → ¬ par s → g ≠ "") : Std (ps ++ [s]) s (x ++ (g ++ s)) := by
  obtain ⟨h1, h2⟩ := h
  have e : scan ([], "") (x ++ (g ++ s)).toList = scan (scan (scan ([], "") x.toList) g.toList) s.toList := by
    rw [String.toList_append, String.toList_append, scan_app, scan_app]
  unfold Std
  rw [e]
  rw [scan_blanks _ _ hg]
  generalize scan ([], "") x.toList = st at *
  rcases hs with hs | hs
  · have : ∀ st' : List String × String, fl st' = ps → scan st' s.toList = (ps ++ [s], "") := by
      intro st' h'
      rcases hs with rfl | rfl
      · rw [← h']; exact scan_par (c := '(') (.inl rfl)
      · rw [← h']; exact scan_par (c := ')') (.inr rfl)
    rw [this _ (by split <;> first | exact h1 | (rw [fl_nil]; exact h1))]
    exact ⟨fl_nil, fun _ => rfl⟩
  · have hst : (if g.toList = [] then st else (fl st, "")) = (ps, "") := by
      by_cases hg0 : g.toList = []
      · rw [if_pos hg0]
        have hp : par ahead := by
          by_cases hp : par ahead
          · exact hp
          · refine absurd ?_ (hl hp (runW_par hs))
            apply String.toList_injective
            rw [hg0]; rfl
        have h3 := h2 hp
        rw [← h1]
        obtain ⟨d, r⟩ := st
        have : r = "" := h3
        subst this
        rw [fl_nil]
      · rw [if_neg hg0, h1]
    rw [hst, scan_word _ _ _ hs.2]
    refine ⟨?_, fun hp => absurd hp (runW_par hs)⟩
    unfold fl
    simp only [String.empty_append, String.ofList_toList]
    rw [if_neg (str_ne hs.1)]
theorem par_any {s : String} {S : Hm} {Q : Bool → Prop} (h : Q (decide (par s))) : inW (.str s) (.tup [.str "(", .str ")"]) S Q := by
  refine ⟨rfl, rfl, ?_⟩
  have : ([Val.str "(", Val.str ")"].any fun y => feq y (.str s)) = decide (par s) := by
    have := any_str (ws := ["(", ")"]) (w := s)
    simp only [List.map_cons, List.map_nil] at this
    rw [this]
    unfold par
    by_cases h1 : s = "(" <;> by_cases h2 : s = ")" <;> simp [h1, h2]
  rw [this]
  exact h
theorem notin_par {s : String} {S : Hm} {Q : Bool → Prop} (h : Q (!decide (par s))) : cmpW .NotIn (.str s) (.tup [.str "(", .str ")"]) S Q := by
  simp only [cmpW]
  exact par_any h
theorem and_par {ahead s : String} {S : Hm} {R : Bool → Prop} (h : ∀ b, (b = true ↔ ¬ par ahead ∧ ¬ par s) → R b) : [Val.str "(", Val.str ")"].length ≤ sizeLine ∧ cmpW .NotIn (.str ahead) (.tup [.str "(", .str ")"]) S fun r => ∃ c, Val.bl r = .bl c ∧ if c = true then [Val.str "(", Val.str ")"].length ≤ sizeLine ∧ cmpW .NotIn (.str s) (.tup [.str "(", .str ")"]) S fun r => R r else R false := by
  refine ⟨by rw [sizeLine_eq]; simp, notin_par ⟨_, rfl, ?_⟩⟩
  by_cases hpa : par ahead
  · rw [if_neg (by simpa using hpa)]
    exact h false (by simp [hpa])
  · rw [if_pos (by simpa using hpa)]
    refine ⟨by rw [sizeLine_eq]; simp, notin_par ?_⟩
    exact h _ (by simp [hpa])
theorem written_ok {k p t : Nat} {ps : List String} {S : Hm} (h : Sta p S) (htp : t ≠ p) (ht : S[t]? = some (.lst (ps.map .str))) (hok : PcOk ps) (hw : (ps.map wt).sum ≤ 5800) : callW P (k + 3) (.f "_law_written") [.ref p, .ref t] S (fun v S' => (∃ x, v = .str x ∧ x.length ≤ 5804 ∧ fl (scan ([], "") x.toList) = ps) ∧ Sta p S' ∧ Fm p S S') noX := by
  refine call_open (k := k + 2) fn_f_law_written ⟨rfl, ?_⟩
  show wSs _ _ _ s5_f_law_written _ _ [some (.ref p), some (.ref t), none, none, none, none] S
  simp only [s5_f_law_written, wSs, wS, wT, wEs, wO, wPs, wC, wSrc, wE_loc, wE_lit, wE_con, wE_bin, wE_neg, wE_cmp, wE_cmp2, wE_isN, wE_notN, wE_isB, wE_not, wE_and, wE_or, wE_ite, wE_tup, wE_lst, wE_dic, wE_call, wE_make, wE_meth, wE_fld, wE_sub, wE_slice, wE_bi, wE_vi, wE_bm, wE_isi, wE_lc, wE_lck, eg, es, Option.some.injEq, exists_eq_left', Lit.val]
  refine call_use (gap_ok (k := k) h (by decide) (by decide)) ?_
  rintro _ S1 ⟨⟨g, rfl, hg, _, hgl⟩, p1, f1⟩
  simp only [s4_f_law_written, wSs, wS, wT, wEs, wO, wPs, wC, wSrc, wE_loc, wE_lit, wE_con, wE_bin, wE_neg, wE_cmp, wE_cmp2, wE_isN, wE_notN, wE_isB, wE_not, wE_and, wE_or, wE_ite, wE_tup, wE_lst, wE_dic, wE_call, wE_make, wE_meth, wE_fld, wE_sub, wE_slice, wE_bi, wE_vi, wE_bm, wE_isi, wE_lc, wE_lck, eg, es, Option.some.injEq, exists_eq_left', Lit.val, seqOf]
  refine ⟨_, lst_at (f1.get htp ht), ?_⟩
  refine for_inv (callW_mono P _) (fun i env S' => ∃ x ahead x4 x5, env = [some (.ref p), some (.ref t), some (.str x), some (.str ahead), x4, x5] ∧ Std (ps.take i) ahead x ∧ x.length ≤ 2 + ((ps.take i).map wt).sum ∧ Sta p S' ∧ Fm p S S') ?_ ?_ ⟨g, "(", _, _, rfl, ⟨?_, fun _ => ?_⟩, by simp; omega, p1, f1⟩
  · rintro i v env S' hi ⟨x, ahead, x4, x5, rfl, c1, c2, c3, c4⟩
    rw [List.getElem?_map] at hi
    obtain ⟨s, hs, rfl⟩ := Option.map_eq_some_iff.mp hi
    refine ⟨lst_at (c4.get htp ht), ?_⟩
    simp only [tgW, s2_f_law_written, wSs, wS, wT, wEs, wO, wPs, wC, wSrc, wE_loc, wE_lit, wE_con, wE_bin, wE_neg, wE_cmp, wE_cmp2, wE_isN, wE_notN, wE_isB, wE_not, wE_and, wE_or, wE_ite, wE_tup, wE_lst, wE_dic, wE_call, wE_make, wE_meth, wE_fld, wE_sub, wE_slice, wE_bi, wE_vi, wE_bm, wE_isi, wE_lc, wE_lck, eg, es, Option.some.injEq, exists_eq_left', Lit.val]
    have hsum : ((ps.take (i + 1)).map wt).sum = ((ps.take i).map wt).sum + wt s := by
      rw [List.take_add_one, hs, List.map_append, List.sum_append]; simp
    have hsum2 : ((ps.take (i + 1)).map wt).sum ≤ (ps.map wt).sum := by
      have : (ps.map wt).sum = ((ps.take (i + 1)).map wt).sum + ((ps.drop (i + 1)).map wt).sum := by rw [← List.sum_append, ← List.map_append, List.take_append_drop]
      omega
    have hmem := hok s (List.mem_of_getElem? hs)
    refine and_par fun b hb => ?_
    simp only [biW]
    refine call_use (gap_ok (k := k) c3 (by split <;> decide) (by split <;> decide)) ?_
    rintro _ S2 ⟨⟨g2, rfl, hg2, hm, hgl2⟩, p2, f2⟩
    have hlen : g2.length + s.length ≤ wt s := by
      unfold wt
      split at hgl2 <;> omega
    refine saddW (by rw [sizeLine_eq]; omega) ?_
    simp only [ibinW, s1_f_law_written, wSs, wS, wT, wEs, wO, wPs, wC, wSrc, wE_loc, wE_lit, wE_con, wE_bin, wE_neg, wE_cmp, wE_cmp2, wE_isN, wE_notN, wE_isB, wE_not, wE_and, wE_or, wE_ite, wE_tup, wE_lst, wE_dic, wE_call, wE_make, wE_meth, wE_fld, wE_sub, wE_slice, wE_bi, wE_vi, wE_bm, wE_isi, wE_lc, wE_lck, eg, es, Option.some.injEq, exists_eq_left', Lit.val]
    refine ⟨by rw [sizeLine_eq, String.length_append]; omega, _, _, _, _, rfl, ?_, by rw [String.length_append, String.length_append]; omega, p2, c4.trans f2⟩
    rw [List.take_add_one, hs]
    refine std_step c1 (hmem.imp id And.left) hg2 fun n1 n2 e => ?_
    have hbt := hb.mpr ⟨n1, n2⟩
    subst hbt
    subst e
    simp at hm
  · rintro env S' ⟨x, ahead, x4, x5, rfl, c1, c2, c3, c4⟩
    rw [List.length_map, List.take_length] at c1 c2
    refine ⟨lst_at (c4.get htp ht), ?_⟩
    simp only [s3_f_law_written, wSs, wS, wT, wEs, wO, wPs, wC, wSrc, wE_loc, wE_lit, wE_con, wE_bin, wE_neg, wE_cmp, wE_cmp2, wE_isN, wE_notN, wE_isB, wE_not, wE_and, wE_or, wE_ite, wE_tup, wE_lst, wE_dic, wE_call, wE_make, wE_meth, wE_fld, wE_sub, wE_slice, wE_bi, wE_vi, wE_bm, wE_isi, wE_lc, wE_lck, eg, es, Option.some.injEq, exists_eq_left', Lit.val]
    refine call_use (gap_ok (k := k) c3 (by decide) (by decide)) ?_
    rintro _ S2 ⟨⟨g2, rfl, hg2, _, hgl2⟩, p2, f2⟩
    refine saddW (by rw [sizeLine_eq]; omega) ⟨⟨_, rfl, by rw [String.length_append]; omega, ?_⟩, p2, c4.trans f2⟩
    rw [String.toList_append, scan_app, fl_blanks hg2]
    exact c1.1
  · rw [fl_blanks hg]; rfl
  · rw [scan_blanks _ _ hg]
    split <;> rfl
/-! ### the program's cutting -/
theorem fl_len {st : List String × String} : (fl st).length ≤ st.1.length + 1 := by
  unfold fl
  rw [List.length_append]
  split <;> simp
theorem scan1_len {st : List String × String} {c : Char} : (scan1 st c).1.length ≤ st.1.length + 2 := by
  have := fl_len (st := st)
  unfold scan1
  split
  · rw [List.length_append]
    split <;> simp <;> omega
  · simp
theorem pieces_of_ok {k : Nat} {x : String} {S : Hm} (hl : x.length ≤ 10 ^ 4) : callW P (k + 1) (.f "pieces_of") [.str x] S (pcQ (fl (scan ([], "") x.toList)) S) noX := by
  refine call_open fn_f_pieces_of ⟨rfl, ?_⟩
  show wSs _ _ _ s10_f_pieces_of _ _ [some (.str x), none, none, none] S
  simp only [s10_f_pieces_of, wSs, wS, wT, wEs, wO, wPs, wC, wSrc, wE_loc, wE_lit, wE_con, wE_bin, wE_neg, wE_cmp, wE_cmp2, wE_isN, wE_notN, wE_isB, wE_not, wE_and, wE_or, wE_ite, wE_tup, wE_lst, wE_dic, wE_call, wE_make, wE_meth, wE_fld, wE_sub, wE_slice, wE_bi, wE_vi, wE_bm, wE_isi, wE_lc, wE_lck, eg, es, Option.some.injEq, exists_eq_left', Lit.val, seqOf]
  refine ⟨by rw [sizeLine_eq]; simp, ?_⟩
  refine for_inv (callW_mono P _) (fun i env S' => ∃ st x3, env = [some (.str x), some (.ref S.length), some (.str st.2), x3] ∧ st = scan ([], "") (x.toList.take i) ∧ st.1.length ≤ 2 * i ∧ st.2.length ≤ i ∧ S'[S.length]? = some (.lst (st.1.map .str)) ∧ Fz S S') ?_ ?_ ⟨([], ""), _, rfl, rfl, by simp, by decide, get_new, Fz.app _⟩
  · rintro i v env S' hi ⟨⟨d, r⟩, x3, rfl, c1, c2, c3, c4, c5⟩
    rw [List.getElem?_map] at hi
    obtain ⟨c, hc, rfl⟩ := Option.map_eq_some_iff.mp hi
    have hil := lt_get hc
    rw [String.length_toList] at hil
    refine ⟨trivial, ?_⟩
    have hscan : scan ([], "") (x.toList.take (i + 1)) = scan1 (d, r) c := by
      rw [List.take_add_one, hc, scan_app, ← c1]
      rfl
    simp only [tgW, s6_f_pieces_of, wSs, wS, wT, wEs, wO, wPs, wC, wSrc, wE_loc, wE_lit, wE_con, wE_bin, wE_neg, wE_cmp, wE_cmp2, wE_isN, wE_notN, wE_isB, wE_not, wE_and, wE_or, wE_ite, wE_tup, wE_lst, wE_dic, wE_call, wE_make, wE_meth, wE_fld, wE_sub, wE_slice, wE_bi, wE_vi, wE_bm, wE_isi, wE_lc, wE_lck, eg, es, Option.some.injEq, exists_eq_left', Lit.val, cmpW, inW]
    refine .inl ⟨c, String.toList_singleton c, ?_⟩
    refine ⟨_, rfl, ?_⟩
    by_cases hst : c ∈ sSTOP.toList
    · rw [if_neg (by rw [decide_eq_true hst]; decide)]
      simp only [s5_f_pieces_of, wSs, wS, wT, wEs, wO, wPs, wC, wSrc, wE_loc, wE_lit, wE_con, wE_bin, wE_neg, wE_cmp, wE_cmp2, wE_isN, wE_notN, wE_isB, wE_not, wE_and, wE_or, wE_ite, wE_tup, wE_lst, wE_dic, wE_call, wE_make, wE_meth, wE_fld, wE_sub, wE_slice, wE_bi, wE_vi, wE_bm, wE_isi, wE_lc, wE_lck, eg, es, Option.some.injEq, exists_eq_left', Lit.val, cmpW, eqW_str]
      refine ⟨_, rfl, ?_⟩
      -- the sign itself
      have tail : ∀ S2, S2[S.length]? = some (.lst ((fl (d, r)).map .str)) → Fz S S2 → wSs P.con P.sub (callW P k) s4_f_pieces_of (fun c x S' => noX c S') (lp (fun env S' => ∃ st x3, env = [some (.str x), some (.ref S.length), some (.str st.2), x3] ∧ st = scan ([], "") (x.toList.take (i + 1)) ∧ st.1.length ≤ 2 * (i + 1) ∧ st.2.length ≤ i + 1 ∧ S'[S.length]? = some (.lst (st.1.map .str)) ∧ Fz S S') { nx := fun env' S' => wSs P.con P.sub (callW P k) s9_f_pieces_of (fun c x S' => noX c S') { nx := fun _ S' => pcQ (fl (scan ([], "") x.toList)) S Val.non S', rt := pcQ (fl (scan ([], "") x.toList)) S } env' S', rt := pcQ (fl (scan ([], "") x.toList)) S }) [some (.str x), some (.ref S.length), some (.str ""), some (.str (String.singleton c))] S2 := by
        intro S2 h2 f2
        have hfl := fl_len (st := (d, r))
        simp only at hfl c2
        simp only [s4_f_pieces_of, wSs, wS, wT, wEs, wO, wPs, wC, wSrc, wE_loc, wE_lit, wE_con, wE_bin, wE_neg, wE_cmp, wE_cmp2, wE_isN, wE_notN, wE_isB, wE_not, wE_and, wE_or, wE_ite, wE_tup, wE_lst, wE_dic, wE_call, wE_make, wE_meth, wE_fld, wE_sub, wE_slice, wE_bi, wE_vi, wE_bm, wE_isi, wE_lc, wE_lck, eg, es, Option.some.injEq, exists_eq_left', Lit.val, cmpW, eqW_str, truth, Option.some.injEq, exists_eq_left']
        have e1 : (String.singleton c = "(") ↔ c = '(' := by
          constructor
          · intro h
            have := congrArg String.toList h
            rw [String.toList_singleton] at this
            simpa using this
          · rintro rfl; rfl
        have e2 : (String.singleton c = ")") ↔ c = ')' := by
          constructor
          · intro h
            have := congrArg String.toList h
            rw [String.toList_singleton] at this
            simpa using this
          · rintro rfl; rfl
        have hs1 : scan1 (d, r) c = (fl (d, r) ++ (if c = '(' ∨ c = ')' then [String.singleton c] else []), "") := by rw [scan1, if_pos hst]
        have app : (c = '(' ∨ c = ')') → wSs P.con P.sub (callW P k) s3_f_pieces_of (fun c x S' => noX c S') (lp (fun env S' => ∃ st x3, env = [some (.str x), some (.ref S.length), some (.str st.2), x3] ∧ st = scan ([], "") (x.toList.take (i + 1)) ∧ st.1.length ≤ 2 * (i + 1) ∧ st.2.length ≤ i + 1 ∧ S'[S.length]? = some (.lst (st.1.map .str)) ∧ Fz S S') { nx := fun env' S' => wSs P.con P.sub (callW P k) s9_f_pieces_of (fun c x S' => noX c S') { nx := fun _ S' => pcQ (fl (scan ([], "") x.toList)) S Val.non S', rt := pcQ (fl (scan ([], "") x.toList)) S } env' S', rt := pcQ (fl (scan ([], "") x.toList)) S }) [some (.str x), some (.ref S.length), some (.str ""), some (.str (String.singleton c))] S2 := by
          intro hp
          simp only [s3_f_pieces_of, wSs, wS, wT, wEs, wO, wPs, wC, wSrc, wE_loc, wE_lit, wE_con, wE_bin, wE_neg, wE_cmp, wE_cmp2, wE_isN, wE_notN, wE_isB, wE_not, wE_and, wE_or, wE_ite, wE_tup, wE_lst, wE_dic, wE_call, wE_make, wE_meth, wE_fld, wE_sub, wE_slice, wE_bi, wE_vi, wE_bm, wE_isi, wE_lc, wE_lck, eg, es, Option.some.injEq, exists_eq_left', Lit.val, bmT, bmW]
          refine ⟨⟨_, _, rfl, lst_at h2⟩, _, h2, by rw [sizeLine_eq, List.length_map]; omega, (fl (d, r) ++ [String.singleton c], ""), _, rfl, ?_, by simp; omega, by simp, ?_, f2.set (Nat.le_refl _)⟩
          · rw [hscan, hs1, if_pos hp]
          · rw [get_set, h2]
            simp
        by_cases h3 : c = '('
        · rw [if_pos (decide_eq_true (e1.mpr h3)), if_pos trivial]
          exact app (.inl h3)
        · rw [if_neg (by simpa [e1] using h3)]
          by_cases h4 : c = ')'
          · rw [if_pos (decide_eq_true (e2.mpr h4))]
            exact app (.inr h4)
          · rw [if_neg (by simpa [e2] using h4)]
            refine ⟨(fl (d, r), ""), _, rfl, ?_, by simp; omega, by simp, h2, f2⟩
            rw [hscan, hs1, if_neg (by simp [h3, h4]), List.append_nil]
      by_cases hr : r = ""
      · rw [if_neg (by simpa using hr)]
        subst hr
        refine tail S' ?_ c5
        rw [fl_nil]
        exact c4
      · rw [if_pos (by simpa using hr)]
        simp only [s2_f_pieces_of, wSs, wS, wT, wEs, wO, wPs, wC, wSrc, wE_loc, wE_lit, wE_con, wE_bin, wE_neg, wE_cmp, wE_cmp2, wE_isN, wE_notN, wE_isB, wE_not, wE_and, wE_or, wE_ite, wE_tup, wE_lst, wE_dic, wE_call, wE_make, wE_meth, wE_fld, wE_sub, wE_slice, wE_bi, wE_vi, wE_bm, wE_isi, wE_lc, wE_lck, eg, es, Option.some.injEq, exists_eq_left', Lit.val, bmT, bmW]
        simp only at c2 c4
        refine ⟨⟨_, _, rfl, lst_at c4⟩, _, c4, by rw [sizeLine_eq, List.length_map]; omega, ?_⟩
        refine tail _ ?_ (c5.set (Nat.le_refl _))
        rw [get_set, c4]
        unfold fl
        rw [if_neg hr]
        simp
    · rw [if_pos (by rw [decide_eq_false hst]; rfl)]
      simp only [s1_f_pieces_of, wSs, wS, wT, wEs, wO, wPs, wC, wSrc, wE_loc, wE_lit, wE_con, wE_bin, wE_neg, wE_cmp, wE_cmp2, wE_isN, wE_notN, wE_isB, wE_not, wE_and, wE_or, wE_ite, wE_tup, wE_lst, wE_dic, wE_call, wE_make, wE_meth, wE_fld, wE_sub, wE_slice, wE_bi, wE_vi, wE_bm, wE_isi, wE_lc, wE_lck, eg, es, Option.some.injEq, exists_eq_left', Lit.val, ibinW]
      simp only at c2 c3 c4
      refine ⟨by rw [sizeLine_eq, len_sing]; omega, (d, r ++ String.singleton c), _, rfl, ?_, by simp; omega, by rw [String.length_append, len_sing]; omega, c4, c5⟩
      rw [hscan, scan1, if_neg hst]
  · rintro env S' ⟨⟨d, r⟩, x3, rfl, c1, c2, c3, c4, c5⟩
    rw [List.length_map] at c1 c2 c3
    rw [List.take_length] at c1
    rw [String.length_toList] at c2 c3
    simp only at c2 c3 c4
    refine ⟨trivial, ?_⟩
    simp only [s9_f_pieces_of, wSs, wS, wT, wEs, wO, wPs, wC, wSrc, wE_loc, wE_lit, wE_con, wE_bin, wE_neg, wE_cmp, wE_cmp2, wE_isN, wE_notN, wE_isB, wE_not, wE_and, wE_or, wE_ite, wE_tup, wE_lst, wE_dic, wE_call, wE_make, wE_meth, wE_fld, wE_sub, wE_slice, wE_bi, wE_vi, wE_bm, wE_isi, wE_lc, wE_lck, eg, es, Option.some.injEq, exists_eq_left', Lit.val, cmpW, eqW_str]
    refine ⟨_, rfl, ?_⟩
    rw [← c1]
    by_cases hr : r = ""
    · rw [if_neg (by simpa using hr)]
      subst hr
      simp only [s8_f_pieces_of, wSs, wS, wT, wEs, wO, wPs, wC, wSrc, wE_loc, wE_lit, wE_con, wE_bin, wE_neg, wE_cmp, wE_cmp2, wE_isN, wE_notN, wE_isB, wE_not, wE_and, wE_or, wE_ite, wE_tup, wE_lst, wE_dic, wE_call, wE_make, wE_meth, wE_fld, wE_sub, wE_slice, wE_bi, wE_vi, wE_bm, wE_isi, wE_lc, wE_lck, eg, es, Option.some.injEq, exists_eq_left', Lit.val]
      refine ⟨_, rfl, Nat.le_refl _, ?_, c5⟩
      rw [fl_nil]
      exact c4
    · rw [if_pos (by simpa using hr)]
      simp only [s7_f_pieces_of, s8_f_pieces_of, wSs, wS, wT, wEs, wO, wPs, wC, wSrc, wE_loc, wE_lit, wE_con, wE_bin, wE_neg, wE_cmp, wE_cmp2, wE_isN, wE_notN, wE_isB, wE_not, wE_and, wE_or, wE_ite, wE_tup, wE_lst, wE_dic, wE_call, wE_make, wE_meth, wE_fld, wE_sub, wE_slice, wE_bi, wE_vi, wE_bm, wE_isi, wE_lc, wE_lck, eg, es, Option.some.injEq, exists_eq_left', Lit.val, bmT, bmW]
      refine ⟨⟨_, _, rfl, lst_at c4⟩, _, c4, by rw [sizeLine_eq, List.length_map]; omega, _, rfl, Nat.le_refl _, ?_, c5.set (Nat.le_refl _)⟩
      rw [get_set, c4]
      unfold fl
      rw [if_neg hr]
      simp
end K08

set_option maxHeartbeats 1000000
namespace K08
open Mi PySem
/-! ### from pieces to things -/
inductive Step : List (List Val) → String → List (List Val) → Prop where
  | opn {st : List (List Val)} (h : st.length ≤ 20) : Step st "(" ([] :: st)
  | cls {us vs : List Val} {st : List (List Val)} : Step (us :: vs :: st) ")" ((vs ++ [.tup us]) :: st)
  | atm {v : Val} {s : String} {vs : List Val} {st : List (List Val)} (h : Atm v s) : Step (vs :: st) s ((vs ++ [v]) :: st)
inductive Chain : List (List Val) → List String → List (List Val) → Prop where
  | nil {st : List (List Val)} : Chain st [] st
  | cons {st st1 st2 : List (List Val)} {s : String} {ps : List String} (h : Step st s st1) (r : Chain st1 ps st2) : Chain st (s :: ps) st2
theorem Chain.app {st st1 st2 : List (List Val)} {ps qs : List String} (h : Chain st ps st1) (h2 : Chain st1 qs st2) : Chain st (ps ++ qs) st2 := by
  induction h with
  | nil => exact h2
  | cons h r ih => exact .cons h (ih h2)
theorem Chain.inv {st st2 : List (List Val)} {s : String} {ps : List String} (h : Chain st (s :: ps) st2) : ∃ st1, Step st s st1 ∧ Chain st1 ps st2 := by
  cases h with
  | cons h r => exact ⟨_, h, r⟩
theorem Chain.inv0 {st st2 : List (List Val)} (h : Chain st [] st2) : st = st2 := by
  cases h
  rfl
theorem ThL.chain {us : List Val} {ps : List String} {w n : Nat} (h : ThL us ps w n) : ∀ (vs : List Val) (st : List (List Val)), st.length + 1 + n ≤ 21 → Chain (vs :: st) ps ((vs ++ us) :: st) := by
  induction h with
  | nil => intro vs st _; simpa using Chain.nil
  | @atom v s us ps w n h r ih =>
    intro vs st hb
    have := ih (vs ++ [v]) st hb
    rw [List.append_assoc] at this
    exact .cons (.atm h) this
  | @tup as us qs ps w1 n1 w2 n2 a r iha ihr =>
    intro vs st hb
    have h1 := iha [] (vs :: st) (by simp only [List.length_cons]; omega)
    have h2 := ihr (vs ++ [.tup as]) st (by omega)
    rw [List.append_assoc] at h2
    exact .cons (.opn (by simp only [List.length_cons]; omega)) (h1.app (.cons .cls h2))
/-- the lists of a stack -/
def Reps (S : Hm) : List Nat → List (List Val) → Prop
  | [], [] => True
  | r :: rs, us :: st => S[r]? = some (.lst us) ∧ r ∉ rs ∧ Reps S rs st
  | _, _ => False
theorem Reps.keep {S S' : Hm} : ∀ {rs : List Nat} {st : List (List Val)}, Reps S rs st → (∀ r ∈ rs, S'[r]? = S[r]?) → Reps S' rs st
  | [], [], _, _ => trivial
  | r :: rs, us :: st, h, k => ⟨(k r List.mem_cons_self).trans h.1, h.2.1, h.2.2.keep fun x hx => k x (List.mem_cons_of_mem _ hx)⟩
  | [], _ :: _, h, _ => h.elim
  | _ :: _, [], h, _ => h.elim
theorem Reps.len {S : Hm} : ∀ {rs : List Nat} {st : List (List Val)}, Reps S rs st → rs.length = st.length
  | [], [], _ => rfl
  | r :: rs, us :: st, h => by rw [List.length_cons, List.length_cons, h.2.2.len]
  | [], _ :: _, h => h.elim
  | _ :: _, [], h => h.elim
theorem Reps.lt {S : Hm} : ∀ {rs : List Nat} {st : List (List Val)}, Reps S rs st → ∀ r ∈ rs, r < S.length
  | [], [], _, r, hr => by simp at hr
  | r :: rs, us :: st, h, x, hx => by
    rcases List.mem_cons.mp hx with rfl | hx
    · exact lt_get h.1
    · exact h.2.2.lt x hx
  | [], _ :: _, h, _, _ => h.elim
  | _ :: _, [], h, _, _ => h.elim
theorem ix_last {α : Type} {l : List α} {x : α} : atI (l ++ [x]) (-1) = some x := by
  have : ixN (l ++ [x]).length (-1) = some l.length := by
    unfold ixN
    rw [if_neg (by decide), if_pos (by simp; omega)]
    congr 1
    simp
    omega
  unfold atI
  rw [this]
  simp
theorem con_MSIG : P.con "MOST_SIGNS" = some (.int 6000) := by kernel_rfl
theorem con_MOPEN : P.con "MOST_OPEN" = some (.int 20) := by kernel_rfl
theorem things_of_ok {k n w : Nat} {x : String} {vs : List Val} {S : Hm} {ps : List String} (hl : x.length ≤ 6000) (hp : fl (scan ([], "") x.toList) = ps) (t : ThL vs ps w n) (hn : n ≤ 20) (hw : w ≤ 10 ^ 5) : callW P (k + 6) (.f "things_of") [.str x] S (fun v S' => v = .tup vs ∧ Fz S S') noX := by
  refine call_open (k := k + 5) fn_f_things_of ⟨rfl, ?_⟩
  show wSs _ _ _ s15_f_things_of _ _ [some (.str x), none, none, none] S
  simp only [s15_f_things_of, wSs, wS, wT, wEs, wO, wPs, wC, wSrc, wE_loc, wE_lit, wE_con, wE_bin, wE_neg, wE_cmp, wE_cmp2, wE_isN, wE_notN, wE_isB, wE_not, wE_and, wE_or, wE_ite, wE_tup, wE_lst, wE_dic, wE_call, wE_make, wE_meth, wE_fld, wE_sub, wE_slice, wE_bi, wE_vi, wE_bm, wE_isi, wE_lc, wE_lck, eg, es, Option.some.injEq, exists_eq_left', Lit.val, con_MSIG, biW, cmpW]
  refine ⟨by rw [sizeLine_eq]; omega, ?_⟩
  refine ⟨_, rfl, ?_⟩
  rw [if_neg (by rw [decide_eq_true_eq]; omega)]
  simp only [s14_f_things_of, wSs, wS, wT, wEs, wO, wPs, wC, wSrc, wE_loc, wE_lit, wE_con, wE_bin, wE_neg, wE_cmp, wE_cmp2, wE_isN, wE_notN, wE_isB, wE_not, wE_and, wE_or, wE_ite, wE_tup, wE_lst, wE_dic, wE_call, wE_make, wE_meth, wE_fld, wE_sub, wE_slice, wE_bi, wE_vi, wE_bm, wE_isi, wE_lc, wE_lck, eg, es, Option.some.injEq, exists_eq_left', Lit.val, seqOf]
  refine ⟨by rw [sizeLine_eq]; simp, by rw [sizeLine_eq]; simp, ?_⟩
  refine call_use (pieces_of_ok (k := k + 4) (by omega)) ?_
  rintro _ S1 ⟨t0, rfl, ht, ht1, f1⟩
  rw [hp] at ht1
  have hpl := t.len
  have g0 : S1[S.length]? = some (.lst []) := f1.get (get_app get_new)
  have g1 : S1[(S ++ [Ob.lst []]).length]? = some (.lst [.ref S.length]) := f1.get get_new
  have fz : Fz S S1 := (Fz.app _).trans ((Fz.app _).trans f1)
  simp only [List.length_append, List.length_cons, List.length_nil, Nat.zero_add] at ht g1
  refine ⟨_, lst_at ht1, ?_⟩
  simp only [List.length_append, List.length_cons, List.length_nil, Nat.zero_add]
  generalize hb : S.length + 1 = b at *
  refine for_inv (callW_mono P _) (fun i env S' => ∃ st rs x2 x3, env = [some (.str x), some (.ref b), x2, x3] ∧ Chain st (ps.drop i) [vs] ∧ (∀ us ∈ st, us.length ≤ i) ∧ S'[b]? = some (.lst (rs.reverse.map .ref)) ∧ Reps S' rs st ∧ (∀ r ∈ rs, S.length ≤ r ∧ r ≠ b ∧ r ≠ t0) ∧ S'[t0]? = some (.lst (ps.map .str)) ∧ st.length ≤ 21 ∧ Fz S S') ?_ ?_ ⟨[[]], [S.length], _, _, rfl, ?_, by simp, g1, ⟨g0, by simp, trivial⟩, ?_, ht1, by simp, fz⟩
  · rintro i v env S' hi ⟨st, rs, x2, x3, rfl, c1, c2, c3, c4, c5, c6, c7, c8⟩
    rw [List.getElem?_map] at hi
    obtain ⟨s, hs, rfl⟩ := Option.map_eq_some_iff.mp hi
    have hil := lt_get hs
    have hdr : ps.drop i = s :: ps.drop (i + 1) := by
      rw [List.drop_eq_getElem_cons hil]
      congr 1
      exact (List.getElem?_eq_some_iff.mp hs).2
    rw [hdr] at c1
    obtain ⟨st1, c9, c10⟩ := c1.inv
    have hbl := lt_get c3
    have htl := lt_get c6
    have hbt : b ≠ t0 := by omega
    refine ⟨lst_at c6, ?_⟩
    simp only [tgW, s10_f_things_of, wSs, wS, wT, wEs, wO, wPs, wC, wSrc, wE_loc, wE_lit, wE_con, wE_bin, wE_neg, wE_cmp, wE_cmp2, wE_isN, wE_notN, wE_isB, wE_not, wE_and, wE_or, wE_ite, wE_tup, wE_lst, wE_dic, wE_call, wE_make, wE_meth, wE_fld, wE_sub, wE_slice, wE_bi, wE_vi, wE_bm, wE_isi, wE_lc, wE_lck, eg, es, Option.some.injEq, exists_eq_left', Lit.val, cmpW, eqW_str, truth, Option.some.injEq, exists_eq_left']
    have hlen := c4.len
    cases c9 with
    | opn h =>
      rw [if_pos (by decide)]
      simp only [s4_f_things_of, wSs, wS, wT, wEs, wO, wPs, wC, wSrc, wE_loc, wE_lit, wE_con, wE_bin, wE_neg, wE_cmp, wE_cmp2, wE_isN, wE_notN, wE_isB, wE_not, wE_and, wE_or, wE_ite, wE_tup, wE_lst, wE_dic, wE_call, wE_make, wE_meth, wE_fld, wE_sub, wE_slice, wE_bi, wE_vi, wE_bm, wE_isi, wE_lc, wE_lck, eg, es, Option.some.injEq, exists_eq_left', Lit.val, con_MOPEN, cmpW]
      refine lenW_lst (lst_at c3) ⟨_, rfl, ?_⟩
      rw [if_neg (by rw [decide_eq_true_eq]; simp; omega)]
      simp only [s3_f_things_of, wSs, wS, wT, wEs, wO, wPs, wC, wSrc, wE_loc, wE_lit, wE_con, wE_bin, wE_neg, wE_cmp, wE_cmp2, wE_isN, wE_notN, wE_isB, wE_not, wE_and, wE_or, wE_ite, wE_tup, wE_lst, wE_dic, wE_call, wE_make, wE_meth, wE_fld, wE_sub, wE_slice, wE_bi, wE_vi, wE_bm, wE_isi, wE_lc, wE_lck, eg, es, Option.some.injEq, exists_eq_left', Lit.val, bmT, bmW]
      refine ⟨⟨_, _, rfl, lst_at c3⟩, by rw [sizeLine_eq]; simp, _, get_app c3, by rw [sizeLine_eq]; simp; omega, [] :: st, S'.length :: rs, _, _, rfl, c10, ?_, ?_, ⟨?_, ?_, ?_⟩, ?_, ?_, by simpa using h, ?_⟩
      · intro us hus
        rcases List.mem_cons.mp hus with rfl | hus
        · simp
        · have := c2 us hus; omega
      · rw [get_set, get_app c3]; simp
      · rw [get_ne (by omega)]; exact get_new
      · intro hm
        have := c4.lt _ hm
        omega
      · refine c4.keep fun r hr => ?_
        rw [get_ne (c5 r hr).2.1]
        exact List.getElem?_append_left (c4.lt r hr)
      · intro r hr
        rcases List.mem_cons.mp hr with rfl | hr
        · exact ⟨c8.1, by omega, by omega⟩
        · exact c5 r hr
      · rw [get_ne (Ne.symm hbt)]; exact get_app c6
      · exact (c8.trans (Fz.app _)).set (by omega)
    | @cls us vs' st2 =>
      rw [if_neg (by decide)]
      simp only [s9_f_things_of, wSs, wS, wT, wEs, wO, wPs, wC, wSrc, wE_loc, wE_lit, wE_con, wE_bin, wE_neg, wE_cmp, wE_cmp2, wE_isN, wE_notN, wE_isB, wE_not, wE_and, wE_or, wE_ite, wE_tup, wE_lst, wE_dic, wE_call, wE_make, wE_meth, wE_fld, wE_sub, wE_slice, wE_bi, wE_vi, wE_bm, wE_isi, wE_lc, wE_lck, eg, es, Option.some.injEq, exists_eq_left', Lit.val, cmpW, eqW_str, truth, Option.some.injEq, exists_eq_left']
      rw [if_pos (by decide)]
      simp only [s7_f_things_of, wSs, wS, wT, wEs, wO, wPs, wC, wSrc, wE_loc, wE_lit, wE_con, wE_bin, wE_neg, wE_cmp, wE_cmp2, wE_isN, wE_notN, wE_isB, wE_not, wE_and, wE_or, wE_ite, wE_tup, wE_lst, wE_dic, wE_call, wE_make, wE_meth, wE_fld, wE_sub, wE_slice, wE_bi, wE_vi, wE_bm, wE_isi, wE_lc, wE_lck, eg, es, Option.some.injEq, exists_eq_left', Lit.val, cmpW]
      refine lenW_lst (lst_at c3) ?_
      rw [eqW_int]
      refine ⟨_, rfl, ?_⟩
      cases rs with
      | nil => simp at hlen
      | cons r rs =>
      cases rs with
      | nil => simp at hlen
      | cons r2 rs =>
        obtain ⟨d1, d2, d3, d4, d5⟩ := c4
        rw [if_neg (by simp; omega)]
        simp only [s6_f_things_of, wSs, wS, wT, wEs, wO, wPs, wC, wSrc, wE_loc, wE_lit, wE_con, wE_bin, wE_neg, wE_cmp, wE_cmp2, wE_isN, wE_notN, wE_isB, wE_not, wE_and, wE_or, wE_ite, wE_tup, wE_lst, wE_dic, wE_call, wE_make, wE_meth, wE_fld, wE_sub, wE_slice, wE_bi, wE_vi, wE_bm, wE_isi, wE_lc, wE_lck, eg, es, Option.some.injEq, exists_eq_left', Lit.val]
        have e1 : ((r :: r2 :: rs).reverse.map Val.ref) = (rs.reverse.map Val.ref ++ [.ref r2]) ++ [.ref r] := by simp
        rw [e1] at c3
        have hrb := c5 r (by simp)
        have hr2b := c5 r2 (by simp)
        refine ⟨⟨_, _, rfl, lst_at c3⟩, _, .ref r, c3, by rw [List.length_append, List.length_singleton, Nat.add_sub_cancel, List.getElem?_append_right (Nat.le_refl _), Nat.sub_self]; rfl, ?_⟩
        rw [List.dropLast_concat]
        refine ⟨us, lst_at (by rw [get_ne hrb.2.1]; exact d1), ?_⟩
        have cb : (S'.set b (.lst (rs.reverse.map Val.ref ++ [.ref r2])))[b]? = some (.lst (rs.reverse.map Val.ref ++ [.ref r2])) := by rw [get_set, c3]; rfl
        have cr2 : (S'.set b (.lst (rs.reverse.map Val.ref ++ [.ref r2])))[r2]? = some (.lst vs') := by rw [get_ne hr2b.2.1]; exact d3
        refine ⟨1, rfl, subW_lst (lst_at cb) ix_last ?_⟩
        have hv' := c2 vs' (by simp)
        refine ⟨⟨_, _, rfl, lst_at cr2⟩, _, cr2, by rw [sizeLine_eq]; omega, _, r2 :: rs, _, _, rfl, c10, ?_, ?_, ⟨?_, d4, ?_⟩, fun y hy => c5 y (List.mem_cons_of_mem _ hy), ?_, by simp only [List.length_cons] at c7 ⊢; omega, ?_⟩
        · intro us' hus
          rcases List.mem_cons.mp hus with rfl | hus
          · simp; omega
          · have := c2 us' (by simp [hus]); omega
        · rw [get_ne (Ne.symm hr2b.2.1), cb]; simp
        · rw [get_set, cr2]; rfl
        · refine d5.keep fun y hy => ?_
          rw [get_ne (by rintro rfl; exact d4 hy), get_ne (c5 y (by simp [hy])).2.1]
        · rw [get_ne (Ne.symm hr2b.2.2), get_ne (Ne.symm hbt)]; exact c6
        · exact (c8.set (by omega)).set hr2b.1
    | @atm v s vs' st2 h =>
      have hnp := runW_par h.runW
      rw [if_neg (by rw [decide_eq_true_eq]; exact fun z => hnp (.inl z))]
      simp only [s9_f_things_of, wSs, wS, wT, wEs, wO, wPs, wC, wSrc, wE_loc, wE_lit, wE_con, wE_bin, wE_neg, wE_cmp, wE_cmp2, wE_isN, wE_notN, wE_isB, wE_not, wE_and, wE_or, wE_ite, wE_tup, wE_lst, wE_dic, wE_call, wE_make, wE_meth, wE_fld, wE_sub, wE_slice, wE_bi, wE_vi, wE_bm, wE_isi, wE_lc, wE_lck, eg, es, Option.some.injEq, exists_eq_left', Lit.val, cmpW, eqW_str, truth, Option.some.injEq, exists_eq_left']
      rw [if_neg (by rw [decide_eq_true_eq]; exact fun z => hnp (.inr z))]
      simp only [s8_f_things_of, wSs, wS, wT, wEs, wO, wPs, wC, wSrc, wE_loc, wE_lit, wE_con, wE_bin, wE_neg, wE_cmp, wE_cmp2, wE_isN, wE_notN, wE_isB, wE_not, wE_and, wE_or, wE_ite, wE_tup, wE_lst, wE_dic, wE_call, wE_make, wE_meth, wE_fld, wE_sub, wE_slice, wE_bi, wE_vi, wE_bm, wE_isi, wE_lc, wE_lck, eg, es, Option.some.injEq, exists_eq_left', Lit.val, bmT, bmW]
      cases rs with
      | nil => simp at hlen
      | cons r rs =>
        obtain ⟨d1, d2, d3⟩ := c4
        have e1 : ((r :: rs).reverse.map Val.ref) = rs.reverse.map Val.ref ++ [.ref r] := by simp
        rw [e1] at c3
        refine ⟨1, rfl, subW_lst (lst_at c3) ix_last ?_⟩
        refine ⟨⟨_, _, rfl, lst_at d1⟩, ?_⟩
        refine call_use (thing_of_ok (k := k) h) ?_
        rintro _ S2 ⟨rfl, l, rfl⟩
        have hrb := c5 r (by simp)
        have hv' := c2 vs' (by simp)
        refine ⟨_, get_app d1, by rw [sizeLine_eq]; omega, _, r :: rs, _, _, rfl, c10, ?_, ?_, ⟨?_, d2, ?_⟩, c5, ?_, by simpa using c7, ?_⟩
        · intro us' hus
          rcases List.mem_cons.mp hus with rfl | hus
          · simp; omega
          · have := c2 us' (by simp [hus]); omega
        · rw [get_ne (Ne.symm hrb.2.1), get_app c3]; simp
        · rw [get_set, get_app d1]; rfl
        · refine d3.keep fun y hy => ?_
          rw [get_ne (by rintro rfl; exact d2 hy)]
          exact List.getElem?_append_left (d3.lt y hy)
        · rw [get_ne (Ne.symm hrb.2.2)]; exact get_app c6
        · exact (c8.trans (Fz.app _)).set hrb.1
  · rintro env S' ⟨st, rs, x2, x3, rfl, c1, c2, c3, c4, c5, c6, c7, c8⟩
    rw [List.length_map, List.drop_length] at c1
    have := c1.inv0
    subst this
    refine ⟨lst_at c6, ?_⟩
    simp only [s13_f_things_of, wSs, wS, wT, wEs, wO, wPs, wC, wSrc, wE_loc, wE_lit, wE_con, wE_bin, wE_neg, wE_cmp, wE_cmp2, wE_isN, wE_notN, wE_isB, wE_not, wE_and, wE_or, wE_ite, wE_tup, wE_lst, wE_dic, wE_call, wE_make, wE_meth, wE_fld, wE_sub, wE_slice, wE_bi, wE_vi, wE_bm, wE_isi, wE_lc, wE_lck, eg, es, Option.some.injEq, exists_eq_left', Lit.val, cmpW]
    have hlen := c4.len
    cases rs with
    | nil => simp at hlen
    | cons r rs =>
    cases rs with
    | cons r2 rs => simp at hlen
    | nil =>
      obtain ⟨d1, _, _⟩ := c4
      refine lenW_lst (lst_at c3) ⟨_, rfl, ?_⟩
      rw [if_neg (by simp)]
      simp only [s12_f_things_of, wSs, wS, wT, wEs, wO, wPs, wC, wSrc, wE_loc, wE_lit, wE_con, wE_bin, wE_neg, wE_cmp, wE_cmp2, wE_isN, wE_notN, wE_isB, wE_not, wE_and, wE_or, wE_ite, wE_tup, wE_lst, wE_dic, wE_call, wE_make, wE_meth, wE_fld, wE_sub, wE_slice, wE_bi, wE_vi, wE_bm, wE_isi, wE_lc, wE_lck, eg, es, Option.some.injEq, exists_eq_left', Lit.val, biW]
      refine subW_lst (lst_at c3) (v := .ref r) ix_zero ?_
      exact ⟨_, lst_at d1, rfl, c8⟩
  · simpa using t.chain [] [] (by simp; omega)
  · intro r hr
    have : r = S.length := by simpa using hr
    subst this
    exact ⟨Nat.le_refl _, by omega, by omega⟩
/-! ### the same things -/
theorem pairL_self : ∀ xs : List Val, pairL xs xs = xs.map fun x => .tup [x, x]
  | [] => rfl
  | x :: xs => by rw [pairL, pairL_self xs]; rfl
theorem same_all {vs : List Val} {ps : List String} {w n : Nat} (h : ThL vs ps w n) : w ≤ 10 ^ 5 → ∀ v ∈ vs, ∀ k, n + 1 ≤ k → ∀ S, callW P k (.f "_law_same") [v, v] S (fun r S' => r = .bl true ∧ Fz S S') noX := by
  induction h with
  | nil => exact fun _ v hv => by simp at hv
  | @atom v s vs ps w n h r ih =>
    intro hw v2 hv k hk S
    rcases List.mem_cons.mp hv with rfl | hv
    · obtain ⟨j, rfl⟩ : ∃ j, k = j + 1 := ⟨k - 1, by omega⟩
      refine call_open (k := j) fn_f_law_same ⟨rfl, ?_⟩
      show wSs _ _ _ s7_f_law_same _ _ [some v2, some v2, none, none] S
      cases h with
      | num h =>
        simp only [s7_f_law_same, wSs, wS, wT, wEs, wO, wPs, wC, wSrc, wE_loc, wE_lit, wE_con, wE_bin, wE_neg, wE_cmp, wE_cmp2, wE_isN, wE_notN, wE_isB, wE_not, wE_and, wE_or, wE_ite, wE_tup, wE_lst, wE_dic, wE_call, wE_make, wE_meth, wE_fld, wE_sub, wE_slice, wE_bi, wE_vi, wE_bm, wE_isi, wE_lc, wE_lck, eg, es, Option.some.injEq, exists_eq_left', Lit.val, isTy, List.mapM_cons, List.mapM_nil]
        refine ⟨_, rfl, _, rfl, ?_⟩
        rw [if_neg (by decide)]
        simp only [s6_f_law_same, wSs, wS, wT, wEs, wO, wPs, wC, wSrc, wE_loc, wE_lit, wE_con, wE_bin, wE_neg, wE_cmp, wE_cmp2, wE_isN, wE_notN, wE_isB, wE_not, wE_and, wE_or, wE_ite, wE_tup, wE_lst, wE_dic, wE_call, wE_make, wE_meth, wE_fld, wE_sub, wE_slice, wE_bi, wE_vi, wE_bm, wE_isi, wE_lc, wE_lck, eg, es, Option.some.injEq, exists_eq_left', Lit.val, isTy, List.mapM_cons, List.mapM_nil]
        refine ⟨_, rfl, _, rfl, ?_⟩
        rw [if_neg (by decide)]
        simp only [s5_f_law_same, wSs, wS, wT, wEs, wO, wPs, wC, wSrc, wE_loc, wE_lit, wE_con, wE_bin, wE_neg, wE_cmp, wE_cmp2, wE_isN, wE_notN, wE_isB, wE_not, wE_and, wE_or, wE_ite, wE_tup, wE_lst, wE_dic, wE_call, wE_make, wE_meth, wE_fld, wE_sub, wE_slice, wE_bi, wE_vi, wE_bm, wE_isi, wE_lc, wE_lck, eg, es, Option.some.injEq, exists_eq_left', Lit.val, isTy, List.mapM_cons, List.mapM_nil, cmpW, eqW_int]
        refine ⟨_, rfl, _, rfl, ?_⟩
        rw [if_pos (by decide)]
        refine ⟨_, rfl, _, rfl, _, rfl, ?_⟩
        rw [if_pos (by decide)]
        exact ⟨by simp, Fz.refl _⟩
      | word h =>
        simp only [s7_f_law_same, wSs, wS, wT, wEs, wO, wPs, wC, wSrc, wE_loc, wE_lit, wE_con, wE_bin, wE_neg, wE_cmp, wE_cmp2, wE_isN, wE_notN, wE_isB, wE_not, wE_and, wE_or, wE_ite, wE_tup, wE_lst, wE_dic, wE_call, wE_make, wE_meth, wE_fld, wE_sub, wE_slice, wE_bi, wE_vi, wE_bm, wE_isi, wE_lc, wE_lck, eg, es, Option.some.injEq, exists_eq_left', Lit.val, isTy, List.mapM_cons, List.mapM_nil]
        refine ⟨_, rfl, _, rfl, ?_⟩
        rw [if_neg (by decide)]
        simp only [s6_f_law_same, wSs, wS, wT, wEs, wO, wPs, wC, wSrc, wE_loc, wE_lit, wE_con, wE_bin, wE_neg, wE_cmp, wE_cmp2, wE_isN, wE_notN, wE_isB, wE_not, wE_and, wE_or, wE_ite, wE_tup, wE_lst, wE_dic, wE_call, wE_make, wE_meth, wE_fld, wE_sub, wE_slice, wE_bi, wE_vi, wE_bm, wE_isi, wE_lc, wE_lck, eg, es, Option.some.injEq, exists_eq_left', Lit.val, isTy, List.mapM_cons, List.mapM_nil]
        refine ⟨_, rfl, _, rfl, ?_⟩
        rw [if_pos (by decide)]
        simp only [s4_f_law_same, wSs, wS, wT, wEs, wO, wPs, wC, wSrc, wE_loc, wE_lit, wE_con, wE_bin, wE_neg, wE_cmp, wE_cmp2, wE_isN, wE_notN, wE_isB, wE_not, wE_and, wE_or, wE_ite, wE_tup, wE_lst, wE_dic, wE_call, wE_make, wE_meth, wE_fld, wE_sub, wE_slice, wE_bi, wE_vi, wE_bm, wE_isi, wE_lc, wE_lck, eg, es, Option.some.injEq, exists_eq_left', Lit.val, isTy, List.mapM_cons, List.mapM_nil, cmpW, eqW_str]
        refine ⟨_, rfl, _, rfl, ?_⟩
        rw [if_pos (by decide)]
        exact ⟨by simp, Fz.refl _⟩
    · exact ih (by omega) v2 hv k hk S
  | @tup us vs qs ps w1 n1 w2 n2 a r iha ihr =>
    intro hw v2 hv k hk S
    rcases List.mem_cons.mp hv with rfl | hv
    · obtain ⟨j, rfl⟩ : ∃ j, k = j + 1 := ⟨k - 1, by omega⟩
      have la := a.len
      refine call_open (k := j) fn_f_law_same ⟨rfl, ?_⟩
      show wSs _ _ _ s7_f_law_same _ _ [some (.tup us), some (.tup us), none, none] S
      simp only [s7_f_law_same, wSs, wS, wT, wEs, wO, wPs, wC, wSrc, wE_loc, wE_lit, wE_con, wE_bin, wE_neg, wE_cmp, wE_cmp2, wE_isN, wE_notN, wE_isB, wE_not, wE_and, wE_or, wE_ite, wE_tup, wE_lst, wE_dic, wE_call, wE_make, wE_meth, wE_fld, wE_sub, wE_slice, wE_bi, wE_vi, wE_bm, wE_isi, wE_lc, wE_lck, eg, es, Option.some.injEq, exists_eq_left', Lit.val, isTy, List.mapM_cons, List.mapM_nil]
      refine ⟨_, rfl, _, rfl, ?_⟩
      rw [if_pos (by decide)]
      simp only [s3_f_law_same, wSs, wS, wT, wEs, wO, wPs, wC, wSrc, wE_loc, wE_lit, wE_con, wE_bin, wE_neg, wE_cmp, wE_cmp2, wE_isN, wE_notN, wE_isB, wE_not, wE_and, wE_or, wE_ite, wE_tup, wE_lst, wE_dic, wE_call, wE_make, wE_meth, wE_fld, wE_sub, wE_slice, wE_bi, wE_vi, wE_bm, wE_isi, wE_lc, wE_lck, eg, es, Option.some.injEq, exists_eq_left', Lit.val, isTy, List.mapM_cons, List.mapM_nil]
      refine ⟨_, rfl, _, rfl, ?_⟩
      rw [if_neg (by decide)]
      simp only [biW, cmpW]
      rw [eqW_int]
      refine ⟨_, rfl, ?_⟩
      rw [if_neg (by simp)]
      simp only [s2_f_law_same, wSs, wS, wT, wEs, wO, wPs, wC, wSrc, wE_loc, wE_lit, wE_con, wE_bin, wE_neg, wE_cmp, wE_cmp2, wE_isN, wE_notN, wE_isB, wE_not, wE_and, wE_or, wE_ite, wE_tup, wE_lst, wE_dic, wE_call, wE_make, wE_meth, wE_fld, wE_sub, wE_slice, wE_bi, wE_vi, wE_bm, wE_isi, wE_lc, wE_lck, eg, es, Option.some.injEq, exists_eq_left', Lit.val]
      refine .inr ⟨_, _, rfl, rfl, ?_⟩
      rw [pairL_self]
      refine lcr_inv (callW_mono P _) (fun i acc S' => acc = (List.replicate i true).map Val.bl ∧ Fz S S') ?_ ?_ ⟨rfl, Fz.refl _⟩
      · rintro i w' acc S' hi ⟨rfl, l⟩
        have hi' := lt_get hi
        rw [List.getElem?_map] at hi
        obtain ⟨x, hx, rfl⟩ := Option.map_eq_some_iff.mp hi
        refine ⟨trivial, ?_⟩
        simp only [tgW, List.map_cons, List.map_nil, ewipe, wSs, wS, wT, wEs, wO, wPs, wC, wSrc, wE_loc, wE_lit, wE_con, wE_bin, wE_neg, wE_cmp, wE_cmp2, wE_isN, wE_notN, wE_isB, wE_not, wE_and, wE_or, wE_ite, wE_tup, wE_lst, wE_dic, wE_call, wE_make, wE_meth, wE_fld, wE_sub, wE_slice, wE_bi, wE_vi, wE_bm, wE_isi, wE_lc, wE_lck, eg, es, Option.some.injEq, exists_eq_left', Lit.val, if_true, Val.tup.injEq, List.length_cons, List.length_nil, List.zip_cons_cons, List.zip_nil_right, List.foldl_cons, List.foldl_nil, true_and]
        refine call_use (iha (by omega) x (List.mem_of_getElem? hx) j (by omega) S') ?_
        rintro r S2 ⟨rfl, l2⟩
        refine ⟨by rw [sizeLine_eq]; simp at hi' ⊢; omega, ?_, l.trans l2⟩
        rw [List.replicate_succ', List.map_append]
        rfl
      · rintro acc S' ⟨rfl, l⟩
        refine ⟨trivial, ?_⟩
        simp only [biW]
        refine ⟨_, lst_at get_new, ?_, l.trans (Fz.app _)⟩
        simp
    · exact ihr (by omega) v2 hv k (by omega) S
end K08

set_option maxHeartbeats 1000000
namespace K08
open Mi PySem
/-! ### things, and which of them are phrases -/
inductive Pl : Nat → Val → Prop where
  | int {d : Nat} (i : Int) : Pl d (.int i)
  | str {d : Nat} {s : String} : s.length ≤ 10 ^ 4 → Pl d (.str s)
  | tup {d : Nat} {vs : List Val} : (∀ v ∈ vs, Pl d v) → vs.length ≤ 100 → Pl (d + 1) (.tup vs)
theorem Pl.le {d : Nat} {v : Val} (h : Pl d v) : ∀ {e : Nat}, d ≤ e → Pl e v := by
  induction h with
  | int i => intro e _; exact .int i
  | str h => intro e _; exact .str h
  | @tup n vs hv hl ih =>
    intro e he
    obtain ⟨e, rfl⟩ : ∃ f, e = f + 1 := ⟨e - 1, by omega⟩
    exact .tup (fun v h => ih v h (by omega)) hl
def isW (t : String) : Val → Bool
  | .str s => decide (s = t)
  | _ => false
theorem dat_pl {S : Hm} {d : Nat} {v : Val} (h : Pl d v) : ∀ k, d ≤ k → ∃ x, dat S k v = some x := by
  induction h with
  | int i => intro k _; exact ⟨.int i, by cases k <;> rfl⟩
  | @str _ s _ => intro k _; exact ⟨.str (Str.ofString s), by cases k <;> rfl⟩
  | @tup n vs hv hl ih =>
    intro k hk
    obtain ⟨k, rfl⟩ : ∃ j, k = j + 1 := ⟨k - 1, by omega⟩
    have all : ∀ (ws : List Val), (∀ w ∈ ws, ∃ x, dat S k w = some x) → ∃ xs, ws.mapM (dat S k) = some xs := by
      intro ws
      induction ws with
      | nil => intro _; exact ⟨[], rfl⟩
      | cons w r ihw =>
        intro hw
        obtain ⟨x, e1⟩ := hw w List.mem_cons_self
        obtain ⟨xs, e3⟩ := ihw fun u hu => hw u (List.mem_cons_of_mem _ hu)
        exact ⟨x :: xs, by rw [List.mapM_cons, e1, e3]; rfl⟩
    obtain ⟨xs, e1⟩ := all vs fun w hw => ih w hw k (by omega)
    exact ⟨.tuple xs, by simp only [dat]; rw [e1]; rfl⟩
theorem eq_word {d : Nat} {v : Val} (h : Pl d v) (hd : d ≤ 50) {S : Hm} {t : String} {Q : Bool → Prop} (q : Q (isW t v)) : eqW v (.str t) S Q := by
  cases h with
  | int i =>
    refine .inl ⟨.int i, .str (Str.ofString t), rfl, rfl, ?_⟩
    simpa only [PyData.eqv, isW] using q
  | str h => rw [eqW_str]; exact q
  | @tup n vs hv hl =>
    obtain ⟨x, e⟩ := dat_pl (S := S) (Pl.tup hv hl) 60 (by omega)
    have ex : ∃ xs, x = .tuple xs := by
      simp only [dat] at e
      cases e2 : vs.mapM (dat S 59) with
      | none => rw [e2] at e; cases e
      | some xs => rw [e2] at e; cases e; exact ⟨xs, rfl⟩
    obtain ⟨xs, rfl⟩ := ex
    refine .inl ⟨_, .str (Str.ofString t), e, rfl, ?_⟩
    simpa only [PyData.eqv, isW] using q
def isStr : Val → Bool
  | .str _ => true
  | _ => false
theorem is_word_ok {k d : Nat} {v : Val} (h : Pl d v) {S : Hm} : callW P (k + 1) (.f "is_word") [v] S (fun r S' => S' = S ∧ r = .bl (isStr v)) noX := by
  refine call_open fn_f_is_word ⟨rfl, ?_⟩
  show wSs _ _ _ s1_f_is_word _ _ [some v] S
  simp only [s1_f_is_word, wSs, wS, wT, wEs, wO, wPs, wC, wSrc, wE_loc, wE_lit, wE_con, wE_bin, wE_neg, wE_cmp, wE_cmp2, wE_isN, wE_notN, wE_isB, wE_not, wE_and, wE_or, wE_ite, wE_tup, wE_lst, wE_dic, wE_call, wE_make, wE_meth, wE_fld, wE_sub, wE_slice, wE_bi, wE_vi, wE_bm, wE_isi, wE_lc, wE_lck, eg, es, Option.some.injEq, exists_eq_left', Lit.val]
  cases h <;> simp [isTy, isStr]
def isRow (lo hi : Nat) : Val → Bool
  | .tup vs => decide (lo ≤ vs.length) && decide (vs.length ≤ hi)
  | _ => false
theorem is_row_ok {k d lo hi : Nat} {v : Val} (h : Pl d v) {S : Hm} : callW P (k + 1) (.f "is_row") [v, .int lo, .int hi] S (fun r S' => S' = S ∧ r = .bl (isRow lo hi v)) noX := by
  refine call_open fn_f_is_row ⟨rfl, ?_⟩
  show wSs _ _ _ s1_f_is_row _ _ [some v, some (.int lo), some (.int hi)] S
  simp only [s1_f_is_row, wSs, wS, wT, wEs, wO, wPs, wC, wSrc, wE_loc, wE_lit, wE_con, wE_bin, wE_neg, wE_cmp, wE_cmp2, wE_isN, wE_notN, wE_isB, wE_not, wE_and, wE_or, wE_ite, wE_tup, wE_lst, wE_dic, wE_call, wE_make, wE_meth, wE_fld, wE_sub, wE_slice, wE_bi, wE_vi, wE_bm, wE_isi, wE_lc, wE_lck, eg, es, Option.some.injEq, exists_eq_left', Lit.val]
  cases h with
  | int i => simp [isTy, isRow]
  | str h => simp [isTy, isRow]
  | @tup n vs hv hl =>
    refine ⟨[true], rfl, _, rfl, ?_⟩
    rw [if_pos (by rfl)]
    simp only [biW, cmpW, isRow]
    by_cases h1 : lo ≤ vs.length
    · rw [if_pos (decide_eq_true (by omega))]
      refine ⟨trivial, ?_⟩
      simp [h1]
    · rw [if_neg (by rw [decide_eq_true_eq]; omega)]
      simp [h1]

def wordB (s : String) : Bool := small s || (path s || great s)
def smallN : Val → Bool
  | .str s => small s
  | _ => false
def greatN : Val → Bool
  | .str s => great s
  | _ => false
def plainL : List String := ["plus", "minus", "times", "less", "call"]
def ringRow (f : Val → Bool) : Val → Bool
  | .tup [a, b, p] => smallN a && smallN b && f p
  | _ => false
def ringB (f : Val → Bool) : List Val → Bool
  | [.tup rs, p] => decide (1 ≤ rs.length) && decide (rs.length ≤ 4) && (rs.all (ringRow f) && f p)
  | _ => false
def armB (f : Val → Bool) : Val → Bool
  | .tup [.tup (g :: ns), p] => decide (ns.length ≤ 4) && f p && (greatN g && ns.all smallN)
  | _ => false
def caseB (f : Val → Bool) : List Val → Bool
  | p :: arms => decide (1 ≤ arms.length) && decide (arms.length ≤ 6) && (f p && arms.all (armB f))
  | [] => false
def namedB (f : Val → Bool) (lo hi : Nat) : List Val → Bool
  | nm :: r => decide (lo ≤ r.length) && decide (r.length ≤ hi) && smallN nm && r.all f
  | [] => false
def headB (f : Val → Bool) (s : String) (vs : List Val) : Bool :=
  if great s = true then decide (vs.length ≤ 4) && vs.all f
  else if s ∈ plainL then decide (vs.length = 2) && vs.all f
  else if s = "if" then decide (vs.length = 3) && vs.all f
  else if s = "fun" ∨ s = "pick" then namedB f 1 1 vs
  else if s = "let" then namedB f 2 2 vs
  else if s = "make" then namedB f 1 4 vs
  else if s = "ring" then ringB f vs
  else decide (s = "case") && caseB f vs
def phF (f : Val → Bool) : Val → Bool
  | .int _ => true
  | .str s => wordB s
  | .tup (.str s :: vs) => decide (1 ≤ vs.length) && decide (vs.length ≤ 7) && headB f s vs
  | _ => false
def phD : Nat → Val → Bool
  | 0 => phF fun _ => false
  | d + 1 => phF (phD d)
def Tells (S : Hm) (b : Bool) : Post := fun r S' => (∃ l, S' = S ++ l) ∧ r = .bl b
theorem Tells.app {S : Hm} {b : Bool} {l : Hm} {r : Val} {S' : Hm} (h : Tells (S ++ l) b r S') : Tells S b r S' := by
  obtain ⟨⟨m, rfl⟩, h⟩ := h
  exact ⟨⟨l ++ m, by simp⟩, h⟩
theorem Tells.here {S : Hm} {b : Bool} : Tells S b (.bl b) S := ⟨⟨[], by simp⟩, rfl⟩
/-- all([g(x) for x in xs]) -/
theorem all_call {g : String} {b : Val → Bool} {k i : Nat} {xs : List Val} {env : Mi.Env} {S : Hm} {Q : Post} (hg : ∀ w ∈ xs, ∀ S, callW P k (.f g) [w] S (Tells S (b w)) noX) (hl : xs.length ≤ 100) (he : ∀ w, eg (es (ewipe env [i]) i (some w)) i = some w)
    (hq : ∀ l, Q (.bl (xs.all b)) (S ++ l)) : lcRun P.con (callW P k) (.call g (.cons (.loc i) .nil)) (.nm i) .none env [i] (fun _ => True) xs [] S (fun acc S2 => biW .all [.ref S2.length] (S2 ++ [.lst acc]) Q) := by
  refine lcr_inv (callW_mono P _) (fun i acc S' => acc = ((xs.take i).map b).map Val.bl ∧ ∃ l, S' = S ++ l) ?_ ?_ ⟨by simp, [], by simp⟩
  · rintro j w acc S' hi ⟨rfl, l, rfl⟩
    have hi2 := lt_get hi
    refine ⟨trivial, ?_⟩
    simp only [tgW, wC, wSs, wS, wT, wEs, wO, wPs, wC, wSrc, wE_loc, wE_lit, wE_con, wE_bin, wE_neg, wE_cmp, wE_cmp2, wE_isN, wE_notN, wE_isB, wE_not, wE_and, wE_or, wE_ite, wE_tup, wE_lst, wE_dic, wE_call, wE_make, wE_meth, wE_fld, wE_sub, wE_slice, wE_bi, wE_vi, wE_bm, wE_isi, wE_lc, wE_lck, eg, es, Option.some.injEq, exists_eq_left', Lit.val, if_true, he]
    refine call_use (hg w (List.mem_of_getElem? hi) _) ?_
    rintro r S2 ⟨⟨l2, rfl⟩, rfl⟩
    refine ⟨by rw [sizeLine_eq]; simp [List.length_take]; omega, ?_, l ++ l2, by simp⟩
    rw [List.take_add_one, hi]
    simp
  · rintro acc S' ⟨rfl, l, rfl⟩
    refine ⟨trivial, ?_⟩
    rw [List.take_length]
    simp only [biW]
    refine ⟨_, lst_at get_new, ?_⟩
    have := hq (l ++ [.lst ((xs.map b).map Val.bl)])
    rw [← List.append_assoc] at this
    rw [List.all_map]
    exact this
theorem is_whole_ok {k d : Nat} {v : Val} (h : Pl d v) {S : Hm} : callW P (k + 1) (.f "is_whole") [v] S (fun r S' => S' = S ∧ r = .bl (match v with | .int _ => true | _ => false)) noX := by
  refine call_open fn_f_is_whole ⟨rfl, ?_⟩
  show wSs _ _ _ s1_f_is_whole _ _ [some v] S
  simp only [s1_f_is_whole, wSs, wS, wT, wEs, wO, wPs, wC, wSrc, wE_loc, wE_lit, wE_con, wE_bin, wE_neg, wE_cmp, wE_cmp2, wE_isN, wE_notN, wE_isB, wE_not, wE_and, wE_or, wE_ite, wE_tup, wE_lst, wE_dic, wE_call, wE_make, wE_meth, wE_fld, wE_sub, wE_slice, wE_bi, wE_vi, wE_bm, wE_isi, wE_lc, wE_lck, eg, es, Option.some.injEq, exists_eq_left', Lit.val]
  cases h <;> simp [isTy]
theorem is_small_name_ok {k d : Nat} {v : Val} (h : Pl d v) {S : Hm} : callW P (k + 4) (.f "is_small_name") [v] S (Tells S (smallN v)) noX := by
  refine call_open (k := k + 3) fn_f_is_small_name ⟨rfl, ?_⟩
  show wSs _ _ _ s1_f_is_small_name _ _ [some v] S
  simp only [s1_f_is_small_name, wSs, wS, wT, wEs, wO, wPs, wC, wSrc, wE_loc, wE_lit, wE_con, wE_bin, wE_neg, wE_cmp, wE_cmp2, wE_isN, wE_notN, wE_isB, wE_not, wE_and, wE_or, wE_ite, wE_tup, wE_lst, wE_dic, wE_call, wE_make, wE_meth, wE_fld, wE_sub, wE_slice, wE_bi, wE_vi, wE_bm, wE_isi, wE_lc, wE_lck, eg, es, Option.some.injEq, exists_eq_left', Lit.val]
  refine call_use (is_word_ok (k := k + 2) h) ?_
  rintro _ S1 ⟨rfl, rfl⟩
  refine ⟨_, rfl, ?_⟩
  cases h with
  | int i => exact Tells.here
  | tup _ _ => exact Tells.here
  | @str _ s hs =>
    simp only [isStr, if_true, smallN]
    exact call_use (is_small_ok (k := k) hs) fun _ _ h => h
theorem is_great_name_ok {k d : Nat} {v : Val} (h : Pl d v) {S : Hm} : callW P (k + 4) (.f "is_great_name") [v] S (Tells S (greatN v)) noX := by
  refine call_open (k := k + 3) fn_f_is_great_name ⟨rfl, ?_⟩
  show wSs _ _ _ s1_f_is_great_name _ _ [some v] S
  simp only [s1_f_is_great_name, wSs, wS, wT, wEs, wO, wPs, wC, wSrc, wE_loc, wE_lit, wE_con, wE_bin, wE_neg, wE_cmp, wE_cmp2, wE_isN, wE_notN, wE_isB, wE_not, wE_and, wE_or, wE_ite, wE_tup, wE_lst, wE_dic, wE_call, wE_make, wE_meth, wE_fld, wE_sub, wE_slice, wE_bi, wE_vi, wE_bm, wE_isi, wE_lc, wE_lck, eg, es, Option.some.injEq, exists_eq_left', Lit.val]
  refine call_use (is_word_ok (k := k + 2) h) ?_
  rintro _ S1 ⟨rfl, rfl⟩
  refine ⟨_, rfl, ?_⟩
  cases h with
  | int i => exact Tells.here
  | tup _ _ => exact Tells.here
  | @str _ s hs =>
    simp only [isStr, if_true, greatN]
    refine call_use (is_great_ok (k := k) hs) ?_
    rintro _ _ ⟨rfl, rfl⟩
    exact Tells.here
theorem row_of {lo hi : Nat} {v : Val} (h : isRow lo hi v = true) : ∃ vs, v = .tup vs ∧ lo ≤ vs.length ∧ vs.length ≤ hi := by
  cases v with
  | tup vs => simp only [isRow, Bool.and_eq_true, decide_eq_true_eq] at h; exact ⟨vs, rfl, h⟩
  | _ => cases h
theorem Pl.in {d : Nat} {vs : List Val} (h : Pl d (.tup vs)) : ∃ e, d = e + 1 ∧ (∀ v ∈ vs, Pl e v) ∧ vs.length ≤ 100 := by
  cases h with
  | tup h1 h2 => exact ⟨_, rfl, h1, h2⟩
theorem ringRow_no {f : Val → Bool} {v : Val} (h : isRow 3 3 v = false) : ringRow f v = false := by
  unfold ringRow
  split
  · simp [isRow] at h
  · rfl
section
variable {i d : Nat} {f : Val → Bool} (hf : ∀ w, Pl d w → ∀ S, callW P (i + 6) (.f "is_phrase") [w] S (Tells S (f w)) noX)
include hf
theorem all_phrases_ok {ws : List Val} (hw : ∀ w ∈ ws, Pl d w) (hl : ws.length ≤ 100) {S : Hm} : callW P (i + 7) (.f "all_phrases") [.tup ws] S (Tells S (ws.all f)) noX := by
  refine call_open (k := i + 6) fn_f_all_phrases ⟨rfl, ?_⟩
  show wSs _ _ _ s1_f_all_phrases _ _ [some (.tup ws), none] S
  simp only [s1_f_all_phrases, wSs, wS, wT, wEs, wO, wPs, wC, wSrc, wE_loc, wE_lit, wE_con, wE_bin, wE_neg, wE_cmp, wE_cmp2, wE_isN, wE_notN, wE_isB, wE_not, wE_and, wE_or, wE_ite, wE_tup, wE_lst, wE_dic, wE_call, wE_make, wE_meth, wE_fld, wE_sub, wE_slice, wE_bi, wE_vi, wE_bm, wE_isi, wE_lc, wE_lck, eg, es, Option.some.injEq, exists_eq_left', Lit.val, seqOf]
  exact all_call (fun w h => hf w (hw w h)) hl (fun _ => rfl) fun l => ⟨⟨l, rfl⟩, rfl⟩
theorem is_ring_row_ok {v : Val} (hv : Pl d v) {S : Hm} : callW P (i + 7) (.f "is_ring_row") [v] S (Tells S (ringRow f v)) noX := by
  refine call_open (k := i + 6) fn_f_is_ring_row ⟨rfl, ?_⟩
  show wSs _ _ _ s3_f_is_ring_row _ _ [some v] S
  simp only [s3_f_is_ring_row, wSs, wS, wT, wEs, wO, wPs, wC, wSrc, wE_loc, wE_lit, wE_con, wE_bin, wE_neg, wE_cmp, wE_cmp2, wE_isN, wE_notN, wE_isB, wE_not, wE_and, wE_or, wE_ite, wE_tup, wE_lst, wE_dic, wE_call, wE_make, wE_meth, wE_fld, wE_sub, wE_slice, wE_bi, wE_vi, wE_bm, wE_isi, wE_lc, wE_lck, eg, es, Option.some.injEq, exists_eq_left', Lit.val]
  refine call_use (is_row_ok (k := i + 5) (lo := 3) (hi := 3) hv) ?_
  rintro _ S1 ⟨rfl, rfl⟩
  refine ⟨_, rfl, ?_⟩
  cases hb : isRow 3 3 v with
  | false =>
    rw [if_pos (by decide), if_pos trivial]
    simp only [s1_f_is_ring_row, wSs, wS, wT, wEs, wO, wPs, wC, wSrc, wE_loc, wE_lit, wE_con, wE_bin, wE_neg, wE_cmp, wE_cmp2, wE_isN, wE_notN, wE_isB, wE_not, wE_and, wE_or, wE_ite, wE_tup, wE_lst, wE_dic, wE_call, wE_make, wE_meth, wE_fld, wE_sub, wE_slice, wE_bi, wE_vi, wE_bm, wE_isi, wE_lc, wE_lck, eg, es, Option.some.injEq, exists_eq_left', Lit.val]
    rw [ringRow_no hb]
    exact Tells.here
  | true =>
    rw [if_neg (by decide)]
    obtain ⟨vs, rfl, h1, h2⟩ := row_of hb
    match vs, h1, h2 with
    | [a, b, p], _, _ =>
    obtain ⟨e, rfl, hvs, _⟩ := hv.in
    have pa := hvs a (by simp)
    have pb := hvs b (by simp)
    have pp := hvs p (by simp)
    refine ⟨a, ix_zero, ?_⟩
    refine call_use (is_small_name_ok (k := i + 2) pa) ?_
    rintro _ S2 ⟨⟨l2, rfl⟩, rfl⟩
    refine ⟨_, rfl, ?_⟩
    have er : ringRow f (.tup [a, b, p]) = (smallN a && smallN b && f p) := rfl
    rw [er]
    cases smallN a with
    | false =>
      rw [if_pos (by decide), if_pos trivial]
      simp only [s1_f_is_ring_row, wSs, wS, wT, wEs, wO, wPs, wC, wSrc, wE_loc, wE_lit, wE_con, wE_bin, wE_neg, wE_cmp, wE_cmp2, wE_isN, wE_notN, wE_isB, wE_not, wE_and, wE_or, wE_ite, wE_tup, wE_lst, wE_dic, wE_call, wE_make, wE_meth, wE_fld, wE_sub, wE_slice, wE_bi, wE_vi, wE_bm, wE_isi, wE_lc, wE_lck, eg, es, Option.some.injEq, exists_eq_left', Lit.val]
      exact Tells.here.app
    | true =>
      rw [if_neg (by decide)]
      refine ⟨b, rfl, ?_⟩
      refine call_use (is_small_name_ok (k := i + 2) pb) ?_
      rintro _ S3 ⟨⟨l3, rfl⟩, rfl⟩
      refine ⟨_, rfl, ?_⟩
      cases smallN b with
      | false =>
        rw [if_pos (by decide)]
        simp only [s1_f_is_ring_row, wSs, wS, wT, wEs, wO, wPs, wC, wSrc, wE_loc, wE_lit, wE_con, wE_bin, wE_neg, wE_cmp, wE_cmp2, wE_isN, wE_notN, wE_isB, wE_not, wE_and, wE_or, wE_ite, wE_tup, wE_lst, wE_dic, wE_call, wE_make, wE_meth, wE_fld, wE_sub, wE_slice, wE_bi, wE_vi, wE_bm, wE_isi, wE_lc, wE_lck, eg, es, Option.some.injEq, exists_eq_left', Lit.val]
        exact Tells.here.app.app
      | true =>
        rw [if_neg (by decide)]
        simp only [s2_f_is_ring_row, wSs, wS, wT, wEs, wO, wPs, wC, wSrc, wE_loc, wE_lit, wE_con, wE_bin, wE_neg, wE_cmp, wE_cmp2, wE_isN, wE_notN, wE_isB, wE_not, wE_and, wE_or, wE_ite, wE_tup, wE_lst, wE_dic, wE_call, wE_make, wE_meth, wE_fld, wE_sub, wE_slice, wE_bi, wE_vi, wE_bm, wE_isi, wE_lc, wE_lck, eg, es, Option.some.injEq, exists_eq_left', Lit.val]
        refine ⟨p, rfl, ?_⟩
        exact call_use (hf p (pp.le (by omega)) _) fun _ _ h => h.app.app
theorem is_arm_ok {v : Val} (hv : Pl d v) {S : Hm} : callW P (i + 7) (.f "is_arm") [v] S (Tells S (armB f v)) noX := by
  refine call_open (k := i + 6) fn_f_is_arm ⟨rfl, ?_⟩
  show wSs _ _ _ s3_f_is_arm _ _ [some v, none] S
  simp only [s3_f_is_arm, wSs, wS, wT, wEs, wO, wPs, wC, wSrc, wE_loc, wE_lit, wE_con, wE_bin, wE_neg, wE_cmp, wE_cmp2, wE_isN, wE_notN, wE_isB, wE_not, wE_and, wE_or, wE_ite, wE_tup, wE_lst, wE_dic, wE_call, wE_make, wE_meth, wE_fld, wE_sub, wE_slice, wE_bi, wE_vi, wE_bm, wE_isi, wE_lc, wE_lck, eg, es, Option.some.injEq, exists_eq_left', Lit.val]
  refine call_use (is_row_ok (k := i + 5) (lo := 2) (hi := 2) hv) ?_
  rintro _ S1 ⟨rfl, rfl⟩
  refine ⟨_, rfl, ?_⟩
  cases hb : isRow 2 2 v with
  | false =>
    rw [if_pos (by decide), if_pos trivial]
    simp only [s1_f_is_arm, wSs, wS, wT, wEs, wO, wPs, wC, wSrc, wE_loc, wE_lit, wE_con, wE_bin, wE_neg, wE_cmp, wE_cmp2, wE_isN, wE_notN, wE_isB, wE_not, wE_and, wE_or, wE_ite, wE_tup, wE_lst, wE_dic, wE_call, wE_make, wE_meth, wE_fld, wE_sub, wE_slice, wE_bi, wE_vi, wE_bm, wE_isi, wE_lc, wE_lck, eg, es, Option.some.injEq, exists_eq_left', Lit.val]
    have : armB f v = false := by
      unfold armB
      split
      · simp [isRow] at hb
      · rfl
    rw [this]
    exact Tells.here
  | true =>
    rw [if_neg (by decide)]
    obtain ⟨vs, rfl, h1, h2⟩ := row_of hb
    match vs, h1, h2 with
    | [h, p], _, _ =>
    obtain ⟨e, rfl, hvs, _⟩ := hv.in
    have ph := hvs h (by simp)
    have pp := hvs p (by simp)
    refine ⟨h, ix_zero, ?_⟩
    refine call_use (is_row_ok (k := i + 5) (lo := 1) (hi := 5) ph) ?_
    rintro _ S2 ⟨rfl, rfl⟩
    refine ⟨_, rfl, ?_⟩
    cases hb2 : isRow 1 5 h with
    | false =>
      rw [if_pos (by decide), if_pos trivial]
      simp only [s1_f_is_arm, wSs, wS, wT, wEs, wO, wPs, wC, wSrc, wE_loc, wE_lit, wE_con, wE_bin, wE_neg, wE_cmp, wE_cmp2, wE_isN, wE_notN, wE_isB, wE_not, wE_and, wE_or, wE_ite, wE_tup, wE_lst, wE_dic, wE_call, wE_make, wE_meth, wE_fld, wE_sub, wE_slice, wE_bi, wE_vi, wE_bm, wE_isi, wE_lc, wE_lck, eg, es, Option.some.injEq, exists_eq_left', Lit.val]
      have : armB f (.tup [h, p]) = false := by
        unfold armB
        split
        · rename_i g ns p' e1
          cases e1
          simp only [isRow, List.length_cons, Bool.and_eq_false_iff, decide_eq_false_iff_not] at hb2
          have : decide (ns.length ≤ 4) = false := by simp; omega
          rw [this]; rfl
        · rfl
      rw [this]
      exact Tells.here
    | true =>
      rw [if_neg (by decide)]
      obtain ⟨us, rfl, h3, h4⟩ := row_of hb2
      match us, h3, h4 with
      | g :: ns, _, h4 =>
      obtain ⟨e', rfl, hus, _⟩ := ph.in
      have er : armB f (.tup [.tup (g :: ns), p]) = (decide (ns.length ≤ 4) && f p && (greatN g && ns.all smallN)) := rfl
      rw [er, show decide (ns.length ≤ 4) = true from by simp at h4 ⊢; omega]
      refine ⟨p, rfl, ?_⟩
      refine call_use (hf p (pp.le (by omega)) _) ?_
      rintro _ S3 ⟨⟨l3, rfl⟩, rfl⟩
      refine ⟨_, rfl, ?_⟩
      cases f p with
      | false =>
        rw [if_pos (by decide)]
        simp only [s1_f_is_arm, wSs, wS, wT, wEs, wO, wPs, wC, wSrc, wE_loc, wE_lit, wE_con, wE_bin, wE_neg, wE_cmp, wE_cmp2, wE_isN, wE_notN, wE_isB, wE_not, wE_and, wE_or, wE_ite, wE_tup, wE_lst, wE_dic, wE_call, wE_make, wE_meth, wE_fld, wE_sub, wE_slice, wE_bi, wE_vi, wE_bm, wE_isi, wE_lc, wE_lck, eg, es, Option.some.injEq, exists_eq_left', Lit.val]
        exact Tells.here.app
      | true =>
        rw [if_neg (by decide)]
        simp only [s2_f_is_arm, wSs, wS, wT, wEs, wO, wPs, wC, wSrc, wE_loc, wE_lit, wE_con, wE_bin, wE_neg, wE_cmp, wE_cmp2, wE_isN, wE_notN, wE_isB, wE_not, wE_and, wE_or, wE_ite, wE_tup, wE_lst, wE_dic, wE_call, wE_make, wE_meth, wE_fld, wE_sub, wE_slice, wE_bi, wE_vi, wE_bm, wE_isi, wE_lc, wE_lck, eg, es, Option.some.injEq, exists_eq_left', Lit.val]
        refine ⟨_, ix_zero, g, ix_zero, ?_⟩
        refine call_use (is_great_name_ok (k := i + 2) (hus g (by simp))) ?_
        rintro _ S4 ⟨⟨l4, rfl⟩, rfl⟩
        refine ⟨_, rfl, ?_⟩
        cases greatN g with
        | false => exact Tells.here.app.app
        | true =>
          rw [if_pos (by decide)]
          refine ⟨_, ix_zero, ?_⟩
          simp only [sliceW, Val.int.injEq, exists_eq_left', seqOf]
          rw [show cut (g :: ns) (some 1) none = ns from cut_from (i := 1)]
          refine all_call (b := smallN) (fun w hw S => is_small_name_ok (k := i + 2) (hus w (List.mem_cons_of_mem _ hw))) (by simp at h4; omega) (fun _ => rfl) fun l => ?_
          exact Tells.app (l := l3) (Tells.app (l := l4) ⟨⟨l, rfl⟩, rfl⟩)
end
end K08

set_option maxHeartbeats 1000000
namespace K08
open Mi PySem
/-! ### things, and which of them are kinds -/
abbrev isArr : Val → Bool := isW "->"
def kname : Val → Bool
  | .str s => small s || path s
  | _ => false
mutual
def kd : Val → Bool
  | .str s => decide (s = "num") || (vari s || (small s || path s))
  | .tup xs => kdT xs
  | _ => false
def kdT : List Val → Bool
  | [] => false
  | h :: vs => decide (1 ≤ vs.length) && decide (vs.length ≤ 3) && (if isArr h = true then decide (vs.length = 2) && kds vs else kname h && kds vs)
def kds : List Val → Bool
  | [] => true
  | v :: vs => kd v && kds vs
end
theorem kds_eq : ∀ vs, kds vs = vs.all kd
  | [] => rfl
  | v :: vs => by rw [kds, kds_eq vs]; rfl
theorem is_kind_name_ok {k d : Nat} {v : Val} (h : Pl d v) {S : Hm} : callW P (k + 5) (.f "is_kind_name") [v] S (fun r S' => (∃ l, S' = S ++ l) ∧ r = .bl (kname v)) noX := by
  refine call_open (k := k + 4) fn_f_is_kind_name ⟨rfl, ?_⟩
  show wSs _ _ _ s1_f_is_kind_name _ _ [some v] S
  simp only [s1_f_is_kind_name, wSs, wS, wT, wEs, wO, wPs, wC, wSrc, wE_loc, wE_lit, wE_con, wE_bin, wE_neg, wE_cmp, wE_cmp2, wE_isN, wE_notN, wE_isB, wE_not, wE_and, wE_or, wE_ite, wE_tup, wE_lst, wE_dic, wE_call, wE_make, wE_meth, wE_fld, wE_sub, wE_slice, wE_bi, wE_vi, wE_bm, wE_isi, wE_lc, wE_lck, eg, es, Option.some.injEq, exists_eq_left', Lit.val]
  refine call_use (is_word_ok (k := k + 3) h) ?_
  rintro _ S1 ⟨rfl, rfl⟩
  refine ⟨_, rfl, ?_⟩
  cases h with
  | int i => exact ⟨⟨[], by simp⟩, rfl⟩
  | tup _ _ => exact ⟨⟨[], by simp⟩, rfl⟩
  | @str _ s hs =>
    simp only [isStr, if_true, kname]
    refine call_use (is_small_ok (k := k + 1) hs) ?_
    rintro _ S2 ⟨⟨l, rfl⟩, rfl⟩
    refine ⟨_, rfl, ?_⟩
    cases small s with
    | true => exact ⟨⟨l, rfl⟩, rfl⟩
    | false =>
      rw [if_neg (by decide)]
      refine call_use (is_path_ok (k := k) hs) ?_
      rintro _ S3 ⟨⟨l2, rfl⟩, rfl⟩
      exact ⟨⟨l ++ l2, by simp⟩, rfl⟩
theorem is_kind_str {k : Nat} {s : String} {S : Hm} (hs : s.length ≤ 10 ^ 4) : callW P (k + 6) (.f "is_kind") [.str s] S (fun r S' => (∃ l, S' = S ++ l) ∧ r = .bl (kd (.str s))) noX := by
  refine call_open (k := k + 5) fn_f_is_kind ⟨rfl, ?_⟩
  show wSs _ _ _ s7_f_is_kind _ _ [some (.str s)] S
  simp only [s7_f_is_kind, wSs, wS, wT, wEs, wO, wPs, wC, wSrc, wE_loc, wE_lit, wE_con, wE_bin, wE_neg, wE_cmp, wE_cmp2, wE_isN, wE_notN, wE_isB, wE_not, wE_and, wE_or, wE_ite, wE_tup, wE_lst, wE_dic, wE_call, wE_make, wE_meth, wE_fld, wE_sub, wE_slice, wE_bi, wE_vi, wE_bm, wE_isi, wE_lc, wE_lck, eg, es, Option.some.injEq, exists_eq_left', Lit.val]
  refine call_use (is_word_ok (k := k + 4) (d := 0) (.str hs)) ?_
  rintro _ S1 ⟨rfl, rfl⟩
  simp only [isStr, truth, Option.some.injEq, exists_eq_left', if_true, s1_f_is_kind, wSs, wS, wT, wEs, wO, wPs, wC, wSrc, wE_loc, wE_lit, wE_con, wE_bin, wE_neg, wE_cmp, wE_cmp2, wE_isN, wE_notN, wE_isB, wE_not, wE_and, wE_or, wE_ite, wE_tup, wE_lst, wE_dic, wE_call, wE_make, wE_meth, wE_fld, wE_sub, wE_slice, wE_bi, wE_vi, wE_bm, wE_isi, wE_lc, wE_lck, eg, es, Option.some.injEq, exists_eq_left', Lit.val, cmpW]
  rw [eqW_str]
  refine ⟨_, rfl, ?_⟩
  rw [kd]
  by_cases h1 : s = "num"
  · rw [if_pos (decide_eq_true h1)]
    exact ⟨⟨[], by simp⟩, by simp [h1]⟩
  · rw [if_neg (by rw [decide_eq_true_eq]; exact h1)]
    refine call_use (is_variable_ok (k := k + 2) hs) ?_
    rintro _ S2 ⟨rfl, rfl⟩
    refine ⟨_, rfl, ?_⟩
    cases vari s with
    | true => exact ⟨⟨[], by simp⟩, by simp⟩
    | false =>
      rw [if_neg (by decide)]
      refine call_use (is_kind_name_ok (k := k) (d := 0) (.str hs)) ?_
      rintro _ S3 ⟨⟨l2, rfl⟩, rfl⟩
      exact ⟨⟨l2, rfl⟩, by simp [h1, kname]⟩
theorem is_kind_ok : ∀ (d : Nat) (v : Val), Pl d v → d ≤ 40 → ∀ (k : Nat) (S : Hm), callW P (k + 2 * d + 6) (.f "is_kind") [v] S (fun r S' => (∃ l, S' = S ++ l) ∧ r = .bl (kd v)) noX := by
  intro d
  induction d using Nat.strongRecOn with
  | _ d ih =>
  intro v hv hd k S
  cases hv with
  | str hs => exact is_kind_str (k := k + 2 * d) hs
  | int i =>
    refine call_open (k := k + 2 * d + 5) fn_f_is_kind ⟨rfl, ?_⟩
    show wSs _ _ _ s7_f_is_kind _ _ [some (.int i)] S
    simp only [s7_f_is_kind, wSs, wS, wT, wEs, wO, wPs, wC, wSrc, wE_loc, wE_lit, wE_con, wE_bin, wE_neg, wE_cmp, wE_cmp2, wE_isN, wE_notN, wE_isB, wE_not, wE_and, wE_or, wE_ite, wE_tup, wE_lst, wE_dic, wE_call, wE_make, wE_meth, wE_fld, wE_sub, wE_slice, wE_bi, wE_vi, wE_bm, wE_isi, wE_lc, wE_lck, eg, es, Option.some.injEq, exists_eq_left', Lit.val]
    refine call_use (is_word_ok (k := k + 2 * d + 4) (d := 0) (.int i)) ?_
    rintro _ S1 ⟨rfl, rfl⟩
    simp only [isStr, truth, Option.some.injEq, exists_eq_left', Bool.false_eq_true, if_false, s6_f_is_kind, wSs, wS, wT, wEs, wO, wPs, wC, wSrc, wE_loc, wE_lit, wE_con, wE_bin, wE_neg, wE_cmp, wE_cmp2, wE_isN, wE_notN, wE_isB, wE_not, wE_and, wE_or, wE_ite, wE_tup, wE_lst, wE_dic, wE_call, wE_make, wE_meth, wE_fld, wE_sub, wE_slice, wE_bi, wE_vi, wE_bm, wE_isi, wE_lc, wE_lck, eg, es, Option.some.injEq, exists_eq_left', Lit.val]
    refine call_use (is_row_ok (k := k + 2 * d + 4) (d := 0) (lo := 2) (hi := 4) (.int i)) ?_
    rintro _ S2 ⟨rfl, rfl⟩
    simp only [isRow, truth, Option.some.injEq, exists_eq_left', Bool.not_false, if_true, s2_f_is_kind, wSs, wS, wT, wEs, wO, wPs, wC, wSrc, wE_loc, wE_lit, wE_con, wE_bin, wE_neg, wE_cmp, wE_cmp2, wE_isN, wE_notN, wE_isB, wE_not, wE_and, wE_or, wE_ite, wE_tup, wE_lst, wE_dic, wE_call, wE_make, wE_meth, wE_fld, wE_sub, wE_slice, wE_bi, wE_vi, wE_bm, wE_isi, wE_lc, wE_lck, eg, es, Option.some.injEq, exists_eq_left', Lit.val]
    exact ⟨⟨[], by simp⟩, by rw [kd] <;> simp⟩
  | @tup e vs hvs hl =>
    have all_kinds : ∀ (ws : List Val), (∀ w ∈ ws, w ∈ vs) → ws.length ≤ 100 → ∀ S, callW P (k + 2 * (e + 1) + 5) (.f "all_kinds") [.tup ws] S (fun r S' => (∃ l, S' = S ++ l) ∧ r = .bl (kds ws)) noX := by
      intro ws hws hwl S
      refine call_open (k := k + 2 * e + 6) fn_f_all_kinds ⟨rfl, ?_⟩
      show wSs _ _ _ s1_f_all_kinds _ _ [some (.tup ws), none] S
      simp only [s1_f_all_kinds, wSs, wS, wT, wEs, wO, wPs, wC, wSrc, wE_loc, wE_lit, wE_con, wE_bin, wE_neg, wE_cmp, wE_cmp2, wE_isN, wE_notN, wE_isB, wE_not, wE_and, wE_or, wE_ite, wE_tup, wE_lst, wE_dic, wE_call, wE_make, wE_meth, wE_fld, wE_sub, wE_slice, wE_bi, wE_vi, wE_bm, wE_isi, wE_lc, wE_lck, eg, es, Option.some.injEq, exists_eq_left', Lit.val, seqOf]
      refine lcr_inv (callW_mono P _) (fun i acc S' => acc = ((ws.take i).map kd).map Val.bl ∧ ∃ l, S' = S ++ l) ?_ ?_ ⟨by simp, [], by simp⟩
      · rintro i w acc S' hi ⟨rfl, l, rfl⟩
        have hm := hws w (List.mem_of_getElem? hi)
        refine ⟨trivial, ?_⟩
        simp only [tgW, List.map_cons, List.map_nil, ewipe, wSs, wS, wT, wEs, wO, wPs, wC, wSrc, wE_loc, wE_lit, wE_con, wE_bin, wE_neg, wE_cmp, wE_cmp2, wE_isN, wE_notN, wE_isB, wE_not, wE_and, wE_or, wE_ite, wE_tup, wE_lst, wE_dic, wE_call, wE_make, wE_meth, wE_fld, wE_sub, wE_slice, wE_bi, wE_vi, wE_bm, wE_isi, wE_lc, wE_lck, eg, es, Option.some.injEq, exists_eq_left', Lit.val, if_true]
        refine call_use (ih e (by omega) w (hvs w hm) (by omega) k _) ?_
        rintro r S2 ⟨⟨l2, rfl⟩, rfl⟩
        have hi2 := lt_get hi
        refine ⟨by rw [sizeLine_eq]; simp [List.length_take]; omega, ?_, l ++ l2, by simp⟩
        rw [List.take_add_one, hi]
        simp
      · rintro acc S' ⟨rfl, l, rfl⟩
        refine ⟨trivial, ?_⟩
        rw [List.take_length]
        simp only [biW]
        refine ⟨_, lst_at get_new, ⟨l ++ [_], by simp; rfl⟩, ?_⟩
        rw [kds_eq, List.all_map]
        rfl
    refine call_open (k := k + 2 * e + 7) fn_f_is_kind ⟨rfl, ?_⟩
    show wSs _ _ _ s7_f_is_kind _ _ [some (.tup vs)] S
    simp only [s7_f_is_kind, wSs, wS, wT, wEs, wO, wPs, wC, wSrc, wE_loc, wE_lit, wE_con, wE_bin, wE_neg, wE_cmp, wE_cmp2, wE_isN, wE_notN, wE_isB, wE_not, wE_and, wE_or, wE_ite, wE_tup, wE_lst, wE_dic, wE_call, wE_make, wE_meth, wE_fld, wE_sub, wE_slice, wE_bi, wE_vi, wE_bm, wE_isi, wE_lc, wE_lck, eg, es, Option.some.injEq, exists_eq_left', Lit.val]
    refine call_use (is_word_ok (k := k + 2 * e + 6) (Pl.tup hvs hl)) ?_
    rintro _ S1 ⟨rfl, rfl⟩
    simp only [isStr, truth, Option.some.injEq, exists_eq_left', Bool.false_eq_true, if_false, s6_f_is_kind, wSs, wS, wT, wEs, wO, wPs, wC, wSrc, wE_loc, wE_lit, wE_con, wE_bin, wE_neg, wE_cmp, wE_cmp2, wE_isN, wE_notN, wE_isB, wE_not, wE_and, wE_or, wE_ite, wE_tup, wE_lst, wE_dic, wE_call, wE_make, wE_meth, wE_fld, wE_sub, wE_slice, wE_bi, wE_vi, wE_bm, wE_isi, wE_lc, wE_lck, eg, es, Option.some.injEq, exists_eq_left', Lit.val]
    refine call_use (is_row_ok (k := k + 2 * e + 6) (lo := 2) (hi := 4) (Pl.tup hvs hl)) ?_
    rintro _ S2 ⟨rfl, rfl⟩
    simp only [isRow, truth, Option.some.injEq, exists_eq_left', kd]
    by_cases h1 : 2 ≤ vs.length ∧ vs.length ≤ 4
    · have hr : (!(decide (2 ≤ vs.length) && decide (vs.length ≤ 4))) = false := by simp [h1]
      rw [hr, if_neg (by decide)]
      cases vs with
      | nil => simp at h1
      | cons h ws =>
        simp only [List.length_cons] at h1
        have hws : ∀ w ∈ ws, w ∈ h :: ws := fun w hw => List.mem_cons_of_mem _ hw
        simp only [s5_f_is_kind, wSs, wS, wT, wEs, wO, wPs, wC, wSrc, wE_loc, wE_lit, wE_con, wE_bin, wE_neg, wE_cmp, wE_cmp2, wE_isN, wE_notN, wE_isB, wE_not, wE_and, wE_or, wE_ite, wE_tup, wE_lst, wE_dic, wE_call, wE_make, wE_meth, wE_fld, wE_sub, wE_slice, wE_bi, wE_vi, wE_bm, wE_isi, wE_lc, wE_lck, eg, es, Option.some.injEq, exists_eq_left', Lit.val, cmpW, subW]
        refine ⟨h, ix_zero, ?_⟩
        have hh := hvs h List.mem_cons_self
        refine eq_word hh (by omega) ?_
        rw [kdT]
        have hd1 : (decide (1 ≤ ws.length) && decide (ws.length ≤ 3)) = true := by simp; omega
        rw [hd1]
        have hcut : cut (h :: ws) (some 1) none = ws := cut_from (i := 1)
        cases ha : isW "->" h with
        | true =>
          simp only [truth, Option.some.injEq, exists_eq_left', if_true, s3_f_is_kind, wSs, wS, wT, wEs, wO, wPs, wC, wSrc, wE_loc, wE_lit, wE_con, wE_bin, wE_neg, wE_cmp, wE_cmp2, wE_isN, wE_notN, wE_isB, wE_not, wE_and, wE_or, wE_ite, wE_tup, wE_lst, wE_dic, wE_call, wE_make, wE_meth, wE_fld, wE_sub, wE_slice, wE_bi, wE_vi, wE_bm, wE_isi, wE_lc, wE_lck, eg, es, Option.some.injEq, exists_eq_left', Lit.val, cmpW, biW, sliceW, ha]
          rw [eqW_int]
          refine ⟨_, rfl, ?_⟩
          by_cases h2 : ws.length = 2
          · rw [if_pos (by simp; omega)]
            refine ⟨1, rfl, ?_⟩
            rw [hcut]
            refine call_use (all_kinds ws hws (by simp at hl; omega) _) ?_
            rintro _ S3 ⟨hl3, rfl⟩
            exact ⟨hl3, by simp [h2]⟩
          · rw [if_neg (by simp; omega)]
            exact ⟨⟨[], by simp⟩, by simp [h2]⟩
        | false =>
          simp only [truth, Option.some.injEq, exists_eq_left', Bool.false_eq_true, if_false, s4_f_is_kind, wSs, wS, wT, wEs, wO, wPs, wC, wSrc, wE_loc, wE_lit, wE_con, wE_bin, wE_neg, wE_cmp, wE_cmp2, wE_isN, wE_notN, wE_isB, wE_not, wE_and, wE_or, wE_ite, wE_tup, wE_lst, wE_dic, wE_call, wE_make, wE_meth, wE_fld, wE_sub, wE_slice, wE_bi, wE_vi, wE_bm, wE_isi, wE_lc, wE_lck, eg, es, Option.some.injEq, exists_eq_left', Lit.val, subW, sliceW, ha]
          refine ⟨h, ix_zero, ?_⟩
          refine call_use (lift_to (k := k + 2 * e + 2 + 5) (by omega) (is_kind_name_ok hh)) ?_
          rintro _ S3 ⟨⟨l3, rfl⟩, rfl⟩
          refine ⟨_, rfl, ?_⟩
          cases hk : kname h with
          | false => exact ⟨⟨l3, rfl⟩, by simp⟩
          | true =>
            rw [if_pos rfl]
            refine ⟨1, rfl, ?_⟩
            rw [hcut]
            refine call_use (all_kinds ws hws (by simp at hl; omega) _) ?_
            rintro _ S4 ⟨⟨l4, rfl⟩, rfl⟩
            exact ⟨⟨l3 ++ l4, by simp⟩, by simp⟩
    · have hr : (!(decide (2 ≤ vs.length) && decide (vs.length ≤ 4))) = true := by
        simp only [Bool.not_eq_true', Bool.and_eq_false_iff, decide_eq_false_iff_not]
        omega
      rw [hr, if_pos rfl]
      simp only [s2_f_is_kind, wSs, wS, wT, wEs, wO, wPs, wC, wSrc, wE_loc, wE_lit, wE_con, wE_bin, wE_neg, wE_cmp, wE_cmp2, wE_isN, wE_notN, wE_isB, wE_not, wE_and, wE_or, wE_ite, wE_tup, wE_lst, wE_dic, wE_call, wE_make, wE_meth, wE_fld, wE_sub, wE_slice, wE_bi, wE_vi, wE_bm, wE_isi, wE_lc, wE_lck, eg, es, Option.some.injEq, exists_eq_left', Lit.val]
      refine ⟨⟨[], by simp⟩, ?_⟩
      cases vs with
      | nil => rfl
      | cons h ws =>
        rw [kdT]
        simp only [List.length_cons] at h1
        have : (decide (1 ≤ ws.length) && decide (ws.length ≤ 3)) = false := by
          simp only [Bool.and_eq_false_iff, decide_eq_false_iff_not]
          omega
        rw [this]
        rfl
end K08

set_option maxHeartbeats 1000000
namespace K08
open Mi PySem
theorem ix_one {α : Type} {a b : α} {r : List α} : atI (a :: b :: r) 1 = some b := ix_nat (i := 1) rfl
theorem con_PLAIN : P.con "PLAIN_HEADS" = some (.tup (plainL.map .str)) := by kernel_rfl
theorem phrase_leaf {i : Nat} {f : Val → Bool} {v : Val} (hv : Pl 0 v) {S : Hm} : callW P (i + 9) (.f "is_phrase") [v] S (Tells S (phF f v)) noX := by
  refine call_open (k := i + 8) fn_f_is_phrase ⟨rfl, ?_⟩
  show wSs _ _ _ s21_f_is_phrase _ _ [some v, none] S
  simp only [s21_f_is_phrase, wSs, wS, wT, wEs, wO, wPs, wC, wSrc, wE_loc, wE_lit, wE_con, wE_bin, wE_neg, wE_cmp, wE_cmp2, wE_isN, wE_notN, wE_isB, wE_not, wE_and, wE_or, wE_ite, wE_tup, wE_lst, wE_dic, wE_call, wE_make, wE_meth, wE_fld, wE_sub, wE_slice, wE_bi, wE_vi, wE_bm, wE_isi, wE_lc, wE_lck, eg, es, Option.some.injEq, exists_eq_left', Lit.val]
  refine call_use (is_whole_ok (k := i + 7) hv) ?_
  rintro _ S1 ⟨rfl, rfl⟩
  cases v with
  | int n =>
    simp only [truth, Option.some.injEq, exists_eq_left', if_true, s1_f_is_phrase, wSs, wS, wT, wEs, wO, wPs, wC, wSrc, wE_loc, wE_lit, wE_con, wE_bin, wE_neg, wE_cmp, wE_cmp2, wE_isN, wE_notN, wE_isB, wE_not, wE_and, wE_or, wE_ite, wE_tup, wE_lst, wE_dic, wE_call, wE_make, wE_meth, wE_fld, wE_sub, wE_slice, wE_bi, wE_vi, wE_bm, wE_isi, wE_lc, wE_lck, eg, es, Option.some.injEq, exists_eq_left', Lit.val]
    exact Tells.here
  | str s =>
    have hs : s.length ≤ 10 ^ 4 := by cases hv with | str h => exact h
    simp only [truth, Option.some.injEq, exists_eq_left', Bool.false_eq_true, if_false, s20_f_is_phrase, wSs, wS, wT, wEs, wO, wPs, wC, wSrc, wE_loc, wE_lit, wE_con, wE_bin, wE_neg, wE_cmp, wE_cmp2, wE_isN, wE_notN, wE_isB, wE_not, wE_and, wE_or, wE_ite, wE_tup, wE_lst, wE_dic, wE_call, wE_make, wE_meth, wE_fld, wE_sub, wE_slice, wE_bi, wE_vi, wE_bm, wE_isi, wE_lc, wE_lck, eg, es, Option.some.injEq, exists_eq_left', Lit.val]
    refine call_use (is_word_ok (k := i + 7) hv) ?_
    rintro _ S2 ⟨rfl, rfl⟩
    simp only [isStr, truth, Option.some.injEq, exists_eq_left', if_true, s2_f_is_phrase, wSs, wS, wT, wEs, wO, wPs, wC, wSrc, wE_loc, wE_lit, wE_con, wE_bin, wE_neg, wE_cmp, wE_cmp2, wE_isN, wE_notN, wE_isB, wE_not, wE_and, wE_or, wE_ite, wE_tup, wE_lst, wE_dic, wE_call, wE_make, wE_meth, wE_fld, wE_sub, wE_slice, wE_bi, wE_vi, wE_bm, wE_isi, wE_lc, wE_lck, eg, es, Option.some.injEq, exists_eq_left', Lit.val, phF, wordB]
    refine call_use (is_small_ok (k := i + 5) hs) ?_
    rintro _ S3 ⟨⟨l3, rfl⟩, rfl⟩
    refine ⟨_, rfl, ?_⟩
    cases small s with
    | true => exact Tells.app (l := l3) Tells.here
    | false =>
      rw [if_neg (by decide)]
      refine call_use (is_path_ok (k := i + 4) hs) ?_
      rintro _ S4 ⟨⟨l4, rfl⟩, rfl⟩
      refine ⟨_, rfl, ?_⟩
      cases path s with
      | true => exact Tells.app (l := l3) (Tells.app (l := l4) Tells.here)
      | false =>
        rw [if_neg (by decide)]
        refine call_use (is_great_ok (k := i + 5) hs) ?_
        rintro _ _ ⟨rfl, rfl⟩
        exact Tells.app (l := l3) (Tells.app (l := l4) Tells.here)
  | _ => cases hv
section
variable {i d : Nat} {f : Val → Bool} (hf : ∀ k, i + 6 ≤ k → ∀ w, Pl d w → ∀ S, callW P k (.f "is_phrase") [w] S (Tells S (f w)) noX)
include hf
theorem is_ring_ok {h : Val} {vs : List Val} (hv : ∀ v ∈ vs, Pl d v) (hl : vs.length ≤ 99) {S : Hm} : callW P (i + 8) (.f "is_ring") [.tup (h :: vs)] S (Tells S (ringB f vs)) noX := by
  refine call_open (k := i + 7) fn_f_is_ring ⟨rfl, ?_⟩
  show wSs _ _ _ s3_f_is_ring _ _ [some (.tup (h :: vs)), none] S
  simp only [s3_f_is_ring, wSs, wS, wT, wEs, wO, wPs, wC, wSrc, wE_loc, wE_lit, wE_con, wE_bin, wE_neg, wE_cmp, wE_cmp2, wE_isN, wE_notN, wE_isB, wE_not, wE_and, wE_or, wE_ite, wE_tup, wE_lst, wE_dic, wE_call, wE_make, wE_meth, wE_fld, wE_sub, wE_slice, wE_bi, wE_vi, wE_bm, wE_isi, wE_lc, wE_lck, eg, es, Option.some.injEq, exists_eq_left', Lit.val, biW, cmpW]
  rw [eqW_int]
  refine ⟨_, rfl, ?_⟩
  by_cases h3 : vs.length = 2
  · rw [if_neg (by simp; omega)]
    match vs, h3 with
    | [rw_, p], _ =>
    have pr := hv rw_ (by simp)
    have pp := hv p (by simp)
    refine ⟨rw_, rfl, ?_⟩
    refine call_use (is_row_ok (k := i + 6) (lo := 1) (hi := 4) pr) ?_
    rintro _ S1 ⟨rfl, rfl⟩
    refine ⟨_, rfl, ?_⟩
    cases hb : isRow 1 4 rw_ with
    | false =>
      rw [if_pos (by decide)]
      simp only [s1_f_is_ring, wSs, wS, wT, wEs, wO, wPs, wC, wSrc, wE_loc, wE_lit, wE_con, wE_bin, wE_neg, wE_cmp, wE_cmp2, wE_isN, wE_notN, wE_isB, wE_not, wE_and, wE_or, wE_ite, wE_tup, wE_lst, wE_dic, wE_call, wE_make, wE_meth, wE_fld, wE_sub, wE_slice, wE_bi, wE_vi, wE_bm, wE_isi, wE_lc, wE_lck, eg, es, Option.some.injEq, exists_eq_left', Lit.val]
      have : ringB f [rw_, p] = false := by
        unfold ringB
        split
        · rename_i rs p' e1
          cases e1
          simp only [isRow] at hb
          rw [hb]; rfl
        · rfl
      rw [this]
      exact Tells.here
    | true =>
      rw [if_neg (by decide)]
      obtain ⟨rs, rfl, h4, h5⟩ := row_of hb
      obtain ⟨e, rfl, hrs, hrl⟩ := pr.in
      have er : ringB f [.tup rs, p] = (decide (1 ≤ rs.length) && decide (rs.length ≤ 4) && (rs.all (ringRow f) && f p)) := rfl
      rw [er, decide_eq_true h4, decide_eq_true h5]
      simp only [s2_f_is_ring, wSs, wS, wT, wEs, wO, wPs, wC, wSrc, wE_loc, wE_lit, wE_con, wE_bin, wE_neg, wE_cmp, wE_cmp2, wE_isN, wE_notN, wE_isB, wE_not, wE_and, wE_or, wE_ite, wE_tup, wE_lst, wE_dic, wE_call, wE_make, wE_meth, wE_fld, wE_sub, wE_slice, wE_bi, wE_vi, wE_bm, wE_isi, wE_lc, wE_lck, eg, es, Option.some.injEq, exists_eq_left', Lit.val, seqOf]
      refine ⟨.tup rs, rfl, ?_⟩
      refine all_call (b := ringRow f) (fun w hw S => is_ring_row_ok (hf (i + 6) (by omega)) ((hrs w hw).le (by omega))) hrl (fun _ => rfl) fun l => ?_
      refine ⟨_, rfl, ?_⟩
      cases rs.all (ringRow f) with
      | false => exact Tells.app (l := l) Tells.here
      | true =>
        rw [if_pos (by decide)]
        refine ⟨p, rfl, ?_⟩
        refine call_use (hf (i + 7) (by omega) p pp _) ?_
        intro r S' hr
        exact Tells.app (l := l) hr
  · rw [if_pos (by simp; omega), if_pos trivial]
    simp only [s1_f_is_ring, wSs, wS, wT, wEs, wO, wPs, wC, wSrc, wE_loc, wE_lit, wE_con, wE_bin, wE_neg, wE_cmp, wE_cmp2, wE_isN, wE_notN, wE_isB, wE_not, wE_and, wE_or, wE_ite, wE_tup, wE_lst, wE_dic, wE_call, wE_make, wE_meth, wE_fld, wE_sub, wE_slice, wE_bi, wE_vi, wE_bm, wE_isi, wE_lc, wE_lck, eg, es, Option.some.injEq, exists_eq_left', Lit.val]
    have : ringB f vs = false := by
      unfold ringB
      split
      · simp at h3
      · rfl
    rw [this]
    exact Tells.here
theorem is_case_ok {h : Val} {vs : List Val} (hv : ∀ v ∈ vs, Pl d v) (hl : vs.length ≤ 99) {S : Hm} : callW P (i + 8) (.f "is_case") [.tup (h :: vs)] S (Tells S (caseB f vs)) noX := by
  refine call_open (k := i + 7) fn_f_is_case ⟨rfl, ?_⟩
  show wSs _ _ _ s1_f_is_case _ _ [some (.tup (h :: vs)), none] S
  simp only [s1_f_is_case, wSs, wS, wT, wEs, wO, wPs, wC, wSrc, wE_loc, wE_lit, wE_con, wE_bin, wE_neg, wE_cmp, wE_cmp2, wE_isN, wE_notN, wE_isB, wE_not, wE_and, wE_or, wE_ite, wE_tup, wE_lst, wE_dic, wE_call, wE_make, wE_meth, wE_fld, wE_sub, wE_slice, wE_bi, wE_vi, wE_bm, wE_isi, wE_lc, wE_lck, eg, es, Option.some.injEq, exists_eq_left', Lit.val, biW, cmpW]
  cases vs with
  | nil =>
    rw [if_neg (by simp)]
    exact ⟨_, rfl, by rw [if_neg (by decide)]; exact Tells.here⟩
  | cons p arms =>
    simp only [caseB]
    by_cases h1 : 1 ≤ arms.length
    · rw [if_pos (by simp; omega), decide_eq_true h1]
      refine ⟨_, rfl, ?_⟩
      by_cases h2 : arms.length ≤ 6
      · rw [if_pos (by simp; omega), decide_eq_true h2]
        refine ⟨p, ix_one, ?_⟩
        refine call_use (hf (i + 7) (by omega) p (hv p (by simp)) _) ?_
        rintro _ S1 ⟨⟨l1, rfl⟩, rfl⟩
        refine ⟨_, rfl, ?_⟩
        cases f p with
        | false => exact Tells.app (l := l1) Tells.here
        | true =>
          rw [if_pos (by decide)]
          simp only [sliceW, Val.int.injEq, exists_eq_left', seqOf]
          rw [show cut (h :: p :: arms) (some 2) none = arms from cut_from (i := 2)]
          refine all_call (b := armB f) (fun w hw S => is_arm_ok (hf (i + 6) (by omega)) (hv w (List.mem_cons_of_mem _ hw))) (by omega) (fun _ => rfl) fun l => ?_
          exact Tells.app (l := l1) ⟨⟨l, rfl⟩, rfl⟩
      · rw [if_neg (by simp; omega), decide_eq_false h2]
        exact Tells.here
    · rw [if_neg (by simp; omega), decide_eq_false h1]
      exact ⟨_, rfl, by rw [if_neg (by decide)]; exact Tells.here⟩
theorem is_named_ok {lo hi : Nat} {h : Val} {vs : List Val} (hv : ∀ v ∈ vs, Pl d v) (hl : vs.length ≤ 99) (h0 : 1 ≤ vs.length) {S : Hm} : callW P (i + 8) (.f "is_named") [.tup (h :: vs), .int lo, .int hi] S (Tells S (namedB f lo hi vs)) noX := by
  refine call_open (k := i + 7) fn_f_is_named ⟨rfl, ?_⟩
  show wSs _ _ _ s3_f_is_named _ _ [some (.tup (h :: vs)), some (.int lo), some (.int hi)] S
  simp only [s3_f_is_named, wSs, wS, wT, wEs, wO, wPs, wC, wSrc, wE_loc, wE_lit, wE_con, wE_bin, wE_neg, wE_cmp, wE_cmp2, wE_isN, wE_notN, wE_isB, wE_not, wE_and, wE_or, wE_ite, wE_tup, wE_lst, wE_dic, wE_call, wE_make, wE_meth, wE_fld, wE_sub, wE_slice, wE_bi, wE_vi, wE_bm, wE_isi, wE_lc, wE_lck, eg, es, Option.some.injEq, exists_eq_left', Lit.val, biW, binW, cmpW]
  cases vs with
  | nil => simp at h0
  | cons nm r =>
    have el : (((h :: nm :: r).length : Nat) : Int) - 2 = (r.length : Int) := by simp; omega
    rw [el]
    simp only [namedB]
    have no : ∀ (b : Bool), b = false → wSs P.con P.sub (callW P (i + 7)) s1_f_is_named (fun c x S' => noX c S') { nx := fun env' S' => wSs P.con P.sub (callW P (i + 7)) s2_f_is_named (fun c x S' => noX c S') { nx := fun x S' => Tells S b .non S', rt := Tells S b } env' S', rt := Tells S b } [some (.tup (h :: nm :: r)), some (.int lo), some (.int hi)] S := by
      rintro _ rfl
      simp only [s1_f_is_named, wSs, wS, wT, wEs, wO, wPs, wC, wSrc, wE_loc, wE_lit, wE_con, wE_bin, wE_neg, wE_cmp, wE_cmp2, wE_isN, wE_notN, wE_isB, wE_not, wE_and, wE_or, wE_ite, wE_tup, wE_lst, wE_dic, wE_call, wE_make, wE_meth, wE_fld, wE_sub, wE_slice, wE_bi, wE_vi, wE_bm, wE_isi, wE_lc, wE_lck, eg, es, Option.some.injEq, exists_eq_left', Lit.val]
      exact Tells.here
    by_cases h1 : lo ≤ r.length
    · rw [if_pos (decide_eq_true (by omega))]
      by_cases h2 : r.length ≤ hi
      · rw [decide_eq_true h1, decide_eq_true h2]
        refine ⟨_, rfl, ?_⟩
        rw [if_neg (by simp; omega)]
        refine ⟨nm, ix_one, ?_⟩
        refine call_use (is_small_name_ok (k := i + 3) (hv nm (by simp))) ?_
        rintro _ S1 ⟨⟨l1, rfl⟩, rfl⟩
        refine ⟨_, rfl, ?_⟩
        cases smallN nm with
        | false =>
          rw [if_pos (by decide)]
          simp only [s1_f_is_named, wSs, wS, wT, wEs, wO, wPs, wC, wSrc, wE_loc, wE_lit, wE_con, wE_bin, wE_neg, wE_cmp, wE_cmp2, wE_isN, wE_notN, wE_isB, wE_not, wE_and, wE_or, wE_ite, wE_tup, wE_lst, wE_dic, wE_call, wE_make, wE_meth, wE_fld, wE_sub, wE_slice, wE_bi, wE_vi, wE_bm, wE_isi, wE_lc, wE_lck, eg, es, Option.some.injEq, exists_eq_left', Lit.val]
          exact Tells.app (l := l1) Tells.here
        | true =>
          rw [if_neg (by decide)]
          simp only [s2_f_is_named, wSs, wS, wT, wEs, wO, wPs, wC, wSrc, wE_loc, wE_lit, wE_con, wE_bin, wE_neg, wE_cmp, wE_cmp2, wE_isN, wE_notN, wE_isB, wE_not, wE_and, wE_or, wE_ite, wE_tup, wE_lst, wE_dic, wE_call, wE_make, wE_meth, wE_fld, wE_sub, wE_slice, wE_bi, wE_vi, wE_bm, wE_isi, wE_lc, wE_lck, eg, es, Option.some.injEq, exists_eq_left', Lit.val, sliceW, Val.int.injEq, exists_eq_left']
          rw [show cut (h :: nm :: r) (some 2) none = r from cut_from (i := 2)]
          refine call_use (all_phrases_ok (hf (i + 6) (by omega)) (fun w hw => hv w (List.mem_cons_of_mem _ hw)) (by simp at hl; omega)) ?_
          intro r' S' hr
          exact Tells.app (l := l1) hr
      · refine ⟨_, rfl, ?_⟩
        rw [if_pos (by simp; omega), if_pos trivial]
        exact no _ (by rw [decide_eq_false h2]; simp)
    · rw [if_neg (by rw [decide_eq_true_eq]; omega)]
      refine ⟨_, rfl, ?_⟩
      rw [if_pos (by decide), if_pos trivial]
      exact no _ (by rw [decide_eq_false h1]; simp)
theorem phrase_step : ∀ (v : Val), Pl (d + 1) v → d ≤ 40 → ∀ S, callW P (i + 9) (.f "is_phrase") [v] S (Tells S (phF f v)) noX := by
  intro v hv hd S
  refine call_open (k := i + 8) fn_f_is_phrase ⟨rfl, ?_⟩
  show wSs _ _ _ s21_f_is_phrase _ _ [some v, none] S
  simp only [s21_f_is_phrase, wSs, wS, wT, wEs, wO, wPs, wC, wSrc, wE_loc, wE_lit, wE_con, wE_bin, wE_neg, wE_cmp, wE_cmp2, wE_isN, wE_notN, wE_isB, wE_not, wE_and, wE_or, wE_ite, wE_tup, wE_lst, wE_dic, wE_call, wE_make, wE_meth, wE_fld, wE_sub, wE_slice, wE_bi, wE_vi, wE_bm, wE_isi, wE_lc, wE_lck, eg, es, Option.some.injEq, exists_eq_left', Lit.val]
  refine call_use (is_whole_ok (k := i + 7) hv) ?_
  rintro _ S1 ⟨rfl, rfl⟩
  cases v with
  | int n =>
    simp only [truth, Option.some.injEq, exists_eq_left', if_true, s1_f_is_phrase, wSs, wS, wT, wEs, wO, wPs, wC, wSrc, wE_loc, wE_lit, wE_con, wE_bin, wE_neg, wE_cmp, wE_cmp2, wE_isN, wE_notN, wE_isB, wE_not, wE_and, wE_or, wE_ite, wE_tup, wE_lst, wE_dic, wE_call, wE_make, wE_meth, wE_fld, wE_sub, wE_slice, wE_bi, wE_vi, wE_bm, wE_isi, wE_lc, wE_lck, eg, es, Option.some.injEq, exists_eq_left', Lit.val]
    exact Tells.here
  | str s =>
    have hs : s.length ≤ 10 ^ 4 := by cases hv with | str h => exact h
    simp only [truth, Option.some.injEq, exists_eq_left', Bool.false_eq_true, if_false, s20_f_is_phrase, wSs, wS, wT, wEs, wO, wPs, wC, wSrc, wE_loc, wE_lit, wE_con, wE_bin, wE_neg, wE_cmp, wE_cmp2, wE_isN, wE_notN, wE_isB, wE_not, wE_and, wE_or, wE_ite, wE_tup, wE_lst, wE_dic, wE_call, wE_make, wE_meth, wE_fld, wE_sub, wE_slice, wE_bi, wE_vi, wE_bm, wE_isi, wE_lc, wE_lck, eg, es, Option.some.injEq, exists_eq_left', Lit.val]
    refine call_use (is_word_ok (k := i + 7) hv) ?_
    rintro _ S2 ⟨rfl, rfl⟩
    simp only [isStr, truth, Option.some.injEq, exists_eq_left', if_true, s2_f_is_phrase, wSs, wS, wT, wEs, wO, wPs, wC, wSrc, wE_loc, wE_lit, wE_con, wE_bin, wE_neg, wE_cmp, wE_cmp2, wE_isN, wE_notN, wE_isB, wE_not, wE_and, wE_or, wE_ite, wE_tup, wE_lst, wE_dic, wE_call, wE_make, wE_meth, wE_fld, wE_sub, wE_slice, wE_bi, wE_vi, wE_bm, wE_isi, wE_lc, wE_lck, eg, es, Option.some.injEq, exists_eq_left', Lit.val, phF, wordB]
    refine call_use (is_small_ok (k := i + 5) hs) ?_
    rintro _ S3 ⟨⟨l3, rfl⟩, rfl⟩
    refine ⟨_, rfl, ?_⟩
    cases small s with
    | true => exact Tells.app (l := l3) Tells.here
    | false =>
      rw [if_neg (by decide)]
      refine call_use (is_path_ok (k := i + 4) hs) ?_
      rintro _ S4 ⟨⟨l4, rfl⟩, rfl⟩
      refine ⟨_, rfl, ?_⟩
      cases path s with
      | true => exact Tells.app (l := l3) (Tells.app (l := l4) Tells.here)
      | false =>
        rw [if_neg (by decide)]
        refine call_use (is_great_ok (k := i + 5) hs) ?_
        rintro _ _ ⟨rfl, rfl⟩
        exact Tells.app (l := l3) (Tells.app (l := l4) Tells.here)
  | tup us =>
    simp only [truth, Option.some.injEq, exists_eq_left', Bool.false_eq_true, if_false, s20_f_is_phrase, wSs, wS, wT, wEs, wO, wPs, wC, wSrc, wE_loc, wE_lit, wE_con, wE_bin, wE_neg, wE_cmp, wE_cmp2, wE_isN, wE_notN, wE_isB, wE_not, wE_and, wE_or, wE_ite, wE_tup, wE_lst, wE_dic, wE_call, wE_make, wE_meth, wE_fld, wE_sub, wE_slice, wE_bi, wE_vi, wE_bm, wE_isi, wE_lc, wE_lck, eg, es, Option.some.injEq, exists_eq_left', Lit.val]
    refine call_use (is_word_ok (k := i + 7) hv) ?_
    rintro _ S2 ⟨rfl, rfl⟩
    simp only [isStr, truth, Option.some.injEq, exists_eq_left', Bool.false_eq_true, if_false, s19_f_is_phrase, wSs, wS, wT, wEs, wO, wPs, wC, wSrc, wE_loc, wE_lit, wE_con, wE_bin, wE_neg, wE_cmp, wE_cmp2, wE_isN, wE_notN, wE_isB, wE_not, wE_and, wE_or, wE_ite, wE_tup, wE_lst, wE_dic, wE_call, wE_make, wE_meth, wE_fld, wE_sub, wE_slice, wE_bi, wE_vi, wE_bm, wE_isi, wE_lc, wE_lck, eg, es, Option.some.injEq, exists_eq_left', Lit.val]
    refine call_use (is_row_ok (k := i + 7) (lo := 2) (hi := 8) hv) ?_
    rintro _ S3 ⟨rfl, rfl⟩
    obtain ⟨e, he, hus, hul⟩ := hv.in
    obtain rfl : d = e := by omega
    refine ⟨_, rfl, ?_⟩
    cases hb : isRow 2 8 (.tup us) with
    | false =>
      rw [if_pos (by decide), if_pos trivial]
      simp only [s3_f_is_phrase, wSs, wS, wT, wEs, wO, wPs, wC, wSrc, wE_loc, wE_lit, wE_con, wE_bin, wE_neg, wE_cmp, wE_cmp2, wE_isN, wE_notN, wE_isB, wE_not, wE_and, wE_or, wE_ite, wE_tup, wE_lst, wE_dic, wE_call, wE_make, wE_meth, wE_fld, wE_sub, wE_slice, wE_bi, wE_vi, wE_bm, wE_isi, wE_lc, wE_lck, eg, es, Option.some.injEq, exists_eq_left', Lit.val]
      have : phF f (.tup us) = false := by
        unfold phF
        split
        · rename_i e1; cases e1
        · rename_i e1; cases e1
        · rename_i s vs e1
          cases e1
          simp only [isRow, List.length_cons, Bool.and_eq_false_iff, decide_eq_false_iff_not] at hb
          have : (decide (1 ≤ vs.length) && decide (vs.length ≤ 7)) = false := by simp only [Bool.and_eq_false_iff, decide_eq_false_iff_not]; omega
          rw [this]; rfl
        · rfl
      rw [this]
      exact Tells.here
    | true =>
      rw [if_neg (by decide)]
      simp only [isRow, Bool.and_eq_true, decide_eq_true_eq] at hb
      match us, hb with
      | h :: vs, hb =>
      simp only [List.length_cons] at hb hul
      refine ⟨h, ix_zero, ?_⟩
      have hh := hus h (by simp)
      have hvs : ∀ v ∈ vs, Pl d v := fun v hv => hus v (List.mem_cons_of_mem _ hv)
      refine call_use (is_word_ok (k := i + 7) hh) ?_
      rintro _ S4 ⟨rfl, rfl⟩
      refine ⟨_, rfl, ?_⟩
      have hcut : cut (h :: vs) (some 1) none = vs := cut_from (i := 1)
      cases h with
      | str s =>
        have hs : s.length ≤ 10 ^ 4 := by cases hh with | str h => exact h
        rw [if_neg (by simp [isStr])]
        have en : (decide (1 ≤ vs.length) && decide (vs.length ≤ 7)) = true := by simp; omega
        simp only [phF, en, Bool.true_and]
        simp only [s18_f_is_phrase, wSs, wS, wT, wEs, wO, wPs, wC, wSrc, wE_loc, wE_lit, wE_con, wE_bin, wE_neg, wE_cmp, wE_cmp2, wE_isN, wE_notN, wE_isB, wE_not, wE_and, wE_or, wE_ite, wE_tup, wE_lst, wE_dic, wE_call, wE_make, wE_meth, wE_fld, wE_sub, wE_slice, wE_bi, wE_vi, wE_bm, wE_isi, wE_lc, wE_lck, eg, es, Option.some.injEq, exists_eq_left', Lit.val]
        refine ⟨_, ix_zero, ?_⟩
        refine call_use (is_great_ok (k := i + 5) hs) ?_
        rintro _ S5 ⟨rfl, rfl⟩
        unfold headB
        refine ⟨_, rfl, ?_⟩
        cases great s with
        | true =>
          rw [if_pos rfl, if_pos rfl]
          simp only [s4_f_is_phrase, wSs, wS, wT, wEs, wO, wPs, wC, wSrc, wE_loc, wE_lit, wE_con, wE_bin, wE_neg, wE_cmp, wE_cmp2, wE_isN, wE_notN, wE_isB, wE_not, wE_and, wE_or, wE_ite, wE_tup, wE_lst, wE_dic, wE_call, wE_make, wE_meth, wE_fld, wE_sub, wE_slice, wE_bi, wE_vi, wE_bm, wE_isi, wE_lc, wE_lck, eg, es, Option.some.injEq, exists_eq_left', Lit.val, biW, cmpW, sliceW, Val.int.injEq, exists_eq_left']
          refine ⟨_, rfl, ?_⟩
          rw [hcut]
          by_cases hl : vs.length ≤ 4
          · rw [if_pos (by simp; omega), decide_eq_true hl]
            exact all_phrases_ok (i := i + 1) (hf (i + 7) (by omega)) hvs (by omega)
          · rw [if_neg (by simp; omega), decide_eq_false hl]
            exact Tells.here
        | false =>
        rw [if_neg (by decide), if_neg (by decide)]
        simp only [s17_f_is_phrase, wSs, wS, wT, wEs, wO, wPs, wC, wSrc, wE_loc, wE_lit, wE_con, wE_bin, wE_neg, wE_cmp, wE_cmp2, wE_isN, wE_notN, wE_isB, wE_not, wE_and, wE_or, wE_ite, wE_tup, wE_lst, wE_dic, wE_call, wE_make, wE_meth, wE_fld, wE_sub, wE_slice, wE_bi, wE_vi, wE_bm, wE_isi, wE_lc, wE_lck, eg, es, Option.some.injEq, exists_eq_left', Lit.val, con_PLAIN, cmpW, inW]
        refine ⟨rfl, rfl, _, rfl, ?_⟩
        rw [any_str]
        by_cases h1 : s ∈ plainL
        · rw [if_pos (decide_eq_true h1), if_pos h1]
          simp only [s5_f_is_phrase, wSs, wS, wT, wEs, wO, wPs, wC, wSrc, wE_loc, wE_lit, wE_con, wE_bin, wE_neg, wE_cmp, wE_cmp2, wE_isN, wE_notN, wE_isB, wE_not, wE_and, wE_or, wE_ite, wE_tup, wE_lst, wE_dic, wE_call, wE_make, wE_meth, wE_fld, wE_sub, wE_slice, wE_bi, wE_vi, wE_bm, wE_isi, wE_lc, wE_lck, eg, es, Option.some.injEq, exists_eq_left', Lit.val, biW, cmpW, sliceW, Val.int.injEq, exists_eq_left']
          rw [eqW_int, hcut]
          refine ⟨_, rfl, ?_⟩
          by_cases hl : vs.length = 2
          · rw [if_pos (by simp; omega), decide_eq_true hl]
            exact all_phrases_ok (i := i + 1) (hf (i + 7) (by omega)) hvs (by omega)
          · rw [if_neg (by simp; omega), decide_eq_false hl]
            exact Tells.here
        rw [if_neg (by simpa using h1), if_neg h1]
        simp only [s16_f_is_phrase, wSs, wS, wT, wEs, wO, wPs, wC, wSrc, wE_loc, wE_lit, wE_con, wE_bin, wE_neg, wE_cmp, wE_cmp2, wE_isN, wE_notN, wE_isB, wE_not, wE_and, wE_or, wE_ite, wE_tup, wE_lst, wE_dic, wE_call, wE_make, wE_meth, wE_fld, wE_sub, wE_slice, wE_bi, wE_vi, wE_bm, wE_isi, wE_lc, wE_lck, eg, es, Option.some.injEq, exists_eq_left', Lit.val, cmpW]
        rw [eqW_str]
        refine ⟨_, rfl, ?_⟩
        by_cases h2 : s = "if"
        · rw [if_pos (decide_eq_true h2), if_pos h2]
          simp only [s6_f_is_phrase, wSs, wS, wT, wEs, wO, wPs, wC, wSrc, wE_loc, wE_lit, wE_con, wE_bin, wE_neg, wE_cmp, wE_cmp2, wE_isN, wE_notN, wE_isB, wE_not, wE_and, wE_or, wE_ite, wE_tup, wE_lst, wE_dic, wE_call, wE_make, wE_meth, wE_fld, wE_sub, wE_slice, wE_bi, wE_vi, wE_bm, wE_isi, wE_lc, wE_lck, eg, es, Option.some.injEq, exists_eq_left', Lit.val, biW, cmpW, sliceW, Val.int.injEq, exists_eq_left']
          rw [eqW_int, hcut]
          refine ⟨_, rfl, ?_⟩
          by_cases hl : vs.length = 3
          · rw [if_pos (by simp; omega), decide_eq_true hl]
            exact all_phrases_ok (i := i + 1) (hf (i + 7) (by omega)) hvs (by omega)
          · rw [if_neg (by simp; omega), decide_eq_false hl]
            exact Tells.here
        rw [if_neg (by simpa using h2), if_neg h2]
        simp only [s15_f_is_phrase, wSs, wS, wT, wEs, wO, wPs, wC, wSrc, wE_loc, wE_lit, wE_con, wE_bin, wE_neg, wE_cmp, wE_cmp2, wE_isN, wE_notN, wE_isB, wE_not, wE_and, wE_or, wE_ite, wE_tup, wE_lst, wE_dic, wE_call, wE_make, wE_meth, wE_fld, wE_sub, wE_slice, wE_bi, wE_vi, wE_bm, wE_isi, wE_lc, wE_lck, eg, es, Option.some.injEq, exists_eq_left', Lit.val, cmpW]
        rw [eqW_str]
        refine ⟨_, rfl, ?_⟩
        have nmd : ∀ lo hi : Nat, callW P (i + 8) (.f "is_named") [.tup (.str s :: vs), .int lo, .int hi] S5 (Tells S5 (namedB f lo hi vs)) noX := fun lo hi => is_named_ok hf hvs (by omega) (by omega)
        by_cases h3 : s = "fun"
        · rw [if_pos (decide_eq_true h3), if_pos trivial, if_pos (.inl h3)]
          simp only [s7_f_is_phrase, wSs, wS, wT, wEs, wO, wPs, wC, wSrc, wE_loc, wE_lit, wE_con, wE_bin, wE_neg, wE_cmp, wE_cmp2, wE_isN, wE_notN, wE_isB, wE_not, wE_and, wE_or, wE_ite, wE_tup, wE_lst, wE_dic, wE_call, wE_make, wE_meth, wE_fld, wE_sub, wE_slice, wE_bi, wE_vi, wE_bm, wE_isi, wE_lc, wE_lck, eg, es, Option.some.injEq, exists_eq_left', Lit.val]
          exact nmd 1 1
        rw [if_neg (by simpa using h3), eqW_str]
        refine ⟨_, rfl, ?_⟩
        by_cases h4 : s = "pick"
        · rw [if_pos (decide_eq_true h4), if_pos (.inr h4)]
          simp only [s7_f_is_phrase, wSs, wS, wT, wEs, wO, wPs, wC, wSrc, wE_loc, wE_lit, wE_con, wE_bin, wE_neg, wE_cmp, wE_cmp2, wE_isN, wE_notN, wE_isB, wE_not, wE_and, wE_or, wE_ite, wE_tup, wE_lst, wE_dic, wE_call, wE_make, wE_meth, wE_fld, wE_sub, wE_slice, wE_bi, wE_vi, wE_bm, wE_isi, wE_lc, wE_lck, eg, es, Option.some.injEq, exists_eq_left', Lit.val]
          exact nmd 1 1
        rw [if_neg (by simpa using h4), if_neg (show ¬ (s = "fun" ∨ s = "pick") from fun z => z.elim h3 h4)]
        simp only [s14_f_is_phrase, wSs, wS, wT, wEs, wO, wPs, wC, wSrc, wE_loc, wE_lit, wE_con, wE_bin, wE_neg, wE_cmp, wE_cmp2, wE_isN, wE_notN, wE_isB, wE_not, wE_and, wE_or, wE_ite, wE_tup, wE_lst, wE_dic, wE_call, wE_make, wE_meth, wE_fld, wE_sub, wE_slice, wE_bi, wE_vi, wE_bm, wE_isi, wE_lc, wE_lck, eg, es, Option.some.injEq, exists_eq_left', Lit.val, cmpW]
        rw [eqW_str]
        refine ⟨_, rfl, ?_⟩
        by_cases h5 : s = "let"
        · rw [if_pos (decide_eq_true h5), if_pos h5]
          simp only [s8_f_is_phrase, wSs, wS, wT, wEs, wO, wPs, wC, wSrc, wE_loc, wE_lit, wE_con, wE_bin, wE_neg, wE_cmp, wE_cmp2, wE_isN, wE_notN, wE_isB, wE_not, wE_and, wE_or, wE_ite, wE_tup, wE_lst, wE_dic, wE_call, wE_make, wE_meth, wE_fld, wE_sub, wE_slice, wE_bi, wE_vi, wE_bm, wE_isi, wE_lc, wE_lck, eg, es, Option.some.injEq, exists_eq_left', Lit.val]
          exact nmd 2 2
        rw [if_neg (by simpa using h5), if_neg h5]
        simp only [s13_f_is_phrase, wSs, wS, wT, wEs, wO, wPs, wC, wSrc, wE_loc, wE_lit, wE_con, wE_bin, wE_neg, wE_cmp, wE_cmp2, wE_isN, wE_notN, wE_isB, wE_not, wE_and, wE_or, wE_ite, wE_tup, wE_lst, wE_dic, wE_call, wE_make, wE_meth, wE_fld, wE_sub, wE_slice, wE_bi, wE_vi, wE_bm, wE_isi, wE_lc, wE_lck, eg, es, Option.some.injEq, exists_eq_left', Lit.val, cmpW]
        rw [eqW_str]
        refine ⟨_, rfl, ?_⟩
        by_cases h6 : s = "make"
        · rw [if_pos (decide_eq_true h6), if_pos h6]
          simp only [s9_f_is_phrase, wSs, wS, wT, wEs, wO, wPs, wC, wSrc, wE_loc, wE_lit, wE_con, wE_bin, wE_neg, wE_cmp, wE_cmp2, wE_isN, wE_notN, wE_isB, wE_not, wE_and, wE_or, wE_ite, wE_tup, wE_lst, wE_dic, wE_call, wE_make, wE_meth, wE_fld, wE_sub, wE_slice, wE_bi, wE_vi, wE_bm, wE_isi, wE_lc, wE_lck, eg, es, Option.some.injEq, exists_eq_left', Lit.val]
          exact nmd 1 4
        rw [if_neg (by simpa using h6), if_neg h6]
        simp only [s12_f_is_phrase, wSs, wS, wT, wEs, wO, wPs, wC, wSrc, wE_loc, wE_lit, wE_con, wE_bin, wE_neg, wE_cmp, wE_cmp2, wE_isN, wE_notN, wE_isB, wE_not, wE_and, wE_or, wE_ite, wE_tup, wE_lst, wE_dic, wE_call, wE_make, wE_meth, wE_fld, wE_sub, wE_slice, wE_bi, wE_vi, wE_bm, wE_isi, wE_lc, wE_lck, eg, es, Option.some.injEq, exists_eq_left', Lit.val, cmpW]
        rw [eqW_str]
        refine ⟨_, rfl, ?_⟩
        by_cases h7 : s = "ring"
        · rw [if_pos (decide_eq_true h7), if_pos h7]
          simp only [s10_f_is_phrase, wSs, wS, wT, wEs, wO, wPs, wC, wSrc, wE_loc, wE_lit, wE_con, wE_bin, wE_neg, wE_cmp, wE_cmp2, wE_isN, wE_notN, wE_isB, wE_not, wE_and, wE_or, wE_ite, wE_tup, wE_lst, wE_dic, wE_call, wE_make, wE_meth, wE_fld, wE_sub, wE_slice, wE_bi, wE_vi, wE_bm, wE_isi, wE_lc, wE_lck, eg, es, Option.some.injEq, exists_eq_left', Lit.val]
          exact is_ring_ok hf hvs (by omega)
        rw [if_neg (by simpa using h7), if_neg h7]
        simp only [s11_f_is_phrase, wSs, wS, wT, wEs, wO, wPs, wC, wSrc, wE_loc, wE_lit, wE_con, wE_bin, wE_neg, wE_cmp, wE_cmp2, wE_isN, wE_notN, wE_isB, wE_not, wE_and, wE_or, wE_ite, wE_tup, wE_lst, wE_dic, wE_call, wE_make, wE_meth, wE_fld, wE_sub, wE_slice, wE_bi, wE_vi, wE_bm, wE_isi, wE_lc, wE_lck, eg, es, Option.some.injEq, exists_eq_left', Lit.val, cmpW]
        rw [eqW_str]
        refine ⟨_, rfl, ?_⟩
        by_cases h8 : s = "case"
        · rw [if_pos (decide_eq_true h8), decide_eq_true h8]
          exact is_case_ok hf hvs (by omega)
        · rw [if_neg (by simpa using h8), decide_eq_false h8]
          exact Tells.here
      | _ =>
        rw [if_pos (by simp [isStr])]
        simp only [s3_f_is_phrase, wSs, wS, wT, wEs, wO, wPs, wC, wSrc, wE_loc, wE_lit, wE_con, wE_bin, wE_neg, wE_cmp, wE_cmp2, wE_isN, wE_notN, wE_isB, wE_not, wE_and, wE_or, wE_ite, wE_tup, wE_lst, wE_dic, wE_call, wE_make, wE_meth, wE_fld, wE_sub, wE_slice, wE_bi, wE_vi, wE_bm, wE_isi, wE_lc, wE_lck, eg, es, Option.some.injEq, exists_eq_left', Lit.val]
        exact Tells.here
  | _ => cases hv
end
theorem is_phrase_ok : ∀ (d : Nat), d ≤ 40 → ∀ (k : Nat), 3 * d + 9 ≤ k → ∀ (v : Val), Pl d v → ∀ S, callW P k (.f "is_phrase") [v] S (Tells S (phD d v)) noX := by
  intro d
  induction d with
  | zero =>
    intro hd k hk v hv S
    obtain ⟨i, rfl⟩ : ∃ i, k = i + 9 := ⟨k - 9, by omega⟩
    exact phrase_leaf hv
  | succ d ih =>
    intro hd k hk v hv S
    obtain ⟨i, rfl⟩ : ∃ i, k = i + 9 := ⟨k - 9, by omega⟩
    exact phrase_step (fun j hj w hw S => ih (by omega) j (by omega) w hw S) v hv (by omega) S
/-! ### the depth does not matter -/
theorem all_congr {f g : Val → Bool} {vs : List Val} (h : ∀ v ∈ vs, f v = g v) : vs.all f = vs.all g := by
  induction vs with
  | nil => rfl
  | cons v r ih => rw [List.all_cons, List.all_cons, h v List.mem_cons_self, ih fun w hw => h w (List.mem_cons_of_mem _ hw)]
theorem phF_congr {f g : Val → Bool} {d : Nat} (h : ∀ w, Pl d w → f w = g w) {v : Val} (hv : Pl (d + 1) v) : phF f v = phF g v := by
  cases hv with
  | int i => rfl
  | str s => rfl
  | @tup _ us hus hul =>
  cases us with
  | nil => rfl
  | cons x vs =>
  have hvs : ∀ v ∈ vs, f v = g v := fun v hv => h v (hus v (List.mem_cons_of_mem _ hv))
  have hp : ∀ v ∈ vs, Pl d v := fun v hv => hus v (List.mem_cons_of_mem _ hv)
  cases x with
  | str s =>
    have e1 : vs.all f = vs.all g := all_congr hvs
    have e2 : ∀ lo hi, namedB f lo hi vs = namedB g lo hi vs := by
      intro lo hi
      cases vs with
      | nil => rfl
      | cons nm r => simp only [namedB]; rw [all_congr (f := f) (g := g) fun v hv => hvs v (List.mem_cons_of_mem _ hv)]
    have rr : ∀ v, Pl d v → ringRow f v = ringRow g v := by
      intro v hv
      unfold ringRow
      split
      · rename_i a b p
        obtain ⟨e, rfl, hq, _⟩ := hv.in
        rw [h p ((hq p (by simp)).le (by omega))]
      · rfl
    have aa : ∀ v, Pl d v → armB f v = armB g v := by
      intro v hv
      unfold armB
      split
      · rename_i a ns p
        obtain ⟨e, rfl, hq, _⟩ := hv.in
        rw [h p ((hq p (by simp)).le (by omega))]
      · rfl
    have e3 : ringB f vs = ringB g vs := by
      unfold ringB
      split
      · rename_i rs p
        have hr := hp (.tup rs) (by simp)
        obtain ⟨e, rfl, hq, _⟩ := hr.in
        rw [hvs p (by simp), all_congr (f := ringRow f) (g := ringRow g) fun v hv => rr v ((hq v hv).le (by omega))]
      · rfl
    have e4 : caseB f vs = caseB g vs := by
      cases vs with
      | nil => rfl
      | cons p arms =>
        simp only [caseB]
        rw [hvs p (by simp), all_congr (f := armB f) (g := armB g) fun v hv => aa v (hp v (List.mem_cons_of_mem _ hv))]
    simp only [phF, headB, e1, e2, e3, e4]
  | _ => rfl
theorem phD_le : ∀ {d e : Nat} {v : Val}, d ≤ e → Pl d v → phD e v = phD d v
  | 0, 0, v, _, _ => rfl
  | 0, e + 1, v, _, hv => by cases hv <;> rfl
  | d + 1, 0, v, h, _ => by omega
  | d + 1, e + 1, v, h, hv => by
    show phF (phD e) v = phF (phD d) v
    exact phF_congr (fun w hw => phD_le (by omega) hw) hv
end K08

set_option maxHeartbeats 1000000
namespace K08
open Mi PySem
/-! ### heads -/
theorem gr_plain : ∀ s ∈ plainL, great s = false := by decide +kernel
theorem gr_if : great "if" = false := by decide +kernel
theorem gr_fun : great "fun" = false := by decide +kernel
theorem gr_pick : great "pick" = false := by decide +kernel
theorem gr_let : great "let" = false := by decide +kernel
theorem gr_make : great "make" = false := by decide +kernel
theorem gr_ring : great "ring" = false := by decide +kernel
theorem gr_case : great "case" = false := by decide +kernel
section
variable {f : Val → Bool} {vs : List Val}
theorem head_great {s : String} (h : great s = true) : headB f s vs = (decide (vs.length ≤ 4) && vs.all f) := by unfold headB; rw [if_pos h]
theorem head_plain {s : String} (h : s ∈ plainL) : headB f s vs = (decide (vs.length = 2) && vs.all f) := by unfold headB; rw [if_neg (by rw [gr_plain s h]; decide), if_pos h]
theorem head_if : headB f "if" vs = (decide (vs.length = 3) && vs.all f) := by unfold headB; rw [gr_if]; rfl
theorem head_fun : headB f "fun" vs = namedB f 1 1 vs := by unfold headB; rw [gr_fun]; rfl
theorem head_pick : headB f "pick" vs = namedB f 1 1 vs := by unfold headB; rw [gr_pick]; rfl
theorem head_let : headB f "let" vs = namedB f 2 2 vs := by unfold headB; rw [gr_let]; rfl
theorem head_make : headB f "make" vs = namedB f 1 4 vs := by unfold headB; rw [gr_make]; rfl
theorem head_ring : headB f "ring" vs = ringB f vs := by unfold headB; rw [gr_ring]; rfl
theorem head_case : headB f "case" vs = caseB f vs := by unfold headB; rw [gr_case]; rfl
end
/-- a phrase -/
def Ph (w d : Nat) (v : Val) : Prop := Pl d v ∧ phD d v = true ∧ Wd [v] w d
theorem Ph.le {w w' d e : Nat} {v : Val} (h : Ph w d v) (he : d ≤ e) (hw : w ≤ w') : Ph w' e v := ⟨h.1.le he, by rw [phD_le he h.1]; exact h.2.1, h.2.2.le hw he⟩
theorem Ph.up {w d e : Nat} {v : Val} (h : Ph w d v) (he : d ≤ e) : phD e v = true := (h.le he (Nat.le_refl _)).2.1
theorem gd_mk {w W d : Nat} {s : String} {vs : List Val} (hs : Tx s) (hv : ∀ v ∈ vs, Pl d v) (h1 : 1 ≤ vs.length) (h7 : vs.length ≤ 7) (h : headB (phD d) s vs = true) (hw : Wd vs W d) (hW : 40 + W ≤ w) : Ph w (d + 1) (.tup (.str s :: vs)) := by
  refine ⟨.tup (fun v hm => ?_) (by simp; omega), ?_, ((Wd.word hs).cons hw).box.le (by omega) (Nat.le_refl _)⟩
  · rcases List.mem_cons.mp hm with rfl | hm
    · exact .str (by have := hs.len; omega)
    · exact hv v hm
  · show phF (phD d) _ = true
    simp only [phF, h]
    simp [h1, h7]
theorem gd_int {d : Nat} {n : Int} (h : n.natAbs < 10 ^ 30) : Ph 34 d (.int n) := ⟨.int n, by cases d <;> rfl, Wd.one (.num h)⟩
theorem ph_str {d : Nat} {s : String} : phD d (.str s) = wordB s := by cases d <;> rfl
theorem gd_word {d : Nat} {s : String} (h : Tx s) (hb : wordB s = true) : Ph 34 d (.str s) := ⟨.str (by have := h.len; omega), by rw [ph_str]; exact hb, Wd.word h⟩
theorem tx_small {w : String} (h : small w = true) : Tx w := .letters (small_letters h)
theorem gd_small {d : Nat} {w : String} (h : small w = true) : Ph 34 d (.str w) := gd_word (tx_small h) (by rw [wordB, h]; rfl)
theorem gd_path {d : Nat} {g w : String} (hg : great g = true) (h : small w = true) : Ph 34 d (.str (g ++ "." ++ w)) := gd_word (.path hg h) (by rw [wordB, path_of hg h]; simp)
theorem gd_great {d : Nat} {w : String} (h : great w = true) : Ph 34 d (.str w) := gd_word (.great h) (by rw [wordB, h]; simp)
theorem all_gd {w d : Nat} {vs : List Val} (h : ∀ v ∈ vs, Ph w d v) : vs.all (phD d) = true := by rw [List.all_eq_true]; exact fun v hv => (h v hv).2.1
theorem wd_ph {w d n m : Nat} {vs : List Val} (h : ∀ v ∈ vs, Ph w d v) (hm : vs.length ≤ m) (hd : d ≤ n) : Wd vs (w * m) n := (wd_all fun v hv => (h v hv).2.2).le (Nat.mul_le_mul_left _ hm) hd
theorem leaf_ok {k p : Nat} {w : Int} {S : Hm} (h : Sta p S) (h0 : 0 ≤ w) (h4 : w < 4) : callW P (k + 5) (.f "_law_leaf") [.ref p, .int w] S (fun v S' => (∀ d, Ph 34 d v) ∧ Sta p S' ∧ Fm p S S') noX := by
  refine call_open (k := k + 4) fn_f_law_leaf ⟨rfl, ?_⟩
  show wSs _ _ _ s3_f_law_leaf _ _ [some (.ref p), some (.int w)] S
  simp only [s3_f_law_leaf, wSs, wS, wT, wEs, wO, wPs, wC, wSrc, wE_loc, wE_lit, wE_con, wE_bin, wE_neg, wE_cmp, wE_cmp2, wE_isN, wE_notN, wE_isB, wE_not, wE_and, wE_or, wE_ite, wE_tup, wE_lst, wE_dic, wE_call, wE_make, wE_meth, wE_fld, wE_sub, wE_slice, wE_bi, wE_vi, wE_bm, wE_isi, wE_lc, wE_lck, eg, es, Option.some.injEq, exists_eq_left', Lit.val, cmpW, eqW_int, truth, Option.some.injEq, exists_eq_left']
  by_cases hw : w = 0
  · rw [if_pos (decide_eq_true hw)]
    simp only [s1_f_law_leaf, wSs, wS, wT, wEs, wO, wPs, wC, wSrc, wE_loc, wE_lit, wE_con, wE_bin, wE_neg, wE_cmp, wE_cmp2, wE_isN, wE_notN, wE_isB, wE_not, wE_and, wE_or, wE_ite, wE_tup, wE_lst, wE_dic, wE_call, wE_make, wE_meth, wE_fld, wE_sub, wE_slice, wE_bi, wE_vi, wE_bm, wE_isi, wE_lc, wE_lck, eg, es, Option.some.injEq, exists_eq_left', Lit.val]
    refine call_use (number_ok (k := k + 2) h) ?_
    rintro _ S1 ⟨⟨n, rfl, hn⟩, p1, f1⟩
    exact ⟨fun _ => gd_int hn, p1, f1⟩
  · rw [if_neg (by simpa using hw)]
    simp only [s2_f_law_leaf, wSs, wS, wT, wEs, wO, wPs, wC, wSrc, wE_loc, wE_lit, wE_con, wE_bin, wE_neg, wE_cmp, wE_cmp2, wE_isN, wE_notN, wE_isB, wE_not, wE_and, wE_or, wE_ite, wE_tup, wE_lst, wE_dic, wE_call, wE_make, wE_meth, wE_fld, wE_sub, wE_slice, wE_bi, wE_vi, wE_bm, wE_isi, wE_lc, wE_lck, eg, es, Option.some.injEq, exists_eq_left', Lit.val]
    refine call_use (small_ok (k := k + 1) h) ?_
    rintro _ S1 ⟨⟨a, rfl, ha, la⟩, p1, f1⟩
    refine call_use (path_ok (k := k) p1) ?_
    rintro _ S2 ⟨⟨bg, b, rfl, hbg, hb, _, _⟩, p2, f2⟩
    refine call_use (great_ok (k := k + 1) p2) ?_
    rintro _ S3 ⟨⟨c, rfl, hc, lc⟩, p3, f3⟩
    refine ⟨by rw [sizeLine_eq]; simp, bsub ?_⟩
    refine pick get_new (by omega) (by simp; omega) fun v hv => ⟨?_, p3.app _, f1.trans (f2.trans (f3.trans (Fm.app _)))⟩
    simp only [List.mem_cons, List.not_mem_nil, or_false] at hv
    rcases hv with rfl | rfl | rfl
    · exact fun _ => gd_small ha
    · exact fun _ => gd_path hbg hb
    · exact fun _ => gd_great hc
section
variable {p q e D c w : Nat} (hpq : p ≠ q) (hph : ∀ k, c ≤ k → ∀ S, Sta p S → Lf q S → callW P k (.f "_law_phrase") [.ref p, .int e, .ref q] S (fun v S' => Ph w D v ∧ Sta p S' ∧ Lf q S' ∧ F2 p q S S') noX)
include hpq hph
theorem some_ok {m : Int} (h0 : 0 ≤ m) (h1 : m ≤ 10) {k : Nat} (hk : c ≤ k) {S : Hm} (h : Sta p S) (hl : Lf q S) : callW P (k + 1) (.f "_law_some") [.ref p, .int ((e + 1 : Nat) : Int), .ref q, .int m] S (fun v S' => (∃ vs, v = .tup vs ∧ (vs.length : Int) = m ∧ ∀ x ∈ vs, Ph w D x) ∧ Sta p S' ∧ Lf q S' ∧ F2 p q S S') noX := by
  refine call_open (k := k) fn_f_law_some ⟨rfl, ?_⟩
  show wSs _ _ _ s1_f_law_some _ _ [some (.ref p), some (.int ((e + 1 : Nat) : Int)), some (.ref q), some (.int m), none] S
  simp only [s1_f_law_some, wSs, wS, wT, wEs, wO, wPs, wC, wSrc, wE_loc, wE_lit, wE_con, wE_bin, wE_neg, wE_cmp, wE_cmp2, wE_isN, wE_notN, wE_isB, wE_not, wE_and, wE_or, wE_ite, wE_tup, wE_lst, wE_dic, wE_call, wE_make, wE_meth, wE_fld, wE_sub, wE_slice, wE_bi, wE_vi, wE_bm, wE_isi, wE_lc, wE_lck, eg, es, Option.some.injEq, exists_eq_left', Lit.val]
  refine ⟨m, rfl, ⟨by omega, by omega⟩, ?_⟩
  refine lcr_inv (callW_mono P _) (fun i acc S' => acc.length = i ∧ (∀ v ∈ acc, Ph w D v) ∧ Sta p S' ∧ Lf q S' ∧ F2 p q S S') ?_ ?_ ⟨rfl, by simp, h, hl, F2.refl _ _ _⟩
  · rintro i v acc S' hi ⟨hal, hacc, hp, hq, hf⟩
    obtain ⟨hi, rfl⟩ := rng_get hi
    refine ⟨trivial, ?_⟩
    simp only [tgW, List.map_cons, List.map_nil, ewipe, wSs, wS, wT, wEs, wO, wPs, wC, wSrc, wE_loc, wE_lit, wE_con, wE_bin, wE_neg, wE_cmp, wE_cmp2, wE_isN, wE_notN, wE_isB, wE_not, wE_and, wE_or, wE_ite, wE_tup, wE_lst, wE_dic, wE_call, wE_make, wE_meth, wE_fld, wE_sub, wE_slice, wE_bi, wE_vi, wE_bm, wE_isi, wE_lc, wE_lck, eg, es, Option.some.injEq, exists_eq_left', Lit.val, if_true]
    refine bsub ?_
    rw [show (((e + 1 : Nat) : Int) - 1) = (e : Int) from by omega]
    refine call_use (hph k hk S' hp hq) ?_
    rintro v4 S4 ⟨g4, p4, q4, f4⟩
    refine ⟨by rw [sizeLine_eq]; omega, by simp [hal], fun u hu => ?_, p4, q4, hf.trans f4⟩
    rcases List.mem_append.mp hu with hu | hu
    · exact hacc u hu
    · have : u = v4 := by simpa using hu
      subst this; exact g4
  · rintro acc S' ⟨hal, hacc, hp, hq, hf⟩
    rw [rangeL_len] at hal
    refine ⟨trivial, ?_⟩
    simp only [biW]
    refine ⟨acc, lst_at get_new, ⟨acc, rfl, by omega, hacc⟩, hp.app _, hq.app _, hf.trans (F2.app _)⟩
theorem ring_ok {k : Nat} (hk : c ≤ k) (hk4 : 4 ≤ k) {S : Hm} (h : Sta p S) (hl : Lf q S) : callW P (k + 2) (.f "_law_ring") [.ref p, .int ((e + 1 : Nat) : Int), .ref q] S (fun v S' => Ph (1370 + 7 * w) (D + 3) v ∧ Sta p S' ∧ Lf q S' ∧ F2 p q S S') noX := by
  refine call_open (k := k + 1) fn_f_law_ring ⟨rfl, ?_⟩
  show wSs _ _ _ s3_f_law_ring _ _ [some (.ref p), some (.int ((e + 1 : Nat) : Int)), some (.ref q), none, none] S
  simp only [s3_f_law_ring, wSs, wS, wT, wEs, wO, wPs, wC, wSrc, wE_loc, wE_lit, wE_con, wE_bin, wE_neg, wE_cmp, wE_cmp2, wE_isN, wE_notN, wE_isB, wE_not, wE_and, wE_or, wE_ite, wE_tup, wE_lst, wE_dic, wE_call, wE_make, wE_meth, wE_fld, wE_sub, wE_slice, wE_bi, wE_vi, wE_bm, wE_isi, wE_lc, wE_lck, eg, es, Option.some.injEq, exists_eq_left', Lit.val]
  obtain ⟨i, rfl⟩ : ∃ i, k = i + 4 := ⟨k - 4, by omega⟩
  refine ⟨by rw [sizeLine_eq]; simp, ?_⟩
  have hlt := h.lt
  have hql := hl.lt
  refine call_use (next_ok (k := i + 4) (h.app [.lst []]) (by decide) (by decide)) ?_
  rintro _ S1 ⟨⟨r, rfl, a, b⟩, p1, f1, e1⟩
  refine badd ⟨1 + r, rfl, ⟨by omega, by omega⟩, ?_⟩
  have g1 := f1.get (n := S.length) (by omega) get_new
  have q1 : Lf q S1 := (hl.app _).fm f1 hpq
  have s1 : S1.length = S.length + 1 := by simpa using e1
  refine for_inv (callW_mono P _) (fun j env S' => ∃ (x4 : Option Val) (rs : List Val), env = [some (.ref p), some (.int ((e + 1 : Nat) : Int)), some (.ref q), some (.ref S.length), x4] ∧ S'[S.length]? = some (.lst rs) ∧ rs.length = j ∧ (∀ x ∈ rs, Pl (D + 1) x ∧ ringRow (phD (D + 2)) x = true ∧ Wd [x] (74 + w) (D + 1)) ∧ Sta p S' ∧ Lf q S' ∧ F2 p q S S') ?_ ?_ ⟨_, [], rfl, g1, rfl, by simp, p1, q1, (F2.app _).trans (.of f1)⟩
  · rintro j v env S' hj ⟨x4, rs, rfl, c1, c2, c3, c4, c5, c6⟩
    obtain ⟨hj, rfl⟩ := rng_get hj
    refine ⟨trivial, ?_⟩
    have hL := c6.1
    simp only [tgW, s1_f_law_ring, wSs, wS, wT, wEs, wO, wPs, wC, wSrc, wE_loc, wE_lit, wE_con, wE_bin, wE_neg, wE_cmp, wE_cmp2, wE_isN, wE_notN, wE_isB, wE_not, wE_and, wE_or, wE_ite, wE_tup, wE_lst, wE_dic, wE_call, wE_make, wE_meth, wE_fld, wE_sub, wE_slice, wE_bi, wE_vi, wE_bm, wE_isi, wE_lc, wE_lck, eg, es, Option.some.injEq, exists_eq_left', Lit.val, bmT]
    refine ⟨⟨_, _, rfl, lst_at c1⟩, ?_⟩
    refine call_use (small_ok (k := i + 2) c4) ?_
    rintro _ S2 ⟨⟨w1, rfl, hw1, lw1⟩, p2, f2⟩
    refine call_use (small_ok (k := i + 2) p2) ?_
    rintro _ S3 ⟨⟨w2, rfl, hw2, lw2⟩, p3, f3⟩
    refine ⟨by rw [sizeLine_eq]; simp, ?_⟩
    have q3 := (c5.fm f2 hpq).fm f3 hpq
    refine call_use (some_ok hpq hph (m := 1) (by decide) (by decide) (k := i + 4) hk p3 q3) ?_
    rintro _ S4 ⟨⟨vs, rfl, hvl, hvs⟩, p4, q4, f4⟩
    have c1' := (F2.trans (.of f2) ((F2.of f3).trans f4)).get (n := S.length) (by omega) (by omega) c1
    match vs, hvl, hvs with
    | [pp], _, hvs =>
    have gp := hvs pp (by simp)
    simp only [binW, bmW]
    refine ⟨by rw [sizeLine_eq]; simp, rs, c1', by rw [sizeLine_eq]; omega, ?_⟩
    refine ⟨_, _, rfl, by rw [get_set, c1']; rfl, by simp [c2], fun x hx => ?_, p4.set (by omega), q4.set (by omega), (c6.trans ((F2.of f2).trans ((F2.of f3).trans f4))).set (Nat.le_refl _)⟩
    rcases List.mem_append.mp hx with hx | hx
    · exact c3 x hx
    · have : x = .tup [.str w1, .str w2, pp] := by simpa using hx
      subst this
      refine ⟨.tup (fun y hy => ?_) (by simp), ?_, ((Wd.word (tx_small hw1)).cons ((Wd.word (tx_small hw2)).cons gp.2.2)).box.le (by omega) (Nat.le_refl _)⟩
      · simp only [List.mem_cons, List.not_mem_nil, or_false] at hy
        rcases hy with rfl | rfl | rfl
        · exact .str (by omega)
        · exact .str (by omega)
        · exact gp.1
      · simp only [ringRow, smallN, hw1, hw2, gp.up (e := D + 2) (by omega), Bool.and_self]
  · rintro env S' ⟨x4, rs, rfl, c1, c2, c3, c4, c5, c6⟩
    rw [rangeL_len] at c2
    refine ⟨trivial, ?_⟩
    simp only [s2_f_law_ring, wSs, wS, wT, wEs, wO, wPs, wC, wSrc, wE_loc, wE_lit, wE_con, wE_bin, wE_neg, wE_cmp, wE_cmp2, wE_isN, wE_notN, wE_isB, wE_not, wE_and, wE_or, wE_ite, wE_tup, wE_lst, wE_dic, wE_call, wE_make, wE_meth, wE_fld, wE_sub, wE_slice, wE_bi, wE_vi, wE_bm, wE_isi, wE_lc, wE_lck, eg, es, Option.some.injEq, exists_eq_left', Lit.val, biW]
    refine ⟨rs, lst_at c1, by rw [sizeLine_eq]; simp, ?_⟩
    refine call_use (some_ok hpq hph (m := 1) (by decide) (by decide) (k := i + 4) hk c4 c5) ?_
    rintro _ S4 ⟨⟨vs, rfl, hvl, hvs⟩, p4, q4, f4⟩
    match vs, hvl, hvs with
    | [pp], _, hvs =>
    have gp := hvs pp (by simp)
    simp only [binW]
    refine ⟨by rw [sizeLine_eq]; simp, ?_, p4, q4, c6.trans f4⟩
    refine gd_mk (d := D + 2) (s := "ring") (vs := [.tup rs, pp]) (.letters (by decide +kernel)) (fun x hx => ?_) (by simp) (by simp) ?_ (((wd_all fun y hy => (c3 y hy).2.2).box.le (Nat.add_le_add_left (Nat.mul_le_mul_left (74 + w) (show rs.length ≤ 4 by omega)) 6) (by omega)).cons (gp.2.2.le (Nat.le_refl _) (by omega))) (by omega)
    · simp only [List.mem_cons, List.not_mem_nil, or_false] at hx
      rcases hx with rfl | rfl
      · exact .tup (fun y hy => (c3 y hy).1) (by omega)
      · exact gp.1.le (by omega)
    · rw [head_ring]
      have : rs.all (ringRow (phD (D + 2))) = true := by rw [List.all_eq_true]; exact fun y hy => (c3 y hy).2.1
      simp only [ringB, this, gp.up (e := D + 2) (by omega)]
      simp
      omega
theorem case_ok {k : Nat} (hk : c ≤ k) (hk4 : 4 ≤ k) {S : Hm} (h : Sta p S) (hl : Lf q S) : callW P (k + 2) (.f "_law_case") [.ref p, .int ((e + 1 : Nat) : Int), .ref q] S (fun v S' => Ph (1370 + 7 * w) (D + 3) v ∧ Sta p S' ∧ Lf q S' ∧ F2 p q S S') noX := by
  refine call_open (k := k + 1) fn_f_law_case ⟨rfl, ?_⟩
  show wSs _ _ _ s5_f_law_case _ _ [some (.ref p), some (.int ((e + 1 : Nat) : Int)), some (.ref q), none, none, none, none, none] S
  simp only [s5_f_law_case, wSs, wS, wT, wEs, wO, wPs, wC, wSrc, wE_loc, wE_lit, wE_con, wE_bin, wE_neg, wE_cmp, wE_cmp2, wE_isN, wE_notN, wE_isB, wE_not, wE_and, wE_or, wE_ite, wE_tup, wE_lst, wE_dic, wE_call, wE_make, wE_meth, wE_fld, wE_sub, wE_slice, wE_bi, wE_vi, wE_bm, wE_isi, wE_lc, wE_lck, eg, es, Option.some.injEq, exists_eq_left', Lit.val]
  obtain ⟨i, rfl⟩ : ∃ i, k = i + 4 := ⟨k - 4, by omega⟩
  refine ⟨by rw [sizeLine_eq]; simp, ?_⟩
  have hlt := h.lt
  have hql := hl.lt
  refine call_use (some_ok hpq hph (m := 1) (by decide) (by decide) (k := i + 4) hk (h.app [.lst []]) (hl.app _)) ?_
  rintro _ S0 ⟨⟨fs, rfl, hfl, hfs⟩, p0, q0, f0⟩
  have g0 := f0.get (n := S.length) (by omega) (by omega) get_new
  simp only [s4_f_law_case, wSs, wS, wT, wEs, wO, wPs, wC, wSrc, wE_loc, wE_lit, wE_con, wE_bin, wE_neg, wE_cmp, wE_cmp2, wE_isN, wE_notN, wE_isB, wE_not, wE_and, wE_or, wE_ite, wE_tup, wE_lst, wE_dic, wE_call, wE_make, wE_meth, wE_fld, wE_sub, wE_slice, wE_bi, wE_vi, wE_bm, wE_isi, wE_lc, wE_lck, eg, es, Option.some.injEq, exists_eq_left', Lit.val]
  refine call_use (next_ok (k := i + 4) p0 (by decide) (by decide)) ?_
  rintro _ S1 ⟨⟨r, rfl, a, b⟩, p1, f1, e1⟩
  refine badd ⟨1 + r, rfl, ⟨by omega, by omega⟩, ?_⟩
  have g1 := f1.get (n := S.length) (by omega) g0
  have q1 : Lf q S1 := q0.fm f1 hpq
  refine for_inv (callW_mono P _) (fun j env S' => ∃ (x5 x6 x7 : Option Val) (rs : List Val), env = [some (.ref p), some (.int ((e + 1 : Nat) : Int)), some (.ref q), some (.ref S.length), some (.tup fs), x5, x6, x7] ∧ S'[S.length]? = some (.lst rs) ∧ rs.length = j ∧ (∀ x ∈ rs, Pl (D + 2) x ∧ armB (phD (D + 2)) x = true ∧ Wd [x] (182 + w) (D + 2)) ∧ Sta p S' ∧ Lf q S' ∧ F2 p q S S') ?_ ?_ ⟨_, _, _, [], rfl, g1, rfl, by simp, p1, q1, (F2.app _).trans (f0.trans (.of f1))⟩
  · rintro j v env S' hj ⟨x5, x6, x7, rs, rfl, c1, c2, c3, c4, c5, c6⟩
    obtain ⟨hj, rfl⟩ := rng_get hj
    refine ⟨trivial, ?_⟩
    have hL := c6.1
    simp only [tgW, s2_f_law_case, wSs, wS, wT, wEs, wO, wPs, wC, wSrc, wE_loc, wE_lit, wE_con, wE_bin, wE_neg, wE_cmp, wE_cmp2, wE_isN, wE_notN, wE_isB, wE_not, wE_and, wE_or, wE_ite, wE_tup, wE_lst, wE_dic, wE_call, wE_make, wE_meth, wE_fld, wE_sub, wE_slice, wE_bi, wE_vi, wE_bm, wE_isi, wE_lc, wE_lck, eg, es, Option.some.injEq, exists_eq_left', Lit.val]
    refine call_use (next_ok (k := i + 4) c4 (by decide) (by decide)) ?_
    rintro _ S2 ⟨⟨r2, rfl, a2, b2⟩, p2, f2, _⟩
    refine ⟨r2, rfl, ⟨by omega, by omega⟩, ?_⟩
    refine lcr_inv (callW_mono P _) (fun i acc S'' => acc.length = i ∧ (∀ v ∈ acc, ∃ w, v = .str w ∧ small w = true ∧ w.length ≤ 9) ∧ Sta p S'' ∧ Fm p S' S'') ?_ ?_ ⟨rfl, by simp, p2, f2⟩
    · rintro n v acc S3 hi ⟨hal, hacc, hp, hf⟩
      obtain ⟨hi, rfl⟩ := rng_get hi
      refine ⟨trivial, ?_⟩
      simp only [tgW, List.map_cons, List.map_nil, ewipe, wSs, wS, wT, wEs, wO, wPs, wC, wSrc, wE_loc, wE_lit, wE_con, wE_bin, wE_neg, wE_cmp, wE_cmp2, wE_isN, wE_notN, wE_isB, wE_not, wE_and, wE_or, wE_ite, wE_tup, wE_lst, wE_dic, wE_call, wE_make, wE_meth, wE_fld, wE_sub, wE_slice, wE_bi, wE_vi, wE_bm, wE_isi, wE_lc, wE_lck, eg, es, Option.some.injEq, exists_eq_left', Lit.val, if_true]
      refine call_use (small_ok (k := i + 2) hp) ?_
      rintro _ S4 ⟨⟨w, rfl, hw, lw⟩, p4, f4⟩
      refine ⟨by rw [sizeLine_eq]; omega, by simp [hal], fun u hu => ?_, p4, hf.trans f4⟩
      rcases List.mem_append.mp hu with hu | hu
      · exact hacc u hu
      · exact ⟨w, by simpa using hu, hw, lw⟩
    · rintro ns S3 ⟨hal, hns, p3, f3⟩
      rw [rangeL_len] at hal
      refine ⟨trivial, ?_⟩
      simp only [biW]
      refine ⟨ns, lst_at get_new, ?_⟩
      have f3' := f3.trans (Fm.app (p := p) [Ob.lst ns])
      have p3' := p3.app [.lst ns]
      have c1' := f3'.get (n := S.length) (by omega) c1
      have q3 := c5.fm f3' hpq
      generalize S3 ++ [Ob.lst ns] = S4 at f3' p3' c1' q3
      simp only [s1_f_law_case, wSs, wS, wT, wEs, wO, wPs, wC, wSrc, wE_loc, wE_lit, wE_con, wE_bin, wE_neg, wE_cmp, wE_cmp2, wE_isN, wE_notN, wE_isB, wE_not, wE_and, wE_or, wE_ite, wE_tup, wE_lst, wE_dic, wE_call, wE_make, wE_meth, wE_fld, wE_sub, wE_slice, wE_bi, wE_vi, wE_bm, wE_isi, wE_lc, wE_lck, eg, es, Option.some.injEq, exists_eq_left', Lit.val, bmT]
      refine ⟨⟨_, _, rfl, lst_at c1'⟩, ?_⟩
      refine call_use (great_ok (k := i + 2) p3') ?_
      rintro _ S5 ⟨⟨g, rfl, hg, lg⟩, p5, f5⟩
      simp only [binW]
      refine ⟨by rw [sizeLine_eq]; simp, by rw [sizeLine_eq]; simp; omega, by rw [sizeLine_eq]; simp, ?_⟩
      have q5 := q3.fm f5 hpq
      refine call_use (some_ok hpq hph (m := 1) (by decide) (by decide) (k := i + 4) hk p5 q5) ?_
      rintro _ S6 ⟨⟨vs, rfl, hvl, hvs⟩, p6, q6, f6⟩
      have c1'' := (F2.trans (.of f5) f6).get (n := S.length) (by omega) (by omega) c1'
      match vs, hvl, hvs with
      | [pp], _, hvs =>
      have gp := hvs pp (by simp)
      simp only [bmW]
      refine ⟨by rw [sizeLine_eq]; simp, rs, c1'', by rw [sizeLine_eq]; omega, ?_⟩
      refine ⟨_, _, _, _, rfl, by rw [get_set, c1'']; rfl, by simp [c2], fun x hx => ?_, p6.set (by omega), q6.set (by omega), (c6.trans ((F2.of f3').trans ((F2.of f5).trans f6))).set (Nat.le_refl _)⟩
      rcases List.mem_append.mp hx with hx | hx
      · exact c3 x hx
      · have : x = .tup [.tup (.str g :: ns), pp] := by simpa using hx
        subst this
        have hn : ∀ v ∈ ns, Pl D v := fun v hv => by obtain ⟨w, rfl, _, lw⟩ := hns v hv; exact .str (by omega)
        have wn : Wd ns (34 * 4) 0 := (wd_all fun v hv => by obtain ⟨w', rfl, hw', _⟩ := hns v hv; exact Wd.word (tx_small hw')).le (Nat.mul_le_mul_left 34 (by omega)) (Nat.le_refl _)
        refine ⟨.tup (fun y hy => ?_) (by simp), ?_, ((((Wd.word (.great hg)).cons wn).box.le (Nat.le_refl _) (show 0 + 1 ≤ D + 1 by omega)).cons (gp.2.2.le (Nat.le_refl _) (by omega))).box.le (by omega) (by omega)⟩
        · simp only [List.mem_cons, List.not_mem_nil, or_false] at hy
          rcases hy with rfl | rfl
          · refine .tup (fun z hz => ?_) (by simp; omega)
            rcases List.mem_cons.mp hz with rfl | hz
            · exact .str (by omega)
            · exact hn z hz
          · exact gp.1.le (by omega)
        · have hs : ns.all smallN = true := by
            rw [List.all_eq_true]
            intro v hv
            obtain ⟨w, rfl, hw, _⟩ := hns v hv
            exact hw
          simp only [armB, greatN, hg, hs, gp.up (e := D + 2) (by omega)]
          simp
          omega
  · rintro env S' ⟨x5, x6, x7, rs, rfl, c1, c2, c3, c4, c5, c6⟩
    rw [rangeL_len] at c2
    refine ⟨trivial, ?_⟩
    match fs, hfl, hfs with
    | [pp], _, hfs =>
    have gp := hfs pp (by simp)
    simp only [s3_f_law_case, wSs, wS, wT, wEs, wO, wPs, wC, wSrc, wE_loc, wE_lit, wE_con, wE_bin, wE_neg, wE_cmp, wE_cmp2, wE_isN, wE_notN, wE_isB, wE_not, wE_and, wE_or, wE_ite, wE_tup, wE_lst, wE_dic, wE_call, wE_make, wE_meth, wE_fld, wE_sub, wE_slice, wE_bi, wE_vi, wE_bm, wE_isi, wE_lc, wE_lck, eg, es, Option.some.injEq, exists_eq_left', Lit.val, biW, binW]
    refine ⟨by rw [sizeLine_eq]; simp, by rw [sizeLine_eq]; simp, rs, lst_at c1, by rw [sizeLine_eq]; simp; omega, ?_, c4, c5, c6⟩
    refine gd_mk (d := D + 2) (s := "case") (vs := pp :: rs) (.letters (by decide +kernel)) (fun x hx => ?_) (by simp) (by simp; omega) ?_ ((gp.2.2.le (Nat.le_refl _) (by omega)).cons ((wd_all fun y hy => (c3 y hy).2.2).le (Nat.mul_le_mul_left (182 + w) (show rs.length ≤ 6 by omega)) (Nat.le_refl _))) (by omega)
    · rcases List.mem_cons.mp hx with rfl | hx
      · exact gp.1.le (by omega)
      · exact (c3 x hx).1
    · rw [head_case]
      have : rs.all (armB (phD (D + 2))) = true := by rw [List.all_eq_true]; exact fun y hy => (c3 y hy).2.1
      simp only [caseB, this, gp.up (e := D + 2) (by omega)]
      simp
      omega
end
theorem gd_row {w W d n : Nat} {s : String} {vs : List Val} (hs : Tx s) (hv : ∀ v ∈ vs, Ph w d v) (h1 : 1 ≤ vs.length) (h7 : vs.length ≤ 7) (hd : d + 1 ≤ n) (hW : 40 + w * 7 ≤ W) (h : ∀ f : Val → Bool, vs.all f = true → headB f s vs = true) : Ph W n (.tup (.str s :: vs)) :=
  (gd_mk hs (fun v hm => (hv v hm).1) h1 h7 (h _ (all_gd hv)) (wd_ph hv h7 (Nat.le_refl _)) hW).le hd (Nat.le_refl _)
def WP : Nat → Nat
  | 0 => 34
  | d + 1 => 1370 + 7 * WP d
theorem WP_ge : ∀ d, 34 ≤ WP d
  | 0 => Nat.le_refl _
  | d + 1 => by have := WP_ge d; rw [WP]; omega
theorem phrase_ok {p q : Nat} (hpq : p ≠ q) : ∀ (d k : Nat), 3 * d + 6 ≤ k → ∀ S, Sta p S → Lf q S → callW P k (.f "_law_phrase") [.ref p, .int d, .ref q] S (fun v S' => Ph (WP d) (3 * d) v ∧ Sta p S' ∧ Lf q S' ∧ F2 p q S S') noX := by
  intro d
  induction d using Nat.strongRecOn with
  | _ d ih =>
  intro k hk S h hl
  obtain ⟨i, rfl⟩ : ∃ i, k = i + 6 := ⟨k - 6, by omega⟩
  refine call_open (k := i + 5) fn_f_law_phrase ⟨rfl, ?_⟩
  show wSs _ _ _ s20_f_law_phrase _ _ [some (.ref p), some (.int d), some (.ref q), none] S
  obtain ⟨n, hn⟩ := hl
  simp only [s20_f_law_phrase, wSs, wS, wT, wEs, wO, wPs, wC, wSrc, wE_loc, wE_lit, wE_con, wE_bin, wE_neg, wE_cmp, wE_cmp2, wE_isN, wE_notN, wE_isB, wE_not, wE_and, wE_or, wE_ite, wE_tup, wE_lst, wE_dic, wE_call, wE_make, wE_meth, wE_fld, wE_sub, wE_slice, wE_bi, wE_vi, wE_bm, wE_isi, wE_lc, wE_lck, eg, es, Option.some.injEq, exists_eq_left', Lit.val]
  refine ⟨⟨_, rfl⟩, ?_⟩
  refine subW_lst (lst_at hn) (v := .int n) ix_zero ?_
  simp only [ibinW]
  refine setW_lst (j := 0) hn rfl ?_
  have hn2 : (S.set q (.lst [.int (n - 1)]))[q]? = some (.lst [.int (n - 1)]) := by rw [get_set, hn]; rfl
  have h2 : Sta p (S.set q (.lst [.int (n - 1)])) := h.set (Ne.symm hpq)
  have f2 : F2 p q S (S.set q (.lst [.int (n - 1)])) := ⟨by simp, fun m _ _ hq => get_ne hq⟩
  show callW P (i + 5) (.f "_law_next") _ (S.set q (.lst [.int (n - 1)])) _ _
  generalize S.set q (.lst [.int (n - 1)]) = S2 at hn2 h2 f2
  refine call_use (next_ok (k := i + 4) h2 (by decide) (by decide)) ?_
  rintro _ S3 ⟨⟨way, rfl, a, b⟩, p3, f3, _⟩
  have hn3 := f3.get (Ne.symm hpq) hn2
  have q3 : Lf q S3 := ⟨_, hn3⟩
  have f03 := f2.trans (F2.of f3)
  have leaf : wSs P.con P.sub (callW P (i + 5)) s1_f_law_phrase (fun c x S' => noX c S') { nx := fun _ S' => Ph (WP d) (3 * d) .non ∧ Sta p S' ∧ Lf q S' ∧ F2 p q S S', rt := fun v S' => Ph (WP d) (3 * d) v ∧ Sta p S' ∧ Lf q S' ∧ F2 p q S S' } [some (.ref p), some (.int d), some (.ref q), some (.int way)] S3 := by
    simp only [s1_f_law_phrase, wSs, wS, wT, wEs, wO, wPs, wC, wSrc, wE_loc, wE_lit, wE_con, wE_bin, wE_neg, wE_cmp, wE_cmp2, wE_isN, wE_notN, wE_isB, wE_not, wE_and, wE_or, wE_ite, wE_tup, wE_lst, wE_dic, wE_call, wE_make, wE_meth, wE_fld, wE_sub, wE_slice, wE_bi, wE_vi, wE_bm, wE_isi, wE_lc, wE_lck, eg, es, Option.some.injEq, exists_eq_left', Lit.val]
    refine bmod (by decide) ?_
    refine call_use (leaf_ok (k := i) p3 (Int.emod_nonneg _ (by decide)) (Int.emod_lt_of_pos _ (by decide))) ?_
    rintro v S4 ⟨g4, p4, f4⟩
    exact ⟨(g4 (3 * d)).le (Nat.le_refl _) (WP_ge d), p4, q3.fm f4 hpq, f03.trans (.of f4)⟩
  simp only [s19_f_law_phrase, wSs, wS, wT, wEs, wO, wPs, wC, wSrc, wE_loc, wE_lit, wE_con, wE_bin, wE_neg, wE_cmp, wE_cmp2, wE_isN, wE_notN, wE_isB, wE_not, wE_and, wE_or, wE_ite, wE_tup, wE_lst, wE_dic, wE_call, wE_make, wE_meth, wE_fld, wE_sub, wE_slice, wE_bi, wE_vi, wE_bm, wE_isi, wE_lc, wE_lck, eg, es, Option.some.injEq, exists_eq_left', Lit.val, cmpW, eqW_int, truth, Option.some.injEq, exists_eq_left']
  by_cases hd : (d : Int) = 0
  · rw [if_pos (decide_eq_true hd), if_pos trivial]
    exact leaf
  rw [if_neg (by simpa using hd)]
  refine subW_lst (lst_at hn3) (v := .int (n - 1)) ix_zero ?_
  dsimp only
  by_cases hneg : n - 1 < 0
  · rw [if_pos (decide_eq_true hneg), if_pos trivial]
    exact leaf
  rw [if_neg (by rw [decide_eq_true_eq]; exact hneg)]
  by_cases hw : way < 4
  · rw [if_pos (decide_eq_true hw)]
    exact leaf
  rw [if_neg (by simpa using hw)]
  obtain ⟨e, rfl⟩ : ∃ e, d = e + 1 := ⟨d - 1, by omega⟩
  have hph : ∀ k, 3 * e + 6 ≤ k → ∀ S, Sta p S → Lf q S → callW P k (.f "_law_phrase") [.ref p, .int e, .ref q] S (fun v S' => Ph (WP e) (3 * e) v ∧ Sta p S' ∧ Lf q S' ∧ F2 p q S S') noX := fun k hk S h hl => ih e (by omega) k hk S h hl
  have hi : 3 * e + 6 ≤ i + 3 := by omega
  have some_ : ∀ {m : Int} {S4 : Hm} {Q : Post}, 0 ≤ m → m ≤ 10 → Sta p S4 → Lf q S4 → F2 p q S S4 → (∀ vs S5, (vs.length : Int) = m → (∀ x ∈ vs, Ph (WP e) (3 * e) x) → Sta p S5 → Lf q S5 → F2 p q S S5 → Q (.tup vs) S5) → callW P (i + 5) (.f "_law_some") [.ref p, .int ((e + 1 : Nat) : Int), .ref q, .int m] S4 Q noX := by
    intro m S4 Q h0 h1 p4 q4 f4 hq
    refine call_use (some_ok hpq hph h0 h1 (k := i + 4) (by omega) p4 q4) ?_
    rintro _ S5 ⟨⟨vs, rfl, hvl, hvs⟩, p5, q5, f5⟩
    exact hq vs S5 hvl hvs p5 q5 (f4.trans f5)
  simp only [s18_f_law_phrase, wSs, wS, wT, wEs, wO, wPs, wC, wSrc, wE_loc, wE_lit, wE_con, wE_bin, wE_neg, wE_cmp, wE_cmp2, wE_isN, wE_notN, wE_isB, wE_not, wE_and, wE_or, wE_ite, wE_tup, wE_lst, wE_dic, wE_call, wE_make, wE_meth, wE_fld, wE_sub, wE_slice, wE_bi, wE_vi, wE_bm, wE_isi, wE_lc, wE_lck, eg, es, Option.some.injEq, exists_eq_left', Lit.val, cmpW, eqW_int, truth, Option.some.injEq, exists_eq_left']
  by_cases w4 : way = 4
  · rw [if_pos (decide_eq_true w4)]
    simp only [s2_f_law_phrase, wSs, wS, wT, wEs, wO, wPs, wC, wSrc, wE_loc, wE_lit, wE_con, wE_bin, wE_neg, wE_cmp, wE_cmp2, wE_isN, wE_notN, wE_isB, wE_not, wE_and, wE_or, wE_ite, wE_tup, wE_lst, wE_dic, wE_call, wE_make, wE_meth, wE_fld, wE_sub, wE_slice, wE_bi, wE_vi, wE_bm, wE_isi, wE_lc, wE_lck, eg, es, Option.some.injEq, exists_eq_left', Lit.val]
    refine call_use (great_ok (k := i + 2) p3) ?_
    rintro _ S4 ⟨⟨g, rfl, hg, lg⟩, p4, f4⟩
    refine ⟨by rw [sizeLine_eq]; simp, ?_⟩
    refine call_use (next_ok (k := i + 4) p4 (by decide) (by decide)) ?_
    rintro _ S5 ⟨⟨r, rfl, a5, b5⟩, p5, f5, _⟩
    refine badd ?_
    refine some_ (by omega) (by omega) p5 ((q3.fm f4 hpq).fm f5 hpq) (f03.trans ((F2.of f4).trans (.of f5))) fun vs S6 hvl hvs p6 q6 f6 => ?_
    simp only [binW]
    refine ⟨by rw [sizeLine_eq]; simp; omega, gd_row (vs := vs) (s := g) (.great hg) hvs (by omega) (by omega) (by omega) (by rw [WP]; omega) (fun f hf => ?_), p6, q6, f6⟩
    rw [head_great hg, hf]
    simp
    omega
  rw [if_neg (by simpa using w4)]
  simp only [s17_f_law_phrase, wSs, wS, wT, wEs, wO, wPs, wC, wSrc, wE_loc, wE_lit, wE_con, wE_bin, wE_neg, wE_cmp, wE_cmp2, wE_isN, wE_notN, wE_isB, wE_not, wE_and, wE_or, wE_ite, wE_tup, wE_lst, wE_dic, wE_call, wE_make, wE_meth, wE_fld, wE_sub, wE_slice, wE_bi, wE_vi, wE_bm, wE_isi, wE_lc, wE_lck, eg, es, Option.some.injEq, exists_eq_left', Lit.val, cmpW, eqW_int, truth, Option.some.injEq, exists_eq_left']
  have named : ∀ {s : String} {m : Int} {lo hi : Nat} {w : String} {vs : List Val}, Tx s → small w = true → (vs.length : Int) = m → (lo : Int) ≤ m → m ≤ (hi : Int) → hi ≤ 4 → (∀ x ∈ vs, Ph (WP e) (3 * e) x) → (∀ f ws, headB f s ws = namedB f lo hi ws) → Ph (WP (e + 1)) (3 * (e + 1)) (.tup (.str s :: .str w :: vs)) := by
    intro s m lo hi w vs hs hw hvl hlo hhi h4 hvs hh
    refine (gd_mk (d := 3 * e) hs (fun x hx => ?_) (by simp) (by simp; omega) ?_ ((Wd.word (tx_small hw)).cons (wd_ph hvs (show vs.length ≤ 4 by omega) (Nat.le_refl _))) (Nat.le_refl _)).le (by omega) (by rw [WP]; omega)
    · rcases List.mem_cons.mp hx with rfl | hx
      · exact .str (by have := (tx_small hw).len; omega)
      · exact (hvs x hx).1
    · rw [hh]
      simp only [namedB, smallN, hw, all_gd hvs, Bool.and_true, Bool.and_eq_true, decide_eq_true_eq]
      omega
  by_cases w5 : way = 5
  · rw [if_pos (decide_eq_true w5)]
    simp only [s3_f_law_phrase, wSs, wS, wT, wEs, wO, wPs, wC, wSrc, wE_loc, wE_lit, wE_con, wE_bin, wE_neg, wE_cmp, wE_cmp2, wE_isN, wE_notN, wE_isB, wE_not, wE_and, wE_or, wE_ite, wE_tup, wE_lst, wE_dic, wE_call, wE_make, wE_meth, wE_fld, wE_sub, wE_slice, wE_bi, wE_vi, wE_bm, wE_isi, wE_lc, wE_lck, eg, es, Option.some.injEq, exists_eq_left', Lit.val]
    refine call_use (small_ok (k := i + 2) p3) ?_
    rintro _ S4 ⟨⟨w, rfl, hw, lw⟩, p4, f4⟩
    refine ⟨by rw [sizeLine_eq]; simp, ?_⟩
    refine some_ (by decide) (by decide) p4 (q3.fm f4 hpq) (f03.trans (.of f4)) fun vs S6 hvl hvs p6 q6 f6 => ?_
    simp only [binW]
    exact ⟨by rw [sizeLine_eq]; simp; omega, named (lo := 1) (hi := 1) (.letters (by decide +kernel)) hw hvl (by omega) (by omega) (by omega) hvs (fun _ _ => head_fun), p6, q6, f6⟩
  rw [if_neg (by simpa using w5)]
  simp only [s16_f_law_phrase, wSs, wS, wT, wEs, wO, wPs, wC, wSrc, wE_loc, wE_lit, wE_con, wE_bin, wE_neg, wE_cmp, wE_cmp2, wE_isN, wE_notN, wE_isB, wE_not, wE_and, wE_or, wE_ite, wE_tup, wE_lst, wE_dic, wE_call, wE_make, wE_meth, wE_fld, wE_sub, wE_slice, wE_bi, wE_vi, wE_bm, wE_isi, wE_lc, wE_lck, eg, es, Option.some.injEq, exists_eq_left', Lit.val, cmpW, eqW_int, truth, Option.some.injEq, exists_eq_left']
  by_cases w6 : way = 6
  · rw [if_pos (decide_eq_true w6)]
    simp only [s4_f_law_phrase, wSs, wS, wT, wEs, wO, wPs, wC, wSrc, wE_loc, wE_lit, wE_con, wE_bin, wE_neg, wE_cmp, wE_cmp2, wE_isN, wE_notN, wE_isB, wE_not, wE_and, wE_or, wE_ite, wE_tup, wE_lst, wE_dic, wE_call, wE_make, wE_meth, wE_fld, wE_sub, wE_slice, wE_bi, wE_vi, wE_bm, wE_isi, wE_lc, wE_lck, eg, es, Option.some.injEq, exists_eq_left', Lit.val]
    refine call_use (small_ok (k := i + 2) p3) ?_
    rintro _ S4 ⟨⟨w, rfl, hw, lw⟩, p4, f4⟩
    refine ⟨by rw [sizeLine_eq]; simp, ?_⟩
    refine some_ (by decide) (by decide) p4 (q3.fm f4 hpq) (f03.trans (.of f4)) fun vs S6 hvl hvs p6 q6 f6 => ?_
    simp only [binW]
    exact ⟨by rw [sizeLine_eq]; simp; omega, named (lo := 2) (hi := 2) (.letters (by decide +kernel)) hw hvl (by omega) (by omega) (by omega) hvs (fun _ _ => head_let), p6, q6, f6⟩
  rw [if_neg (by simpa using w6)]
  simp only [s15_f_law_phrase, wSs, wS, wT, wEs, wO, wPs, wC, wSrc, wE_loc, wE_lit, wE_con, wE_bin, wE_neg, wE_cmp, wE_cmp2, wE_isN, wE_notN, wE_isB, wE_not, wE_and, wE_or, wE_ite, wE_tup, wE_lst, wE_dic, wE_call, wE_make, wE_meth, wE_fld, wE_sub, wE_slice, wE_bi, wE_vi, wE_bm, wE_isi, wE_lc, wE_lck, eg, es, Option.some.injEq, exists_eq_left', Lit.val, cmpW, eqW_int, truth, Option.some.injEq, exists_eq_left']
  by_cases w7 : way = 7
  · rw [if_pos (decide_eq_true w7)]
    simp only [s5_f_law_phrase, wSs, wS, wT, wEs, wO, wPs, wC, wSrc, wE_loc, wE_lit, wE_con, wE_bin, wE_neg, wE_cmp, wE_cmp2, wE_isN, wE_notN, wE_isB, wE_not, wE_and, wE_or, wE_ite, wE_tup, wE_lst, wE_dic, wE_call, wE_make, wE_meth, wE_fld, wE_sub, wE_slice, wE_bi, wE_vi, wE_bm, wE_isi, wE_lc, wE_lck, eg, es, Option.some.injEq, exists_eq_left', Lit.val]
    refine call_use (ring_ok hpq hph (k := i + 3) hi (by omega) p3 q3) ?_
    rintro v S4 ⟨g4, p4, q4, f4⟩
    exact ⟨g4.le (by omega) (by rw [WP]; omega), p4, q4, f03.trans f4⟩
  rw [if_neg (by simpa using w7)]
  simp only [s14_f_law_phrase, wSs, wS, wT, wEs, wO, wPs, wC, wSrc, wE_loc, wE_lit, wE_con, wE_bin, wE_neg, wE_cmp, wE_cmp2, wE_isN, wE_notN, wE_isB, wE_not, wE_and, wE_or, wE_ite, wE_tup, wE_lst, wE_dic, wE_call, wE_make, wE_meth, wE_fld, wE_sub, wE_slice, wE_bi, wE_vi, wE_bm, wE_isi, wE_lc, wE_lck, eg, es, Option.some.injEq, exists_eq_left', Lit.val, cmpW, eqW_int, truth, Option.some.injEq, exists_eq_left']
  by_cases w8 : way = 8
  · rw [if_pos (decide_eq_true w8)]
    simp only [s6_f_law_phrase, wSs, wS, wT, wEs, wO, wPs, wC, wSrc, wE_loc, wE_lit, wE_con, wE_bin, wE_neg, wE_cmp, wE_cmp2, wE_isN, wE_notN, wE_isB, wE_not, wE_and, wE_or, wE_ite, wE_tup, wE_lst, wE_dic, wE_call, wE_make, wE_meth, wE_fld, wE_sub, wE_slice, wE_bi, wE_vi, wE_bm, wE_isi, wE_lc, wE_lck, eg, es, Option.some.injEq, exists_eq_left', Lit.val]
    refine call_use (case_ok hpq hph (k := i + 3) hi (by omega) p3 q3) ?_
    rintro v S4 ⟨g4, p4, q4, f4⟩
    exact ⟨g4.le (by omega) (by rw [WP]; omega), p4, q4, f03.trans f4⟩
  rw [if_neg (by simpa using w8)]
  simp only [s13_f_law_phrase, wSs, wS, wT, wEs, wO, wPs, wC, wSrc, wE_loc, wE_lit, wE_con, wE_bin, wE_neg, wE_cmp, wE_cmp2, wE_isN, wE_notN, wE_isB, wE_not, wE_and, wE_or, wE_ite, wE_tup, wE_lst, wE_dic, wE_call, wE_make, wE_meth, wE_fld, wE_sub, wE_slice, wE_bi, wE_vi, wE_bm, wE_isi, wE_lc, wE_lck, eg, es, Option.some.injEq, exists_eq_left', Lit.val, cmpW, eqW_int, truth, Option.some.injEq, exists_eq_left']
  by_cases w9 : way = 9
  · rw [if_pos (decide_eq_true w9)]
    simp only [s7_f_law_phrase, wSs, wS, wT, wEs, wO, wPs, wC, wSrc, wE_loc, wE_lit, wE_con, wE_bin, wE_neg, wE_cmp, wE_cmp2, wE_isN, wE_notN, wE_isB, wE_not, wE_and, wE_or, wE_ite, wE_tup, wE_lst, wE_dic, wE_call, wE_make, wE_meth, wE_fld, wE_sub, wE_slice, wE_bi, wE_vi, wE_bm, wE_isi, wE_lc, wE_lck, eg, es, Option.some.injEq, exists_eq_left', Lit.val]
    refine call_use (small_ok (k := i + 2) p3) ?_
    rintro _ S4 ⟨⟨w, rfl, hw, lw⟩, p4, f4⟩
    refine ⟨by rw [sizeLine_eq]; simp, ?_⟩
    refine call_use (next_ok (k := i + 4) p4 (by decide) (by decide)) ?_
    rintro _ S5 ⟨⟨r, rfl, a5, b5⟩, p5, f5, _⟩
    refine badd ?_
    refine some_ (by omega) (by omega) p5 ((q3.fm f4 hpq).fm f5 hpq) (f03.trans ((F2.of f4).trans (.of f5))) fun vs S6 hvl hvs p6 q6 f6 => ?_
    simp only [binW]
    exact ⟨by rw [sizeLine_eq]; simp; omega, named (lo := 1) (hi := 4) (.letters (by decide +kernel)) hw hvl (by omega) (by omega) (by omega) hvs (fun _ _ => head_make), p6, q6, f6⟩
  rw [if_neg (by simpa using w9)]
  simp only [s12_f_law_phrase, wSs, wS, wT, wEs, wO, wPs, wC, wSrc, wE_loc, wE_lit, wE_con, wE_bin, wE_neg, wE_cmp, wE_cmp2, wE_isN, wE_notN, wE_isB, wE_not, wE_and, wE_or, wE_ite, wE_tup, wE_lst, wE_dic, wE_call, wE_make, wE_meth, wE_fld, wE_sub, wE_slice, wE_bi, wE_vi, wE_bm, wE_isi, wE_lc, wE_lck, eg, es, Option.some.injEq, exists_eq_left', Lit.val, cmpW, eqW_int, truth, Option.some.injEq, exists_eq_left']
  by_cases w10 : way = 10
  · rw [if_pos (decide_eq_true w10)]
    simp only [s8_f_law_phrase, wSs, wS, wT, wEs, wO, wPs, wC, wSrc, wE_loc, wE_lit, wE_con, wE_bin, wE_neg, wE_cmp, wE_cmp2, wE_isN, wE_notN, wE_isB, wE_not, wE_and, wE_or, wE_ite, wE_tup, wE_lst, wE_dic, wE_call, wE_make, wE_meth, wE_fld, wE_sub, wE_slice, wE_bi, wE_vi, wE_bm, wE_isi, wE_lc, wE_lck, eg, es, Option.some.injEq, exists_eq_left', Lit.val]
    refine call_use (small_ok (k := i + 2) p3) ?_
    rintro _ S4 ⟨⟨w, rfl, hw, lw⟩, p4, f4⟩
    refine ⟨by rw [sizeLine_eq]; simp, ?_⟩
    refine some_ (by decide) (by decide) p4 (q3.fm f4 hpq) (f03.trans (.of f4)) fun vs S6 hvl hvs p6 q6 f6 => ?_
    simp only [binW]
    exact ⟨by rw [sizeLine_eq]; simp; omega, named (lo := 1) (hi := 1) (.letters (by decide +kernel)) hw hvl (by omega) (by omega) (by omega) hvs (fun _ _ => head_pick), p6, q6, f6⟩
  rw [if_neg (by simpa using w10)]
  simp only [s11_f_law_phrase, wSs, wS, wT, wEs, wO, wPs, wC, wSrc, wE_loc, wE_lit, wE_con, wE_bin, wE_neg, wE_cmp, wE_cmp2, wE_isN, wE_notN, wE_isB, wE_not, wE_and, wE_or, wE_ite, wE_tup, wE_lst, wE_dic, wE_call, wE_make, wE_meth, wE_fld, wE_sub, wE_slice, wE_bi, wE_vi, wE_bm, wE_isi, wE_lc, wE_lck, eg, es, Option.some.injEq, exists_eq_left', Lit.val, cmpW, eqW_int, truth, Option.some.injEq, exists_eq_left']
  by_cases w11 : way = 11
  · rw [if_pos (decide_eq_true w11)]
    simp only [s9_f_law_phrase, wSs, wS, wT, wEs, wO, wPs, wC, wSrc, wE_loc, wE_lit, wE_con, wE_bin, wE_neg, wE_cmp, wE_cmp2, wE_isN, wE_notN, wE_isB, wE_not, wE_and, wE_or, wE_ite, wE_tup, wE_lst, wE_dic, wE_call, wE_make, wE_meth, wE_fld, wE_sub, wE_slice, wE_bi, wE_vi, wE_bm, wE_isi, wE_lc, wE_lck, eg, es, Option.some.injEq, exists_eq_left', Lit.val]
    refine ⟨by rw [sizeLine_eq]; simp, ?_⟩
    refine some_ (by decide) (by decide) p3 q3 f03 fun vs S6 hvl hvs p6 q6 f6 => ?_
    simp only [binW]
    refine ⟨by rw [sizeLine_eq]; simp; omega, gd_row (vs := vs) (s := "if") (.letters (by decide +kernel)) hvs (by omega) (by omega) (by omega) (by rw [WP]; omega) (fun f hf => ?_), p6, q6, f6⟩
    rw [head_if, hf]
    simp
    omega
  rw [if_neg (by simpa using w11)]
  simp only [s10_f_law_phrase, wSs, wS, wT, wEs, wO, wPs, wC, wSrc, wE_loc, wE_lit, wE_con, wE_bin, wE_neg, wE_cmp, wE_cmp2, wE_isN, wE_notN, wE_isB, wE_not, wE_and, wE_or, wE_ite, wE_tup, wE_lst, wE_dic, wE_call, wE_make, wE_meth, wE_fld, wE_sub, wE_slice, wE_bi, wE_vi, wE_bm, wE_isi, wE_lc, wE_lck, eg, es, Option.some.injEq, exists_eq_left', Lit.val]
  refine ⟨by rw [sizeLine_eq]; simp, bsub ?_⟩
  refine pick get_new (by omega) (by simp; omega) fun v hv => ⟨by rw [sizeLine_eq]; simp, ?_⟩
  refine some_ (by decide) (by decide) (p3.app _) (q3.app _) (f03.trans (F2.app _)) fun vs S6 hvl hvs p6 q6 f6 => ?_
  obtain ⟨s, rfl, hs⟩ : ∃ s, v = .str s ∧ s ∈ plainL := by
    simp only [List.mem_cons, List.not_mem_nil, or_false] at hv
    rcases hv with rfl | rfl | rfl | rfl | rfl <;> exact ⟨_, rfl, by decide⟩
  simp only [binW]
  refine ⟨by rw [sizeLine_eq]; simp; omega, gd_row (vs := vs) (s := s) ?_ hvs (by omega) (by omega) (by omega) (by rw [WP]; omega) (fun f hf => ?_), p6, q6, f6⟩
  · have : ∀ x ∈ plainL, letters x = true := by decide +kernel
    exact .letters (this s hs)
  · rw [head_plain hs, hf]
    simp
    omega
end K08

set_option maxHeartbeats 1000000
namespace K08
open Mi PySem
/-- a kind -/
def Kn (w d : Nat) (v : Val) : Prop := Pl d v ∧ kd v = true ∧ Wd [v] w d
theorem Kn.le {w w' d e : Nat} {v : Val} (h : Kn w d v) (he : d ≤ e) (hw : w ≤ w') : Kn w' e v := ⟨h.1.le he, h.2.1, h.2.2.le hw he⟩
/-- a kind's name -/
def Nm (v : Val) : Prop := Pl 0 v ∧ kname v = true ∧ Wd [v] 34 0
def WK : Nat → Nat
  | 0 => 34
  | d + 1 => 40 + 3 * WK d
theorem WK_ge : ∀ d, 34 ≤ WK d
  | 0 => Nat.le_refl _
  | d + 1 => by have := WK_ge d; rw [WK]; omega
theorem kd_str {s : String} : kd (.str s) = (decide (s = "num") || (vari s || (small s || path s))) := by rw [kd]
theorem pl_tx {d : Nat} {s : String} (h : Tx s) : Pl d (.str s) := .str (by have := h.len; omega)
theorem kn_num {d : Nat} : Kn 34 d (.str "num") := ⟨.str (by decide), by rw [kd_str]; rfl, Wd.word (.letters (by decide +kernel))⟩
theorem kn_small {d : Nat} {w : String} (h : small w = true) : Kn 34 d (.str w) := ⟨pl_tx (tx_small h), by rw [kd_str, h]; simp, Wd.word (tx_small h)⟩
theorem kn_path {d : Nat} {g w : String} (hg : great g = true) (h : small w = true) : Kn 34 d (.str (g ++ "." ++ w)) := ⟨pl_tx (.path hg h), by rw [kd_str, path_of hg h]; simp, Wd.word (.path hg h)⟩
theorem kn_var {d : Nat} {w : String} (h : letters w = true) : Kn 34 d (.str ("?" ++ w)) := ⟨pl_tx (.vari h), by rw [kd_str, vari_of h]; simp, Wd.word (.vari h)⟩
theorem kind_name_ok {k p : Nat} {S : Hm} (h : Sta p S) : callW P (k + 5) (.f "_law_kind_name") [.ref p] S (fun v S' => Nm v ∧ Sta p S' ∧ Fm p S S') noX := by
  refine call_open (k := k + 4) fn_f_law_kind_name ⟨rfl, ?_⟩
  show wSs _ _ _ s1_f_law_kind_name _ _ [some (.ref p)] S
  simp only [s1_f_law_kind_name, wSs, wS, wT, wEs, wO, wPs, wC, wSrc, wE_loc, wE_lit, wE_con, wE_bin, wE_neg, wE_cmp, wE_cmp2, wE_isN, wE_notN, wE_isB, wE_not, wE_and, wE_or, wE_ite, wE_tup, wE_lst, wE_dic, wE_call, wE_make, wE_meth, wE_fld, wE_sub, wE_slice, wE_bi, wE_vi, wE_bm, wE_isi, wE_lc, wE_lck, eg, es, Option.some.injEq, exists_eq_left', Lit.val]
  refine call_use (small_ok (k := k + 1) h) ?_
  rintro _ S1 ⟨⟨w, rfl, hw, wl⟩, p1, f1⟩
  refine call_use (path_ok (k := k) p1) ?_
  rintro _ S2 ⟨⟨zg, z, rfl, hzg, hz, _, _⟩, p2, f2⟩
  refine ⟨by rw [sizeLine_eq]; simp, ?_⟩
  have np : S2.length ≠ p := by have := p2.lt; omega
  refine call_use (next_ok (k := k + 3) (p2.app [.lst [.str w, .str (zg ++ "." ++ z)]]) (by decide) (by decide)) ?_
  rintro _ S3 ⟨⟨r, rfl, a, b⟩, p3, f3, _⟩
  refine pick (f3.get np get_new) a (by exact b) fun v hv => ⟨?_, p3, f1.trans (f2.trans ((Fm.app _).trans f3))⟩
  simp only [List.mem_cons, List.not_mem_nil, or_false] at hv
  rcases hv with rfl | rfl
  · exact ⟨pl_tx (tx_small hw), by simp only [kname, hw, Bool.true_or], Wd.word (tx_small hw)⟩
  · exact ⟨pl_tx (.path hzg hz), by simp only [kname, path_of hzg hz, Bool.or_true], Wd.word (.path hzg hz)⟩
theorem kds_all {vs : List Val} : kds vs = true ↔ ∀ v ∈ vs, kd v = true := by rw [kds_eq, List.all_eq_true]
theorem kd_name {h : Val} {vs : List Val} (hh : kname h = true) (h1 : 1 ≤ vs.length) (h3 : vs.length ≤ 3) (hv : ∀ v ∈ vs, kd v = true) (ha : isW "->" h = false) : kd (.tup (h :: vs)) = true := by
  rw [kd, kdT, show isArr h = false from ha, hh, kds_all.mpr hv]
  simp [h1, h3]
theorem kname_arr {h : Val} (hh : kname h = true) : isW "->" h = false := by
  cases h with
  | str s =>
    simp only [isW, decide_eq_false_iff_not]
    rintro rfl
    revert hh
    decide +kernel
  | _ => rfl
theorem kind_ok {p : Nat} : ∀ (d k : Nat) (S : Hm), Sta p S → callW P (k + d + 6) (.f "_law_kind") [.ref p, .int d] S (fun v S' => Kn (WK d) d v ∧ Sta p S' ∧ Fm p S S') noX := by
  intro d
  induction d using Nat.strongRecOn with
  | _ d ih =>
  intro k S h
  refine call_open (k := k + d + 5) fn_f_law_kind ⟨rfl, ?_⟩
  show wSs _ _ _ s7_f_law_kind _ _ [some (.ref p), some (.int d), none, none, none] S
  simp only [s7_f_law_kind, wSs, wS, wT, wEs, wO, wPs, wC, wSrc, wE_loc, wE_lit, wE_con, wE_bin, wE_neg, wE_cmp, wE_cmp2, wE_isN, wE_notN, wE_isB, wE_not, wE_and, wE_or, wE_ite, wE_tup, wE_lst, wE_dic, wE_call, wE_make, wE_meth, wE_fld, wE_sub, wE_slice, wE_bi, wE_vi, wE_bm, wE_isi, wE_lc, wE_lck, eg, es, Option.some.injEq, exists_eq_left', Lit.val]
  refine call_use (next_ok (k := k + d + 4) h (by decide) (by decide)) ?_
  rintro _ S1 ⟨⟨way, rfl, a, b⟩, p1, f1, _⟩
  have leaf : wSs P.con P.sub (callW P (k + d + 5)) s1_f_law_kind (fun c x S' => noX c S') { nx := fun _ S' => Kn (WK d) d .non ∧ Sta p S' ∧ Fm p S S', rt := fun v S' => Kn (WK d) d v ∧ Sta p S' ∧ Fm p S S' } [some (.ref p), some (.int d), some (.int way), none, none] S1 := by
    simp only [s1_f_law_kind, wSs, wS, wT, wEs, wO, wPs, wC, wSrc, wE_loc, wE_lit, wE_con, wE_bin, wE_neg, wE_cmp, wE_cmp2, wE_isN, wE_notN, wE_isB, wE_not, wE_and, wE_or, wE_ite, wE_tup, wE_lst, wE_dic, wE_call, wE_make, wE_meth, wE_fld, wE_sub, wE_slice, wE_bi, wE_vi, wE_bm, wE_isi, wE_lc, wE_lck, eg, es, Option.some.injEq, exists_eq_left', Lit.val]
    refine call_use (variable_ok (k := k + d + 2) p1) ?_
    rintro _ S2 ⟨⟨w2, rfl, h2⟩, p2, f2⟩
    refine call_use (small_ok (k := k + d + 2) p2) ?_
    rintro _ S3 ⟨⟨w3, rfl, h3, l3⟩, p3, f3⟩
    refine call_use (path_ok (k := k + d + 1) p3) ?_
    rintro _ S4 ⟨⟨g4, w4, rfl, hg4, h4, _, _⟩, p4, f4⟩
    refine ⟨by rw [sizeLine_eq]; simp, bmod (by decide) ?_⟩
    refine pick get_new (Int.emod_nonneg _ (by decide)) (by exact Int.emod_lt_of_pos _ (by decide)) fun v hv => ⟨?_, p4.app _, f1.trans (f2.trans (f3.trans (f4.trans (Fm.app _))))⟩
    simp only [List.mem_cons, List.not_mem_nil, or_false] at hv
    rcases hv with rfl | rfl | rfl | rfl
    · exact kn_num.le (Nat.le_refl _) (WK_ge d)
    · exact (kn_var h2).le (Nat.le_refl _) (WK_ge d)
    · exact (kn_small h3).le (Nat.le_refl _) (WK_ge d)
    · exact (kn_path hg4 h4).le (Nat.le_refl _) (WK_ge d)
  simp only [s6_f_law_kind, wSs, wS, wT, wEs, wO, wPs, wC, wSrc, wE_loc, wE_lit, wE_con, wE_bin, wE_neg, wE_cmp, wE_cmp2, wE_isN, wE_notN, wE_isB, wE_not, wE_and, wE_or, wE_ite, wE_tup, wE_lst, wE_dic, wE_call, wE_make, wE_meth, wE_fld, wE_sub, wE_slice, wE_bi, wE_vi, wE_bm, wE_isi, wE_lc, wE_lck, eg, es, Option.some.injEq, exists_eq_left', Lit.val, cmpW, eqW_int, truth, Option.some.injEq, exists_eq_left']
  by_cases hd : (d : Int) = 0
  · rw [if_pos (decide_eq_true hd), if_pos trivial]
    exact leaf
  rw [if_neg (by simpa using hd)]
  by_cases hw : way < 4
  · rw [if_pos (decide_eq_true hw)]
    exact leaf
  rw [if_neg (by simpa using hw)]
  obtain ⟨e, rfl⟩ : ∃ e, d = e + 1 := ⟨d - 1, by omega⟩
  have de : (((e + 1 : Nat) : Int) - 1) = (e : Int) := by omega
  simp only [s5_f_law_kind, wSs, wS, wT, wEs, wO, wPs, wC, wSrc, wE_loc, wE_lit, wE_con, wE_bin, wE_neg, wE_cmp, wE_cmp2, wE_isN, wE_notN, wE_isB, wE_not, wE_and, wE_or, wE_ite, wE_tup, wE_lst, wE_dic, wE_call, wE_make, wE_meth, wE_fld, wE_sub, wE_slice, wE_bi, wE_vi, wE_bm, wE_isi, wE_lc, wE_lck, eg, es, Option.some.injEq, exists_eq_left', Lit.val, cmpW, eqW_int, truth, Option.some.injEq, exists_eq_left']
  by_cases hw4 : way = 4
  · rw [if_pos (decide_eq_true hw4)]
    simp only [s2_f_law_kind, wSs, wS, wT, wEs, wO, wPs, wC, wSrc, wE_loc, wE_lit, wE_con, wE_bin, wE_neg, wE_cmp, wE_cmp2, wE_isN, wE_notN, wE_isB, wE_not, wE_and, wE_or, wE_ite, wE_tup, wE_lst, wE_dic, wE_call, wE_make, wE_meth, wE_fld, wE_sub, wE_slice, wE_bi, wE_vi, wE_bm, wE_isi, wE_lc, wE_lck, eg, es, Option.some.injEq, exists_eq_left', Lit.val]
    refine bsub ?_
    rw [de]
    refine call_use (ih e (by omega) k S1 p1) ?_
    rintro v2 S2 ⟨g2, p2, f2⟩
    refine bsub ?_
    rw [de]
    refine call_use (ih e (by omega) k S2 p2) ?_
    rintro v3 S3 ⟨g3, p3, f3⟩
    refine ⟨by rw [sizeLine_eq]; simp, ⟨.tup (fun v hv => ?_) (by simp), ?_, ((Wd.word .arrow).cons (g2.2.2.cons g3.2.2)).box.le (by rw [WK]; omega) (Nat.le_refl _)⟩, p3, f1.trans (f2.trans f3)⟩
    · simp only [List.mem_cons, List.not_mem_nil, or_false] at hv
      rcases hv with rfl | rfl | rfl
      · exact .str (by decide)
      · exact g2.1
      · exact g3.1
    · rw [kd, kdT]
      simp [isW, kds, g2.2.1, g3.2.1]
  rw [if_neg (by simpa using hw4)]
  simp only [s4_f_law_kind, wSs, wS, wT, wEs, wO, wPs, wC, wSrc, wE_loc, wE_lit, wE_con, wE_bin, wE_neg, wE_cmp, wE_cmp2, wE_isN, wE_notN, wE_isB, wE_not, wE_and, wE_or, wE_ite, wE_tup, wE_lst, wE_dic, wE_call, wE_make, wE_meth, wE_fld, wE_sub, wE_slice, wE_bi, wE_vi, wE_bm, wE_isi, wE_lc, wE_lck, eg, es, Option.some.injEq, exists_eq_left', Lit.val]
  refine call_use (next_ok (k := k + (e + 1) + 4) p1 (by decide) (by decide)) ?_
  rintro _ S2 ⟨⟨r, rfl, a2, b2⟩, p2, f2, _⟩
  refine badd ?_
  simp only [s3_f_law_kind, wSs, wS, wT, wEs, wO, wPs, wC, wSrc, wE_loc, wE_lit, wE_con, wE_bin, wE_neg, wE_cmp, wE_cmp2, wE_isN, wE_notN, wE_isB, wE_not, wE_and, wE_or, wE_ite, wE_tup, wE_lst, wE_dic, wE_call, wE_make, wE_meth, wE_fld, wE_sub, wE_slice, wE_bi, wE_vi, wE_bm, wE_isi, wE_lc, wE_lck, eg, es, Option.some.injEq, exists_eq_left', Lit.val]
  refine call_use (lift_to (k := k + e + 1 + 5) (by omega) (kind_name_ok p2)) ?_
  rintro nm S3 ⟨hn, p3, f3⟩
  refine ⟨by rw [sizeLine_eq]; simp, 1 + r, rfl, ⟨by omega, by omega⟩, ?_⟩
  refine lcr_inv (callW_mono P _) (fun i acc S' => acc.length = i ∧ (∀ v ∈ acc, Kn (WK e) e v) ∧ Sta p S' ∧ Fm p S S') ?_ ?_ ⟨rfl, by simp, p3, f1.trans (f2.trans f3)⟩
  · rintro i v acc S' hi ⟨hal, hacc, hp, hf⟩
    obtain ⟨hi, rfl⟩ := rng_get hi
    refine ⟨trivial, ?_⟩
    simp only [tgW, List.map_cons, List.map_nil, ewipe, wSs, wS, wT, wEs, wO, wPs, wC, wSrc, wE_loc, wE_lit, wE_con, wE_bin, wE_neg, wE_cmp, wE_cmp2, wE_isN, wE_notN, wE_isB, wE_not, wE_and, wE_or, wE_ite, wE_tup, wE_lst, wE_dic, wE_call, wE_make, wE_meth, wE_fld, wE_sub, wE_slice, wE_bi, wE_vi, wE_bm, wE_isi, wE_lc, wE_lck, eg, es, Option.some.injEq, exists_eq_left', Lit.val, if_true]
    refine bsub ?_
    rw [de]
    refine call_use (ih e (by omega) k S' hp) ?_
    rintro v4 S4 ⟨g4, p4, f4⟩
    refine ⟨by rw [sizeLine_eq]; omega, by simp [hal], fun u hu => ?_, p4, hf.trans f4⟩
    rcases List.mem_append.mp hu with hu | hu
    · exact hacc u hu
    · have : u = v4 := by simpa using hu
      subst this; exact g4
  · rintro acc S' ⟨hal, hacc, hp, hf⟩
    rw [rangeL_len] at hal
    refine ⟨trivial, ?_⟩
    simp only [biW]
    refine ⟨acc, lst_at get_new, ?_⟩
    simp only [binW]
    have hl1 : 1 ≤ acc.length ∧ acc.length ≤ 3 := by omega
    rw [show [nm] ++ acc = nm :: acc from rfl]
    refine ⟨by rw [sizeLine_eq]; simp; omega, ⟨.tup (fun v hv => ?_) (by simp; omega), ?_, ((hn.2.2.le (Nat.le_refl _) (Nat.zero_le _)).cons ((wd_all fun v hv => (hacc v hv).2.2).le (Nat.mul_le_mul_left (WK e) hl1.2) (Nat.le_refl _))).box.le (by rw [WK]; omega) (Nat.le_refl _)⟩, hp.app _, hf.trans (Fm.app _)⟩
    · rcases List.mem_cons.mp hv with hv | hv
      · subst hv; exact hn.1.le (by omega)
      · exact (hacc v hv).1
    · exact kd_name hn.2.1 hl1.1 hl1.2 (fun v hv => (hacc v hv).2.1) (kname_arr hn.2.1)
end K08

set_option maxHeartbeats 1000000
namespace K08
open Mi PySem
/-! ### declarations -/
def Gn (v : Val) : Prop := ∃ g, v = .str g ∧ great g = true
def Gv (v : Val) : Prop := Gn v ∨ ∃ gs, v = .tup gs ∧ 2 ≤ gs.length ∧ gs.length ≤ 3 ∧ ∀ x ∈ gs, Gn x
def Gr (v : Val) : Prop := ∃ g u, v = .tup [.str g, u] ∧ great g = true ∧ Gv u
def Grs (lo : Nat) (v : Val) : Prop := ∃ gs, v = .tup gs ∧ lo ≤ gs.length ∧ gs.length ≤ 2 ∧ ∀ x ∈ gs, Gr x
def Vars (m : Nat) (v : Val) : Prop := ∃ xs, v = .tup xs ∧ xs.length ≤ m ∧ ∀ x ∈ xs, ∃ w, x = .str ("?" ++ w) ∧ letters w = true
abbrev Kd (v : Val) : Prop := Kn (WK 2) 2 v
def Tag (v : Val) : Prop := ∃ g ks, v = .tup (.str g :: ks) ∧ great g = true ∧ ks.length ≤ 4 ∧ ∀ x ∈ ks, Kd x
def Fld (v : Val) : Prop := ∃ w k, v = .tup [.str w, k] ∧ small w = true ∧ Kd k
def Itm (v : Val) : Prop := (∃ w i, v = .tup [.str "hide", .str w, .int i] ∧ small w = true ∧ 0 ≤ i ∧ i ≤ 2) ∨ ∃ w k, v = .tup [.str "val", .str w, k] ∧ small w = true ∧ Kd k
def Brow (v : Val) : Prop := (∃ w us k, v = .tup [.str "hide", .str w, us, k] ∧ small w = true ∧ Vars 2 us ∧ Kd k) ∨ ∃ w p, v = .tup [.str "val", .str w, p] ∧ small w = true ∧ Ph (WP 3) 9 p
inductive Dcl : Val → Prop where
  | kind {w : String} {us : Val} {ts : List Val} (h : small w = true) (hu : Vars 3 us) (h1 : 1 ≤ ts.length) (h2 : ts.length ≤ 6) (ht : ∀ x ∈ ts, Tag x) : Dcl (.tup (.str "kind" :: .str w :: us :: ts))
  | record {w : String} {us : Val} {ts : List Val} (h : small w = true) (hu : Vars 3 us) (h1 : 1 ≤ ts.length) (h2 : ts.length ≤ 4) (ht : ∀ x ∈ ts, Fld x) : Dcl (.tup (.str "record" :: .str w :: us :: ts))
  | face {g : String} {gs : Val} {ts : List Val} (h : great g = true) (hg : Grs 0 gs) (h2 : ts.length ≤ 24) (ht : ∀ x ∈ ts, Itm x) : Dcl (.tup (.str "face" :: .str g :: gs :: ts))
  | part {g : String} {gv : Val} {ts : List Val} (h : great g = true) (hg : Gv gv) (h2 : ts.length ≤ 24) (ht : ∀ x ∈ ts, Brow x) : Dcl (.tup (.str "part" :: .str g :: gv :: ts))
  | maker {g : String} {gs gv : Val} {ts : List Val} (h : great g = true) (hs : Grs 1 gs) (hg : Gv gv) (h2 : ts.length ≤ 24) (ht : ∀ x ∈ ts, Brow x) : Dcl (.tup (.str "maker" :: .str g :: gs :: gv :: ts))
  | apply {gs : List Val} (h1 : 3 ≤ gs.length) (h2 : gs.length ≤ 4) (hg : ∀ x ∈ gs, Gn x) : Dcl (.tup (.str "apply" :: gs))
def Mn (v : Val) : Prop := ∃ p, v = .tup [.str "main", p] ∧ Ph (WP 4) 12 p
/-! what they weigh -/
theorem Gn.wd {v : Val} {D : Nat} (h : Gn v) : Wd [v] 34 D := by obtain ⟨g, rfl, hg⟩ := h; exact Wd.word (.great hg)
theorem wd_list {vs : List Val} {W D m : Nat} (h : ∀ v ∈ vs, Wd [v] W D) (hm : vs.length ≤ m) : Wd vs (W * m) D := (wd_all h).le (Nat.mul_le_mul_left _ hm) (Nat.le_refl _)
theorem wd_tag {s : String} (h : letters s = true) {D : Nat} : Wd [.str s] 34 D := Wd.word (.letters h)
theorem Gv.wd {v : Val} (h : Gv v) : Wd [v] 108 1 := by
  rcases h with h | ⟨gs, rfl, h1, h2, h3⟩
  · exact h.wd.le (by omega) (Nat.le_refl _)
  · exact (wd_list (D := 0) (fun x hx => (h3 x hx).wd) h2).box
theorem Gr.wd {v : Val} (h : Gr v) : Wd [v] 148 2 := by
  obtain ⟨g, u, rfl, hg, hu⟩ := h
  exact ((Wd.word (.great hg)).cons hu.wd).box
theorem Grs.wd {lo : Nat} {v : Val} (h : Grs lo v) : Wd [v] 302 3 := by
  obtain ⟨gs, rfl, _, h2, h3⟩ := h
  exact (wd_list (fun x hx => (h3 x hx).wd) h2).box
theorem Vars.wd {m : Nat} {v : Val} (h : Vars m v) : Wd [v] (6 + 34 * m) 1 := by
  obtain ⟨xs, rfl, h1, h2⟩ := h
  refine (wd_list (D := 0) (fun x hx => ?_) h1).box
  obtain ⟨w, rfl, hw⟩ := h2 x hx
  exact Wd.word (.vari hw)
theorem WK2 : WK 2 = 466 := rfl
theorem Tag.wd {v : Val} (h : Tag v) : Wd [v] 1904 3 := by
  obtain ⟨g, ks, rfl, hg, h1, h2⟩ := h
  exact ((Wd.word (.great hg)).cons (wd_list (fun x hx => (h2 x hx).2.2) h1)).box.le (by rw [WK2]; omega) (Nat.le_refl _)
theorem Fld.wd {v : Val} (h : Fld v) : Wd [v] 506 3 := by
  obtain ⟨w, k, rfl, hw, hk⟩ := h
  exact ((Wd.word (tx_small hw)).cons hk.2.2).box.le (by rw [WK2]; omega) (Nat.le_refl _)
theorem Itm.wd {v : Val} (h : Itm v) : Wd [v] 540 3 := by
  rcases h with ⟨w, i, rfl, hw, h1, h2⟩ | ⟨w, k, rfl, hw, hk⟩
  · have hi : i.natAbs < 10 ^ 30 := by omega
    exact ((wd_tag (D := 0) (s := "hide") (by decide +kernel)).cons ((Wd.word (tx_small hw)).cons (Wd.one (.num hi)))).box.le (by omega) (by omega)
  · exact ((wd_tag (by decide +kernel)).cons ((Wd.word (tx_small hw)).cons hk.2.2)).box.le (by rw [WK2]; omega) (Nat.le_refl _)
theorem WP3 : WP 3 = 89752 := by decide
theorem WP4 : WP 4 = 629634 := by decide
theorem Brow.wd {v : Val} (h : Brow v) : Wd [v] 89826 10 := by
  rcases h with ⟨w, us, k, rfl, hw, hu, hk⟩ | ⟨w, p, rfl, hw, hp⟩
  · exact ((wd_tag (D := 2) (by decide +kernel)).cons ((Wd.word (tx_small hw)).cons ((hu.wd.le (Nat.le_refl _) (by omega)).cons hk.2.2))).box.le (by rw [WK2]; omega) (by omega)
  · exact ((wd_tag (by decide +kernel)).cons ((Wd.word (tx_small hw)).cons hp.2.2)).box.le (by rw [WP3]; omega) (Nat.le_refl _)
theorem Dcl.wd {v : Val} (h : Dcl v) : Wd [v] 2160000 11 := by
  cases h with
  | kind h hu h1 h2 ht => exact ((wd_tag (D := 3) (by decide +kernel)).cons ((Wd.word (tx_small h)).cons ((hu.wd.le (Nat.le_refl _) (by omega)).cons (wd_list (fun x hx => (ht x hx).wd) h2)))).box.le (by omega) (by omega)
  | record h hu h1 h2 ht => exact ((wd_tag (D := 3) (by decide +kernel)).cons ((Wd.word (tx_small h)).cons ((hu.wd.le (Nat.le_refl _) (by omega)).cons (wd_list (fun x hx => (ht x hx).wd) h2)))).box.le (by omega) (by omega)
  | face h hg h2 ht => exact ((wd_tag (D := 3) (by decide +kernel)).cons ((Wd.word (.great h)).cons (hg.wd.cons (wd_list (fun x hx => (ht x hx).wd) h2)))).box.le (by omega) (by omega)
  | part h hg h2 ht => exact ((wd_tag (D := 10) (by decide +kernel)).cons ((Wd.word (.great h)).cons ((hg.wd.le (Nat.le_refl _) (by omega)).cons (wd_list (fun x hx => (ht x hx).wd) h2)))).box.le (by omega) (by omega)
  | maker h hs hg h2 ht => exact ((wd_tag (D := 10) (by decide +kernel)).cons ((Wd.word (.great h)).cons ((hs.wd.le (Nat.le_refl _) (by omega)).cons ((hg.wd.le (Nat.le_refl _) (by omega)).cons (wd_list (fun x hx => (ht x hx).wd) h2))))).box.le (by omega) (by omega)
  | apply h1 h2 hg => exact ((wd_tag (D := 0) (by decide +kernel)).cons (wd_list (fun x hx => (hg x hx).wd) h2)).box.le (by omega) (by omega)
theorem Mn.wd {v : Val} (h : Mn v) : Wd [v] 629674 13 := by
  obtain ⟨p, rfl, hp⟩ := h
  exact ((wd_tag (by decide +kernel)).cons hp.2.2).box.le (by rw [WP4]; omega) (Nat.le_refl _)
/-! they are declarations -/
def Yes (K : Nat) (f : String) (v : Val) : Prop := ∀ k, K ≤ k → ∀ S, callW P k (.f f) [v] S (Tells S true) noX
section
variable {k : Nat} {f : FK} {vs : List Val} {S : Hm} {Q : Post} {R T : Hm → Prop} {X : XPost}
theorem yes_and (h : callW P k f vs S (Tells S true) noX) (hR : ∀ l, R (S ++ l)) : callW P k f vs S (fun x S1 => ∃ c, x = .bl c ∧ if c = true then R S1 else Q (.bl false) S1) X :=
  call_use h (by rintro _ _ ⟨⟨l, rfl⟩, rfl⟩; exact ⟨true, rfl, by rw [if_pos rfl]; exact hR l⟩)
theorem yes_not (h : callW P k f vs S (Tells S true) noX) (hR : ∀ l, R (S ++ l)) : callW P k f vs S (fun x S1 => ∃ b, truth x S1 = some b ∧ if (!b) = true then T S1 else R S1) X :=
  call_use h (by rintro _ _ ⟨⟨l, rfl⟩, rfl⟩; exact ⟨true, rfl, by rw [if_neg (by decide)]; exact hR l⟩)
theorem yes_if (h : callW P k f vs S (Tells S true) noX) (hR : ∀ l, R (S ++ l)) : callW P k f vs S (fun x S1 => ∃ b, truth x S1 = some b ∧ if b = true then R S1 else T S1) X :=
  call_use h (by rintro _ _ ⟨⟨l, rfl⟩, rfl⟩; exact ⟨true, rfl, by rw [if_pos rfl]; exact hR l⟩)
theorem yes_end {S0 : Hm} {b : Bool} (hl : ∃ l, S = S0 ++ l) (h : callW P k f vs S (Tells S b) noX) : callW P k f vs S (Tells S0 b) X :=
  call_use h (by obtain ⟨l, rfl⟩ := hl; rintro _ _ h; exact h.app)
end
theorem row_yes {k : Nat} {vs : List Val} {lo hi : Int} {S : Hm} (hk : 1 ≤ k) (h1 : lo ≤ vs.length) (h2 : (vs.length : Int) ≤ hi) : callW P k (.f "is_row") [.tup vs, .int lo, .int hi] S (Tells S true) noX := by
  obtain ⟨k, rfl⟩ : ∃ j, k = j + 1 := ⟨k - 1, by omega⟩
  refine call_open fn_f_is_row ⟨rfl, ?_⟩
  show wSs _ _ _ s1_f_is_row _ _ [some (.tup vs), some (.int lo), some (.int hi)] S
  simp only [s1_f_is_row, wSs, wS, wT, wEs, wO, wPs, wC, wSrc, wE_loc, wE_lit, wE_con, wE_bin, wE_neg, wE_cmp, wE_cmp2, wE_isN, wE_notN, wE_isB, wE_not, wE_and, wE_or, wE_ite, wE_tup, wE_lst, wE_dic, wE_call, wE_make, wE_meth, wE_fld, wE_sub, wE_slice, wE_bi, wE_vi, wE_bm, wE_isi, wE_lc, wE_lck, eg, es, Option.some.injEq, exists_eq_left', Lit.val]
  refine ⟨[true], rfl, _, rfl, ?_⟩
  rw [if_pos (by rfl)]
  simp only [biW, cmpW]
  rw [if_pos (decide_eq_true h1)]
  exact ⟨⟨[], by simp⟩, by simp [h2]⟩
theorem yes_great {g : String} (h : great g = true) : Yes 10 "is_great_name" (.str g) := by
  intro k hk S
  obtain ⟨k, rfl⟩ : ∃ j, k = j + 4 := ⟨k - 4, by omega⟩
  have := is_great_name_ok (k := k) (S := S) (pl_tx (d := 0) (.great h))
  rwa [greatN, h] at this
theorem yes_gn {v : Val} (h : Gn v) : Yes 10 "is_great_name" v := by obtain ⟨g, rfl, hg⟩ := h; exact yes_great hg
theorem yes_small {g : String} (h : small g = true) : Yes 10 "is_small_name" (.str g) := by
  intro k hk S
  obtain ⟨k, rfl⟩ : ∃ j, k = j + 4 := ⟨k - 4, by omega⟩
  have := is_small_name_ok (k := k) (S := S) (pl_tx (d := 0) (tx_small h))
  rwa [smallN, h] at this
theorem yes_kind {v : Val} (h : Kd v) : Yes 10 "is_kind" v := by
  intro k hk S
  obtain ⟨k, rfl⟩ : ∃ j, k = j + 2 * 2 + 6 := ⟨k - 10, by omega⟩
  have := is_kind_ok 2 v h.1 (by decide) k S
  rw [h.2.1] at this
  exact this
theorem yes_phrase {w d : Nat} {v : Val} (hd : d ≤ 12) (h : Ph w d v) : Yes 45 "is_phrase" v := by
  intro k hk S
  have := is_phrase_ok d (by omega) k (by omega) v h.1 S
  rwa [h.2.1] at this
theorem yes_whole {i : Int} : Yes 1 "is_whole" (.int i) := by
  intro k hk S
  obtain ⟨k, rfl⟩ : ∃ j, k = j + 1 := ⟨k - 1, by omega⟩
  exact call_use (is_whole_ok (k := k) (d := 0) (.int i)) (by rintro _ _ ⟨rfl, rfl⟩; exact Tells.here)
theorem all_true {α : Type} (xs : List α) : xs.all (fun _ => true) = true := by simp
theorem all_yes {g : String} {K k i : Nat} {xs : List Val} {env : Mi.Env} {S : Hm} {Q : Post} (hk : K ≤ k) (hg : ∀ w ∈ xs, Yes K g w) (hl : xs.length ≤ 100) (he : ∀ w, eg (es (ewipe env [i]) i (some w)) i = some w)
    (hq : ∀ l, Q (.bl true) (S ++ l)) : lcRun P.con (callW P k) (.call g (.cons (.loc i) .nil)) (.nm i) .none env [i] (fun _ => True) xs [] S (fun acc S2 => biW .all [.ref S2.length] (S2 ++ [.lst acc]) Q) :=
  all_call (b := fun _ => true) (fun w hw S => hg w hw k hk S) hl he fun l => by rw [all_true]; exact hq l
theorem kinds_yes {k : Nat} {vs : List Val} (hk : 11 ≤ k) (hl : vs.length ≤ 100) (h : ∀ x ∈ vs, Kd x) (S : Hm) : callW P k (.f "all_kinds") [.tup vs] S (Tells S true) noX := by
  obtain ⟨k, rfl⟩ : ∃ j, k = j + 1 := ⟨k - 1, by omega⟩
  refine call_open (k := k) fn_f_all_kinds ⟨rfl, ?_⟩
  show wSs _ _ _ s1_f_all_kinds _ _ [some (.tup vs), none] S
  simp only [s1_f_all_kinds, wSs, wS, wT, wEs, wO, wPs, wC, wSrc, wE_loc, wE_lit, wE_con, wE_bin, wE_neg, wE_cmp, wE_cmp2, wE_isN, wE_notN, wE_isB, wE_not, wE_and, wE_or, wE_ite, wE_tup, wE_lst, wE_dic, wE_call, wE_make, wE_meth, wE_fld, wE_sub, wE_slice, wE_bi, wE_vi, wE_bm, wE_isi, wE_lc, wE_lck, eg, es, Option.some.injEq, exists_eq_left', Lit.val, seqOf]
  exact all_yes (K := 10) (by omega) (fun w hw => yes_kind (h w hw)) hl (fun _ => rfl) fun l => ⟨⟨l, rfl⟩, rfl⟩
theorem yes_given {v : Val} (h : Gv v) : Yes 20 "is_given" v := by
  intro k hk S
  obtain ⟨k, rfl⟩ : ∃ j, k = j + 1 := ⟨k - 1, by omega⟩
  refine call_open (k := k) fn_f_is_given ⟨rfl, ?_⟩
  show wSs _ _ _ s3_f_is_given _ _ [some v, none] S
  simp only [s3_f_is_given, wSs, wS, wT, wEs, wO, wPs, wC, wSrc, wE_loc, wE_lit, wE_con, wE_bin, wE_neg, wE_cmp, wE_cmp2, wE_isN, wE_notN, wE_isB, wE_not, wE_and, wE_or, wE_ite, wE_tup, wE_lst, wE_dic, wE_call, wE_make, wE_meth, wE_fld, wE_sub, wE_slice, wE_bi, wE_vi, wE_bm, wE_isi, wE_lc, wE_lck, eg, es, Option.some.injEq, exists_eq_left', Lit.val]
  rcases h with h | ⟨gs, rfl, h1, h2, h3⟩
  · refine yes_if (yes_gn h k (by omega) S) fun l => ?_
    simp only [s1_f_is_given, wSs, wS, wT, wEs, wO, wPs, wC, wSrc, wE_loc, wE_lit, wE_con, wE_bin, wE_neg, wE_cmp, wE_cmp2, wE_isN, wE_notN, wE_isB, wE_not, wE_and, wE_or, wE_ite, wE_tup, wE_lst, wE_dic, wE_call, wE_make, wE_meth, wE_fld, wE_sub, wE_slice, wE_bi, wE_vi, wE_bm, wE_isi, wE_lc, wE_lck, eg, es, Option.some.injEq, exists_eq_left', Lit.val]
    exact Tells.here.app
  · have no : callW P k (.f "is_great_name") [.tup gs] S (Tells S false) noX := by
      obtain ⟨k, rfl⟩ : ∃ j, k = j + 4 := ⟨k - 4, by omega⟩
      refine is_great_name_ok (d := 1) (.tup (fun x hx => ?_) (by omega))
      obtain ⟨g, rfl, hg⟩ := h3 x hx
      exact pl_tx (.great hg)
    refine call_use no ?_
    rintro _ _ ⟨⟨l, rfl⟩, rfl⟩
    refine ⟨_, rfl, ?_⟩
    rw [if_neg (by decide)]
    simp only [s2_f_is_given, wSs, wS, wT, wEs, wO, wPs, wC, wSrc, wE_loc, wE_lit, wE_con, wE_bin, wE_neg, wE_cmp, wE_cmp2, wE_isN, wE_notN, wE_isB, wE_not, wE_and, wE_or, wE_ite, wE_tup, wE_lst, wE_dic, wE_call, wE_make, wE_meth, wE_fld, wE_sub, wE_slice, wE_bi, wE_vi, wE_bm, wE_isi, wE_lc, wE_lck, eg, es, Option.some.injEq, exists_eq_left', Lit.val]
    refine yes_and (row_yes (by omega) (by omega) (by omega)) fun l2 => ?_
    simp only [seqOf]
    exact all_yes (K := 10) (by omega) (fun w hw => yes_gn (h3 w hw)) (by omega) (fun _ => rfl) fun l3 => ⟨⟨l ++ (l2 ++ l3), by simp⟩, rfl⟩
theorem yes_giver {v : Val} (h : Gr v) : Yes 21 "is_giver" v := by
  intro k hk S
  obtain ⟨k, rfl⟩ : ∃ j, k = j + 1 := ⟨k - 1, by omega⟩
  obtain ⟨g, u, rfl, hg, hu⟩ := h
  refine call_open (k := k) fn_f_is_giver ⟨rfl, ?_⟩
  show wSs _ _ _ s1_f_is_giver _ _ [some (.tup [.str g, u])] S
  simp only [s1_f_is_giver, wSs, wS, wT, wEs, wO, wPs, wC, wSrc, wE_loc, wE_lit, wE_con, wE_bin, wE_neg, wE_cmp, wE_cmp2, wE_isN, wE_notN, wE_isB, wE_not, wE_and, wE_or, wE_ite, wE_tup, wE_lst, wE_dic, wE_call, wE_make, wE_meth, wE_fld, wE_sub, wE_slice, wE_bi, wE_vi, wE_bm, wE_isi, wE_lc, wE_lck, eg, es, Option.some.injEq, exists_eq_left', Lit.val]
  refine yes_and (row_yes (by omega) (by simp) (by simp)) fun l => ?_
  refine ⟨_, ix_zero, ?_⟩
  refine yes_and (yes_great hg k (by omega) _) fun l2 => ?_
  refine ⟨_, ix_one, ?_⟩
  exact yes_end ⟨l ++ l2, by simp⟩ (yes_given hu k (by omega) _)
theorem givers_yes {lo k : Nat} {v : Val} (h : Grs lo v) (hk : 22 ≤ k) (S : Hm) : callW P k (.f "are_givers") [v, .int lo] S (Tells S true) noX := by
  obtain ⟨k, rfl⟩ : ∃ j, k = j + 1 := ⟨k - 1, by omega⟩
  obtain ⟨gs, rfl, h1, h2, h3⟩ := h
  refine call_open (k := k) fn_f_are_givers ⟨rfl, ?_⟩
  show wSs _ _ _ s1_f_are_givers _ _ [some (.tup gs), some (.int lo), none] S
  simp only [s1_f_are_givers, wSs, wS, wT, wEs, wO, wPs, wC, wSrc, wE_loc, wE_lit, wE_con, wE_bin, wE_neg, wE_cmp, wE_cmp2, wE_isN, wE_notN, wE_isB, wE_not, wE_and, wE_or, wE_ite, wE_tup, wE_lst, wE_dic, wE_call, wE_make, wE_meth, wE_fld, wE_sub, wE_slice, wE_bi, wE_vi, wE_bm, wE_isi, wE_lc, wE_lck, eg, es, Option.some.injEq, exists_eq_left', Lit.val]
  refine yes_and (row_yes (by omega) (by omega) (by omega)) fun l => ?_
  simp only [seqOf]
  exact all_yes (K := 21) (by omega) (fun w hw => yes_giver (h3 w hw)) (by omega) (fun _ => rfl) fun l3 => ⟨⟨l ++ l3, by simp⟩, rfl⟩
theorem vars_yes {m k : Nat} {v : Val} (h : Vars m v) (hm : m ≤ 50) (hk : 10 ≤ k) (S : Hm) : callW P k (.f "are_variables") [v, .int m] S (Tells S true) noX := by
  obtain ⟨k, rfl⟩ : ∃ j, k = j + 4 := ⟨k - 4, by omega⟩
  obtain ⟨xs, rfl, h1, h2⟩ := h
  refine call_open (k := k + 3) fn_f_are_variables ⟨rfl, ?_⟩
  show wSs _ _ _ s1_f_are_variables _ _ [some (.tup xs), some (.int m), none] S
  simp only [s1_f_are_variables, wSs, wS, wT, wEs, wO, wPs, wC, wSrc, wE_loc, wE_lit, wE_con, wE_bin, wE_neg, wE_cmp, wE_cmp2, wE_isN, wE_notN, wE_isB, wE_not, wE_and, wE_or, wE_ite, wE_tup, wE_lst, wE_dic, wE_call, wE_make, wE_meth, wE_fld, wE_sub, wE_slice, wE_bi, wE_vi, wE_bm, wE_isi, wE_lc, wE_lck, eg, es, Option.some.injEq, exists_eq_left', Lit.val]
  refine yes_and (row_yes (by omega) (by omega) (by omega)) fun l => ?_
  simp only [seqOf]
  refine lcr_inv (callW_mono P _) (fun i acc S' => acc = (List.replicate i true).map Val.bl ∧ ∃ l, S' = S ++ l) ?_ ?_ ⟨rfl, l, rfl⟩
  · rintro i w acc S' hi ⟨rfl, l, rfl⟩
    have hi' := lt_get hi
    obtain ⟨w, rfl, hw⟩ := h2 w (List.mem_of_getElem? hi)
    refine ⟨trivial, ?_⟩
    simp only [tgW, List.map_cons, List.map_nil, ewipe, wSs, wS, wT, wEs, wO, wPs, wC, wSrc, wE_loc, wE_lit, wE_con, wE_bin, wE_neg, wE_cmp, wE_cmp2, wE_isN, wE_notN, wE_isB, wE_not, wE_and, wE_or, wE_ite, wE_tup, wE_lst, wE_dic, wE_call, wE_make, wE_meth, wE_fld, wE_sub, wE_slice, wE_bi, wE_vi, wE_bm, wE_isi, wE_lc, wE_lck, eg, es, Option.some.injEq, exists_eq_left', Lit.val, if_true]
    have ht : Tx ("?" ++ w) := .vari hw
    refine call_use (is_word_ok (k := k + 2) (d := 0) (pl_tx ht)) ?_
    rintro _ _ ⟨rfl, rfl⟩
    refine ⟨_, rfl, ?_⟩
    rw [if_pos (by rfl)]
    refine call_use (is_variable_ok (k := k) (by have := ht.len; omega)) ?_
    rintro _ _ ⟨rfl, rfl⟩
    rw [vari_of hw]
    refine ⟨by rw [sizeLine_eq]; simp at hi' ⊢; omega, ?_, l, rfl⟩
    rw [List.replicate_succ', List.map_append]
    rfl
  · rintro acc S' ⟨rfl, l, rfl⟩
    refine ⟨trivial, ?_⟩
    simp only [biW]
    refine ⟨_, lst_at get_new, ⟨l ++ [_], by simp; rfl⟩, by simp⟩
end K08

set_option maxHeartbeats 1000000
namespace K08
open Mi PySem
theorem ix_two {α : Type} {a b c : α} {r : List α} : atI (a :: b :: c :: r) 2 = some c := ix_nat (i := 2) rfl
theorem ix_three {α : Type} {a b c d : α} {r : List α} : atI (a :: b :: c :: d :: r) 3 = some d := ix_nat (i := 3) rfl
theorem lenT {xs : List Val} {S : Hm} {Q : Post} : biW .len [.tup xs] S Q = Q (.int xs.length) S := rfl
theorem con_ROWS : P.con "MOST_ROWS" = some (.int 24) := by kernel_rfl
theorem con_MDECL : P.con "MOST_DECLARATIONS" = some (.int 24) := by kernel_rfl
theorem yes_tag {v : Val} (h : Tag v) : Yes 20 "is_tag" v := by
  intro k hk S
  obtain ⟨k, rfl⟩ : ∃ j, k = j + 1 := ⟨k - 1, by omega⟩
  obtain ⟨g, ks, rfl, hg, h1, h2⟩ := h
  refine call_open (k := k) fn_f_is_tag ⟨rfl, ?_⟩
  show wSs _ _ _ s1_f_is_tag _ _ [some (.tup (.str g :: ks))] S
  simp only [s1_f_is_tag, wSs, wS, wT, wEs, wO, wPs, wC, wSrc, wE_loc, wE_lit, wE_con, wE_bin, wE_neg, wE_cmp, wE_cmp2, wE_isN, wE_notN, wE_isB, wE_not, wE_and, wE_or, wE_ite, wE_tup, wE_lst, wE_dic, wE_call, wE_make, wE_meth, wE_fld, wE_sub, wE_slice, wE_bi, wE_vi, wE_bm, wE_isi, wE_lc, wE_lck, eg, es, Option.some.injEq, exists_eq_left', Lit.val]
  refine yes_and (row_yes (by omega) (by simp only [List.length_cons]; omega) (by simp only [List.length_cons]; omega)) fun l => ?_
  refine ⟨_, ix_zero, ?_⟩
  refine yes_and (yes_great hg k (by omega) _) fun l2 => ?_
  simp only [sliceW, Val.int.injEq, exists_eq_left']
  rw [show cut (Val.str g :: ks) (some 1) none = ks from cut_from (i := 1)]
  exact yes_end ⟨l ++ l2, by simp⟩ (kinds_yes (by omega) (by omega) h2 _)
theorem yes_field {v : Val} (h : Fld v) : Yes 20 "is_field" v := by
  intro k hk S
  obtain ⟨k, rfl⟩ : ∃ j, k = j + 1 := ⟨k - 1, by omega⟩
  obtain ⟨w, u, rfl, hw, hu⟩ := h
  refine call_open (k := k) fn_f_is_field ⟨rfl, ?_⟩
  show wSs _ _ _ s1_f_is_field _ _ [some (.tup [.str w, u])] S
  simp only [s1_f_is_field, wSs, wS, wT, wEs, wO, wPs, wC, wSrc, wE_loc, wE_lit, wE_con, wE_bin, wE_neg, wE_cmp, wE_cmp2, wE_isN, wE_notN, wE_isB, wE_not, wE_and, wE_or, wE_ite, wE_tup, wE_lst, wE_dic, wE_call, wE_make, wE_meth, wE_fld, wE_sub, wE_slice, wE_bi, wE_vi, wE_bm, wE_isi, wE_lc, wE_lck, eg, es, Option.some.injEq, exists_eq_left', Lit.val]
  refine yes_and (row_yes (by omega) (by simp) (by simp)) fun l => ?_
  refine ⟨_, ix_zero, ?_⟩
  refine yes_and (yes_small hw k (by omega) _) fun l2 => ?_
  refine ⟨_, ix_one, ?_⟩
  exact yes_end ⟨l ++ l2, by simp⟩ (yes_kind hu k (by omega) _)
theorem yes_item {v : Val} (h : Itm v) : Yes 20 "is_item" v := by
  intro k hk S
  obtain ⟨k, rfl⟩ : ∃ j, k = j + 1 := ⟨k - 1, by omega⟩
  refine call_open (k := k) fn_f_is_item ⟨rfl, ?_⟩
  show wSs _ _ _ s5_f_is_item _ _ [some v] S
  simp only [s5_f_is_item, wSs, wS, wT, wEs, wO, wPs, wC, wSrc, wE_loc, wE_lit, wE_con, wE_bin, wE_neg, wE_cmp, wE_cmp2, wE_isN, wE_notN, wE_isB, wE_not, wE_and, wE_or, wE_ite, wE_tup, wE_lst, wE_dic, wE_call, wE_make, wE_meth, wE_fld, wE_sub, wE_slice, wE_bi, wE_vi, wE_bm, wE_isi, wE_lc, wE_lck, eg, es, Option.some.injEq, exists_eq_left', Lit.val]
  rcases h with ⟨w, i, rfl, hw, h1, h2⟩ | ⟨w, u, rfl, hw, hu⟩
  · refine yes_not (row_yes (by omega) (by simp) (by simp)) fun l => ?_
    refine ⟨_, ix_one, ?_⟩
    refine yes_not (yes_small hw k (by omega) _) fun l2 => ?_
    simp only [s4_f_is_item, wSs, wS, wT, wEs, wO, wPs, wC, wSrc, wE_loc, wE_lit, wE_con, wE_bin, wE_neg, wE_cmp, wE_cmp2, wE_isN, wE_notN, wE_isB, wE_not, wE_and, wE_or, wE_ite, wE_tup, wE_lst, wE_dic, wE_call, wE_make, wE_meth, wE_fld, wE_sub, wE_slice, wE_bi, wE_vi, wE_bm, wE_isi, wE_lc, wE_lck, eg, es, Option.some.injEq, exists_eq_left', Lit.val, cmpW]
    refine ⟨_, ix_zero, ?_⟩
    dsimp only
    rw [eqW_str]
    refine ⟨_, rfl, ?_⟩
    rw [if_pos (by decide)]
    simp only [s2_f_is_item, wSs, wS, wT, wEs, wO, wPs, wC, wSrc, wE_loc, wE_lit, wE_con, wE_bin, wE_neg, wE_cmp, wE_cmp2, wE_isN, wE_notN, wE_isB, wE_not, wE_and, wE_or, wE_ite, wE_tup, wE_lst, wE_dic, wE_call, wE_make, wE_meth, wE_fld, wE_sub, wE_slice, wE_bi, wE_vi, wE_bm, wE_isi, wE_lc, wE_lck, eg, es, Option.some.injEq, exists_eq_left', Lit.val]
    refine ⟨_, ix_two, ?_⟩
    refine yes_and (yes_whole k (by omega) _) fun l3 => ?_
    refine ⟨_, ix_two, ?_⟩
    simp only [cmpW]
    rw [if_pos (decide_eq_true h1)]
    exact ⟨⟨l ++ (l2 ++ l3), by simp⟩, by simp [h2]⟩
  · refine yes_not (row_yes (by omega) (by simp) (by simp)) fun l => ?_
    refine ⟨_, ix_one, ?_⟩
    refine yes_not (yes_small hw k (by omega) _) fun l2 => ?_
    simp only [s4_f_is_item, wSs, wS, wT, wEs, wO, wPs, wC, wSrc, wE_loc, wE_lit, wE_con, wE_bin, wE_neg, wE_cmp, wE_cmp2, wE_isN, wE_notN, wE_isB, wE_not, wE_and, wE_or, wE_ite, wE_tup, wE_lst, wE_dic, wE_call, wE_make, wE_meth, wE_fld, wE_sub, wE_slice, wE_bi, wE_vi, wE_bm, wE_isi, wE_lc, wE_lck, eg, es, Option.some.injEq, exists_eq_left', Lit.val, cmpW]
    refine ⟨_, ix_zero, ?_⟩
    dsimp only
    rw [eqW_str]
    refine ⟨_, rfl, ?_⟩
    rw [if_neg (by decide)]
    simp only [s3_f_is_item, wSs, wS, wT, wEs, wO, wPs, wC, wSrc, wE_loc, wE_lit, wE_con, wE_bin, wE_neg, wE_cmp, wE_cmp2, wE_isN, wE_notN, wE_isB, wE_not, wE_and, wE_or, wE_ite, wE_tup, wE_lst, wE_dic, wE_call, wE_make, wE_meth, wE_fld, wE_sub, wE_slice, wE_bi, wE_vi, wE_bm, wE_isi, wE_lc, wE_lck, eg, es, Option.some.injEq, exists_eq_left', Lit.val, cmpW]
    refine ⟨_, ix_zero, ?_⟩
    dsimp only
    rw [eqW_str]
    refine ⟨_, rfl, ?_⟩
    rw [if_pos (by decide)]
    refine ⟨_, ix_two, ?_⟩
    exact yes_end ⟨l ++ l2, by simp⟩ (yes_kind hu k (by omega) _)
theorem yes_body_row {v : Val} (h : Brow v) : Yes 50 "is_body_row" v := by
  intro k hk S
  obtain ⟨k, rfl⟩ : ∃ j, k = j + 1 := ⟨k - 1, by omega⟩
  refine call_open (k := k) fn_f_is_body_row ⟨rfl, ?_⟩
  show wSs _ _ _ s5_f_is_body_row _ _ [some v] S
  simp only [s5_f_is_body_row, wSs, wS, wT, wEs, wO, wPs, wC, wSrc, wE_loc, wE_lit, wE_con, wE_bin, wE_neg, wE_cmp, wE_cmp2, wE_isN, wE_notN, wE_isB, wE_not, wE_and, wE_or, wE_ite, wE_tup, wE_lst, wE_dic, wE_call, wE_make, wE_meth, wE_fld, wE_sub, wE_slice, wE_bi, wE_vi, wE_bm, wE_isi, wE_lc, wE_lck, eg, es, Option.some.injEq, exists_eq_left', Lit.val]
  rcases h with ⟨w, us, u, rfl, hw, hus, hu⟩ | ⟨w, u, rfl, hw, hu⟩
  · refine yes_not (row_yes (by omega) (by simp) (by simp)) fun l => ?_
    refine ⟨_, ix_one, ?_⟩
    refine yes_not (yes_small hw k (by omega) _) fun l2 => ?_
    simp only [s4_f_is_body_row, wSs, wS, wT, wEs, wO, wPs, wC, wSrc, wE_loc, wE_lit, wE_con, wE_bin, wE_neg, wE_cmp, wE_cmp2, wE_isN, wE_notN, wE_isB, wE_not, wE_and, wE_or, wE_ite, wE_tup, wE_lst, wE_dic, wE_call, wE_make, wE_meth, wE_fld, wE_sub, wE_slice, wE_bi, wE_vi, wE_bm, wE_isi, wE_lc, wE_lck, eg, es, Option.some.injEq, exists_eq_left', Lit.val, cmpW]
    refine ⟨_, ix_zero, ?_⟩
    dsimp only
    rw [eqW_str]
    refine ⟨_, rfl, ?_⟩
    rw [if_pos (by decide)]
    simp only [s2_f_is_body_row, wSs, wS, wT, wEs, wO, wPs, wC, wSrc, wE_loc, wE_lit, wE_con, wE_bin, wE_neg, wE_cmp, wE_cmp2, wE_isN, wE_notN, wE_isB, wE_not, wE_and, wE_or, wE_ite, wE_tup, wE_lst, wE_dic, wE_call, wE_make, wE_meth, wE_fld, wE_sub, wE_slice, wE_bi, wE_vi, wE_bm, wE_isi, wE_lc, wE_lck, eg, es, Option.some.injEq, exists_eq_left', Lit.val, biW, cmpW]
    rw [eqW_int]
    refine ⟨_, rfl, ?_⟩
    rw [if_pos (by simp)]
    refine ⟨_, ix_two, ?_⟩
    refine yes_and (vars_yes (m := 2) hus (by decide) (by omega) _) fun l3 => ?_
    refine ⟨_, ix_three, ?_⟩
    exact yes_end ⟨l ++ (l2 ++ l3), by simp⟩ (yes_kind hu k (by omega) _)
  · refine yes_not (row_yes (by omega) (by simp) (by simp)) fun l => ?_
    refine ⟨_, ix_one, ?_⟩
    refine yes_not (yes_small hw k (by omega) _) fun l2 => ?_
    simp only [s4_f_is_body_row, wSs, wS, wT, wEs, wO, wPs, wC, wSrc, wE_loc, wE_lit, wE_con, wE_bin, wE_neg, wE_cmp, wE_cmp2, wE_isN, wE_notN, wE_isB, wE_not, wE_and, wE_or, wE_ite, wE_tup, wE_lst, wE_dic, wE_call, wE_make, wE_meth, wE_fld, wE_sub, wE_slice, wE_bi, wE_vi, wE_bm, wE_isi, wE_lc, wE_lck, eg, es, Option.some.injEq, exists_eq_left', Lit.val, cmpW]
    refine ⟨_, ix_zero, ?_⟩
    dsimp only
    rw [eqW_str]
    refine ⟨_, rfl, ?_⟩
    rw [if_neg (by decide)]
    simp only [s3_f_is_body_row, wSs, wS, wT, wEs, wO, wPs, wC, wSrc, wE_loc, wE_lit, wE_con, wE_bin, wE_neg, wE_cmp, wE_cmp2, wE_isN, wE_notN, wE_isB, wE_not, wE_and, wE_or, wE_ite, wE_tup, wE_lst, wE_dic, wE_call, wE_make, wE_meth, wE_fld, wE_sub, wE_slice, wE_bi, wE_vi, wE_bm, wE_isi, wE_lc, wE_lck, eg, es, Option.some.injEq, exists_eq_left', Lit.val, cmpW]
    refine ⟨_, ix_zero, ?_⟩
    dsimp only
    rw [eqW_str]
    refine ⟨_, rfl, ?_⟩
    rw [if_pos (by decide)]
    simp only [biW]
    rw [eqW_int]
    refine ⟨_, rfl, ?_⟩
    rw [if_pos (by simp)]
    refine ⟨_, ix_two, ?_⟩
    exact yes_end ⟨l ++ l2, by simp⟩ (yes_phrase (by decide) hu k (by omega) _)
theorem cut3 {α : Type} {a b c : α} {r : List α} : cut (a :: b :: c :: r) (some 3) none = r := cut_from (i := 3)
theorem cut4 {α : Type} {a b c d : α} {r : List α} : cut (a :: b :: c :: d :: r) (some 4) none = r := cut_from (i := 4)
theorem yes_face {g : String} {gs : Val} {ts : List Val} (h : great g = true) (hg : Grs 0 gs) (h2 : ts.length ≤ 24) (ht : ∀ x ∈ ts, Itm x) : Yes 51 "is_face" (.tup (.str "face" :: .str g :: gs :: ts)) := by
  intro k hk S
  obtain ⟨k, rfl⟩ : ∃ j, k = j + 1 := ⟨k - 1, by omega⟩
  refine call_open (k := k) fn_f_is_face ⟨rfl, ?_⟩
  show wSs _ _ _ s3_f_is_face _ _ [some (.tup (.str "face" :: .str g :: gs :: ts)), none] S
  simp only [s3_f_is_face, wSs, wS, wT, wEs, wO, wPs, wC, wSrc, wE_loc, wE_lit, wE_con, wE_bin, wE_neg, wE_cmp, wE_cmp2, wE_isN, wE_notN, wE_isB, wE_not, wE_and, wE_or, wE_ite, wE_tup, wE_lst, wE_dic, wE_call, wE_make, wE_meth, wE_fld, wE_sub, wE_slice, wE_bi, wE_vi, wE_bm, wE_isi, wE_lc, wE_lck, eg, es, Option.some.injEq, exists_eq_left', Lit.val, biW, cmpW, con_ROWS, binW, List.length_cons]
  rw [if_pos (decide_eq_true (by omega))]
  refine ⟨_, rfl, ?_⟩
  rw [if_neg (by rw [decide_eq_true (by omega)]; decide)]
  refine ⟨_, ix_one, ?_⟩
  refine yes_not (yes_great h k (by omega) _) fun l => ?_
  refine ⟨_, ix_two, ?_⟩
  refine yes_not (givers_yes (lo := 0) hg (by omega) _) fun l2 => ?_
  simp only [s2_f_is_face, wSs, wS, wT, wEs, wO, wPs, wC, wSrc, wE_loc, wE_lit, wE_con, wE_bin, wE_neg, wE_cmp, wE_cmp2, wE_isN, wE_notN, wE_isB, wE_not, wE_and, wE_or, wE_ite, wE_tup, wE_lst, wE_dic, wE_call, wE_make, wE_meth, wE_fld, wE_sub, wE_slice, wE_bi, wE_vi, wE_bm, wE_isi, wE_lc, wE_lck, eg, es, Option.some.injEq, exists_eq_left', Lit.val, sliceW]
  refine ⟨3, rfl, ?_⟩
  rw [cut3]
  simp only [seqOf]
  exact all_yes (K := 20) (by omega) (fun w hw => yes_item (ht w hw)) (by omega) (fun _ => rfl) fun l3 => ⟨⟨l ++ (l2 ++ l3), by simp⟩, rfl⟩
theorem yes_part {g : String} {gv : Val} {ts : List Val} (h : great g = true) (hg : Gv gv) (h2 : ts.length ≤ 24) (ht : ∀ x ∈ ts, Brow x) : Yes 52 "is_part" (.tup (.str "part" :: .str g :: gv :: ts)) := by
  intro k hk S
  obtain ⟨k, rfl⟩ : ∃ j, k = j + 1 := ⟨k - 1, by omega⟩
  refine call_open (k := k) fn_f_is_part ⟨rfl, ?_⟩
  show wSs _ _ _ s3_f_is_part _ _ [some (.tup (.str "part" :: .str g :: gv :: ts)), none] S
  simp only [s3_f_is_part, wSs, wS, wT, wEs, wO, wPs, wC, wSrc, wE_loc, wE_lit, wE_con, wE_bin, wE_neg, wE_cmp, wE_cmp2, wE_isN, wE_notN, wE_isB, wE_not, wE_and, wE_or, wE_ite, wE_tup, wE_lst, wE_dic, wE_call, wE_make, wE_meth, wE_fld, wE_sub, wE_slice, wE_bi, wE_vi, wE_bm, wE_isi, wE_lc, wE_lck, eg, es, Option.some.injEq, exists_eq_left', Lit.val, biW, cmpW, con_ROWS, binW, List.length_cons]
  rw [if_pos (decide_eq_true (by omega))]
  refine ⟨_, rfl, ?_⟩
  rw [if_neg (by rw [decide_eq_true (by omega)]; decide)]
  refine ⟨_, ix_one, ?_⟩
  refine yes_not (yes_great h k (by omega) _) fun l => ?_
  refine ⟨_, ix_two, ?_⟩
  refine yes_not (yes_given hg k (by omega) _) fun l2 => ?_
  simp only [s2_f_is_part, wSs, wS, wT, wEs, wO, wPs, wC, wSrc, wE_loc, wE_lit, wE_con, wE_bin, wE_neg, wE_cmp, wE_cmp2, wE_isN, wE_notN, wE_isB, wE_not, wE_and, wE_or, wE_ite, wE_tup, wE_lst, wE_dic, wE_call, wE_make, wE_meth, wE_fld, wE_sub, wE_slice, wE_bi, wE_vi, wE_bm, wE_isi, wE_lc, wE_lck, eg, es, Option.some.injEq, exists_eq_left', Lit.val, sliceW]
  refine ⟨3, rfl, ?_⟩
  rw [cut3]
  simp only [seqOf]
  exact all_yes (K := 50) (by omega) (fun w hw => yes_body_row (ht w hw)) (by omega) (fun _ => rfl) fun l3 => ⟨⟨l ++ (l2 ++ l3), by simp⟩, rfl⟩
theorem yes_maker {g : String} {gs gv : Val} {ts : List Val} (h : great g = true) (hs : Grs 1 gs) (hg : Gv gv) (h2 : ts.length ≤ 24) (ht : ∀ x ∈ ts, Brow x) : Yes 52 "is_maker" (.tup (.str "maker" :: .str g :: gs :: gv :: ts)) := by
  intro k hk S
  obtain ⟨k, rfl⟩ : ∃ j, k = j + 1 := ⟨k - 1, by omega⟩
  refine call_open (k := k) fn_f_is_maker ⟨rfl, ?_⟩
  show wSs _ _ _ s3_f_is_maker _ _ [some (.tup (.str "maker" :: .str g :: gs :: gv :: ts)), none] S
  simp only [s3_f_is_maker, wSs, wS, wT, wEs, wO, wPs, wC, wSrc, wE_loc, wE_lit, wE_con, wE_bin, wE_neg, wE_cmp, wE_cmp2, wE_isN, wE_notN, wE_isB, wE_not, wE_and, wE_or, wE_ite, wE_tup, wE_lst, wE_dic, wE_call, wE_make, wE_meth, wE_fld, wE_sub, wE_slice, wE_bi, wE_vi, wE_bm, wE_isi, wE_lc, wE_lck, eg, es, Option.some.injEq, exists_eq_left', Lit.val, biW, cmpW, con_ROWS, binW, List.length_cons]
  rw [if_pos (decide_eq_true (by omega))]
  refine ⟨_, rfl, ?_⟩
  rw [if_neg (by rw [decide_eq_true (by omega)]; decide)]
  refine ⟨_, ix_one, ?_⟩
  refine yes_not (yes_great h k (by omega) _) fun l => ?_
  refine ⟨_, ix_two, ?_⟩
  refine yes_not (givers_yes (lo := 1) hs (by omega) _) fun l2 => ?_
  simp only [s2_f_is_maker, wSs, wS, wT, wEs, wO, wPs, wC, wSrc, wE_loc, wE_lit, wE_con, wE_bin, wE_neg, wE_cmp, wE_cmp2, wE_isN, wE_notN, wE_isB, wE_not, wE_and, wE_or, wE_ite, wE_tup, wE_lst, wE_dic, wE_call, wE_make, wE_meth, wE_fld, wE_sub, wE_slice, wE_bi, wE_vi, wE_bm, wE_isi, wE_lc, wE_lck, eg, es, Option.some.injEq, exists_eq_left', Lit.val]
  refine ⟨_, ix_three, ?_⟩
  refine yes_and (yes_given hg k (by omega) _) fun l4 => ?_
  simp only [sliceW]
  refine ⟨4, rfl, ?_⟩
  rw [cut4]
  simp only [seqOf]
  exact all_yes (K := 50) (by omega) (fun w hw => yes_body_row (ht w hw)) (by omega) (fun _ => rfl) fun l3 => ⟨⟨l ++ (l2 ++ (l4 ++ l3)), by simp⟩, rfl⟩
theorem yes_told_kind {w : String} {us : Val} {ts : List Val} (h : small w = true) (hu : Vars 3 us) (h1 : 1 ≤ ts.length) (h2 : ts.length ≤ 6) (ht : ∀ x ∈ ts, Tag x) : Yes 52 "is_kind_told" (.tup (.str "kind" :: .str w :: us :: ts)) := by
  intro k hk S
  obtain ⟨k, rfl⟩ : ∃ j, k = j + 1 := ⟨k - 1, by omega⟩
  refine call_open (k := k) fn_f_is_kind_told ⟨rfl, ?_⟩
  show wSs _ _ _ s5_f_is_kind_told _ _ [some (.tup (.str "kind" :: .str w :: us :: ts)), none, none] S
  simp only [s5_f_is_kind_told, wSs, wS, wT, wEs, wO, wPs, wC, wSrc, wE_loc, wE_lit, wE_con, wE_bin, wE_neg, wE_cmp, wE_cmp2, wE_isN, wE_notN, wE_isB, wE_not, wE_and, wE_or, wE_ite, wE_tup, wE_lst, wE_dic, wE_call, wE_make, wE_meth, wE_fld, wE_sub, wE_slice, wE_bi, wE_vi, wE_bm, wE_isi, wE_lc, wE_lck, eg, es, Option.some.injEq, exists_eq_left', Lit.val, biW, cmpW, List.length_cons]
  refine ⟨_, rfl, ?_⟩
  rw [if_neg (by rw [decide_eq_true_eq]; omega)]
  refine ⟨_, ix_one, ?_⟩
  refine yes_not (yes_small h k (by omega) _) fun l => ?_
  refine ⟨_, ix_two, ?_⟩
  refine yes_not (vars_yes (m := 3) hu (by decide) (by omega) _) fun l2 => ?_
  simp only [s4_f_is_kind_told, wSs, wS, wT, wEs, wO, wPs, wC, wSrc, wE_loc, wE_lit, wE_con, wE_bin, wE_neg, wE_cmp, wE_cmp2, wE_isN, wE_notN, wE_isB, wE_not, wE_and, wE_or, wE_ite, wE_tup, wE_lst, wE_dic, wE_call, wE_make, wE_meth, wE_fld, wE_sub, wE_slice, wE_bi, wE_vi, wE_bm, wE_isi, wE_lc, wE_lck, eg, es, Option.some.injEq, exists_eq_left', Lit.val, cmpW]
  refine ⟨_, ix_zero, ?_⟩
  dsimp only
  rw [eqW_str]
  refine ⟨_, rfl, ?_⟩
  rw [if_pos (by decide)]
  simp only [s2_f_is_kind_told, wSs, wS, wT, wEs, wO, wPs, wC, wSrc, wE_loc, wE_lit, wE_con, wE_bin, wE_neg, wE_cmp, wE_cmp2, wE_isN, wE_notN, wE_isB, wE_not, wE_and, wE_or, wE_ite, wE_tup, wE_lst, wE_dic, wE_call, wE_make, wE_meth, wE_fld, wE_sub, wE_slice, wE_bi, wE_vi, wE_bm, wE_isi, wE_lc, wE_lck, eg, es, Option.some.injEq, exists_eq_left', Lit.val, biW, cmpW, List.length_cons]
  refine ⟨_, rfl, ?_⟩
  rw [if_pos (decide_eq_true (by omega))]
  simp only [sliceW]
  refine ⟨3, rfl, ?_⟩
  rw [cut3]
  simp only [seqOf]
  exact all_yes (K := 20) (by omega) (fun w hw => yes_tag (ht w hw)) (by omega) (fun _ => rfl) fun l3 => ⟨⟨l ++ (l2 ++ l3), by simp⟩, rfl⟩
theorem yes_told_record {w : String} {us : Val} {ts : List Val} (h : small w = true) (hu : Vars 3 us) (h1 : 1 ≤ ts.length) (h2 : ts.length ≤ 4) (ht : ∀ x ∈ ts, Fld x) : Yes 52 "is_kind_told" (.tup (.str "record" :: .str w :: us :: ts)) := by
  intro k hk S
  obtain ⟨k, rfl⟩ : ∃ j, k = j + 1 := ⟨k - 1, by omega⟩
  refine call_open (k := k) fn_f_is_kind_told ⟨rfl, ?_⟩
  show wSs _ _ _ s5_f_is_kind_told _ _ [some (.tup (.str "record" :: .str w :: us :: ts)), none, none] S
  simp only [s5_f_is_kind_told, wSs, wS, wT, wEs, wO, wPs, wC, wSrc, wE_loc, wE_lit, wE_con, wE_bin, wE_neg, wE_cmp, wE_cmp2, wE_isN, wE_notN, wE_isB, wE_not, wE_and, wE_or, wE_ite, wE_tup, wE_lst, wE_dic, wE_call, wE_make, wE_meth, wE_fld, wE_sub, wE_slice, wE_bi, wE_vi, wE_bm, wE_isi, wE_lc, wE_lck, eg, es, Option.some.injEq, exists_eq_left', Lit.val, biW, cmpW, List.length_cons]
  refine ⟨_, rfl, ?_⟩
  rw [if_neg (by rw [decide_eq_true_eq]; omega)]
  refine ⟨_, ix_one, ?_⟩
  refine yes_not (yes_small h k (by omega) _) fun l => ?_
  refine ⟨_, ix_two, ?_⟩
  refine yes_not (vars_yes (m := 3) hu (by decide) (by omega) _) fun l2 => ?_
  simp only [s4_f_is_kind_told, wSs, wS, wT, wEs, wO, wPs, wC, wSrc, wE_loc, wE_lit, wE_con, wE_bin, wE_neg, wE_cmp, wE_cmp2, wE_isN, wE_notN, wE_isB, wE_not, wE_and, wE_or, wE_ite, wE_tup, wE_lst, wE_dic, wE_call, wE_make, wE_meth, wE_fld, wE_sub, wE_slice, wE_bi, wE_vi, wE_bm, wE_isi, wE_lc, wE_lck, eg, es, Option.some.injEq, exists_eq_left', Lit.val, cmpW]
  refine ⟨_, ix_zero, ?_⟩
  dsimp only
  rw [eqW_str]
  refine ⟨_, rfl, ?_⟩
  rw [if_neg (by decide)]
  simp only [s3_f_is_kind_told, wSs, wS, wT, wEs, wO, wPs, wC, wSrc, wE_loc, wE_lit, wE_con, wE_bin, wE_neg, wE_cmp, wE_cmp2, wE_isN, wE_notN, wE_isB, wE_not, wE_and, wE_or, wE_ite, wE_tup, wE_lst, wE_dic, wE_call, wE_make, wE_meth, wE_fld, wE_sub, wE_slice, wE_bi, wE_vi, wE_bm, wE_isi, wE_lc, wE_lck, eg, es, Option.some.injEq, exists_eq_left', Lit.val, biW, cmpW, List.length_cons]
  refine ⟨_, rfl, ?_⟩
  rw [if_pos (decide_eq_true (by omega))]
  simp only [sliceW]
  refine ⟨3, rfl, ?_⟩
  rw [cut3]
  simp only [seqOf]
  exact all_yes (K := 20) (by omega) (fun w hw => yes_field (ht w hw)) (by omega) (fun _ => rfl) fun l3 => ⟨⟨l ++ (l2 ++ l3), by simp⟩, rfl⟩
theorem yes_declaration {v : Val} (h : Dcl v ∨ Mn v) : Yes 60 "is_declaration" v := by
  intro k hk S
  obtain ⟨k, rfl⟩ : ∃ j, k = j + 1 := ⟨k - 1, by omega⟩
  refine call_open (k := k) fn_f_is_declaration ⟨rfl, ?_⟩
  show wSs _ _ _ s13_f_is_declaration _ _ [some v, none, none] S
  simp only [s13_f_is_declaration, wSs, wS, wT, wEs, wO, wPs, wC, wSrc, wE_loc, wE_lit, wE_con, wE_bin, wE_neg, wE_cmp, wE_cmp2, wE_isN, wE_notN, wE_isB, wE_not, wE_and, wE_or, wE_ite, wE_tup, wE_lst, wE_dic, wE_call, wE_make, wE_meth, wE_fld, wE_sub, wE_slice, wE_bi, wE_vi, wE_bm, wE_isi, wE_lc, wE_lck, eg, es, Option.some.injEq, exists_eq_left', Lit.val, con_ROWS, binW]
  rcases h with h | ⟨p, rfl, hp⟩
  · cases h with
    | kind h hu h1 h2 ht =>
      refine yes_not (row_yes (by omega) (by simp only [List.length_cons]; omega) (by simp only [List.length_cons]; omega)) fun l => ?_
      simp only [s12_f_is_declaration, s11_f_is_declaration, s10_f_is_declaration, s9_f_is_declaration, s8_f_is_declaration, s7_f_is_declaration, wSs, wS, wT, wEs, wO, wPs, wC, wSrc, wE_loc, wE_lit, wE_con, wE_bin, wE_neg, wE_cmp, wE_cmp2, wE_isN, wE_notN, wE_isB, wE_not, wE_and, wE_or, wE_ite, wE_tup, wE_lst, wE_dic, wE_call, wE_make, wE_meth, wE_fld, wE_sub, wE_slice, wE_bi, wE_vi, wE_bm, wE_isi, wE_lc, wE_lck, eg, es, Option.some.injEq, exists_eq_left', Lit.val, cmpW]
      refine ⟨_, ix_zero, ?_⟩
      simp only [eqW_str, truth, Option.some.injEq, exists_eq_left']
      rw [if_neg (by decide), if_neg (by decide), if_neg (by decide), if_neg (by decide), if_neg (by decide)]
      refine ⟨by rw [sizeLine_eq]; simp, rfl, rfl, _, rfl, ?_⟩
      rw [if_pos (by decide)]
      exact yes_end ⟨l, rfl⟩ (yes_told_kind h hu h1 h2 ht k (by omega) _)
    | record h hu h1 h2 ht =>
      refine yes_not (row_yes (by omega) (by simp only [List.length_cons]; omega) (by simp only [List.length_cons]; omega)) fun l => ?_
      simp only [s12_f_is_declaration, s11_f_is_declaration, s10_f_is_declaration, s9_f_is_declaration, s8_f_is_declaration, s7_f_is_declaration, wSs, wS, wT, wEs, wO, wPs, wC, wSrc, wE_loc, wE_lit, wE_con, wE_bin, wE_neg, wE_cmp, wE_cmp2, wE_isN, wE_notN, wE_isB, wE_not, wE_and, wE_or, wE_ite, wE_tup, wE_lst, wE_dic, wE_call, wE_make, wE_meth, wE_fld, wE_sub, wE_slice, wE_bi, wE_vi, wE_bm, wE_isi, wE_lc, wE_lck, eg, es, Option.some.injEq, exists_eq_left', Lit.val, cmpW]
      refine ⟨_, ix_zero, ?_⟩
      simp only [eqW_str, truth, Option.some.injEq, exists_eq_left']
      rw [if_neg (by decide), if_neg (by decide), if_neg (by decide), if_neg (by decide), if_neg (by decide)]
      refine ⟨by rw [sizeLine_eq]; simp, rfl, rfl, _, rfl, ?_⟩
      rw [if_pos (by decide)]
      exact yes_end ⟨l, rfl⟩ (yes_told_record h hu h1 h2 ht k (by omega) _)
    | face h hg h2 ht =>
      refine yes_not (row_yes (by omega) (by simp only [List.length_cons]; omega) (by simp only [List.length_cons]; omega)) fun l => ?_
      simp only [s12_f_is_declaration, s11_f_is_declaration, s10_f_is_declaration, wSs, wS, wT, wEs, wO, wPs, wC, wSrc, wE_loc, wE_lit, wE_con, wE_bin, wE_neg, wE_cmp, wE_cmp2, wE_isN, wE_notN, wE_isB, wE_not, wE_and, wE_or, wE_ite, wE_tup, wE_lst, wE_dic, wE_call, wE_make, wE_meth, wE_fld, wE_sub, wE_slice, wE_bi, wE_vi, wE_bm, wE_isi, wE_lc, wE_lck, eg, es, Option.some.injEq, exists_eq_left', Lit.val, cmpW]
      refine ⟨_, ix_zero, ?_⟩
      simp only [eqW_str, truth, Option.some.injEq, exists_eq_left']
      rw [if_neg (by decide), if_neg (by decide), if_pos (by decide)]
      simp only [s4_f_is_declaration, wSs, wS, wT, wEs, wO, wPs, wC, wSrc, wE_loc, wE_lit, wE_con, wE_bin, wE_neg, wE_cmp, wE_cmp2, wE_isN, wE_notN, wE_isB, wE_not, wE_and, wE_or, wE_ite, wE_tup, wE_lst, wE_dic, wE_call, wE_make, wE_meth, wE_fld, wE_sub, wE_slice, wE_bi, wE_vi, wE_bm, wE_isi, wE_lc, wE_lck, eg, es, Option.some.injEq, exists_eq_left', Lit.val]
      exact yes_end ⟨l, rfl⟩ (yes_face h hg h2 ht k (by omega) _)
    | part h hg h2 ht =>
      refine yes_not (row_yes (by omega) (by simp only [List.length_cons]; omega) (by simp only [List.length_cons]; omega)) fun l => ?_
      simp only [s12_f_is_declaration, s11_f_is_declaration, s10_f_is_declaration, s9_f_is_declaration, wSs, wS, wT, wEs, wO, wPs, wC, wSrc, wE_loc, wE_lit, wE_con, wE_bin, wE_neg, wE_cmp, wE_cmp2, wE_isN, wE_notN, wE_isB, wE_not, wE_and, wE_or, wE_ite, wE_tup, wE_lst, wE_dic, wE_call, wE_make, wE_meth, wE_fld, wE_sub, wE_slice, wE_bi, wE_vi, wE_bm, wE_isi, wE_lc, wE_lck, eg, es, Option.some.injEq, exists_eq_left', Lit.val, cmpW]
      refine ⟨_, ix_zero, ?_⟩
      simp only [eqW_str, truth, Option.some.injEq, exists_eq_left']
      rw [if_neg (by decide), if_neg (by decide), if_neg (by decide), if_pos (by decide)]
      simp only [s5_f_is_declaration, wSs, wS, wT, wEs, wO, wPs, wC, wSrc, wE_loc, wE_lit, wE_con, wE_bin, wE_neg, wE_cmp, wE_cmp2, wE_isN, wE_notN, wE_isB, wE_not, wE_and, wE_or, wE_ite, wE_tup, wE_lst, wE_dic, wE_call, wE_make, wE_meth, wE_fld, wE_sub, wE_slice, wE_bi, wE_vi, wE_bm, wE_isi, wE_lc, wE_lck, eg, es, Option.some.injEq, exists_eq_left', Lit.val]
      exact yes_end ⟨l, rfl⟩ (yes_part h hg h2 ht k (by omega) _)
    | maker h hs hg h2 ht =>
      refine yes_not (row_yes (by omega) (by simp only [List.length_cons]; omega) (by simp only [List.length_cons]; omega)) fun l => ?_
      simp only [s12_f_is_declaration, s11_f_is_declaration, s10_f_is_declaration, s9_f_is_declaration, s8_f_is_declaration, wSs, wS, wT, wEs, wO, wPs, wC, wSrc, wE_loc, wE_lit, wE_con, wE_bin, wE_neg, wE_cmp, wE_cmp2, wE_isN, wE_notN, wE_isB, wE_not, wE_and, wE_or, wE_ite, wE_tup, wE_lst, wE_dic, wE_call, wE_make, wE_meth, wE_fld, wE_sub, wE_slice, wE_bi, wE_vi, wE_bm, wE_isi, wE_lc, wE_lck, eg, es, Option.some.injEq, exists_eq_left', Lit.val, cmpW]
      refine ⟨_, ix_zero, ?_⟩
      simp only [eqW_str, truth, Option.some.injEq, exists_eq_left']
      rw [if_neg (by decide), if_neg (by decide), if_neg (by decide), if_neg (by decide), if_pos (by decide)]
      simp only [s6_f_is_declaration, wSs, wS, wT, wEs, wO, wPs, wC, wSrc, wE_loc, wE_lit, wE_con, wE_bin, wE_neg, wE_cmp, wE_cmp2, wE_isN, wE_notN, wE_isB, wE_not, wE_and, wE_or, wE_ite, wE_tup, wE_lst, wE_dic, wE_call, wE_make, wE_meth, wE_fld, wE_sub, wE_slice, wE_bi, wE_vi, wE_bm, wE_isi, wE_lc, wE_lck, eg, es, Option.some.injEq, exists_eq_left', Lit.val]
      exact yes_end ⟨l, rfl⟩ (yes_maker h hs hg h2 ht k (by omega) _)
    | @apply gs h1 h2 hg =>
      refine yes_not (row_yes (by omega) (by simp only [List.length_cons]; omega) (by simp only [List.length_cons]; omega)) fun l => ?_
      simp only [s12_f_is_declaration, s11_f_is_declaration, wSs, wS, wT, wEs, wO, wPs, wC, wSrc, wE_loc, wE_lit, wE_con, wE_bin, wE_neg, wE_cmp, wE_cmp2, wE_isN, wE_notN, wE_isB, wE_not, wE_and, wE_or, wE_ite, wE_tup, wE_lst, wE_dic, wE_call, wE_make, wE_meth, wE_fld, wE_sub, wE_slice, wE_bi, wE_vi, wE_bm, wE_isi, wE_lc, wE_lck, eg, es, Option.some.injEq, exists_eq_left', Lit.val, cmpW]
      refine ⟨_, ix_zero, ?_⟩
      simp only [eqW_str, truth, Option.some.injEq, exists_eq_left']
      rw [if_neg (by decide), if_pos (by decide)]
      simp only [s3_f_is_declaration, wSs, wS, wT, wEs, wO, wPs, wC, wSrc, wE_loc, wE_lit, wE_con, wE_bin, wE_neg, wE_cmp, wE_cmp2, wE_isN, wE_notN, wE_isB, wE_not, wE_and, wE_or, wE_ite, wE_tup, wE_lst, wE_dic, wE_call, wE_make, wE_meth, wE_fld, wE_sub, wE_slice, wE_bi, wE_vi, wE_bm, wE_isi, wE_lc, wE_lck, eg, es, Option.some.injEq, exists_eq_left', Lit.val, biW, cmpW, List.length_cons]
      rw [if_pos (decide_eq_true (by omega))]
      refine ⟨_, rfl, ?_⟩
      rw [if_pos (decide_eq_true (by omega))]
      simp only [sliceW]
      refine ⟨1, rfl, ?_⟩
      rw [show cut (Val.str "apply" :: gs) (some 1) none = gs from cut_from (i := 1)]
      simp only [seqOf]
      exact all_yes (K := 10) (by omega) (fun w hw => yes_gn (hg w hw)) (by omega) (fun _ => rfl) fun l3 => ⟨⟨l ++ l3, by simp⟩, rfl⟩
  · refine yes_not (row_yes (by omega) (by simp) (by simp)) fun l => ?_
    simp only [s12_f_is_declaration, wSs, wS, wT, wEs, wO, wPs, wC, wSrc, wE_loc, wE_lit, wE_con, wE_bin, wE_neg, wE_cmp, wE_cmp2, wE_isN, wE_notN, wE_isB, wE_not, wE_and, wE_or, wE_ite, wE_tup, wE_lst, wE_dic, wE_call, wE_make, wE_meth, wE_fld, wE_sub, wE_slice, wE_bi, wE_vi, wE_bm, wE_isi, wE_lc, wE_lck, eg, es, Option.some.injEq, exists_eq_left', Lit.val, cmpW]
    refine ⟨_, ix_zero, ?_⟩
    simp only [eqW_str, truth, Option.some.injEq, exists_eq_left']
    rw [if_pos (by decide)]
    simp only [s2_f_is_declaration, wSs, wS, wT, wEs, wO, wPs, wC, wSrc, wE_loc, wE_lit, wE_con, wE_bin, wE_neg, wE_cmp, wE_cmp2, wE_isN, wE_notN, wE_isB, wE_not, wE_and, wE_or, wE_ite, wE_tup, wE_lst, wE_dic, wE_call, wE_make, wE_meth, wE_fld, wE_sub, wE_slice, wE_bi, wE_vi, wE_bm, wE_isi, wE_lc, wE_lck, eg, es, Option.some.injEq, exists_eq_left', Lit.val, biW, cmpW]
    rw [eqW_int]
    refine ⟨_, rfl, ?_⟩
    rw [if_pos (by simp)]
    refine ⟨_, ix_one, ?_⟩
    exact yes_end ⟨l, rfl⟩ (yes_phrase (by decide) hp k (by omega) _)
/-! ### a program -/
def Prog (vs : List Val) : Prop := ∃ ds m, vs = ds ++ [m] ∧ (∀ d ∈ ds, Dcl d) ∧ Mn m ∧ ds.length ≤ 23
theorem Dcl.head {v : Val} (h : Dcl v) : ∃ s vs, v = .tup (.str s :: vs) ∧ s ≠ "main" := by
  cases h <;> exact ⟨_, _, rfl, by decide⟩
theorem read_ok {k n w : Nat} {x : String} {vs : List Val} {S : Hm} {ps : List String} (hP : Prog vs) (hl : x.length ≤ 6000) (hp : fl (scan ([], "") x.toList) = ps) (t : ThL vs ps w n) (hn : n ≤ 20) (hw : w ≤ 10 ^ 5) (hk : 70 ≤ k) : callW P k (.f "read") [.str x] S (fun v S' => v = .tup vs ∧ Fz S S') noX := by
  obtain ⟨k, rfl⟩ : ∃ j, k = j + 7 := ⟨k - 7, by omega⟩
  obtain ⟨ds, m, rfl, hd, hm, hdl⟩ := hP
  refine call_open (k := k + 6) fn_f_read ⟨rfl, ?_⟩
  show wSs _ _ _ s7_f_read _ _ [some (.str x), none, none, none] S
  simp only [s7_f_read, wSs, wS, wT, wEs, wO, wPs, wC, wSrc, wE_loc, wE_lit, wE_con, wE_bin, wE_neg, wE_cmp, wE_cmp2, wE_isN, wE_notN, wE_isB, wE_not, wE_and, wE_or, wE_ite, wE_tup, wE_lst, wE_dic, wE_call, wE_make, wE_meth, wE_fld, wE_sub, wE_slice, wE_bi, wE_vi, wE_bm, wE_isi, wE_lc, wE_lck, eg, es, Option.some.injEq, exists_eq_left', Lit.val]
  refine call_use (things_of_ok (k := k) hl hp t hn hw) ?_
  rintro _ S1 ⟨rfl, f1⟩
  simp only [s6_f_read, wSs, wS, wT, wEs, wO, wPs, wC, wSrc, wE_loc, wE_lit, wE_con, wE_bin, wE_neg, wE_cmp, wE_cmp2, wE_isN, wE_notN, wE_isB, wE_not, wE_and, wE_or, wE_ite, wE_tup, wE_lst, wE_dic, wE_call, wE_make, wE_meth, wE_fld, wE_sub, wE_slice, wE_bi, wE_vi, wE_bm, wE_isi, wE_lc, wE_lck, eg, es, Option.some.injEq, exists_eq_left', Lit.val, lenT, cmpW, con_MDECL, List.length_append, List.length_cons, List.length_nil]
  rw [if_pos (decide_eq_true (by omega))]
  refine ⟨_, rfl, ?_⟩
  rw [if_neg (by rw [decide_eq_true (by omega)]; decide)]
  simp only [seqOf]
  have hyes : ∀ w ∈ ds ++ [m], Yes 60 "is_declaration" w := by
    intro w hw
    rcases List.mem_append.mp hw with hw | hw
    · exact yes_declaration (.inl (hd w hw))
    · have : w = m := by simpa using hw
      subst this
      exact yes_declaration (.inr hm)
  refine all_yes (K := 60) (by omega) hyes (by simp; omega) (fun _ => rfl) fun l => ?_
  refine ⟨true, rfl, ?_⟩
  rw [if_neg (by decide)]
  simp only [s5_f_read, wSs, wS, wT, wEs, wO, wPs, wC, wSrc, wE_loc, wE_lit, wE_con, wE_bin, wE_neg, wE_cmp, wE_cmp2, wE_isN, wE_notN, wE_isB, wE_not, wE_and, wE_or, wE_ite, wE_tup, wE_lst, wE_dic, wE_call, wE_make, wE_meth, wE_fld, wE_sub, wE_slice, wE_bi, wE_vi, wE_bm, wE_isi, wE_lc, wE_lck, eg, es, Option.some.injEq, exists_eq_left', Lit.val, seqOf]
  refine lcr_inv (callW_mono P _) (fun i acc S' => acc = (if i ≤ ds.length then [] else [m]) ∧ S' = S1 ++ l) ?_ ?_ ⟨by simp, rfl⟩
  · rintro i v acc S' hi ⟨rfl, rfl⟩
    refine ⟨trivial, ?_⟩
    simp only [tgW, List.map_cons, List.map_nil, ewipe, wSs, wS, wT, wEs, wO, wPs, wC, wSrc, wE_loc, wE_lit, wE_con, wE_bin, wE_neg, wE_cmp, wE_cmp2, wE_isN, wE_notN, wE_isB, wE_not, wE_and, wE_or, wE_ite, wE_tup, wE_lst, wE_dic, wE_call, wE_make, wE_meth, wE_fld, wE_sub, wE_slice, wE_bi, wE_vi, wE_bm, wE_isi, wE_lc, wE_lck, eg, es, Option.some.injEq, exists_eq_left', Lit.val, if_true]
    have hi2 := lt_get hi
    by_cases hid : i < ds.length
    · rw [List.getElem?_append_left hid] at hi
      obtain ⟨s, us, rfl, hs⟩ := (hd v (List.mem_of_getElem? hi)).head
      refine ⟨_, ix_zero, ?_⟩
      simp only [cmpW, eqW_str, truth, Option.some.injEq, exists_eq_left']
      rw [if_neg (by simpa using hs)]
      exact ⟨by rw [if_pos (by omega), if_pos (by omega)], trivial⟩
    · have hie : i = ds.length := by simp at hi2; omega
      subst hie
      rw [List.getElem?_append_right (Nat.le_refl _), Nat.sub_self] at hi
      cases hi
      obtain ⟨p, rfl, hp'⟩ := hm
      refine ⟨_, ix_zero, ?_⟩
      simp only [cmpW, eqW_str, truth, Option.some.injEq, exists_eq_left']
      rw [if_pos (by decide)]
      exact ⟨by rw [sizeLine_eq]; simp, by rw [if_pos (by omega), if_neg (by omega)]; rfl, trivial⟩
  · rintro acc S' ⟨rfl, rfl⟩
    refine ⟨trivial, ?_⟩
    rw [if_neg (by simp)]
    simp only [s4_f_read, wSs, wS, wT, wEs, wO, wPs, wC, wSrc, wE_loc, wE_lit, wE_con, wE_bin, wE_neg, wE_cmp, wE_cmp2, wE_isN, wE_notN, wE_isB, wE_not, wE_and, wE_or, wE_ite, wE_tup, wE_lst, wE_dic, wE_call, wE_make, wE_meth, wE_fld, wE_sub, wE_slice, wE_bi, wE_vi, wE_bm, wE_isi, wE_lc, wE_lck, eg, es, Option.some.injEq, exists_eq_left', Lit.val, cmpW]
    refine lenW_lst (lst_at get_new) ?_
    rw [eqW_int]
    refine ⟨_, rfl, ?_⟩
    rw [if_neg (by simp)]
    refine ⟨1, rfl, _, ix_last, ?_⟩
    obtain ⟨p, rfl, hp'⟩ := hm
    refine ⟨_, ix_zero, ?_⟩
    dsimp only
    rw [eqW_str]
    refine ⟨_, rfl, ?_⟩
    rw [if_neg (by decide)]
    simp only [s3_f_read, wSs, wS, wT, wEs, wO, wPs, wC, wSrc, wE_loc, wE_lit, wE_con, wE_bin, wE_neg, wE_cmp, wE_cmp2, wE_isN, wE_notN, wE_isB, wE_not, wE_and, wE_or, wE_ite, wE_tup, wE_lst, wE_dic, wE_call, wE_make, wE_meth, wE_fld, wE_sub, wE_slice, wE_bi, wE_vi, wE_bm, wE_isi, wE_lc, wE_lck, eg, es, Option.some.injEq, exists_eq_left', Lit.val]
    exact ⟨trivial, f1.trans ((Fz.app _).trans (Fz.app _))⟩
end K08

set_option maxHeartbeats 1000000
namespace K08
open Mi PySem
/-! ### declarations drawn -/
theorem lc_draw {elt : E} {i k m p : Nat} {env : Mi.Env} {S : Hm} {Pv : Val → Prop} {Q : List Val → Hm → Prop} (hm : m ≤ 100) (h : Sta p S)
    (hs : ∀ w S', Sta p S' → wE P.con (callW P k) (fun _ _ => False) elt (es (ewipe env [i]) i (some w)) S' (fun v S'' => Pv v ∧ Sta p S'' ∧ Fm p S' S''))
    (hq : ∀ acc S', acc.length = m → (∀ v ∈ acc, Pv v) → Sta p S' → Fm p S S' → Q acc S') :
    lcRun P.con (callW P k) elt (.nm i) .none env [i] (fun _ => True) (rangeL 0 1 m) [] S Q := by
  refine lcr_inv (callW_mono P _) (fun i acc S' => acc.length = i ∧ (∀ v ∈ acc, Pv v) ∧ Sta p S' ∧ Fm p S S') ?_ ?_ ⟨rfl, by simp, h, Fm.refl _ _⟩
  · rintro j v acc S' hi ⟨hal, hacc, hp, hf⟩
    obtain ⟨hi, rfl⟩ := rng_get hi
    refine ⟨trivial, ?_⟩
    simp only [tgW, wC, if_true]
    refine wE_mono (callW_mono P _) (fun _ _ h => h) elt ?_ (hs _ S' hp)
    rintro x S3 ⟨g, p3, f3⟩
    refine ⟨by rw [sizeLine_eq]; omega, by simp [hal], fun u hu => ?_, p3, hf.trans f3⟩
    rcases List.mem_append.mp hu with hu | hu
    · exact hacc u hu
    · have : u = x := by simpa using hu
      subst this; exact g
  · rintro acc S' ⟨hal, hacc, hp, hf⟩
    rw [rangeL_len] at hal
    exact ⟨trivial, hq acc S' hal hacc hp hf⟩
theorem given_ok {k p : Nat} {S : Hm} (h : Sta p S) : callW P (k + 4) (.f "_law_given") [.ref p] S (fun v S' => Gv v ∧ Sta p S' ∧ Fm p S S') noX := by
  refine call_open (k := k + 3) fn_f_law_given ⟨rfl, ?_⟩
  show wSs _ _ _ s3_f_law_given _ _ [some (.ref p), none] S
  simp only [s3_f_law_given, wSs, wS, wT, wEs, wO, wPs, wC, wSrc, wE_loc, wE_lit, wE_con, wE_bin, wE_neg, wE_cmp, wE_cmp2, wE_isN, wE_notN, wE_isB, wE_not, wE_and, wE_or, wE_ite, wE_tup, wE_lst, wE_dic, wE_call, wE_make, wE_meth, wE_fld, wE_sub, wE_slice, wE_bi, wE_vi, wE_bm, wE_isi, wE_lc, wE_lck, eg, es, Option.some.injEq, exists_eq_left', Lit.val]
  refine call_use (next_ok (k := k + 2) h (by decide) (by decide)) ?_
  rintro _ S1 ⟨⟨r, rfl, a, b⟩, p1, f1, _⟩
  simp only [cmpW, eqW_int, truth, Option.some.injEq, exists_eq_left']
  by_cases hr : r = 0
  · rw [if_pos (decide_eq_true hr)]
    simp only [s1_f_law_given, wSs, wS, wT, wEs, wO, wPs, wC, wSrc, wE_loc, wE_lit, wE_con, wE_bin, wE_neg, wE_cmp, wE_cmp2, wE_isN, wE_notN, wE_isB, wE_not, wE_and, wE_or, wE_ite, wE_tup, wE_lst, wE_dic, wE_call, wE_make, wE_meth, wE_fld, wE_sub, wE_slice, wE_bi, wE_vi, wE_bm, wE_isi, wE_lc, wE_lck, eg, es, Option.some.injEq, exists_eq_left', Lit.val]
    refine call_use (great_ok (k := k) p1) ?_
    rintro _ S2 ⟨⟨g, rfl, hg, _⟩, p2, f2⟩
    exact ⟨.inl ⟨g, rfl, hg⟩, p2, f1.trans f2⟩
  · rw [if_neg (by simpa using hr)]
    simp only [s2_f_law_given, wSs, wS, wT, wEs, wO, wPs, wC, wSrc, wE_loc, wE_lit, wE_con, wE_bin, wE_neg, wE_cmp, wE_cmp2, wE_isN, wE_notN, wE_isB, wE_not, wE_and, wE_or, wE_ite, wE_tup, wE_lst, wE_dic, wE_call, wE_make, wE_meth, wE_fld, wE_sub, wE_slice, wE_bi, wE_vi, wE_bm, wE_isi, wE_lc, wE_lck, eg, es, Option.some.injEq, exists_eq_left', Lit.val]
    refine call_use (next_ok (k := k + 2) p1 (by decide) (by decide)) ?_
    rintro _ S2 ⟨⟨r2, rfl, a2, b2⟩, p2, f2, _⟩
    refine badd ⟨2 + r2, rfl, ⟨by omega, by omega⟩, ?_⟩
    refine lc_draw (Pv := Gn) (by omega) p2 (fun w S' hp => ?_) fun acc S' hal hacc p3 f3 => ?_
    · simp only [wSs, wS, wT, wEs, wO, wPs, wC, wSrc, wE_loc, wE_lit, wE_con, wE_bin, wE_neg, wE_cmp, wE_cmp2, wE_isN, wE_notN, wE_isB, wE_not, wE_and, wE_or, wE_ite, wE_tup, wE_lst, wE_dic, wE_call, wE_make, wE_meth, wE_fld, wE_sub, wE_slice, wE_bi, wE_vi, wE_bm, wE_isi, wE_lc, wE_lck, eg, es, Option.some.injEq, exists_eq_left', Lit.val, ewipe]
      refine call_use (great_ok (k := k) hp) ?_
      rintro _ S2 ⟨⟨g, rfl, hg, _⟩, p2, f2⟩
      exact ⟨⟨g, rfl, hg⟩, p2, f2⟩
    · simp only [biW]
      exact ⟨acc, lst_at get_new, .inr ⟨acc, rfl, by omega, by omega, hacc⟩, p3.app _, f1.trans (f2.trans (f3.trans (Fm.app _)))⟩
theorem givers_ok {k p lo : Nat} {S : Hm} (hlo : lo ≤ 1) (h : Sta p S) : callW P (k + 5) (.f "_law_givers") [.ref p, .int lo] S (fun v S' => Grs lo v ∧ Sta p S' ∧ Fm p S S') noX := by
  refine call_open (k := k + 4) fn_f_law_givers ⟨rfl, ?_⟩
  show wSs _ _ _ s3_f_law_givers _ _ [some (.ref p), some (.int lo), none, none] S
  simp only [s3_f_law_givers, wSs, wS, wT, wEs, wO, wPs, wC, wSrc, wE_loc, wE_lit, wE_con, wE_bin, wE_neg, wE_cmp, wE_cmp2, wE_isN, wE_notN, wE_isB, wE_not, wE_and, wE_or, wE_ite, wE_tup, wE_lst, wE_dic, wE_call, wE_make, wE_meth, wE_fld, wE_sub, wE_slice, wE_bi, wE_vi, wE_bm, wE_isi, wE_lc, wE_lck, eg, es, Option.some.injEq, exists_eq_left', Lit.val]
  have hlt := h.lt
  refine ⟨by rw [sizeLine_eq]; simp, bsub ?_⟩
  refine call_use (next_ok (k := k + 3) (h.app [.lst []]) (by omega) (by omega)) ?_
  rintro _ S1 ⟨⟨r, rfl, a, b⟩, p1, f1, _⟩
  have hne : S.length ≠ p := by omega
  refine badd ⟨lo + r, rfl, ⟨by omega, by omega⟩, ?_⟩
  refine for_inv (callW_mono P _) (fun i env S' => ∃ x3 gs, env = [some (.ref p), some (.int lo), some (.ref S.length), x3] ∧ S'[S.length]? = some (.lst gs) ∧ gs.length = i ∧ (∀ x ∈ gs, Gr x) ∧ Sta p S' ∧ Fm p S S') ?_ ?_ ⟨_, [], rfl, f1.get hne get_new, rfl, by simp, p1, (Fm.app _).trans f1⟩
  · rintro i v env S' hi ⟨x3, gs, rfl, c1, c2, c3, c4, c5⟩
    obtain ⟨hi, rfl⟩ := rng_get hi
    refine ⟨trivial, ?_⟩
    simp only [tgW, s1_f_law_givers, wSs, wS, wT, wEs, wO, wPs, wC, wSrc, wE_loc, wE_lit, wE_con, wE_bin, wE_neg, wE_cmp, wE_cmp2, wE_isN, wE_notN, wE_isB, wE_not, wE_and, wE_or, wE_ite, wE_tup, wE_lst, wE_dic, wE_call, wE_make, wE_meth, wE_fld, wE_sub, wE_slice, wE_bi, wE_vi, wE_bm, wE_isi, wE_lc, wE_lck, eg, es, Option.some.injEq, exists_eq_left', Lit.val, bmT]
    refine ⟨⟨_, _, rfl, lst_at c1⟩, ?_⟩
    refine call_use (great_ok (k := k + 1) c4) ?_
    rintro _ S2 ⟨⟨g, rfl, hg, _⟩, p2, f2⟩
    refine call_use (given_ok (k := k) p2) ?_
    rintro u S3 ⟨hu, p3, f3⟩
    have c1' := f3.get hne (f2.get hne c1)
    refine ⟨by rw [sizeLine_eq]; simp, ?_⟩
    simp only [bmW]
    refine ⟨gs, c1', by rw [sizeLine_eq]; omega, _, _, rfl, by rw [get_set, c1']; rfl, by simp [c2], fun x hx => ?_, p3.set hne, (c5.trans (f2.trans f3)).set (Nat.le_refl _)⟩
    rcases List.mem_append.mp hx with hx | hx
    · exact c3 x hx
    · exact ⟨g, u, by simpa using hx, hg, hu⟩
  · rintro env S' ⟨x3, gs, rfl, c1, c2, c3, c4, c5⟩
    rw [rangeL_len] at c2
    refine ⟨trivial, ?_⟩
    simp only [s2_f_law_givers, wSs, wS, wT, wEs, wO, wPs, wC, wSrc, wE_loc, wE_lit, wE_con, wE_bin, wE_neg, wE_cmp, wE_cmp2, wE_isN, wE_notN, wE_isB, wE_not, wE_and, wE_or, wE_ite, wE_tup, wE_lst, wE_dic, wE_call, wE_make, wE_meth, wE_fld, wE_sub, wE_slice, wE_bi, wE_vi, wE_bm, wE_isi, wE_lc, wE_lck, eg, es, Option.some.injEq, exists_eq_left', Lit.val, biW]
    exact ⟨gs, lst_at c1, ⟨gs, rfl, by omega, by omega, c3⟩, c4, c5⟩
theorem some_variables_ok {k p m : Nat} {S : Hm} (hm : m ≤ 5) (h : Sta p S) : callW P (k + 4) (.f "_law_some_variables") [.ref p, .int m] S (fun v S' => Vars m v ∧ Sta p S' ∧ Fm p S S') noX := by
  refine call_open (k := k + 3) fn_f_law_some_variables ⟨rfl, ?_⟩
  show wSs _ _ _ s1_f_law_some_variables _ _ [some (.ref p), some (.int m), none] S
  simp only [s1_f_law_some_variables, wSs, wS, wT, wEs, wO, wPs, wC, wSrc, wE_loc, wE_lit, wE_con, wE_bin, wE_neg, wE_cmp, wE_cmp2, wE_isN, wE_notN, wE_isB, wE_not, wE_and, wE_or, wE_ite, wE_tup, wE_lst, wE_dic, wE_call, wE_make, wE_meth, wE_fld, wE_sub, wE_slice, wE_bi, wE_vi, wE_bm, wE_isi, wE_lc, wE_lck, eg, es, Option.some.injEq, exists_eq_left', Lit.val]
  refine badd ?_
  refine call_use (next_ok (k := k + 2) h (by omega) (by omega)) ?_
  rintro _ S1 ⟨⟨r, rfl, a, b⟩, p1, f1, _⟩
  refine ⟨r, rfl, ⟨by omega, by omega⟩, ?_⟩
  refine lc_draw (Pv := fun x => ∃ w, x = .str ("?" ++ w) ∧ letters w = true) (by omega) p1 (fun w S' hp => ?_) fun acc S' hal hacc p3 f3 => ?_
  · simp only [wSs, wS, wT, wEs, wO, wPs, wC, wSrc, wE_loc, wE_lit, wE_con, wE_bin, wE_neg, wE_cmp, wE_cmp2, wE_isN, wE_notN, wE_isB, wE_not, wE_and, wE_or, wE_ite, wE_tup, wE_lst, wE_dic, wE_call, wE_make, wE_meth, wE_fld, wE_sub, wE_slice, wE_bi, wE_vi, wE_bm, wE_isi, wE_lc, wE_lck, eg, es, Option.some.injEq, exists_eq_left', Lit.val, ewipe]
    exact call_use (variable_ok (k := k) hp) fun _ _ h => h
  · simp only [biW]
    exact ⟨acc, lst_at get_new, ⟨acc, rfl, by omega, hacc⟩, p3.app _, f1.trans (f3.trans (Fm.app _))⟩
theorem some_kinds_ok {k p : Nat} {m : Int} {S : Hm} (h0 : 0 ≤ m) (hm : m ≤ 4) (h : Sta p S) : callW P (k + 9) (.f "_law_some_kinds") [.ref p, .int m] S (fun v S' => (∃ ks, v = .tup ks ∧ ks.length ≤ 4 ∧ ∀ x ∈ ks, Kd x) ∧ Sta p S' ∧ Fm p S S') noX := by
  refine call_open (k := k + 8) fn_f_law_some_kinds ⟨rfl, ?_⟩
  show wSs _ _ _ s1_f_law_some_kinds _ _ [some (.ref p), some (.int m), none] S
  simp only [s1_f_law_some_kinds, wSs, wS, wT, wEs, wO, wPs, wC, wSrc, wE_loc, wE_lit, wE_con, wE_bin, wE_neg, wE_cmp, wE_cmp2, wE_isN, wE_notN, wE_isB, wE_not, wE_and, wE_or, wE_ite, wE_tup, wE_lst, wE_dic, wE_call, wE_make, wE_meth, wE_fld, wE_sub, wE_slice, wE_bi, wE_vi, wE_bm, wE_isi, wE_lc, wE_lck, eg, es, Option.some.injEq, exists_eq_left', Lit.val]
  refine ⟨m, rfl, ⟨by omega, by omega⟩, ?_⟩
  refine lc_draw (Pv := Kd) (by omega) h (fun w S' hp => ?_) fun acc S' hal hacc p3 f3 => ?_
  · simp only [wSs, wS, wT, wEs, wO, wPs, wC, wSrc, wE_loc, wE_lit, wE_con, wE_bin, wE_neg, wE_cmp, wE_cmp2, wE_isN, wE_notN, wE_isB, wE_not, wE_and, wE_or, wE_ite, wE_tup, wE_lst, wE_dic, wE_call, wE_make, wE_meth, wE_fld, wE_sub, wE_slice, wE_bi, wE_vi, wE_bm, wE_isi, wE_lc, wE_lck, eg, es, Option.some.injEq, exists_eq_left', Lit.val, ewipe]
    exact call_use (kind_ok 2 k S' hp) fun _ _ h => h
  · simp only [biW]
    exact ⟨acc, lst_at get_new, ⟨acc, rfl, by omega, hacc⟩, p3.app _, f3.trans (Fm.app _)⟩
theorem sort_ok {k p : Nat} {S : Hm} (h : Sta p S) : callW P (k + 10) (.f "_law_sort") [.ref p] S (fun v S' => Dcl v ∧ Sta p S' ∧ Fm p S S') noX := by
  refine call_open (k := k + 9) fn_f_law_sort ⟨rfl, ?_⟩
  show wSs _ _ _ s6_f_law_sort _ _ [some (.ref p), none, none, none] S
  simp only [s6_f_law_sort, wSs, wS, wT, wEs, wO, wPs, wC, wSrc, wE_loc, wE_lit, wE_con, wE_bin, wE_neg, wE_cmp, wE_cmp2, wE_isN, wE_notN, wE_isB, wE_not, wE_and, wE_or, wE_ite, wE_tup, wE_lst, wE_dic, wE_call, wE_make, wE_meth, wE_fld, wE_sub, wE_slice, wE_bi, wE_vi, wE_bm, wE_isi, wE_lc, wE_lck, eg, es, Option.some.injEq, exists_eq_left', Lit.val]
  refine call_use (next_ok (k := k + 8) h (by decide) (by decide)) ?_
  rintro _ S1 ⟨⟨r, rfl, a, b⟩, p1, f1, _⟩
  simp only [cmpW, eqW_int, truth, Option.some.injEq, exists_eq_left']
  have hlt := p1.lt
  by_cases hr : r = 0
  · rw [if_pos (decide_eq_true hr)]
    simp only [s3_f_law_sort, wSs, wS, wT, wEs, wO, wPs, wC, wSrc, wE_loc, wE_lit, wE_con, wE_bin, wE_neg, wE_cmp, wE_cmp2, wE_isN, wE_notN, wE_isB, wE_not, wE_and, wE_or, wE_ite, wE_tup, wE_lst, wE_dic, wE_call, wE_make, wE_meth, wE_fld, wE_sub, wE_slice, wE_bi, wE_vi, wE_bm, wE_isi, wE_lc, wE_lck, eg, es, Option.some.injEq, exists_eq_left', Lit.val]
    refine ⟨by rw [sizeLine_eq]; simp, ?_⟩
    refine call_use (next_ok (k := k + 8) (p1.app [.lst []]) (by decide) (by decide)) ?_
    rintro _ S2 ⟨⟨r2, rfl, a2, b2⟩, p2, f2, _⟩
    have hne : S1.length ≠ p := by omega
    refine badd ⟨1 + r2, rfl, ⟨by omega, by omega⟩, ?_⟩
    refine for_inv (callW_mono P _) (fun i env S' => ∃ x3 gs, env = [some (.ref p), none, some (.ref S1.length), x3] ∧ S'[S1.length]? = some (.lst gs) ∧ gs.length = i ∧ (∀ x ∈ gs, Tag x) ∧ Sta p S' ∧ Fm p S1 S') ?_ ?_ ⟨_, [], rfl, f2.get hne get_new, rfl, by simp, p2, (Fm.app _).trans f2⟩
    · rintro i v env S' hi ⟨x3, gs, rfl, c1, c2, c3, c4, c5⟩
      obtain ⟨hi, rfl⟩ := rng_get hi
      refine ⟨trivial, ?_⟩
      simp only [tgW, s1_f_law_sort, wSs, wS, wT, wEs, wO, wPs, wC, wSrc, wE_loc, wE_lit, wE_con, wE_bin, wE_neg, wE_cmp, wE_cmp2, wE_isN, wE_notN, wE_isB, wE_not, wE_and, wE_or, wE_ite, wE_tup, wE_lst, wE_dic, wE_call, wE_make, wE_meth, wE_fld, wE_sub, wE_slice, wE_bi, wE_vi, wE_bm, wE_isi, wE_lc, wE_lck, eg, es, Option.some.injEq, exists_eq_left', Lit.val, bmT]
      refine ⟨⟨_, _, rfl, lst_at c1⟩, ?_⟩
      refine call_use (great_ok (k := k + 6) c4) ?_
      rintro _ S3 ⟨⟨g, rfl, hg, _⟩, p3, f3⟩
      refine ⟨by rw [sizeLine_eq]; simp, by rw [sizeLine_eq]; simp, ?_⟩
      simp only [cmpW, eqW_int, biW]
      refine pick get_new (by split <;> decide) (by split <;> decide) fun v hv => ?_
      obtain ⟨e, rfl, e0, e1⟩ : ∃ e : Int, v = .int e ∧ 0 < e ∧ e ≤ 5 := by
        simp only [List.mem_cons, List.not_mem_nil, or_false] at hv
        rcases hv with rfl | rfl <;> exact ⟨_, rfl, by decide, by decide⟩
      refine call_use (next_ok (k := k + 8) (p3.app _) e0 (by omega)) ?_
      rintro _ S4 ⟨⟨r4, rfl, a4, b4⟩, p4, f4, _⟩
      refine call_use (some_kinds_ok (k := k) a4 (by omega) p4) ?_
      rintro _ S5 ⟨⟨ks, rfl, hk1, hk2⟩, p5, f5⟩
      have fa := f3.trans ((Fm.app _).trans (f4.trans f5))
      have c1' := fa.get hne c1
      simp only [binW]
      refine ⟨by rw [sizeLine_eq]; simp; omega, ?_⟩
      simp only [bmW]
      refine ⟨gs, c1', by rw [sizeLine_eq]; omega, _, _, rfl, by rw [get_set, c1']; rfl, by simp [c2], fun x hx => ?_, p5.set hne, (c5.trans fa).set (Nat.le_refl _)⟩
      rcases List.mem_append.mp hx with hx | hx
      · exact c3 x hx
      · exact ⟨g, ks, by simpa using hx, hg, hk1, hk2⟩
    · rintro env S' ⟨x3, gs, rfl, c1, c2, c3, c4, c5⟩
      rw [rangeL_len] at c2
      refine ⟨trivial, ?_⟩
      simp only [s2_f_law_sort, wSs, wS, wT, wEs, wO, wPs, wC, wSrc, wE_loc, wE_lit, wE_con, wE_bin, wE_neg, wE_cmp, wE_cmp2, wE_isN, wE_notN, wE_isB, wE_not, wE_and, wE_or, wE_ite, wE_tup, wE_lst, wE_dic, wE_call, wE_make, wE_meth, wE_fld, wE_sub, wE_slice, wE_bi, wE_vi, wE_bm, wE_isi, wE_lc, wE_lck, eg, es, Option.some.injEq, exists_eq_left', Lit.val]
      refine call_use (small_ok (k := k + 6) c4) ?_
      rintro _ S3 ⟨⟨w, rfl, hw, _⟩, p3, f3⟩
      refine call_use (some_variables_ok (k := k + 5) (m := 3) (by decide) p3) ?_
      rintro us S4 ⟨hu, p4, f4⟩
      refine ⟨by rw [sizeLine_eq]; simp, ?_⟩
      simp only [biW, binW]
      refine ⟨gs, lst_at (f4.get hne (f3.get hne c1)), by rw [sizeLine_eq]; simp; omega, .kind (ts := gs) hw hu (by omega) (by omega) c3, p4, f1.trans (c5.trans (f3.trans f4))⟩
  · rw [if_neg (by simpa using hr)]
    simp only [s5_f_law_sort, wSs, wS, wT, wEs, wO, wPs, wC, wSrc, wE_loc, wE_lit, wE_con, wE_bin, wE_neg, wE_cmp, wE_cmp2, wE_isN, wE_notN, wE_isB, wE_not, wE_and, wE_or, wE_ite, wE_tup, wE_lst, wE_dic, wE_call, wE_make, wE_meth, wE_fld, wE_sub, wE_slice, wE_bi, wE_vi, wE_bm, wE_isi, wE_lc, wE_lck, eg, es, Option.some.injEq, exists_eq_left', Lit.val]
    refine call_use (next_ok (k := k + 8) p1 (by decide) (by decide)) ?_
    rintro _ S2 ⟨⟨r2, rfl, a2, b2⟩, p2, f2, _⟩
    refine badd ⟨1 + r2, rfl, ⟨by omega, by omega⟩, ?_⟩
    refine lc_draw (Pv := Fld) (by omega) p2 (fun w S' hp => ?_) fun acc S' hal hacc p3 f3 => ?_
    · simp only [wSs, wS, wT, wEs, wO, wPs, wC, wSrc, wE_loc, wE_lit, wE_con, wE_bin, wE_neg, wE_cmp, wE_cmp2, wE_isN, wE_notN, wE_isB, wE_not, wE_and, wE_or, wE_ite, wE_tup, wE_lst, wE_dic, wE_call, wE_make, wE_meth, wE_fld, wE_sub, wE_slice, wE_bi, wE_vi, wE_bm, wE_isi, wE_lc, wE_lck, eg, es, Option.some.injEq, exists_eq_left', Lit.val, ewipe]
      refine call_use (small_ok (k := k + 6) hp) ?_
      rintro _ S3 ⟨⟨w, rfl, hw, _⟩, p3, f3⟩
      refine call_use (kind_ok 2 (k + 1) S3 p3) ?_
      rintro u S4 ⟨hu, p4, f4⟩
      exact ⟨by rw [sizeLine_eq]; simp, ⟨w, u, rfl, hw, hu⟩, p4, f3.trans f4⟩
    · simp only [s4_f_law_sort, wSs, wS, wT, wEs, wO, wPs, wC, wSrc, wE_loc, wE_lit, wE_con, wE_bin, wE_neg, wE_cmp, wE_cmp2, wE_isN, wE_notN, wE_isB, wE_not, wE_and, wE_or, wE_ite, wE_tup, wE_lst, wE_dic, wE_call, wE_make, wE_meth, wE_fld, wE_sub, wE_slice, wE_bi, wE_vi, wE_bm, wE_isi, wE_lc, wE_lck, eg, es, Option.some.injEq, exists_eq_left', Lit.val]
      have hne : S'.length ≠ p := by have := p3.lt; omega
      refine call_use (small_ok (k := k + 6) (p3.app _)) ?_
      rintro _ S3 ⟨⟨w, rfl, hw, _⟩, p4, f4⟩
      refine call_use (some_variables_ok (k := k + 5) (m := 3) (by decide) p4) ?_
      rintro us S5 ⟨hu, p5, f5⟩
      refine ⟨by rw [sizeLine_eq]; simp, ?_⟩
      simp only [biW, binW]
      exact ⟨acc, lst_at (f5.get hne (f4.get hne get_new)), by rw [sizeLine_eq]; simp; omega, .record (ts := acc) hw hu (by omega) (by omega) hacc, p5, f1.trans (f2.trans (f3.trans ((Fm.app _).trans (f4.trans f5))))⟩
/-- [next 9, 24][int(next 9 == 0)] -/
theorem count_ok {k p : Nat} {env : Mi.Env} {S : Hm} {Q : Post} {X : XPost} (he : eg env 0 = some (.ref p)) (h : Sta p S) (hq : ∀ (n : Int) S', 0 ≤ n → n ≤ 24 → Sta p S' → Fm p S S' → Q (.int n) S') : wE P.con (callW P (k + 1)) X (.sub (.lst (.cons (.call "_law_next" (.cons (.loc 0) (.cons (.lit (.int 9)) .nil))) (.cons (.lit (.int 24)) .nil))) (.bi .int (.cons (.cmp .Eq (.call "_law_next" (.cons (.loc 0) (.cons (.lit (.int 9)) .nil))) (.lit (.int 0))) .nil))) env S Q := by
  simp only [wSs, wS, wT, wEs, wO, wPs, wC, wSrc, wE_loc, wE_lit, wE_con, wE_bin, wE_neg, wE_cmp, wE_cmp2, wE_isN, wE_notN, wE_isB, wE_not, wE_and, wE_or, wE_ite, wE_tup, wE_lst, wE_dic, wE_call, wE_make, wE_meth, wE_fld, wE_sub, wE_slice, wE_bi, wE_vi, wE_bm, wE_isi, wE_lc, wE_lck, eg, es, Option.some.injEq, exists_eq_left', Lit.val, he]
  refine call_use (next_ok (k := k) h (by decide) (by decide)) ?_
  rintro _ S1 ⟨⟨r, rfl, a, b⟩, p1, f1, _⟩
  refine ⟨by rw [sizeLine_eq]; simp, ?_⟩
  have hne : S1.length ≠ p := by have := p1.lt; omega
  refine call_use (next_ok (k := k) (p1.app _) (by decide) (by decide)) ?_
  rintro _ S2 ⟨⟨r2, rfl, a2, b2⟩, p2, f2, _⟩
  simp only [cmpW, eqW_int, biW]
  refine pick (f2.get hne get_new) (by split <;> decide) (by split <;> simp) fun v hv => ?_
  simp only [List.mem_cons, List.not_mem_nil, or_false] at hv
  rcases hv with rfl | rfl
  · exact hq _ _ a (by omega) p2 (f1.trans ((Fm.app _).trans f2))
  · exact hq _ _ (by decide) (by decide) p2 (f1.trans ((Fm.app _).trans f2))
theorem face_ok {k p : Nat} {S : Hm} (h : Sta p S) : callW P (k + 9) (.f "_law_face") [.ref p] S (fun v S' => Dcl v ∧ Sta p S' ∧ Fm p S S') noX := by
  refine call_open (k := k + 8) fn_f_law_face ⟨rfl, ?_⟩
  show wSs _ _ _ s5_f_law_face _ _ [some (.ref p), none, none] S
  simp only [s5_f_law_face, wSs, wS, wSrc, wE_lst, wEs, es]
  refine ⟨by rw [sizeLine_eq]; simp, ?_⟩
  have hlt := h.lt
  have hne : S.length ≠ p := by omega
  refine count_ok (k := k + 7) rfl (h.app _) fun n S1 n0 n1 p1 f1 => ⟨n, rfl, ⟨by omega, by omega⟩, ?_⟩
  refine for_inv (callW_mono P _) (fun i env S' => ∃ x3 gs, env = [some (.ref p), some (.ref S.length), x3] ∧ S'[S.length]? = some (.lst gs) ∧ gs.length = i ∧ (∀ x ∈ gs, Itm x) ∧ Sta p S' ∧ Fm p S S') ?_ ?_ ⟨_, [], rfl, f1.get hne get_new, rfl, by simp, p1, (Fm.app _).trans f1⟩
  · rintro i v env S' hi ⟨x3, gs, rfl, c1, c2, c3, c4, c5⟩
    obtain ⟨hi, rfl⟩ := rng_get hi
    refine ⟨trivial, ?_⟩
    have put : ∀ (u : Val) (S3 : Hm), Itm u → Sta p S3 → Fm p S' S3 → ∃ xs, S3[S.length]? = some (.lst xs) ∧ xs.length < sizeLine ∧ ∃ x3 gs, [some (Val.ref p), some (.ref S.length), some (.int (0 + i))] = [some (Val.ref p), some (.ref S.length), x3] ∧ (S3.set S.length (.lst (xs ++ [u])))[S.length]? = some (.lst gs) ∧ gs.length = i + 1 ∧ (∀ x ∈ gs, Itm x) ∧ Sta p (S3.set S.length (.lst (xs ++ [u]))) ∧ Fm p S (S3.set S.length (.lst (xs ++ [u]))) := by
      intro u S3 hu p3 f3
      have c1' := f3.get hne c1
      refine ⟨gs, c1', by rw [sizeLine_eq]; omega, _, _, rfl, by rw [get_set, c1']; rfl, by simp [c2], fun x hx => ?_, p3.set hne, (c5.trans f3).set (Nat.le_refl _)⟩
      rcases List.mem_append.mp hx with hx | hx
      · exact c3 x hx
      · have : x = u := by simpa using hx
        subst this; exact hu
    simp only [tgW, s3_f_law_face, wSs, wS, wT, wEs, wO, wPs, wC, wSrc, wE_loc, wE_lit, wE_con, wE_bin, wE_neg, wE_cmp, wE_cmp2, wE_isN, wE_notN, wE_isB, wE_not, wE_and, wE_or, wE_ite, wE_tup, wE_lst, wE_dic, wE_call, wE_make, wE_meth, wE_fld, wE_sub, wE_slice, wE_bi, wE_vi, wE_bm, wE_isi, wE_lc, wE_lck, eg, es, Option.some.injEq, exists_eq_left', Lit.val]
    refine call_use (next_ok (k := k + 7) c4 (by decide) (by decide)) ?_
    rintro _ S2 ⟨⟨r, rfl, a, b⟩, p2, f2, _⟩
    simp only [cmpW, eqW_int, truth, Option.some.injEq, exists_eq_left']
    by_cases hr : r = 0
    · rw [if_pos (decide_eq_true hr)]
      simp only [s1_f_law_face, wSs, wS, wT, wEs, wO, wPs, wC, wSrc, wE_loc, wE_lit, wE_con, wE_bin, wE_neg, wE_cmp, wE_cmp2, wE_isN, wE_notN, wE_isB, wE_not, wE_and, wE_or, wE_ite, wE_tup, wE_lst, wE_dic, wE_call, wE_make, wE_meth, wE_fld, wE_sub, wE_slice, wE_bi, wE_vi, wE_bm, wE_isi, wE_lc, wE_lck, eg, es, Option.some.injEq, exists_eq_left', Lit.val, bmT, bmW]
      refine ⟨⟨_, _, rfl, lst_at (f2.get hne c1)⟩, ?_⟩
      refine call_use (small_ok (k := k + 5) p2) ?_
      rintro _ S3 ⟨⟨w, rfl, hw, _⟩, p3, f3⟩
      refine call_use (next_ok (k := k + 7) p3 (by decide) (by decide)) ?_
      rintro _ S4 ⟨⟨r4, rfl, a4, b4⟩, p4, f4, _⟩
      exact ⟨by rw [sizeLine_eq]; simp, put _ _ (.inl ⟨w, r4, rfl, hw, a4, by omega⟩) p4 (f2.trans (f3.trans f4))⟩
    · rw [if_neg (by simpa using hr)]
      simp only [s2_f_law_face, wSs, wS, wT, wEs, wO, wPs, wC, wSrc, wE_loc, wE_lit, wE_con, wE_bin, wE_neg, wE_cmp, wE_cmp2, wE_isN, wE_notN, wE_isB, wE_not, wE_and, wE_or, wE_ite, wE_tup, wE_lst, wE_dic, wE_call, wE_make, wE_meth, wE_fld, wE_sub, wE_slice, wE_bi, wE_vi, wE_bm, wE_isi, wE_lc, wE_lck, eg, es, Option.some.injEq, exists_eq_left', Lit.val, bmT, bmW]
      refine ⟨⟨_, _, rfl, lst_at (f2.get hne c1)⟩, ?_⟩
      refine call_use (small_ok (k := k + 5) p2) ?_
      rintro _ S3 ⟨⟨w, rfl, hw, _⟩, p3, f3⟩
      refine call_use (kind_ok 2 k S3 p3) ?_
      rintro u S4 ⟨hu, p4, f4⟩
      exact ⟨by rw [sizeLine_eq]; simp, put _ _ (.inr ⟨w, u, rfl, hw, hu⟩) p4 (f2.trans (f3.trans f4))⟩
  · rintro env S' ⟨x3, gs, rfl, c1, c2, c3, c4, c5⟩
    rw [rangeL_len] at c2
    refine ⟨trivial, ?_⟩
    simp only [s4_f_law_face, wSs, wS, wT, wEs, wO, wPs, wC, wSrc, wE_loc, wE_lit, wE_con, wE_bin, wE_neg, wE_cmp, wE_cmp2, wE_isN, wE_notN, wE_isB, wE_not, wE_and, wE_or, wE_ite, wE_tup, wE_lst, wE_dic, wE_call, wE_make, wE_meth, wE_fld, wE_sub, wE_slice, wE_bi, wE_vi, wE_bm, wE_isi, wE_lc, wE_lck, eg, es, Option.some.injEq, exists_eq_left', Lit.val]
    refine call_use (great_ok (k := k + 5) c4) ?_
    rintro _ S3 ⟨⟨g, rfl, hg, _⟩, p3, f3⟩
    refine call_use (givers_ok (k := k + 3) (lo := 0) (by decide) p3) ?_
    rintro us S4 ⟨hu, p4, f4⟩
    refine ⟨by rw [sizeLine_eq]; simp, ?_⟩
    simp only [biW, binW]
    exact ⟨gs, lst_at (f4.get hne (f3.get hne c1)), by rw [sizeLine_eq]; simp; omega, .face (ts := gs) hg hu (by omega) c3, p4, c5.trans (f3.trans f4)⟩
end K08

set_option maxHeartbeats 1000000
namespace K08
open Mi PySem
/-! ### a program drawn -/
theorem body_ok {k p q : Nat} (hpq : p ≠ q) {S : Hm} (h : Sta p S) (hl : Lf q S) : callW P (k + 20) (.f "_law_body") [.ref p, .ref q] S (fun v S' => (∃ rs, v = .tup rs ∧ rs.length ≤ 24 ∧ ∀ x ∈ rs, Brow x) ∧ Sta p S' ∧ Lf q S' ∧ F2 p q S S') noX := by
  refine call_open (k := k + 19) fn_f_law_body ⟨rfl, ?_⟩
  show wSs _ _ _ s5_f_law_body _ _ [some (.ref p), some (.ref q), none, none] S
  simp only [s5_f_law_body, wSs, wS, wSrc, wE_lst, wEs, es]
  refine ⟨by rw [sizeLine_eq]; simp, ?_⟩
  have hlt := h.lt
  have hlq := hl.lt
  have hne : S.length ≠ p := by omega
  have hnq : S.length ≠ q := by omega
  refine count_ok (k := k + 18) rfl (h.app _) fun n S1 n0 n1 p1 f1 => ⟨n, rfl, ⟨by omega, by omega⟩, ?_⟩
  refine for_inv (callW_mono P _) (fun i env S' => ∃ x3 gs, env = [some (.ref p), some (.ref q), some (.ref S.length), x3] ∧ S'[S.length]? = some (.lst gs) ∧ gs.length = i ∧ (∀ x ∈ gs, Brow x) ∧ Sta p S' ∧ Lf q S' ∧ F2 p q S S') ?_ ?_ ⟨_, [], rfl, f1.get hne get_new, rfl, by simp, p1, (hl.app _).fm f1 hpq, (F2.app _).trans (.of f1)⟩
  · rintro i v env S' hi ⟨x3, gs, rfl, c1, c2, c3, c4, cq, c5⟩
    obtain ⟨hi, rfl⟩ := rng_get hi
    refine ⟨trivial, ?_⟩
    have put : ∀ (u : Val) (S3 : Hm), Brow u → Sta p S3 → Lf q S3 → F2 p q S' S3 → ∃ xs, S3[S.length]? = some (.lst xs) ∧ xs.length < sizeLine ∧ ∃ x3 gs, [some (Val.ref p), some (.ref q), some (.ref S.length), some (.int (0 + i))] = [some (Val.ref p), some (.ref q), some (.ref S.length), x3] ∧ (S3.set S.length (.lst (xs ++ [u])))[S.length]? = some (.lst gs) ∧ gs.length = i + 1 ∧ (∀ x ∈ gs, Brow x) ∧ Sta p (S3.set S.length (.lst (xs ++ [u]))) ∧ Lf q (S3.set S.length (.lst (xs ++ [u]))) ∧ F2 p q S (S3.set S.length (.lst (xs ++ [u]))) := by
      intro u S3 hu p3 q3 f3
      have c1' := f3.get hne hnq c1
      refine ⟨gs, c1', by rw [sizeLine_eq]; omega, _, _, rfl, by rw [get_set, c1']; rfl, by simp [c2], fun x hx => ?_, p3.set hne, q3.set hnq, (c5.trans f3).set (Nat.le_refl _)⟩
      rcases List.mem_append.mp hx with hx | hx
      · exact c3 x hx
      · have : x = u := by simpa using hx
        subst this; exact hu
    simp only [tgW, s3_f_law_body, wSs, wS, wT, wEs, wO, wPs, wC, wSrc, wE_loc, wE_lit, wE_con, wE_bin, wE_neg, wE_cmp, wE_cmp2, wE_isN, wE_notN, wE_isB, wE_not, wE_and, wE_or, wE_ite, wE_tup, wE_lst, wE_dic, wE_call, wE_make, wE_meth, wE_fld, wE_sub, wE_slice, wE_bi, wE_vi, wE_bm, wE_isi, wE_lc, wE_lck, eg, es, Option.some.injEq, exists_eq_left', Lit.val]
    refine call_use (next_ok (k := k + 18) c4 (by decide) (by decide)) ?_
    rintro _ S2 ⟨⟨r, rfl, a, b⟩, p2, f2, _⟩
    have q2 := cq.fm f2 hpq
    simp only [cmpW, eqW_int, truth, Option.some.injEq, exists_eq_left']
    by_cases hr : r = 0
    · rw [if_pos (decide_eq_true hr)]
      simp only [s1_f_law_body, wSs, wS, wT, wEs, wO, wPs, wC, wSrc, wE_loc, wE_lit, wE_con, wE_bin, wE_neg, wE_cmp, wE_cmp2, wE_isN, wE_notN, wE_isB, wE_not, wE_and, wE_or, wE_ite, wE_tup, wE_lst, wE_dic, wE_call, wE_make, wE_meth, wE_fld, wE_sub, wE_slice, wE_bi, wE_vi, wE_bm, wE_isi, wE_lc, wE_lck, eg, es, Option.some.injEq, exists_eq_left', Lit.val, bmT, bmW]
      refine ⟨⟨_, _, rfl, lst_at (f2.get hne c1)⟩, ?_⟩
      refine call_use (small_ok (k := k + 16) p2) ?_
      rintro _ S3 ⟨⟨w, rfl, hw, _⟩, p3, f3⟩
      refine call_use (some_variables_ok (k := k + 15) (m := 2) (by decide) p3) ?_
      rintro us S4 ⟨hu, p4, f4⟩
      refine call_use (kind_ok 2 (k + 11) S4 p4) ?_
      rintro u S5 ⟨hk, p5, f5⟩
      exact ⟨by rw [sizeLine_eq]; simp, put _ _ (.inl ⟨w, us, u, rfl, hw, hu, hk⟩) p5 (((q2.fm f3 hpq).fm f4 hpq).fm f5 hpq) (.of (f2.trans (f3.trans (f4.trans f5))))⟩
    · rw [if_neg (by simpa using hr)]
      simp only [s2_f_law_body, wSs, wS, wT, wEs, wO, wPs, wC, wSrc, wE_loc, wE_lit, wE_con, wE_bin, wE_neg, wE_cmp, wE_cmp2, wE_isN, wE_notN, wE_isB, wE_not, wE_and, wE_or, wE_ite, wE_tup, wE_lst, wE_dic, wE_call, wE_make, wE_meth, wE_fld, wE_sub, wE_slice, wE_bi, wE_vi, wE_bm, wE_isi, wE_lc, wE_lck, eg, es, Option.some.injEq, exists_eq_left', Lit.val, bmT, bmW]
      refine ⟨⟨_, _, rfl, lst_at (f2.get hne c1)⟩, ?_⟩
      refine call_use (small_ok (k := k + 16) p2) ?_
      rintro _ S3 ⟨⟨w, rfl, hw, _⟩, p3, f3⟩
      refine call_use (phrase_ok hpq 3 (k + 19) (by omega) S3 p3 (q2.fm f3 hpq)) ?_
      rintro u S4 ⟨hu, p4, q4, f4⟩
      exact ⟨by rw [sizeLine_eq]; simp, put _ _ (.inr ⟨w, u, rfl, hw, hu⟩) p4 q4 ((F2.of (f2.trans f3)).trans f4)⟩
  · rintro env S' ⟨x3, gs, rfl, c1, c2, c3, c4, cq, c5⟩
    rw [rangeL_len] at c2
    refine ⟨trivial, ?_⟩
    simp only [s4_f_law_body, wSs, wS, wT, wEs, wO, wPs, wC, wSrc, wE_loc, wE_lit, wE_con, wE_bin, wE_neg, wE_cmp, wE_cmp2, wE_isN, wE_notN, wE_isB, wE_not, wE_and, wE_or, wE_ite, wE_tup, wE_lst, wE_dic, wE_call, wE_make, wE_meth, wE_fld, wE_sub, wE_slice, wE_bi, wE_vi, wE_bm, wE_isi, wE_lc, wE_lck, eg, es, Option.some.injEq, exists_eq_left', Lit.val, biW]
    exact ⟨gs, lst_at c1, ⟨gs, rfl, by omega, c3⟩, c4, cq, c5⟩
theorem declared_ok {k p q : Nat} (hpq : p ≠ q) {S : Hm} (h : Sta p S) (hl : Lf q S) : callW P (k + 21) (.f "_law_declared") [.ref p, .ref q] S (fun v S' => Dcl v ∧ Sta p S' ∧ Lf q S' ∧ F2 p q S S') noX := by
  refine call_open (k := k + 20) fn_f_law_declared ⟨rfl, ?_⟩
  show wSs _ _ _ s11_f_law_declared _ _ [some (.ref p), some (.ref q), none, none, none] S
  simp only [s11_f_law_declared, wSs, wS, wT, wEs, wO, wPs, wC, wSrc, wE_loc, wE_lit, wE_con, wE_bin, wE_neg, wE_cmp, wE_cmp2, wE_isN, wE_notN, wE_isB, wE_not, wE_and, wE_or, wE_ite, wE_tup, wE_lst, wE_dic, wE_call, wE_make, wE_meth, wE_fld, wE_sub, wE_slice, wE_bi, wE_vi, wE_bm, wE_isi, wE_lc, wE_lck, eg, es, Option.some.injEq, exists_eq_left', Lit.val]
  refine call_use (next_ok (k := k + 19) h (by decide) (by decide)) ?_
  rintro _ S1 ⟨⟨r, rfl, a, b⟩, p1, f1, _⟩
  have q1 := hl.fm f1 hpq
  simp only [s10_f_law_declared, wSs, wS, wT, wEs, wO, wPs, wC, wSrc, wE_loc, wE_lit, wE_con, wE_bin, wE_neg, wE_cmp, wE_cmp2, wE_isN, wE_notN, wE_isB, wE_not, wE_and, wE_or, wE_ite, wE_tup, wE_lst, wE_dic, wE_call, wE_make, wE_meth, wE_fld, wE_sub, wE_slice, wE_bi, wE_vi, wE_bm, wE_isi, wE_lc, wE_lck, eg, es, Option.some.injEq, exists_eq_left', Lit.val, cmpW, eqW_int, truth, Option.some.injEq, exists_eq_left']
  by_cases h2 : r < 2
  · rw [if_pos (decide_eq_true h2)]
    simp only [s1_f_law_declared, wSs, wS, wT, wEs, wO, wPs, wC, wSrc, wE_loc, wE_lit, wE_con, wE_bin, wE_neg, wE_cmp, wE_cmp2, wE_isN, wE_notN, wE_isB, wE_not, wE_and, wE_or, wE_ite, wE_tup, wE_lst, wE_dic, wE_call, wE_make, wE_meth, wE_fld, wE_sub, wE_slice, wE_bi, wE_vi, wE_bm, wE_isi, wE_lc, wE_lck, eg, es, Option.some.injEq, exists_eq_left', Lit.val]
    refine call_use (sort_ok (k := k + 10) p1) ?_
    rintro v S2 ⟨g, p2, f2⟩
    exact ⟨g, p2, q1.fm f2 hpq, .of (f1.trans f2)⟩
  rw [if_neg (by simpa using h2)]
  simp only [s9_f_law_declared, wSs, wS, wT, wEs, wO, wPs, wC, wSrc, wE_loc, wE_lit, wE_con, wE_bin, wE_neg, wE_cmp, wE_cmp2, wE_isN, wE_notN, wE_isB, wE_not, wE_and, wE_or, wE_ite, wE_tup, wE_lst, wE_dic, wE_call, wE_make, wE_meth, wE_fld, wE_sub, wE_slice, wE_bi, wE_vi, wE_bm, wE_isi, wE_lc, wE_lck, eg, es, Option.some.injEq, exists_eq_left', Lit.val, cmpW, eqW_int, truth, Option.some.injEq, exists_eq_left']
  by_cases h3 : r = 2
  · rw [if_pos (decide_eq_true h3)]
    simp only [s2_f_law_declared, wSs, wS, wT, wEs, wO, wPs, wC, wSrc, wE_loc, wE_lit, wE_con, wE_bin, wE_neg, wE_cmp, wE_cmp2, wE_isN, wE_notN, wE_isB, wE_not, wE_and, wE_or, wE_ite, wE_tup, wE_lst, wE_dic, wE_call, wE_make, wE_meth, wE_fld, wE_sub, wE_slice, wE_bi, wE_vi, wE_bm, wE_isi, wE_lc, wE_lck, eg, es, Option.some.injEq, exists_eq_left', Lit.val]
    refine call_use (face_ok (k := k + 11) p1) ?_
    rintro v S2 ⟨g, p2, f2⟩
    exact ⟨g, p2, q1.fm f2 hpq, .of (f1.trans f2)⟩
  rw [if_neg (by simpa using h3)]
  simp only [s8_f_law_declared, wSs, wS, wT, wEs, wO, wPs, wC, wSrc, wE_loc, wE_lit, wE_con, wE_bin, wE_neg, wE_cmp, wE_cmp2, wE_isN, wE_notN, wE_isB, wE_not, wE_and, wE_or, wE_ite, wE_tup, wE_lst, wE_dic, wE_call, wE_make, wE_meth, wE_fld, wE_sub, wE_slice, wE_bi, wE_vi, wE_bm, wE_isi, wE_lc, wE_lck, eg, es, Option.some.injEq, exists_eq_left', Lit.val, cmpW, eqW_int, truth, Option.some.injEq, exists_eq_left']
  by_cases h4 : r = 3
  · rw [if_pos (decide_eq_true h4)]
    simp only [s3_f_law_declared, wSs, wS, wT, wEs, wO, wPs, wC, wSrc, wE_loc, wE_lit, wE_con, wE_bin, wE_neg, wE_cmp, wE_cmp2, wE_isN, wE_notN, wE_isB, wE_not, wE_and, wE_or, wE_ite, wE_tup, wE_lst, wE_dic, wE_call, wE_make, wE_meth, wE_fld, wE_sub, wE_slice, wE_bi, wE_vi, wE_bm, wE_isi, wE_lc, wE_lck, eg, es, Option.some.injEq, exists_eq_left', Lit.val]
    refine call_use (great_ok (k := k + 17) p1) ?_
    rintro _ S2 ⟨⟨g, rfl, hg, _⟩, p2, f2⟩
    refine call_use (given_ok (k := k + 16) p2) ?_
    rintro u S3 ⟨hu, p3, f3⟩
    refine ⟨by rw [sizeLine_eq]; simp, ?_⟩
    have f13 := f1.trans (f2.trans f3)
    refine call_use (body_ok (k := k) hpq p3 (hl.fm f13 hpq)) ?_
    rintro _ S4 ⟨⟨rs, rfl, r1, r2⟩, p4, q4, f4⟩
    simp only [binW]
    exact ⟨by rw [sizeLine_eq]; simp; omega, .part (ts := rs) hg hu (by omega) r2, p4, q4, (F2.of f13).trans f4⟩
  rw [if_neg (by simpa using h4)]
  simp only [s7_f_law_declared, wSs, wS, wT, wEs, wO, wPs, wC, wSrc, wE_loc, wE_lit, wE_con, wE_bin, wE_neg, wE_cmp, wE_cmp2, wE_isN, wE_notN, wE_isB, wE_not, wE_and, wE_or, wE_ite, wE_tup, wE_lst, wE_dic, wE_call, wE_make, wE_meth, wE_fld, wE_sub, wE_slice, wE_bi, wE_vi, wE_bm, wE_isi, wE_lc, wE_lck, eg, es, Option.some.injEq, exists_eq_left', Lit.val, cmpW, eqW_int, truth, Option.some.injEq, exists_eq_left']
  by_cases h5 : r = 4
  · rw [if_pos (decide_eq_true h5)]
    simp only [s4_f_law_declared, wSs, wS, wT, wEs, wO, wPs, wC, wSrc, wE_loc, wE_lit, wE_con, wE_bin, wE_neg, wE_cmp, wE_cmp2, wE_isN, wE_notN, wE_isB, wE_not, wE_and, wE_or, wE_ite, wE_tup, wE_lst, wE_dic, wE_call, wE_make, wE_meth, wE_fld, wE_sub, wE_slice, wE_bi, wE_vi, wE_bm, wE_isi, wE_lc, wE_lck, eg, es, Option.some.injEq, exists_eq_left', Lit.val]
    refine call_use (great_ok (k := k + 17) p1) ?_
    rintro _ S2 ⟨⟨g, rfl, hg, _⟩, p2, f2⟩
    refine call_use (givers_ok (k := k + 15) (lo := 1) (by decide) p2) ?_
    rintro us S3 ⟨hus, p3, f3⟩
    refine call_use (given_ok (k := k + 16) p3) ?_
    rintro u S4 ⟨hu, p4, f4⟩
    refine ⟨by rw [sizeLine_eq]; simp, ?_⟩
    have f14 := f1.trans (f2.trans (f3.trans f4))
    refine call_use (body_ok (k := k) hpq p4 (hl.fm f14 hpq)) ?_
    rintro _ S5 ⟨⟨rs, rfl, r1, r2⟩, p5, q5, f5⟩
    simp only [binW]
    exact ⟨by rw [sizeLine_eq]; simp; omega, .maker (ts := rs) hg hus hu (by omega) r2, p5, q5, (F2.of f14).trans f5⟩
  rw [if_neg (by simpa using h5)]
  simp only [s6_f_law_declared, wSs, wS, wT, wEs, wO, wPs, wC, wSrc, wE_loc, wE_lit, wE_con, wE_bin, wE_neg, wE_cmp, wE_cmp2, wE_isN, wE_notN, wE_isB, wE_not, wE_and, wE_or, wE_ite, wE_tup, wE_lst, wE_dic, wE_call, wE_make, wE_meth, wE_fld, wE_sub, wE_slice, wE_bi, wE_vi, wE_bm, wE_isi, wE_lc, wE_lck, eg, es, Option.some.injEq, exists_eq_left', Lit.val]
  refine call_use (next_ok (k := k + 19) p1 (by decide) (by decide)) ?_
  rintro _ S2 ⟨⟨r2, rfl, a2, b2⟩, p2, f2, _⟩
  refine badd ⟨3 + r2, rfl, ⟨by omega, by omega⟩, ?_⟩
  refine lc_draw (Pv := Gn) (by omega) p2 (fun w S' hp => ?_) fun acc S' hal hacc p3 f3 => ?_
  · simp only [wSs, wS, wT, wEs, wO, wPs, wC, wSrc, wE_loc, wE_lit, wE_con, wE_bin, wE_neg, wE_cmp, wE_cmp2, wE_isN, wE_notN, wE_isB, wE_not, wE_and, wE_or, wE_ite, wE_tup, wE_lst, wE_dic, wE_call, wE_make, wE_meth, wE_fld, wE_sub, wE_slice, wE_bi, wE_vi, wE_bm, wE_isi, wE_lc, wE_lck, eg, es, Option.some.injEq, exists_eq_left', Lit.val, ewipe]
    refine call_use (great_ok (k := k + 17) hp) ?_
    rintro _ S2 ⟨⟨g, rfl, hg, _⟩, p2, f2⟩
    exact ⟨⟨g, rfl, hg⟩, p2, f2⟩
  · simp only [biW, s5_f_law_declared, wSs, wS, wT, wEs, wO, wPs, wC, wSrc, wE_loc, wE_lit, wE_con, wE_bin, wE_neg, wE_cmp, wE_cmp2, wE_isN, wE_notN, wE_isB, wE_not, wE_and, wE_or, wE_ite, wE_tup, wE_lst, wE_dic, wE_call, wE_make, wE_meth, wE_fld, wE_sub, wE_slice, wE_bi, wE_vi, wE_bm, wE_isi, wE_lc, wE_lck, eg, es, Option.some.injEq, exists_eq_left', Lit.val]
    refine ⟨acc, lst_at get_new, by rw [sizeLine_eq]; simp, ?_⟩
    simp only [binW]
    have f4 := f1.trans (f2.trans (f3.trans (Fm.app [Ob.lst acc])))
    exact ⟨by rw [sizeLine_eq]; simp; omega, .apply (gs := acc) (by omega) (by omega) hacc, p3.app _, hl.fm f4 hpq, .of f4⟩
/-! ### the text's length -/
theorem ThL.split : ∀ {a b : List Val} {ps : List String} {w n : Nat}, ThL (a ++ b) ps w n → ∃ p1 p2 w1 w2 n1 n2, ThL a p1 w1 n1 ∧ ThL b p2 w2 n2 ∧ ps = p1 ++ p2 ∧ w = w1 + w2 ∧ n1 ≤ n ∧ n2 ≤ n
  | [], b, ps, w, n, h => ⟨[], ps, 0, w, 0, n, .nil, h, rfl, by omega, by omega, by omega⟩
  | x :: a, b, ps, w, n, h => by
    generalize e : x :: a ++ b = l at h
    cases h with
    | nil => simp at e
    | atom h r =>
      simp only [List.cons_append, List.cons.injEq] at e
      obtain ⟨rfl, rfl⟩ := e
      obtain ⟨p1, p2, w1, w2, n1, n2, t1, t2, e1, e2, e3, e4⟩ := r.split
      exact ⟨_, p2, _, w2, n1, n2, .atom h t1, t2, by rw [e1]; rfl, by omega, e3, e4⟩
    | tup h r =>
      simp only [List.cons_append, List.cons.injEq] at e
      obtain ⟨rfl, rfl⟩ := e
      obtain ⟨p1, p2, w1, w2, n1, n2, t1, t2, e1, e2, e3, e4⟩ := r.split
      exact ⟨_, p2, _, w2, _, n2, .tup h t1, t2, by rw [e1]; simp, by omega, by omega, by omega⟩
theorem Wd.put {a b : List Val} {v : Val} {W W2 D : Nat} (h : Wd (a ++ b) W D) (h2 : Wd [v] W2 D) : Wd (a ++ [v] ++ b) (W + W2) D := by
  obtain ⟨ps, w, n, t, hw, hn⟩ := h
  obtain ⟨p1, p2, w1, w2, n1, n2, t1, t2, e1, e2, e3, e4⟩ := t.split
  exact ((Wd.app ⟨_, _, _, t1, Nat.le_refl _, by omega⟩ h2).app ⟨_, _, _, t2, Nat.le_refl _, by omega⟩).le (by omega) (Nat.le_refl _)
def jn : List String → String
  | [] => ""
  | [x] => x
  | x :: y :: r => x ++ " " ++ jn (y :: r)
theorem jn_ok : ∀ ys : List String, Txt.join (Str.ofString " ") (ys.map Str.ofString) = Str.ofString (jn ys) := by
  have key : ∀ ys : List String, Str.join (Str.ofString " ") (ys.map Str.ofString) = Str.ofString (jn ys) := by
    intro ys
    induction ys with
    | nil => rfl
    | cons x r ih =>
      cases r with
      | nil => rfl
      | cons y r =>
        rw [jn, ofString_append, ofString_append, ← ih]
        rfl
  intro ys
  rw [← key]
  exact StrLaws.glued_eq_join _ _
def ln (ps : List String) : Nat := (ps.map fun s => s.length + 1).sum
theorem ln_app {a b : List String} : ln (a ++ b) = ln a + ln b := by unfold ln; rw [List.map_append, List.sum_append]
theorem jn_len : ∀ {ys : List String}, ys ≠ [] → (jn ys).length + 1 = ln ys
  | [x], _ => by simp [jn, ln]
  | x :: y :: r, _ => by
    have := jn_len (ys := y :: r) (by simp)
    rw [jn, String.length_append, String.length_append, show " ".length = 1 from rfl]
    unfold ln at this ⊢
    rw [List.map_cons, List.sum_cons]
    omega
theorem ThL.ln {vs : List Val} {ps : List String} {w n : Nat} (h : ThL vs ps w n) : K08.ln ps ≤ w ∧ w ≤ 34 * ps.length := by
  induction h with
  | nil => exact ⟨Nat.le_refl _, Nat.le_refl _⟩
  | @atom v s vs ps w n h r ih =>
    have := h.len
    unfold K08.ln at ih ⊢
    rw [List.map_cons, List.sum_cons, List.length_cons]
    omega
  | @tup us vs qs ps w1 n1 w2 n2 a r iha ihr =>
    unfold K08.ln at iha ihr ⊢
    rw [List.map_cons, List.sum_cons, List.map_append, List.sum_append, List.map_cons, List.sum_cons, List.length_cons, List.length_append, List.length_cons, show "(".length = 1 from rfl, show ")".length = 1 from rfl]
    omega
theorem wt_ln {ps : List String} (h : PcOk ps) : (ps.map wt).sum ≤ 2 * ln ps ∧ ps.length ≤ ln ps := by
  unfold ln
  induction ps with
  | nil => simp
  | cons s r ih =>
    have ih' := ih fun x hx => h x (List.mem_cons_of_mem _ hx)
    have hs : 1 ≤ s.length := by
      rcases h s List.mem_cons_self with hp | ⟨hr, _⟩
      · rcases hp with rfl | rfl <;> decide
      · have := hr.1
        rw [← String.length_toList]
        exact List.length_pos_iff.mpr this
    rw [List.map_cons, List.sum_cons, List.map_cons, List.sum_cons, List.length_cons]
    unfold wt
    unfold wt at ih'
    omega
/-- its text's length is asked -/
theorem text_len {k n w : Nat} {vs : List Val} {ps : List String} {env : Mi.Env} {S : Hm} {Q : Post} {X : XPost} (t : ThL vs ps w n) (hw : w ≤ 9900000) (hn : n ≤ 30) (hk : 32 ≤ k) (he : eg env 0 = some (.tup vs)) (hq : ∀ S', Fz S S' → Q (.bl (decide ((ln ps : Int) + 3 > 2900))) S') : wE P.con (callW P k) X (.cmp .Gt (.bi .len (.cons (.bm .join (.lit (.str " ")) (.cons (.call "_law_pieces" (.cons (.loc 0) .nil)) .nil)) .nil)) (.lit (.int 2900))) env S Q := by
  have tt : ThL [.tup vs] ("(" :: (ps ++ [")"])) (6 + w + 0) (max (n + 1) 0) := .tup t .nil
  obtain ⟨pss, e1, e2, e3⟩ := pieces_all tt (by omega)
  have hp1 : pss = [("(" :: (ps ++ [")"]))] := by
    cases pss with
    | nil => simp at e2
    | cons a r =>
      cases r with
      | nil => simp at e1; rw [e1]
      | cons b r => simp at e2
  have hl := t.ln.1
  have hlen : ln ("(" :: (ps ++ [")"])) = ln ps + 4 := by
    rw [show "(" :: (ps ++ [")"]) = ["("] ++ (ps ++ [")"]) from rfl, ln_app, ln_app]
    rw [show ln ["("] = 2 from rfl, show ln [")"] = 2 from rfl]
    omega
  have hj := jn_len (ys := "(" :: (ps ++ [")"])) (by simp)
  rw [hlen] at hj
  simp only [wSs, wS, wT, wEs, wO, wPs, wC, wSrc, wE_loc, wE_lit, wE_con, wE_bin, wE_neg, wE_cmp, wE_cmp2, wE_isN, wE_notN, wE_isB, wE_not, wE_and, wE_or, wE_ite, wE_tup, wE_lst, wE_dic, wE_call, wE_make, wE_meth, wE_fld, wE_sub, wE_slice, wE_bi, wE_vi, wE_bm, wE_isi, wE_lc, wE_lck, eg, es, Option.some.injEq, exists_eq_left', Lit.val, he, bmT, bmW, biW, cmpW]
  refine ⟨⟨_, rfl⟩, ?_⟩
  refine call_use (e3 0 (.tup vs) ("(" :: (ps ++ [")"])) rfl (by rw [hp1]; rfl) k (by omega) S) ?_
  rintro _ S2 ⟨t2, rfl, g1, g2, g3⟩
  refine ⟨_, jn ("(" :: (ps ++ [")"])), lst_at g2, jn_ok _, ?_, by rw [sizeLine_eq]; omega, ?_⟩
  · have : ((("(" :: (ps ++ [")"])).map String.length).sum + ("(" :: (ps ++ [")"])).length * 1) = ln ("(" :: (ps ++ [")"])) := by
      unfold ln
      generalize "(" :: (ps ++ [")"]) = l
      induction l with
      | nil => rfl
      | cons a r ih => rw [List.map_cons, List.sum_cons, List.map_cons, List.sum_cons, List.length_cons]; omega
    rw [show " ".length = 1 from rfl, this, hlen]
    omega
  · have : ((jn ("(" :: (ps ++ [")"]))).length : Int) = (ln ps : Int) + 3 := by omega
    rw [this]
    exact hq S2 g3
def Fit (v : Val) : Prop := ∃ vs ps w n, v = .tup vs ∧ Prog vs ∧ ThL vs ps w n ∧ n ≤ 20 ∧ ln ps + 3 ≤ 2900
theorem main7 : Mn (.tup [.str "main", .int 7]) := ⟨_, rfl, (gd_int (d := 12) (n := 7) (by decide)).le (Nat.le_refl _) (by decide)⟩
theorem fitted_ok {k n w : Nat} {vs : List Val} {ps : List String} {S : Hm} (hP : Prog vs) (t : ThL vs ps w n) (hw : w ≤ 9900000) (hn : n ≤ 20) (hk : 33 ≤ k) : callW P k (.f "_law_fitted") [.tup vs] S (fun v S' => Fit v ∧ Fz S S') noX := by
  obtain ⟨k, rfl⟩ : ∃ j, k = j + 1 := ⟨k - 1, by omega⟩
  refine call_open (k := k) fn_f_law_fitted ⟨rfl, ?_⟩
  show wSs _ _ _ s5_f_law_fitted _ _ [some (.tup vs)] S
  simp only [s5_f_law_fitted, wSs, wS]
  refine while_inv (callW_mono P _) (fun m env S' => ∃ vs ps w n, env = [some (.tup vs)] ∧ vs.length = m ∧ Prog vs ∧ ThL vs ps w n ∧ w ≤ 9900000 ∧ n ≤ 20 ∧ Fz S S') ?_ (n := vs.length) ⟨vs, ps, w, n, rfl, rfl, hP, t, hw, hn, Fz.refl _⟩
  rintro m env S1 ⟨vs, ps, w, n, rfl, rfl, hP, t, hw, hn, f1⟩
  have fin : ∀ S2, Fz S S2 → wSs P.con P.sub (callW P k) s4_f_law_fitted (fun c x S' => noX c S') { nx := fun _ S' => Fit .non ∧ Fz S S', rt := fun v S' => Fit v ∧ Fz S S' } [some (.tup vs)] S2 := by
    intro S2 f2
    simp only [s4_f_law_fitted, wSs, wS, wT]
    refine text_len t hw (by omega) (by omega) rfl fun S3 f3 => ?_
    refine ⟨_, rfl, ?_⟩
    by_cases hb : (ln ps : Int) + 3 > 2900
    · rw [if_pos (decide_eq_true hb)]
      simp only [s2_f_law_fitted, wSs, wS, wT, wEs, wO, wPs, wC, wSrc, wE_loc, wE_lit, wE_con, wE_bin, wE_neg, wE_cmp, wE_cmp2, wE_isN, wE_notN, wE_isB, wE_not, wE_and, wE_or, wE_ite, wE_tup, wE_lst, wE_dic, wE_call, wE_make, wE_meth, wE_fld, wE_sub, wE_slice, wE_bi, wE_vi, wE_bm, wE_isi, wE_lc, wE_lck, eg, es, Option.some.injEq, exists_eq_left', Lit.val]
      refine ⟨by rw [sizeLine_eq]; simp, by rw [sizeLine_eq]; simp, ⟨_, _, _, _, rfl, ⟨[], _, rfl, by simp, main7, by simp⟩, .tup (.atom (.word (.letters (by decide +kernel))) (.atom (.num (by decide)) .nil)) .nil, by decide, ?_⟩, f2.trans f3⟩
      decide +kernel
    · rw [if_neg (by rw [decide_eq_true_eq]; exact hb)]
      simp only [s3_f_law_fitted, wSs, wS, wT, wEs, wO, wPs, wC, wSrc, wE_loc, wE_lit, wE_con, wE_bin, wE_neg, wE_cmp, wE_cmp2, wE_isN, wE_notN, wE_isB, wE_not, wE_and, wE_or, wE_ite, wE_tup, wE_lst, wE_dic, wE_call, wE_make, wE_meth, wE_fld, wE_sub, wE_slice, wE_bi, wE_vi, wE_bm, wE_isi, wE_lc, wE_lck, eg, es, Option.some.injEq, exists_eq_left', Lit.val]
      exact ⟨⟨vs, ps, w, n, rfl, hP, t, hn, by omega⟩, f2.trans f3⟩
  simp only [wT]
  simp only [wE_cmp, wE_bi, wEs, wE_loc, wE_lit, eg, Option.some.injEq, exists_eq_left', Lit.val, lenT, cmpW]
  refine ⟨_, rfl, ?_⟩
  by_cases h1 : 1 < vs.length
  · rw [if_pos (decide_eq_true (by omega))]
    have := text_len (k := k) (env := [some (.tup vs)]) (X := fun c => noX c) (S := S1) (Q := fun x S1_1 => ∃ b, truth x S1_1 = some b ∧ if b = true then wSs P.con P.sub (callW P k) s1_f_law_fitted (fun c x S' => noX c S') (lp (fun e S_1 => ∃ m, m < vs.length ∧ ∃ vs ps w n, e = [some (.tup vs)] ∧ vs.length = m ∧ Prog vs ∧ ThL vs ps w n ∧ w ≤ 9900000 ∧ n ≤ 20 ∧ Fz S S_1) { nx := fun env' S' => wSs P.con P.sub (callW P k) s4_f_law_fitted (fun c x S' => noX c S') { nx := fun _ S' => Fit .non ∧ Fz S S', rt := fun v S' => Fit v ∧ Fz S S' } env' S', rt := fun v S' => Fit v ∧ Fz S S' }) [some (.tup vs)] S1_1 else wSs P.con P.sub (callW P k) s4_f_law_fitted (fun c x S' => noX c S') { nx := fun _ S' => Fit .non ∧ Fz S S', rt := fun v S' => Fit v ∧ Fz S S' } [some (.tup vs)] S1_1) t hw (by omega) (by omega) rfl fun S3 f3 => ?_
    · simp only [wE_cmp, wE_bi, wEs, wE_loc, wE_lit, eg, Option.some.injEq, exists_eq_left', Lit.val, cmpW] at this
      exact this
    · refine ⟨_, rfl, ?_⟩
      by_cases hb : (ln ps : Int) + 3 > 2900
      · rw [if_pos (decide_eq_true hb)]
        simp only [s1_f_law_fitted, wSs, wS, wT, wEs, wO, wPs, wC, wSrc, wE_loc, wE_lit, wE_con, wE_bin, wE_neg, wE_cmp, wE_cmp2, wE_isN, wE_notN, wE_isB, wE_not, wE_and, wE_or, wE_ite, wE_tup, wE_lst, wE_dic, wE_call, wE_make, wE_meth, wE_fld, wE_sub, wE_slice, wE_bi, wE_vi, wE_bm, wE_isi, wE_lc, wE_lck, eg, es, Option.some.injEq, exists_eq_left', Lit.val, sliceW]
        refine ⟨1, rfl, vs.length - 1, by omega, ?_⟩
        obtain ⟨ds, m, rfl, hd, hm, hdl⟩ := hP
        cases ds with
        | nil => simp at h1
        | cons d ds =>
          rw [show cut (d :: ds ++ [m]) (some 1) none = ds ++ [m] from cut_from (i := 1)]
          obtain ⟨p1, p2, w1, w2, n1, n2, t1, t2, e1, e2, e3, e4⟩ := ThL.split (a := [d]) (b := ds ++ [m]) t
          exact ⟨_, p2, w2, n2, rfl, by simp, ⟨ds, m, rfl, fun x hx => hd x (List.mem_cons_of_mem _ hx), hm, by simp at hdl; omega⟩, t2, by omega, by omega, f1.trans f3⟩
      · rw [if_neg (by rw [decide_eq_true_eq]; exact hb)]
        exact fin S3 (f1.trans f3)
  · rw [if_neg (by rw [decide_eq_true_eq]; omega), if_neg (by decide)]
    exact fin S1 f1
end K08

set_option maxHeartbeats 1000000
namespace K08
open Mi PySem
theorem atom_shown {k : Nat} {v : Val} {s : String} {S : Hm} (h : Atm v s) : callW P (k + 1) (.f "pieces_shown") [v] S (pcQ [s] S) noX := by
  refine call_open fn_f_pieces_shown ⟨rfl, ?_⟩
  show wSs _ _ _ s5_f_pieces_shown _ _ [some v, none, none] S
  cases h with
  | @num i h =>
    simp only [s5_f_pieces_shown, wSs, wS, wT, wEs, wO, wPs, wC, wSrc, wE_loc, wE_lit, wE_con, wE_bin, wE_neg, wE_cmp, wE_cmp2, wE_isN, wE_notN, wE_isB, wE_not, wE_and, wE_or, wE_ite, wE_tup, wE_lst, wE_dic, wE_call, wE_make, wE_meth, wE_fld, wE_sub, wE_slice, wE_bi, wE_vi, wE_bm, wE_isi, wE_lc, wE_lck, eg, es, Option.some.injEq, exists_eq_left', Lit.val, isTy, List.mapM_cons, List.mapM_nil]
    refine ⟨_, rfl, _, rfl, ?_⟩
    rw [if_pos (by rfl)]
    simp only [s1_f_pieces_shown, wSs, wS, wT, wEs, wO, wPs, wC, wSrc, wE_loc, wE_lit, wE_con, wE_bin, wE_neg, wE_cmp, wE_cmp2, wE_isN, wE_notN, wE_isB, wE_not, wE_and, wE_or, wE_ite, wE_tup, wE_lst, wE_dic, wE_call, wE_make, wE_meth, wE_fld, wE_sub, wE_slice, wE_bi, wE_vi, wE_bm, wE_isi, wE_lc, wE_lck, eg, es, Option.some.injEq, exists_eq_left', Lit.val, biW]
    refine ⟨?_, by rw [sizeLine_eq]; simp, S.length, rfl, Nat.le_refl _, get_new, Fz.app _⟩
    have : i.natAbs < 2 ^ (100 + 1) := Nat.lt_trans h (by decide)
    have := log_le this
    omega
  | word h =>
    simp only [s5_f_pieces_shown, wSs, wS, wT, wEs, wO, wPs, wC, wSrc, wE_loc, wE_lit, wE_con, wE_bin, wE_neg, wE_cmp, wE_cmp2, wE_isN, wE_notN, wE_isB, wE_not, wE_and, wE_or, wE_ite, wE_tup, wE_lst, wE_dic, wE_call, wE_make, wE_meth, wE_fld, wE_sub, wE_slice, wE_bi, wE_vi, wE_bm, wE_isi, wE_lc, wE_lck, eg, es, Option.some.injEq, exists_eq_left', Lit.val, isTy, List.mapM_cons, List.mapM_nil]
    refine ⟨_, rfl, _, rfl, ?_⟩
    rw [if_pos (by rfl)]
    simp only [s1_f_pieces_shown, wSs, wS, wT, wEs, wO, wPs, wC, wSrc, wE_loc, wE_lit, wE_con, wE_bin, wE_neg, wE_cmp, wE_cmp2, wE_isN, wE_notN, wE_isB, wE_not, wE_and, wE_or, wE_ite, wE_tup, wE_lst, wE_dic, wE_call, wE_make, wE_meth, wE_fld, wE_sub, wE_slice, wE_bi, wE_vi, wE_bm, wE_isi, wE_lc, wE_lck, eg, es, Option.some.injEq, exists_eq_left', Lit.val, biW]
    exact ⟨by rw [sizeLine_eq]; simp, S.length, rfl, Nat.le_refl _, get_new, Fz.app _⟩
theorem shown_all {vs : List Val} {ps : List String} {w n : Nat} (h : ThL vs ps w n) : w ≤ 10 ^ 7 → ∃ pss : List (List String), ps = pss.flatten ∧ pss.length = vs.length ∧ ∀ (i : Nat) (v : Val) (qs : List String), vs[i]? = some v → pss[i]? = some qs → ∀ k, n + 1 ≤ k → ∀ S, callW P k (.f "pieces_shown") [v] S (pcQ qs S) noX := by
  induction h with
  | nil => exact fun _ => ⟨[], rfl, rfl, fun i v qs hv => by simp at hv⟩
  | @atom v s vs ps w n h r ih =>
    intro hw
    obtain ⟨pss, e1, e2, e3⟩ := ih (by omega)
    refine ⟨[s] :: pss, by rw [e1]; rfl, by simp [e2], ?_⟩
    intro i v2 qs hv hq k hk S
    cases i with
    | zero =>
      cases hv; cases hq
      obtain ⟨j, rfl⟩ : ∃ j, k = j + 1 := ⟨k - 1, by omega⟩
      exact atom_shown h
    | succ i => exact e3 i v2 qs hv hq k hk S
  | @tup us vs qs ps w1 n1 w2 n2 a r iha ihr =>
    intro hw
    obtain ⟨pss, e1, e2, e3⟩ := ihr (by omega)
    obtain ⟨rss, d1, d2, d3⟩ := iha (by omega)
    have la := a.len
    refine ⟨("(" :: (qs ++ [")"])) :: pss, by rw [e1]; simp, by simp [e2], ?_⟩
    intro i v2 qs2 hv hq k hk S
    cases i with
    | succ i => exact e3 i v2 qs2 hv hq k (by omega) S
    | zero =>
      cases hv; cases hq
      obtain ⟨j, rfl⟩ : ∃ j, k = j + 1 := ⟨k - 1, by omega⟩
      refine call_open (k := j) fn_f_pieces_shown ⟨rfl, ?_⟩
      show wSs _ _ _ s5_f_pieces_shown _ _ [some (.tup us), none, none] S
      simp only [s5_f_pieces_shown, wSs, wS, wT, wEs, wO, wPs, wC, wSrc, wE_loc, wE_lit, wE_con, wE_bin, wE_neg, wE_cmp, wE_cmp2, wE_isN, wE_notN, wE_isB, wE_not, wE_and, wE_or, wE_ite, wE_tup, wE_lst, wE_dic, wE_call, wE_make, wE_meth, wE_fld, wE_sub, wE_slice, wE_bi, wE_vi, wE_bm, wE_isi, wE_lc, wE_lck, eg, es, Option.some.injEq, exists_eq_left', Lit.val, isTy, List.mapM_cons, List.mapM_nil]
      refine ⟨_, rfl, _, rfl, ?_⟩
      rw [if_neg (by decide)]
      simp only [s4_f_pieces_shown, wSs, wS, wT, wEs, wO, wPs, wC, wSrc, wE_loc, wE_lit, wE_con, wE_bin, wE_neg, wE_cmp, wE_cmp2, wE_isN, wE_notN, wE_isB, wE_not, wE_and, wE_or, wE_ite, wE_tup, wE_lst, wE_dic, wE_call, wE_make, wE_meth, wE_fld, wE_sub, wE_slice, wE_bi, wE_vi, wE_bm, wE_isi, wE_lc, wE_lck, eg, es, Option.some.injEq, exists_eq_left', Lit.val, seqOf]
      refine ⟨by rw [sizeLine_eq]; simp, ?_⟩
      refine for_inv (callW_mono P _) (fun i env S' => ∃ x2, env = [some (.tup us), some (.ref S.length), x2] ∧ S'[S.length]? = some (.lst (("(" :: (rss.take i).flatten).map .str)) ∧ Fz S S') ?_ ?_ ⟨_, rfl, get_new, Fz.app _⟩
      · rintro i v env S' hi ⟨x2, rfl, c1, c2⟩
        have hlt : i < rss.length := by rw [d2]; exact lt_get hi
        have hr : rss[i]? = some rss[i] := List.getElem?_eq_getElem hlt
        refine ⟨trivial, ?_⟩
        simp only [tgW, s2_f_pieces_shown, wSs, wS, wT, wEs, wO, wPs, wC, wSrc, wE_loc, wE_lit, wE_con, wE_bin, wE_neg, wE_cmp, wE_cmp2, wE_isN, wE_notN, wE_isB, wE_not, wE_and, wE_or, wE_ite, wE_tup, wE_lst, wE_dic, wE_call, wE_make, wE_meth, wE_fld, wE_sub, wE_slice, wE_bi, wE_vi, wE_bm, wE_isi, wE_lc, wE_lck, eg, es, Option.some.injEq, exists_eq_left', Lit.val, bmT, bmW]
        refine ⟨⟨_, _, rfl, lst_at c1⟩, ?_⟩
        refine call_use (d3 i v _ hi hr j (by omega) S') ?_
        rintro _ S2 ⟨t, rfl, g1, g2, g3⟩
        have hb : (rss.take (i + 1)).flatten.length ≤ qs.length := by
          rw [d1]
          have : (rss.take (i + 1)).flatten ++ (rss.drop (i + 1)).flatten = rss.flatten := by rw [← List.flatten_append, List.take_append_drop]
          rw [← this, List.length_append]
          omega
        rw [List.take_add_one, hr, Option.toList_some, List.flatten_append, List.length_append] at hb
        simp only [List.flatten_cons, List.flatten_nil, List.append_nil] at hb
        refine ⟨_, _, g3.get c1, g2, by rw [sizeLine_eq]; simp only [List.length_map, List.length_cons]; omega, _, rfl, ?_, (c2.trans g3).set (Nat.le_refl _)⟩
        have hf : (rss.take (i + 1)).flatten = (rss.take i).flatten ++ rss[i] := by
          rw [List.take_add_one, hr, Option.toList_some, List.flatten_append]
          simp only [List.flatten_cons, List.flatten_nil, List.append_nil]
        rw [get_set, g3.get c1, hf]
        simp only [Option.map_some, List.map_cons, List.map_append, List.cons_append]
      · rintro env S' ⟨x2, rfl, c1, c2⟩
        rw [← d2, List.take_length, ← d1] at c1
        refine ⟨trivial, ?_⟩
        simp only [s3_f_pieces_shown, wSs, wS, wT, wEs, wO, wPs, wC, wSrc, wE_loc, wE_lit, wE_con, wE_bin, wE_neg, wE_cmp, wE_cmp2, wE_isN, wE_notN, wE_isB, wE_not, wE_and, wE_or, wE_ite, wE_tup, wE_lst, wE_dic, wE_call, wE_make, wE_meth, wE_fld, wE_sub, wE_slice, wE_bi, wE_vi, wE_bm, wE_isi, wE_lc, wE_lck, eg, es, Option.some.injEq, exists_eq_left', Lit.val, binW]
        refine ⟨by rw [sizeLine_eq]; simp, _, _, get_app c1, get_new, by rw [sizeLine_eq]; simp; omega, _, rfl, by simp; have := c2.1; omega, ?_, c2.trans ((Fz.app _).trans (Fz.app _))⟩
        rw [get_new]
        simp
/-! ### the text that is shown -/
def shw1 (st : String × String) (s : String) : String × String := ((if ¬ par st.2 ∧ ¬ par s then st.1 ++ " " else st.1) ++ s, s)
def shw (ps : List String) : String × String := ps.foldl shw1 ("", "(")
theorem shw_app {ps : List String} {s : String} : shw (ps ++ [s]) = shw1 (shw ps) s := by unfold shw; rw [List.foldl_append]; rfl
theorem sum_take {ps : List String} {i : Nat} {s : String} (h : ps[i]? = some s) : ((ps.take (i + 1)).map wt).sum = ((ps.take i).map wt).sum + wt s := by
  rw [List.take_add_one, h, List.map_append, List.sum_append]; simp
theorem shw_ok {ps : List String} (hok : PcOk ps) : ∀ i, i ≤ ps.length → Std (ps.take i) (shw (ps.take i)).2 (shw (ps.take i)).1 ∧ (shw (ps.take i)).1.length ≤ ((ps.take i).map wt).sum
  | 0, _ => ⟨⟨rfl, fun _ => rfl⟩, by simp [shw]⟩
  | i + 1, hi => by
    obtain ⟨h1, h2⟩ := shw_ok hok i (by omega)
    have hs : ps[i]? = some ps[i] := List.getElem?_eq_getElem (by omega)
    rw [sum_take hs]
    rw [List.take_add_one, hs, Option.toList_some, shw_app]
    generalize shw (ps.take i) = st at *
    have hmem := hok ps[i] (List.getElem_mem _)
    generalize ps[i] = s at *
    obtain ⟨x, ahead⟩ := st
    have hl : s.length + 1 ≤ wt s := by unfold wt; omega
    have hm := hmem.imp id And.left
    simp only [shw1]
    simp only at h1 h2
    by_cases hc : ¬ par ahead ∧ ¬ par s
    · rw [if_pos hc]
      refine ⟨?_, by rw [String.length_append, String.length_append, show " ".length = 1 from rfl]; omega⟩
      rw [String.append_assoc]
      exact std_step h1 hm (blank_sing ' ' (by decide)) fun _ _ => by decide
    · rw [if_neg hc]
      refine ⟨?_, by rw [String.length_append]; omega⟩
      have := std_step (g := "") h1 hm (by simp [blanks]) fun a b => absurd ⟨a, b⟩ hc
      rwa [String.empty_append] at this
theorem shown_ok {k n w : Nat} {v : Val} {ps : List String} {S : Hm} (t : ThL [v] ps w n) (hw : w ≤ 10 ^ 7) (hsum : (ps.map wt).sum ≤ 6000) (hk : n + 1 ≤ k) : callW P (k + 1) (.f "shown") [v] S (fun r S' => r = .str (shw ps).1 ∧ Fz S S') noX := by
  obtain ⟨pss, e1, e2, e3⟩ := shown_all t (by omega)
  have hok := t.ok
  have hp1 : pss = [ps] := by
    cases pss with
    | nil => simp at e2
    | cons a r =>
      cases r with
      | nil => simp at e1; rw [e1]
      | cons b r => simp at e2
  refine call_open (k := k) fn_f_shown ⟨rfl, ?_⟩
  show wSs _ _ _ s5_f_shown _ _ [some v, none, none, none] S
  simp only [s5_f_shown, s4_f_shown, wSs, wS, wT, wEs, wO, wPs, wC, wSrc, wE_loc, wE_lit, wE_con, wE_bin, wE_neg, wE_cmp, wE_cmp2, wE_isN, wE_notN, wE_isB, wE_not, wE_and, wE_or, wE_ite, wE_tup, wE_lst, wE_dic, wE_call, wE_make, wE_meth, wE_fld, wE_sub, wE_slice, wE_bi, wE_vi, wE_bm, wE_isi, wE_lc, wE_lck, eg, es, Option.some.injEq, exists_eq_left', Lit.val]
  refine call_use (e3 0 v ps rfl (by rw [hp1]; rfl) k hk S) ?_
  rintro _ S1 ⟨t1, rfl, g1, g2, g3⟩
  simp only [seqOf]
  refine ⟨_, lst_at g2, ?_⟩
  refine for_inv (callW_mono P _) (fun i env S' => ∃ x3, env = [some v, some (.str (shw (ps.take i)).1), some (.str (shw (ps.take i)).2), x3] ∧ S' = S1) ?_ ?_ ⟨_, rfl, rfl⟩
  · rintro i v2 env S' hi ⟨x3, rfl, rfl⟩
    rw [List.getElem?_map] at hi
    obtain ⟨s, hs, rfl⟩ := Option.map_eq_some_iff.mp hi
    have hil := lt_get hs
    refine ⟨lst_at g2, ?_⟩
    obtain ⟨_, hlen⟩ := shw_ok hok i (by omega)
    have hsum2 : ((ps.take (i + 1)).map wt).sum ≤ (ps.map wt).sum := by
      have : (ps.map wt).sum = ((ps.take (i + 1)).map wt).sum + ((ps.drop (i + 1)).map wt).sum := by rw [← List.sum_append, ← List.map_append, List.take_append_drop]
      omega
    rw [sum_take hs] at hsum2
    have hsl : s.length ≤ 31 := by
      rcases hok s (List.mem_of_getElem? hs) with hp | ⟨_, h⟩
      · rcases hp with rfl | rfl <;> decide
      · exact h
    rw [List.take_add_one, hs, Option.toList_some, shw_app]
    generalize shw (ps.take i) = st at *
    obtain ⟨x, ahead⟩ := st
    simp only at hlen
    simp only [tgW, s3_f_shown, wSs, wS, wT, wEs, wO, wPs, wC, wSrc, wE_loc, wE_lit, wE_con, wE_bin, wE_neg, wE_cmp, wE_cmp2, wE_isN, wE_notN, wE_isB, wE_not, wE_and, wE_or, wE_ite, wE_tup, wE_lst, wE_dic, wE_call, wE_make, wE_meth, wE_fld, wE_sub, wE_slice, wE_bi, wE_vi, wE_bm, wE_isi, wE_lc, wE_lck, eg, es, Option.some.injEq, exists_eq_left', Lit.val]
    have tail : ∀ y : String, y.length ≤ 10 ^ 4 → y ++ s = (shw1 (x, ahead) s).1 → wSs P.con P.sub (callW P k) s2_f_shown (fun c x S' => noX c S') (lp (fun env S'' => ∃ x3, env = [some v, some (.str (shw1 (x, ahead) s).1), some (.str (shw1 (x, ahead) s).2), x3] ∧ S'' = S') { nx := fun env' S' => wSs P.con P.sub (callW P k) s4_f_shown (fun c x S' => noX c S') { nx := fun _ S' => Val.non = .str (shw ps).1 ∧ Fz S S', rt := fun r S' => r = .str (shw ps).1 ∧ Fz S S' } env' S', rt := fun r S' => r = .str (shw ps).1 ∧ Fz S S' }) [some v, some (.str y), some (.str ahead), some (.str s)] S' := by
      intro y hy e
      simp only [s2_f_shown, wSs, wS, wT, wEs, wO, wPs, wC, wSrc, wE_loc, wE_lit, wE_con, wE_bin, wE_neg, wE_cmp, wE_cmp2, wE_isN, wE_notN, wE_isB, wE_not, wE_and, wE_or, wE_ite, wE_tup, wE_lst, wE_dic, wE_call, wE_make, wE_meth, wE_fld, wE_sub, wE_slice, wE_bi, wE_vi, wE_bm, wE_isi, wE_lc, wE_lck, eg, es, Option.some.injEq, exists_eq_left', Lit.val, ibinW]
      exact ⟨by rw [sizeLine_eq]; omega, _, by rw [e]; rfl, trivial⟩
    refine ⟨by rw [sizeLine_eq]; simp, notin_par ⟨_, rfl, ?_⟩⟩
    by_cases hpa : par ahead
    · rw [if_neg (by simpa using hpa), if_neg (by decide)]
      exact tail x (by omega) (by simp [shw1, hpa])
    · rw [if_pos (by simpa using hpa)]
      refine ⟨by rw [sizeLine_eq]; simp, notin_par ⟨_, rfl, ?_⟩⟩
      by_cases hps : par s
      · rw [if_neg (by simpa using hps)]
        exact tail x (by omega) (by simp [shw1, hps])
      · rw [if_pos (by simpa using hps)]
        simp only [s1_f_shown, wSs, wS, wT, wEs, wO, wPs, wC, wSrc, wE_loc, wE_lit, wE_con, wE_bin, wE_neg, wE_cmp, wE_cmp2, wE_isN, wE_notN, wE_isB, wE_not, wE_and, wE_or, wE_ite, wE_tup, wE_lst, wE_dic, wE_call, wE_make, wE_meth, wE_fld, wE_sub, wE_slice, wE_bi, wE_vi, wE_bm, wE_isi, wE_lc, wE_lck, eg, es, Option.some.injEq, exists_eq_left', Lit.val, ibinW]
        exact ⟨by rw [sizeLine_eq, show " ".length = 1 from rfl]; omega, tail (x ++ " ") (by rw [String.length_append, show " ".length = 1 from rfl]; omega) (by simp [shw1, hpa, hps])⟩
  · rintro env S' ⟨x3, rfl, rfl⟩
    rw [List.length_map, List.take_length]
    refine ⟨lst_at g2, ?_⟩
    simp only [s4_f_shown, wSs, wS, wT, wEs, wO, wPs, wC, wSrc, wE_loc, wE_lit, wE_con, wE_bin, wE_neg, wE_cmp, wE_cmp2, wE_isN, wE_notN, wE_isB, wE_not, wE_and, wE_or, wE_ite, wE_tup, wE_lst, wE_dic, wE_call, wE_make, wE_meth, wE_fld, wE_sub, wE_slice, wE_bi, wE_vi, wE_bm, wE_isi, wE_lc, wE_lck, eg, es, Option.some.injEq, exists_eq_left', Lit.val]
    exact ⟨trivial, g3⟩
/-! ### a whole program shown -/
theorem ThL.parts {vs : List Val} {ps : List String} {w n : Nat} (h : ThL vs ps w n) : ∃ pss : List (List String), ps = pss.flatten ∧ pss.length = vs.length ∧ ∀ (i : Nat) (v : Val) (qs : List String), vs[i]? = some v → pss[i]? = some qs → ∃ w' n', ThL [v] qs w' n' ∧ w' ≤ w ∧ n' ≤ n := by
  induction h with
  | nil => exact ⟨[], rfl, rfl, fun i v qs hv => by simp at hv⟩
  | @atom v s vs ps w n h r ih =>
    obtain ⟨pss, e1, e2, e3⟩ := ih
    refine ⟨[s] :: pss, by rw [e1]; rfl, by simp [e2], ?_⟩
    intro i v2 qs hv hq
    cases i with
    | zero => cases hv; cases hq; exact ⟨_, _, .atom h .nil, by omega, by omega⟩
    | succ i =>
      obtain ⟨a, b, c, d, e⟩ := e3 i v2 qs hv hq
      exact ⟨a, b, c, by omega, by omega⟩
  | @tup us vs qs ps w1 n1 w2 n2 a r iha ihr =>
    obtain ⟨pss, e1, e2, e3⟩ := ihr
    refine ⟨("(" :: (qs ++ [")"])) :: pss, by rw [e1]; simp, by simp [e2], ?_⟩
    intro i v2 qs2 hv hq
    cases i with
    | zero => cases hv; cases hq; exact ⟨_, _, .tup a .nil, by omega, by omega⟩
    | succ i =>
      obtain ⟨a, b, c, d, e⟩ := e3 i v2 qs2 hv hq
      exact ⟨a, b, c, by omega, by omega⟩
theorem scan1_pre {d : List String} {st : List String × String} {c : Char} : scan1 (d ++ st.1, st.2) c = (d ++ (scan1 st c).1, (scan1 st c).2) := by
  unfold scan1 fl
  split <;> simp [List.append_assoc]
theorem scan_pre : ∀ (l : List Char) (d : List String) (st : List String × String), scan (d ++ st.1, st.2) l = (d ++ (scan st l).1, (scan st l).2)
  | [], _, _ => rfl
  | c :: l, d, st => by
    show scan (scan1 (d ++ st.1, st.2) c) l = _
    rw [scan1_pre, scan_pre l d (scan1 st c)]
    rfl
def cat : List String → String
  | [] => ""
  | x :: r => x ++ cat r
theorem cat_ok : ∀ ys : List String, Txt.join (Str.ofString "") (ys.map Str.ofString) = Str.ofString (cat ys) := by
  have key : ∀ ys : List String, Str.join (Str.ofString "") (ys.map Str.ofString) = Str.ofString (cat ys) := by
    intro ys
    induction ys with
    | nil => rfl
    | cons x r ih =>
      cases r with
      | nil =>
        show Str.ofString x = Str.ofString (x ++ "")
        rw [String.append_empty]
      | cons y r =>
        rw [cat, ofString_append, ← ih]
        show Str.ofString x ++ Str.ofString "" ++ Str.join (Str.ofString "") (List.map Str.ofString (y :: r)) = _
        rw [← ofString_append, String.append_empty]
  intro ys
  rw [← key]
  exact StrLaws.glued_eq_join _ _
/-- a shown tuple: its scan ends with no run -/
theorem shw_tup {us : List Val} {qs : List String} {w n : Nat} (t : ThL [.tup us] qs w n) : scan ([], "") (shw qs).1.toList = (qs, "") ∧ (shw qs).1.length ≤ (qs.map wt).sum := by
  obtain ⟨⟨h1, h2⟩, h3⟩ := shw_ok t.ok qs.length (Nat.le_refl _)
  rw [List.take_length] at h1 h2 h3
  have hp : (shw qs).2 = ")" := by
    generalize e : [Val.tup us] = l at t
    cases t with
    | nil => cases e
    | atom h r =>
      cases e
      cases h
    | @tup us' vs q p w1 n1 w2 n2 a r =>
      cases e
      cases r
      have : "(" :: (q ++ [")"]) = ("(" :: q) ++ [")"] := rfl
      rw [this, shw_app]
      rfl
  have h4 := h2 (by rw [hp]; exact .inr rfl)
  refine ⟨?_, h3⟩
  generalize scan ([], "") (shw qs).1.toList = st at *
  obtain ⟨d, r⟩ := st
  have : r = "" := h4
  subst this
  rw [fl_nil] at h1
  rw [h1]
theorem cat_scan : ∀ {pss : List (List String)}, (∀ qs ∈ pss, scan ([], "") (shw qs).1.toList = (qs, "") ∧ (shw qs).1.length ≤ (qs.map wt).sum) → ∀ d, scan (d, "") (cat (pss.map fun qs => (shw qs).1)).toList = (d ++ pss.flatten, "") ∧ (cat (pss.map fun qs => (shw qs).1)).length ≤ (pss.flatten.map wt).sum
  | [], _, d => ⟨by simp [cat, scan], by simp [cat]⟩
  | qs :: pss, h, d => by
    obtain ⟨h1, h2⟩ := h qs List.mem_cons_self
    have ih := cat_scan fun x hx => h x (List.mem_cons_of_mem _ hx)
    rw [List.map_cons, cat, String.toList_append, scan_app]
    have := scan_pre (shw qs).1.toList d ([], "")
    rw [h1] at this
    simp only [List.append_nil] at this
    rw [this]
    refine ⟨by rw [(ih _).1]; simp, ?_⟩
    rw [String.length_append, List.flatten_cons, List.map_append, List.sum_append]
    have := (ih d).2
    omega
theorem sum_flat {pss : List (List String)} {qs : List String} (h : qs ∈ pss) : (qs.map wt).sum ≤ (pss.flatten.map wt).sum := by
  induction pss with
  | nil => cases h
  | cons p r ih =>
    rw [List.flatten_cons, List.map_append, List.sum_append]
    rcases List.mem_cons.mp h with rfl | h
    · omega
    · have := ih h
      omega
theorem cat_sum : ∀ ys : List String, (ys.map String.length).sum = (cat ys).length
  | [] => rfl
  | x :: r => by rw [List.map_cons, List.sum_cons, cat_sum r, cat, String.length_append]
theorem shown_program_ok {k n w : Nat} {vs : List Val} {ps : List String} {S : Hm} (hd : ∀ v ∈ vs, ∃ us, v = .tup us) (t : ThL vs ps w n) (hw : w ≤ 10 ^ 6) (hsum : (ps.map wt).sum ≤ 6000) (hk : n + 2 ≤ k) : callW P (k + 1) (.f "shown_program") [.tup vs] S (fun r S' => (∃ x, r = .str x ∧ x.length ≤ 6000 ∧ fl (scan ([], "") x.toList) = ps) ∧ Fz S S') noX := by
  obtain ⟨pss, e1, e2, e3⟩ := t.parts
  have tl := t.len
  refine call_open (k := k) fn_f_shown_program ⟨rfl, ?_⟩
  show wSs _ _ _ s1_f_shown_program _ _ [some (.tup vs), none] S
  simp only [s1_f_shown_program, wSs, wS, wT, wEs, wO, wPs, wC, wSrc, wE_loc, wE_lit, wE_con, wE_bin, wE_neg, wE_cmp, wE_cmp2, wE_isN, wE_notN, wE_isB, wE_not, wE_and, wE_or, wE_ite, wE_tup, wE_lst, wE_dic, wE_call, wE_make, wE_meth, wE_fld, wE_sub, wE_slice, wE_bi, wE_vi, wE_bm, wE_isi, wE_lc, wE_lck, eg, es, Option.some.injEq, exists_eq_left', Lit.val, seqOf, bmT]
  refine ⟨⟨_, rfl⟩, ?_⟩
  have all : ∀ qs ∈ pss, scan ([], "") (shw qs).1.toList = (qs, "") ∧ (shw qs).1.length ≤ (qs.map wt).sum := by
    intro qs hq
    obtain ⟨i, hi, e⟩ := List.mem_iff_getElem.mp hq
    have hv : i < vs.length := by omega
    obtain ⟨w', n', t', _, _⟩ := e3 i vs[i] qs (List.getElem?_eq_getElem hv) (by rw [← e]; exact List.getElem?_eq_getElem hi)
    obtain ⟨us, hu⟩ := hd vs[i] (List.getElem_mem hv)
    rw [hu] at t'
    exact shw_tup t'
  refine lcr_inv (callW_mono P _) (fun i acc S' => acc = ((pss.take i).map fun qs => (shw qs).1).map Val.str ∧ Fz S S') ?_ ?_ ⟨rfl, Fz.refl _⟩
  · rintro i v acc S' hi ⟨rfl, f1⟩
    have hv := lt_get hi
    have hlt : i < pss.length := by omega
    have hr : pss[i]? = some pss[i] := List.getElem?_eq_getElem hlt
    obtain ⟨w', n', t', hw', hn'⟩ := e3 i v _ hi hr
    have hs := sum_flat (List.getElem_mem hlt)
    rw [← e1] at hs
    refine ⟨trivial, ?_⟩
    simp only [tgW, List.map_cons, List.map_nil, ewipe, wSs, wS, wT, wEs, wO, wPs, wC, wSrc, wE_loc, wE_lit, wE_con, wE_bin, wE_neg, wE_cmp, wE_cmp2, wE_isN, wE_notN, wE_isB, wE_not, wE_and, wE_or, wE_ite, wE_tup, wE_lst, wE_dic, wE_call, wE_make, wE_meth, wE_fld, wE_sub, wE_slice, wE_bi, wE_vi, wE_bm, wE_isi, wE_lc, wE_lck, eg, es, Option.some.injEq, exists_eq_left', Lit.val, if_true]
    obtain ⟨k, rfl⟩ : ∃ j, k = j + 1 := ⟨k - 1, by omega⟩
    refine call_use (shown_ok (k := k) t' (by omega) (by omega) (by omega)) ?_
    rintro _ S2 ⟨rfl, f2⟩
    refine ⟨by rw [sizeLine_eq]; simp [List.length_take]; omega, ?_, f1.trans f2⟩
    have ht : pss.take (i + 1) = pss.take i ++ [pss[i]] := by rw [List.take_add_one, hr]; rfl
    rw [ht, List.map_append, List.map_append]
    rfl
  · rintro acc S' ⟨rfl, f1⟩
    refine ⟨trivial, ?_⟩
    rw [← e2, List.take_length]
    obtain ⟨c1, c2⟩ := cat_scan all []
    rw [← e1] at c1 c2
    simp only [bmW]
    refine ⟨_, _, lst_at get_new, cat_ok _, ?_, ⟨_, rfl, by omega, ?_⟩, f1.trans (Fz.app _)⟩
    · rw [cat_sum, show "".length = 0 from rfl]
      omega
    · rw [c1, fl_nil]
      simp
end K08

set_option maxHeartbeats 1000000
namespace K08
open Mi PySem
/-! ### the law -/
theorem addL {S : Hm} {n m : Nat} {xs ys : List Val} {Q : Post} (h1 : S[n]? = some (.lst xs)) (h2 : S[m]? = some (.lst ys)) (hl : xs.length + ys.length ≤ sizeLine) (hq : Q (.ref S.length) (S ++ [.lst (xs ++ ys)])) : binW .Add (.ref n) (.ref m) S Q := ⟨xs, ys, h1, h2, hl, hq⟩
theorem drawn_ok {k : Nat} {ns : List Int} (hl : ns.length ≤ 63) : callW P (k + 1) (.f "_law_drawn") [.ref 0] [.lck (.lst (ns.map Val.int))] (fun v S' => ∃ q, v = .ref q ∧ Sta q S') noX := by
  refine call_open fn_f_law_drawn ⟨rfl, ?_⟩
  show wSs _ _ _ s5_f_law_drawn _ _ [some (.ref 0), none, none] _
  simp only [s5_f_law_drawn, wSs, wS, wT, wEs, wO, wPs, wC, wSrc, wE_loc, wE_lit, wE_con, wE_bin, wE_neg, wE_cmp, wE_cmp2, wE_isN, wE_notN, wE_isB, wE_not, wE_and, wE_or, wE_ite, wE_tup, wE_lst, wE_dic, wE_call, wE_make, wE_meth, wE_fld, wE_sub, wE_slice, wE_bi, wE_vi, wE_bm, wE_isi, wE_lc, wE_lck, eg, es, Option.some.injEq, exists_eq_left', Lit.val, seqOf]
  have h0 : Hm.lst [Ob.lck (.lst (ns.map Val.int))] 0 = some (ns.map Val.int) := lst_lck rfl
  refine ⟨_, h0, ?_⟩
  refine for_inv (callW_mono P _) (fun i env S' => ∃ (z : Int) (x2 : Option Val), env = [some (.ref 0), some (.int z), x2] ∧ 0 ≤ z ∧ z < 2305843009213693951 ∧ S' = [Ob.lck (.lst (ns.map Val.int))]) ?_ ?_ ⟨_, _, rfl, by decide, by decide, rfl⟩
  · rintro i v env S' hi ⟨z, x2, rfl, z0, z1, rfl⟩
    refine ⟨h0, ?_⟩
    rw [List.getElem?_map] at hi
    obtain ⟨c, hc, rfl⟩ := Option.map_eq_some_iff.mp hi
    simp only [tgW, s1_f_law_drawn, wSs, wS, wT, wEs, wO, wPs, wC, wSrc, wE_loc, wE_lit, wE_con, wE_bin, wE_neg, wE_cmp, wE_cmp2, wE_isN, wE_notN, wE_isB, wE_not, wE_and, wE_or, wE_ite, wE_tup, wE_lst, wE_dic, wE_call, wE_make, wE_meth, wE_fld, wE_sub, wE_slice, wE_bi, wE_vi, wE_bm, wE_isi, wE_lc, wE_lck, eg, es, Option.some.injEq, exists_eq_left', Lit.val]
    refine bmul (mul_ok (n := 60) (m := 30) (nbs_lt z0 (by omega)) (by decide) (by decide)) ?_
    refine bpow ⟨by decide, by decide, by decide⟩ (bmod (by decide) (badd (badd (bpow ⟨by decide, by decide, by decide⟩ (bsub (bmod (by decide) ?_))))))
    exact ⟨_, _, rfl, Int.emod_nonneg _ (by decide), Int.emod_lt_of_pos _ (by decide), rfl⟩
  · rintro env S' ⟨z, x2, rfl, z0, z1, rfl⟩
    refine ⟨h0, ?_⟩
    have z2 : z < 2 ^ 61 := by omega
    have one : ∀ (nx : Mi.Env → Hm → Prop), wSs P.con P.sub (callW P k) s3_f_law_drawn (fun c x S' => noX c S') { nx := nx, rt := fun v S' => ∃ q, v = .ref q ∧ Sta q S' } [some (.ref 0), some (.int z), x2] [Ob.lck (.lst (ns.map Val.int))] := by
      intro nx
      simp only [s3_f_law_drawn, wSs, wS, wT, wEs, wO, wPs, wC, wSrc, wE_loc, wE_lit, wE_con, wE_bin, wE_neg, wE_cmp, wE_cmp2, wE_isN, wE_notN, wE_isB, wE_not, wE_and, wE_or, wE_ite, wE_tup, wE_lst, wE_dic, wE_call, wE_make, wE_meth, wE_fld, wE_sub, wE_slice, wE_bi, wE_vi, wE_bm, wE_isi, wE_lc, wE_lck, eg, es, Option.some.injEq, exists_eq_left', Lit.val]
      refine ⟨by rw [sizeLine_eq]; simp, _, rfl, [], z, get_new, by simp, z0, z2⟩
    simp only [s4_f_law_drawn, wSs, wS, wT, wEs, wO, wPs, wC, wSrc, wE_loc, wE_lit, wE_con, wE_bin, wE_neg, wE_cmp, wE_cmp2, wE_isN, wE_notN, wE_isB, wE_not, wE_and, wE_or, wE_ite, wE_tup, wE_lst, wE_dic, wE_call, wE_make, wE_meth, wE_fld, wE_sub, wE_slice, wE_bi, wE_vi, wE_bm, wE_isi, wE_lc, wE_lck, eg, es, Option.some.injEq, exists_eq_left', Lit.val, cmpW]
    refine lenW_lst h0 ?_
    refine ⟨_, rfl, ?_⟩
    cases ns with
    | nil =>
      rw [if_neg (by simp)]
      exact one _
    | cons c cs =>
      rw [if_pos (by simp)]
      simp only [List.map_cons] at h0 ⊢
      refine subW_lst h0 ix_zero (bmod (by decide) ?_)
      rw [eqW_int]
      refine ⟨_, rfl, ?_⟩
      by_cases hc : c % 2 = 1
      · rw [if_pos (decide_eq_true hc)]
        simp only [s2_f_law_drawn, wSs, wS, wT, wEs, wO, wPs, wC, wSrc, wE_loc, wE_lit, wE_con, wE_bin, wE_neg, wE_cmp, wE_cmp2, wE_isN, wE_notN, wE_isB, wE_not, wE_and, wE_or, wE_ite, wE_tup, wE_lst, wE_dic, wE_call, wE_make, wE_meth, wE_fld, wE_sub, wE_slice, wE_bi, wE_vi, wE_bm, wE_isi, wE_lc, wE_lck, eg, es, Option.some.injEq, exists_eq_left', Lit.val]
        refine subW_lst h0 ix_zero (bdiv (div_ok (n := 1) (by decide) (by decide) (by decide)) ?_)
        refine ⟨by rw [sizeLine_eq]; simp, ?_⟩
        simp only [sliceW, Val.int.injEq, exists_eq_left', Option.some.injEq]
        have e1 : cut (Val.int c :: cs.map Val.int) (some 1) (some 63) = cs.map Val.int := by
          simp only [List.length_cons] at hl
          rw [show cut (Val.int c :: cs.map Val.int) (some 1) (some 63) = ((Val.int c :: cs.map Val.int).drop 1).take (63 - 1) from cut_ft (i := 1) (j := 63)]
          exact List.take_of_length_le (by simp; omega)
        refine ⟨_, lst_lck rfl, ?_⟩
        rw [e1]
        refine addL (n := 1) (m := 2) (xs := [Val.int (c / 2)]) (ys := cs.map Val.int) rfl rfl (by rw [sizeLine_eq]; simp at hl ⊢; omega) ?_
        refine ⟨by rw [sizeLine_eq]; simp, ?_⟩
        refine addL (n := 3) (m := 4) (xs := [Val.int (c / 2)] ++ cs.map Val.int) (ys := [.int z]) rfl rfl (by rw [sizeLine_eq]; simp at hl ⊢; omega) ?_
        exact ⟨_, rfl, c / 2 :: cs, z, rfl, by simp at hl ⊢; omega, z0, z2⟩
      · rw [if_neg (by simpa using hc)]
        exact one _
theorem cut_mid {α : Type} {a b : α} {l : List α} : cut (a :: (l ++ [b])) (some 1) (some (-1)) = l := by
  have h0 : (a :: (l ++ [b])).length = l.length + 2 := by simp
  have h1 : sIx (l.length + 2) 0 (some 1) = 1 := by
    unfold sIx
    dsimp only
    rw [if_neg (by decide), show (1 : Int).toNat = 1 from rfl]
    omega
  have h2 : sIx (l.length + 2) (l.length + 2) (some (-1)) = l.length + 1 := by
    unfold sIx
    dsimp only
    rw [if_pos (by decide)]
    omega
  unfold cut
  rw [h0, h1, h2]
  simp
theorem program_ok {k p : Nat} {S : Hm} (h : Sta p S) (hk : 40 ≤ k) : callW P (k + 1) (.f "_law_program") [.ref p] S (fun v S' => Fit v ∧ Sta p S') noX := by
  refine call_open (k := k) fn_f_law_program ⟨rfl, ?_⟩
  show wSs _ _ _ s6_f_law_program _ _ [some (.ref p), none, none, none] S
  simp only [s6_f_law_program, wSs, wS, wT, wEs, wO, wPs, wC, wSrc, wE_loc, wE_lit, wE_con, wE_bin, wE_neg, wE_cmp, wE_cmp2, wE_isN, wE_notN, wE_isB, wE_not, wE_and, wE_or, wE_ite, wE_tup, wE_lst, wE_dic, wE_call, wE_make, wE_meth, wE_fld, wE_sub, wE_slice, wE_bi, wE_vi, wE_bm, wE_isi, wE_lc, wE_lck, eg, es, Option.some.injEq, exists_eq_left', Lit.val]
  obtain ⟨k, rfl⟩ : ∃ j, k = j + 40 := ⟨k - 40, by omega⟩
  have hlt := h.lt
  refine ⟨by rw [sizeLine_eq]; simp, by rw [sizeLine_eq]; simp, ?_⟩
  simp only [List.length_append, List.length_cons, List.length_nil, Nat.zero_add]
  have hpq : p ≠ S.length := by omega
  have hpr : S.length + 1 ≠ p := by omega
  have hqr : S.length + 1 ≠ S.length := by omega
  refine call_use (next_ok (k := k + 39) ((h.app [.lst [.int 30]]).app [.lst []]) (by decide) (by decide)) ?_
  rintro _ S1 ⟨⟨r, rfl, a, b⟩, p1, f1, _⟩
  have q1 : Lf S.length S1 := ⟨30, f1.get (Ne.symm hpq) (get_app get_new)⟩
  have r1 : S1[S.length + 1]? = some (.lst []) := f1.get hpr (by have := get_new (S := S ++ [Ob.lst [.int 30]]) (o := .lst []); simpa using this)
  generalize S.length = q at *
  simp only [cmpW, eqW_int, truth, Option.some.injEq, exists_eq_left']
  -- behind the first rows
  have rest : ∀ (S2 : Hm) (x3 : Option Val) (ds : List Val), S2[q + 1]? = some (.lst ds) → (ds.length = 0 ∨ ds.length = 22) → (∀ x ∈ ds, Dcl x) → Wd ds 2640 11 → Sta p S2 → Lf q S2 → wSs P.con P.sub (callW P (k + 40)) s5_f_law_program (fun c x S' => noX c S') { nx := fun _ S' => Fit .non ∧ Sta p S', rt := fun v S' => Fit v ∧ Sta p S' } [some (.ref p), some (.ref q), some (.ref (q + 1)), x3] S2 := by
    intro S2 x3 ds c1 c2 c3 c4 c5 c6
    simp only [s5_f_law_program, wSs, wS, wT, wEs, wO, wPs, wC, wSrc, wE_loc, wE_lit, wE_con, wE_bin, wE_neg, wE_cmp, wE_cmp2, wE_isN, wE_notN, wE_isB, wE_not, wE_and, wE_or, wE_ite, wE_tup, wE_lst, wE_dic, wE_call, wE_make, wE_meth, wE_fld, wE_sub, wE_slice, wE_bi, wE_vi, wE_bm, wE_isi, wE_lc, wE_lck, eg, es, Option.some.injEq, exists_eq_left', Lit.val]
    refine call_use (next_ok (k := k + 39) c5 (by decide) (by decide)) ?_
    rintro _ S3 ⟨⟨r3, rfl, a3, b3⟩, p3, f3, _⟩
    refine call_use (next_ok (k := k + 39) p3 (by decide) (by decide)) ?_
    rintro _ S4 ⟨⟨r4, rfl, a4, b4⟩, p4, f4, _⟩
    refine ⟨by rw [sizeLine_eq]; simp, ?_⟩
    have g4 := f4.get hpr (f3.get hpr c1)
    have hl4 := lt_get g4
    refine lenW_lst (lst_at (get_app g4)) ?_
    simp only [cmpW, biW]
    have turn : ∀ m : Int, 0 ≤ m → m ≤ 4 → ds.length + m ≤ 23 → ∃ j, Val.int m = .int j ∧ rOk j ∧ forL (.nm 3) (fun _ => True) (wSs P.con P.sub (callW P (k + 40)) s3_f_law_program fun c x S' => noX c S') { nx := fun env' S' => wSs P.con P.sub (callW P (k + 40)) s4_f_law_program (fun c x S' => noX c S') { nx := fun _ S' => Fit .non ∧ Sta p S', rt := fun v S' => Fit v ∧ Sta p S' } env' S', rt := fun v S' => Fit v ∧ Sta p S' } (rangeL 0 1 j.toNat) [some (.ref p), some (.ref q), some (.ref (q + 1)), x3] (S4 ++ [.lst [.int r3, .int r4]]) := by
      intro m m0 m1 m2
      refine ⟨m, rfl, ⟨by omega, by omega⟩, ?_⟩
      refine for_inv (callW_mono P _) (fun i env S' => ∃ x3 eds, env = [some (.ref p), some (.ref q), some (.ref (q + 1)), x3] ∧ S'[q + 1]? = some (.lst eds) ∧ eds.length = ds.length + i ∧ (∀ x ∈ eds, Dcl x) ∧ Wd eds (2640 + 2160000 * i) 11 ∧ Sta p S' ∧ Lf q S') ?_ ?_ ⟨_, ds, rfl, get_app g4, rfl, c3, c4, p4.app _, ((c6.fm f3 hpq).fm f4 hpq).app _⟩
      · rintro i v env S' hi ⟨y3, eds, rfl, d1, d2, d3, d4, d5, d6⟩
        obtain ⟨hi, rfl⟩ := rng_get hi
        refine ⟨trivial, ?_⟩
        simp only [tgW, s3_f_law_program, wSs, wS, wT, wEs, wO, wPs, wC, wSrc, wE_loc, wE_lit, wE_con, wE_bin, wE_neg, wE_cmp, wE_cmp2, wE_isN, wE_notN, wE_isB, wE_not, wE_and, wE_or, wE_ite, wE_tup, wE_lst, wE_dic, wE_call, wE_make, wE_meth, wE_fld, wE_sub, wE_slice, wE_bi, wE_vi, wE_bm, wE_isi, wE_lc, wE_lck, eg, es, Option.some.injEq, exists_eq_left', Lit.val, bmT]
        refine ⟨⟨_, _, rfl, lst_at d1⟩, ?_⟩
        refine lenW_lst (lst_at d1) (badd ?_)
        refine call_use (next_ok (k := k + 39) d5 (by omega) (by omega)) ?_
        rintro _ S5 ⟨⟨r5, rfl, a5, b5⟩, p5, f5, _⟩
        refine call_use (declared_ok (k := k + 19) hpq p5 (d6.fm f5 hpq)) ?_
        rintro v S6 ⟨hv, p6, q6, f6⟩
        have d1' := f6.get hpr hqr (f5.get hpr d1)
        simp only [bmW]
        refine ⟨eds, d1', by rw [sizeLine_eq]; omega, a5, by omega, _, _, rfl, by rw [get_set, d1']; rfl, ?_, fun x hx => ?_, ?_, p6.set hpr, ?_⟩
        · simp only [List.length_append, List.length_take, List.length_drop, List.length_cons, List.length_nil]
          omega
        · rcases List.mem_append.mp hx with hx | hx
          · rcases List.mem_append.mp hx with hx | hx
            · exact d3 x (List.mem_of_mem_take hx)
            · have : x = v := by simpa using hx
              subst this; exact hv
          · exact d3 x (List.mem_of_mem_drop hx)
        · exact (Wd.put (by rw [List.take_append_drop]; exact d4) hv.wd).le (by omega) (Nat.le_refl _)
        · obtain ⟨z, hz⟩ := q6
          exact ⟨z, by rw [get_ne (Ne.symm hqr)]; exact hz⟩
      · rintro env S' ⟨y3, eds, rfl, d1, d2, d3, d4, d5, d6⟩
        rw [rangeL_len] at d2 d4
        refine ⟨trivial, ?_⟩
        simp only [s4_f_law_program, wSs, wS, wT, wEs, wO, wPs, wC, wSrc, wE_loc, wE_lit, wE_con, wE_bin, wE_neg, wE_cmp, wE_cmp2, wE_isN, wE_notN, wE_isB, wE_not, wE_and, wE_or, wE_ite, wE_tup, wE_lst, wE_dic, wE_call, wE_make, wE_meth, wE_fld, wE_sub, wE_slice, wE_bi, wE_vi, wE_bm, wE_isi, wE_lc, wE_lck, eg, es, Option.some.injEq, exists_eq_left', Lit.val, biW]
        refine ⟨eds, lst_at d1, ?_⟩
        refine call_use (phrase_ok hpq 4 (k + 40) (by omega) S' d5 d6) ?_
        rintro u S6 ⟨hu, p6, q6, f6⟩
        refine ⟨by rw [sizeLine_eq]; simp, by rw [sizeLine_eq]; simp, ?_⟩
        simp only [binW]
        refine ⟨by rw [sizeLine_eq]; simp; omega, ?_⟩
        have hm : Mn (.tup [.str "main", u]) := ⟨u, rfl, hu⟩
        obtain ⟨ps, w, n, t, hw, hn⟩ := (d4.le (Nat.le_refl _) (show 11 ≤ 13 by decide)).app hm.wd
        refine call_use (fitted_ok (k := k + 40) ⟨eds, _, rfl, d3, hm, by omega⟩ t (by omega) (by omega) (by omega)) ?_
        rintro v S7 ⟨hv, f7⟩
        exact ⟨hv, p6.fz f7⟩
    by_cases hd : ds.length = 0
    · rw [show (if decide ((ds.length : Int) > 0) = true then (1 : Int) else 0) = 0 from by rw [if_neg (by rw [decide_eq_true_eq]; omega)]]
      exact subW_lst (lst_at get_new) (v := .int r3) ix_zero (turn r3 a3 (by omega) (by omega))
    · rw [show (if decide ((ds.length : Int) > 0) = true then (1 : Int) else 0) = 1 from by rw [if_pos (by rw [decide_eq_true_eq]; omega)]]
      exact subW_lst (lst_at get_new) (v := .int r4) ix_one (turn r4 a4 (by omega) (by omega))
  by_cases hr : r = 0
  · rw [if_pos (decide_eq_true hr)]
    simp only [s2_f_law_program, wSs, wS, wT, wEs, wO, wPs, wC, wSrc, wE_loc, wE_lit, wE_con, wE_bin, wE_neg, wE_cmp, wE_cmp2, wE_isN, wE_notN, wE_isB, wE_not, wE_and, wE_or, wE_ite, wE_tup, wE_lst, wE_dic, wE_call, wE_make, wE_meth, wE_fld, wE_sub, wE_slice, wE_bi, wE_vi, wE_bm, wE_isi, wE_lc, wE_lck, eg, es, Option.some.injEq, exists_eq_left', Lit.val]
    refine ⟨22, rfl, ⟨by decide, by decide⟩, ?_⟩
    refine for_inv (callW_mono P _) (fun i env S' => ∃ x3 eds, env = [some (.ref p), some (.ref q), some (.ref (q + 1)), x3] ∧ S'[q + 1]? = some (.lst eds) ∧ eds.length = i ∧ (∀ x ∈ eds, Dcl x) ∧ Wd eds (120 * i) 11 ∧ Sta p S' ∧ Lf q S') ?_ ?_ ⟨_, [], rfl, r1, rfl, by simp, Wd.nil, p1, q1⟩
    · rintro i v env S' hi ⟨y3, eds, rfl, d1, d2, d3, d4, d5, d6⟩
      obtain ⟨hi, rfl⟩ := rng_get hi
      refine ⟨trivial, ?_⟩
      simp only [tgW, s1_f_law_program, wSs, wS, wT, wEs, wO, wPs, wC, wSrc, wE_loc, wE_lit, wE_con, wE_bin, wE_neg, wE_cmp, wE_cmp2, wE_isN, wE_notN, wE_isB, wE_not, wE_and, wE_or, wE_ite, wE_tup, wE_lst, wE_dic, wE_call, wE_make, wE_meth, wE_fld, wE_sub, wE_slice, wE_bi, wE_vi, wE_bm, wE_isi, wE_lc, wE_lck, eg, es, Option.some.injEq, exists_eq_left', Lit.val, bmT]
      refine ⟨⟨_, _, rfl, lst_at d1⟩, ?_⟩
      refine call_use (small_ok (k := k + 37) d5) ?_
      rintro _ S5 ⟨⟨w, rfl, hw, _⟩, p5, f5⟩
      refine ⟨by rw [sizeLine_eq]; simp, ?_⟩
      refine call_use (great_ok (k := k + 37) p5) ?_
      rintro _ S6 ⟨⟨g, rfl, hg, _⟩, p6, f6⟩
      have d1' := f6.get hpr (f5.get hpr d1)
      have hv : Dcl (.tup (.str "kind" :: .str w :: .tup [] :: [.tup [.str g]])) := .kind hw ⟨[], rfl, by simp, by simp⟩ (by simp) (by simp) (fun x hx => ⟨g, [], by simpa using hx, hg, by simp, by simp⟩)
      have hwd : Wd [.tup (.str "kind" :: .str w :: .tup [] :: [.tup [.str g]])] 120 11 := ((wd_tag (D := 3) (by decide +kernel)).cons ((Wd.word (tx_small hw)).cons ((Wd.nil (W := 0) (D := 2)).box.cons (Wd.word (D := 2) (.great hg)).box))).box.le (by omega) (by omega)
      simp only [bmW]
      refine ⟨by rw [sizeLine_eq]; simp, by rw [sizeLine_eq]; simp, eds, d1', by rw [sizeLine_eq]; omega, _, _, rfl, by rw [get_set, d1']; rfl, by simp [d2], fun x hx => ?_, (d4.app hwd).le (by omega) (Nat.le_refl _), p6.set hpr, ?_⟩
      · rcases List.mem_append.mp hx with hx | hx
        · exact d3 x hx
        · have := List.mem_singleton.mp hx
          subst this; exact hv
      · obtain ⟨z, hz⟩ := (d6.fm f5 hpq).fm f6 hpq
        exact ⟨z, by rw [get_ne (Ne.symm hqr)]; exact hz⟩
    · rintro env S' ⟨y3, eds, rfl, d1, d2, d3, d4, d5, d6⟩
      rw [rangeL_len] at d2 d4
      exact ⟨trivial, rest S' y3 eds d1 (.inr d2) d3 (d4.le (by decide) (Nat.le_refl _)) d5 d6⟩
  · rw [if_neg (by simpa using hr)]
    exact rest S1 none [] r1 (.inl rfl) (by simp) Wd.nil p1 q1
theorem law_small (ns : List Int) (hl : ns.length ≤ 63) : bodyW P (callW P 230) r_f_law.d [.ref 0] [.lck (.lst (ns.map Val.int))] (fun v _ => v = .bl true) (fun _ _ => False) := by
  refine ⟨rfl, ?_⟩
  show wSs _ _ _ s11_f_law _ _ [some (.ref 0), none, none, none, none, none, none] _
  simp only [s11_f_law, wSs, wS, wT, wEs, wO, wPs, wC, wSrc, wE_loc, wE_lit, wE_con, wE_bin, wE_neg, wE_cmp, wE_cmp2, wE_isN, wE_notN, wE_isB, wE_not, wE_and, wE_or, wE_ite, wE_tup, wE_lst, wE_dic, wE_call, wE_make, wE_meth, wE_fld, wE_sub, wE_slice, wE_bi, wE_vi, wE_bm, wE_isi, wE_lc, wE_lck, eg, es, Option.some.injEq, exists_eq_left', Lit.val]
  refine call_use (drawn_ok (k := 229) hl) ?_
  rintro _ S0 ⟨p, rfl, p0⟩
  simp only [s10_f_law, wSs, wS, wT, wEs, wO, wPs, wC, wSrc, wE_loc, wE_lit, wE_con, wE_bin, wE_neg, wE_cmp, wE_cmp2, wE_isN, wE_notN, wE_isB, wE_not, wE_and, wE_or, wE_ite, wE_tup, wE_lst, wE_dic, wE_call, wE_make, wE_meth, wE_fld, wE_sub, wE_slice, wE_bi, wE_vi, wE_bm, wE_isi, wE_lc, wE_lck, eg, es, Option.some.injEq, exists_eq_left', Lit.val]
  refine call_use (program_ok (k := 229) p0 (by decide)) ?_
  rintro _ S1 ⟨⟨vs, ps, w, n, rfl, hP, t, hn, hln⟩, p1⟩
  simp only [s9_f_law, wSs, wS, wT, wEs, wO, wPs, wC, wSrc, wE_loc, wE_lit, wE_con, wE_bin, wE_neg, wE_cmp, wE_cmp2, wE_isN, wE_notN, wE_isB, wE_not, wE_and, wE_or, wE_ite, wE_tup, wE_lst, wE_dic, wE_call, wE_make, wE_meth, wE_fld, wE_sub, wE_slice, wE_bi, wE_vi, wE_bm, wE_isi, wE_lc, wE_lck, eg, es, Option.some.injEq, exists_eq_left', Lit.val]
  have hok := t.ok
  obtain ⟨hwt, hpl⟩ := wt_ln hok
  have hwle := t.ln.2
  have hd : ∀ v ∈ vs, ∃ us, v = .tup us := by
    obtain ⟨ds, m, rfl, hds, ⟨u, rfl, _⟩, _⟩ := hP
    intro v hv
    rcases List.mem_append.mp hv with hv | hv
    · obtain ⟨s, us, rfl, _⟩ := (hds v hv).head
      exact ⟨_, rfl⟩
    · exact ⟨_, by simpa using hv⟩
  have tt : ThL [.tup vs] ("(" :: (ps ++ [")"])) (6 + w + 0) (max (n + 1) 0) := .tup t .nil
  obtain ⟨pss, e1, e2, e3⟩ := pieces_all tt (by omega)
  have hp1 : pss = [("(" :: (ps ++ [")"]))] := by
    cases pss with
    | nil => simp at e2
    | cons a r =>
      cases r with
      | nil => simp at e1; rw [e1]
      | cons b r => simp at e2
  have readS : ∀ (x : String) (S : Hm) (R : Val → Hm → Prop), x.length ≤ 6000 → fl (scan ([], "") x.toList) = ps → (∀ S', Fz S S' → R (.bl true) S') → callW P 230 (.f "read") [.str x] S (fun v S' => callW P 230 (.f "_law_same") [v, .tup vs] S' R noX) noX := by
    intro x S R hx hf hR
    refine call_use (read_ok (k := 230) hP hx hf t hn (by omega) (by decide)) ?_
    rintro _ S5 ⟨rfl, f5⟩
    refine call_use (same_all tt (by omega) (.tup vs) (by simp) 230 (by omega) S5) ?_
    rintro _ S6 ⟨rfl, f6⟩
    exact hR S6 (f5.trans f6)
  refine call_use (shown_program_ok (k := 229) hd t (by omega) (by omega) (by omega)) ?_
  rintro _ S2 ⟨⟨x, rfl, hx, hfl⟩, f2⟩
  simp only [s8_f_law, wSs, wS, wT, wEs, wO, wPs, wC, wSrc, wE_loc, wE_lit, wE_con, wE_bin, wE_neg, wE_cmp, wE_cmp2, wE_isN, wE_notN, wE_isB, wE_not, wE_and, wE_or, wE_ite, wE_tup, wE_lst, wE_dic, wE_call, wE_make, wE_meth, wE_fld, wE_sub, wE_slice, wE_bi, wE_vi, wE_bm, wE_isi, wE_lc, wE_lck, eg, es, Option.some.injEq, exists_eq_left', Lit.val, isTy, List.mapM_cons, List.mapM_nil]
  refine ⟨_, rfl, _, rfl, ?_⟩
  rw [if_neg (by decide)]
  refine readS x S2 _ hx hfl fun S3 f3 => ?_
  refine ⟨true, rfl, ?_⟩
  rw [if_neg (by decide)]
  refine call_use (things_of_ok (k := 224) hx hfl t hn (by omega)) ?_
  rintro _ S4 ⟨rfl, f4⟩
  refine call_use (same_all tt (by omega) (.tup vs) (by simp) 230 (by omega) S4) ?_
  rintro _ S5 ⟨rfl, f5⟩
  refine ⟨true, rfl, ?_⟩
  rw [if_neg (by decide)]
  have p5 := p1.fz (f2.trans (f3.trans (f4.trans f5)))
  simp only [s7_f_law, wSs, wS, wT, wEs, wO, wPs, wC, wSrc, wE_loc, wE_lit, wE_con, wE_bin, wE_neg, wE_cmp, wE_cmp2, wE_isN, wE_notN, wE_isB, wE_not, wE_and, wE_or, wE_ite, wE_tup, wE_lst, wE_dic, wE_call, wE_make, wE_meth, wE_fld, wE_sub, wE_slice, wE_bi, wE_vi, wE_bm, wE_isi, wE_lc, wE_lck, eg, es, Option.some.injEq, exists_eq_left', Lit.val]
  refine call_use (e3 0 (.tup vs) ("(" :: (ps ++ [")"])) rfl (by rw [hp1]; rfl) 230 (by omega) S5) ?_
  rintro _ S6 ⟨t2, rfl, g1, g2, g3⟩
  have p6 := p5.fz g3
  refine ⟨1, rfl, 1, rfl, -1, rfl, _, lst_at g2, ?_⟩
  have ecut : cut (("(" :: (ps ++ [")"])).map Val.str) (some 1) (some (-1)) = ps.map Val.str := by
    rw [List.map_cons, List.map_append]
    exact cut_mid
  rw [ecut]
  have hlt := p6.lt
  refine call_use (written_ok (k := 227) (p6.app _) (by omega : S6.length ≠ p) get_new hok (by omega)) ?_
  rintro _ S7 ⟨⟨y, rfl, hy, hfy⟩, p7, f7⟩
  simp only [s6_f_law, wSs, wS, wT, wEs, wO, wPs, wC, wSrc, wE_loc, wE_lit, wE_con, wE_bin, wE_neg, wE_cmp, wE_cmp2, wE_isN, wE_notN, wE_isB, wE_not, wE_and, wE_or, wE_ite, wE_tup, wE_lst, wE_dic, wE_call, wE_make, wE_meth, wE_fld, wE_sub, wE_slice, wE_bi, wE_vi, wE_bm, wE_isi, wE_lc, wE_lck, eg, es, Option.some.injEq, exists_eq_left', Lit.val]
  refine ⟨2, rfl, ⟨by decide, by decide⟩, ?_⟩
  refine for_inv (callW_mono P _) (fun i env S' => ∃ (y : String) (x5 : Option Val), env = [some (.ref 0), some (.ref p), some (.tup vs), some (.str x), some (.str y), x5, none] ∧ y.length ≤ 6000 ∧ fl (scan ([], "") y.toList) = ps) ?_ ?_ ⟨y, _, rfl, by omega, hfy⟩
  · rintro i v env S8 hi ⟨y, x5, rfl, hy, hfy⟩
    refine ⟨trivial, ?_⟩
    simp only [tgW, s4_f_law, wSs, wS, wT, wEs, wO, wPs, wC, wSrc, wE_loc, wE_lit, wE_con, wE_bin, wE_neg, wE_cmp, wE_cmp2, wE_isN, wE_notN, wE_isB, wE_not, wE_and, wE_or, wE_ite, wE_tup, wE_lst, wE_dic, wE_call, wE_make, wE_meth, wE_fld, wE_sub, wE_slice, wE_bi, wE_vi, wE_bm, wE_isi, wE_lc, wE_lck, eg, es, Option.some.injEq, exists_eq_left', Lit.val]
    refine call_use (read_ok (k := 230) hP hy hfy t hn (by omega) (by decide)) ?_
    rintro _ S9 ⟨rfl, f9⟩
    refine call_use (shown_program_ok (k := 229) hd t (by omega) (by omega) (by omega)) ?_
    rintro _ S10 ⟨⟨z, rfl, hz, hfz⟩, f10⟩
    simp only [s3_f_law, wSs, wS, wT, wEs, wO, wPs, wC, wSrc, wE_loc, wE_lit, wE_con, wE_bin, wE_neg, wE_cmp, wE_cmp2, wE_isN, wE_notN, wE_isB, wE_not, wE_and, wE_or, wE_ite, wE_tup, wE_lst, wE_dic, wE_call, wE_make, wE_meth, wE_fld, wE_sub, wE_slice, wE_bi, wE_vi, wE_bm, wE_isi, wE_lc, wE_lck, eg, es, Option.some.injEq, exists_eq_left', Lit.val]
    refine readS z S10 _ hz hfz fun S11 f11 => ?_
    refine ⟨true, rfl, ?_⟩
    rw [if_neg (by decide)]
    exact ⟨z, _, rfl, hz, hfz⟩
  · rintro env S8 ⟨y, x5, rfl, hy, hfy⟩
    refine ⟨trivial, ?_⟩
    simp only [s5_f_law, wSs, wS, wT, wEs, wO, wPs, wC, wSrc, wE_loc, wE_lit, wE_con, wE_bin, wE_neg, wE_cmp, wE_cmp2, wE_isN, wE_notN, wE_isB, wE_not, wE_and, wE_or, wE_ite, wE_tup, wE_lst, wE_dic, wE_call, wE_make, wE_meth, wE_fld, wE_sub, wE_slice, wE_bi, wE_vi, wE_bm, wE_isi, wE_lc, wE_lck, eg, es, Option.some.injEq, exists_eq_left', Lit.val, seqOf]
    obtain ⟨rss, r1, r2, r3⟩ := t.parts
    have hvl := t.len
    refine lcr_inv (callW_mono P _) (fun i acc S' => acc = (List.replicate i true).map Val.bl) ?_ ?_ rfl
    · rintro i v acc S' hi rfl
      have hv := lt_get hi
      have hlt : i < rss.length := by omega
      have hr : rss[i]? = some rss[i] := List.getElem?_eq_getElem hlt
      obtain ⟨w', n', t', hw', hn'⟩ := r3 i v _ hi hr
      have hs := sum_flat (List.getElem_mem hlt)
      rw [← r1] at hs
      generalize rss[i] = qs at *
      refine ⟨trivial, ?_⟩
      simp only [tgW, List.map_cons, List.map_nil, ewipe, wSs, wS, wT, wEs, wO, wPs, wC, wSrc, wE_loc, wE_lit, wE_con, wE_bin, wE_neg, wE_cmp, wE_cmp2, wE_isN, wE_notN, wE_isB, wE_not, wE_and, wE_or, wE_ite, wE_tup, wE_lst, wE_dic, wE_call, wE_make, wE_meth, wE_fld, wE_sub, wE_slice, wE_bi, wE_vi, wE_bm, wE_isi, wE_lc, wE_lck, eg, es, Option.some.injEq, exists_eq_left', Lit.val, if_true]
      have hm : v ∈ vs := List.mem_of_getElem? hi
      obtain ⟨us, rfl⟩ := hd v hm
      obtain ⟨c1, c2⟩ := shw_tup t'
      refine call_use (shown_ok (k := 229) t' (by omega) (by omega) (by omega)) ?_
      rintro _ S9 ⟨rfl, f9⟩
      refine call_use (things_of_ok (k := 224) (by omega) (by rw [c1, fl_nil]) t' (by omega) (by omega)) ?_
      rintro _ S10 ⟨rfl, f10⟩
      refine ⟨by rw [sizeLine_eq]; simp, ?_⟩
      refine call_use (same_all (.tup t' .nil) (by omega) (.tup [.tup us]) (by simp) 230 (by omega) S10) ?_
      rintro _ S11 ⟨rfl, f11⟩
      refine ⟨by rw [sizeLine_eq]; simp; omega, ?_⟩
      rw [List.replicate_succ', List.map_append]
      rfl
    · rintro acc S' rfl
      refine ⟨trivial, ?_⟩
      simp only [biW]
      refine ⟨_, lst_at get_new, ?_⟩
      simp
end K08

set_option maxHeartbeats 0
open PySem PySem.W PySem.Calls PyProof.Rows in
theorem PySem.Challenge.cw_facework_k08_whole_programs_go_round_holds : PySem.Challenge.rw_facework_k08_whole_programs_go_round.Holds := by
  w_on; o_law
  refine HandSHeadRun.head_any (r := OpenLaw.row PySem.Challenge.rw_facework_k08_whole_programs_go_round) (q := view (OpenLaw.row PySem.Challenge.rw_facework_k08_whole_programs_go_round).prog [90]) (H := K08.hk) (ob := K08.ob) (M := 6060) (loose := K08.loose) (d := HandSHeadRun.topDef (OpenLaw.row PySem.Challenge.rw_facework_k08_whole_programs_go_round).prog 90) (kwd := []) K08.ob_eq
    (by kernel_rfl) (fun s => by kernel_rfl) K08.run (by kernel_rfl) (by kernel_rfl) (by kernel_rfl) (by rfl) (by first | assumption | decide +kernel) (by decide +kernel) ⟨rfl, rfl, rfl, rfl, rfl, by decide +kernel⟩ ?hw ?hc
  case hw => w_witness2
  case hc => exact Mi.mi_hc (P := K08.P) (tab := K08.tab) (con := K08.con) (j := 230) (r := K08.r_f_law) (x := "_law_script") rfl (by decide) (by kernel_rfl) ⟨rfl, by decide, by decide⟩ (List.all_eq_true.mp K08.rows_ok) K08.bind_ok (fun f d h => Mi.fnOfT_of h) (fun x v h => Mi.conV_of h) (by decide +kernel) (by simp [K08.tab]) rfl rfl (by kernel_rfl) K08.law_small

