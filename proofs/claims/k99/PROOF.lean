import PyProof.Rows.All
import PyProof.EqAt
import PyProof.ReprRoads
import HandS.ForMost
import HandS.Exc
import HandS.Zip
import HandS.ExcInit
import HandS.HeadHook1
import KE.KIsAll
import KE.KExcInit
import KE.KExcStr
import HandS.IsInst
import HandS.TupAny
import HandS.Style
import HandS.Deep
import HandS.RaiseMore
import PyProof.StrBlock2
import HandS.TupMul
import PyProof.Rows.RuleB_pow
import HandS.Text
import HandS.Replace
import KE.KRevSl
import HandS.Flow
import HandS.Dict
import HandS.Iter
import HandS.Comp
import HandS.CallSlots
import HandS.Ends
import HandS.Defaults
import HandS.ExcIs
import HandS.WordsExc
import HandS.HeadHook2
import HandS.Head2
import HandS.EndBits
import HandS.HeadEnd
import HandS.Head1
import PySem.Challenge.RW_playedalike_k99_errors_by_hand
import Wide.All
import OpenK.AllK
import Wide.FinOn
import KE.KStateDown
import Lean
import HandS.Head0
import PyProof.TableCode
import HandS.MakeKw
set_option Elab.async false
section
set_option linter.all false
/-! A small evaluator: values as trees, mutable things owned by local variables. -/
namespace Ev
open PySem

inductive D where
  | non | bl (b : Bool) | int (i : Int) | str (s : List Nat)
  | tup (ds : List D) | lst (ds : List D) | dct (ks vs : List D) | set (ds : List D)
  | rng (lo : Int) (n : Nat)
  | exc (c : Nat) (x : D)
  | scr (ns : List Int)
  deriving Inhabited, Repr

/-- an own value: k levels of it are owned -/
structure Sl where
  k : Nat
  d : D
  deriving Inhabited, Repr
abbrev Ls := List (Option Sl)

inductive R (α : Type) where
  | ok (a : α) (e : Ls)
  | rs (c : Nat) (x : D)
  | bad (m : String)
  deriving Inhabited
def R.bind {α β : Type} (r : R α) (f : α → Ls → R β) : R β := match r with
  | .ok a e => f a e
  | .rs c x => .rs c x
  | .bad m => .bad m

mutual
def D.py : D → PyData
  | .non => .none
  | .bl b => .bool b
  | .int i => .int i
  | .str s => .str ⟨s.toArray⟩
  | .tup ds => .tuple (D.pys ds)
  | .lst ds => .list (D.pys ds)
  | .dct ks _ => .dict ((D.pys ks).map fun k => (k, .none))
  | .set _ => .dict [] | .rng _ _ => .dict [] | .exc _ _ => .dict [] | .scr _ => .dict []
def D.pys : List D → List PyData
  | [] => []
  | d :: ds => d.py :: D.pys ds
end
mutual
/-- none, bools, ints, texts, tuples and lists of such -/
def D.plain : D → Bool
  | .non => true | .bl _ => true | .int _ => true | .str _ => true
  | .tup ds => D.plains ds
  | .lst ds => D.plains ds
  | _ => false
def D.plains : List D → Bool
  | [] => true
  | d :: ds => d.plain && D.plains ds
end
mutual
/-- no mutable thing in it -/
def D.immut : D → Bool
  | .tup ds => D.immuts ds
  | .lst _ => false | .dct _ _ => false | .set _ => false
  | _ => true
def D.immuts : List D → Bool
  | [] => true
  | d :: ds => d.immut && D.immuts ds
end
def D.atom : D → Bool
  | .non => true | .bl _ => true | .int _ => true | .str _ => true | _ => false
mutual
/-- all its mutable things stand on the first k levels -/
def D.owned : Nat → D → Bool
  | k, .tup ds => D.owneds k ds
  | 0, .lst _ => false | 0, .dct _ _ => false | _, .set _ => false | _, .scr _ => false | _, .exc _ _ => false
  | k + 1, .lst ds => D.owneds k ds
  | k + 1, .dct _ vs => D.owneds k vs
  | _, _ => true
def D.owneds : Nat → List D → Bool
  | _, [] => true
  | k, d :: ds => D.owned k d && D.owneds k ds
end

def eqD (a b : D) : Option Bool :=
  if a.plain && b.plain then (if SeqAt.shaped a.py && SeqAt.shaped b.py then some (PyData.eqv a.py b.py) else none) else none
mutual
def eqK : D → D → Bool
  | .non, .non => true
  | .bl a, .bl b => a == b
  | .int a, .int b => a == b
  | .bl a, .int b => (if a then 1 else 0) == b
  | .int a, .bl b => a == (if b then 1 else 0)
  | .str a, .str b => a == b
  | .tup a, .tup b => eqKs a b
  | .lst a, .lst b => eqKs a b
  | _, _ => false
def eqKs : List D → List D → Bool
  | [], [] => true
  | a :: as, b :: bs => eqK a b && eqKs as bs
  | _, _ => false
end
def reprD (d : D) : Option (List Nat) := match d with
  | .int i => if i.natAbs.log2 < 1920 ∧ (toString i : Str).cps.toList.length ≤ 1000000 then some ((toString i : Str).cps.toList) else none
  | .tup _ => if d.plain && d.py.showable && !d.py.hasDict && decide (d.py.depth ≤ 100) && decide ((PyData.shown d.py).length ≤ 1000000) then some (PyData.shown d.py).cps.toList else none
  | .lst _ => if d.plain && d.py.showable && !d.py.hasDict && decide (d.py.depth ≤ 100) && decide ((PyData.shown d.py).length ≤ 1000000) then some (PyData.shown d.py).cps.toList else none
  | _ => none

/-! order -/
def ltT : List Nat → List Nat → Bool
  | [], [] => false | [], _ :: _ => true | _ :: _, [] => false
  | a :: as, b :: bs => if a = b then ltT as bs else decide (a < b)
mutual
def ltD : D → D → Option Bool
  | .int a, .int b => some (decide (a < b))
  | .bl a, .bl b => some (!a && b)
  | .bl a, .int b => some (decide ((if a then 1 else 0) < b))
  | .int a, .bl b => some (decide (a < (if b then 1 else 0)))
  | .str a, .str b => some (ltT a b)
  | .tup a, .tup b => ltDs a b
  | .lst a, .lst b => ltDs a b
  | _, _ => none
def ltDs : List D → List D → Option Bool
  | [], [] => some false
  | [], _ :: _ => some true
  | _ :: _, [] => some false
  | a :: as, b :: bs => if eqK a b then ltDs as bs else ltD a b
end

def maxLen : Nat := 16777216
def okLen (n : Nat) : Bool := decide (n ≤ 1000000)

/-! truth -/
def truth : D → Option Bool
  | .non => some false
  | .bl b => some b
  | .int i => some (i != 0)
  | .str s => some (!s.isEmpty)
  | .tup ds => some (!ds.isEmpty)
  | .lst ds => some (!ds.isEmpty)
  | .dct ks _ => some (!ks.isEmpty)
  | .set ds => some (!ds.isEmpty)
  | .rng _ n => some (n != 0)
  | .exc _ _ => none
  | .scr _ => none

/-! primitives -/
inductive Cmp where | eq | ne | lt | le | gt | ge | is | isNot | inn | notIn
  deriving Repr, DecidableEq, Inhabited
inductive Pr where
  | add | sub | mul | fdiv | mod | pow | neg | lshift | rshift | band
  | cmp (c : Cmp)
  | item
  | slice (lo hi : Bool) | rev
  | len | tuple | list | sum | all | any | sorted | sortedRev | min | max | int | abs | repr | strOf | set | dictOf | bool
  | isinst (cs : List Nat)       -- 0 int 1 str 2 bool 3 tuple 4 list 5 dict 6 set; 100 + c: an own class (and those below it)
  | join | index | count | replace | split | endswith | startswith | get | upper | items | keys | values
  | range | fldOf (n : Nat) | asInt | asStr
  deriving Repr, DecidableEq, Inhabited

def strs? : List D → Option (List (List Nat))
  | [] => some []
  | .str s :: r => (strs? r).map (s :: ·)
  | _ => none
def ints? : List D → Option (List Int)
  | [] => some []
  | .int s :: r => (ints? r).map (s :: ·)
  | _ => none
def joinT (sep : List Nat) : List (List Nat) → List Nat
  | [] => []
  | [a] => a
  | a :: r => a ++ sep ++ joinT sep r
/-- what an iteration goes through -/
def D.its : D → Option (List D)
  | .tup ds => some ds
  | .lst ds => some ds
  | .str s => some (s.map fun c => .str [c])
  | .rng lo n => some ((List.range n).map fun (i : Nat) => .int (lo + (i : Int)))
  | .scr ns => some (ns.map .int)
  | _ => none
def ixD (n : Nat) (i : Int) : Option Nat := if 0 ≤ i then (if i < n then some i.toNat else none) else (if 0 ≤ i + n then some (i + n).toNat else none)
def lookD : List D → List D → D → Option D
  | k :: ks, v :: vs, x => if eqK k x then some v else lookD ks vs x
  | _, _, _ => none
def findK : List D → D → Option Nat
  | [], _ => none
  | k :: ks, x => if eqK k x then some 0 else (findK ks x).map (· + 1)
def clampI (n : Nat) (i : Int) : Nat := if i < 0 then (i + n).toNat else min i.toNat n
def cutL {α : Type} (xs : List α) (lo hi : Option Int) : List α :=
  let a := (lo.map (clampI xs.length)).getD 0
  let b := (hi.map (clampI xs.length)).getD xs.length
  (xs.drop a).take (b - a)
def intO : D → Option Int
  | .int i => some i
  | _ => none
def optInts : Bool → Bool → List D → Option (Option Int × Option Int)
  | true, true, [.int i, .int j] => some (some i, some j)
  | true, false, [.int i] => some (some i, none)
  | false, true, [.int j] => some (none, some j)
  | false, false, [] => some (none, none)
  | _, _, _ => none
/-- the text p stands in s -/
def inS : List Nat → List Nat → Bool
  | [c], s => decide (c ∈ s)
  | p, s => !(Builtin.Str.occurrences ⟨s.toArray⟩ ⟨p.toArray⟩ 0 s.length 1).isEmpty
/-- where p stands first -/
def findS (p s : List Nat) : Option Nat := (Builtin.Str.occurrences ⟨s.toArray⟩ ⟨p.toArray⟩ 0 s.length 1).head?
def addD : D → D → Option D
  | .int a, .int b => some (.int (a + b))
  | .str a, .str b => if okLen (a.length + b.length) then some (.str (a ++ b)) else none
  | .tup a, .tup b => if okLen (a.length + b.length) then some (.tup (a ++ b)) else none
  | .lst a, .lst b => if okLen (a.length + b.length) then some (.lst (a ++ b)) else none
  | _, _ => none
def smallB (i : Int) : Bool := decide (-(2 ^ 62) < i ∧ i < 2 ^ 62)
def smallI (i : Int) : Bool := decide (-(2 ^ 64) < i ∧ i < 2 ^ 64)
def mulD : D → D → Option D
  | .int a, .int b => if smallI a || smallI b then some (.int (a * b)) else none
  | .str a, .int b => if okLen (a.length * b.toNat) && smallB b then some (.str (List.replicate b.toNat a).flatten) else none
  | .lst a, .int b => if okLen (a.length * b.toNat) && smallB b then some (.lst (List.replicate b.toNat a).flatten) else none
  | .tup a, .int b => if !a.isEmpty && decide (a.length ≤ 1000) && decide (2 ≤ b ∧ b ≤ 1000) then some (.tup (List.replicate b.toNat a).flatten) else none
  | _, _ => none
def inL (x : D) (ds : List D) : Option Bool := if x.plain && D.plains ds then (if SeqAt.shaped x.py && SeqAt.shaped (.list (D.pys ds)) then some ((D.pys ds).any fun z => PyData.eqv z x.py) else none) else none
def inD (x : D) : D → Option Bool
  | .str s => (match x with
    | .str p => some (inS p s)
    | _ => none)
  | .tup ds => if x.atom && ds.all D.atom then some (ds.any fun d => eqK d x) else none
  | .lst ds => inL x ds
  | _ => none
def isD : D → D → Option Bool
  | .non, .non => some true
  | _, .non => some false
  | _, _ => none
def ltI : D → D → Option Bool
  | .int a, .int b => some (decide (a < b))
  | .str a, .str b => some (decide (a < b))
  | _, _ => none
def leI : D → D → Option Bool
  | .int a, .int b => some (decide (a ≤ b))
  | .str a, .str b => some (!decide (b < a))
  | _, _ => none
def cmpD (c : Cmp) (a b : D) : Option Bool := match c with
  | .eq => eqD a b
  | .ne => (eqD a b).map (!·)
  | .lt => ltI a b
  | .gt => ltI b a
  | .le => leI a b
  | .ge => leI b a
  | .is => isD a b
  | .isNot => (isD a b).map (!·)
  | .inn => inD a b
  | .notIn => (inD a b).map (!·)
def putKV : List D → List D → D → D → List D × List D
  | k :: ks, v :: vs, x, y => if eqK k x then (k :: ks, y :: vs) else let p := putKV ks vs x y; (k :: p.1, v :: p.2)
  | _, _, x, y => ([x], [y])
/-- 0 int 1 str 2 bool 3 tuple 4 list 5 dict -/
def isinstD (c : Nat) : D → Option Bool
  | .non => if c ≤ 5 then some false else none
  | .int _ => if c ≤ 5 then some (c == 0) else none
  | .bl _ => if c ≤ 5 then some (c == 0 || c == 2) else none
  | .str _ => if c ≤ 5 then some (c == 1) else none
  | .tup _ => if c ≤ 5 then some (c == 3) else none
  | .lst _ => if c ≤ 5 then some (c == 4) else none
  | .dct _ _ => if c ≤ 5 then some (c == 5) else none
  | _ => none
def bools? : List D → Option (List Bool)
  | [] => some []
  | .bl b :: r => (bools? r).map (b :: ·)
  | _ => none

/-! the own exceptions: their names, fields, texts, classes -/
def exTab : List (Nat × String × Nat × String × List Nat) := [(101, "BadSigns", 0, "no such signs", [101, 100, 90, 93]), (102, "BadLine", 0, "no such line", [102, 100, 90, 93]), (103, "BadBoard", 0, "no such board", [103, 100, 90, 93]),
  (104, "BadDirection", 0, "no such direction", [104, 100, 90, 93]), (105, "BadMachine", 1, "no such machine", [105, 100, 90, 93]), (106, "BadBook", 1, "no such book", [106, 100, 90, 93]), (107, "BadGuard", 1, "no such guard", [107, 100, 90, 93]),
  (108, "BadGame", 1, "no such game", [108, 100, 90, 93]), (109, "BadWeights", 1, "no such weights", [109, 100, 90, 93]), (110, "BadPaper", 1, "no such paper", [110, 100, 90, 93]), (111, "BadText", 1, "no such text", [111, 100, 90, 93]),
  (112, "BadNumber", 0, "no such number", [112, 100, 90, 93]), (113, "BadMods", 1, "no such mods", [113, 100, 90, 93]), (114, "BadSample", 1, "no such sample", [114, 100, 90, 93]), (115, "BadDeed", 1, "no such deed", [115, 100, 90, 93]),
  (116, "TooMany", 2, "too many", [116, 92, 93]), (117, "NoSuch", 0, "nothing so called", [117, 91, 93])]
def clsN (c : Nat) : Str := if c = 100 then "PlayError" else match exTab.lookup c with
  | some q => q.1
  | none => ""
def fldNo (c : Nat) : Nat := match exTab.lookup c with
  | some q => q.2.1
  | none => 0
def fldS (n : Nat) : Str := if n = 0 then "value" else if n = 1 then "place" else "most"
def msgN (c : Nat) : List Nat := match exTab.lookup c with
  | some q => (q.2.2.1 : Str).cps.toList
  | none => []
def supN (c : Nat) : List Nat := match exTab.lookup c with
  | some q => q.2.2.2
  | none => []
def isExc (sup : Nat → List Nat) (k : Nat) : D → Option Bool
  | .exc c _ => some ((sup c).contains k)
  | _ => none
def fldD (n : Nat) : D → Option D
  | .exc c x => if fldNo c = n then some x else none
  | _ => none
def strD : D → Option (List Nat)
  | .str s => some s
  | .int i => reprD (.int i)
  | .exc c _ => some (msgN c)
  | _ => none
def un (f : D → Option D) : List D → Option D
  | [x] => f x
  | _ => none
def bi (f : D → D → Option D) : List D → Option D
  | [x, y] => f x y
  | _ => none
def asStrD : D → Option D
  | .str s => some (.str s)
  | _ => none
def asIntD : D → Option D
  | .int i => some (.int i)
  | _ => none
def lenD : D → Option D
  | .scr s => some (.int s.length)
  | .str s => some (.int s.length)
  | .tup s => some (.int s.length)
  | .lst s => some (.int s.length)
  | _ => none
def tupleD : D → Option D
  | .tup s => some (.tup s)
  | .lst s => some (.tup s)
  | _ => none
def listD : D → Option D
  | .tup s => some (.lst s)
  | .lst s => some (.lst s)
  | _ => none
def sumD : D → Option D
  | .lst s => (ints? s).map fun l => .int l.sum
  | .scr s => some (.int s.sum)
  | _ => none
def allD : D → Option D
  | .lst s => (bools? s).map fun l => .bl (l.all id)
  | _ => none
def anyD : D → Option D
  | .lst s => (bools? s).map fun l => .bl (l.any id)
  | _ => none
def joinD : D → D → Option D
  | .str sep, .lst s => (strs? s).bind fun l => if okLen ((l.map List.length).sum + l.length * sep.length) then some (.str (joinT sep l)) else none
  | _, _ => none
def indexD : D → D → Option D
  | .str s, .str p => (findS p s).map fun (i : Nat) => .int i
  | _, _ => none
def sliceD (x : D) (lo hi : Option Int) : Option D := match x with
  | .str t => some (.str (cutL t lo hi))
  | .tup t => some (.tup (cutL t lo hi))
  | .lst t => some (.lst (cutL t lo hi))
  | .scr t => some (.lst (cutL (t.map .int) lo hi))
  | _ => none
/-- x[::-1] -/
def revD : D → Option D
  | .str t => some (.str t.reverse)
  | .lst t => some (.lst t.reverse)
  | _ => none
def primD (sup : Nat → List Nat) (p : Pr) (ds : List D) : Option D := match p, ds with
  | .add, [a, b] => addD a b
  | .sub, [.int a, .int b] => some (.int (a - b))
  | .mul, [a, b] => mulD a b
  | .fdiv, [.int a, .int b] => if 0 < b ∧ b < 1073741824 then some (.int (a / b)) else none
  | .mod, [.int a, .int b] => if 0 < b then some (.int (a % b)) else none
  | .pow, [.int a, .int b] => if 0 ≤ b ∧ b ≤ 1000000 ∧ smallI a then some (.int (a ^ b.toNat)) else if 0 ≤ b ∧ (Builtin.Int.intBits a : Int) * b ≤ 134217728 then some (.int (a ^ b.toNat)) else none
  | .neg, [.int a] => some (.int (-a))
  | .cmp c, [a, b] => (cmpD c a b).map .bl
  | .slice l h, x :: r => (optInts l h r).bind fun o => sliceD x o.1 o.2
  | .rev, ds => un revD ds
  | .asInt, ds => un asIntD ds
  | .asStr, ds => un asStrD ds
  | .len, ds => un lenD ds
  | .tuple, ds => un tupleD ds
  | .list, ds => un listD ds
  | .sum, ds => un sumD ds
  | .all, ds => un allD ds
  | .any, ds => un anyD ds
  | .repr, ds => un (fun x => (reprD x).map .str) ds
  | .isinst [c], ds => un (fun x => (if 90 ≤ c then isExc sup c x else isinstD c x).map .bl) ds
  | .fldOf n, ds => un (fldD n) ds
  | .strOf, ds => un (fun x => (strD x).map .str) ds
  | .join, ds => bi joinD ds
  | .index, ds => bi indexD ds
  | _, _ => none
/-- what a primitive hands back is new to this depth -/
def freshK : D → Nat
  | .lst _ => 1 | .dct _ _ => 1 | .set _ => 1 | _ => 0
def freshP : Pr → D → Nat
  | .fldOf _, _ => 0
  | _, d => freshK d
/-- these put their operands' items into what they hand back -/
def Pr.emb : Pr → Bool
  | .add | .mul | .slice .. | .rev | .tuple | .list | .sorted | .sortedRev | .min | .max | .set | .dictOf | .get | .items | .keys | .values | .fldOf _ => true
  | _ => false
end Ev
end
section
set_option linter.all false
namespace Ev
open PySem
/-! the syntax -/
inductive Tg where
  | v (i need : Nat)
  | tup (ts : List Tg)
  deriving Inhabited, Repr
mutual
inductive Xp where
  | c (d : D)
  | v (i : Nat)
  | sub (a i : Xp)                       -- a[i], a view where a is one
  | p (op : Pr) (es : List Xp)
  | tup (es : List Xp)
  | lst (es : List Xp)
  | dct (ks : List D) (es : List Xp)
  | and (a b : Xp)
  | or (a b : Xp)
  | not (a : Xp)
  | ite (c a b : Xp)
  | chain (o1 o2 : Cmp) (a b c : Xp)
  | call (f : Nat) (es : List Xp) (lend : List (Option Nat))   -- at a lent place the slot; es holds .c .non there
  | comp (own : List Nat) (t : Tg) (it : It) (cs : List Xp) (e : Xp)
  | comp2 (own : List Nat) (t : Tg) (it : It) (cs : List Xp) (t2 : Tg) (it2 : It) (cs2 : List Xp) (e : Xp)
  | meth (m : Nat) (a : Xp) (es : List Xp)   -- 0 append 1 extend 2 pop 3 insert 4 setdefault 5 update 6 setdefault(k, []).append(v)
  | mk (c : Nat) (es : List Xp)             -- an exception of the class c
  | told (f : Nat) (e : Xp)                 -- f(lambda: e)
  | thunk                                   -- deed()
  | ofIt (op : Pr) (it : It)
  deriving Inhabited
inductive It where
  | seq (e : Xp)
  | range (es : List Xp)
  | enum (e : Xp)
  | zip (a b : Xp)
  deriving Inhabited
end
mutual
inductive Sm where
  | set (t : Tg) (e : Xp)
  | setSub (a i e : Xp)
  | augSub (op : Pr) (a i e : Xp)
  | aug (op : Pr) (i : Nat) (e : Xp)
  | ex (e : Xp)
  | ite (c : Xp) (a b : List Sm)
  | for (t : Tg) (it : It) (b : List Sm)
  | whl (c : Xp) (b : List Sm)
  | ret (e : Xp)
  | retN
  | raise (c : Nat) (es : List Xp)
  | try (b : List Sm) (hs : Hs)
  | pass | brk | cont
  deriving Inhabited
/-- the classes that a clause takes, its name, its suite -/
inductive Hs where
  | nil
  | cons (cs : List Nat) (nm : Option Nat) (b : List Sm) (r : Hs)
  deriving Inhabited
end

structure Fd where
  name : String
  np : Nat
  ns : Nat
  chg : List Nat          -- places of the parameters that it changes
  body : List Sm
  deriving Inhabited
structure Tb where
  fns : List Fd
  sup : Nat → List Nat    -- own classes: the class itself and those over it (numbers from 100; 90 ValueError 91 LookupError 92 OverflowError 93 Exception)
  deriving Inhabited

/-! the semantics -/
/-- the own classes stand under the same ones in every table -/
abbrev supT (_ : Tb) : Nat → List Nat := supN
def badPr (op : Pr) (ds : List D) : String := s!"prim {repr op} {repr ds}"
def badN (m : String) (i : Nat) : String := s!"{m} {i}"
def capK : Nat := 9
/-- a value on its way: a view of a slot's part, or a new one -/
structure Vw where
  d : D
  k : Nat
  src : Option (Nat × List Nat)
  deriving Inhabited
/-- so many levels of mutable things lie above the part at p -/
def dep : D → List Nat → Nat
  | _, [] => 0
  | .tup ds, i :: p => dep (ds.getD i .non) p
  | .lst ds, i :: p => dep (ds.getD i .non) p + 1
  | .dct _ vs, i :: p => dep (vs.getD i .non) p + 1
  | _, _ => 0
def partAt : D → List Nat → D
  | d, [] => d
  | .tup ds, i :: p => partAt (ds.getD i .non) p
  | .lst ds, i :: p => partAt (ds.getD i .non) p
  | .dct _ vs, i :: p => partAt (vs.getD i .non) p
  | _, _ => .non
def putAt : D → List Nat → D → D
  | _, [], x => x
  | .tup ds, i :: p, x => .tup (ds.set i (putAt (ds.getD i .non) p x))
  | .lst ds, i :: p, x => .lst (ds.set i (putAt (ds.getD i .non) p x))
  | .dct ks vs, i :: p, x => .dct ks (vs.set i (putAt (vs.getD i .non) p x))
  | d, _, _ => d
def keyOk : D → Bool
  | .int _ => true | .str s => okLen s.length | _ => false
def okKeys (ks : List D) : Bool := ks.all keyOk && decide (ks.Pairwise fun a b => eqK a b = false) && decide (ks.length ≤ 15)
def Ls.at (e : Ls) (i : Nat) : Option Sl := (e[i]?).bind id
def Ls.put (e : Ls) (i : Nat) (k : Nat) (d : D) : Ls := e.set i (some ⟨k, d⟩)
/-- how far the part is owned -/
def ownAt (e : Ls) (i : Nat) (p : List Nat) : Nat := match e.at i with
  | some s => s.k - dep s.d p
  | none => 0
/-- the slot that a view leans on, if it owns something of it -/
def Vw.on (v : Vw) (e : Ls) : Option Nat := match v.src with
  | some (i, p) => if !v.d.atom && decide (0 < ownAt e i p) then some i else none
  | none => none
def clash (o : Option Nat) (ts : List Nat) : Bool := match o with
  | some i => ts.contains i
  | none => false
def Vw.bor (v : Vw) (e : Ls) : Bool := match v.src with
  | some (i, p) => !v.d.atom && decide (0 < ownAt e i p)
  | none => false
/-- a value that may be kept by others -/
def asF (v : Vw) (e : Ls) : D × Ls := match v.src with
  | some (i, p) => if v.bor e then (match e.at i with
      | some s => (v.d, e.put i 0 s.d)
      | none => (v.d, e)) else (v.d, e)
  | none => (v.d, e)
def asO (v : Vw) (e : Ls) : Sl × Ls := match v.src with
  | some _ => let r := asF v e; (⟨if r.1.atom then capK else 0, r.1⟩, r.2)
  | none => (⟨v.k, v.d⟩, e)
def new (k : Nat) (d : D) : Vw := ⟨d, if d.atom then capK else k, none⟩
/-- all frozen -/
def Ls.still (e : Ls) : Ls := e.map fun s => s.map fun s => ⟨0, s.d⟩
inductive CR where
  | ok (k : Nat) (d : D) (outs : List Sl)
  | rs (c : Nat) (x : D)
  | bad (m : String)
  deriving Inhabited
inductive Q where
  | nx (e : Ls) | ret (k : Nat) (d : D) (e : Ls) | brk (e : Ls) | ct (e : Ls) | rs (c : Nat) (x : D) | bad (m : String)
  deriving Inhabited

def Xp.base : Xp → List Nat
  | .v i => [i]
  | .sub a _ => a.base
  | _ => []
mutual
/-- the slots whose things may be changed on the way -/
def Xp.tch : Xp → List Nat
  | .c _ => [] | .v _ => []
  | .sub a i => a.tch ++ i.tch
  | .p _ es => Xp.tchs es
  | .tup es => Xp.tchs es
  | .lst es => Xp.tchs es
  | .dct _ es => Xp.tchs es
  | .and a b => a.tch ++ b.tch
  | .or a b => a.tch ++ b.tch
  | .not a => a.tch
  | .ite c a b => c.tch ++ a.tch ++ b.tch
  | .chain _ _ a b c => a.tch ++ b.tch ++ c.tch
  | .call _ es l => Xp.tchs es ++ l.filterMap id
  | .comp own _ it cs e => own ++ it.tch ++ Xp.tchs cs ++ e.tch
  | .comp2 own _ it cs _ it2 cs2 e => own ++ it.tch ++ Xp.tchs cs ++ it2.tch ++ Xp.tchs cs2 ++ e.tch
  | .meth _ a es => a.base ++ a.tch ++ Xp.tchs es
  | .mk _ es => Xp.tchs es
  | .told _ e => e.tch
  | .thunk => []
  | .ofIt _ it => it.tch
def Xp.tchs : List Xp → List Nat
  | [] => []
  | e :: es => e.tch ++ Xp.tchs es
def It.tch : It → List Nat
  | .seq e => e.tch | .range es => Xp.tchs es | .enum e => e.tch | .zip a b => a.tch ++ b.tch
end
mutual
/-- the slots that stand in it -/
def Xp.vars : Xp → List Nat
  | .c _ => [] | .v i => [i]
  | .sub a i => a.vars ++ i.vars
  | .p _ es => Xp.varss es
  | .tup es => Xp.varss es
  | .lst es => Xp.varss es
  | .dct _ es => Xp.varss es
  | .and a b => a.vars ++ b.vars
  | .or a b => a.vars ++ b.vars
  | .not a => a.vars
  | .ite c a b => c.vars ++ a.vars ++ b.vars
  | .chain _ _ a b c => a.vars ++ b.vars ++ c.vars
  | .call _ es l => Xp.varss es ++ l.filterMap id
  | .comp _ _ it cs e => it.vars ++ Xp.varss cs ++ e.vars
  | .comp2 _ _ it cs _ it2 cs2 e => it.vars ++ Xp.varss cs ++ it2.vars ++ Xp.varss cs2 ++ e.vars
  | .meth _ a es => a.vars ++ Xp.varss es
  | .mk _ es => Xp.varss es
  | .told _ e => e.vars
  | .thunk => []
  | .ofIt _ it => it.vars
def Xp.varss : List Xp → List Nat
  | [] => []
  | e :: es => e.vars ++ Xp.varss es
def It.vars : It → List Nat
  | .seq e => e.vars | .range es => Xp.varss es | .enum e => e.vars | .zip a b => a.vars ++ b.vars
end
def stillAt (is : List Nat) (e : Ls) : Ls := is.foldl (fun e i => match e.at i with
  | some s => e.put i 0 s.d
  | none => e) e
def minK : List Sl → Nat
  | [] => capK
  | s :: r => min s.k (minK r)
mutual
def Tg.slots : Tg → List Nat
  | .v i _ => [i]
  | .tup ts => Tg.slotss ts
def Tg.slotss : List Tg → List Nat
  | [] => []
  | t :: ts => t.slots ++ Tg.slotss ts
end
mutual
def Tg.put : Tg → Nat → D → List Nat → Ls → Option Ls
  | .v i n, k, d, ls, e => if ls.contains i || !decide (i < e.length) then none else some (e.put i (min k n) d)
  | .tup ts, k, d, ls, e => match d with
    | .tup ds => Tg.puts ts k ds ls e
    | _ => none
def Tg.puts : List Tg → Nat → List D → List Nat → Ls → Option Ls
  | [], _, [], _, e => some e
  | t :: ts, k, d :: ds, ls, e => (t.put k d ls e).bind fun e => Tg.puts ts k ds ls e
  | _, _, _, _, _ => none
end
def wipeE (e : Ls) : List Nat → Ls
  | [] => e
  | i :: r => (wipeE e r).set i none
def backE (old e : Ls) : List Nat → Ls
  | [] => e
  | i :: r => (backE old e r).set i (old.at i)
def enumL (n : Nat) : List D → List D
  | [] => []
  | d :: r => .tup [.int n, d] :: enumL (n + 1) r
/-- a changing method: the part behind it, what it hands back, how far the part may be owned then -/
def mutD (m : Nat) (k : Nat) (d : D) (xs : List Sl) : Option (D × D × Nat) := match m, d, xs with
  | 0, .lst ds, [x] => if okLen ds.length then some (.lst (ds ++ [x.d]), .non, min k (x.k + 1)) else none
  | 1, .lst ds, [x] => (match x.d with
    | .lst ys => if okLen (ds.length + ys.length) then some (.lst (ds ++ ys), .non, min k x.k) else none
    | _ => none)
  | 2, .lst ds, [] => (match ds.getLast? with
    | some x => some (.lst ds.dropLast, x, k)
    | none => none)
  | 2, .lst ds, [i] => (match i.d with
    | .int j => (match ixD ds.length j with
      | some j => (match ds[j]? with
        | some x => some (.lst (ds.eraseIdx j), x, k)
        | none => none)
      | none => none)
    | _ => none)
  | 3, .lst ds, [i, x] => (match i.d with
    | .int j => if 0 ≤ j then some (.lst (ds.take j.toNat ++ [x.d] ++ ds.drop j.toNat), .non, min k (x.k + 1)) else none
    | _ => none)
  | 4, .dct ks vs, [x, y] => (match lookD ks vs x.d with
    | some v => some (.dct ks vs, v, k)
    | none => let p := putKV ks vs x.d y.d; some (.dct p.1 p.2, y.d, min k (y.k + 1)))
  | 5, .dct ks vs, [x] => (match x.d with
    | .dct ls ws => let p := (ls.zip ws).foldl (fun kv q => putKV kv.1 kv.2 q.1 q.2) (ks, vs); some (.dct p.1 p.2, .non, min k (x.k - 1 + 1))
    | _ => none)
  | 6, .dct ks vs, [x, y] => (match findK ks x.d with
    | some i => (match vs[i]? with
      | some (.lst ds) => if 2 ≤ k then some (.dct ks (vs.set i (.lst (ds ++ [y.d]))), .non, min k (y.k + 2)) else none
      | _ => none)
    | none => some (.dct (ks ++ [x.d]) (vs ++ [.lst [y.d]]), .non, min k (y.k + 2)))
  | _, _, _ => none

section
variable (F : Nat → List Sl → CR) (T : Tb) (G : Nat → (Ls → R Vw) → Ls → R Vw) (th : Option (Ls × (Ls → R Vw)))
/-- a loop over items -/
def forL (body : Ls → Q) (put : D → Ls → Option Ls) : List D → Ls → Q
  | [], e => .nx e
  | d :: r, e => match put d e with
    | none => .bad "target"
    | some e => (match body e with
      | .nx e => forL body put r e
      | .ct e => forL body put r e
      | .brk e => .nx e
      | q => q)
def whlL (cond : Ls → R Bool) (body : Ls → Q) : Nat → Ls → Q
  | 0, _ => .bad "while"
  | n + 1, e => match cond e with
    | .ok false e => .nx e
    | .ok true e => (match body e with
      | .nx e => whlL cond body n e
      | .ct e => whlL cond body n e
      | .brk e => .nx e
      | q => q)
    | .rs c x => .rs c x
    | .bad m => .bad m
def noRs {α : Type} : R α → R α
  | .rs _ _ => .bad "raise in a comprehension"
  | r => r
def compL (test : Ls → R Bool) (elt : Ls → R Sl) (put : D → Ls → Option Ls) : List D → List Sl → Ls → R (List Sl)
  | [], acc, e => .ok acc.reverse e
  | d :: r, acc, e => match put d e with
    | none => .bad "target"
    | some e => (noRs (test e)).bind fun t e => if t then (noRs (elt e)).bind fun x e => compL test elt put r (x :: acc) e else compL test elt put r acc e
def ofO {α : Type} (o : Option α) (e : Ls) (m : String) : R α := match o with
  | some a => .ok a e
  | none => .bad m
/-- what is gone through, and the slots that must not change meanwhile -/
abbrev Itv := List D × List Nat
def own1 (v : Vw) (e : Ls) : Option Nat := match v.src with
  | some (i, p) => if ownAt e i p = 1 then some i else none
  | none => none
def itsF (v : Vw) (e : Ls) : R Itv := match v.d, own1 v e with
  | .lst l, some i => .ok (l, [i]) e
  | _, _ => let r := asF v e; ofO (r.1.its.map fun l => (l, [])) r.2 "not a sequence"
def isLst : D → Bool
  | .lst _ => true | _ => false
def rangeL : List D → Option (List D)
  | [.int n] => if -(2 ^ 62) ≤ n ∧ n < 2 ^ 62 then some ((List.range n.toNat).map fun (i : Nat) => .int (0 + (i : Int))) else none
  | [.int a, .int b] => if -(2 ^ 62) ≤ a ∧ a < 2 ^ 62 ∧ -(2 ^ 62) ≤ b ∧ b < 2 ^ 62 then some ((List.range (b - a).toNat).map fun (i : Nat) => .int (a + (i : Int))) else none
  | _ => none
def borsOf (xs : List (D × Option Nat)) : List Nat := xs.filterMap (·.2)
def lendIn (e : Ls) : List (D × Option Nat) → List (Option Nat) → Option (List Sl)
  | [], [] => some []
  | x :: xs, none :: l => (lendIn e xs l).map (⟨0, x.1⟩ :: ·)
  | _ :: xs, some i :: l => (e.at i).bind fun s => if s.k = 0 then none else (lendIn e xs l).map (s :: ·)
  | _, _ => none
def lentOk (e : Ls) (l : List (Option Nat)) : Bool := (l.filterMap id).all fun i => (e.at i).isSome
def lendOut : List (Option Nat) → List Sl → Ls → Option Ls
  | [], [], e => some e
  | none :: l, o, e => lendOut l o e
  | some i :: l, o :: os, e => lendOut l os (e.put i o.k o.d)
  | _, _, _ => none

def mutOk (a : Xp) (v : Vw) (ts : List Nat) : Bool := !clash (v.src.map (·.1)) ts && (match v.src with | some q => a.base.contains q.1 | none => false)
def appOk (a : Xp) (v : Vw) (x : Xp) : Bool := !clash (v.src.map (·.1)) x.tch && isLst v.d && (match v.src with | some q => a.base.contains q.1 | none => false)
def appendR (v : Vw) (x : Sl) (e : Ls) : R Vw := match v.src with
  | some q => (match e.at q.1 with
    | some s => (match partAt s.d q.2 with
      | .lst ds => if okLen ds.length && decide (dep s.d q.2 < s.k) && decide (s.k ≤ dep s.d q.2 + 1 + x.k) then .ok (new 0 .non) (e.put q.1 s.k (putAt s.d q.2 (.lst (ds ++ [x.d])))) else .bad "append"
      | _ => .bad "append")
    | none => .bad "append")
  | none => .bad "append"
def subR (v w : Vw) (e : Ls) : R Vw := match v.d with
      | .dct ks vs => (match (if keyOk w.d then findK ks w.d else none) with
        | some j => (match vs[j]? with
          | some x => .ok ⟨x, 0, v.src.map fun q => (q.1, q.2 ++ [j])⟩ e
          | none => .bad "dict")
        | none => .bad "key")
      | .tup ds => (match w.d with
        | .int n => (match ixD ds.length n with
          | some j => .ok ⟨ds.getD j .non, 0, v.src.map fun q => (q.1, q.2 ++ [j])⟩ e
          | none => .bad "index")
        | _ => .bad "index kind")
      | .lst ds => (match w.d with
        | .int n => (match ixD ds.length n with
          | some j => .ok ⟨ds.getD j .non, 0, v.src.map fun q => (q.1, q.2 ++ [j])⟩ e
          | none => .bad "index")
        | _ => .bad "index kind")
      | .str s => (match w.d with
        | .int n => (match ixD s.length n with
          | some j => .ok (new 0 (.str [s.getD j 0])) e
          | none => .bad "index")
        | _ => .bad "index kind")
      | .scr ns => (match w.d with
        | .int n => (match ixD ns.length n with
          | some j => .ok (new 0 (.int (ns.getD j 0))) e
          | none => .bad "index")
        | _ => .bad "index kind")
      | _ => .bad "item of"
mutual
def ev : Xp → Ls → R Vw
  | .c d, e => .ok (new 0 d) e
  | .v i, e => match e.at i with
    | some s => .ok ⟨s.d, 0, some (i, [])⟩ e
    | none => .bad (badN "slot" i)
  | .sub a i, e => (ev a e).bind fun v e => if clash (v.src.map (·.1)) i.tch then .bad "sub" else (ev i e).bind fun w e => subR v w e
  | .p op es, e => (evP op.emb es e).bind fun ds e => (match primD (supT T) op ds with
      | some d => .ok (new (freshP op d) d) e
      | none => .bad (badPr op ds))
  | .tup es, e => (evO es e).bind fun xs e => .ok (new (minK xs) (.tup (xs.map (·.d)))) e
  | .lst es, e => (evO es e).bind fun xs e => .ok (new (min capK (minK xs + 1)) (.lst (xs.map (·.d)))) e
  | .dct ks es, e => (evO es e).bind fun xs e => if okKeys ks && ks.length == es.length then .ok (new (min capK (minK xs + 1)) (.dct ks (xs.map (·.d)))) e else .bad "dict"
  | .and a b, e => (ev a e).bind fun v e => let r := asO v e; (match truth r.1.d with
      | some true => (ev b r.2).bind fun w e => let r := asO w e; .ok (new r.1.k r.1.d) r.2
      | some false => .ok (new r.1.k r.1.d) r.2
      | none => .bad "truth")
  | .or a b, e => (ev a e).bind fun v e => let r := asO v e; (match truth r.1.d with
      | some false => (ev b r.2).bind fun w e => let r := asO w e; .ok (new r.1.k r.1.d) r.2
      | some true => .ok (new r.1.k r.1.d) r.2
      | none => .bad "truth")
  | .not a, e => (ev a e).bind fun v e => (match truth v.d with
      | some b => .ok (new 0 (.bl (!b))) e
      | none => .bad "truth")
  | .ite c a b, e => (ev c e).bind fun v e => (match truth v.d with
      | some true => (ev a e).bind fun w e => let r := asO w e; .ok (new r.1.k r.1.d) r.2
      | some false => (ev b e).bind fun w e => let r := asO w e; .ok (new r.1.k r.1.d) r.2
      | none => .bad "truth")
  | .chain o1 o2 a b c, e => (ev a e).bind fun v e => if clash (v.on e) (b.tch ++ c.tch) then .bad "chain" else (ev b e).bind fun u e => if clash (u.on e) c.tch then .bad "chain" else (match cmpD o1 v.d u.d with
      | some true => (ev c e).bind fun w e => (match cmpD o2 u.d w.d with
        | some t => .ok (new 0 (.bl t)) e
        | none => .bad "chain")
      | some false => .ok (new 0 (.bl false)) e
      | none => .bad "chain")
  | .call f es l, e => if lentOk e l then (evA (l.filterMap id) es e).bind fun xs e => (match lendIn e xs l with
      | none => .bad (badN "lend" f)
      | some as => (match F f as with
        | .ok k d outs => (match lendOut l outs (if d.owned k && outs.all (fun s => s.d.owned s.k) then e else stillAt (borsOf xs) e) with
          | none => .bad "lend out"
          | some e => .ok (new k d) e)
        | .rs c x => .rs c x
        | .bad m => .bad m)) else .bad "lend"
  | .comp own t it cs el, e => (evI it e).bind fun ds e0 => if ds.2.any (own ++ Xp.tchs cs ++ el.tch).contains || !okLen ds.1.length || !t.slots.all own.contains then .bad "changed while gone through" else
      (compL (fun e => evTs cs e) (fun e => (ev el e).bind fun v e => let r := asO v e; .ok r.1 r.2) (fun d e => t.put 0 d [] (wipeE e own)) ds.1 [] e0).bind fun xs e =>
        .ok (new (min capK (minK xs + 1)) (.lst (xs.map (·.d)))) (backE e0 e own)
  | .comp2 .., _ => .bad "two fors"
  | .meth m a es, e => (match m, es with
      | 0, [x] => (ev a e).bind fun v e => if appOk a v x then (ev x e).bind fun w e => appendR v (asO w e).1 (asO w e).2 else .bad "append"
      | _, _ => .bad "method")
  | .mk c es, e => (evP true es e).bind fun ds e => (match ds with
      | [] => .ok (new 0 (.exc c .non)) e
      | [x] => .ok (new 0 (.exc c x)) e
      | _ => .bad "mk")
  | .told f el, e => G f (fun e => ev el e) (stillAt el.vars e)
  | .thunk, e => match th with
    | some (e0, g) => (match g e0 with
      | .ok v e1 => let r := asO v e1; .ok (new 0 r.1.d) e
      | .rs c x => .rs c x
      | .bad m => .bad m)
    | none => .bad "thunk"
  | .ofIt _ _, _ => .bad "of an iteration"
/-- operands, from the left: looked at, or (emb) kept -/
def evP (emb : Bool) : List Xp → Ls → R (List D)
  | [], e => .ok [] e
  | x :: es, e => (ev x e).bind fun v e => if emb then (let r := asF v e; (evP emb es r.2).bind fun ds e => .ok (r.1 :: ds) e) else if clash (v.on e) (Xp.tchs es) then .bad "operand" else (evP emb es e).bind fun ds e => .ok (v.d :: ds) e
/-- arguments -/
def evA (ls : List Nat) : List Xp → Ls → R (List (D × Option Nat))
  | [], e => .ok [] e
  | x :: es, e => (ev x e).bind fun v e1 => if clash (v.on e1) (ls ++ Xp.tchs es) then .bad "argument" else (evA ls es e1).bind fun ds e => .ok ((v.d, v.on e1) :: ds) e
def evO : List Xp → Ls → R (List Sl)
  | [], e => .ok [] e
  | x :: es, e => (ev x e).bind fun v e => let r := asO v e; (evO es r.2).bind fun ds e => .ok (r.1 :: ds) e
def evI : It → Ls → R Itv
  | .seq x, e => (ev x e).bind fun v e => itsF v e
  | .range es, e => (evP false es e).bind fun ds e => ofO ((rangeL ds).map fun l => (l, [])) e "range"
  | .enum x, e => (ev x e).bind fun v e => if isLst v.d then (itsF v e).bind fun ds e => .ok (enumL 0 ds.1, ds.2) e else .bad "enumerate"
  | .zip a b, e => (ev a e).bind fun v e => if isLst v.d then (itsF v e).bind fun l e => if l.2.any b.tch.contains then .bad "zip" else (ev b e).bind fun w e => if isLst w.d then (itsF w e).bind fun m e => .ok ((l.1.zip m.1).map fun p => .tup [p.1, p.2], l.2 ++ m.2) e else .bad "zip" else .bad "zip"
def evTs : List Xp → Ls → R Bool
  | [], e => .ok true e
  | c :: cs, e => (ev c e).bind fun v e => (match truth v.d with
      | some true => evTs cs e
      | some false => .ok false e
      | none => .bad "truth")
end
def evT (c : Xp) (e : Ls) : R Bool := (ev F T G th c e).bind fun v e => ofO (truth v.d) e "truth"
/-- what is handed back: a local name's thing moves out -/
def evR1 (ls : List Nat) (x : Xp) (e : Ls) : R Sl := match x with
  | .v i => (match e.at i with
    | some s => if s.k = 0 || ls.contains i then (ev F T G th (.v i) e).bind fun v e => let r := asO v e; .ok r.1 r.2 else .ok s (e.set i none)
    | none => .bad (badN "slot" i))
  | x => (ev F T G th x e).bind fun v e => let r := asO v e; .ok r.1 r.2
def evRs (ls : List Nat) : List Xp → Ls → R (List Sl)
  | [], e => .ok [] e
  | x :: es, e => (evR1 F T G th ls x e).bind fun s e => (evRs ls es e).bind fun ss e => .ok (s :: ss) e
def evR (ls : List Nat) (x : Xp) (e : Ls) : R Sl := match x with
  | .tup es => (evRs F T G th ls es e).bind fun xs e => .ok ⟨minK xs, .tup (xs.map (·.d))⟩ e
  | x => evR1 F T G th ls x e
def toQ {α : Type} (r : R α) (f : α → Ls → Q) : Q := match r with
  | .ok a e => f a e
  | .rs c x => .rs c x
  | .bad m => .bad m
end
mutual
/-- the slots that may hold something else, or something changed, behind it -/
def Sm.sets : Sm → List Nat
  | .set t x => Tg.slots t ++ x.tch
  | .setSub a i x => a.base ++ a.tch ++ i.tch ++ x.tch
  | .augSub _ a i x => a.base ++ a.tch ++ i.tch ++ x.tch
  | .aug _ i x => i :: x.tch
  | .ex x => x.tch
  | .ite c a b => c.tch ++ Sm.setss a ++ Sm.setss b
  | .for t it b => Tg.slots t ++ it.tch ++ Sm.setss b
  | .whl c b => c.tch ++ Sm.setss b
  | .ret x => x.tch ++ x.vars
  | .raise _ es => Xp.tchs es
  | .try b hs => Sm.setss b ++ hs.sets
  | _ => []
def Sm.setss : List Sm → List Nat
  | [] => []
  | s :: r => s.sets ++ Sm.setss r
def Hs.sets : Hs → List Nat
  | .nil => []
  | .cons _ nm b r => nm.toList ++ Sm.setss b ++ r.sets
end
def putsO : List Tg → List Sl → List Nat → Ls → Option Ls
  | [], [], _, e => some e
  | t :: ts, x :: xs, ls, e => (t.put x.k x.d ls e).bind fun e => putsO ts xs ls e
  | _, _, _, _ => none
/-- numbers alone -/
def augI : Pr → D → D → Option D
  | .add, .int a, .int b => some (.int (a + b))
  | .sub, .int a, .int b => some (.int (a - b))
  | _, _, _ => none
def setAt (a : Vw) (w : D) (x : Sl) (e : Ls) : Option Ls := match a.src with
  | none => none
  | some q => (e.at q.1).bind fun s => if decide (dep s.d q.2 < s.k) && decide (s.k ≤ dep s.d q.2 + 1 + x.k) then (match partAt s.d q.2, w with
    | .lst ds, .int n => (ixD ds.length n).bind fun j => some (e.put q.1 s.k (putAt s.d q.2 (.lst (ds.set j x.d))))
    | .dct ks vs, w => if keyOk w && okLen ks.length then some (e.put q.1 s.k (putAt s.d q.2 (.dct (putKV ks vs w x.d).1 (putKV ks vs w x.d).2))) else none
    | _, _ => none) else none
section
variable (F : Nat → List Sl → CR) (T : Tb) (G : Nat → (Ls → R Vw) → Ls → R Vw) (th : Option (Ls × (Ls → R Vw))) (ls : List Nat) (fuel : Nat)
mutual
def exec : Sm → Ls → Q
  | .set (.tup ts) (.tup es), e => toQ (evO F T G th es e) fun xs e => (match putsO ts xs ls e with
      | some e => .nx e
      | none => .bad "assign")
  | .set t x, e => toQ (ev F T G th x e) fun v e => let r := asO v e; (match t.put r.1.k r.1.d ls r.2 with
      | some e => .nx e
      | none => .bad "assign")
  | .setSub a i x, e => toQ (ev F T G th x e) fun v e => toQ (ev F T G th a (asO v e).2) fun w e1 => if mutOk a w i.tch then toQ (ev F T G th i e1) fun u e2 => (match setAt w u.d (asO v e).1 e2 with
      | some e => .nx e
      | none => .bad "a[i] =") else .bad "a[i] ="
  | .augSub op a i x, e => toQ (ev F T G th a e) fun w e1 => if mutOk a w (i.tch ++ x.tch) then toQ (ev F T G th i e1) fun u e2 => if u.d.atom then toQ (subR w u e2) fun o e3 => if o.d.atom then toQ (ev F T G th x e3) fun y e4 => (match augI op o.d y.d with
      | some d => (match setAt w u.d ⟨capK, d⟩ e4 with
        | some e => .nx e
        | none => .bad "a[i] op=")
      | none => .bad "a[i] op=") else .bad "a[i] op=" else .bad "a[i] op=" else .bad "a[i] op="
  | .aug op i x, e => toQ (ev F T G th (.v i) e) fun o e1 => toQ (ev F T G th x e1) fun y e2 => (match augI op o.d y.d with
      | some d => if ls.contains i then .bad "aug" else .nx (e2.put i 0 d)
      | none => .bad "aug")
  | .ex x, e => toQ (ev F T G th x e) fun _ e => .nx e
  | .ite c a b, e => toQ (evT F T G th c e) fun t e => if t then execs a e else execs b e
  | .for t it b, e => toQ (evI F T G th it e) fun ds e => if ds.2.any (t.slots ++ Sm.setss b).contains then .bad "changed while gone through" else forL (fun e => execs b e) (fun d e => t.put 0 d ls e) ds.1 e
  | .whl c b, e => whlL (fun e => evT F T G th c e) (fun e => execs b e) fuel e
  | .ret x, e => toQ (evR F T G th ls x e) fun s e => .ret s.k s.d e
  | .retN, e => .ret 0 .non e
  | .raise c es, e => toQ (evP F T G th true es e) fun ds _ => (match ds with
      | [] => .rs c .non
      | [x] => .rs c x
      | _ => .bad "raise")
  | .try b hs, e => (match execs b e with
      | .rs c x => handle c x hs ((Sm.setss b).foldl (fun e i => e.set i none) e.still)
      | q => q)
  | .pass, e => .nx e
  | .brk, e => .brk e
  | .cont, e => .ct e
def execs : List Sm → Ls → Q
  | [], e => .nx e
  | s :: r, e => match exec s e with
    | .nx e => execs r e
    | q => q
def handle (c : Nat) (x : D) : Hs → Ls → Q
  | .nil, _ => .rs c x
  | .cons cs nm b r, e => if (T.sup c).any cs.contains then (match nm with
      | some i => (match execs b (e.put i 0 (.exc c x)) with
        | .nx e => .nx (e.set i none)
        | .brk e => .brk (e.set i none)
        | .ct e => .ct (e.set i none)
        | q => q)
      | none => execs b e) else handle c x r e
end
end
def outsOf (e : Ls) : List Nat → Option (List Sl)
  | [] => some []
  | i :: r => (e.at i).bind fun s => (outsOf e r).map (s :: ·)
def endOf (f : Fd) : Q → CR
  | .ret k d e => (match outsOf e f.chg with
    | some o => .ok k d o
    | none => .bad "outs")
  | .nx e => (match outsOf e f.chg with
    | some o => .ok 0 .non o
    | none => .bad "outs")
  | .rs c x => .rs c x
  | .bad m => .bad (f.name ++ ": " ++ m)
  | _ => .bad "loop"
def startOf (f : Fd) (as : List Sl) : Ls := as.map some ++ List.replicate (f.ns - f.np) none
mutual
def callN (T : Tb) (w : Nat) : Nat → Nat → List Sl → CR
  | 0, _, _ => .bad "depth"
  | n + 1, f, as => match T.fns[f]? with
    | none => .bad "no such"
    | some fd => if as.length = fd.np then endOf fd (execs (callN T w n) T (toldN T w n) none fd.chg w fd.body (startOf fd as)) else .bad (fd.name ++ " arity")
def toldN (T : Tb) (w : Nat) : Nat → Nat → (Ls → R Vw) → Ls → R Vw
  | 0, _, _, _ => .bad "depth"
  | n + 1, f, g, e => match T.fns[f]? with
    | none => .bad "no such"
    | some fd => match endOf fd (execs (callN T w n) T (toldN T w n) (some (e, g)) fd.chg w fd.body (startOf fd [⟨0, .non⟩])) with
      | .ok k d _ => .ok (new k d) e
      | .rs c x => .rs c x
      | .bad m => .bad m
end
end Ev
end
section
set_option linter.all false
namespace Ev
open PySem
/-! from the model's syntax to this one -/
structure Mt where
  N : List Str
  needs : List Nat
  chg : List Nat
  deriving Inhabited
inductive Gk where
  | fn (i : Nat) (ps : List Str) (dfl : List (Option D)) (chg : List Nat) (told : Bool)
  | cls (c : Nat)
  | con (d : D)
  deriving Inhabited
structure Cc where
  m : Mt
  gl : List (Str × Gk)
  deriving Inhabited
abbrev C (α : Type) := Except String α
def strL (s : Str) : List Nat := s.cps.toList
def slotOf (cc : Cc) (x : Str) : Option Nat := cc.m.N.idxOf? x
def isLoc (sc : Scope) (x : Str) : Bool := match sc.names.lookup x with
  | some .local => true | some .cell => true | some .free => true | _ => false
def constD : Const → Option D
  | .none => some .non | .bool b => some (.bl b) | .int i => some (.int i) | .str s => some (.str (strL s)) | _ => none
def binPr : Operator → Option Pr
  | .Add => some .add | .Sub => some .sub | .Mult => some .mul | .FloorDiv => some .fdiv | .Mod => some .mod | .Pow => some .pow
  | .LShift => some .lshift | .RShift => some .rshift | .BitAnd => some .band | _ => none
def cmpPr : CmpOp → Cmp
  | .Eq => .eq | .NotEq => .ne | .Lt => .lt | .LtE => .le | .Gt => .gt | .GtE => .ge | .Is => .is | .IsNot => .isNot | .In => .inn | .NotIn => .notIn
def typeNo (cc : Cc) (x : Str) : Option Nat := match cc.gl.lookup x with
  | some (.cls c) => some c
  | some _ => none
  | none => if x == ("int" : Str) then some 0 else if x == ("str" : Str) then some 1 else if x == ("bool" : Str) then some 2 else if x == ("tuple" : Str) then some 3
    else if x == ("list" : Str) then some 4 else if x == ("dict" : Str) then some 5 else if x == ("set" : Str) then some 6
    else if x == ("ValueError" : Str) then some 90 else if x == ("LookupError" : Str) then some 91 else if x == ("OverflowError" : Str) then some 92 else if x == ("Exception" : Str) then some 93 else none
def bltPr (x : Str) : Option Pr :=
  if x == ("len" : Str) then some .len else if x == ("tuple" : Str) then some .tuple else if x == ("list" : Str) then some .list else if x == ("sum" : Str) then some .sum
  else if x == ("all" : Str) then some .all else if x == ("any" : Str) then some .any else if x == ("sorted" : Str) then some .sorted else if x == ("min" : Str) then some .min
  else if x == ("max" : Str) then some .max else if x == ("int" : Str) then some .int else if x == ("abs" : Str) then some .abs else if x == ("repr" : Str) then some .repr
  else if x == ("str" : Str) then some .strOf else if x == ("set" : Str) then some .set else if x == ("dict" : Str) then some .dictOf else if x == ("bool" : Str) then some .bool
  else if x == ("range" : Str) then some .range else none
def metPr (x : Str) : Option Pr :=
  if x == ("join" : Str) then some .join else if x == ("index" : Str) then some .index else if x == ("count" : Str) then some .count else if x == ("replace" : Str) then some .replace
  else if x == ("split" : Str) then some .split else if x == ("endswith" : Str) then some .endswith else if x == ("startswith" : Str) then some .startswith else if x == ("get" : Str) then some .get
  else if x == ("upper" : Str) then some .upper else if x == ("items" : Str) then some .items else if x == ("keys" : Str) then some .keys else if x == ("values" : Str) then some .values else none
def mutNo (x : Str) : Option Nat :=
  if x == ("append" : Str) then some 0 else if x == ("extend" : Str) then some 1 else if x == ("pop" : Str) then some 2 else if x == ("insert" : Str) then some 3
  else if x == ("setdefault" : Str) then some 4 else if x == ("update" : Str) then some 5 else none
def ownOf (cc : Cc) (sc : Scope) : C (List Nat) := .ok ((sc.names.filter fun p => p.2 == .local || p.2 == .cell).filterMap fun p => slotOf cc p.1)
def tgC (cc : Cc) : Nat → Expr → C Tg
  | 0, _ => .error "fuel"
  | n + 1, .Name x _ => match slotOf cc x with
    | some i => .ok (.v i (cc.m.needs.getD i 0))
    | none => .error s!"target {x.cps}"
  | n + 1, .Tuple es _ _ => (es.mapM (tgC cc n)).map .tup
  | n + 1, .List es _ => (es.mapM (tgC cc n)).map .tup
  | _, _ => .error "target form"
def fillA (ps : List Str) (dfl : List (Option D)) (pos : List Xp) (kws : List (Str × Xp)) : C (List Xp) :=
  if kws.isEmpty && pos.length == ps.length then .ok pos else
  ((ps.zip dfl).mapIdx fun j p => (j, p)).mapM fun (j, p) => match pos[j]? with
    | some x => .ok x
    | none => match kws.lookup p.1 with
      | some x => .ok x
      | none => match p.2 with
        | some d => .ok (.c d)
        | none => .error s!"argument missing"
mutual
def cX (cc : Cc) : Nat → Scope → Expr → C Xp
  | 0, _, _ => .error "fuel"
  | n + 1, sc, e => match e with
    | .Constant c _ _ => match constD c with
      | some d => .ok (.c d)
      | none => .error "constant"
    | .Name x _ => if isLoc sc x then (match slotOf cc x with
        | some i => .ok (.v i)
        | none => .error s!"name") else (match cc.gl.lookup x with
        | some (.con d) => .ok (.c d)
        | _ => .error s!"name {(strL x).map Char.ofNat}")
    | .BinOp a o b _ => do
      let x ← cX cc n sc a; let y ← cX cc n sc b
      match binPr o with
      | some p => .ok (.p p [x, y])
      | none => .error "operator"
    | .UnaryOp .Not a _ => (cX cc n sc a).map .not
    | .UnaryOp .USub (.Constant (.int i) _ _) _ => .ok (.c (.int (-i)))
    | .UnaryOp .USub a _ => (cX cc n sc a).map fun x => .p .neg [x]
    | .BoolOp o (a :: b :: r) p => do
      let x ← cX cc n sc a
      let y ← (match r with
        | [] => cX cc n sc b
        | _ => cX cc n sc (.BoolOp o (b :: r) p))
      .ok (match o with | .And => .and x y | .Or => .or x y)
    | .Compare a [o] [b] _ => do
      let x ← cX cc n sc a; let y ← cX cc n sc b
      .ok (.p (.cmp (cmpPr o)) [x, y])
    | .Compare a [o, o'] [b, c] _ => do
      let x ← cX cc n sc a; let y ← cX cc n sc b; let z ← cX cc n sc c
      .ok (.chain (cmpPr o) (cmpPr o') x y z)
    | .IfExp c a b _ => do
      let x ← cX cc n sc c; let y ← cX cc n sc a; let z ← cX cc n sc b
      .ok (.ite x y z)
    | .Tuple es _ _ => (cXs cc n sc es).map .tup
    | .List es _ => (cXs cc n sc es).map .lst
    | .Dict ks vs _ => do
      let ds ← ks.mapM fun k => match k with
        | some (.Constant c _ _) => (match constD c with | some d => .ok d | none => .error "key")
        | _ => .error "key"
      let es ← cXs cc n sc vs
      .ok (.dct ds es)
    | .Subscript a (.Slice lo hi st _) _ => do
      let x ← cX cc n sc a
      let l ← cOpt cc n sc lo; let h ← cOpt cc n sc hi
      match st with
      | none => .ok (.p (.slice l.isSome h.isSome) (x :: (l.toList ++ h.toList).map fun e => .p .asInt [e]))
      | some (.UnaryOp .USub (.Constant (.int 1) _ _) _) => if l.isNone && h.isNone then .ok (.p .rev [x]) else .error "slice"
      | _ => .error "slice"
    | .Subscript a i _ => do
      let x ← cX cc n sc a; let y ← cX cc n sc i
      .ok (.sub x y)
    | .Attribute a f _ => if f == ("value" : Str) || f == ("place" : Str) || f == ("most" : Str) then (cX cc n sc a).map fun x => .p (.fldOf 0) [x] else .error s!"attribute"
    | .ListComp el [⟨t, it, ifs, _⟩] s2 _ => do
      let own ← ownOf cc s2
      let t ← tgC cc n t; let it ← cIt cc n sc it; let cs ← cXs cc n s2 ifs; let el ← cX cc n s2 el
      .ok (.comp own t it cs el)
    | .ListComp el [⟨t, it, ifs, _⟩, ⟨t1, it1, ifs1, _⟩] s2 _ => do
      let own ← ownOf cc s2
      let t ← tgC cc n t; let it ← cIt cc n sc it; let cs ← cXs cc n s2 ifs; let el ← cX cc n s2 el
      let t1 ← tgC cc n t1; let it1 ← cIt cc n s2 it1; let cs1 ← cXs cc n s2 ifs1
      .ok (.comp2 own t it cs t1 it1 cs1 el)
    | .Call (.Name f _) args kws _ => cCall cc n sc f args kws
    | .Call (.Attribute (.Call (.Attribute o m1 _) [k, .List [] _] [] _) m2 _) [v] [] _ => if m1 == ("setdefault" : Str) && m2 == ("append" : Str) then do
        let o ← cX cc n sc o; let k ← cX cc n sc k; let v ← cX cc n sc v
        .ok (.meth 6 o [k, v]) else .error "call of a call"
    | .Call (.Attribute o m _) args [] _ => do
      let x ← cX cc n sc o; let es ← cXs cc n sc args
      match mutNo m with
      | some k => .ok (.meth k x es)
      | none => match metPr m with
        | some p => .ok (.p p ((if p == .join || p == .index then .p .asStr [x] else x) :: es))
        | none => .error s!"method {(strL m).map Char.ofNat}"
    | _ => .error "expression"
def cCall (cc : Cc) : Nat → Scope → Str → List Expr → List Keyword → C Xp
  | 0, _, _, _, _ => .error "fuel"
  | n + 1, sc, f, args, kws => if isLoc sc f then (if args.isEmpty && kws.isEmpty then .ok .thunk else .error "call of a local") else match cc.gl.lookup f with
    | some (.fn i ps dfl chg told) => (match told, args with
      | true, [.Lambda _ b s2 _] => (cX cc n s2 b).map (.told i)
      | _, _ => do
        let pos ← cLs cc n sc chg 0 args
        let kv ← cKw cc n sc kws
        let es ← fillA ps dfl (pos.map (·.1)) kv
        .ok (.call i es ((pos.map (·.2)) ++ List.replicate (es.length - pos.length) none)))
    | some (.cls c) => do
        let pos ← cXs cc n sc args
        let kv ← cKw cc n sc kws
        .ok (.mk c (pos ++ kv.map (·.2)))
    | some (.con _) => .error "call of a constant"
    | none => if f == ("isinstance" : Str) then (match args with
        | [a, .Name t _] => do
          let x ← cX cc n sc a
          match typeNo cc t with
          | some k => .ok (.p (.isinst [k]) [x])
          | none => .error s!"type {(strL t).map Char.ofNat}"
        | [a, .Tuple ts _ _] => do
          let x ← cX cc n sc a
          let ks ← ts.mapM fun t => match t with
            | .Name t _ => (match typeNo cc t with | some k => .ok k | none => .error "type")
            | _ => .error "type"
          .ok (.p (.isinst ks) [x])
        | _ => .error "isinstance")
      else match bltPr f, args with
        | some p, [.Call (.Name g p1) as ks p2] => if isItName g && (cc.gl.lookup g).isNone then (if p == .len then .error "len of an iteration" else (cIt cc n sc (.Call (.Name g p1) as ks p2)).map (.ofIt p)) else (cX cc n sc (.Call (.Name g p1) as ks p2)).map fun x => .p p [x]
        | some p, _ => if kws.isEmpty then (cXs cc n sc args).map (.p p) else .error s!"keywords {(strL f).map Char.ofNat}"
        | none, _ => .error s!"call {(strL f).map Char.ofNat}"
def isItName (g : Str) : Bool := g == ("zip" : Str) || g == ("enumerate" : Str) || g == ("reversed" : Str) || g == ("range" : Str)
def cXs (cc : Cc) : Nat → Scope → List Expr → C (List Xp)
  | 0, _, _ => .error "fuel"
  | n + 1, sc, es => es.mapM fun e => (match e with
    | .Starred _ _ => .error "star"
    | e => cX cc n sc e)
def cLs (cc : Cc) : Nat → Scope → List Nat → Nat → List Expr → C (List (Xp × Option Nat))
  | 0, _, _, _, _ => .error "fuel"
  | n + 1, _, _, _, [] => .ok []
  | n + 1, sc, chg, j, e :: es => do
    let a ← (if chg.contains j then (match e with
        | .Name x _ => (if isLoc sc x then (match slotOf cc x with | some i => .ok (.c .non, some i) | none => .error "lend") else .error "lend")
        | _ => .error "lend of an expression") else (match e with
        | .Lambda .. => .error "lambda"
        | .Starred _ _ => .error "star"
        | e => (cX cc n sc e).map fun x => (x, none)))
    let r ← cLs cc n sc chg (j + 1) es
    .ok (a :: r)
def cKw (cc : Cc) : Nat → Scope → List Keyword → C (List (Str × Xp))
  | 0, _, _ => .error "fuel"
  | n + 1, sc, ks => ks.mapM fun k => match k.arg with
    | some x => (cX cc n sc k.value).map fun e => (x, e)
    | none => .error "**"
def cOpt (cc : Cc) : Nat → Scope → Option Expr → C (Option Xp)
  | 0, _, _ => .error "fuel"
  | n + 1, sc, o => match o with
    | some e => (cX cc n sc e).map some
    | none => .ok none
def cIt (cc : Cc) : Nat → Scope → Expr → C It
  | 0, _, _ => .error "fuel"
  | n + 1, sc, e => match e with
    | .Call (.Name f p1) args [] p2 => if (cc.gl.lookup f).isSome then (cX cc n sc e).map .seq
      else if f == ("range" : Str) then (cXs cc n sc args).map .range
      else if f == ("zip" : Str) then (match args with
        | [a, b] => do
          let x ← cX cc n sc a; let y ← cX cc n sc b
          .ok (.zip x y)
        | _ => .error "zip")
      else if f == ("enumerate" : Str) then (match args with
        | [a] => (cX cc n sc a).map .enum
        | _ => .error "enumerate")
      else (cX cc n sc e).map .seq
    | .Call (.Attribute o m _) [] [] _ => (cX cc n sc e).map .seq
    | e => (cX cc n sc e).map .seq
end
mutual
def cS (cc : Cc) : Nat → Scope → Stmt → C Sm
  | 0, _, _ => .error "fuel"
  | n + 1, sc, s => match s with
    | .Assign [.Subscript a i _] e _ => do
      let x ← cX cc n sc a; let y ← cX cc n sc i; let z ← cX cc n sc e
      .ok (.setSub x y z)
    | .Assign [t] e _ => do
      let t ← tgC cc n t; let z ← cX cc n sc e
      .ok (.set t z)
    | .AugAssign (.Name x _) o e _ => do
      let z ← cX cc n sc e
      match slotOf cc x, binPr o with
      | some i, some p => .ok (.aug p i z)
      | _, _ => .error "aug"
    | .AugAssign (.Subscript a i _) o e _ => do
      let x ← cX cc n sc a; let y ← cX cc n sc i; let z ← cX cc n sc e
      match binPr o with
      | some p => .ok (.augSub p x y z)
      | _ => .error "aug"
    | .Expr (.Constant ..) _ => .ok .pass
    | .Expr e _ => (cX cc n sc e).map .ex
    | .If c a b _ => do
      let x ← cX cc n sc c; let y ← cSs cc n sc a; let z ← cSs cc n sc b
      .ok (.ite x y z)
    | .For t it b [] _ => do
      let t ← tgC cc n t; let it ← cIt cc n sc it; let b ← cSs cc n sc b
      .ok (.for t it b)
    | .While c b [] _ => do
      let x ← cX cc n sc c; let y ← cSs cc n sc b
      .ok (.whl x y)
    | .Return (some e) _ => (cX cc n sc e).map .ret
    | .Return none _ => .ok .retN
    | .Raise (some (.Call (.Name x _) args [] _)) none _ => do
      let es ← cXs cc n sc args
      match cc.gl.lookup x with
      | some (.cls c) => .ok (.raise c es)
      | _ => .error "raise"
    | .Try b hs [] [] _ => do
      let b ← cSs cc n sc b; let h ← cHs cc n sc hs
      .ok (.try b h)
    | .Pass _ => .ok .pass
    | .Break _ => .ok .brk
    | .Continue _ => .ok .cont
    | _ => .error "statement"
def cSs (cc : Cc) : Nat → Scope → List Stmt → C (List Sm)
  | 0, _, _ => .error "fuel"
  | n + 1, sc, ss => ss.mapM (cS cc n sc)
def cHs (cc : Cc) : Nat → Scope → List ExceptHandler → C Hs
  | 0, _, _ => .error "fuel"
  | n + 1, sc, [] => .ok .nil
  | n + 1, sc, .ExceptHandler (some t) nm b _ :: r => do
    let ks ← (match t with
      | .Name x _ => (match typeNo cc x with | some k => .ok [k] | none => .error "class")
      | .Tuple ts _ _ => ts.mapM fun t => match t with
        | .Name x _ => (match typeNo cc x with | some k => .ok k | none => .error "class")
        | _ => .error "class"
      | _ => .error "class")
    let i ← (match nm with
      | some x => (match slotOf cc x with | some i => .ok (some i) | none => .error "name")
      | none => .ok none)
    let b ← cSs cc n sc b; let h ← cHs cc n sc r
    .ok (.cons ks i b h)
  | _, _, _ => .error "handler"
end
def cF (gl : List (Str × Gk)) (m : Mt) : Stmt → C Fd
  | .FunctionDef name args body _ _ _ sc _ _ _ => do
    let b ← cSs ⟨m, gl⟩ 100 sc body
    .ok ⟨(String.ofList ((strL name).map Char.ofNat)), args.args.length + args.kwonlyargs.length, m.N.length, m.chg, b⟩
  | _ => .error "no def"
end Ev
end
section
set_option linter.all false
set_option maxHeartbeats 1000000
namespace Ev
open PySem PyProof.Rows
/-! exceptions as values -/
/-- at a: an exception of the class at C, its dict, its arguments -/
def exa (a C : Addr) (d : Option Addr) (t : Addr) : L2.HO := .ext fun h => h.get? a = some ({ cls := .ref C, dict := d, data := .fields #[.ref t, .none, .none, .none, .bool false, .none] } : Obj)
theorem exa_own {a C t x : Addr} {d : Option Addr} : exa a C d t ≠ .own x := fun z => by
  have y : L2.HO.ext _ = L2.HO.own x := z
  cases y
theorem exa_tup {a C t : Addr} {d : Option Addr} {xs : List L2.V} : exa a C d t ≠ .tup xs := fun z => by
  have y : L2.HO.ext _ = L2.HO.tup xs := z
  cases y
theorem exa_frz {a C t : Addr} {d : Option Addr} {o : Obj} {u : L2.HO} : exa a C d t ≠ .frz o u := fun z => by
  have y : L2.HO.ext _ = L2.HO.frz o u := z
  cases y
theorem exa_tbl {a C t : Addr} {d : Option Addr} {ps : Array Value} : exa a C d t ≠ .tbl ps := fun z => by
  have y : L2.HO.ext _ = L2.HO.tbl ps := z
  cases y
theorem exa_ok {P : Program} {w : World} {H : L2.Hp} {h : Heap} {a C t : Addr} {d : Option Addr} (he : h.get? a = some ({ cls := .ref C, dict := d, data := .fields #[.ref t, .none, .none, .none, .bool false, .none] } : Obj)) : L2.ObjOk P w H h a (exa a C d t) :=
  ⟨he, ⟨_, he⟩, fun h1 h2 z k => k _ z⟩
theorem exa_at {P : Program} {w : World} {H : L2.Hp} {h : Heap} {a C t : Addr} {d : Option Addr} (hok : L2.HOk P w H h) (he : H a = some (exa a C d t)) : h.get? a = some ({ cls := .ref C, dict := d, data := .fields #[.ref t, .none, .none, .none, .bool false, .none] } : Obj) := by
  have x : L2.ObjOk P w H h a (.ext fun h => h.get? a = some ({ cls := .ref C, dict := d, data := .fields #[.ref t, .none, .none, .none, .bool false, .none] } : Obj)) := hok a _ he
  exact x.1
/-- the class of the number k -/
def clsV (K : PySem.W.Frag) (k : Nat) : Value := if k = 90 then .type "ValueError" else if k = 91 then .type "LookupError" else if k = 92 then .type "OverflowError" else if k = 93 then .type "Exception" else .ref (He.ga K (clsN k))
abbrev cA (K : PySem.W.Frag) (c : Nat) : Addr := He.ga K (clsN c)
/-- the class of the number c, by the written part: how its instances are looked at -/
def xkB (K : PySem.W.Frag) (c : Nat) : Bool :=
  decide (PySem.W.findIn K (.ref (cA K c)) "__getattribute__" = some (some (.builtin "BaseException.__getattribute__"))) && decide (PySem.W.findIn K (.ref (cA K c)) "__getattr__" = some none) && decide (PySem.W.subIn K (.ref (cA K c)) (.type "BaseException") = some true) &&
  PySem.W.hasDictIn K (cA K c) && decide (PySem.W.findIn K (.ref (cA K c)) "__class__" = some (some (.builtin "object.__class__"))) && decide (PySem.W.specialIn K (.builtin "object.__class__") "__get__" = some (some (.builtin "getset_descriptor.__get__"))) &&
  decide (PySem.W.takesIn K (.builtin "object.__class__") = some true) && decide (PySem.W.mroIn K (cA K c) (.type "object") = some true) && decide (PySem.W.findIn K (.ref (cA K c)) (fldS (fldNo c)) = some none) && decide (PySem.W.findIn K (.ref (cA K c)) "__str__" = some (some (.builtin "BaseException.__str__"))) &&
  (exTab.lookup c).isSome
structure Xk (K : PySem.W.Frag) (c : Nat) : Prop where
  ga : PySem.W.findIn K (.ref (cA K c)) "__getattribute__" = some (some (.builtin "BaseException.__getattribute__"))
  gg : PySem.W.findIn K (.ref (cA K c)) "__getattr__" = some none
  sb : PySem.W.subIn K (.ref (cA K c)) (.type "BaseException") = some true
  hd : PySem.W.hasDictIn K (cA K c) = true
  hc : PySem.W.findIn K (.ref (cA K c)) "__class__" = some (some (.builtin "object.__class__"))
  hn : PySem.W.specialIn K (.builtin "object.__class__") "__get__" = some (some (.builtin "getset_descriptor.__get__"))
  ht : PySem.W.takesIn K (.builtin "object.__class__") = some true
  hm : PySem.W.mroIn K (cA K c) (.type "object") = some true
  hf : PySem.W.findIn K (.ref (cA K c)) (fldS (fldNo c)) = some none
  hs : PySem.W.findIn K (.ref (cA K c)) "__str__" = some (some (.builtin "BaseException.__str__"))
theorem xk_of {K : PySem.W.Frag} {c : Nat} (h : xkB K c = true) : Xk K c := by
  simp only [xkB, Bool.and_eq_true, decide_eq_true_eq] at h
  obtain ⟨⟨⟨⟨⟨⟨⟨⟨⟨⟨h1, h2⟩, h3⟩, h4⟩, h5⟩, h6⟩, h7⟩, h8⟩, h9⟩, h10⟩, _⟩ := h
  exact ⟨h1, h2, h3, h4, h5, h6, h7, h8, h9, h10⟩
abbrev msgS (c : Nat) : Str := ⟨(msgN c).toArray⟩
/-- what is known of an own class of exceptions: how it is made -/
structure OxC (K : PySem.W.Frag) (C : Addr) (f : Str) (B newId initId : String) (bmB : List Value) : Prop where
  FB : ExcBaseFacts B newId initId bmB
  SF : StoreFacts B bmB "object.__setattr__" "object"
  q : PySem.W.excInitIn K C bmB newId = true
  hp : PySem.W.excOver K C bmB = true
  sa : PySem.W.findIn K (.ref C) "__setattr__" = some (some (.builtin "object.__setattr__"))
  tk : PySem.W.takerIn K C f = some none
  hd : PySem.W.hasDictIn K C = true
  kC : PySem.W.keepIn K (.ref C) = true
  iC : PySem.W.findIn K (.ref C) "__init__" = some (some (.ref (He.ma K C "__init__")))
  tI : PySem.W.typeIn K (.ref (He.ma K C "__init__")) = some (.type "function")
/-- an exception with its dict and its arguments -/
def putX (H : L2.Hp) (a C d t : Addr) (f : Str) (v : L2.V) (m : Str) : L2.Hp := L2.upd (L2.upd (L2.upd H t (.tup [.str m])) d (L2.exd d [(f, v)])) a (exa a C (some d) t)
/-- what an own __init__ keeps -/
def spX (C : Addr) (f m : Str) : L2.Sp := fun vs H Q _ => ∃ a v t0, vs = [.ref a, v] ∧ H a = some (exa a C none t0) ∧ ∀ t d, H t = none → H d = none → t ≠ a → d ≠ a → d ≠ t → Q .non (putX H a C d t f v m)
/-- how the class of the number c is made and called -/
structure MkW (P : Program) (w : World) (K : PySem.W.Frag) (mg : Str → Option Value) (base : Heap) (c : Nat) : Prop where
  glob : mg (clsN c) = some (.ref (cA K c))
  xk : xkB K c = true
  ex : ∃ B newId initId bmB fd, OxC K (cA K c) (fldS (fldNo c)) B newId initId bmB ∧ L2.FnOk P w K mg base (L2.CX P w) 1 (He.ma K (cA K c) "__init__") fd [("self" : Str), fldS (fldNo c)] (spX (cA K c) (fldS (fldNo c)) (msgS c)) ∧ L2.Binds K fd [("self" : Str), fldS (fldNo c)] [] ∧
    (∀ (s' : Shared) (self u : Value), K.In s'.heap → BindsTo s' fd ⟨[self], [(fldS (fldNo c), u)]⟩ ([("self" : Str), fldS (fldNo c)].zip [self, u])) ∧ (c = 116 ∨ ∃ ds, L2.Vals [.non] ds ∧ L2.Binds K fd [("self" : Str), fldS (fldNo c)] ds)
end Ev
end
section
set_option linter.all false
set_option maxHeartbeats 1000000
namespace Ev
open PySem
abbrev V := L2.V
abbrev Hp := L2.Hp
abbrev GSet := Addr → Prop

def keyV : D → Option L2.Key
  | .int i => some (.inl i)
  | .str s => some (.inr ⟨s.toArray⟩)
  | _ => none

/-- a list that stays as it is -/
inductive FzL (K : PySem.W.Frag) (G : GSet) (H : Hp) (a : Addr) (vs : List V) : Prop where
  | fz (h : H a = some (.lst vs)) (g : G a)
theorem FzL.sq {K : PySem.W.Frag} {G : GSet} {H : Hp} {a : Addr} {vs : List V} (h : FzL K G H a vs) : L2.SqL K H a vs := by
  cases h with
  | fz h g => exact .inl (.inl h)

/-- the script's numbers -/
inductive FzS (K : PySem.W.Frag) (G : GSet) (H : Hp) (a : Addr) (vs : List V) : Prop where
  | fz (h : H a = some (.lst vs)) (g : G a)
  | lk (o : Obj) (h : H a = some (.frz o (.lst vs)))
  | kk (o : Obj) (its : Array Value) (n : Nat) (h1 : K.lookup a = some o) (h2 : o.cls = .type "list") (h3 : o.dict = none) (h4 : o.data = .seq its n) (h5 : its.size ≤ sizeLine) (h6 : L2.Vals vs its.toList)
theorem FzS.sq {K : PySem.W.Frag} {G : GSet} {H : Hp} {a : Addr} {vs : List V} (h : FzS K G H a vs) : L2.SqL K H a vs := by
  cases h with
  | fz h g => exact .inl (.inl h)
  | lk o h => exact .inl (.inr ⟨o, h⟩)
  | kk o its n h1 h2 h3 h4 h5 h6 => exact .inr ⟨o, its, n, h1, h2, h3, h4, h5, h6⟩

mutual
/-- the value v stands for d; its things on k levels are owned: they stand at fp; the others stay as they are -/
inductive Rep (K : PySem.W.Frag) (G : GSet) (H : Hp) : Nat → D → V → List Addr → Prop
  | non {k} : Rep K G H k .non .non []
  | bl {k b} : Rep K G H k (.bl b) (.bl b) []
  | int {k i} : Rep K G H k (.int i) (.int i) []
  | str {k s} (h : s.length ≤ 1000000) : Rep K G H k (.str s) (.str ⟨s.toArray⟩) []
  | tup {k ds a vs fp} : L2.SqT K H a vs → Reps K G H k ds vs fp → Rep K G H k (.tup ds) (.ref a) fp
  | lstF {ds a vs fp} : FzL K G H a vs → Reps K G H 0 ds vs fp → Rep K G H 0 (.lst ds) (.ref a) fp
  | lstO {k ds a vs fp} : H a = some (.lst vs) → Reps K G H k ds vs fp → Rep K G H (k + 1) (.lst ds) (.ref a) (a :: fp)
  | dctF {ks ds a kvs fp} : H a = some (.dK kvs) → G a → ks.map keyV = kvs.map (fun p => some p.1) → (kvs.map (·.1)).Nodup → Reps K G H 0 ds (kvs.map (·.2)) fp → Rep K G H 0 (.dct ks ds) (.ref a) fp
  | dctO {k ks ds a kvs fp} : H a = some (.dK kvs) → ks.map keyV = kvs.map (fun p => some p.1) → (kvs.map (·.1)).Nodup → Reps K G H k ds (kvs.map (·.2)) fp → Rep K G H (k + 1) (.dct ks ds) (.ref a) (a :: fp)
  | scr {k ns a} : FzS K G H a (ns.map L2.V.int) → Rep K G H k (.scr ns) (.ref a) []
  | exc {k c x a d t v fp} : xkB K c = true → H a = some (exa a (cA K c) (some d) t) → G a → H d = some (L2.exd d [(fldS (fldNo c), v)]) → G d → H t = some (.tup [.str (msgS c)]) → Rep K G H 0 x v fp → Rep K G H k (.exc c x) (.ref a) fp
inductive Reps (K : PySem.W.Frag) (G : GSet) (H : Hp) : Nat → List D → List V → List Addr → Prop
  | nil {k} : Reps K G H k [] [] []
  | cons {k d v ds vs fp fps} : Rep K G H k d v fp → Reps K G H k ds vs fps → Reps K G H k (d :: ds) (v :: vs) (fp ++ fps)
end

section
variable {K : PySem.W.Frag} {G G' : GSet} {H H' : Hp}
/-- what is not owned stays: tuples, locked things, frozen things -/
structure Stays (G : GSet) (H H' : Hp) : Prop where
  tup : ∀ a xs, H a = some (.tup xs) → H' a = some (.tup xs)
  frz : ∀ a o u, H a = some (.frz o u) → H' a = some (.frz o u)
  gs : ∀ a o, G a → H a = some o → H' a = some o
theorem Stays.refl : Stays G H H := ⟨fun _ _ h => h, fun _ _ _ h => h, fun _ _ _ h => h⟩
theorem Stays.sqT (st : Stays G H H') {a : Addr} {vs : List V} (h : L2.SqT K H a vs) : L2.SqT K H' a vs := by
  rcases h with (h | ⟨o, h⟩) | h
  · exact .inl (.inl (st.tup _ _ h))
  · exact .inl (.inr ⟨o, st.frz _ _ _ h⟩)
  · exact .inr h
theorem Stays.fzL (st : Stays G H H') (g : ∀ a, G a → G' a) {a : Addr} {vs : List V} (h : FzL K G H a vs) : FzL K G' H' a vs := by
  cases h with
  | fz h q => exact .fz (st.gs _ _ q h) (g _ q)
theorem Stays.fzS (st : Stays G H H') (g : ∀ a, G a → G' a) {a : Addr} {vs : List V} (h : FzS K G H a vs) : FzS K G' H' a vs := by
  cases h with
  | fz h q => exact .fz (st.gs _ _ q h) (g _ q)
  | lk o h => exact .lk o (st.frz _ _ _ h)
  | kk o its n h1 h2 h3 h4 h5 h6 => exact .kk o its n h1 h2 h3 h4 h5 h6
mutual
theorem Rep.keep (g : ∀ a, G a → G' a) (st : Stays G H H') : ∀ {k d v fp}, Rep K G H k d v fp → (∀ a ∈ fp, H' a = H a) → Rep K G' H' k d v fp
  | _, _, _, _, .non, _ => .non
  | _, _, _, _, .bl, _ => .bl
  | _, _, _, _, .int, _ => .int
  | _, _, _, _, .str h, _ => .str h
  | _, _, _, _, .tup h r, e => .tup (st.sqT h) (Reps.keep g st r e)
  | _, _, _, _, .lstF h r, e => .lstF (st.fzL g h) (Reps.keep g st r e)
  | _, _, _, _, .lstO h r, e => .lstO ((e _ (List.mem_cons_self ..)).trans h) (Reps.keep g st r fun a q => e a (List.mem_cons_of_mem _ q))
  | _, _, _, _, .dctF h q n z r, e => .dctF (st.gs _ _ q h) (g _ q) n z (Reps.keep g st r e)
  | _, _, _, _, .dctO h n z r, e => .dctO ((e _ (List.mem_cons_self ..)).trans h) n z (Reps.keep g st r fun a q => e a (List.mem_cons_of_mem _ q))
  | _, _, _, _, .scr h, _ => .scr (st.fzS g h)
  | _, _, _, _, .exc h1 h2 h3 h4 h5 h6 r, e => .exc h1 (st.gs _ _ h3 h2) (g _ h3) (st.gs _ _ h5 h4) (g _ h5) (st.tup _ _ h6) (Rep.keep g st r e)
theorem Reps.keep (g : ∀ a, G a → G' a) (st : Stays G H H') : ∀ {k ds vs fp}, Reps K G H k ds vs fp → (∀ a ∈ fp, H' a = H a) → Reps K G' H' k ds vs fp
  | _, _, _, _, .nil, _ => .nil
  | _, _, _, _, .cons h r, e => .cons (Rep.keep g st h fun a q => e a (List.mem_append_left _ q)) (Reps.keep g st r fun a q => e a (List.mem_append_right _ q))
end
mutual
/-- owned on fewer levels -/
theorem Rep.lower : ∀ {k d v fp}, Rep K G H k d v fp → fp.Nodup → ∀ {j}, j ≤ k → ∃ fp', fp'.Sublist fp ∧ ∀ G' : GSet, (∀ a, G a → G' a) → (∀ a ∈ fp, a ∉ fp' → G' a) → Rep K G' H j d v fp'
  | _, _, _, _, .non, _, _, _ => ⟨[], List.Sublist.refl _, fun _ _ _ => .non⟩
  | _, _, _, _, .bl, _, _, _ => ⟨[], List.Sublist.refl _, fun _ _ _ => .bl⟩
  | _, _, _, _, .int, _, _, _ => ⟨[], List.Sublist.refl _, fun _ _ _ => .int⟩
  | _, _, _, _, .str h, _, _, _ => ⟨[], List.Sublist.refl _, fun _ _ _ => .str h⟩
  | _, _, _, _, .tup h r, nd, _, hj => by
    obtain ⟨fp', hs, hr⟩ := Reps.lower r nd hj
    exact ⟨fp', hs, fun G' g q => .tup h (hr G' g q)⟩
  | _, _, _, _, .lstF h r, nd, j, hj => by
    obtain rfl : j = 0 := Nat.le_zero.mp hj
    obtain ⟨fp', hs, hr⟩ := Reps.lower r nd (Nat.le_refl 0)
    exact ⟨fp', hs, fun G' g q => .lstF (Stays.refl.fzL g h) (hr G' g q)⟩
  | _, _, _, _, .lstO (k := k) (a := a) (fp := fp) h r, nd, j, hj => by
    obtain ⟨na, nd'⟩ := List.nodup_cons.mp nd
    cases j with
    | zero =>
      obtain ⟨fp', hs, hr⟩ := Reps.lower r nd' (Nat.zero_le k)
      refine ⟨fp', hs.cons a, fun G' g q => .lstF (.fz h (q a (List.mem_cons_self ..) fun z => na (hs.subset z))) (hr G' g fun b hb nb => q b (List.mem_cons_of_mem _ hb) nb)⟩
    | succ j =>
      obtain ⟨fp', hs, hr⟩ := Reps.lower r nd' (Nat.le_of_succ_le_succ hj)
      refine ⟨a :: fp', hs.cons₂ a, fun G' g q => .lstO h (hr G' g fun b hb nb => q b (List.mem_cons_of_mem _ hb) fun z => ?_)⟩
      rcases List.mem_cons.mp z with e | z
      · exact na (e ▸ hb)
      · exact nb z
  | _, _, _, _, .dctF h q n z r, nd, j, hj => by
    obtain rfl : j = 0 := Nat.le_zero.mp hj
    obtain ⟨fp', hs, hr⟩ := Reps.lower r nd (Nat.le_refl 0)
    exact ⟨fp', hs, fun G' g w => .dctF h (g _ q) n z (hr G' g w)⟩
  | _, _, _, _, .dctO (k := k) (a := a) (fp := fp) h n z r, nd, j, hj => by
    obtain ⟨na, nd'⟩ := List.nodup_cons.mp nd
    cases j with
    | zero =>
      obtain ⟨fp', hs, hr⟩ := Reps.lower r nd' (Nat.zero_le k)
      refine ⟨fp', hs.cons a, fun G' g q => .dctF h (q a (List.mem_cons_self ..) fun z => na (hs.subset z)) n z (hr G' g fun b hb nb => q b (List.mem_cons_of_mem _ hb) nb)⟩
    | succ j =>
      obtain ⟨fp', hs, hr⟩ := Reps.lower r nd' (Nat.le_of_succ_le_succ hj)
      refine ⟨a :: fp', hs.cons₂ a, fun G' g q => .dctO h n z (hr G' g fun b hb nb => q b (List.mem_cons_of_mem _ hb) fun y => ?_)⟩
      rcases List.mem_cons.mp y with e | y
      · exact na (e ▸ hb)
      · exact nb y
  | _, _, _, _, .scr h, _, _, _ => ⟨[], List.Sublist.refl _, fun _ g _ => .scr (Stays.refl.fzS g h)⟩
  | _, _, _, _, .exc h1 h2 h3 h4 h5 h6 r, nd, _, _ => by
    obtain ⟨fp', hs, hr⟩ := Rep.lower r nd (Nat.le_refl 0)
    exact ⟨fp', hs, fun G' g q => .exc h1 h2 (g _ h3) h4 (g _ h5) h6 (hr G' g q)⟩
theorem Reps.lower : ∀ {k ds vs fp}, Reps K G H k ds vs fp → fp.Nodup → ∀ {j}, j ≤ k → ∃ fp', fp'.Sublist fp ∧ ∀ G' : GSet, (∀ a, G a → G' a) → (∀ a ∈ fp, a ∉ fp' → G' a) → Reps K G' H j ds vs fp'
  | _, _, _, _, .nil, _, _, _ => ⟨[], List.Sublist.refl _, fun _ _ _ => .nil⟩
  | _, _, _, _, .cons (fp := f1) (fps := f2) h r, nd, j, hj => by
    obtain ⟨n1, n2, n3⟩ := List.nodup_append.mp nd
    obtain ⟨g1, s1, h1⟩ := Rep.lower h n1 hj
    obtain ⟨g2, s2, h2⟩ := Reps.lower r n2 hj
    refine ⟨g1 ++ g2, s1.append s2, fun G' g q => .cons (h1 G' g fun a ha na => q a (List.mem_append_left _ ha) fun z => ?_) (h2 G' g fun a ha na => q a (List.mem_append_right _ ha) fun z => ?_)⟩
    · rcases List.mem_append.mp z with z | z
      · exact na z
      · exact n3 a ha a (s2.subset z) rfl
    · rcases List.mem_append.mp z with z | z
      · exact n3 a (s1.subset z) a ha rfl
      · exact na z
end
mutual
theorem Rep.zero : ∀ {k d v fp}, Rep K G H k d v fp → k = 0 → fp = []
  | _, _, _, _, .non, _ => rfl
  | _, _, _, _, .bl, _ => rfl
  | _, _, _, _, .int, _ => rfl
  | _, _, _, _, .str _, _ => rfl
  | _, _, _, _, .tup _ r, e => Reps.zero r e
  | _, _, _, _, .lstF _ r, _ => Reps.zero r rfl
  | _, _, _, _, .lstO _ _, e => by cases e
  | _, _, _, _, .dctF _ _ _ _ r, _ => Reps.zero r rfl
  | _, _, _, _, .dctO _ _ _ _, e => by cases e
  | _, _, _, _, .scr _, _ => rfl
  | _, _, _, _, .exc _ _ _ _ _ _ r, _ => Rep.zero r rfl
theorem Reps.zero : ∀ {k ds vs fp}, Reps K G H k ds vs fp → k = 0 → fp = []
  | _, _, _, _, .nil, _ => rfl
  | _, _, _, _, .cons h r, e => by rw [Rep.zero h e, Reps.zero r e]; rfl
end
mutual
/-- what is owned stands in the heap, as a list or a dict -/
theorem Rep.there : ∀ {k d v fp}, Rep K G H k d v fp → ∀ a ∈ fp, ∃ o, H a = some o ∧ L2.Mut (some o)
  | _, _, _, _, .non, _, h => by cases h
  | _, _, _, _, .bl, _, h => by cases h
  | _, _, _, _, .int, _, h => by cases h
  | _, _, _, _, .str _, _, h => by cases h
  | _, _, _, _, .tup _ r, a, h => Reps.there r a h
  | _, _, _, _, .lstF _ r, a, h => Reps.there r a h
  | _, _, _, _, .lstO h r, b, hb => by
    rcases List.mem_cons.mp hb with e | hb
    · subst e; exact ⟨_, h, trivial⟩
    · exact Reps.there r b hb
  | _, _, _, _, .dctF _ _ _ _ r, a, h => Reps.there r a h
  | _, _, _, _, .dctO h _ _ r, b, hb => by
    rcases List.mem_cons.mp hb with e | hb
    · subst e; exact ⟨_, h, trivial⟩
    · exact Reps.there r b hb
  | _, _, _, _, .scr _, _, h => by cases h
  | _, _, _, _, .exc _ _ _ _ _ _ r, a, h => Rep.there r a h
theorem Reps.there : ∀ {k ds vs fp}, Reps K G H k ds vs fp → ∀ a ∈ fp, ∃ o, H a = some o ∧ L2.Mut (some o)
  | _, _, _, _, .nil, _, h => by cases h
  | _, _, _, _, .cons h r, a, ha => by
    rcases List.mem_append.mp ha with q | q
    · exact Rep.there h a q
    · exact Reps.there r a q
end
theorem Reps.length : ∀ {k ds vs fp}, Reps K G H k ds vs fp → ds.length = vs.length
  | _, _, _, _, .nil => rfl
  | _, _, _, _, .cons _ r => by simp [Reps.length r]
theorem Reps.get : ∀ {k ds vs fp}, Reps K G H k ds vs fp → ∀ {i : Nat} {d : D}, ds[i]? = some d → ∃ v fp', vs[i]? = some v ∧ Rep K G H k d v fp' ∧ fp'.Sublist fp
  | _, _, _, _, .nil, i, d, h => by simp at h
  | _, _, _, _, .cons (fp := f1) (fps := f2) h r, 0, d, e => by
    simp at e; subst e
    exact ⟨_, _, rfl, h, List.sublist_append_left _ _⟩
  | _, _, _, _, .cons (fp := f1) (fps := f2) h r, i + 1, d, e => by
    obtain ⟨v, fp', h1, h2, h3⟩ := Reps.get r (i := i) (d := d) (by simpa using e)
    exact ⟨v, fp', by simpa using h1, h2, h3.trans (List.sublist_append_right _ _)⟩
theorem Reps.append : ∀ {k ds vs fp}, Reps K G H k ds vs fp → ∀ {es us gp}, Reps K G H k es us gp → Reps K G H k (ds ++ es) (vs ++ us) (fp ++ gp)
  | _, _, _, _, .nil, _, _, _, r => r
  | _, _, _, _, .cons (fp := f1) (fps := f2) h t, _, _, _, r => by rw [List.append_assoc]; exact .cons h (Reps.append t r)
end
end Ev
end
section
set_option linter.all false
set_option maxHeartbeats 1000000
namespace Ev
open PySem
abbrev FpT := Nat → List Addr

/-- what is read off the heap is one thing -/
structure Inj (K : PySem.W.Frag) (H : Hp) : Prop where
  t : ∀ a xs ys, L2.SqT K H a xs → L2.SqT K H a ys → xs = ys
  l : ∀ a xs ys, L2.SqL K H a xs → L2.SqL K H a ys → xs = ys
theorem Inj.of {X : L2.Cx} {pins : List (Addr × Obj)} {σ : L2.St} {H : Hp} {s : Shared} (I : L2.Inv X pins σ H s) : Inj X.K H := ⟨fun _ _ _ h h' => I.tuple_inj h h', fun _ _ _ h h' => I.list_inj h h'⟩

/-- the part of v : d at a path -/
inductive PAt (K : PySem.W.Frag) (H : Hp) : D → V → List Nat → D → V → Prop
  | nil {d v} : PAt K H d v [] d v
  | tup {ds a vs j x y p d v} : L2.SqT K H a vs → ds[j]? = some x → vs[j]? = some y → PAt K H x y p d v → PAt K H (.tup ds) (.ref a) (j :: p) d v
  | lst {ds a vs j x y p d v} : L2.SqL K H a vs → ds[j]? = some x → vs[j]? = some y → PAt K H x y p d v → PAt K H (.lst ds) (.ref a) (j :: p) d v
  | dct {ks ds a kvs j x y p d v} : H a = some (.dK kvs) → ds[j]? = some x → (kvs.map (·.2))[j]? = some y → PAt K H x y p d v → PAt K H (.dct ks ds) (.ref a) (j :: p) d v

section
variable {K : PySem.W.Frag} {G G' : GSet} {H H' : Hp}
theorem getD_of {α : Type} {l : List α} {i : Nat} {x d : α} (h : l[i]? = some x) : l.getD i d = x := by simp [List.getD, h]
theorem PAt.snoc : ∀ {d v p d1 v1}, PAt K H d v p d1 v1 → ∀ {j d2 v2}, PAt K H d1 v1 [j] d2 v2 → PAt K H d v (p ++ [j]) d2 v2
  | _, _, _, _, _, .nil, _, _, _, q => q
  | _, _, _, _, _, .tup h1 h2 h3 r, _, _, _, q => .tup h1 h2 h3 (PAt.snoc r q)
  | _, _, _, _, _, .lst h1 h2 h3 r, _, _, _, q => .lst h1 h2 h3 (PAt.snoc r q)
  | _, _, _, _, _, .dct h1 h2 h3 r, _, _, _, q => .dct h1 h2 h3 (PAt.snoc r q)
theorem PAt.part : ∀ {d v p d1 v1}, PAt K H d v p d1 v1 → partAt d p = d1
  | _, _, _, _, _, .nil => by simp [partAt]
  | _, _, _, _, _, .tup h1 h2 h3 r => by simp only [partAt, getD_of h2]; exact PAt.part r
  | _, _, _, _, _, .lst h1 h2 h3 r => by simp only [partAt, getD_of h2]; exact PAt.part r
  | _, _, _, _, _, .dct h1 h2 h3 r => by simp only [partAt, getD_of h2]; exact PAt.part r
theorem Rep.part (J : Inj K H) : ∀ {d v p d1 v1}, PAt K H d v p d1 v1 → ∀ {k fp}, Rep K G H k d v fp → ∃ fp', Rep K G H (k - dep d p) d1 v1 fp' ∧ fp'.Sublist fp
  | _, _, _, _, _, .nil, k, fp, r => ⟨fp, by simpa [dep] using r, List.Sublist.refl _⟩
  | _, _, _, _, _, .tup (ds := ds) h1 h2 h3 q, k, fp, r => by
    cases r with
    | tup g1 g2 =>
      have e := J.t _ _ _ h1 g1
      subst e
      obtain ⟨y', f', e1, r1, s1⟩ := g2.get h2
      rw [h3] at e1; cases e1
      obtain ⟨f2, r2, s2⟩ := Rep.part J q r1
      refine ⟨f2, ?_, s2.trans s1⟩
      simp only [dep, getD_of h2]
      exact r2
  | _, _, _, _, _, .lst (ds := ds) h1 h2 h3 q, k, fp, r => by
    cases r with
    | lstF g1 g2 =>
      have e := J.l _ _ _ h1 g1.sq
      subst e
      obtain ⟨y', f', e1, r1, s1⟩ := g2.get h2
      rw [h3] at e1; cases e1
      obtain ⟨f2, r2, s2⟩ := Rep.part J q r1
      refine ⟨f2, ?_, s2.trans s1⟩
      simp only [dep, getD_of h2]
      simpa using r2
    | @lstO k _ _ _ fp g1 g2 =>
      have e := J.l _ _ _ h1 (L2.SqL.of g1)
      subst e
      obtain ⟨y', f', e1, r1, s1⟩ := g2.get h2
      rw [h3] at e1; cases e1
      obtain ⟨f2, r2, s2⟩ := Rep.part J q r1
      refine ⟨f2, ?_, (s2.trans s1).cons _⟩
      simp only [dep, getD_of h2]
      simpa using r2
  | _, _, _, _, _, .dct (ds := ds) h1 h2 h3 q, k, fp, r => by
    cases r with
    | dctF g1 g2 g3 g5 g4 =>
      rw [h1] at g1; cases g1
      obtain ⟨y', f', e1, r1, s1⟩ := g4.get h2
      rw [h3] at e1; cases e1
      obtain ⟨f2, r2, s2⟩ := Rep.part J q r1
      refine ⟨f2, ?_, s2.trans s1⟩
      simp only [dep, getD_of h2]
      simpa using r2
    | @dctO k _ _ _ _ fp g1 g3 g5 g4 =>
      rw [h1] at g1; cases g1
      obtain ⟨y', f', e1, r1, s1⟩ := g4.get h2
      rw [h3] at e1; cases e1
      obtain ⟨f2, r2, s2⟩ := Rep.part J q r1
      refine ⟨f2, ?_, (s2.trans s1).cons _⟩
      simp only [dep, getD_of h2]
      simpa using r2
/-- a path stays while what it leads through does -/
theorem PAt.keep (J : Inj K H) (st : Stays G H H') : ∀ {d v p d1 v1}, PAt K H d v p d1 v1 → ∀ {k fp}, Rep K G H k d v fp → (∀ a ∈ fp, H' a = H a) → PAt K H' d v p d1 v1
  | _, _, _, _, _, .nil, k, fp, r, _ => .nil
  | _, _, _, _, _, .tup (ds := ds) h1 h2 h3 q, k, fp, r, e => by
    cases r with
    | tup g1 g2 =>
      have e' := J.t _ _ _ h1 g1
      subst e'
      obtain ⟨y', f', e1, r1, s1⟩ := g2.get h2
      rw [h3] at e1; cases e1
      exact .tup (st.sqT h1) h2 h3 (PAt.keep J st q r1 fun a ha => e a (s1.subset ha))
  | _, _, _, _, _, .lst (ds := ds) h1 h2 h3 q, k, fp, r, e => by
    cases r with
    | lstF g1 g2 =>
      have e' := J.l _ _ _ h1 g1.sq
      subst e'
      obtain ⟨y', f', e1, r1, s1⟩ := g2.get h2
      rw [h3] at e1; cases e1
      exact .lst (st.fzL (fun _ h => h) g1).sq h2 h3 (PAt.keep J st q r1 fun a ha => e a (s1.subset ha))
    | @lstO k _ _ _ fp g1 g2 =>
      have e' := J.l _ _ _ h1 (L2.SqL.of g1)
      subst e'
      obtain ⟨y', f', e1, r1, s1⟩ := g2.get h2
      rw [h3] at e1; cases e1
      exact .lst (L2.SqL.of ((e _ (List.mem_cons_self ..)).trans g1)) h2 h3 (PAt.keep J st q r1 fun a ha => e a (List.mem_cons_of_mem _ (s1.subset ha)))
  | _, _, _, _, _, .dct (ds := ds) h1 h2 h3 q, k, fp, r, e => by
    cases r with
    | dctF g1 g2 g3 g5 g4 =>
      rw [h1] at g1; cases g1
      obtain ⟨y', f', e1, r1, s1⟩ := g4.get h2
      rw [h3] at e1; cases e1
      exact .dct (st.gs _ _ g2 h1) h2 h3 (PAt.keep J st q r1 fun a ha => e a (s1.subset ha))
    | @dctO k _ _ _ _ fp g1 g3 g5 g4 =>
      rw [h1] at g1; cases g1
      obtain ⟨y', f', e1, r1, s1⟩ := g4.get h2
      rw [h3] at e1; cases e1
      exact .dct ((e _ (List.mem_cons_self ..)).trans h1) h2 h3 (PAt.keep J st q r1 fun a ha => e a (List.mem_cons_of_mem _ (s1.subset ha)))
end

/-- the locals stand for the slots -/
structure Sim (K : PySem.W.Frag) (G : GSet) (H : Hp) (e : Ls) (σ : L2.St) (fp : FpT) : Prop where
  len : e.length = σ.length
  rep : ∀ i s, e.at i = some s → ∃ v, σ[i]? = some (some v) ∧ Rep K G H s.k s.d v (fp i)
  nil : ∀ i, e.at i = none → fp i = []
  nd : ∀ i, (fp i).Nodup
  dj : ∀ i j a, a ∈ fp i → a ∈ fp j → i = j
  ng : ∀ i a, a ∈ fp i → ¬ G a
  gs : ∀ a, G a → ∃ o, H a = some o ∧ L2.Mut (some o)
/-- from one state to another -/
structure Frm (G : GSet) (H : Hp) (fp : FpT) (G' : GSet) (H' : Hp) (fp' : FpT) : Prop where
  g : ∀ a, G a → G' a
  gn : ∀ a, G' a → G a ∨ (∃ i, a ∈ fp i) ∨ H a = none
  st : ∀ a o, H a = some o → (∀ i, a ∉ fp i) → (∀ ps, o ≠ .tbl ps) → H' a = some o
  fn : ∀ i a, a ∈ fp' i → a ∈ fp i ∨ H a = none
  al : ∀ a, H a ≠ none → H' a ≠ none
def KeepH (ts : List Nat) (H : Hp) (fp : FpT) (H' : Hp) : Prop := ∀ i, i ∉ ts → ∀ a ∈ fp i, H' a = H a
structure Keep (ts : List Nat) (e : Ls) (H : Hp) (fp : FpT) (e' : Ls) (H' : Hp) : Prop where
  h : KeepH ts H fp H'
  d : ∀ i, i ∉ ts → e'.at i = e.at i ∨ ∃ s, e.at i = some s ∧ e'.at i = some ⟨0, s.d⟩
section
variable {K : PySem.W.Frag} {G G' G1 G2 : GSet} {H H' H1 H2 : Hp} {e e' e1 e2 : Ls} {σ : L2.St} {fp fp' fp1 fp2 : FpT} {ts ts1 ts2 : List Nat}
theorem Sim.there (S : Sim K G H e σ fp) {i : Nat} {a : Addr} (h : a ∈ fp i) : ∃ o, H a = some o ∧ L2.Mut (some o) := by
  cases q : e.at i with
  | none => rw [S.nil i q] at h; cases h
  | some s =>
    obtain ⟨v, _, r⟩ := S.rep i s q
    exact r.there a h
theorem mut_tbl {o : L2.HO} (h : L2.Mut (some o)) : ∀ ps, o ≠ .tbl ps := fun ps e => by rw [e] at h; exact h
theorem Frm.refl (S : Sim K G H e σ fp) : Frm G H fp G H fp := ⟨fun _ h => h, fun _ h => .inl h, fun _ _ h _ _ => h, fun _ _ h => .inl h, fun _ h => h⟩
theorem Keep.refl : Keep ts e H fp e H := ⟨fun _ _ _ _ => rfl, fun _ _ => .inl rfl⟩
theorem Frm.stays (S : Sim K G H e σ fp) (F : Frm G H fp G' H' fp') : Stays G H H' where
  tup := fun a xs h => F.st a _ h (fun i hi => by
    obtain ⟨o, h1, h2⟩ := S.there hi
    rw [h] at h1; cases h1; exact h2) fun ps q => by cases q
  frz := fun a o u h => F.st a _ h (fun i hi => by
    obtain ⟨o, h1, h2⟩ := S.there hi
    rw [h] at h1; cases h1; exact h2) fun ps q => by cases q
  gs := fun a o g h => F.st a _ h (fun i hi => S.ng i a hi g) (by
    obtain ⟨o', h1, h2⟩ := S.gs a g
    rw [h] at h1; cases h1
    exact mut_tbl h2)
theorem Frm.trans (S : Sim K G H e σ fp) (A : Frm G H fp G1 H1 fp1) (B : Frm G1 H1 fp1 G2 H2 fp2) : Frm G H fp G2 H2 fp2 where
  g := fun a h => B.g a (A.g a h)
  gn := fun a h => by
    rcases B.gn a h with h | ⟨i, h⟩ | h
    · exact A.gn a h
    · rcases A.fn i a h with q | q
      · exact .inr (.inl ⟨i, q⟩)
      · exact .inr (.inr q)
    · refine .inr (.inr ?_)
      cases q : H a with
      | none => rfl
      | some o => exact absurd h (A.al a (by rw [q]; simp))
  st := fun a o h hn ht => B.st a o (A.st a o h hn ht) (fun i hi => by
    rcases A.fn i a hi with q | q
    · exact hn i q
    · rw [h] at q; cases q) ht
  fn := fun i a h => by
    rcases B.fn i a h with h | h
    · exact A.fn i a h
    · refine .inr ?_
      cases q : H a with
      | none => rfl
      | some o => exact absurd h (A.al a (by rw [q]; simp))
  al := fun a h => B.al a (A.al a h)
theorem KeepH.trans (S : Sim K G H e σ fp) (A : Frm G H fp G1 H1 fp1) (k1 : KeepH ts1 H fp H1) (B : Frm G1 H1 fp1 G2 H2 fp2) (k2 : KeepH ts2 H1 fp1 H2) : KeepH (ts1 ++ ts2) H fp H2 := fun i hi a ha => by
  have n1 : i ∉ ts1 := fun z => hi (List.mem_append_left _ z)
  have n2 : i ∉ ts2 := fun z => hi (List.mem_append_right _ z)
  have h1 := k1 i n1 a ha
  obtain ⟨o, ho, hm⟩ := S.there ha
  by_cases q : ∃ j, a ∈ fp1 j
  · obtain ⟨j, hj⟩ := q
    rcases A.fn j a hj with z | z
    · obtain rfl := S.dj i j a ha z
      exact (k2 i n2 a hj).trans h1
    · rw [ho] at z; cases z
  · exact (B.st a o (h1.trans ho) (fun j hj => q ⟨j, hj⟩) (mut_tbl hm)).trans ho.symm
theorem Keep.trans (S : Sim K G H e σ fp) (A : Frm G H fp G1 H1 fp1) (k1 : Keep ts1 e H fp e1 H1) (B : Frm G1 H1 fp1 G2 H2 fp2) (k2 : Keep ts2 e1 H1 fp1 e2 H2) : Keep (ts1 ++ ts2) e H fp e2 H2 where
  h := KeepH.trans S A k1.h B k2.h
  d := fun i hi => by
    have n1 : i ∉ ts1 := fun z => hi (List.mem_append_left _ z)
    have n2 : i ∉ ts2 := fun z => hi (List.mem_append_right _ z)
    rcases k1.d i n1 with q | ⟨s, q1, q2⟩
    · rcases k2.d i n2 with r | ⟨s, r1, r2⟩
      · exact .inl (r.trans q)
      · exact .inr ⟨s, by rw [← q]; exact r1, r2⟩
    · rcases k2.d i n2 with r | ⟨s', r1, r2⟩
      · exact .inr ⟨s, q1, r.trans q2⟩
      · rw [q2] at r1; cases r1
        exact .inr ⟨s, q1, r2⟩
theorem Keep.mono (h : ∀ i, i ∈ ts1 → i ∈ ts) (k : Keep ts1 e H fp e' H') : Keep ts e H fp e' H' := ⟨fun i hi => k.h i fun z => hi (h i z), fun i hi => k.d i fun z => hi (h i z)⟩
theorem KeepH.mono (h : ∀ i, i ∈ ts1 → i ∈ ts) (k : KeepH ts1 H fp H') : KeepH ts H fp H' := fun i hi => k i fun z => hi (h i z)
end
end Ev
end
section
set_option linter.all false
set_option maxHeartbeats 1000000
namespace Ev
open PySem
/-- the written part, what is wished of exceptions, where the own classes stand and what their field is called -/
structure Prm where
  K : PySem.W.Frag
  W : L2.WX
  adr : Nat → Addr
  fld : Nat → Str
/-- a value on its way stands for v; H0: the heap at the start -/
def VwOk (K : PySem.W.Frag) (H0 : Hp) (σ : L2.St) (w : Vw) (e : Ls) (G : GSet) (H : Hp) (fp : FpT) (v : V) : Prop := match w.src with
  | none => ∃ fx, Rep K G H w.k w.d v fx ∧ fx.Nodup ∧ ∀ a ∈ fx, H0 a = none ∧ (∀ i, a ∉ fp i) ∧ ¬ G a
  | some q => ∃ s v0, e.at q.1 = some s ∧ σ[q.1]? = some (some v0) ∧ PAt K H s.d v0 q.2 w.d v
/-- what must hold behind a piece -/
def Aft (P : Prm) (ts : List Nat) (σ : L2.St) (e : Ls) (G : GSet) (H : Hp) (fp : FpT) {α β : Type} (r : R α) (Ok : α → Ls → GSet → Hp → FpT → β → Prop) (Q : β → Hp → Prop) : Prop := match r with
  | .ok a e' => ∀ G' H' fp' b, Frm G H fp G' H' fp' → Keep ts e H fp e' H' → Sim P.K G' H' e' σ fp' → Inj P.K H' → Ok a e' G' H' fp' b → Q b H'
  | .rs c x => ∀ G' H' fp' dx v, Frm G H fp G' H' fp' → KeepH ts H fp H' → H' dx = some (.xd [(P.fld c, v)]) → Rep P.K G' H' 0 x v [] → (∀ a, G' a → ∃ o, H' a = some o ∧ L2.Mut (some o)) → P.W (.ref (P.adr c)) (some dx) σ H'
  | .bad _ => False
section
variable {P : Prm} {ts ts1 ts2 : List Nat} {σ : L2.St} {e e1 : Ls} {G G1 : GSet} {H H1 : Hp} {fp fp1 : FpT} {α β γ δ : Type}
theorem Aft.first {r : R α} {f : α → Ls → R γ} {Ok : γ → Ls → GSet → Hp → FpT → β → Prop} {Q : β → Hp → Prop} {Ok1 : α → Ls → GSet → Hp → FpT → δ → Prop} {Q1 : δ → Hp → Prop}
    (h : Aft P ts σ e G H fp (r.bind f) Ok Q) (m : ∀ i, i ∈ ts1 → i ∈ ts)
    (k : ∀ a e1 G1 H1 fp1 b, r = .ok a e1 → Frm G H fp G1 H1 fp1 → Keep ts1 e H fp e1 H1 → Sim P.K G1 H1 e1 σ fp1 → Inj P.K H1 → Ok1 a e1 G1 H1 fp1 b → Q1 b H1) : Aft P ts1 σ e G H fp r Ok1 Q1 := by
  cases r with
  | ok a e1 => exact fun G1 H1 fp1 b F Kp S J o => k a e1 G1 H1 fp1 b rfl F Kp S J o
  | rs c x => exact fun G' H' fp' dx v F Kp hx r => h G' H' fp' dx v F (Kp.mono m) hx r
  | bad s => exact h
theorem Aft.shift {r : R α} {Ok Ok1 : α → Ls → GSet → Hp → FpT → β → Prop} {Q : β → Hp → Prop} (h : Aft P ts σ e G H fp r Ok Q) (m : ∀ i, i ∈ ts1 ++ ts2 → i ∈ ts)
    (S : Sim P.K G H e σ fp) (F : Frm G H fp G1 H1 fp1) (Kp : Keep ts1 e H fp e1 H1) (ok : ∀ a e' G' H' fp' b, Ok1 a e' G' H' fp' b → Frm G1 H1 fp1 G' H' fp' → Ok a e' G' H' fp' b) : Aft P ts2 σ e1 G1 H1 fp1 r Ok1 Q := by
  cases r with
  | ok a e2 => exact fun G2 H2 fp2 b F2 K2 S2 J o => h G2 H2 fp2 b (F.trans S F2) ((Keep.trans S F Kp F2 K2).mono m) S2 J (ok _ _ _ _ _ _ o F2)
  | rs c x => exact fun G' H' fp' dx v F2 K2 hx r => h G' H' fp' dx v (F.trans S F2) ((KeepH.trans S F Kp.h F2 K2).mono m) hx r
  | bad s => exact h
theorem Aft.imp {r : R α} {Ok : α → Ls → GSet → Hp → FpT → β → Prop} {Q Q' : β → Hp → Prop} (h : Aft P ts σ e G H fp r Ok Q) (k : ∀ b H, Q b H → Q' b H) : Aft P ts σ e G H fp r Ok Q' := by
  cases r with
  | ok a e2 => exact fun G2 H2 fp2 b F2 K2 S2 J o => k _ _ (h G2 H2 fp2 b F2 K2 S2 J o)
  | rs c x => exact h
  | bad s => exact h
end
section
variable {K : PySem.W.Frag} {G G' G1 G2 : GSet} {H H' H0 H1 H2 : Hp} {e e' e0 e1 e2 : Ls} {σ : L2.St} {fp fp' fp0 fp1 fp2 : FpT} {ts ts1 ts2 : List Nat}
theorem Frm.none (F : Frm G H fp G1 H1 fp1) {a : Addr} (h : H1 a = none) : H a = none := by
  cases q : H a with
  | none => rfl
  | some o => exact absurd h (F.al a (by rw [q]; simp))
theorem VwOk.older {w : Vw} {v : V} (h : VwOk K H1 σ w e G H fp v) (F : Frm G1 H0 fp0 G2 H1 fp2) : VwOk K H0 σ w e G H fp v := by
  unfold VwOk at h ⊢
  cases q : w.src with
  | some q' => rw [q] at h; exact h
  | none =>
    rw [q] at h
    obtain ⟨fx, r, nd, h⟩ := h
    exact ⟨fx, r, nd, fun a ha => ⟨F.none (h a ha).1, (h a ha).2⟩⟩
theorem at_put_self {e : Ls} {i : Nat} {s : Sl} {k : Nat} {d : D} (h : e.at i = some s) : (e.put i k d).at i = some ⟨k, d⟩ := by
  unfold Ls.at Ls.put at *
  have : i < e.length := by
    by_cases q : i < e.length
    · exact q
    · rw [List.getElem?_eq_none (by omega)] at h; cases h
  rw [List.getElem?_set_self this] <;> rfl
theorem at_put_ne {e : Ls} {i j : Nat} {k : Nat} {d : D} (h : j ≠ i) : (e.put i k d).at j = e.at j := by
  unfold Ls.at Ls.put
  rw [List.getElem?_set_ne (Ne.symm h)]
/-- the slot's thing is frozen -/
theorem Sim.freeze (S : Sim K G H e σ fp) {i : Nat} {s : Sl} (hs : e.at i = some s) :
    Sim K (fun a => G a ∨ a ∈ fp i) H (e.put i 0 s.d) σ (fun j => if j = i then [] else fp j) ∧ Frm G H fp (fun a => G a ∨ a ∈ fp i) H (fun j => if j = i then [] else fp j) ∧ Keep [] e H fp (e.put i 0 s.d) H := by
  refine ⟨⟨?_, fun j t ht => ?_, fun j hj => ?_, fun j => ?_, fun j k a h1 h2 => ?_, fun j a h1 h2 => ?_, fun a h => ?_⟩, ⟨fun a h => .inl h, fun a h => ?_, fun _ _ h _ _ => h, fun j a h => ?_, fun _ h => h⟩, ⟨fun _ _ _ _ => rfl, fun j _ => ?_⟩⟩
  · simp [Ls.put, S.len]
  · by_cases q : j = i
    · subst q
      rw [at_put_self hs] at ht; cases ht
      obtain ⟨v, hv, r⟩ := S.rep j s hs
      obtain ⟨f', sb, hr⟩ := r.lower (S.nd j) (Nat.zero_le s.k)
      have hz : f' = [] := (hr (fun _ => True) (fun _ _ => trivial) fun _ _ _ => trivial).zero rfl
      subst hz
      refine ⟨v, hv, ?_⟩
      simp only [if_pos rfl]
      exact hr _ (fun a h => .inl h) fun a h _ => .inr h
    · rw [at_put_ne q] at ht
      obtain ⟨v, hv, r⟩ := S.rep j t ht
      refine ⟨v, hv, ?_⟩
      simp only [if_neg q]
      exact r.keep (fun a h => .inl h) .refl fun _ _ => rfl
  · by_cases q : j = i
    · simp [q]
    · rw [at_put_ne q] at hj
      simp only [if_neg q]
      exact S.nil j hj
  · by_cases q : j = i
    · simp [q]
    · simp only [if_neg q]; exact S.nd j
  · by_cases q : j = i
    · simp [q] at h1
    · by_cases q2 : k = i
      · simp [q2] at h2
      · simp only [if_neg q] at h1
        simp only [if_neg q2] at h2
        exact S.dj j k a h1 h2
  · by_cases q : j = i
    · simp [q] at h1
    · simp only [if_neg q] at h1
      rcases h2 with h2 | h2
      · exact S.ng j a h1 h2
      · exact q (S.dj j i a h1 h2)
  · rcases h with h | h
    · exact S.gs a h
    · exact S.there h
  · rcases h with h | h
    · exact .inl h
    · exact .inr (.inl ⟨i, h⟩)
  · by_cases q : j = i
    · simp [q] at h
    · simp only [if_neg q] at h
      exact .inl h
  · by_cases q : j = i
    · subst q
      exact .inr ⟨s, hs, at_put_self hs⟩
    · exact .inl (at_put_ne q)
theorem atom_fp {k : Nat} {d : D} {v : V} {f : List Addr} (h : d.atom = true) (r : Rep K G H k d v f) : f = [] ∧ ∀ k' G' H', Rep K G' H' k' d v [] := by
  cases r with
  | non => exact ⟨rfl, fun _ _ _ => .non⟩
  | bl => exact ⟨rfl, fun _ _ _ => .bl⟩
  | int => exact ⟨rfl, fun _ _ _ => .int⟩
  | str hs => exact ⟨rfl, fun _ _ _ => .str hs⟩
  | tup _ _ => cases h
  | lstF _ _ => cases h
  | lstO _ _ => cases h
  | dctF _ _ _ _ _ => cases h
  | dctO _ _ _ _ => cases h
  | scr _ => cases h
  | exc _ _ _ _ _ _ _ => cases h
/-- a view's part -/
theorem Sim.view (S : Sim K G H e σ fp) (J : Inj K H) {i : Nat} {p : List Nat} {s : Sl} {v0 v : V} {d : D} (h1 : e.at i = some s) (h2 : σ[i]? = some (some v0)) (h3 : PAt K H s.d v0 p d v) : ∃ fx, Rep K G H (ownAt e i p) d v fx ∧ fx.Sublist (fp i) := by
  obtain ⟨v', hv, r⟩ := S.rep i s h1
  rw [h2] at hv; cases hv
  obtain ⟨fx, r1, s1⟩ := Rep.part J h3 r
  refine ⟨fx, ?_, s1⟩
  unfold ownAt; rw [h1]; exact r1
theorem Sim.moreG (S : Sim K G H e σ fp) {fx : List Addr} (h1 : ∀ a ∈ fx, ∀ i, a ∉ fp i) (h2 : ∀ a ∈ fx, ∃ o, H a = some o ∧ L2.Mut (some o)) : Sim K (fun a => G a ∨ a ∈ fx) H e σ fp :=
  ⟨S.len, fun i s hs => by
    obtain ⟨v, hv, r⟩ := S.rep i s hs
    exact ⟨v, hv, r.keep (fun a h => .inl h) .refl fun _ _ => rfl⟩, S.nil, S.nd, S.dj, fun i a h q => q.elim (S.ng i a h) fun q => h1 a q i h, fun a h => h.elim (S.gs a) (h2 a)⟩
/-- what is on its way may be kept -/
theorem asF_ok {w : Vw} {v : V} (S0 : Sim K G H0 e0 σ fp) (F : Frm G H0 fp G1 H1 fp1) (Kp : Keep ts e0 H0 fp e1 H1) (S : Sim K G1 H1 e1 σ fp1) (J : Inj K H1) (o : VwOk K H0 σ w e1 G1 H1 fp1 v) :
    ∃ G2 fp2, Frm G H0 fp G2 H1 fp2 ∧ Keep ts e0 H0 fp (asF w e1).2 H1 ∧ Sim K G2 H1 (asF w e1).2 σ fp2 ∧ Rep K G2 H1 0 (asF w e1).1 v [] := by
  unfold VwOk at o
  cases q : w.src with
  | none =>
    rw [q] at o
    obtain ⟨fx, r, nd, hx⟩ := o
    have ea : asF w e1 = (w.d, e1) := by unfold asF; rw [q]
    rw [ea]
    obtain ⟨f', sb, hr⟩ := r.lower nd (Nat.zero_le w.k)
    have hz : f' = [] := (hr (fun _ => True) (fun _ _ => trivial) fun _ _ _ => trivial).zero rfl
    subst hz
    refine ⟨fun a => G1 a ∨ a ∈ fx, fp1, ⟨fun a h => .inl (F.g a h), fun a h => ?_, F.st, F.fn, F.al⟩, Kp, S.moreG (fun a h => (hx a h).2.1) (fun a h => r.there a h), hr _ (fun a h => .inl h) fun a h _ => .inr h⟩
    rcases h with h | h
    · exact F.gn a h
    · exact .inr (.inr (hx a h).1)
  | some ip =>
    obtain ⟨i, p⟩ := ip
    rw [q] at o
    obtain ⟨s, v0, h1, h2, h3⟩ := o
    obtain ⟨fx, r, sb⟩ := S.view J h1 h2 h3
    by_cases b : w.bor e1 = true
    · have ea : asF w e1 = (w.d, e1.put i 0 s.d) := by unfold asF; rw [q]; dsimp only; rw [if_pos b, h1]
      rw [ea]
      obtain ⟨S2, F2, K2⟩ := S.freeze h1
      refine ⟨_, _, F.trans S0 F2, (Keep.trans S0 F Kp F2 K2).mono (by simp), S2, ?_⟩
      obtain ⟨f', sb', hr⟩ := r.lower (sb.nodup (S.nd i)) (Nat.zero_le _)
      have hz : f' = [] := (hr (fun _ => True) (fun _ _ => trivial) fun _ _ _ => trivial).zero rfl
      subst hz
      exact hr _ (fun a h => .inl h) fun a h _ => .inr (sb.subset h)
    · have ea : asF w e1 = (w.d, e1) := by unfold asF; rw [q]; dsimp only; rw [if_neg b]
      rw [ea]
      refine ⟨G1, fp1, F, Kp, S, ?_⟩
      unfold Vw.bor at b
      rw [q] at b
      simp only [Bool.and_eq_true, Bool.not_eq_true', decide_eq_true_eq, not_and, Nat.not_lt, Nat.le_zero] at b
      cases ha : w.d.atom with
      | true => exact (atom_fp ha r).2 _ _ _
      | false =>
        have z := b ha
        rw [z] at r
        have e := r.zero rfl
        subst e
        exact r
theorem sl_atom {K : PySem.W.Frag} {G : GSet} {H : Hp} {d : D} {v : V} (r : Rep K G H 0 d v []) : Rep K G H (if d.atom then capK else 0) d v [] := by
  cases h : d.atom with
  | true => exact (atom_fp h r).2 _ _ _
  | false => exact r
/-- .. with what it owns -/
theorem asO_ok {w : Vw} {v : V} (S0 : Sim K G H0 e0 σ fp) (F : Frm G H0 fp G1 H1 fp1) (Kp : Keep ts e0 H0 fp e1 H1) (S : Sim K G1 H1 e1 σ fp1) (J : Inj K H1) (o : VwOk K H0 σ w e1 G1 H1 fp1 v) :
    ∃ G2 fp2 fx, Frm G H0 fp G2 H1 fp2 ∧ Keep ts e0 H0 fp (asO w e1).2 H1 ∧ Sim K G2 H1 (asO w e1).2 σ fp2 ∧ Rep K G2 H1 (asO w e1).1.k (asO w e1).1.d v fx ∧ fx.Nodup ∧ ∀ a ∈ fx, H0 a = none ∧ (∀ i, a ∉ fp2 i) ∧ ¬ G2 a := by
  cases q : w.src with
  | none =>
    have o' := o
    unfold VwOk at o
    rw [q] at o
    obtain ⟨fx, r, nd, hx⟩ := o
    have ea : asO w e1 = (⟨w.k, w.d⟩, e1) := by unfold asO; rw [q]
    rw [ea]
    exact ⟨G1, fp1, fx, F, Kp, S, r, nd, hx⟩
  | some ip =>
    obtain ⟨G2, fp2, F2, K2, S2, r⟩ := asF_ok S0 F Kp S J o
    have ea : asO w e1 = (⟨if (asF w e1).1.atom then capK else 0, (asF w e1).1⟩, (asF w e1).2) := by unfold asO; rw [q]
    rw [ea]
    exact ⟨G2, fp2, [], F2, K2, S2, sl_atom r, List.nodup_nil, fun a h => by cases h⟩
/-- what is on its way can be looked at, now and as long as what it leans on isn't changed -/
theorem look_ok {w : Vw} {v : V} (S : Sim K G1 H1 e1 σ fp1) (J : Inj K H1) (o : VwOk K H0 σ w e1 G1 H1 fp1 v) :
    ∃ k fx, Rep K G1 H1 k w.d v fx ∧ ∀ a ∈ fx, (∃ i, w.on e1 = some i ∧ a ∈ fp1 i) ∨ ((∀ i, a ∉ fp1 i) ∧ ¬ G1 a) := by
  unfold VwOk at o
  cases q : w.src with
  | none =>
    rw [q] at o
    obtain ⟨fx, r, nd, hx⟩ := o
    exact ⟨w.k, fx, r, fun a h => .inr (hx a h).2⟩
  | some ip =>
    obtain ⟨i, p⟩ := ip
    rw [q] at o
    obtain ⟨s, v0, h1, h2, h3⟩ := o
    obtain ⟨fx, r, sb⟩ := S.view J h1 h2 h3
    refine ⟨_, fx, r, fun a h => .inl ⟨i, ?_, sb.subset h⟩⟩
    unfold Vw.on
    rw [q]
    dsimp only
    refine if_pos ?_
    simp only [Bool.and_eq_true, Bool.not_eq_true', decide_eq_true_eq]
    constructor
    · cases ha : w.d.atom with
      | true => rw [(atom_fp ha r).1] at h; cases h
      | false => rfl
    · refine Nat.pos_of_ne_zero fun z => ?_
      rw [z] at r
      rw [r.zero rfl] at h; cases h
theorem Rep.later {k : Nat} {d : D} {v : V} {fx : List Addr} {on : Option Nat} (S : Sim K G1 H1 e1 σ fp1) (r : Rep K G1 H1 k d v fx) (hx : ∀ a ∈ fx, (∃ i, on = some i ∧ a ∈ fp1 i) ∨ ((∀ i, a ∉ fp1 i) ∧ ¬ G1 a))
    (F : Frm G1 H1 fp1 G2 H2 fp2) (Kp : KeepH ts H1 fp1 H2) (hc : clash on ts = false) : Rep K G2 H2 k d v fx := by
  refine r.keep F.g (F.stays S) fun a ha => ?_
  rcases hx a ha with ⟨i, e, h⟩ | ⟨h, _⟩
  · subst e
    refine Kp i (fun z => ?_) a h
    simp only [clash, List.contains_eq_mem, decide_eq_false_iff_not] at hc
    exact hc z
  · obtain ⟨o, ho, hm⟩ := r.there a ha
    rw [ho]
    exact F.st a o ho h (mut_tbl hm)
end
end Ev
end
section
set_option linter.all false
set_option maxHeartbeats 1000000
namespace Ev
open PySem
section
variable {X : L2.Cx} {ex : Expr} {es : List Expr}
theorem pe_wr {t u : L2.TE} (p : L2.PE X ex t) (h : ∀ σ H Q, Inj X.K H → u σ H Q → t σ H fun v H' => Inj X.K H' → Q v H') : L2.PE X ex u :=
  ⟨fun pins s σ H Q I hu => L2.thn (p.run pins s σ H _ I (h σ H Q (Inj.of I) hu)) fun _ _ ⟨v, H', I', r, q⟩ => ⟨v, H', I', r, q (Inj.of I')⟩⟩
theorem pa_wr {t u : L2.TA} (p : L2.PA X es t) (h : ∀ σ H Q, Inj X.K H → u σ H Q → t σ H fun v H' => Inj X.K H' → Q v H') : L2.PA X es u :=
  ⟨fun pos pins s σ H Q I hu => L2.thn (p.run pos pins s σ H _ I (h σ H Q (Inj.of I) hu)) fun _ _ ⟨v, H', I', r, q⟩ => ⟨v, H', I', r, q (Inj.of I')⟩⟩
theorem pt_wr {t u : L2.TT} (p : L2.PT X ex t) (h : ∀ σ H Q, Inj X.K H → u σ H Q → t σ H fun v H' => Inj X.K H' → Q v H') : L2.PT X ex u :=
  ⟨fun pins s σ H Q I hu => L2.thn (p.run pins s σ H _ I (h σ H Q (Inj.of I) hu)) fun _ _ ⟨H', I', q⟩ => ⟨H', I', q (Inj.of I')⟩⟩
/-- .. what is wanted may use that the heap is read as one thing -/
def inj (K : PySem.W.Frag) (t : L2.TE) : L2.TE := fun σ H Q => t σ H fun v H' => Inj K H' → Q v H'
theorem pe_inj {t : L2.TE} (p : L2.PE X ex t) : L2.PE X ex (inj X.K t) :=
  ⟨fun pins s σ H Q I hu => L2.thn (p.run pins s σ H _ I hu) fun _ _ ⟨v, H', I', r, q⟩ => ⟨v, H', I', r, q (Inj.of I')⟩⟩
def injA (K : PySem.W.Frag) (t : L2.TA) : L2.TA := fun σ H Q => t σ H fun v H' => Inj K H' → Q v H'
theorem pa_inj {t : L2.TA} (p : L2.PA X es t) : L2.PA X es (injA X.K t) :=
  ⟨fun pos pins s σ H Q I hu => L2.thn (p.run pos pins s σ H _ I hu) fun _ _ ⟨v, H', I', r, q⟩ => ⟨v, H', I', r, q (Inj.of I')⟩⟩
/-- a reading chosen by what is read -/
theorem pe_pick {u : L2.TE} (h : ∀ σ H Q, Inj X.K H → u σ H Q → ∃ t, L2.PE X ex t ∧ t σ H fun v H' => Inj X.K H' → Q v H') : L2.PE X ex u :=
  ⟨fun pins s σ H Q I hu => by
    obtain ⟨t, p, q⟩ := h σ H Q (Inj.of I) hu
    exact L2.thn (p.run pins s σ H _ I q) fun _ _ ⟨v, H', I', r, q⟩ => ⟨v, H', I', r, q (Inj.of I')⟩⟩
end

inductive Rds (K : PySem.W.Frag) (G : GSet) (H : Hp) : List D → List V → Prop
  | nil : Rds K G H [] []
  | cons {d v ds vs k fx} : Rep K G H k d v fx → Rds K G H ds vs → Rds K G H (d :: ds) (v :: vs)
def OkL (K : PySem.W.Frag) (emb : Bool) (ds : List D) (e : Ls) (G : GSet) (H : Hp) (fp : FpT) (vs : List V) : Prop := if emb then Reps K G H 0 ds vs [] else Rds K G H ds vs
/-- items on their way, with what they own -/
inductive Own (K : PySem.W.Frag) (G : GSet) (H : Hp) : List Sl → List V → List Addr → Prop
  | nil : Own K G H [] [] []
  | cons {s v ss vs fx fxs} : Rep K G H s.k s.d v fx → Own K G H ss vs fxs → Own K G H (s :: ss) (v :: vs) (fx ++ fxs)
def OkO (K : PySem.W.Frag) (H0 : Hp) (ss : List Sl) (e : Ls) (G : GSet) (H : Hp) (fp : FpT) (vs : List V) : Prop := ∃ fx, Own K G H ss vs fx ∧ fx.Nodup ∧ ∀ a ∈ fx, H0 a = none ∧ (∀ i, a ∉ fp i) ∧ ¬ G a

section
variable (P : Prm) (F : Nat → List Sl → CR) (T : Tb) (Gt : Nat → (Ls → R Vw) → Ls → R Vw) (th : Option (Ls × (Ls → R Vw)))
def TEs (x : Xp) : L2.TE := fun σ H Q => ∃ e G fp, Sim P.K G H e σ fp ∧ Aft P x.tch σ e G H fp (ev F T Gt th x e) (VwOk P.K H σ) Q
def TPs (emb : Bool) (xs : List Xp) : L2.TA := fun σ H Q => ∃ e G fp, Sim P.K G H e σ fp ∧ Aft P (Xp.tchs xs) σ e G H fp (evP F T Gt th emb xs e) (OkL P.K emb) Q
def TOs (xs : List Xp) : L2.TA := fun σ H Q => ∃ e G fp, Sim P.K G H e σ fp ∧ Aft P (Xp.tchs xs) σ e G H fp (evO F T Gt th xs e) (OkO P.K H) Q
end
section
variable {P : Prm} {F : Nat → List Sl → CR} {T : Tb} {Gt : Nat → (Ls → R Vw) → Ls → R Vw} {th : Option (Ls × (Ls → R Vw))} {σ : L2.St} {H : Hp} {emb : Bool} {x : Xp} {xs : List Xp}
theorem tps_nil {Q : List V → Hp → Prop} (J : Inj P.K H) (h : TPs P F T Gt th emb [] σ H Q) : Q [] H := by
  obtain ⟨e, G, fp, S, h⟩ := h
  refine h G H fp [] (Frm.refl S) .refl S J ?_
  unfold OkL
  split
  · exact .nil
  · exact .nil
theorem tps_cons {Q : List V → Hp → Prop} (h : TPs P F T Gt th emb (x :: xs) σ H Q) : inj P.K (TEs P F T Gt th x) σ H fun v H1 => TPs P F T Gt th emb xs σ H1 fun vs H2 => Q (v :: vs) H2 := by
  obtain ⟨e, G, fp, S, h⟩ := h
  have h' : Aft P (Xp.tchs (x :: xs)) σ e G H fp ((ev F T Gt th x e).bind fun v e => if emb then (let r := asF v e; (evP F T Gt th emb xs r.2).bind fun ds e => .ok (r.1 :: ds) e) else if clash (v.on e) (Xp.tchs xs) then .bad "operand" else (evP F T Gt th emb xs e).bind fun ds e => .ok (v.d :: ds) e) (OkL P.K emb) Q := by
    simpa only [evP] using h
  refine ⟨e, G, fp, S, Aft.first h' (fun i hi => by simp only [Xp.tchs]; exact List.mem_append_left _ hi) fun w e1 G1 H1 fp1 v hr Fr Kp S1 J1 o _ => ?_⟩
  rw [hr] at h'
  change Aft P _ σ e G H fp (if emb then _ else _) _ _ at h'
  cases emb with
  | true =>
    rw [if_pos rfl] at h'
    obtain ⟨G2, fp2, F2, K2, S2, r2⟩ := asF_ok S Fr Kp S1 J1 o
    refine ⟨(asF w e1).2, G2, fp2, S2, ?_⟩
    refine (Aft.shift (ts2 := Xp.tchs xs) (Ok1 := OkL P.K true) (Aft.first (Q1 := fun vs H2 => Q (v :: vs) H2) (Ok1 := fun ds e' G' H' fp' vs => OkL P.K true ds e' G' H' fp' vs ∧ Frm G2 H1 fp2 G' H' fp') h' (fun i hi => hi) fun ds e' G' H' fp' vs hr2 F' K' S' J' o' => ?_) (fun i hi => by simpa only [Xp.tchs] using hi) S F2 K2 fun a e' G' H' fp' b o f => ⟨o, f⟩)
    rw [hr2] at h'
    refine h' G' H' fp' (v :: vs) F' K' S' J' ?_
    unfold OkL at o' ⊢
    rw [if_pos rfl] at o' ⊢
    exact .cons (fp := []) (fps := []) (r2.keep o'.2.g (o'.2.stays S2) fun _ h => by cases h) o'.1
  | false =>
    rw [if_neg Bool.false_ne_true] at h'
    by_cases hc : clash (w.on e1) (Xp.tchs xs) = true
    · rw [if_pos hc] at h'; exact h'.elim
    · rw [if_neg hc] at h'
      have hc' : clash (w.on e1) (Xp.tchs xs) = false := by simpa using hc
      refine ⟨e1, G1, fp1, S1, ?_⟩
      obtain ⟨k, fx, r, hx⟩ := look_ok S1 J1 o
      -- the frame from here is wanted: shift first
      have g : Aft P (Xp.tchs xs) σ e1 G1 H1 fp1 ((evP F T Gt th false xs e1).bind fun ds e => .ok (w.d :: ds) e) (OkL P.K false) Q :=
        Aft.shift h' (fun i hi => by simpa only [Xp.tchs] using hi) S Fr Kp fun a e' G' H' fp' b o _ => o
      refine Aft.first g (fun i hi => hi) fun ds e' G' H' fp' vs hr2 F' K' S' J' o' => ?_
      rw [hr2] at g
      refine g G' H' fp' (v :: vs) F' K' S' J' ?_
      unfold OkL at o' ⊢
      rw [if_neg Bool.false_ne_true] at o' ⊢
      exact .cons (r.later S1 hx F' K'.h hc') o'
theorem tos_nil {Q : List V → Hp → Prop} (J : Inj P.K H) (h : TOs P F T Gt th [] σ H Q) : Q [] H := by
  obtain ⟨e, G, fp, S, h⟩ := h
  exact h G H fp [] (Frm.refl S) .refl S J ⟨[], .nil, List.nodup_nil, fun a h => by cases h⟩
end
end Ev
end
section
set_option linter.all false
set_option maxHeartbeats 1000000
namespace Ev
open PySem
section
variable {P : Prm} {F : Nat → List Sl → CR} {T : Tb} {Gt : Nat → (Ls → R Vw) → Ls → R Vw} {th : Option (Ls × (Ls → R Vw))} {σ : L2.St} {H : Hp} {emb : Bool} {x : Xp} {xs : List Xp}
theorem Own.there {K : PySem.W.Frag} {G : GSet} {H : Hp} : ∀ {ss vs fx}, Own K G H ss vs fx → ∀ a ∈ fx, ∃ o, H a = some o ∧ L2.Mut (some o)
  | _, _, _, .nil, _, h => by cases h
  | _, _, _, .cons h r, a, ha => by
    rcases List.mem_append.mp ha with q | q
    · exact h.there a q
    · exact Own.there r a q
theorem Own.length {K : PySem.W.Frag} {G : GSet} {H : Hp} : ∀ {ss vs fx}, Own K G H ss vs fx → ss.length = vs.length
  | _, _, _, .nil => rfl
  | _, _, _, .cons _ r => by simp [Own.length r]
theorem tos_cons {Q : List V → Hp → Prop} (h : TOs P F T Gt th (x :: xs) σ H Q) : inj P.K (TEs P F T Gt th x) σ H fun v H1 => TOs P F T Gt th xs σ H1 fun vs H2 => Q (v :: vs) H2 := by
  obtain ⟨e, G, fp, S, h⟩ := h
  have h' : Aft P (Xp.tchs (x :: xs)) σ e G H fp ((ev F T Gt th x e).bind fun v e => let r := asO v e; (evO F T Gt th xs r.2).bind fun ds e => .ok (r.1 :: ds) e) (OkO P.K H) Q := by
    simpa only [evO] using h
  refine ⟨e, G, fp, S, Aft.first h' (fun i hi => by simp only [Xp.tchs]; exact List.mem_append_left _ hi) fun w e1 G1 H1 fp1 v hr Fr Kp S1 J1 o _ => ?_⟩
  rw [hr] at h'
  change Aft P _ σ e G H fp ((evO F T Gt th xs (asO w e1).2).bind fun ds e => .ok ((asO w e1).1 :: ds) e) _ _ at h'
  obtain ⟨G2, fp2, fx, F2, K2, S2, r2, nd, hx⟩ := asO_ok S Fr Kp S1 J1 o
  refine ⟨(asO w e1).2, G2, fp2, S2, ?_⟩
  refine Aft.shift (ts2 := Xp.tchs xs) (Ok1 := OkO P.K H1) (Aft.first (Q1 := fun vs H2 => Q (v :: vs) H2) (Ok1 := fun ds e' G' H' fp' vs => OkO P.K H1 ds e' G' H' fp' vs ∧ Frm G2 H1 fp2 G' H' fp') h' (fun i hi => hi) fun ds e' G' H' fp' vs hr2 F' K' S' J' o' => ?_) (fun i hi => by simpa only [Xp.tchs] using hi) S F2 K2 fun a e' G' H' fp' b o f => ⟨o, f⟩
  rw [hr2] at h'
  refine h' G' H' fp' (v :: vs) F' K' S' J' ?_
  obtain ⟨⟨fxs, ow, nd2, hxs⟩, f⟩ := o'
  have al : ∀ a ∈ fx, H1 a ≠ none := fun a ha => by
    obtain ⟨o, ho, _⟩ := r2.there a ha
    rw [ho]; simp
  refine ⟨fx ++ fxs, .cons (r2.keep f.g (f.stays S2) fun a ha => ?_) ow, List.nodup_append.mpr ⟨nd, nd2, fun a ha b hb e => ?_⟩, fun a ha => ?_⟩
  · obtain ⟨o, ho, hm⟩ := r2.there a ha
    rw [ho]
    exact f.st a o ho (hx a ha).2.1 (mut_tbl hm)
  · subst e
    exact al a ha (hxs a hb).1
  · rcases List.mem_append.mp ha with q | q
    · refine ⟨(hx a q).1, fun i hi => ?_, fun g => ?_⟩
      · rcases f.fn i a hi with z | z
        · exact (hx a q).2.1 i z
        · exact al a q z
      · rcases f.gn a g with z | ⟨i, z⟩ | z
        · exact (hx a q).2.2 z
        · exact (hx a q).2.1 i z
        · exact al a q z
    · refine ⟨?_, (hxs a q).2⟩
      cases z : H a with
      | none => rfl
      | some o => exact absurd (hxs a q).1 (Fr.al a (by rw [z]; simp))
/-- behind a new thing at p -/
theorem upd_ext {H : Hp} {p : Addr} {o : L2.HO} (hp : H p = none) : ∀ a u, H a = some u → L2.upd H p o a = some u := fun a u h => by
  rw [L2.upd_ne (L2.ne_of_none h hp)]; exact h
theorem Sim.ext {K : PySem.W.Frag} {G : GSet} {H H' : Hp} {e : Ls} {fp : FpT} (S : Sim K G H e σ fp) (h : ∀ a u, H a = some u → H' a = some u) : Sim K G H' e σ fp ∧ Frm G H fp G H' fp ∧ Keep [] e H fp e H' := by
  have st : Stays G H H' := ⟨fun a xs q => h a _ q, fun a o u q => h a _ q, fun a o _ q => h a o q⟩
  have same : ∀ i, ∀ a ∈ fp i, H' a = H a := fun i a ha => by
    obtain ⟨o, ho, _⟩ := S.there ha
    rw [ho]; exact h a o ho
  refine ⟨⟨S.len, fun i s hs => ?_, S.nil, S.nd, S.dj, S.ng, fun a g => ?_⟩, ⟨fun _ g => g, fun _ g => .inl g, fun a o q _ _ => h a o q, fun _ _ q => .inl q, fun a q => ?_⟩, ⟨fun i _ => same i, fun i _ => .inl rfl⟩⟩
  · obtain ⟨v, hv, r⟩ := S.rep i s hs
    exact ⟨v, hv, r.keep (fun _ g => g) st (same i)⟩
  · obtain ⟨o, ho, hm⟩ := S.gs a g
    exact ⟨o, h a o ho, hm⟩
  · cases z : H a with
    | none => exact absurd z q
    | some o => rw [h a o z]; simp
/-- a new value is at hand -/
structure NewOk (K : PySem.W.Frag) (G : GSet) (H : Hp) (k : Nat) (d : D) (z : V) (H' : Hp) : Prop where
  ext : ∀ a u, H a = some u → H' a = some u
  rep : ∃ fx, Rep K G H' k d z fx ∧ fx.Nodup ∧ ∀ a ∈ fx, H a = none
theorem NewOk.vw {K : PySem.W.Frag} {G : GSet} {H0 H H' : Hp} {k : Nat} {d : D} {z : V} {e : Ls} {fp : FpT} {G0 : GSet} {fp0 : FpT} (S : Sim K G H e σ fp) (F : Frm G0 H0 fp0 G H fp) (n : NewOk K G H k d z H') : VwOk K H0 σ (new k d) e G H' fp z := by
  obtain ⟨fx, r, nd, hx⟩ := n.rep
  have key : ∀ a ∈ fx, H0 a = none ∧ (∀ i, a ∉ fp i) ∧ ¬ G a := fun a ha => by
    refine ⟨F.none (hx a ha), fun i hi => ?_, fun g => ?_⟩
    · obtain ⟨o, ho, _⟩ := S.there hi
      rw [hx a ha] at ho; cases ho
    · obtain ⟨o, ho, _⟩ := S.gs a g
      rw [hx a ha] at ho; cases ho
  show ∃ fx, Rep K G H' (if d.atom then capK else k) d z fx ∧ fx.Nodup ∧ ∀ a ∈ fx, H0 a = none ∧ (∀ i, a ∉ fp i) ∧ ¬ G a
  cases h : d.atom with
  | true =>
    refine ⟨[], ?_, List.nodup_nil, fun a h => by cases h⟩
    exact (atom_fp h r).2 _ _ _
  | false => exact ⟨fx, r, nd, key⟩
/-- the end of a piece that makes something new -/
theorem Aft.made {ts : List Nat} {e e1 : Ls} {G G1 : GSet} {H1 H' : Hp} {fp fp1 : FpT} {k : Nat} {d : D} {z : V} {Q : V → Hp → Prop} (S : Sim P.K G H e σ fp) (h : Aft P ts σ e G H fp (.ok (new k d) e1) (VwOk P.K H σ) Q) (Fr : Frm G H fp G1 H1 fp1) (Kp : Keep ts e H fp e1 H1) (S1 : Sim P.K G1 H1 e1 σ fp1) (n : NewOk P.K G1 H1 k d z H') (J : Inj P.K H') : Q z H' := by
  obtain ⟨S2, F2, K2⟩ := S1.ext n.ext
  exact h G1 H' fp1 z (Fr.trans S F2) ((Keep.trans S Fr Kp F2 K2).mono (by simp)) S2 J (n.vw S1 Fr)
theorem Own.reps {K : PySem.W.Frag} {G : GSet} {H H' : Hp} (h : ∀ a u, H a = some u → H' a = some u) : ∀ {ss vs fx}, Own K G H ss vs fx → fx.Nodup → ∀ {n : Nat}, (∀ s ∈ ss, n ≤ s.k) → ∃ fx', fx'.Sublist fx ∧ ∀ G' : GSet, (∀ a, G a → G' a) → (∀ a ∈ fx, a ∉ fx' → G' a) → Reps K G' H' n (ss.map (·.d)) vs fx'
  | _, _, _, .nil, _, _, _ => ⟨[], List.Sublist.refl _, fun _ _ _ => .nil⟩
  | _, _, _, .cons (fx := f1) (fxs := f2) r o, nd, n, hn => by
    obtain ⟨n1, n2, n3⟩ := List.nodup_append.mp nd
    have r' : Rep K G H' _ _ _ f1 := r.keep (fun _ g => g) ⟨fun a xs q => h a _ q, fun a o u q => h a _ q, fun a o _ q => h a o q⟩ fun a ha => by
      obtain ⟨o, ho, _⟩ := r.there a ha
      rw [ho]; exact h a o ho
    obtain ⟨g1, s1, h1⟩ := r'.lower n1 (hn _ (List.mem_cons_self ..))
    obtain ⟨g2, s2, h2⟩ := Own.reps h o n2 (n := n) fun s hs => hn s (List.mem_cons_of_mem _ hs)
    refine ⟨g1 ++ g2, s1.append s2, fun G' g q => .cons (h1 G' g fun a ha na => q a (List.mem_append_left _ ha) fun z => ?_) (h2 G' g fun a ha na => q a (List.mem_append_right _ ha) fun z => ?_)⟩
    · rcases List.mem_append.mp z with z | z
      · exact na z
      · exact n3 a ha a (s2.subset z) rfl
    · rcases List.mem_append.mp z with z | z
      · exact n3 a (s1.subset z) a ha rfl
      · exact na z
theorem minK_le : ∀ {ss : List Sl}, ∀ s ∈ ss, minK ss ≤ s.k
  | [], _, h => by cases h
  | t :: r, s, h => by
    unfold minK
    rcases List.mem_cons.mp h with e | h
    · subst e; exact Nat.min_le_left _ _
    · exact Nat.le_trans (Nat.min_le_right _ _) (minK_le s h)
theorem evO_length : ∀ {xs : List Xp} {e e' : Ls} {ss : List Sl}, evO F T Gt th xs e = .ok ss e' → ss.length = xs.length
  | [], e, e', ss, h => by
    simp only [evO, R.ok.injEq] at h
    rw [← h.1]; rfl
  | x :: xs, e, e', ss, h => by
    simp only [evO] at h
    cases h1 : ev F T Gt th x e with
    | rs c y => rw [h1] at h; cases h
    | bad m => rw [h1] at h; cases h
    | ok w e1 =>
      rw [h1] at h
      change (evO F T Gt th xs (asO w e1).2).bind _ = _ at h
      cases h2 : evO F T Gt th xs (asO w e1).2 with
      | rs c y => rw [h2] at h; cases h
      | bad m => rw [h2] at h; cases h
      | ok s2 e2 =>
        rw [h2] at h
        change R.ok _ _ = R.ok _ _ at h
        injection h with h h'
        rw [← h, List.length_cons, List.length_cons, evO_length h2]
theorem big_line : 1000000 ≤ sizeLine := by rw [sizeLine_eq]; decide
/-- a written tuple, a written list: the items, then the new thing -/
theorem te_tup {Q : V → Hp → Prop} (hl : xs.length ≤ 1000) (J : Inj P.K H) (h : TEs P F T Gt th (.tup xs) σ H Q) : L2.tTup (injA P.K (TOs P F T Gt th xs)) σ H fun v H' => Inj P.K H' → Q v H' := by
  obtain ⟨e, G, fp, S, h⟩ := h
  have h' : Aft P (Xp.tch (.tup xs)) σ e G H fp ((evO F T Gt th xs e).bind fun xs e => .ok (new (minK xs) (.tup (xs.map (·.d)))) e) (VwOk P.K H σ) Q := by
    simpa only [ev] using h
  refine ⟨e, G, fp, S, Aft.first h' (fun i hi => by simpa only [Xp.tch] using hi) fun ss e1 G1 H1 fp1 vs hr Fr Kp S1 J1 o _ => ?_⟩
  rw [hr] at h'
  change Aft P _ σ e G H fp (.ok (new (minK ss) (.tup (ss.map (·.d)))) e1) _ _ at h'
  obtain ⟨fx, ow, nd, hx⟩ := o
  refine ⟨?_, fun p hp J2 => ?_⟩
  · rw [← ow.length, evO_length hr]
    have := big_line
    omega
  · have ext := upd_ext (o := .tup vs) hp
    obtain ⟨fx', sb, hr'⟩ := ow.reps ext nd (n := minK ss) minK_le
    obtain ⟨S2, F2, K2⟩ := S1.ext ext
    have al : ∀ a ∈ fx, ∃ o, L2.upd H1 p (.tup vs) a = some o ∧ L2.Mut (some o) := fun a ha => by
      obtain ⟨o, ho, hm⟩ := ow.there a ha
      exact ⟨o, ext a o ho, hm⟩
    have S3 := S2.moreG (fx := fx.filter fun a => decide (a ∉ fx')) (fun a ha i => (hx a (List.mem_filter.mp ha).1).2.1 i) fun a ha => al a (List.mem_filter.mp ha).1
    have m : ∀ a, a ∈ fx.filter (fun a => decide (a ∉ fx')) ↔ a ∈ fx ∧ a ∉ fx' := fun a => by simp [List.mem_filter]
    have r3 : Reps P.K (fun a => G1 a ∨ a ∈ fx.filter fun a => decide (a ∉ fx')) (L2.upd H1 p (.tup vs)) (minK ss) (ss.map (·.d)) vs fx' := hr' _ (fun a g => .inl g) fun a ha na => .inr ((m a).mpr ⟨ha, na⟩)
    refine h' _ _ fp1 (.ref p) ?_ ((Keep.trans S Fr Kp F2 K2).mono (by simp [Xp.tch])) S3 J2 ?_
    · have F3 := Fr.trans S F2
      refine ⟨fun a g => .inl (F3.g a g), fun a g => ?_, F3.st, F3.fn, F3.al⟩
      rcases g with g | g
      · exact F3.gn a g
      · exact .inr (.inr (hx a ((m a).mp g).1).1)
    · show ∃ fx, Rep P.K _ _ (if D.atom (.tup (ss.map (·.d))) then capK else minK ss) (.tup (ss.map (·.d))) (.ref p) fx ∧ fx.Nodup ∧ _
      refine ⟨fx', .tup (L2.SqT.of L2.upd_same) r3, sb.nodup nd, fun a ha => ?_⟩
      have ha' := sb.subset ha
      refine ⟨(hx a ha').1, (hx a ha').2.1, fun g => ?_⟩
      rcases g with g | g
      · exact (hx a ha').2.2 g
      · exact ((m a).mp g).2 ha
end
end Ev
end
section
set_option linter.all false
set_option maxHeartbeats 1000000
namespace Ev
open PySem
section
variable {P : Prm} {F : Nat → List Sl → CR} {T : Tb} {Gt : Nat → (Ls → R Vw) → Ls → R Vw} {th : Option (Ls × (Ls → R Vw))} {σ : L2.St} {H : Hp} {emb : Bool} {x : Xp} {xs : List Xp}
theorem te_lst {Q : V → Hp → Prop} (hl : xs.length ≤ 1000) (J : Inj P.K H) (h : TEs P F T Gt th (.lst xs) σ H Q) : L2.tLst (injA P.K (TOs P F T Gt th xs)) σ H fun v H' => Inj P.K H' → Q v H' := by
  obtain ⟨e, G, fp, S, h⟩ := h
  have h' : Aft P (Xp.tch (.lst xs)) σ e G H fp ((evO F T Gt th xs e).bind fun xs e => .ok (new (min capK (minK xs + 1)) (.lst (xs.map (·.d)))) e) (VwOk P.K H σ) Q := by
    simpa only [ev] using h
  refine ⟨e, G, fp, S, Aft.first h' (fun i hi => by simpa only [Xp.tch] using hi) fun ss e1 G1 H1 fp1 vs hr Fr Kp S1 J1 o _ => ?_⟩
  rw [hr] at h'
  change Aft P _ σ e G H fp (.ok (new (min capK (minK ss + 1)) (.lst (ss.map (·.d)))) e1) _ _ at h'
  obtain ⟨fx, ow, nd, hx⟩ := o
  refine ⟨?_, fun p hp J2 => ?_⟩
  · rw [← ow.length, evO_length hr]
    have := big_line
    omega
  · have ext := upd_ext (o := .lst vs) hp
    obtain ⟨fx', sb, hr'⟩ := ow.reps ext nd (n := min 8 (minK ss)) fun s hs => Nat.le_trans (Nat.min_le_right _ _) (minK_le s hs)
    have ek : min capK (minK ss + 1) = min 8 (minK ss) + 1 := by unfold capK; omega
    obtain ⟨S2, F2, K2⟩ := S1.ext ext
    have al : ∀ a ∈ fx, ∃ o, L2.upd H1 p (.lst vs) a = some o ∧ L2.Mut (some o) := fun a ha => by
      obtain ⟨o, ho, hm⟩ := ow.there a ha
      exact ⟨o, ext a o ho, hm⟩
    have S3 := S2.moreG (fx := fx.filter fun a => decide (a ∉ fx')) (fun a ha i => (hx a (List.mem_filter.mp ha).1).2.1 i) fun a ha => al a (List.mem_filter.mp ha).1
    have m : ∀ a, a ∈ fx.filter (fun a => decide (a ∉ fx')) ↔ a ∈ fx ∧ a ∉ fx' := fun a => by simp [List.mem_filter]
    have r3 : Reps P.K (fun a => G1 a ∨ a ∈ fx.filter fun a => decide (a ∉ fx')) (L2.upd H1 p (.lst vs)) (min 8 (minK ss)) (ss.map (·.d)) vs fx' := hr' _ (fun a g => .inl g) fun a ha na => .inr ((m a).mpr ⟨ha, na⟩)
    have pf : p ∉ fx := fun z => by
      obtain ⟨o, ho, _⟩ := ow.there p z
      rw [hp] at ho; cases ho
    refine h' _ _ fp1 (.ref p) ?_ ((Keep.trans S Fr Kp F2 K2).mono (by simp [Xp.tch])) S3 J2 ?_
    · have F3 := Fr.trans S F2
      refine ⟨fun a g => .inl (F3.g a g), fun a g => ?_, F3.st, F3.fn, F3.al⟩
      rcases g with g | g
      · exact F3.gn a g
      · exact .inr (.inr (hx a ((m a).mp g).1).1)
    · show ∃ fx, Rep P.K _ _ (if D.atom (.lst (ss.map (·.d))) then capK else min capK (minK ss + 1)) (.lst (ss.map (·.d))) (.ref p) fx ∧ fx.Nodup ∧ _
      rw [show D.atom (.lst (ss.map (·.d))) = false from rfl, if_neg Bool.false_ne_true, ek]
      refine ⟨p :: fx', .lstO L2.upd_same r3, List.nodup_cons.mpr ⟨fun z => pf (sb.subset z), sb.nodup nd⟩, fun a ha => ?_⟩
      rcases List.mem_cons.mp ha with e | ha
      · subst e
        refine ⟨Fr.none hp, fun i hi => ?_, fun g => ?_⟩
        · obtain ⟨o, ho, _⟩ := S1.there hi
          rw [hp] at ho; cases ho
        · rcases g with g | g
          · obtain ⟨o, ho, _⟩ := S1.gs a g
            rw [hp] at ho; cases ho
          · exact pf ((m a).mp g).1
      · have ha' := sb.subset ha
        refine ⟨(hx a ha').1, (hx a ha').2.1, fun g => ?_⟩
        rcases g with g | g
        · exact (hx a ha').2.2 g
        · exact ((m a).mp g).2 ha
/-- a written constant -/
def conV : D → V
  | .non => .non | .bl b => .bl b | .int i => .int i | .str s => .str ⟨s.toArray⟩ | _ => .non
/-- a constant that can be written -/
def conOk : D → Bool
  | .non => true | .bl _ => true | .int _ => true | .str s => decide (s.length ≤ 1000000) | _ => false
theorem conV_rep {K : PySem.W.Frag} {G : GSet} {H : Hp} {k : Nat} {d : D} (h : conOk d = true) : Rep K G H k d (conV d) [] := by
  cases d with
  | non => exact .non
  | bl b => exact .bl
  | int i => exact .int
  | str s => exact .str (of_decide_eq_true h)
  | _ => cases h
theorem te_c {Q : V → Hp → Prop} {d : D} (hd : conOk d = true) (J : Inj P.K H) (h : TEs P F T Gt th (.c d) σ H Q) : L2.tC (conV d) σ H fun v H' => Inj P.K H' → Q v H' := fun J2 => by
  obtain ⟨e, G, fp, S, h⟩ := h
  have h' : Aft P (Xp.tch (.c d)) σ e G H fp (.ok (new 0 d) e) (VwOk P.K H σ) Q := by simpa only [ev] using h
  exact Aft.made S h' (Frm.refl S) .refl S ⟨fun _ _ q => q, [], conV_rep hd, List.nodup_nil, fun _ h => by cases h⟩ J2
theorem te_v {Q : V → Hp → Prop} {i : Nat} (J : Inj P.K H) (h : TEs P F T Gt th (.v i) σ H Q) : L2.tVar i σ H fun v H' => Inj P.K H' → Q v H' := by
  obtain ⟨e, G, fp, S, h⟩ := h
  simp only [ev] at h
  cases q : e.at i with
  | none => rw [q] at h; exact h.elim
  | some s =>
    rw [q] at h
    obtain ⟨v, hv, r⟩ := S.rep i s q
    refine ⟨v, hv, fun J2 => ?_⟩
    exact h G H fp v (Frm.refl S) .refl S J2 ⟨s, v, q, hv, .nil⟩
/-- a primitive's reading: its operands stand for ds, and what it hands back is primD's -/
def RPr (K : PySem.W.Frag) (sup : Nat → List Nat) (op : Pr) : List V → Hp → (V → Hp → Prop) → Prop := fun vs H Q => ∃ G ds d, (if op.emb then Reps K G H 0 ds vs [] else Rds K G H ds vs) ∧ primD sup op ds = some d ∧ ∀ z H', Inj K H' → NewOk K G H (freshP op d) d z H' → Q z H'
theorem te_p {Q : V → Hp → Prop} {op : Pr} (h : TEs P F T Gt th (.p op xs) σ H Q) : TPs P F T Gt th op.emb xs σ H fun vs H1 => RPr P.K (supT T) op vs H1 Q := by
  obtain ⟨e, G, fp, S, h⟩ := h
  simp only [ev] at h
  refine ⟨e, G, fp, S, Aft.first h (fun i hi => by simpa only [Xp.tch] using hi) fun ds e1 G1 H1 fp1 vs hr Fr Kp S1 J1 o => ?_⟩
  simp only [hr, R.bind] at h
  cases hp : primD (supT T) op ds with
  | none => simp only [hp] at h; exact h.elim
  | some d =>
    simp only [hp] at h
    exact ⟨G1, ds, d, o, hp, fun z H' J' n => Aft.made S h Fr (Kp.mono fun i hi => by simpa only [Xp.tch] using hi) S1 n J'⟩
end
end Ev
end
section
set_option linter.all false
set_option maxHeartbeats 1000000
namespace Ev
open PySem
section
variable {X : L2.Cx}
theorem opr_pick {f : Value → Value → Sem Value} {u : L2.R2} (h : ∀ x y H Q, Inj X.K H → u x y H Q → ∃ r, L2.OpR X f r ∧ r x y H fun v H' => Inj X.K H' → Q v H') : L2.OpR X f u := fun pins s σ H x y v w Q I rx ry hu => by
  obtain ⟨r, o, hr⟩ := h x y H Q (Inj.of I) hu
  exact L2.thn (o pins s σ H x y v w _ I rx ry hr) fun _ _ ⟨v, H', I', r, q⟩ => ⟨v, H', I', r, q (Inj.of I')⟩
theorem callr_pick {f : Value} {u : List V → Hp → L2.VK → Prop} (h : ∀ xs H Q, Inj X.K H → u xs H Q → ∃ r, L2.CallR X f r ∧ r xs H fun v H' => Inj X.K H' → Q v H') : L2.CallR X f u := fun pins s σ H xs us Q I rx hu => by
  obtain ⟨r, o, hr⟩ := h xs H Q (Inj.of I) hu
  exact L2.thn (o pins s σ H xs us _ I rx hr) fun _ _ ⟨v, H', I', r, q⟩ => ⟨v, H', I', r, q (Inj.of I')⟩
theorem mtr_pick {id : String} {u : V → List V → Hp → L2.VK → Prop} (h : ∀ x xs H Q, Inj X.K H → u x xs H Q → ∃ r, L2.MtR X id r ∧ r x xs H fun v H' => Inj X.K H' → Q v H') : L2.MtR X id u := fun pins s σ H x xs v us Q I rx rxs hu => by
  obtain ⟨r, o, hr⟩ := h x xs H Q (Inj.of I) hu
  exact L2.thn (o pins s σ H x xs v us _ I rx rxs hr) fun _ _ ⟨v, H', I', r, q⟩ => ⟨v, H', I', r, q (Inj.of I')⟩
end
section
variable {K : PySem.W.Frag} {G : GSet} {H : Hp} {d : D} {v : V} {k : Nat}
theorem Reps.rds : ∀ {k ds vs fp}, Reps K G H k ds vs fp → Rds K G H ds vs
  | _, _, _, _, .nil => .nil
  | _, _, _, _, .cons h r => .cons h (Reps.rds r)
theorem reps0 {d : D} {ds : List D} {vs : List V} (h : Reps K G H 0 (d :: ds) vs []) : ∃ v ws, vs = v :: ws ∧ Rep K G H 0 d v [] ∧ Reps K G H 0 ds ws [] := by
  generalize e : ([] : List Addr) = fp at h
  cases h with
  | @cons _ _ v _ ws f1 f2 h r =>
    obtain ⟨e1, e2⟩ := List.append_eq_nil_iff.mp e.symm
    subst e1 e2
    exact ⟨v, ws, rfl, h, r⟩
/-- an operand -/
def Arg (K : PySem.W.Frag) (G : GSet) (H : Hp) (emb : Bool) (d : D) (v : V) : Prop := ∃ k fx, Rep K G H k d v fx ∧ (emb = true → k = 0 ∧ fx = [])
theorem arg_cons {emb : Bool} {ds : List D} {v : V} {vs : List V} (h : if emb then Reps K G H 0 ds (v :: vs) [] else Rds K G H ds (v :: vs)) : ∃ d ds', ds = d :: ds' ∧ Arg K G H emb d v ∧ (if emb then Reps K G H 0 ds' vs [] else Rds K G H ds' vs) := by
  cases emb with
  | true =>
    rw [if_pos rfl] at h
    cases ds with
    | nil => cases h
    | cons d ds =>
      obtain ⟨v', ws, e, r, rs⟩ := reps0 h
      injection e with e1 e2; subst e1 e2
      exact ⟨d, ds, rfl, ⟨0, [], r, fun _ => ⟨rfl, rfl⟩⟩, rs⟩
  | false =>
    rw [if_neg Bool.false_ne_true] at h
    cases h with
    | cons r rs => exact ⟨_, _, rfl, ⟨_, _, r, fun e => by cases e⟩, rs⟩
theorem arg_nil {emb : Bool} {ds : List D} (h : if emb then Reps K G H 0 ds [] [] else Rds K G H ds []) : ds = [] := by
  cases emb with
  | true => rw [if_pos rfl] at h; cases h; rfl
  | false => rw [if_neg Bool.false_ne_true] at h; cases h; rfl
theorem arg2 {emb : Bool} {ds : List D} {x y : V} (h : if emb then Reps K G H 0 ds [x, y] [] else Rds K G H ds [x, y]) : ∃ a b, ds = [a, b] ∧ Arg K G H emb a x ∧ Arg K G H emb b y := by
  obtain ⟨a, _, rfl, ha, h⟩ := arg_cons h
  obtain ⟨b, _, rfl, hb, h⟩ := arg_cons h
  obtain rfl := arg_nil h
  exact ⟨a, b, rfl, ha, hb⟩
theorem arg1 {emb : Bool} {ds : List D} {x : V} (h : if emb then Reps K G H 0 ds [x] [] else Rds K G H ds [x]) : ∃ a, ds = [a] ∧ Arg K G H emb a x := by
  obtain ⟨a, _, rfl, ha, h⟩ := arg_cons h
  obtain rfl := arg_nil h
  exact ⟨a, rfl, ha⟩
theorem Arg.int {e : Bool} {i : Int} (h : Arg K G H e (.int i) v) : v = .int i := by
  obtain ⟨k, fx, r, _⟩ := h; cases r; rfl
theorem Arg.bl {e : Bool} {i : Bool} (h : Arg K G H e (.bl i) v) : v = .bl i := by
  obtain ⟨k, fx, r, _⟩ := h; cases r; rfl
theorem Arg.non {e : Bool} (h : Arg K G H e .non v) : v = .non := by
  obtain ⟨k, fx, r, _⟩ := h; cases r; rfl
theorem Arg.str {e : Bool} {s : List Nat} (h : Arg K G H e (.str s) v) : v = .str ⟨s.toArray⟩ ∧ s.length ≤ 1000000 := by
  obtain ⟨k, fx, r, _⟩ := h; cases r with | str h => exact ⟨rfl, h⟩
theorem Arg.tup {e : Bool} {ds : List D} (h : Arg K G H e (.tup ds) v) : ∃ a vs, v = .ref a ∧ L2.SqT K H a vs ∧ Rds K G H ds vs ∧ (e = true → Reps K G H 0 ds vs []) := by
  obtain ⟨k, fx, r, q⟩ := h
  cases r with
  | tup h r => exact ⟨_, _, rfl, h, r.rds, fun e => by obtain ⟨rfl, rfl⟩ := q e; exact r⟩
theorem Arg.lst {e : Bool} {ds : List D} (h : Arg K G H e (.lst ds) v) : ∃ a vs, v = .ref a ∧ H a = some (.lst vs) ∧ Rds K G H ds vs ∧ (e = true → Reps K G H 0 ds vs []) := by
  obtain ⟨k, fx, r, q⟩ := h
  cases r with
  | lstF h r => cases h with | fz h g => exact ⟨_, _, rfl, h, r.rds, fun e => by obtain ⟨_, rfl⟩ := q e; exact r⟩
  | lstO h r => exact ⟨_, _, rfl, h, r.rds, fun e => by obtain ⟨h0, _⟩ := q e; cases h0⟩
theorem Rds.length : ∀ {ds vs}, Rds K G H ds vs → ds.length = vs.length
  | _, _, .nil => rfl
  | _, _, .cons _ r => by simp [Rds.length r]
/-- what is new -/
theorem NewOk.same (r : Rep K G H k d v []) : NewOk K G H k d v H := ⟨fun _ _ h => h, [], r, List.nodup_nil, fun _ h => by cases h⟩
theorem NewOk.lst {ds : List D} {vs : List V} {p : Addr} (hp : H p = none) (r : Reps K G H 0 ds vs []) : NewOk K G H 1 (.lst ds) (.ref p) (L2.upd H p (.lst vs)) := by
  have ext := upd_ext (o := .lst vs) hp
  refine ⟨ext, [p], .lstO L2.upd_same (r.keep (fun _ g => g) ⟨fun a xs q => ext a _ q, fun a o u q => ext a _ q, fun a o _ q => ext a o q⟩ fun _ h => by cases h), by simp, fun a h => ?_⟩
  obtain rfl := List.mem_singleton.mp h
  exact hp
theorem NewOk.tup {ds : List D} {vs : List V} {p : Addr} (hp : H p = none) (r : Reps K G H 0 ds vs []) : NewOk K G H 0 (.tup ds) (.ref p) (L2.upd H p (.tup vs)) := by
  have ext := upd_ext (o := .tup vs) hp
  exact ⟨ext, [], .tup (L2.SqT.of L2.upd_same) (r.keep (fun _ g => g) ⟨fun a xs q => ext a _ q, fun a o u q => ext a _ q, fun a o _ q => ext a o q⟩ fun _ h => by cases h), by simp, fun a h => by cases h⟩
mutual
/-- read as plain data -/
theorem Rep.dp : ∀ {k d v fp}, Rep K G H k d v fp → d.plain = true → L2.Dp K H v d.py
  | _, _, _, _, .non, _ => by simp only [D.py]; exact .non
  | _, _, _, _, .bl, _ => by simp only [D.py]; exact .bl _
  | _, _, _, _, .int, _ => by simp only [D.py]; exact .int _
  | _, _, _, _, .str _, _ => by simp only [D.py]; exact .str _
  | _, _, _, _, .tup h r, p => by simp only [D.py]; exact .tup h (Reps.dp r (by simpa only [D.plain] using p))
  | _, _, _, _, .lstF h r, p => by simp only [D.py]; exact .lst h.sq (Reps.dp r (by simpa only [D.plain] using p))
  | _, _, _, _, .lstO h r, p => by simp only [D.py]; exact .lst (L2.SqL.of h) (Reps.dp r (by simpa only [D.plain] using p))
  | _, _, _, _, .dctF _ _ _ _ _, p => by simp [D.plain] at p
  | _, _, _, _, .dctO _ _ _ _, p => by simp [D.plain] at p
  | _, _, _, _, .scr _, p => by simp [D.plain] at p
  | _, _, _, _, .exc _ _ _ _ _ _ _, p => by simp [D.plain] at p
theorem Reps.dp : ∀ {k ds vs fp}, Reps K G H k ds vs fp → D.plains ds = true → L2.DpAll K H vs (D.pys ds)
  | _, _, _, _, .nil, _ => by simp only [D.pys]; exact .nil
  | _, _, _, _, .cons h r, p => by
    simp only [D.plains, Bool.and_eq_true] at p
    simp only [D.pys]
    exact .cons (Rep.dp h p.1) (Reps.dp r p.2)
end
theorem Arg.dp {e : Bool} (h : Arg K G H e d v) (p : d.plain = true) : L2.Dp K H v d.py := by
  obtain ⟨k, fx, r, _⟩ := h; exact r.dp p
end
theorem lineOk {n : Nat} (h : n ≤ 1000000) : n ≤ sizeLine := Nat.le_trans h big_line
theorem str_len (s : List Nat) : (⟨s.toArray⟩ : Str).length = s.length := by simp [Str.length]
theorem okL {n : Nat} (h : okLen n = true) : n ≤ 1000000 := of_decide_eq_true h
section
variable {X : L2.Cx} {sup : Nat → List Nat}
def RPr2 (K : PySem.W.Frag) (sup : Nat → List Nat) (op : Pr) : L2.R2 := fun x y H Q => RPr K sup op [x, y] H Q
theorem p_add : L2.OpR X (binaryOp .Add) (RPr2 X.K sup .add) := opr_pick fun x y H Q J ⟨G, ds, d, ho, hp, q⟩ => by
  obtain ⟨a, b, rfl, ha, hb⟩ := arg2 (emb := true) ho
  simp only [primD] at hp
  cases a <;> cases b <;> simp only [addD, reduceCtorEq] at hp
  · cases hp
    obtain rfl := ha.int; obtain rfl := hb.int
    exact ⟨_, L2.op_add, _, _, rfl, rfl, fun J' => q _ _ J' (.same .int)⟩
  · rename_i a b
    split at hp
    · rename_i hl
      cases hp
      have hl := okL hl
      obtain ⟨rfl, l1⟩ := ha.str; obtain ⟨rfl, l2⟩ := hb.str
      refine ⟨_, L2.op_add_str, _, _, rfl, rfl, ?_, fun J' => q _ _ J' (.same ?_)⟩
      · rw [str_len, str_len]; exact lineOk hl
      · have e : (⟨a.toArray⟩ : Str) ++ (⟨b.toArray⟩ : Str) = ⟨(a ++ b).toArray⟩ := by
          show Str.append _ _ = _
          simp [Str.append]
        rw [e]
        exact .str (by rw [List.length_append]; exact hl)
    · cases hp
  · rename_i a b
    split at hp
    · rename_i hl
      cases hp
      have hl := okL hl
      obtain ⟨p, xs, rfl, s1, r1, e1⟩ := ha.tup
      obtain ⟨p2, ys, rfl, s2, r2, e2⟩ := hb.tup
      have r := (e1 rfl).append (e2 rfl)
      refine ⟨_, L2.op_catA, p, p2, xs, ys, rfl, rfl, s1, s2, ?_, fun h0 J' => q _ _ J' (.same ?_), fun _ h0 J' => q _ _ J' (.same ?_), fun _ _ p hp J' => q _ _ J' (.tup hp r)⟩
      · rw [← r1.length, ← r2.length]; exact lineOk hl
      · subst h0
        have h1 := r1.length
        obtain rfl : a = [] := List.eq_nil_of_length_eq_zero h1
        exact .tup s2 (e2 rfl)
      · subst h0
        have h1 := r2.length
        obtain rfl : b = [] := List.eq_nil_of_length_eq_zero h1
        rw [List.append_nil]
        exact .tup s1 (e1 rfl)
    · cases hp
  · rename_i a b
    split at hp
    · rename_i hl
      cases hp
      have hl := okL hl
      obtain ⟨p, xs, rfl, s1, r1, e1⟩ := ha.lst
      obtain ⟨p2, ys, rfl, s2, r2, e2⟩ := hb.lst
      have r := (e1 rfl).append (e2 rfl)
      refine ⟨_, L2.op_cat, p, p2, xs, ys, rfl, rfl, s1, s2, ?_, fun p hp J' => q _ _ J' (.lst hp r)⟩
      rw [← r1.length, ← r2.length]; exact lineOk hl
    · cases hp
end
end Ev
end
section
set_option linter.all false
set_option maxHeartbeats 1000000
namespace Ev
open PySem
section
variable {X : L2.Cx} {sup : Nat → List Nat}
theorem fold_rep (c : Array Nat) : ∀ (n : Nat) (acc : Array Nat), ((List.replicate n c).foldl (· ++ ·) acc).toList = acc.toList ++ (List.replicate n c.toList).flatten
  | 0, acc => by simp
  | n + 1, acc => by
    rw [List.replicate_succ, List.foldl_cons, fold_rep c n (acc ++ c), List.replicate_succ, List.flatten_cons, Array.toList_append, List.append_assoc]
theorem mul_is {a : List Nat} {n : Int} : Txt.mul ⟨a.toArray⟩ n = ⟨((List.replicate n.toNat a).flatten).toArray⟩ := by
  unfold Txt.mul
  by_cases h : n < 1
  · rw [if_pos h]
    have e : n.toNat = 0 := by omega
    rw [e]; rfl
  · rw [if_neg h]
    split
    · rename_i h2
      simp only [Bool.or_eq_true, beq_iff_eq, str_len] at h2
      rcases h2 with h2 | h2
      · subst h2
        have e : (1 : Int).toNat = 1 := rfl
        rw [e]; simp
      · obtain rfl := List.eq_nil_of_length_eq_zero h2
        simp
    · congr 1
      apply Array.ext'
      rw [fold_rep]
      simp
theorem mul_len {a : List Nat} {n : Nat} : ((List.replicate n a).flatten).length = a.length * n := by
  simp [List.length_flatten, Nat.mul_comm]
theorem mul_ok {a : List Nat} {n : Int} (h : a.length * n.toNat ≤ 1000000) (hn : -(2 ^ 62) < n ∧ n < 2 ^ 62) : MulOk ⟨a.toArray⟩ n := by
  refine ⟨?_, fun h1 h2 h3 => ?_, fun h1 h2 => ?_⟩
  · simp only [Bool.or_eq_false_iff, decide_eq_false_iff_not]
    constructor <;> omega
  · rw [str_len] at h3
    have hp : 0 < n := by omega
    have h4 := (Int.ediv_lt_iff_lt_mul hp).mp h3
    have h5 : ((a.length * n.toNat : Nat) : Int) = (a.length : Int) * n := by
      rw [Int.natCast_mul, Int.toNat_of_nonneg (by omega)]
    omega
  · rw [str_len]
    unfold Builtin.Str.tooLong
    have := lineOk h
    simp only [decide_eq_false_iff_not]
    omega
theorem op_repS : L2.OpR X (binaryOp .Mult) (fun x y H Q => ∃ z n, x = .str z ∧ y = .int n ∧ MulOk z n ∧ Q (.str (Txt.mul z n)) H) := fun pins s σ H x y v u Q I rx ry ⟨z, n, hx, hy, ok, q⟩ => by
  subst hx hy
  obtain ⟨t, rfl⟩ := rx
  obtain ⟨t', rfl⟩ := ry
  exact SB.mul ok fun t2 k => ⟨.str _, H, I.tok _, ⟨_, rfl⟩, q⟩
theorem smallI_of {i : Int} (h : smallI i = true) : -(2 ^ 64) < i ∧ i < 2 ^ 64 := of_decide_eq_true h
theorem reps_rep {K : PySem.W.Frag} {G : GSet} {H : Hp} {ds : List D} {vs : List V} (r : Reps K G H 0 ds vs []) : ∀ n, Reps K G H 0 ((List.replicate n ds).flatten) ((List.replicate n vs).flatten) []
  | 0 => .nil
  | n + 1 => by
    rw [List.replicate_succ, List.replicate_succ, List.flatten_cons, List.flatten_cons]
    exact r.append (reps_rep r n)
theorem p_mul : L2.OpR X (binaryOp .Mult) (RPr2 X.K sup .mul) := opr_pick fun x y H Q J ⟨G, ds, d, ho, hp, q⟩ => by
  obtain ⟨a, b, rfl, ha, hb⟩ := arg2 (emb := true) ho
  simp only [primD] at hp
  cases a <;> cases b <;> simp only [mulD, reduceCtorEq] at hp
  · rename_i a b
    split at hp
    · rename_i hl
      cases hp
      obtain rfl := ha.int; obtain rfl := hb.int
      refine ⟨_, L2.op_mul, _, _, rfl, rfl, ?_, fun J' => q _ _ J' (.same .int)⟩
      simp only [Bool.or_eq_true] at hl
      exact hl.imp smallI_of smallI_of
    · cases hp
  · rename_i a b
    split at hp
    · rename_i hl
      cases hp
      simp only [Bool.and_eq_true] at hl
      have h1 := okL hl.1
      have h2 : -(2 ^ 62) < b ∧ b < 2 ^ 62 := of_decide_eq_true hl.2
      obtain ⟨rfl, l1⟩ := ha.str; obtain rfl := hb.int
      refine ⟨_, op_repS, _, _, rfl, rfl, mul_ok h1 h2, fun J' => q _ _ J' (.same ?_)⟩
      rw [mul_is]
      exact .str (by rw [mul_len]; exact h1)
    · cases hp
  · rename_i a b
    split at hp
    · rename_i hl
      cases hp
      simp only [Bool.and_eq_true, decide_eq_true_eq, Bool.not_eq_true'] at hl
      obtain ⟨⟨h0, h1⟩, h2⟩ := hl
      obtain ⟨p, xs, rfl, s1, r1, e1⟩ := ha.tup
      obtain rfl := hb.int
      refine ⟨_, L2.op_repT, p, _, xs, rfl, rfl, s1, fun e => ?_, h2.1, h2.2, by rw [← r1.length]; exact h1, fun p hp J' => q _ _ J' (.tup hp (reps_rep (e1 rfl) _))⟩
      have := r1.length
      rw [e] at this
      cases a with
      | nil => cases h0
      | cons _ _ => cases this
    · cases hp
  · rename_i a b
    split at hp
    · rename_i hl
      cases hp
      simp only [Bool.and_eq_true] at hl
      have h1 := okL hl.1
      have h2 : -(2 ^ 62) < b ∧ b < 2 ^ 62 := of_decide_eq_true hl.2
      obtain ⟨p, xs, rfl, s1, r1, e1⟩ := ha.lst
      obtain rfl := hb.int
      refine ⟨_, L2.op_rep, p, _, xs, rfl, rfl, s1, by omega, by omega, ?_, fun p hp J' => q _ _ J' (.lst hp (reps_rep (e1 rfl) _))⟩
      rw [← r1.length]; exact lineOk h1
    · cases hp
theorem p_sub : L2.OpR X (binaryOp .Sub) (RPr2 X.K sup .sub) := opr_pick fun x y H Q J ⟨G, ds, d, ho, hp, q⟩ => by
  obtain ⟨a, b, rfl, ha, hb⟩ := arg2 (emb := false) ho
  cases a <;> cases b <;> simp only [primD, reduceCtorEq] at hp
  cases hp
  obtain rfl := ha.int; obtain rfl := hb.int
  exact ⟨_, L2.op_sub, _, _, rfl, rfl, fun J' => q _ _ J' (.same .int)⟩
theorem p_fdiv : L2.OpR X (binaryOp .FloorDiv) (RPr2 X.K sup .fdiv) := opr_pick fun x y H Q J ⟨G, ds, d, ho, hp, q⟩ => by
  obtain ⟨a, b, rfl, ha, hb⟩ := arg2 (emb := false) ho
  cases a <;> cases b <;> simp only [primD, reduceCtorEq] at hp
  split at hp
  · rename_i hl
    cases hp
    obtain rfl := ha.int; obtain rfl := hb.int
    exact ⟨_, L2.op_fdiv, _, _, rfl, rfl, hl, fun J' => q _ _ J' (.same .int)⟩
  · cases hp
theorem p_mod : L2.OpR X (binaryOp .Mod) (RPr2 X.K sup .mod) := opr_pick fun x y H Q J ⟨G, ds, d, ho, hp, q⟩ => by
  obtain ⟨a, b, rfl, ha, hb⟩ := arg2 (emb := false) ho
  cases a <;> cases b <;> simp only [primD, reduceCtorEq] at hp
  split at hp
  · rename_i hl
    cases hp
    obtain rfl := ha.int; obtain rfl := hb.int
    exact ⟨_, L2.op_mod, _, _, rfl, rfl, hl, fun J' => q _ _ J' (.same .int)⟩
  · cases hp
theorem op_powW : L2.OpR X (binaryOp .Pow) (fun x y H Q => ∃ i j, x = .int i ∧ y = .int j ∧ (0 ≤ j ∧ (Builtin.Int.intBits i : Int) * j ≤ 134217728) ∧ Q (.int (i ^ j.toNat)) H) := fun pins s σ H x y v u Q I rx ry ⟨i, j, hx, hy, ok, q⟩ => by
  subst hx hy
  obtain ⟨t, rfl⟩ := rx
  obtain ⟨t', rfl⟩ := ry
  exact PyProof.Rows.pow_int ok.1 (by simpa using ok.2) ⟨.int _, H, I.tok _, ⟨_, rfl⟩, q⟩
theorem p_pow : L2.OpR X (binaryOp .Pow) (RPr2 X.K sup .pow) := opr_pick fun x y H Q J ⟨G, ds, d, ho, hp, q⟩ => by
  obtain ⟨a, b, rfl, ha, hb⟩ := arg2 (emb := false) ho
  cases a <;> cases b <;> simp only [primD, reduceCtorEq] at hp
  split at hp
  · rename_i hl
    cases hp
    obtain rfl := ha.int; obtain rfl := hb.int
    have h3 := smallI_of hl.2.2
    exact ⟨_, L2.op_pow, _, _, rfl, rfl, ⟨hl.1, hl.2.1, by omega⟩, fun J' => q _ _ J' (.same .int)⟩
  · split at hp
    · rename_i hl
      cases hp
      obtain rfl := ha.int; obtain rfl := hb.int
      exact ⟨_, op_powW, _, _, rfl, rfl, hl, fun J' => q _ _ J' (.same .int)⟩
    · cases hp
theorem p_neg : L2.UnR X (unaryOp .USub) (fun x H Q => RPr X.K sup .neg [x] H Q) := fun pins s σ H x v Q I rx ⟨G, ds, d, ho, hp, q⟩ => by
  obtain ⟨a, rfl, ha⟩ := arg1 (emb := false) ho
  cases a <;> simp only [primD, reduceCtorEq] at hp
  cases hp
  obtain rfl := ha.int
  exact L2.thn (L2.un_neg pins s σ H _ v (fun v H' => Inj X.K H' → Q v H') I rx ⟨_, rfl, fun J' => q _ _ J' (.same .int)⟩) fun _ _ ⟨v, H', I', r, q⟩ => ⟨v, H', I', r, q (Inj.of I')⟩
/-! comparisons -/
theorem p_eq (hu : X.A.units + 64 < cLine) : L2.OpR X (compareOp .Eq) (RPr2 X.K sup (.cmp .eq)) := opr_pick fun x y H Q J ⟨G, ds, d, ho, hp, q⟩ => by
  obtain ⟨a, b, rfl, ha, hb⟩ := arg2 (emb := false) ho
  simp only [primD, cmpD, eqD] at hp
  split at hp
  · rename_i h1
    split at hp
    · rename_i h2
      cases hp
      simp only [Bool.and_eq_true] at h1 h2
      exact ⟨_, L2.op_eqD hu, _, _, ha.dp h1.1, hb.dp h1.2, h2.1, h2.2, fun J' => q _ _ J' (.same .bl)⟩
    · cases hp
  · cases hp
theorem p_ne (hu : X.A.units + 64 < cLine) : L2.OpR X (compareOp .NotEq) (RPr2 X.K sup (.cmp .ne)) := opr_pick fun x y H Q J ⟨G, ds, d, ho, hp, q⟩ => by
  obtain ⟨a, b, rfl, ha, hb⟩ := arg2 (emb := false) ho
  simp only [primD, cmpD, eqD] at hp
  split at hp
  · rename_i h1
    split at hp
    · rename_i h2
      cases hp
      simp only [Bool.and_eq_true] at h1 h2
      exact ⟨_, L2.op_neD hu, _, _, ha.dp h1.1, hb.dp h1.2, h2.1, h2.2, fun J' => q _ _ J' (.same .bl)⟩
    · cases hp
  · cases hp
theorem p_lt : L2.OpR X (compareOp .Lt) (RPr2 X.K sup (.cmp .lt)) := opr_pick fun x y H Q J ⟨G, ds, d, ho, hp, q⟩ => by
  obtain ⟨a, b, rfl, ha, hb⟩ := arg2 (emb := false) ho
  cases a <;> cases b <;> simp only [primD, cmpD, ltI, Option.map_none, reduceCtorEq] at hp
  · cases hp
    obtain rfl := ha.int; obtain rfl := hb.int
    exact ⟨_, L2.op_lt, _, _, rfl, rfl, fun J' => q _ _ J' (.same .bl)⟩
  · cases hp
    obtain ⟨rfl, l1⟩ := ha.str; obtain ⟨rfl, l2⟩ := hb.str
    exact ⟨_, L2.op_lt_str, _, _, rfl, rfl, fun J' => q _ _ J' (.same .bl)⟩
theorem p_gt : L2.OpR X (compareOp .Gt) (RPr2 X.K sup (.cmp .gt)) := opr_pick fun x y H Q J ⟨G, ds, d, ho, hp, q⟩ => by
  obtain ⟨a, b, rfl, ha, hb⟩ := arg2 (emb := false) ho
  cases a <;> cases b <;> simp only [primD, cmpD, ltI, Option.map_none, reduceCtorEq] at hp
  · cases hp
    obtain rfl := ha.int; obtain rfl := hb.int
    exact ⟨_, L2.op_gt, _, _, rfl, rfl, fun J' => q _ _ J' (.same .bl)⟩
  · cases hp
    obtain ⟨rfl, l1⟩ := ha.str; obtain ⟨rfl, l2⟩ := hb.str
    exact ⟨_, L2.op_gt_str, _, _, rfl, rfl, fun J' => q _ _ J' (.same .bl)⟩
theorem p_le : L2.OpR X (compareOp .LtE) (RPr2 X.K sup (.cmp .le)) := opr_pick fun x y H Q J ⟨G, ds, d, ho, hp, q⟩ => by
  obtain ⟨a, b, rfl, ha, hb⟩ := arg2 (emb := false) ho
  cases a <;> cases b <;> simp only [primD, cmpD, leI, Option.map_none, reduceCtorEq] at hp
  · cases hp
    obtain rfl := ha.int; obtain rfl := hb.int
    exact ⟨_, L2.op_le, _, _, rfl, rfl, fun J' => q _ _ J' (.same .bl)⟩
  · cases hp
    obtain ⟨rfl, l1⟩ := ha.str; obtain ⟨rfl, l2⟩ := hb.str
    exact ⟨_, L2.op_le_str, _, _, rfl, rfl, fun J' => q _ _ J' (.same .bl)⟩
theorem p_ge : L2.OpR X (compareOp .GtE) (RPr2 X.K sup (.cmp .ge)) := opr_pick fun x y H Q J ⟨G, ds, d, ho, hp, q⟩ => by
  obtain ⟨a, b, rfl, ha, hb⟩ := arg2 (emb := false) ho
  cases a <;> cases b <;> simp only [primD, cmpD, leI, Option.map_none, reduceCtorEq] at hp
  · cases hp
    obtain rfl := ha.int; obtain rfl := hb.int
    exact ⟨_, L2.op_ge, _, _, rfl, rfl, fun J' => q _ _ J' (.same .bl)⟩
  · cases hp
    obtain ⟨rfl, l1⟩ := ha.str; obtain ⟨rfl, l2⟩ := hb.str
    exact ⟨_, L2.op_ge_str, _, _, rfl, rfl, fun J' => q _ _ J' (.same .bl)⟩
end
end Ev
end
section
set_option linter.all false
set_option maxHeartbeats 1000000
namespace Ev
open PySem
section
variable {X : L2.Cx} {sup : Nat → List Nat} {K : PySem.W.Frag} {G : GSet} {H : Hp}
theorem atom_flat {d : D} {v : V} {k : Nat} {fx : List Addr} (h : d.atom = true) (r : Rep K G H k d v fx) : L2.flatV v = true ∧ ∀ {e w j fy}, e.atom = true → Rep K G H j e w fy → L2.eqV v w = eqK d e := by
  cases r with
  | non => exact ⟨rfl, fun {e w j fy} he r => by cases r <;> first | rfl | cases he⟩
  | bl => exact ⟨rfl, fun {e w j fy} he r => by cases r <;> first | rfl | cases he⟩
  | int => exact ⟨rfl, fun {e w j fy} he r => by cases r <;> first | rfl | cases he⟩
  | str _ =>
    refine ⟨rfl, fun {e w j fy} he r => ?_⟩
    cases r <;> first | rfl | (cases he; done) | skip
    rename_i s _ t _
    show ((⟨s.toArray⟩ : Str) == (⟨t.toArray⟩ : Str)) = (s == t)
    by_cases h : s = t
    · subst h; simp
    · rw [beq_eq_false_iff_ne.mpr h]
      refine beq_eq_false_iff_ne.mpr fun e => h ?_
      injection e with e
      injection e
  | tup _ _ => cases h
  | lstF _ _ => cases h
  | lstO _ _ => cases h
  | dctF _ _ _ _ _ => cases h
  | dctO _ _ _ _ => cases h
  | scr _ => cases h
  | exc _ _ _ _ _ _ _ => cases h
theorem rds_flat : ∀ {ds vs}, Rds K G H ds vs → ds.all D.atom = true → vs.all L2.flatV = true ∧ ∀ {e w j fy}, e.atom = true → Rep K G H j e w fy → L2.inV w vs = ds.any fun d => eqK d e
  | _, _, .nil, _ => ⟨rfl, fun _ _ => rfl⟩
  | _, _, .cons r rs, h => by
    simp only [List.all_cons, Bool.and_eq_true] at h
    obtain ⟨h1, h2⟩ := atom_flat h.1 r
    obtain ⟨h3, h4⟩ := rds_flat rs h.2
    refine ⟨by rw [List.all_cons, h1, h3]; rfl, fun {e w j fy} he r' => ?_⟩
    have h5 := h4 he r'
    unfold L2.inV at h5 ⊢
    rw [List.any_cons, List.any_cons, h2 he r', h5]
theorem rds_dp : ∀ {ds vs}, Rds K G H ds vs → D.plains ds = true → L2.DpAll K H vs (D.pys ds)
  | _, _, .nil, _ => by simp only [D.pys]; exact .nil
  | _, _, .cons r rs, h => by
    simp only [D.plains, Bool.and_eq_true] at h
    simp only [D.pys]
    exact .cons (r.dp h.1) (rds_dp rs h.2)
/-- both ways of `in` -/
theorem p_in_any (neg : Bool) {f : Value → Value → Sem Value} {c : Cmp} {y : V} {x : V} {Q : V → Hp → Prop} {ds : List D} {d : D}
    (o1 : L2.OpR X f (fun x y H Q => ∃ (c : Nat) (z : Str), x = .str ⟨#[c]⟩ ∧ y = .str z ∧ Q (.bl (if neg then !decide (c ∈ z.cps.toList) else decide (c ∈ z.cps.toList))) H))
    (o2 : L2.OpR X f (fun x y H Q => ∃ i j, x = .str i ∧ y = .str j ∧ Q (.bl (if neg then !(!(Builtin.Str.occurrences j i 0 j.length 1).isEmpty) else !(Builtin.Str.occurrences j i 0 j.length 1).isEmpty)) H))
    (o3 : L2.OpR X f (L2.rIn X.K neg)) (o4 : L2.OpR X f (fun x y H Q => ∃ d ds, L2.Dp X.K H x d ∧ L2.Dp X.K H y (.list ds) ∧ SeqAt.shaped d = true ∧ SeqAt.shaped (.list ds) = true ∧ Q (.bl (if neg then !(ds.any fun z => PyData.eqv z d) else ds.any fun z => PyData.eqv z d)) H))
    (ho : Rds X.K G H ds [x, y]) (hp : (match ds with | [a, b] => (inD a b).map fun t => D.bl (if neg then !t else t) | _ => none) = some d)
    (q : ∀ z H', Inj X.K H' → NewOk X.K G H (freshK d) d z H' → Q z H') : ∃ r, L2.OpR X f r ∧ r x y H fun v H' => Inj X.K H' → Q v H' := by
  obtain ⟨a, b, rfl, ha, hb⟩ := arg2 (emb := false) ho
  cases b <;> simp only [inD, Option.map_none, reduceCtorEq] at hp
  · rename_i s
    cases a <;> simp only [Option.map_none, reduceCtorEq] at hp
    rename_i p
    cases hp
    obtain ⟨rfl, l1⟩ := ha.str; obtain ⟨rfl, l2⟩ := hb.str
    match p with
    | [c] => exact ⟨_, o1, c, _, rfl, rfl, fun J' => q _ _ J' (.same .bl)⟩
    | [] => exact ⟨_, o2, _, _, rfl, rfl, fun J' => by rw [str_len]; exact q _ _ J' (.same .bl)⟩
    | c :: c2 :: p => exact ⟨_, o2, _, _, rfl, rfl, fun J' => by rw [str_len]; exact q _ _ J' (.same .bl)⟩
  · rename_i s
    by_cases h : (a.atom && s.all D.atom) = true
    · rw [if_pos h] at hp
      cases hp
      simp only [Bool.and_eq_true] at h
      obtain ⟨p, xs, rfl, s1, r1, e1⟩ := hb.tup
      obtain ⟨k, fx, r, _⟩ := ha
      obtain ⟨f1, f2⟩ := rds_flat r1 h.2
      refine ⟨_, o3, p, xs, rfl, .inr s1, (atom_flat h.1 r).1, f1, fun J' => ?_⟩
      rw [f2 h.1 r]
      exact q _ _ J' (.same .bl)
    · rw [if_neg h] at hp; cases hp
  · rename_i s
    unfold inL at hp
    by_cases h1 : (a.plain && D.plains s) = true
    · rw [if_pos h1] at hp
      by_cases h2 : (SeqAt.shaped a.py && SeqAt.shaped (.list (D.pys s))) = true
      · rw [if_pos h2] at hp
        cases hp
        simp only [Bool.and_eq_true] at h1 h2
        obtain ⟨p, xs, rfl, s1, r1, e1⟩ := hb.lst
        exact ⟨_, o4, _, _, ha.dp h1.1, .lst (L2.SqL.of s1) (rds_dp r1 h1.2), h2.1, h2.2, fun J' => q _ _ J' (.same .bl)⟩
      · rw [if_neg h2] at hp; cases hp
    · rw [if_neg h1] at hp; cases hp
theorem p_in (hu : X.A.units + 65 < cLine) : L2.OpR X (compareOp .In) (RPr2 X.K sup (.cmp .inn)) := opr_pick fun x y H Q J ⟨G, ds, d, ho, hp, q⟩ => by
  have ho' : Rds X.K G H ds [x, y] := ho
  refine p_in_any false (c := .inn) L2.op_in_sign L2.op_in_str L2.op_in_seq (L2.op_inD hu) ho' ?_ q
  obtain ⟨a, b, rfl, ha, hb⟩ := arg2 (emb := false) ho
  simp only [primD, cmpD] at hp
  rw [← hp]; rfl
theorem p_nin (hu : X.A.units + 65 < cLine) : L2.OpR X (compareOp .NotIn) (RPr2 X.K sup (.cmp .notIn)) := opr_pick fun x y H Q J ⟨G, ds, d, ho, hp, q⟩ => by
  have ho' : Rds X.K G H ds [x, y] := ho
  refine p_in_any true (c := .notIn) L2.op_notIn_sign L2.op_notin_str L2.op_notIn_seq (L2.op_notInD hu) ho' ?_ q
  obtain ⟨a, b, rfl, ha, hb⟩ := arg2 (emb := false) ho
  simp only [primD, cmpD] at hp
  rw [← hp, Option.map_map]; rfl
theorem rep_non {k : Nat} {d : D} {v : V} {fx : List Addr} (r : Rep K G H k d v fx) : isD d .non = some (decide (v = .non)) := by
  cases r <;> rfl
theorem p_is : L2.OpR X (compareOp .Is) (RPr2 X.K sup (.cmp .is)) := opr_pick fun x y H Q J ⟨G, ds, d, ho, hp, q⟩ => by
  obtain ⟨a, b, rfl, ⟨k, fx, ra, _⟩, hb⟩ := arg2 (emb := false) ho
  have hb' : b = .non := by cases b <;> first | rfl | (cases a <;> simp [primD, cmpD, isD] at hp)
  subst hb'
  obtain rfl := hb.non
  simp only [primD, cmpD, rep_non ra, Option.map_some] at hp
  cases hp
  exact ⟨_, L2.op_isN, rfl, fun J' => q _ _ J' (.same .bl)⟩
theorem p_isnot : L2.OpR X (compareOp .IsNot) (RPr2 X.K sup (.cmp .isNot)) := opr_pick fun x y H Q J ⟨G, ds, d, ho, hp, q⟩ => by
  obtain ⟨a, b, rfl, ⟨k, fx, ra, _⟩, hb⟩ := arg2 (emb := false) ho
  have hb' : b = .non := by cases b <;> first | rfl | (cases a <;> simp [primD, cmpD, isD] at hp)
  subst hb'
  obtain rfl := hb.non
  simp only [primD, cmpD, rep_non ra, Option.map_some] at hp
  cases hp
  exact ⟨_, L2.op_notN, rfl, fun J' => q _ _ J' (.same .bl)⟩
end
end Ev
end
section
set_option linter.all false
set_option maxHeartbeats 1000000
namespace Ev
open PySem
theorem kit_all : (["NoneType", "int", "bool", "str", "tuple", "list", "dict"].all fun t => ["int", "str", "bool", "tuple", "list", "dict"].all fun c => L2.kitB t c == some (t == c || (t == "bool" && c == "int"))) = true := by decide +kernel
def tyName : Nat → String
  | 0 => "int" | 1 => "str" | 2 => "bool" | 3 => "tuple" | 4 => "list" | _ => "dict"
def dTy : D → String
  | .non => "NoneType" | .bl _ => "bool" | .int _ => "int" | .str _ => "str" | .tup _ => "tuple" | .lst _ => "list" | .scr _ => "list" | _ => "dict"
theorem kit_is {K : PySem.W.Frag} {c : Nat} {d : D} {b : Bool} (h : isinstD c d = some b) : PySem.W.kitOne K (.type (dTy d)) (.type (tyName c)) = some b := by
  have k := kit_all
  have key : ∀ t ∈ ["NoneType", "int", "bool", "str", "tuple", "list", "dict"], ∀ c ∈ ["int", "str", "bool", "tuple", "list", "dict"], PySem.W.kitOne K (.type t) (.type c) = some (t == c || (t == "bool" && c == "int")) := fun t ht c hc => L2.kit_ty (by
    have := List.all_eq_true.mp (List.all_eq_true.mp k t ht) c hc
    exact eq_of_beq this)
  have hc : c ≤ 5 := by
    refine Classical.byContradiction fun n => ?_
    cases d <;> simp only [isinstD, if_neg n, reduceCtorEq] at h
  have h5 : c = 0 ∨ c = 1 ∨ c = 2 ∨ c = 3 ∨ c = 4 ∨ c = 5 := by omega
  rcases h5 with rfl | rfl | rfl | rfl | rfl | rfl <;> cases d <;> simp [isinstD] at h <;> subst h <;> exact key _ (by simp [dTy]) _ (by simp [tyName])
section
variable {K : PySem.W.Frag} {G : GSet} {H : Hp}
theorem sqT_ty {a : Addr} {xs : List V} (h : L2.SqT K H a xs) : L2.TyX K H (.ref a) (.type "tuple") := by
  rcases h with (h | ⟨o, h⟩) | ⟨o, its, n, h1, h2, _⟩
  · exact .base (.tup h)
  · exact .fTuple h
  · exact .kTuple h1 h2
def notE : D → Bool
  | .exc _ _ => false
  | _ => true
theorem rep_ty {k : Nat} {d : D} {v : V} {fx : List Addr} (hn : notE d = true) (r : Rep K G H k d v fx) : L2.TyX K H v (.type (dTy d)) := by
  cases r with
  | exc _ _ _ _ _ _ _ => cases hn
  | non => exact .base .non
  | bl => exact .base (.bl _)
  | int => exact .base (.int _)
  | str _ => exact .base (.str _)
  | tup h _ => exact sqT_ty h
  | lstF h _ => cases h with | fz h _ => exact .base (.lst h)
  | lstO h _ => exact .base (.lst h)
  | dctF h _ _ _ _ => exact .base (.dK h)
  | dctO h _ _ _ => exact .base (.dK h)
  | scr h => cases h with
    | fz h _ => exact .base (.lst h)
    | lk o h => exact .base (.frz h)
    | kk o its n h1 h2 _ _ _ _ => exact .kList h1 h2
theorem rds_ints : ∀ {ds vs}, Rds K G H ds vs → ∀ {l}, ints? ds = some l → vs = l.map L2.V.int
  | _, _, .nil, l, h => by cases h; rfl
  | d :: ds, v :: vs, .cons r rs, l, h => by
    cases d <;> simp only [ints?, reduceCtorEq, Option.map_eq_some_iff] at h
    obtain ⟨l', h1, rfl⟩ := h
    cases r
    rw [rds_ints rs h1]; rfl
theorem rds_bools : ∀ {ds vs}, Rds K G H ds vs → ∀ {l}, bools? ds = some l → vs = l.map L2.V.bl
  | _, _, .nil, l, h => by cases h; rfl
  | d :: ds, v :: vs, .cons r rs, l, h => by
    cases d <;> simp only [bools?, reduceCtorEq, Option.map_eq_some_iff] at h
    obtain ⟨l', h1, rfl⟩ := h
    cases r
    rw [rds_bools rs h1]; rfl
theorem rds_strs : ∀ {ds vs}, Rds K G H ds vs → ∀ {l}, strs? ds = some l → vs = (l.map fun s => (⟨s.toArray⟩ : Str)).map L2.V.str
  | _, _, .nil, l, h => by cases h; rfl
  | d :: ds, v :: vs, .cons r rs, l, h => by
    cases d <;> simp only [strs?, reduceCtorEq, Option.map_eq_some_iff] at h
    obtain ⟨l', h1, rfl⟩ := h
    cases r
    rw [rds_strs rs h1]; rfl
end
theorem joinT_fold (sep : Str) : ∀ (l : List (List Nat)) (acc : Array Nat), ((l.map fun s => (⟨s.toArray⟩ : Str)).foldl (fun acc p => acc ++ sep.cps ++ p.cps) acc).toList = acc.toList ++ (l.map fun s => sep.cps.toList ++ s).flatten
  | [], acc => by simp
  | a :: l, acc => by
    rw [List.map_cons, List.foldl_cons, joinT_fold sep l, List.map_cons, List.flatten_cons]
    simp [List.append_assoc]
theorem joinT_flat (sep : List Nat) : ∀ (l : List (List Nat)) (a : List Nat), joinT sep (a :: l) = a ++ (l.map fun s => sep ++ s).flatten
  | [], a => by simp [joinT]
  | b :: l, a => by
    rw [joinT, joinT_flat sep l b]
    · simp [List.append_assoc]
    · intro h; cases h
theorem join_is (sep : List Nat) (l : List (List Nat)) : Txt.join ⟨sep.toArray⟩ (l.map fun s => (⟨s.toArray⟩ : Str)) = ⟨(joinT sep l).toArray⟩ := by
  unfold Txt.join Builtin.Str.glued
  cases l with
  | nil => rfl
  | cons a l =>
    rw [List.map_cons]
    congr 1
    apply Array.ext'
    rw [joinT_flat]
    exact joinT_fold ⟨sep.toArray⟩ l a.toArray
theorem joinT_len (sep : List Nat) : ∀ l, (joinT sep l).length ≤ (l.map List.length).sum + l.length * sep.length
  | [] => by simp [joinT]
  | [a] => by simp [joinT]
  | a :: b :: l => by
    have := joinT_len sep (b :: l)
    simp only [joinT, List.length_append, List.map_cons, List.sum_cons, List.length_cons] at this ⊢
    have e : (l.length + 1 + 1) * sep.length = (l.length + 1) * sep.length + sep.length := by rw [Nat.add_mul (l.length + 1) 1, Nat.one_mul]
    omega
section
variable {X : L2.Cx} {sup : Nat → List Nat}
theorem un_some {f : D → Option D} {ds : List D} {d : D} (h : un f ds = some d) : ∃ x, ds = [x] ∧ f x = some d := by
  match ds, h with
  | [x], h => exact ⟨x, rfl, h⟩
theorem bi_some {f : D → D → Option D} {ds : List D} {d : D} (h : bi f ds = some d) : ∃ x y, ds = [x, y] ∧ f x y = some d := by
  match ds, h with
  | [x, y], h => exact ⟨x, y, rfl, h⟩
/-- a primitive of one operand -/
theorem rpr1 {K : PySem.W.Frag} {op : Pr} {f : D → Option D} {xs : List V} {H : Hp} {Q : V → Hp → Prop} (h : RPr K sup op xs H Q) (e : ∀ ds, primD sup op ds = un f ds) :
    ∃ G a x d, xs = [x] ∧ Arg K G H op.emb a x ∧ f a = some d ∧ ∀ z H', Inj K H' → NewOk K G H (freshP op d) d z H' → Q z H' := by
  obtain ⟨G, ds, d, ho, hp, q⟩ := h
  rw [e] at hp
  obtain ⟨a, rfl, hf⟩ := un_some hp
  match xs, ho with
  | [], ho => cases hb : op.emb <;> rw [hb] at ho <;> cases ho
  | [x], ho =>
    obtain ⟨a', e1, ha⟩ := arg1 ho
    cases e1
    exact ⟨G, a, x, d, rfl, ha, hf, q⟩
  | x :: y :: xs, ho =>
    obtain ⟨d1, ds1, e1, _, ho⟩ := arg_cons ho
    obtain ⟨d2, ds2, e2, _, ho⟩ := arg_cons ho
    rw [e2] at e1; cases e1
theorem c_len : L2.CallR X (.builtin "len") (RPr X.K sup .len) := callr_pick fun xs H Q J h => by
  obtain ⟨G, a, x, d, rfl, ha, hp, q⟩ := rpr1 h (fun _ => rfl)
  cases a <;> simp only [lenD, reduceCtorEq] at hp <;> cases hp
  · obtain ⟨rfl, hl⟩ := ha.str
    exact ⟨_, L2.call_len, _, _, rfl, ⟨by rw [str_len]; exact lineOk hl, (str_len _).symm⟩, fun J' => q _ _ J' (.same .int)⟩
  · obtain ⟨p, vs, rfl, s, r, _⟩ := ha.tup
    exact ⟨_, L2.call_len, _, _, rfl, .inr ⟨_, s, r.length⟩, fun J' => q _ _ J' (.same .int)⟩
  · obtain ⟨p, vs, rfl, s, r, _⟩ := ha.lst
    exact ⟨_, L2.call_len, _, _, rfl, .inl ⟨_, L2.SqL.of s, r.length⟩, fun J' => q _ _ J' (.same .int)⟩
  · obtain ⟨k, fx, r, _⟩ := ha
    cases r with | scr hs => exact ⟨_, L2.call_len, _, _, rfl, .inl ⟨_, hs.sq, by simp⟩, fun J' => q _ _ J' (.same .int)⟩
theorem c_tuple : L2.CallR X (.type "tuple") (RPr X.K sup .tuple) := callr_pick fun xs H Q J h => by
  obtain ⟨G, a, x, d, rfl, ha, hp, q⟩ := rpr1 h (fun _ => rfl)
  cases a <;> simp only [tupleD, reduceCtorEq] at hp <;> cases hp
  · obtain ⟨p, vs, rfl, s, r, e⟩ := ha.tup
    exact ⟨_, L2.call_tuple_of, _, _, rfl, .inr ⟨s, fun J' => q _ _ J' (.same (.tup s (e rfl)))⟩⟩
  · obtain ⟨p, vs, rfl, s, r, e⟩ := ha.lst
    exact ⟨_, L2.call_tuple_of, _, _, rfl, .inl ⟨L2.SqL.of s, fun l hl J' => q _ _ J' (.tup hl (e rfl))⟩⟩
theorem c_list : L2.CallR X (.type "list") (RPr X.K sup .list) := callr_pick fun xs H Q J h => by
  obtain ⟨G, a, x, d, rfl, ha, hp, q⟩ := rpr1 h (fun _ => rfl)
  cases a <;> simp only [listD, reduceCtorEq] at hp <;> cases hp
  · obtain ⟨p, vs, rfl, s, r, e⟩ := ha.tup
    exact ⟨_, L2.call_list_of, _, _, rfl, .inr s, fun l hl J' => q _ _ J' (.lst hl (e rfl))⟩
  · obtain ⟨p, vs, rfl, s, r, e⟩ := ha.lst
    exact ⟨_, L2.call_list_of, _, _, rfl, .inl (L2.SqL.of s), fun l hl J' => q _ _ J' (.lst hl (e rfl))⟩
theorem c_sum (hc : X.calm = true) : L2.CallR X (.builtin "sum") (RPr X.K sup .sum) := callr_pick fun xs H Q J h => by
  obtain ⟨G, a, x, d, rfl, ha, hp, q⟩ := rpr1 h (fun _ => rfl)
  cases a <;> simp only [sumD, reduceCtorEq, Option.map_eq_some_iff] at hp
  · obtain ⟨l, hl, rfl⟩ := hp
    obtain ⟨p, vs, rfl, s, r, e⟩ := ha.lst
    rw [rds_ints r hl] at s
    exact ⟨_, L2.cr_sum hc, _, _, rfl, L2.SqL.of s, fun J' => q _ _ J' (.same .int)⟩
  · cases hp
    obtain ⟨k, fx, r, _⟩ := ha
    cases r with | scr hs => exact ⟨_, L2.cr_sum hc, _, _, rfl, hs.sq, fun J' => q _ _ J' (.same .int)⟩
theorem c_all (hc : X.calm = true) : L2.CallR X (.builtin "all") (RPr X.K sup .all) := callr_pick fun xs H Q J h => by
  obtain ⟨G, a, x, d, rfl, ha, hp, q⟩ := rpr1 h (fun _ => rfl)
  cases a <;> simp only [allD, reduceCtorEq, Option.map_eq_some_iff] at hp
  obtain ⟨l, hl, rfl⟩ := hp
  obtain ⟨p, vs, rfl, s, r, e⟩ := ha.lst
  rw [rds_bools r hl] at s
  exact ⟨_, L2.cr_all hc, _, _, rfl, L2.SqL.of s, fun J' => q _ _ J' (.same .bl)⟩
theorem c_any (hc : X.calm = true) : L2.CallR X (.builtin "any") (RPr X.K sup .any) := callr_pick fun xs H Q J h => by
  obtain ⟨G, a, x, d, rfl, ha, hp, q⟩ := rpr1 h (fun _ => rfl)
  cases a <;> simp only [anyD, reduceCtorEq, Option.map_eq_some_iff] at hp
  obtain ⟨l, hl, rfl⟩ := hp
  obtain ⟨p, vs, rfl, s, r, e⟩ := ha.lst
  rw [rds_bools r hl] at s
  exact ⟨_, L2.cr_any hc, _, _, rfl, L2.SqL.of s, fun J' => q _ _ J' (.same .bl)⟩
theorem c_isi (c : Nat) (hc : c < 90) : L2.CallR X (.builtin "isinstance") (fun xs H Q => ∃ x, xs = [x, .ty (tyName c)] ∧ RPr X.K sup (.isinst [c]) [x] H Q) := callr_pick fun xs H Q J ⟨x, e, h⟩ => by
  subst e
  obtain ⟨G, a, x', d, e, ⟨k, fx, ra, _⟩, hp, q⟩ := rpr1 h (f := fun x => (isinstD c x).map .bl) fun ds => (by
    have h90 : ¬ (90 ≤ c) := Nat.not_le.mpr hc
    simp only [primD, h90, if_false])
  cases e
  simp only [Option.map_eq_some_iff] at hp
  obtain ⟨b, hb, rfl⟩ := hp
  exact ⟨_, L2.call_isi, _, _, _, _, b, rfl, .ty _, rep_ty (by cases a <;> first | rfl | (simp only [isinstD, reduceCtorEq] at hb)) ra, kit_is hb, fun J' => q _ _ J' (.same .bl)⟩
/-- repr of lists and tuples -/
theorem call_reprA (hg : X.A.guards = some []) (hu : X.A.units + 150 < cLine) : L2.CallR X (.builtin "repr") (fun xs H Q => ∃ a d, xs = [.ref a] ∧ L2.Dp X.K H (.ref a) d ∧ d.showable = true ∧ d.hasDict = false ∧ d.depth ≤ 100 ∧ d.shown.length ≤ sizeLine ∧ Q (.str d.shown) H) := fun pins s σ H xs us Q I r ⟨a, d, e, hd, h1, h2, h3, h4, q⟩ => by
  subst e
  obtain ⟨u, rfl, ru⟩ := L2.vals1 r
  have ru' := ru
  cases ru'
  obtain ⟨as, hr⟩ := L2.Dp.reads I d _ _ hd ru
  refine repr_of_reads' hr h1 (fun z => by rw [h2] at z; cases z) hg (by omega) (fun _ _ e => e) (fun h' u tk hk => ⟨.str d.shown, H, I.kept hk, ⟨_, rfl⟩, q⟩) h4
theorem c_repr (hg : X.A.guards = some []) (hu : X.A.units + 150 < cLine) : L2.CallR X (.builtin "repr") (RPr X.K sup .repr) := callr_pick fun xs H Q J h => by
  obtain ⟨G, a, x, d, rfl, ha, hp, q⟩ := rpr1 h (f := fun x => (reprD x).map .str) (fun _ => rfl)
  simp only [Option.map_eq_some_iff] at hp
  obtain ⟨t, ht, rfl⟩ := hp
  have sq : ∀ p, a.plain = true → a.py.showable = true → a.py.hasDict = false → a.py.depth ≤ 100 → a.py.shown.length ≤ 1000000 → t = a.py.shown.cps.toList → x = .ref p → ∃ r, L2.CallR X (.builtin "repr") r ∧ r [x] H fun v H' => Inj X.K H' → Q v H' := fun p h1 h2 h3 h4 h5 h6 h7 => by
    subst h6 h7
    refine ⟨_, call_reprA hg hu, p, a.py, rfl, ha.dp h1, h2, h3, h4, lineOk h5, fun J' => q _ _ J' (.same (Rep.str (s := a.py.shown.cps.toList) ?_))⟩
    exact h5
  cases a <;> simp only [reprD, reduceCtorEq] at ht
  · split at ht
    · rename_i hz
      cases ht
      obtain rfl := ha.int
      refine ⟨_, SkE.call_repr_int, _, rfl, hz.1, fun J' => q _ _ J' (.same (Rep.str ?_))⟩
      exact hz.2
    · cases ht
  · split at ht
    · rename_i h
      cases ht
      simp only [Bool.and_eq_true, decide_eq_true_eq, Bool.not_eq_true'] at h
      obtain ⟨p, vs, e, _⟩ := ha.tup
      exact sq p h.1.1.1.1 h.1.1.1.2 h.1.1.2 h.1.2 h.2 rfl e
    · cases ht
  · split at ht
    · rename_i h
      cases ht
      simp only [Bool.and_eq_true, decide_eq_true_eq, Bool.not_eq_true'] at h
      obtain ⟨p, vs, e, _⟩ := ha.lst
      exact sq p h.1.1.1.1 h.1.1.1.2 h.1.1.2 h.1.2 h.2 rfl e
    · cases ht
theorem rpr2 {K : PySem.W.Frag} {op : Pr} {f : D → D → Option D} {xs : List V} {H : Hp} {Q : V → Hp → Prop} (h : RPr K sup op xs H Q) (e : ∀ ds, primD sup op ds = bi f ds) :
    ∃ G a b x y d, xs = [x, y] ∧ Arg K G H op.emb a x ∧ Arg K G H op.emb b y ∧ f a b = some d ∧ ∀ z H', Inj K H' → NewOk K G H (freshP op d) d z H' → Q z H' := by
  obtain ⟨G, ds, d, ho, hp, q⟩ := h
  rw [e] at hp
  obtain ⟨a, b, rfl, hf⟩ := bi_some hp
  match xs, ho with
  | [], ho => cases hb : op.emb <;> rw [hb] at ho <;> cases ho
  | [x], ho =>
    obtain ⟨a', e1, ha⟩ := arg1 ho
    cases e1
  | [x, y], ho =>
    obtain ⟨a', b', e1, ha, hb⟩ := arg2 ho
    cases e1
    exact ⟨G, a, b, x, y, d, rfl, ha, hb, hf, q⟩
  | x :: y :: w :: xs, ho =>
    obtain ⟨d1, ds1, e1, _, ho⟩ := arg_cons ho
    obtain ⟨d2, ds2, e2, _, ho⟩ := arg_cons ho
    obtain ⟨d3, ds3, e3, _, ho⟩ := arg_cons ho
    rw [e2] at e1; rw [e3] at e1; cases e1
theorem m_join : L2.MtR X "str.join" (fun x xs H Q => RPr X.K sup .join (x :: xs) H Q) := mtr_pick fun x xs H Q J h => by
  obtain ⟨G, a, b, x', y, d, e, ha, hb, hp, q⟩ := rpr2 h (fun _ => rfl)
  cases e
  cases a <;> cases b <;> simp only [joinD, reduceCtorEq] at hp
  simp only [Option.bind_eq_some_iff] at hp
  obtain ⟨l, hl, hp⟩ := hp
  split at hp
  · rename_i hz
    cases hp
    have hz := okL hz
    obtain ⟨rfl, l1⟩ := ha.str
    obtain ⟨p, vs, rfl, s, r, e⟩ := hb.lst
    rw [rds_strs r hl] at s
    refine ⟨_, L2.mt_join, _, _, _, rfl, rfl, .inl (L2.SqL.of s), ?_, fun J' => ?_⟩
    · rw [List.map_map, List.length_map, str_len]
      have e : ((fun (x : Str) => x.length) ∘ fun (s : List Nat) => (⟨s.toArray⟩ : Str)) = List.length := by
        funext s; exact str_len s
      rw [e]; omega
    · rw [join_is]
      exact q _ _ J' (.same (.str (Nat.le_trans (joinT_len _ _) hz)))
  · cases hp
theorem m_index : L2.MtR X "str.index" (fun x xs H Q => RPr X.K sup .index (x :: xs) H Q) := mtr_pick fun x xs H Q J h => by
  obtain ⟨G, a, b, x', y, d, e, ha, hb, hp, q⟩ := rpr2 h (fun _ => rfl)
  cases e
  cases a <;> cases b <;> simp only [indexD, reduceCtorEq] at hp
  simp only [Option.map_eq_some_iff] at hp
  obtain ⟨i, hi, rfl⟩ := hp
  obtain ⟨rfl, l1⟩ := ha.str
  obtain ⟨rfl, l2⟩ := hb.str
  unfold findS at hi
  rw [List.head?_eq_some_iff] at hi
  obtain ⟨rest, hi⟩ := hi
  exact ⟨_, L2.mt_sindex, _, _, i, rest, rfl, rfl, by rw [str_len]; exact hi, fun J' => q _ _ J' (.same .int)⟩
end
end Ev
end
section
set_option linter.all false
set_option maxHeartbeats 1000000
namespace Ev
open PySem PySem.Spec PyProof.Rows
section
variable {K : PySem.W.Frag} {G : GSet} {H : Hp}
theorem reps0_drop : ∀ {ds vs}, Reps K G H 0 ds vs [] → ∀ n, Reps K G H 0 (ds.drop n) (vs.drop n) []
  | [], vs, h, n => by
    have e : vs = [] := List.eq_nil_of_length_eq_zero (by rw [← h.length]; rfl)
    subst e; simpa using h
  | d :: ds, vs, h, 0 => by simpa using h
  | d :: ds, vs, h, n + 1 => by
    obtain ⟨v, ws, rfl, r, rs⟩ := reps0 h
    simpa using reps0_drop rs n
theorem reps0_take : ∀ {ds vs}, Reps K G H 0 ds vs [] → ∀ n, Reps K G H 0 (ds.take n) (vs.take n) []
  | [], vs, h, n => by
    have e : vs = [] := List.eq_nil_of_length_eq_zero (by rw [← h.length]; rfl)
    subst e; simpa using h
  | d :: ds, vs, h, 0 => by simpa using Reps.nil
  | d :: ds, vs, h, n + 1 => by
    obtain ⟨v, ws, rfl, r, rs⟩ := reps0 h
    simpa using Reps.cons (fp := []) (fps := []) r (reps0_take rs n)
theorem reps0_rev : ∀ {ds vs}, Reps K G H 0 ds vs [] → Reps K G H 0 ds.reverse vs.reverse []
  | [], vs, h => by
    have e : vs = [] := List.eq_nil_of_length_eq_zero (by rw [← h.length]; rfl)
    subst e; simpa using h
  | d :: ds, vs, h => by
    obtain ⟨v, ws, rfl, r, rs⟩ := reps0 h
    rw [List.reverse_cons, List.reverse_cons]
    exact Reps.append (fp := []) (gp := []) (reps0_rev rs) (.cons (fp := []) (fps := []) r .nil)
end
theorem ints_reps {K : PySem.W.Frag} {G : GSet} {H : Hp} : ∀ ns : List Int, Reps K G H 0 (ns.map D.int) (ns.map L2.V.int) []
  | [] => .nil
  | n :: ns => .cons (fp := []) (fps := []) .int (ints_reps ns)
theorem cut_is {α : Type} (xs : List α) (lo hi : Option Int) : cutL xs lo hi = (xs.drop (HT.sIx xs.length 0 lo)).take (HT.sIx xs.length xs.length hi - HT.sIx xs.length 0 lo) := by
  cases lo <;> cases hi <;> rfl
section
variable {X : L2.Cx} {sup : Nat → List Nat}
theorem slr_pick {u : V → Option Int → Option Int → Hp → L2.VK → Prop} (h : ∀ x lo hi H Q, Inj X.K H → u x lo hi H Q → ∃ r, L2.SlR X r ∧ r x lo hi H fun v H' => Inj X.K H' → Q v H') : L2.SlR X u := fun pins s σ H x v vl vu lo hi sl Q I rx hs pl pu hu => by
  obtain ⟨r, o, hr⟩ := h x lo hi H Q (Inj.of I) hu
  obtain ⟨T, id, h1, h2, h3⟩ := o pins s σ H x v vl vu lo hi sl _ I rx hs pl pu hr
  exact ⟨T, id, h1, h2, L2.thn h3 fun _ _ ⟨v, H', I', r, q⟩ => ⟨v, H', I', r, q (Inj.of I')⟩⟩
/-- x[lo:hi] -/
def rSli (K : PySem.W.Frag) : V → Option Int → Option Int → Hp → L2.VK → Prop := fun x lo hi H Q => ∃ G a d, Rep K G H 0 a x [] ∧ sliceD a lo hi = some d ∧ ∀ z H', Inj K H' → NewOk K G H (freshK d) d z H' → Q z H'
theorem s_all : L2.SlR X (rSli X.K) := slr_pick fun x lo hi H Q J ⟨G, a, d, ha, hp, q⟩ => by
  cases ha with
  | str hl =>
    cases hp
    refine ⟨_, L2.sl_str, _, rfl, by rw [str_len]; exact lineOk hl, fun J' => q _ _ J' (.same ?_)⟩
    unfold L2.cutS
    rw [str_len, ← cut_is]
    refine .str (Nat.le_trans ?_ hl)
    rw [cut_is]
    exact Nat.le_trans (List.length_take_le' ..) (by rw [List.length_drop]; omega)
  | @tup _ ds p vs _ h r =>
    cases hp
    have rc : Reps X.K G H 0 (cutL ds lo hi) (L2.cutV vs lo hi) [] := by
      unfold L2.cutV
      rw [cut_is, r.length]
      exact reps0_take (reps0_drop r _) _
    refine ⟨_, L2.sl_tupA, _, _, rfl, h, fun h1 J' => q _ _ J' (.same ?_), fun _ p hp J' => q _ _ J' (.tup hp rc)⟩
    have e2 : cutL ds lo hi = ds := by
      rw [cut_is, r.length, h1.1, h1.2, List.drop_zero, Nat.sub_zero, ← r.length, List.take_length]
    rw [e2]
    exact .tup h r
  | @lstF ds p vs _ h r =>
    cases hp
    have rc : Reps X.K G H 0 (cutL ds lo hi) (L2.cutV vs lo hi) [] := by
      unfold L2.cutV
      rw [cut_is, r.length]
      exact reps0_take (reps0_drop r _) _
    exact ⟨_, L2.sl_list, _, _, rfl, h.sq, fun p hp J' => q _ _ J' (.lst hp rc)⟩
  | @scr _ ns p h =>
    cases hp
    have r : Reps X.K G H 0 (ns.map D.int) (ns.map L2.V.int) [] := ints_reps ns
    have rc : Reps X.K G H 0 (cutL (ns.map D.int) lo hi) (L2.cutV (ns.map L2.V.int) lo hi) [] := by
      unfold L2.cutV
      rw [cut_is, r.length]
      exact reps0_take (reps0_drop r _) _
    exact ⟨_, L2.sl_list, _, _, rfl, h.sq, fun p hp J' => q _ _ J' (.lst hp rc)⟩
  | exc _ _ _ _ _ _ _ => cases hp
  | non => cases hp
  | bl => cases hp
  | int => cases hp
  | dctF _ _ _ _ _ => cases hp
/-! x[::-1] -/
theorem rev_pick (z : Str) : ((Builtin.Str.strSliceIndices none none (-1) z.length).filterMap (z.cps[·]?)) = z.cps.toList.reverse := by
  have e : Builtin.Str.strSliceIndices none none (-1) z.length = sliceRange ((z.length : Int) - 1) (-1) (-1) := rfl
  rw [e, PySem.W.krv_sliceRange]
  show ((List.range z.cps.size).map fun k => z.cps.size - 1 - k).filterMap (z.cps[·]?) = _
  rw [PySem.W.krv_range, List.filterMap_reverse, PySem.W.krv_all]
theorem pe_revS {e : Expr} {te : L2.TE} {k : Nat} {p1 p2 p3 pos : Pos} (he : L2.PE X e te) : L2.PE X (.Subscript e (.Slice none none (some (.UnaryOp .USub (.Constant (.int 1) k p1) p2)) p3) pos) (fun σ H Q => te σ H fun x H1 => ∃ z, x = .str z ∧ z.length ≤ sizeLine ∧ Q (.str ⟨z.cps.toList.reverse.toArray⟩) H1) := ⟨fun pins s0 σ H0 Q I0 hyp => by
  have hm1 : L2.PO X (some (.UnaryOp .USub (.Constant (.int 1) k p1) p2)) (L2.tPart (L2.tUn (L2.rU fun i => .int (-i)) (L2.tC (.int 1)))) := L2.po_some (L2.pe_un L2.un_neg L2.pe_int)
  refine PyProof.Rows.Subscript_ (L2.thn (he.run pins s0 σ H0 _ I0 hyp) fun v sa ⟨x, Ha, Ia, ra, z, ez, hz, q⟩ => ?_)
  subst ez
  obtain ⟨t, rfl⟩ := ra
  refine wpAny_Slice (L2.thn (L2.po_none.run pins sa σ Ha (fun o H2 => o = none ∧ H2 = Ha) Ia ⟨rfl, rfl⟩) fun vl sb ⟨l, Hb, Ib, pl, el, eb⟩ => ?_)
  subst el eb
  refine L2.thn (L2.po_none.run pins sb σ Hb (fun o H3 => o = none ∧ H3 = Hb) Ib ⟨rfl, rfl⟩) fun vu sc ⟨u, Hc, Ic, pu, eu, ec⟩ => ?_
  subst eu ec
  refine L2.thn (hm1.run pins sc σ Hc (fun o H4 => o = some (-1) ∧ H4 = Hc) Ic ⟨1, rfl, -1, rfl, rfl, rfl⟩) fun vs sd ⟨o, Hd, Id, ps, eo, ed⟩ => ?_
  subst eo ed
  have Ie : L2.Inv X pins σ Hd { sd with heap := sd.heap.push { cls := .type "slice", data := .fields #[vl, vu, vs] } } := Id.kept (t' := sd.toks) fun b ob q => Heap.get?_push_of_some _ q
  obtain ⟨l, rfl, hl⟩ := L2.IsPart.raw pl
  obtain ⟨u, rfl, hu⟩ := L2.IsPart.raw pu
  obtain ⟨st, rfl, hs⟩ := L2.IsPart.raw ps
  show wpAny (model X.prog X.w) X.A (subscriptTail e (.Slice none none (some (.UnaryOp .USub (.Constant (.int 1) k p1) p2)) p3) (.str z t) (.ref sd.heap.objs.size)) (L2.EP X pins σ Q) X.xe { sd with heap := sd.heap.push { cls := .type "slice", data := .fields #[partValue l, partValue u, partValue st] } }
  refine tail_any (ops := [.str z t, .ref sd.heap.objs.size]) (typeIs_str _ _ _) F.slot_str_getitem.lookup ?_ (by with_unfolding_all rfl)
  refine wpAny_getItem_str_slice (l := l) (u := u) (st := st) ⟨_, Heap.get?_push_size _ rfl, rfl, rfl⟩ (by rw [hs]; rfl) ?_
  have e1 : sliceMade z t l u st = .str ⟨z.cps.toList.reverse.toArray⟩ := by
    unfold sliceMade
    rw [hs, if_neg (by simp)]
    unfold slicePicked
    rw [hl, hu, hs]
    congr 1
    exact congrArg (fun l => (⟨List.toArray l⟩ : Str)) (rev_pick z)
  rw [e1]
  refine ⟨?_, .str _, Hd, Ie.tok _, ⟨_, rfl⟩, q⟩
  simpa [Str.length] using hz⟩
end
end Ev
end
section
set_option linter.all false
set_option maxHeartbeats 1000000
namespace Ev
open PySem
theorem R.bind_ok {α β : Type} {a : α} {e : Ls} {f : α → Ls → R β} : (R.ok a e).bind f = f a e := rfl
theorem R.bind_rs {α β : Type} {c : Nat} {x : D} {f : α → Ls → R β} : (R.rs c x : R α).bind f = .rs c x := rfl
theorem R.bind_bad {α β : Type} {m : String} {f : α → Ls → R β} : (R.bad m : R α).bind f = .bad m := rfl
section
variable {P : Prm} {F : Nat → List Sl → CR} {T : Tb} {Gt : Nat → (Ls → R Vw) → Ls → R Vw} {th : Option (Ls × (Ls → R Vw))} {σ : L2.St} {H : Hp} {emb : Bool} {x : Xp} {xs : List Xp}
theorem VwOk.new {K : PySem.W.Frag} {G : GSet} {H0 H : Hp} {e : Ls} {fp : FpT} {k : Nat} {d : D} {v : V} {fx : List Addr} (r : Rep K G H k d v fx) (nd : fx.Nodup) (hx : ∀ a ∈ fx, H0 a = none ∧ (∀ i, a ∉ fp i) ∧ ¬ G a) : VwOk K H0 σ (new k d) e G H fp v := by
  show ∃ fx, Rep K G H (if d.atom then capK else k) d v fx ∧ fx.Nodup ∧ ∀ a ∈ fx, H0 a = none ∧ (∀ i, a ∉ fp i) ∧ ¬ G a
  cases h : d.atom with
  | true => exact ⟨[], (atom_fp h r).2 _ _ _, List.nodup_nil, fun a h => by cases h⟩
  | false => exact ⟨fx, r, nd, hx⟩
theorem Aft.keepO {ts : List Nat} {e : Ls} {G : GSet} {fp : FpT} {H0 : Hp} {r : R Vw} {Q : V → Hp → Prop} (S : Sim P.K G H e σ fp) (old : ∀ a, H a = none → H0 a = none)
    (h : Aft P ts σ e G H fp (r.bind fun w e => .ok (Ev.new (asO w e).1.k (asO w e).1.d) (asO w e).2) (VwOk P.K H0 σ) Q) : Aft P ts σ e G H fp r (VwOk P.K H σ) Q :=
  Aft.first h (fun _ hi => hi) fun w e1 G1 H1 fp1 v hr Fr Kp S1 J1 o => by
    rw [hr, R.bind_ok] at h
    obtain ⟨G2, fp2, fx, F2, K2, S2, r2, nd, hx⟩ := asO_ok S Fr Kp S1 J1 o
    exact h G2 H1 fp2 v F2 K2 S2 J1 (.new r2 nd fun a ha => ⟨old a (hx a ha).1, (hx a ha).2⟩)
theorem truth_ok {K : PySem.W.Frag} {G : GSet} {H : Hp} {k : Nat} {d : D} {v : V} {fx : List Addr} {b : Bool} (r : Rep K G H k d v fx) (h : truth d = some b) : L2.TruV K v H b := by
  have emp : ∀ {α β : Type} {l : List α} {m : List β}, l.length = m.length → (!l.isEmpty) = !m.isEmpty := fun {α β l m} e => by
    cases l <;> cases m <;> first | rfl | (simp at e)
  cases r with
  | non => cases h; rfl
  | bl => cases h; rfl
  | int => cases h; rfl
  | str hl =>
    cases h
    rename_i s
    refine ⟨by rw [str_len]; exact lineOk hl, ?_⟩
    rw [str_len]
    cases s with
    | nil => rfl
    | cons c s =>
      have : ((c :: s).length : Int) ≠ 0 := by rw [List.length_cons]; omega
      simp
      omega
  | tup h1 r => cases h; exact .inr (.inl ⟨_, h1, emp r.length⟩)
  | lstF h1 r => cases h; exact .inl ⟨_, h1.sq, emp r.length⟩
  | lstO h1 r => cases h; exact .inl ⟨_, L2.SqL.of h1, emp r.length⟩
  | dctF h1 _ hk _ _ => cases h; exact .inr (.inr ⟨_, h1, emp (by simpa using congrArg List.length hk)⟩)
  | dctO h1 hk _ _ => cases h; exact .inr (.inr ⟨_, h1, emp (by simpa using congrArg List.length hk)⟩)
  | scr _ => cases h
  | exc _ _ _ _ _ _ _ => cases h
theorem te_and {Q : V → Hp → Prop} {a b : Xp} (h : TEs P F T Gt th (.and a b) σ H Q) : L2.tAndT P.K (inj P.K (TEs P F T Gt th a)) (TEs P F T Gt th b) σ H Q := by
  obtain ⟨e, G, fp, S, h⟩ := h
  simp only [ev] at h
  refine ⟨e, G, fp, S, Aft.first h (fun i hi => by simp only [Xp.tch]; exact List.mem_append_left _ hi) fun w e1 G1 H1 fp1 v hr Fr Kp S1 J1 o _ => ?_⟩
  rw [hr, R.bind_ok] at h
  obtain ⟨G2, fp2, fx, F2, K2, S2, r2, nd, hx⟩ := asO_ok S Fr Kp S1 J1 o
  cases ht : truth (asO w e1).1.d with
  | none => simp only [ht] at h; exact h.elim
  | some t =>
    refine ⟨t, truth_ok r2 ht, ?_⟩
    cases t with
    | true =>
      rw [if_pos rfl]
      simp only [ht] at h
      exact ⟨_, G2, fp2, S2, Aft.keepO S2 (fun a => F2.none) (Aft.shift h (fun i hi => by simpa only [Xp.tch] using hi) S F2 K2 fun _ _ _ _ _ _ o _ => o)⟩
    | false =>
      rw [if_neg Bool.false_ne_true]
      simp only [ht] at h
      exact h G2 H1 fp2 v F2 (K2.mono fun i hi => by simp only [Xp.tch]; exact List.mem_append_left _ hi) S2 J1 (.new r2 nd hx)
theorem te_or {Q : V → Hp → Prop} {a b : Xp} (h : TEs P F T Gt th (.or a b) σ H Q) : L2.tOrT P.K (inj P.K (TEs P F T Gt th a)) (TEs P F T Gt th b) σ H Q := by
  obtain ⟨e, G, fp, S, h⟩ := h
  simp only [ev] at h
  refine ⟨e, G, fp, S, Aft.first h (fun i hi => by simp only [Xp.tch]; exact List.mem_append_left _ hi) fun w e1 G1 H1 fp1 v hr Fr Kp S1 J1 o _ => ?_⟩
  rw [hr, R.bind_ok] at h
  obtain ⟨G2, fp2, fx, F2, K2, S2, r2, nd, hx⟩ := asO_ok S Fr Kp S1 J1 o
  cases ht : truth (asO w e1).1.d with
  | none => simp only [ht] at h; exact h.elim
  | some t =>
    refine ⟨t, truth_ok r2 ht, ?_⟩
    cases t with
    | false =>
      rw [if_neg Bool.false_ne_true]
      simp only [ht] at h
      exact ⟨_, G2, fp2, S2, Aft.keepO S2 (fun a => F2.none) (Aft.shift h (fun i hi => by simpa only [Xp.tch] using hi) S F2 K2 fun _ _ _ _ _ _ o _ => o)⟩
    | true =>
      rw [if_pos rfl]
      simp only [ht] at h
      exact h G2 H1 fp2 v F2 (K2.mono fun i hi => by simp only [Xp.tch]; exact List.mem_append_left _ hi) S2 J1 (.new r2 nd hx)
theorem te_not {Q : V → Hp → Prop} {a : Xp} (h : TEs P F T Gt th (.not a) σ H Q) : L2.tNotT P.K (inj P.K (TEs P F T Gt th a)) σ H Q := by
  obtain ⟨e, G, fp, S, h⟩ := h
  simp only [ev] at h
  refine ⟨e, G, fp, S, Aft.first h (fun i hi => by simpa only [Xp.tch] using hi) fun w e1 G1 H1 fp1 v hr Fr Kp S1 J1 o _ => ?_⟩
  rw [hr, R.bind_ok] at h
  obtain ⟨k, fx, r, _⟩ := look_ok S1 J1 o
  cases ht : truth w.d with
  | none => simp only [ht] at h; exact h.elim
  | some t =>
    simp only [ht] at h
    exact ⟨t, truth_ok r ht, Aft.made S h Fr (Kp.mono fun i hi => by simpa only [Xp.tch] using hi) S1 (.same .bl) J1⟩
/-- the truth of what an expression gives -/
def tTru (K : PySem.W.Frag) (t : L2.TE) : L2.TT := fun σ H Q => t σ H fun x H' => ∃ k, L2.TruV K x H' k ∧ Q k H'
theorem R.bind_assoc' {α β γ : Type} {r : R α} {f : α → Ls → R β} {g : β → Ls → R γ} : (r.bind f).bind g = r.bind fun a e => (f a e).bind g := by cases r <;> rfl
/-- a test: what an expression's tree is worth -/
def TTs (P : Prm) (F : Nat → List Sl → CR) (T : Tb) (Gt : Nat → (Ls → R Vw) → Ls → R Vw) (th : Option (Ls × (Ls → R Vw))) (c : Xp) : L2.TT := fun σ H Q => ∃ e G fp, Sim P.K G H e σ fp ∧ Aft P c.tch σ e G H fp (evT F T Gt th c e) (fun b _ _ _ _ (b' : Bool) => b' = b) Q
theorem evT_ok {c : Xp} {e e1 : Ls} {w : Vw} (h : ev F T Gt th c e = .ok w e1) : evT F T Gt th c e = ofO (truth w.d) e1 "truth" := by unfold evT; rw [h]; rfl
/-- by the truth of the value -/
theorem tts_tru {Q : Bool → Hp → Prop} {c : Xp} (h : TTs P F T Gt th c σ H Q) : tTru P.K (inj P.K (TEs P F T Gt th c)) σ H Q := by
  obtain ⟨e, G, fp, S, h⟩ := h
  refine ⟨e, G, fp, S, Aft.first (f := fun v e => ofO (truth v.d) e "truth") h (fun i hi => hi) fun w e1 G1 H1 fp1 v hr Fr Kp S1 J1 o _ => ?_⟩
  rw [evT_ok hr] at h
  obtain ⟨k, fx, r, _⟩ := look_ok S1 J1 o
  cases ht : truth w.d with
  | none => simp only [ht, ofO] at h; exact h.elim
  | some t =>
    simp only [ht, ofO] at h
    exact ⟨t, truth_ok r ht, h G1 H1 fp1 t Fr Kp S1 J1 rfl⟩
/-- .. of a truth's value -/
theorem tts_tes {Q : Bool → Hp → Prop} {c : Xp} (h : TTs P F T Gt th c σ H Q) : TEs P F T Gt th c σ H fun v H' => Inj P.K H' → ∀ b, v = .bl b → Q b H' := by
  obtain ⟨e, G, fp, S, h⟩ := h
  refine ⟨e, G, fp, S, Aft.first (f := fun v e => ofO (truth v.d) e "truth") h (fun i hi => hi) fun w e1 G1 H1 fp1 v hr Fr Kp S1 J1 o _ b hb => ?_⟩
  rw [evT_ok hr] at h
  obtain ⟨k, fx, r, _⟩ := look_ok S1 J1 o
  subst hb
  have hd : w.d = .bl b := by
    revert r
    generalize w.d = d
    intro r
    cases r; rfl
  simp only [hd, truth, ofO] at h
  exact h G1 H1 fp1 b Fr Kp S1 J1 rfl
theorem tt_not {Q : Bool → Hp → Prop} {a : Xp} (h : TTs P F T Gt th (.not a) σ H Q) : L2.tNot (TTs P F T Gt th a) σ H Q := by
  obtain ⟨e, G, fp, S, h⟩ := h
  have eq : evT F T Gt th (.not a) e = (evT F T Gt th a e).bind fun b e => .ok (!b) e := by
    simp only [evT, ev]
    cases ev F T Gt th a e with
    | rs c x => rfl
    | bad m => rfl
    | ok w e1 =>
      simp only [R.bind_ok]
      cases truth w.d with
      | none => rfl
      | some b => rfl
  rw [eq] at h
  refine ⟨e, G, fp, S, Aft.first h (fun i hi => by simpa only [Xp.tch] using hi) fun b e1 G1 H1 fp1 b' hr Fr Kp S1 J1 o => ?_⟩
  subst o
  rw [hr, R.bind_ok] at h
  exact h G1 H1 fp1 _ Fr (Kp.mono fun i hi => by simpa only [Xp.tch] using hi) S1 J1 rfl
theorem asO_d (w : Vw) (e : Ls) : (asO w e).1.d = w.d := by
  unfold asO asF
  cases hq : w.src with
  | none => rfl
  | some q =>
    dsimp only
    split
    · split <;> rfl
    · rfl
theorem asO_state {K : PySem.W.Frag} {G : GSet} {e : Ls} {fp : FpT} (S : Sim K G H e σ fp) (w : Vw) : ∃ G2 fp2, Frm G H fp G2 H fp2 ∧ Keep [] e H fp (asO w e).2 H ∧ Sim K G2 H (asO w e).2 σ fp2 := by
  have same : ∃ G2 fp2, Frm G H fp G2 H fp2 ∧ Keep [] e H fp e H ∧ Sim K G2 H e σ fp2 := ⟨G, fp, Frm.refl S, .refl, S⟩
  unfold asO asF
  cases hq : w.src with
  | none => exact same
  | some q =>
    dsimp only
    split
    · split
      · rename_i s hs
        obtain ⟨S2, F2, K2⟩ := S.freeze hs
        exact ⟨_, _, F2, K2, S2⟩
      · exact same
    · exact same
/-- the common part of and, or: behind the first, which is kept -/
theorem tt_two {Q : Bool → Hp → Prop} {a b : Xp} {e : Ls} {G : GSet} {fp : FpT} {stop : Bool} (S : Sim P.K G H e σ fp)
    (h : Aft P (a.tch ++ b.tch) σ e G H fp ((ev F T Gt th a e).bind fun v e => match truth v.d with
      | some t => if t = stop then .ok stop (asO v e).2 else (ev F T Gt th b (asO v e).2).bind fun w e => ofO (truth w.d) (asO w e).2 "truth"
      | none => .bad "truth") (fun b _ _ _ _ (b' : Bool) => b' = b) Q) :
    TTs P F T Gt th a σ H fun c H1 => if c = stop then Q stop H1 else TTs P F T Gt th b σ H1 Q := by
  refine ⟨e, G, fp, S, ?_⟩
  cases hr : ev F T Gt th a e with
  | bad m => rw [hr] at h; exact h.elim
  | rs c x =>
    rw [hr] at h
    unfold evT
    rw [hr]
    exact fun G' H' fp' dx v F Kp hx r => h G' H' fp' dx v F (Kp.mono fun i hi => List.mem_append_left _ hi) hx r
  | ok w e1 =>
    rw [hr, R.bind_ok] at h
    rw [evT_ok hr]
    cases ht : truth w.d with
    | none => simp only [ht] at h; exact h.elim
    | some t =>
      simp only [ht] at h
      simp only [ofO]
      intro G1 H1 fp1 b' F1 K1 S1 J1 hb
      subst hb
      obtain ⟨G2, fp2, F2, K2, S2⟩ := asO_state S1 w
      have F12 := F1.trans S F2
      have K12 := (Keep.trans S F1 K1 F2 K2).mono (ts := a.tch) fun i hi => by simpa using hi
      by_cases hs : b' = stop
      · rw [if_pos hs] at h ⊢
        exact h G2 H1 fp2 stop F12 (K12.mono fun i hi => List.mem_append_left _ hi) S2 J1 rfl
      · rw [if_neg hs] at h ⊢
        refine ⟨_, G2, fp2, S2, ?_⟩
        have h2 := Aft.shift (ts1 := a.tch) (ts2 := b.tch) h (fun i hi => hi) S F12 K12 fun _ _ _ _ _ _ o _ => o
        cases hr2 : ev F T Gt th b (asO w e1).2 with
        | bad m => rw [hr2] at h2; exact h2.elim
        | rs c x => rw [hr2] at h2; unfold evT; rw [hr2]; exact h2
        | ok u e3 =>
          rw [hr2, R.bind_ok] at h2
          rw [evT_ok hr2]
          cases ht2 : truth u.d with
          | none => simp only [ht2, ofO] at h2; exact h2.elim
          | some t2 =>
            simp only [ht2, ofO] at h2 ⊢
            intro G4 H4 fp4 b4 F4 K4 S4 J4 hb4
            subst hb4
            obtain ⟨G5, fp5, F5, K5, S5⟩ := asO_state S4 u
            exact h2 G5 H4 fp5 _ (F4.trans S2 F5) ((Keep.trans S2 F4 K4 F5 K5).mono fun i hi => by simpa using hi) S5 J4 rfl
theorem tt_and {Q : Bool → Hp → Prop} {a b : Xp} (h : TTs P F T Gt th (.and a b) σ H Q) : L2.tAnd (TTs P F T Gt th a) (TTs P F T Gt th b) σ H Q := by
  obtain ⟨e, G, fp, S, h⟩ := h
  have eq : evT F T Gt th (.and a b) e = (ev F T Gt th a e).bind fun v e => match truth v.d with
      | some t => if t = false then .ok false (asO v e).2 else (ev F T Gt th b (asO v e).2).bind fun w e => ofO (truth w.d) (asO w e).2 "truth"
      | none => .bad "truth" := by
    simp only [evT, ev, R.bind_assoc']
    congr 1
    funext v e
    rw [asO_d]
    cases ht : truth v.d with
    | none => rfl
    | some t =>
      cases t with
      | false => simp only [R.bind_ok, new, asO_d, ht, ofO, if_true]
      | true =>
        simp only [R.bind_assoc', Bool.true_eq_false, if_false]
        congr 1
        funext w e
        simp only [R.bind_ok, new, asO_d]
  rw [eq] at h
  obtain ⟨e', G', fp', S', q⟩ := tt_two S (by simpa only [Xp.tch] using h)
  refine ⟨e', G', fp', S', q.imp fun c H1 z => ?_⟩
  cases c with
  | false => exact z
  | true => exact z
theorem tt_or {Q : Bool → Hp → Prop} {a b : Xp} (h : TTs P F T Gt th (.or a b) σ H Q) : L2.tOr (TTs P F T Gt th a) (TTs P F T Gt th b) σ H Q := by
  obtain ⟨e, G, fp, S, h⟩ := h
  have eq : evT F T Gt th (.or a b) e = (ev F T Gt th a e).bind fun v e => match truth v.d with
      | some t => if t = true then .ok true (asO v e).2 else (ev F T Gt th b (asO v e).2).bind fun w e => ofO (truth w.d) (asO w e).2 "truth"
      | none => .bad "truth" := by
    simp only [evT, ev, R.bind_assoc']
    congr 1
    funext v e
    rw [asO_d]
    cases ht : truth v.d with
    | none => rfl
    | some t =>
      cases t with
      | true => simp only [R.bind_ok, new, asO_d, ht, ofO, if_true]
      | false =>
        simp only [R.bind_assoc', Bool.false_eq_true, if_false]
        congr 1
        funext w e
        simp only [R.bind_ok, new, asO_d]
  rw [eq] at h
  obtain ⟨e', G', fp', S', q⟩ := tt_two S (by simpa only [Xp.tch] using h)
  refine ⟨e', G', fp', S', q.imp fun c H1 z => ?_⟩
  cases c with
  | false => exact z
  | true => exact z
theorem te_ite {Q : V → Hp → Prop} {c a b : Xp} (h : TEs P F T Gt th (.ite c a b) σ H Q) : L2.tIf (TTs P F T Gt th c) (TEs P F T Gt th a) (TEs P F T Gt th b) σ H Q := by
  obtain ⟨e, G, fp, S, h⟩ := h
  have eq : ev F T Gt th (.ite c a b) e = (evT F T Gt th c e).bind fun t e => if t = true then (ev F T Gt th a e).bind fun w e => let r := asO w e; .ok (new r.1.k r.1.d) r.2 else (ev F T Gt th b e).bind fun w e => let r := asO w e; .ok (new r.1.k r.1.d) r.2 := by
    simp only [evT, ev, R.bind_assoc']
    congr 1
    funext v e
    cases ht : truth v.d with
    | none => rfl
    | some t => cases t <;> rfl
  rw [eq] at h
  refine ⟨e, G, fp, S, Aft.first h (fun i hi => by simp only [Xp.tch]; exact List.mem_append_left _ (List.mem_append_left _ hi)) fun t e1 G1 H1 fp1 b' hr Fr Kp S1 J1 o => ?_⟩
  subst o
  rw [hr, R.bind_ok] at h
  cases b' with
  | true =>
    rw [if_pos rfl] at h ⊢
    exact ⟨_, G1, fp1, S1, Aft.keepO S1 (fun a => Fr.none) (Aft.shift h (fun i hi => by
      simp only [Xp.tch]
      exact List.mem_append_left _ hi) S Fr Kp fun _ _ _ _ _ _ o _ => o)⟩
  | false =>
    rw [if_neg Bool.false_ne_true] at h ⊢
    exact ⟨_, G1, fp1, S1, Aft.keepO S1 (fun a => Fr.none) (Aft.shift h (fun i hi => by
      simp only [Xp.tch]
      rcases List.mem_append.mp hi with hi | hi
      · exact List.mem_append_left _ (List.mem_append_left _ hi)
      · exact List.mem_append_right _ hi) S Fr Kp fun _ _ _ _ _ _ o _ => o)⟩
theorem clash_l {o : Option Nat} {a b : List Nat} (h : ¬ clash o (a ++ b) = true) : clash o a = false ∧ clash o b = false := by
  cases o with
  | none => exact ⟨rfl, rfl⟩
  | some i =>
    simp only [clash, List.contains_eq_mem, decide_eq_true_eq, List.mem_append, not_or] at h
    exact ⟨by simpa [clash] using h.1, by simpa [clash] using h.2⟩
theorem NewOk.bl {K : PySem.W.Frag} {G : GSet} {H H' : Hp} {k : Nat} {b : Bool} {z : V} (n : NewOk K G H k (.bl b) z H') : z = .bl b := by
  obtain ⟨fx, r, _⟩ := n.rep; cases r; rfl
theorem Rep.ext {K : PySem.W.Frag} {G : GSet} {H H' : Hp} {k : Nat} {d : D} {v : V} {fx : List Addr} (r : Rep K G H k d v fx) (ext : ∀ a u, H a = some u → H' a = some u) : Rep K G H' k d v fx :=
  r.keep (fun _ g => g) ⟨fun a xs q => ext a _ q, fun a o u q => ext a _ q, fun a o _ q => ext a o q⟩ fun a ha => by
    obtain ⟨o, ho, _⟩ := r.there a ha
    rw [ho]; exact ext a o ho
theorem te_chain {Q : V → Hp → Prop} {o1 o2 : Cmp} {a b c : Xp} (h : TEs P F T Gt th (.chain o1 o2 a b c) σ H Q) :
    L2.tChain (RPr2 P.K (supT T) (.cmp o1)) (RPr2 P.K (supT T) (.cmp o2)) (inj P.K (TEs P F T Gt th a)) (inj P.K (TEs P F T Gt th b)) (inj P.K (TEs P F T Gt th c)) σ H Q := by
  obtain ⟨e, G, fp, S, h⟩ := h
  simp only [ev] at h
  refine ⟨e, G, fp, S, Aft.first h (fun i hi => by simp only [Xp.tch]; exact List.mem_append_left _ (List.mem_append_left _ hi)) fun w e1 G1 H1 fp1 v hr Fr Kp S1 J1 o _ => ?_⟩
  rw [hr, R.bind_ok] at h
  by_cases hc : clash (w.on e1) (b.tch ++ c.tch) = true
  · rw [if_pos hc] at h; exact h.elim
  rw [if_neg hc] at h
  obtain ⟨hcb, hcc⟩ := clash_l hc
  obtain ⟨kx, fx, rx, hx⟩ := look_ok S1 J1 o
  have hs : Aft P (b.tch ++ c.tch) σ e1 G1 H1 fp1 _ _ Q := Aft.shift (ts1 := a.tch) h (fun i hi => by simpa only [Xp.tch, List.append_assoc] using hi) S Fr Kp fun _ _ _ _ _ _ o _ => o
  refine ⟨e1, G1, fp1, S1, Aft.first hs (fun i hi => List.mem_append_left _ hi) fun u e2 G2 H2 fp2 v2 hr2 F2 K2 S2 J2 o2' _ => ?_⟩
  rw [hr2, R.bind_ok] at hs
  by_cases hc2 : clash (u.on e2) c.tch = true
  · rw [if_pos hc2] at hs; exact hs.elim
  rw [if_neg hc2] at hs
  have hc2' : clash (u.on e2) c.tch = false := by simpa using hc2
  obtain ⟨ky, fy, ry, hy⟩ := look_ok S2 J2 o2'
  have rx2 := rx.later S1 hx F2 K2.h hcb
  cases ht : cmpD o1 w.d u.d with
  | none => simp only [ht] at hs; exact hs.elim
  | some t =>
    simp only [ht] at hs
    refine ⟨G2, [w.d, u.d], .bl t, .cons rx2 (.cons ry .nil), by simp only [primD, ht, Option.map_some], fun z H3 J3 n => ?_⟩
    obtain rfl := n.bl
    refine ⟨t, rfl, ?_⟩
    obtain ⟨S3, F3, K3⟩ := S2.ext n.ext
    have F13 := F2.trans S1 F3
    have K13 := (Keep.trans S1 F2 K2 F3 K3).mono (ts := b.tch) (by simp)
    cases t with
    | false =>
      rw [if_neg Bool.false_ne_true]
      exact hs G2 H3 fp2 _ F13 (K13.mono fun i hi => List.mem_append_left _ hi) S3 J3 (.new .bl List.nodup_nil fun a h => by cases h)
    | true =>
      rw [if_pos rfl]
      have hs3 : Aft P c.tch σ e2 G2 H3 fp2 _ _ Q := Aft.shift (ts1 := b.tch) hs (fun i hi => hi) S1 F13 K13 fun _ _ _ _ _ _ o _ => o
      refine ⟨e2, G2, fp2, S3, Aft.first hs3 (fun i hi => hi) fun w' e4 G4 H4 fp4 v4 hr4 F4 K4 S4 J4 o4 _ => ?_⟩
      rw [hr4, R.bind_ok] at hs3
      obtain ⟨kz, fz, rz, hz⟩ := look_ok S4 J4 o4
      have ry3 := ry.ext n.ext
      have ry4 : Rep P.K G4 H4 ky u.d v2 fy := ry3.later S3 (fun a ha => hy a ha) F4 K4.h hc2'
      cases ht2 : cmpD o2 u.d w'.d with
      | none => simp only [ht2] at hs3; exact hs3.elim
      | some t2 =>
        simp only [ht2] at hs3
        refine ⟨G4, [u.d, w'.d], .bl t2, .cons ry4 (.cons rz .nil), by simp only [primD, ht2, Option.map_some], fun z5 H5 J5 n5 => ?_⟩
        exact Aft.made S3 (Aft.shift (ts1 := []) hs3 (fun i hi => hi) S3 (Frm.refl S3) .refl fun a e' G' H' fp' b o f => VwOk.older o F13 |>.older Fr) F4 K4 S4 n5 J5
end
end Ev
end
section
set_option linter.all false
set_option maxHeartbeats 1000000
namespace Ev
open PySem
theorem R.bind_assoc {α β γ : Type} {r : R α} {f : α → Ls → R β} {g : β → Ls → R γ} : (r.bind f).bind g = r.bind fun a e => (f a e).bind g := by cases r <;> rfl
section
variable {P : Prm} {F : Nat → List Sl → CR} {T : Tb} {Gt : Nat → (Ls → R Vw) → Ls → R Vw} {th : Option (Ls × (Ls → R Vw))} {σ : L2.St} {H : Hp} {emb : Bool} {x : Xp} {xs : List Xp}
theorem tes_imp {Q Q' : V → Hp → Prop} {a : Xp} (h : TEs P F T Gt th a σ H Q) (k : ∀ v H1, Q v H1 → Q' v H1) : TEs P F T Gt th a σ H Q' := by
  obtain ⟨e, G, fp, S, h⟩ := h
  exact ⟨e, G, fp, S, h.imp k⟩
theorem te_p1 {Q : V → Hp → Prop} {op : Pr} {a : Xp} (h : TEs P F T Gt th (.p op [a]) σ H Q) : inj P.K (TEs P F T Gt th a) σ H fun v H1 => RPr P.K (supT T) op [v] H1 Q :=
  tes_imp (tps_cons (te_p h)) fun _ _ h2 J => tps_nil J (h2 J)
theorem te_p2 {Q : V → Hp → Prop} {op : Pr} {a b : Xp} (h : TEs P F T Gt th (.p op [a, b]) σ H Q) : inj P.K (TEs P F T Gt th a) σ H fun v H1 => inj P.K (TEs P F T Gt th b) σ H1 fun w H2 => RPr P.K (supT T) op [v, w] H2 Q :=
  tes_imp (tps_cons (te_p h)) fun _ _ h2 J => tes_imp (tps_cons (h2 J)) fun _ _ h3 J3 => tps_nil J3 (h3 J3)
theorem asInt_out {K : PySem.W.Frag} {sup : Nat → List Nat} {v : V} {Q : V → Hp → Prop} (J : Inj K H) (h : RPr K sup .asInt [v] H Q) : ∃ i, v = .int i ∧ Q (.int i) H := by
  obtain ⟨G, a, x, d, e, ha, hp, q⟩ := rpr1 h (fun _ => rfl)
  cases e
  cases a <;> simp only [asIntD, reduceCtorEq] at hp
  cases hp
  obtain rfl := ha.int
  exact ⟨_, rfl, q _ _ J (.same .int)⟩
theorem asStr_out {K : PySem.W.Frag} {sup : Nat → List Nat} {v : V} {Q : V → Hp → Prop} (J : Inj K H) (h : RPr K sup .asStr [v] H Q) : ∃ i, v = .str i ∧ Q (.str i) H := by
  obtain ⟨G, a, x, d, e, ha, hp, q⟩ := rpr1 h (fun _ => rfl)
  cases e
  cases a <;> simp only [asStrD, reduceCtorEq] at hp
  cases hp
  obtain ⟨rfl, hl⟩ := ha.str
  exact ⟨_, rfl, q _ _ J (.same (.str hl))⟩
theorem rep_int {K : PySem.W.Frag} {G : GSet} {k : Nat} {d : D} {i : Int} {fx : List Addr} (r : Rep K G H k d (.int i) fx) : d = .int i := by cases r; rfl
theorem arg_is_int {K : PySem.W.Frag} {G : GSet} {e : Bool} {d : D} {i : Int} (h : Arg K G H e d (.int i)) : d = .int i := by
  obtain ⟨k, fx, r, _⟩ := h; exact rep_int r
def tPt (K : PySem.W.Frag) (t : Xp → L2.TE) : Option Xp → L2.TO
  | none => L2.tNoPart
  | some a => L2.tPart (inj K (t a))
def ptsOf (lo hi : Option Xp) : List Xp := (lo.toList ++ hi.toList).map fun e => .p .asInt [e]
theorem rsli_of {K : PySem.W.Frag} {sup : Nat → List Nat} {v : V} {lo hi : Option Int} {Q : V → Hp → Prop} (h : RPr K sup (.slice lo.isSome hi.isSome) (v :: (lo.toList ++ hi.toList).map L2.V.int) H Q) : rSli K v lo hi H Q := by
  obtain ⟨G, ds, d, ho, hp, q⟩ := h
  obtain ⟨a, ds1, e1, ha, h1⟩ := arg_cons (emb := true) ho
  obtain ⟨k, fx, r, hk⟩ := ha
  obtain ⟨rfl, rfl⟩ := hk rfl
  refine ⟨G, a, d, r, ?_, q⟩
  rw [e1] at hp
  cases lo with
  | none =>
    cases hi with
    | none =>
      have e2 := arg_nil (emb := true) h1
      rw [e2] at hp; simpa [primD, optInts] using hp
    | some j =>
      obtain ⟨b, ds2, e2, hb, h2⟩ := arg_cons (emb := true) (v := .int j) (vs := []) h1
      have e3 := arg_nil (emb := true) h2
      have e4 := arg_is_int hb
      rw [e2, e3, e4] at hp
      simpa [primD, optInts] using hp
  | some i =>
    cases hi with
    | none =>
      obtain ⟨b, ds2, e2, hb, h2⟩ := arg_cons (emb := true) (v := .int i) (vs := []) h1
      have e3 := arg_nil (emb := true) h2
      have e4 := arg_is_int hb
      rw [e2, e3, e4] at hp
      simpa [primD, optInts] using hp
    | some j =>
      obtain ⟨b, ds2, e2, hb, h2⟩ := arg_cons (emb := true) (v := .int i) (vs := [.int j]) h1
      obtain ⟨c, ds3, e5, hc, h3⟩ := arg_cons (emb := true) (v := .int j) (vs := []) h2
      have e3 := arg_nil (emb := true) h3
      have e4 := arg_is_int hb
      have e6 := arg_is_int hc
      rw [e2, e5, e3, e4, e6] at hp
      simpa [primD, optInts] using hp
theorem te_int {Q : V → Hp → Prop} {b : Xp} (h : TEs P F T Gt th (.p .asInt [b]) σ H fun v H1 => Inj P.K H1 → Q v H1) : inj P.K (TEs P F T Gt th b) σ H fun v H1 => ∃ i, v = .int i ∧ Q (.int i) H1 :=
  tes_imp (te_p1 h) fun w H2 h3 J3 => by
    obtain ⟨j, e, h4⟩ := asInt_out J3 (h3 J3)
    exact ⟨j, e, h4 J3⟩
theorem te_slice {Q : V → Hp → Prop} {a : Xp} {lo hi : Option Xp} (h : TEs P F T Gt th (.p (.slice lo.isSome hi.isSome) (a :: ptsOf lo hi)) σ H Q) :
    L2.tSl (rSli P.K) (inj P.K (TEs P F T Gt th a)) (tPt P.K (TEs P F T Gt th) lo) (tPt P.K (TEs P F T Gt th) hi) σ H Q := by
  have h1 := tps_cons (te_p h)
  refine tes_imp h1 fun v H1 h2 J => ?_
  have h2 := h2 J
  cases lo with
  | none =>
    cases hi with
    | none => exact rsli_of (lo := none) (hi := none) (tps_nil J h2)
    | some b =>
      have h3 := tps_cons (xs := []) h2
      refine tes_imp (te_int h3) fun w H2 h4 J3 => ?_
      obtain ⟨j, e, h5⟩ := h4 J3
      exact ⟨j, e, rsli_of (lo := none) (hi := some j) (tps_nil J3 h5)⟩
  | some b =>
    cases hi with
    | none =>
      have h3 := tps_cons (xs := []) h2
      refine tes_imp (te_int h3) fun w H2 h4 J3 => ?_
      obtain ⟨i, e, h5⟩ := h4 J3
      exact ⟨i, e, rsli_of (lo := some i) (hi := none) (tps_nil J3 h5)⟩
    | some c =>
      have h3 := tps_cons (xs := [.p .asInt [c]]) h2
      refine tes_imp (te_int h3) fun w H2 h4 J3 => ?_
      obtain ⟨i, e, h5⟩ := h4 J3
      refine ⟨i, e, ?_⟩
      have h6 := tps_cons (xs := []) h5
      refine tes_imp (te_int h6) fun w H4 h7 J4 => ?_
      obtain ⟨j, e2, h8⟩ := h7 J4
      exact ⟨j, e2, rsli_of (lo := some i) (hi := some j) (tps_nil J4 h8)⟩
theorem ixD_is (n : Nat) (i : Int) : ixD n i = L2.ixN n i := by
  unfold ixD L2.ixN
  split
  · rfl
  · by_cases h : 0 ≤ i + n
    · rw [if_pos h, if_pos (by omega)]
    · rw [if_neg h, if_neg (by omega)]
/-- a view stays one -/
theorem VwOk.later {K : PySem.W.Frag} {G1 G2 : GSet} {H0 H1 H2 : Hp} {e1 e2 : Ls} {fp1 fp2 : FpT} {ts : List Nat} {w : Vw} {v : V} (S1 : Sim K G1 H1 e1 σ fp1) (J1 : Inj K H1) (o : VwOk K H0 σ w e1 G1 H1 fp1 v) (F : Frm G1 H1 fp1 G2 H2 fp2) (Kp : Keep ts e1 H1 fp1 e2 H2)
    (hc : clash (w.src.map (·.1)) ts = false) : VwOk K H0 σ w e2 G2 H2 fp2 v := by
  unfold VwOk at o ⊢
  cases q : w.src with
  | none =>
    rw [q] at o
    obtain ⟨fx, r, nd, hx⟩ := o
    have al : ∀ a ∈ fx, ∃ o, H1 a = some o ∧ L2.Mut (some o) := r.there
    refine ⟨fx, r.keep F.g (F.stays S1) fun a ha => ?_, nd, fun a ha => ⟨(hx a ha).1, fun i hi => ?_, fun g => ?_⟩⟩
    · obtain ⟨o, ho, hm⟩ := al a ha
      rw [ho]; exact F.st a o ho (hx a ha).2.1 (mut_tbl hm)
    · rcases F.fn i a hi with z | z
      · exact (hx a ha).2.1 i z
      · obtain ⟨o, ho, _⟩ := al a ha
        rw [ho] at z; cases z
    · rcases F.gn a g with z | ⟨i, z⟩ | z
      · exact (hx a ha).2.2 z
      · exact (hx a ha).2.1 i z
      · obtain ⟨o, ho, _⟩ := al a ha
        rw [ho] at z; cases z
  | some ip =>
    rw [q] at o hc
    obtain ⟨s, v0, h1, h2, h3⟩ := o
    have hn : ip.1 ∉ ts := fun z => by
      simp only [Option.map_some, clash, List.contains_eq_mem, decide_eq_false_iff_not] at hc
      exact hc z
    obtain ⟨v', hv', r⟩ := S1.rep _ s h1
    rw [h2] at hv'; cases hv'
    have p2 := PAt.keep J1 (F.stays S1) h3 r (Kp.h _ hn)
    rcases Kp.d _ hn with z | ⟨s', z1, z2⟩
    · exact ⟨s, v0, z.trans h1, h2, p2⟩
    · rw [h1] at z1; cases z1
      exact ⟨_, v0, z2, h2, p2⟩
/-- a part of what is on its way -/
theorem VwOk.step {K : PySem.W.Frag} {G : GSet} {H0 H : Hp} {e : Ls} {fp : FpT} {G0 : GSet} {fp0 : FpT} {w : Vw} {v v' : V} {d' : D} {j : Nat} (S : Sim K G H e σ fp) (J : Inj K H) (Fr : Frm G0 H0 fp0 G H fp) (o : VwOk K H0 σ w e G H fp v) (p : PAt K H w.d v [j] d' v') :
    ∃ G2, Frm G0 H0 fp0 G2 H fp ∧ Sim K G2 H e σ fp ∧ VwOk K H0 σ ⟨d', 0, w.src.map fun q => (q.1, q.2 ++ [j])⟩ e G2 H fp v' := by
  cases q : w.src with
  | none =>
    unfold VwOk at o
    rw [q] at o
    obtain ⟨fx, r, nd, hx⟩ := o
    obtain ⟨f', sb, hr⟩ := r.lower nd (Nat.zero_le w.k)
    have hz : f' = [] := (hr (fun _ => True) (fun _ _ => trivial) fun _ _ _ => trivial).zero rfl
    subst hz
    have r0 : Rep K (fun a => G a ∨ a ∈ fx) H 0 w.d v [] := hr _ (fun a h => .inl h) fun a h _ => .inr h
    obtain ⟨f2, r2, s2⟩ := Rep.part J p r0
    obtain rfl := List.sublist_nil.mp s2
    refine ⟨fun a => G a ∨ a ∈ fx, ⟨fun a h => .inl (Fr.g a h), fun a h => ?_, Fr.st, Fr.fn, Fr.al⟩, S.moreG (fun a h => (hx a h).2.1) (fun a h => r.there a h), ?_⟩
    · rcases h with h | h
      · exact Fr.gn a h
      · exact .inr (.inr (hx a h).1)
    · exact ⟨[], by simpa using r2, List.nodup_nil, fun a h => by cases h⟩
  | some ip =>
    unfold VwOk at o
    rw [q] at o
    obtain ⟨s, v0, h1, h2, h3⟩ := o
    exact ⟨G, Fr, S, ⟨s, v0, h1, h2, h3.snoc p⟩⟩
theorem view_elem {K : PySem.W.Frag} {G : GSet} {k : Nat} {d : D} {v : V} {fx : List Addr} (r : Rep K G H k d v fx) {j : Nat} {x : D} :
    (∀ ds, d = .tup ds → ds[j]? = some x → ∃ a vs y, v = .ref a ∧ L2.SqT K H a vs ∧ ds.length = vs.length ∧ vs[j]? = some y ∧ PAt K H d v [j] x y) ∧
    (∀ ds, d = .lst ds → ds[j]? = some x → ∃ a vs y, v = .ref a ∧ L2.SqL K H a vs ∧ ds.length = vs.length ∧ vs[j]? = some y ∧ PAt K H d v [j] x y) := by
  refine ⟨fun ds e hj => ?_, fun ds e hj => ?_⟩
  · subst e
    cases r with
    | tup h r =>
      obtain ⟨y, f', e1, _, _⟩ := r.get hj
      exact ⟨_, _, y, rfl, h, r.length, e1, .tup h hj e1 .nil⟩
  · subst e
    cases r with
    | lstF h r =>
      obtain ⟨y, f', e1, _, _⟩ := r.get hj
      exact ⟨_, _, y, rfl, h.sq, r.length, e1, .lst h.sq hj e1 .nil⟩
    | lstO h r =>
      obtain ⟨y, f', e1, _, _⟩ := r.get hj
      exact ⟨_, _, y, rfl, L2.SqL.of h, r.length, e1, .lst (L2.SqL.of h) hj e1 .nil⟩
/-! keys of dicts -/
theorem eqK_key {a b : D} {x y : L2.Key} (ha : keyV a = some x) (hb : keyV b = some y) : eqK a b = decide (x = y) := by
  cases a <;> simp only [keyV, reduceCtorEq] at ha <;> cases b <;> simp only [keyV, reduceCtorEq] at hb <;> cases ha <;> cases hb
  · rename_i i j
    by_cases h : i = j
    · subst h; simp [eqK]
    · have : ¬ (Sum.inl i : L2.Key) = Sum.inl j := fun z => h (by injection z)
      simp [eqK, h]
  · simp [eqK]
  · simp [eqK]
  · rename_i s t
    by_cases h : s = t
    · subst h; simp [eqK]
    · have : ¬ (Sum.inr ⟨s.toArray⟩ : L2.Key) = Sum.inr ⟨t.toArray⟩ := fun z => h (by
        injection z with z; injection z with z
        simpa using congrArg Array.toList z)
      simp only [eqK, decide_eq_false this, h, decide_false, beq_eq_false_iff_ne, ne_eq, not_false_eq_true]
theorem key_of {d : D} (h : keyOk d = true) : ∃ k, keyV d = some k := by
  cases d <;> first | exact ⟨_, rfl⟩ | (cases h; done)
theorem rep_key {K : PySem.W.Frag} {G : GSet} {k : Nat} {d : D} {v : V} {fx : List Addr} {y : L2.Key} (h : keyV d = some y) (r : Rep K G H k d v fx) : v = L2.kV y := by
  cases d <;> simp only [keyV, reduceCtorEq] at h <;> cases h <;> cases r <;> rfl
theorem find_key {ks : List D} {kvs : List (L2.Key × V)} {d : D} {y : L2.Key} (hk : ks.map keyV = kvs.map fun p => some p.1) (hd : keyV d = some y) {j : Nat} (h : findK ks d = some j) : ∃ v, (kvs.map (·.2))[j]? = some v ∧ L2.valV kvs y = some v := by
  induction ks generalizing kvs j with
  | nil => cases h
  | cons k ks ih =>
    cases kvs with
    | nil => simp at hk
    | cons p kvs =>
      simp only [List.map_cons, List.cons.injEq] at hk
      have he := eqK_key hk.1 hd
      simp only [findK] at h
      by_cases hc : eqK k d = true
      · rw [if_pos hc] at h; cases h
        rw [hc] at he
        refine ⟨p.2, rfl, ?_⟩
        unfold L2.valV
        rw [List.find?_cons, ← he]; rfl
      · rw [if_neg hc] at h
        simp only [Option.map_eq_some_iff] at h
        obtain ⟨i, hi, rfl⟩ := h
        obtain ⟨v, h1, h2⟩ := ih hk.2 hi
        refine ⟨v, by simpa using h1, ?_⟩
        have : decide (p.1 = y) = false := by rw [← he]; simpa using hc
        unfold L2.valV at h2 ⊢
        rw [List.find?_cons, this]; exact h2
end
end Ev
end
section
set_option linter.all false
set_option maxHeartbeats 1000000
namespace Ev
open PySem
section
variable {X : L2.Cx} {W : L2.WX} {adr : Nat → Addr} {fld : Nat → Str} {F : Nat → List Sl → CR} {T : Tb} {Gt : Nat → (Ls → R Vw) → Ls → R Vw} {th : Option (Ls × (Ls → R Vw))} {σ : L2.St} {H : Hp} {ea ei : Expr} {a i : Xp}
/-- a[i] -/
theorem pe_subA (hu : X.A.units + 1 < cLine) (ha : L2.PE X ea (inj X.K (TEs ⟨X.K, W, adr, fld⟩ F T Gt th a))) (hi : L2.PE X ei (inj X.K (TEs ⟨X.K, W, adr, fld⟩ F T Gt th i))) (hp : L2.PlainIx ei) (hn : L2.NoSl ei) {pos : Pos} :
    L2.PE X (.Subscript ea ei pos) (TEs ⟨X.K, W, adr, fld⟩ F T Gt th (.sub a i)) := pe_pick fun σ H Q J hu2 => by
  obtain ⟨e, G, fp, S, h⟩ := hu2
  simp only [ev] at h
  have sbs : ∀ z, z ∈ a.tch → z ∈ Xp.tch (.sub a i) := fun z hz => by simp only [Xp.tch]; exact List.mem_append_left _ hz
  -- the common part: behind a and i
  have go : ∀ (R2 : V → V → Hp → (V → Hp → Prop) → Prop) (good : D → Prop), (∀ w e1, ev F T Gt th a e = .ok w e1 → good w.d) →
      (∀ {w : Vw} {e2 : Ls} {G2 : GSet} {H2 : Hp} {fp2 : FpT} {v y : V} {u : Vw}, good w.d → Frm G H fp G2 H2 fp2 → Keep (a.tch ++ i.tch) e H fp e2 H2 → Sim X.K G2 H2 e2 σ fp2 → Inj X.K H2 → VwOk X.K H σ w e2 G2 H2 fp2 v → (∃ k fx, Rep X.K G2 H2 k u.d y fx) →
        Aft ⟨X.K, W, adr, fld⟩ (Xp.tch (.sub a i)) σ e G H fp (subR w u e2) (VwOk X.K H σ) Q → R2 v y H2 fun v H' => Inj X.K H' → Q v H') →
      L2.tOp (fun x y H Q => R2 x y H Q) (inj X.K (TEs ⟨X.K, W, adr, fld⟩ F T Gt th a)) (inj X.K (TEs ⟨X.K, W, adr, fld⟩ F T Gt th i)) σ H fun v H' => Inj X.K H' → Q v H' := fun R2 good hg fin => by
    refine ⟨e, G, fp, S, Aft.first h sbs fun w e1 G1 H1 fp1 v hr Fr Kp S1 J1 o _ => ?_⟩
    rw [hr, R.bind_ok] at h
    by_cases hc : clash (w.src.map (·.1)) i.tch = true
    · rw [if_pos hc] at h; exact h.elim
    rw [if_neg hc] at h
    have hc' : clash (w.src.map (·.1)) i.tch = false := by simpa using hc
    have hs := Aft.shift (ts1 := a.tch) (ts2 := i.tch) h (fun z hz => by simpa only [Xp.tch] using hz) S Fr Kp fun _ _ _ _ _ _ o _ => o
    refine ⟨e1, G1, fp1, S1, Aft.first hs (fun z hz => hz) fun u e2 G2 H2 fp2 y hr2 F2 K2 S2 J2 o2 _ => ?_⟩
    rw [hr2, R.bind_ok] at h
    obtain ⟨k, fx, r, _⟩ := look_ok S2 J2 o2
    exact fin (hg w e1 hr) (Fr.trans S F2) (Keep.trans S Fr Kp F2 K2) S2 J2 (o.later S1 J1 F2 K2 hc') ⟨k, fx, r⟩ h
  have isd : (∃ w e1 ks vs, ev F T Gt th a e = .ok w e1 ∧ w.d = .dct ks vs) ∨ ∀ w e1, ev F T Gt th a e = .ok w e1 → ∀ ks vs, w.d ≠ .dct ks vs := by
    by_cases z : ∃ w e1 ks vs, ev F T Gt th a e = .ok w e1 ∧ w.d = .dct ks vs
    · exact .inl z
    · exact .inr fun w e1 hr ks vs he => z ⟨w, e1, ks, vs, hr, he⟩
  rcases isd with ⟨w0, e0, ks0, vs0, hr0, he0⟩ | nd
  · refine ⟨_, L2.pe_dget hu ha hi hn, ?_⟩
    refine go (fun x y H2 Q => ∃ a v, x = .ref a ∧ L2.DGet H2 a y (some v) ∧ Q v H2) (fun d => d = .dct ks0 vs0) (fun w e1 hr => by rw [hr0] at hr; cases hr; exact he0) ?_
    intro w e2 G2 H2 fp2 v y u hd F2 K2 S2 J2 o ⟨ku, fu, ru⟩ hh
    unfold subR at hh
    simp only [hd] at hh
    by_cases hk : keyOk u.d = true
    · rw [if_pos hk] at hh
      cases hj : findK ks0 u.d with
      | none => simp only [hj] at hh; exact hh.elim
      | some j =>
        simp only [hj] at hh
        cases hx : vs0[j]? with
        | none => simp only [hx] at hh; exact hh.elim
        | some x =>
          simp only [hx] at hh
          obtain ⟨kk, hkk⟩ := key_of hk
          obtain rfl := rep_key hkk ru
          obtain ⟨kw, fw, rw', _⟩ := look_ok S2 J2 o
          rw [hd] at rw'
          have fin : ∀ p kvs, H2 p = some (.dK kvs) → v = .ref p → ks0.map keyV = kvs.map (fun p => some p.1) → (∃ k f, Reps X.K G2 H2 k vs0 (kvs.map (·.2)) f) → ∃ a z, v = .ref a ∧ L2.DGet H2 a (L2.kV kk) (some z) ∧ (Inj X.K H2 → Q z H2) := fun p kvs hp hv hks ⟨_, _, rs⟩ => by
            subst hv
            obtain ⟨z, hz1, hz2⟩ := find_key hks hkk hj
            obtain ⟨y', f', e1, _, _⟩ := rs.get hx
            rw [hz1] at e1; cases e1
            refine ⟨p, z, rfl, by rw [← hz2]; exact .k hp, fun J' => ?_⟩
            have p1 : PAt X.K H2 w.d (.ref p) [j] x z := by rw [hd]; exact .dct hp hx hz1 .nil
            obtain ⟨G3, F3, S3, o3⟩ := o.step S2 J2 F2 p1
            exact hh G3 H2 fp2 z F3 (K2.mono fun z hz => by simpa only [Xp.tch] using hz) S3 J' o3
          cases rw' with
          | dctF h1 _ h3 _ h5 => exact fin _ _ h1 rfl h3 ⟨_, _, h5⟩
          | dctO h1 h3 _ h5 => exact fin _ _ h1 rfl h3 ⟨_, _, h5⟩
    · rw [if_neg hk] at hh; exact hh.elim
  · refine ⟨_, L2.pe_ix L2.ix_seq ha hi hp, ?_⟩
    refine go (L2.rIx X.K) (fun d => ∀ ks vs, d ≠ .dct ks vs) nd ?_
    intro w e2 G2 H2 fp2 v y u hd F2 K2 S2 J2 o ⟨ku, fu, ru⟩ hh
    unfold subR at hh
    have K2' : Keep (Xp.tch (.sub a i)) e H fp e2 H2 := K2.mono fun z hz => by simpa only [Xp.tch] using hz
    obtain ⟨kw, fw, rw', _⟩ := look_ok S2 J2 o
    cases hw : w.d with
    | dct ks vs => exact absurd hw (hd ks vs)
    | tup ds =>
      simp only [hw] at hh
      cases hud : u.d <;> simp only [hud] at hh <;> first | exact hh.elim | skip
      rename_i n
      cases hj : ixD ds.length n with
      | none => simp only [hj] at hh; exact hh.elim
      | some j =>
        simp only [hj] at hh
        rw [hud] at ru
        cases ru
        have hlt : j < ds.length := (L2.ixN_seq (by rw [← ixD_is]; exact hj)).2.1
        have hx : ds[j]? = some (ds.getD j .non) := by rw [List.getD_eq_getElem?_getD, List.getElem?_eq_getElem hlt]; rfl
        obtain ⟨p, vs, z, rfl, h1, h2, h3, h4⟩ := (view_elem rw' (j := j)).1 ds hw hx
        refine .inr (.inl ⟨p, vs, n, z, rfl, rfl, h1, ?_, fun J' => ?_⟩)
        · unfold L2.atI; rw [← h2, ← ixD_is, hj]; exact h3
        · obtain ⟨G3, F3, S3, o3⟩ := o.step S2 J2 F2 h4
          exact hh G3 H2 fp2 z F3 K2' S3 J' o3
    | lst ds =>
      simp only [hw] at hh
      cases hud : u.d <;> simp only [hud] at hh <;> first | exact hh.elim | skip
      rename_i n
      cases hj : ixD ds.length n with
      | none => simp only [hj] at hh; exact hh.elim
      | some j =>
        simp only [hj] at hh
        rw [hud] at ru
        cases ru
        have hlt : j < ds.length := (L2.ixN_seq (by rw [← ixD_is]; exact hj)).2.1
        have hx : ds[j]? = some (ds.getD j .non) := by rw [List.getD_eq_getElem?_getD, List.getElem?_eq_getElem hlt]; rfl
        obtain ⟨p, vs, z, rfl, h1, h2, h3, h4⟩ := (view_elem rw' (j := j)).2 ds hw hx
        refine .inl ⟨p, vs, n, z, rfl, rfl, h1, ?_, fun J' => ?_⟩
        · unfold L2.atI; rw [← h2, ← ixD_is, hj]; exact h3
        · obtain ⟨G3, F3, S3, o3⟩ := o.step S2 J2 F2 h4
          exact hh G3 H2 fp2 z F3 K2' S3 J' o3
    | str s =>
      simp only [hw] at hh
      cases hud : u.d <;> simp only [hud] at hh <;> first | exact hh.elim | skip
      rename_i n
      cases hj : ixD s.length n with
      | none => simp only [hj] at hh; exact hh.elim
      | some j =>
        simp only [hj] at hh
        rw [hud] at ru
        cases ru
        rw [hw] at rw'
        have hlt : j < s.length := (L2.ixN_seq (by rw [← ixD_is]; exact hj)).2.1
        have hx : s[j]? = some (s.getD j 0) := by rw [List.getD_eq_getElem?_getD, List.getElem?_eq_getElem hlt]; rfl
        cases rw' with
        | str hl =>
          refine .inr (.inr ⟨_, n, s.getD j 0, rfl, rfl, by rw [str_len]; exact lineOk hl, ?_, fun J' => ?_⟩)
          · unfold L2.atI; rw [← ixD_is]
            show (ixD s.length n).bind (fun j => s[j]?) = _
            rw [hj]; exact hx
          · exact hh G2 H2 fp2 _ F2 K2' S2 J' (.new (Rep.str (k := 0) (s := [s.getD j 0]) (by simp)) List.nodup_nil fun a h => by cases h)
    | non => simp only [hw] at hh; exact hh.elim
    | bl _ => simp only [hw] at hh; exact hh.elim
    | int _ => simp only [hw] at hh; exact hh.elim
    | set _ => simp only [hw] at hh; exact hh.elim
    | rng _ _ => simp only [hw] at hh; exact hh.elim
    | exc _ _ => simp only [hw] at hh; exact hh.elim
    | scr ns =>
      simp only [hw] at hh
      cases hud : u.d <;> simp only [hud] at hh <;> first | exact hh.elim | skip
      rename_i n
      cases hj : ixD ns.length n with
      | none => simp only [hj] at hh; exact hh.elim
      | some j =>
        simp only [hj] at hh
        rw [hud] at ru
        cases ru
        rw [hw] at rw'
        have hlt : j < ns.length := (L2.ixN_seq (by rw [← ixD_is]; exact hj)).2.1
        have hx : ns[j]? = some (ns.getD j 0) := by rw [List.getD_eq_getElem?_getD, List.getElem?_eq_getElem hlt]; rfl
        cases rw' with
        | scr hl =>
          refine .inl ⟨_, _, n, .int (ns.getD j 0), rfl, rfl, hl.sq, ?_, fun J' => ?_⟩
          · unfold L2.atI; rw [List.length_map, ← ixD_is, hj]
            show (ns.map L2.V.int)[j]? = _
            rw [List.getElem?_map, hx]; rfl
          · exact hh G2 H2 fp2 _ F2 K2' S2 J' (.new (k := 0) .int List.nodup_nil fun a h => by cases h)
/-- a[::-1] -/
theorem pe_revA {k : Nat} {p1 p2 p3 pos : Pos} (ha : L2.PE X ea (inj X.K (TEs ⟨X.K, W, adr, fld⟩ F T Gt th a))) : L2.PE X (.Subscript ea (.Slice none none (some (.UnaryOp .USub (.Constant (.int 1) k p1) p2)) p3) pos) (TEs ⟨X.K, W, adr, fld⟩ F T Gt th (.p .rev [a])) := pe_pick fun σ H Q J hu2 => by
  obtain ⟨e, G, fp, S, h⟩ := hu2
  simp only [ev, evP, Pr.emb, if_true, R.bind_assoc, R.bind_ok] at h
  have sbs : ∀ z, z ∈ a.tch → z ∈ Xp.tch (.p .rev [a]) := fun z hz => by simpa only [Xp.tch, Xp.tchs, List.append_nil] using hz
  by_cases z : ∃ w e1 s, ev F T Gt th a e = .ok w e1 ∧ w.d = .str s
  · obtain ⟨w0, e0, s0, hr0, he0⟩ := z
    refine ⟨_, pe_revS ha, e, G, fp, S, Aft.first h sbs fun w e1 G1 H1 fp1 v hr Fr Kp S1 J1 o _ => ?_⟩
    rw [hr0] at hr
    cases hr
    rw [hr0, R.bind_ok] at h
    obtain ⟨G2, fp2, F2, K2, S2, r2⟩ := asF_ok S Fr Kp S1 J1 o
    have hd : (asF w0 e0).1 = .str s0 := by
      unfold asF; split
      · split
        · split <;> exact he0
        · exact he0
      · exact he0
    rw [hd] at r2 h
    cases r2 with
    | str hl =>
      refine ⟨_, rfl, by rw [str_len]; exact lineOk hl, fun J' => ?_⟩
      simp only [primD, un, revD] at h
      refine Aft.made S h F2 (K2.mono sbs) S2 (.same (Rep.str ?_)) J'
      simpa using hl
  · refine ⟨_, L2.pe_revL ha, e, G, fp, S, Aft.first h sbs fun w e1 G1 H1 fp1 v hr Fr Kp S1 J1 o _ => ?_⟩
    rw [hr, R.bind_ok] at h
    obtain ⟨G2, fp2, F2, K2, S2, r2⟩ := asF_ok S Fr Kp S1 J1 o
    have hd : (asF w e1).1 = w.d := by
      unfold asF; split
      · split
        · split <;> rfl
        · rfl
      · rfl
    rw [hd] at r2 h
    cases hw : w.d with
    | lst ds =>
      simp only [hw, primD, un, revD] at h
      rw [hw] at r2
      cases r2 with
      | lstF h1 rs => exact ⟨_, _, rfl, h1.sq, fun p hp J' => Aft.made S h F2 (K2.mono sbs) S2 (.lst hp (reps0_rev rs)) J'⟩
    | str s => exact absurd ⟨w, e1, s, hr, hw⟩ z
    | dct ks vs => simp only [hw, primD, un, revD] at h; exact h.elim
    | tup ds => simp only [hw, primD, un, revD] at h; exact h.elim
    | non => simp only [hw, primD, un, revD] at h; exact h.elim
    | bl _ => simp only [hw, primD, un, revD] at h; exact h.elim
    | int _ => simp only [hw, primD, un, revD] at h; exact h.elim
    | set _ => simp only [hw, primD, un, revD] at h; exact h.elim
    | rng _ _ => simp only [hw, primD, un, revD] at h; exact h.elim
    | exc _ _ => simp only [hw, primD, un, revD] at h; exact h.elim
    | scr _ => simp only [hw, primD, un, revD] at h; exact h.elim
end
end Ev
end
section
set_option linter.all false
set_option maxHeartbeats 1000000
namespace Ev
open PySem
section
variable {K : PySem.W.Frag} {G G0 G1 : GSet} {H H0 : Hp} {e e0 : Ls} {σ : L2.St} {fp fp0 fp1 : FpT} {p : Addr} {o : L2.HO} {ts : List Nat}
/-- what stands apart may change -/
structure Apart (G : GSet) (H : Hp) (fp : FpT) (p : Addr) : Prop where
  fp : ∀ i, p ∉ fp i
  g : ¬ G p
  m : H p = Option.none ∨ ∃ o, H p = some o ∧ L2.Mut (some o)
theorem Apart.stays (A : Apart G H fp p) : Stays G H (L2.upd H p o) where
  tup := fun a xs h => by
    have : a ≠ p := fun e => by
      subst e
      rcases A.m with q | ⟨o, q, hm⟩
      · rw [q] at h; cases h
      · rw [q] at h; cases h; exact hm
    rw [L2.upd_ne this]; exact h
  frz := fun a x u h => by
    have : a ≠ p := fun e => by
      subst e
      rcases A.m with q | ⟨o, q, hm⟩
      · rw [q] at h; cases h
      · rw [q] at h; cases h; exact hm
    rw [L2.upd_ne this]; exact h
  gs := fun a x g h => by
    have : a ≠ p := fun e => A.g (e ▸ g)
    rw [L2.upd_ne this]; exact h
theorem Sim.upd (S : Sim K G H e σ fp) (A : Apart G H fp p) : Sim K G (L2.upd H p o) e σ fp := by
  have same : ∀ i, ∀ a ∈ fp i, L2.upd H p o a = H a := fun i a ha => L2.upd_ne fun e => A.fp i (e ▸ ha)
  refine ⟨S.len, fun i s hs => ?_, S.nil, S.nd, S.dj, S.ng, fun a g => ?_⟩
  · obtain ⟨v, hv, r⟩ := S.rep i s hs
    exact ⟨v, hv, r.keep (fun _ g => g) A.stays (same i)⟩
  · have : a ≠ p := fun e => A.g (e ▸ g)
    rw [L2.upd_ne this]; exact S.gs a g
theorem Frm.upd (F : Frm G0 H0 fp0 G H fp) (h0 : H0 p = Option.none) : Frm G0 H0 fp0 G (L2.upd H p o) fp where
  g := F.g
  gn := F.gn
  st := fun a x h hn ht => by
    rw [L2.upd_ne (L2.ne_of_none h h0)]; exact F.st a x h hn ht
  fn := F.fn
  al := fun a h => by
    by_cases e : a = p
    · subst e; rw [L2.upd_same]; simp
    · rw [L2.upd_ne e]; exact F.al a h
theorem KeepH.upd (S0 : Sim K G0 H0 e0 σ fp0) (k : KeepH ts H0 fp0 H) (h0 : H0 p = Option.none) : KeepH ts H0 fp0 (L2.upd H p o) := fun i hi a ha => by
  obtain ⟨x, hx, _⟩ := S0.there ha
  rw [L2.upd_ne (L2.ne_of_none hx h0)]; exact k i hi a ha
theorem Keep.upd (S0 : Sim K G0 H0 e0 σ fp0) (k : Keep ts e0 H0 fp0 e H) (h0 : H0 p = Option.none) : Keep ts e0 H0 fp0 e (L2.upd H p o) := ⟨KeepH.upd S0 k.h h0, k.d⟩
theorem Apart.later (A : Apart G0 H0 fp0 p) (h0 : H0 p ≠ Option.none) (F : Frm G0 H0 fp0 G H fp) : Apart G H fp p := by
  rcases A.m with q | ⟨o, q, hm⟩
  · exact absurd q h0
  · refine ⟨fun i hi => ?_, fun g => ?_, .inr ⟨o, F.st p o q A.fp (mut_tbl hm), hm⟩⟩
    · rcases F.fn i p hi with z | z
      · exact A.fp i z
      · exact h0 z
    · rcases F.gn p g with z | ⟨i, z⟩ | z
      · exact A.g z
      · exact A.fp i z
      · exact h0 z
theorem Apart.of_none (S : Sim K G H e σ fp) (h : H p = Option.none) : Apart G H fp p where
  fp := fun i hi => by
    obtain ⟨o, ho, _⟩ := S.there hi
    rw [h] at ho; cases ho
  g := fun g => by
    obtain ⟨o, ho, _⟩ := S.gs p g
    rw [h] at ho; cases ho
  m := .inl h
theorem Apart.upd (A : Apart G H fp p) (hm : L2.Mut (some o)) : Apart G (L2.upd H p o) fp p := ⟨A.fp, A.g, .inr ⟨o, L2.upd_same, hm⟩⟩
theorem Own.upd (A : Apart G H fp p) : ∀ {ss vs fx}, Own K G H ss vs fx → p ∉ fx → Own K G (L2.upd H p o) ss vs fx
  | _, _, _, .nil, _ => .nil
  | _, _, _, .cons r os, h => .cons (r.keep (fun _ g => g) A.stays fun a ha => L2.upd_ne fun e => h (List.mem_append_left _ (e ▸ ha))) (Own.upd A os fun z => h (List.mem_append_right _ z))
/-- the heap is read as one thing also beside a new dict -/
theorem Inj.dK {kvs : List (L2.Key × V)} (J : Inj K H) : Inj K (L2.upd H p (.dK kvs)) := by
  have rd : ∀ a u, L2.Rd (L2.upd H p (.dK kvs)) a u → u = .dK kvs ∨ L2.Rd H a u := fun a u h => by
    by_cases e : a = p
    · subst e
      rcases h with h | ⟨o, h⟩
      · rw [L2.upd_same] at h; cases h; exact .inl rfl
      · rw [L2.upd_same] at h; cases h
    · refine .inr ?_
      rcases h with h | ⟨o, h⟩
      · rw [L2.upd_ne e] at h; exact .inl h
      · rw [L2.upd_ne e] at h; exact .inr ⟨o, h⟩
  refine ⟨fun a xs ys h1 h2 => J.t a xs ys ?_ ?_, fun a xs ys h1 h2 => J.l a xs ys ?_ ?_⟩
  · rcases h1 with h1 | h1
    · rcases rd _ _ h1 with z | z
      · cases z
      · exact .inl z
    · exact .inr h1
  · rcases h2 with h1 | h1
    · rcases rd _ _ h1 with z | z
      · cases z
      · exact .inl z
    · exact .inr h1
  · rcases h1 with h1 | h1
    · rcases rd _ _ h1 with z | z
      · cases z
      · exact .inl z
    · exact .inr h1
  · rcases h2 with h1 | h1
    · rcases rd _ _ h1 with z | z
      · cases z
      · exact .inl z
    · exact .inr h1
end
/-- the keys of a written dict -/
def keysOf (ks : List D) : List L2.Key := ks.filterMap keyV
theorem keysOf_map : ∀ {ks : List D}, ks.all keyOk = true → ks.map keyV = (keysOf ks).map some
  | [], _ => rfl
  | k :: ks, h => by
    simp only [List.all_cons, Bool.and_eq_true] at h
    obtain ⟨y, hy⟩ := key_of h.1
    have ih := keysOf_map h.2
    unfold keysOf at ih ⊢
    rw [List.map_cons, List.filterMap_cons, hy]
    simp [ih]
theorem keysOf_len {ks : List D} (h : ks.all keyOk = true) : (keysOf ks).length = ks.length := by
  simpa using (congrArg List.length (keysOf_map h)).symm
theorem keysOf_nodup : ∀ {ks : List D}, ks.all keyOk = true → ks.Pairwise (fun a b => eqK a b = false) → (keysOf ks).Nodup
  | [], _, _ => List.nodup_nil
  | k :: ks, h, p => by
    simp only [List.all_cons, Bool.and_eq_true] at h
    obtain ⟨y, hy⟩ := key_of h.1
    obtain ⟨p1, p2⟩ := List.pairwise_cons.mp p
    have ih := keysOf_nodup h.2 p2
    unfold keysOf at ih ⊢
    rw [List.filterMap_cons, hy]
    refine List.nodup_cons.mpr ⟨fun z => ?_, ih⟩
    obtain ⟨b, hb, hb2⟩ := List.mem_filterMap.mp z
    have := eqK_key hy hb2
    rw [p1 b hb] at this
    simp at this
theorem conV_key {k : D} {y : L2.Key} (h : keyV k = some y) : conV k = L2.kV y := by
  cases k <;> simp only [keyV, reduceCtorEq] at h <;> cases h <;> rfl
theorem merge_nodup : ∀ (kvs acc : List (L2.Key × V)), ((acc ++ kvs).map (·.1)).Nodup → L2.mergeK acc kvs = acc ++ kvs
  | [], acc, _ => by simp [L2.mergeK]
  | (k, v) :: kvs, acc, h => by
    have hk : L2.putK acc k v = acc ++ [(k, v)] := by
      unfold L2.putK
      rw [if_neg]
      simp only [List.any_eq_true, decide_eq_true_eq, not_exists, not_and]
      intro q hq e
      rw [List.map_append, List.nodup_append] at h
      exact h.2.2 q.1 (List.mem_map.mpr ⟨q, hq, rfl⟩) k (by simp) e
    have ih := merge_nodup kvs (acc ++ [(k, v)]) (by simpa [List.append_assoc] using h)
    unfold L2.mergeK at ih ⊢
    rw [List.foldl_cons, hk, ih, List.append_assoc]; rfl
section
variable {P : Prm} {F : Nat → List Sl → CR} {T : Tb} {Gt : Nat → (Ls → R Vw) → Ls → R Vw} {th : Option (Ls × (Ls → R Vw))} {σ : L2.St} {H : Hp} {emb : Bool} {x : Xp} {xs : List Xp}
def trsOf (K : PySem.W.Frag) (t : Xp → L2.TE) (ks : List D) (xs : List Xp) : List (L2.TE × L2.TE) := (ks.zip xs).map fun p => (L2.tC (conV p.1), inj K (t p.2))
theorem pairs_of : ∀ {ks : List D} {xs : List Xp}, ks.length = xs.length → ∀ {H Q}, Inj P.K H → TOs P F T Gt th xs σ H Q → L2.tPairs (trsOf P.K (TEs P F T Gt th) ks xs) σ H fun ps H' => ∃ vs, ps = (ks.map conV).zip vs ∧ vs.length = ks.length ∧ Q vs H'
  | [], [], _, H, Q, J, h => ⟨[], rfl, rfl, tos_nil J h⟩
  | k :: ks, x :: xs, hl, H, Q, J, h => by
    refine tes_imp (tos_cons h) fun v H1 h1 J1 => ?_
    have ih := pairs_of (ks := ks) (xs := xs) (by simpa using hl) J1 (h1 J1)
    exact mono ih fun ps H' ⟨vs, e, e2, q⟩ => ⟨v :: vs, by rw [e]; rfl, by simp [e2], q⟩
  | [], _ :: _, hl, _, _, _, _ => by simp at hl
  | _ :: _, [], hl, _, _, _, _ => by simp at hl
where
  mono : ∀ {ks xs H} {Q Q' : List (V × V) → Hp → Prop}, L2.tPairs (trsOf P.K (TEs P F T Gt th) ks xs) σ H Q → (∀ ps H', Q ps H' → Q' ps H') → L2.tPairs (trsOf P.K (TEs P F T Gt th) ks xs) σ H Q'
    | [], _, H, Q, Q', h, k => k _ _ h
    | _ :: _, [], H, Q, Q', h, k => k _ _ h
    | k0 :: ks, x :: xs, H, Q, Q', h, k => tes_imp h fun v H1 h1 J1 => mono (h1 J1) fun ps H' q => k _ _ q
theorem te_dct {Q : V → Hp → Prop} {ks : List D} (hk : okKeys ks = true) (hl : ks.length = xs.length) (J : Inj P.K H) (h : TEs P F T Gt th (.dct ks xs) σ H Q) : L2.tDisp (trsOf P.K (TEs P F T Gt th) ks xs) σ H fun v H' => Inj P.K H' → Q v H' := fun p hp => by
  obtain ⟨e, G, fp, S, h⟩ := h
  have hg : (okKeys ks && ks.length == xs.length) = true := by rw [hk, hl]; simp
  simp only [ev, hg, if_true] at h
  have hk' := hk
  simp only [okKeys, Bool.and_eq_true, decide_eq_true_eq] at hk'
  obtain ⟨⟨hk1, hk2⟩, hk3⟩ := hk'
  have A0 := Apart.of_none S hp
  obtain ⟨S1, F1, K1⟩ := S.ext (upd_ext (o := .dK []) hp)
  have hs := Aft.shift (ts1 := []) (ts2 := Xp.tch (.dct ks xs)) h (fun i hi => by simpa using hi) S F1 K1 fun _ _ _ _ _ _ o _ => o
  refine pairs_of.mono (pairs_of hl (J.dK (p := p) (kvs := [])) (Q := fun vs H2 => vs.length = ks.length → H2 p = some (.dK []) ∧ ∃ kvs : List (L2.Key × V), (ks.map conV).zip vs = kvs.map (fun kv => (L2.kV kv.1, kv.2)) ∧ kvs.length ≤ 15 ∧ (Inj P.K (L2.upd H2 p (.dK (L2.mergeK [] kvs))) → Q (.ref p) (L2.upd H2 p (.dK (L2.mergeK [] kvs))))) ?_) fun ps H' ⟨vs, e1, e2, q⟩ => by rw [e1]; exact q e2
  refine ⟨e, G, fp, S1, Aft.first hs (fun i hi => by simpa only [Xp.tch] using hi) fun ss e1 G1 H2 fp1 vs hr Fr Kp S2 J2 ⟨fx, ow, nd, hx⟩ hlen => ?_⟩
  rw [hr, R.bind_ok] at hs
  have A1 : Apart G (L2.upd H p (.dK [])) fp p := A0.upd trivial
  have A2 := A1.later (by rw [L2.upd_same]; simp) Fr
  have h2p : H2 p = some (.dK []) := Fr.st p _ L2.upd_same A1.fp fun ps => by simp
  have pf : p ∉ fx := fun z => by
    have := (hx p z).1
    rw [L2.upd_same] at this; cases this
  have hkl := keysOf_len hk1
  let kvs : List (L2.Key × V) := (keysOf ks).zip vs
  have hz1 : kvs.map (·.1) = keysOf ks := List.map_fst_zip (by rw [hkl]; omega)
  have hz2 : kvs.map (·.2) = vs := List.map_snd_zip (by rw [hkl]; omega)
  have nk : (kvs.map (·.1)).Nodup := by rw [hz1]; exact keysOf_nodup hk1 hk2
  have hm : L2.mergeK [] kvs = kvs := merge_nodup kvs [] (by simpa using nk)
  refine ⟨h2p, kvs, ?_, ?_, fun J3 => ?_⟩
  · have e3 : ks.map conV = (keysOf ks).map L2.kV := by
      clear hk hg hz1 hz2 nk hm hkl hk2 hk3 hlen hs h hl
      induction ks with
      | nil => rfl
      | cons k ks ih =>
        simp only [List.all_cons, Bool.and_eq_true] at hk1
        obtain ⟨y, hy⟩ := key_of hk1.1
        have i2 := ih hk1.2
        unfold keysOf at i2 ⊢
        rw [List.map_cons, List.filterMap_cons, hy, conV_key hy, i2]; rfl
    rw [e3]
    show ((keysOf ks).map L2.kV).zip vs = ((keysOf ks).zip vs).map _
    rw [List.zip_map_left]; rfl
  · show ((keysOf ks).zip vs).length ≤ 15
    rw [List.length_zip, hkl]; omega
  · rw [hm] at J3 ⊢
    have hm3 : ∀ s ∈ ss, min 8 (minK ss) ≤ s.k := fun s hs => Nat.le_trans (Nat.min_le_right _ _) (minK_le s hs)
    have ek : min capK (minK ss + 1) = min 8 (minK ss) + 1 := by unfold capK; omega
    have ow3 : Own P.K G1 (L2.upd H2 p (.dK kvs)) ss vs fx := Own.upd A2 ow pf
    obtain ⟨fx', sb, hr'⟩ := ow3.reps (fun _ _ h => h) nd (n := min 8 (minK ss)) hm3
    have F2 : Frm G H fp G1 (L2.upd H2 p (.dK kvs)) fp1 := (F1.trans S Fr).upd hp
    have K2 : Keep (Xp.tchs xs) e H fp e1 (L2.upd H2 p (.dK kvs)) := Keep.upd S ((Keep.trans S F1 K1 Fr Kp).mono (by simp)) hp
    have S3 : Sim P.K G1 (L2.upd H2 p (.dK kvs)) e1 σ fp1 := S2.upd A2
    have al : ∀ a ∈ fx, ∃ o, L2.upd H2 p (.dK kvs) a = some o ∧ L2.Mut (some o) := ow3.there
    have S4 := S3.moreG (fx := fx.filter fun a => decide (a ∉ fx')) (fun a ha i => (hx a (List.mem_filter.mp ha).1).2.1 i) fun a ha => al a (List.mem_filter.mp ha).1
    have m : ∀ a, a ∈ fx.filter (fun a => decide (a ∉ fx')) ↔ a ∈ fx ∧ a ∉ fx' := fun a => by simp [List.mem_filter]
    have r3 : Reps P.K (fun a => G1 a ∨ a ∈ fx.filter fun a => decide (a ∉ fx')) (L2.upd H2 p (.dK kvs)) (min 8 (minK ss)) (ss.map (·.d)) (kvs.map (·.2)) fx' := by
      rw [hz2]; exact hr' _ (fun a g => .inl g) fun a ha na => .inr ((m a).mpr ⟨ha, na⟩)
    have old : ∀ a, L2.upd H p (.dK []) a = none → H a = none := fun a ha => by
      by_cases z : a = p
      · subst z; exact hp
      · rw [L2.upd_ne z] at ha; exact ha
    rw [hr, R.bind_ok] at h
    refine h _ _ fp1 (.ref p) ?_ (K2.mono fun i hi => by simpa only [Xp.tch] using hi) S4 J3 ?_
    · refine ⟨fun a g => .inl (F2.g a g), fun a g => ?_, F2.st, F2.fn, F2.al⟩
      rcases g with g | g
      · exact F2.gn a g
      · exact .inr (.inr (old a (hx a ((m a).mp g).1).1))
    · show ∃ fx, Rep P.K _ _ (if D.atom (.dct ks (ss.map (·.d))) then capK else min capK (minK ss + 1)) (.dct ks (ss.map (·.d))) (.ref p) fx ∧ fx.Nodup ∧ _
      rw [show D.atom (.dct ks (ss.map (·.d))) = false from rfl, if_neg Bool.false_ne_true, ek]
      refine ⟨p :: fx', .dctO L2.upd_same ?_ nk r3, List.nodup_cons.mpr ⟨fun z => pf (sb.subset z), sb.nodup nd⟩, fun a ha => ?_⟩
      · rw [keysOf_map hk1, ← hz1, List.map_map]; rfl
      · rcases List.mem_cons.mp ha with e | ha
        · subst e
          refine ⟨hp, A2.fp, fun g => ?_⟩
          rcases g with g | g
          · exact A2.g g
          · exact pf ((m a).mp g).1
        · have ha' := sb.subset ha
          refine ⟨old a (hx a ha').1, (hx a ha').2.1, fun g => ?_⟩
          rcases g with g | g
          · exact (hx a ha').2.2 g
          · exact ((m a).mp g).2 ha
end
end Ev
end
section
set_option linter.all false
set_option maxHeartbeats 1000000
namespace Ev
open PySem
/-- what an iterator hands out -/
structure Gives (K : PySem.W.Frag) (J : L2.It) (ds : List D) (G : GSet) (H : Hp) : Prop where
  go : ∀ i, i < ds.length → J.go i H
  stop : J.stop ds.length H
  yld : ∀ i x H', i < ds.length → J.yld i H x H' → (∀ a u, H a = some u → H' a = some u) ∧ ∃ d, ds[i]? = some d ∧ Rep K G H' 0 d x []
/-- .. now and later, as long as the slots ls stay -/
def Feeds (K : PySem.W.Frag) (J : L2.It) (ds : List D) (ls : List Nat) (G : GSet) (H : Hp) (fp : FpT) : Prop := ∀ G' H' fp' ts, Frm G H fp G' H' fp' → (∀ i ∈ ls, i ∉ ts) → KeepH ts H fp H' → Gives K J ds G' H'
section
variable {K : PySem.W.Frag} {G G' : GSet} {H H' : Hp} {e : Ls} {σ : L2.St} {fp fp' : FpT} {a b : Addr} {ds es : List D} {vs us : List V}
theorem reps0_get (r : Reps K G H 0 ds vs []) {i : Nat} {x : V} (h : vs[i]? = some x) : ∃ d, ds[i]? = some d ∧ Rep K G H 0 d x [] := by
  have hl : i < ds.length := by rw [r.length]; exact (List.getElem?_eq_some_iff.mp h).1
  obtain ⟨v, f, h1, h2, h3⟩ := r.get (i := i) (d := ds[i]) (List.getElem?_eq_getElem hl)
  rw [h] at h1; cases h1
  obtain rfl := List.sublist_nil.mp h3
  exact ⟨_, List.getElem?_eq_getElem hl, h2⟩
theorem vget {i : Nat} (r : Reps K G H 0 ds vs []) (h : i < ds.length) : ∃ x, vs[i]? = some x := ⟨vs[i]'(by rw [← r.length]; exact h), List.getElem?_eq_getElem (by rw [← r.length]; exact h)⟩
theorem gives_sq (hs : L2.SqL K H a vs) (r : Reps K G H 0 ds vs []) : Gives K (L2.Itl K a) ds G H where
  go := fun i hi => by obtain ⟨x, hx⟩ := vget r hi; exact ⟨vs, x, hs, hx⟩
  stop := ⟨vs, hs, Nat.le_of_eq r.length.symm⟩
  yld := fun i x H' hi ⟨e, q⟩ => by subst e; exact ⟨fun _ _ h => h, reps0_get r (q vs hs)⟩
theorem gives_tup (hs : L2.SqT K H a vs) (r : Reps K G H 0 ds vs []) : Gives K (L2.Itt K a) ds G H where
  go := fun i hi => by obtain ⟨x, hx⟩ := vget r hi; exact ⟨vs, x, hs, hx⟩
  stop := ⟨vs, hs, Nat.le_of_eq r.length.symm⟩
  yld := fun i x H' hi ⟨e, q⟩ => by subst e; exact ⟨fun _ _ h => h, reps0_get r (q vs hs)⟩
theorem gives_str (s : List Nat) : Gives K (L2.Its ⟨s.toArray⟩) (s.map fun c => .str [c]) G H where
  go := fun i hi => by simpa [L2.Its] using hi
  stop := by simp [L2.Its]
  yld := fun i x H' hi ⟨e, c, hc, hx⟩ => by
    subst e hx
    refine ⟨fun _ _ h => h, .str [c], ?_, Rep.str (s := [c]) (by simp)⟩
    have : s[i]? = some c := by simpa using hc
    rw [List.getElem?_map, this]; rfl
theorem gives_rng (lo : Int) (n : Nat) : Gives K (L2.Itr lo n) ((List.range n).map fun (i : Nat) => .int (lo + (i : Int))) G H where
  go := fun i hi => by simpa [L2.Itr] using hi
  stop := by simp [L2.Itr]
  yld := fun i x H' hi ⟨e, hx⟩ => by
    subst e hx
    refine ⟨fun _ _ h => h, .int (lo + (i : Int)), ?_, .int⟩
    rw [List.getElem?_map, List.getElem?_range (by simpa using hi)]; rfl
theorem enumL_get : ∀ (ds : List D) (n i : Nat), (enumL n ds)[i]? = (ds[i]?).map fun d => .tup [.int ((n + i : Nat) : Int), d]
  | [], _, _ => rfl
  | d :: ds, n, 0 => rfl
  | d :: ds, n, i + 1 => by
    show (enumL (n + 1) ds)[i]? = _
    rw [enumL_get ds (n + 1) i, show n + 1 + i = n + (i + 1) by omega]; rfl
theorem enumL_len : ∀ (ds : List D) (n : Nat), (enumL n ds).length = ds.length
  | [], _ => rfl
  | d :: ds, n => by show (enumL (n + 1) ds).length + 1 = _; rw [enumL_len ds]; rfl
theorem gives_enum (hs : L2.SqL K H a vs) (r : Reps K G H 0 ds vs []) : Gives K (L2.Ite K a) (enumL 0 ds) G H where
  go := fun i hi => by
    rw [enumL_len] at hi
    obtain ⟨x, hx⟩ := vget r hi; exact ⟨vs, x, hs, hx⟩
  stop := ⟨vs, hs, by rw [enumL_len]; exact Nat.le_of_eq r.length.symm⟩
  yld := fun i x H' hi ⟨T, y, e, hT, e2, q⟩ => by
    subst e e2
    obtain ⟨d, hd, rd⟩ := reps0_get r (q vs hs)
    refine ⟨upd_ext hT, .tup [.int ((i : Nat) : Int), d], ?_, .tup (L2.SqT.of L2.upd_same) (.cons (fp := []) (fps := []) .int (.cons (fp := []) (fps := []) (rd.ext (upd_ext hT)) .nil))⟩
    rw [enumL_get, hd]; simp
theorem gives_zip (hs : L2.SqL K H a vs) (r : Reps K G H 0 ds vs []) (hs2 : L2.SqL K H b us) (r2 : Reps K G H 0 es us []) : Gives K (L2.Itz K a b) ((ds.zip es).map fun p => .tup [p.1, p.2]) G H where
  go := fun i hi => by
    rw [List.length_map, List.length_zip] at hi
    obtain ⟨x, hx⟩ := vget r (i := i) (by omega)
    obtain ⟨y, hy⟩ := vget r2 (i := i) (by omega)
    exact ⟨vs, us, x, y, hs, hs2, hx, hy⟩
  stop := ⟨vs, us, hs, hs2, by rw [List.length_map, List.length_zip, ← r.length, ← r2.length]; omega⟩
  yld := fun i x H' hi ⟨T, y, z, e, hT, e2, q, q2⟩ => by
    subst e e2
    obtain ⟨d, hd, rd⟩ := reps0_get r (q vs hs)
    obtain ⟨d2, hd2, rd2⟩ := reps0_get r2 (q2 us hs2)
    refine ⟨upd_ext hT, .tup [d, d2], ?_, .tup (L2.SqT.of L2.upd_same) (.cons (fp := []) (fps := []) (rd.ext (upd_ext hT)) (.cons (fp := []) (fps := []) (rd2.ext (upd_ext hT)) .nil))⟩
    rw [List.getElem?_map, (List.getElem?_zip_eq_some (z := (d, d2))).mpr ⟨hd, hd2⟩]; rfl
/-- a list that is gone through: frozen, or a slot's own -/
structure ListAt (K : PySem.W.Frag) (G : GSet) (H : Hp) (fp : FpT) (a : Addr) (vs : List V) (ds : List D) (ls : List Nat) : Prop where
  h : H a = some (.lst vs)
  r : Reps K G H 0 ds vs []
  o : G a ∨ ∃ i ∈ ls, a ∈ fp i
theorem ListAt.later {ts : List Nat} (S : Sim K G H e σ fp) (L : ListAt K G H fp a vs ds es') (F : Frm G H fp G' H' fp') (hl : ∀ i ∈ es', i ∉ ts) (k : KeepH ts H fp H') : H' a = some (.lst vs) ∧ Reps K G' H' 0 ds vs [] := by
  refine ⟨?_, L.r.keep F.g (F.stays S) fun _ h => by cases h⟩
  rcases L.o with g | ⟨i, hi, ha⟩
  · exact (F.stays S).gs _ _ g L.h
  · rw [k i (hl i hi) a ha]; exact L.h
end
section
variable {P : Prm} {σ : L2.St} {H0 H1 : Hp} {e0 e1 : Ls} {G0 G1 : GSet} {fp0 fp1 : FpT} {ts : List Nat}
/-- what itsF gives -/
theorem its_lst {K : PySem.W.Frag} {w : Vw} {v : V} {l : List D} (hd : w.d = .lst l) (S0 : Sim K G0 H0 e0 σ fp0) (F : Frm G0 H0 fp0 G1 H1 fp1) (Kp : Keep ts e0 H0 fp0 e1 H1) (S : Sim K G1 H1 e1 σ fp1) (J : Inj K H1) (o : VwOk K H0 σ w e1 G1 H1 fp1 v) :
    ∃ e2 G2 fp2 ls a vs, itsF w e1 = .ok (l, ls) e2 ∧ Frm G0 H0 fp0 G2 H1 fp2 ∧ Keep ts e0 H0 fp0 e2 H1 ∧ Sim K G2 H1 e2 σ fp2 ∧ v = .ref a ∧ ListAt K G2 H1 fp2 a vs l ls := by
  cases ho : own1 w e1 with
  | some i =>
    have hi : itsF w e1 = .ok (l, [i]) e1 := by unfold itsF; rw [hd, ho]
    unfold own1 at ho
    cases hs : w.src with
    | none => rw [hs] at ho; cases ho
    | some ip =>
      obtain ⟨j, p⟩ := ip
      rw [hs] at ho
      dsimp only at ho
      split at ho
      · rename_i h1
        cases ho
        unfold VwOk at o
        rw [hs] at o
        obtain ⟨s, v0, q1, q2, q3⟩ := o
        obtain ⟨fx, r, sb⟩ := S.view J q1 q2 q3
        rw [h1, hd] at r
        cases r with
        | @lstO _ _ a vs fp' h2 r2 =>
          obtain rfl := r2.zero rfl
          exact ⟨e1, G1, fp1, [i], a, vs, hi, F, Kp, S, rfl, h2, r2, .inr ⟨i, by simp, sb.subset (List.mem_cons_self ..)⟩⟩
      · cases ho
  | none =>
    have hdd : (asF w e1).1 = w.d := by
      unfold asF; split
      · split
        · split <;> rfl
        · rfl
      · rfl
    have hi : itsF w e1 = .ok (l, []) (asF w e1).2 := by
      unfold itsF; rw [hd, ho]; dsimp only
      rw [hdd, hd]; rfl
    obtain ⟨G2, fp2, F2, K2, S2, r2⟩ := asF_ok S0 F Kp S J o
    rw [hdd, hd] at r2
    cases r2 with
    | lstF h r => cases h with | fz h g => exact ⟨_, G2, fp2, [], _, _, hi, F2, K2, S2, rfl, h, r, .inl g⟩
theorem its_else {K : PySem.W.Frag} {w : Vw} {v : V} (hd : ∀ l, w.d ≠ .lst l) (S0 : Sim K G0 H0 e0 σ fp0) (F : Frm G0 H0 fp0 G1 H1 fp1) (Kp : Keep ts e0 H0 fp0 e1 H1) (S : Sim K G1 H1 e1 σ fp1) (J : Inj K H1) (o : VwOk K H0 σ w e1 G1 H1 fp1 v) :
    ∃ G2 fp2, itsF w e1 = ofO (w.d.its.map fun l => (l, [])) (asF w e1).2 "not a sequence" ∧ Frm G0 H0 fp0 G2 H1 fp2 ∧ Keep ts e0 H0 fp0 (asF w e1).2 H1 ∧ Sim K G2 H1 (asF w e1).2 σ fp2 ∧ Rep K G2 H1 0 w.d v [] := by
  have hdd : (asF w e1).1 = w.d := by
    unfold asF; split
    · split
      · split <;> rfl
      · rfl
    · rfl
  obtain ⟨G2, fp2, F2, K2, S2, r2⟩ := asF_ok S0 F Kp S J o
  rw [hdd] at r2
  refine ⟨G2, fp2, ?_, F2, K2, S2, r2⟩
  unfold itsF
  cases hw : w.d with
  | lst l => exact absurd hw (hd l)
  | _ => dsimp only; rw [hdd, hw]
end
end Ev
end
section
set_option linter.all false
set_option maxHeartbeats 1000000
namespace Ev
open PySem
section
variable {X : L2.Cx} {tg ex : Expr}
theorem pi_pick {u : L2.TI} (h : ∀ σ H R, Inj X.K H → u σ H R → ∃ t, L2.PI X tg ex t ∧ t σ H fun J H' => Inj X.K H' → R J H') : L2.PI X tg ex u := ⟨fun pins s σ H R I hu => by
  obtain ⟨t, p, q⟩ := h σ H R (Inj.of I) hu
  exact L2.thn (p.run pins s σ H _ I q) fun v s1 h1 => L2.thn h1 fun w s2 ⟨it, fp, tn, J, H', e, I', T, t0, f, r⟩ => ⟨it, fp, tn, J, H', e, I', T, t0, f, r (Inj.of I')⟩⟩
end
section
variable (P : Prm) (F : Nat → List Sl → CR) (T : Tb) (Gt : Nat → (Ls → R Vw) → Ls → R Vw) (th : Option (Ls × (Ls → R Vw)))
def TIs (it : It) : L2.TI := fun σ H R => ∃ e G fp, Sim P.K G H e σ fp ∧ Aft P it.tch σ e G H fp (evI F T Gt th it e) (fun (a : Itv) _ G' H' fp' (J : L2.It) => Feeds P.K J a.1 a.2 G' H' fp') R
end
section
variable {X : L2.Cx} {W : L2.WX} {adr : Nat → Addr} {fld : Nat → Str} {F : Nat → List Sl → CR} {T : Tb} {Gt : Nat → (Ls → R Vw) → Ls → R Vw} {th : Option (Ls × (Ls → R Vw))} {σ : L2.St} {H : Hp} {ea eb tg : Expr} {a b : Xp}
theorem evP_len {emb : Bool} : ∀ {xs : List Xp} {e e' : Ls} {ds : List D}, evP F T Gt th emb xs e = .ok ds e' → ds.length = xs.length
  | [], e, e', ds, h => by
    simp only [evP, R.ok.injEq] at h
    rw [← h.1]; rfl
  | x :: xs, e, e', ds, h => by
    simp only [evP] at h
    cases h1 : ev F T Gt th x e with
    | rs c y => rw [h1] at h; cases h
    | bad m => rw [h1] at h; cases h
    | ok w e1 =>
      rw [h1, R.bind_ok] at h
      have fin : ∀ (z : D) (e2 : Ls), ((evP F T Gt th emb xs e2).bind fun ds e => .ok (z :: ds) e) = .ok ds e' → ds.length = (x :: xs).length := fun z e2 h => by
        cases h2 : evP F T Gt th emb xs e2 with
        | rs c y => rw [h2] at h; cases h
        | bad m => rw [h2] at h; cases h
        | ok s2 e3 =>
          rw [h2, R.bind_ok] at h
          injection h with h h'
          rw [← h, List.length_cons, List.length_cons, evP_len h2]
      cases emb with
      | true => rw [if_pos rfl] at h; exact fin _ _ h
      | false =>
        rw [if_neg Bool.false_ne_true] at h
        split at h
        · cases h
        · exact fin _ _ h
theorem ListAt.feeds {K : PySem.W.Frag} {G : GSet} {H : Hp} {fp : FpT} {e : Ls} {p : Addr} {vs : List V} {ds : List D} {ls : List Nat} (S : Sim K G H e σ fp) (L : ListAt K G H fp p vs ds ls) : Feeds K (L2.Itl K p) ds ls G H fp := fun G' H' fp' ts F' hls k => by
  obtain ⟨h1, h2⟩ := L.later S F' hls k
  exact gives_sq (L2.SqL.of h1) h2
theorem pi_seqA (ha : L2.PE X ea (inj X.K (TEs ⟨X.K, W, adr, fld⟩ F T Gt th a))) : L2.PI X tg ea (TIs ⟨X.K, W, adr, fld⟩ F T Gt th (.seq a)) := pi_pick fun σ H Rr J hu2 => by
  obtain ⟨e, G, fp, S, h⟩ := hu2
  simp only [evI] at h
  have sbs : ∀ z, z ∈ a.tch → z ∈ It.tch (.seq a) := fun z hz => by simpa only [It.tch] using hz
  by_cases hl : ∃ w e1 l, ev F T Gt th a e = .ok w e1 ∧ w.d = .lst l
  · obtain ⟨w0, e0, l0, hr0, hd0⟩ := hl
    refine ⟨_, L2.pi_list ha, e, G, fp, S, Aft.first h sbs fun w e1 G1 H1 fp1 v hr Fr Kp S1 J1 o _ => ?_⟩
    rw [hr0] at hr; cases hr
    rw [hr0, R.bind_ok] at h
    obtain ⟨e2, G2, fp2, ls, p, vs, hi, F2, K2, S2, rfl, L⟩ := its_lst hd0 S Fr Kp S1 J1 o
    rw [hi] at h
    exact ⟨p, rfl, ⟨vs, L2.SqL.of L.h⟩, fun J' => h G2 H1 fp2 (L2.Itl X.K p) F2 (K2.mono sbs) S2 J' (L.feeds S2)⟩
  have nl : ∀ w e1, ev F T Gt th a e = .ok w e1 → ∀ l, w.d ≠ .lst l := fun w e1 hr l hd => hl ⟨w, e1, l, hr, hd⟩
  by_cases ht : ∃ w e1 l, ev F T Gt th a e = .ok w e1 ∧ w.d = .tup l
  · obtain ⟨w0, e0, l0, hr0, hd0⟩ := ht
    refine ⟨_, L2.pi_tup ha, e, G, fp, S, Aft.first h sbs fun w e1 G1 H1 fp1 v hr Fr Kp S1 J1 o _ => ?_⟩
    rw [hr0] at hr; cases hr
    rw [hr0, R.bind_ok] at h
    obtain ⟨G2, fp2, hi, F2, K2, S2, r⟩ := its_else (nl _ _ hr0) S Fr Kp S1 J1 o
    rw [hi, hd0] at h
    rw [hd0] at r
    cases r with
    | tup hs r =>
      exact ⟨_, rfl, ⟨_, hs⟩, fun J' => h G2 H1 fp2 (L2.Itt X.K _) F2 (K2.mono sbs) S2 J' fun G' H' fp' ts F' _ _ => gives_tup ((F'.stays S2).sqT hs) (r.keep F'.g (F'.stays S2) fun _ h => by cases h)⟩
  by_cases hs : ∃ w e1 l, ev F T Gt th a e = .ok w e1 ∧ w.d = .str l
  · obtain ⟨w0, e0, l0, hr0, hd0⟩ := hs
    refine ⟨_, L2.pi_str ha, e, G, fp, S, Aft.first h sbs fun w e1 G1 H1 fp1 v hr Fr Kp S1 J1 o _ => ?_⟩
    rw [hr0] at hr; cases hr
    rw [hr0, R.bind_ok] at h
    obtain ⟨G2, fp2, hi, F2, K2, S2, r⟩ := its_else (nl _ _ hr0) S Fr Kp S1 J1 o
    rw [hi, hd0] at h
    rw [hd0] at r
    cases r with
    | str hs => exact ⟨_, rfl, fun J' => h G2 H1 fp2 _ F2 (K2.mono sbs) S2 J' fun G' H' fp' ts F' _ _ => gives_str _⟩
  · refine ⟨_, L2.pi_list ha, e, G, fp, S, Aft.first h sbs fun w e1 G1 H1 fp1 v hr Fr Kp S1 J1 o _ => ?_⟩
    rw [hr, R.bind_ok] at h
    obtain ⟨G2, fp2, hi, F2, K2, S2, r⟩ := its_else (nl _ _ hr) S Fr Kp S1 J1 o
    rw [hi] at h
    cases hw : w.d with
    | lst l => exact absurd hw (nl _ _ hr l)
    | tup l => exact absurd ⟨w, e1, l, hr, hw⟩ ht
    | str l => exact absurd ⟨w, e1, l, hr, hw⟩ hs
    | scr ns =>
      rw [hw] at h r
      cases r with
      | scr hz =>
        refine ⟨_, rfl, ⟨_, hz.sq⟩, fun J' => h G2 H1 fp2 (L2.Itl X.K _) F2 (K2.mono sbs) S2 J' fun G' H' fp' ts F' _ _ => ?_⟩
        exact gives_sq ((F'.stays S2).fzS F'.g hz).sq (ints_reps ns)
    | dct ks vs => rw [hw] at h; exact h.elim
    | rng lo n => rw [hw] at r; cases r
    | non => rw [hw] at h; exact h.elim
    | bl _ => rw [hw] at h; exact h.elim
    | int _ => rw [hw] at h; exact h.elim
    | set _ => rw [hw] at h; exact h.elim
    | exc _ _ => rw [hw] at h; exact h.elim
theorem pi_rng1 (hg : L2.Gl X "range") (hm : X.mg "range" = none) {p pos : Pos} (hpa : L2.PA X [ea] (injA X.K (TPs ⟨X.K, W, adr, fld⟩ F T Gt th false [a]))) (hs : starEach [ea] X.env = [(false, eval ea X.env)]) : L2.PI X tg (.Call (.Name "range" p) [ea] [] pos) (TIs ⟨X.K, W, adr, fld⟩ F T Gt th (.range [a])) := pi_pick fun σ H Rr J hu2 => by
  obtain ⟨e, G, fp, S, h⟩ := hu2
  simp only [evI] at h
  refine ⟨_, L2.pi_range1 hg hm hpa hs, e, G, fp, S, Aft.first h (fun z hz => by simpa only [It.tch] using hz) fun ds e1 G1 H1 fp1 vs hr Fr Kp S1 J1 o _ => ?_⟩
  rw [hr, R.bind_ok] at h
  match ds, vs, o, h with
  | [], [], o, h => exact h.elim
  | [d], [v], .cons r .nil, h =>
    cases d with
    | int n =>
      cases r
      by_cases hb : -(2 ^ 62) ≤ n ∧ n < 2 ^ 62
      · simp only [rangeL, if_pos hb] at h
        exact ⟨n, rfl, hb.1, hb.2, fun J' => h G1 H1 fp1 (L2.Itr 0 n.toNat) Fr (Kp.mono fun z hz => by simpa only [It.tch] using hz) S1 J' fun G' H' fp' ts F' _ _ => gives_rng 0 n.toNat⟩
      · simp only [rangeL, if_neg hb] at h; exact h.elim
    | _ => exact h.elim
  | _ :: _ :: _, vs, o, h => exact absurd (evP_len hr) (by simp)
theorem pi_rng2 (hg : L2.Gl X "range") (hm : X.mg "range" = none) {p pos : Pos} (hpa : L2.PA X [ea, eb] (injA X.K (TPs ⟨X.K, W, adr, fld⟩ F T Gt th false [a, b]))) (hs : starEach [ea, eb] X.env = [(false, eval ea X.env), (false, eval eb X.env)]) (hs2 : starEach [eb] X.env = [(false, eval eb X.env)]) :
    L2.PI X tg (.Call (.Name "range" p) [ea, eb] [] pos) (TIs ⟨X.K, W, adr, fld⟩ F T Gt th (.range [a, b])) := pi_pick fun σ H Rr J hu2 => by
  obtain ⟨e, G, fp, S, h⟩ := hu2
  simp only [evI] at h
  refine ⟨_, L2.pi_range2 hg hm hpa hs hs2, e, G, fp, S, Aft.first h (fun z hz => by simpa only [It.tch] using hz) fun ds e1 G1 H1 fp1 vs hr Fr Kp S1 J1 o _ => ?_⟩
  rw [hr, R.bind_ok] at h
  match ds, vs, o, h with
  | [], _, o, h => exact h.elim
  | [_], _, o, h => exact absurd (evP_len hr) (by simp)
  | [d, d2], [v, w], .cons r (.cons r2 .nil), h =>
    cases d with
    | int n =>
      cases d2 with
      | int m =>
        cases r; cases r2
        by_cases hb : -(2 ^ 62) ≤ n ∧ n < 2 ^ 62 ∧ -(2 ^ 62) ≤ m ∧ m < 2 ^ 62
        · simp only [rangeL, if_pos hb] at h
          exact ⟨n, m, rfl, hb, fun J' => h G1 H1 fp1 (L2.Itr n (m - n).toNat) Fr (Kp.mono fun z hz => by simpa only [It.tch] using hz) S1 J' fun G' H' fp' ts F' _ _ => gives_rng n _⟩
        · simp only [rangeL, if_neg hb] at h; exact h.elim
      | _ => exact h.elim
    | _ => exact h.elim
  | _ :: _ :: _ :: _, vs, o, h => exact absurd (evP_len hr) (by simp)
theorem pi_enumA (hg : L2.Gl X "enumerate") (hm : X.mg "enumerate" = none) {p pos tpos : Pos} {elts : List Expr} {kk : Nat} (ha : L2.PE X ea (inj X.K (TEs ⟨X.K, W, adr, fld⟩ F T Gt th a))) (hs : starEach [ea] X.env = [(false, eval ea X.env)]) : L2.PI X (.Tuple elts kk tpos) (.Call (.Name "enumerate" p) [ea] [] pos) (TIs ⟨X.K, W, adr, fld⟩ F T Gt th (.enum a)) := pi_pick fun σ H Rr J hu2 => by
  obtain ⟨e, G, fp, S, h⟩ := hu2
  simp only [evI] at h
  have sbs : ∀ z, z ∈ a.tch → z ∈ It.tch (.enum a) := fun z hz => by simpa only [It.tch] using hz
  refine ⟨_, L2.pi_enum hg hm (L2.pa_cons ha L2.pa_nil hs) hs, e, G, fp, S, Aft.first h sbs fun w e1 G1 H1 fp1 v hr Fr Kp S1 J1 o _ => ?_⟩
  rw [hr, R.bind_ok] at h
  cases hd : w.d with
  | lst l =>
    obtain ⟨e2, G2, fp2, ls, p, vs, hi, F2, K2, S2, rfl, L⟩ := its_lst hd S Fr Kp S1 J1 o
    rw [hd] at h
    simp only [isLst, if_true, hi, R.bind_ok] at h
    refine ⟨p, vs, rfl, L2.SqL.of L.h, fun J' => h G2 H1 fp2 (L2.Ite X.K p) F2 (K2.mono sbs) S2 J' fun G' H' fp' ts F' hls k => ?_⟩
    obtain ⟨h1, h2⟩ := L.later S2 F' hls k
    exact gives_enum (L2.SqL.of h1) h2
  | _ => rw [hd] at h; simp only [isLst, Bool.false_eq_true, if_false] at h; exact h.elim
theorem pi_zipA2 (hg : L2.Gl X "zip") (hm : X.mg "zip" = none) {p pos tpos : Pos} {elts : List Expr} {kk : Nat} (ha : L2.PE X ea (inj X.K (TEs ⟨X.K, W, adr, fld⟩ F T Gt th a))) (hb : L2.PE X eb (inj X.K (TEs ⟨X.K, W, adr, fld⟩ F T Gt th b)))
    (hs1 : starEach [ea, eb] X.env = (false, eval ea X.env) :: starEach [eb] X.env) (hs : starEach [eb] X.env = (false, eval eb X.env) :: starEach [] X.env) (hpl : (backTo pos (starEach [eb] X.env)).any (·.1) = false) : L2.PI X (.Tuple elts kk tpos) (.Call (.Name "zip" p) [ea, eb] [] pos) (TIs ⟨X.K, W, adr, fld⟩ F T Gt th (.zip a b)) := pi_pick fun σ H Rr J hu2 => by
  obtain ⟨e, G, fp, S, h⟩ := hu2
  simp only [evI] at h
  have sbs : ∀ z, z ∈ a.tch → z ∈ It.tch (.zip a b) := fun z hz => by simp only [It.tch]; exact List.mem_append_left _ hz
  refine ⟨_, L2.pi_zip hg hm (L2.pa_cons ha (L2.pa_cons hb L2.pa_nil hs) hs1) hs1 hpl, e, G, fp, S, Aft.first h sbs fun w e1 G1 H1 fp1 v hr Fr Kp S1 J1 o _ => ?_⟩
  rw [hr, R.bind_ok] at h
  cases hd : w.d with
  | lst l =>
    obtain ⟨e2, G2, fp2, ls, p, vs, hi, F2, K2, S2, rfl, L⟩ := its_lst hd S Fr Kp S1 J1 o
    rw [hd] at h
    simp only [isLst, if_true, hi, R.bind_ok] at h
    by_cases hc : ls.any b.tch.contains = true
    · rw [if_pos hc] at h; exact h.elim
    rw [if_neg hc] at h
    have hc' : ∀ i ∈ ls, i ∉ b.tch := fun i hi z => hc (List.any_eq_true.mpr ⟨i, hi, by simpa using z⟩)
    have hs2 := Aft.shift (ts1 := a.tch) (ts2 := b.tch) h (fun z hz => by simpa only [It.tch] using hz) S F2 K2 fun _ _ _ _ _ _ o _ => o
    refine ⟨e2, G2, fp2, S2, Aft.first hs2 (fun _ hz => hz) fun u e3 G3 H3 fp3 v3 hr3 F3 K3 S3 J3 o3 _ => ?_⟩
    rw [hr3, R.bind_ok] at h
    cases hd3 : u.d with
    | lst m =>
      obtain ⟨e4, G4, fp4, ls4, p4, vs4, hi4, F4, K4, S4, rfl, L4⟩ := its_lst hd3 S2 F3 K3 S3 J3 o3
      rw [hd3] at h
      simp only [isLst, if_true, hi4, R.bind_ok] at h
      obtain ⟨q1, q2⟩ := L.later S2 F4 hc' K4.h
      refine ⟨p, p4, vs, vs4, rfl, L2.SqL.of q1, L2.SqL.of L4.h, fun J' => h G4 H3 fp4 (L2.Itz X.K p p4) (F2.trans S F4) ((Keep.trans S F2 K2 F4 K4).mono fun z hz => by simpa only [It.tch] using hz) S4 J' fun G' H' fp' ts F' hls k => ?_⟩
      obtain ⟨z1, z2⟩ := L4.later S4 F' (fun i hi => hls i (List.mem_append_right _ hi)) k
      have kk := KeepH.trans S2 F4 K4.h F' k
      obtain ⟨y1, y2⟩ := L.later S2 (F4.trans S2 F') (fun i hi z => by
        rcases List.mem_append.mp z with z | z
        · exact hc' i hi z
        · exact hls i (List.mem_append_left _ hi) z) kk
      exact gives_zip (L2.SqL.of y1) y2 (L2.SqL.of z1) z2
    | _ => rw [hd3] at h; simp only [isLst, Bool.false_eq_true, if_false] at h; exact h.elim
  | _ => rw [hd] at h; simp only [isLst, Bool.false_eq_true, if_false] at h; exact h.elim
end
end Ev
end
section
set_option linter.all false
set_option maxHeartbeats 1000000
namespace Ev
open PySem
mutual
def gOf (K : PySem.W.Frag) : Tg → L2.TG
  | .v i _ => L2.gName i
  | .tup ts => L2.gTup K ts.length (gsOf K ts)
def gsOf (K : PySem.W.Frag) : List Tg → L2.TGs
  | [] => L2.gNil
  | t :: ts => L2.gCons (gOf K t) (gsOf K ts)
end
section
variable {K : PySem.W.Frag} {G : GSet} {H : Hp} {σ : L2.St}
mutual
theorem gOf_imp : ∀ (t : Tg) {v : V} {σ : L2.St} {H : Hp} {Q Q' : L2.St → Hp → Prop}, gOf K t v σ H Q → (∀ σ H, Q σ H → Q' σ H) → gOf K t v σ H Q'
  | .v i n, v, σ, H, Q, Q', h, k => by simp only [gOf] at h ⊢; exact k _ _ h
  | .tup ts, v, σ, H, Q, Q', h, k => by
    simp only [gOf] at h ⊢
    obtain ⟨a, xs, e, hs, hl, h⟩ := h
    exact ⟨a, xs, e, hs, hl, gsOf_imp ts h k⟩
theorem gsOf_imp : ∀ (ts : List Tg) {vs : List V} {σ : L2.St} {H : Hp} {Q Q' : L2.St → Hp → Prop}, gsOf K ts vs σ H Q → (∀ σ H, Q σ H → Q' σ H) → gsOf K ts vs σ H Q'
  | [], vs, σ, H, Q, Q', h, k => by simp only [gsOf] at h ⊢; exact ⟨h.1, k _ _ h.2⟩
  | t :: ts, vs, σ, H, Q, Q', h, k => by
    simp only [gsOf] at h ⊢
    obtain ⟨v, r, e, h⟩ := h
    exact ⟨v, r, e, gOf_imp t h fun σ' H' h' => gsOf_imp ts h' k⟩
end
/-- behind a store -/
structure Put (K : PySem.W.Frag) (sl : List Nat) (fx : List Addr) (G : GSet) (H : Hp) (e : Ls) (σ : L2.St) (fp : FpT) (e' : Ls) (G' : GSet) (σ' : L2.St) (fp' : FpT) : Prop where
  s : Sim K G' H e' σ' fp'
  g : ∀ a, G a → G' a
  gn : ∀ a, G' a → G a ∨ a ∈ fx
  fn : ∀ i a, a ∈ fp' i → a ∈ fp i ∨ a ∈ fx
  k : ∀ i, i ∉ sl → fp' i = fp i ∧ e'.at i = e.at i ∧ σ'[i]? = σ[i]?
theorem at_lt {e : Ls} {i : Nat} {k : Nat} {d : D} (h : i < e.length) : (e.put i k d).at i = some ⟨k, d⟩ := by
  unfold Ls.at Ls.put
  rw [List.getElem?_set_self h] <;> rfl
theorem Sim.set {e : Ls} {fp : FpT} {k n : Nat} {d : D} {v : V} {fx : List Addr} {i : Nat} (S : Sim K G H e σ fp) (hi : i < e.length) (hn : n ≤ k) (r : Rep K G H k d v fx) (nd : fx.Nodup) (hx : ∀ a ∈ fx, (∀ j, a ∉ fp j) ∧ ¬ G a) :
    ∃ G' fp', Put K [i] fx G H e σ fp (e.put i n d) G' (σ.set i (some v)) fp' := by
  obtain ⟨fx', sb, hr⟩ := r.lower nd hn
  have m : ∀ a, a ∈ fx.filter (fun a => decide (a ∉ fx')) ↔ a ∈ fx ∧ a ∉ fx' := fun a => by simp [List.mem_filter]
  refine ⟨fun a => G a ∨ a ∈ fx.filter fun a => decide (a ∉ fx'), fun j => if j = i then fx' else fp j, ⟨?_, fun j s hs => ?_, fun j hj => ?_, fun j => ?_, fun j j2 a h1 h2 => ?_, fun j a h1 h2 => ?_, fun a h => ?_⟩, fun a g => .inl g, fun a g => g.imp id fun z => ((m a).mp z).1, fun j a h => ?_, fun j hj => ?_⟩
  · simp [Ls.put, S.len]
  · by_cases q : j = i
    · subst q
      rw [at_lt hi] at hs; cases hs
      refine ⟨v, ?_, ?_⟩
      · rw [List.getElem?_set_self (by rw [← S.len]; exact hi)]
      · rw [if_pos rfl]
        exact hr _ (fun a g => .inl g) fun a ha na => .inr ((m a).mpr ⟨ha, na⟩)
    · rw [at_put_ne q] at hs
      obtain ⟨w, hw, rw'⟩ := S.rep j s hs
      refine ⟨w, by rw [List.getElem?_set_ne (Ne.symm q)]; exact hw, ?_⟩
      rw [if_neg q]
      exact rw'.keep (fun a g => .inl g) .refl fun _ _ => rfl
  · by_cases q : j = i
    · subst q; rw [at_lt hi] at hj; cases hj
    · rw [at_put_ne q] at hj; rw [if_neg q]; exact S.nil j hj
  · by_cases q : j = i
    · rw [if_pos q]; exact sb.nodup nd
    · rw [if_neg q]; exact S.nd j
  · by_cases q : j = i
    · by_cases q2 : j2 = i
      · rw [q, q2]
      · rw [if_pos q] at h1; rw [if_neg q2] at h2
        exact absurd h2 ((hx a (sb.subset h1)).1 j2)
    · by_cases q2 : j2 = i
      · rw [if_neg q] at h1; rw [if_pos q2] at h2
        exact absurd h1 ((hx a (sb.subset h2)).1 j)
      · rw [if_neg q] at h1; rw [if_neg q2] at h2
        exact S.dj j j2 a h1 h2
  · by_cases q : j = i
    · rw [if_pos q] at h1
      rcases h2 with h2 | h2
      · exact (hx a (sb.subset h1)).2 h2
      · exact ((m a).mp h2).2 h1
    · rw [if_neg q] at h1
      rcases h2 with h2 | h2
      · exact S.ng j a h1 h2
      · exact (hx a ((m a).mp h2).1).1 j h1
  · rcases h with h | h
    · exact S.gs a h
    · exact r.there a ((m a).mp h).1
  · by_cases q : j = i
    · rw [if_pos q] at h; exact .inr (sb.subset h)
    · rw [if_neg q] at h; exact .inl h
  · have q : j ≠ i := fun z => hj (by simp [z])
    exact ⟨if_neg q, at_put_ne q, by rw [List.getElem?_set_ne (Ne.symm q)]⟩
theorem puts_len : ∀ (ts : List Tg) {k : Nat} {ds : List D} {ls : List Nat} {e e' : Ls}, Tg.puts ts k ds ls e = some e' → ds.length = ts.length
  | [], k, [], ls, e, e', h => rfl
  | [], k, _ :: _, ls, e, e', h => by simp [Tg.puts] at h
  | _ :: _, k, [], ls, e, e', h => by simp [Tg.puts] at h
  | t :: ts, k, d :: ds, ls, e, e', h => by
    simp only [Tg.puts, Option.bind_eq_some_iff] at h
    obtain ⟨e1, h1, h2⟩ := h
    simp [puts_len ts h2]
mutual
theorem tg_put : ∀ (t : Tg) {e e' : Ls} {G : GSet} {σ : L2.St} {fp : FpT} {k : Nat} {d : D} {v : V} {fx : List Addr} {ls : List Nat}, t.put k d ls e = some e' → Sim K G H e σ fp → Rep K G H k d v fx → fx.Nodup → (∀ a ∈ fx, (∀ j, a ∉ fp j) ∧ ¬ G a) →
    gOf K t v σ H fun σ' H' => H' = H ∧ ∃ G' fp', Put K t.slots fx G H e σ fp e' G' σ' fp'
  | .v i n, e, e', G, σ, fp, k, d, v, fx, ls, h, S, r, nd, hx => by
    simp only [Tg.put] at h
    split at h
    · cases h
    · rename_i hc
      cases h
      have hi : i < e.length := by
        simp only [Bool.or_eq_true, not_or, Bool.not_eq_true', Bool.not_eq_false', decide_eq_true_eq] at hc
        simpa using hc.2
      simp only [gOf]
      obtain ⟨G', fp', p⟩ := S.set hi (Nat.min_le_left k n) r nd hx
      exact ⟨rfl, G', fp', by simpa only [Tg.slots] using p⟩
  | .tup ts, e, e', G, σ, fp, k, d, v, fx, ls, h, S, r, nd, hx => by
    cases r with
    | tup hs rs =>
      simp only [Tg.put] at h
      simp only [gOf]
      obtain ⟨hl, z⟩ := tg_puts ts h S rs nd hx
      exact ⟨_, _, rfl, hs, hl, gsOf_imp ts z fun σ' H' ⟨e1, G', fp', p⟩ => ⟨e1, G', fp', by simpa only [Tg.slots] using p⟩⟩
    | non => simp [Tg.put] at h
    | bl => simp [Tg.put] at h
    | int => simp [Tg.put] at h
    | str _ => simp [Tg.put] at h
    | lstF _ _ => simp [Tg.put] at h
    | lstO _ _ => simp [Tg.put] at h
    | dctF _ _ _ _ _ => simp [Tg.put] at h
    | dctO _ _ _ _ => simp [Tg.put] at h
    | scr _ => simp [Tg.put] at h
    | exc _ _ _ _ _ _ _ => simp [Tg.put] at h
theorem tg_puts : ∀ (ts : List Tg) {e e' : Ls} {G : GSet} {σ : L2.St} {fp : FpT} {k : Nat} {ds : List D} {vs : List V} {fx : List Addr} {ls : List Nat}, Tg.puts ts k ds ls e = some e' → Sim K G H e σ fp → Reps K G H k ds vs fx → fx.Nodup → (∀ a ∈ fx, (∀ j, a ∉ fp j) ∧ ¬ G a) →
    vs.length = ts.length ∧ gsOf K ts vs σ H fun σ' H' => H' = H ∧ ∃ G' fp', Put K (Tg.slotss ts) fx G H e σ fp e' G' σ' fp'
  | [], e, e', G, σ, fp, k, [], vs, fx, ls, h, S, r, nd, hx => by
    simp only [Tg.puts, Option.some.injEq] at h
    subst h
    cases r
    simp only [gsOf]
    exact ⟨rfl, rfl, rfl, G, fp, S, fun _ g => g, fun _ g => .inl g, fun _ _ h => .inl h, fun _ _ => ⟨rfl, rfl, rfl⟩⟩
  | [], e, e', G, σ, fp, k, _ :: _, vs, fx, ls, h, S, r, nd, hx => by simp [Tg.puts] at h
  | _ :: _, e, e', G, σ, fp, k, [], vs, fx, ls, h, S, r, nd, hx => by simp [Tg.puts] at h
  | t :: ts, e, e', G, σ, fp, k, d :: ds, _, _, ls, h, S, .cons (v := v) (vs := vs) (fp := f1) (fps := f2) r rs, nd, hx => by
    simp only [Tg.puts, Option.bind_eq_some_iff] at h
    obtain ⟨e1, h1, h2⟩ := h
    obtain ⟨n1, n2, n3⟩ := List.nodup_append.mp nd
    have z := tg_put t h1 S r n1 fun a ha => hx a (List.mem_append_left _ ha)
    have hlen : vs.length = ts.length := by
      have := puts_len ts h2
      rw [← this]; exact rs.length.symm
    refine ⟨by simp [hlen], ?_⟩
    simp only [gsOf]
    refine ⟨v, vs, rfl, gOf_imp t z fun σ1 H1 ⟨eH, G1, fp1, p1⟩ => ?_⟩
    rw [eH]
    have rs1 : Reps K G1 H k ds vs f2 := rs.keep p1.g .refl fun _ _ => rfl
    have hx1 : ∀ a ∈ f2, (∀ j, a ∉ fp1 j) ∧ ¬ G1 a := fun a ha => by
      have ha' := hx a (List.mem_append_right _ ha)
      refine ⟨fun j hj => ?_, fun g => ?_⟩
      · rcases p1.fn j a hj with q | q
        · exact ha'.1 j q
        · exact n3 a q a ha rfl
      · rcases p1.gn a g with q | q
        · exact ha'.2 q
        · exact n3 a q a ha rfl
    refine gsOf_imp ts (tg_puts ts h2 p1.s rs1 n2 hx1).2 fun σ2 H2 ⟨eH2, G2, fp2, p2⟩ => ⟨eH2, G2, fp2, p2.s, fun a g => p2.g a (p1.g a g), fun a g => ?_, fun i a h => ?_, fun i hi => ?_⟩
    · rcases p2.gn a g with q | q
      · rcases p1.gn a q with q | q
        · exact .inl q
        · exact .inr (List.mem_append_left _ q)
      · exact .inr (List.mem_append_right _ q)
    · rcases p2.fn i a h with q | q
      · rcases p1.fn i a q with q | q
        · exact .inl q
        · exact .inr (List.mem_append_left _ q)
      · exact .inr (List.mem_append_right _ q)
    · simp only [Tg.slotss, List.mem_append, not_or] at hi
      obtain ⟨a1, a2, a3⟩ := p1.k i hi.1
      obtain ⟨b1, b2, b3⟩ := p2.k i hi.2
      exact ⟨b1.trans a1, b2.trans a2, b3.trans a3⟩
end
end
end Ev
end
section
set_option linter.all false
set_option maxHeartbeats 1000000
namespace Ev
open PySem
/-! slots forgotten and brought back -/
theorem wipe_at (σ : L2.St) : ∀ (vs : List Nat) (i : Nat), i ∉ vs → (L2.wipe σ vs)[i]? = σ[i]?
  | [], _, _ => rfl
  | v :: vs, i, h => by
    unfold L2.wipe
    rw [List.getElem?_set_ne (fun e => h (by simp [e])), wipe_at σ vs i fun z => h (List.mem_cons_of_mem _ z)]
theorem wipe_in (σ : L2.St) : ∀ (vs : List Nat) (i : Nat), i ∈ vs → (L2.wipe σ vs)[i]? = if i < σ.length then some none else none
  | v :: vs, i, h => by
    unfold L2.wipe
    by_cases e : v = i
    · subst e
      by_cases hl : v < σ.length
      · rw [List.getElem?_set_self (by rw [L2.wipe_length]; exact hl), if_pos hl]
      · rw [List.getElem?_eq_none (by rw [List.length_set, L2.wipe_length]; omega), if_neg hl]
    · rw [List.getElem?_set_ne e]
      rcases List.mem_cons.mp h with q | q
      · exact absurd q.symm e
      · exact wipe_in σ vs i q
theorem wipe_eq {σ σ' : L2.St} {vs : List Nat} (hl : σ.length = σ'.length) (h : ∀ i, i ∉ vs → σ[i]? = σ'[i]?) : L2.wipe σ vs = L2.wipe σ' vs := by
  apply List.ext_getElem?
  intro i
  by_cases q : i ∈ vs
  · rw [wipe_in _ _ _ q, wipe_in _ _ _ q, hl]
  · rw [wipe_at _ _ _ q, wipe_at _ _ _ q, h i q]
theorem wipeE_len (e : Ls) : ∀ vs, (wipeE e vs).length = e.length
  | [] => rfl
  | v :: vs => by unfold wipeE; rw [List.length_set, wipeE_len e vs]
theorem wipeE_at (e : Ls) : ∀ (vs : List Nat) (i : Nat), i ∉ vs → (wipeE e vs).at i = e.at i
  | [], _, _ => rfl
  | v :: vs, i, h => by
    have ih := wipeE_at e vs i fun z => h (List.mem_cons_of_mem _ z)
    unfold Ls.at at ih ⊢
    unfold wipeE
    rw [List.getElem?_set_ne (fun q => h (by simp [q])), ih]
theorem wipeE_in (e : Ls) : ∀ (vs : List Nat) (i : Nat), i ∈ vs → (wipeE e vs).at i = none
  | v :: vs, i, h => by
    unfold Ls.at wipeE
    by_cases q : v = i
    · subst q
      by_cases hl : v < (wipeE e vs).length
      · rw [List.getElem?_set_self hl]; rfl
      · rw [List.getElem?_eq_none (by rw [List.length_set]; omega)]; rfl
    · rw [List.getElem?_set_ne q]
      rcases List.mem_cons.mp h with z | z
      · exact absurd z.symm q
      · have := wipeE_in e vs i z
        unfold Ls.at at this
        exact this
theorem backE_len (o e : Ls) : ∀ vs, (backE o e vs).length = e.length
  | [] => rfl
  | v :: vs => by unfold backE; rw [List.length_set, backE_len o e vs]
theorem backE_at (o e : Ls) : ∀ (vs : List Nat) (i : Nat), i ∉ vs → (backE o e vs).at i = e.at i
  | [], _, _ => rfl
  | v :: vs, i, h => by
    have ih := backE_at o e vs i fun z => h (List.mem_cons_of_mem _ z)
    unfold Ls.at at ih ⊢
    unfold backE
    rw [List.getElem?_set_ne (fun q => h (by simp [q])), ih]
theorem backE_in (o e : Ls) (hl : o.length = e.length) : ∀ (vs : List Nat) (i : Nat), i ∈ vs → (backE o e vs).at i = o.at i
  | v :: vs, i, h => by
    by_cases q : v = i
    · subst q
      unfold Ls.at backE
      by_cases hv : v < (backE o e vs).length
      · rw [List.getElem?_set_self hv]; rfl
      · rw [List.getElem?_eq_none (by rw [List.length_set]; omega)]
        rw [backE_len] at hv
        rw [List.getElem?_eq_none (by omega)]
    · have ih : i ∈ vs := by
        rcases List.mem_cons.mp h with z | z
        · exact absurd z.symm q
        · exact z
      have := backE_in o e hl vs i ih
      unfold Ls.at at this ⊢
      unfold backE
      rw [List.getElem?_set_ne q]
      exact this
def wipeF (fp : FpT) (own : List Nat) : FpT := fun i => if i ∈ own then [] else fp i
theorem wipeF_in {fp : FpT} {own : List Nat} {i : Nat} (h : i ∈ own) : wipeF fp own i = [] := if_pos h
theorem wipeF_out {fp : FpT} {own : List Nat} {i : Nat} (h : i ∉ own) : wipeF fp own i = fp i := if_neg h
theorem wipeF_sub {fp : FpT} {own : List Nat} {i : Nat} {a : Addr} (h : a ∈ wipeF fp own i) : a ∈ fp i ∧ i ∉ own := by
  by_cases q : i ∈ own
  · rw [wipeF_in q] at h; cases h
  · rw [wipeF_out q] at h; exact ⟨h, q⟩
section
variable {K : PySem.W.Frag} {G G' : GSet} {H H' : Hp} {e e' : Ls} {σ : L2.St} {fp fp' : FpT} {own : List Nat}
theorem Sim.wipe (S : Sim K G H e σ fp) (own : List Nat) : Sim K G H (wipeE e own) (L2.wipe σ own) (wipeF fp own) := by
  refine ⟨by rw [wipeE_len, L2.wipe_length, S.len], fun i s hs => ?_, fun i hi => ?_, fun i => ?_, fun i j a h1 h2 => S.dj i j a (wipeF_sub h1).1 (wipeF_sub h2).1, fun i a h => S.ng i a (wipeF_sub h).1, S.gs⟩
  · by_cases q : i ∈ own
    · rw [wipeE_in _ _ _ q] at hs; cases hs
    · rw [wipeE_at _ _ _ q] at hs
      rw [wipe_at _ _ _ q, wipeF_out q]
      exact S.rep i s hs
  · by_cases q : i ∈ own
    · exact wipeF_in q
    · rw [wipeE_at _ _ _ q] at hi; rw [wipeF_out q]; exact S.nil i hi
  · by_cases q : i ∈ own
    · rw [wipeF_in q]; exact List.nodup_nil
    · rw [wipeF_out q]; exact S.nd i
theorem Frm.unwipe (F : Frm G H (wipeF fp own) G' H' fp') : Frm G H fp G' H' fp' where
  g := F.g
  gn := fun a g => by
    rcases F.gn a g with q | ⟨i, q⟩ | q
    · exact .inl q
    · exact .inr (.inl ⟨i, (wipeF_sub q).1⟩)
    · exact .inr (.inr q)
  st := fun a o h hn => F.st a o h fun i hi => hn i (wipeF_sub hi).1
  fn := fun i a h => (F.fn i a h).imp (fun q => (wipeF_sub q).1) id
  al := F.al
def backF (fp fp' : FpT) (own : List Nat) : FpT := fun i => if i ∈ own then fp i else fp' i
theorem backF_in {i : Nat} (h : i ∈ own) : backF fp fp' own i = fp i := if_pos h
theorem backF_out {i : Nat} (h : i ∉ own) : backF fp fp' own i = fp' i := if_neg h
/-- the forgotten slots are brought back -/
theorem Sim.back (S : Sim K G H e σ fp) (F : Frm G H (wipeF fp own) G' H' fp') (S' : Sim K G' H' (wipeE e' own) (L2.wipe σ own) fp') : Sim K G' H' (backE e e' own) σ (backF fp fp' own) ∧ Frm G H fp G' H' (backF fp fp' own) := by
  have hl : e.length = e'.length := by
    have := S'.len
    rw [wipeE_len, L2.wipe_length] at this
    rw [S.len, this]
  have hid : ∀ i ∈ own, ∀ a ∈ fp i, H' a = H a := fun i hi a ha => by
    obtain ⟨o, ho, hm⟩ := S.there ha
    rw [ho]
    refine F.st a o ho (fun j hj => ?_) (mut_tbl hm)
    obtain ⟨q1, q2⟩ := wipeF_sub hj
    exact q2 (S.dj i j a ha q1 ▸ hi)
  have hno : ∀ i ∈ own, ∀ a ∈ fp i, ∀ j, j ∉ own → a ∉ fp' j := fun i hi a ha j hj q => by
    rcases F.fn j a q with z | z
    · exact hj (S.dj i j a ha (wipeF_sub z).1 ▸ hi)
    · obtain ⟨o, ho, _⟩ := S.there ha
      rw [ho] at z; cases z
  have F2 := F.unwipe
  refine ⟨⟨by rw [backE_len, ← hl, S.len], fun i s hs => ?_, fun i hi => ?_, fun i => ?_, fun i j a h1 h2 => ?_, fun i a h g => ?_, S'.gs⟩, ⟨F2.g, F2.gn, F2.st, fun i a h => ?_, F2.al⟩⟩
  · by_cases q : i ∈ own
    · rw [backE_in _ _ hl _ _ q] at hs
      obtain ⟨v, hv, r⟩ := S.rep i s hs
      rw [backF_in q]
      exact ⟨v, hv, r.keep F2.g (F2.stays S) (hid i q)⟩
    · rw [backE_at _ _ _ _ q] at hs
      obtain ⟨v, hv, r⟩ := S'.rep i s (by rw [wipeE_at _ _ _ q]; exact hs)
      rw [wipe_at _ _ _ q] at hv
      rw [backF_out q]
      exact ⟨v, hv, r⟩
  · by_cases q : i ∈ own
    · rw [backE_in _ _ hl _ _ q] at hi; rw [backF_in q]; exact S.nil i hi
    · rw [backE_at _ _ _ _ q] at hi; rw [backF_out q]
      exact S'.nil i (by rw [wipeE_at _ _ _ q]; exact hi)
  · by_cases q : i ∈ own
    · rw [backF_in q]; exact S.nd i
    · rw [backF_out q]; exact S'.nd i
  · by_cases q : i ∈ own
    · rw [backF_in q] at h1
      by_cases q2 : j ∈ own
      · rw [backF_in q2] at h2; exact S.dj i j a h1 h2
      · rw [backF_out q2] at h2; exact absurd h2 (hno i q a h1 j q2)
    · rw [backF_out q] at h1
      by_cases q2 : j ∈ own
      · rw [backF_in q2] at h2; exact absurd h1 (hno j q2 a h2 i q)
      · rw [backF_out q2] at h2; exact S'.dj i j a h1 h2
  · by_cases q : i ∈ own
    · rw [backF_in q] at h
      obtain ⟨o, ho, _⟩ := S.there h
      rcases F.gn a g with z | ⟨j, z⟩ | z
      · exact S.ng i a h z
      · obtain ⟨z1, z2⟩ := wipeF_sub z
        exact z2 (S.dj i j a h z1 ▸ q)
      · rw [ho] at z; cases z
    · rw [backF_out q] at h; exact S'.ng i a h g
  · by_cases q : i ∈ own
    · rw [backF_in q] at h; exact .inl h
    · rw [backF_out q] at h; exact F2.fn i a h
/-- a store of what is frozen -/
theorem Put.frm {sl : List Nat} {σ' : L2.St} (p : Put K sl [] G H e σ fp e' G' σ' fp') : Frm G H fp G' H fp' where
  g := p.g
  gn := fun a g => by
    rcases p.gn a g with q | q
    · exact .inl q
    · cases q
  st := fun _ _ h _ _ => h
  fn := fun i a h => by
    rcases p.fn i a h with q | q
    · exact .inl q
    · cases q
  al := fun _ h => h
theorem Own.later {ss : List Sl} {vs : List V} {fx : List Addr} (S : Sim K G H e σ fp) (ow : Own K G H ss vs fx) (hx : ∀ a ∈ fx, ∀ i, a ∉ fp i) (F : Frm G H fp G' H' fp') : Own K G' H' ss vs fx := by
  induction ow with
  | nil => exact .nil
  | cons r os ih =>
    refine .cons (r.keep F.g (F.stays S) fun a ha => ?_) (ih fun a ha => hx a (List.mem_append_right _ ha))
    obtain ⟨o, ho, hm⟩ := r.there a ha
    rw [ho]
    exact F.st a o ho (hx a (List.mem_append_left _ ha)) (mut_tbl hm)
theorem Own.snoc : ∀ {ss : List Sl} {vs : List V} {fx : List Addr}, Own K G H ss vs fx → ∀ {s v fy}, Rep K G H s.k s.d v fy → Own K G H (ss ++ [s]) (vs ++ [v]) (fx ++ fy)
  | _, _, _, .nil, s, v, fy, r => by simpa using Own.cons r .nil
  | _, _, _, .cons r os, s, v, fy, r2 => by rw [List.append_assoc]; exact .cons r (Own.snoc os r2)
end
end Ev
end
section
set_option linter.all false
set_option maxHeartbeats 1000000
namespace Ev
open PySem
mutual
theorem put_len : ∀ (t : Tg) {k : Nat} {d : D} {ls : List Nat} {e e' : Ls}, t.put k d ls e = some e' → e'.length = e.length
  | .v i n, k, d, ls, e, e', h => by
    simp only [Tg.put] at h
    split at h
    · cases h
    · cases h; simp [Ls.put]
  | .tup ts, k, d, ls, e, e', h => by
    simp only [Tg.put] at h
    split at h
    · exact puts_len2 ts h
    · cases h
theorem puts_len2 : ∀ (ts : List Tg) {k : Nat} {ds : List D} {ls : List Nat} {e e' : Ls}, Tg.puts ts k ds ls e = some e' → e'.length = e.length
  | [], k, [], ls, e, e', h => by simp only [Tg.puts, Option.some.injEq] at h; rw [h]
  | [], k, _ :: _, ls, e, e', h => by simp [Tg.puts] at h
  | _ :: _, k, [], ls, e, e', h => by simp [Tg.puts] at h
  | t :: ts, k, d :: ds, ls, e, e', h => by
    simp only [Tg.puts, Option.bind_eq_some_iff] at h
    obtain ⟨e1, h1, h2⟩ := h
    rw [puts_len2 ts h2, put_len t h1]
end
theorem noRs_ok {α : Type} {r : R α} {a : α} {e : Ls} (h : noRs r = .ok a e) : r = .ok a e := by
  cases r with
  | ok b f => exact h
  | rs c x => cases h
  | bad m => cases h
theorem bind_ok_inv {α β : Type} {r : R α} {f : α → Ls → R β} {b : β} {e : Ls} (h : r.bind f = .ok b e) : ∃ a e1, r = .ok a e1 ∧ f a e1 = .ok b e := by
  cases r with
  | ok a e1 => exact ⟨a, e1, rfl, h⟩
  | rs c x => cases h
  | bad m => cases h
/-- the ground of a block: no exception leaves it -/
def Prm.blk (P : Prm) : Prm := ⟨P.K, fun _ _ _ _ => False, P.adr, P.fld⟩
section
variable {P : Prm} {F : Nat → List Sl → CR} {T : Tb} {Gt : Nat → (Ls → R Vw) → Ls → R Vw} {th : Option (Ls × (Ls → R Vw))} {σ : L2.St} {H : Hp} {G : GSet} {fp : FpT} {e : Ls}
def tTs (P : Prm) (F : Nat → List Sl → CR) (T : Tb) (Gt : Nat → (Ls → R Vw) → Ls → R Vw) (th : Option (Ls × (Ls → R Vw))) : List Xp → L2.TT
  | [] => L2.tYes
  | c :: _ => TTs P F T Gt th c
theorem tests_ok {cs : List Xp} {t : Bool} {e2 : Ls} {Q : Bool → Hp → Prop} (hl : cs.length ≤ 1) (S : Sim P.K G H e σ fp) (h : evTs F T Gt th cs e = .ok t e2)
    (k : ∀ H3 G3 fp3, Frm G H fp G3 H3 fp3 → Keep (Xp.tchs cs) e H fp e2 H3 → Sim P.K G3 H3 e2 σ fp3 → Q t H3) : tTs P F T Gt th cs σ H Q := by
  match cs, hl with
  | [], _ =>
    simp only [evTs, R.ok.injEq] at h
    obtain ⟨rfl, rfl⟩ := h
    exact k H G fp (Frm.refl S) .refl S
  | [c], _ =>
    have eq : evTs F T Gt th [c] e = evT F T Gt th c e := by
      simp only [evTs, evT]
      congr 1
      funext v e
      cases truth v.d with
      | none => rfl
      | some b => cases b <;> rfl
    rw [eq] at h
    refine ⟨e, G, fp, S, ?_⟩
    rw [h]
    intro G1 H1 fp1 v Fr Kp S1 J1 o
    subst o
    exact k H1 G1 fp1 Fr (Kp.mono fun i hi => by simpa only [Xp.tchs, List.append_nil] using hi) S1
theorem elt_ok {el : Xp} {s : Sl} {e2 : Ls} {Q : V → Hp → Prop} (S : Sim P.K G H e σ fp) (h : ((ev F T Gt th el e).bind fun v e => R.ok (asO v e).1 (asO v e).2) = .ok s e2)
    (k : ∀ y H3 G3 fp3 fy, Frm G H fp G3 H3 fp3 → Keep el.tch e H fp e2 H3 → Sim P.K G3 H3 e2 σ fp3 → Rep P.K G3 H3 s.k s.d y fy → fy.Nodup → (∀ a ∈ fy, H a = none ∧ (∀ i, a ∉ fp3 i) ∧ ¬ G3 a) → Q y H3) : inj P.K (TEs P F T Gt th el) σ H Q := by
  obtain ⟨w, e1, h1, h2⟩ := bind_ok_inv h
  refine ⟨e, G, fp, S, ?_⟩
  rw [h1]
  intro G1 H1 fp1 v Fr Kp S1 J1 o _
  obtain ⟨G2, fp2, fx, F2, K2, S2, r2, nd, hx⟩ := asO_ok S Fr Kp S1 J1 o
  injection h2 with h3 h4
  subst h3 h4
  exact k v H1 G2 fp2 fx F2 K2 S2 r2 nd hx
end
/-- where a comprehension stands -/
def CI (K : PySem.W.Frag) (own : List Nat) (e0 : Ls) (σ : L2.St) (G1 : GSet) (H1 : Hp) (fp1 : FpT) (ts : List Nat) (p : Addr) (i : Nat) (eb : Ls) (acc : List Sl) (Hn : Hp) : Prop :=
  ∃ Gb fpb vs fx, Frm G1 H1 (wipeF fp1 own) Gb Hn fpb ∧ Keep ts (wipeE e0 own) H1 (wipeF fp1 own) (wipeE eb own) Hn ∧ Sim K Gb Hn (wipeE eb own) (L2.wipe σ own) fpb ∧ Apart Gb Hn fpb p ∧ Hn p = some (.lst vs) ∧ Own K Gb Hn acc.reverse vs fx ∧ fx.Nodup ∧
    (∀ a ∈ fx, H1 a = none ∧ (∀ i, a ∉ fpb i) ∧ ¬ Gb a ∧ a ≠ p) ∧ acc.length ≤ i
theorem Frm.wipeR {G G' : GSet} {H H' : Hp} {fp fp' : FpT} (F : Frm G H fp G' H' fp') (own : List Nat) : Frm G H fp G' H' (wipeF fp' own) := ⟨F.g, F.gn, F.st, fun i a h => F.fn i a (wipeF_sub h).1, F.al⟩
section
variable {K : PySem.W.Frag} {G G1 Gb : GSet} {H H1 Hn H' : Hp} {e0 eb e1 : Ls} {σ σ2 : L2.St} {fp fp1 fpb : FpT} {own ts : List Nat} {p : Addr} {acc : List Sl} {i : Nat}
theorem wipe_wipe : L2.wipe (L2.wipe σ own) own = L2.wipe σ own := wipe_eq (L2.wipe_length _ _) fun i hi => wipe_at σ own i hi
theorem CI.start (S : Sim K G1 H1 e0 σ fp1) (hp : H1 p = none) : CI K own e0 σ G1 H1 fp1 ts p 0 e0 [] (L2.upd H1 p (.lst [])) := by
  have Sw := S.wipe own
  have A := Apart.of_none Sw hp
  exact ⟨G1, wipeF fp1 own, [], [], (Frm.refl Sw).upd hp, Keep.upd Sw .refl hp, Sw.upd A, A.upd trivial, L2.upd_same, .nil, List.nodup_nil, (fun a h => by cases h), Nat.le_refl _⟩
/-- a turn -/
theorem CI.turn {P : Prm} {F : Nat → List Sl → CR} {T : Tb} {Gt : Nat → (Ls → R Vw) → Ls → R Vw} {th : Option (Ls × (Ls → R Vw))} {t : Tg} {cs : List Xp} {el : Xp} {x : V} {d : D} {b : Bool} {e2 : Ls} {Nx : Hp → Prop}
    (S1 : Sim P.K G1 H1 e0 σ fp1) (hp : H1 p = none) (hlen : cs.length ≤ 1) (hsl : t.slots.all own.contains = true) (hi : i ≤ 1000000) (hts : ∀ j, (j ∈ own ∨ j ∈ Xp.tchs cs ∨ j ∈ el.tch) → j ∈ ts)
    (c : CI P.K own e0 σ G1 H1 fp1 ts p i eb acc Hn) (ext : ∀ a u, Hn a = some u → H' a = some u)
    (rdx : ∀ Gb fpb, Frm G1 H1 (wipeF fp1 own) Gb Hn fpb → Keep ts (wipeE e0 own) H1 (wipeF fp1 own) (wipeE eb own) Hn → Rep P.K Gb H' 0 d x [])
    (hput : t.put 0 d [] (wipeE eb own) = some e1) (htest : evTs F T Gt th cs e1 = .ok b e2)
    (hno : b = false → ∀ Hm, CI P.K own e0 σ G1 H1 fp1 ts p (i + 1) e2 acc Hm → Nx Hm)
    (hyes : b = true → ∃ s e3, ((ev F T Gt th el e2).bind fun v e => R.ok (asO v e).1 (asO v e).2) = .ok s e3 ∧ ∀ Hm, CI P.K own e0 σ G1 H1 fp1 ts p (i + 1) e3 (s :: acc) Hm → Nx Hm) :
    gOf P.K t x (L2.wipe σ own) H' fun σ2 H2 => L2.wipe σ2 own = L2.wipe σ own ∧ tTs P F T Gt th cs σ2 H2 fun b H3 => if b = true then inj P.K (TEs P F T Gt th el) σ2 H3 fun y H4 => ∃ vs, H4 p = some (.lst vs) ∧ vs.length < sizeLine ∧ Nx (L2.upd H4 p (.lst (vs ++ [y]))) else Nx H3 := by
  obtain ⟨Gb, fpb, vs, fx, F0, K0, S0, A0, hv, ow, nd, hx, hacc⟩ := c
  have Sw := S1.wipe own
  have rd0 := rdx Gb fpb F0 K0
  obtain ⟨S2, F2, K2⟩ := S0.ext ext
  have z := tg_put t hput S2 rd0 List.nodup_nil fun a h => by cases h
  have nz : Hn p ≠ none := by rw [hv]; simp
  refine gOf_imp t z fun σ2 Hx ⟨eH, G3, fp3, pu⟩ => ?_
  rw [eH]
  have hw : L2.wipe σ2 own = L2.wipe σ own := by
    rw [← wipe_wipe (σ := σ)]
    refine wipe_eq ?_ fun j hj => (pu.k j fun z => hj ?_).2.2
    · rw [← pu.s.len, put_len t hput, S0.len]
    · have := List.all_eq_true.mp hsl j z
      simpa using this
  refine ⟨hw, ?_⟩
  -- from Hn to here
  have N3 := F2.trans S0 pu.frm
  have B3 := F0.trans Sw N3
  have KP : Keep ts (wipeE eb own) H' fpb e1 H' := ⟨fun _ _ _ _ => rfl, fun j hj => .inl (pu.k j fun z => hj (hts j (.inl (by simpa using List.all_eq_true.mp hsl j z)))).2.1⟩
  have BK3 := (Keep.trans Sw (F0.trans Sw F2) (Keep.trans Sw F0 K0 F2 K2) pu.frm KP).mono (ts := ts) (by simp)
  refine tests_ok hlen pu.s htest fun H4 G4 fp4 F4 K4 S4 => ?_
  have N4 := N3.trans S0 F4
  have B4 := B3.trans Sw F4
  have BK4 := (Keep.trans Sw B3 BK3 F4 K4).mono (ts := ts) (fun j hj => by
    rcases List.mem_append.mp hj with q | q
    · exact q
    · exact hts j (.inr (.inl q)))
  have pres : ∀ a ∈ fx, Hn a ≠ none := fun a ha => by
    obtain ⟨o, ho, _⟩ := ow.there a ha
    rw [ho]; simp
  -- what stands behind Frames from Hn
  have away : ∀ {G5 H5 fp5}, Frm Gb Hn fpb G5 H5 fp5 → ∀ a ∈ fx, H1 a = none ∧ (∀ i, a ∉ fp5 i) ∧ ¬ G5 a ∧ a ≠ p := fun F5 a ha => by
    obtain ⟨x1, x2, x3, x4⟩ := hx a ha
    refine ⟨x1, fun j hj => ?_, fun g => ?_, x4⟩
    · rcases F5.fn j a hj with q | q
      · exact x2 j q
      · exact pres a ha q
    · rcases F5.gn a g with q | ⟨j, q⟩ | q
      · exact x3 q
      · exact x2 j q
      · exact pres a ha q
  have keepW : ∀ {e5 H5}, Keep ts (wipeE e0 own) H1 (wipeF fp1 own) e5 H5 → Keep ts (wipeE e0 own) H1 (wipeF fp1 own) (wipeE e5 own) H5 := fun k => ⟨k.h, fun j hj => by rw [wipeE_at _ own j fun z => hj (hts j (.inl z))]; exact k.d j hj⟩
  cases b with
  | false =>
    rw [if_neg Bool.false_ne_true]
    have A4 := A0.later nz N4
    refine hno rfl H4 ⟨G4, wipeF fp4 own, vs, fx, B4.wipeR own, keepW BK4, by rw [← hw]; exact S4.wipe own, ⟨fun j hj => A4.fp j (wipeF_sub hj).1, A4.g, A4.m⟩, N4.st p _ hv A0.fp (fun ps => by simp), ow.later S0 (fun a ha => (hx a ha).2.1) N4, nd, fun a ha => ?_, Nat.le_succ_of_le hacc⟩
    obtain ⟨x1, x2, x3, x4⟩ := away N4 a ha
    exact ⟨x1, fun j hj => x2 j (wipeF_sub hj).1, x3, x4⟩
  | true =>
    rw [if_pos rfl]
    obtain ⟨s, e3, hel, hfin⟩ := hyes rfl
    refine elt_ok S4 hel fun y H5 G5 fp5 fy F5 K5 S5 ry ndy hy => ?_
    have N5 := N4.trans S0 F5
    have B5 := B4.trans Sw F5
    have BK5 := (Keep.trans Sw B4 BK4 F5 K5).mono (ts := ts) (fun j hj => by
      rcases List.mem_append.mp hj with q | q
      · exact q
      · exact hts j (.inr (.inr q)))
    have A5 := A0.later nz N5
    have A5' : Apart G5 H5 (wipeF fp5 own) p := ⟨fun j hj => A5.fp j (wipeF_sub hj).1, A5.g, A5.m⟩
    have h4p : H4 p ≠ none := N4.al p nz
    have pfy : p ∉ fy := fun z => h4p (hy p z).1
    have pfx : p ∉ fx := fun z => (hx p z).2.2.2 rfl
    have ow5 := (ow.later S0 (fun a ha => (hx a ha).2.1) N5).snoc ry
    have hlen : acc.length = vs.length := by have := ow.length; simpa using this
    refine ⟨vs, N5.st p _ hv A0.fp (fun ps => by simp), ?_, hfin _ ⟨G5, wipeF fp5 own, vs ++ [y], fx ++ fy, (B5.wipeR own).upd hp, Keep.upd Sw (keepW BK5) hp, ?_, A5'.upd trivial, L2.upd_same, ?_, ?_, fun a ha => ?_, by simp; omega⟩⟩
    · have := big_line
      have h6 : sizeLine ≠ 1000000 := by rw [sizeLine_eq]; decide
      omega
    · rw [← hw]; exact (S5.wipe own).upd A5'
    · rw [List.reverse_cons]
      exact Own.upd A5' ow5 fun z => by
        rcases List.mem_append.mp z with z | z
        · exact pfx z
        · exact pfy z
    · refine List.nodup_append.mpr ⟨nd, ndy, fun a ha c hc e => ?_⟩
      subst e
      exact N4.al a (pres a ha) (hy a hc).1
    · rcases List.mem_append.mp ha with q | q
      · obtain ⟨x1, x2, x3, x4⟩ := away N5 a q
        exact ⟨x1, fun j hj => x2 j (wipeF_sub hj).1, x3, x4⟩
      · obtain ⟨x1, x2, x3⟩ := hy a q
        exact ⟨B4.none x1, fun j hj => x2 j (wipeF_sub hj).1, x3, fun z => pfy (z ▸ q)⟩
end
end Ev
end
section
set_option linter.all false
set_option maxHeartbeats 1000000
namespace Ev
open PySem
theorem compL_no {test : Ls → R Bool} {elt : Ls → R Sl} {put : D → Ls → Option Ls} : ∀ (ds : List D) (acc : List Sl) (e : Ls) (c : Nat) (x : D), compL test elt put ds acc e ≠ .rs c x
  | [], acc, e, c, x => by simp [compL]
  | d :: r, acc, e, c, x => by
    simp only [compL]
    cases put d e with
    | none => simp
    | some e1 =>
      dsimp only
      cases h1 : noRs (test e1) with
      | rs c' x' => cases hz : test e1 <;> rw [hz] at h1 <;> cases h1
      | bad m => simp [R.bind]
      | ok t e2 =>
        rw [R.bind_ok]
        cases t with
        | false => simpa using compL_no r acc e2 c x
        | true =>
          simp only [if_true]
          cases h2 : noRs (elt e2) with
          | rs c' x' => cases hz : elt e2 <;> rw [hz] at h2 <;> cases h2
          | bad m => simp [R.bind]
          | ok s e3 => rw [R.bind_ok]; exact compL_no r _ e3 c x
section
variable {P : Prm} {F : Nat → List Sl → CR} {T : Tb} {Gt : Nat → (Ls → R Vw) → Ls → R Vw} {th : Option (Ls × (Ls → R Vw))} {σ : L2.St} {H : Hp}
theorem te_comp {Q : V → Hp → Prop} {own : List Nat} {t : Tg} {it : It} {cs : List Xp} {el : Xp} (hlen : cs.length ≤ 1) (h : TEs P F T Gt th (.comp own t it cs el) σ H Q) :
    L2.tLc (TIs P F T Gt th it) (gOf P.K t) (tTs P.blk F T Gt th cs) (inj P.K (TEs P.blk F T Gt th el)) own σ H fun v H' => Inj P.K H' → Q v H' := by
  obtain ⟨e, G, fp, S, h⟩ := h
  simp only [ev] at h
  refine ⟨e, G, fp, S, Aft.first h (fun z hz => by
    simp only [Xp.tch]
    exact List.mem_append_left _ (List.mem_append_left _ (List.mem_append_right _ hz))) fun ds e0 G1 H1 fp1 J hr Fr Kp S1 J1 feeds => ?_⟩
  rw [hr, R.bind_ok] at h
  by_cases hc : (ds.2.any (own ++ Xp.tchs cs ++ el.tch).contains || !okLen ds.1.length || !t.slots.all own.contains) = true
  · rw [if_pos hc] at h; exact h.elim
  rw [if_neg hc] at h
  simp only [Bool.or_eq_true, not_or, Bool.not_eq_true', Bool.not_eq_false'] at hc
  obtain ⟨⟨hlk, hok⟩, hsl⟩ := hc
  have hok : ds.1.length ≤ 1000000 := okL (by simpa using hok)
  have hsl : t.slots.all own.contains = true := by simpa using hsl
  have hlk : ∀ i ∈ ds.2, i ∉ own ++ Xp.tchs cs ++ el.tch := fun i hi z => hlk (List.any_eq_true.mpr ⟨i, hi, by simpa using z⟩)
  intro p hp
  have Sw := S1.wipe own
  cases hq : compL (fun e => evTs F T Gt th cs e) (fun e => (ev F T Gt th el e).bind fun v e => R.ok (asO v e).1 (asO v e).2) (fun d e => t.put 0 d [] (wipeE e own)) ds.1 [] e0 with
  | bad m => rw [hq] at h; exact h.elim
  | rs c x => exact absurd hq (compL_no _ _ _ _ _)
  | ok xs ef =>
    rw [hq, R.bind_ok] at h
    let ts := own ++ Xp.tchs cs ++ el.tch
    have hts : ∀ j, (j ∈ own ∨ j ∈ Xp.tchs cs ∨ j ∈ el.tch) → j ∈ ts := fun j hj => by
      rcases hj with q | q | q
      · exact List.mem_append_left _ (List.mem_append_left _ q)
      · exact List.mem_append_left _ (List.mem_append_right _ q)
      · exact List.mem_append_right _ q
    refine ⟨fun i m Hn => m = ds.1.length - i ∧ i ≤ ds.1.length ∧ ∃ eb acc, compL (fun e => evTs F T Gt th cs e) (fun e => (ev F T Gt th el e).bind fun v e => R.ok (asO v e).1 (asO v e).2) (fun d e => t.put 0 d [] (wipeE e own)) (ds.1.drop i) acc eb = .ok xs ef ∧ CI P.K own e0 σ G1 H1 fp1 ts p i eb acc Hn,
      ⟨_, rfl, Nat.zero_le _, e0, [], by simpa using hq, .start S1 hp⟩, fun i m Hn ⟨hm, hi, eb, acc, hcl, c⟩ => ?_⟩
    have hc0 := c
    obtain ⟨Gb, fpb, vs, fx, F0, K0, S0, A0, hv, ow, nd, hx, hacc⟩ := c
    have kk : KeepH ts H1 fp1 Hn := fun j hj a ha => K0.h j hj a (by rw [wipeF_out fun z => hj (hts j (.inl z))]; exact ha)
    have gv := feeds Gb Hn fpb ts F0.unwipe (fun j hj => hlk j hj) kk
    by_cases hend : i = ds.1.length
    · refine .inl ⟨by rw [hend]; exact gv.stop, fun J' => ?_⟩
      have hcl' : acc.reverse = xs ∧ eb = ef := by
        rw [hend, List.drop_length] at hcl
        simpa [compL] using hcl
      obtain ⟨rfl, rfl⟩ := hcl'
      obtain ⟨Sb, Fb⟩ := S1.back F0 S0
      have Kb : Keep ts e0 H1 fp1 (backE e0 eb own) Hn := ⟨kk, fun j hj => by
        have jo : j ∉ own := fun z => hj (hts j (.inl z))
        rw [backE_at _ _ _ _ jo]
        have := K0.d j hj
        rwa [wipeE_at _ _ _ jo, wipeE_at _ _ _ jo] at this⟩
      have ek : min capK (minK acc.reverse + 1) = min 8 (minK acc.reverse) + 1 := by unfold capK; omega
      obtain ⟨fx', sb, hr'⟩ := ow.reps (fun _ _ h => h) nd (n := min 8 (minK acc.reverse)) fun s hs => Nat.le_trans (Nat.min_le_right _ _) (minK_le s hs)
      have m' : ∀ a, a ∈ fx.filter (fun a => decide (a ∉ fx')) ↔ a ∈ fx ∧ a ∉ fx' := fun a => by simp [List.mem_filter]
      have hnb : ∀ a, H1 a = none → Hn a ≠ none → (∀ i, a ∉ fpb i) → ∀ j, a ∉ backF fp1 fpb own j := fun a h1 _ h3 j z => by
        by_cases q : j ∈ own
        · rw [backF_in q] at z
          obtain ⟨o, ho, _⟩ := S1.there z
          rw [h1] at ho; cases ho
        · rw [backF_out q] at z; exact h3 j z
      have S4 := Sb.moreG (fx := fx.filter fun a => decide (a ∉ fx')) (fun a ha i => by
        have ha' := ((m' a).mp ha).1
        obtain ⟨o, ho, _⟩ := ow.there a ha'
        exact hnb a (hx a ha').1 (by rw [ho]; simp) (hx a ha').2.1 i) fun a ha => ow.there a ((m' a).mp ha).1
      have F2 := Fr.trans S Fb
      have pf : p ∉ fx := fun z => (hx p z).2.2.2 rfl
      refine h _ Hn _ (.ref p) ?_ ((Keep.trans S Fr Kp Fb Kb).mono fun j hj => ?_) S4 J' ?_
      · refine ⟨fun a g => .inl (F2.g a g), fun a g => ?_, F2.st, F2.fn, F2.al⟩
        rcases g with g | g
        · exact F2.gn a g
        · exact .inr (.inr (Fr.none (hx a ((m' a).mp g).1).1))
      · simp only [Xp.tch]
        rcases List.mem_append.mp hj with q | q
        · exact List.mem_append_left _ (List.mem_append_left _ (List.mem_append_right _ q))
        · rcases List.mem_append.mp q with q | q
          · rcases List.mem_append.mp q with q | q
            · exact List.mem_append_left _ (List.mem_append_left _ (List.mem_append_left _ q))
            · exact List.mem_append_left _ (List.mem_append_right _ q)
          · exact List.mem_append_right _ q
      · show ∃ fx, Rep P.K _ _ (if D.atom (.lst (acc.reverse.map (·.d))) then capK else min capK (minK acc.reverse + 1)) (.lst (acc.reverse.map (·.d))) (.ref p) fx ∧ fx.Nodup ∧ _
        rw [show D.atom (.lst (acc.reverse.map (·.d))) = false from rfl, if_neg Bool.false_ne_true, ek]
        refine ⟨p :: fx', .lstO hv (hr' _ (fun a g => .inl g) fun a ha na => .inr ((m' a).mpr ⟨ha, na⟩)), List.nodup_cons.mpr ⟨fun z => pf (sb.subset z), sb.nodup nd⟩, fun a ha => ?_⟩
        rcases List.mem_cons.mp ha with q | q
        · subst q
          refine ⟨Fr.none hp, hnb a hp (by rw [hv]; simp) A0.fp, fun g => ?_⟩
          rcases g with g | g
          · exact A0.g g
          · exact pf ((m' a).mp g).1
        · have q' := sb.subset q
          obtain ⟨o, ho, _⟩ := ow.there a q'
          refine ⟨Fr.none (hx a q').1, hnb a (hx a q').1 (by rw [ho]; simp) (hx a q').2.1, fun g => ?_⟩
          rcases g with g | g
          · exact (hx a q').2.2.1 g
          · exact ((m' a).mp g).2 q
    · have hlt : i < ds.1.length := by omega
      refine .inr ⟨gv.go i hlt, fun Hm => ∃ m', m' < m ∧ m' = ds.1.length - (i + 1) ∧ i + 1 ≤ ds.1.length ∧ ∃ eb acc, compL (fun e => evTs F T Gt th cs e) (fun e => (ev F T Gt th el e).bind fun v e => R.ok (asO v e).1 (asO v e).2) (fun d e => t.put 0 d [] (wipeE e own)) (ds.1.drop (i + 1)) acc eb = .ok xs ef ∧ CI P.K own e0 σ G1 H1 fp1 ts p (i + 1) eb acc Hm,
        fun Hm z => z, fun x H' hy => ?_⟩
      obtain ⟨ext, d, hd, _⟩ := gv.yld i x H' hlt hy
      have hdrop : ds.1.drop i = d :: ds.1.drop (i + 1) := by
        rw [List.drop_eq_getElem_cons hlt]
        have := List.getElem?_eq_getElem hlt
        rw [hd] at this
        injection this with this
        rw [← this]
      rw [hdrop] at hcl
      simp only [compL] at hcl
      cases hput : t.put 0 d [] (wipeE eb own) with
      | none => rw [hput] at hcl; cases hcl
      | some e1 =>
        rw [hput] at hcl
        dsimp only at hcl
        obtain ⟨b, e2, ht, hcl2⟩ := bind_ok_inv hcl
        refine CI.turn (P := P.blk) S1 hp hlen hsl (Nat.le_trans hi hok) hts hc0 ext (fun Gb' fpb' F0' K0' => ?_) hput (noRs_ok ht) (fun hb Hm cm => ?_) fun hb => ?_
        · have kk' : KeepH ts H1 fp1 Hn := fun j hj a ha => K0'.h j hj a (by rw [wipeF_out fun z => hj (hts j (.inl z))]; exact ha)
          obtain ⟨_, d', hd', r'⟩ := (feeds Gb' Hn fpb' ts F0'.unwipe (fun j hj => hlk j hj) kk').yld i x H' hlt hy
          rw [hd] at hd'; cases hd'
          exact r'
        · subst hb
          rw [if_neg Bool.false_ne_true] at hcl2
          exact ⟨_, by omega, rfl, by omega, e2, acc, hcl2, cm⟩
        · subst hb
          rw [if_pos rfl] at hcl2
          obtain ⟨s, e3, hs, hcl3⟩ := bind_ok_inv hcl2
          exact ⟨s, e3, noRs_ok hs, fun Hm cm => ⟨_, by omega, rfl, by omega, e3, s :: acc, hcl3, cm⟩⟩
end
end Ev
end
section
set_option linter.all false
set_option maxHeartbeats 1000000
namespace Ev
open PySem
section
variable {K : PySem.W.Frag} {G G' : GSet} {H : Hp}
mutual
/-- what is owned is the value's own -/
theorem Rep.uniq (J : Inj K H) : ∀ {k d v fx}, Rep K G H k d v fx → ∀ {fy}, Rep K G' H k d v fy → fx = fy
  | _, _, _, _, .non, _, r => by cases r; rfl
  | _, _, _, _, .bl, _, r => by cases r; rfl
  | _, _, _, _, .int, _, r => by cases r; rfl
  | _, _, _, _, .str _, _, r => by cases r; rfl
  | _, _, _, _, .scr _, _, r => by cases r; rfl
  | _, _, _, _, .exc _ _ _ _ _ _ q, _, r => by
    cases r with
    | exc _ _ _ _ _ _ q2 => exact (Rep.zero q rfl).trans (Rep.zero q2 rfl).symm
  | _, _, _, _, .tup h rs, _, r => by
    cases r with
    | tup h2 rs2 =>
      have e := J.t _ _ _ h h2
      subst e
      exact Reps.uniq J rs rs2
  | _, _, _, _, .lstF h rs, _, r => by
    cases r with
    | lstF h2 rs2 => exact (Reps.zero rs rfl).trans (Reps.zero rs2 rfl).symm
  | _, _, _, _, .lstO h rs, _, r => by
    cases r with
    | lstO h2 rs2 =>
      rw [h] at h2; cases h2
      rw [Reps.uniq J rs rs2]
  | _, _, _, _, .dctF _ _ _ _ rs, _, r => by
    cases r with
    | dctF _ _ _ _ rs2 => exact (Reps.zero rs rfl).trans (Reps.zero rs2 rfl).symm
  | _, _, _, _, .dctO h _ _ rs, _, r => by
    cases r with
    | dctO h2 _ _ rs2 =>
      rw [h] at h2; cases h2
      rw [Reps.uniq J rs rs2]
theorem Reps.uniq (J : Inj K H) : ∀ {k ds vs fx}, Reps K G H k ds vs fx → ∀ {fy}, Reps K G' H k ds vs fy → fx = fy
  | _, _, _, _, .nil, _, r => by cases r; rfl
  | _, _, _, _, .cons r rs, _, r2 => by
    cases r2 with
    | cons r3 rs3 => rw [Rep.uniq J r r3, Reps.uniq J rs rs3]
end
mutual
/-- what is frozen now was -/
theorem Rep.froz (J : Inj K H) : ∀ {k d v fx}, Rep K G H k d v fx → ∀ {fy}, Rep K G' H 0 d v fy → ∀ a ∈ fx, G' a
  | _, _, _, _, .non, _, r, a, h => by cases h
  | _, _, _, _, .bl, _, r, a, h => by cases h
  | _, _, _, _, .int, _, r, a, h => by cases h
  | _, _, _, _, .str _, _, r, a, h => by cases h
  | _, _, _, _, .scr _, _, r, a, h => by cases h
  | _, _, _, _, .exc _ _ _ _ _ _ q, _, r, a, h => by rw [Rep.zero q rfl] at h; cases h
  | _, _, _, _, .tup h rs, _, r, a, ha => by
    cases r with
    | tup h2 rs2 =>
      have e := J.t _ _ _ h h2
      subst e
      exact Reps.froz J rs rs2 a ha
  | _, _, _, _, .lstF h rs, _, r, a, ha => by
    rw [Reps.zero rs rfl] at ha; cases ha
  | _, _, _, _, .lstO h rs, _, r, a, ha => by
    cases r with
    | lstF h2 rs2 =>
      cases h2 with
      | fz h3 g =>
        rw [h] at h3; cases h3
        rcases List.mem_cons.mp ha with q | q
        · rw [q]; exact g
        · exact Reps.froz J rs rs2 a q
  | _, _, _, _, .dctF _ _ _ _ rs, _, r, a, ha => by
    rw [Reps.zero rs rfl] at ha; cases ha
  | _, _, _, _, .dctO h _ _ rs, _, r, a, ha => by
    cases r with
    | dctF h2 g _ _ rs2 =>
      rw [h] at h2; cases h2
      rcases List.mem_cons.mp ha with q | q
      · rw [q]; exact g
      · exact Reps.froz J rs rs2 a q
theorem Reps.froz (J : Inj K H) : ∀ {k ds vs fx}, Reps K G H k ds vs fx → ∀ {fy}, Reps K G' H 0 ds vs fy → ∀ a ∈ fx, G' a
  | _, _, _, _, .nil, _, r, a, h => by cases h
  | _, _, _, _, .cons r rs, _, r2, a, ha => by
    cases r2 with
    | cons r3 rs3 =>
      rcases List.mem_append.mp ha with q | q
      · exact Rep.froz J r r3 a q
      · exact Reps.froz J rs rs3 a q
end
/-- a slot that isn't touched keeps what it owns, or is frozen -/
theorem Keep.own {e e' : Ls} {H' : Hp} {fp fp' : FpT} {σ : L2.St} {ts : List Nat} {i : Nat} (S : Sim K G H e σ fp) (F : Frm G H fp G' H' fp') (k : Keep ts e H fp e' H') (S' : Sim K G' H' e' σ fp') (J' : Inj K H') (hi : i ∉ ts) : ∀ a ∈ fp i, a ∈ fp' i ∨ G' a := fun a ha => by
  cases q : e.at i with
  | none => rw [S.nil i q] at ha; cases ha
  | some s =>
    obtain ⟨v, hv, r⟩ := S.rep i s q
    have r' := r.keep F.g (F.stays S) (k.h i hi)
    rcases k.d i hi with z | ⟨s2, z1, z2⟩
    · obtain ⟨v2, hv2, r2⟩ := S'.rep i s (z.trans q)
      rw [hv] at hv2; cases hv2
      rw [Rep.uniq J' r' r2] at ha
      exact .inl ha
    · rw [q] at z1; cases z1
      obtain ⟨v2, hv2, r2⟩ := S'.rep i _ z2
      rw [hv] at hv2; cases hv2
      exact .inr (Rep.froz J' r' r2 a ha)
end
theorem look_ok2 {K : PySem.W.Frag} {G1 : GSet} {H0 H1 : Hp} {e1 : Ls} {fp1 : FpT} {σ : L2.St} {w : Vw} {v : V} (S : Sim K G1 H1 e1 σ fp1) (J : Inj K H1) (o : VwOk K H0 σ w e1 G1 H1 fp1 v) :
    ∃ k fx, Rep K G1 H1 k w.d v fx ∧ fx.Nodup ∧ ∀ a ∈ fx, (∃ i, w.on e1 = some i ∧ a ∈ fp1 i) ∨ (H0 a = none ∧ (∀ i, a ∉ fp1 i) ∧ ¬ G1 a) := by
  cases q : w.src with
  | none =>
    unfold VwOk at o
    rw [q] at o
    obtain ⟨fx, r, nd, hx⟩ := o
    exact ⟨w.k, fx, r, nd, fun a h => .inr (hx a h)⟩
  | some ip =>
    obtain ⟨k, fx, r, hx⟩ := look_ok S J o
    unfold VwOk at o
    rw [q] at o
    obtain ⟨s, v0, h1, h2, h3⟩ := o
    obtain ⟨fx2, r2, sb⟩ := S.view J h1 h2 h3
    refine ⟨_, fx2, r2, sb.nodup (S.nd _), fun a h => .inl ⟨ip.1, ?_, sb.subset h⟩⟩
    unfold Vw.on
    rw [q]
    dsimp only
    refine if_pos ?_
    simp only [Bool.and_eq_true, Bool.not_eq_true', decide_eq_true_eq]
    constructor
    · cases ha : w.d.atom with
      | true => rw [(atom_fp ha r2).1] at h; cases h
      | false => rfl
    · refine Nat.pos_of_ne_zero fun z => ?_
      rw [z] at r2
      rw [r2.zero rfl] at h; cases h
/-- arguments at hand -/
inductive ArgL (ls : List Nat) (K : PySem.W.Frag) (H0 : Hp) (σ : L2.St) (G : GSet) (H : Hp) (fp : FpT) : List (Option Nat) → List (D × Option Nat) → List V → Prop
  | nil : ArgL ls K H0 σ G H fp [] [] []
  | val {l xs vs d on v k fx} : Rep K G H k d v fx → fx.Nodup → (∀ i, on = some i → i ∉ ls) → (∀ a ∈ fx, (∃ i, on = some i ∧ a ∈ fp i) ∨ G a ∨ (H0 a = none ∧ ∀ i, a ∉ fp i)) → ArgL ls K H0 σ G H fp l xs vs → ArgL ls K H0 σ G H fp (none :: l) ((d, on) :: xs) (v :: vs)
  | lend {l xs vs x i v} : σ[i]? = some (some v) → ArgL ls K H0 σ G H fp l xs vs → ArgL ls K H0 σ G H fp (some i :: l) ((x, none) :: xs) (v :: vs)
theorem ArgL.older {ls : List Nat} {K : PySem.W.Frag} {H0 H00 : Hp} {σ : L2.St} {G : GSet} {H : Hp} {fp : FpT} (old : ∀ a, H0 a = none → H00 a = none) : ∀ {l xs vs}, ArgL ls K H0 σ G H fp l xs vs → ArgL ls K H00 σ G H fp l xs vs
  | _, _, _, .nil => .nil
  | _, _, _, .val r nd no h t => .val r nd no (fun a ha => (h a ha).imp id fun q => q.imp id fun q => ⟨old a q.1, q.2⟩) (ArgL.older old t)
  | _, _, _, .lend h t => .lend h (ArgL.older old t)
section
variable {P : Prm} {F : Nat → List Sl → CR} {T : Tb} {Gt : Nat → (Ls → R Vw) → Ls → R Vw} {th : Option (Ls × (Ls → R Vw))} {σ : L2.St} {H : Hp}
def tArgs (K : PySem.W.Frag) (t : Xp → L2.TE) : List Xp → List (Option Nat) → L2.TA
  | x :: es, none :: l => L2.tCons (inj K (t x)) (tArgs K t es l)
  | _ :: es, some i :: l => L2.tCons (L2.tVar i) (tArgs K t es l)
  | _, _ => L2.tNil
/-- lent names stand in their places -/
def lendsOk : List Xp → List (Option Nat) → Bool
  | [], [] => true
  | _ :: es, none :: l => lendsOk es l
  | .c .non :: es, some _ :: l => lendsOk es l
  | _, _ => false
theorem targs_of {ls : List Nat} : ∀ {es : List Xp} {l : List (Option Nat)} {H : Hp} {Q : List V → Hp → Prop}, lendsOk es l = true → (∀ i, some i ∈ l → ∃ v, σ[i]? = some (some v)) → Inj P.K H →
    (∃ e G fp, Sim P.K G H e σ fp ∧ Aft P (Xp.tchs es) σ e G H fp (evA F T Gt th ls es e) (fun xs _ G' H' fp' vs => ArgL ls P.K H σ G' H' fp' l xs vs) Q) → tArgs P.K (TEs P F T Gt th) es l σ H Q
  | [], [], H, Q, _, _, J, ⟨e, G, fp, S, h⟩ => by
    simp only [evA] at h
    exact h G H fp [] (Frm.refl S) .refl S J .nil
  | [], _ :: _, H, Q, hl, _, _, _ => by cases hl
  | x :: es, [], H, Q, hl, _, _, _ => by cases x <;> cases hl
  | x :: es, none :: l, H, Q, hl, hσ, J, ⟨e, G, fp, S, h⟩ => by
    simp only [evA] at h
    have hl' : lendsOk es l = true := by cases x <;> exact hl
    refine ⟨e, G, fp, S, Aft.first h (fun i hi => by simp only [Xp.tchs]; exact List.mem_append_left _ hi) fun w e1 G1 H1 fp1 v hr Fr Kp S1 J1 o _ => ?_⟩
    rw [hr, R.bind_ok] at h
    by_cases hc : clash (w.on e1) (ls ++ Xp.tchs es) = true
    · rw [if_pos hc] at h; exact h.elim
    rw [if_neg hc] at h
    have hc' := (clash_l hc).2
    obtain ⟨k, fx, r, ndx, hx⟩ := look_ok2 S1 J1 o
    have g := Aft.shift (ts1 := x.tch) (ts2 := Xp.tchs es) h (fun i hi => by simpa only [Xp.tchs] using hi) S Fr Kp fun _ _ _ _ _ _ o _ => o
    refine targs_of hl' (fun i hi => hσ i (List.mem_cons_of_mem _ hi)) J1 ⟨e1, G1, fp1, S1, Aft.first g (fun _ hi => hi) fun xs e2 G2 H2 fp2 vs hr2 F2 K2 S2 J2 o2 => ?_⟩
    rw [hr2, R.bind_ok] at h
    have kr := r.later S1 (fun a ha => (hx a ha).imp id fun q => q.2) F2 K2.h hc'
    refine h G2 H2 fp2 (v :: vs) (Fr.trans S F2) ((Keep.trans S Fr Kp F2 K2).mono fun i hi => by simpa only [Xp.tchs] using hi) S2 J2 (.val kr ndx (fun i hi z => by
      have hq := (clash_l hc).1
      rw [hi] at hq
      simp only [clash, List.contains_eq_mem, decide_eq_false_iff_not] at hq
      exact hq z) (fun a ha => ?_) (o2.older fun a => Fr.none))
    rcases hx a ha with ⟨i, hi, h1⟩ | ⟨h0, h1, h2⟩
    · have hn : i ∉ Xp.tchs es := fun z => by
        rw [hi] at hc'
        simp only [clash, List.contains_eq_mem, decide_eq_false_iff_not] at hc'
        exact hc' z
      rcases Keep.own S1 F2 K2 S2 J2 hn a h1 with z | z
      · exact .inl ⟨i, hi, z⟩
      · exact .inr (.inl z)
    · refine .inr (.inr ⟨h0, fun i hi => ?_⟩)
      obtain ⟨o, ho, _⟩ := r.there a ha
      rcases F2.fn i a hi with z | z
      · exact h1 i z
      · rw [ho] at z; cases z
  | .c .non :: es, some i :: l, H, Q, hl, hσ, J, ⟨e, G, fp, S, h⟩ => by
    simp only [evA, ev, R.bind_ok] at h
    obtain ⟨v, hv⟩ := hσ i (List.mem_cons_self ..)
    refine ⟨v, hv, ?_⟩
    have hc : ¬ clash ((new 0 .non).on e) (ls ++ Xp.tchs es) = true := by simp [Vw.on, new, clash]
    rw [if_neg hc] at h
    refine targs_of hl (fun i hi => hσ i (List.mem_cons_of_mem _ hi)) J ⟨e, G, fp, S, Aft.first h (fun i hi => by simpa only [Xp.tchs, Xp.tch, List.nil_append] using hi) fun xs e2 G2 H2 fp2 vs hr2 F2 K2 S2 J2 o2 => ?_⟩
    rw [hr2, R.bind_ok] at h
    exact h G2 H2 fp2 (v :: vs) F2 (K2.mono fun i hi => by simpa only [Xp.tchs, Xp.tch, List.nil_append] using hi) S2 J2 (.lend hv o2)
end
end Ev
end
section
set_option linter.all false
set_option maxHeartbeats 1000000
namespace Ev
open PySem
section
variable {K : PySem.W.Frag} {G G' : GSet} {H : Hp}
mutual
/-- all that may change is owned: nothing leans on what is frozen -/
theorem Rep.alone : ∀ {k d v fx}, Rep K G H k d v fx → d.owned k = true → Rep K G' H k d v fx
  | _, _, _, _, .non, _ => .non
  | _, _, _, _, .bl, _ => .bl
  | _, _, _, _, .int, _ => .int
  | _, _, _, _, .str h, _ => .str h
  | k, .scr _, _, _, .scr _, o => by cases k <;> simp [D.owned] at o
  | k, .tup ds, _, _, .tup h rs, o => .tup h (Reps.alone rs (by cases k <;> simpa only [D.owned] using o))
  | _, _, _, _, .lstF h rs, o => by simp [D.owned] at o
  | _, _, _, _, .lstO h rs, o => .lstO h (Reps.alone rs (by simpa only [D.owned] using o))
  | _, _, _, _, .dctF _ _ _ _ rs, o => by simp [D.owned] at o
  | _, _, _, _, .dctO h n z rs, o => .dctO h n z (Reps.alone rs (by simpa only [D.owned] using o))
theorem Reps.alone : ∀ {k ds vs fx}, Reps K G H k ds vs fx → D.owneds k ds = true → Reps K G' H k ds vs fx
  | _, _, _, _, .nil, _ => .nil
  | _, _, _, _, .cons r rs, o => by
    simp only [D.owneds, Bool.and_eq_true] at o
    exact .cons (Rep.alone r o.1) (Reps.alone rs o.2)
end
end
/-- a function is done -/
structure Done (K : PySem.W.Frag) (chg : List Nat) (vs : List V) (outs : List Sl) (G : GSet) (H : Hp) (fa : FpT) (G' : GSet) (H' : Hp) (fb : FpT) (k : Nat) (d : D) (z : V) (fx : List Addr) : Prop where
  fr : Frm G H fa G' H' fb
  rep : Rep K G' H' k d z fx
  nd : fx.Nodup
  new : ∀ a ∈ fx, H a = none ∧ (∀ i, a ∉ fb i) ∧ ¬ G' a
  ln : outs.length = chg.length
  out : ∀ (j i : Nat) (s : Sl), chg[j]? = some i → outs[j]? = some s → ∃ v, vs[i]? = some v ∧ Rep K G' H' s.k s.d v (fb i)
  non : ∀ i, i ∉ chg → fb i = []
  fnd : ∀ i, (fb i).Nodup
  dj : ∀ i j a, a ∈ fb i → a ∈ fb j → i = j
  ng : ∀ i a, a ∈ fb i → ¬ G' a
  gs : ∀ a, G' a → ∃ o, H' a = some o ∧ L2.Mut (some o)
/-- what a function promises -/
def spF (P : Prm) (chg : List Nat) (f : List Sl → CR) : L2.Sp := fun vs H Q E => ∃ as G fa, Sim P.K G H (as.map some) (vs.map some) fa ∧ (∀ i, i ∉ chg → fa i = []) ∧ match f as with
  | .ok k d outs => ∀ G' H' fb z fx, Done P.K chg vs outs G H fa G' H' fb k d z fx → Inj P.K H' → Q z H'
  | .rs c x => ∀ G' H' fb dx v, Frm G H fa G' H' fb → H' dx = some (.xd [(P.fld c, v)]) → Rep P.K G' H' 0 x v [] → (∀ a, G' a → ∃ o, H' a = some o ∧ L2.Mut (some o)) → E (.ref (P.adr c)) (some dx) H'
  | .bad _ => False
/-- the places where something is lent -/
def chgAt : Nat → List (Option Nat) → List Nat
  | _, [] => []
  | n, some _ :: l => n :: chgAt (n + 1) l
  | n, none :: l => chgAt (n + 1) l
/-- what the slots of the callee own -/
def lentF (l : List (Option Nat)) (fp : FpT) : FpT := fun j => match l[j]? with
  | some (some i) => fp i
  | _ => []
theorem chgAt_mem : ∀ (l : List (Option Nat)) (n j : Nat), j ∈ chgAt n l ↔ n ≤ j ∧ ∃ i, l[j - n]? = some (some i)
  | [], n, j => by simp [chgAt]
  | some i :: l, n, j => by
    simp only [chgAt, List.mem_cons, chgAt_mem l (n + 1) j]
    constructor
    · rintro (rfl | ⟨h, i', hi⟩)
      · exact ⟨Nat.le_refl _, i, by simp⟩
      · refine ⟨by omega, i', ?_⟩
        rw [show j - n = (j - (n + 1)) + 1 by omega]; simpa using hi
    · rintro ⟨h, i', hi⟩
      by_cases e : j = n
      · exact .inl e
      · refine .inr ⟨by omega, i', ?_⟩
        rw [show j - n = (j - (n + 1)) + 1 by omega] at hi; simpa using hi
  | none :: l, n, j => by
    simp only [chgAt, chgAt_mem l (n + 1) j]
    constructor
    · rintro ⟨h, i', hi⟩
      refine ⟨by omega, i', ?_⟩
      rw [show j - n = (j - (n + 1)) + 1 by omega]; simpa using hi
    · rintro ⟨h, i', hi⟩
      have e : j ≠ n := fun e => by subst e; simp at hi
      refine ⟨by omega, i', ?_⟩
      rw [show j - n = (j - (n + 1)) + 1 by omega] at hi; simpa using hi
/-- .. and the slots of the caller behind it -/
def afterF (l : List (Option Nat)) (fp fb : FpT) : FpT := fun i => match l.findIdx? (· == some i) with
  | some j => fb j
  | none => fp i
section
variable {K : PySem.W.Frag} {H0 : Hp} {σ : L2.St} {G : GSet} {H : Hp} {fp : FpT} {e : Ls} {ls : List Nat}
/-- the arguments as the callee's slots -/
theorem ArgL.slots : ∀ {l xs vs as}, ArgL ls K H0 σ G H fp l xs vs → lendIn e xs l = some as →
    as.length = vs.length ∧ l.length = vs.length ∧ ∃ bx : List Addr, (∀ a ∈ bx, ((∃ i, i ∈ borsOf xs ∧ i ∉ ls ∧ a ∈ fp i) ∨ G a ∨ (H0 a = none ∧ ∀ i, a ∉ fp i)) ∧ ∃ o, H a = some o ∧ L2.Mut (some o)) ∧
      ∀ Gc : GSet, (∀ a, G a → Gc a) → (∀ a ∈ bx, Gc a) → ∀ (j : Nat) (s : Sl), as[j]? = some s → ∃ v, vs[j]? = some v ∧ ((l[j]? = some none ∧ Rep K Gc H s.k s.d v []) ∨ ∃ i, l[j]? = some (some i) ∧ e.at i = some s ∧ σ[i]? = some (some v))
  | _, _, _, as, .nil, h => by
    simp only [lendIn, Option.some.injEq] at h
    subst h
    exact ⟨rfl, rfl, [], (fun a h => by cases h), fun Gc _ _ j s hj => by simp at hj⟩
  | _, _, _, as, .val (xs := xs) (d := d) (on := on) (v := v) r nd no hx t, h => by
    simp only [lendIn, Option.map_eq_some_iff] at h
    obtain ⟨as', h1, rfl⟩ := h
    obtain ⟨l1, l2, bx, hb, hr⟩ := ArgL.slots t h1
    obtain ⟨f', sb, hr0⟩ := r.lower nd (Nat.zero_le _)
    have hz : f' = [] := (hr0 (fun _ => True) (fun _ _ => trivial) fun _ _ _ => trivial).zero rfl
    subst hz
    rename_i fx
    refine ⟨by simp [l1], by simp [l2], fx ++ bx, fun a ha => ?_, fun Gc g1 g2 j s hj => ?_⟩
    · rcases List.mem_append.mp ha with q | q
      · refine ⟨?_, r.there a q⟩
        rcases hx a q with ⟨i, hi, h2⟩ | h2
        · refine .inl ⟨i, ?_, no i hi, h2⟩
          unfold borsOf
          exact List.mem_filterMap.mpr ⟨(d, on), List.mem_cons_self .., hi⟩
        · exact .inr h2
      · refine ⟨?_, (hb a q).2⟩
        rcases (hb a q).1 with ⟨i, hi, h2⟩ | h2
        · refine .inl ⟨i, ?_, h2⟩
          unfold borsOf at hi ⊢
          obtain ⟨p, hp, hp2⟩ := List.mem_filterMap.mp hi
          exact List.mem_filterMap.mpr ⟨p, List.mem_cons_of_mem _ hp, hp2⟩
        · exact .inr h2
    · cases j with
      | zero =>
        simp only [List.getElem?_cons_zero, Option.some.injEq] at hj
        subst hj
        exact ⟨v, rfl, .inl ⟨rfl, hr0 Gc g1 fun a ha _ => g2 a (List.mem_append_left _ ha)⟩⟩
      | succ j =>
        obtain ⟨w, hw, h3⟩ := hr Gc g1 (fun a ha => g2 a (List.mem_append_right _ ha)) j s (by simpa using hj)
        exact ⟨w, by simpa using hw, by simpa using h3⟩
  | _, _, _, as, .lend (i := i) (v := v) hv t, h => by
    simp only [lendIn, Option.bind_eq_some_iff] at h
    obtain ⟨s0, hs0, h⟩ := h
    split at h
    · cases h
    · simp only [Option.map_eq_some_iff] at h
      obtain ⟨as', h1, rfl⟩ := h
      obtain ⟨l1, l2, bx, hb, hr⟩ := ArgL.slots t h1
      refine ⟨by simp [l1], by simp [l2], bx, fun a ha => ?_, fun Gc g1 g2 j s hj => ?_⟩
      · refine ⟨?_, (hb a ha).2⟩
        rcases (hb a ha).1 with ⟨i', hi, h2⟩ | h2
        · refine .inl ⟨i', ?_, h2⟩
          unfold borsOf at hi ⊢
          obtain ⟨p, hp, hp2⟩ := List.mem_filterMap.mp hi
          exact List.mem_filterMap.mpr ⟨p, List.mem_cons_of_mem _ hp, hp2⟩
        · exact .inr h2
      · cases j with
        | zero =>
          simp only [List.getElem?_cons_zero, Option.some.injEq] at hj
          subst hj
          exact ⟨v, rfl, .inr ⟨i, rfl, hs0, hv⟩⟩
        | succ j =>
          obtain ⟨w, hw, h3⟩ := hr Gc g1 g2 j s (by simpa using hj)
          exact ⟨w, by simpa using hw, by simpa using h3⟩
theorem lentF_mem {l : List (Option Nat)} {fp : FpT} {j : Nat} {a : Addr} (h : a ∈ lentF l fp j) : ∃ i, l[j]? = some (some i) ∧ a ∈ fp i := by
  unfold lentF at h
  split at h
  · rename_i i hi; exact ⟨i, hi, h⟩
  · cases h
/-- the callee's start -/
theorem call_sim {l : List (Option Nat)} {as : List Sl} {vs : List V} {bx : List Addr} (S : Sim K G H e σ fp) (nd : ∀ (j j' i : Nat), l[j]? = some (some i) → l[j']? = some (some i) → j = j')
    (l1 : as.length = vs.length) (l2 : l.length = vs.length) (hb : ∀ a ∈ bx, (G a ∨ ∀ j, a ∉ lentF l fp j) ∧ ∃ o, H a = some o ∧ L2.Mut (some o))
    (hr : ∀ (j : Nat) (s : Sl), as[j]? = some s → ∃ v, vs[j]? = some v ∧ ((l[j]? = some none ∧ Rep K (fun a => G a ∨ a ∈ bx) H s.k s.d v []) ∨ ∃ i, l[j]? = some (some i) ∧ e.at i = some s ∧ σ[i]? = some (some v))) :
    Sim K (fun a => G a ∨ a ∈ bx) H (as.map some) (vs.map some) (lentF l fp) ∧ ∀ i, i ∉ chgAt 0 l → lentF l fp i = [] := by
  have hat : ∀ {j : Nat} {s : Sl}, Ls.at (as.map some) j = some s → as[j]? = some s := fun {j s} h => by
    unfold Ls.at at h
    rw [List.getElem?_map] at h
    cases q : as[j]? with
    | none => rw [q] at h; cases h
    | some t => rw [q] at h; simpa using h
  refine ⟨⟨by simp [l1], fun j s hs => ?_, fun j hj => ?_, fun j => ?_, fun j j' a h1 h2 => ?_, fun j a h1 g => ?_, fun a g => g.elim (S.gs a) fun q => (hb a q).2⟩, fun j hj => ?_⟩
  · obtain ⟨v, hv, h⟩ := hr j s (hat hs)
    refine ⟨v, by rw [List.getElem?_map, hv]; rfl, ?_⟩
    rcases h with ⟨h1, r⟩ | ⟨i, h1, h2, h3⟩
    · have : lentF l fp j = [] := by unfold lentF; rw [h1]
      rw [this]; exact r
    · have : lentF l fp j = fp i := by unfold lentF; rw [h1]
      rw [this]
      obtain ⟨v', hv', r⟩ := S.rep i s h2
      rw [h3] at hv'; cases hv'
      exact r.keep (fun a g => .inl g) .refl fun _ _ => rfl
  · have hlen : ¬ j < as.length := fun z => by
      unfold Ls.at at hj
      rw [List.getElem?_map, List.getElem?_eq_getElem z] at hj; cases hj
    unfold lentF
    rw [List.getElem?_eq_none (by omega)]
  · unfold lentF
    split
    · exact S.nd _
    · exact List.nodup_nil
  · obtain ⟨i, hi, ha⟩ := lentF_mem h1
    obtain ⟨i', hi', ha'⟩ := lentF_mem h2
    obtain rfl := S.dj i i' a ha ha'
    exact nd j j' i hi hi'
  · obtain ⟨i, hi, ha⟩ := lentF_mem h1
    rcases g with g | g
    · exact S.ng i a ha g
    · rcases (hb a g).1 with q | q
      · exact S.ng i a ha q
      · exact q j h1
  · unfold lentF
    split
    · rename_i i hi
      exact absurd ((chgAt_mem l 0 j).mpr ⟨Nat.zero_le _, i, hi⟩) hj
    · rfl
end
end Ev
end
section
set_option linter.all false
set_option maxHeartbeats 1000000
namespace Ev
open PySem
theorem lendOut_len : ∀ {l : List (Option Nat)} {outs : List Sl} {e e' : Ls}, lendOut l outs e = some e' → e'.length = e.length
  | [], [], e, e', h => by simp only [lendOut, Option.some.injEq] at h; rw [h]
  | [], _ :: _, e, e', h => by simp [lendOut] at h
  | none :: l, outs, e, e', h => by simp only [lendOut] at h; exact lendOut_len h
  | some i :: l, [], e, e', h => by simp [lendOut] at h
  | some i :: l, o :: outs, e, e', h => by
    simp only [lendOut] at h
    rw [lendOut_len h]; simp [Ls.put]
theorem lendOut_ne {i : Nat} : ∀ {l : List (Option Nat)} {outs : List Sl} {e e' : Ls}, lendOut l outs e = some e' → (∀ j : Nat, l[j]? ≠ some (some i)) → e'.at i = e.at i
  | [], [], e, e', h, _ => by simp only [lendOut, Option.some.injEq] at h; rw [h]
  | [], _ :: _, e, e', h, _ => by simp [lendOut] at h
  | none :: l, outs, e, e', h, n => by simp only [lendOut] at h; exact lendOut_ne h fun j hj => n (j + 1) (by simpa using hj)
  | some i' :: l, [], e, e', h, _ => by simp [lendOut] at h
  | some i' :: l, o :: outs, e, e', h, n => by
    simp only [lendOut] at h
    rw [lendOut_ne h fun j hj => n (j + 1) (by simpa using hj)]
    exact at_put_ne fun q => n 0 (by simp [q])
theorem lendOut_eq {i : Nat} : ∀ {l : List (Option Nat)} {outs : List Sl} {e e' : Ls} {n j : Nat}, lendOut l outs e = some e' → l[j]? = some (some i) → (∀ j' : Nat, l[j']? = some (some i) → j' = j) → i < e.length →
    ∃ (m : Nat) (s : Sl), (chgAt n l)[m]? = some (n + j) ∧ outs[m]? = some s ∧ e'.at i = some s
  | none :: l, outs, e, e', n, 0, h, hj, u, hi => by simp at hj
  | none :: l, outs, e, e', n, j + 1, h, hj, u, hi => by
    simp only [lendOut] at h
    obtain ⟨m, s, h1, h2, h3⟩ := lendOut_eq (n := n + 1) (j := j) h (by simpa using hj) (fun j' q => by have := u (j' + 1) (by simpa using q); omega) hi
    exact ⟨m, s, by simp only [chgAt]; rw [h1]; congr 1; omega, h2, h3⟩
  | some i' :: l, [], e, e', n, j, h, hj, u, hi => by simp [lendOut] at h
  | some i' :: l, o :: outs, e, e', n, 0, h, hj, u, hi => by
    simp only [lendOut] at h
    obtain rfl : i' = i := by simpa using hj
    refine ⟨0, o, by simp [chgAt], rfl, ?_⟩
    rw [lendOut_ne h fun j' q => by have := u (j' + 1) (by simpa using q); omega]
    exact at_lt hi
  | some i' :: l, o :: outs, e, e', n, j + 1, h, hj, u, hi => by
    simp only [lendOut] at h
    obtain ⟨m, s, h1, h2, h3⟩ := lendOut_eq (n := n + 1) (j := j) h (by simpa using hj) (fun j' q => by have := u (j' + 1) (by simpa using q); omega) (by simpa [Ls.put] using hi)
    exact ⟨m + 1, s, by simp only [chgAt, List.getElem?_cons_succ]; rw [h1]; congr 1; omega, by simpa using h2, h3⟩
theorem afterF_in {l : List (Option Nat)} {fp fb : FpT} {i j : Nat} (h : l[j]? = some (some i)) (u : ∀ j' : Nat, l[j']? = some (some i) → j' = j) : afterF l fp fb i = fb j := by
  unfold afterF
  cases q : l.findIdx? (· == some i) with
  | none =>
    rw [List.findIdx?_eq_none_iff] at q
    have := q (some i) (List.mem_of_getElem? h)
    simp at this
  | some m =>
    dsimp only
    rw [List.findIdx?_eq_some_iff_getElem] at q
    obtain ⟨hm, h1, _⟩ := q
    rw [u m (by rw [List.getElem?_eq_getElem hm]; simpa using h1)]
theorem afterF_out {l : List (Option Nat)} {fp fb : FpT} {i : Nat} (h : ∀ j : Nat, l[j]? ≠ some (some i)) : afterF l fp fb i = fp i := by
  unfold afterF
  cases q : l.findIdx? (· == some i) with
  | none => rfl
  | some m =>
    rw [List.findIdx?_eq_some_iff_getElem] at q
    obtain ⟨hm, h1, _⟩ := q
    exact absurd (by rw [List.getElem?_eq_getElem hm]; simpa using h1) (h m)
section
variable {K : PySem.W.Frag} {σ : L2.St} {G Gf G' : GSet} {H H' : Hp} {fp fb : FpT} {e e' : Ls} {l : List (Option Nat)} {vs : List V} {outs : List Sl} {bx fx : List Addr} {k : Nat} {d : D} {z : V}
/-- the caller's slots behind a call -/
theorem call_after (S : Sim K G H e σ fp) (Sc : Sim K (fun a => G a ∨ a ∈ bx) H as (vs.map some) (lentF l fp)) (nd : ∀ (j j' i : Nat), l[j]? = some (some i) → l[j']? = some (some i) → j = j')
    (D : Done K (chgAt 0 l) vs outs (fun a => G a ∨ a ∈ bx) H (lentF l fp) G' H' fb k d z fx) (ho : lendOut l outs e = some e') (hv : ∀ (j i : Nat), l[j]? = some (some i) → ∃ v s, vs[j]? = some v ∧ σ[i]? = some (some v) ∧ e.at i = some s)
    (g1 : ∀ a, G a → Gf a) (g2 : ∀ a, Gf a → G' a) (hout : ∀ (j i : Nat) (s : Sl) v, outs[j]? = some s → Rep K G' H' s.k s.d v (fb i) → Rep K Gf H' s.k s.d v (fb i))
    (hng : ∀ i a, a ∈ fp i → (∀ j : Nat, l[j]? ≠ some (some i)) → ¬ Gf a) :
    Sim K Gf H' e' σ (afterF l fp fb) ∧ Frm G H fp G H' (afterF l fp fb) ∧ Keep (l.filterMap id) e H fp e' H' := by
  have lent : ∀ i, (∃ j : Nat, l[j]? = some (some i)) ∨ ∀ j : Nat, l[j]? ≠ some (some i) := fun i => by
    by_cases q : ∃ j : Nat, l[j]? = some (some i)
    · exact .inl q
    · exact .inr fun j hj => q ⟨j, hj⟩
  have eqF : ∀ {i j : Nat}, l[j]? = some (some i) → afterF l fp fb i = fb j := fun {i j} h => afterF_in h fun j' hj' => nd j' j i hj' h
  have faE : ∀ {i j : Nat}, l[j]? = some (some i) → lentF l fp j = fp i := fun {i j} h => by unfold lentF; rw [h]
  have apart : ∀ {i a}, a ∈ fp i → (∀ j : Nat, l[j]? ≠ some (some i)) → ∀ j, a ∉ lentF l fp j := fun {i a} ha hn j hj => by
    obtain ⟨i', hi', ha'⟩ := lentF_mem hj
    obtain rfl := S.dj i i' a ha ha'
    exact hn j hi'
  have same : ∀ {i a}, a ∈ fp i → (∀ j : Nat, l[j]? ≠ some (some i)) → H' a = H a := fun {i a} ha hn => by
    obtain ⟨o, ho, hm⟩ := S.there ha
    rw [ho]; exact D.fr.st a o ho (apart ha hn) (mut_tbl hm)
  have st0 := D.fr.stays Sc
  have st : Stays G H H' := ⟨st0.tup, st0.frz, fun a o g h => st0.gs a o (.inl g) h⟩
  have hnot : ∀ {i a j}, a ∈ fp i → (∀ j : Nat, l[j]? ≠ some (some i)) → a ∉ fb j := fun {i a j} ha hn hj => by
    rcases D.fr.fn j a hj with q | q
    · exact apart ha hn j q
    · obtain ⟨o, ho, _⟩ := S.there ha
      rw [ho] at q; cases q
  refine ⟨⟨by rw [lendOut_len ho, S.len], fun i s hs => ?_, fun i hi => ?_, fun i => ?_, fun i j a h1 h2 => ?_, fun i a h g => ?_, fun a g => D.gs a (g2 a g)⟩, ⟨fun _ g => g, fun _ g => .inl g, fun a o h hn ht => ?_, fun i a h => ?_, D.fr.al⟩, ⟨fun i hi a ha => ?_, fun i hi => ?_⟩⟩
  · rcases lent i with ⟨j, hj⟩ | hn
    · obtain ⟨v, s0, hv1, hv2, hv3⟩ := hv j i hj
      have hlt : i < e.length := by
        by_cases q : i < e.length
        · exact q
        · unfold Ls.at at hv3; rw [List.getElem?_eq_none (by omega)] at hv3; cases hv3
      obtain ⟨m, s', h1, h2, h3⟩ := lendOut_eq (n := 0) ho hj (fun j' hj' => nd j' j i hj' hj) hlt
      rw [h3] at hs; cases hs
      rw [Nat.zero_add] at h1
      obtain ⟨v', hv', r⟩ := D.out m j s h1 h2
      rw [hv1] at hv'; cases hv'
      rw [eqF hj]
      exact ⟨v, hv2, hout m j s v h2 r⟩
    · rw [lendOut_ne ho hn] at hs
      obtain ⟨v, hv1, r⟩ := S.rep i s hs
      rw [afterF_out hn]
      exact ⟨v, hv1, r.keep g1 st fun a ha => same ha hn⟩
  · rcases lent i with ⟨j, hj⟩ | hn
    · obtain ⟨v, s0, hv1, hv2, hv3⟩ := hv j i hj
      have hlt : i < e.length := by
        by_cases q : i < e.length
        · exact q
        · unfold Ls.at at hv3; rw [List.getElem?_eq_none (by omega)] at hv3; cases hv3
      obtain ⟨m, s', h1, h2, h3⟩ := lendOut_eq (n := 0) ho hj (fun j' hj' => nd j' j i hj' hj) hlt
      rw [h3] at hi; cases hi
    · rw [lendOut_ne ho hn] at hi
      rw [afterF_out hn]; exact S.nil i hi
  · rcases lent i with ⟨j, hj⟩ | hn
    · rw [eqF hj]; exact D.fnd j
    · rw [afterF_out hn]; exact S.nd i
  · rcases lent i with ⟨m, hm⟩ | hn
    · rw [eqF hm] at h1
      rcases lent j with ⟨m', hm'⟩ | hn'
      · rw [eqF hm'] at h2
        obtain rfl := D.dj m m' a h1 h2
        rw [hm] at hm'; cases hm'; rfl
      · rw [afterF_out hn'] at h2
        exact absurd h1 (hnot h2 hn')
    · rw [afterF_out hn] at h1
      rcases lent j with ⟨m', hm'⟩ | hn'
      · rw [eqF hm'] at h2
        exact absurd h2 (hnot h1 hn)
      · rw [afterF_out hn'] at h2
        exact S.dj i j a h1 h2
  · rcases lent i with ⟨m, hm⟩ | hn
    · rw [eqF hm] at h
      exact D.ng m a h (g2 a g)
    · rw [afterF_out hn] at h
      exact hng i a h hn g
  · refine D.fr.st a o h (fun j hj => ?_) ht
    obtain ⟨i, _, ha⟩ := lentF_mem hj
    exact hn i ha
  · rcases lent i with ⟨m, hm⟩ | hn
    · rw [eqF hm] at h
      rcases D.fr.fn m a h with q | q
      · rw [faE hm] at q; exact .inl q
      · exact .inr q
    · rw [afterF_out hn] at h; exact .inl h
  · refine same ha fun j hj => hi ?_
    exact List.mem_filterMap.mpr ⟨some i, List.mem_of_getElem? hj, rfl⟩
  · refine .inl (lendOut_ne ho fun j hj => hi ?_)
    exact List.mem_filterMap.mpr ⟨some i, List.mem_of_getElem? hj, rfl⟩
end
end Ev
end
section
set_option linter.all false
set_option maxHeartbeats 1000000
namespace Ev
open PySem
section
variable {K : PySem.W.Frag} {H0 H : Hp} {σ : L2.St} {ls : List Nat}
theorem ArgL.bors {G : GSet} {fp : FpT} : ∀ {l xs vs}, ArgL ls K H0 σ G H fp l xs vs → ∀ i ∈ borsOf xs, i ∉ ls
  | _, _, _, .nil, i, h => by simp [borsOf] at h
  | _, _, _, .val (xs := xs) (on := on) r nd no hx t, i, h => by
    unfold borsOf at h
    obtain ⟨p, hp, hp2⟩ := List.mem_filterMap.mp h
    rcases List.mem_cons.mp hp with q | q
    · subst q; exact no i hp2
    · exact ArgL.bors t i (by unfold borsOf; exact List.mem_filterMap.mpr ⟨p, q, hp2⟩)
  | _, _, _, .lend (xs := xs) hv t, i, h => by
    unfold borsOf at h
    obtain ⟨p, hp, hp2⟩ := List.mem_filterMap.mp h
    rcases List.mem_cons.mp hp with q | q
    · subst q; cases hp2
    · exact ArgL.bors t i (by unfold borsOf; exact List.mem_filterMap.mpr ⟨p, q, hp2⟩)
/-- several slots are frozen -/
theorem Sim.still : ∀ (is : List Nat) {G : GSet} {e : Ls} {fp : FpT}, Sim K G H e σ fp → ∃ G2 fp2, Sim K G2 H (stillAt is e) σ fp2 ∧ Frm G H fp G2 H fp2 ∧ Keep [] e H fp (stillAt is e) H ∧ (∀ i ∈ is, ∀ a ∈ fp i, G2 a) ∧ ∀ i, i ∉ is → (stillAt is e).at i = e.at i
  | [], G, e, fp, S => ⟨G, fp, S, Frm.refl S, .refl, (fun i h => by cases h), fun _ _ => rfl⟩
  | i :: is, G, e, fp, S => by
    cases q : e.at i with
    | none =>
      obtain ⟨G2, fp2, S2, F2, K2, g2, e2⟩ := Sim.still is S
      have he : stillAt (i :: is) e = stillAt is e := by unfold stillAt; rw [List.foldl_cons, q]
      rw [he]
      refine ⟨G2, fp2, S2, F2, K2, fun j hj a ha => ?_, fun j hj => e2 j fun z => hj (List.mem_cons_of_mem _ z)⟩
      rcases List.mem_cons.mp hj with z | z
      · subst z; rw [S.nil j q] at ha; cases ha
      · exact g2 j z a ha
    | some s =>
      obtain ⟨S1, F1, K1⟩ := S.freeze q
      obtain ⟨G2, fp2, S2, F2, K2, g2, e2⟩ := Sim.still is S1
      have he : stillAt (i :: is) e = stillAt is (e.put i 0 s.d) := by unfold stillAt; rw [List.foldl_cons, q]
      rw [he]
      refine ⟨G2, fp2, S2, F1.trans S F2, (Keep.trans S F1 K1 F2 K2).mono (by simp), fun j hj a ha => ?_, fun j hj => ?_⟩
      · by_cases z : j = i
        · subst z; exact F2.g a (.inr ha)
        · rcases List.mem_cons.mp hj with y | y
          · exact absurd y z
          · exact g2 j y a (by rw [if_neg z]; exact ha)
      · rw [e2 j fun z => hj (List.mem_cons_of_mem _ z)]
        exact at_put_ne fun z => hj (by simp [z])
end
section
variable {P : Prm} {F : Nat → List Sl → CR} {T : Tb} {Gt : Nat → (Ls → R Vw) → Ls → R Vw} {th : Option (Ls × (Ls → R Vw))} {σ : L2.St} {H : Hp}
theorem te_call {Q : V → Hp → Prop} {f : Nat} {es : List Xp} {l : List (Option Nat)} (hle : lendsOk es l = true) (nd : ∀ (j j' i : Nat), l[j]? = some (some i) → l[j']? = some (some i) → j = j') (J : Inj P.K H) (h : TEs P F T Gt th (.call f es l) σ H Q) :
    L2.tCallSD (spF P (chgAt 0 l) (F f)) [] (fun σ c d H => P.W c d σ H) (tArgs P.K (TEs P F T Gt th) es l) σ H fun v H' => Inj P.K H' → Q v H' := by
  obtain ⟨e, G, fp, S, h⟩ := h
  simp only [ev] at h
  rcases Bool.eq_false_or_eq_true (lentOk e l) with hl | hl
  case inr => rw [hl, if_neg Bool.false_ne_true] at h; exact h.elim
  rw [hl, if_pos rfl] at h
  have hσ : ∀ i, some i ∈ l → ∃ v, σ[i]? = some (some v) := fun i hi => by
    have := List.all_eq_true.mp hl i (List.mem_filterMap.mpr ⟨some i, hi, rfl⟩)
    obtain ⟨s, hs⟩ := Option.isSome_iff_exists.mp this
    obtain ⟨v, hv, _⟩ := S.rep i s hs
    exact ⟨v, hv⟩
  refine targs_of (ls := l.filterMap id) hle hσ J ⟨e, G, fp, S, Aft.first h (fun i hi => by simp only [Xp.tch]; exact List.mem_append_left _ hi) fun xs e1 G1 H1 fp1 vs hr Fr Kp S1 J1 al => ?_⟩
  rw [hr, R.bind_ok] at h
  rw [List.append_nil]
  cases hin : lendIn e1 xs l with
  | none => simp only [hin] at h; exact h.elim
  | some as =>
    simp only [hin] at h
    obtain ⟨l1, l2, bx, hb, hr2⟩ := al.slots hin
    have lsl : ∀ {j i : Nat}, l[j]? = some (some i) → i ∈ l.filterMap id := fun {j i} hj => List.mem_filterMap.mpr ⟨some i, List.mem_of_getElem? hj, rfl⟩
    have hv : ∀ {eb : Ls}, (∀ i ∈ l.filterMap id, eb.at i = e1.at i) → ∀ (j i : Nat), l[j]? = some (some i) → ∃ v s, vs[j]? = some v ∧ σ[i]? = some (some v) ∧ eb.at i = some s := fun {eb} he j i hj => by
      have hjl : j < as.length := by rw [l1, ← l2]; exact (List.getElem?_eq_some_iff.mp hj).1
      obtain ⟨v, hv, hh⟩ := hr2 (fun _ => True) (fun _ _ => trivial) (fun _ _ => trivial) j _ (List.getElem?_eq_getElem hjl)
      rcases hh with ⟨h1, _⟩ | ⟨i', h1, h2, h3⟩
      · rw [hj] at h1; cases h1
      · rw [hj] at h1; cases h1
        exact ⟨v, _, hv, h3, (he i (lsl hj)).trans h2⟩
    have hbase : ∀ a ∈ bx, (G1 a ∨ ∀ j, a ∉ lentF l fp1 j) ∧ ∃ o, H1 a = some o ∧ L2.Mut (some o) := fun a ha => by
      refine ⟨?_, (hb a ha).2⟩
      rcases (hb a ha).1 with ⟨i, _, h1, h2⟩ | h1 | ⟨_, h1⟩
      · refine .inr fun j hj => ?_
        obtain ⟨i', hi', ha'⟩ := lentF_mem hj
        obtain rfl := S1.dj i i' a h2 ha'
        exact h1 (lsl hi')
      · exact .inl h1
      · refine .inr fun j hj => ?_
        obtain ⟨i', hi', ha'⟩ := lentF_mem hj
        exact h1 i' ha'
    obtain ⟨Sc, hnon⟩ := call_sim S1 nd l1 l2 hbase (hr2 _ (fun a g => .inl g) fun a g => .inr g)
    have bxg : ∀ a ∈ bx, G a ∨ (∃ i, a ∈ fp i) ∨ H a = none := fun a ha => by
      rcases (hb a ha).1 with ⟨i, _, _, h2⟩ | h1 | ⟨h1, _⟩
      · rcases Fr.fn i a h2 with q | q
        · exact .inr (.inl ⟨i, q⟩)
        · exact .inr (.inr q)
      · exact Fr.gn a h1
      · exact .inr (.inr h1)
    have tsub : ∀ z, z ∈ Xp.tchs es ++ l.filterMap id → z ∈ Xp.tch (.call f es l) := fun z hz => by simpa only [Xp.tch] using hz
    cases hf : F f as with
    | bad m => simp only [hf] at h; exact h.elim
    | rs c x =>
      simp only [hf] at h
      refine ⟨as, _, _, Sc, hnon, ?_⟩
      rw [hf]
      intro G' H' fb dx v fr hx rep gs
      have B : Frm G1 H1 fp1 G1 H' (fun _ => []) := ⟨fun _ g => g, fun _ g => .inl g, fun a o h1 hn ht => fr.st a o h1 (fun j hj => by
        obtain ⟨i, _, ha⟩ := lentF_mem hj
        exact hn i ha) ht, (fun _ _ h => by cases h), fr.al⟩
      have kb : KeepH (l.filterMap id) H1 fp1 H' := fun i hi a ha => by
        obtain ⟨o, ho, hm⟩ := S1.there ha
        rw [ho]
        refine fr.st a o ho (fun j hj => ?_) (mut_tbl hm)
        obtain ⟨i', hi', ha'⟩ := lentF_mem hj
        obtain rfl := S1.dj i i' a ha ha'
        exact hi (lsl hi')
      have FF := Fr.trans S B
      refine h G' H' (fun _ => []) dx v ⟨fun a g => fr.g a (.inl (Fr.g a g)), fun a g => ?_, FF.st, FF.fn, FF.al⟩ ((KeepH.trans S Fr Kp.h B kb).mono tsub) hx rep gs
      rcases fr.gn a g with (q | q) | ⟨j, q⟩ | q
      · exact Fr.gn a q
      · exact bxg a q
      · obtain ⟨i, _, ha⟩ := lentF_mem q
        rcases Fr.fn i a ha with z | z
        · exact .inr (.inl ⟨i, z⟩)
        · exact .inr (.inr z)
      · exact .inr (.inr (Fr.none q))
    | ok k d outs =>
      simp only [hf] at h
      by_cases ow : (d.owned k && outs.all (fun s => s.d.owned s.k)) = true
      · rw [if_pos ow] at h
        cases hlo : lendOut l outs e1 with
        | none => simp only [hlo] at h; exact h.elim
        | some e2 =>
          simp only [hlo] at h
          simp only [Bool.and_eq_true] at ow
          refine ⟨as, _, _, Sc, hnon, ?_⟩
          rw [hf]
          intro G' H' fb z fx D J' J''
          obtain ⟨S2, FB, KB⟩ := call_after (Gf := G1) S1 Sc nd D hlo (hv fun _ _ => rfl) (fun _ g => g) (fun a g => D.fr.g a (.inl g)) (fun j i s v hj r => r.alone (List.all_eq_true.mp ow.2 s (List.mem_of_getElem? hj))) (fun i a ha _ => S1.ng i a ha)
          refine h G1 H' _ z (Fr.trans S FB) ((Keep.trans S Fr Kp FB KB).mono tsub) S2 J' (.new (D.rep.alone ow.1) D.nd fun a ha => ?_)
          obtain ⟨n1, n2, n3⟩ := D.new a ha
          refine ⟨Fr.none n1, fun i hi => ?_, fun g => n3 (D.fr.g a (.inl g))⟩
          rcases FB.fn i a hi with q | q
          · obtain ⟨o, ho, _⟩ := S1.there q
            rw [n1] at ho; cases ho
          · by_cases z2 : ∃ j : Nat, l[j]? = some (some i)
            · obtain ⟨j, hj⟩ := z2
              rw [afterF_in hj fun j' hj' => nd j' j i hj' hj] at hi
              exact n2 j hi
            · rw [afterF_out fun j hj => z2 ⟨j, hj⟩] at hi
              obtain ⟨o, ho, _⟩ := S1.there hi
              rw [n1] at ho; cases ho
      · rw [if_neg ow] at h
        cases hlo : lendOut l outs (stillAt (borsOf xs) e1) with
        | none => simp only [hlo] at h; exact h.elim
        | some e2 =>
          simp only [hlo] at h
          obtain ⟨GS, fpS, SS, FS, KS, gS, eS⟩ := S1.still (borsOf xs)
          have heq : ∀ i ∈ l.filterMap id, (stillAt (borsOf xs) e1).at i = e1.at i := fun i hi => eS i fun z => al.bors i z hi
          have fresh : ∀ a ∈ bx, GS a ∨ ∀ i, a ∉ fpS i := fun a ha => by
            rcases (hb a ha).1 with ⟨i, h0, _, h2⟩ | h1 | ⟨_, h1⟩
            · exact .inl (gS i h0 a h2)
            · exact .inl (FS.g a h1)
            · refine .inr fun i hi => ?_
              obtain ⟨o, ho, _⟩ := (hb a ha).2
              rcases FS.fn i a hi with q | q
              · exact h1 i q
              · rw [ho] at q; cases q
          obtain ⟨ScS, hnonS⟩ := call_sim SS nd l1 l2 (fun a ha => ⟨(fresh a ha).imp id fun q j hj => by
            obtain ⟨i, _, hi⟩ := lentF_mem hj
            exact q i hi, (hb a ha).2⟩) fun j s hj => by
              obtain ⟨v, hv1, hh⟩ := hr2 (fun a => GS a ∨ a ∈ bx) (fun a g => .inl (FS.g a g)) (fun a g => .inr g) j s hj
              refine ⟨v, hv1, hh.imp id fun ⟨i, h1, h2, h3⟩ => ⟨i, h1, (heq i (lsl h1)).trans h2, h3⟩⟩
          refine ⟨as, _, _, ScS, hnonS, ?_⟩
          rw [hf]
          intro G' H' fb z fx D J' J''
          obtain ⟨S2, FB, KB⟩ := call_after (Gf := G') SS ScS nd D hlo (hv heq) (fun a g => D.fr.g a (.inl g)) (fun _ g => g) (fun j i s v hj r => r) (fun i a ha hn g => by
            rcases D.fr.gn a g with (q | q) | ⟨j, q⟩ | q
            · exact SS.ng i a ha q
            · rcases fresh a q with q | q
              · exact SS.ng i a ha q
              · exact q i ha
            · obtain ⟨i', hi', ha'⟩ := lentF_mem q
              obtain rfl := SS.dj i i' a ha ha'
              exact hn j hi'
            · obtain ⟨o, ho, _⟩ := SS.there ha
              rw [ho] at q; cases q)
          have F2 := Fr.trans S FS
          have FF := F2.trans S FB
          have KK := ((Keep.trans S F2 (Keep.trans S Fr Kp FS KS) FB KB).mono (ts := Xp.tch (.call f es l)) fun i hi => tsub i (by simpa using hi))
          refine h G' H' _ z ⟨fun a g => D.fr.g a (.inl (F2.g a g)), fun a g => ?_, FF.st, FF.fn, FF.al⟩ KK S2 J' (.new D.rep D.nd fun a ha => ?_)
          · rcases D.fr.gn a g with (q | q) | ⟨j, q⟩ | q
            · exact F2.gn a q
            · exact bxg a q
            · obtain ⟨i, _, ha⟩ := lentF_mem q
              rcases F2.fn i a ha with z | z
              · exact .inr (.inl ⟨i, z⟩)
              · exact .inr (.inr z)
            · exact .inr (.inr (Fr.none q))
          · obtain ⟨n1, n2, n3⟩ := D.new a ha
            refine ⟨Fr.none n1, fun i hi => ?_, n3⟩
            by_cases z2 : ∃ j : Nat, l[j]? = some (some i)
            · obtain ⟨j, hj⟩ := z2
              rw [afterF_in hj fun j' hj' => nd j' j i hj' hj] at hi
              exact n2 j hi
            · rw [afterF_out fun j hj => z2 ⟨j, hj⟩] at hi
              obtain ⟨o, ho, _⟩ := SS.there hi
              rw [n1] at ho; cases ho
end
end Ev
end
section
set_option linter.all false
set_option maxHeartbeats 1000000
namespace Ev
open PySem
def KeepV (ls ts : List Nat) (σ σ' : L2.St) : Prop := σ'.length = σ.length ∧ ∀ i, i ∈ ls ∨ i ∉ ts → σ'[i]? = σ[i]?
theorem KeepV.refl {ls ts : List Nat} {σ : L2.St} : KeepV ls ts σ σ := ⟨rfl, fun _ _ => rfl⟩
theorem KeepV.trans {ls t1 t2 : List Nat} {σ σ1 σ2 : L2.St} (a : KeepV ls t1 σ σ1) (b : KeepV ls t2 σ1 σ2) : KeepV ls (t1 ++ t2) σ σ2 := ⟨b.1.trans a.1, fun i hi => by
  have h1 : i ∈ ls ∨ i ∉ t1 := hi.imp id fun h z => h (List.mem_append_left _ z)
  have h2 : i ∈ ls ∨ i ∉ t2 := hi.imp id fun h z => h (List.mem_append_right _ z)
  exact (b.2 i h2).trans (a.2 i h1)⟩
theorem KeepV.mono {ls t1 t2 : List Nat} {σ σ' : L2.St} (a : KeepV ls t1 σ σ') (h : ∀ i, i ∈ t1 → i ∈ t2) : KeepV ls t2 σ σ' := ⟨a.1, fun i hi => a.2 i (hi.imp id fun q z => q (h i z))⟩
/-- what must hold behind a statement -/
def AftS (P : Prm) (ls ts : List Nat) (σ : L2.St) (G : GSet) (H : Hp) (fp : FpT) (q : Q) (D : L2.Ends) : Prop := match q with
  | .nx e' => ∀ σ' G' H' fp', Frm G H fp G' H' fp' → KeepH ts H fp H' → KeepV ls ts σ σ' → Sim P.K G' H' e' σ' fp' → Inj P.K H' → D.nx σ' H'
  | .brk e' => ∀ σ' G' H' fp', Frm G H fp G' H' fp' → KeepH ts H fp H' → KeepV ls ts σ σ' → Sim P.K G' H' e' σ' fp' → Inj P.K H' → D.bk σ' H'
  | .ct e' => ∀ σ' G' H' fp', Frm G H fp G' H' fp' → KeepH ts H fp H' → KeepV ls ts σ σ' → Sim P.K G' H' e' σ' fp' → Inj P.K H' → D.ct σ' H'
  | .ret k d e' => ∀ σ' G' H' fp' v fx, Frm G H fp G' H' fp' → KeepH ts H fp H' → KeepV ls ts σ σ' → Sim P.K G' H' e' σ' fp' → Inj P.K H' → Rep P.K G' H' k d v fx → fx.Nodup →
      (∀ a ∈ fx, ((∃ i, i ∉ ls ∧ a ∈ fp i) ∨ H a = none) ∧ (∀ i, a ∉ fp' i) ∧ ¬ G' a) → D.rt v H'
  | .rs c x => ∀ σ' G' H' fp' dx v, Frm G H fp G' H' fp' → KeepH ts H fp H' → KeepV ls ts σ σ' → H' dx = some (.xd [(P.fld c, v)]) → Rep P.K G' H' 0 x v [] → (∀ a, G' a → ∃ o, H' a = some o ∧ L2.Mut (some o)) → P.W (.ref (P.adr c)) (some dx) σ' H'
  | .bad _ => False
section
variable {P : Prm} {ls ts ts1 ts2 : List Nat} {σ σ1 : L2.St} {G G1 : GSet} {H H1 : Hp} {fp fp1 : FpT} {e e1 : Ls} {q : Q} {D D' : L2.Ends}
theorem AftS.shift (h : AftS P ls ts σ G H fp q D) (m : ∀ i, i ∈ ts1 ++ ts2 → i ∈ ts) (S : Sim P.K G H e σ fp) (F : Frm G H fp G1 H1 fp1) (k : KeepH ts1 H fp H1) (v : KeepV ls ts1 σ σ1) : AftS P ls ts2 σ1 G1 H1 fp1 q D := by
  cases q with
  | nx e' => exact fun σ' G' H' fp' F' k' v' S' J' => h σ' G' H' fp' (F.trans S F') ((KeepH.trans S F k F' k').mono m) ((v.trans v').mono m) S' J'
  | brk e' => exact fun σ' G' H' fp' F' k' v' S' J' => h σ' G' H' fp' (F.trans S F') ((KeepH.trans S F k F' k').mono m) ((v.trans v').mono m) S' J'
  | ct e' => exact fun σ' G' H' fp' F' k' v' S' J' => h σ' G' H' fp' (F.trans S F') ((KeepH.trans S F k F' k').mono m) ((v.trans v').mono m) S' J'
  | ret kk d e' =>
    exact fun σ' G' H' fp' z fx F' k' v' S' J' r nd hx => h σ' G' H' fp' z fx (F.trans S F') ((KeepH.trans S F k F' k').mono m) ((v.trans v').mono m) S' J' r nd fun a ha => by
      refine ⟨?_, (hx a ha).2⟩
      rcases (hx a ha).1 with ⟨i, hi, h1⟩ | h1
      · rcases F.fn i a h1 with z | z
        · exact .inl ⟨i, hi, z⟩
        · exact .inr z
      · exact .inr (F.none h1)
  | rs c x => exact fun σ' G' H' fp' dx z F' k' v' hx r gs => h σ' G' H' fp' dx z (F.trans S F') ((KeepH.trans S F k F' k').mono m) ((v.trans v').mono m) hx r gs
  | bad m' => exact h
theorem AftS.ends (h : AftS P ls ts σ G H fp q D) (h1 : ∀ σ H, D.nx σ H → D'.nx σ H) (h2 : ∀ v H, D.rt v H → D'.rt v H) (h3 : ∀ σ H, D.bk σ H → D'.bk σ H) (h4 : ∀ σ H, D.ct σ H → D'.ct σ H) : AftS P ls ts σ G H fp q D' := by
  cases q with
  | nx e' => exact fun σ' G' H' fp' F' k' v' S' J' => h1 _ _ (h σ' G' H' fp' F' k' v' S' J')
  | brk e' => exact fun σ' G' H' fp' F' k' v' S' J' => h3 _ _ (h σ' G' H' fp' F' k' v' S' J')
  | ct e' => exact fun σ' G' H' fp' F' k' v' S' J' => h4 _ _ (h σ' G' H' fp' F' k' v' S' J')
  | ret kk d e' => exact fun σ' G' H' fp' z fx F' k' v' S' J' r nd hx => h2 _ _ (h σ' G' H' fp' z fx F' k' v' S' J' r nd hx)
  | rs c x => exact h
  | bad m' => exact h
end
section
variable (P : Prm) (F : Nat → List Sl → CR) (T : Tb) (Gt : Nat → (Ls → R Vw) → Ls → R Vw) (th : Option (Ls × (Ls → R Vw))) (ls : List Nat) (fuel : Nat)
def TS1 (s : Sm) : L2.TS := fun D σ H => ∃ e G fp, Sim P.K G H e σ fp ∧ AftS P ls s.sets σ G H fp (exec F T Gt th ls fuel s e) D
def TSs (ss : List Sm) : L2.TS := fun D σ H => ∃ e G fp, Sim P.K G H e σ fp ∧ AftS P ls (Sm.setss ss) σ G H fp (execs F T Gt th ls fuel ss e) D
end
section
variable {P : Prm} {F : Nat → List Sl → CR} {T : Tb} {Gt : Nat → (Ls → R Vw) → Ls → R Vw} {th : Option (Ls × (Ls → R Vw))} {ls : List Nat} {fuel : Nat} {σ : L2.St} {H : Hp} {D : L2.Ends}
theorem tss_cons {s : Sm} {ss : List Sm} (h : TSs P F T Gt th ls fuel (s :: ss) D σ H) : TS1 P F T Gt th ls fuel s { D with nx := fun σ' H' => Inj P.K H' → TSs P F T Gt th ls fuel ss D σ' H' } σ H := by
  obtain ⟨e, G, fp, S, h⟩ := h
  simp only [execs] at h
  refine ⟨e, G, fp, S, ?_⟩
  have m1 : ∀ i, i ∈ s.sets → i ∈ Sm.setss (s :: ss) := fun i hi => by simp only [Sm.setss]; exact List.mem_append_left _ hi
  cases hq : exec F T Gt th ls fuel s e with
  | nx e' =>
    rw [hq] at h
    intro σ' G' H' fp' F' k' v' S' J' _
    exact ⟨e', G', fp', S', AftS.shift h (fun i hi => by simpa only [Sm.setss] using hi) S F' k' v'⟩
  | brk e' => rw [hq] at h; exact fun σ' G' H' fp' F' k' v' S' J' => h σ' G' H' fp' F' (k'.mono m1) (v'.mono m1) S' J'
  | ct e' => rw [hq] at h; exact fun σ' G' H' fp' F' k' v' S' J' => h σ' G' H' fp' F' (k'.mono m1) (v'.mono m1) S' J'
  | ret kk d e' => rw [hq] at h; exact fun σ' G' H' fp' z fx F' k' v' S' J' r nd hx => h σ' G' H' fp' z fx F' (k'.mono m1) (v'.mono m1) S' J' r nd hx
  | rs c x => rw [hq] at h; exact fun σ' G' H' fp' dx z F' k' v' hx r gs => h σ' G' H' fp' dx z F' (k'.mono m1) (v'.mono m1) hx r gs
  | bad m' => rw [hq] at h; exact h
end
end Ev
end
section
set_option linter.all false
set_option maxHeartbeats 1000000
namespace Ev
open PySem
mutual
theorem put_ls : ∀ (t : Tg) {k : Nat} {d : D} {ls : List Nat} {e e' : Ls}, t.put k d ls e = some e' → ∀ i ∈ t.slots, i ∉ ls
  | .v i n, k, d, ls, e, e', h, j, hj => by
    simp only [Tg.put] at h
    split at h
    · cases h
    · rename_i hc
      simp only [Tg.slots, List.mem_singleton] at hj
      subst hj
      simp only [Bool.or_eq_true, not_or, List.contains_eq_mem, decide_eq_true_eq] at hc
      exact hc.1
  | .tup ts, k, d, ls, e, e', h, j, hj => by
    simp only [Tg.put] at h
    split at h
    · exact puts_ls ts h j (by simpa only [Tg.slots] using hj)
    · cases h
theorem puts_ls : ∀ (ts : List Tg) {k : Nat} {ds : List D} {ls : List Nat} {e e' : Ls}, Tg.puts ts k ds ls e = some e' → ∀ i ∈ Tg.slotss ts, i ∉ ls
  | [], k, ds, ls, e, e', h, j, hj => by simp [Tg.slotss] at hj
  | _ :: _, k, [], ls, e, e', h, j, hj => by simp [Tg.puts] at h
  | t :: ts, k, d :: ds, ls, e, e', h, j, hj => by
    simp only [Tg.puts, Option.bind_eq_some_iff] at h
    obtain ⟨e1, h1, h2⟩ := h
    simp only [Tg.slotss] at hj
    rcases List.mem_append.mp hj with q | q
    · exact put_ls t h1 j q
    · exact puts_ls ts h2 j q
end
section
variable {P : Prm} {F : Nat → List Sl → CR} {T : Tb} {Gt : Nat → (Ls → R Vw) → Ls → R Vw} {th : Option (Ls × (Ls → R Vw))} {ls ts ts1 : List Nat} {fuel : Nat} {σ : L2.St} {H : Hp} {D : L2.Ends} {G : GSet} {fp : FpT} {e : Ls} {α β : Type}
theorem AftS.first {r : R α} {f : α → Ls → Q} {Ok : α → Ls → GSet → Hp → FpT → β → Prop} {Q' : β → Hp → Prop} (h : AftS P ls ts σ G H fp (toQ r f) D) (m : ∀ i, i ∈ ts1 → i ∈ ts)
    (k : ∀ a e1 G1 H1 fp1 b, r = .ok a e1 → Frm G H fp G1 H1 fp1 → Keep ts1 e H fp e1 H1 → Sim P.K G1 H1 e1 σ fp1 → Inj P.K H1 → Ok a e1 G1 H1 fp1 b → Q' b H1) : Aft P ts1 σ e G H fp r Ok Q' := by
  cases r with
  | ok a e1 => exact fun G1 H1 fp1 b F Kp S J o => k a e1 G1 H1 fp1 b rfl F Kp S J o
  | rs c x => exact fun G' H' fp' dx v F Kp hx r gs => h σ G' H' fp' dx v F (Kp.mono m) .refl hx r gs
  | bad s => exact h
/-- what was put, seen from the start -/
theorem Put.from {σ' : L2.St} {G2 G' : GSet} {H1 : Hp} {fp2 fp' : FpT} {e2 e' : Ls} {sl : List Nat} {fx : List Addr} (F2 : Frm G H fp G2 H1 fp2) (p : Put P.K sl fx G2 H1 e2 σ fp2 e' G' σ' fp') (hx : ∀ a ∈ fx, H a = none) : Frm G H fp G' H1 fp' where
  g := fun a g => p.g a (F2.g a g)
  gn := fun a g => by
    rcases p.gn a g with q | q
    · exact F2.gn a q
    · exact .inr (.inr (hx a q))
  st := F2.st
  fn := fun i a h => by
    rcases p.fn i a h with q | q
    · exact F2.fn i a q
    · exact .inr (hx a q)
  al := F2.al
theorem ts_set {t : Tg} {x : Xp} (hn : ∀ ts es, t = .tup ts → x ≠ .tup es) (J : Inj P.K H) (h : TS1 P F T Gt th ls fuel (.set t x) D σ H) : L2.tAsg (inj P.K (TEs P F T Gt th x)) (gOf P.K t) { D with nx := fun σ' H' => Inj P.K H' → D.nx σ' H' } σ H := by
  obtain ⟨e, G, fp, S, h⟩ := h
  have h' : AftS P ls (Sm.sets (.set t x)) σ G H fp (toQ (ev F T Gt th x e) fun v e => match t.put (asO v e).1.k (asO v e).1.d ls (asO v e).2 with
      | some e => .nx e
      | none => .bad "assign") D := by
    cases t with
    | v i n => simp only [exec] at h; exact h
    | tup ts =>
      cases x with
      | tup es => exact absurd rfl (hn ts es rfl)
      | _ => simp only [exec] at h; exact h
  refine ⟨e, G, fp, S, AftS.first h' (fun i hi => by simp only [Sm.sets]; exact List.mem_append_right _ hi) fun w e1 G1 H1 fp1 v hr Fr Kp S1 J1 o _ => ?_⟩
  rw [hr] at h'
  obtain ⟨G2, fp2, fx, F2, K2, S2, r2, nd, hx⟩ := asO_ok S Fr Kp S1 J1 o
  have h2 : AftS P ls (Sm.sets (.set t x)) σ G H fp (match t.put (asO w e1).1.k (asO w e1).1.d ls (asO w e1).2 with
      | some e => .nx e
      | none => .bad "assign") D := h'
  cases hp : t.put (asO w e1).1.k (asO w e1).1.d ls (asO w e1).2 with
  | none => rw [hp] at h2; exact h2.elim
  | some e' =>
    rw [hp] at h2
    refine gOf_imp t (tg_put t hp S2 r2 nd fun a ha => (hx a ha).2) fun σ' H' ⟨eH, G', fp', p⟩ J' => ?_
    rw [eH] at J' ⊢
    refine h2 σ' G' H1 fp' (Put.from F2 p fun a ha => (hx a ha).1) (K2.h.mono fun i hi => by simp only [Sm.sets]; exact List.mem_append_right _ hi) ⟨?_, fun i hi => ?_⟩ p.s J'
    · rw [← p.s.len, put_len t hp, S2.len]
    · refine (p.k i fun z => ?_).2.2
      rcases hi with q | q
      · exact put_ls t hp i z q
      · exact q (by simp only [Sm.sets]; exact List.mem_append_left _ z)
theorem ts_ex {x : Xp} (h : TS1 P F T Gt th ls fuel (.ex x) D σ H) : L2.tDrop (inj P.K (TEs P F T Gt th x)) D σ H := by
  obtain ⟨e, G, fp, S, h⟩ := h
  simp only [exec] at h
  refine ⟨e, G, fp, S, AftS.first h (fun i hi => by simpa only [Sm.sets] using hi) fun w e1 G1 H1 fp1 v hr Fr Kp S1 J1 o _ => ?_⟩
  rw [hr] at h
  exact h σ G1 H1 fp1 Fr (Kp.h.mono fun i hi => by simpa only [Sm.sets] using hi) .refl S1 J1
theorem ts_ite {c : Xp} {a b : List Sm} (h : TS1 P F T Gt th ls fuel (.ite c a b) D σ H) : L2.tIfS (TTs P F T Gt th c) (TSs P F T Gt th ls fuel a) (TSs P F T Gt th ls fuel b) D σ H := by
  obtain ⟨e, G, fp, S, h⟩ := h
  simp only [exec] at h
  refine ⟨e, G, fp, S, AftS.first h (fun i hi => by simp only [Sm.sets]; exact List.mem_append_left _ (List.mem_append_left _ hi)) fun t e1 G1 H1 fp1 b' hr Fr Kp S1 J1 o => ?_⟩
  subst o
  rw [hr] at h
  cases b' with
  | true =>
    rw [if_pos rfl]
    exact ⟨e1, G1, fp1, S1, AftS.shift h (fun i hi => by simp only [Sm.sets]; exact List.mem_append_left _ hi) S Fr Kp.h .refl⟩
  | false =>
    rw [if_neg Bool.false_ne_true]
    exact ⟨e1, G1, fp1, S1, AftS.shift h (fun i hi => by
      simp only [Sm.sets]
      rcases List.mem_append.mp hi with q | q
      · exact List.mem_append_left _ (List.mem_append_left _ q)
      · exact List.mem_append_right _ q) S Fr Kp.h .refl⟩
end
end Ev
end
section
set_option linter.all false
set_option maxHeartbeats 1000000
namespace Ev
open PySem
section
variable {P : Prm} {F : Nat → List Sl → CR} {T : Tb} {Gt : Nat → (Ls → R Vw) → Ls → R Vw} {th : Option (Ls × (Ls → R Vw))} {ls ts ts1 : List Nat} {fuel : Nat} {σ : L2.St} {H : Hp} {D : L2.Ends} {G : GSet} {fp : FpT} {e : Ls} {α β : Type}
theorem AftS.mono {q : Q} (h : AftS P ls ts1 σ G H fp q D) (m : ∀ i, i ∈ ts → i ∈ ts1) : AftS P ls ts σ G H fp q D := by
  cases q with
  | nx e' => exact fun σ' G' H' fp' F' k' v' S' J' => h σ' G' H' fp' F' (k'.mono m) (v'.mono m) S' J'
  | brk e' => exact fun σ' G' H' fp' F' k' v' S' J' => h σ' G' H' fp' F' (k'.mono m) (v'.mono m) S' J'
  | ct e' => exact fun σ' G' H' fp' F' k' v' S' J' => h σ' G' H' fp' F' (k'.mono m) (v'.mono m) S' J'
  | ret kk d e' => exact fun σ' G' H' fp' z fx F' k' v' S' J' r nd hx => h σ' G' H' fp' z fx F' (k'.mono m) (v'.mono m) S' J' r nd hx
  | rs c x => exact fun σ' G' H' fp' dx z F' k' v' hx r gs => h σ' G' H' fp' dx z F' (k'.mono m) (v'.mono m) hx r gs
  | bad m' => exact h
theorem ts_for {t : Tg} {it : It} {b : List Sm} (h : TS1 P F T Gt th ls fuel (.for t it b) D σ H) : L2.tFor (TIs P F T Gt th it) (gOf P.K t) (TSs P F T Gt th ls fuel b) D σ H := by
  obtain ⟨e, G, fp, S, h⟩ := h
  simp only [exec] at h
  refine ⟨e, G, fp, S, AftS.first h (fun i hi => by simp only [Sm.sets]; exact List.mem_append_left _ (List.mem_append_right _ hi)) fun ds e0 G1 H1 fp1 J hr Fr Kp S1 J1 feeds => ?_⟩
  rw [hr] at h
  have h2 : AftS P ls (Sm.sets (.for t it b)) σ G H fp (if ds.2.any (t.slots ++ Sm.setss b).contains then .bad "changed while gone through" else forL (fun e => execs F T Gt th ls fuel b e) (fun d e => t.put 0 d ls e) ds.1 e0) D := h
  by_cases hc : ds.2.any (t.slots ++ Sm.setss b).contains = true
  · rw [if_pos hc] at h2; exact h2.elim
  rw [if_neg hc] at h2
  have hlk : ∀ i ∈ ds.2, i ∉ t.slots ++ Sm.setss b := fun i hi z => hc (List.any_eq_true.mpr ⟨i, hi, by simpa using z⟩)
  generalize hq : forL (fun e => execs F T Gt th ls fuel b e) (fun d e => t.put 0 d ls e) ds.1 e0 = q at h2
  let TT := t.slots ++ Sm.setss b
  have hb : AftS P ls TT σ G1 H1 fp1 q D := AftS.shift (ts1 := it.tch) h2 (fun i hi => by
    simp only [Sm.sets]
    rcases List.mem_append.mp hi with z | z
    · exact List.mem_append_left _ (List.mem_append_right _ z)
    · rcases List.mem_append.mp z with z | z
      · exact List.mem_append_left _ (List.mem_append_left _ z)
      · exact List.mem_append_right _ z) S Fr Kp.h .refl
  refine ⟨fun i m σ' Hn => m = ds.1.length - i ∧ i ≤ ds.1.length ∧ Inj P.K Hn ∧ ∃ eb Gb fpb, forL (fun e => execs F T Gt th ls fuel b e) (fun d e => t.put 0 d ls e) (ds.1.drop i) eb = q ∧ Sim P.K Gb Hn eb σ' fpb ∧ Frm G1 H1 fp1 Gb Hn fpb ∧ KeepH TT H1 fp1 Hn ∧ KeepV ls TT σ σ',
    ⟨_, rfl, Nat.zero_le _, J1, e0, G1, fp1, by simpa using hq, S1, Frm.refl S1, fun _ _ _ _ => rfl, .refl⟩, fun i m σ' Hn ⟨hm, hi, Jn, eb, Gb, fpb, hf, S0, F0, K0, V0⟩ => ?_⟩
  have gv := feeds Gb Hn fpb TT F0 hlk K0
  by_cases hend : i = ds.1.length
  · refine .inl ⟨by rw [hend]; exact gv.stop, ?_⟩
    rw [hend, List.drop_length] at hf
    simp only [forL] at hf
    rw [← hf] at hb
    exact hb σ' Gb Hn fpb F0 K0 V0 S0 Jn
  · have hlt : i < ds.1.length := by omega
    refine .inr ⟨gv.go i hlt, fun σ2 H2 => ∃ m', m' < m ∧ m' = ds.1.length - (i + 1) ∧ i + 1 ≤ ds.1.length ∧ Inj P.K H2 ∧ ∃ eb Gb fpb, forL (fun e => execs F T Gt th ls fuel b e) (fun d e => t.put 0 d ls e) (ds.1.drop (i + 1)) eb = q ∧ Sim P.K Gb H2 eb σ2 fpb ∧ Frm G1 H1 fp1 Gb H2 fpb ∧ KeepH TT H1 fp1 H2 ∧ KeepV ls TT σ σ2,
      fun _ _ z => z, fun x H' hy => ?_⟩
    obtain ⟨ext, d, hd, rd⟩ := gv.yld i x H' hlt hy
    have hdrop : ds.1.drop i = d :: ds.1.drop (i + 1) := by
      rw [List.drop_eq_getElem_cons hlt]
      have := List.getElem?_eq_getElem hlt
      rw [hd] at this
      injection this with this
      rw [← this]
    rw [hdrop] at hf
    simp only [forL] at hf
    cases hput : t.put 0 d ls eb with
    | none => rw [hput] at hf; rw [← hf] at hb; exact hb.elim
    | some e1 =>
      rw [hput] at hf
      dsimp only at hf
      obtain ⟨S2, F2, K2⟩ := S0.ext ext
      refine gOf_imp t (tg_put t hput S2 rd List.nodup_nil fun a h => by cases h) fun σ2 Hx ⟨eH, G3, fp3, pu⟩ => ?_
      rw [eH]
      have B2 := F0.trans S1 F2
      have B3 := B2.trans S1 pu.frm
      have K3 : KeepH TT H1 fp1 H' := (KeepH.trans S1 B2 (KeepH.trans S1 F0 K0 F2 K2.h) pu.frm (ts2 := []) fun _ _ _ _ => rfl).mono (by simp)
      have V3 : KeepV ls TT σ σ2 := by
        refine ⟨?_, fun j hj => ?_⟩
        · rw [← pu.s.len, put_len t hput, S0.len]; exact V0.1
        · rw [(pu.k j fun z => ?_).2.2]
          · exact V0.2 j hj
          · rcases hj with y | y
            · exact put_ls t hput j z y
            · exact y (List.mem_append_left _ z)
      have mb : ∀ j, j ∈ TT ++ Sm.setss b → j ∈ TT := fun j hj => by
        rcases List.mem_append.mp hj with z | z
        · exact z
        · exact List.mem_append_right _ z
      have next : ∀ {e' : Ls}, forL (fun e => execs F T Gt th ls fuel b e) (fun d e => t.put 0 d ls e) (ds.1.drop (i + 1)) e' = q → ∀ σ4 G4 H4 fp4, Frm G3 H' fp3 G4 H4 fp4 → KeepH (Sm.setss b) H' fp3 H4 → KeepV ls (Sm.setss b) σ2 σ4 → Sim P.K G4 H4 e' σ4 fp4 → Inj P.K H4 →
          ∃ m', m' < m ∧ m' = ds.1.length - (i + 1) ∧ i + 1 ≤ ds.1.length ∧ Inj P.K H4 ∧ ∃ eb Gb fpb, forL (fun e => execs F T Gt th ls fuel b e) (fun d e => t.put 0 d ls e) (ds.1.drop (i + 1)) eb = q ∧ Sim P.K Gb H4 eb σ4 fpb ∧ Frm G1 H1 fp1 Gb H4 fpb ∧ KeepH TT H1 fp1 H4 ∧ KeepV ls TT σ σ4 :=
        fun {e'} he σ4 G4 H4 fp4 F4 k4 v4 S4 J4 => ⟨_, by omega, rfl, by omega, J4, e', G4, fp4, he, S4, B3.trans S1 F4, (KeepH.trans S1 B3 K3 F4 k4).mono mb, (V3.trans v4).mono mb⟩
      have sh : AftS P ls (Sm.setss b) σ2 G3 H' fp3 q D := AftS.shift (ts1 := TT) (ts2 := Sm.setss b) hb mb S1 B3 K3 V3
      refine ⟨e1, G3, fp3, pu.s, ?_⟩
      cases hx : execs F T Gt th ls fuel b e1 with
      | nx e' => rw [hx] at hf; exact next hf
      | ct e' => rw [hx] at hf; exact next hf
      | brk e' => rw [hx] at hf; rw [← hf] at sh; exact fun σ4 G4 H4 fp4 F4 k4 v4 S4 J4 => sh σ4 G4 H4 fp4 F4 k4 v4 S4 J4
      | ret kk d' e' => rw [hx] at hf; rw [← hf] at sh; exact sh
      | rs c x => rw [hx] at hf; rw [← hf] at sh; exact sh
      | bad m' => rw [hx] at hf; rw [← hf] at sh; exact sh
end
end Ev
end
section
set_option linter.all false
set_option maxHeartbeats 1000000
namespace Ev
open PySem
theorem PAt.nil_inv {K : PySem.W.Frag} {H : Hp} {d d' : D} {v v' : V} (h : PAt K H d v [] d' v') : d' = d ∧ v' = v := by
  cases h
  exact ⟨rfl, rfl⟩
/-- a value that is handed back -/
def OkR (K : PySem.W.Frag) (ls : List Nat) (H0 : Hp) (fp0 : FpT) (s : Sl) (G : GSet) (H : Hp) (fp : FpT) (v : V) : Prop := ∃ fx, Rep K G H s.k s.d v fx ∧ fx.Nodup ∧ ∀ a ∈ fx, ((∃ i, i ∉ ls ∧ a ∈ fp0 i) ∨ H0 a = none) ∧ (∀ i, a ∉ fp i) ∧ ¬ G a
section
variable {P : Prm} {F : Nat → List Sl → CR} {T : Tb} {Gt : Nat → (Ls → R Vw) → Ls → R Vw} {th : Option (Ls × (Ls → R Vw))} {ls ts ts1 : List Nat} {fuel : Nat} {σ : L2.St} {H : Hp} {D : L2.Ends} {G : GSet} {fp : FpT} {e : Ls} {α β : Type}
/-- a slot's thing moves out -/
theorem Sim.out {K : PySem.W.Frag} (S : Sim K G H e σ fp) (i : Nat) : Sim K G H (e.set i none) σ (fun j => if j = i then [] else fp j) ∧ Frm G H fp G H (fun j => if j = i then [] else fp j) ∧ Keep [i] e H fp (e.set i none) H := by
  have ne : ∀ j, j ≠ i → Ls.at (e.set i none) j = e.at j := fun j hj => by
    unfold Ls.at; rw [List.getElem?_set_ne (Ne.symm hj)]
  have eqn : Ls.at (e.set i none) i = none := by
    unfold Ls.at
    by_cases h : i < e.length
    · rw [List.getElem?_set_self h]; rfl
    · rw [List.getElem?_eq_none (by rw [List.length_set]; omega)]; rfl
  refine ⟨⟨by rw [List.length_set, S.len], fun j s hs => ?_, fun j hj => ?_, fun j => ?_, fun j k a h1 h2 => ?_, fun j a h1 h2 => ?_, S.gs⟩, ⟨fun _ g => g, fun _ g => .inl g, fun _ _ h _ _ => h, fun j a h => ?_, fun _ h => h⟩, ⟨fun _ _ _ _ => rfl, fun j hj => .inl (ne j fun z => hj (by simp [z]))⟩⟩
  · by_cases q : j = i
    · subst q; rw [eqn] at hs; cases hs
    · rw [ne j q] at hs
      rw [if_neg q]; exact S.rep j s hs
  · by_cases q : j = i
    · rw [if_pos q]
    · rw [ne j q] at hj; rw [if_neg q]; exact S.nil j hj
  · by_cases q : j = i
    · rw [if_pos q]; exact List.nodup_nil
    · rw [if_neg q]; exact S.nd j
  · by_cases q : j = i
    · simp [q] at h1
    · by_cases q2 : k = i
      · simp [q2] at h2
      · simp only [if_neg q] at h1; simp only [if_neg q2] at h2
        exact S.dj j k a h1 h2
  · by_cases q : j = i
    · simp [q] at h1
    · simp only [if_neg q] at h1; exact S.ng j a h1 h2
  · by_cases q : j = i
    · simp [q] at h
    · simp only [if_neg q] at h; exact .inl h
/-- the reading of what is handed back, not a pair -/
def TR1 (P : Prm) (F : Nat → List Sl → CR) (T : Tb) (Gt : Nat → (Ls → R Vw) → Ls → R Vw) (th : Option (Ls × (Ls → R Vw))) (ls : List Nat) (x : Xp) : L2.TE := fun σ H Q => ∃ e G fp, Sim P.K G H e σ fp ∧ Aft P (x.tch ++ x.vars) σ e G H fp (evR1 F T Gt th ls x e) (fun s _ G' H' fp' v => OkR P.K ls H fp s G' H' fp' v) Q
theorem tr1_of {Q : V → Hp → Prop} {x : Xp} {X : L2.Cx} {ex : Expr} {adr : Nat → Addr} {fld : Nat → Str} {W : L2.WX} (hx : L2.PE X ex (inj X.K (TEs ⟨X.K, W, adr, fld⟩ F T Gt th x))) : L2.PE X ex (TR1 ⟨X.K, W, adr, fld⟩ F T Gt th ls x) := pe_wr hx fun σ H Q J ⟨e, G, fp, S, h⟩ => by
  have gen : (evR1 F T Gt th ls x e = (ev F T Gt th x e).bind fun v e => R.ok (asO v e).1 (asO v e).2) → inj X.K (TEs ⟨X.K, W, adr, fld⟩ F T Gt th x) σ H fun v H' => Inj X.K H' → Q v H' := fun he => by
    rw [he] at h
    refine ⟨e, G, fp, S, Aft.first h (fun i hi => List.mem_append_left _ hi) fun w e1 G1 H1 fp1 v hr Fr Kp S1 J1 o _ J' => ?_⟩
    rw [hr, R.bind_ok] at h
    obtain ⟨G2, fp2, fx, F2, K2, S2, r2, nd, hx⟩ := asO_ok S Fr Kp S1 J1 o
    exact h G2 H1 fp2 v F2 (K2.mono fun i hi => List.mem_append_left _ hi) S2 J1 ⟨fx, r2, nd, fun a ha => ⟨.inr (hx a ha).1, (hx a ha).2⟩⟩
  cases x with
  | v i =>
    cases hs : e.at i with
    | none => simp only [evR1, hs] at h; exact h.elim
    | some s =>
      by_cases hk : (s.k = 0 || ls.contains i) = true
      · exact gen (by simp only [evR1, hs]; rw [if_pos hk])
      · simp only [evR1, hs] at h
        rw [if_neg hk] at h
        refine ⟨e, G, fp, S, ?_⟩
        simp only [ev, hs]
        intro G1 H1 fp1 v Fr Kp S1 J1 ⟨s1, v0, q1, q2, q3⟩ _ J'
        rw [hs] at q1
        cases q1
        obtain ⟨_, rfl⟩ := PAt.nil_inv q3
        obtain ⟨v', hv', r⟩ := S1.rep i s hs
        rw [q2] at hv'; cases hv'
        obtain ⟨S2, F2, K2⟩ := S1.out i
        have hil : i ∉ ls := fun z => hk (by simp [z])
        refine h G1 H1 _ v (Fr.trans S F2) ((Keep.trans S Fr Kp F2 K2).mono fun j hj => by simpa [Xp.tch, Xp.vars] using hj) S2 J1 ⟨fp1 i, r, S1.nd i, fun a ha => ⟨?_, fun j hj => ?_, S1.ng i a ha⟩⟩
        · rcases Fr.fn i a ha with z | z
          · exact .inl ⟨i, hil, z⟩
          · exact .inr z
        · by_cases q : j = i
          · simp [q] at hj
          · simp only [if_neg q] at hj
            exact q (S1.dj j i a hj ha)
  | _ => exact gen rfl
end
end Ev
end
section
set_option linter.all false
set_option maxHeartbeats 1000000
namespace Ev
open PySem
/-- values that are handed back -/
def OkRs (K : PySem.W.Frag) (ls : List Nat) (H0 : Hp) (fp0 : FpT) (ss : List Sl) (G : GSet) (H : Hp) (fp : FpT) (vs : List V) : Prop := ∃ fx, Own K G H ss vs fx ∧ fx.Nodup ∧ ∀ a ∈ fx, ((∃ i, i ∉ ls ∧ a ∈ fp0 i) ∨ H0 a = none) ∧ (∀ i, a ∉ fp i) ∧ ¬ G a
section
variable {P : Prm} {F : Nat → List Sl → CR} {T : Tb} {Gt : Nat → (Ls → R Vw) → Ls → R Vw} {th : Option (Ls × (Ls → R Vw))} {ls ts ts1 : List Nat} {fuel : Nat} {σ : L2.St} {H : Hp} {D : L2.Ends} {G : GSet} {fp : FpT} {e : Ls} {α β : Type}
def TRs (P : Prm) (F : Nat → List Sl → CR) (T : Tb) (Gt : Nat → (Ls → R Vw) → Ls → R Vw) (th : Option (Ls × (Ls → R Vw))) (ls : List Nat) (xs : List Xp) : L2.TA := fun σ H Q => ∃ e G fp, Sim P.K G H e σ fp ∧ Aft P (Xp.tchs xs ++ Xp.varss xs) σ e G H fp (evRs F T Gt th ls xs e) (fun s _ G' H' fp' v => OkRs P.K ls H fp s G' H' fp' v) Q
theorem trs_nil {Q : List V → Hp → Prop} (J : Inj P.K H) (h : TRs P F T Gt th ls [] σ H Q) : Q [] H := by
  obtain ⟨e, G, fp, S, h⟩ := h
  exact h G H fp [] (Frm.refl S) .refl S J ⟨[], .nil, List.nodup_nil, fun a h => by cases h⟩
theorem trs_cons {Q : List V → Hp → Prop} {x : Xp} {xs : List Xp} (h : TRs P F T Gt th ls (x :: xs) σ H Q) : inj P.K (TR1 P F T Gt th ls x) σ H fun v H1 => TRs P F T Gt th ls xs σ H1 fun vs H2 => Q (v :: vs) H2 := by
  obtain ⟨e, G, fp, S, h⟩ := h
  simp only [evRs] at h
  have m1 : ∀ i, i ∈ x.tch ++ x.vars → i ∈ Xp.tchs (x :: xs) ++ Xp.varss (x :: xs) := fun i hi => by
    simp only [Xp.tchs, Xp.varss]
    rcases List.mem_append.mp hi with q | q
    · exact List.mem_append_left _ (List.mem_append_left _ q)
    · exact List.mem_append_right _ (List.mem_append_left _ q)
  have m2 : ∀ i, i ∈ Xp.tchs xs ++ Xp.varss xs → i ∈ Xp.tchs (x :: xs) ++ Xp.varss (x :: xs) := fun i hi => by
    simp only [Xp.tchs, Xp.varss]
    rcases List.mem_append.mp hi with q | q
    · exact List.mem_append_left _ (List.mem_append_right _ q)
    · exact List.mem_append_right _ (List.mem_append_right _ q)
  refine ⟨e, G, fp, S, Aft.first h m1 fun s e1 G1 H1 fp1 v hr Fr Kp S1 J1 ⟨fx, r, nd, hx⟩ _ => ?_⟩
  rw [hr, R.bind_ok] at h
  have hs := Aft.shift (ts1 := x.tch ++ x.vars) (ts2 := Xp.tchs xs ++ Xp.varss xs) h (fun i hi => by
    rcases List.mem_append.mp hi with q | q
    · exact m1 i q
    · exact m2 i q) S Fr Kp fun _ _ _ _ _ _ o _ => o
  refine ⟨e1, G1, fp1, S1, Aft.first hs (fun _ hi => hi) fun ss e2 G2 H2 fp2 vs hr2 F2 K2 S2 J2 ⟨fy, ow, ndy, hy⟩ => ?_⟩
  rw [hr2, R.bind_ok] at hs
  have al : ∀ a ∈ fx, ∃ o, H1 a = some o ∧ L2.Mut (some o) := r.there
  refine hs G2 H2 fp2 (v :: vs) F2 K2 S2 J2 ⟨fx ++ fy, .cons (r.keep F2.g (F2.stays S1) fun a ha => ?_) ow, List.nodup_append.mpr ⟨nd, ndy, fun a ha b hb q => ?_⟩, fun a ha => ?_⟩
  · obtain ⟨o, ho, hm⟩ := al a ha
    rw [ho]; exact F2.st a o ho (hx a ha).2.1 (mut_tbl hm)
  · subst q
    rcases (hy a hb).1 with ⟨i, _, z⟩ | z
    · exact (hx a ha).2.1 i z
    · obtain ⟨o, ho, _⟩ := al a ha
      rw [ho] at z; cases z
  · rcases List.mem_append.mp ha with q | q
    · refine ⟨(hx a q).1, fun i hi => ?_, fun g => ?_⟩
      · rcases F2.fn i a hi with z | z
        · exact (hx a q).2.1 i z
        · obtain ⟨o, ho, _⟩ := al a q
          rw [ho] at z; cases z
      · rcases F2.gn a g with z | ⟨i, z⟩ | z
        · exact (hx a q).2.2 z
        · exact (hx a q).2.1 i z
        · obtain ⟨o, ho, _⟩ := al a q
          rw [ho] at z; cases z
    · refine ⟨?_, (hy a q).2⟩
      rcases (hy a q).1 with ⟨i, hi, z⟩ | z
      · rcases Fr.fn i a z with y | y
        · exact .inl ⟨i, hi, y⟩
        · exact .inr y
      · exact .inr (Fr.none z)
theorem ts_ret1 {x : Xp} (hx : ∀ es, x ≠ .tup es) (h : TS1 P F T Gt th ls fuel (.ret x) D σ H) : L2.tRet (TR1 P F T Gt th ls x) D σ H := by
  obtain ⟨e, G, fp, S, h⟩ := h
  have h' : AftS P ls (Sm.sets (.ret x)) σ G H fp (toQ (evR1 F T Gt th ls x e) fun s e => .ret s.k s.d e) D := by
    cases x with
    | tup es => exact absurd rfl (hx es)
    | _ => simp only [exec, evR] at h; exact h
  refine ⟨e, G, fp, S, AftS.first h' (fun i hi => by simpa only [Sm.sets] using hi) fun s e1 G1 H1 fp1 v hr Fr Kp S1 J1 ⟨fx, r, nd, hx⟩ => ?_⟩
  rw [hr] at h'
  exact h' σ G1 H1 fp1 v fx Fr (Kp.h.mono fun i hi => by simpa only [Sm.sets] using hi) .refl S1 J1 r nd hx
theorem ts_retN (J : Inj P.K H) (h : TS1 P F T Gt th ls fuel .retN D σ H) : L2.tRetN D σ H := by
  obtain ⟨e, G, fp, S, h⟩ := h
  simp only [exec] at h
  exact h σ G H fp .non [] (Frm.refl S) (fun _ _ _ _ => rfl) .refl S J .non List.nodup_nil fun a h => by cases h
theorem ts_pass (J : Inj P.K H) (h : TS1 P F T Gt th ls fuel .pass D σ H) : D.nx σ H := by
  obtain ⟨e, G, fp, S, h⟩ := h
  simp only [exec] at h
  exact h σ G H fp (Frm.refl S) (fun _ _ _ _ => rfl) .refl S J
theorem ts_brk (J : Inj P.K H) (h : TS1 P F T Gt th ls fuel .brk D σ H) : D.bk σ H := by
  obtain ⟨e, G, fp, S, h⟩ := h
  simp only [exec] at h
  exact h σ G H fp (Frm.refl S) (fun _ _ _ _ => rfl) .refl S J
theorem ts_cont (J : Inj P.K H) (h : TS1 P F T Gt th ls fuel .cont D σ H) : D.ct σ H := by
  obtain ⟨e, G, fp, S, h⟩ := h
  simp only [exec] at h
  exact h σ G H fp (Frm.refl S) (fun _ _ _ _ => rfl) .refl S J
end
end Ev
end
section
set_option linter.all false
set_option maxHeartbeats 1000000
namespace Ev
open PySem
section
variable {P : Prm} {F : Nat → List Sl → CR} {T : Tb} {Gt : Nat → (Ls → R Vw) → Ls → R Vw} {th : Option (Ls × (Ls → R Vw))} {ls ts ts1 : List Nat} {fuel : Nat} {σ : L2.St} {H : Hp} {D : L2.Ends} {G : GSet} {fp : FpT} {e : Ls} {α β : Type}
theorem evRs_len : ∀ {xs : List Xp} {e e' : Ls} {ss : List Sl}, evRs F T Gt th ls xs e = .ok ss e' → ss.length = xs.length
  | [], e, e', ss, h => by
    simp only [evRs, R.ok.injEq] at h
    rw [← h.1]; rfl
  | x :: xs, e, e', ss, h => by
    simp only [evRs] at h
    obtain ⟨s, e1, h1, h2⟩ := bind_ok_inv h
    obtain ⟨ss', e2, h3, h4⟩ := bind_ok_inv h2
    injection h4 with h5 h6
    rw [← h5, List.length_cons, List.length_cons, evRs_len h3]
theorem ts_retT {es : List Xp} (hl : es.length ≤ 1000) (h : TS1 P F T Gt th ls fuel (.ret (.tup es)) D σ H) : L2.tRet (L2.tTup (injA P.K (TRs P F T Gt th ls es))) { D with rt := fun v H' => Inj P.K H' → D.rt v H' } σ H := by
  obtain ⟨e, G, fp, S, h⟩ := h
  have h' : AftS P ls (Sm.sets (.ret (.tup es))) σ G H fp (toQ (evRs F T Gt th ls es e) fun ss e => .ret (minK ss) (.tup (ss.map (·.d))) e) D := by
    simp only [exec, evR] at h
    cases hz : evRs F T Gt th ls es e <;> rw [hz] at h <;> exact h
  refine ⟨e, G, fp, S, AftS.first h' (fun i hi => by simpa only [Sm.sets, Xp.tch, Xp.vars] using hi) fun ss e1 G1 H1 fp1 vs hr Fr Kp S1 J1 ⟨fx, ow, nd, hx⟩ _ => ?_⟩
  rw [hr] at h'
  refine ⟨?_, fun p hp J2 => ?_⟩
  · rw [← ow.length, evRs_len hr]
    have := big_line
    omega
  · have ext := upd_ext (o := .tup vs) hp
    obtain ⟨fx', sb, hr'⟩ := ow.reps ext nd (n := minK ss) minK_le
    obtain ⟨S2, F2, K2⟩ := S1.ext ext
    have al : ∀ a ∈ fx, ∃ o, L2.upd H1 p (.tup vs) a = some o ∧ L2.Mut (some o) := fun a ha => by
      obtain ⟨o, ho, hm⟩ := ow.there a ha
      exact ⟨o, ext a o ho, hm⟩
    have S3 := S2.moreG (fx := fx.filter fun a => decide (a ∉ fx')) (fun a ha i => (hx a (List.mem_filter.mp ha).1).2.1 i) fun a ha => al a (List.mem_filter.mp ha).1
    have m : ∀ a, a ∈ fx.filter (fun a => decide (a ∉ fx')) ↔ a ∈ fx ∧ a ∉ fx' := fun a => by simp [List.mem_filter]
    have r3 : Reps P.K (fun a => G1 a ∨ a ∈ fx.filter fun a => decide (a ∉ fx')) (L2.upd H1 p (.tup vs)) (minK ss) (ss.map (·.d)) vs fx' := hr' _ (fun a g => .inl g) fun a ha na => .inr ((m a).mpr ⟨ha, na⟩)
    have F3 := Fr.trans S F2
    refine h' σ _ _ fp1 (.ref p) fx' ⟨fun a g => .inl (F3.g a g), fun a g => ?_, F3.st, F3.fn, F3.al⟩ ((KeepH.trans S Fr Kp.h F2 K2.h).mono fun i hi => by simpa [Sm.sets, Xp.tch, Xp.vars] using hi) .refl S3 J2 (.tup (L2.SqT.of L2.upd_same) r3) (sb.nodup nd) fun a ha => ?_
    · rcases g with g | g
      · exact F3.gn a g
      · rcases (hx a ((m a).mp g).1).1 with ⟨i, _, q⟩ | q
        · exact .inr (.inl ⟨i, q⟩)
        · exact .inr (.inr q)
    · have ha' := sb.subset ha
      refine ⟨(hx a ha').1, (hx a ha').2.1, fun g => ?_⟩
      rcases g with g | g
      · exact (hx a ha').2.2 g
      · exact ((m a).mp g).2 ha
end
end Ev
end
section
set_option linter.all false
set_option maxHeartbeats 1000000
namespace Ev
open PySem
section
variable {K : PySem.W.Frag} {G : GSet} {H : Hp}
/-- one of several values, and putting another tree in its place -/
theorem Reps.at : ∀ {k ds vs fx}, Reps K G H k ds vs fx → ∀ {j : Nat} {x : D} {y : V}, ds[j]? = some x → vs[j]? = some y → ∃ fl f1 fr, fx = fl ++ (f1 ++ fr) ∧ Rep K G H k x y f1 ∧
    ∀ (G' : GSet) (H' : Hp) (x' : D) (f1' : List Addr), (∀ a, G a → G' a) → Stays G H H' → (∀ a ∈ fl ++ fr, H' a = H a) → Rep K G' H' k x' y f1' → Reps K G' H' k (ds.set j x') vs (fl ++ (f1' ++ fr))
  | _, _, _, _, .nil, j, x, y, h, _ => by simp at h
  | _, _, _, _, .cons (fp := f1) (fps := f2) r rs, 0, x, y, h1, h2 => by
    simp only [List.getElem?_cons_zero, Option.some.injEq] at h1 h2
    subst h1 h2
    exact ⟨[], f1, f2, rfl, r, fun G' H' x' f1' g st same r' => Reps.cons (fp := f1') (fps := f2) r' (rs.keep g st fun a ha => same a ha)⟩
  | _, _, _, _, .cons (fp := f1) (fps := f2) r rs, j + 1, x, y, h1, h2 => by
    obtain ⟨fl, g1, fr, e, r1, k1⟩ := Reps.at rs (j := j) (by simpa using h1) (by simpa using h2)
    subst e
    refine ⟨f1 ++ fl, g1, fr, by simp [List.append_assoc], r1, fun G' H' x' f1' g st same r' => ?_⟩
    have := Reps.cons (r.keep g st fun a ha => same a (by simp [ha])) (k1 G' H' x' f1' g st (fun a ha => same a (by
      rcases List.mem_append.mp ha with q | q
      · simp [q]
      · simp [q])) r')
    simpa [List.append_assoc] using this
end
end Ev
end
section
set_option linter.all false
set_option maxHeartbeats 1000000
namespace Ev
open PySem
section
variable {K : PySem.W.Frag} {G : GSet} {H : Hp}
/-- the inner step -/
theorem Reps.putIn {k : Nat} {ds : List D} {vs : List V} {fx : List Addr} {j : Nat} {x : D} {y v1 : V} {f1 : List Addr} {d1' : D} {p : List Nat} {kk : Nat} (r : Reps K G H k ds vs fx) (h2 : ds[j]? = some x) (h3 : vs[j]? = some y) (nd : fx.Nodup)
    (ih : ∀ {g}, Rep K G H k x y g → g.Nodup → ∃ f1, Rep K G H kk d1' v1 f1 ∧ f1.Sublist g ∧ ∀ (G' : GSet) (H' : Hp) (d1' : D) (f1' : List Addr), (∀ a, G a → G' a) → Stays G H H' → (∀ a ∈ g, a ∉ f1 → H' a = H a) → Rep K G' H' kk d1' v1 f1' → f1'.Nodup → (∀ a ∈ f1', a ∈ g → a ∈ f1) →
      ∃ g', Rep K G' H' k (putAt x p d1') y g' ∧ g'.Nodup ∧ ∀ a ∈ g', (a ∈ g ∧ a ∉ f1) ∨ a ∈ f1') :
    ∃ f1, Rep K G H kk d1' v1 f1 ∧ f1.Sublist fx ∧ ∀ (G' : GSet) (H' : Hp) (d1' : D) (f1' : List Addr), (∀ a, G a → G' a) → Stays G H H' → (∀ a ∈ fx, a ∉ f1 → H' a = H a) → Rep K G' H' kk d1' v1 f1' → f1'.Nodup → (∀ a ∈ f1', a ∈ fx → a ∈ f1) →
      ∃ fx', Reps K G' H' k (ds.set j (putAt x p d1')) vs fx' ∧ fx'.Nodup ∧ ∀ a ∈ fx', (a ∈ fx ∧ a ∉ f1) ∨ a ∈ f1' := by
  obtain ⟨fl, g, fr, e, r1, k1⟩ := r.at h2 h3
  subst e
  obtain ⟨n1, n2, n3⟩ := List.nodup_append.mp nd
  obtain ⟨n4, n5, n6⟩ := List.nodup_append.mp n2
  obtain ⟨f1, hr, sb, hk⟩ := ih r1 n4
  refine ⟨f1, hr, (sb.trans (List.sublist_append_left _ _)).trans (List.sublist_append_right _ _), fun G' H' d1' f1' g0 st same r' nd' hf => ?_⟩
  have l1 : ∀ a ∈ fl, a ∉ f1 := fun a ha z => n3 a ha a (List.mem_append_left _ (sb.subset z)) rfl
  have l2 : ∀ a ∈ fr, a ∉ f1 := fun a ha z => n6 a (sb.subset z) a ha rfl
  obtain ⟨g', rg, ng, hg⟩ := hk G' H' d1' f1' g0 st (fun a ha na => same a (List.mem_append_right _ (List.mem_append_left _ ha)) na) r' nd' fun a ha hb => hf a ha (List.mem_append_right _ (List.mem_append_left _ hb))
  refine ⟨fl ++ (g' ++ fr), k1 G' H' _ g' g0 st (fun a ha => ?_) rg, ?_, fun a ha => ?_⟩
  · rcases List.mem_append.mp ha with q | q
    · exact same a (List.mem_append_left _ q) (l1 a q)
    · exact same a (List.mem_append_right _ (List.mem_append_right _ q)) (l2 a q)
  · refine List.nodup_append.mpr ⟨n1, List.nodup_append.mpr ⟨ng, n5, fun a ha b hb e => ?_⟩, fun a ha b hb e => ?_⟩
    · subst e
      rcases hg a ha with ⟨q, _⟩ | q
      · exact n6 a q a hb rfl
      · exact l2 a hb (hf a q (List.mem_append_right _ (List.mem_append_right _ hb)))
    · subst e
      rcases List.mem_append.mp hb with q | q
      · rcases hg a q with ⟨z, _⟩ | z
        · exact n3 a ha a (List.mem_append_left _ z) rfl
        · exact l1 a ha (hf a z (List.mem_append_left _ ha))
      · exact n3 a ha a (List.mem_append_right _ q) rfl
  · rcases List.mem_append.mp ha with q | q
    · exact .inl ⟨List.mem_append_left _ q, l1 a q⟩
    · rcases List.mem_append.mp q with q | q
      · rcases hg a q with ⟨z1, z2⟩ | z
        · exact .inl ⟨List.mem_append_right _ (List.mem_append_left _ z1), z2⟩
        · exact .inr z
      · exact .inl ⟨List.mem_append_right _ (List.mem_append_right _ q), l2 a q⟩
/-- a part that is owned is changed -/
theorem Rep.putAt (J : Inj K H) : ∀ {d v p d1 v1}, PAt K H d v p d1 v1 → ∀ {k fx}, Rep K G H k d v fx → fx.Nodup → dep d p < k → ∃ f1, Rep K G H (k - dep d p) d1 v1 f1 ∧ f1.Sublist fx ∧
    ∀ (G' : GSet) (H' : Hp) (d1' : D) (f1' : List Addr), (∀ a, G a → G' a) → Stays G H H' → (∀ a ∈ fx, a ∉ f1 → H' a = H a) → Rep K G' H' (k - dep d p) d1' v1 f1' → f1'.Nodup → (∀ a ∈ f1', a ∈ fx → a ∈ f1) →
      ∃ fx', Rep K G' H' k (Ev.putAt d p d1') v fx' ∧ fx'.Nodup ∧ ∀ a ∈ fx', (a ∈ fx ∧ a ∉ f1) ∨ a ∈ f1'
  | _, _, _, _, _, .nil, k, fx, r, nd, hd => by
    refine ⟨fx, by simpa [dep] using r, List.Sublist.refl _, fun G' H' d1' f1' g st same r' nd' hf => ⟨f1', ?_, nd', fun a ha => .inr ha⟩⟩
    simpa [dep, Ev.putAt] using r'
  | _, _, _, _, _, .tup (ds := ds) (j := j) (x := x) (p := p) h1 h2 h3 q, k, fx, r, nd, hd => by
    cases r with
    | tup g1 g2 =>
      have e := J.t _ _ _ h1 g1
      subst e
      simp only [dep, getD_of h2] at hd ⊢
      obtain ⟨f1, hr, sb, hk⟩ := Reps.putIn (p := p) (d1' := _) (f1 := []) g2 h2 h3 nd fun {g} r1 n1 => Rep.putAt J q r1 n1 hd
      refine ⟨f1, hr, sb, fun G' H' d1' f1' g st same r' nd' hf => ?_⟩
      obtain ⟨fx', r2, n2, h4⟩ := hk G' H' d1' f1' g st same r' nd' hf
      refine ⟨fx', ?_, n2, h4⟩
      simp only [Ev.putAt, getD_of h2]
      exact .tup (st.sqT h1) r2
  | _, _, _, _, _, .lst (ds := ds) (a := a) (j := j) (x := x) (p := p) h1 h2 h3 q, k, fx, r, nd, hd => by
    simp only [dep, getD_of h2] at hd ⊢
    cases r with
    | lstF g1 g2 => omega
    | @lstO k' _ _ _ fp g1 g2 =>
      have e := J.l _ _ _ h1 (L2.SqL.of g1)
      subst e
      obtain ⟨na, nd2⟩ := List.nodup_cons.mp nd
      obtain ⟨f1, hr, sb, hk⟩ := Reps.putIn (p := p) (d1' := _) (f1 := []) g2 h2 h3 nd2 fun {g} r1 n1 => Rep.putAt J q r1 n1 (by omega)
      have ek : k' + 1 - (dep x p + 1) = k' - dep x p := by omega
      rw [ek]
      have af : a ∉ f1 := fun z => na (sb.subset z)
      refine ⟨f1, hr, sb.cons _, fun G' H' d1' f1' g st same r' nd' hf => ?_⟩
      obtain ⟨fx', r2, n2, h4⟩ := hk G' H' d1' f1' g st (fun b hb nb => same b (List.mem_cons_of_mem _ hb) nb) r' nd' fun b hb hc => hf b hb (List.mem_cons_of_mem _ hc)
      have afx : a ∉ fx' := fun z => by
        rcases h4 a z with ⟨y, _⟩ | y
        · exact na y
        · exact af (hf a y (List.mem_cons_self ..))
      refine ⟨a :: fx', ?_, List.nodup_cons.mpr ⟨afx, n2⟩, fun b hb => ?_⟩
      · simp only [Ev.putAt, getD_of h2]
        exact .lstO ((same a (List.mem_cons_self ..) af).trans g1) r2
      · rcases List.mem_cons.mp hb with z | z
        · subst z; exact .inl ⟨List.mem_cons_self .., af⟩
        · exact (h4 b z).imp (fun y => ⟨List.mem_cons_of_mem _ y.1, y.2⟩) id
  | _, _, _, _, _, .dct (ds := ds) (a := a) (j := j) (x := x) (p := p) h1 h2 h3 q, k, fx, r, nd, hd => by
    simp only [dep, getD_of h2] at hd ⊢
    cases r with
    | dctF g1 g2 g3 g5 g4 => omega
    | @dctO k' _ _ _ _ fp g1 g3 g5 g2 =>
      rw [h1] at g1; cases g1
      obtain ⟨na, nd2⟩ := List.nodup_cons.mp nd
      obtain ⟨f1, hr, sb, hk⟩ := Reps.putIn (p := p) (d1' := _) (f1 := []) g2 h2 h3 nd2 fun {g} r1 n1 => Rep.putAt J q r1 n1 (by omega)
      have ek : k' + 1 - (dep x p + 1) = k' - dep x p := by omega
      rw [ek]
      have af : a ∉ f1 := fun z => na (sb.subset z)
      refine ⟨f1, hr, sb.cons _, fun G' H' d1' f1' g st same r' nd' hf => ?_⟩
      obtain ⟨fx', r2, n2, h4⟩ := hk G' H' d1' f1' g st (fun b hb nb => same b (List.mem_cons_of_mem _ hb) nb) r' nd' fun b hb hc => hf b hb (List.mem_cons_of_mem _ hc)
      have afx : a ∉ fx' := fun z => by
        rcases h4 a z with ⟨y, _⟩ | y
        · exact na y
        · exact af (hf a y (List.mem_cons_self ..))
      refine ⟨a :: fx', ?_, List.nodup_cons.mpr ⟨afx, n2⟩, fun b hb => ?_⟩
      · simp only [Ev.putAt, getD_of h2]
        exact .dctO ((same a (List.mem_cons_self ..) af).trans h1) g3 g5 r2
      · rcases List.mem_cons.mp hb with z | z
        · subst z; exact .inl ⟨List.mem_cons_self .., af⟩
        · exact (h4 b z).imp (fun y => ⟨List.mem_cons_of_mem _ y.1, y.2⟩) id
end
end Ev
end
section
set_option linter.all false
set_option maxHeartbeats 1000000
namespace Ev
open PySem
section
variable {K : PySem.W.Frag} {G : GSet} {H : Hp} {e : Ls} {σ : L2.St} {fp : FpT}
/-- a part of a slot's thing is changed -/
theorem Sim.mut (S : Sim K G H e σ fp) (J : Inj K H) {i : Nat} {s : Sl} {v0 d1v : V} {p : List Nat} {d1 : D} (hs : e.at i = some s) (hv : σ[i]? = some (some v0)) (q : PAt K H s.d v0 p d1 d1v) (hd : dep s.d p < s.k) :
    ∃ f1, Rep K G H (s.k - dep s.d p) d1 d1v f1 ∧ f1.Sublist (fp i) ∧ ∀ (G' : GSet) (H' : Hp) (d1' : D) (f1' : List Addr), (∀ a, G a → G' a) → (∀ a o, H a = some o → a ∉ f1 → H' a = some o) → Rep K G' H' (s.k - dep s.d p) d1' d1v f1' → f1'.Nodup →
      (∀ a ∈ f1', a ∈ f1 ∨ (∀ j, a ∉ fp j)) → (∀ a ∈ f1', ¬ G' a) → (∀ j, ∀ a ∈ fp j, ¬ G' a) → (∀ a, G' a → ∃ o, H' a = some o ∧ L2.Mut (some o)) →
      ∃ fp', Sim K G' H' (e.put i s.k (Ev.putAt s.d p d1')) σ fp' ∧ (∀ j, j ≠ i → fp' j = fp j) ∧ ∀ a ∈ fp' i, a ∈ fp i ∨ a ∈ f1' := by
  obtain ⟨v', hv', r⟩ := S.rep i s hs
  rw [hv] at hv'; cases hv'
  obtain ⟨f1, hr, sb, hk⟩ := Rep.putAt J q r (S.nd i) hd
  refine ⟨f1, hr, sb, fun G' H' d1' f1' g ch r' nd' hf hn hng gs => ?_⟩
  have inS : ∀ a ∈ f1, ∃ o, H a = some o ∧ L2.Mut (some o) := hr.there
  have st : Stays G H H' := by
    refine ⟨fun a xs h => ch a _ h fun z => ?_, fun a o u h => ch a _ h fun z => ?_, fun a o gg h => ch a _ h fun z => S.ng i a (sb.subset z) gg⟩
    · obtain ⟨o, ho, hm⟩ := inS a z
      rw [h] at ho; cases ho; exact hm
    · obtain ⟨o', ho, hm⟩ := inS a z
      rw [h] at ho; cases ho; exact hm
  have same : ∀ j, ∀ a ∈ fp j, a ∉ f1 → H' a = H a := fun j a ha na => by
    obtain ⟨o, ho, _⟩ := S.there ha
    rw [ho]; exact ch a o ho na
  obtain ⟨fx', r2, n2, h4⟩ := hk G' H' d1' f1' g st (same i) r' nd' fun a ha hb => by
    rcases hf a ha with z | z
    · exact z
    · exact absurd hb (z i)
  have lt : i < e.length := by
    by_cases z : i < e.length
    · exact z
    · unfold Ls.at at hs; rw [List.getElem?_eq_none (by omega)] at hs; cases hs
  have out : ∀ a ∈ fx', ∀ j, j ≠ i → a ∉ fp j := fun a ha j hj hb => by
    rcases h4 a ha with ⟨z, _⟩ | z
    · exact hj (S.dj j i a hb z)
    · rcases hf a z with y | y
      · exact hj (S.dj j i a hb (sb.subset y))
      · exact y j hb
  refine ⟨fun j => if j = i then fx' else fp j, ⟨by simp [Ls.put, S.len], fun j t ht => ?_, fun j hj => ?_, fun j => ?_, fun j k a h1 h2 => ?_, fun j a h1 h2 => ?_, gs⟩, fun j hj => if_neg hj, fun a ha => ?_⟩
  · by_cases z : j = i
    · subst z
      rw [at_lt lt] at ht; cases ht
      refine ⟨v0, hv, ?_⟩
      simp only [if_pos rfl]
      exact r2
    · rw [at_put_ne z] at ht
      obtain ⟨w, hw, rw'⟩ := S.rep j t ht
      refine ⟨w, hw, ?_⟩
      simp only [if_neg z]
      exact rw'.keep g st fun a ha => same j a ha fun y => z (S.dj j i a ha (sb.subset y))
  · by_cases z : j = i
    · subst z; rw [at_lt lt] at hj; cases hj
    · rw [at_put_ne z] at hj; simp only [if_neg z]; exact S.nil j hj
  · by_cases z : j = i
    · simp only [if_pos z]; exact n2
    · simp only [if_neg z]; exact S.nd j
  · by_cases z : j = i
    · by_cases z2 : k = i
      · rw [z, z2]
      · simp only [if_pos z] at h1; simp only [if_neg z2] at h2
        exact absurd h2 (out a h1 k z2)
    · by_cases z2 : k = i
      · simp only [if_neg z] at h1; simp only [if_pos z2] at h2
        exact absurd h1 (out a h2 j z)
      · simp only [if_neg z] at h1; simp only [if_neg z2] at h2
        exact S.dj j k a h1 h2
  · by_cases z : j = i
    · simp only [if_pos z] at h1
      rcases h4 a h1 with ⟨y, _⟩ | y
      · exact hng i a y h2
      · exact hn a y h2
    · simp only [if_neg z] at h1; exact hng j a h1 h2
  · simp only [if_pos rfl] at ha
    exact (h4 a ha).imp (fun y => y.1) id
end
end Ev
end
section
set_option linter.all false
set_option maxHeartbeats 1000000
namespace Ev
open PySem
section
variable {K : PySem.W.Frag} {G1 G2 G3 : GSet} {H1 H2 : Hp} {e1 e3 : Ls} {σ : L2.St} {fp1 fp3 : FpT} {ts : List Nat}
/-- something owned by a slot is changed by way of the object at p; y, what is put into it, stood for xs -/
theorem mutate_ok {i : Nat} {q : List Nat} {s xs : Sl} {v0 y : V} {d1 : D} {p : Addr} {m : Nat} {fy : List Addr} (S1 : Sim K G1 H1 e1 σ fp1) (J2 : Inj K H2) (F3 : Frm G1 H1 fp1 G3 H2 fp3) (K3 : Keep ts e1 H1 fp1 e3 H2) (S3 : Sim K G3 H2 e3 σ fp3)
    (ry : Rep K G3 H2 xs.k xs.d y fy) (ndy : fy.Nodup) (hy : ∀ a ∈ fy, H1 a = none ∧ (∀ i, a ∉ fp3 i) ∧ ¬ G3 a)
    (hs1 : e3.at i = some s) (hs2 : σ[i]? = some (some v0)) (hp : PAt K H2 s.d v0 q d1 (.ref p)) (hd : dep s.d q < s.k) (hm : s.k - dep s.d q = m + 1) (hk : m ≤ xs.k) :
    ∃ f1 fy' G4, Rep K G3 H2 (m + 1) d1 (.ref p) f1 ∧ f1.Nodup ∧ (∀ a, G3 a → G4 a) ∧ fy'.Nodup ∧ Rep K G4 H2 m xs.d y fy' ∧ (∀ a ∈ f1, a ∉ fy' ∧ a ∉ fy ∧ ¬ G4 a) ∧ (∀ b, G4 b → G3 b ∨ b ∈ fy) ∧ (∀ b ∈ fy', b ∈ fy ∧ ¬ G4 b) ∧
      ∀ f2, f1 = p :: f2 → ∀ (o : L2.HO) (d1' : D) (f2' : List Addr), Rep K G4 (L2.upd H2 p o) (m + 1) d1' (.ref p) (p :: f2') → f2'.Nodup → (∀ b ∈ f2', b ∈ f2 ∨ b ∈ fy') →
        ∃ fp4, Frm G1 H1 fp1 G4 (L2.upd H2 p o) fp4 ∧ Keep (i :: ts) e1 H1 fp1 (e3.put i s.k (putAt s.d q d1')) (L2.upd H2 p o) ∧ Sim K G4 (L2.upd H2 p o) (e3.put i s.k (putAt s.d q d1')) σ fp4 := by
  obtain ⟨f1, r1, sb, mk⟩ := S3.mut J2 hs1 hs2 hp hd
  rw [hm] at r1 mk
  obtain ⟨fy', sby, hry⟩ := ry.lower ndy (j := m) hk
  have nd1 := sb.nodup (S3.nd i)
  have mm : ∀ b, b ∈ fy.filter (fun b => decide (b ∉ fy')) ↔ b ∈ fy ∧ b ∉ fy' := fun b => by simp [List.mem_filter]
  have n1y : ∀ a ∈ f1, a ∉ fy := fun a ha z => (hy a z).2.1 _ (sb.subset ha)
  have n1g : ∀ a ∈ f1, ¬ (G3 a ∨ a ∈ fy.filter fun b => decide (b ∉ fy')) := fun a ha z => by
    rcases z with z | z
    · exact S3.ng _ _ (sb.subset ha) z
    · exact n1y a ha ((mm a).mp z).1
  refine ⟨f1, fy', fun b => G3 b ∨ b ∈ fy.filter fun b => decide (b ∉ fy'), r1, nd1, fun b g => .inl g, sby.nodup ndy, hry _ (fun b g => .inl g) fun b hb nb => .inr ((mm b).mpr ⟨hb, nb⟩),
    fun a ha => ⟨fun z => n1y a ha (sby.subset z), n1y a ha, n1g a ha⟩, fun b g => g.imp id fun z => ((mm b).mp z).1, fun b hb => ⟨sby.subset hb, fun z => ?_⟩, ?_⟩
  · rcases z with z | z
    · exact (hy b (sby.subset hb)).2.2 z
    · exact ((mm b).mp z).2 hb
  · intro f2 hf o d1' f2' r4 nd2' hsub
    subst hf
    obtain ⟨np, nd2⟩ := List.nodup_cons.mp nd1
    have pin : p ∈ fp3 i := sb.subset (List.mem_cons_self ..)
    have pfy : p ∉ fy := n1y p (List.mem_cons_self ..)
    have thy := ry.there
    have upd2 : ∀ b u, H2 b = some u → b ∉ p :: f2 → L2.upd H2 p o b = some u := fun b u hb nb => by
      rw [L2.upd_ne fun z => nb (by simp [z])]; exact hb
    have pg : ¬ G3 p := S3.ng _ _ pin
    have pn : p ∉ f2' := fun z => by
      rcases hsub p z with y | y
      · exact np y
      · exact pfy (sby.subset y)
    have x0 : ∀ b ∈ p :: f2', b ∈ p :: f2 ∨ (∀ j, b ∉ fp3 j) := by
      intro b hb
      rcases List.mem_cons.mp hb with z | z
      · exact .inl (by simp [z])
      · rcases hsub b z with z | z
        · exact .inl (List.mem_cons_of_mem _ z)
        · exact .inr (hy b (sby.subset z)).2.1
    have x1 : ∀ b ∈ p :: f2', ¬ (G3 b ∨ b ∈ fy.filter fun b => decide (b ∉ fy')) := by
      intro b hb g
      have inF : b ∈ p :: f2 → False := fun z => by
        rcases g with g | g
        · exact S3.ng _ _ (sb.subset z) g
        · exact (hy b ((mm b).mp g).1).2.1 _ (sb.subset z)
      rcases List.mem_cons.mp hb with z | z
      · exact inF (by simp [z])
      · rcases hsub b z with z | z
        · exact inF (List.mem_cons_of_mem _ z)
        · rcases g with g | g
          · exact (hy b (sby.subset z)).2.2 g
          · exact ((mm b).mp g).2 z
    have x2 : ∀ j, ∀ b ∈ fp3 j, ¬ (G3 b ∨ b ∈ fy.filter fun b => decide (b ∉ fy')) := by
      intro j b hb g
      rcases g with g | g
      · exact S3.ng j b hb g
      · exact (hy b ((mm b).mp g).1).2.1 j hb
    have x3 : ∀ b, (G3 b ∨ b ∈ fy.filter fun b => decide (b ∉ fy')) → ∃ u, L2.upd H2 p o b = some u ∧ L2.Mut (some u) := by
      intro b g
      have nbp : b ≠ p := fun z => by
        subst z
        rcases g with g | g
        · exact pg g
        · exact pfy ((mm _).mp g).1
      rw [L2.upd_ne nbp]
      rcases g with g | g
      · exact S3.gs b g
      · exact thy b ((mm b).mp g).1
    obtain ⟨fp4, S4, e4, h4⟩ := mk (fun b => G3 b ∨ b ∈ fy.filter fun b => decide (b ∉ fy')) (L2.upd H2 p o) _ _ (fun b g => .inl g) upd2 r4 (List.nodup_cons.mpr ⟨pn, nd2'⟩) x0 x1 x2 x3
    have back : p ∈ fp1 i ∨ H1 p = none := F3.fn _ _ pin
    refine ⟨fp4, ⟨fun b g => .inl (F3.g b g), fun b g => ?_, fun b u hb nb ht => ?_, fun j b hb => ?_, fun b hb => ?_⟩, ⟨fun j hj b hb => ?_, fun j hj => ?_⟩, S4⟩
    · rcases g with g | g
      · exact F3.gn b g
      · exact .inr (.inr (hy b ((mm b).mp g).1).1)
    · rw [L2.upd_ne fun z => by
        subst z
        rcases back with y | y
        · exact nb _ y
        · rw [y] at hb; cases hb]
      exact F3.st b u hb nb ht
    · by_cases z : j = i
      · subst z
        rcases h4 b hb with y | y
        · exact F3.fn _ b y
        · rcases List.mem_cons.mp y with y | y
          · rw [y]; exact back
          · rcases hsub b y with y | y
            · exact F3.fn _ b (sb.subset (List.mem_cons_of_mem _ y))
            · exact .inr (hy b (sby.subset y)).1
      · rw [e4 j z] at hb; exact F3.fn j b hb
    · by_cases z : b = p
      · rw [z, L2.upd_same]; simp
      · rw [L2.upd_ne z]; exact F3.al b hb
    · have jq : j ≠ i := fun z => hj (z ▸ List.mem_cons_self ..)
      have hbp : b ≠ p := fun z => by
        subst z
        rcases back with y | y
        · exact jq (S1.dj j i _ hb y)
        · obtain ⟨o, ho, _⟩ := S1.there hb
          rw [ho] at y; cases y
      rw [L2.upd_ne hbp]
      exact K3.h j (fun z => hj (List.mem_cons_of_mem _ z)) b hb
    · have jq : j ≠ i := fun z => hj (z ▸ List.mem_cons_self ..)
      rw [at_put_ne jq]
      exact K3.d j fun z => hj (List.mem_cons_of_mem _ z)
/-- the rest of an object's parts, seen behind the change -/
theorem Stays.upd {G : GSet} {H : Hp} {p : Addr} {o u : L2.HO} (hp : H p = some u) (hu : L2.Mut (some u)) (hg : ¬ G p) : Stays G H (L2.upd H p o) := by
  refine ⟨fun b xs hb => ?_, fun b o u hb => ?_, fun b o g hb => ?_⟩
  · rw [L2.upd_ne fun z => by subst z; rw [hp] at hb; cases hb; exact hu]; exact hb
  · rw [L2.upd_ne fun z => by subst z; rw [hp] at hb; cases hb; exact hu]; exact hb
  · rw [L2.upd_ne fun z => by subst z; exact hg g]; exact hb
end
end Ev
end
section
set_option linter.all false
set_option maxHeartbeats 1000000
namespace Ev
open PySem
section
variable {P : Prm} {F : Nat → List Sl → CR} {T : Tb} {Gt : Nat → (Ls → R Vw) → Ls → R Vw} {th : Option (Ls × (Ls → R Vw))} {σ : L2.St} {H : Hp}
theorem te_append {Q : V → Hp → Prop} {a x : Xp} (h : TEs P F T Gt th (.meth 0 a [x]) σ H Q) : L2.tBM P.K "list" L2.rAppend (inj P.K (TEs P F T Gt th a)) (L2.tCons (inj P.K (TEs P F T Gt th x)) L2.tNil) σ H fun v H' => Inj P.K H' → Q v H' := by
  obtain ⟨e, G, fp, S, h⟩ := h
  simp only [ev] at h
  refine ⟨e, G, fp, S, Aft.first h (fun i hi => by simp only [Xp.tch]; exact List.mem_append_left _ (List.mem_append_right _ hi)) fun w e1 G1 H1 fp1 v hr Fr Kp S1 J1 o _ => ?_⟩
  rw [hr, R.bind_ok] at h
  by_cases hc : appOk a w x = true
  case neg => rw [if_neg hc] at h; exact h.elim
  rw [if_pos hc] at h
  simp only [appOk, Bool.and_eq_true, Bool.not_eq_true'] at hc
  obtain ⟨⟨hcl, hlst⟩, hbase⟩ := hc
  have hl : ∃ l, w.d = .lst l := by
    cases hw : w.d <;> first | exact ⟨_, rfl⟩ | (rw [hw] at hlst; simp [isLst] at hlst)
  obtain ⟨l, hl⟩ := hl
  obtain ⟨kx, fx, rx, _⟩ := look_ok S1 J1 o
  have hty : L2.tyV P.K "list" v H1 := by
    rw [hl] at rx
    cases rx with
    | lstF h1 _ => exact .inl ⟨rfl, _, h1.sq⟩
    | lstO h1 _ => exact .inl ⟨rfl, _, L2.SqL.of h1⟩
  refine ⟨hty, ?_⟩
  have hs := Aft.shift (ts1 := a.tch) (ts2 := a.base ++ x.tch) h (fun z hz => by
    simp only [Xp.tch, Xp.tchs, List.append_nil]
    rcases List.mem_append.mp hz with q | q
    · exact List.mem_append_left _ (List.mem_append_right _ q)
    · rcases List.mem_append.mp q with q | q
      · exact List.mem_append_left _ (List.mem_append_left _ q)
      · exact List.mem_append_right _ q) S Fr Kp fun _ _ _ _ _ _ o _ => o
  refine ⟨e1, G1, fp1, S1, Aft.first hs (fun i hi => List.mem_append_right _ hi) fun u e2 G2 H2 fp2 y hr2 F2 K2 S2 J2 o2 _ => ?_⟩
  rw [hr2, R.bind_ok] at hs
  obtain ⟨G3, fp3, fy, F3, K3, S3, ry, ndy, hy⟩ := asO_ok S1 F2 K2 S2 J2 o2
  have o3 := o.later S1 J1 F3 K3 hcl
  generalize (asO u e2).1 = xs at hs ry
  generalize (asO u e2).2 = e3 at hs K3 S3 o3
  cases hq : w.src with
  | none => rw [hq] at hbase; cases hbase
  | some q =>
    rw [hq] at hbase
    have hib : q.1 ∈ a.base := by simpa using hbase
    unfold VwOk at o3
    rw [hq] at o3
    obtain ⟨s, v0, hs1, hs2, hp⟩ := o3
    have hpt := hp.part
    unfold appendR at hs
    simp only [hq, hs1, hpt, hl] at hs
    by_cases hcond : (okLen l.length && decide (dep s.d q.2 < s.k) && decide (s.k ≤ dep s.d q.2 + 1 + xs.k)) = true
    case neg => rw [if_neg hcond] at hs; exact hs.elim
    rw [if_pos hcond] at hs
    simp only [Bool.and_eq_true, decide_eq_true_eq] at hcond
    obtain ⟨⟨hok, hdep⟩, hk⟩ := hcond
    obtain ⟨m, hm⟩ : ∃ m, s.k - dep s.d q.2 = m + 1 := ⟨s.k - dep s.d q.2 - 1, by omega⟩
    have hv0 : ∃ p, v = .ref p := by
      rw [hl] at rx
      cases rx with
      | lstF h1 _ => exact ⟨_, rfl⟩
      | lstO h1 _ => exact ⟨_, rfl⟩
    obtain ⟨p, rfl⟩ := hv0
    obtain ⟨f1, fy', G4, r1, nd1, g34, ndy', ry4, f1n, g4, fyn, mk⟩ := mutate_ok S1 J2 F3 K3 S3 ry ndy hy hs1 hs2 hp hdep hm (by omega)
    rw [hl] at r1
    cases r1 with
    | @lstO _ _ _ vs f2 h1 rs =>
      obtain ⟨np, nd2⟩ := List.nodup_cons.mp nd1
      have pg : ¬ G4 p := (f1n p (List.mem_cons_self ..)).2.2
      refine ⟨p, vs, y, rfl, rfl, h1, ?_, fun J' => ?_⟩
      · rw [← rs.length]
        have := big_line
        have h6 : sizeLine ≠ 1000000 := by rw [sizeLine_eq]; decide
        have := okL hok
        omega
      · have st4 : Stays G4 H2 (L2.upd H2 p (.lst (vs ++ [y]))) := .upd h1 trivial pg
        have r4 : Rep P.K G4 (L2.upd H2 p (.lst (vs ++ [y]))) (m + 1) (.lst (l ++ [xs.d])) (.ref p) (p :: (f2 ++ fy')) := by
          refine .lstO L2.upd_same (Reps.append ?_ ?_)
          · exact rs.keep g34 (.upd h1 trivial fun g => pg (g34 _ g)) fun b hb => L2.upd_ne fun z => np (z ▸ hb)
          · have := ry4.keep (fun _ g => g) st4 fun b hb => L2.upd_ne (o := .lst (vs ++ [y])) fun z => (f1n p (List.mem_cons_self ..)).1 (z ▸ hb)
            simpa using Reps.cons this .nil
        obtain ⟨fp4, FF, KK, S4⟩ := mk f2 rfl _ _ _ r4 (List.nodup_append.mpr ⟨nd2, ndy', fun b hb c hc z => (f1n b (List.mem_cons_of_mem _ hb)).1 (z ▸ hc)⟩) fun b hb => List.mem_append.mp hb
        exact hs _ _ fp4 .non FF (KK.mono fun j hj => by
          rcases List.mem_cons.mp hj with z | z
          · exact List.mem_append_left _ (z ▸ hib)
          · exact List.mem_append_right _ z) S4 J' (.new .non List.nodup_nil fun b hb => by cases hb)
end
end Ev
end
section
set_option linter.all false
set_option maxHeartbeats 1000000
namespace Ev
open PySem
section
variable {K : PySem.W.Frag} {G : GSet} {H : Hp}
theorem putK_cons {p : L2.Key × V} {r : List (L2.Key × V)} {k : L2.Key} {v : V} (nd : ((p :: r).map (·.1)).Nodup) : L2.putK (p :: r) k v = if p.1 = k then (p.1, v) :: r else p :: L2.putK r k v := by
  obtain ⟨k0, v0⟩ := p
  obtain ⟨h1, h2⟩ := List.nodup_cons.mp (show (k0 :: r.map (·.1)).Nodup from nd)
  unfold L2.putK
  by_cases h : k0 = k
  · subst h
    simp only [List.any_cons, decide_true, Bool.true_or, if_true, List.map_cons]
    congr 1
    have : ∀ l : List (L2.Key × V), k0 ∉ l.map (·.1) → l.map (fun kv => if kv.1 = k0 then (kv.1, v) else kv) = l := by
      intro l
      induction l with
      | nil => intro _; rfl
      | cons q l ih =>
        intro hn
        simp only [List.map_cons, List.mem_cons, not_or] at hn
        rw [List.map_cons, ih hn.2, if_neg fun z => hn.1 z.symm]
    exact this r h1
  · simp only [List.any_cons, decide_eq_true_eq, h, decide_false, Bool.false_or, List.map_cons, if_false]
    split <;> rfl
theorem key_eq {a b : D} {x y : L2.Key} (ha : keyV a = some x) (hb : keyV b = some y) : eqK a b = true ↔ x = y := by
  rw [eqK_key ha hb]; simp
theorem putKV_ok {m : Nat} {w x : D} {xv : V} {fy : List Addr} {y : L2.Key} (hw : keyV w = some y) (rx : Rep K G H m x xv fy) : ∀ {ks vs : List D} {kvs : List (L2.Key × V)} {f2 : List Addr}, ks.map keyV = kvs.map (fun p => some p.1) → (kvs.map (·.1)).Nodup → Reps K G H m vs (kvs.map (·.2)) f2 → (f2 ++ fy).Nodup →
    ∃ f2', Reps K G H m (putKV ks vs w x).2 ((L2.putK kvs y xv).map (·.2)) f2' ∧ f2'.Nodup ∧ (∀ b ∈ f2', b ∈ f2 ∨ b ∈ fy) ∧ (putKV ks vs w x).1.map keyV = (L2.putK kvs y xv).map (fun p => some p.1) ∧ ((L2.putK kvs y xv).map (·.1)).Nodup ∧ ∀ z ∈ (L2.putK kvs y xv).map (·.1), z ∈ kvs.map (·.1) ∨ z = y := by
  intro ks vs kvs
  induction kvs generalizing ks vs with
  | nil =>
    intro f2 hk nd r ndf
    cases ks with
    | cons a b => simp at hk
    | nil =>
      cases vs with
      | cons a b => cases r
      | nil =>
        cases r
        refine ⟨fy, ?_, by simpa using ndf, fun b hb => .inr hb, ?_, ?_, ?_⟩
        · have := Reps.cons rx (Reps.nil (K := K) (G := G) (H := H) (k := m))
          simpa [putKV, L2.putK] using this
        · simp [putKV, L2.putK, hw]
        · simp [L2.putK]
        · simp [L2.putK]
  | cons p kvs ih =>
    intro f2 hk nd r ndf
    cases ks with
    | nil => simp at hk
    | cons k0 ks =>
      cases r with
      | @cons _ v0 _ vs _ f1 fr r1 r2 =>
        simp only [List.map_cons, List.cons.injEq] at hk
        obtain ⟨hk1, hk2⟩ := hk
        rw [putK_cons nd]
        have nd' := nd
        rw [List.map_cons] at nd'
        obtain ⟨n1, n2⟩ := List.nodup_cons.mp nd'
        have nA : (f1 ++ fr).Nodup ∧ fy.Nodup ∧ ∀ a ∈ f1 ++ fr, ∀ b ∈ fy, a ≠ b := List.nodup_append.mp ndf
        have nB := List.nodup_append.mp nA.1
        by_cases h : p.1 = y
        · have e1 : eqK k0 w = true := (key_eq hk1 hw).mpr h
          rw [if_pos h]
          simp only [putKV, e1, if_true]
          refine ⟨fy ++ fr, .cons rx r2, List.nodup_append.mpr ⟨nA.2.1, nB.2.1, fun a ha b hb z => nA.2.2 b (List.mem_append_right _ hb) a ha z.symm⟩, fun b hb => ?_, ?_, ?_, ?_⟩
          · rcases List.mem_append.mp hb with z | z
            · exact .inr z
            · exact .inl (List.mem_append_right _ z)
          · simp [hk1, hk2]
          · simpa using nd'
          · intro z hz; exact .inl hz
        · have e1 : ¬ eqK k0 w = true := fun z => h ((key_eq hk1 hw).mp z)
          rw [if_neg h]
          simp only [putKV, if_neg e1]
          have nC : (fr ++ fy).Nodup := List.nodup_append.mpr ⟨nB.2.1, nA.2.1, fun a ha b hb => nA.2.2 a (List.mem_append_right _ ha) b hb⟩
          obtain ⟨g, rg, ng, sg, kg, dg, mg⟩ := ih hk2 n2 r2 nC
          refine ⟨f1 ++ g, .cons r1 rg, List.nodup_append.mpr ⟨nB.1, ng, fun a ha b hb z => ?_⟩, fun b hb => ?_, ?_, ?_, ?_⟩
          · subst z
            rcases sg a hb with y | y
            · exact nB.2.2 a ha a y rfl
            · exact nA.2.2 a (List.mem_append_left _ ha) a y rfl
          · rcases List.mem_append.mp hb with z | z
            · exact .inl (List.mem_append_left _ z)
            · exact (sg b z).imp (fun y => List.mem_append_right _ y) id
          · simp [hk1, kg]
          · rw [List.map_cons]
            refine List.nodup_cons.mpr ⟨fun z => ?_, dg⟩
            rcases mg _ z with q | q
            · exact n1 q
            · exact h q
          · intro z hz
            rw [List.map_cons] at hz
            rcases List.mem_cons.mp hz with q | q
            · exact .inl (by simp [q])
            · exact (mg z q).imp (fun w => by simp only [List.map_cons]; exact List.mem_cons_of_mem _ w) id
end
/-- o[i] = v -/
def rPutA (K : PySem.W.Frag) : L2.TSet := fun o i v H Q => (∃ p xs n j, o = .ref p ∧ i = .int n ∧ H p = some (.lst xs) ∧ L2.ixN xs.length n = some j ∧ (Inj K (L2.upd H p (.lst (xs.set j v))) → Q (L2.upd H p (.lst (xs.set j v))))) ∨
  ∃ p kvs k, o = .ref p ∧ i = L2.kV k ∧ H p = some (.dK kvs) ∧ kvs.length < sizeLine ∧ (Inj K (L2.upd H p (.dK (L2.putK kvs k v))) → Q (L2.upd H p (.dK (L2.putK kvs k v))))
section
variable {X : L2.Cx}
theorem set_all (hu : X.A.units + 1 < cLine) : L2.PSet X (rPutA X.K) := by
  intro pins s σ H o i v ov iv u Q I ro ri rv h
  rcases h with ⟨p, xs, n, j, e1, e2, hp, hj, q⟩ | ⟨p, kvs, k, e1, e2, hp, hl, q⟩
  · exact L2.thn (L2.set_list pins s σ H o i v ov iv u (fun H' => Inj X.K H' → Q H') I ro ri rv ⟨p, xs, n, j, e1, e2, hp, hj, q⟩) fun _ s' ⟨H', I', q'⟩ => ⟨H', I', q' (Inj.of I')⟩
  · subst e1 e2
    obtain rfl : ov = Value.ref p := ro
    exact L2.d_setItem hu I (L2.DPut.k hp hl) ri rv fun s4 I4 => ⟨_, I4, q (Inj.of I4)⟩
end
end Ev
end
section
set_option linter.all false
set_option maxHeartbeats 1000000
namespace Ev
open PySem
section
variable {K : PySem.W.Frag} {G : GSet} {H : Hp}
theorem Reps.setv {k : Nat} {x : D} {y : V} {fy : List Addr} (r : Rep K G H k x y fy) (ndy : fy.Nodup) : ∀ {ds vs fx}, Reps K G H k ds vs fx → fx.Nodup → (∀ a ∈ fx, a ∉ fy) → ∀ j, ∃ fx', Reps K G H k (ds.set j x) (vs.set j y) fx' ∧ fx'.Nodup ∧ ∀ b ∈ fx', b ∈ fx ∨ b ∈ fy
  | _, _, _, .nil, nd, _, j => ⟨[], by simpa using Reps.nil, List.nodup_nil, fun b hb => by cases hb⟩
  | _, _, _, .cons (fp := f1) (fps := f2) r1 rs, nd, dj, 0 => by
    have n := List.nodup_append.mp nd
    exact ⟨fy ++ f2, by simpa using Reps.cons r rs, List.nodup_append.mpr ⟨ndy, n.2.1, fun a ha b hb z => dj b (List.mem_append_right _ hb) (z ▸ ha)⟩, fun b hb => (List.mem_append.mp hb).elim .inr fun z => .inl (List.mem_append_right _ z)⟩
  | _, _, _, .cons (fp := f1) (fps := f2) r1 rs, nd, dj, j + 1 => by
    have n := List.nodup_append.mp nd
    obtain ⟨g, rg, ng, sg⟩ := Reps.setv r ndy rs n.2.1 (fun a ha => dj a (List.mem_append_right _ ha)) j
    refine ⟨f1 ++ g, by simpa using Reps.cons r1 rg, List.nodup_append.mpr ⟨n.1, ng, fun a ha b hb z => ?_⟩, fun b hb => ?_⟩
    · subst z
      rcases sg a hb with q | q
      · exact n.2.2 a ha a q rfl
      · exact dj a (List.mem_append_left _ ha) q
    · rcases List.mem_append.mp hb with z | z
      · exact .inl (List.mem_append_left _ z)
      · exact (sg b z).imp (fun q => List.mem_append_right _ q) id
end
section
variable {K : PySem.W.Frag} {G G1 G2 : GSet} {H H1 H2 : Hp} {fp fp1 fp2 : FpT} {e e1 e2 : Ls} {σ : L2.St} {ts : List Nat}
/-- what is new stays apart -/
theorem fresh_later {k : Nat} {d : D} {v : V} {fx : List Addr} (S1 : Sim K G1 H1 e1 σ fp1) (r : Rep K G1 H1 k d v fx) (hx : ∀ a ∈ fx, H a = none ∧ (∀ i, a ∉ fp1 i) ∧ ¬ G1 a) (F : Frm G1 H1 fp1 G2 H2 fp2) (Kp : KeepH ts H1 fp1 H2) :
    Rep K G2 H2 k d v fx ∧ ∀ a ∈ fx, H a = none ∧ (∀ i, a ∉ fp2 i) ∧ ¬ G2 a := by
  refine ⟨r.later S1 (on := none) (fun a ha => .inr (hx a ha).2) F Kp rfl, fun a ha => ⟨(hx a ha).1, fun i z => ?_, fun g => ?_⟩⟩
  · obtain ⟨o, ho, _⟩ := r.there a ha
    rcases F.fn i a z with y | y
    · exact (hx a ha).2.1 i y
    · rw [ho] at y; cases y
  · obtain ⟨o, ho, _⟩ := r.there a ha
    rcases F.gn a g with y | ⟨i, y⟩ | y
    · exact (hx a ha).2.2 y
    · exact (hx a ha).2.1 i y
    · rw [ho] at y; cases y
/-- what is put into a part -/
theorem set_in {w : Vw} {xs : Sl} {ud : D} {e5 : Ls} {va vi vx : V} {fx fu : List Addr} {ku : Nat} {Hs : Hp} {P : L2.St → Hp → Prop} {a : Xp} (S : Sim K G H e σ fp) (F : Frm G H fp G2 H2 fp2) (Kp : Keep ts e H fp e2 H2) (S2 : Sim K G2 H2 e2 σ fp2) (J2 : Inj K H2)
    (o : VwOk K Hs σ w e2 G2 H2 fp2 va) (ru : Rep K G2 H2 ku ud vi fu) (rx : Rep K G2 H2 xs.k xs.d vx fx) (ndx : fx.Nodup) (hx : ∀ b ∈ fx, H b = none ∧ (∀ i, b ∉ fp2 i) ∧ ¬ G2 b) (hset : setAt w ud xs e2 = some e5)
    (hb : (match w.src with | some q => a.base.contains q.1 | none => false) = true)
    (q : ∀ G' H' fp', Frm G H fp G' H' fp' → Keep (a.base ++ ts) e H fp e5 H' → Sim K G' H' e5 σ fp' → Inj K H' → P σ H') : rPutA K va vi vx H2 (P σ) := by
  unfold setAt at hset
  cases hq : w.src with
  | none => rw [hq] at hb; cases hb
  | some q0 =>
    rw [hq] at hb hset
    have hib : q0.1 ∈ a.base := by simpa using hb
    unfold VwOk at o
    rw [hq] at o
    obtain ⟨s, v0, hs1, hs2, hp⟩ := o
    have hpt := hp.part
    dsimp only at hset
    rw [hs1, Option.bind_some] at hset
    by_cases hcond : (decide (dep s.d q0.2 < s.k) && decide (s.k ≤ dep s.d q0.2 + 1 + xs.k)) = true
    case neg => rw [if_neg hcond] at hset; cases hset
    rw [if_pos hcond, hpt] at hset
    simp only [Bool.and_eq_true, decide_eq_true_eq] at hcond
    obtain ⟨hdep, hk⟩ := hcond
    obtain ⟨m, hm⟩ : ∃ m, s.k - dep s.d q0.2 = m + 1 := ⟨s.k - dep s.d q0.2 - 1, by omega⟩
    obtain ⟨fw, rw1, _⟩ := S2.view J2 hs1 hs2 hp
    generalize ownAt e2 q0.1 q0.2 = kw at rw1
    have mk' : ∀ {H' : Hp}, Keep (q0.1 :: ts) e H fp e5 H' → Keep (a.base ++ ts) e H fp e5 H' := fun k => k.mono fun j hj => by
      rcases List.mem_cons.mp hj with z | z
      · exact List.mem_append_left _ (z ▸ hib)
      · exact List.mem_append_right _ z
    have main := fun (p : Addr) (ep : va = L2.V.ref p) => mutate_ok (d1 := w.d) S J2 F Kp S2 rx ndx hx hs1 hs2 (ep ▸ hp) hdep hm (by omega)
    cases hd : w.d with
    | lst ds =>
      rw [hd] at hset
      obtain ⟨n, rfl⟩ : ∃ n, ud = .int n := by
        cases ud <;> first | exact ⟨_, rfl⟩ | cases hset
      dsimp only at hset
      obtain ⟨j, hj, h5⟩ := Option.bind_eq_some_iff.mp hset
      simp only [Option.some.injEq] at h5
      obtain ⟨p, rfl⟩ : ∃ p, va = .ref p := by
        rw [hd] at rw1
        cases rw1 with
        | lstF h1 _ => exact ⟨_, rfl⟩
        | lstO h1 _ => exact ⟨_, rfl⟩
      obtain ⟨f1, fy', G4, r1, nd1, g34, ndy', ry4, f1n, g4, fyn, mk⟩ := main p rfl
      rw [hd] at r1
      have evi : vi = .int n := by cases ru; rfl
      subst evi
      cases r1 with
      | @lstO _ _ _ vs f2 h1 rs =>
        obtain ⟨np, nd2⟩ := List.nodup_cons.mp nd1
        have pg : ¬ G4 p := (f1n p (List.mem_cons_self ..)).2.2
        refine .inl ⟨p, vs, n, j, rfl, rfl, h1, by rw [← rs.length, ← ixD_is]; exact hj, fun J' => ?_⟩
        have st4 : Stays G4 H2 (L2.upd H2 p (.lst (vs.set j vx))) := .upd h1 trivial pg
        have rs4 := rs.keep g34 (.upd (o := .lst (vs.set j vx)) h1 trivial fun g => pg (g34 _ g)) fun b hb => L2.upd_ne fun z => np (z ▸ hb)
        have ry5 := ry4.keep (fun _ g => g) st4 fun b hb => L2.upd_ne (o := .lst (vs.set j vx)) fun z => (f1n p (List.mem_cons_self ..)).1 (z ▸ hb)
        obtain ⟨g, rg, ng, sg⟩ := Reps.setv ry5 ndy' rs4 nd2 (fun b hb => (f1n b (List.mem_cons_of_mem _ hb)).1) j
        obtain ⟨fp4, FF, KK, S4⟩ := mk f2 rfl _ _ _ (.lstO L2.upd_same rg) ng sg
        rw [h5] at KK S4
        exact q _ _ fp4 FF (mk' KK) S4 J'
    | dct ks vs0 =>
      rw [hd] at hset
      have hset' : (if keyOk ud && okLen ks.length then some (e2.put q0.1 s.k (putAt s.d q0.2 (.dct (putKV ks vs0 ud xs.d).1 (putKV ks vs0 ud xs.d).2))) else none) = some e5 := by
        cases ud <;> exact hset
      by_cases hc : (keyOk ud && okLen ks.length) = true
      case neg => rw [if_neg hc] at hset'; cases hset'
      rw [if_pos hc] at hset'
      simp only [Bool.and_eq_true, Option.some.injEq] at hc hset'
      obtain ⟨y, hy⟩ := key_of hc.1
      obtain ⟨p, rfl⟩ : ∃ p, va = .ref p := by
        rw [hd] at rw1
        cases rw1 with
        | dctF h1 _ _ _ _ => exact ⟨_, rfl⟩
        | dctO h1 _ _ _ => exact ⟨_, rfl⟩
      obtain ⟨f1, fy', G4, r1, nd1, g34, ndy', ry4, f1n, g4, fyn, mk⟩ := main p rfl
      rw [hd] at r1
      have evi : vi = L2.kV y := rep_key hy ru
      subst evi
      cases r1 with
      | @dctO _ _ _ _ kvs f2 h1 hk1 hk2 rs =>
        obtain ⟨np, nd2⟩ := List.nodup_cons.mp nd1
        have pg : ¬ G4 p := (f1n p (List.mem_cons_self ..)).2.2
        have hlen : kvs.length = ks.length := by
          have := congrArg List.length hk1
          simpa using this.symm
        refine .inr ⟨p, kvs, y, rfl, rfl, h1, ?_, fun J' => ?_⟩
        · have := big_line
          have h6 : sizeLine ≠ 1000000 := by rw [sizeLine_eq]; decide
          have := okL hc.2
          omega
        · have st4 : Stays G4 H2 (L2.upd H2 p (.dK (L2.putK kvs y vx))) := .upd h1 trivial pg
          have rs4 := rs.keep g34 (.upd (o := .dK (L2.putK kvs y vx)) h1 trivial fun g => pg (g34 _ g)) fun b hb => L2.upd_ne fun z => np (z ▸ hb)
          have ry5 := ry4.keep (fun _ g => g) st4 fun b hb => L2.upd_ne (o := .dK (L2.putK kvs y vx)) fun z => (f1n p (List.mem_cons_self ..)).1 (z ▸ hb)
          obtain ⟨g, rg, ng, sg, kg, dg, _⟩ := putKV_ok hy ry5 hk1 hk2 rs4 (List.nodup_append.mpr ⟨nd2, ndy', fun b hb c hc z => (f1n b (List.mem_cons_of_mem _ hb)).1 (z ▸ hc)⟩)
          obtain ⟨fp4, FF, KK, S4⟩ := mk f2 rfl _ _ _ (.dctO L2.upd_same kg dg rg) ng sg
          rw [hset'] at KK S4
          exact q _ _ fp4 FF (mk' KK) S4 J'
    | _ => rw [hd] at hset; cases ud <;> cases hset
end
end Ev
end
section
set_option linter.all false
set_option maxHeartbeats 1000000
namespace Ev
open PySem
section
variable {P : Prm} {F : Nat → List Sl → CR} {T : Tb} {Gt : Nat → (Ls → R Vw) → Ls → R Vw} {th : Option (Ls × (Ls → R Vw))} {ls ts ts1 : List Nat} {fuel : Nat} {σ : L2.St} {H : Hp} {D : L2.Ends} {G : GSet} {fp : FpT} {e : Ls} {α β : Type}
theorem toQ_ok {α : Type} {a : α} {e : Ls} {f : α → Ls → Q} : toQ (.ok a e) f = f a e := rfl
theorem ts_setSub {a i x : Xp} (h : TS1 P F T Gt th ls fuel (.setSub a i x) D σ H) : L2.tAsg (inj P.K (TEs P F T Gt th x)) (L2.gSub (inj P.K (TEs P F T Gt th a)) (inj P.K (TEs P F T Gt th i)) (rPutA P.K)) D σ H := by
  obtain ⟨e, G, fp, S, h⟩ := h
  simp only [exec] at h
  have sets : Sm.sets (.setSub a i x) = a.base ++ a.tch ++ i.tch ++ x.tch := by simp only [Sm.sets]
  rw [sets] at h
  refine ⟨e, G, fp, S, AftS.first h (fun j hj => List.mem_append_right _ hj) fun w0 e1 G1 H1 fp1 vx hr1 F1 K1 S1 J1 o1 _ => ?_⟩
  rw [hr1, toQ_ok] at h
  obtain ⟨G2, fp2, fx, F2, K2, S2, rx, ndx, hx⟩ := asO_ok S F1 K1 S1 J1 o1
  generalize (asO w0 e1).1 = xs at h rx
  generalize (asO w0 e1).2 = e2 at h K2 S2
  have h2 := AftS.shift (ts1 := x.tch) (ts2 := a.base ++ a.tch ++ i.tch) h (fun j hj => by
    rcases List.mem_append.mp hj with z | z
    · exact List.mem_append_right _ z
    · exact List.mem_append_left _ z) S F2 K2.h .refl
  refine ⟨e2, G2, fp2, S2, AftS.first h2 (fun j hj => List.mem_append_left _ (List.mem_append_right _ hj)) fun w e3 G3 H3 fp3 va hr3 F3 K3 S3 J3 o3 _ => ?_⟩
  rw [hr3, toQ_ok] at h h2
  by_cases hm : mutOk a w i.tch = true
  case neg => rw [if_neg hm] at h; exact h.elim
  rw [if_pos hm] at h h2
  simp only [mutOk, Bool.and_eq_true, Bool.not_eq_true'] at hm
  have h3 := AftS.shift (ts1 := a.tch) (ts2 := a.base ++ i.tch) h2 (fun j hj => by
    rcases List.mem_append.mp hj with z | z
    · exact List.mem_append_left _ (List.mem_append_right _ z)
    · rcases List.mem_append.mp z with z | z
      · exact List.mem_append_left _ (List.mem_append_left _ z)
      · exact List.mem_append_right _ z) S2 F3 K3.h .refl
  refine ⟨e3, G3, fp3, S3, AftS.first h3 (fun j hj => List.mem_append_right _ hj) fun u e4 G4 H4 fp4 vi hr4 F4 K4 S4 J4 o4 _ => ?_⟩
  rw [hr4, toQ_ok] at h
  have F24 := F3.trans S2 F4
  have K24 := Keep.trans S2 F3 K3 F4 K4
  have F04 := F2.trans S F24
  have K04 := Keep.trans S F2 K2 F24 K24
  obtain ⟨rx4, hx4⟩ := fresh_later S2 rx hx F24 K24.h
  have o5 := o3.later S3 J3 F4 K4 hm.1
  obtain ⟨ku, fu, ru, _⟩ := look_ok S4 J4 o4
  cases hset : setAt w u.d xs e4 with
  | none => rw [hset] at h; exact h.elim
  | some e5 =>
    rw [hset] at h
    refine set_in (P := D.nx) S F04 K04 S4 J4 o5 ru rx4 ndx hx4 hset hm.2 fun G' H' fp' F' K' S' J' => h σ G' H' fp' F' (K'.h.mono fun j hj => ?_) .refl S' J'
    simp only [List.mem_append] at hj ⊢
    rcases hj with z | z | z | z
    · exact .inl (.inl (.inl z))
    · exact .inr z
    · exact .inl (.inl (.inr z))
    · exact .inl (.inr z)
end
end Ev
end
section
set_option linter.all false
set_option maxHeartbeats 1000000
namespace Ev
open PySem
section
variable {P : Prm} {F : Nat → List Sl → CR} {T : Tb} {Gt : Nat → (Ls → R Vw) → Ls → R Vw} {th : Option (Ls × (Ls → R Vw))} {ls ts ts1 : List Nat} {fuel : Nat} {σ : L2.St} {H : Hp} {D : L2.Ends} {G : GSet} {fp : FpT} {e : Ls} {α β : Type}
/-- numbers: x op= y -/
def ipA (op : Pr) : L2.TIp := fun x y H Q => ∃ i j, x = .int i ∧ y = .int j ∧ ∃ k, augI op (.int i) (.int j) = some (.int k) ∧ Q (.int k) H
theorem ip_addA {X : L2.Cx} : L2.PIp X .Add (ipA .add) := fun pins s σ H x y v u Q I r1 r2 ⟨i, j, e1, e2, k, hk, q⟩ => by
  simp only [augI, Option.some.injEq, D.int.injEq] at hk
  subst hk
  exact L2.ip_add pins s σ H x y v u Q I r1 r2 ⟨i, j, e1, e2, q⟩
theorem ip_subA {X : L2.Cx} : L2.PIp X .Sub (ipA .sub) := fun pins s σ H x y v u Q I r1 r2 ⟨i, j, e1, e2, k, hk, q⟩ => by
  simp only [augI, Option.some.injEq, D.int.injEq] at hk
  subst hk
  exact L2.ip_sub pins s σ H x y v u Q I r1 r2 ⟨i, j, e1, e2, q⟩
theorem aug_int {op : Pr} {a b d : Ev.D} (h : augI op a b = some d) : ∃ i j k, a = .int i ∧ b = .int j ∧ d = .int k := by
  unfold augI at h
  split at h
  · exact ⟨_, _, _, rfl, rfl, (Option.some.inj h).symm⟩
  · exact ⟨_, _, _, rfl, rfl, (Option.some.inj h).symm⟩
  · cases h
theorem ts_aug {op : Pr} {i : Nat} {x : Xp} (h : TS1 P F T Gt th ls fuel (.aug op i x) D σ H) (J : Inj P.K H) : L2.tAug i (inj P.K (TEs P F T Gt th x)) (ipA op) { D with nx := fun σ' H' => Inj P.K H' → D.nx σ' H' } σ H := by
  obtain ⟨e, G, fp, S, h⟩ := h
  simp only [exec] at h
  have sets : Sm.sets (.aug op i x) = i :: x.tch := by simp only [Sm.sets]
  rw [sets] at h
  cases hv : ev F T Gt th (.v i) e with
  | rs c x => simp only [ev] at hv; split at hv <;> cases hv
  | bad m => rw [hv] at h; exact h.elim
  | ok o e1 =>
    rw [hv, toQ_ok] at h
    simp only [ev] at hv
    cases hs : e.at i with
    | none => rw [hs] at hv; cases hv
    | some s =>
      rw [hs] at hv
      cases hv
      obtain ⟨v, hv, r⟩ := S.rep i s hs
      refine ⟨v, hv, e, G, fp, S, AftS.first h (fun j hj => List.mem_cons_of_mem _ hj) fun w e2 G2 H2 fp2 vy hr F2 K2 S2 J2 o2 _ => ?_⟩
      rw [hr, toQ_ok] at h
      dsimp only at h
      cases ha : augI op s.d w.d with
      | none => rw [ha] at h; exact h.elim
      | some d =>
        rw [ha] at h
        obtain ⟨a, b, c, e1, e2', e3⟩ := aug_int ha
        subst e3
        obtain ⟨ky, fy, ry, _⟩ := look_ok S2 J2 o2
        rw [e1] at r
        rw [e2'] at ry
        obtain rfl : v = .int a := by
          revert r; generalize fp i = fz; generalize s.k = kz; intro r; cases r; rfl
        cases ry
        refine ⟨a, b, rfl, rfl, c, by rw [← e1, ← e2']; exact ha, fun J' => ?_⟩
        by_cases hc : ls.contains i = true
        · dsimp only at h; rw [if_pos hc] at h; exact h.elim
        · dsimp only at h
          rw [if_neg hc] at h
          have hi : i < e2.length := by
            rw [S2.len, ← S.len]
            by_cases z : i < e.length
            · exact z
            · unfold Ls.at at hs; rw [List.getElem?_eq_none (by omega)] at hs; cases hs
          have hp : (Tg.v i 0).put 0 (.int c) ls e2 = some (e2.put i 0 (.int c)) := by
            simp only [Tg.put]
            rw [if_neg (by simpa [hi] using hc)]
            simp
          have pp := tg_put (K := P.K) (Tg.v i 0) hp S2 (v := .int c) (fx := []) .int List.nodup_nil fun a h => by cases h
          simp only [gOf] at pp
          obtain ⟨_, G', fp', p⟩ : H2 = H2 ∧ ∃ G' fp', Put P.K [i] [] G2 H2 e2 σ fp2 (e2.put i 0 (.int c)) G' (σ.set i (some (.int c))) fp' := by simp only [Tg.slots] at pp; exact pp
          refine h (σ.set i (some (.int c))) G' H2 fp' (Put.from F2 p fun a ha => by cases ha) (K2.h.mono fun j hj => List.mem_cons_of_mem _ hj) ⟨by simp, fun j hj => ?_⟩ p.s J'
          refine (p.k j fun z => ?_).2.2
          simp only [List.mem_singleton] at z
          subst z
          rcases hj with q | q
          · exact hc (by simpa using q)
          · exact q (List.mem_cons_self ..)
end
end Ev
end
section
set_option linter.all false
set_option maxHeartbeats 1000000
namespace Ev
open PySem
section
variable {P : Prm} {F : Nat → List Sl → CR} {T : Tb} {Gt : Nat → (Ls → R Vw) → Ls → R Vw} {th : Option (Ls × (Ls → R Vw))} {ls ts ts1 : List Nat} {fuel : Nat} {σ : L2.St} {H : Hp} {D : L2.Ends} {G : GSet} {fp : FpT} {e : Ls} {α β : Type}
theorem whl_succ {c : Xp} {body : Ls → Q} {n : Nat} : whlL (fun e => evT F T Gt th c e) body (n + 1) e = toQ (evT F T Gt th c e) fun t e => if t then (match body e with
      | .nx e => whlL (fun e => evT F T Gt th c e) body n e
      | .ct e => whlL (fun e => evT F T Gt th c e) body n e
      | .brk e => .nx e
      | q => q) else .nx e := by
  simp only [whlL]
  cases evT F T Gt th c e with
  | rs c x => rfl
  | bad m => rfl
  | ok b e => cases b <;> rfl
theorem ts_whl {c : Xp} {b : List Sm} (J : Inj P.K H) (h : TS1 P F T Gt th ls fuel (.whl c b) D σ H) : L2.tWhile (TTs P F T Gt th c) (TSs P F T Gt th ls fuel b) D σ H := by
  obtain ⟨e, G, fp, S, h⟩ := h
  simp only [exec] at h
  let TT := c.tch ++ Sm.setss b
  have hb : AftS P ls TT σ G H fp (whlL (fun e => evT F T Gt th c e) (fun e => execs F T Gt th ls fuel b e) fuel e) D := by simpa only [Sm.sets] using h
  generalize hq : whlL (fun e => evT F T Gt th c e) (fun e => execs F T Gt th ls fuel b e) fuel e = q at hb
  refine ⟨fun n σ' Hn => Inj P.K Hn ∧ ∃ eb Gb fpb, whlL (fun e => evT F T Gt th c e) (fun e => execs F T Gt th ls fuel b e) n eb = q ∧ Sim P.K Gb Hn eb σ' fpb ∧ Frm G H fp Gb Hn fpb ∧ KeepH TT H fp Hn ∧ KeepV ls TT σ σ',
    ⟨fuel, J, e, G, fp, hq, S, Frm.refl S, fun _ _ _ _ => rfl, .refl⟩, fun n σ' Hn ⟨Jn, eb, Gb, fpb, hf, S0, F0, K0, V0⟩ => ?_⟩
  cases n with
  | zero => simp only [whlL] at hf; rw [← hf] at hb; exact hb.elim
  | succ n =>
    rw [whl_succ] at hf
    rw [← hf] at hb
    have mTT : ∀ i, i ∈ TT ++ TT → i ∈ TT := fun i hi => (List.mem_append.mp hi).elim id id
    have h2 := AftS.shift hb mTT S F0 K0 V0
    refine ⟨eb, Gb, fpb, S0, AftS.first h2 (fun j hj => List.mem_append_left _ hj) fun t e1 G1 H1 fp1 b' hr F1 K1 S1 J1 o => ?_⟩
    subst o
    rw [hr, toQ_ok] at hf h2
    · cases b' with
      | false =>
        simp only [Bool.false_eq_true, if_false] at h2 ⊢
        exact h2 σ' G1 H1 fp1 F1 (K1.h.mono fun j hj => List.mem_append_left _ hj) .refl S1 J1
      | true =>
        simp only [if_true] at h2 hf ⊢
        refine ⟨fun σ'' H' => ∃ m', m' < n + 1 ∧ Inj P.K H' ∧ ∃ eb Gb fpb, whlL (fun e => evT F T Gt th c e) (fun e => execs F T Gt th ls fuel b e) m' eb = q ∧ Sim P.K Gb H' eb σ'' fpb ∧ Frm G H fp Gb H' fpb ∧ KeepH TT H fp H' ∧ KeepV ls TT σ σ'', fun _ _ z => z, ?_⟩
        have h3 := AftS.shift (ts1 := c.tch) (ts2 := Sm.setss b) h2 (fun i hi => hi) S0 F1 K1.h .refl
        have F01 := F0.trans S F1
        have K01 : KeepH TT H fp H1 := (KeepH.trans S F0 K0 F1 K1.h).mono fun i hi => by
          rcases List.mem_append.mp hi with z | z
          · exact z
          · exact List.mem_append_left _ z
        refine ⟨e1, G1, fp1, S1, ?_⟩
        have next : ∀ {e' : Ls}, whlL (fun e => evT F T Gt th c e) (fun e => execs F T Gt th ls fuel b e) n e' = q → ∀ σ4 G4 H4 fp4, Frm G1 H1 fp1 G4 H4 fp4 → KeepH (Sm.setss b) H1 fp1 H4 → KeepV ls (Sm.setss b) σ' σ4 → Sim P.K G4 H4 e' σ4 fp4 → Inj P.K H4 →
            ∃ m', m' < n + 1 ∧ Inj P.K H4 ∧ ∃ eb Gb fpb, whlL (fun e => evT F T Gt th c e) (fun e => execs F T Gt th ls fuel b e) m' eb = q ∧ Sim P.K Gb H4 eb σ4 fpb ∧ Frm G H fp Gb H4 fpb ∧ KeepH TT H fp H4 ∧ KeepV ls TT σ σ4 :=
          fun {e'} he σ4 G4 H4 fp4 F4 k4 v4 S4 J4 => ⟨n, by omega, J4, e', G4, fp4, he, S4, F01.trans S F4, (KeepH.trans S F01 K01 F4 k4).mono fun i hi => by
            rcases List.mem_append.mp hi with z | z
            · exact z
            · exact List.mem_append_right _ z, (V0.trans v4).mono fun i hi => by
            rcases List.mem_append.mp hi with z | z
            · exact z
            · exact List.mem_append_right _ z⟩
        cases hx : execs F T Gt th ls fuel b e1 with
        | nx e' => rw [hx] at hf; exact next hf
        | ct e' => rw [hx] at hf; exact next hf
        | brk e' => rw [hx] at h3; exact fun σ4 G4 H4 fp4 F4 k4 v4 S4 J4 => h3 σ4 G4 H4 fp4 F4 k4 v4 S4 J4
        | ret kk d' e' => rw [hx] at h3; exact h3
        | rs c x => rw [hx] at h3; exact h3
        | bad m' => rw [hx] at h3; exact h3
end
end Ev
end
section
set_option linter.all false
set_option maxHeartbeats 1000000
namespace Ev
open PySem
theorem putsO_len : ∀ {ts : List Tg} {xs : List Sl} {ls : List Nat} {e e' : Ls}, putsO ts xs ls e = some e' → xs.length = ts.length
  | [], [], _, _, _, _ => rfl
  | [], _ :: _, _, _, _, h => by simp [putsO] at h
  | _ :: _, [], _, _, _, h => by simp [putsO] at h
  | t :: ts, x :: xs, ls, e, e', h => by
    simp only [putsO, Option.bind_eq_some_iff] at h
    obtain ⟨e1, _, h2⟩ := h
    simp [putsO_len h2]
theorem putsO_len2 : ∀ {ts : List Tg} {xs : List Sl} {ls : List Nat} {e e' : Ls}, putsO ts xs ls e = some e' → e'.length = e.length
  | [], [], _, _, _, h => by simp only [putsO, Option.some.injEq] at h; rw [h]
  | [], _ :: _, _, _, _, h => by simp [putsO] at h
  | _ :: _, [], _, _, _, h => by simp [putsO] at h
  | t :: ts, x :: xs, ls, e, e', h => by
    simp only [putsO, Option.bind_eq_some_iff] at h
    obtain ⟨e1, h1, h2⟩ := h
    rw [putsO_len2 h2, put_len t h1]
theorem putsO_ls : ∀ {ts : List Tg} {xs : List Sl} {ls : List Nat} {e e' : Ls}, putsO ts xs ls e = some e' → ∀ i ∈ Tg.slotss ts, i ∉ ls
  | [], [], _, _, _, _, i, hi => by simp [Tg.slotss] at hi
  | [], _ :: _, _, _, _, h, _, _ => by simp [putsO] at h
  | _ :: _, [], _, _, _, h, _, _ => by simp [putsO] at h
  | t :: ts, x :: xs, ls, e, e', h, i, hi => by
    simp only [putsO, Option.bind_eq_some_iff] at h
    obtain ⟨e1, h1, h2⟩ := h
    simp only [Tg.slotss] at hi
    rcases List.mem_append.mp hi with q | q
    · exact put_ls t h1 i q
    · exact putsO_ls h2 i q
section
variable {K : PySem.W.Frag} {H : Hp}
theorem Own.keepG {G G' : GSet} (g : ∀ a, G a → G' a) : ∀ {ss vs fx}, Own K G H ss vs fx → Own K G' H ss vs fx
  | _, _, _, .nil => .nil
  | _, _, _, .cons r rs => .cons (r.keep g .refl fun _ _ => rfl) (Own.keepG g rs)
theorem putsO_ok : ∀ (ts : List Tg) {e e' : Ls} {G : GSet} {σ : L2.St} {fp : FpT} {ss : List Sl} {vs : List V} {fx : List Addr} {ls : List Nat}, putsO ts ss ls e = some e' → Sim K G H e σ fp → Own K G H ss vs fx → fx.Nodup → (∀ a ∈ fx, (∀ j, a ∉ fp j) ∧ ¬ G a) →
    gsOf K ts vs σ H fun σ' H' => H' = H ∧ ∃ G' fp', Put K (Tg.slotss ts) fx G H e σ fp e' G' σ' fp'
  | [], e, e', G, σ, fp, [], vs, fx, ls, h, S, r, nd, hx => by
    simp only [putsO, Option.some.injEq] at h
    subst h
    cases r
    simp only [gsOf]
    exact ⟨rfl, rfl, G, fp, S, fun _ g => g, fun _ g => .inl g, fun _ _ h => .inl h, fun _ _ => ⟨rfl, rfl, rfl⟩⟩
  | [], e, e', G, σ, fp, _ :: _, vs, fx, ls, h, S, r, nd, hx => by simp [putsO] at h
  | _ :: _, e, e', G, σ, fp, [], vs, fx, ls, h, S, r, nd, hx => by simp [putsO] at h
  | t :: ts, e, e', G, σ, fp, s :: ss, _, _, ls, h, S, .cons (v := v) (vs := vs) (fx := f1) (fxs := f2) r rs, nd, hx => by
    simp only [putsO, Option.bind_eq_some_iff] at h
    obtain ⟨e1, h1, h2⟩ := h
    obtain ⟨n1, n2, n3⟩ := List.nodup_append.mp nd
    have z := tg_put t h1 S r n1 fun a ha => hx a (List.mem_append_left _ ha)
    simp only [gsOf]
    refine ⟨v, vs, rfl, gOf_imp t z fun σ1 H1 ⟨eH, G1, fp1, p1⟩ => ?_⟩
    rw [eH]
    have rs1 : Own K G1 H ss vs f2 := rs.keepG p1.g
    have hx1 : ∀ a ∈ f2, (∀ j, a ∉ fp1 j) ∧ ¬ G1 a := fun a ha => by
      have ha' := hx a (List.mem_append_right _ ha)
      refine ⟨fun j hj => ?_, fun g => ?_⟩
      · rcases p1.fn j a hj with q | q
        · exact ha'.1 j q
        · exact n3 a q a ha rfl
      · rcases p1.gn a g with q | q
        · exact ha'.2 q
        · exact n3 a q a ha rfl
    refine gsOf_imp ts (putsO_ok ts h2 p1.s rs1 n2 hx1) fun σ2 H2 ⟨eH2, G2, fp2, p2⟩ => ⟨eH2, G2, fp2, p2.s, fun a g => p2.g a (p1.g a g), fun a g => ?_, fun i a h => ?_, fun i hi => ?_⟩
    · rcases p2.gn a g with q | q
      · rcases p1.gn a q with q | q
        · exact .inl q
        · exact .inr (List.mem_append_left _ q)
      · exact .inr (List.mem_append_right _ q)
    · rcases p2.fn i a h with q | q
      · rcases p1.fn i a q with q | q
        · exact .inl q
        · exact .inr (List.mem_append_left _ q)
      · exact .inr (List.mem_append_right _ q)
    · simp only [Tg.slotss, List.mem_append, not_or] at hi
      obtain ⟨a1, a2, a3⟩ := p1.k i hi.1
      obtain ⟨b1, b2, b3⟩ := p2.k i hi.2
      exact ⟨b1.trans a1, b2.trans a2, b3.trans a3⟩
end
section
variable {P : Prm} {F : Nat → List Sl → CR} {T : Tb} {Gt : Nat → (Ls → R Vw) → Ls → R Vw} {th : Option (Ls × (Ls → R Vw))} {ls ts ts1 : List Nat} {fuel : Nat} {σ : L2.St} {H : Hp} {D : L2.Ends} {G : GSet} {fp : FpT} {e : Ls} {α β : Type}
/-- a, b = x, y: what is evaluated, then stored, one by one -/
theorem ts_par {tgs : List Tg} {es : List Xp} (h : TS1 P F T Gt th ls fuel (.set (.tup tgs) (.tup es)) D σ H) : injA P.K (TOs P F T Gt th es) σ H fun vs H1 => vs.length = tgs.length ∧ gsOf P.K tgs vs σ H1 fun σ' H' => Inj P.K H' → D.nx σ' H' := by
  obtain ⟨e, G, fp, S, h⟩ := h
  simp only [exec] at h
  have m1 : ∀ i, i ∈ Xp.tchs es → i ∈ Sm.sets (.set (.tup tgs) (.tup es)) := fun i hi => by simp only [Sm.sets, Xp.tch]; exact List.mem_append_right _ hi
  refine ⟨e, G, fp, S, AftS.first h m1 fun xs e1 G1 H1 fp1 vs hr Fr Kp S1 J1 o _ => ?_⟩
  rw [hr, toQ_ok] at h
  obtain ⟨fx, ow, nd, hx⟩ := o
  cases hp : putsO tgs xs ls e1 with
  | none => rw [hp] at h; exact h.elim
  | some e' =>
    rw [hp] at h
    refine ⟨by rw [← ow.length, putsO_len hp], gsOf_imp tgs (putsO_ok tgs hp S1 ow nd fun a ha => (hx a ha).2) fun σ' H' ⟨eH, G', fp', p⟩ J' => ?_⟩
    rw [eH] at J' ⊢
    refine h σ' G' H1 fp' (Put.from Fr p fun a ha => (hx a ha).1) (Kp.h.mono m1) ⟨?_, fun i hi => ?_⟩ p.s J'
    · rw [← p.s.len, putsO_len2 hp, S1.len]
    · refine (p.k i fun z => ?_).2.2
      rcases hi with q | q
      · exact putsO_ls hp i z q
      · exact q (by simp only [Sm.sets, Tg.slots]; exact List.mem_append_left _ z)
theorem ts_par2 {i j n m : Nat} {a b : Xp} (h : TS1 P F T Gt th ls fuel (.set (.tup [.v i n, .v j m]) (.tup [a, b])) D σ H) : L2.tPar i j (injA P.K (TOs P F T Gt th [a, b])) { D with nx := fun σ' H' => Inj P.K H' → D.nx σ' H' } σ H := by
  obtain ⟨e, G, fp, S, q⟩ := ts_par h
  refine ⟨e, G, fp, S, q.imp fun vs H1 z0 J => ?_⟩
  obtain ⟨hl, z⟩ := z0 J
  clear z0
  simp only [gsOf, gOf] at z
  obtain ⟨v, r, e1, v2, r2, e2, e3, z⟩ : ∃ v r, vs = v :: r ∧ L2.gCons (L2.gName j) L2.gNil r (σ.set i (some v)) H1 fun σ' H' => Inj P.K H' → D.nx σ' H' := z
  subst e1 e2 e3
  exact ⟨v, v2, rfl, z⟩
theorem ts_par3 {i j l n m k : Nat} {a b c : Xp} (h : TS1 P F T Gt th ls fuel (.set (.tup [.v i n, .v j m, .v l k]) (.tup [a, b, c])) D σ H) : L2.tPar3 i j l (injA P.K (TOs P F T Gt th [a, b, c])) { D with nx := fun σ' H' => Inj P.K H' → D.nx σ' H' } σ H := by
  obtain ⟨e, G, fp, S, q⟩ := ts_par h
  refine ⟨e, G, fp, S, q.imp fun vs H1 z0 J => ?_⟩
  obtain ⟨hl, z⟩ := z0 J
  clear z0
  simp only [gsOf, gOf] at z
  obtain ⟨v, r, e1, v2, r2, e2, v3, r3, e3, e4, z⟩ : ∃ v r, vs = v :: r ∧ L2.gCons (L2.gName j) (L2.gCons (L2.gName l) L2.gNil) r (σ.set i (some v)) H1 fun σ' H' => Inj P.K H' → D.nx σ' H' := z
  subst e1 e2 e3 e4
  exact ⟨v, v2, v3, rfl, z⟩
/-- by way of a new tuple -/
theorem ts_parT {tgs : List Tg} {es : List Xp} (hl : es.length ≤ 1000) (h : TS1 P F T Gt th ls fuel (.set (.tup tgs) (.tup es)) D σ H) : L2.tAsg (L2.tTup (injA P.K (TOs P F T Gt th es))) (gOf P.K (.tup tgs)) { D with nx := fun σ' H' => Inj P.K H' → D.nx σ' H' } σ H := by
  obtain ⟨e, G, fp, S, h⟩ := h
  simp only [exec] at h
  have m1 : ∀ i, i ∈ Xp.tchs es → i ∈ Sm.sets (.set (.tup tgs) (.tup es)) := fun i hi => by simp only [Sm.sets, Xp.tch]; exact List.mem_append_right _ hi
  refine ⟨e, G, fp, S, AftS.first h m1 fun xs e1 G1 H1 fp1 vs hr Fr Kp S1 J1 o _ => ?_⟩
  rw [hr, toQ_ok] at h
  obtain ⟨fx, ow, nd, hx⟩ := o
  have hlen : vs.length = es.length := by rw [← ow.length, evO_length hr]
  refine ⟨by have := big_line; omega, fun p np => ?_⟩
  have ext := upd_ext (o := .tup vs) np
  obtain ⟨S2, F2, K2⟩ := S1.ext ext
  have ow2 : ∀ {ss ws fx}, Own P.K G1 H1 ss ws fx → Own P.K G1 (L2.upd H1 p (.tup vs)) ss ws fx := by
    intro ss ws fx o
    clear h hr hlen
    induction o with
    | nil => exact .nil
    | cons r _ ih => exact .cons (r.ext (upd_ext np)) ih
  cases hp : putsO tgs xs ls e1 with
  | none => rw [hp] at h; exact h.elim
  | some e' =>
    rw [hp] at h
    simp only [gOf]
    refine ⟨p, vs, rfl, L2.SqT.of L2.upd_same, by rw [← ow.length, putsO_len hp], gsOf_imp tgs (putsO_ok tgs hp S2 (ow2 ow) nd fun a ha => (hx a ha).2) fun σ' H' ⟨eH, G', fp', p'⟩ J' => ?_⟩
    rw [eH] at J' ⊢
    refine h σ' G' _ fp' (Put.from (Fr.trans S F2) p' fun a ha => (hx a ha).1) ((KeepH.trans S Fr Kp.h F2 K2.h).mono fun i hi => m1 i (by simpa using hi)) ⟨?_, fun i hi => ?_⟩ p'.s J'
    · rw [← p'.s.len, putsO_len2 hp, S1.len]
    · refine (p'.k i fun z => ?_).2.2
      rcases hi with q | q
      · exact putsO_ls hp i z q
      · exact q (by simp only [Sm.sets, Tg.slots]; exact List.mem_append_left _ z)
end
end Ev
end
section
set_option linter.all false
set_option maxHeartbeats 1000000
namespace Ev
open PySem PyProof.Rows
/-- a def keeps a promise wherever nothing is guarded (repr wants that) -/
structure FnG (P : Program) (w : World) (K : PySem.W.Frag) (mg : Str → Option Value) (base : Heap) (k : Nat) (f : Addr) (fd : FuncData) (ps : List Str) (sp : L2.Sp) : Prop where
  lenG : ∀ vs H Q E, sp vs H Q E → vs.length = ps.length
  runG : ∀ (A : Around) (outer : List Env) (s : Shared) (H : L2.Hp) (args : Args) (us : List Value) (vs : List L2.V) (Q : L2.VK) (E : L2.XK), A.guards = some [] → L2.Room k A → L2.Env0 P w K mg base A outer s H → BindsTo s fd args (ps.zip us) →
    L2.Vals vs us → sp vs H Q E → codeAny (model P w) A (.call (.ref f) args) (L2.CR (L2.CX P w) outer P w H s Q E) s
theorem FnG.no {P : Program} {w : World} {K : PySem.W.Frag} {mg : Str → Option Value} {base : Heap} {k : Nat} {f : Addr} {fd : FuncData} {ps : List Str} {sp : L2.Sp} (h : ∀ vs H Q E, ¬ sp vs H Q E) : FnG P w K mg base k f fd ps sp :=
  ⟨fun vs H Q E q => (h vs H Q E q).elim, fun A outer s H args us vs Q E _ _ _ _ _ q => (h vs H Q E q).elim⟩
section
variable {X : L2.Cx} {k : Nat} {f : Addr} {fd : FuncData} {ps : List Str} {sp : L2.Sp} {dvs : List L2.V} {ds : List Value} {E : L2.St → L2.XK} {x : Str} {p pos : Pos} {e : Expr} {es : List Expr} {t : L2.TA}
theorem run_G {pins : List (Addr × Obj)} {σ : L2.St} {H : L2.Hp} {s : Shared} {Q : L2.VK} {us : List Value} {vs : List L2.V} (fn : FnG X.prog X.w X.K X.mg X.base k f fd ps sp) (gd : X.A.guards = some []) (room : L2.Room k X.A) (bd : L2.Binds X.K fd ps ds) (rd : L2.Vals dvs ds)
    (out : L2.PassesAt (L2.CX X.prog X.w) X σ (E σ)) (I : L2.Inv X pins σ H s) (r : L2.Vals vs us) (h : sp (vs ++ dvs) H Q (E σ)) : wpAny (model X.prog X.w) X.A (call (.ref f) us) (L2.EP X pins σ Q) X.xe s := by
  have rr := r.append rd
  have len : (us ++ ds).length = ps.length := rr.length.symm.trans (fn.lenG _ _ _ _ h)
  refine wpAny_call (codeAny_mono (fn.runG X.A X.stack s H ⟨us, []⟩ _ _ Q (E σ) gd room I.env0 (bd s us I.kIn len) rr h) ?_)
  intro res s' hres
  match res, hres with
  | .error e, z => exact out pins H s e s' I z
  | .ok (.ret u), z => exact I.after z
  | .ok .next, z => exact z.elim
  | .ok .brk, z => exact z.elim
  | .ok .cont, z => exact z.elim
theorem pe_callG (fn : FnG X.prog X.w X.K X.mg X.base k f fd ps sp) (gd : X.A.guards = some []) (room : L2.Room k X.A) (gl : L2.Gl X x) (hm : X.mg x = some (.ref f)) (kp : PySem.W.keepIn X.K (.ref f) = true) (bd : L2.Binds X.K fd ps ds) (rd : L2.Vals dvs ds)
    (out : ∀ σ, L2.PassesAt (L2.CX X.prog X.w) X σ (E σ)) (args : L2.PA X (e :: es) t) (nd : (x == ("__debug__" : Str)) = false) (st : starEach (e :: es) X.env = (false, eval e X.env) :: starEach es X.env) (pl : (backTo pos (starEach es X.env)).any (·.1) = false) :
    L2.PE X (.Call (.Name x p) (e :: es) [] pos) (L2.tCallSD sp dvs E t) := by
  constructor
  intro pins s σ H Q I h
  refine wpAny_Call_Name_kw (L2.ld_glob I gl hm ?_ nd)
  refine PySem.W.callWith_K (h₀ := X.base) I.ok.mod.kin kp ?_ st pl
  refine L2.thn (args.run pos pins s σ H _ I h) ?_
  rintro us s1 ⟨vs, H1, I1, r, q⟩
  exact ⟨I1.kIn, run_G fn gd room bd rd (out σ) I1 r q⟩
/-- a def by its body -/
theorem fnG_of {P : Program} {w : World} {K : PySem.W.Frag} {mg : Str → Option Value} {base : Heap} {k : Nat} {f : Addr} {name qual : Str} {params : Arguments} {body : List Stmt} {scope : Scope} {dV kV doc pm cdv ct oc : Value} {an od : Option Addr}
    {osl : Array (Option Value)} {N ps : List Str} {sp : L2.Sp} (look : K.lookup f = some ⟨oc, od, .func (PySem.W.fnOf name qual params body scope dV kV doc pm an cdv ct), osl⟩) (code : PySem.W.codeIn K cdv qual = true) (sc : L2.FnScope N ps scope)
    (len : ∀ vs H Q E, sp vs H Q E → vs.length = ps.length)
    (walk : ∀ (A : Around) (outer : List Env) (s : Shared) (H : L2.Hp) (vs : List L2.V) (Q : L2.VK) (E : L2.XK), A.guards = some [] → L2.Room k (A.deeper (envOfC qual scope s.heap.objs.size f cdv)) → sp vs H Q E →
      ∃ t, L2.PSs (L2.cxOf (L2.CX P w) P w K mg base N qual scope f cdv A outer s H E) body t ∧ t { nx := fun _ H' => Q .non H', rt := Q } (L2.start N vs) H) :
    FnG P w K mg base (k + 1) f (PySem.W.fnOf name qual params body scope dV kV doc pm an cdv ct) ps sp := by
  constructor
  · exact len
  intro A outer s H args us vs Q E gd room env bd rv hsp
  have inK : K.In s.heap := env.mod.kin.keeps fun b o z => (env.bs b o z).1
  have nolim : s.heap.NoLimit := env.mod.nolimit.keeps fun b o z => (env.bs b o z).1
  have kinds : ∀ y ∈ ps.zip us, scope.names.lookup y.1 = some .local ∨ (scope.names.lookup y.1 = some .cell ∧ ((cellsFrom (s.heap.objs.size + 1) scope.names []).lookup y.1).isSome = true) := by
    rintro ⟨n, v⟩ hy
    rcases sc.par n (List.of_mem_zip hy).1 with z | z
    · exact .inl z
    · exact .inr ⟨z, PySem.W.cellsFrom_some _ _ _ (.inl z)⟩
  refine codeAny_call_function room.depth (inK _ _ look) rfl sc.co sc.gen rfl (PySem.W.codeRec_of inK code) (bd _ _ _ _ ?_)
  refine wpAny_newFunctionEnv_cells sc.kind kinds ?_
  rintro env' rfl s1 fresh
  refine ⟨nolim.keeps fresh.toInCall.keep, codeAny_func ?_⟩
  obtain ⟨t, ht, hq⟩ := walk A outer s H vs Q E gd (room.deeper _) hsp
  have I := L2.inv_start (CX := L2.CX P w) (qual := qual) (cd := cdv) (f := f) (E := E) sc room.hd env (len _ _ _ _ hsp) rv fresh
  refine wpAny_mono (ht.run [] s1 (L2.start N vs) H _ I hq) ?_ fun _ _ z => z
  intro fl s' hs
  match fl, hs with
  | .ret u, ⟨v, σ', H', J, ru, q⟩ => exact ⟨v, H', J.os, J.bare, J.base, J.hok, ru, q⟩
  | .next, ⟨σ', H', J, q⟩ => exact ⟨.non, H', J.os, J.bare, J.base, J.hok, rfl, q⟩
  | .brk, ⟨_, _, _, q⟩ => exact q.elim
  | .cont, ⟨_, _, _, q⟩ => exact q.elim
theorem FunD.okG {P : Program} {w : World} {K : PySem.W.Frag} {mg : Str → Option Value} {base : Heap} {x qual : Str} {params : Arguments} {body : List Stmt} {scope : Scope} {dvs : List L2.V} {kws : List (Str × L2.V)} {f : Addr} {fd : FuncData} {N ps : List Str} {k : Nat} {sp : L2.Sp}
    (fu : L2.FunD K x qual params body scope dvs kws f fd) (sc : L2.FnScope N ps scope) (len : ∀ vs H Q E, sp vs H Q E → vs.length = ps.length)
    (walk : ∀ (cdv : Value) (A : Around) (outer : List Env) (s : Shared) (H : L2.Hp) (vs : List L2.V) (Q : L2.VK) (E : L2.XK), A.guards = some [] → L2.Room k (A.deeper (envOfC qual scope s.heap.objs.size f cdv)) → sp vs H Q E →
      ∃ t, L2.PSs (L2.cxOf (L2.CX P w) P w K mg base N qual scope f cdv A outer s H E) body t ∧ t { nx := fun _ H' => Q .non H', rt := Q } (L2.start N vs) H) : FnG P w K mg base (k + 1) f fd ps sp := by
  obtain ⟨oc, od, dV, kV, doc, pm, an, cdv, ct, osl, rfl, look, code, _, _⟩ := fu.ex
  exact fnG_of look code sc len fun A outer s H vs Q E gd room h => walk cdv A outer s H vs Q E gd room h
end
end Ev
end
section
set_option linter.all false
set_option maxRecDepth 100000
set_option maxHeartbeats 4000000
namespace PySem.W
open PySem PySem.Spec PySem.Calls PyProof.Rows
section
variable {prog : Program} {w : World} {A : Around} {E : Value → Shared → Prop} {s : Shared} {K : Frag} {x D : Addr} {ox : Obj} {od : Option Obj}
theorem evFind {C : Addr} {name : Str} {a g : Value} (hc : (clsIn K C).isSome = true) (ha : findIn K (.ref C) name = some (some a)) (hg : specialIn K a "__get__" = some (some g)) (ht : takesIn K a = some true) : findObj K C od name = some (.bind g a) := by
  obtain ⟨cd, hc⟩ := Option.isSome_iff_exists.mp hc
  unfold findObj
  rw [hc, Option.bind_some, ha, Option.bind_some]
  simp [hg, ht]
/-- e.__class__, e with its dict -/
theorem evClass {Q : Option Value → Shared → Prop} (ga : findIn K (.ref D) "__getattribute__" = some (some (.builtin "BaseException.__getattribute__"))) (gt : findIn K (.ref D) "__getattr__" = some none) (sub : subIn K (.ref D) (.type "BaseException") = some true) (dct : hasDictIn K D = true)
    (ca : findIn K (.ref D) "__class__" = some (some (.builtin "object.__class__"))) (cg : specialIn K (.builtin "object.__class__") "__get__" = some (some (.builtin "getset_descriptor.__get__"))) (ct : takesIn K (.builtin "object.__class__") = some true) (mo : mroIn K D (.type "object") = some true)
    (KX : K.In s.heap) (I : InstAt s.heap x ox D od) (h : Q (some (.ref D)) { s with toks := s.toks + 1 }) : wpAny (model prog w) A (getAttr? (.ref x) "__class__") Q E s := by
  have fnd : findObj K D od "__class__" = some (.bind (.builtin "getset_descriptor.__get__") (.builtin "object.__class__")) := evFind (by obtain ⟨cd, hc, _⟩ := any_some dct; rw [hc]; rfl) ca cg ct
  obtain ⟨hp, g, d, t, os⟩ := s
  have LT := I.type (M := model prog w)
  have LA := looks_findIn (M := model prog w) KX ga
  have LG := looks_findIn (M := model prog w) KX gt
  have LF := looks_find (M := model prog w) KX I fnd
  have isB : Looks (model prog w) hp (isInstance (.ref x) (.type "BaseException")) true := LT.andThen (looks_subIn KX sub)
  have n0 : (false && onTheHeap (Value.builtin "BaseException.__getattribute__")) = false := rfl
  have n2 : (Value.builtin "BaseException.__getattribute__" == Value.builtin "object.__getattribute__") = false := by decide +kernel
  have n1 : (onTheHeap (Value.ref D) && Value.builtin "BaseException.__getattribute__" == Value.builtin "object.__getattribute__") = false := by rw [n2]; rfl
  unfold getAttr? getAttrBy? getAttrBy
  refine wpAny_bind (wpAny_mkText (wpAny_bind (wpAny_attempt (wpAny_holding (wpAny_bind (LT.at (wpAny_bind (LA.at ?_))))))))
  show wpAny _ _ (if (onTheHeap (Value.ref D) && Value.builtin "BaseException.__getattribute__" == Value.builtin "object.__getattribute__") = true then _ else _) _ _ _
  rw [n1, if_neg Bool.false_ne_true]
  unfold getAttrByItsOwn hookBefore
  refine wpAny_bind ?_
  rw [if_pos (show onTheHeap (Value.ref D) = true from rfl)]
  refine LG.at ?_
  refine wpAny_bind (wpAny_attempt (wpAny_holding ?_))
  unfold callGetattribute
  rw [n0, if_neg Bool.false_ne_true]
  unfold boundAndCalled
  rw [PySem.F.excAttr_ValueError.ga.bind (.ref x)]
  refine wpAny_bind (wpAny_pure ?_)
  show wpAny _ _ (call (.builtin "BaseException.__getattribute__") [.ref x, .str "__class__" t]) _ _ _
  refine wpAny_call (codeAny_call_builtin PySem.F.excAttr_ValueError.ga.plain PySem.F.entry_bexc_ga ?_)
  refine @check_slot (model prog w) _ _ ⟨hp, g, d, t + 1, os⟩ "BaseException.__getattribute__" "BaseException" "__getattribute__" (.ref x) [.str "__class__" t] [] _ (by decide +kernel) (by decide +kernel) isB (PySem.F.args_bexc_ga (.ref x) (.str "__class__" t)) ?_
  unfold Builtin.«object.__getattribute__»
  refine wpAny_bind (wpAny_of_eq (a := ((Value.ref x : Value), [Value.str "__class__" t])) (by first | rfl | (simp only [slotArgs]; rfl)) ?_)
  refine wpAny_bind (wpAny_pure (wpAny_bind (LT.at (wpAny_bind (LF.at ?_)))))
  show wpAny _ _ (holding [Value.builtin "object.__class__"] (call (.builtin "getset_descriptor.__get__") [.builtin "object.__class__", .ref x, .ref D]) >>= ret) _ _ _
  refine wpAny_bind (wpAny_holding (wpAny_call (class_get (s := ⟨hp, g, d, t + 1, os⟩) (ox := ox) (od := od) KX I mo ?_)))
  refine wpAny_pure ?_
  show wpAny _ _ (handedOut (.ref D)) _ _ _
  rw [handedOut_of (v := .ref D) rfl]
  first
    | exact wpAny_pure h
    | exact wpAny_pure (wpAny_pure h)
    | exact wpAny_pure (wpAny_bind (wpAny_pure (wpAny_pure h)))
theorem evKit (ga : findIn K (.ref D) "__getattribute__" = some (some (.builtin "BaseException.__getattribute__"))) (gt : findIn K (.ref D) "__getattr__" = some none) (sub : subIn K (.ref D) (.type "BaseException") = some true) (dct : hasDictIn K D = true)
    (ca : findIn K (.ref D) "__class__" = some (some (.builtin "object.__class__"))) (cg : specialIn K (.builtin "object.__class__") "__get__" = some (some (.builtin "getset_descriptor.__get__"))) (ct : takesIn K (.builtin "object.__class__") = some true) (mo : mroIn K D (.type "object") = some true) :
    KitX K (.ref x) (.ref D) (fun h => InstAt h x ox D od) := by
  obtain ⟨cdD, hcD, _⟩ := any_some dct
  refine ⟨fun _ _ _ I => I.type, fun _ _ X _ => ?_, fun h tp dd its n sl X htp => ?_, fun X I k => evClass ga gt sub dct ca cg ct mo X I k⟩
  · unfold clsIn at hcD
    split at hcD
    · rename_i c' d' cd' sl' ho
      intro A' Q' E' s' k q
      unfold isType loadHead
      exact wpAny_bind (wpAny_loadPart (k _ _ (X _ _ ho)) (wpAny_pure q))
    · cases hcD
  · refine Bool.eq_false_iff.mpr fun q => ?_
    obtain rfl : D = tp := Value.ref.inj (beq_iff_eq.mp q)
    unfold clsIn at hcD
    split at hcD
    · rename_i c' d' cd' sl' ho
      have z := (X _ _ ho).symm.trans htp
      cases z
    · cases hcD
end
end PySem.W
namespace Ev
open PySem PyProof.Rows
section
variable {X : L2.Cx} {sup : Nat → List Nat}
theorem lookN_mem {α : Type} {x : Nat} {a : α} : ∀ {l : List (Nat × α)}, l.lookup x = some a → (x, a) ∈ l
  | [], h => by cases h
  | (y, b) :: r, h => by
    rw [List.lookup_cons] at h
    by_cases e : (x == y) = true
    · rw [e] at h
      cases h
      rw [show x = y by simpa using e]
      exact List.mem_cons_self ..
    · rw [show (x == y) = false by simpa using e] at h
      exact List.mem_cons_of_mem _ (lookN_mem h)
/-- an exception as it stands in the heap -/
theorem exc_inst {pins : List (Addr × Obj)} {σ : L2.St} {H : Hp} {s : Shared} {a C d t : Addr} {fs : List (Str × V)} (I : L2.Inv X pins σ H s) (ha : H a = some (exa a C (some d) t)) (hd : H d = some (L2.exd d fs)) :
    ∃ (ox od : Obj) (mA : Str → Option Value), PySem.W.InstAt s.heap a ox C (some od) ∧ (∀ n, PySem.W.lookIn n od = some (mA n)) ∧ ∀ f, L2.RelO (fs.lookup f) (mA f) := by
  have h1 := exa_at I.hok ha
  obtain ⟨mA, hns, hr⟩ := L2.exd_at I.hok hd
  obtain ⟨od, ho, hl⟩ := L2.lookIn_ns hns
  exact ⟨_, od, mA, ⟨h1, rfl, rfl, ho⟩, fun n => hl n, hr⟩
/-- isinstance(e, C), e an own exception -/
theorem c_isx (k : Nat) (hk : 90 ≤ k) (h : ∀ c, xkB X.K c = true → PySem.W.kitOne X.K (.ref (cA X.K c)) (clsV X.K k) = some ((supN c).contains k)) :
    L2.CallR X (.builtin "isinstance") (fun xs H Q => ∃ x cv, xs = [x, cv] ∧ (∀ u, L2.RelV cv u → u = clsV X.K k) ∧ RPr X.K supN (.isinst [k]) [x] H Q) := callr_pick fun xs H Q J ⟨x, cv, e, hc, z⟩ => by
  subst e
  obtain ⟨G, a, x', d, e, ⟨j, fx, ra, _⟩, hp, q⟩ := rpr1 z (f := fun x => (isExc supN k x).map .bl) fun ds => (by
    simp only [primD, hk, if_true])
  cases e
  cases a <;> simp only [isExc, Option.map_none, Option.map_some, reduceCtorEq] at hp
  cases hp
  rename_i c y
  cases ra with
  | @exc _ _ _ a d t v _ xk ha g1 hd g2 ht r =>
    refine ⟨fun xs H Q => xs = [L2.V.ref a, cv] ∧ H a = some (exa a (cA X.K c) (some d) t) ∧ H d = some (L2.exd d [(fldS (fldNo c), v)]) ∧ Q (.bl ((supN c).contains k)) H, ?_, rfl, ha, hd, fun J' => q _ _ J' (.same .bl)⟩
    intro pins s σ H xs us Q I r ⟨e, ha, hd, q⟩
    subst e
    obtain ⟨u1, u2, rfl, r1, r2⟩ := L2.vals2 r
    obtain rfl := hc _ r2
    obtain rfl : u1 = Value.ref a := r1
    obtain ⟨ox, od, mA, J, _, _⟩ := exc_inst I ha hd
    have xx := xk_of xk
    exact PySem.W.kia_one (PySem.W.evKit xx.ga xx.gg xx.sb xx.hd xx.hc xx.hn xx.ht xx.hm) I.kIn J (h c xk) (fun z => nomatch z) fun tk => ⟨.bl _, H, I.kept (t' := tk) fun _ _ z => z, rfl, q⟩
/-- str(x) -/
theorem c_str (hu : X.A.units + 2 < cLine) : L2.CallR X (.type "str") (RPr X.K sup .strOf) := callr_pick fun xs H Q J h => by
  obtain ⟨G, a, x, d, rfl, ⟨j, fx, ra, _⟩, hp, q⟩ := rpr1 h (f := fun x => (strD x).map .str) (fun _ => rfl)
  simp only [Option.map_eq_some_iff] at hp
  obtain ⟨t, ht, rfl⟩ := hp
  cases a <;> simp only [strD, reduceCtorEq] at ht
  · rename_i i
    cases ra
    simp only [reprD] at ht
    split at ht
    · rename_i hz
      cases ht
      exact ⟨_, L2.call_str_int, _, rfl, hz.1, fun J' => q _ _ J' (.same (Rep.str hz.2))⟩
    · cases ht
  · rename_i z
    cases ht
    cases ra with
    | str hl => exact ⟨_, SkE.call_str_str, _, rfl, fun J' => q _ _ J' (.same (Rep.str hl))⟩
  · rename_i c y
    cases ht
    cases ra with
    | @exc _ _ _ a d t v _ xk ha g1 hd g2 ht r =>
      refine ⟨fun xs H Q => xs = [L2.V.ref a] ∧ H a = some (exa a (cA X.K c) (some d) t) ∧ H t = some (.tup [.str (msgS c)]) ∧ Q (.str (msgS c)) H, ?_, rfl, ha, ht, fun J' => q _ _ J' (.same (Rep.str ?_))⟩
      · intro pins s σ H xs us Q I r ⟨e, ha, ht, q⟩
        subst e
        obtain ⟨u1, rfl, r1⟩ := L2.vals1 r
        obtain rfl : u1 = Value.ref a := r1
        have h1 := exa_at I.hok ha
        obtain ⟨_, its, rv, o, h3, h4, n, h5⟩ := (show L2.ObjOk X.prog X.w H s.heap t (.tup [.str (msgS c)]) from I.hok t _ ht)
        obtain ⟨tk, hw⟩ : ∃ tk, its = [Value.str (msgS c) tk] := by
          obtain ⟨u, e, ⟨tk, e2⟩⟩ := L2.vals1 rv
          exact ⟨tk, by rw [e, e2]⟩
        subst hw
        have xx := xk_of xk
        exact PySem.P.str_of_C_one hu ⟨I.kIn, _, _, h1, rfl, rfl, rfl⟩ ⟨o, n, h3, h4, h5⟩ xx.hs xx.sb ⟨.str _, H, I, ⟨tk, rfl⟩, q⟩
      · show (msgN c).length ≤ 1000000
        unfold msgN
        have all : ∀ p ∈ exTab, ((p.2.2.2.1 : Str).cps.toList).length ≤ 1000000 := by decide
        split
        · rename_i q hq
          have hm : (c, q) ∈ exTab := lookN_mem hq
          exact all _ hm
        · simp
/-- e.f -/
theorem pe_fldX {o : Expr} {n : Nat} {t : L2.TE} {pos : Pos} (he : L2.PE X o t) (hb : attributeBase o (fldS n) X.env (eval o X.env) = eval o X.env) : L2.PE X (.Attribute o (fldS n) pos) (fun σ H Q => t σ H fun x H1 => RPr X.K supN (.fldOf n) [x] H1 Q) := by
  constructor
  intro pins s σ H Q I h
  refine L2.attr_of hb (L2.thn (he.run pins s σ H _ I h) fun u s1 ⟨x, H1, I1, rx, hh⟩ => ?_)
  obtain ⟨G, a, x', d, e, ⟨j, fx, ra, em⟩, hp, q⟩ := rpr1 hh (f := fldD n) (fun _ => rfl)
  cases e
  cases a <;> simp only [fldD, reduceCtorEq] at hp
  split at hp
  · rename_i c y hn
    cases hp
    subst hn
    cases ra with
    | @exc _ _ _ a d t v _ xk ha g1 hd g2 ht r =>
      obtain rfl : u = Value.ref a := rx
      obtain ⟨ox, od, mA, J, hl, hr⟩ := exc_inst I1 ha hd
      have xx := xk_of xk
      obtain ⟨u, hu, ru⟩ := L2.RelO.some_of (v := v) (o := mA (fldS (fldNo c))) (by have := hr (fldS (fldNo c)); simpa using this)
      refine PySem.HandSPX.exc_get I1.kIn J xx.ga xx.gg xx.sb (PySem.W.findObj_own xx.hd xx.hf rfl (by rw [hl, hu])) (L2.handed_of ru) ⟨v, H1, I1.tok _, ru, q _ _ (Inj.of I1) ?_⟩
      obtain rfl := r.zero rfl
      exact .same r
  · cases hp
end
end Ev
end
section
set_option linter.all false
set_option maxHeartbeats 1000000
namespace Ev
open PySem PyProof.Rows
structure Ck where
  N : List Str
  gl : List (Str × Gk)
  frees : List Str
  mks : List Nat := []
  iks : List Nat := []
/-- isinstance of an own exception, of what it stands under -/
def bltEx (k : Nat) (t : Str) : Bool := if k = 90 then t == ("ValueError" : Str) else if k = 91 then t == ("LookupError" : Str) else if k = 92 then t == ("OverflowError" : Str) else false
def isC : D → Const → Bool
  | .non, .none => true
  | .bl a, .bool b => a == b
  | .int a, .int b => decide (a = b)
  | .str a, .str s => decide (s.cps.toList = a) && okLen a.length
  | _, _ => false
mutual
def D.eqb : D → D → Bool
  | .non, .non => true
  | .bl a, .bl b => a == b
  | .int a, .int b => decide (a = b)
  | .str a, .str b => decide (a = b)
  | .tup a, .tup b => D.eqbs a b
  | _, _ => false
def D.eqbs : List D → List D → Bool
  | [], [] => true
  | a :: as, b :: bs => D.eqb a b && D.eqbs as bs
  | _, _ => false
end
mutual
theorem D.eqb_ok : ∀ {a b : D}, D.eqb a b = true → a = b
  | .non, .non, _ => rfl
  | .bl a, .bl b, h => by simp [D.eqb] at h; rw [h]
  | .int a, .int b, h => by simp [D.eqb] at h; rw [h]
  | .str a, .str b, h => by simp [D.eqb] at h; rw [h]
  | .tup a, .tup b, h => by simp only [D.eqb] at h; rw [D.eqbs_ok h]
  | .non, .bl _, h => by simp [D.eqb] at h
  | .non, .int _, h => by simp [D.eqb] at h
  | .non, .str _, h => by simp [D.eqb] at h
  | .non, .tup _, h => by simp [D.eqb] at h
  | .non, .lst _, h => by simp [D.eqb] at h
  | .non, .dct _ _, h => by simp [D.eqb] at h
  | .non, .set _, h => by simp [D.eqb] at h
  | .non, .rng _ _, h => by simp [D.eqb] at h
  | .non, .exc _ _, h => by simp [D.eqb] at h
  | .non, .scr _, h => by simp [D.eqb] at h
  | .bl _, .non, h => by simp [D.eqb] at h
  | .bl _, .int _, h => by simp [D.eqb] at h
  | .bl _, .str _, h => by simp [D.eqb] at h
  | .bl _, .tup _, h => by simp [D.eqb] at h
  | .bl _, .lst _, h => by simp [D.eqb] at h
  | .bl _, .dct _ _, h => by simp [D.eqb] at h
  | .bl _, .set _, h => by simp [D.eqb] at h
  | .bl _, .rng _ _, h => by simp [D.eqb] at h
  | .bl _, .exc _ _, h => by simp [D.eqb] at h
  | .bl _, .scr _, h => by simp [D.eqb] at h
  | .int _, .non, h => by simp [D.eqb] at h
  | .int _, .bl _, h => by simp [D.eqb] at h
  | .int _, .str _, h => by simp [D.eqb] at h
  | .int _, .tup _, h => by simp [D.eqb] at h
  | .int _, .lst _, h => by simp [D.eqb] at h
  | .int _, .dct _ _, h => by simp [D.eqb] at h
  | .int _, .set _, h => by simp [D.eqb] at h
  | .int _, .rng _ _, h => by simp [D.eqb] at h
  | .int _, .exc _ _, h => by simp [D.eqb] at h
  | .int _, .scr _, h => by simp [D.eqb] at h
  | .str _, .non, h => by simp [D.eqb] at h
  | .str _, .bl _, h => by simp [D.eqb] at h
  | .str _, .int _, h => by simp [D.eqb] at h
  | .str _, .tup _, h => by simp [D.eqb] at h
  | .str _, .lst _, h => by simp [D.eqb] at h
  | .str _, .dct _ _, h => by simp [D.eqb] at h
  | .str _, .set _, h => by simp [D.eqb] at h
  | .str _, .rng _ _, h => by simp [D.eqb] at h
  | .str _, .exc _ _, h => by simp [D.eqb] at h
  | .str _, .scr _, h => by simp [D.eqb] at h
  | .tup _, .non, h => by simp [D.eqb] at h
  | .tup _, .bl _, h => by simp [D.eqb] at h
  | .tup _, .int _, h => by simp [D.eqb] at h
  | .tup _, .str _, h => by simp [D.eqb] at h
  | .tup _, .lst _, h => by simp [D.eqb] at h
  | .tup _, .dct _ _, h => by simp [D.eqb] at h
  | .tup _, .set _, h => by simp [D.eqb] at h
  | .tup _, .rng _ _, h => by simp [D.eqb] at h
  | .tup _, .exc _ _, h => by simp [D.eqb] at h
  | .tup _, .scr _, h => by simp [D.eqb] at h
  | .lst _, b, h => by cases b <;> simp [D.eqb] at h
  | .dct _ _, b, h => by cases b <;> simp [D.eqb] at h
  | .set _, b, h => by cases b <;> simp [D.eqb] at h
  | .rng _ _, b, h => by cases b <;> simp [D.eqb] at h
  | .exc _ _, b, h => by cases b <;> simp [D.eqb] at h
  | .scr _, b, h => by cases b <;> simp [D.eqb] at h
theorem D.eqbs_ok : ∀ {a b : List D}, D.eqbs a b = true → a = b
  | [], [], _ => rfl
  | a :: as, b :: bs, h => by
    simp only [D.eqbs, Bool.and_eq_true] at h
    rw [D.eqb_ok h.1, D.eqbs_ok h.2]
  | [], _ :: _, h => by simp [D.eqbs] at h
  | _ :: _, [], h => by simp [D.eqbs] at h
end
/-! what a name is -/
def visN (sc : Scope) (x : Str) : Bool := match sc.names.lookup x with
  | some .local => true | some .cell => true | some .free => true | _ => false
def globN (sc : Scope) (x : Str) : Bool := decide (sc.names.lookup x = some .globalImplicit)
def freeN (cx : Ck) (sc : Scope) (x : Str) : Bool := globN sc x && cx.frees.contains x
def plainN (x : Str) : Bool := !(x == ("__debug__" : Str)) && !(x == ("__classdict__" : Str)) && decide (x ≠ "__name__")
def notSl : Expr → Bool
  | .Slice .. => false
  | _ => true
def noStar : List Expr → Bool
  | [] => true
  | .Starred .. :: _ => false
  | _ :: r => noStar r
def abOk : Expr → Bool
  | .Call (.Name _ _) [] [] _ => false
  | _ => true
def notSet : Expr → Bool
  | .Set .. => false
  | _ => true
def opOk : Operator → Pr → Bool
  | .Add, .add => true | .Sub, .sub => true | .Mult, .mul => true | .FloorDiv, .fdiv => true | .Mod, .mod => true | .Pow, .pow => true
  | _, _ => false
def bltOk (f : Str) : Pr → Bool
  | .strOf => f == ("str" : Str)
  | .len => f == ("len" : Str) | .tuple => f == ("tuple" : Str) | .list => f == ("list" : Str) | .sum => f == ("sum" : Str) | .all => f == ("all" : Str) | .any => f == ("any" : Str) | .repr => f == ("repr" : Str)
  | _ => false
def tyOk (k : Nat) (t : Str) : Bool := match k with
  | 0 => t == ("int" : Str) | 1 => t == ("str" : Str) | 2 => t == ("bool" : Str) | 3 => t == ("tuple" : Str) | 4 => t == ("list" : Str) | 5 => t == ("dict" : Str) | _ => false
def ndL : List (Option Nat) → Bool
  | [] => true
  | none :: l => ndL l
  | some i :: l => !l.contains (some i) && ndL l
def ownP (N : List Str) (sc : Scope) : List (Str × Nat) := (sc.names.filter fun p => p.2 == .local || p.2 == .cell).filterMap fun p => (N.idxOf? p.1).map fun i => (p.1, i)
mutual
def ckTg (cx : Ck) (sc : Scope) (fb : Str → Bool) : Tg → Expr → Bool
  | .v i _, ex => (match ex with
    | .Name x _ => decide (cx.N[i]? = some x) && (decide (sc.names.lookup x = some .local) || (decide (sc.names.lookup x = some .cell) && fb x))
    | _ => false)
  | .tup ts, ex => (match ex with
    | .Tuple es _ _ => noStar es && ckTgs cx sc fb ts es
    | _ => false)
def ckTgs (cx : Ck) (sc : Scope) (fb : Str → Bool) : List Tg → List Expr → Bool
  | [], [] => true
  | t :: ts, e :: es => ckTg cx sc fb t e && ckTgs cx sc fb ts es
  | _, _ => false
end
/-- a test by truth -/
def tstX : Xp → Bool
  | .ite .. => false
  | .and a b => tstX a && tstX b
  | .or a b => tstX a && tstX b
  | .not a => tstX a
  | _ => true
mutual
def ckE (cx : Ck) (sc : Scope) : Xp → Expr → Bool
  | .c d, ex => (match ex with
    | .Constant c _ _ => isC d c
    | .UnaryOp .USub (.Constant (.int i) _ _) _ => D.eqb d (.int (-i))
    | .Name x _ => globN sc x && plainN x && (match cx.gl.lookup x with | some (.con d') => D.eqb d d' | _ => false)
    | _ => false)
  | .v i, ex => (match ex with
    | .Name x _ => decide (cx.N[i]? = some x) && visN sc x && plainN x
    | _ => false)
  | .sub a i, ex => (match ex with
    | .Subscript ea ei _ => notSl ei && ckE cx sc a ea && ckE cx sc i ei
    | _ => false)
  | .p op es, ex => (match ex with
    | .BinOp ea o eb _ => opOk o op && ckEs cx sc es [ea, eb]
    | .UnaryOp .USub ea _ => decide (op = .neg) && ckEs cx sc es [ea]
    | .Compare ea [o] [eb] _ => decide (op = .cmp (cmpPr o)) && !behindInMarks o eb && ckEs cx sc es [ea, eb]
    | .Subscript ea (.Slice lo hi st _) _ => (match st with
      | none => decide (op = .slice lo.isSome hi.isSome) && (match es with
        | x :: r => ckE cx sc x ea && ckPts cx sc r (lo.toList ++ hi.toList)
        | [] => false)
      | some (.UnaryOp .USub (.Constant (.int 1) _ _) _) => decide (op = .rev) && lo.isNone && hi.isNone && ckEs cx sc es [ea]
      | _ => false)
    | .Call (.Name f _) args kws _ => kws.isEmpty && freeN cx sc f && plainN f && noStar args && (match op with
      | .isinst [k] => f == ("isinstance" : Str) && (match es, args with
        | [x], [ea, .Name t _] => ckE cx sc x ea && (if k < 90 then freeN cx sc t && tyOk k t else cx.iks.contains k && (if 100 ≤ k then globN sc t && decide (t = clsN k) else freeN cx sc t && bltEx k t))
        | _, _ => false)
      | _ => bltOk f op && decide (args.length = 1) && ckEs cx sc es args)
    | .Call (.Attribute o m ap) args kws cp => kws.isEmpty && abOk o && (ap.endLine == cp.line) && noStar args && decide (args.length = 1) && (match es with
      | .p op2 [x] :: r => decide (op2 = .asStr) && ((decide (op = .join) && m == ("join" : Str)) || (decide (op = .index) && m == ("index" : Str))) && ckE cx sc x o && ckEs cx sc r args
      | _ => false)
    | .Attribute (.Name y _) f _ => (match op, es with
      | .fldOf n, [.v i] => decide (cx.N[i]? = some y) && visN sc y && plainN y && decide (f = fldS n) && decide (n ≤ 2)
      | _, _ => false)
    | _ => false)
  | .tup es, ex => (match ex with
    | .Tuple xs _ _ => noStar xs && decide (es.length ≤ 1000) && ckEs cx sc es xs
    | _ => false)
  | .lst es, ex => (match ex with
    | .List xs _ => noStar xs && decide (es.length ≤ 1000) && ckEs cx sc es xs
    | _ => false)
  | .dct ks es, ex => (match ex with
    | .Dict kes vs _ => okKeys ks && decide (ks.length = es.length) && decide (kes ≠ []) && ckKs ks kes && ckEs cx sc es vs && decide (kes.length = vs.length)
    | _ => false)
  | .and a b, ex => (match ex with
    | .BoolOp .And (ea :: eb :: r) p => ckE cx sc a ea && (match r with
      | [] => ckE cx sc b eb
      | ec :: r => ckE cx sc b (.BoolOp .And (eb :: ec :: r) p))
    | _ => false)
  | .or a b, ex => (match ex with
    | .BoolOp .Or (ea :: eb :: r) p => ckE cx sc a ea && (match r with
      | [] => ckE cx sc b eb
      | ec :: r => ckE cx sc b (.BoolOp .Or (eb :: ec :: r) p))
    | _ => false)
  | .not a, ex => (match ex with
    | .UnaryOp .Not ea _ => ckE cx sc a ea
    | _ => false)
  | .ite c a b, ex => (match ex with
    | .IfExp ec ea eb _ => tstX c && ckE cx sc c ec && ckE cx sc a ea && ckE cx sc b eb
    | _ => false)
  | .chain o1 o2 a b c, ex => (match ex with
    | .Compare ea [p1, p2] [eb, ec] _ => decide (o1 = cmpPr p1) && decide (o2 = cmpPr p2) && !behindInMarks p2 ec && ckE cx sc a ea && ckE cx sc b eb && ckE cx sc c ec
    | _ => false)
  | .call f es l, ex => (match ex with
    | .Call (.Name x _) args kws _ => kws.isEmpty && globN sc x && plainN x && noStar args && (match cx.gl.lookup x with
      | some (.fn i ps dfl chg told) => decide (i = f) && !told && decide (chgAt 0 l = chg) && decide (args.length = ps.length) && decide (args ≠ []) && lendsOk es l && ndL l && ckA cx sc es l args
      | _ => false)
    | _ => false)
  | .comp own t it cs el, ex => (match ex with
    | .ListComp elt [⟨tg, iter, ifs, 0⟩] scope _ => decide (own = (ownP cx.N scope).map (·.2)) && L2.blkC cx.N sc scope (ownP cx.N scope) && notSet iter && ckTg cx (L2.relS scope sc) (fun x => scope.names.lookup x == some .cell) t tg && ckI cx sc it tg iter &&
        decide (cs.length ≤ 1) && ckCs cx (L2.relS scope sc) cs ifs && ckE cx (L2.relS scope sc) el elt
    | _ => false)
  | .mk c es, ex => (match ex with
    | .Call (.Name x _) args kws _ => globN sc x && plainN x && decide (x = clsN c) && cx.mks.contains c && (match kws with
      | [] => noStar args && decide (args.length ≤ 1) && (decide (args ≠ []) || decide (c ≠ 116)) && ckEs cx sc es args
      | [kw] => (match kw with
        | ⟨some k, e, _⟩ => decide (k = fldS (fldNo c)) && args.isEmpty && ckEs cx sc es [e]
        | _ => false)
      | _ => false)
    | _ => false)
  | .meth m a es, ex => (match ex with
    | .Call (.Attribute o mm ap) args kws cp => kws.isEmpty && abOk o && (ap.endLine == cp.line) && noStar args && decide (m = 0) && mm == ("append" : Str) && decide (args.length = 1) && ckE cx sc a o && ckEs cx sc es args
    | _ => false)
  | _, _ => false
def ckEs (cx : Ck) (sc : Scope) : List Xp → List Expr → Bool
  | [], [] => true
  | x :: xs, e :: es => ckE cx sc x e && ckEs cx sc xs es
  | _, _ => false
/-- places of a slice -/
def ckPts (cx : Ck) (sc : Scope) : List Xp → List Expr → Bool
  | [], [] => true
  | x :: xs, e :: es => ckPt cx sc x e && ckPts cx sc xs es
  | _, _ => false
def ckPt (cx : Ck) (sc : Scope) : Xp → Expr → Bool
  | .p op es, e => (match es with
    | [x] => decide (op = .asInt) && ckE cx sc x e
    | _ => false)
  | _, _ => false
def ckKs : List D → List (Option Expr) → Bool
  | [], [] => true
  | d :: ds, some (.Constant c _ _) :: es => isC d c && ckKs ds es
  | _, _ => false
def ckA (cx : Ck) (sc : Scope) : List Xp → List (Option Nat) → List Expr → Bool
  | [], [], [] => true
  | x :: xs, none :: l, e :: es => ckE cx sc x e && ckA cx sc xs l es
  | _ :: xs, some i :: l, .Name y _ :: es => decide (cx.N[i]? = some y) && visN sc y && plainN y && ckA cx sc xs l es
  | _, _, _ => false
def ckCs (cx : Ck) (sc : Scope) : List Xp → List Expr → Bool
  | [], [] => true
  | x :: xs, e :: es => tstX x && ckE cx sc x e && ckCs cx sc xs es
  | _, _ => false
def ckI (cx : Ck) (sc : Scope) : It → Expr → Expr → Bool
  | .seq a, _, ex => ckE cx sc a ex
  | .range es, _, ex => (match ex with
    | .Call (.Name f _) args kws _ => kws.isEmpty && f == ("range" : Str) && freeN cx sc f && noStar args && (decide (args.length = 1) || decide (args.length = 2)) && ckEs cx sc es args
    | _ => false)
  | .enum a, tg, ex => (match tg, ex with
    | .Tuple .., .Call (.Name f _) [e] kws _ => kws.isEmpty && f == ("enumerate" : Str) && freeN cx sc f && noStar [e] && ckE cx sc a e
    | _, _ => false)
  | .zip a b, tg, ex => (match tg, ex with
    | .Tuple .., .Call (.Name f _) [e1, e2] kws _ => kws.isEmpty && f == ("zip" : Str) && freeN cx sc f && noStar [e1, e2] && ckE cx sc a e1 && ckE cx sc b e2
    | _, _ => false)
end
end Ev
end
section
set_option linter.all false
set_option maxHeartbeats 1000000
namespace Ev
open PySem PyProof.Rows
/-- what is known around a piece -/
structure Sx (cx : Ck) (F : Nat → List Sl → CR) (adr : Nat → Addr) (fld : Nat → Str) (X : L2.Cx) (sc : Scope) (W : L2.WX) : Prop where
  hN : X.N = cx.N
  nd : X.N.Nodup
  sc : X.env.scope = sc
  calm : X.calm = true
  hu : X.A.units + 200 < cLine
  gd : X.A.guards = some []
  free : ∀ x, cx.frees.contains x = true → X.mg x = none
  con : ∀ x d, cx.gl.lookup x = some (.con d) → ∃ v u, X.mg x = some u ∧ L2.RelV v u ∧ ∀ G H k, Rep X.K G H k d v []
  fns : ∀ x i ps dfl chg, cx.gl.lookup x = some (.fn i ps dfl chg false) → ∃ k f fd, FnG X.prog X.w X.K X.mg X.base k f fd ps (spF ⟨X.K, W, adr, fld⟩ chg (F i)) ∧ L2.Room k X.A ∧ X.mg x = some (.ref f) ∧ PySem.W.keepIn X.K (.ref f) = true ∧ L2.Binds X.K fd ps []
  mkw : ∀ c, cx.mks.contains c = true → MkW X.prog X.w X.K X.mg X.base c ∧ L2.Room 2 X.A
  isx : ∀ k, cx.iks.contains k = true → (100 ≤ k → X.mg (clsN k) = some (clsV X.K k)) ∧ ∀ c, xkB X.K c = true → PySem.W.kitOne X.K (.ref (cA X.K c)) (clsV X.K k) = some ((supN c).contains k)
  pass : ∀ σ, L2.PassesAt (L2.CX X.prog X.w) X σ (fun c d H => W c d σ H)
section
variable {cx : Ck} {F : Nat → List Sl → CR} {T : Tb} {Gt : Nat → (Ls → R Vw) → Ls → R Vw} {th : Option (Ls × (Ls → R Vw))} {adr : Nat → Addr} {fld : Nat → Str} {X : L2.Cx} {sc : Scope} {W : L2.WX}
theorem star_cons {e : Expr} {es : List Expr} {env : Env} (h : noStar (e :: es) = true) : starEach (e :: es) env = (false, eval e env) :: starEach es env ∧ noStar es = true := by
  cases e <;> first | exact ⟨by rfl, h⟩ | cases h
theorem star_any {pos : Pos} {env : Env} : ∀ {es : List Expr}, noStar es = true → (backTo pos (starEach es env)).any (·.1) = false
  | [], _ => rfl
  | e :: es, h => by
    obtain ⟨e1, h2⟩ := star_cons (env := env) h
    rw [e1]
    show (false || (backTo pos (starEach es env)).any (·.1)) = false
    rw [star_any h2]; rfl
theorem star_all {pos : Pos} {env : Env} : ∀ {es : List Expr}, noStar es = true → (backTo pos (starEach es env)).all (fun x => !x.1) = true
  | [], _ => rfl
  | e :: es, h => by
    obtain ⟨e1, h2⟩ := star_cons (env := env) h
    rw [e1]
    show (true && (backTo pos (starEach es env)).all (fun x => !x.1)) = true
    rw [star_all h2]; rfl
theorem vis_of (S : Sx cx F adr fld X sc W) {x : Str} (h : visN sc x = true) : L2.Vis X.env.scope x := by
  rw [S.sc]
  unfold visN at h
  split at h
  · exact .inl (by assumption)
  · exact .inr (.inl (by assumption))
  · exact .inr (.inr (by assumption))
  · cases h
theorem glob_of (S : Sx cx F adr fld X sc W) {x : Str} (h : globN sc x = true) : L2.Gl X x := by
  show X.env.scope.names.lookup x = _
  rw [S.sc]; exact of_decide_eq_true h
theorem free_of (S : Sx cx F adr fld X sc W) {x : Str} (h : freeN cx sc x = true) : L2.Gl X x ∧ X.mg x = none := by
  unfold freeN at h
  rw [Bool.and_eq_true] at h
  exact ⟨glob_of S h.1, S.free x h.2⟩
theorem plain_of {x : Str} (h : plainN x = true) : (x == ("__debug__" : Str)) = false ∧ (x == ("__classdict__" : Str)) = false ∧ x ≠ "__name__" := by
  unfold plainN at h
  simp only [Bool.and_eq_true, Bool.not_eq_true', decide_eq_true_eq] at h
  exact ⟨h.1.1, h.1.2, h.2⟩
theorem pt_of {K : PySem.W.Frag} {ex : Expr} {t : L2.TE} (hK : K = X.K) (p : L2.PE X ex t) (h : ∀ whole, isTrue ex X.env whole = (do let v ← whole; standAt ex.pos; holding [v] (truthy v))) : L2.PT X ex (tTru K t) := by
  subst hK
  exact L2.pt_truth p h
theorem isC_ok {d : D} {c : Const} (h : isC d c = true) : conOk d = true ∧ ∀ {X : L2.Cx} {j : Nat} {pos : Pos}, L2.PE X (.Constant c j pos) (L2.tC (conV d)) := by
  cases d <;> cases c <;> first | cases h | skip
  · exact ⟨rfl, L2.pe_non⟩
  · simp only [isC, beq_iff_eq] at h; subst h; exact ⟨rfl, L2.pe_bl⟩
  · simp only [isC, decide_eq_true_eq] at h; subst h; exact ⟨rfl, L2.pe_int⟩
  · simp only [isC, Bool.and_eq_true, decide_eq_true_eq] at h
    obtain ⟨e, hl⟩ := h
    subst e
    exact ⟨hl, L2.pe_str⟩
end
end Ev
end
section
set_option linter.all false
set_option maxHeartbeats 1000000
namespace Ev
open PySem PyProof.Rows
section
variable {cx : Ck} {F : Nat → List Sl → CR} {T : Tb} {Gt : Nat → (Ls → R Vw) → Ls → R Vw} {th : Option (Ls × (Ls → R Vw))} {adr : Nat → Addr} {fld : Nat → Str} {X : L2.Cx} {sc : Scope} {W : L2.WX}
variable (F T Gt th adr fld W) in
inductive PEs (X : L2.Cx) : List Expr → List Xp → Prop
  | nil : PEs X [] []
  | cons {e es x xs} : L2.PE X e (inj X.K (TEs ⟨X.K, W, adr, fld⟩ F T Gt th x)) → PEs X es xs → PEs X (e :: es) (x :: xs)
theorem PEs.len {es : List Expr} {xs : List Xp} (h : PEs F T Gt th adr fld W X es xs) : es.length = xs.length := by
  induction h with
  | nil => rfl
  | cons _ _ ih => simp [ih]
theorem pa_tos : ∀ {es : List Expr} {xs : List Xp}, PEs F T Gt th adr fld W X es xs → noStar es = true → L2.PA X es (injA X.K (TOs ⟨X.K, W, adr, fld⟩ F T Gt th xs))
  | [], [], .nil, _ => pa_inj (pa_wr L2.pa_nil fun σ H Q J h => fun _ => tos_nil J h)
  | e :: es, x :: xs, .cons p ps, hs => by
    obtain ⟨h1, h2⟩ := star_cons (env := X.env) hs
    refine pa_inj (pa_wr (L2.pa_cons p (pa_tos ps h2) h1) fun σ H Q J h => ?_)
    refine tes_imp (tos_cons h) fun v H1 q J1 => ?_
    obtain ⟨e, G, fp, S, q⟩ := q J1
    exact ⟨e, G, fp, S, q.imp fun vs H2 q2 J2 _ => q2⟩
theorem pa_tps {emb : Bool} : ∀ {es : List Expr} {xs : List Xp}, PEs F T Gt th adr fld W X es xs → noStar es = true → L2.PA X es (injA X.K (TPs ⟨X.K, W, adr, fld⟩ F T Gt th emb xs))
  | [], [], .nil, _ => pa_inj (pa_wr L2.pa_nil fun σ H Q J h => fun _ => tps_nil J h)
  | e :: es, x :: xs, .cons p ps, hs => by
    obtain ⟨h1, h2⟩ := star_cons (env := X.env) hs
    refine pa_inj (pa_wr (L2.pa_cons p (pa_tps (emb := emb) ps h2) h1) fun σ H Q J h => ?_)
    refine tes_imp (tps_cons h) fun v H1 q J1 => ?_
    obtain ⟨e, G, fp, S, q⟩ := q J1
    exact ⟨e, G, fp, S, q.imp fun vs H2 q2 J2 _ => q2⟩
/-- arguments, some of them lent -/
theorem pa_args : ∀ {es : List Expr} {xs : List Xp} {l : List (Option Nat)}, (∀ (j : Nat) (e : Expr) (x : Xp), es[j]? = some e → xs[j]? = some x → l[j]? = some none → L2.PE X e (inj X.K (TEs ⟨X.K, W, adr, fld⟩ F T Gt th x))) → (∀ (j : Nat) (e : Expr) (i : Nat), es[j]? = some e → l[j]? = some (some i) → L2.PE X e (L2.tVar i)) →
    es.length = xs.length → es.length = l.length → noStar es = true → L2.PA X es (tArgs X.K (TEs ⟨X.K, W, adr, fld⟩ F T Gt th) xs l)
  | [], [], [], _, _, _, _, _ => by simp only [tArgs]; exact L2.pa_nil
  | e :: es, x :: xs, none :: l, h1, h2, n1, n2, hs => by
    obtain ⟨s1, s2⟩ := star_cons (env := X.env) hs
    simp only [tArgs]
    exact L2.pa_cons (h1 0 e x rfl rfl rfl) (pa_args (fun j e x a b c => h1 (j + 1) e x (by simpa using a) (by simpa using b) (by simpa using c)) (fun j e i a b => h2 (j + 1) e i (by simpa using a) (by simpa using b)) (by simpa using n1) (by simpa using n2) s2) s1
  | e :: es, x :: xs, some i :: l, h1, h2, n1, n2, hs => by
    obtain ⟨s1, s2⟩ := star_cons (env := X.env) hs
    simp only [tArgs]
    exact L2.pa_cons (h2 0 e i rfl rfl) (pa_args (fun j e x a b c => h1 (j + 1) e x (by simpa using a) (by simpa using b) (by simpa using c)) (fun j e i a b => h2 (j + 1) e i (by simpa using a) (by simpa using b)) (by simpa using n1) (by simpa using n2) s2) s1
  | [], _ :: _, _, _, _, n1, _, _ => by simp at n1
  | _ :: _, [], _, _, _, n1, _, _ => by simp at n1
  | [], [], _ :: _, _, _, _, n2, _ => by simp at n2
  | _ :: _, _ :: _, [], _, _, _, n2, _ => by simp at n2
theorem ndL_ok : ∀ {l : List (Option Nat)}, ndL l = true → ∀ (j j' i : Nat), l[j]? = some (some i) → l[j']? = some (some i) → j = j'
  | [], _, j, _, _, h, _ => by simp at h
  | none :: l, h, 0, _, i, a, _ => by simp at a
  | none :: l, h, j + 1, 0, i, a, b => by simp at b
  | none :: l, h, j + 1, j' + 1, i, a, b => by rw [ndL_ok (l := l) h j j' i (by simpa using a) (by simpa using b)]
  | some k :: l, h, 0, 0, i, a, b => rfl
  | some k :: l, h, 0, j' + 1, i, a, b => by
    simp only [ndL, Bool.and_eq_true, Bool.not_eq_true', List.contains_eq_mem, decide_eq_false_iff_not] at h
    simp only [List.getElem?_cons_zero, Option.some.injEq] at a
    have b' : l[j']? = some (some i) := by simpa using b
    exact absurd (by rw [a]; exact List.mem_of_getElem? b') h.1
  | some k :: l, h, j + 1, 0, i, a, b => by
    simp only [ndL, Bool.and_eq_true, Bool.not_eq_true', List.contains_eq_mem, decide_eq_false_iff_not] at h
    simp only [List.getElem?_cons_zero, Option.some.injEq] at b
    have a' : l[j]? = some (some i) := by simpa using a
    exact absurd (by rw [b]; exact List.mem_of_getElem? a') h.1
  | some k :: l, h, j + 1, j' + 1, i, a, b => by
    simp only [ndL, Bool.and_eq_true] at h
    rw [ndL_ok h.2 j j' i (by simpa using a) (by simpa using b)]
theorem imp_tt {Q Q' : Bool → Hp → Prop} {P : Prm} {c : Xp} {σ : L2.St} {H : Hp} (h : TTs P F T Gt th c σ H Q) (k : ∀ b H1, Q b H1 → Q' b H1) : TTs P F T Gt th c σ H Q' := by
  obtain ⟨e, G, fp, S, h⟩ := h
  exact ⟨e, G, fp, S, h.imp k⟩
theorem pt_plain {ex : Expr} {a : Xp} (p : L2.PE X ex (inj X.K (TEs ⟨X.K, W, adr, fld⟩ F T Gt th a))) (h : ∀ whole, isTrue ex X.env whole = (do let v ← whole; standAt ex.pos; holding [v] (truthy v))) : L2.PT X ex (TTs ⟨X.K, W, adr, fld⟩ F T Gt th a) :=
  pt_wr (pt_of rfl p h) fun σ H Q J h => tes_imp (tts_tru h) fun v H1 q J1 => by
    obtain ⟨k, hk, q⟩ := q J1
    exact ⟨k, hk, fun _ => q⟩
theorem pw_bool {op : BoolOp} {es : List Expr} {pos : Pos} {t : L2.TT} (p : L2.PT X (.BoolOp op es pos) t) : L2.PW X (.BoolOp op es pos) t := ⟨fun wh pins s σ H Q I h => p.run pins s σ H Q I h⟩
theorem pt_and {ea eb : Expr} {r : List Expr} {pos : Pos} {a b : Xp} (pa : L2.PT X ea (TTs ⟨X.K, W, adr, fld⟩ F T Gt th a)) (pb : L2.PW X (.BoolOp .And (eb :: r) pos) (TTs ⟨X.K, W, adr, fld⟩ F T Gt th b)) :
    L2.PT X (.BoolOp .And (ea :: eb :: r) pos) (TTs ⟨X.K, W, adr, fld⟩ F T Gt th (.and a b)) := by
  refine pt_wr (L2.PW.pt (L2.pw_and pa pb)) fun σ H Q J h => ?_
  refine imp_tt (tt_and h) fun c H1 q => ?_
  cases c with
  | true => exact imp_tt q fun b H2 q _ => q
  | false => exact fun _ => q
theorem pt_or {ea eb : Expr} {r : List Expr} {pos : Pos} {a b : Xp} (pa : L2.PT X ea (TTs ⟨X.K, W, adr, fld⟩ F T Gt th a)) (pb : L2.PW X (.BoolOp .Or (eb :: r) pos) (TTs ⟨X.K, W, adr, fld⟩ F T Gt th b)) :
    L2.PT X (.BoolOp .Or (ea :: eb :: r) pos) (TTs ⟨X.K, W, adr, fld⟩ F T Gt th (.or a b)) := by
  refine pt_wr (L2.PW.pt (L2.pw_or pa pb)) fun σ H Q J h => ?_
  refine imp_tt (tt_or h) fun c H1 q => ?_
  cases c with
  | true => exact fun _ => q
  | false => exact imp_tt q fun b H2 q _ => q
theorem pt_notA {ea : Expr} {pos : Pos} {a : Xp} (pa : L2.PT X ea (TTs ⟨X.K, W, adr, fld⟩ F T Gt th a)) : L2.PT X (.UnaryOp .Not ea pos) (TTs ⟨X.K, W, adr, fld⟩ F T Gt th (.not a)) := by
  refine pt_wr (L2.pt_not pa) fun σ H Q J h => ?_
  exact imp_tt (tt_not h) fun c H1 q _ => q
/-- a comparison's value -/
theorem cmp_bl {K : PySem.W.Frag} {sup : Nat → List Nat} {c : Cmp} {vs : List V} {H : Hp} {Q : V → Hp → Prop} (h : RPr K sup (.cmp c) vs H Q) : RPr K sup (.cmp c) vs H fun v H' => (∃ b, v = .bl b) ∧ Q v H' := by
  obtain ⟨G, ds, d, h1, h2, h3⟩ := h
  refine ⟨G, ds, d, h1, h2, fun z H' J n => ⟨?_, h3 z H' J n⟩⟩
  have : ∃ b, d = .bl b := by
    unfold primD at h2
    split at h2 <;> first | (rename_i e1 e2; cases e1; done) | skip
    all_goals first
      | (rename_i e; cases e; done)
      | (simp only [Option.map_eq_some_iff] at h2; obtain ⟨b, _, rfl⟩ := h2; exact ⟨b, rfl⟩)
      | cases h2
  obtain ⟨b, rfl⟩ := this
  exact ⟨b, n.bl⟩
theorem pt_cmp {o : CmpOp} {ea eb : Expr} {pos : Pos} {c : Cmp} {a b : Xp} (ho : L2.OpR X (compareOp o) (RPr2 X.K (supT T) (.cmp c))) (pa : L2.PE X ea (inj X.K (TEs ⟨X.K, W, adr, fld⟩ F T Gt th a))) (pb : L2.PE X eb (inj X.K (TEs ⟨X.K, W, adr, fld⟩ F T Gt th b))) (hm : behindInMarks o eb = false) :
    L2.PT X (.Compare ea [o] [eb] pos) (TTs ⟨X.K, W, adr, fld⟩ F T Gt th (.p (.cmp c) [a, b])) := by
  refine pt_wr (L2.pt_cmpR ho pa pb hm) fun σ H Q J h => ?_
  refine tes_imp (te_p2 (tts_tes h)) fun v H1 q J1 => ?_
  refine tes_imp (q J1) fun w H2 q2 J2 => ?_
  obtain ⟨G, ds, d, h1, h2, h3⟩ := cmp_bl (q2 J2)
  refine ⟨G, ds, d, h1, h2, fun z H' J' n => ?_⟩
  obtain ⟨⟨k, hk⟩, q3⟩ := h3 z H' J' n
  exact ⟨k, hk, fun _ => q3 J' k hk⟩
theorem pt_chainA {o p : CmpOp} {ea eb ec : Expr} {pos : Pos} {c d : Cmp} {x y z : Xp} (ho : L2.OpR X (compareOp o) (RPr2 X.K (supT T) (.cmp c))) (hp : L2.OpR X (compareOp p) (RPr2 X.K (supT T) (.cmp d))) (pa : L2.PE X ea (inj X.K (TEs ⟨X.K, W, adr, fld⟩ F T Gt th x))) (pb : L2.PE X eb (inj X.K (TEs ⟨X.K, W, adr, fld⟩ F T Gt th y)))
    (pc : L2.PE X ec (inj X.K (TEs ⟨X.K, W, adr, fld⟩ F T Gt th z))) (hm : behindInMarks p ec = false) : L2.PT X (.Compare ea [o, p] [eb, ec] pos) (TTs ⟨X.K, W, adr, fld⟩ F T Gt th (.chain c d x y z)) ∧ L2.PE X (.Compare ea [o, p] [eb, ec] pos) (TEs ⟨X.K, W, adr, fld⟩ F T Gt th (.chain c d x y z)) := by
  have hl : lastMarks [o, p] [eb, ec] = false := by simpa only [lastMarks] using hm
  refine ⟨pt_wr (L2.pt_chain ho hp pa pb pc hl) fun σ H Q J h => ?_, pe_wr (L2.pe_chain ho hp pa pb pc hl) fun σ H Q J h => ?_⟩
  · refine tes_imp (te_chain (tts_tes h)) fun v H1 q J1 => tes_imp (q J1) fun w H2 q2 J2 => ?_
    obtain ⟨G, ds, d, h1, h2, h3⟩ := q2 J2
    refine ⟨G, ds, d, h1, h2, fun z H' J' n => ?_⟩
    obtain ⟨k, hk, q3⟩ := h3 z H' J' n
    refine ⟨k, hk, ?_⟩
    cases k with
    | false =>
      simp only [Bool.false_eq_true, if_false] at q3 ⊢
      exact ⟨false, rfl, fun _ => q3 J' false rfl⟩
    | true =>
      simp only [if_true] at q3 ⊢
      refine tes_imp q3 fun u H3 q4 J3 => ?_
      obtain ⟨G2, ds2, d2, h12, h22, h32⟩ := cmp_bl (q4 J3)
      refine ⟨G2, ds2, d2, h12, h22, fun z2 H4 J4 n2 => ?_⟩
      obtain ⟨⟨k2, hk2⟩, q5⟩ := h32 z2 H4 J4 n2
      exact ⟨k2, hk2, fun _ => q5 J4 k2 hk2⟩
  · refine tes_imp (te_chain h) fun v H1 q J1 => tes_imp (q J1) fun w H2 q2 J2 => ?_
    obtain ⟨G, ds, d, h1, h2, h3⟩ := q2 J2
    refine ⟨G, ds, d, h1, h2, fun z H' J' n => ?_⟩
    obtain ⟨k, hk, q3⟩ := h3 z H' J' n
    refine ⟨k, hk, ?_⟩
    cases k with
    | false =>
      simp only [Bool.false_eq_true, if_false] at q3 ⊢
      exact fun _ => q3
    | true =>
      simp only [if_true] at q3 ⊢
      refine tes_imp q3 fun u H3 q4 J3 => ?_
      obtain ⟨G2, ds2, d2, h12, h22, h32⟩ := q4 J3
      exact ⟨G2, ds2, d2, h12, h22, fun z2 H4 J4 n2 _ => h32 z2 H4 J4 n2⟩
/-- the comparisons -/
theorem opr_cmp (S : Sx cx F adr fld X sc W) (o : CmpOp) : L2.OpR X (compareOp o) (RPr2 X.K (supT T) (.cmp (cmpPr o))) := by
  have h1 : X.A.units + 64 < cLine := by have := S.hu; omega
  have h2 : X.A.units + 65 < cLine := by have := S.hu; omega
  cases o
  · exact p_eq h1
  · exact p_ne h1
  · exact p_lt
  · exact p_le
  · exact p_gt
  · exact p_ge
  · exact p_is
  · exact p_isnot
  · exact p_in h2
  · exact p_nin h2
theorem opr_bin {o : Operator} {op : Pr} (h : opOk o op = true) : L2.OpR X (binaryOp o) (RPr2 X.K (supT T) op) := by
  cases o <;> cases op <;> first | cases h | skip
  · exact p_add
  · exact p_sub
  · exact p_mul
  · exact p_mod
  · exact p_pow
  · exact p_fdiv
end
end Ev
end
section
set_option linter.all false
set_option maxHeartbeats 2000000
namespace Ev
open PySem PyProof.Rows
section
variable {cx : Ck} {F : Nat → List Sl → CR} {T : Tb} {Gt : Nat → (Ls → R Vw) → Ls → R Vw} {th : Option (Ls × (Ls → R Vw))} {adr : Nat → Addr} {fld : Nat → Str}
mutual
theorem ckTg_ok {X : L2.Cx} {sc : Scope} {fb : Str → Bool} (hN : X.N = cx.N) (nd : X.N.Nodup) (hs : X.env.scope = sc) (hc : X.calm = true) (hf : ∀ x, fb x = true → X.fn x = true) : ∀ (t : Tg) {ex : Expr}, ckTg cx sc fb t ex = true → L2.PG X ex (gOf X.K t)
  | .v i n, ex, h => by
    cases ex <;> simp only [ckTg, Bool.false_eq_true, reduceCtorEq] at h
    rename_i x pos
    simp only [Bool.and_eq_true, Bool.or_eq_true, decide_eq_true_eq] at h
    simp only [gOf]
    refine L2.pg_name nd (by rw [hN]; exact h.1) ?_ ?_
    · rcases h.2 with z | z
      · exact .inl (by rw [hs]; exact z)
      · exact .inr (by rw [hs]; exact z.1)
    · rcases h.2 with z | z
      · exact .inr (by rw [hs]; exact z)
      · exact .inl (hf x z.2)
  | .tup ts, ex, h => by
    cases ex <;> simp only [ckTg, Bool.false_eq_true, reduceCtorEq] at h
    rename_i es k pos
    simp only [Bool.and_eq_true] at h
    simp only [gOf]
    obtain ⟨p, l, f⟩ := ckTgs_ok hN nd hs hc hf ts h.2 h.1
    exact L2.pg_tup hc p l f
theorem ckTgs_ok {X : L2.Cx} {sc : Scope} {fb : Str → Bool} (hN : X.N = cx.N) (nd : X.N.Nodup) (hs : X.env.scope = sc) (hc : X.calm = true) (hf : ∀ x, fb x = true → X.fn x = true) : ∀ (ts : List Tg) {es : List Expr}, ckTgs cx sc fb ts es = true → noStar es = true →
    L2.PGs X es (gsOf X.K ts) ∧ (assignEach es X.env).length = ts.length ∧ (assignEach es X.env).findIdx? (·.1) = none
  | [], [], _, _ => by simp only [gsOf]; exact ⟨L2.pgs_nil, rfl, rfl⟩
  | [], _ :: _, h, _ => by simp [ckTgs] at h
  | _ :: _, [], h, _ => by simp [ckTgs] at h
  | t :: ts, e :: es, h, hst => by
    simp only [ckTgs, Bool.and_eq_true] at h
    have h1 : assignEach (e :: es) X.env = (false, assign e X.env) :: assignEach es X.env ∧ noStar es = true := by
      cases e <;> first | exact ⟨by rfl, hst⟩ | cases hst
    obtain ⟨p, l, f⟩ := ckTgs_ok hN nd hs hc hf ts h.2 h1.2
    simp only [gsOf]
    refine ⟨L2.pgs_cons (ckTg_ok hN nd hs hc hf t h.1) p (by rw [h1.1]; rfl), by rw [h1.1]; simp [l], ?_⟩
    rw [h1.1, List.findIdx?_cons]
    simp [f]
end
theorem Sx.block {X : L2.Cx} {sc : Scope} {W : L2.WX} (S : Sx cx F adr fld X sc W) (s : Shared) (H : L2.Hp) (scope : Scope) (cl : List (Str × Addr)) (C : Addr) (fp : List Addr) : Sx cx F adr fld (X.blk s H scope (compEnvC scope cl C X.env) fp) (L2.relS scope sc) (fun _ _ _ _ => False) where
  hN := S.hN
  nd := S.nd
  sc := by
    have : (compEnvC scope cl C X.env).scope = L2.relS scope X.env.scope := rfl
    exact this.trans (by rw [S.sc])
  calm := S.calm
  hu := S.hu
  gd := S.gd
  free := S.free
  con := S.con
  fns := S.fns
  mkw := S.mkw
  isx := S.isx
  pass := fun σ pins H s e s' I h => by
    obtain ⟨a, B, H', cls, d, _, _, _, _, _, _, _, z⟩ := h
    exact z
theorem blt_call {X : L2.Cx} {sc : Scope} {W : L2.WX} (S : Sx cx F adr fld X sc W) {f : Str} {op : Pr} (h : bltOk f op = true) : (∃ id, L2.CallR X (.builtin id) (RPr X.K (supT T) op) ∧ bootBuiltins f = some (.builtin id)) ∨ ∃ t, L2.CallR X (.type t) (RPr X.K (supT T) op) ∧ bootBuiltins f = some (.type t) := by
  cases op <;> simp only [bltOk, Bool.false_eq_true, beq_iff_eq] at h <;> subst h
  · exact .inl ⟨"len", c_len, by decide +kernel⟩
  · exact .inr ⟨"tuple", c_tuple, by decide +kernel⟩
  · exact .inr ⟨"list", c_list, by decide +kernel⟩
  · exact .inl ⟨"sum", c_sum S.calm, by decide +kernel⟩
  · exact .inl ⟨"all", c_all S.calm, by decide +kernel⟩
  · exact .inl ⟨"any", c_any S.calm, by decide +kernel⟩
  · exact .inl ⟨"repr", c_repr S.gd (by have := S.hu; omega), by decide +kernel⟩
  · exact .inr ⟨"str", c_str (by have := S.hu; omega), by decide +kernel⟩
theorem ty_boot {k : Nat} {t : Str} (h : tyOk k t = true) : bootBuiltins t = some (.type (tyName k)) := by
  unfold tyOk at h
  split at h <;> first | (simp only [beq_iff_eq] at h; subst h; decide +kernel) | cases h
theorem pe_blt {X : L2.Cx} {f : Str} {p pos : Pos} {args : List Expr} {t : L2.TA} {r : List V → Hp → L2.VK → Prop} (h : (∃ id, L2.CallR X (.builtin id) r ∧ bootBuiltins f = some (.builtin id)) ∨ ∃ t, L2.CallR X (.type t) r ∧ bootBuiltins f = some (.type t)) (hg : L2.Gl X f) (hm : X.mg f = none) (hp : plainN f = true)
    (ha : L2.PA X args t) (hs : noStar args = true) (hne : args ≠ []) : L2.PE X (.Call (.Name f p) args [] pos) (L2.tCB r t) := by
  obtain ⟨d1, _, d3⟩ := plain_of hp
  cases args with
  | nil => exact absurd rfl hne
  | cons e es =>
    obtain ⟨s1, s2⟩ := star_cons (env := X.env) hs
    rcases h with ⟨id, hc, hb⟩ | ⟨ty, hc, hb⟩
    · exact L2.pe_callB hc hg hm hb ha d3 d1 s1 (star_any s2)
    · exact L2.pe_callTy hc hg hm hb ha d3 d1 s1 (star_any s2)
theorem few_ok {e : Expr} {es : List Expr} {env : Env} {cpos : Pos} (hs : noStar (e :: es) = true) (hl : (e :: es).length = 1) : ((backTo cpos (starEach (e :: es) env)).all (fun x => !x.1) && (backToKw cpos (keywordEach [] env)).all (fun x => x.1.isSome)
      && decide ((e :: es).length + ([] : List Keyword).length + (if ([] : List Keyword).isEmpty then 0 else 1) < 30)) = true := by
  rw [star_all hs, hl]; rfl
theorem base_ok {o : Expr} {m : Str} {env : Env} (h : abOk o = true) : attributeBase o m env (eval o env) = eval o env := by
  unfold abOk at h
  split at h
  · cases h
  · rename_i hn
    unfold attributeBase
    cases o <;> first | rfl | skip
    rename_i f args kws pos
    cases f <;> first | rfl | skip
    cases args <;> first | rfl | skip
    cases kws <;> first | rfl | skip
    exact (hn _ _ _ rfl).elim
theorem set_ok {e : Expr} {env : Env} (h : notSet e = true) : ∀ x, foldedSetIterable e env x = pure x := by
  intro x
  cases e <;> first | rfl | cases h
theorem sl_ok {e : Expr} (h : notSl e = true) : L2.PlainIx e ∧ L2.NoSl e := by
  constructor <;> (intro o i; cases e <;> first | rfl | cases h)
end
end Ev
end
section
set_option linter.all false
set_option maxHeartbeats 4000000
namespace Ev
open PySem PyProof.Rows
section
variable {cx : Ck} {F : Nat → List Sl → CR} {T : Tb} {Gt : Nat → (Ls → R Vw) → Ls → R Vw} {th : Option (Ls × (Ls → R Vw))} {adr : Nat → Addr} {fld : Nat → Str}
variable {X : L2.Cx} {sc : Scope} {W : L2.WX}
theorem pe_wr0 {ex : Expr} {t u : L2.TE} (p : L2.PE X ex t) (h : ∀ σ H Q, u σ H Q → t σ H Q) : L2.PE X ex u := ⟨fun pins s σ H Q I hu => p.run pins s σ H Q I (h σ H Q hu)⟩
theorem e_c (S : Sx cx F adr fld X sc W) {d : D} {ex : Expr} (h : ckE cx sc (.c d) ex = true) : L2.PE X ex (TEs ⟨X.K, W, adr, fld⟩ F T Gt th (.c d)) ∧ ∀ whole, isTrue ex X.env whole = (do let v ← whole; standAt ex.pos; holding [v] (truthy v)) := by
  simp only [ckE] at h
  split at h
  · obtain ⟨h1, h2⟩ := isC_ok h
    exact ⟨pe_wr h2 fun σ H Q J q => te_c h1 J q, fun _ => rfl⟩
  · rename_i i j p2 p3
    have e1 := D.eqb_ok h
    subst e1
    refine ⟨pe_wr (L2.pe_un L2.un_neg L2.pe_int) fun σ H Q J q => ?_, fun _ => rfl⟩
    exact ⟨i, rfl, te_c (d := .int (-i)) rfl J q⟩
  · rename_i x pos
    simp only [Bool.and_eq_true] at h
    obtain ⟨⟨h1, h2⟩, h3⟩ := h
    split at h3
    · rename_i d' hd
      have e1 := D.eqb_ok h3
      subst e1
      obtain ⟨v, u, hm, rv, rp⟩ := S.con x d hd
      refine ⟨pe_wr (L2.pe_glob (glob_of S h1) hm rv (plain_of h2).1) fun σ H Q J q J2 => ?_, fun _ => rfl⟩
      obtain ⟨e, G, fp, Si, q⟩ := q
      have h' : Aft ⟨X.K, W, adr, fld⟩ (Xp.tch (.c d)) σ e G H fp (.ok (new 0 d) e) (VwOk X.K H σ) Q := by simpa only [ev] using q
      exact Aft.made Si h' (Frm.refl Si) .refl Si ⟨fun _ _ q => q, [], rp _ _ _, List.nodup_nil, fun _ h => by cases h⟩ J2
    · cases h3
  · cases h
theorem e_v (S : Sx cx F adr fld X sc W) {i : Nat} {ex : Expr} (h : ckE cx sc (.v i) ex = true) : L2.PE X ex (TEs ⟨X.K, W, adr, fld⟩ F T Gt th (.v i)) ∧ ∀ whole, isTrue ex X.env whole = (do let v ← whole; standAt ex.pos; holding [v] (truthy v)) := by
  simp only [ckE] at h
  split at h
  · simp only [Bool.and_eq_true, decide_eq_true_eq] at h
    obtain ⟨d1, d2, _⟩ := plain_of h.2
    exact ⟨pe_wr (L2.pe_var (by rw [S.hN]; exact h.1.1) (vis_of S h.1.2) d1 d2) fun σ H Q J q => te_v J q, fun _ => rfl⟩
  · cases h
theorem e_slice {ea : Expr} {a : Xp} {lo hi : Option Expr} {r : List Xp} {p2 pos : Pos} (pa : L2.PE X ea (inj X.K (TEs ⟨X.K, W, adr, fld⟩ F T Gt th a)))
    (hr : ∃ l h : Option Xp, l.isSome = lo.isSome ∧ h.isSome = hi.isSome ∧ r = ptsOf l h ∧ (∀ e x, lo = some e → l = some x → L2.PE X e (inj X.K (TEs ⟨X.K, W, adr, fld⟩ F T Gt th x))) ∧ (∀ e x, hi = some e → h = some x → L2.PE X e (inj X.K (TEs ⟨X.K, W, adr, fld⟩ F T Gt th x)))) :
    L2.PE X (.Subscript ea (.Slice lo hi none p2) pos) (TEs ⟨X.K, W, adr, fld⟩ F T Gt th (.p (.slice lo.isSome hi.isSome) (a :: r))) := by
  obtain ⟨l, h, e1, e2, e3, p1, q1⟩ := hr
  rw [← e1, ← e2, e3]
  have po : ∀ {o : Option Expr} {x : Option Xp}, x.isSome = o.isSome → (∀ e y, o = some e → x = some y → L2.PE X e (inj X.K (TEs ⟨X.K, W, adr, fld⟩ F T Gt th y))) → L2.PO X o (tPt X.K (TEs ⟨X.K, W, adr, fld⟩ F T Gt th) x) := by
    intro o x h1 h2
    cases o with
    | none =>
      cases x with
      | none => exact L2.po_none
      | some y => cases h1
    | some e =>
      cases x with
      | none => cases h1
      | some y => exact L2.po_some (h2 e y rfl rfl)
  exact pe_wr0 (L2.pe_slice s_all pa (po e1 p1) (po e2 q1)) fun σ H Q q => te_slice q
/-- one of the primitives called by name, by operators, .. -/
theorem e_blt {op : Pr} {f : Str} {p pos : Pos} {args : List Expr} {es : List Xp} (S : Sx cx F adr fld X sc W) (h : bltOk f op = true) (hg : freeN cx sc f = true) (hp : plainN f = true) (hs : noStar args = true) (hne : args ≠ []) (ps : PEs F T Gt th adr fld W X args es) :
    L2.PE X (.Call (.Name f p) args [] pos) (TEs ⟨X.K, W, adr, fld⟩ F T Gt th (.p op es)) := by
  obtain ⟨g1, g2⟩ := free_of S hg
  refine pe_wr (pe_blt (blt_call (T := T) S h) g1 g2 hp (pa_tps (emb := op.emb) ps hs) hs hne) fun σ H Q J q => ?_
  obtain ⟨e, G, fp, Si, q⟩ := te_p q
  exact ⟨e, G, fp, Si, q.imp fun vs H1 z J1 => by
    obtain ⟨G, ds, d, h1, h2, h3⟩ := z
    exact ⟨G, ds, d, h1, h2, fun z H' J' n _ => h3 z H' J' n⟩⟩
theorem e_isi {k : Nat} {f t : Str} {p p2 pos : Pos} {ea : Expr} {a : Xp} (S : Sx cx F adr fld X sc W) (hf : f = ("isinstance" : Str)) (hg : freeN cx sc f = true) (hp : plainN f = true) (ht : freeN cx sc t = true) (hk : tyOk k t = true) (hs : noStar [ea, .Name t p2] = true)
    (pa : L2.PE X ea (inj X.K (TEs ⟨X.K, W, adr, fld⟩ F T Gt th a))) : L2.PE X (.Call (.Name f p) [ea, .Name t p2] [] pos) (TEs ⟨X.K, W, adr, fld⟩ F T Gt th (.p (.isinst [k]) [a])) := by
  obtain ⟨g1, g2⟩ := free_of S hg
  obtain ⟨t1, t2⟩ := free_of S ht
  obtain ⟨s1, s2⟩ := star_cons (env := X.env) hs
  subst hf
  have tn : t ≠ "__name__" ∧ (t == ("__debug__" : Str)) = false := by
    unfold tyOk at hk
    split at hk <;> first | (simp only [beq_iff_eq] at hk; subst hk; decide) | cases hk
  have pt : L2.PE X (.Name t p2) (L2.tC (.ty (tyName k))) := L2.pe_bltn t1 t2 (ty_boot hk) rfl tn.1 tn.2
  refine pe_wr0 (pe_blt (.inl ⟨"isinstance", c_isi (sup := (supT T)) k (by unfold tyOk at hk; split at hk <;> first | omega | cases hk), by decide +kernel⟩) g1 g2 hp (L2.pa_cons pa (L2.pa_cons pt L2.pa_nil (by rfl)) s1) hs (by simp)) fun σ H Q q => ?_
  exact tes_imp (te_p1 q) fun v H1 z J1 => ⟨v, rfl, z J1⟩
theorem e_meth {id : String} {op : Pr} {o arg : Expr} {m : Str} {ap pos : Pos} {x y : Xp} (slot : Slot "str" m id) (ty : typeOf (.builtin id) = pure (.type "method_descriptor")) (hm : L2.MtR X id (fun v xs H Q => RPr X.K (supT T) op (v :: xs) H Q)) (he : op.emb = false)
    (ho : abOk o = true) (hl : (ap.endLine == pos.line) = true) (hs : noStar [arg] = true) (px : L2.PE X o (inj X.K (TEs ⟨X.K, W, adr, fld⟩ F T Gt th x))) (py : L2.PE X arg (inj X.K (TEs ⟨X.K, W, adr, fld⟩ F T Gt th y))) :
    L2.PE X (.Call (.Attribute o m ap) [arg] [] pos) (TEs ⟨X.K, W, adr, fld⟩ F T Gt th (.p op [.p .asStr [x], y])) := by
  obtain ⟨s1, s2⟩ := star_cons (env := X.env) hs
  refine pe_wr0 (L2.pe_bm PySem.F.plainAttrs_str slot ty hm px (L2.pa_cons py L2.pa_nil s1) (base_ok ho) (few_ok hs rfl) hl s1 (star_any s2)) fun σ H Q q => ?_
  refine tes_imp (te_p1 (tps_cons (te_p q))) fun v H1 z J1 => ?_
  obtain ⟨t, rfl, z3⟩ := asStr_out J1 (z J1)
  refine ⟨rfl, ?_⟩
  refine tes_imp (tps_cons (z3 J1)) fun w H2 z2 J2 => ?_
  exact tps_nil J2 (z2 J2)
end
end Ev
end
section
set_option linter.all false
set_option maxHeartbeats 4000000
namespace Ev
open PySem PyProof.Rows
section
variable {cx : Ck} {F : Nat → List Sl → CR} {T : Tb} {Gt : Nat → (Ls → R Vw) → Ls → R Vw} {th : Option (Ls × (Ls → R Vw))} {adr : Nat → Addr} {fld : Nat → Str}
variable {X : L2.Cx} {sc : Scope} {W : L2.WX}
theorem pps_of {pos : Pos} : ∀ {ks : List D} {kes : List (Option Expr)} {vs : List Expr} {es : List Xp}, ckKs ks kes = true → PEs F T Gt th adr fld W X vs es → kes.length = vs.length → L2.PPs X pos kes vs (trsOf X.K (TEs ⟨X.K, W, adr, fld⟩ F T Gt th) ks es) ∧ kes.all (·.isSome) = true
  | [], [], [], [], _, .nil, _ => ⟨L2.pps_nil, rfl⟩
  | d :: ds, some ke :: kes, v :: vs, x :: xs, h, .cons p ps, hl => by
    cases ke <;> simp only [ckKs, Bool.false_eq_true, reduceCtorEq] at h
    rename_i c k p2
    simp only [Bool.and_eq_true] at h
    obtain ⟨q, e⟩ := pps_of h.2 ps (by simpa using hl)
    refine ⟨?_, by simpa using e⟩
    have : trsOf X.K (TEs ⟨X.K, W, adr, fld⟩ F T Gt th) (d :: ds) (x :: xs) = (L2.tC (conV d), inj X.K (TEs ⟨X.K, W, adr, fld⟩ F T Gt th x)) :: trsOf X.K (TEs ⟨X.K, W, adr, fld⟩ F T Gt th) ds xs := rfl
    rw [this]
    exact L2.pps_cons (isC_ok h.1).2 p q
  | [], _ :: _, _, _, h, _, _ => by simp [ckKs] at h
  | _ :: _, [], _, _, h, _, _ => by simp [ckKs] at h
  | _ :: _, none :: _, _, _, h, _, _ => by simp [ckKs] at h
  | [], [], _ :: _, _, _, _, hl => by simp at hl
  | _ :: _, some _ :: _, [], _, _, _, hl => by simp at hl
theorem e_dct {ks : List D} {kes : List (Option Expr)} {vs : List Expr} {es : List Xp} {pos : Pos} (h1 : okKeys ks = true) (h2 : ks.length = es.length) (h3 : kes ≠ []) (h4 : ckKs ks kes = true) (h5 : kes.length = vs.length) (ps : PEs F T Gt th adr fld W X vs es) :
    L2.PE X (.Dict kes vs pos) (TEs ⟨X.K, W, adr, fld⟩ F T Gt th (.dct ks es)) := by
  obtain ⟨q, e⟩ := pps_of (pos := pos) h4 ps h5
  have h6 : kes.length ≤ 15 := by
    have := ps.len
    simp only [okKeys, Bool.and_eq_true, decide_eq_true_eq] at h1
    omega
  exact pe_wr (L2.pe_disp q e h5 h3 h6) fun σ H Q J q => te_dct h1 h2 J q
theorem e_call (S : Sx cx F adr fld X sc W) {f i : Nat} {x : Str} {ps : List Str} {dfl : List (Option D)} {chg : List Nat} {es : List Xp} {l : List (Option Nat)} {args : List Expr} {p pos : Pos} (hg : globN sc x = true) (hp : plainN x = true) (hs : noStar args = true) (hl : cx.gl.lookup x = some (.fn i ps dfl chg false)) (hi : i = f) (hc : chgAt 0 l = chg)
    (hne : args ≠ []) (hle : lendsOk es l = true) (hnd : ndL l = true) (pa : L2.PA X args (tArgs X.K (TEs ⟨X.K, W, adr, fld⟩ F T Gt th) es l)) : L2.PE X (.Call (.Name x p) args [] pos) (TEs ⟨X.K, W, adr, fld⟩ F T Gt th (.call f es l)) := by
  subst hi hc
  obtain ⟨k, fa, fd, fn, room, hm, kp, bd⟩ := S.fns x i ps dfl _ hl
  cases args with
  | nil => exact absurd rfl hne
  | cons e r =>
    obtain ⟨s1, s2⟩ := star_cons (env := X.env) hs
    refine pe_wr (pe_callG (E := fun σ c d H => W c d σ H) (dvs := []) (ds := []) fn S.gd room (glob_of S hg) hm kp bd .nil S.pass pa (plain_of hp).1 s1 (star_any s2)) fun σ H Q J q => ?_
    exact te_call hle (ndL_ok hnd) J q
theorem e_append {o arg : Expr} {ap pos : Pos} {a x : Xp} (ho : abOk o = true) (hl : (ap.endLine == pos.line) = true) (hs : noStar [arg] = true) (pa : L2.PE X o (inj X.K (TEs ⟨X.K, W, adr, fld⟩ F T Gt th a))) (px : L2.PE X arg (inj X.K (TEs ⟨X.K, W, adr, fld⟩ F T Gt th x))) :
    L2.PE X (.Call (.Attribute o "append" ap) [arg] [] pos) (TEs ⟨X.K, W, adr, fld⟩ F T Gt th (.meth 0 a [x])) := by
  obtain ⟨s1, s2⟩ := star_cons (env := X.env) hs
  refine pe_wr (L2.pe_bm PySem.F.plainAttrs_list PySem.F.slot_list_append PySem.F.type_list_append L2.mt_append pa (L2.pa_cons px L2.pa_nil s1) (base_ok ho) (few_ok hs rfl) hl s1 (star_any s2)) fun σ H Q J q => te_append q
inductive PTs' (P : Prm) (F : Nat → List Sl → CR) (T : Tb) (Gt : Nat → (Ls → R Vw) → Ls → R Vw) (th : Option (Ls × (Ls → R Vw))) (X : L2.Cx) : List Xp → List Expr → Prop
  | nil : PTs' P F T Gt th X [] []
  | one {c e} : L2.PT X e (TTs P F T Gt th c) → PTs' P F T Gt th X [c] [e]
theorem e_comp (S : Sx cx F adr fld X sc W) {own : List Nat} {t : Tg} {it : It} {cs : List Xp} {el : Xp} {elt tg iter : Expr} {ifs : List Expr} {scope : Scope} {pos : Pos} (h1 : own = (ownP cx.N scope).map (·.2)) (h2 : L2.blkC cx.N sc scope (ownP cx.N scope) = true) (h3 : notSet iter = true)
    (h4 : ckTg cx (L2.relS scope sc) (fun x => scope.names.lookup x == some .cell) t tg = true) (pi : L2.PI X tg iter (TIs ⟨X.K, W, adr, fld⟩ F T Gt th it)) (h5 : cs.length ≤ 1)
    (pt : ∀ X', Sx cx F adr fld X' (L2.relS scope sc) (fun _ _ _ _ => False) → X'.K = X.K → PTs' ⟨X'.K, fun _ _ _ _ => False, adr, fld⟩ F T Gt th X' cs ifs)
    (pe : ∀ X', Sx cx F adr fld X' (L2.relS scope sc) (fun _ _ _ _ => False) → X'.K = X.K → L2.PE X' elt (inj X'.K (TEs ⟨X'.K, fun _ _ _ _ => False, adr, fld⟩ F T Gt th el))) :
    L2.PE X (.ListComp elt [⟨tg, iter, ifs, 0⟩] scope pos) (TEs ⟨X.K, W, adr, fld⟩ F T Gt th (.comp own t it cs el)) := by
  subst h1
  have ok : L2.BlkOk X.N X.env.scope scope (ownP cx.N scope) := by rw [S.hN, S.sc]; exact L2.blkOk_by h2
  refine pe_wr (L2.pe_lc (own := ownP cx.N scope) (g := gOf X.K t) (tt := tTs (Prm.blk ⟨X.K, W, adr, fld⟩) F T Gt th cs) (te := inj X.K (TEs (Prm.blk ⟨X.K, W, adr, fld⟩) F T Gt th el)) S.calm S.nd pi ok (fun s H C cl fp => ?_) (fun s H C cl fp => ?_) (fun s H C cl fp => ?_) (set_ok h3)) fun σ H Q J q => te_comp h5 q
  · have B := S.block s H scope cl C fp
    exact ckTg_ok (X := X.blk s H scope (compEnvC scope cl C X.env) fp) B.hN B.nd B.sc B.calm (fun x hx => hx) t h4
  · have B := S.block s H scope cl C fp
    have := pt _ B rfl
    cases this with
    | nil => exact L2.pts_nil
    | one p => exact L2.pts_one p
  · exact pe _ (S.block s H scope cl C fp) rfl
end
end Ev
end
section
set_option linter.all false
set_option maxRecDepth 100000
set_option maxHeartbeats 4000000
namespace PySem
namespace EvX
open HandSPX Builtin Builtin.ObjectAttr
section
variable {prog : Program} {w : World} {M : Model} {A : Around} {E : Value → Shared → Prop} {R : Result → Shared → Prop} {h : Heap} {g : Array GenState} {d : Drawn} {t : Nat} {os : OsState}
variable {nm q : Str} {C N : Addr} {bs bm bmB : List Value} {hdct : Bool} {sn : List Str} {sub : List Value} {ab : Bool} {col : Option Bool} {dd : Option Addr} {k0 k1 k2 k3 k5 : Option Value} {B newId initId : String} {kw : List (Str × Value)} {args : List Value}
/-- C.__new__ looks at its arguments: keywords, too -/
theorem xnew_check (F : ExcBaseFacts B newId initId bmB) (hT : ∀ Y : String, bm.contains (.type Y) = bmB.contains (.type Y)) {Q : Unit → Shared → Prop} (hC : h.get? C = some (excClassObj nm q C N bs bm hdct sn sub ab col dd k0 k1 k2 k3 k5 newId))
    (hq : Q () ⟨h, g, d, t, os⟩) : wpAny M A (checkBuiltinCall newId ⟨.ref C :: args, kw⟩) Q E ⟨h, g, d, t, os⟩ := by
  have inB : (Value.ref C :: bm).contains (.type B) = true := by rw [List.contains_cons, hT, F.hasB, Bool.or_true]
  have star := F.noStar
  simp only [checkBuiltinCall, F.newKind, F.newSplit, F.newRow]
  repeat (first | with_reducible refine wpAny_loadPart_at hC ?_ | (refine wpAny_isSubtype_exc hC ?_; rw [inB]) | refine wpAny_staticBase_exc hC ?_ | refine wpAny_madeBy_exc hC ?_ | simp only [bne_self_eq_false, if_false, Bool.false_eq_true] | wp_step)
  exact hq
/-- type.__call__ looks at its own -/
theorem xcall_check {Q : Unit → Shared → Prop} (hC : h.get? C = some (excClassObj nm q C N bs bm hdct sn sub ab col dd k0 k1 k2 k3 k5 newId)) (hq : Q () ⟨h, g, d, t, os⟩) : wpAny M A (checkBuiltinCall "type.__call__" ⟨.ref C :: args, kw⟩) Q E ⟨h, g, d, t, os⟩ := by
  have isC := tc_sub
  have ty : (⟨h, g, d, t, os⟩ : Shared).TypeIs (.ref C) "type" := ⟨_, hC, rfl⟩
  simp only [checkBuiltinCall, tc_kind, tc_split]
  repeat (any_goals (first | with_reducible refine wpAny_loadPart_at hC ?_ | assumption | with_reducible refine wpAny_map ?_ | with_reducible refine wpAny_onRaise ?_ | wp_step))
/-- .. makes the object -/
theorem xnew_made (F : ExcBaseFacts B newId initId bmB) (hT : ∀ Y : String, bm.contains (.type Y) = bmB.contains (.type Y)) (hC : h.get? C = some (excClassObj nm q C N bs bm hdct sn sub ab col dd k0 k1 k2 k3 k5 newId))
    (hq : R (.ok (.ret (.ref (h.objs.size + 1)))) ⟨(h.push (W.kdv_tup args)).push (excO C h.objs.size), g, d, t, os⟩) (hl : args.length ≤ sizeLine) : codeAny (model prog w) A (.builtin newId ⟨.ref C :: args, kw⟩) R ⟨h, g, d, t, os⟩ := by
  have ends := F.ends
  have inB : (Value.ref C :: bm).contains (.type B) = true := by rw [List.contains_cons, hT, F.hasB, Bool.or_true]
  have noA : (Value.ref C :: bm).contains (.type "AttributeError") = false := by rw [List.contains_cons, hT, F.noAttr]; rfl
  have noN : (Value.ref C :: bm).contains (.type "NameError") = false := by rw [List.contains_cons, hT, F.noName]; rfl
  refine codeAny_builtinAt F.entry ?_
  unfold Builtin.«BaseException.__new__»
  refine wpAt_bind ?_
  show wpAt _ _ _ (stack >>= _) _ _ _
  refine wpAt_bind (wpAt_stack fun p below => wpAt_of_wpAny ?_)
  wp_walk
  refine wpAt_of_wpAny ?_
  rw [F.owner]
  repeat (first | with_reducible refine wpAny_madeHere_exc F.canon hC ?_ | with_reducible refine wpAny_loadPart_at hC ?_ | (with_reducible refine wpAny_isSubtype_exc hC ?_; first | rw [inB] | rw [noA] | rw [noN]) | wp_step)
  show R _ _
  rw [Heap.size_push]
  exact hq
/-- type.__call__ -/
theorem xcall_type (F : ExcBaseFacts B newId initId bmB) (hT : ∀ Y : String, bm.contains (.type Y) = bmB.contains (.type Y)) {fI : Addr} {Q : Fin → Shared → Prop} (hC : h.get? C = some (excClassObj nm q C N bs bm hdct sn sub ab col dd k0 k1 k2 k3 k5 newId))
    (hi : W.Looks (model prog w) h (typeLookup (.ref C) "__init__") (some (.ref fI))) (hb : ∀ self, W.Looks (model prog w) h (bindSpecial (.ref fI) self) (.ref fI, [self])) (hl : args.length ≤ sizeLine)
    (hq : codeAny (model prog w) A (.call (.ref fI) ⟨.ref (h.objs.size + 1) :: args, kw⟩) (fun r s' => match r with | .ok (.ret v) => v = .none ∧ Q (.done (.ret (.ref (h.objs.size + 1)))) s' | .ok _ => False | .error e => E e s') ⟨(h.push (W.kdv_tup args)).push (excO C h.objs.size), g, d, t, os⟩) :
    wpAny (model prog w) A (Builtin.«type.__call__» ⟨.ref C :: args, kw⟩) Q E ⟨h, g, d, t, os⟩ := by
  repeat (first | with_reducible refine wpAny_madeBy_exc hC ?_ | with_reducible refine wpAny_loadPart_at hC ?_ | wp_step)
  refine codeAny_call_builtin_code (Code.quiet_builtin _ F.quiet) (xnew_check F hT hC ?_)
  refine xnew_made F hT hC ?_ hl
  show wpAny _ _ _ _ _ _
  have kp : ∀ b o, h.get? b = some o → ((h.push (W.kdv_tup args)).push (excO C h.objs.size)).get? b = some o := fun b o e => Heap.get?_push_of_some _ (Heap.get?_push_of_some _ e)
  have hC1 := kp _ _ hC
  have he : ((h.push (W.kdv_tup args)).push (excO C h.objs.size)).get? (h.objs.size + 1) = some (excO C h.objs.size) := by heap_get
  have inC : (Value.ref C :: bm).contains (.ref C) = true := by simp
  have i1 := hi.keeps kp
  have b1 := (hb (.ref (h.objs.size + 1))).keeps kp
  unfold isInstance
  repeat (first | with_reducible refine wpAny_loadPart_at he ?_ | (with_reducible refine wpAny_isSubtype_exc hC1 ?_; rw [inC]) | wp_step)
  show wpAny _ _ (typeLookup (.ref C) _) _ _ _
  refine i1.at ?_
  refine wpAny_holding (wpAny_bind (b1.at ?_))
  refine wpAny_bind (wpAny_call (codeAny_mono hq fun r s' z => ?_))
  rcases r with e | (v | _ | _ | _) <;> first | exact z.elim | exact z | skip
  obtain ⟨rfl, z⟩ := z
  first
    | exact wpAny_pure (wpAny_pure z)
    | (wp_walk; exact z)
/-- C(.., k = v) -/
theorem xcall (F : ExcBaseFacts B newId initId bmB) (hT : ∀ Y : String, bm.contains (.type Y) = bmB.contains (.type Y)) {fI : Addr} (hC : h.get? C = some (excClassObj nm q C N bs bm hdct sn sub ab col dd k0 k1 k2 k3 k5 newId))
    (hi : W.Looks (model prog w) h (typeLookup (.ref C) "__init__") (some (.ref fI))) (hb : ∀ self, W.Looks (model prog w) h (bindSpecial (.ref fI) self) (.ref fI, [self])) (hl : args.length ≤ sizeLine)
    (hq : codeAny (model prog w) (A.under (.builtin "type.__call__" ⟨.ref C :: args, kw⟩)) (.call (.ref fI) ⟨.ref (h.objs.size + 1) :: args, kw⟩) (W.InitBack (h.objs.size + 1) R) ⟨(h.push (W.kdv_tup args)).push (excO C h.objs.size), g, d, t, os⟩) :
    codeAny (model prog w) A (.call (.ref C) ⟨args, kw⟩) R ⟨h, g, d, t, os⟩ := by
  have look := tc_lookup
  have bnd := tc_bind (.ref C)
  have ty : (⟨h, g, d, t, os⟩ : Shared).TypeIs (.ref C) "type" := ⟨_, hC, rfl⟩
  refine codeAny_of_tree ?_
  show wpAny _ _ (callAny (.ref C) _) _ _ _
  repeat (any_goals (first | with_reducible refine wpAny_loadPart_at hC ?_ | assumption | wp_step))
  refine ⟨rfl, ?_⟩
  refine codeAny_call_builtin_at (Code.quiet_builtin _ (by decide +kernel)) entry_typeCall (xcall_check hC (xcall_type F hT hC hi hb hl ?_))
  refine codeAny_mono hq fun r s' z => ?_
  rcases r with e | (v | _ | _ | _) <;> exact z
/-- B.__init__(e, ..): the arguments are laid -/
theorem xinit (F : ExcBaseFacts B newId initId bmB) (hT : ∀ Y : String, bm.contains (.type Y) = bmB.contains (.type Y)) {e t0 : Addr} (hC : h.get? C = some (excClassObj nm q C N bs bm hdct sn sub ab col dd k0 k1 k2 k3 k5 newId)) (he : h.get? e = some (excO C t0)) (hl : args.length ≤ sizeLine)
    (hq : ∀ h', (∀ b o, b ≠ e → (h.push (W.kdv_tup args)).get? b = some o → h'.get? b = some o) → h'.get? e = some (excO C h.objs.size) → R (.ok (.ret .none)) ⟨h', g, d, t, os⟩) : codeAny (model prog w) A (.call (.builtin initId) ⟨.ref e :: args, []⟩) R ⟨h, g, d, t, os⟩ := by
  refine codeAny_call_builtin F.init.plain F.initEntry (check_init_own F hT hC he rfl ?_)
  wp_walk
  refine hq _ (fun b o hb ho => ?_) ?_
  · rw [Heap.get?_update_other _ _ (Ne.symm hb)]
    exact ho
  · rw [Heap.get?_update_self _ (Heap.get?_push_of_some _ he) rfl]
    rfl
end
end EvX
end PySem
end
section
set_option linter.all false
set_option maxHeartbeats 4000000
namespace Ev
open PySem PyProof.Rows
section
variable {X : L2.Cx} {pins : List (Addr × Obj)} {σ : L2.St} {H : Hp} {s : Shared} {a C : Addr} {f : Str} {y : V} {u : Value} {A : Around} {B newId initId : String} {bmB : List Value}
/-- B.__init__(self, m) -/
theorem oinit_x {Q : Value → Shared → Prop} {E : Value → Shared → Prop} {t0 : Addr} {m : Str} {tk : Tok} (T : OxC X.K C f B newId initId bmB) (I : L2.Inv X pins σ H s) (e : H a = some (exa a C none t0))
    (h : ∀ t1 s', H t1 = none → t1 ≠ a → L2.Inv X pins σ (L2.upd (L2.upd H t1 (.tup [.str m])) a (exa a C none t1)) s' → Q .none s') : wpAny (model X.prog X.w) A (call (.builtin initId) [.ref a, .str m tk]) Q E s := by
  obtain ⟨nm, N, qn, bs, bm, hdct, sn, sub, ab, col, dd, k0, k1, k2, k3, k5, hC, hT⟩ := PySem.W.excInit_of I.kIn T.q
  have ho := exa_at I.hok e
  obtain ⟨hp, g, d, t, os⟩ := s
  refine wpAny_call (PySem.EvX.xinit T.FB hT hC ho (by show 1 ≤ sizeLine; rw [sizeLine_eq]; omega) fun h' k hx => ?_)
  have hn : H hp.objs.size = none := I.hok.fresh (Nat.le_refl _)
  have ne : hp.objs.size ≠ a := fun z => by rw [z, e] at hn; cases hn
  have I1 := I.laid (t' := t) (a := hp.objs.size) (o := .tup [.str m]) (h' := hp.push (PySem.W.kdv_tup [.str m tk])) (fun b o q => Heap.get?_push_of_some _ q) (Nat.le_refl _) ⟨by show 1 ≤ sizeLine; rw [sizeLine_eq]; omega, _, .cons ⟨tk, rfl⟩ .nil, PyProof.Rows.IsTup.new _ _⟩
  have e1 : L2.upd H hp.objs.size (.tup [.str m]) a = some (exa a C none t0) := by rw [L2.upd_ne (Ne.symm ne)]; exact e
  exact h _ _ hn ne (I1.write (t' := t) (x := a) (e := a) (o := exa a C none hp.objs.size) (by rw [e1]; exact True.intro) (.inl rfl) k ⟨_, hx⟩ (exa_ok hx))
/-- self.f = y -/
theorem ost_x {Q : Unit → Shared → Prop} {E : Value → Shared → Prop} {t1 : Addr} (T : OxC X.K C f B newId initId bmB) (I : L2.Inv X pins σ H s) (e : H a = some (exa a C none t1)) (ry : L2.RelV y u)
    (h : ∀ dx s', H dx = none → dx ≠ a → L2.Inv X pins σ (L2.upd (L2.upd H dx (L2.exd dx [(f, y)])) a (exa a C (some dx) t1)) s' → Q () s') : wpAny (model X.prog X.w) A (setAttr (.ref a) f u) Q E s := by
  have ho := exa_at I.hok e
  have KX := I.kIn
  obtain ⟨cd, hcl, hdd⟩ := PySem.W.any_some T.hd
  obtain ⟨hp, g, d, t, os⟩ := s
  have na : ∀ {b : Addr}, H b = none → b ≠ a := fun {b} n z => by rw [z, e] at n; cases n
  have hxs : a ≠ hp.objs.size := Nat.ne_of_lt (Heap.lt_size ho)
  have nd : ∀ {b : Addr} {o : Obj}, hp.get? b = some o → b ≠ hp.objs.size := fun {b o} q => Nat.ne_of_lt (Heap.lt_size q)
  have hnd : H hp.objs.size = none := I.hok.fresh (Nat.le_refl _)
  refine PySem.W.set_plain KX (ox := { cls := .ref C, dict := none, data := .fields #[.ref t1, .none, .none, .none, .bool false, .none] }) (od := none) ⟨ho, rfl, rfl, trivial⟩ T.sa ?_
  refine PySem.W.osa_openX (s := ⟨hp, g, d, t + 1, os⟩) (od := none) T.SF KX ⟨ho, rfl, rfl, trivial⟩ T.hp T.tk fun b => ?_
  refine wpAny_bind (wpAny_pure (wpAny_bind (PySem.W.instanceDict_exc (t := t1) (c2 := .none) ho (PySem.W.looks_clsIn KX hcl) hdd ?_)))
  show wpAny _ _ (Builtin.ObjectAttr.storeInDict hp.objs.size _ f u) _ _ _
  refine PySem.HandSPX.store_in_new ?_ fun h' tk' hn' hs => ?_
  · exact ⟨_, #[], _, (Heap.get?_update_ne _ _ _ _ hxs.symm).trans (Heap.get?_push_at rfl rfl), rfl, fun e he => absurd he (by simp), fun _ => rfl⟩
  have hx1 : (hp.push (PySem.W.dictOf [] 0)).get? a = some ({ cls := .ref C, dict := none, data := .fields #[.ref t1, .none, .none, .none, .bool false, .none] } : Obj) := Heap.get?_push_of_some _ ho
  have k : ∀ b o, b ≠ a → hp.get? b = some o → h'.get? b = some o := fun b o hb q => (hs.2 b (nd q)).trans ((Heap.get?_update_ne _ _ _ _ hb).trans (Heap.get?_push_of_some _ q))
  have hx : h'.get? a = some ({ cls := .ref C, dict := some hp.objs.size, data := .fields #[.ref t1, .none, .none, .none, .bool false, .none] } : Obj) := (hs.2 a hxs).trans (Heap.get?_update_self _ hx1 rfl)
  have U : L2.Un X.fs [] H (L2.upd (L2.upd H hp.objs.size (L2.exd hp.objs.size [(f, y)])) a (exa a C (some hp.objs.size) t1)) hp h' := {
    keep := fun b o q n _ _ => k b o (na n) q
    slot := fun b o q n _ _ => ⟨o.slots, k b o (na n) q⟩
    free := fun b o q n _ => by rw [L2.upd_ne (na n), L2.upd_ne (nd q)]; exact n
    there := fun b o q _ => by
      by_cases hb : b = a
      · exact ⟨_, by rw [hb]; exact hx⟩
      · exact ⟨o, k b o hb q⟩
    tups := fun b xs q => by rw [L2.upd_ne (L2.at_ne e q exa_tup), L2.upd_ne (L2.ne_of_none q hnd)]; exact q
    frzs := fun b o v q => by rw [L2.upd_ne (L2.at_ne e q exa_frz), L2.upd_ne (L2.ne_of_none q hnd)]; exact q
    tbls := fun b ps q => ⟨#[], by rw [L2.upd_ne (L2.at_ne e q exa_tbl), L2.upd_ne (L2.ne_of_none q hnd), q]; simp⟩ }
  refine h _ _ hnd hxs.symm (I.un (t' := tk') U fun b o q => ?_)
  by_cases hb : b = a
  · subst hb
    rw [L2.upd_same] at q
    cases q
    exact exa_ok hx
  · rw [L2.upd_ne hb] at q
    by_cases hd : b = hp.objs.size
    · subst hd
      rw [L2.upd_same] at q
      cases q
      exact L2.exd_ok hn' (L2.relO_put (fs := []) ry fun g => True.intro)
    · rw [L2.upd_ne hd] at q
      refine (I.hok b o q).stay (fun c v hc z => k c v ?_ z) (fun c hc => by rw [L2.upd_ne (L2.at_ne e hc exa_own), L2.upd_ne (L2.ne_of_none hc hnd)]; exact hc) (fun c xs hc => by rw [L2.upd_ne (L2.at_ne e hc exa_tup), L2.upd_ne (L2.ne_of_none hc hnd)]; exact hc)
      rcases hc with hc | hc
      · rw [hc]; exact hb
      · exact L2.at_ne e hc exa_own
end
end Ev
end
section
set_option linter.all false
set_option maxHeartbeats 4000000
namespace Ev
open PySem PyProof.Rows
theorem putX_step {H : Hp} {a C d t : Addr} {f : Str} {v : V} {m : Str} (h1 : t ≠ a) (h2 : d ≠ a) (h3 : d ≠ t) : L2.upd (L2.upd (L2.upd (L2.upd H t (.tup [.str m])) a (exa a C none t)) d (L2.exd d [(f, v)])) a (exa a C (some d) t) = putX H a C d t f v m := by
  funext b
  unfold putX
  by_cases e1 : b = a
  · rw [e1, L2.upd_same, L2.upd_same]
  · rw [L2.upd_ne e1, L2.upd_ne e1]
    by_cases e2 : b = d
    · rw [e2, L2.upd_same, L2.upd_same]
    · rw [L2.upd_ne e2, L2.upd_ne e1, L2.upd_ne e2]
theorem putX_over {H : Hp} {a C d t : Addr} {f : Str} {v : V} {m : Str} {o : L2.HO} : putX (L2.upd H a o) a C d t f v m = putX H a C d t f v m := by
  funext b
  unfold putX
  by_cases e1 : b = a
  · rw [e1, L2.upd_same, L2.upd_same]
  · rw [L2.upd_ne e1, L2.upd_ne e1]
    by_cases e2 : b = d
    · rw [e2, L2.upd_same, L2.upd_same]
    · rw [L2.upd_ne e2, L2.upd_ne e2]
      by_cases e3 : b = t
      · rw [e3, L2.upd_same, L2.upd_same]
      · rw [L2.upd_ne e3, L2.upd_ne e3, L2.upd_ne e1]
/-- B.__init__(self, m) -/
def tBi (K : PySem.W.Frag) (C : Addr) (ta : L2.TA) : L2.TE := fun σ H Q => ta σ H fun vs H1 => ∃ a t0 m, vs = [.ref a, .str m] ∧ H1 a = some (exa a C none t0) ∧ ∀ t, H1 t = none → t ≠ a → Q .non (L2.upd (L2.upd H1 t (.tup [.str m])) a (exa a C none t))
section
variable {X : L2.Cx} {C : Addr} {f B newId initId : String} {bmB : List Value} {fl : Str}
theorem bi_end (T : OxC X.K C fl B newId initId bmB) {pins : List (Addr × Obj)} {σ : L2.St} {H1 : Hp} {s1 : Shared} {vs : List V} {us : List Value} {Q : L2.VK} (I1 : L2.Inv X pins σ H1 s1) (r1 : L2.Vals vs us)
    (q : ∃ a t0 m, vs = [.ref a, .str m] ∧ H1 a = some (exa a C none t0) ∧ ∀ t, H1 t = none → t ≠ a → Q .non (L2.upd (L2.upd H1 t (.tup [.str m])) a (exa a C none t))) : wpAny (model X.prog X.w) X.A (call (.builtin initId) us) (L2.EP X pins σ Q) X.xe s1 := by
  obtain ⟨a, t0, m, rfl, ea, q⟩ := q
  cases r1 with
  | cons ra rr =>
    cases rr with
    | cons rm rr =>
      cases rr
      cases ra
      obtain ⟨tk, rfl⟩ := rm
      exact oinit_x T I1 ea fun t1 s' hn ne J => ⟨.non, _, J, rfl, q t1 hn ne⟩
theorem pe_bi_own {x : Str} {D : Addr} {e e2 : Expr} {ta : L2.TA} {p1 p2 pos : Pos} (T : OxC X.K C fl B newId initId bmB) (hi : PySem.W.handedIn (.builtin initId) = true) (gl : L2.Gl X x) (hm : X.mg x = some (.ref D)) (nd : (x == ("__debug__" : Str)) = false)
    (ga : PySem.W.specialIn X.K (.ref D) "__getattribute__" = some (some (.builtin "type.__getattribute__"))) (rd : PySem.W.readsIn X.K D (.type "type") = true) (fc : PySem.W.findCls X.K (.ref D) (.type "type") "__init__" = some (.val (.builtin initId)))
    (args : L2.PA X [e, e2] ta) (st : noStar [e, e2] = true) (line : (p2.endLine == pos.line) = true) : L2.PE X (.Call (.Attribute (.Name x p1) "__init__" p2) [e, e2] [] pos) (tBi X.K C ta) := by
  obtain ⟨s1, s2⟩ := star_cons (env := X.env) st
  constructor
  intro pins s σ H Q I h
  have form : methodCallForm ([e, e2].length + ([] : List Keyword).length) (backTo pos (starEach [e, e2] X.env)) (backToKw pos (keywordEach [] X.env)) = true := by
    unfold methodCallForm
    have := star_all (pos := pos) (env := X.env) st
    rw [this]; rfl
  rw [arm_eval_Call, base_ok (o := .Name x p1) rfl]
  refine wpAny_bind (L2.ld_glob I gl hm ?_ nd)
  refine wpAny_bind (wpAny_standAt ?_)
  unfold methodCall calleeOf methodCallPos
  simp only [form, line, if_true, Bool.not_true, Bool.or_true]
  refine wpAny_bind (wpAny_holding (PySem.W.method_cls I.kIn ga (PySem.W.cls_value I.kIn rd fc hi ?_)))
  refine wpAny_bind (wpAny_pure ?_)
  show wpAny _ _ (callWith pos (Value.builtin initId) [] (backTo pos (starEach [e, e2] X.env)) []) _ _ _
  refine PyProof.Rows.callWith_method1 ?_ s1 (star_any s2)
  refine L2.thn (args.run pos pins _ σ H _ (I.tok _) h) ?_
  rintro us s3 ⟨vs, H1, I1, r1, q⟩
  exact bi_end T I1 r1 q
theorem pe_bi_blt {x : Str} {e e2 : Expr} {ta : L2.TA} {p1 p2 pos : Pos} (T : OxC X.K C fl B newId initId bmB) (hi : PySem.W.handedIn (.builtin initId) = true) (gl : L2.Gl X x) (hm : X.mg x = none) (hb : bootBuiltins x = some (.type B)) (nd : (x == ("__debug__" : Str)) = false) (nn : x ≠ "__name__")
    (ty : typeOf (.type B) = pure (.type "type")) (ns : Manifest.isStub B = false) (fc : PySem.W.findCls X.K (.type B) (.type "type") "__init__" = some (.val (.builtin initId)))
    (args : L2.PA X [e, e2] ta) (st : noStar [e, e2] = true) (line : (p2.endLine == pos.line) = true) : L2.PE X (.Call (.Attribute (.Name x p1) "__init__" p2) [e, e2] [] pos) (tBi X.K C ta) := by
  obtain ⟨s1, s2⟩ := star_cons (env := X.env) st
  constructor
  intro pins s σ H Q I h
  have form : methodCallForm ([e, e2].length + ([] : List Keyword).length) (backTo pos (starEach [e, e2] X.env)) (backToKw pos (keywordEach [] X.env)) = true := by
    unfold methodCallForm
    have := star_all (pos := pos) (env := X.env) st
    rw [this]; rfl
  rw [arm_eval_Call, base_ok (o := .Name x p1) rfl]
  refine wpAny_bind (L2.ld_blt I gl hm hb ?_ nn nd)
  refine wpAny_bind (wpAny_standAt ?_)
  unfold methodCall calleeOf methodCallPos
  simp only [form, line, if_true, Bool.not_true, Bool.or_true]
  obtain ⟨m, fr⟩ := I.fr
  refine wpAny_bind (wpAny_holding (PySem.W.method_type fr I.ok.mod.kin ty ns fc hi ?_))
  refine wpAny_bind (wpAny_pure ?_)
  show wpAny _ _ (callWith pos (Value.builtin initId) [] (backTo pos (starEach [e, e2] X.env)) []) _ _ _
  refine PyProof.Rows.callWith_method1 ?_ s1 (star_any s2)
  refine L2.thn (args.run pos pins _ σ H _ (I.tok _) h) ?_
  rintro us s3 ⟨vs, H1, I1, r1, q⟩
  exact bi_end T I1 r1 q
/-- self.f = e -/
def tSx (C : Addr) (f : Str) (to te : L2.TE) : L2.TS := fun D σ H => te σ H fun y H1 => to σ H1 fun x H2 => ∃ a t, x = .ref a ∧ H2 a = some (exa a C none t) ∧ ∀ dx, H2 dx = none → dx ≠ a → D.nx σ (L2.upd (L2.upd H2 dx (L2.exd dx [(f, y)])) a (exa a C (some dx) t))
theorem ps_sx {o e : Expr} {to te : L2.TE} {p' pos : Pos} (T : OxC X.K C fl B newId initId bmB) (ho : L2.PE X o to) (he : L2.PE X e te) (hs : swapsWith e (some (.Attribute o fl p')) pos.line X.env = pure false := by rfl) : L2.PS X (.Assign [.Attribute o fl p'] e pos) (tSx C fl to te) := by
  constructor
  intro pins s σ H D I h
  refine plainObj_wpAny_Assign_Attribute (L2.thn (he.run pins s σ H _ I h) fun v s1 ⟨y, H1, I1, r1, q1⟩ => L2.thn (ho.run pins s1 σ H1 _ I1 q1) fun u s2 ⟨x, H2, I2, r2, a, t, ex, ea, q⟩ => ?_) hs
  subst ex
  obtain rfl : u = Value.ref a := r2
  exact ost_x T I2 ea r1 fun dx s' n ne J => ⟨σ, _, J, q dx n ne⟩
end
/-- how an __init__ calls its base's -/
structure BiC (K : PySem.W.Frag) (mg : Str → Option Value) (b : Str) (B initId : String) : Prop where
  hi : PySem.W.handedIn (.builtin initId) = true
  nd : (b == ("__debug__" : Str)) = false
  how : (∃ D, mg b = some (.ref D) ∧ PySem.W.specialIn K (.ref D) "__getattribute__" = some (some (.builtin "type.__getattribute__")) ∧ PySem.W.readsIn K D (.type "type") = true ∧ PySem.W.findCls K (.ref D) (.type "type") "__init__" = some (.val (.builtin initId))) ∨
    (mg b = none ∧ bootBuiltins b = some (.type B) ∧ b ≠ "__name__" ∧ typeOf (.type B) = pure (.type "type") ∧ Manifest.isStub B = false ∧ PySem.W.findCls K (.type B) (.type "type") "__init__" = some (.val (.builtin initId)))
/-- the __init__'s text -/
def inX (f b : Str) (m : Str) : List Stmt → Bool
  | [.Expr (.Call (.Attribute (.Name b' _) i ap) [.Name s _, .Constant (.str m') _ _] [] cp) _, .Assign [.Attribute (.Name s' _) f' _] (.Name v _) _] => (ap.endLine == cp.line) && b' == b && i == ("__init__" : Str) && s == ("self" : Str) && s' == ("self" : Str) && f' == f && v == f && m' == m
  | _ => false
section
variable {P : Program} {w : World} {K : PySem.W.Frag} {mg : Str → Option Value} {base : Heap}
theorem initX_ok {f b m qual : Str} {C : Addr} {B newId initId : String} {bmB : List Value} {params : Arguments} {body : List Stmt} {scope : Scope} {dvs : List V} {kws : List (Str × V)} {fI : Addr} {fd : FuncData} (T : OxC K C f B newId initId bmB) (BC : BiC K mg b B initId)
    (fu : L2.FunD K "__init__" qual params body scope dvs kws fI fd) (sc : L2.FnScope ["self", f] ["self", f] scope) (hi : inX f b m body = true) (hg : globN scope b = true) (hpf : plainN f = true) (l1 : scope.names.lookup ("self" : Str) = some .local) (l2 : scope.names.lookup f = some .local) :
    L2.FnOk P w K mg base (L2.CX P w) 1 fI fd ["self", f] (spX C f m) := by
  refine fu.ok sc (fun vs H Q E z => by obtain ⟨a, v, t0, rfl, _⟩ := z; rfl) fun cdv A outer s H vs Q E room z => ?_
  obtain ⟨a, v, t0, rfl, ha, q⟩ := z
  unfold inX at hi
  split at hi
  · rename_i b' p1 i p2 s1 p3 m' j p4 p5 p6 s2 p7 f' p8 v1 p9 p10
    simp only [Bool.and_eq_true, beq_iff_eq] at hi
    obtain ⟨⟨⟨⟨⟨⟨⟨line, rfl⟩, rfl⟩, rfl⟩, rfl⟩, rfl⟩, rfl⟩, rfl⟩ := hi
    obtain ⟨d1, d2, d3⟩ := plain_of hpf
    let X : L2.Cx := L2.cxOf (L2.CX P w) P w K mg base ["self", v1] qual scope fI cdv A outer s H E
    have gl : L2.Gl X b' := by show _ = _; unfold Env.kindOf; exact of_decide_eq_true hg
    have v0 : ∀ p, L2.PE X (.Name "self" p) (L2.tVar 0) := fun p => L2.pe_var rfl (.inl l1)
    have v1' : ∀ p, L2.PE X (.Name v1 p) (L2.tVar 1) := fun p => L2.pe_var rfl (.inl l2) d1 d2
    have args : L2.PA X [.Name "self" p3, .Constant (.str m') j p4] _ := L2.pa_cons (v0 _) (L2.pa_cons L2.pe_str L2.pa_nil)
    have p1ok : L2.PE X (.Call (.Attribute (.Name b' p1) "__init__" p2) [.Name "self" p3, .Constant (.str m') j p4] [] p5) (tBi X.K C (L2.tCons (L2.tVar 0) (L2.tCons (L2.tC (L2.V.str m')) L2.tNil))) := by
      rcases BC.how with ⟨D, h1, h2, h3, h4⟩ | ⟨h1, h2, h3, h4, h5, h6⟩
      · exact pe_bi_own (X := X) T BC.hi gl h1 BC.nd h2 h3 h4 args rfl (by simpa using line)
      · exact pe_bi_blt (X := X) T BC.hi gl h1 h2 BC.nd h3 h4 h5 h6 args rfl (by simpa using line)
    refine ⟨_, L2.pss_cons (L2.ps_expr p1ok) (L2.pss_one (ps_sx (X := X) T (v0 _) (v1' _))), ?_⟩
    refine ⟨_, rfl, a, t0, m', rfl, ha, fun t hn ne => ?_⟩
    refine ⟨v, rfl, _, rfl, a, t, rfl, L2.upd_same, fun dx hdx nx => ?_⟩
    have nt : dx ≠ t := fun z => by
      rw [z, L2.upd_ne ne, L2.upd_same] at hdx
      cases hdx
    have hd : H dx = none := by
      rw [L2.upd_ne nx, L2.upd_ne nt] at hdx
      exact hdx
    rw [putX_step ne nx nt]
    exact q t dx hn hd ne nx nt
  · cases hi
end
end Ev
end
section
set_option linter.all false
set_option maxHeartbeats 4000000
namespace Ev
open PySem PyProof.Rows
/-- C(e) as a value -/
def tMkX (C : Addr) (f m : Str) (t : L2.TE) : L2.TE := fun σ H Q => t σ H fun v H1 => ∀ a t d, H1 a = none → H1 t = none → H1 d = none → t ≠ a → d ≠ a → d ≠ t → Q (.ref a) (putX H1 a C d t f v m)
section
variable {X : L2.Cx} {C : Addr} {f m B newId initId : String} {fl ms : Str} {bmB : List Value} {fd : FuncData}
theorem run_mkX {pins : List (Addr × Obj)} {σ : L2.St} {H : Hp} {s : Shared} {Q : L2.VK} {us : List Value} {kw : List (Str × Value)} {v : V} {u : Value} (T : OxC X.K C fl B newId initId bmB)
    (F1 : L2.FnOk X.prog X.w X.K X.mg X.base (L2.CX X.prog X.w) 1 (He.ma X.K C "__init__") fd [("self" : Str), fl] (spX C fl ms)) (room : L2.Room 2 X.A) (hb : ∀ (s' : Shared) (self : Value), X.K.In s'.heap → BindsTo s' fd ⟨self :: us, kw⟩ ([("self" : Str), fl].zip [self, u])) (hl : us.length ≤ sizeLine)
    (I : L2.Inv X pins σ H s) (rv : L2.RelV v u) (q : ∀ a t d, H a = none → H t = none → H d = none → t ≠ a → d ≠ a → d ≠ t → Q (.ref a) (putX H a C d t fl v ms)) : wpAny (model X.prog X.w) X.A (call (.ref C) us kw) (L2.EP X pins σ Q) X.xe s := by
  obtain ⟨nm, N, qn, bs, bm, hdct, sn, sub, ab, col, dd, k0, k1, k2, k3, k5, hC, hT⟩ := PySem.W.excInit_of I.kIn T.q
  obtain ⟨hp, g, dr, tk, os⟩ := s
  have hsz : hp.objs.size ≤ hp.objs.size + 1 := Nat.le_succ _
  have hn : H (hp.objs.size + 1) = none := I.hok.fresh hsz
  have kk : ∀ b o, hp.get? b = some o → ((hp.push (PySem.W.kdv_tup us)).push (PySem.HandSPX.excO C hp.objs.size)).get? b = some o := fun b o e => Heap.get?_push_of_some _ (Heap.get?_push_of_some _ e)
  have hget : ((hp.push (PySem.W.kdv_tup us)).push (PySem.HandSPX.excO C hp.objs.size)).get? (hp.objs.size + 1) = some (PySem.HandSPX.excO C hp.objs.size) := by heap_get
  have I2 : L2.Inv X pins σ (L2.upd H (hp.objs.size + 1) (exa (hp.objs.size + 1) C none hp.objs.size)) ⟨(hp.push (PySem.W.kdv_tup us)).push (PySem.HandSPX.excO C hp.objs.size), g, dr, tk, os⟩ :=
    I.laid (t' := tk) (a := hp.objs.size + 1) (o := exa (hp.objs.size + 1) C none hp.objs.size) (h' := (hp.push (PySem.W.kdv_tup us)).push (PySem.HandSPX.excO C hp.objs.size)) kk hsz (exa_ok hget)
  have r2 : L2.Vals [L2.V.ref (hp.objs.size + 1), v] [Value.ref (hp.objs.size + 1), u] := .cons rfl (.cons rv .nil)
  have sp : spX C fl ms [L2.V.ref (hp.objs.size + 1), v] (L2.upd H (hp.objs.size + 1) (exa (hp.objs.size + 1) C none hp.objs.size)) (fun z H2 => z = .non ∧ Q (.ref (hp.objs.size + 1)) H2) (fun _ _ _ => False) := by
    refine ⟨_, v, _, rfl, L2.upd_same, fun t d ht hd n1 n2 n3 => ⟨rfl, ?_⟩⟩
    rw [putX_over]
    rw [L2.upd_ne n1] at ht
    rw [L2.upd_ne n2] at hd
    exact q _ t d hn ht hd n1 n2 n3
  refine wpAny_call (PySem.EvX.xcall T.FB hT hC (PySem.W.looks_findIn I.kIn T.iC) (fun self => PySem.W.bind_fn I.kIn self T.tI) hl ?_)
  refine codeAny_mono (F1.run _ X.stack _ _ ⟨Value.ref (hp.objs.size + 1) :: us, kw⟩ [Value.ref (hp.objs.size + 1), u] _ _ (fun _ _ _ => False) (room.make C us kw) (I2.env0.make C us kw) (hb _ _ I2.kIn) r2 sp) fun r s' hq' => ?_
  match r, hq' with
  | .error e, z => exact L2.passL pins σ _ _ e s' I2 z
  | .ok (.ret z), hq' =>
    obtain ⟨v', H2, I3, rv', ev', q2⟩ := I2.after hq'
    subst ev'
    exact ⟨rv', ⟨L2.V.ref (hp.objs.size + 1), H2, I3, rfl, q2⟩⟩
  | .ok .next, z => exact z.elim
  | .ok .brk, z => exact z.elim
  | .ok .cont, z => exact z.elim
/-- C(e) -/
theorem pe_mkX1 {x : Str} {p pos : Pos} {e : Expr} {t : L2.TE} (T : OxC X.K C fl B newId initId bmB) (F1 : L2.FnOk X.prog X.w X.K X.mg X.base (L2.CX X.prog X.w) 1 (He.ma X.K C "__init__") fd [("self" : Str), fl] (spX C fl ms)) (room : L2.Room 2 X.A) (bd : L2.Binds X.K fd [("self" : Str), fl] [])
    (gl : L2.Gl X x) (hm : X.mg x = some (.ref C)) (nd : (x == ("__debug__" : Str)) = false) (pe : L2.PE X e t) (st : noStar [e] = true) : L2.PE X (.Call (.Name x p) [e] [] pos) (tMkX C fl ms t) := by
  obtain ⟨s1, s2⟩ := star_cons (env := X.env) st
  constructor
  intro pins s σ H Q I h
  refine wpAny_Call_Name_kw (L2.ld_glob I gl hm ?_ nd)
  refine PySem.W.callWith_K (h₀ := X.base) I.ok.mod.kin T.kC ?_ s1 (star_any s2)
  have pe' : L2.PE X e (fun σ H Q' => ∃ Q0 : V → Hp → Prop, t σ H Q0 ∧ ∀ v H1, Q0 v H1 → Q' v H1) := ⟨fun pins s σ H Q' I ⟨Q0, z, k⟩ => L2.thn (pe.run pins s σ H Q0 I z) fun _ _ ⟨v, H1, I1, r, q⟩ => ⟨v, H1, I1, r, k v H1 q⟩⟩
  have pa := L2.pa_cons pe' L2.pa_nil s1
  refine L2.thn (pa.run pos pins s σ H (fun vs H1 => ∃ v, vs = [v] ∧ ∀ a t d, H1 a = none → H1 t = none → H1 d = none → t ≠ a → d ≠ a → d ≠ t → Q (.ref a) (putX H1 a C d t fl v ms)) I ⟨_, h, fun v H1 q => ⟨v, rfl, q⟩⟩) ?_
  rintro us s1 ⟨vs, H1, I1, r1, v, rfl, q⟩
  refine ⟨I1.kIn, ?_⟩
  obtain ⟨u, rfl, ru⟩ := L2.vals1 r1
  exact run_mkX (us := [u]) (kw := []) T F1 room (fun s' self K => bd s' [self, u] K rfl) (by show 1 ≤ sizeLine; rw [sizeLine_eq]; omega) I1 ru q
/-- C(k = e) -/
theorem pe_mkXK {x : Str} {p kp pos : Pos} {e : Expr} {t : L2.TE} (T : OxC X.K C fl B newId initId bmB) (F1 : L2.FnOk X.prog X.w X.K X.mg X.base (L2.CX X.prog X.w) 1 (He.ma X.K C "__init__") fd [("self" : Str), fl] (spX C fl ms)) (room : L2.Room 2 X.A) (bd : ∀ (s' : Shared) (self u : Value), X.K.In s'.heap → BindsTo s' fd ⟨[self], [(fl, u)]⟩ ([("self" : Str), fl].zip [self, u]))
    (gl : L2.Gl X x) (hm : X.mg x = some (.ref C)) (nd : (x == ("__debug__" : Str)) = false) (pe : L2.PE X e t) : L2.PE X (.Call (.Name x p) [] [⟨some fl, e, kp⟩] pos) (tMkX C fl ms t) := by
  constructor
  intro pins s σ H Q I h
  refine wpAny_Call_Name_kw (L2.ld_glob I gl hm ?_ nd)
  have pe' : L2.PE X e (fun σ H Q' => ∃ Q0 : V → Hp → Prop, t σ H Q0 ∧ ∀ v H1, Q0 v H1 → Q' v H1) := ⟨fun pins s σ H Q' I ⟨Q0, z, k⟩ => L2.thn (pe.run pins s σ H Q0 I z) fun _ _ ⟨v, H1, I1, r, q⟩ => ⟨v, H1, I1, r, k v H1 q⟩⟩
  have pk : L2.PK X [⟨some fl, e, kp⟩] _ := L2.pk_cons pe' L2.pk_nil
  refine PySem.W.callWith_KW0 (h₀ := X.base) I.ok.mod.kin T.kC rfl ?_ rfl
  refine L2.thn (pk.run pos pins s σ H (fun vs H1 => ∃ v, vs = [v] ∧ ∀ a t d, H1 a = none → H1 t = none → H1 d = none → t ≠ a → d ≠ a → d ≠ t → Q (.ref a) (putX H1 a C d t fl v ms)) I ⟨_, h, fun v H1 q => ⟨v, rfl, q⟩⟩) ?_
  rintro us s1 ⟨vs, H1, I1, r1, v, rfl, q⟩
  refine ⟨I1.kIn, ?_⟩
  obtain ⟨u, rfl, ru⟩ := L2.vals1 r1
  exact run_mkX (us := []) (kw := [(fl, u)]) T F1 room (fun s' self K => bd s' self u K) (by show 0 ≤ sizeLine; omega) I1 ru q
/-- C() -/
theorem pe_mkX0 {x : Str} {p pos : Pos} {ds : List Value} (T : OxC X.K C fl B newId initId bmB) (F1 : L2.FnOk X.prog X.w X.K X.mg X.base (L2.CX X.prog X.w) 1 (He.ma X.K C "__init__") fd [("self" : Str), fl] (spX C fl ms)) (room : L2.Room 2 X.A) (rd : L2.Vals [.non] ds) (bd : L2.Binds X.K fd [("self" : Str), fl] ds)
    (gl : L2.Gl X x) (hm : X.mg x = some (.ref C)) (nd : (x == ("__debug__" : Str)) = false) : L2.PE X (.Call (.Name x p) [] [] pos) (tMkX C fl ms (L2.tC .non)) := by
  constructor
  intro pins s σ H Q I h
  refine wpAny_Call_Name_kw (L2.ld_glob I gl hm ?_ nd)
  refine PySem.W.callWith_K0 (I.tok _).kIn T.kC ?_
  obtain ⟨u, rfl, ru⟩ := L2.vals1 rd
  exact run_mkX (us := []) (kw := []) T F1 room (fun s' self K => bd s' [self] K rfl) (by show 0 ≤ sizeLine; omega) (I.tok _) ru h
end
end Ev
end
section
set_option linter.all false
set_option maxHeartbeats 4000000
namespace Ev
open PySem PyProof.Rows
section
variable {P : Prm} {F : Nat → List Sl → CR} {T : Tb} {Gt : Nat → (Ls → R Vw) → Ls → R Vw} {th : Option (Ls × (Ls → R Vw))} {σ : L2.St} {H : Hp}
theorem putX_ext {a C d t : Addr} {f m : Str} {v : V} (ha : H a = none) (ht : H t = none) (hd : H d = none) : ∀ b u, H b = some u → putX H a C d t f v m b = some u := fun b u h => by
  unfold putX
  rw [L2.upd_ne (L2.ne_of_none h ha), L2.upd_ne (L2.ne_of_none h hd), L2.upd_ne (L2.ne_of_none h ht)]
  exact h
/-- behind C(e): the exception stands, and stays -/
theorem mk_made {ts : List Nat} {e e1 : Ls} {G G1 : GSet} {H1 : Hp} {fp fp1 : FpT} {c : Nat} {y : D} {v : V} {Q : V → Hp → Prop} {a t d : Addr} (S : Sim P.K G H e σ fp) (h : Aft P ts σ e G H fp (.ok (new 0 (.exc c y)) e1) (VwOk P.K H σ) Q) (Fr : Frm G H fp G1 H1 fp1) (Kp : Keep ts e H fp e1 H1)
    (S1 : Sim P.K G1 H1 e1 σ fp1) (xk : xkB P.K c = true) (r : Rep P.K G1 H1 0 y v []) (ha : H1 a = none) (ht : H1 t = none) (hd : H1 d = none) (n1 : t ≠ a) (n2 : d ≠ a) (n3 : d ≠ t)
    (J : Inj P.K (putX H1 a (cA P.K c) d t (fldS (fldNo c)) v (msgS c))) : Q (.ref a) (putX H1 a (cA P.K c) d t (fldS (fldNo c)) v (msgS c)) := by
  have ext := putX_ext (C := cA P.K c) (f := fldS (fldNo c)) (m := msgS c) (v := v) ha ht hd
  obtain ⟨S2, F2, K2⟩ := S1.ext ext
  have ea : putX H1 a (cA P.K c) d t (fldS (fldNo c)) v (msgS c) a = some (exa a (cA P.K c) (some d) t) := L2.upd_same
  have ed : putX H1 a (cA P.K c) d t (fldS (fldNo c)) v (msgS c) d = some (L2.exd d [(fldS (fldNo c), v)]) := by unfold putX; rw [L2.upd_ne n2, L2.upd_same]
  have et : putX H1 a (cA P.K c) d t (fldS (fldNo c)) v (msgS c) t = some (.tup [.str (msgS c)]) := by unfold putX; rw [L2.upd_ne n1, L2.upd_ne (Ne.symm n3), L2.upd_same]
  have S3 := S2.moreG (fx := [a, d]) (fun b hb i z => by
    obtain ⟨o, ho, _⟩ := S1.there z
    rcases List.mem_cons.mp hb with e | hb
    · rw [e, ha] at ho; cases ho
    · rw [List.mem_singleton.mp hb, hd] at ho; cases ho) (fun b hb => by
    rcases List.mem_cons.mp hb with e | hb
    · rw [e]; exact ⟨_, ea, True.intro⟩
    · rw [List.mem_singleton.mp hb]; exact ⟨_, ed, True.intro⟩)
  have F3 := Fr.trans S F2
  refine h _ _ fp1 (.ref a) ⟨fun b g => .inl (F3.g b g), fun b g => ?_, F3.st, F3.fn, F3.al⟩ ((Keep.trans S Fr Kp F2 K2).mono (by simp)) S3 J ?_
  · rcases g with g | g
    · exact F3.gn b g
    · refine .inr (.inr (Fr.none ?_))
      rcases List.mem_cons.mp g with e | hb
      · rw [e]; exact ha
      · rw [List.mem_singleton.mp hb]; exact hd
  · show ∃ fx, Rep P.K _ _ (if D.atom (.exc c y) then capK else 0) (.exc c y) (.ref a) fx ∧ fx.Nodup ∧ _
    exact ⟨[], .exc xk ea (.inr (List.mem_cons_self ..)) ed (.inr (List.mem_cons_of_mem _ (List.mem_cons_self ..))) et (r.keep (fun b g => .inl g) ⟨fun b xs q => ext b _ q, fun b o u q => ext b _ q, fun b o _ q => ext b o q⟩ fun _ hb => by cases hb), List.nodup_nil, fun _ hb => by cases hb⟩
theorem te_mk1 {c : Nat} {x : Xp} {Q : V → Hp → Prop} (xk : xkB P.K c = true) (h : TEs P F T Gt th (.mk c [x]) σ H Q) : tMkX (cA P.K c) (fldS (fldNo c)) (msgS c) (inj P.K (TEs P F T Gt th x)) σ H fun v H' => Inj P.K H' → Q v H' := by
  obtain ⟨e, G, fp, S, h⟩ := h
  simp only [ev] at h
  have q : TPs P F T Gt th true [x] σ H fun vs H1 => ∃ v, vs = [v] ∧ ∀ a t d, H1 a = none → H1 t = none → H1 d = none → t ≠ a → d ≠ a → d ≠ t → Inj P.K (putX H1 a (cA P.K c) d t (fldS (fldNo c)) v (msgS c)) → Q (.ref a) (putX H1 a (cA P.K c) d t (fldS (fldNo c)) v (msgS c)) := by
    refine ⟨e, G, fp, S, Aft.first h (fun i hi => by simpa only [Xp.tch] using hi) fun ds e1 G1 H1 fp1 vs hr F1 K1 S1 J1 o => ?_⟩
    rw [hr, R.bind_ok] at h
    unfold OkL at o
    rw [if_pos rfl] at o
    have hl := evP_len hr
    match ds, hl with
    | [y], _ =>
      obtain ⟨v, ws, rfl, r, r2⟩ := reps0 o
      cases r2
      exact ⟨v, rfl, fun a t d ha ht hd n1 n2 n3 J => mk_made S h F1 (K1.mono fun i hi => by simpa only [Xp.tch] using hi) S1 xk r ha ht hd n1 n2 n3 J⟩
  have q2 := tps_cons q
  refine tes_imp q2 fun v H1 z J1 a t d ha ht hd n1 n2 n3 J2 => ?_
  obtain ⟨v', e1, z⟩ := tps_nil J1 (z J1)
  cases e1
  exact z a t d ha ht hd n1 n2 n3 J2
theorem te_mk0 {c : Nat} {Q : V → Hp → Prop} (xk : xkB P.K c = true) (h : TEs P F T Gt th (.mk c []) σ H Q) : tMkX (cA P.K c) (fldS (fldNo c)) (msgS c) (L2.tC .non) σ H fun v H' => Inj P.K H' → Q v H' := by
  obtain ⟨e, G, fp, S, h⟩ := h
  simp only [ev, evP, R.bind_ok] at h
  exact fun a t d ha ht hd n1 n2 n3 J => mk_made S h (Frm.refl S) .refl S xk .non ha ht hd n1 n2 n3 J
end
section
variable {cx : Ck} {F : Nat → List Sl → CR} {T : Tb} {Gt : Nat → (Ls → R Vw) → Ls → R Vw} {th : Option (Ls × (Ls → R Vw))} {adr : Nat → Addr} {fld : Nat → Str} {X : L2.Cx} {sc : Scope} {W : L2.WX}
theorem e_mk {x : Str} {c : Nat} {p pos : Pos} {args : List Expr} {kws : List Keyword} {es : List Xp} (S : Sx cx F adr fld X sc W) (hg : globN sc x = true) (hp : plainN x = true) (hx : x = clsN c) (hc : cx.mks.contains c = true)
    (hf : (kws = [] ∧ args = [] ∧ es = [] ∧ c ≠ 116) ∨ (∃ e y, kws = [] ∧ args = [e] ∧ es = [y] ∧ noStar [e] = true ∧ L2.PE X e (inj X.K (TEs ⟨X.K, W, adr, fld⟩ F T Gt th y))) ∨ (∃ e y kp, kws = [⟨some (fldS (fldNo c)), e, kp⟩] ∧ args = [] ∧ es = [y] ∧ L2.PE X e (inj X.K (TEs ⟨X.K, W, adr, fld⟩ F T Gt th y)))) :
    L2.PE X (.Call (.Name x p) args kws pos) (TEs ⟨X.K, W, adr, fld⟩ F T Gt th (.mk c es)) := by
  obtain ⟨M, room⟩ := S.mkw c hc
  obtain ⟨B, newId, initId, bmB, fd, ox, fn, b1, b2, b3⟩ := M.ex
  have gl := M.glob
  rw [← hx] at gl
  have nd := (plain_of hp).1
  rcases hf with ⟨rfl, rfl, rfl, h4⟩ | ⟨e, y, rfl, rfl, rfl, st, pe⟩ | ⟨e, y, kp, rfl, rfl, rfl, pe⟩
  · rcases b3 with b3 | ⟨ds, rd, b3⟩
    · exact absurd b3 h4
    · exact pe_wr (pe_mkX0 (C := cA X.K c) (fl := fldS (fldNo c)) (ms := msgS c) (x := x) (p := p) (pos := pos) ox fn room rd b3 (glob_of S hg) gl nd) fun σ H Q J q => te_mk0 (P := ⟨X.K, W, adr, fld⟩) M.xk q
  · exact pe_wr (pe_mkX1 (C := cA X.K c) (fl := fldS (fldNo c)) (ms := msgS c) (x := x) (p := p) (pos := pos) ox fn room b1 (glob_of S hg) gl nd pe st) fun σ H Q J q => te_mk1 (P := ⟨X.K, W, adr, fld⟩) M.xk q
  · exact pe_wr (pe_mkXK (C := cA X.K c) (fl := fldS (fldNo c)) (ms := msgS c) (x := x) (p := p) (pos := pos) ox fn room b2 (glob_of S hg) gl nd pe) fun σ H Q J q => te_mk1 (P := ⟨X.K, W, adr, fld⟩) M.xk q
/-- isinstance(e, C) of an own exception -/
theorem e_isx {k : Nat} {f t : Str} {p p2 pos : Pos} {ea : Expr} {a : Xp} (S : Sx cx F adr fld X sc W) (hf : f = ("isinstance" : Str)) (hg : freeN cx sc f = true) (hp : plainN f = true) (hk : 90 ≤ k) (hi : cx.iks.contains k = true)
    (ht : (100 ≤ k ∧ globN sc t = true ∧ t = clsN k) ∨ (k < 100 ∧ freeN cx sc t = true ∧ bltEx k t = true)) (hs : noStar [ea, .Name t p2] = true)
    (pa : L2.PE X ea (inj X.K (TEs ⟨X.K, W, adr, fld⟩ F T Gt th a))) : L2.PE X (.Call (.Name f p) [ea, .Name t p2] [] pos) (TEs ⟨X.K, W, adr, fld⟩ F T Gt th (.p (.isinst [k]) [a])) := by
  obtain ⟨g1, g2⟩ := free_of S hg
  obtain ⟨s1, s2⟩ := star_cons (env := X.env) hs
  subst hf
  obtain ⟨i1, i2⟩ := S.isx k hi
  have hv : ∃ cv, L2.PE X (.Name t p2) (L2.tC cv) ∧ ∀ u, L2.RelV cv u → u = clsV X.K k := by
    rcases ht with ⟨h1, h2, rfl⟩ | ⟨h1, h2, h3⟩
    · have e : clsV X.K k = .ref (He.ga X.K (clsN k)) := by
        unfold clsV
        rw [if_neg (by omega), if_neg (by omega), if_neg (by omega), if_neg (by omega)]
      have i3 := i1 h1
      rw [e] at i3
      refine ⟨.ref (He.ga X.K (clsN k)), ⟨fun _ _ _ H _ I h => L2.ld_glob I (glob_of S h2) i3 ⟨.ref (He.ga X.K (clsN k)), H, I, rfl, h⟩ ?_⟩, fun u r => by rw [e]; exact r⟩
      rw [beq_eq_false_iff_ne]
      intro z
      unfold clsN at z
      split at z
      · exact absurd z (by decide)
      · split at z
        · rename_i q hq
          have all : ∀ p ∈ exTab, (p.2.1 : Str) ≠ ("__debug__" : Str) := by decide
          exact all _ (lookN_mem hq) z
        · exact absurd z (by decide)
    · obtain ⟨t1, t2⟩ := free_of S h2
      unfold bltEx at h3
      split at h3
      · rename_i e; subst e
        rw [beq_iff_eq] at h3; subst h3
        exact ⟨.ty "ValueError", L2.pe_bltn t1 t2 (by decide +kernel) rfl (by decide) (by decide), fun u r => r⟩
      · split at h3
        · rename_i e; subst e
          rw [beq_iff_eq] at h3; subst h3
          exact ⟨.ty "LookupError", L2.pe_bltn t1 t2 (by decide +kernel) rfl (by decide) (by decide), fun u r => r⟩
        · split at h3
          · rename_i e; subst e
            rw [beq_iff_eq] at h3; subst h3
            exact ⟨.ty "OverflowError", L2.pe_bltn t1 t2 (by decide +kernel) rfl (by decide) (by decide), fun u r => r⟩
          · cases h3
  obtain ⟨cv, pt, hcv⟩ := hv
  refine pe_wr0 (pe_blt (.inl ⟨"isinstance", c_isx k hk i2, by decide +kernel⟩) g1 g2 hp (L2.pa_cons pa (L2.pa_cons pt L2.pa_nil (by rfl)) s1) hs (by simp)) fun σ H Q q => ?_
  exact tes_imp (te_p1 q) fun v H1 z J1 => ⟨v, cv, rfl, hcv, z J1⟩
end
end Ev
end
section
set_option linter.all false
set_option maxHeartbeats 4000000
namespace Ev
open PySem PyProof.Rows
/-- what the check gives for an expression -/
structure Eok (F : Nat → List Sl → CR) (T : Tb) (Gt : Nat → (Ls → R Vw) → Ls → R Vw) (th : Option (Ls × (Ls → R Vw))) (adr : Nat → Addr) (fld : Nat → Str) (W : L2.WX) (X : L2.Cx) (x : Xp) (ex : Expr) : Prop where
  pe : L2.PE X ex (inj X.K (TEs ⟨X.K, W, adr, fld⟩ F T Gt th x))
  pt : tstX x = true → L2.PT X ex (TTs ⟨X.K, W, adr, fld⟩ F T Gt th x)
section
variable {cx : Ck} {F : Nat → List Sl → CR} {T : Tb} {Gt : Nat → (Ls → R Vw) → Ls → R Vw} {th : Option (Ls × (Ls → R Vw))} {adr : Nat → Addr} {fld : Nat → Str}
theorem Eok.plain {X : L2.Cx} {W : L2.WX} {x : Xp} {ex : Expr} (p : L2.PE X ex (TEs ⟨X.K, W, adr, fld⟩ F T Gt th x)) (h : ∀ whole, isTrue ex X.env whole = (do let v ← whole; standAt ex.pos; holding [v] (truthy v))) : Eok F T Gt th adr fld W X x ex :=
  ⟨pe_inj p, fun _ => pt_plain (pe_inj p) h⟩
theorem pes2 {X : L2.Cx} {W : L2.WX} {ea eb : Expr} {es : List Xp} (h : PEs F T Gt th adr fld W X [ea, eb] es) : ∃ a b, es = [a, b] ∧ L2.PE X ea (inj X.K (TEs ⟨X.K, W, adr, fld⟩ F T Gt th a)) ∧ L2.PE X eb (inj X.K (TEs ⟨X.K, W, adr, fld⟩ F T Gt th b)) := by
  cases h with
  | cons p h =>
    cases h with
    | cons q h => cases h; exact ⟨_, _, rfl, p, q⟩
theorem pes1 {X : L2.Cx} {W : L2.WX} {ea : Expr} {es : List Xp} (h : PEs F T Gt th adr fld W X [ea] es) : ∃ a, es = [a] ∧ L2.PE X ea (inj X.K (TEs ⟨X.K, W, adr, fld⟩ F T Gt th a)) := by
  cases h with
  | cons p h => cases h; exact ⟨_, rfl, p⟩
theorem te_andJ {P : Prm} {σ : L2.St} {H : Hp} {Q : V → Hp → Prop} {a b : Xp} (h : TEs P F T Gt th (.and a b) σ H Q) : L2.tAndT P.K (inj P.K (TEs P F T Gt th a)) (inj P.K (TEs P F T Gt th b)) σ H fun v H' => Inj P.K H' → Q v H' :=
  tes_imp (te_and h) fun v H1 z J1 => by
    obtain ⟨k, hk, z⟩ := z J1
    refine ⟨k, hk, ?_⟩
    cases k with
    | true => exact tes_imp z fun v H2 q _ _ => q
    | false => exact fun _ => z
theorem te_orJ {P : Prm} {σ : L2.St} {H : Hp} {Q : V → Hp → Prop} {a b : Xp} (h : TEs P F T Gt th (.or a b) σ H Q) : L2.tOrT P.K (inj P.K (TEs P F T Gt th a)) (inj P.K (TEs P F T Gt th b)) σ H fun v H' => Inj P.K H' → Q v H' :=
  tes_imp (te_or h) fun v H1 z J1 => by
    obtain ⟨k, hk, z⟩ := z J1
    refine ⟨k, hk, ?_⟩
    cases k with
    | false => exact tes_imp z fun v H2 q _ _ => q
    | true => exact fun _ => z
theorem te_iteJ {P : Prm} {σ : L2.St} {H : Hp} {Q : V → Hp → Prop} {c a b : Xp} (h : TEs P F T Gt th (.ite c a b) σ H Q) : L2.tIf (TTs P F T Gt th c) (inj P.K (TEs P F T Gt th a)) (inj P.K (TEs P F T Gt th b)) σ H fun v H' => Inj P.K H' → Q v H' :=
  imp_tt (te_ite h) fun k H1 z => by
    cases k with
    | true => exact tes_imp z fun v H2 q _ _ => q
    | false => exact tes_imp z fun v H2 q _ _ => q
variable (F T Gt th adr fld) in
inductive PPt (W : L2.WX) (X : L2.Cx) : List Expr → List Xp → Prop
  | nil : PPt W X [] []
  | cons {e es y xs} : L2.PE X e (inj X.K (TEs ⟨X.K, W, adr, fld⟩ F T Gt th y)) → PPt W X es xs → PPt W X (e :: es) (.p .asInt [y] :: xs)
theorem ppt_opt {X : L2.Cx} {W : L2.WX} {r : List Xp} {lo hi : Option Expr} (h : PPt F T Gt th adr fld W X (lo.toList ++ hi.toList) r) :
    ∃ l h : Option Xp, l.isSome = lo.isSome ∧ h.isSome = hi.isSome ∧ r = ptsOf l h ∧ (∀ e x, lo = some e → l = some x → L2.PE X e (inj X.K (TEs ⟨X.K, W, adr, fld⟩ F T Gt th x))) ∧ (∀ e x, hi = some e → h = some x → L2.PE X e (inj X.K (TEs ⟨X.K, W, adr, fld⟩ F T Gt th x))) := by
  cases lo with
  | none =>
    cases hi with
    | none =>
      cases h
      exact ⟨none, none, rfl, rfl, rfl, fun e x h => (by cases h), fun e x h => (by cases h)⟩
    | some b =>
      cases h with
      | cons p h =>
        cases h
        exact ⟨none, some _, rfl, rfl, rfl, fun e x h => (by cases h), fun e y h1 h2 => (by cases h1; cases h2; exact p)⟩
  | some a =>
    cases hi with
    | none =>
      cases h with
      | cons p h =>
        cases h
        exact ⟨some _, none, rfl, rfl, rfl, fun e y h1 h2 => (by cases h1; cases h2; exact p), fun e x h => (by cases h)⟩
    | some b =>
      cases h with
      | cons p h =>
        cases h with
        | cons q h =>
          cases h
          exact ⟨some _, some _, rfl, rfl, rfl, fun e y h1 h2 => (by cases h1; cases h2; exact p), fun e y h1 h2 => (by cases h1; cases h2; exact q)⟩
mutual
theorem ckE_ok : ∀ (x : Xp) {X : L2.Cx} {sc : Scope} {W : L2.WX} {ex : Expr}, Sx cx F adr fld X sc W → ckE cx sc x ex = true → Eok F T Gt th adr fld W X x ex
  | .c d, X, sc, W, ex, S, h => let q := e_c (T := T) (Gt := Gt) (th := th) S h; .plain q.1 q.2
  | .v i, X, sc, W, ex, S, h => let q := e_v (T := T) (Gt := Gt) (th := th) S h; .plain q.1 q.2
  | .sub a i, X, sc, W, ex, S, h => by
    rw [ckE.eq_def] at h
    dsimp only at h
    split at h
    · simp only [Bool.and_eq_true] at h
      obtain ⟨p1, p2⟩ := sl_ok h.1.1
      exact .plain (pe_subA (by have := S.hu; omega) (ckE_ok a S h.1.2).pe (ckE_ok i S h.2).pe p1 p2) fun _ => rfl
    · cases h
  | .p op es, X, sc, W, ex, S, h => by
    rw [ckE.eq_def] at h
    dsimp only at h
    split at h
    · simp only [Bool.and_eq_true] at h
      obtain ⟨a, b, rfl, pa, pb⟩ := pes2 (ckEs_ok es S h.2)
      exact .plain (pe_wr0 (L2.pe_op (opr_bin (T := T) h.1) pa pb) fun σ H Q q => te_p2 q) fun _ => rfl
    · simp only [Bool.and_eq_true, decide_eq_true_eq] at h
      obtain ⟨rfl, h2⟩ := h
      obtain ⟨a, rfl, pa⟩ := pes1 (ckEs_ok es S h2)
      exact .plain (pe_wr0 (L2.pe_un (p_neg (sup := (supT T))) pa) fun σ H Q q => te_p1 q) fun _ => rfl
    · simp only [Bool.and_eq_true, decide_eq_true_eq, Bool.not_eq_true'] at h
      obtain ⟨⟨rfl, h2⟩, h3⟩ := h
      obtain ⟨a, b, rfl, pa, pb⟩ := pes2 (ckEs_ok es S h3)
      exact ⟨pe_inj (pe_wr0 (L2.pe_cmpR (opr_cmp (T := T) S _) pa pb h2) fun σ H Q q => te_p2 q), fun _ => pt_cmp (opr_cmp (T := T) S _) pa pb h2⟩
    · split at h
      · simp only [Bool.and_eq_true, decide_eq_true_eq] at h
        obtain ⟨rfl, h2⟩ := h
        match es, h2 with
        | [], h2 => cases h2
        | x :: r, h2 =>
          simp only [Bool.and_eq_true] at h2
          exact .plain (e_slice (ckE_ok x S h2.1).pe (ppt_opt (ckPts_ok r S h2.2))) fun _ => rfl
      · simp only [Bool.and_eq_true, decide_eq_true_eq, Option.isNone_iff_eq_none] at h
        obtain ⟨⟨⟨rfl, rfl⟩, rfl⟩, h2⟩ := h
        obtain ⟨a, rfl, pa⟩ := pes1 (ckEs_ok es S h2)
        exact .plain (pe_revA pa) fun _ => rfl
      · cases h
    · rename_i f p args kws pos
      simp only [Bool.and_eq_true] at h
      obtain ⟨⟨⟨⟨h1, h2⟩, h3⟩, h4⟩, h5⟩ := h
      have hk : kws = [] := by simpa using h1
      subst hk
      split at h5
      · rename_i k
        simp only [Bool.and_eq_true, beq_iff_eq] at h5
        obtain ⟨hf, h6⟩ := h5
        match es, args, h6, h4 with
        | [x], [ea, .Name t p2], h6, h4 =>
          rw [Bool.and_eq_true] at h6
          obtain ⟨h6, h7⟩ := h6
          have px := (ckE_ok x S h6).pe
          by_cases hk : k < 90
          · rw [if_pos hk, Bool.and_eq_true] at h7
            exact .plain (e_isi S hf h2 h3 h7.1 h7.2 h4 px) fun _ => rfl
          · rw [if_neg hk, Bool.and_eq_true] at h7
            refine .plain (e_isx S hf h2 h3 (Nat.not_lt.mp hk) h7.1 ?_ h4 px) fun _ => rfl
            by_cases hk2 : 100 ≤ k
            · rw [if_pos hk2, Bool.and_eq_true, decide_eq_true_eq] at h7
              exact .inl ⟨hk2, h7.2.1, h7.2.2⟩
            · rw [if_neg hk2, Bool.and_eq_true] at h7
              exact .inr ⟨by omega, h7.2.1, h7.2.2⟩
      · simp only [Bool.and_eq_true, decide_eq_true_eq] at h5
        exact .plain (e_blt S h5.1.1 h2 h3 h4 (fun z => by rw [z] at h5; simp at h5) (ckEs_ok es S h5.2)) fun _ => rfl
    · rename_i o m ap args kws cp
      simp only [Bool.and_eq_true, decide_eq_true_eq] at h
      obtain ⟨⟨⟨⟨⟨h1, h2⟩, h3⟩, h4⟩, h5⟩, h6⟩ := h
      have hk : kws = [] := by simpa using h1
      subst hk
      match args, h5 with
      | [arg], _ =>
        match es, h6 with
        | .p op2 [x] :: r, h6 =>
          simp only [Bool.and_eq_true, Bool.or_eq_true, decide_eq_true_eq, beq_iff_eq] at h6
          obtain ⟨⟨⟨rfl, h7⟩, h8⟩, h9⟩ := h6
          obtain ⟨y, rfl, py⟩ := pes1 (ckEs_ok r S h9)
          have px := (ckE_ok x S h8).pe
          rcases h7 with ⟨rfl, rfl⟩ | ⟨rfl, rfl⟩
          · exact .plain (e_meth PySem.F.slot_str_join PySem.F.type_str_join (m_join (sup := (supT T))) rfl h2 h3 h4 px py) fun _ => rfl
          · exact .plain (e_meth PySem.F.slot_str_index PySem.F.type_str_index (m_index (sup := (supT T))) rfl h2 h3 h4 px py) fun _ => rfl
    · rename_i y p f pos
      match op, es, h with
      | .fldOf n, [.v i], h =>
        simp only [Bool.and_eq_true, decide_eq_true_eq] at h
        obtain ⟨⟨⟨⟨h1, h2⟩, h3⟩, rfl⟩, h5⟩ := h
        obtain ⟨d1, d2, _⟩ := plain_of h3
        have pv : L2.PE X (.Name y p) (inj X.K (TEs ⟨X.K, W, adr, fld⟩ F T Gt th (.v i))) := pe_inj (pe_wr (L2.pe_var (by rw [S.hN]; exact h1) (vis_of S h2) d1 d2) fun σ H Q J q => te_v J q)
        exact .plain (pe_wr0 (pe_fldX pv rfl) fun σ H Q q => te_p1 q) fun _ => rfl
    · cases h
  | .tup es, X, sc, W, ex, S, h => by
    rw [ckE.eq_def] at h
    dsimp only at h
    split at h
    · simp only [Bool.and_eq_true, decide_eq_true_eq] at h
      exact .plain (pe_wr (L2.pe_tup (pa_tos (ckEs_ok es S h.2) h.1.1)) fun σ H Q J q => te_tup h.1.2 J q) fun _ => rfl
    · cases h
  | .lst es, X, sc, W, ex, S, h => by
    rw [ckE.eq_def] at h
    dsimp only at h
    split at h
    · simp only [Bool.and_eq_true, decide_eq_true_eq] at h
      exact .plain (pe_wr (L2.pe_lst (pa_tos (ckEs_ok es S h.2) h.1.1)) fun σ H Q J q => te_lst h.1.2 J q) fun _ => rfl
    · cases h
  | .dct ks es, X, sc, W, ex, S, h => by
    rw [ckE.eq_def] at h
    dsimp only at h
    split at h
    · simp only [Bool.and_eq_true, decide_eq_true_eq] at h
      obtain ⟨⟨⟨⟨⟨h1, h2⟩, h3⟩, h4⟩, h5⟩, h6⟩ := h
      exact .plain (e_dct h1 h2 h3 h4 h6 (ckEs_ok es S h5)) fun _ => rfl
    · cases h
  | .and a b, X, sc, W, ex, S, h => by
    rw [ckE.eq_def] at h
    dsimp only at h
    split at h
    · rename_i ea eb r p
      simp only [Bool.and_eq_true] at h
      have A := ckE_ok a S h.1
      split at h
      · have B := ckE_ok b S h.2
        refine ⟨pe_inj (pe_wr (L2.pe_andT A.pe (L2.pe_one B.pe)) fun σ H Q J q => te_andJ q), fun ht => ?_⟩
        · simp only [tstX, Bool.and_eq_true] at ht
          exact pt_and (A.pt ht.1) (L2.pw_and1 (B.pt ht.2))
      · have B := ckE_ok b S h.2
        refine ⟨pe_inj (pe_wr (L2.pe_andT A.pe B.pe) fun σ H Q J q => te_andJ q), fun ht => ?_⟩
        · simp only [tstX, Bool.and_eq_true] at ht
          exact pt_and (A.pt ht.1) (pw_bool (B.pt ht.2))
    · cases h
  | .or a b, X, sc, W, ex, S, h => by
    rw [ckE.eq_def] at h
    dsimp only at h
    split at h
    · rename_i ea eb r p
      simp only [Bool.and_eq_true] at h
      have A := ckE_ok a S h.1
      split at h
      · have B := ckE_ok b S h.2
        refine ⟨pe_inj (pe_wr (L2.pe_orT A.pe (L2.pe_one B.pe)) fun σ H Q J q => te_orJ q), fun ht => ?_⟩
        · simp only [tstX, Bool.and_eq_true] at ht
          exact pt_or (A.pt ht.1) (L2.pw_or1 (B.pt ht.2))
      · have B := ckE_ok b S h.2
        refine ⟨pe_inj (pe_wr (L2.pe_orT A.pe B.pe) fun σ H Q J q => te_orJ q), fun ht => ?_⟩
        · simp only [tstX, Bool.and_eq_true] at ht
          exact pt_or (A.pt ht.1) (pw_bool (B.pt ht.2))
    · cases h
  | .not a, X, sc, W, ex, S, h => by
    rw [ckE.eq_def] at h
    dsimp only at h
    split at h
    · have A := ckE_ok a S h
      exact ⟨pe_inj (pe_wr0 (L2.pe_notT A.pe) fun σ H Q q => te_not q), fun ht => pt_notA (A.pt (by simpa only [tstX] using ht))⟩
    · cases h
  | .ite c a b, X, sc, W, ex, S, h => by
    rw [ckE.eq_def] at h
    dsimp only at h
    split at h
    · simp only [Bool.and_eq_true] at h
      obtain ⟨⟨⟨h1, h2⟩, h3⟩, h4⟩ := h
      exact ⟨pe_inj (pe_wr (L2.pe_ifExp ((ckE_ok c S h2).pt h1) (ckE_ok a S h3).pe (ckE_ok b S h4).pe) fun σ H Q J q => te_iteJ q), fun ht => by simp [tstX] at ht⟩
    · cases h
  | .chain o1 o2 a b c, X, sc, W, ex, S, h => by
    rw [ckE.eq_def] at h
    dsimp only at h
    split at h
    · simp only [Bool.and_eq_true, decide_eq_true_eq, Bool.not_eq_true'] at h
      rename_i ea p1 p2 eb ec pos
      obtain ⟨⟨⟨⟨⟨rfl, rfl⟩, h3⟩, h4⟩, h5⟩, h6⟩ := h
      have q := pt_chainA (pos := pos) (opr_cmp (T := T) S p1) (opr_cmp (T := T) S p2) (ckE_ok a S h4).pe (ckE_ok b S h5).pe (ckE_ok c S h6).pe h3
      exact ⟨pe_inj q.2, fun _ => q.1⟩
    · cases h
  | .call f es l, X, sc, W, ex, S, h => by
    rw [ckE.eq_def] at h
    dsimp only at h
    split at h
    · rename_i x p args kws pos
      simp only [Bool.and_eq_true] at h
      obtain ⟨⟨⟨⟨h1, h2⟩, h3⟩, h4⟩, h5⟩ := h
      have hk : kws = [] := by simpa using h1
      subst hk
      split at h5
      · rename_i i ps dfl chg told hl
        simp only [Bool.and_eq_true, decide_eq_true_eq, Bool.not_eq_true'] at h5
        obtain ⟨⟨⟨⟨⟨⟨⟨h6, rfl⟩, h7⟩, h8⟩, h9⟩, h10⟩, h11⟩, h12⟩ := h5
        exact .plain (e_call S h2 h3 h4 hl h6 h7 h9 h10 h11 (ckA_ok es l S h12 h4)) fun _ => rfl
      · cases h5
    · cases h
  | .comp own t it cs el, X, sc, W, ex, S, h => by
    rw [ckE.eq_def] at h
    dsimp only at h
    split at h
    · simp only [Bool.and_eq_true, decide_eq_true_eq] at h
      obtain ⟨⟨⟨⟨⟨⟨⟨h1, h2⟩, h3⟩, h4⟩, h5⟩, h6⟩, h7⟩, h8⟩ := h
      exact .plain (e_comp S h1 h2 h3 h4 (ckI_ok it S h5) h6 (fun X' S' hK => ckCs_ok cs S' h7 h6) fun X' S' hK => (ckE_ok el S' h8).pe) fun _ => rfl
    · cases h
  | .meth m a es, X, sc, W, ex, S, h => by
    rw [ckE.eq_def] at h
    dsimp only at h
    split at h
    · rename_i o mm ap args kws cp
      simp only [Bool.and_eq_true, decide_eq_true_eq, beq_iff_eq] at h
      obtain ⟨⟨⟨⟨⟨⟨⟨⟨h1, h2⟩, h3⟩, h4⟩, rfl⟩, rfl⟩, h7⟩, h8⟩, h9⟩ := h
      have hk : kws = [] := by simpa using h1
      subst hk
      match args, h7 with
      | [arg], _ =>
        obtain ⟨x, rfl, px⟩ := pes1 (ckEs_ok es S h9)
        exact .plain (e_append h2 (by simpa using h3) h4 (ckE_ok a S h8).pe px) fun _ => rfl
    · cases h
  | .comp2 .., X, sc, W, ex, S, h => by rw [ckE.eq_def] at h; cases h
  | .mk c es, X, sc, W, ex, S, h => by
    rw [ckE.eq_def] at h
    dsimp only at h
    split at h
    · rename_i x p args kws pos
      simp only [Bool.and_eq_true, decide_eq_true_eq] at h
      obtain ⟨⟨⟨⟨h1, h2⟩, h3⟩, h4⟩, h5⟩ := h
      split at h5
      · simp only [Bool.and_eq_true, Bool.or_eq_true, decide_eq_true_eq] at h5
        obtain ⟨⟨⟨h6, h7⟩, h8⟩, h9⟩ := h5
        have ps := ckEs_ok es S h9
        refine .plain (e_mk S h1 h2 h3 h4 ?_) fun _ => rfl
        match args, es, ps, h6, h7, h8 with
        | [], [], _, _, _, h8 => exact .inl ⟨rfl, rfl, rfl, h8.resolve_left fun z => z rfl⟩
        | [e], [y], .cons p _, h6, _, _ => exact .inr (.inl ⟨e, y, rfl, rfl, rfl, h6, p⟩)
        | _ :: _ :: _, _, _, _, h7, _ => simp at h7
      · split at h5
        · rename_i k e kp
          simp only [Bool.and_eq_true, decide_eq_true_eq, List.isEmpty_iff] at h5
          obtain ⟨⟨rfl, rfl⟩, h9⟩ := h5
          obtain ⟨y, rfl, py⟩ := pes1 (ckEs_ok es S h9)
          exact .plain (e_mk S h1 h2 h3 h4 (.inr (.inr ⟨e, y, kp, rfl, rfl, rfl, py⟩))) fun _ => rfl
        · cases h5
      · cases h5
    · cases h
  | .told .., X, sc, W, ex, S, h => by rw [ckE.eq_def] at h; cases h
  | .thunk, X, sc, W, ex, S, h => by rw [ckE.eq_def] at h; cases h
  | .ofIt .., X, sc, W, ex, S, h => by rw [ckE.eq_def] at h; cases h
theorem ckEs_ok : ∀ (xs : List Xp) {X : L2.Cx} {sc : Scope} {W : L2.WX} {es : List Expr}, Sx cx F adr fld X sc W → ckEs cx sc xs es = true → PEs F T Gt th adr fld W X es xs
  | [], X, sc, W, [], S, h => .nil
  | x :: xs, X, sc, W, e :: es, S, h => by
    simp only [ckEs, Bool.and_eq_true] at h
    exact .cons (ckE_ok x S h.1).pe (ckEs_ok xs S h.2)
  | [], X, sc, W, _ :: _, S, h => by simp [ckEs] at h
  | _ :: _, X, sc, W, [], S, h => by simp [ckEs] at h
theorem ckPt_ok : ∀ (x : Xp) {X : L2.Cx} {sc : Scope} {W : L2.WX} {e : Expr}, Sx cx F adr fld X sc W → ckPt cx sc x e = true → ∃ y, x = .p .asInt [y] ∧ L2.PE X e (inj X.K (TEs ⟨X.K, W, adr, fld⟩ F T Gt th y))
  | .p op es, X, sc, W, e, S, h => by
    rw [ckPt.eq_def] at h
    dsimp only at h
    match es, h with
    | [y], h1 =>
      simp only [Bool.and_eq_true, decide_eq_true_eq] at h1
      obtain ⟨rfl, h2⟩ := h1
      exact ⟨y, rfl, (ckE_ok y S h2).pe⟩
  | .c _, X, sc, W, e, S, h => by rw [ckPt.eq_def] at h; cases h
  | .v _, X, sc, W, e, S, h => by rw [ckPt.eq_def] at h; cases h
  | .sub .., X, sc, W, e, S, h => by rw [ckPt.eq_def] at h; cases h
  | .tup _, X, sc, W, e, S, h => by rw [ckPt.eq_def] at h; cases h
  | .lst _, X, sc, W, e, S, h => by rw [ckPt.eq_def] at h; cases h
  | .dct .., X, sc, W, e, S, h => by rw [ckPt.eq_def] at h; cases h
  | .and .., X, sc, W, e, S, h => by rw [ckPt.eq_def] at h; cases h
  | .or .., X, sc, W, e, S, h => by rw [ckPt.eq_def] at h; cases h
  | .not _, X, sc, W, e, S, h => by rw [ckPt.eq_def] at h; cases h
  | .ite .., X, sc, W, e, S, h => by rw [ckPt.eq_def] at h; cases h
  | .chain .., X, sc, W, e, S, h => by rw [ckPt.eq_def] at h; cases h
  | .call .., X, sc, W, e, S, h => by rw [ckPt.eq_def] at h; cases h
  | .comp .., X, sc, W, e, S, h => by rw [ckPt.eq_def] at h; cases h
  | .comp2 .., X, sc, W, e, S, h => by rw [ckPt.eq_def] at h; cases h
  | .meth .., X, sc, W, e, S, h => by rw [ckPt.eq_def] at h; cases h
  | .mk .., X, sc, W, e, S, h => by rw [ckPt.eq_def] at h; cases h
  | .told .., X, sc, W, e, S, h => by rw [ckPt.eq_def] at h; cases h
  | .thunk, X, sc, W, e, S, h => by rw [ckPt.eq_def] at h; cases h
  | .ofIt .., X, sc, W, e, S, h => by rw [ckPt.eq_def] at h; cases h
theorem ckPts_ok : ∀ (r : List Xp) {X : L2.Cx} {sc : Scope} {W : L2.WX} {es : List Expr}, Sx cx F adr fld X sc W → ckPts cx sc r es = true → PPt F T Gt th adr fld W X es r
  | [], X, sc, W, [], S, h => .nil
  | x :: xs, X, sc, W, e :: es, S, h => by
    simp only [ckPts, Bool.and_eq_true] at h
    obtain ⟨y, rfl, p⟩ := ckPt_ok x S h.1
    exact .cons p (ckPts_ok xs S h.2)
  | [], X, sc, W, _ :: _, S, h => by simp [ckPts] at h
  | _ :: _, X, sc, W, [], S, h => by simp [ckPts] at h
theorem ckA_ok : ∀ (xs : List Xp) (l : List (Option Nat)) {X : L2.Cx} {sc : Scope} {W : L2.WX} {es : List Expr}, Sx cx F adr fld X sc W → ckA cx sc xs l es = true → noStar es = true → L2.PA X es (tArgs X.K (TEs ⟨X.K, W, adr, fld⟩ F T Gt th) xs l)
  | [], [], X, sc, W, [], S, h, hs => by simp only [tArgs]; exact L2.pa_nil
  | x :: xs, none :: l, X, sc, W, e :: es, S, h, hs => by
    obtain ⟨s1, s2⟩ := star_cons (env := X.env) hs
    simp only [ckA, Bool.and_eq_true] at h
    simp only [tArgs]
    exact L2.pa_cons (ckE_ok x S h.1).pe (ckA_ok xs l S h.2 s2) s1
  | x :: xs, some i :: l, X, sc, W, e :: es, S, h, hs => by
    obtain ⟨s1, s2⟩ := star_cons (env := X.env) hs
    cases e <;> simp only [ckA, Bool.false_eq_true, reduceCtorEq] at h
    simp only [Bool.and_eq_true, decide_eq_true_eq] at h
    obtain ⟨⟨⟨h1, h2⟩, h3⟩, h4⟩ := h
    obtain ⟨d1, d2, _⟩ := plain_of h3
    simp only [tArgs]
    exact L2.pa_cons (L2.pe_var (by rw [S.hN]; exact h1) (vis_of S h2) d1 d2) (ckA_ok xs l S h4 s2) s1
  | [], [], X, sc, W, _ :: _, S, h, hs => by simp [ckA] at h
  | [], _ :: _, X, sc, W, es, S, h, hs => by simp [ckA] at h
  | _ :: _, [], X, sc, W, es, S, h, hs => by simp [ckA] at h
  | _ :: _, none :: _, X, sc, W, [], S, h, hs => by simp [ckA] at h
  | _ :: _, some _ :: _, X, sc, W, [], S, h, hs => by simp [ckA] at h
theorem ckCs_ok : ∀ (cs : List Xp) {X : L2.Cx} {sc : Scope} {W : L2.WX} {es : List Expr}, Sx cx F adr fld X sc W → ckCs cx sc cs es = true → cs.length ≤ 1 → PTs' ⟨X.K, W, adr, fld⟩ F T Gt th X cs es
  | [], X, sc, W, [], S, h, hl => .nil
  | [c], X, sc, W, [e], S, h, hl => by
    simp only [ckCs, Bool.and_eq_true] at h
    exact .one ((ckE_ok c S h.1.2).pt h.1.1)
  | [], X, sc, W, _ :: _, S, h, hl => by simp [ckCs] at h
  | _ :: _, X, sc, W, [], S, h, hl => by simp [ckCs] at h
  | [_], X, sc, W, _ :: _ :: _, S, h, hl => by simp [ckCs] at h
  | _ :: _ :: _, X, sc, W, _, S, h, hl => by simp at hl
theorem ckI_ok : ∀ (it : It) {X : L2.Cx} {sc : Scope} {W : L2.WX} {tg ex : Expr}, Sx cx F adr fld X sc W → ckI cx sc it tg ex = true → L2.PI X tg ex (TIs ⟨X.K, W, adr, fld⟩ F T Gt th it)
  | .seq a, X, sc, W, tg, ex, S, h => by
    simp only [ckI] at h
    exact pi_seqA (ckE_ok a S h).pe
  | .range es, X, sc, W, tg, ex, S, h => by
    simp only [ckI] at h
    split at h
    · rename_i f p args kws pos
      simp only [Bool.and_eq_true, Bool.or_eq_true, decide_eq_true_eq, beq_iff_eq] at h
      obtain ⟨⟨⟨⟨⟨h1, rfl⟩, h3⟩, h4⟩, h5⟩, h6⟩ := h
      have hk : kws = [] := by simpa using h1
      subst hk
      obtain ⟨g1, g2⟩ := free_of S h3
      have ps := ckEs_ok es S h6
      obtain hl | hl := h5
      · match args, hl with
        | [ea], _ =>
          obtain ⟨a, rfl, pa⟩ := pes1 ps
          exact pi_rng1 g1 g2 (pa_tps ps h4) (star_cons h4).1
      · match args, hl with
        | [ea, eb], _ =>
          obtain ⟨a, b, rfl, pa, pb⟩ := pes2 ps
          have s1 := star_cons (env := X.env) h4
          have s2 := star_cons (env := X.env) s1.2
          exact pi_rng2 g1 g2 (pa_tps ps h4) (by rw [s1.1, s2.1]; rfl) (by rw [s2.1]; rfl)
    · cases h
  | .enum a, X, sc, W, tg, ex, S, h => by
    simp only [ckI] at h
    split at h
    · rename_i kws _
      simp only [Bool.and_eq_true, beq_iff_eq] at h
      obtain ⟨⟨⟨⟨h1, rfl⟩, h3⟩, h4⟩, h5⟩ := h
      have hk : kws = [] := by simpa using h1
      subst hk
      obtain ⟨g1, g2⟩ := free_of S h3
      exact pi_enumA g1 g2 (ckE_ok a S h5).pe (star_cons h4).1
    · cases h
  | .zip a b, X, sc, W, tg, ex, S, h => by
    simp only [ckI] at h
    split at h
    · rename_i kws _
      simp only [Bool.and_eq_true, beq_iff_eq] at h
      obtain ⟨⟨⟨⟨⟨h1, rfl⟩, h3⟩, h4⟩, h5⟩, h6⟩ := h
      have hk : kws = [] := by simpa using h1
      subst hk
      obtain ⟨g1, g2⟩ := free_of S h3
      have s1 := star_cons (env := X.env) h4
      have s2 := star_cons (env := X.env) s1.2
      exact pi_zipA2 g1 g2 (ckE_ok a S h5).pe (ckE_ok b S h6).pe s1.1 s2.1 (star_any s1.2)
    · cases h
end
end
end Ev
end
section
set_option linter.all false
set_option maxHeartbeats 4000000
namespace Ev
open PySem PyProof.Rows
/-! statements -/
def swapB (sc : Scope) (ts vs : List Expr) : Option (Option (List Str)) :=
  if !(ts.length == 2 || ts.length == 3) || vs.length != ts.length then some none
  else if vs.any (fun | .Starred .. => true | _ => false) then some none
  else
    let line := (ts.head?.map (·.pos.line)).getD 0
    let names := ts.filterMap fun
      | .Name id pos => if sc.names.lookup id == some .local && pos.line == line then some id else none
      | _ => none
    if names.length != ts.length || names.eraseDups.length != names.length then some none
    else if vs.all (foldedForSure 8) then some none
    else if vs.all (constantsAlone 8) then none
    else some (some names)
theorem swapB_ok {sc : Scope} {env : Env} {ts vs : List Expr} {k1 k2 : Nat} {p1 p2 : Pos} {r : Option (List Str)} (hs : env.scope = sc) (hk : sc.kind = .function) (h : swapB sc ts vs = some r) : swappedStores [.Tuple ts k1 p1] (.Tuple vs k2 p2) env = pure r := by
  have hb : env.blockKind = .function := by unfold Env.blockKind; rw [hs, hk]; rfl
  subst hs
  unfold swapB at h
  unfold swappedStores
  simp only [hb]
  dsimp only at h
  split at h
  · rename_i h1
    cases h
    simp only [bne_self_eq_false, Bool.or_false, h1, if_true]
  · rename_i h1
    simp only [bne_self_eq_false, Bool.or_false, h1]
    refine (if_neg Bool.false_ne_true).trans ?_
    split at h
    · rename_i h2
      cases h
      exact if_pos h2
    · rename_i h2
      refine (if_neg h2).trans ?_
      split at h
      · rename_i h3
        cases h
        exact if_pos h3
      · rename_i h3
        refine (if_neg h3).trans ?_
        split at h
        · rename_i h4
          cases h
          exact if_pos h4
        · rename_i h4
          refine (if_neg h4).trans ?_
          split at h
          · cases h
          · rename_i h5
            cases h
            exact (if_neg h5).trans rfl
end Ev
namespace Ev
open PySem PyProof.Rows
def notComp : Expr → Bool
  | .ListComp .. => false | .SetComp .. => false | .DictComp .. => false
  | _ => true
def fnSc (sc : Scope) : Bool := match sc.kind with | .function => true | _ => false
def isLocal (sc : Scope) (x : Str) : Bool := decide (sc.names.lookup x = some .local)
/-- name = [..]: stored within -/
def swapC (sc : Scope) (y : Str) (py cpos : Pos) (scope : Scope) : Bool := isLocal sc y && (py.line == cpos.line) && !(scope.names.any fun p => p.1 == y && (p.2 == .local || p.2 == .cell))
def isTupX : Xp → Bool
  | .tup _ => true
  | _ => false
def augOk : Operator → Pr → Bool
  | .Add, .add => true | .Sub, .sub => true | _, _ => false
def parB (sc : Scope) (ts : List Tg) (tgs vs : List Expr) : Bool := match swapB sc tgs vs with
  | some none => true
  | some (some [a, b]) => (match ts, tgs, vs with
    | [.v i _, .v j _], [.Name x1 _, .Name y1 _], [_, _] => decide (i ≠ j) && decide (a = x1) && decide (b = y1) && isLocal sc x1 && isLocal sc y1
    | _, _, _ => false)
  | some (some [a, b, c]) => (match ts, tgs, vs with
    | [.v i _, .v j _, .v l _], [.Name x1 _, .Name y1 _, .Name z1 _], [_, _, _] => decide (i ≠ j) && decide (i ≠ l) && decide (j ≠ l) && decide (a = x1) && decide (b = y1) && decide (c = z1) && isLocal sc x1 && isLocal sc y1 && isLocal sc z1
    | _, _, _ => false)
  | _ => false
mutual
def ckS (cx : Ck) (sc : Scope) : Sm → Stmt → Bool
  | .set t x, st => (match st with
    | .Assign [tg] e _ => (match e with
      | .Tuple vs _ _ => (match t, x, tg with
        | .tup ts, .tup es, .Tuple tgs _ _ => noStar vs && ckEs cx sc es vs && decide (es.length ≤ 1000) && ckTg cx sc (fun _ => true) t tg && fnSc sc && parB sc ts tgs vs
        | .v _ _, _, .Name _ _ => ckE cx sc x e && ckTg cx sc (fun _ => true) t tg
        | _, _, _ => false)
      | .ListComp _ _ scope cpos => (match t, tg with
        | .v _ _, .Name y py => fnSc sc && ckE cx sc x e && ckTg cx sc (fun _ => true) t tg && (if swapC sc y py cpos scope then !isTupX x else true)
        | _, _ => false)
      | _ => notComp e && !isTupX x && ckE cx sc x e && ckTg cx sc (fun _ => true) t tg)
    | _ => false)
  | .setSub a i x, st => (match st with
    | .Assign [.Subscript o ix _] e _ => notSl ix && ckE cx sc a o && ckE cx sc i ix && ckE cx sc x e
    | _ => false)
  | .aug op i x, st => (match st with
    | .AugAssign (.Name y _) o e _ => decide (cx.N[i]? = some y) && (isLocal sc y || decide (sc.names.lookup y = some .cell)) && augOk o op && ckE cx sc x e
    | _ => false)
  | .ex x, st => (match st with
    | .Expr e _ => notComp e && ckE cx sc x e
    | _ => false)
  | .ite c a b, st => (match st with
    | .If ec sa sb _ => tstX c && ckE cx sc c ec && ckSs cx sc a sa && ckSs cx sc b sb
    | _ => false)
  | .for t it b, st => (match st with
    | .For tg iter body els _ => els.isEmpty && notSet iter && ckTg cx sc (fun _ => true) t tg && ckI cx sc it tg iter && ckSs cx sc b body
    | _ => false)
  | .whl c b, st => (match st with
    | .While ec body els _ => els.isEmpty && tstX c && ckE cx sc c ec && ckSs cx sc b body
    | _ => false)
  | .ret x, st => (match st with
    | .Return (some e) _ => (match x, e with
      | .tup es, .Tuple vs _ _ => noStar vs && decide (es.length ≤ 1000) && ckEs cx sc es vs
      | _, _ => !isTupX x && ckE cx sc x e)
    | _ => false)
  | .retN, st => (match st with
    | .Return none _ => true
    | _ => false)
  | .raise c es, st => (match st with
    | .Raise (some (.Call (.Name n _) args kws _)) none _ => kws.isEmpty && globN sc n && plainN n && noStar args && decide (args.length = 1) && (match cx.gl.lookup n with
      | some (.cls c') => decide (c = c')
      | _ => false) && ckEs cx sc es args
    | _ => false)
  | .pass, st => (match st with
    | .Pass _ => true
    | .Expr (.Constant (.str _) _ _) _ => true
    | _ => false)
  | .brk, st => (match st with
    | .Break _ => true
    | _ => false)
  | .cont, st => (match st with
    | .Continue _ => true
    | _ => false)
  | _, _ => false
def ckSs (cx : Ck) (sc : Scope) : List Sm → List Stmt → Bool
  | [], [] => true
  | s :: ss, st :: sts => ckS cx sc s st && ckSs cx sc ss sts
  | _, _ => false
end
end Ev
end
section
set_option linter.all false
set_option maxHeartbeats 4000000
namespace Ev
open PySem PyProof.Rows
/-- C(e): the exception, its field -/
def tMk (C : Addr) (f : Str) (t : L2.TE) : L2.St → L2.Hp → L2.XK → Prop := fun σ H Q => t σ H fun v H1 => ∀ d, H1 d = none → Q (.ref C) (some d) (L2.upd H1 d (.xd [(f, v)]))
structure Sy (cx : Ck) (F : Nat → List Sl → CR) (adr : Nat → Addr) (fld : Nat → Str) (X : L2.Cx) (sc : Scope) (W : L2.WX) : Prop extends Sx cx F adr fld X sc W where
  fnT : ∀ x, X.fn x = true
  po : PassesOwn (model X.prog X.w) X.A X.env X.xe
  tk : L2.Takes X W
  exc : ∀ (pn : List (Addr × Obj)) (xe : Value → Shared → Prop) n c, cx.gl.lookup n = some (.cls c) → ∀ {e : Expr} {p pos : Pos} {t : L2.TE}, L2.PE (X.tr pn xe) e t → noStar [e] = true → L2.Gl X n → plainN n = true → L2.PMk (X.tr pn xe) (.Call (.Name n p) [e] [] pos) (tMk (adr c) (fld c) t)
section
variable {P : Prm} {F : Nat → List Sl → CR} {T : Tb} {Gt : Nat → (Ls → R Vw) → Ls → R Vw} {th : Option (Ls × (Ls → R Vw))} {ls : List Nat} {fuel : Nat} {σ : L2.St} {H : Hp} {D : L2.Ends}
def injD (K : PySem.W.Frag) (D : L2.Ends) : L2.Ends := { nx := fun σ H => Inj K H → D.nx σ H, rt := fun v H => Inj K H → D.rt v H, bk := fun σ H => Inj K H → D.bk σ H, ct := fun σ H => Inj K H → D.ct σ H }
theorem sp_inj {X : L2.Cx} {pins : List (Addr × Obj)} {f : Flow} {s : Shared} (h : L2.SP X pins (injD X.K D) f s) : L2.SP X pins D f s := by
  cases f with
  | next => obtain ⟨σ, H, I, q⟩ := h; exact ⟨σ, H, I, q (Inj.of I)⟩
  | brk => obtain ⟨σ, H, I, q⟩ := h; exact ⟨σ, H, I, q (Inj.of I)⟩
  | cont => obtain ⟨σ, H, I, q⟩ := h; exact ⟨σ, H, I, q (Inj.of I)⟩
  | ret u => obtain ⟨v, σ, H, I, r, q⟩ := h; exact ⟨v, σ, H, I, r, q (Inj.of I)⟩
theorem ps_wr {X : L2.Cx} {st : Stmt} {t u : L2.TS} (p : L2.PS X st t) (h : ∀ D σ H, Inj X.K H → u D σ H → t (injD X.K D) σ H) : L2.PS X st u :=
  ⟨fun pins s σ H D I hu => L2.thn (p.run pins s σ H (injD X.K D) I (h D σ H (Inj.of I) hu)) fun _ _ z => sp_inj z⟩
theorem pss_wr {X : L2.Cx} {st : List Stmt} {t u : L2.TS} (p : L2.PSs X st t) (h : ∀ D σ H, Inj X.K H → u D σ H → t (injD X.K D) σ H) : L2.PSs X st u :=
  ⟨fun pins s σ H D I hu => L2.thn (p.run pins s σ H (injD X.K D) I (h D σ H (Inj.of I) hu)) fun _ _ z => sp_inj z⟩
theorem ts1_ends {s : Sm} {D' : L2.Ends} (h : TS1 P F T Gt th ls fuel s D σ H) (h1 : ∀ σ H, D.nx σ H → D'.nx σ H) (h2 : ∀ v H, D.rt v H → D'.rt v H) (h3 : ∀ σ H, D.bk σ H → D'.bk σ H) (h4 : ∀ σ H, D.ct σ H → D'.ct σ H) : TS1 P F T Gt th ls fuel s D' σ H := by
  obtain ⟨e, G, fp, S, h⟩ := h
  exact ⟨e, G, fp, S, h.ends h1 h2 h3 h4⟩
theorem tss_ends {s : List Sm} {D' : L2.Ends} (h : TSs P F T Gt th ls fuel s D σ H) (h1 : ∀ σ H, D.nx σ H → D'.nx σ H) (h2 : ∀ v H, D.rt v H → D'.rt v H) (h3 : ∀ σ H, D.bk σ H → D'.bk σ H) (h4 : ∀ σ H, D.ct σ H → D'.ct σ H) : TSs P F T Gt th ls fuel s D' σ H := by
  obtain ⟨e, G, fp, S, h⟩ := h
  exact ⟨e, G, fp, S, h.ends h1 h2 h3 h4⟩
theorem ts1_injD {s : Sm} (h : TS1 P F T Gt th ls fuel s D σ H) : TS1 P F T Gt th ls fuel s (injD P.K D) σ H := ts1_ends h (fun _ _ q _ => q) (fun _ _ q _ => q) (fun _ _ q _ => q) (fun _ _ q _ => q)
theorem tss_injD {s : List Sm} (h : TSs P F T Gt th ls fuel s D σ H) : TSs P F T Gt th ls fuel s (injD P.K D) σ H := tss_ends h (fun _ _ q _ => q) (fun _ _ q _ => q) (fun _ _ q _ => q) (fun _ _ q _ => q)
/-- raise C(e) -/
theorem ts_raise {c : Nat} {x : Xp} (h : TS1 P F T Gt th ls fuel (.raise c [x]) D σ H) : tMk (P.adr c) (P.fld c) (inj P.K (TEs P F T Gt th x)) σ H fun cls d H' => P.W cls d σ H' := by
  obtain ⟨e, G, fp, S, h⟩ := h
  simp only [exec] at h
  have q : TPs P F T Gt th true [x] σ H fun vs H1 => ∃ v, vs = [v] ∧ ∀ d, H1 d = none → P.W (.ref (P.adr c)) (some d) σ (L2.upd H1 d (.xd [(P.fld c, v)])) := by
    refine ⟨e, G, fp, S, AftS.first h (fun i hi => by simpa only [Sm.sets] using hi) fun ds e1 G1 H1 fp1 vs hr F1 K1 S1 J1 o => ?_⟩
    rw [hr, toQ_ok] at h
    unfold OkL at o
    rw [if_pos rfl] at o
    have hl := evP_len hr
    match ds, hl with
    | [d], _ =>
      obtain ⟨v, ws, rfl, r, r2⟩ := reps0 o
      cases r2
      refine ⟨v, rfl, fun dx hd => ?_⟩
      have ext := upd_ext (o := .xd [(P.fld c, v)]) hd
      obtain ⟨S2, F2, K2⟩ := S1.ext ext
      exact h σ G1 _ fp1 dx v (F1.trans S F2) ((KeepH.trans S F1 K1.h F2 K2.h).mono fun i hi => by
        simp only [Sm.sets]; simpa using hi) .refl L2.upd_same (r.ext ext) S2.gs
  have q2 := tps_cons q
  refine tes_imp q2 fun v H1 z J1 d hd => ?_
  obtain ⟨v', e1, z⟩ := tps_nil J1 (z J1)
  cases e1
  exact z d hd
end
end Ev
end
section
set_option linter.all false
set_option maxHeartbeats 4000000
namespace Ev
open PySem PyProof.Rows
section
variable {cx : Ck} {F : Nat → List Sl → CR} {T : Tb} {Gt : Nat → (Ls → R Vw) → Ls → R Vw} {th : Option (Ls × (Ls → R Vw))} {adr : Nat → Addr} {fld : Nat → Str} {ls : List Nat} {fuel : Nat}
variable {X : L2.Cx} {sc : Scope} {W : L2.WX}
theorem swN {e : Expr} {t : Option Expr} {l : Nat} {env : Env} (h : notComp e = true) : swapsWith e t l env = pure false := by
  cases e <;> first | rfl | cases h
theorem pa_trs : ∀ {es : List Expr} {xs : List Xp}, PEs F T Gt th adr fld W X es xs → noStar es = true → L2.PA X es (injA X.K (TRs ⟨X.K, W, adr, fld⟩ F T Gt th ls xs))
  | [], [], .nil, _ => pa_inj (pa_wr L2.pa_nil fun σ H Q J h => fun _ => trs_nil J h)
  | e :: es, x :: xs, .cons p ps, hs => by
    obtain ⟨h1, h2⟩ := star_cons (env := X.env) hs
    refine pa_inj (pa_wr (L2.pa_cons (pe_inj (tr1_of (ls := ls) (Q := fun _ _ => True) p)) (pa_trs ps h2) h1) fun σ H Q J h => ?_)
    obtain ⟨e, G, fp, S, q⟩ := trs_cons h
    refine ⟨e, G, fp, S, q.imp fun v H1 q J1 => ?_⟩
    obtain ⟨e, G, fp, S, q⟩ := q J1
    exact ⟨e, G, fp, S, q.imp fun vs H2 q2 J2 _ => q2⟩
theorem s_set (S : Sy cx F adr fld X sc W) {t : Tg} {x : Xp} {tg e : Expr} {pos : Pos} (hn : ∀ ts es, t = .tup ts → x ≠ .tup es) (p : L2.PE X e (inj X.K (TEs ⟨X.K, W, adr, fld⟩ F T Gt th x))) (ht : ckTg cx sc (fun _ => true) t tg = true) (hs : swapsWithSole [tg] e pos.line X.env = pure false)
    (hw : swappedStores [tg] e X.env = pure none) : L2.PS X (.Assign [tg] e pos) (TS1 ⟨X.K, W, adr, fld⟩ F T Gt th ls fuel (.set t x)) := by
  have g := ckTg_ok S.hN S.nd S.sc S.calm (fun x _ => S.fnT x) t ht
  have h1 : (assignEach [tg] X.env).map (·.2) = [assign tg X.env] := by
    cases t with
    | v i n => rw [ckTg.eq_def] at ht; dsimp only at ht; split at ht <;> first | rfl | cases ht
    | tup ts => rw [ckTg.eq_def] at ht; dsimp only at ht; split at ht <;> first | rfl | cases ht
  exact ps_wr (L2.ps_asg p g hs hw h1) fun D σ H J q => ts_set hn J q
theorem s_sub (S : Sy cx F adr fld X sc W) {a i x : Xp} {o ix e : Expr} {p2 pos : Pos} (hs : notSl ix = true) (pa : L2.PE X o (inj X.K (TEs ⟨X.K, W, adr, fld⟩ F T Gt th a))) (pi : L2.PE X ix (inj X.K (TEs ⟨X.K, W, adr, fld⟩ F T Gt th i))) (px : L2.PE X e (inj X.K (TEs ⟨X.K, W, adr, fld⟩ F T Gt th x))) :
    L2.PS X (.Assign [.Subscript o ix p2] e pos) (TS1 ⟨X.K, W, adr, fld⟩ F T Gt th ls fuel (.setSub a i x)) := by
  have ha : ∀ v, assign (.Subscript o ix p2) X.env v = (do
      let ov ← holding [v] (eval o X.env)
      let iv ← holding [v, ov] (eval ix X.env)
      standAt p2
      holding [v, ov, iv] (setItem ov iv v)
      release [v, ov, iv] []) := by intro v; cases ix <;> first | rfl | cases hs
  refine ⟨fun pins s σ H D I q => ?_⟩
  exact (L2.ps_asg px (L2.pg_sub pa pi (set_all (by have := S.hu; omega)) ha) (by cases e <;> rfl) (by cases e <;> rfl) rfl).run pins s σ H D I (ts_setSub q)
theorem s_aug (S : Sy cx F adr fld X sc W) {op : Pr} {i : Nat} {x : Xp} {y : Str} {o : Operator} {e : Expr} {p2 pos : Pos} (hy : cx.N[i]? = some y) (hl : isLocal sc y = true ∨ sc.names.lookup y = some .cell) (ho : augOk o op = true) (px : L2.PE X e (inj X.K (TEs ⟨X.K, W, adr, fld⟩ F T Gt th x))) :
    L2.PS X (.AugAssign (.Name y p2) o e pos) (TS1 ⟨X.K, W, adr, fld⟩ F T Gt th ls fuel (.aug op i x)) := by
  have lc : L2.Loc X.env.scope y := by
    rw [S.sc]
    rcases hl with z | z
    · exact .inl (of_decide_eq_true z)
    · exact .inr z
  have ip : L2.PIp X o (ipA op) := by
    cases o <;> cases op <;> first | cases ho | skip
    · exact ip_addA
    · exact ip_subA
  exact ps_wr (L2.ps_aug S.nd (by rw [S.hN]; exact hy) lc px ip (.inl (S.fnT y))) fun D σ H J q => ts_aug q J
theorem ps_dbl {st : Stmt} {t : L2.TS} (p : L2.PS X st t) : L2.PS X st fun D => t (injD X.K D) := ps_wr p fun D σ H J q => q
theorem s_setLc (S : Sy cx F adr fld X sc W) {i n : Nat} {x : Xp} {y : Str} {py cpos pos : Pos} {elt : Expr} {gs : List Comprehension} {scope : Scope} (hsw : swapC sc y py cpos scope = true) (hk : fnSc sc = true) (hc : ckE cx sc x (.ListComp elt gs scope cpos) = true) (ht : ckTg cx sc (fun _ => true) (.v i n) (.Name y py) = true) :
    L2.PS X (.Assign [.Name y py] (.ListComp elt gs scope cpos) pos) (TS1 ⟨X.K, W, adr, fld⟩ F T Gt th ls fuel (.set (.v i n) x)) := by
  simp only [swapC, Bool.and_eq_true, Bool.not_eq_true', isLocal, decide_eq_true_eq] at hsw
  obtain ⟨⟨l1, l2⟩, l3⟩ := hsw
  have kind : X.env.scope.kind = .function := by
    rw [S.sc]; unfold fnSc at hk; split at hk
    · assumption
    · cases hk
  simp only [ckTg, Bool.and_eq_true, decide_eq_true_eq] at ht
  match x, hc with
  | .comp own t it cs el, hc =>
    rw [ckE.eq_def] at hc
    dsimp only at hc
    split at hc
    · rename_i elt' tg iter ifs scope' cpos' heq
      cases heq
      simp only [Bool.and_eq_true, decide_eq_true_eq] at hc
      obtain ⟨⟨⟨⟨⟨⟨⟨h1, h2⟩, h3⟩, h4⟩, h5⟩, h6⟩, h7⟩, h8⟩ := hc
      subst h1
      have ok : L2.BlkOk X.N X.env.scope scope (ownP cx.N scope) := by rw [S.hN, S.sc]; exact L2.blkOk_by h2
      refine ps_wr (ps_dbl (L2.ps_setLc (i := i) (own := ownP cx.N scope) (g := gOf X.K t) (tt := tTs (Prm.blk ⟨X.K, W, adr, fld⟩) F T Gt th cs) (te := inj X.K (TEs (Prm.blk ⟨X.K, W, adr, fld⟩) F T Gt th el)) S.calm S.nd (by rw [S.hN]; exact ht.1) (by rw [S.sc]; exact l1)
        (L2.sw_true kind (by rw [S.sc]; exact l1) l2 l3) (ckI_ok (F := F) (T := T) (Gt := Gt) (th := th) (adr := adr) (fld := fld) (W := W) it S.toSx h5) ok (fun s H C cl fp => ?_) (fun s H C cl fp => ?_) (fun s H C cl fp => ?_) (set_ok h3))) fun D σ H J q => ?_
      · have B := S.toSx.block s H scope cl C fp
        exact ckTg_ok (X := X.blk s H scope (compEnvC scope cl C X.env) fp) B.hN B.nd B.sc B.calm (fun x hx => hx) t h4
      · have B := S.toSx.block s H scope cl C fp
        have := ckCs_ok (T := T) (Gt := Gt) (th := th) cs B h7 h6
        cases this with
        | nil => exact L2.pts_nil
        | one p => exact L2.pts_one p
      · exact (ckE_ok el (S.toSx.block s H scope cl C fp) h8).pe
      · have := ts_set (fun _ _ z => by cases z) J q
        exact te_comp h6 (tes_imp this fun v H1 z J1 => z J1 J1)
    · cases hc
end
end Ev
end
section
set_option linter.all false
set_option maxHeartbeats 4000000
namespace Ev
open PySem PyProof.Rows
section
variable {cx : Ck} {F : Nat → List Sl → CR} {T : Tb} {Gt : Nat → (Ls → R Vw) → Ls → R Vw} {th : Option (Ls × (Ls → R Vw))} {adr : Nat → Addr} {fld : Nat → Str} {ls : List Nat} {fuel : Nat}
theorem loc_of {sc : Scope} {x : Str} (h : isLocal sc x = true) : sc.names.lookup x = some .local := of_decide_eq_true h
theorem s_par {X : L2.Cx} {sc : Scope} {W : L2.WX} (S : Sy cx F adr fld X sc W) {ts : List Tg} {es : List Xp} {tgs vs : List Expr} {k1 k2 : Nat} {p1 p2 pos : Pos} (hs : noStar vs = true) (hes : ckEs cx sc es vs = true) (hl : es.length ≤ 1000) (ht : ckTg cx sc (fun _ => true) (.tup ts) (.Tuple tgs k1 p1) = true) (hk : fnSc sc = true)
    (h : parB sc ts tgs vs = true) : L2.PS X (.Assign [.Tuple tgs k1 p1] (.Tuple vs k2 p2) pos) (TS1 ⟨X.K, W, adr, fld⟩ F T Gt th ls fuel (.set (.tup ts) (.tup es))) := by
  have kind : sc.kind = .function := by
    unfold fnSc at hk; split at hk
    · assumption
    · cases hk
  have ps := ckEs_ok (T := T) (Gt := Gt) (th := th) es S.toSx hes
  have pa := pa_tos ps hs
  unfold parB at h
  split at h
  · rename_i hsw
    have g := ckTg_ok S.hN S.nd S.sc S.calm (fun x _ => S.fnT x) _ ht
    exact ps_wr (L2.ps_asg (L2.pe_tup pa) g (by rfl) (swapB_ok S.sc kind hsw) rfl) fun D σ H J q => ts_parT hl q
  · rename_i a b hsw
    split at h
    · clear hes
      rename_i i n1 j n2 x1 px y1 py ea eb
      simp only [Bool.and_eq_true, decide_eq_true_eq] at h
      obtain ⟨⟨⟨⟨h1, rfl⟩, rfl⟩, h4⟩, h5⟩ := h
      obtain ⟨xa, xb, rfl, _, _⟩ := pes2 ps
      simp only [ckTg, ckTgs, Bool.and_eq_true, decide_eq_true_eq] at ht
      exact ps_wr (L2.ps_par S.calm S.nd (by rw [S.hN]; exact ht.2.1.1) (by rw [S.hN]; exact ht.2.2.1.1) h1 (by rw [S.sc]; exact loc_of h4) (by rw [S.sc]; exact loc_of h5) pa (swapB_ok S.sc kind hsw) (by rfl)) fun D σ H J q => ts_par2 q
    · cases h
  · rename_i a b c hsw
    split at h
    · rename_i i n1 j n2 l n3 x1 px y1 py z1 pz ea eb ec
      simp only [Bool.and_eq_true, decide_eq_true_eq] at h
      obtain ⟨⟨⟨⟨⟨⟨⟨⟨h1, h2⟩, h3⟩, rfl⟩, rfl⟩, rfl⟩, h4⟩, h5⟩, h6⟩ := h
      obtain ⟨xa, xb, xc, rfl⟩ : ∃ xa xb xc, es = [xa, xb, xc] := by
        have := ps.len
        match es, this with
        | [xa, xb, xc], _ => exact ⟨xa, xb, xc, rfl⟩
      simp only [ckTg, ckTgs, Bool.and_eq_true, decide_eq_true_eq] at ht
      exact ps_wr (L2.ps_par3 S.calm S.nd (by rw [S.hN]; exact ht.2.1.1) (by rw [S.hN]; exact ht.2.2.1.1) (by rw [S.hN]; exact ht.2.2.2.1.1) h1 h2 h3 (by rw [S.sc]; exact loc_of h4) (by rw [S.sc]; exact loc_of h5) (by rw [S.sc]; exact loc_of h6) pa (swapB_ok S.sc kind hsw) (by rfl)) fun D σ H J q => ts_par3 q
    · cases h
  · cases h
theorem tupX {x : Xp} (h : (!isTupX x) = true) : ∀ es, x ≠ .tup es := fun es z => by rw [z] at h; cases h
mutual
theorem ckS_ok : ∀ (s : Sm) {X : L2.Cx} {sc : Scope} {W : L2.WX} {st : Stmt}, Sy cx F adr fld X sc W → ckS cx sc s st = true → L2.PS X st (TS1 ⟨X.K, W, adr, fld⟩ F T Gt th ls fuel s)
  | .set t x, X, sc, W, st, S, h => by
    rw [ckS.eq_def] at h
    dsimp only at h
    split at h
    · rename_i tg e pos
      split at h
      · rename_i vs k2 p2
        split at h
        · rename_i ts es tgs k1 p1
          simp only [Bool.and_eq_true, decide_eq_true_eq] at h
          obtain ⟨⟨⟨⟨⟨h1, h2⟩, h3⟩, h4⟩, h5⟩, h6⟩ := h
          exact s_par S h1 h2 h3 h4 h5 h6
        · simp only [Bool.and_eq_true] at h
          exact s_set S (fun _ _ z => by cases z) (ckE_ok x S.toSx h.1).pe h.2 (by rfl) (by rfl)
        · cases h
      · rename_i elt gs scope cpos
        split at h
        · rename_i i n y py
          simp only [Bool.and_eq_true] at h
          obtain ⟨⟨⟨h1, h2⟩, h3⟩, h4⟩ := h
          by_cases hsw : swapC sc y py cpos scope = true
          · exact s_setLc S hsw h1 h2 h3
          · refine s_set S (fun _ _ z => by cases z) (ckE_ok x S.toSx h2).pe h3 ?_ (by rfl)
            have kind : sc.kind = .function := by
              unfold fnSc at h1; split at h1
              · assumption
              · cases h1
            have hb : X.env.blockKind = .function := by unfold Env.blockKind; rw [S.sc, kind]; rfl
            have e1 : swapsWithSole [.Name y py] (.ListComp elt gs scope cpos) pos.line X.env = pure (X.env.blockKind == .function && X.env.kindOf y == some .local && py.line == cpos.line && !(scope.names.any fun (n, k) => n == y && (k == .local || k == .cell))) := by rfl
            rw [e1]
            have ky : X.env.kindOf y = sc.names.lookup y := by rw [← S.sc]; rfl
            rw [hb, ky]
            have e2 : (sc.names.lookup y == some .local) = isLocal sc y := by
              unfold isLocal
              by_cases z : sc.names.lookup y = some .local
              · rw [z]; rfl
              · rw [decide_eq_false z]
                simpa using z
            rw [e2]
            congr 1
            exact Bool.eq_false_iff.mpr fun z => hsw (by simpa [swapC] using z)
        · cases h
      · simp only [Bool.and_eq_true] at h
        obtain ⟨⟨⟨h1, h2⟩, h3⟩, h4⟩ := h
        refine s_set S (fun ts es _ z => tupX h2 es z) (ckE_ok x S.toSx h3).pe h4 (by exact swN h1) ?_
        rename_i hne1 hne2
        cases e <;> first | rfl | (exact absurd rfl (hne1 _ _ _)) | (cases tg <;> rfl)
    · cases h
  | .setSub a i x, X, sc, W, st, S, h => by
    rw [ckS.eq_def] at h
    dsimp only at h
    split at h
    · simp only [Bool.and_eq_true] at h
      obtain ⟨⟨⟨h1, h2⟩, h3⟩, h4⟩ := h
      exact s_sub S h1 (ckE_ok a S.toSx h2).pe (ckE_ok i S.toSx h3).pe (ckE_ok x S.toSx h4).pe
    · cases h
  | .aug op i x, X, sc, W, st, S, h => by
    rw [ckS.eq_def] at h
    dsimp only at h
    split at h
    · simp only [Bool.and_eq_true, Bool.or_eq_true, decide_eq_true_eq] at h
      obtain ⟨⟨⟨h1, h2⟩, h3⟩, h4⟩ := h
      exact s_aug S h1 h2 h3 (ckE_ok x S.toSx h4).pe
    · cases h
  | .ex x, X, sc, W, st, S, h => by
    rw [ckS.eq_def] at h
    dsimp only at h
    split at h
    · simp only [Bool.and_eq_true] at h
      exact ps_wr (L2.ps_expr (ckE_ok x S.toSx h.2).pe (swN h.1)) fun D σ H J q => ts_ex (ts1_injD q)
    · cases h
  | .ite c a b, X, sc, W, st, S, h => by
    rw [ckS.eq_def] at h
    dsimp only at h
    split at h
    · simp only [Bool.and_eq_true] at h
      obtain ⟨⟨⟨h1, h2⟩, h3⟩, h4⟩ := h
      exact ⟨fun pins s σ H D I q => (L2.ps_if ((ckE_ok c S.toSx h2).pt h1) (ckSs_ok a S h3) (ckSs_ok b S h4)).run pins s σ H D I (ts_ite q)⟩
    · cases h
  | .for t it b, X, sc, W, st, S, h => by
    rw [ckS.eq_def] at h
    dsimp only at h
    split at h
    · rename_i tg iter body els pos
      simp only [Bool.and_eq_true] at h
      obtain ⟨⟨⟨⟨h1, h2⟩, h3⟩, h4⟩, h5⟩ := h
      have hk : els = [] := by simpa using h1
      subst hk
      exact ⟨fun pins s σ H D I q => (L2.ps_for S.po S.calm (ckI_ok it S.toSx h4) (ckTg_ok S.hN S.nd S.sc S.calm (fun x _ => S.fnT x) t h3) (ckSs_ok b S h5) (set_ok h2)).run pins s σ H D I (ts_for q)⟩
    · cases h
  | .whl c b, X, sc, W, st, S, h => by
    rw [ckS.eq_def] at h
    dsimp only at h
    split at h
    · rename_i ec body els pos
      simp only [Bool.and_eq_true] at h
      obtain ⟨⟨⟨h1, h2⟩, h3⟩, h4⟩ := h
      have hk : els = [] := by simpa using h1
      subst hk
      exact ⟨fun pins s σ H D I q => (L2.ps_while S.po ((ckE_ok c S.toSx h3).pt h2) (ckSs_ok b S h4)).run pins s σ H D I (ts_whl (Inj.of I) q)⟩
    · cases h
  | .ret x, X, sc, W, st, S, h => by
    rw [ckS.eq_def] at h
    dsimp only at h
    split at h
    · split at h
      · rename_i es vs k p
        simp only [Bool.and_eq_true, decide_eq_true_eq] at h
        obtain ⟨⟨h1, h2⟩, h3⟩ := h
        exact ps_wr (L2.ps_ret (L2.pe_tup (pa_trs (ckEs_ok es S.toSx h3) h1))) fun D σ H J q => ts_retT h2 q
      · simp only [Bool.and_eq_true] at h
        exact ⟨fun pins s σ H D I q => (L2.ps_ret (tr1_of (Q := fun _ _ => True) (ckE_ok x S.toSx h.2).pe)).run pins s σ H D I (ts_ret1 (tupX h.1) q)⟩
    · cases h
  | .retN, X, sc, W, st, S, h => by
    rw [ckS.eq_def] at h
    dsimp only at h
    split at h
    · exact ⟨fun pins s σ H D I q => L2.ps_retN.run pins s σ H D I (ts_retN (Inj.of I) q)⟩
    · cases h
  | .raise c es, X, sc, W, st, S, h => by
    rw [ckS.eq_def] at h
    dsimp only at h
    split at h
    · rename_i n p args kws pos pos2
      simp only [Bool.and_eq_true, decide_eq_true_eq] at h
      obtain ⟨⟨⟨⟨⟨⟨h1, h2⟩, h3⟩, h4⟩, h5⟩, h6⟩, h7⟩ := h
      have hk : kws = [] := by simpa using h1
      subst hk
      match args, h5 with
      | [arg], _ =>
        obtain ⟨x, rfl, px⟩ := pes1 (ckEs_ok es S.toSx h7)
        split at h6
        · rename_i c' hl
          have e1 := of_decide_eq_true h6
          subst e1
          exact ⟨fun pins s σ H D I q => (L2.ps_raise S.calm S.tk (S.exc X.pn X.xe n c hl px h4 (glob_of S.toSx h2) h3)).run pins s σ H D I (ts_raise q)⟩
        · cases h6
    · cases h
  | .pass, X, sc, W, st, S, h => by
    rw [ckS.eq_def] at h
    dsimp only at h
    split at h
    · exact ⟨fun pins s σ H D I q => L2.ps_pass.run pins s σ H D I (ts_pass (Inj.of I) q)⟩
    · exact ⟨fun pins s σ H D I q => L2.ps_doc.run pins s σ H D I (ts_pass (Inj.of I) q)⟩
    · cases h
  | .brk, X, sc, W, st, S, h => by
    rw [ckS.eq_def] at h
    dsimp only at h
    split at h
    · exact ⟨fun pins s σ H D I q => L2.ps_break.run pins s σ H D I (ts_brk (Inj.of I) q)⟩
    · cases h
  | .cont, X, sc, W, st, S, h => by
    rw [ckS.eq_def] at h
    dsimp only at h
    split at h
    · exact ⟨fun pins s σ H D I q => L2.ps_continue.run pins s σ H D I (ts_cont (Inj.of I) q)⟩
    · cases h
  | .augSub .., X, sc, W, st, S, h => by rw [ckS.eq_def] at h; cases h
  | .try .., X, sc, W, st, S, h => by rw [ckS.eq_def] at h; cases h
theorem ckSs_ok : ∀ (ss : List Sm) {X : L2.Cx} {sc : Scope} {W : L2.WX} {sts : List Stmt}, Sy cx F adr fld X sc W → ckSs cx sc ss sts = true → L2.PSs X sts (TSs ⟨X.K, W, adr, fld⟩ F T Gt th ls fuel ss)
  | [], X, sc, W, [], S, h => by
    refine ⟨fun pins s σ H D I q => L2.pss_nil.run pins s σ H D I ?_⟩
    obtain ⟨e, G, fp, Si, q⟩ := q
    simp only [execs] at q
    exact q σ G H fp (Frm.refl Si) (fun _ _ _ _ => rfl) .refl Si (Inj.of I)
  | s :: ss, X, sc, W, st :: sts, S, h => by
    simp only [ckSs, Bool.and_eq_true] at h
    refine ⟨fun pins s0 σ H D I q => (L2.pss_cons (ps_dbl (ckS_ok s S h.1)) (ckSs_ok ss S h.2)).run pins s0 σ H D I ?_⟩
    exact ts1_ends (tss_cons q) (fun _ _ q => q) (fun _ _ q _ => q) (fun _ _ q _ => q) fun _ _ q _ => q
  | [], X, sc, W, _ :: _, S, h => by simp [ckSs] at h
  | _ :: _, X, sc, W, [], S, h => by simp [ckSs] at h
end
end
end Ev
end
section
set_option linter.all false
set_option maxHeartbeats 4000000
namespace Ev
open PySem PyProof.Rows
section
variable {K : PySem.W.Frag} {G : GSet} {H : Hp}
theorem at_app {as : List Sl} {n i : Nat} : Ls.at (as.map some ++ List.replicate n none) i = Ls.at (as.map some) i := by
  unfold Ls.at
  by_cases h : i < as.length
  · rw [List.getElem?_append_left (by simpa using h)]
  · rw [List.getElem?_append_right (by simpa using h), List.getElem?_eq_none (l := as.map some) (by simpa using h), List.getElem?_replicate]
    split <;> rfl
theorem Sim.start {as : List Sl} {vs : List V} {fa : FpT} {N : List Str} {n : Nat} (S : Sim K G H (as.map some) (vs.map some) fa) (hn : n = N.length - vs.length) : Sim K G H (as.map some ++ List.replicate n none) (L2.start N vs) fa := by
  have hl : as.length = vs.length := by simpa using S.len
  refine ⟨by simp [L2.start, hl, hn], fun i s h => ?_, fun i h => S.nil i (by rw [← at_app]; exact h), S.nd, S.dj, S.ng, S.gs⟩
  rw [at_app] at h
  obtain ⟨v, hv, r⟩ := S.rep i s h
  refine ⟨v, ?_, r⟩
  have hi : i < (vs.map some).length := by
    by_cases z : i < (vs.map some).length
    · exact z
    · rw [List.getElem?_eq_none (by omega)] at hv; cases hv
  unfold L2.start
  rw [List.getElem?_append_left hi]
  exact hv
theorem outs_ok {e : Ls} {σ : L2.St} {fp : FpT} : ∀ {chg : List Nat} {o : List Sl}, outsOf e chg = some o → o.length = chg.length ∧ ∀ (j i : Nat) (s : Sl), chg[j]? = some i → o[j]? = some s → e.at i = some s
  | [], o, h => by
    simp only [outsOf, Option.some.injEq] at h
    subst h
    exact ⟨rfl, fun j i s h => by simp at h⟩
  | c :: r, o, h => by
    simp only [outsOf, Option.bind_eq_some_iff, Option.map_eq_some_iff] at h
    obtain ⟨s, hs, o', ho, rfl⟩ := h
    obtain ⟨h1, h2⟩ := outs_ok (σ := σ) (fp := fp) ho
    refine ⟨by simp [h1], fun j i s' a b => ?_⟩
    cases j with
    | zero =>
      simp only [List.getElem?_cons_zero, Option.some.injEq] at a b
      subst a b
      exact hs
    | succ j => exact h2 j i s' (by simpa using a) (by simpa using b)
/-- a function's end -/
theorem done_of {vs : List V} {fa fp' : FpT} {N : List Str} {G' : GSet} {H' : Hp} {e' : Ls} {σ' : L2.St} {chg ts : List Nat} {outs : List Sl} {k : Nat} {d : D} {z : V} {fx : List Addr} (hno : ∀ i, i ∉ chg → fa i = []) (hlt : ∀ i ∈ chg, i < vs.length) (Fr : Frm G H fa G' H' fp') (V' : KeepV chg ts (L2.start N vs) σ') (S' : Sim K G' H' e' σ' fp') (ho : outsOf e' chg = some outs)
    (r : Rep K G' H' k d z fx) (nd : fx.Nodup) (hx : ∀ a ∈ fx, ((∃ i, i ∉ chg ∧ a ∈ fa i) ∨ H a = none) ∧ (∀ i, a ∉ fp' i) ∧ ¬ G' a) :
    Done K chg vs outs G H fa G' H' (fun i => if i ∈ chg then fp' i else []) k d z fx := by
  obtain ⟨o1, o2⟩ := outs_ok (σ := σ') (fp := fp') ho
  have sub : ∀ {i : Nat} {a : Addr}, a ∈ (if i ∈ chg then fp' i else []) → i ∈ chg ∧ a ∈ fp' i := fun {i a} h => by
    by_cases q : i ∈ chg
    · rw [if_pos q] at h; exact ⟨q, h⟩
    · rw [if_neg q] at h; cases h
  refine ⟨⟨Fr.g, Fr.gn, Fr.st, fun i a h => Fr.fn i a (sub h).2, Fr.al⟩, r, nd, fun a ha => ⟨?_, fun i h => (hx a ha).2.1 i (sub h).2, (hx a ha).2.2⟩, o1, fun j i s h1 h2 => ?_, fun i hi => if_neg hi, fun i => ?_, fun i j a h1 h2 => S'.dj i j a (sub h1).2 (sub h2).2, fun i a h => S'.ng i a (sub h).2, S'.gs⟩
  · rcases (hx a ha).1 with ⟨i, hi, h⟩ | h
    · rw [hno i hi] at h; cases h
    · exact h
  · have hi : i ∈ chg := List.mem_of_getElem? h1
    obtain ⟨v, hv, r⟩ := S'.rep i s (o2 j i s h1 h2)
    rw [V'.2 i (.inl hi)] at hv
    refine ⟨v, ?_, by simpa only [if_pos hi] using r⟩
    have := hlt i hi
    unfold L2.start at hv
    rw [List.getElem?_append_left (by simpa using this), List.getElem?_map] at hv
    cases q : vs[i]? with
    | none => rw [q] at hv; cases hv
    | some w => rw [q] at hv; simp at hv; rw [hv]
  · by_cases q : i ∈ chg
    · simp only [if_pos q]; exact S'.nd i
    · simp only [if_neg q]; exact List.nodup_nil
end
/-- a function's text -/
structure Fs where
  name : Str
  params : Arguments
  body : List Stmt
  scope : Scope
  N : List Str
  ps : List Str
/-- the table's entry is of this text -/
structure FdOk (cx : List Str → Ck) (fd : Fd) (src : Fs) : Prop where
  np : fd.np = src.ps.length
  ns : fd.ns = src.N.length
  chg : ∀ i ∈ fd.chg, i < fd.np
  sc : L2.FnScope src.N src.ps src.scope
  ck : ckSs (cx src.N) src.scope fd.body src.body = true
section
variable {P : Program} {w : World} {K : PySem.W.Frag} {mg : Str → Option Value} {base : Heap} {adr : Nat → Addr} {fld : Nat → Str} {T : Tb} {fuel : Nat}
/-- one function, from the others -/
theorem fn_step {cx : List Str → Ck} {f : Addr} {fdt : FuncData} {dvs : List V} {kws : List (Str × V)} {src : Fs} {fd : Fd} {n lev i : Nat} (hcx : ∀ N, (cx N).N = N) (hf : T.fns[i]? = some fd) (ok : FdOk cx fd src) (fu : L2.FunD K src.name src.name src.params src.body src.scope dvs kws f fdt)
    (sy : ∀ (X : L2.Cx) (W : L2.WX), X.prog = P → X.w = w → X.K = K → X.mg = mg → X.base = base → X.N = src.N → X.env.scope = src.scope → X.calm = true → X.A.guards = some [] → L2.Room lev X.A → (∀ x, X.fn x = true) → L2.Takes X W → PassesOwn (model X.prog X.w) X.A X.env X.xe → Sy (cx src.N) (callN T fuel n) adr fld X src.scope W) :
    FnG P w K mg base (lev + 1) f fdt src.ps (spF ⟨K, fun _ _ _ _ => False, adr, fld⟩ fd.chg (callN T fuel (n + 1) i)) := by
  have cn : ∀ as, callN T fuel (n + 1) i as = if as.length = fd.np then endOf fd (execs (callN T fuel n) T (toldN T fuel n) none fd.chg fuel fd.body (startOf fd as)) else .bad (fd.name ++ " arity") := fun as => by simp only [callN, hf]
  have lenS : ∀ vs H Q E, spF ⟨K, fun _ _ _ _ => False, adr, fld⟩ fd.chg (callN T fuel (n + 1) i) vs H Q E → vs.length = src.ps.length := by
    rintro vs H Q E ⟨as, G, fa, S, hno, h⟩
    rw [cn] at h
    by_cases hl : as.length = fd.np
    · have := S.len
      simp only [List.length_map] at this
      rw [← this, hl, ok.np]
    · rw [if_neg hl] at h; exact h.elim
  refine FunD.okG fu ok.sc lenS fun cdv A outer s H vs Q E gd room hsp => ?_
  have hlen := lenS _ _ _ _ hsp
  obtain ⟨as, G, fa, S, hno, h⟩ := hsp
  have hl : as.length = fd.np := by
    have := S.len
    simp only [List.length_map] at this
    rw [this, hlen, ok.np]
  rw [cn, if_pos hl] at h
  let W : L2.WX := fun cls d _ H' => E cls d H'
  let X : L2.Cx := L2.cxOf (L2.CX P w) P w K mg base src.N src.name src.scope f cdv A outer s H E
  have tk : L2.Takes X W := L2.takes_of rfl rfl rfl rfl
  have Y : Sy (cx src.N) (callN T fuel n) adr fld X src.scope W := sy X W rfl rfl rfl rfl rfl rfl rfl rfl gd room (fun _ => rfl) tk (L2.passes_of rfl)
  refine ⟨_, ckSs_ok (T := T) (Gt := toldN T fuel n) (th := none) (ls := fd.chg) (fuel := fuel) fd.body Y ok.ck, ?_⟩
  have SS : Sim K G H (startOf fd as) (L2.start src.N vs) fa := by
    unfold startOf
    exact Sim.start S (by rw [hlen, ok.ns, ok.np])
  refine ⟨startOf fd as, G, fa, SS, ?_⟩
  have hlt : ∀ i ∈ fd.chg, i < vs.length := fun i hi => by rw [hlen, ← ok.np]; exact ok.chg i hi
  generalize execs (callN T fuel n) T (toldN T fuel n) none fd.chg fuel fd.body (startOf fd as) = q at h
  cases q with
  | nx e' =>
    simp only [endOf] at h
    cases ho : outsOf e' fd.chg with
    | none => rw [ho] at h; exact h.elim
    | some o =>
      rw [ho] at h
      exact fun σ' G' H' fp' Fr Kh V' S' J' => h G' H' _ .non [] (done_of hno hlt Fr V' S' ho .non List.nodup_nil fun a ha => by cases ha) J'
  | ret k d e' =>
    simp only [endOf] at h
    cases ho : outsOf e' fd.chg with
    | none => rw [ho] at h; exact h.elim
    | some o =>
      rw [ho] at h
      exact fun σ' G' H' fp' v fx Fr Kh V' S' J' r nd hx => h G' H' _ v fx (done_of hno hlt Fr V' S' ho r nd hx) J'
  | rs c x => exact fun σ' G' H' fp' dx v Fr Kh V' hd r gs => h G' H' fp' dx v Fr hd r gs
  | brk e' => exact h.elim
  | ct e' => exact h.elim
  | bad m => exact h.elim
end
end Ev
end
section
set_option linter.all false
set_option maxHeartbeats 4000000
namespace Ev
open PySem PyProof.Rows
/-- a law's program: the table, the texts, what its names are -/
structure Pg where
  T : Tb
  fuel : Nat
  srcs : List Fs
  gl : List (Str × Gk)
  frees : List Str
  cls : List (Nat × Str × Str)      -- a class's number, its name, its field
  mks : List Nat := []              -- the classes that are called for their values
  iks : List Nat := []              -- the classes that isinstance asks for
def Pg.ck (p : Pg) (N : List Str) : Ck := ⟨N, p.gl, p.frees, p.mks, p.iks⟩
def Pg.fld (p : Pg) (c : Nat) : Str := match p.cls.lookup c with
  | some q => q.2
  | none => ⟨#[]⟩
def Pg.adr (p : Pg) (K : PySem.W.Frag) (c : Nat) : Addr := match p.cls.lookup c with
  | some q => He.ga K q.1
  | none => 0
/-- a function's entry, by a check -/
def FdOk.b (cx : List Str → Ck) (fd : Fd) (src : Fs) : Bool :=
  decide (fd.np = src.ps.length) && decide (fd.ns = src.N.length) && (fd.chg.all fun i => decide (i < fd.np)) && ckSs (cx src.N) src.scope fd.body src.body &&
    fnSc src.scope && !src.scope.isCoroutine && !src.scope.isGenerator && decide src.N.Nodup && decide (src.N.take src.ps.length = src.ps) && (src.ps.all fun x => decide (src.scope.names.lookup x = some .local) || decide (src.scope.names.lookup x = some .cell)) && (src.scope.names.all fun y => decide (y.2 ≠ .free))
theorem FdOk.of {cx : List Str → Ck} {fd : Fd} {src : Fs} (h : FdOk.b cx fd src = true) : FdOk cx fd src := by
  simp only [FdOk.b, Bool.and_eq_true, decide_eq_true_eq, List.all_eq_true, Bool.not_eq_true', Bool.or_eq_true] at h
  obtain ⟨⟨⟨⟨⟨⟨⟨⟨⟨⟨h1, h2⟩, h3⟩, h4⟩, h5⟩, h6⟩, h7⟩, h8⟩, h9⟩, h10⟩, h11⟩ := h
  refine ⟨h1, h2, h3, ⟨?_, h6, h7, h8, h9, h10, h11⟩, h4⟩
  unfold fnSc at h5; split at h5
  · assumption
  · cases h5
/-- the whole table, by a check -/
def Pg.ok (p : Pg) : Bool := ((p.T.fns.zip p.srcs).all fun q => FdOk.b p.ck q.1 q.2) && decide (p.T.fns.length = p.srcs.length) &&
  p.gl.all fun g => match g.2 with
    | .fn i ps _ chg _ => (match p.T.fns[i]?, p.srcs[i]? with
      | some fd, some src => decide (src.name = g.1) && decide (src.ps = ps) && decide (fd.chg = chg)
      | _, _ => false)
    | .cls c => (match p.cls.lookup c with
      | some q => decide (q.1 = g.1)
      | none => false)
    | _ => true
/-- what is known of the world -/
structure Wd (p : Pg) (P : Program) (w : World) (K : PySem.W.Frag) (mg : Str → Option Value) (base : Heap) : Prop where
  fn : ∀ (i : Nat) (src : Fs), p.srcs[i]? = some src → ∃ dvs kws fdt, L2.FunD K src.name src.name src.params src.body src.scope dvs kws (He.ga K src.name) fdt ∧ L2.Binds K fdt src.ps []
  glo : ∀ (i : Nat) (src : Fs), p.srcs[i]? = some src → mg src.name = some (.ref (He.ga K src.name))
  free : ∀ x, p.frees.contains x = true → mg x = none
  con : ∀ x d, p.gl.lookup x = some (.con d) → ∃ v u, mg x = some u ∧ L2.RelV v u ∧ ∀ G H k, Rep K G H k d v []
  mkw : ∀ c, p.mks.contains c = true → MkW P w K mg base c
  isx : ∀ k, p.iks.contains k = true → (100 ≤ k → mg (clsN k) = some (clsV K k)) ∧ ∀ c, xkB K c = true → PySem.W.kitOne K (.ref (cA K c)) (clsV K k) = some ((supN c).contains k)
  exc : ∀ X : L2.Cx, X.prog = P → X.w = w → X.K = K → X.mg = mg → X.base = base → X.calm = true → L2.Room 2 X.A → ∀ (c : Nat) (n f : Str), (c, n, f) ∈ p.cls → ∀ {e : Expr} {q pos : Pos} {t : L2.TE}, L2.PE X e t → noStar [e] = true → L2.Gl X n → plainN n = true → L2.PMk X (.Call (.Name n q) [e] [] pos) (tMk (He.ga K n) f t)
theorem lookupN_mem {α : Type} {l : List (Nat × α)} {x : Nat} {a : α} (h : l.lookup x = some a) : (x, a) ∈ l := by
  induction l with
  | nil => cases h
  | cons p r ih =>
    obtain ⟨y, b⟩ := p
    rw [List.lookup_cons] at h
    by_cases e : (x == y) = true
    · rw [e] at h
      simp only [Option.some.injEq] at h
      have e' : x = y := by simpa using e
      rw [e', h]; exact List.mem_cons_self ..
    · have e' : (x == y) = false := by simpa using e
      rw [e'] at h
      exact List.mem_cons_of_mem _ (ih h)
theorem lookup_mem {α : Type} {l : List (Str × α)} {x : Str} {a : α} (h : l.lookup x = some a) : (x, a) ∈ l := by
  induction l with
  | nil => cases h
  | cons p r ih =>
    obtain ⟨y, b⟩ := p
    rw [List.lookup_cons] at h
    by_cases e : (x == y) = true
    · rw [e] at h
      simp only [Option.some.injEq] at h
      have e' : x = y := by simpa using e
      rw [e', h]; exact List.mem_cons_self ..
    · have e' : (x == y) = false := by simpa using e
      rw [e'] at h
      exact List.mem_cons_of_mem _ (ih h)
theorem funD_uniq {K : PySem.W.Frag} {x q : Str} {ps : Arguments} {b : List Stmt} {sc : Scope} {d1 d2 : List V} {k1 k2 : List (Str × V)} {f : Addr} {a c : FuncData} (h1 : L2.FunD K x q ps b sc d1 k1 f a) (h2 : L2.FunD K x q ps b sc d2 k2 f c) : a = c := by
  obtain ⟨_, _, _, _, _, _, _, _, _, _, _, e1, _⟩ := h1.ex
  obtain ⟨_, _, _, _, _, _, _, _, _, _, _, e2, _⟩ := h2.ex
  rw [e1] at e2
  cases e2
  rfl
theorem fns_all {p : Pg} {P : Program} {w : World} {K : PySem.W.Frag} {mg : Str → Option Value} {base : Heap} (hp : p.ok = true) (W : Wd p P w K mg base) : ∀ (n i : Nat) (fd : Fd) (src : Fs), p.T.fns[i]? = some fd → p.srcs[i]? = some src →
    ∃ dvs kws fdt, L2.FunD K src.name src.name src.params src.body src.scope dvs kws (He.ga K src.name) fdt ∧ FnG P w K mg base (n + 2) (He.ga K src.name) fdt src.ps (spF ⟨K, fun _ _ _ _ => False, p.adr K, p.fld⟩ fd.chg (callN p.T p.fuel n i)) ∧ PySem.W.keepIn K (.ref (He.ga K src.name)) = true ∧ L2.Binds K fdt src.ps [] := by
  simp only [Pg.ok, Bool.and_eq_true, List.all_eq_true, decide_eq_true_eq] at hp
  obtain ⟨⟨h1, h2⟩, h3⟩ := hp
  intro n
  induction n with
  | zero =>
    intro i fd src hf hs
    obtain ⟨dvs, kws, fdt, fu, bd⟩ := W.fn i src hs
    refine ⟨dvs, kws, fdt, fu, FnG.no ?_, fu.kp, bd⟩
    rintro vs H Q E ⟨as, G, fa, S, hno, h⟩
    simp only [callN] at h
  | succ n ih =>
    intro i fd src hf hs
    obtain ⟨dvs, kws, fdt, fu, bd⟩ := W.fn i src hs
    refine ⟨dvs, kws, fdt, fu, ?_, fu.kp, bd⟩
    have ok : FdOk p.ck fd src := FdOk.of (h1 (fd, src) (by
      have hz : (p.T.fns.zip p.srcs)[i]? = some (fd, src) := by rw [List.getElem?_zip_eq_some]; exact ⟨hf, hs⟩
      exact List.mem_of_getElem? hz))
    refine fn_step (lev := n + 2) (fun N => rfl) hf ok fu fun X WW e1 e2 e3 e4 e5 e6 e7 e8 gd room fnT tk po => ?_
    subst e1 e2 e3 e4 e5
    refine ⟨⟨e6, by rw [e6]; exact ok.sc.nd, e7, e8, by have := room.un; omega, gd, W.free, W.con, fun x j ps dfl chg hl => ?_, fun c hc => ⟨W.mkw c hc, room.mono (by omega)⟩, W.isx, fun σ => L2.passAt tk σ⟩, fnT, po, tk, fun pn xe n' c hl _ _ _ _ pe st gl pl => ?_⟩
    rotate_left
    · have := h3 _ (lookup_mem hl)
      dsimp only at this
      cases hc : p.cls.lookup c with
      | none => rw [hc] at this; simp at this
      | some r =>
        rw [hc] at this
        have e : r.1 = n' := of_decide_eq_true this
        have e2 : p.adr X.K c = He.ga X.K n' := by unfold Pg.adr; rw [hc]; dsimp only; rw [e]
        have e3 : p.fld c = r.2 := by unfold Pg.fld; rw [hc]
        rw [e2, e3]
        have hm := lookupN_mem hc
        obtain ⟨r1, r2⟩ := r
        dsimp only at e
        subst e
        exact W.exc (X.tr pn xe) rfl rfl rfl rfl rfl e8 (room.mono (by omega)) c r1 r2 hm pe st gl pl
    have := h3 _ (lookup_mem hl)
    dsimp only at this
    cases hj : p.T.fns[j]? with
    | none => rw [hj] at this; simp at this
    | some fd2 =>
      cases hj2 : p.srcs[j]? with
      | none => rw [hj, hj2] at this; simp at this
      | some src2 =>
        rw [hj, hj2] at this
        simp only [Bool.and_eq_true, decide_eq_true_eq] at this
        obtain ⟨⟨n1, n2⟩, n3⟩ := this
        obtain ⟨_, _, fdt2, _, fg, kp2, bd2⟩ := ih j fd2 src2 hj hj2
        subst n1 n2 n3
        exact ⟨n + 2, _, fdt2, fg, room, W.glo j src2 hj2, kp2, bd2⟩
end Ev
end
section
set_option linter.all false
set_option maxHeartbeats 4000000
namespace Ev
open PySem PyProof.Rows
/-- C.__init__(self, ..), C an own class that has a built-in's -/
theorem pe_baseinit {X : L2.Cx} {x : Str} {B : Addr} {e e2 : Expr} {ta : L2.TA} {p1 p2 pos : Pos} (gl : L2.Gl X x) (hm : X.mg x = some (.ref B)) (nd : (x == ("__debug__" : Str)) = false) (ga : PySem.W.specialIn X.K (.ref B) "__getattribute__" = some (some (.builtin "type.__getattribute__")))
    (rd : PySem.W.readsIn X.K B (.type "type") = true) (fc : PySem.W.findCls X.K (.ref B) (.type "type") "__init__" = some (.val (.builtin "ValueError.__init__"))) (args : L2.PA X [e, e2] ta) (st : noStar [e, e2] = true) (line : (p2.endLine == pos.line) = true) :
    L2.PE X (.Call (.Attribute (.Name x p1) "__init__" p2) [e, e2] [] pos) (L2.tVeI X.K ta) := by
  obtain ⟨s1, s2⟩ := star_cons (env := X.env) st
  constructor
  intro pins s σ H Q I h
  have form : methodCallForm ([e, e2].length + ([] : List Keyword).length) (backTo pos (starEach [e, e2] X.env)) (backToKw pos (keywordEach [] X.env)) = true := by
    unfold methodCallForm
    have := star_all (pos := pos) (env := X.env) st
    rw [this]; rfl
  rw [arm_eval_Call, base_ok (o := .Name x p1) rfl]
  refine wpAny_bind (L2.ld_glob I gl hm ?_ nd)
  refine wpAny_bind (wpAny_standAt ?_)
  unfold methodCall calleeOf methodCallPos
  simp only [form, line, if_true, Bool.not_true, Bool.or_true]
  refine wpAny_bind (wpAny_holding (PySem.W.method_cls I.kIn ga (PySem.W.cls_value I.kIn rd fc (by decide +kernel) ?_)))
  refine wpAny_bind (wpAny_pure ?_)
  show wpAny _ _ (callWith pos (Value.builtin "ValueError.__init__") [] (backTo pos (starEach [e, e2] X.env)) []) _ _ _
  refine PyProof.Rows.callWith_method1 ?_ s1 (star_any s2)
  refine L2.thn (args.run pos pins _ σ H _ (I.tok _) h) ?_
  rintro us s3 ⟨vs, H1, I1, r1, a, C, ws, rfl, hl, T, ea, q⟩
  cases r1 with
  | @cons _ u0 _ ur ra rr =>
    obtain rfl : u0 = Value.ref a := ra
    refine L2.oinit_ok T I1 ea ?_ fun s' J => ⟨.non, H1, J, rfl, q⟩
    rw [← Paired.length rr, sizeLine_eq]
    omega
/-- the class at C, by the written part -/
def oexB (K : PySem.W.Frag) (C : Addr) : Bool := match K.lookup C with
  | some ⟨.type "type", _, .cls cd, sl⟩ => (match cd.mro, sl.toList with
    | .ref C' :: bm, [_, _, _, _, some (.builtin n), _] => C' == C && n == "ValueError.__new__" && !cd.hasDel && cd.hasDict && PySem.HandSPX.refsVE bm
    | _, _ => false)
  | _ => false
theorem oexB_ok {K : PySem.W.Frag} {C : Addr} (h : oexB K C = true) : ∃ nm q N bs bm sn sub ab col dd k0 k1 k2 k3 k5, K.lookup C = some (excClassObj nm q C N bs bm true sn sub ab col dd k0 k1 k2 k3 k5 "ValueError.__new__") ∧ PySem.HandSPX.refsVE bm = true := by
  unfold oexB at h
  split at h
  · rename_i dd cd sl look
    split at h
    · rename_i C' bm k0 k1 k2 k3 n k5 hm hs
      simp only [Bool.and_eq_true, beq_iff_eq, Bool.not_eq_true'] at h
      obtain ⟨⟨⟨⟨rfl, rfl⟩, h1⟩, h2⟩, h3⟩ := h
      obtain ⟨nm, bs, mro, ns, qn, hd, sn, sub, ab, col, de⟩ := cd
      dsimp only at hm h1 h2
      subst hm h1 h2
      obtain ⟨l⟩ := sl
      dsimp only at hs
      subst hs
      exact ⟨nm, qn, ns, bs, bm, sn, sub, ab, col, dd, k0, k1, k2, k3, k5, look, h3⟩
    · cases h
  · cases h
/-- a class x over the class b, with the field f, as its __init__ makes it -/
def clB (K : PySem.W.Frag) (x f b : Str) : Bool :=
  oexB K (He.ga K x) && decide (PySem.W.findIn K (.ref (He.ga K x)) "__setattr__" = some (some (.builtin "object.__setattr__"))) && decide (PySem.W.subIn K (.ref (He.ga K x)) (.type "BaseException") = some true) &&
    decide (PySem.W.typeIn K (.ref (He.ga K x)) = some (.type "type")) && PySem.W.keepIn K (.ref (He.ga K x)) &&
    decide (PySem.W.findIn K (.ref (He.ga K x)) "__init__" = some (some (.ref (He.ma K (He.ga K x) "__init__")))) && decide (PySem.W.typeIn K (.ref (He.ma K (He.ga K x) "__init__")) = some (.type "function")) &&
    decide (PySem.W.findIn K (.ref (He.ga K x)) f = some none) &&
    decide (PySem.W.specialIn K (.ref (He.ga K b)) "__getattribute__" = some (some (.builtin "type.__getattribute__"))) && PySem.W.readsIn K (He.ga K b) (.type "type") &&
    (match PySem.W.findCls K (.ref (He.ga K b)) (.type "type") "__init__" with
    | some (.val (.builtin n)) => n == "ValueError.__init__"
    | _ => false)
/-- .. what its __init__ is -/
def inB (f b : Str) : List Stmt → Bool
  | [.Expr (.Call (.Attribute (.Name b' _) i ap) [.Name s _, .Constant (.str _) _ _] [] cp) _, .Assign [.Attribute (.Name s' _) f' _] (.Name v _) _] => (ap.endLine == cp.line) && b' == b && i == ("__init__" : Str) && s == ("self" : Str) && s' == ("self" : Str) && f' == f && v == f
  | _ => false
def spI (C : Addr) (f : Str) : L2.Sp := fun vs H Q _ => ∃ a v, vs = [.ref a, v] ∧ H a = some (L2.exo a C none) ∧ ∀ dx, H dx = none → dx ≠ a → Q .non (L2.upd (L2.upd H dx (L2.exd dx [(f, v)])) a (L2.exo a C (some dx)))
section
variable {P : Program} {w : World} {K : PySem.W.Frag} {mg : Str → Option Value} {base : Heap}
theorem oex_of {x f b : Str} (h : clB K x f b = true) : L2.OexC K (He.ga K x) := by
  simp only [clB, Bool.and_eq_true, decide_eq_true_eq] at h
  obtain ⟨⟨⟨⟨⟨⟨⟨⟨⟨⟨h1, h2⟩, h3⟩, h4⟩, h5⟩, h6⟩, h7⟩, h8⟩, h9⟩, h10⟩, h11⟩ := h
  exact ⟨oexB_ok h1, h2, h3, h4, h5⟩
theorem init_ok {x f b qual : Str} {params : Arguments} {body : List Stmt} {scope : Scope} {dvs : List V} {kws : List (Str × V)} {fI : Addr} {fd : FuncData} (h : clB K x f b = true) (hb : mg b = some (.ref (He.ga K b))) (fu : L2.FunD K "__init__" qual params body scope dvs kws fI fd) (sc : L2.FnScope ["self", f] ["self", f] scope)
    (hi : inB f b body = true) (hg : globN scope b = true) (hpb : plainN b = true) (hpf : plainN f = true) (l1 : scope.names.lookup ("self" : Str) = some .local) (l2 : scope.names.lookup f = some .local) : L2.FnOk P w K mg base (L2.CX P w) 1 fI fd ["self", f] (spI (He.ga K x) f) := by
  have T := oex_of h
  simp only [clB, Bool.and_eq_true, decide_eq_true_eq] at h
  obtain ⟨⟨⟨⟨⟨⟨⟨⟨⟨⟨h1, h2⟩, h3⟩, h4⟩, h5⟩, h6⟩, h7⟩, h8⟩, h9⟩, h10⟩, h11⟩ := h
  have fc : PySem.W.findCls K (.ref (He.ga K b)) (.type "type") "__init__" = some (.val (.builtin "ValueError.__init__")) := by
    split at h11
    · rename_i n e1
      rw [e1]
      simp only [beq_iff_eq] at h11
      rw [h11]
    · cases h11
  refine fu.ok sc (fun vs H Q E z => by obtain ⟨a, v, rfl, _⟩ := z; rfl) fun cdv A outer s H vs Q E room z => ?_
  obtain ⟨a, v, rfl, ha, q⟩ := z
  have hg' : ∀ {X : L2.Cx}, X.env.scope = scope → L2.Gl X b := fun e => by show _ = _; unfold Env.kindOf; rw [e]; exact of_decide_eq_true hg
  unfold inB at hi
  split at hi
  · rename_i b' p1 i p2 s1 p3 m j p4 p5 p6 s2 p7 f' p8 v1 p9 p10
    simp only [Bool.and_eq_true, beq_iff_eq] at hi
    obtain ⟨⟨⟨⟨⟨⟨line, rfl⟩, rfl⟩, rfl⟩, rfl⟩, rfl⟩, rfl⟩ := hi
    obtain ⟨d1, d2, d3⟩ := plain_of hpf
    have pb := plain_of hpb
    let X : L2.Cx := L2.cxOf (L2.CX P w) P w K mg base ["self", v1] qual scope fI cdv A outer s H E
    have v0 : ∀ p, L2.PE X (.Name "self" p) (L2.tVar 0) := fun p => L2.pe_var rfl (.inl l1)
    have v1' : ∀ p, L2.PE X (.Name v1 p) (L2.tVar 1) := fun p => L2.pe_var rfl (.inl l2) d1 d2
    refine ⟨_, L2.pss_cons (L2.ps_expr (pe_baseinit (X := X) (hg' rfl) hb pb.1 h9 h10 fc (L2.pa_cons (v0 _) (L2.pa_cons L2.pe_str L2.pa_nil)) rfl (by simpa using line))) (L2.pss_one (L2.ps_ost (v0 _) (v1' _))), ?_⟩
    refine ⟨_, rfl, a, He.ga K x, [.str m], rfl, by simp, T, ha, ?_⟩
    exact ⟨v, rfl, _, rfl, a, He.ga K x, rfl, T, h8, .inl ⟨ha, fun dx hd hne => q dx hd hne⟩⟩
  · cases hi
theorem mk_ok {X : L2.Cx} {x f b qual : Str} {params : Arguments} {body : List Stmt} {scope : Scope} {dvs : List V} {kws : List (Str × V)} {fd : FuncData} (h : clB X.K x f b = true) (hb : X.mg b = some (.ref (He.ga X.K b))) (hx : X.mg x = some (.ref (He.ga X.K x))) (fu : L2.FunD X.K "__init__" qual params body scope dvs kws (He.ma X.K (He.ga X.K x) "__init__") fd)
    (sc : L2.FnScope ["self", f] ["self", f] scope) (hi : inB f b body = true) (hg : globN scope b = true) (hpb : plainN b = true) (hpf : plainN f = true) (l1 : scope.names.lookup ("self" : Str) = some .local) (l2 : scope.names.lookup f = some .local) (bd : L2.Binds X.K fd ["self", f] []) (room : L2.Room 2 X.A)
    {e : Expr} {q pos : Pos} {t : L2.TE} (pe : L2.PE X e t) (st : noStar [e] = true) (gl : L2.Gl X x) (px : plainN x = true) : L2.PMk X (.Call (.Name x q) [e] [] pos) (tMk (He.ga X.K x) f t) := by
  have T := oex_of h
  have F := init_ok (P := X.prog) (w := X.w) (mg := X.mg) (base := X.base) h hb fu sc hi hg hpb hpf l1 l2
  simp only [clB, Bool.and_eq_true, decide_eq_true_eq] at h
  obtain ⟨⟨⟨⟨⟨⟨⟨⟨⟨⟨h1, h2⟩, h3⟩, h4⟩, h5⟩, h6⟩, h7⟩, h8⟩, h9⟩, h10⟩, h11⟩ := h
  obtain ⟨s1, s2⟩ := star_cons (env := X.env) st
  have pe' : L2.PE X e (fun σ H Q' => ∃ Q0 : V → Hp → Prop, t σ H Q0 ∧ ∀ v H1, Q0 v H1 → Q' v H1) := ⟨fun pins s σ H Q' I ⟨Q0, z, k⟩ => L2.thn (pe.run pins s σ H Q0 I z) fun _ _ ⟨v, H1, I1, r, q⟩ => ⟨v, H1, I1, r, k v H1 q⟩⟩
  have M := L2.pmk_oex (pos := pos) (p := q) (dvs := []) (ds := []) T h6 h7 F room bd .nil L2.passL gl hx (L2.pa_cons pe' L2.pa_nil s1) (plain_of px).1 s1 (star_any s2)
  intro pins s σ H Q I z
  refine M pins s σ H Q I ?_
  refine ⟨_, z, fun v H1 k => ⟨by simp, fun a ha => ⟨a, v, rfl, L2.upd_same, fun dx hd hne => ⟨rfl, dx, [(f, v)], L2.upd_same, by rw [L2.upd_ne hne, L2.upd_same], ?_, ?_⟩⟩⟩⟩
  · rw [L2.upd_ne hne] at hd; exact hd
  · have hd1 : H1 dx = none := by rw [L2.upd_ne hne] at hd; exact hd
    have eq : L2.upd (L2.del (L2.upd (L2.upd (L2.upd H1 a (L2.exo a (He.ga X.K x) none)) dx (L2.exd dx [(f, v)])) a (L2.exo a (He.ga X.K x) (some dx))) a) dx (.xd [(f, v)]) = L2.upd H1 dx (.xd [(f, v)]) := by
      funext b
      by_cases e1 : b = dx
      · rw [e1, L2.upd_same, L2.upd_same]
      · rw [L2.upd_ne e1, L2.upd_ne e1]
        by_cases e2 : b = a
        · rw [e2, L2.del_same, ha]
        · rw [L2.del_ne e2, L2.upd_ne e2, L2.upd_ne e1, L2.upd_ne e2]
    rw [eq]
    exact k dx hd1
end
end Ev
end
section
set_option linter.all false
set_option maxHeartbeats 4000000
namespace Ev
open PySem PyProof.Rows
/-- the law's call -/
theorem law_callG {P : Program} {w : World} {K : PySem.W.Frag} {mg mb : Str → Option Value} {k : Nat} {fa a : Addr} {fd : FuncData} {x : Str} {s₁ : Shared} {vs : List Value} {ns : List Int} {adr : Nat → Addr} {fld : Nat → Str} {chg : List Nat} {f : List Sl → CR}
    (inK : K.In s₁.heap) (glob : s₁.heap.Ns mainGlobals mg) (blt : s₁.heap.Ns builtinsNs mb) (bltB : ∀ x : Str, x ≠ "__name__" → mb x = bootBuiltins x) (nolim : s₁.heap.NoLimit) (nogens : s₁.gens = #[])
    (obj : s₁.heap.get? a = some { cls := .type "list", data := .seq vs.toArray }) (hints : IntsAre vs ns) (len : ns.length ≤ sizeLine) (room : L2.Room k callerA)
    (F : ∀ base : Heap, K.In base → base.Ns mainGlobals mg → FnG P w K mg base k fa fd [x] (spF ⟨K, fun _ _ _ _ => False, adr, fld⟩ chg f)) (bind : BindsTo s₁ fd ⟨[.ref a], []⟩ [(x, .ref a)])
    (run : ∃ k outs, f [⟨0, .scr ns⟩] = .ok k (.bl true) outs) :
    codeAny (model P w) callerA (.call (.ref fa) ⟨[.ref a], []⟩) (fun r s' => r = .ok (.ret (.bool true)) ∧ OldK s₁.heap s'.heap ∧ s'.os = s₁.os ∧ AllBare s'.gens) s₁ := by
  have rels := L2.vals_ints hints
  have lens := hints.length
  obtain ⟨kk, outs, hrun⟩ := run
  -- whatever heap is told, in which nothing but the script stands, locked
  have go : ∀ H : L2.Hp, L2.Only H → FzS K (fun _ => False) H a (ns.map L2.V.int) → L2.HOk P w H s₁.heap → (∀ b, H b ≠ none → b = a) → (H a ≠ none → K.lookup a = none) →
      codeAny (model P w) callerA (.call (.ref fa) ⟨[.ref a], []⟩) (fun r s' => r = .ok (.ret (.bool true)) ∧ OldK s₁.heap s'.heap ∧ s'.os = s₁.os ∧ AllBare s'.gens) s₁ := by
    intro H only hS hok alone notK
    have keep : ∀ {b : Addr} {o : Obj}, s₁.heap.get? b = some o → H b = none → (L2.hidT s₁.heap H).get? b = some o := fun e n => L2.hidT_get e n
    have dicts : ∀ {b : Addr} {o : Obj} {es : Array DictEntry} {ep : Nat}, s₁.heap.get? b = some o → o.data = .dict es ep → H b = none := by
      intro b o es ep e d
      by_cases q : H b = none
      · exact q
      · have e' := alone b q
        subst e'
        rw [obj] at e
        cases e
        exact nomatch d
    have spaces : ∀ {b : Addr} {m : Str → Option Value}, s₁.heap.Ns b m → (L2.hidT s₁.heap H).Ns b m := fun ⟨o, es, ep, e, d, r⟩ => ⟨o, es, ep, keep e (dicts e d), d, r⟩
    have inB : K.In (L2.hidT s₁.heap H) := by
      intro b o e
      refine keep (inK b o e) ?_
      by_cases q : H b = none
      · exact q
      · have e' := alone b q
        subst e'
        rw [notK q] at e
        cases e
    have md : L2.Mod K mg (L2.hidT s₁.heap H) := ⟨inB, spaces glob, ⟨mb, spaces blt, bltB⟩, by obtain ⟨mc, h1, h2⟩ := nolim; exact ⟨mc, spaces h1, h2⟩⟩
    have env : L2.Env0 P w K mg (L2.hidT s₁.heap H) callerA [] s₁ H := ⟨rfl, md, fun b o e => L2.of_hidT e, Nat.le_of_eq (L2.hidT_size _ _), trivial, fun b hb => (nomatch hb), hok, .of_eq nogens⟩
    have sp : spF ⟨K, fun _ _ _ _ => False, adr, fld⟩ chg f [.ref a] H (fun v _ => v = .bl true) (fun _ _ _ => False) := by
      refine ⟨[⟨0, .scr ns⟩], fun _ => False, fun _ => [], ⟨rfl, fun i s h => ?_, fun _ _ => rfl, fun _ => List.nodup_nil, fun _ _ _ h => (nomatch h), fun _ _ h => (nomatch h), fun _ h => False.elim h⟩, fun _ _ => rfl, ?_⟩
      · cases i with
        | zero =>
          simp only [Ls.at, List.map_cons, List.map_nil, List.getElem?_cons_zero, Option.bind_some, id, Option.some.injEq] at h
          subst h
          exact ⟨.ref a, rfl, .scr hS⟩
        | succ i => simp [Ls.at] at h
      · rw [hrun]
        intro G' H' fb z fx dn J
        have := dn.rep
        cases this
        rfl
    refine codeAny_mono ((F _ inB (spaces glob)).runG callerA [] s₁ H ⟨[.ref a], []⟩ [.ref a] [.ref a] _ _ rfl room env bind (.cons rfl .nil) sp) ?_
    intro r s' z
    cases r with
    | error e =>
      obtain ⟨_, _, _, _, _, _, _, _, _, _, _, _, z'⟩ : L2.CX P w [] H s₁ (fun _ _ _ => False) e s' := z
      exact False.elim z'
    | ok fl =>
      cases fl with
      | next => exact False.elim z
      | brk => exact False.elim z
      | cont => exact False.elim z
      | ret u =>
        obtain ⟨v, H', os, bare, un, hok', ru, q⟩ := z
        have q' : v = .bl true := q
        subst q'
        obtain rfl : u = Value.bool true := ru
        refine ⟨rfl, OldK.of_keep fun b o e => ?_, os, bare⟩
        by_cases q : H b = none
        · exact un.keep b o e q (fun z => (nomatch z)) (fun z => (nomatch z))
        · rcases only b with n | ⟨ob, xs, n⟩
          · exact absurd n q
          · obtain ⟨e1, _⟩ := hok b _ n
            obtain ⟨e2, _⟩ := hok' b _ (un.frzs b ob _ n)
            rw [e] at e1
            cases e1
            exact e2
  by_cases hk : K.lookup a = none
  · refine go (fun b => if b = a then some (.frz { cls := .type "list", data := .seq vs.toArray } (.lst (ns.map L2.V.int))) else none) (fun b => ?_) (.lk _ (if_pos rfl)) (fun b u z => ?_) (fun b z => ?_) fun _ => hk
    · by_cases hb : b = a
      · exact .inr ⟨_, _, if_pos hb⟩
      · exact .inl (if_neg hb)
    · by_cases hb : b = a
      · have z' := (if_pos hb).symm.trans z
        cases z'
        subst hb
        exact ⟨obj, by rw [List.length_map]; exact len, vs, _, rels, obj⟩
      · have z' := (if_neg hb).symm.trans z
        cases z'
    · by_cases hb : b = a
      · exact hb
      · exact absurd (if_neg hb) z
  · obtain ⟨o, ho⟩ := Option.ne_none_iff_exists'.mp hk
    have e := inK a o ho
    rw [obj] at e
    cases e
    exact go (fun _ => none) (fun _ => .inl rfl) (.kk _ vs.toArray _ ho rfl rfl rfl (by rw [List.size_toArray, lens]; exact len) (by simpa using rels)) (fun b u z => (nomatch z)) (fun b z => absurd rfl z) fun z => absurd rfl z
end Ev
end
section
set_option linter.all false
set_option maxHeartbeats 4000000
namespace Ev
open PySem PyProof.Rows
/-! the head's facts -/
/-- the module's name x stands for the constant d -/
def atomDv : D → Option He.Dv
  | .non => some .non | .bl b => some (.bl b) | .int i => some (.int i) | .str s => if okLen s.length then some (.str ⟨s.toArray⟩) else none
  | _ => none
def atomsDv : List D → Option (List He.Dv)
  | [] => some []
  | d :: r => (atomDv d).bind fun x => (atomsDv r).map (x :: ·)
def conB (K : PySem.W.Frag) (x : Str) : D → Bool
  | .int i => (He.Fa.int x i).ok K
  | .str s => okLen s.length && (He.Fa.str x ⟨s.toArray⟩).ok K
  | .tup ds => (He.Fa.glo x).ok K && (match atomsDv ds with
    | some vs => He.tupB K x vs
    | none => false)
  | _ => false
theorem atom_rep {K : PySem.W.Frag} {d : D} {x : He.Dv} (h : atomDv d = some x) : ∀ G H k, Rep K G H k d (x.v K) [] := by
  intro G H k
  cases d <;> simp only [atomDv, Option.some.injEq, reduceCtorEq] at h
  · subst h; exact .non
  · subst h; exact .bl
  · subst h; exact .int
  · split at h
    · rename_i hs
      cases h
      exact .str (okL hs)
    · cases h
theorem atoms_rep {K : PySem.W.Frag} : ∀ {ds : List D} {vs : List He.Dv}, atomsDv ds = some vs → ∀ G H k, Reps K G H k ds (vs.map (He.Dv.v K)) []
  | [], vs, h, G, H, k => by
    simp only [atomsDv, Option.some.injEq] at h
    subst h
    exact .nil
  | d :: r, vs, h, G, H, k => by
    simp only [atomsDv, Option.bind_eq_some_iff, Option.map_eq_some_iff] at h
    obtain ⟨x, h1, y, h2, rfl⟩ := h
    exact .cons (fp := []) (fps := []) (atom_rep h1 G H k) (atoms_rep h2 G H k)
theorem conB_ok {K : PySem.W.Frag} {h : Heap} {mg : Str → Option Value} {x : Str} {d : D} (X : K.In h) (N : h.Ns mainGlobals mg) (c : conB K x d = true) : ∃ v u, mg x = some u ∧ L2.RelV v u ∧ ∀ G H k, Rep K G H k d v [] := by
  cases d <;> simp only [conB, Bool.false_eq_true] at c
  · rename_i i
    obtain ⟨t, e⟩ := He.int_ok X N c
    exact ⟨.int i, _, e, ⟨t, rfl⟩, fun _ _ _ => .int⟩
  · rename_i s
    simp only [Bool.and_eq_true] at c
    obtain ⟨t, e⟩ := He.str_ok X N c.2
    exact ⟨.str ⟨s.toArray⟩, _, e, ⟨t, rfl⟩, fun _ _ _ => .str (okL c.1)⟩
  · rename_i ds
    simp only [Bool.and_eq_true] at c
    obtain ⟨c1, c2⟩ := c
    split at c2
    · rename_i vs hv
      exact ⟨.ref (He.ga K x), _, He.glo_ok X N c1, rfl, fun G H k => .tup (He.tupB_ok c2 H) (atoms_rep hv G H k)⟩
    · cases c2
/-- the hook, with one more look -/
def frX (n : Nat) (g : Addr → Option Obj) : PySem.W.Frag := He.frG g (cStatics :: He.asD g n)
def obX (n : Nat) (fa : List He.Fa) (fn : List He.DefD) (ex : PySem.W.Frag → Bool) (g : Addr → Option Obj) : He.AlD × Bool := (He.obsD fa fn (frX n g), ex (frX n g))
def hookX (n : Nat) (fa : List He.Fa) (fn : List He.DefD) (ex : PySem.W.Frag → Bool) : PySem.W.Hook where
  α := He.AlD × Bool
  obs := fun s => obX n fa fn ex s.heap.get?
  val := fun _ => (He.valD fn, true)
  says := fun _ h => ∃ K : PySem.W.Frag, K.In h ∧ He.SaysD fa fn K ∧ ex K = true
  of := fun _ _ e => ⟨_, He.frG_in, congrArg Prod.fst e, congrArg Prod.snd e⟩
  keeps := fun _ _ _ ⟨K, hK, c⟩ k => ⟨K, PySem.W.Frag.In.keeps hK k, c⟩
theorem obX_eq {n : Nat} {fa : List He.Fa} {fn : List He.DefD} {ex : PySem.W.Frag → Bool} {g : Addr → Option Obj} {s : Shared} (h : ∀ a, g a = s.heap.get? a) : obX n fa fn ex g = (hookX n fa fn ex).obs s := by
  have e : g = s.heap.get? := funext h
  rw [e] <;> rfl
/-- all of this -/
def exB (gl : List (Str × Gk)) (names frees : List Str) (cl : List (Str × Str × Str)) (K : PySem.W.Frag) : Bool := (gl.all fun g => match g.2 with
  | .con d => conB K g.1 d
  | _ => true) && (names.all fun x => (He.Fa.glo x).ok K) && (frees.all fun x => (He.Fa.free x).ok K) && cl.all fun q => clB K q.1 q.2.1 q.2.2
section
variable {K : PySem.W.Frag} {h : Heap} {mg : Str → Option Value} {gl : List (Str × Gk)} {names frees : List Str} {cl : List (Str × Str × Str)}
theorem ex_con (X : K.In h) (N : h.Ns mainGlobals mg) (e : exB gl names frees cl K = true) : ∀ x d, gl.lookup x = some (.con d) → ∃ v u, mg x = some u ∧ L2.RelV v u ∧ ∀ G H k, Rep K G H k d v [] := fun x d hl => by
  simp only [exB, Bool.and_eq_true, List.all_eq_true] at e
  exact conB_ok X N (e.1.1.1 _ (lookup_mem hl))
theorem ex_glo (X : K.In h) (N : h.Ns mainGlobals mg) (e : exB gl names frees cl K = true) : ∀ x, names.contains x = true → mg x = some (.ref (He.ga K x)) := fun x hx => by
  simp only [exB, Bool.and_eq_true, List.all_eq_true] at e
  exact He.glo_ok X N (e.1.1.2 x (by simpa using hx))
theorem ex_free (X : K.In h) (N : h.Ns mainGlobals mg) (e : exB gl names frees cl K = true) : ∀ x, frees.contains x = true → mg x = none := fun x hx => by
  simp only [exB, Bool.and_eq_true, List.all_eq_true] at e
  exact He.free_ok X N (e.1.2 x (by simpa using hx))
theorem ex_cls (e : exB gl names frees cl K = true) : ∀ q ∈ cl, clB K q.1 q.2.1 q.2.2 = true := fun q hq => by
  simp only [exB, Bool.and_eq_true, List.all_eq_true] at e
  exact e.2 q hq
end
/-- the walk of a law by its table -/
theorem walk_pg {p : Nat → Pg} {l : PySem.W.OpenLaw} {i : Nat} {q : Program} {loose : List Str} {XP : (Str → Option Value) → Heap → Prop} {fa : List He.Fa} {fn : List He.DefD} {ex : PySem.W.Frag → Bool} {nh : Nat} {d : DefRec} {x : Str} {fd : Fd} {src : Fs} (fuel depth : Nat)
    (hn : l.most = some 63) (hdf : d.params.defaults = []) (ok : (p fuel).ok = true) (hf : (p fuel).T.fns[i]? = some fd) (hs : (p fuel).srcs[i]? = some src) (hx : src.ps = [x]) (hd : d.name = src.name) (room : L2.Room (depth + 2) callerA)
    (world : ∀ (w : World) (K : PySem.W.Frag) (h : Heap) (mg : Str → Option Value), K.In h → h.Ns mainGlobals mg → He.SaysD fa fn K → ex K = true → ∀ base : Heap, K.In base → base.Ns mainGlobals mg → Wd (p fuel) l.prog w K mg base)
    (run : ∀ ns : List Int, ns.length ≤ 63 → ∃ k outs, callN (p fuel).T (p fuel).fuel depth i [⟨0, .scr ns⟩] = .ok k (.bl true) outs) :
    PySem.W.WalkO q loose XP (hookX nh fa fn ex).says l.row.toRowW d [] (fun f vs => PySem.call f vs) := by
  refine Att.attach_call hn hdf fun w s₀ s₁ mg mb f o pm cd doc a vs ns G Y ho hdd hcd hmg hobj hints hlen hg => ?_
  obtain ⟨K, KX, c, e⟩ := Y
  have W := world w K _ mg KX G.T.g c e
  have hl : 63 ≤ sizeLine := by rw [sizeLine_eq]; decide
  have W1 := W s₁.heap KX G.T.g
  have hglo := W1.glo i src hs
  rw [hd, hglo] at hmg
  cases hmg
  obtain ⟨_, _, fdt, fu, bd⟩ := W1.fn i src hs
  rw [hx] at bd
  have b1 := bd s₁ [.ref a] KX rfl
  refine law_callG (k := depth + 2) (fd := fdt) (x := x) (adr := (p fuel).adr K) (fld := (p fuel).fld) (chg := fd.chg) (f := callN (p fuel).T (p fuel).fuel depth i) KX G.T.g G.T.b G.T.builtins G.T.nolimit hg hobj hints (Nat.le_trans hlen hl) room (fun base kin ns => ?_) b1 (run ns hlen)
  obtain ⟨_, _, fdt', fu', fg, _, _⟩ := fns_all ok (W base kin ns) depth i fd src hf hs
  rw [hx] at fg
  exact funD_uniq fu' fu ▸ fg
end Ev
end
section
set_option linter.all false
namespace Ev
open PySem PyProof.Rows
/-! the body of a try -/
section
variable {cx : Ck} {F : Nat → List Sl → CR} {adr : Nat → Addr} {fld : Nat → Str} {X : L2.Cx} {sc : Scope} {W W' : L2.WX}
theorem Sy.toTr (S : Sy cx F adr fld X sc W) {pn : List (Addr × Obj)} {xe : Value → Shared → Prop} (tk : L2.Takes (X.tr pn xe) W') (po : PassesOwn (model X.prog X.w) X.A X.env xe) : Sy cx F adr fld (X.tr pn xe) sc W' :=
  ⟨⟨S.hN, S.nd, S.sc, S.calm, S.hu, S.gd, S.free, S.con, S.fns, S.mkw, S.isx, fun σ => L2.passAt tk σ⟩, S.fnT, po, tk, fun pn2 xe2 n c h {e} {p} {pos} {t} pe ns gl pl => S.exc pn2 xe2 n c h pe ns gl pl⟩
end
end Ev
end
section
set_option linter.all false
set_option maxHeartbeats 4000000
namespace Ev
open PySem PyProof.Rows
/-! the classes of a law's program -/
def bmOf (b : Nat) : List Value := if b = 92 then [.type "OverflowError", .type "ArithmeticError", .type "Exception", .type "BaseException", .type "object"] else if b = 91 then [.type "LookupError", .type "Exception", .type "BaseException", .type "object"] else [.type "ValueError", .type "Exception", .type "BaseException", .type "object"]
def bsOf (b : Nat) : String := if b = 92 then "OverflowError" else if b = 91 then "LookupError" else "ValueError"
def newOf (b : Nat) : String := if b = 92 then "OverflowError.__new__" else if b = 91 then "LookupError.__new__" else "ValueError.__new__"
def iniOf (b : Nat) : String := if b = 92 then "OverflowError.__init__" else if b = 91 then "LookupError.__init__" else "ValueError.__init__"
def baseOf (c : Nat) : Nat := if c = 116 then 92 else if c = 117 then 91 else 90
theorem fb_of (b : Nat) : ExcBaseFacts (bsOf b) (newOf b) (iniOf b) (bmOf b) := by
  unfold bsOf newOf iniOf bmOf
  split
  · exact PySem.F.excBase_OverflowError
  · split
    · exact PySem.F.excBase_LookupError
    · exact PySem.F.excBase_ValueError
theorem sf_of (b : Nat) : StoreFacts (bsOf b) (bmOf b) "object.__setattr__" "object" := by
  unfold bsOf bmOf
  split
  · exact PySem.F.store_OverflowError
  · split
    · exact PySem.F.store_LookupError
    · exact PySem.F.store_ValueError
/-- the class of the number c, by the written part: how it is made -/
def oxB (K : PySem.W.Frag) (c : Nat) : Bool := PySem.W.excInitIn K (cA K c) (bmOf (baseOf c)) (newOf (baseOf c)) && PySem.W.excOver K (cA K c) (bmOf (baseOf c)) && decide (PySem.W.findIn K (.ref (cA K c)) "__setattr__" = some (some (.builtin "object.__setattr__"))) &&
  decide (PySem.W.takerIn K (cA K c) (fldS (fldNo c)) = some none) && PySem.W.hasDictIn K (cA K c) && PySem.W.keepIn K (.ref (cA K c)) && decide (PySem.W.findIn K (.ref (cA K c)) "__init__" = some (some (.ref (He.ma K (cA K c) "__init__")))) && decide (PySem.W.typeIn K (.ref (He.ma K (cA K c) "__init__")) = some (.type "function"))
theorem oxB_ok {K : PySem.W.Frag} {c : Nat} (h : oxB K c = true) : OxC K (cA K c) (fldS (fldNo c)) (bsOf (baseOf c)) (newOf (baseOf c)) (iniOf (baseOf c)) (bmOf (baseOf c)) := by
  simp only [oxB, Bool.and_eq_true, decide_eq_true_eq] at h
  obtain ⟨⟨⟨⟨⟨⟨⟨h1, h2⟩, h3⟩, h4⟩, h5⟩, h6⟩, h7⟩, h8⟩ := h
  exact ⟨fb_of _, sf_of _, h1, h2, h3, h4, h5, h6, h7, h8⟩
/-- .. what it stands over -/
def biB (K : PySem.W.Frag) (b : Str) (n : Nat) : Bool :=
  decide (PySem.W.specialIn K (.ref (He.ga K b)) "__getattribute__" = some (some (.builtin "type.__getattribute__"))) && PySem.W.readsIn K (He.ga K b) (.type "type") &&
    (match PySem.W.findCls K (.ref (He.ga K b)) (.type "type") "__init__" with
    | some (.val (.builtin i)) => i == iniOf n
    | _ => false)
theorem bi_own {K : PySem.W.Frag} {mg : Str → Option Value} {b : Str} {n : Nat} (h : biB K b n = true) (hm : mg b = some (.ref (He.ga K b))) (nd : (b == ("__debug__" : Str)) = false) : BiC K mg b (bsOf n) (iniOf n) := by
  simp only [biB, Bool.and_eq_true, decide_eq_true_eq] at h
  obtain ⟨⟨h1, h2⟩, h3⟩ := h
  refine ⟨?_, nd, .inl ⟨_, hm, h1, h2, ?_⟩⟩
  · unfold iniOf
    split
    · decide +kernel
    · split <;> decide +kernel
  · split at h3
    · rename_i i e
      rw [beq_iff_eq] at h3
      rw [e, h3]
    · cases h3
theorem findCls_blt {K : PySem.W.Frag} (n : Nat) : PySem.W.findCls K (.type (bsOf n)) (.type "type") "__init__" = some (.val (.builtin (iniOf n))) := by
  unfold bsOf iniOf
  split
  · kernel_rfl
  · split
    · kernel_rfl
    · kernel_rfl
theorem bi_blt {K : PySem.W.Frag} {mg : Str → Option Value} {n : Nat} (hm : mg (bsOf n : Str) = none) : BiC K mg (bsOf n : Str) (bsOf n) (iniOf n) := by
  have hf := findCls_blt (K := K) n
  refine ⟨?_, ?_, .inr ⟨hm, ?_, ?_, ?_, ?_, hf⟩⟩
  · unfold iniOf
    split
    · decide +kernel
    · split <;> decide +kernel
  all_goals
    clear hf hm
    unfold bsOf
    split
    · first | decide +kernel | kernel_rfl
    · split
      · first | decide +kernel | kernel_rfl
      · first | decide +kernel | kernel_rfl
/-- an __init__ without a default, called with a keyword -/
theorem kw_plain {K : PySem.W.Frag} {x qual : Str} {params : Arguments} {body : List Stmt} {scope : Scope} {kws : List (Str × V)} {f : Addr} {fd : FuncData} {ps : List Str} {k : Str} (F : L2.FunD K x qual params body scope [] kws f fd)
    (h : ∀ (kV doc pm : Value) (an : Option Addr) (cdv ct u v : Value), bindArgs (PySem.W.fnOf x qual params body scope .none kV doc pm an cdv ct) ⟨[u], [(k, v)]⟩ = pure (ps.zip [u, v])) (s : Shared) (u v : Value) : BindsTo s fd ⟨[u], [(k, v)]⟩ (ps.zip [u, v]) := by
  obtain ⟨oc, od, dV, kV, doc, pm, an, cdv, ct, osl, rfl, lk, hcd, hD, hK⟩ := F.ex
  rcases hD with ⟨_, rfl⟩ | ⟨e, _⟩
  · exact .of_eq (h kV doc pm an cdv ct u v)
  · exact absurd rfl e
theorem mkW_of {P : Program} {w : World} {K : PySem.W.Frag} {mg : Str → Option Value} {base : Heap} {c : Nat} {b qual : Str} {params : Arguments} {body : List Stmt} {scope : Scope} {dvs : List V} {kws : List (Str × V)} {fd : FuncData} (ox : oxB K c = true) (xk : xkB K c = true) (glob : mg (clsN c) = some (.ref (cA K c)))
    (BC : BiC K mg b (bsOf (baseOf c)) (iniOf (baseOf c))) (fu : L2.FunD K "__init__" qual params body scope dvs kws (He.ma K (cA K c) "__init__") fd) (sc : L2.FnScope ["self", fldS (fldNo c)] ["self", fldS (fldNo c)] scope) (hi : inX (fldS (fldNo c)) b (msgS c) body = true) (hg : globN scope b = true)
    (hpf : plainN (fldS (fldNo c)) = true) (l1 : scope.names.lookup ("self" : Str) = some .local) (l2 : scope.names.lookup (fldS (fldNo c)) = some .local) (b1 : L2.Binds K fd ["self", fldS (fldNo c)] [])
    (b2 : ∀ (s' : Shared) (self u : Value), K.In s'.heap → BindsTo s' fd ⟨[self], [(fldS (fldNo c), u)]⟩ ([("self" : Str), fldS (fldNo c)].zip [self, u])) (b3 : c = 116 ∨ ∃ ds, L2.Vals [.non] ds ∧ L2.Binds K fd [("self" : Str), fldS (fldNo c)] ds) : MkW P w K mg base c :=
  ⟨glob, xk, _, _, _, _, fd, oxB_ok ox, initX_ok (oxB_ok ox) BC fu sc hi hg hpf l1 l2, b1, b2, b3⟩
/-- the checks of the written part -/
def exM (mks iks : List Nat) (K : PySem.W.Frag) : Bool := (mks.all fun c => oxB K c && xkB K c && (if baseOf c = 90 then biB K "PlayError" 90 else true)) && (exTab.all fun q => !xkB K q.1 || iks.all fun k => decide (PySem.W.kitOne K (.ref (cA K q.1)) (clsV K k) = some ((supN q.1).contains k)))
section
variable {K : PySem.W.Frag} {mks iks : List Nat}
theorem exM_mk (e : exM mks iks K = true) {c : Nat} (hc : mks.contains c = true) : oxB K c = true ∧ xkB K c = true ∧ (baseOf c = 90 → biB K "PlayError" 90 = true) := by
  simp only [exM, Bool.and_eq_true, List.all_eq_true] at e
  obtain ⟨⟨h1, h2⟩, h3⟩ := e.1 c (by simpa using hc)
  exact ⟨h1, h2, fun z => by rw [if_pos z] at h3; exact h3⟩
theorem exM_is (e : exM mks iks K = true) {k : Nat} (hk : iks.contains k = true) : ∀ c, xkB K c = true → PySem.W.kitOne K (.ref (cA K c)) (clsV K k) = some ((supN c).contains k) := by
  intro c xk
  simp only [exM, Bool.and_eq_true, List.all_eq_true, Bool.or_eq_true, Bool.not_eq_true', decide_eq_true_eq] at e
  have hl : (exTab.lookup c).isSome = true := by
    simp only [xkB, Bool.and_eq_true] at xk
    exact xk.2
  obtain ⟨q, hq⟩ := Option.isSome_iff_exists.mp hl
  rcases e.2 _ (lookN_mem hq) with z | z
  · rw [xk] at z; cases z
  · exact z k (by simpa using hk)
end
end Ev
end
section
set_option linter.all false
/-! Plain steps of the evaluator, for simp. -/
namespace Ev
theorem bind_ok {α β : Type} (a : α) (e : Ls) (f : α → Ls → R β) : R.bind (.ok a e) f = f a e := rfl
theorem toQ_okq {α : Type} (a : α) (e : Ls) (f : α → Ls → Q) : toQ (.ok a e) f = f a e := rfl
theorem at_zero (s : Option Sl) (e : Ls) : Ls.at (s :: e) 0 = s := rfl
theorem at_succ (s : Option Sl) (e : Ls) (i : Nat) : Ls.at (s :: e) (i + 1) = Ls.at e i := by simp [Ls.at]
theorem put_eq (e : Ls) (i k : Nat) (d : D) : Ls.put e i k d = e.set i (some ⟨k, d⟩) := rfl
theorem asO_n (k : Nat) (d : D) (e : Ls) : asO ⟨d, k, none⟩ e = (⟨k, d⟩, e) := rfl
theorem asF_n (k : Nat) (d : D) (e : Ls) : asF ⟨d, k, none⟩ e = (d, e) := rfl
theorem on_n (k : Nat) (d : D) (e : Ls) : Vw.on ⟨d, k, none⟩ e = none := rfl
theorem clash_none (ts : List Nat) : clash none ts = false := rfl
theorem bor_at {d : D} {k : Nat} {q : Nat × List Nat} {e : Ls} (h : d.atom = true) : Vw.bor ⟨d, k, some q⟩ e = false := by simp [Vw.bor, h]
theorem on_at {d : D} {k : Nat} {q : Nat × List Nat} {e : Ls} (h : d.atom = true) : Vw.on ⟨d, k, some q⟩ e = none := by simp [Vw.on, h]
theorem asF_at {d : D} {k : Nat} {q : Nat × List Nat} {e : Ls} (h : d.atom = true) : asF ⟨d, k, some q⟩ e = (d, e) := by simp [asF, bor_at h]
theorem asO_at {d : D} {k : Nat} {q : Nat × List Nat} {e : Ls} (h : d.atom = true) : asO ⟨d, k, some q⟩ e = (⟨9, d⟩, e) := by simp [asO, asF_at h, h, capK]
theorem on_int (i : Int) (k : Nat) (q : Nat × List Nat) (e : Ls) : Vw.on ⟨.int i, k, some q⟩ e = none := on_at rfl
theorem asF_int (i : Int) (k : Nat) (q : Nat × List Nat) (e : Ls) : asF ⟨.int i, k, some q⟩ e = (.int i, e) := asF_at rfl
theorem asO_int (i : Int) (k : Nat) (q : Nat × List Nat) (e : Ls) : asO ⟨.int i, k, some q⟩ e = (⟨9, .int i⟩, e) := asO_at rfl
theorem new_int (i : Int) (k : Nat) : new k (.int i) = ⟨.int i, 9, none⟩ := rfl
theorem on_str (i : List Nat) (k : Nat) (q : Nat × List Nat) (e : Ls) : Vw.on ⟨.str i, k, some q⟩ e = none := on_at rfl
theorem asF_str (i : List Nat) (k : Nat) (q : Nat × List Nat) (e : Ls) : asF ⟨.str i, k, some q⟩ e = (.str i, e) := asF_at rfl
theorem asO_str (i : List Nat) (k : Nat) (q : Nat × List Nat) (e : Ls) : asO ⟨.str i, k, some q⟩ e = (⟨9, .str i⟩, e) := asO_at rfl
theorem new_str (i : List Nat) (k : Nat) : new k (.str i) = ⟨.str i, 9, none⟩ := rfl
theorem new_bl (i : Bool) (k : Nat) : new k (.bl i) = ⟨.bl i, 9, none⟩ := rfl
theorem asO_bl (i : Bool) (k : Nat) (q : Nat × List Nat) (e : Ls) : asO ⟨.bl i, k, some q⟩ e = (⟨9, .bl i⟩, e) := asO_at rfl
theorem new_non (k : Nat) : new k .non = ⟨.non, 9, none⟩ := rfl
theorem new_tup (l : List D) (k : Nat) : new k (.tup l) = ⟨.tup l, k, none⟩ := rfl
theorem new_lst (l : List D) (k : Nat) : new k (.lst l) = ⟨.lst l, k, none⟩ := rfl
theorem new_dct (l m : List D) (k : Nat) : new k (.dct l m) = ⟨.dct l m, k, none⟩ := rfl
theorem ownAt_0 {e : Ls} {i : Nat} {p : List Nat} {d : D} (h : e.at i = some ⟨0, d⟩) : ownAt e i p = 0 := by simp [ownAt, h]
theorem ix_nat {n i : Nat} (h : i < n) : ixD n (i : Int) = some i := by simp [ixD, h]
theorem small_c {i : Int} (h : -(2 ^ 64) < i ∧ i < 2 ^ 64) : smallI i = true := by unfold smallI; exact decide_eq_true h
theorem q_add (s) (a b : Int) : primD s .add [.int a, .int b] = some (.int (a + b)) := rfl
theorem q_sub (s) (a b : Int) : primD s .sub [.int a, .int b] = some (.int (a - b)) := rfl
theorem q_mod (s) (a b : Int) : primD s .mod [.int a, .int b] = if 0 < b then some (.int (a % b)) else none := rfl
theorem q_fdiv (s) (a b : Int) : primD s .fdiv [.int a, .int b] = if 0 < b ∧ b < 1073741824 then some (.int (a / b)) else none := rfl
theorem q_mul (s) (a b : Int) : primD s .mul [.int a, .int b] = if smallI a || smallI b then some (.int (a * b)) else none := rfl
theorem q_pow (s) (a b : Int) : primD s .pow [.int a, .int b] = if 0 ≤ b ∧ b ≤ 1000000 ∧ smallI a then some (.int (a ^ b.toNat)) else if 0 ≤ b ∧ (PySem.Builtin.Int.intBits a : Int) * b ≤ 134217728 then some (.int (a ^ b.toNat)) else none := rfl
theorem q_adds (s) (a b : List Nat) : primD s .add [.str a, .str b] = if okLen (a.length + b.length) then some (.str (a ++ b)) else none := rfl
theorem q_muls (s) (a : List Nat) (b : Int) : primD s .mul [.str a, .int b] = if okLen (a.length * b.toNat) && smallB b then some (.str (List.replicate b.toNat a).flatten) else none := rfl
theorem q_addl (s) (a b : List D) : primD s .add [.lst a, .lst b] = if okLen (a.length + b.length) then some (.lst (a ++ b)) else none := rfl
theorem q_cmp (s) (c : Cmp) (a b : D) : primD s (.cmp c) [a, b] = (cmpD c a b).map .bl := rfl
theorem q_len (s) (a : D) : primD s .len [a] = lenD a := rfl
theorem q_tuple (s) (a : D) : primD s .tuple [a] = tupleD a := rfl
theorem q_sum (s) (a : D) : primD s .sum [a] = sumD a := rfl
theorem q_all (s) (a : D) : primD s .all [a] = allD a := rfl
theorem q_rev (s) (a : D) : primD s .rev [a] = revD a := rfl
theorem q_asI (s) (a : Int) : primD s .asInt [.int a] = some (.int a) := rfl
theorem q_asS (s) (a : List Nat) : primD s .asStr [.str a] = some (.str a) := rfl
theorem q_repr (s) (a : D) : primD s .repr [a] = (reprD a).map .str := rfl
theorem q_isi (s) (c : Nat) (a : D) : primD s (.isinst [c]) [a] = (if 90 ≤ c then isExc s c a else isinstD c a).map .bl := rfl
theorem fp_add (d : D) : freshP .add d = freshK d := rfl
theorem fp_sub (d : D) : freshP .sub d = freshK d := rfl
theorem fp_mul (d : D) : freshP .mul d = freshK d := rfl
theorem fp_fdiv (d : D) : freshP .fdiv d = freshK d := rfl
theorem fp_mod (d : D) : freshP .mod d = freshK d := rfl
theorem fp_pow (d : D) : freshP .pow d = freshK d := rfl
theorem fp_neg (d : D) : freshP .neg d = freshK d := rfl
theorem fp_cmp (c : Cmp) (d : D) : freshP (.cmp c) d = freshK d := rfl
theorem fp_slice (l h : Bool) (d : D) : freshP (.slice l h) d = freshK d := rfl
theorem fp_rev (d : D) : freshP .rev d = freshK d := rfl
theorem fp_len (d : D) : freshP .len d = freshK d := rfl
theorem fp_tuple (d : D) : freshP .tuple d = freshK d := rfl
theorem fp_list (d : D) : freshP .list d = freshK d := rfl
theorem fp_sum (d : D) : freshP .sum d = freshK d := rfl
theorem fp_all (d : D) : freshP .all d = freshK d := rfl
theorem fp_any (d : D) : freshP .any d = freshK d := rfl
theorem fp_repr (d : D) : freshP .repr d = freshK d := rfl
theorem fp_strOf (d : D) : freshP .strOf d = freshK d := rfl
theorem fp_isinst (cs : List Nat) (d : D) : freshP (.isinst cs) d = freshK d := rfl
theorem fp_join (d : D) : freshP .join d = freshK d := rfl
theorem fp_index (d : D) : freshP .index d = freshK d := rfl
theorem fp_asInt (d : D) : freshP .asInt d = freshK d := rfl
theorem fp_asStr (d : D) : freshP .asStr d = freshK d := rfl
theorem fp_fldOf (n : Nat) (d : D) : freshP (.fldOf n) d = 0 := rfl
theorem q_fld (s) (n : Nat) (a : D) : primD s (.fldOf n) [a] = fldD n a := rfl
theorem fld_exc (n c : Nat) (x : D) : fldD n (.exc c x) = if fldNo c = n then some x else none := rfl
theorem q_strOf (s) (a : D) : primD s .strOf [a] = (strD a).map .str := rfl
theorem is_exc (s : Nat → List Nat) (k c : Nat) (x : D) : isExc s k (.exc c x) = some ((s c).contains k) := rfl
theorem new_exc (c : Nat) (x : D) (k : Nat) : new k (.exc c x) = ⟨.exc c x, k, none⟩ := rfl
theorem q_join (s) (a b : D) : primD s .join [a, b] = joinD a b := rfl
theorem q_index (s) (a b : D) : primD s .index [a, b] = indexD a b := rfl
theorem q_cutl (s) (x : D) (i : Int) : primD s (.slice true false) [x, .int i] = sliceD x (some i) none := rfl
theorem q_cuth (s) (x : D) (i : Int) : primD s (.slice false true) [x, .int i] = sliceD x none (some i) := rfl
theorem subR_dct (ks vs : List D) (k : Nat) (src) (w : Vw) (e : Ls) : subR ⟨.dct ks vs, k, src⟩ w e = (match (if keyOk w.d then findK ks w.d else none) with
        | some j => (match vs[j]? with
          | some x => .ok ⟨x, 0, src.map fun q => (q.1, q.2 ++ [j])⟩ e
          | none => .bad "dict")
        | none => .bad "key") := rfl
theorem subR_tup (ds : List D) (k : Nat) (src) (n : Int) (k' : Nat) (src') (e : Ls) : subR ⟨.tup ds, k, src⟩ ⟨.int n, k', src'⟩ e = (match ixD ds.length n with
          | some j => .ok ⟨ds.getD j .non, 0, src.map fun q => (q.1, q.2 ++ [j])⟩ e
          | none => .bad "index") := rfl
theorem subR_lst (ds : List D) (k : Nat) (src) (n : Int) (k' : Nat) (src') (e : Ls) : subR ⟨.lst ds, k, src⟩ ⟨.int n, k', src'⟩ e = (match ixD ds.length n with
          | some j => .ok ⟨ds.getD j .non, 0, src.map fun q => (q.1, q.2 ++ [j])⟩ e
          | none => .bad "index") := rfl
theorem subR_str (s : List Nat) (k : Nat) (src) (n : Int) (k' : Nat) (src') (e : Ls) : subR ⟨.str s, k, src⟩ ⟨.int n, k', src'⟩ e = (match ixD s.length n with
          | some j => .ok ⟨.str [s.getD j 0], 9, none⟩ e
          | none => .bad "index") := rfl
end Ev
namespace Ev
open PySem
theorem forL_inv {body : Ls → Q} {put : D → Ls → Option Ls} (ds : List D) (I : Nat → Ls → Prop)
    (h : ∀ i d e, ds[i]? = some d → I i e → ∃ e1 e2, put d e = some e1 ∧ body e1 = .nx e2 ∧ I (i + 1) e2) (e : Ls) (h0 : I 0 e) :
    ∃ e', forL body put ds e = .nx e' ∧ I ds.length e' := by
  induction ds generalizing I e with
  | nil => exact ⟨e, rfl, h0⟩
  | cons d r ih =>
    obtain ⟨e1, e2, p1, p2, p3⟩ := h 0 d e rfl h0
    obtain ⟨e', q1, q2⟩ := ih (fun i e => I (i + 1) e) (fun i d e hd hi => h (i + 1) d e hd hi) e2 p3
    exact ⟨e', by simp only [forL, p1, p2, q1], q2⟩
theorem compL_inv {test : Ls → R Bool} {elt : Ls → R Sl} {put : D → Ls → Option Ls} (ds : List D) (I : Nat → Ls → Prop) (P : Nat → Sl → Prop)
    (h : ∀ i d e, ds[i]? = some d → I i e → ∃ e1 e2 x e3, put d e = some e1 ∧ test e1 = .ok true e2 ∧ elt e2 = .ok x e3 ∧ P i x ∧ I (i + 1) e3) (e : Ls) (acc : List Sl) (h0 : I 0 e) :
    ∃ xs e', compL test elt put ds acc e = .ok (acc.reverse ++ xs) e' ∧ I ds.length e' ∧ xs.length = ds.length ∧ ∀ i x, xs[i]? = some x → P i x := by
  induction ds generalizing I P e acc with
  | nil => exact ⟨[], e, by simp [compL], h0, rfl, by simp⟩
  | cons d r ih =>
    obtain ⟨e1, e2, x, e3, p1, p2, p3, p4, p5⟩ := h 0 d e rfl h0
    obtain ⟨xs, e', q1, q2, q3, q4⟩ := ih (fun i e => I (i + 1) e) (fun i e => P (i + 1) e) (fun i d e hd hi => h (i + 1) d e hd hi) e3 (x :: acc) p5
    refine ⟨x :: xs, e', ?_, q2, by simp [q3], ?_⟩
    · simp only [compL, p1, p2, p3, noRs, R.bind, if_true, q1]; simp
    · intro i y hy
      cases i with
      | zero => simp at hy; exact hy ▸ p4
      | succ i => exact q4 i y (by simpa using hy)
/-- a comprehension that changes nothing but its own slots -/
theorem compL_map {test : Ls → R Bool} {elt : Ls → R Sl} {put : D → Ls → Option Ls} (ds : List D) (I : Ls → Prop) (g : D → Option Sl)
    (h : ∀ d e, d ∈ ds → I e → ∃ e1, put d e = some e1 ∧ ((g d = none ∧ ∃ e2, test e1 = .ok false e2 ∧ I e2) ∨ ∃ e2 x e3, g d = some x ∧ test e1 = .ok true e2 ∧ elt e2 = .ok x e3 ∧ I e3)) (e : Ls) (acc : List Sl) (h0 : I e) :
    ∃ e', compL test elt put ds acc e = .ok (acc.reverse ++ ds.filterMap g) e' ∧ I e' := by
  induction ds generalizing e acc with
  | nil => exact ⟨e, by simp [compL], h0⟩
  | cons d r ih =>
    obtain ⟨e1, p1, ⟨pg, e2, p2, p3⟩ | ⟨e2, x, e3, pg, p2, p3, p4⟩⟩ := h d e (by simp) h0
    · obtain ⟨e', q1, q2⟩ := ih (fun d e hd hi => h d e (by simp [hd]) hi) e2 acc p3
      exact ⟨e', by simp only [compL, p1, p2, noRs, R.bind, if_false, Bool.false_eq_true, q1, List.filterMap_cons, pg], q2⟩
    · obtain ⟨e', q1, q2⟩ := ih (fun d e hd hi => h d e (by simp [hd]) hi) e3 (x :: acc) p4
      refine ⟨e', ?_, q2⟩
      simp only [compL, p1, p2, p3, noRs, R.bind, if_true, q1, List.filterMap_cons, pg]; simp
theorem clash_some (i : Nat) (ts : List Nat) : clash (some i) ts = ts.contains i := rfl
theorem clash_nil (o : Option Nat) : clash o [] = false := by cases o <;> rfl
theorem eqD_int (a b : Int) : eqD (.int a) (.int b) = some (decide (a = b)) := by
  have h : ∀ i : Int, SeqAt.shaped (D.int i).py = true := fun i => rfl
  unfold eqD
  rw [h, h]
  simp [D.plain, D.py, PyData.eqv, BEq.beq]
def okT (s : List Nat) : Bool := s.all (· < 1114112)
theorem eqD_str {a b : List Nat} (ha : okT a = true) (hb : okT b = true) : eqD (.str a) (.str b) = some (decide (a = b)) := by
  have h : ∀ i : List Nat, okT i = true → SeqAt.shaped (D.str i).py = true := fun i hi => by
    simpa [D.py, SeqAt.shaped, PyData.canLay0, PyData.strOk, PyData.depth, okT] using hi
  unfold eqD
  rw [h _ ha, h _ hb]
  simp [D.plain, D.py, PyData.eqv, BEq.beq]
end Ev
namespace Ev
theorem len_str (s : List Nat) : lenD (.str s) = some (.int s.length) := rfl
theorem len_tup (s : List D) : lenD (.tup s) = some (.int s.length) := rfl
theorem len_lst (s : List D) : lenD (.lst s) = some (.int s.length) := rfl
theorem in_str (c : Nat) (s : List Nat) : inD (.str [c]) (.str s) = some (decide (c ∈ s)) := rfl
theorem getD_map' {α β : Type} (f : α → β) (xs : List α) (r : Nat) (z : β) (y : α) (h : r < xs.length) : (xs.map f).getD r z = f (xs.getD r y) := by
  simp [List.getD, h]
theorem getD_mem {α : Type} (xs : List α) (r : Nat) (y : α) (h : r < xs.length) : xs.getD r y ∈ xs := by
  simp [List.getD, h]
end Ev
namespace Ev
def sgs (s : List Nat) : List D := s.map fun c => .str [c]
theorem sgs_len (s : List Nat) : (sgs s).length = s.length := List.length_map _
theorem itq_str (s : List Nat) : D.its (.str s) = some (sgs s) := rfl
theorem itq_tup (s : List D) : D.its (.tup s) = some s := rfl
theorem itq_lst (s : List D) : D.its (.lst s) = some s := rfl
def rngD (n : Nat) : List D := (List.range n).map fun (i : Nat) => .int (i : Int)
theorem rngD_len (n : Nat) : (rngD n).length = n := by simp [rngD]
theorem rngD_get {n i : Nat} {d : D} (h : (rngD n)[i]? = some d) : i < n ∧ d = .int i := by
  have hi : i < n := by
    have := (List.getElem?_eq_some_iff.mp h).1
    rwa [rngD_len] at this
  refine ⟨hi, ?_⟩
  simp [rngD, hi] at h
  exact h.symm
theorem rangeL_nat (n : Nat) (h : n ≤ 1000000) : rangeL [.int (n : Int)] = some (rngD n) := by
  have : (-(2 ^ 62) : Int) ≤ n ∧ (n : Int) < 2 ^ 62 := by omega
  simp only [rangeL, this, and_self, if_true, rngD, Int.toNat_natCast, Int.zero_add]
theorem sgs_getD {s : List Nat} {r : Nat} (h : r < s.length) : (sgs s).getD r .non = .str [s.getD r 0] := getD_map' _ _ _ _ _ h
end Ev
namespace Ev
theorem lt_int (a b : Int) : ltI (.int a) (.int b) = some (decide (a < b)) := rfl
theorem le_int (a b : Int) : leI (.int a) (.int b) = some (decide (a ≤ b)) := rfl
theorem tr_bl (b : Bool) : truth (.bl b) = some b := rfl
theorem tr_lst (b : List D) : truth (.lst b) = some (!b.isEmpty) := rfl
theorem tr_str (b : List Nat) : truth (.str b) = some (!b.isEmpty) := rfl
theorem fr_lst (b : List D) : freshK (.lst b) = 1 := rfl
theorem fr_tup (b : List D) : freshK (.tup b) = 0 := rfl
theorem fr_int (b : Int) : freshK (.int b) = 0 := rfl
theorem fr_str (b : List Nat) : freshK (.str b) = 0 := rfl
theorem fr_bl (b : Bool) : freshK (.bl b) = 0 := rfl
end Ev
namespace Ev
theorem execs_nx {F T G th ls w s r e e' q} (h : Ev.exec F T G th ls w s e = .nx e') (h2 : Ev.execs F T G th ls w r e' = q) : Ev.execs F T G th ls w (s :: r) e = q := by
  simp only [Ev.execs, h, h2]
theorem execs_rt {F T G th ls w s r e e' k d} (h : Ev.exec F T G th ls w s e = .ret k d e') : Ev.execs F T G th ls w (s :: r) e = .ret k d e' := by
  simp only [Ev.execs, h]
theorem execs_z {F T G th ls w e} : Ev.execs F T G th ls w [] e = .nx e := by
  simp only [Ev.execs]
end Ev
end
section
set_option linter.all false
/-! comprehensions -/
namespace Ev
theorem set_back {e0 : Ls} {j : Nat} : e0.set j (e0.at j) = e0 := by
  apply List.ext_getElem?
  intro i
  rw [List.getElem?_set]
  split
  · next h =>
    subst h
    split
    · next hl => simp [Ls.at, List.getElem?_eq_getElem hl]
    · next hl => rw [List.getElem?_eq_none (by omega)]
  · rfl
theorem ev_comp1 {F T G th} {j : Nat} {it : It} {cs : List Xp} {el : Xp} {e e0 : Ls} {ds : List D} (g : D → Option Sl) (hI : evI F T G th it e = .ok (ds, []) e0) (hl : ds.length ≤ 1000000) (hj : j < e0.length)
    (h : ∀ d ∈ ds, (g d = none ∧ evTs F T G th cs (e0.set j (some ⟨0, d⟩)) = .ok false (e0.set j (some ⟨0, d⟩))) ∨ ∃ x, g d = some x ∧ evTs F T G th cs (e0.set j (some ⟨0, d⟩)) = .ok true (e0.set j (some ⟨0, d⟩)) ∧ ((ev F T G th el (e0.set j (some ⟨0, d⟩))).bind fun v e => R.ok (asO v e).1 (asO v e).2) = .ok x (e0.set j (some ⟨0, d⟩))) :
    ∃ k, ev F T G th (.comp [j] (.v j 0) it cs el) e = .ok ⟨.lst ((ds.filterMap g).map (·.d)), k, none⟩ e0 := by
  obtain ⟨e', h1, s', h2⟩ := compL_map (test := fun e => evTs F T G th cs e) (elt := fun e => (ev F T G th el e).bind fun v e => R.ok (asO v e).fst (asO v e).snd)
    (put := fun d e => (Tg.v j 0).put 0 d [] (wipeE e [j])) ds (fun e => ∃ s, e = e0.set j s) g (by
      intro d e hd ⟨s, he⟩
      subst he
      refine ⟨e0.set j (some ⟨0, d⟩), ?_, ?_⟩
      · simp [Tg.put, wipeE, Ls.put, hj]
      · rcases h d hd with ⟨p1, p2⟩ | ⟨x, p1, p2, p3⟩
        · exact .inl ⟨p1, _, p2, _, rfl⟩
        · exact .inr ⟨_, x, _, p1, p2, p3, _, rfl⟩) e0 [] ⟨e0.at j, set_back.symm⟩
  subst h2
  refine ⟨min capK (minK (ds.filterMap g) + 1), ?_⟩
  simp only [ev, hI, bind_ok, List.any_nil, okLen, hl, decide_true, Tg.slots, List.all_cons, List.all_nil, List.contains_cons, beq_self_eq_true, Bool.true_or, Bool.and_true, Bool.not_true, Bool.or_false, Bool.false_eq_true, if_false, h1, List.reverse_nil, List.nil_append, new_lst, backE, List.set_set, set_back]
theorem ev_compI {F T G th} {j : Nat} {it : It} {el : Xp} {e e0 : Ls} {ds : List D} (I : Nat → Ls → Prop) (P : Nat → Sl → Prop) (hI : evI F T G th it e = .ok (ds, []) e0) (hl : ds.length ≤ 1000000) (h0 : I 0 e0)
    (h : ∀ i d e, ds[i]? = some d → I i e → j < e.length ∧ ∃ x e3, ((ev F T G th el (e.set j (some ⟨0, d⟩))).bind fun v e => R.ok (asO v e).1 (asO v e).2) = .ok x e3 ∧ P i x ∧ I (i + 1) e3) :
    ∃ (k : Nat) (xs : List Sl) (e' : Ls), ev F T G th (.comp [j] (.v j 0) it [] el) e = .ok ⟨.lst (xs.map (·.d)), k, none⟩ (e'.set j (e0.at j)) ∧ I ds.length e' ∧ xs.length = ds.length ∧ ∀ i (x : Sl), xs[i]? = some x → P i x := by
  obtain ⟨xs, e', h1, h2, h3, h4⟩ := compL_inv (test := fun e => evTs F T G th [] e) (elt := fun e => (ev F T G th el e).bind fun v e => R.ok (asO v e).fst (asO v e).snd)
    (put := fun d e => (Tg.v j 0).put 0 d [] (wipeE e [j])) ds I P (by
      intro i d e hd hi
      obtain ⟨hj, x, e3, p1, p2, p3⟩ := h i d e hd hi
      refine ⟨e.set j (some ⟨0, d⟩), e.set j (some ⟨0, d⟩), x, e3, ?_, rfl, p1, p2, p3⟩
      simp [Tg.put, wipeE, Ls.put, hj]) e0 [] h0
  refine ⟨min capK (minK xs + 1), xs, e', ?_, h2, h3, h4⟩
  simp only [ev, hI, bind_ok, List.any_nil, okLen, hl, decide_true, Tg.slots, List.all_cons, List.all_nil, List.contains_cons, beq_self_eq_true, Bool.true_or, Bool.and_true, Bool.not_true, Bool.or_false, Bool.false_eq_true, if_false, h1, List.reverse_nil, List.nil_append, new_lst, backE, List.set_set, set_back]
end Ev
end
section
set_option linter.all false
namespace Ev
theorem clamp_nat (n i : Nat) : clampI n (i : Int) = min i n := by
  have : ¬ ((i : Int) < 0) := by omega
  simp [clampI, this]
theorem cutL_hi {α : Type} (xs : List α) (i : Nat) : cutL xs none (some (i : Int)) = xs.take i := by
  simp only [cutL, Option.map_none, Option.map_some, Option.getD_none, Option.getD_some, clamp_nat, List.drop_zero, Nat.sub_zero]
  rcases Nat.le_total i xs.length with h | h
  · rw [Nat.min_eq_left h]
  · rw [Nat.min_eq_right h, List.take_of_length_le (Nat.le_refl _), List.take_of_length_le h]
theorem cutL_lo {α : Type} (xs : List α) (i : Nat) : cutL xs (some (i : Int)) none = xs.drop i := by
  simp only [cutL, Option.map_none, Option.map_some, Option.getD_none, Option.getD_some, clamp_nat]
  rcases Nat.le_total i xs.length with h | h
  · rw [Nat.min_eq_left h]; exact List.take_of_length_le (by simp)
  · rw [Nat.min_eq_right h, List.drop_eq_nil_of_le h]; simp
theorem sl_str (t : List Nat) (lo hi : Option Int) : sliceD (.str t) lo hi = some (.str (cutL t lo hi)) := rfl
theorem sl_scr (t : List Int) (lo hi : Option Int) : sliceD (.scr t) lo hi = some (.lst (cutL (t.map .int) lo hi)) := rfl
theorem rev_str (t : List Nat) : revD (.str t) = some (.str t.reverse) := rfl
theorem rev_lst (t : List D) : revD (.lst t) = some (.lst t.reverse) := rfl
theorem tup_lst (t : List D) : tupleD (.lst t) = some (.tup t) := rfl
theorem strs_map (l : List (List Nat)) : strs? (l.map .str) = some l := by
  induction l with
  | nil => rfl
  | cons a r ih => simp [strs?, ih]
theorem joinT_nil (l : List (List Nat)) : joinT [] l = l.flatten := by
  induction l with
  | nil => rfl
  | cons a r ih => cases r with
    | nil => simp [joinT]
    | cons b r => simp only [joinT, ih]; simp
theorem join_chars {s : List Nat} (h : s.length ≤ 1000000) : joinD (.str []) (.lst (sgs s)) = some (.str s) := by
  have e : sgs s = (s.map fun c => [c]).map .str := by simp [sgs]
  have e2 : ∀ s : List Nat, (s.map fun c => [c]).flatten = s := fun s => by induction s with
    | nil => rfl
    | cons a r ih => simp [ih]
  have e3 : ((s.map fun c => [c]).map List.length).sum = s.length := by
    clear h e
    induction s with
    | nil => rfl
    | cons a r ih => simp only [List.map_cons, List.sum_cons, ih, List.length_cons, List.length_nil]; omega
  simp only [joinD, e, strs_map, Option.bind_some, e3, List.length_nil, Nat.mul_zero, Nat.add_zero, okLen, h, decide_true, if_true, joinT_nil, e2]
theorem chars_of (p : Nat → Prop) (xs : List Sl) (h : ∀ (i : Nat) (x : Sl), xs[i]? = some x → ∃ c, x.d = D.str [c] ∧ p c) : ∃ s, xs.map (·.d) = sgs s ∧ s.length = xs.length ∧ ∀ c ∈ s, p c := by
  induction xs with
  | nil => exact ⟨[], rfl, rfl, by simp⟩
  | cons x r ih =>
    obtain ⟨c, hc, hp⟩ := h 0 x rfl
    obtain ⟨s, h1, h2, h3⟩ := ih fun i x hx => h (i + 1) x (by simpa using hx)
    exact ⟨c :: s, by simp [sgs, hc, h1], by simp [h2], by simpa using ⟨hp, h3⟩⟩
theorem okLen_le {n : Nat} (h : n ≤ 1000000) : okLen n = true := by simp [okLen, h]
theorem smallB_le {n : Int} (h : -1000000 ≤ n ∧ n ≤ 1000000) : smallB n = true := by unfold smallB; exact decide_eq_true (by omega)
theorem rep_one (n : Nat) (c : Nat) : (List.replicate n [c]).flatten = List.replicate n c := by simp
end Ev
namespace Ev
theorem append_top {ds : List D} {kx : Nat} {x : D} {e : Ls} {i k : Nat} (h : e.at i = some ⟨1, .lst ds⟩) (ho : ds.length ≤ 1000000) : appendR ⟨.lst ds, k, some (i, [])⟩ ⟨kx, x⟩ e = .ok ⟨.non, 9, none⟩ (e.set i (some ⟨1, .lst (ds ++ [x])⟩)) := by
  have h2 : 1 ≤ 0 + 1 + kx := by omega
  simp only [appendR, h, partAt, okLen, ho, dep, decide_true, h2, Nat.lt_add_one, Bool.and_self, if_true, putAt, put_eq, new_non, Nat.zero_lt_one]
theorem asF_top {ds : List D} {e : Ls} {i k : Nat} (h : e.at i = some ⟨1, .lst ds⟩) : asF ⟨.lst ds, k, some (i, [])⟩ e = (.lst ds, e.set i (some ⟨0, .lst ds⟩)) := by
  simp [asF, Vw.bor, D.atom, ownAt, h, dep, put_eq]
theorem asF_tup0 {d : D} {e : Ls} {i k : Nat} {p : List Nat} {z : D} (h : e.at i = some ⟨0, z⟩) : asF ⟨d, k, some (i, p)⟩ e = (d, e) := by
  simp [asF, Vw.bor, ownAt, h]
theorem on_0 {d : D} {e : Ls} {i k : Nat} {p : List Nat} {z : D} (h : e.at i = some ⟨0, z⟩) : Vw.on ⟨d, k, some (i, p)⟩ e = none := by
  simp [Vw.on, ownAt, h]
theorem asO_0 {d : D} {e : Ls} {i k : Nat} {p : List Nat} {z : D} (h : e.at i = some ⟨0, z⟩) : asO ⟨d, k, some (i, p)⟩ e = (⟨if d.atom then 9 else 0, d⟩, e) := by
  simp [asO, asF_tup0 h, capK]
theorem isl (ds : List D) : isLst (.lst ds) = true := rfl
theorem mn1 : min 9 10 = 9 := rfl
theorem mn2 : min 9 1 = 1 := rfl
theorem of_all {β : Type} (f : β → D) (p : β → Prop) (xs : List Sl) (h : ∀ (i : Nat) (x : Sl), xs[i]? = some x → ∃ c, x.d = f c ∧ p c) : ∃ s : List β, xs.map (·.d) = s.map f ∧ s.length = xs.length ∧ ∀ c ∈ s, p c := by
  induction xs with
  | nil => exact ⟨[], rfl, rfl, by simp⟩
  | cons x r ih =>
    obtain ⟨c, hc, hp⟩ := h 0 x rfl
    obtain ⟨s, h1, h2, h3⟩ := ih fun i x hx => h (i + 1) x (by simpa using hx)
    exact ⟨c :: s, by simp [hc, h1], by simp [h2], by simpa using ⟨hp, h3⟩⟩
def rowD (r : List Nat) : D := .tup (r.map fun (n : Nat) => .int (n : Int))
def rowsD (r : List (List Nat)) : D := .tup (r.map rowD)
def outD (r : List (List Nat)) : D := .tup (r.map .str)
def outsD (r : List (List (List Nat))) : D := .tup (r.map outD)
end Ev
end
section
set_option linter.all false
namespace Ev
theorem atq_tup (l : List D) : D.atom (.tup l) = false := rfl
theorem atq_lst (l : List D) : D.atom (.lst l) = false := rfl
theorem dep_nil (d : D) : dep d [] = 0 := by unfold dep; rfl
theorem own_eq (e : Ls) (i : Nat) (p : List Nat) : ownAt e i p = (match e.at i with
  | some s => s.k - dep s.d p
  | none => 0) := rfl
theorem asF_tupq (l : List D) (k i : Nat) (p : List Nat) (e : Ls) : asF ⟨.tup l, k, some (i, p)⟩ e = (.tup l, if 0 < ownAt e i p then (match e.at i with
  | some s => e.set i (some ⟨0, s.d⟩)
  | none => e) else e) := by
  by_cases h : 0 < ownAt e i p
  · simp only [asF, Vw.bor, atq_tup, h, decide_true, Bool.not_false, Bool.and_self, if_true, put_eq]
    cases e.at i <;> rfl
  · simp only [asF, Vw.bor, atq_tup, h, decide_false, Bool.not_false, Bool.and_false, Bool.false_eq_true, if_false]
theorem asF_lstq (l : List D) (k i : Nat) (p : List Nat) (e : Ls) : asF ⟨.lst l, k, some (i, p)⟩ e = (.lst l, if 0 < ownAt e i p then (match e.at i with
  | some s => e.set i (some ⟨0, s.d⟩)
  | none => e) else e) := by
  by_cases h : 0 < ownAt e i p
  · simp only [asF, Vw.bor, atq_lst, h, decide_true, Bool.not_false, Bool.and_self, if_true, put_eq]
    cases e.at i <;> rfl
  · simp only [asF, Vw.bor, atq_lst, h, decide_false, Bool.not_false, Bool.and_false, Bool.false_eq_true, if_false]
theorem asO_tupq (l : List D) (k i : Nat) (p : List Nat) (e : Ls) : asO ⟨.tup l, k, some (i, p)⟩ e = (⟨0, .tup l⟩, (asF ⟨.tup l, k, some (i, p)⟩ e).2) := by
  rw [asF_tupq]; simp only [asO, asF_tupq, atq_tup, Bool.false_eq_true, if_false]
theorem asO_lstq (l : List D) (k i : Nat) (p : List Nat) (e : Ls) : asO ⟨.lst l, k, some (i, p)⟩ e = (⟨0, .lst l⟩, (asF ⟨.lst l, k, some (i, p)⟩ e).2) := by
  rw [asF_lstq]; simp only [asO, asF_lstq, atq_lst, Bool.false_eq_true, if_false]
theorem on_tupq (l : List D) (k i : Nat) (p : List Nat) (e : Ls) : Vw.on ⟨.tup l, k, some (i, p)⟩ e = if 0 < ownAt e i p then some i else none := by
  simp [Vw.on, atq_tup]
theorem on_lstq (l : List D) (k i : Nat) (p : List Nat) (e : Ls) : Vw.on ⟨.lst l, k, some (i, p)⟩ e = if 0 < ownAt e i p then some i else none := by
  simp [Vw.on, atq_lst]
theorem all_true (l : List D) (h : ∀ d ∈ l, d = .bl true) : allD (.lst l) = some (.bl true) := by
  have : bools? l = some (List.replicate l.length true) := by
    induction l with
    | nil => rfl
    | cons a r ih =>
      obtain rfl := h a (by simp)
      simp only [bools?, ih fun d hd => h d (by simp [hd]), Option.map_some, List.length_cons, List.replicate_succ]
  simp only [allD, this, Option.map_some]
  simp
theorem ev_all {F T G th} {j : Nat} {it : It} {el c : Xp} {e e0 : Ls} {ds : List D} (hc : c = .comp [j] (.v j 0) it [] el) (hI : evI F T G th it e = .ok (ds, []) e0) (hl : ds.length ≤ 1000000) (hj : j < e0.length)
    (h : ∀ d ∈ ds, ((ev F T G th el (e0.set j (some ⟨0, d⟩))).bind fun v e => R.ok (asO v e).1 (asO v e).2) = .ok ⟨9, .bl true⟩ (e0.set j (some ⟨0, d⟩))) :
    ∃ k bs, ev F T G th c e = .ok ⟨.lst bs, k, none⟩ e0 ∧ allD (.lst bs) = some (.bl true) := by
  obtain ⟨k, h1⟩ := ev_comp1 (F := F) (T := T) (G := G) (th := th) (cs := []) (el := el) (fun _ => some ⟨9, .bl true⟩) hI hl hj (fun d hd => .inr ⟨_, rfl, rfl, h d hd⟩)
  subst hc
  exact ⟨k, _, h1, all_true _ (by simp)⟩
theorem ix_40 : ixD 4 0 = some 0 := rfl
theorem ix_41 : ixD 4 1 = some 1 := rfl
theorem ix_42 : ixD 4 2 = some 2 := rfl
theorem ix_43 : ixD 4 3 = some 3 := rfl
end Ev
end
section
set_option linter.all false
namespace Ev
open PySem PySem.StrLaws PySem.Builtin PySem.Builtin.Str
theorem occ_all (s sub : Str) (hi limit : Nat) : ∀ (l : List Nat) (st : Array Nat × Nat), (∀ x ∈ st.fst.toList, x + sub.length ≤ hi) → ∀ x ∈ (forIn l st (occBody s sub hi limit)).run.fst.toList, x + sub.length ≤ hi
  | [], st, h => h
  | a :: l, st, h => by
    rw [List.forIn_cons]
    unfold occBody
    split
    · rename_i hc
      refine occ_all s sub hi limit l _ ?_
      intro x hx
      simp only [Array.toList_push, List.mem_append, List.mem_singleton] at hx
      rcases hx with hx | hx
      · exact h x hx
      · subst hx; exact hc.1.2
    · exact occ_all s sub hi limit l _ h
theorem findS_ok {c : Nat} {s : List Nat} (h : c ∈ s) : ∃ i, findS [c] s = some i ∧ i < s.length := by
  have h1 := found_one ⟨s.toArray⟩ c
  have h2 : (⟨s.toArray⟩ : Str).length = s.length := by simp [Str.length]
  have hm : decide (c ∈ (⟨s.toArray⟩ : Str).cps.toList) = true := decide_eq_true (by simpa using h)
  rw [hm, h2] at h1
  unfold findS
  cases ho : occurrences ⟨s.toArray⟩ ⟨[c].toArray⟩ 0 s.length 1 with
  | nil =>
    have e : (⟨[c].toArray⟩ : Str) = ⟨#[c]⟩ := rfl
    rw [e] at ho
    rw [ho] at h1
    simp at h1
  | cons i r =>
    refine ⟨i, by simp, ?_⟩
    rw [occ_eq] at ho
    have := occ_all ⟨s.toArray⟩ ⟨[c].toArray⟩ s.length 1 (List.range' 0 (s.length + 1 - 0)) (#[], 0) (by simp) i (by rw [ho]; simp)
    have e : (⟨[c].toArray⟩ : Str).length = 1 := rfl
    rw [e] at this
    omega
/-- where a sign stands -/
def ix (s : List Nat) (c : Nat) : Nat := (findS [c] s).getD 0
theorem ix_ok {c : Nat} {s : List Nat} (h : c ∈ s) : indexD (.str s) (.str [c]) = some (.int (ix s c : Nat)) ∧ ix s c < s.length := by
  obtain ⟨i, h1, h2⟩ := findS_ok h
  simp only [indexD, ix, h1, Option.map_some, Option.getD_some]
  exact ⟨trivial, h2⟩
def stp (rows : List (List Nat)) (r c : Nat) : Nat := (rows.getD r []).getD c 0
def runq (rows : List (List Nat)) (ns : List Nat) : Nat := ns.foldl (stp rows) 0
theorem run_nil (rows : List (List Nat)) : runq rows [] = 0 := rfl
theorem run_snoc (rows : List (List Nat)) (ns : List Nat) (c : Nat) : runq rows (ns ++ [c]) = stp rows (runq rows ns) c := by simp [runq]
theorem run_take {rows : List (List Nat)} {ns : List Nat} {i : Nat} (h : i < ns.length) : runq rows (ns.take (i + 1)) = stp rows (runq rows (ns.take i)) (ns.getD i 0) := by
  rw [List.take_succ_eq_append_getElem h, run_snoc]
  simp [h]
structure Rows (n l : Nat) (rs : List (List Nat)) : Prop where
  len : rs.length = l
  row : ∀ r ∈ rs, r.length = n ∧ ∀ x ∈ r, x < l
theorem stp_lt {n l : Nat} {rs : List (List Nat)} (h : Rows n l rs) {r c : Nat} (hr : r < l) (hc : c < n) : stp rs r c < l := by
  have h1 := h.row _ (getD_mem rs r [] (by rw [h.len]; exact hr))
  exact h1.2 _ (getD_mem _ _ _ (by rw [h1.1]; exact hc))
theorem run_lt {n l : Nat} {rs : List (List Nat)} (h : Rows n l rs) (hl : 0 < l) (ns : List Nat) (hn : ∀ x ∈ ns, x < n) : runq rs ns < l := by
  suffices H : ∀ (ns : List Nat) (a : Nat), (∀ x ∈ ns, x < n) → a < l → ns.foldl (stp rs) a < l from H ns 0 hn hl
  intro ns
  induction ns with
  | nil => exact fun a _ ha => ha
  | cons c r ih => exact fun a hn ha => ih _ (fun x hx => hn x (by simp [hx])) (stp_lt h ha (hn c (by simp)))
theorem row_facts {n l : Nat} {rs : List (List Nat)} (h : Rows n l rs) {r c : Nat} (hr : r < l) (hc : c < n) :
    ixD rs.length (r : Int) = some r ∧ (rs.map rowD).getD r .non = .tup ((rs.getD r []).map fun (n : Nat) => .int (n : Int)) ∧ ixD (rs.getD r []).length (c : Int) = some c ∧
      ((rs.getD r []).map fun (n : Nat) => D.int (n : Int)).getD c .non = .int (stp rs r c : Nat) := by
  have hl : r < rs.length := by rw [h.len]; exact hr
  have h1 := h.row _ (getD_mem rs r [] hl)
  have h2 : c < (rs.getD r []).length := by rw [h1.1]; exact hc
  exact ⟨ix_nat hl, getD_map' rowD rs r _ [] hl, ix_nat h2, getD_map' (fun (n : Nat) => D.int (n : Int)) _ c _ 0 h2⟩
end Ev
end
section
set_option linter.all false
namespace Ev
open PySem PySem.StrLaws PySem.Builtin PySem.Builtin.Str
/-! what repr hands back: its length and its signs -/
def okS (t : Str) : Prop := ∀ c ∈ t.cps.toList, c < 1114112
theorem okS_app {a b : Str} (ha : okS a) (hb : okS b) : okS (a ++ b) := by
  intro c hc
  have : (a ++ b).cps.toList = a.cps.toList ++ b.cps.toList := by
    show (a.cps ++ b.cps).toList = _
    simp
  rw [this] at hc
  rcases List.mem_append.mp hc with h | h
  · exact ha c h
  · exact hb c h
theorem okS_join {s : Str} (hs : okS s) : ∀ ts : List Str, (∀ t ∈ ts, okS t) → okS (Str.join s ts)
  | [], _ => by intro c hc; have : (Str.join s []).cps.toList = [] := rfl; rw [this] at hc; cases hc
  | [x], h => h x (by simp)
  | x :: y :: r, h => okS_app (okS_app (h x (by simp)) hs) (okS_join hs (y :: r) (fun t ht => h t (by simp [ht])))
theorem dig_lt : ∀ k < 16, (Nat.digitChar k).toNat < 1114112 := by decide
theorem digs_lt : ∀ (fuel n : Nat) (ds : List Char), (∀ c ∈ ds, c.toNat < 1114112) → ∀ c ∈ Nat.toDigitsCore 16 fuel n ds, c.toNat < 1114112
  | 0, n, ds, h => by simpa [Nat.toDigitsCore] using h
  | fuel + 1, n, ds, h => by
    unfold Nat.toDigitsCore
    have h2 : ∀ c ∈ Nat.digitChar (n % 16) :: ds, c.toNat < 1114112 := by
      intro c hc
      rcases List.mem_cons.mp hc with rfl | hc
      · exact dig_lt _ (Nat.mod_lt _ (by decide))
      · exact h c hc
    by_cases h0 : n / 16 = 0
    · simp only [h0, if_true]; exact h2
    · simp only [h0, if_false]; exact digs_lt fuel _ _ h2
theorem hex_lt (w c : Nat) : ∀ x ∈ List.replicate (w - ((Nat.toDigits 16 c).map Char.toNat).length) 48 ++ (Nat.toDigits 16 c).map Char.toNat, x < 1114112 := by
  intro x hx
  rcases List.mem_append.mp hx with h | h
  · rw [(List.mem_replicate.mp h).2]; decide
  · obtain ⟨d, hd, rfl⟩ := List.mem_map.mp h
    exact digs_lt _ _ [] (by simp) d hd
theorem reprChar_lt (q c : Nat) (hc : c < 1114112) : ∀ x ∈ reprChar q c, x < 1114112 := by
  have h8 := hex_lt 8 c
  have h4 := hex_lt 4 c
  have h2 := hex_lt 2 c
  unfold reprChar
  dsimp only
  intro x hx
  repeat' split at hx
  all_goals simp only [List.mem_append, List.mem_cons, List.not_mem_nil, or_false] at hx h8 h4 h2
  all_goals first | omega | (rcases hx with hx | hx <;> first | omega | exact h2 x hx | exact h4 x hx | exact h8 x hx)
theorem okS_repr {x : Str} (h : okS x) : okS (reprText x) := by
  have hq : reprQuote x < 1114112 := by unfold reprQuote; split <;> decide
  have key : ∀ (l : List Nat) (acc : Array Nat), (∀ c ∈ l, c < 1114112) → (∀ c ∈ acc.toList, c < 1114112) → ∀ c ∈ (l.foldl (fun out c => out ++ (reprChar (reprQuote x) c).toArray) acc).toList, c < 1114112 := by
    intro l
    induction l with
    | nil => exact fun acc _ ha => ha
    | cons a r ih =>
      intro acc hl ha
      simp only [List.foldl_cons]
      refine ih _ (fun c hc => hl c (by simp [hc])) ?_
      intro c hc
      simp only [Array.toList_append, List.mem_append] at hc
      rcases hc with hc | hc
      · exact ha c hc
      · exact reprChar_lt _ a (hl a (by simp)) c (by simpa using hc)
  intro c hc
  unfold reprText at hc
  simp only [Array.toList_push, List.mem_append, List.mem_singleton] at hc
  rcases hc with hc | hc
  · rw [← Array.foldl_toList] at hc
    exact key _ _ h (by intro c hc; simp at hc; omega) c hc
  · omega
structure Gd (d : D) (n B : Nat) : Prop where
  pl : d.plain = true
  sh : d.py.showable = true
  nd : d.py.hasDict = false
  dp : d.py.depth ≤ n
  ln : (PyData.shown d.py).length ≤ B
  ok : okS (PyData.shown d.py)
theorem Gd.mono {d : D} {n m B C : Nat} (h : Gd d n B) (hn : n ≤ m) (hB : B ≤ C) : Gd d m C := ⟨h.pl, h.sh, h.nd, Nat.le_trans h.dp hn, Nat.le_trans h.ln hB, h.ok⟩
theorem Gd.str {s : List Nat} (h : ∀ c ∈ s, c < 1114112) : Gd (.str s) 0 (10 * s.length + 2) where
  pl := rfl
  sh := by simp [D.py, PyData.showable]
  nd := by simp [D.py, PyData.hasDict]
  dp := by simp [D.py, PyData.depth]
  ln := by
    have := reprText_len ⟨s.toArray⟩ (fun c hc => Nat.lt_trans (h c (by simpa using hc)) (by decide))
    have e : (⟨s.toArray⟩ : Str).length = s.length := by simp [Str.length]
    rw [e] at this
    simpa [D.py, PyData.shown] using this
  ok := by
    have := okS_repr (x := ⟨s.toArray⟩) (fun c hc => h c (by simpa using hc))
    simpa [D.py, PyData.shown] using this
theorem small_ints : ∀ i : Nat, i < 60 → decide ((PyData.shown (.int (i : Int))).length ≤ 2) = true ∧ ((PyData.shown (.int (i : Int))).cps.toList.all (· < 1114112)) = true ∧ PyData.showable (.int (i : Int)) = true := by
  decide +kernel
theorem Gd.int {i : Nat} (h : i < 60) : Gd (.int (i : Int)) 0 2 where
  pl := rfl
  sh := (small_ints i h).2.2
  nd := by simp [D.py, PyData.hasDict]
  dp := by simp [D.py, PyData.depth]
  ln := of_decide_eq_true (small_ints i h).1
  ok := fun c hc => of_decide_eq_true (List.all_eq_true.mp (small_ints i h).2.1 c hc)
theorem piled_le (B : Nat) : ∀ (l : List D), (∀ x ∈ l, (PyData.shown x.py).length ≤ B) → piled (PyData.shownAll (D.pys l)) ≤ (B + 2) * l.length
  | [], _ => by simp [D.pys, PyData.shownAll, piled]
  | x :: r, h => by
    have ih := piled_le B r (fun y hy => h y (by simp [hy]))
    have hx := h x (by simp)
    simp only [D.pys, PyData.shownAll, piled_cons, List.length_cons, Nat.mul_add]
    omega
theorem Gd.tup {l : List D} {n B : Nat} (h : ∀ x ∈ l, Gd x n B) : Gd (.tup l) (n + 1) ((B + 2) * l.length + 3) where
  pl := by
    simp only [D.plain]
    induction l with
    | nil => rfl
    | cons a r ih => simp only [D.plains, (h a (by simp)).pl, ih fun x hx => h x (by simp [hx]), Bool.and_self]
  sh := by
    simp only [D.py, PyData.showable]
    induction l with
    | nil => rfl
    | cons a r ih => simp only [D.pys, PyData.showableAll, (h a (by simp)).sh, ih fun x hx => h x (by simp [hx]), Bool.and_self]
  nd := by
    simp only [D.py, PyData.hasDict]
    induction l with
    | nil => rfl
    | cons a r ih => simp only [D.pys, PyData.hasDictAll, (h a (by simp)).nd, ih fun x hx => h x (by simp [hx]), Bool.or_self]
  dp := by
    simp only [D.py, PyData.depth]
    suffices H : PyData.depthAll (D.pys l) ≤ n by omega
    induction l with
    | nil => exact Nat.zero_le _
    | cons a r ih =>
      have h1 := (h a (by simp)).dp
      have h2 := ih fun x hx => h x (by simp [hx])
      simp only [D.pys, PyData.depthAll]
      omega
  ln := by
    have hp := piled_le B l (fun x hx => (h x hx).ln)
    have e : (PyData.shown (D.tup l).py) = tupleText (PyData.shownAll (D.pys l)) := by simp only [D.py, PyData.shown]
    rw [e]
    unfold tupleText
    rw [strLen_append, strLen_append]
    have e1 : ((("(" : String) : Str)).length = 1 := rfl
    have e3 : ∀ b : Bool, (((if b then ",)" else ")" : String) : Str)).length ≤ 2 := by decide
    have e3' := e3 ((PyData.shownAll (D.pys l)).length == 1)
    rw [e1]
    by_cases hl : PyData.shownAll (D.pys l) = []
    · rw [hl] at hp ⊢
      have : (Str.join ", " []).length = 0 := rfl
      rw [this]
      rw [hl] at e3'
      omega
    · have := join_length_add _ hl
      omega
  ok := by
    have e : (PyData.shown (D.tup l).py) = tupleText (PyData.shownAll (D.pys l)) := by simp only [D.py, PyData.shown]
    rw [e]
    unfold tupleText
    refine okS_app (okS_app (by intro c hc; have : c ∈ [40] := hc; simp at this; omega) (okS_join (by intro c hc; have : c ∈ [44, 32] := hc; simp at this; omega) _ ?_)) ?_
    · intro t ht
      clear e
      induction l with
      | nil => cases ht
      | cons a r ih =>
        simp only [D.pys, PyData.shownAll, List.mem_cons] at ht
        rcases ht with rfl | ht
        · exact (h a (by simp)).ok
        · exact ih (fun x hx => h x (by simp [hx])) ht
    · split
      · intro c hc; have : c ∈ [44, 41] := hc; simp at this; omega
      · intro c hc; have : c ∈ [41] := hc; simp at this; omega
theorem reprD_tup {l : List D} (h : Gd (.tup l) 100 1000000) : ∃ s, reprD (.tup l) = some s ∧ okT s = true := by
  refine ⟨(PyData.shown (D.tup l).py).cps.toList, ?_, ?_⟩
  · simp only [reprD, h.pl, h.sh, h.nd, h.dp, h.ln, decide_true, Bool.not_false, Bool.and_self, if_true]
  · exact List.all_eq_true.mpr fun c hc => decide_eq_true (h.ok c hc)
theorem reprD_ints : ∀ i : Nat, i < 60 → decide ((i : Int).natAbs.log2 < 1920 ∧ (toString (i : Int) : Str).cps.toList.length ≤ 1000000) = true ∧ okT ((toString (i : Int) : Str).cps.toList) = true := by
  decide +kernel
theorem reprD_int {i : Nat} (h : i < 60) : ∃ s, reprD (.int (i : Int)) = some s ∧ okT s = true := by
  refine ⟨(toString (i : Int) : Str).cps.toList, ?_, (reprD_ints i h).2⟩
  simp only [reprD]
  rw [if_pos (of_decide_eq_true (reprD_ints i h).1)]
end Ev
end
section
set_option linter.all false
namespace Ev
theorem asF_scrq (l : List Int) (k i : Nat) (p : List Nat) (e : Ls) : asF ⟨.scr l, k, some (i, p)⟩ e = (.scr l, if 0 < ownAt e i p then (match e.at i with
  | some s => e.set i (some ⟨0, s.d⟩)
  | none => e) else e) := by
  have ha : D.atom (.scr l) = false := rfl
  by_cases h : 0 < ownAt e i p
  · simp only [asF, Vw.bor, ha, h, decide_true, Bool.not_false, Bool.and_self, if_true, put_eq]
    cases e.at i <;> rfl
  · simp only [asF, Vw.bor, ha, h, decide_false, Bool.not_false, Bool.and_false, Bool.false_eq_true, if_false]
theorem on_scrq (l : List Int) (k i : Nat) (p : List Nat) (e : Ls) : Vw.on ⟨.scr l, k, some (i, p)⟩ e = if 0 < ownAt e i p then some i else none := by
  have ha : D.atom (.scr l) = false := rfl
  simp [Vw.on, ha]
theorem sum_scr (l : List Int) : sumD (.scr l) = some (.int l.sum) := rfl
theorem enumq_get : ∀ (ds : List D) (m i : Nat) (x : D), (enumL m ds)[i]? = some x → ∃ d, ds[i]? = some d ∧ x = .tup [.int ((m + i : Nat) : Int), d]
  | [], m, i, x, h => by simp [enumL] at h
  | d :: r, m, 0, x, h => ⟨d, rfl, by simp [enumL] at h; exact h.symm⟩
  | d :: r, m, i + 1, x, h => by
    obtain ⟨y, h1, h2⟩ := enumq_get r (m + 1) i x (by simpa [enumL] using h)
    refine ⟨y, by simpa using h1, ?_⟩
    rw [h2]
    have : m + 1 + i = m + (i + 1) := by omega
    rw [this]
end Ev
end
section
set_option linter.all false
/-! exceptions, general values -/
namespace Ev
theorem atq_exc (c : Nat) (x : D) : D.atom (.exc c x) = false := rfl
theorem asF_excq (c : Nat) (x : D) (k i : Nat) (p : List Nat) (e : Ls) : asF ⟨.exc c x, k, some (i, p)⟩ e = (.exc c x, if 0 < ownAt e i p then (match e.at i with
  | some s => e.set i (some ⟨0, s.d⟩)
  | none => e) else e) := by
  by_cases h : 0 < ownAt e i p
  · simp only [asF, Vw.bor, atq_exc, h, decide_true, Bool.not_false, Bool.and_self, if_true, put_eq]
    cases e.at i <;> rfl
  · simp only [asF, Vw.bor, atq_exc, h, decide_false, Bool.not_false, Bool.and_false, Bool.false_eq_true, if_false]
theorem asO_excq (c : Nat) (x : D) (k i : Nat) (p : List Nat) (e : Ls) : asO ⟨.exc c x, k, some (i, p)⟩ e = (⟨0, .exc c x⟩, (asF ⟨.exc c x, k, some (i, p)⟩ e).2) := by
  rw [asF_excq]; simp only [asO, asF_excq, atq_exc, Bool.false_eq_true, if_false]
theorem on_excq (c : Nat) (x : D) (k i : Nat) (p : List Nat) (e : Ls) : Vw.on ⟨.exc c x, k, some (i, p)⟩ e = if 0 < ownAt e i p then some i else none := by
  simp [Vw.on, atq_exc]
theorem asF_g {d : D} {k i : Nat} {p : List Nat} {e : Ls} (h : ownAt e i p = 0) : asF ⟨d, k, some (i, p)⟩ e = (d, e) := by
  simp [asF, Vw.bor, h]
theorem on_g {d : D} {k i : Nat} {p : List Nat} {e : Ls} (h : ownAt e i p = 0) : Vw.on ⟨d, k, some (i, p)⟩ e = none := by
  simp [Vw.on, h]
theorem fr_exc (c : Nat) (x : D) : freshK (.exc c x) = 0 := rfl
end Ev
end
section
set_option linter.all false
set_option maxRecDepth 100000
namespace LK
open Ev PySem PySem.Spec PyProof.Rows L2
def top (i : Nat) : Stmt := PySem.Challenge.pw_playedalike_k99_errors_by_hand.main.body.getD i (.Pass ⟨0, 0, 0, 0⟩)
def f_law_mixed : Fd := ⟨"_law_mixed", 2, 3, [], [.set (.v 2 0) (.p .add [.p .add [.p .mod [.v 0, .sub (.lst [.c (.int (1000000007)), .c (.int (998244353)), .c (.int (2147483629)), .c (.int (1000000009))]) (.p .mod [.v 1, .c (.int (4))])], .p .mul [.c (.int (7919)), .v 1]], .c (.int (13))]), .ret (.p .mod [.p .mul [.p .mod [.p .mul [.v 2, .v 2], .c (.int (2147483647))], .c (.int (48271))], .c (.int (2147483647))])]⟩
def f_law_draw : Fd := ⟨"_law_draw", 2, 2, [], [.ret (.dct [.str [108, 101, 102, 116], .str [99, 101, 108, 108], .str [116, 117, 114, 110, 115]] [.ite (.p (.cmp .ge) [.v 0, .p .pow [.c (.int (10)), .c (.int (18))]]) (.v 0) (.c (.int (0))), .v 0, .p .mul [.c (.int (1000)), .v 1]])]⟩
def f_law_digit_b1 : List Sm := [.setSub (.v 0) (.c (.str [116, 117, 114, 110, 115])) (.p .add [.sub (.v 0) (.c (.str [116, 117, 114, 110, 115])), .c (.int (1))]), .setSub (.v 0) (.c (.str [108, 101, 102, 116])) (.p .add [.p .mul [.sub (.v 0) (.c (.str [108, 101, 102, 116])), .c (.int (2147483647))], .call 0 [.sub (.v 0) (.c (.str [99, 101, 108, 108])), .sub (.v 0) (.c (.str [116, 117, 114, 110, 115]))] [none, none]])]
def f_law_digit_l1 : Sm := .for (.v 2 0) (.range [.c (.int (4))]) f_law_digit_b1
def f_law_digit : Fd := ⟨"_law_digit", 2, 4, [0], [.ite (.p (.cmp .eq) [.sub (.v 0) (.c (.str [108, 101, 102, 116])), .c (.int (0))]) [f_law_digit_l1] [], .set (.v 3 0) (.p .mod [.sub (.v 0) (.c (.str [108, 101, 102, 116])), .v 1]), .setSub (.v 0) (.c (.str [108, 101, 102, 116])) (.p .fdiv [.sub (.v 0) (.c (.str [108, 101, 102, 116])), .v 1]), .ret (.v 3)]⟩
def f_law_kinds_t1 : List Xp := [.v 3]
def f_law_kinds_e1 : Xp := .v 2
theorem f_law_kinds_e1_tch : Xp.tch f_law_kinds_e1 = Xp.tch (.v 2) := rfl
def f_law_kinds_c1 : Xp := .comp [2, 3] (.tup [.v 2 0, .v 3 0]) (.seq (.v 1)) f_law_kinds_t1 f_law_kinds_e1
theorem f_law_kinds_c1_tch : Xp.tch f_law_kinds_c1 = Xp.tch (.comp [2, 3] (.tup [.v 2 0, .v 3 0]) (.seq (.v 1)) f_law_kinds_t1 f_law_kinds_e1) := rfl
def f_law_kinds : Fd := ⟨"_law_kinds", 1, 4, [], [.set (.v 1 1) (.lst [.tup [.c (.str [66, 97, 100, 66, 111, 97, 114, 100]), .p (.isinst [103]) [.v 0]], .tup [.c (.str [66, 97, 100, 66, 111, 111, 107]), .p (.isinst [106]) [.v 0]]]), .set (.v 1 1) (.p .add [.v 1, .lst [.tup [.c (.str [66, 97, 100, 68, 101, 101, 100]), .p (.isinst [115]) [.v 0]], .tup [.c (.str [66, 97, 100, 68, 105, 114, 101, 99, 116, 105, 111, 110]), .p (.isinst [104]) [.v 0]]]]), .ex (.meth 0 (.v 1) [.tup [.c (.str [66, 97, 100, 71, 97, 109, 101]), .p (.isinst [108]) [.v 0]]]), .set (.v 1 1) (.p .add [.v 1, .lst [.tup [.c (.str [66, 97, 100, 71, 117, 97, 114, 100]), .p (.isinst [107]) [.v 0]], .tup [.c (.str [66, 97, 100, 76, 105, 110, 101]), .p (.isinst [102]) [.v 0]]]]), .set (.v 1 1) (.p .add [.v 1, .lst [.tup [.c (.str [66, 97, 100, 77, 97, 99, 104, 105, 110, 101]), .p (.isinst [105]) [.v 0]], .tup [.c (.str [66, 97, 100, 77, 111, 100, 115]), .p (.isinst [113]) [.v 0]]]]), .set (.v 1 1) (.p .add [.v 1, .lst [.tup [.c (.str [66, 97, 100, 78, 117, 109, 98, 101, 114]), .p (.isinst [112]) [.v 0]], .tup [.c (.str [66, 97, 100, 80, 97, 112, 101, 114]), .p (.isinst [110]) [.v 0]]]]), .set (.v 1 1) (.p .add [.v 1, .lst [.tup [.c (.str [66, 97, 100, 83, 97, 109, 112, 108, 101]), .p (.isinst [114]) [.v 0]], .tup [.c (.str [66, 97, 100, 83, 105, 103, 110, 115]), .p (.isinst [101]) [.v 0]]]]), .set (.v 1 1) (.p .add [.v 1, .lst [.tup [.c (.str [66, 97, 100, 84, 101, 120, 116]), .p (.isinst [111]) [.v 0]], .tup [.c (.str [66, 97, 100, 87, 101, 105, 103, 104, 116, 115]), .p (.isinst [109]) [.v 0]]]]), .set (.v 1 1) (.p .add [.v 1, .lst [.tup [.c (.str [78, 111, 83, 117, 99, 104]), .p (.isinst [117]) [.v 0]], .tup [.c (.str [84, 111, 111, 77, 97, 110, 121]), .p (.isinst [116]) [.v 0]]]]), .set (.v 1 1) (.p .add [.v 1, .lst [.tup [.c (.str [112, 108, 97, 121]), .p (.isinst [100]) [.v 0]], .tup [.c (.str [118, 97, 108, 117, 101]), .p (.isinst [90]) [.v 0]]]]), .set (.v 1 1) (.p .add [.v 1, .lst [.tup [.c (.str [108, 111, 111, 107, 117, 112]), .p (.isinst [91]) [.v 0]], .tup [.c (.str [111, 118, 101, 114, 102, 108, 111, 119]), .p (.isinst [92]) [.v 0]]]]), .ret (f_law_kinds_c1)]⟩
def f_law_valued : Fd := ⟨"_law_valued", 1, 2, [], [.set (.v 1 0) (.lst [.tup [.mk 101 [.v 0], .mk 101 [.v 0], .c (.str [66, 97, 100, 83, 105, 103, 110, 115])], .tup [.mk 102 [.v 0], .mk 102 [.v 0], .c (.str [66, 97, 100, 76, 105, 110, 101])]]), .set (.v 1 0) (.p .add [.v 1, .lst [.tup [.mk 103 [.v 0], .mk 103 [.v 0], .c (.str [66, 97, 100, 66, 111, 97, 114, 100])]]]), .set (.v 1 0) (.p .add [.v 1, .lst [.tup [.mk 104 [.v 0], .mk 104 [.v 0], .c (.str [66, 97, 100, 68, 105, 114, 101, 99, 116, 105, 111, 110])]]]), .ret (.p .add [.v 1, .lst [.tup [.mk 112 [.v 0], .mk 112 [.v 0], .c (.str [66, 97, 100, 78, 117, 109, 98, 101, 114])]]])]⟩
def f_law_placed : Fd := ⟨"_law_placed", 1, 2, [], [.set (.v 1 0) (.lst [.tup [.mk 105 [.v 0], .mk 105 [.v 0], .c (.str [66, 97, 100, 77, 97, 99, 104, 105, 110, 101])]]), .set (.v 1 0) (.p .add [.v 1, .lst [.tup [.mk 106 [.v 0], .mk 106 [.v 0], .c (.str [66, 97, 100, 66, 111, 111, 107])]]]), .set (.v 1 0) (.p .add [.v 1, .lst [.tup [.mk 107 [.v 0], .mk 107 [.v 0], .c (.str [66, 97, 100, 71, 117, 97, 114, 100])]]]), .set (.v 1 0) (.p .add [.v 1, .lst [.tup [.mk 108 [.v 0], .mk 108 [.v 0], .c (.str [66, 97, 100, 71, 97, 109, 101])]]]), .set (.v 1 0) (.p .add [.v 1, .lst [.tup [.mk 109 [.v 0], .mk 109 [.v 0], .c (.str [66, 97, 100, 87, 101, 105, 103, 104, 116, 115])]]]), .set (.v 1 0) (.p .add [.v 1, .lst [.tup [.mk 110 [.v 0], .mk 110 [.v 0], .c (.str [66, 97, 100, 80, 97, 112, 101, 114])]]]), .set (.v 1 0) (.p .add [.v 1, .lst [.tup [.mk 111 [.v 0], .mk 111 [.v 0], .c (.str [66, 97, 100, 84, 101, 120, 116])]]]), .set (.v 1 0) (.p .add [.v 1, .lst [.tup [.mk 113 [.v 0], .mk 113 [.v 0], .c (.str [66, 97, 100, 77, 111, 100, 115])]]]), .set (.v 1 0) (.p .add [.v 1, .lst [.tup [.mk 114 [.v 0], .mk 114 [.v 0], .c (.str [66, 97, 100, 83, 97, 109, 112, 108, 101])]]]), .ret (.p .add [.v 1, .lst [.tup [.mk 115 [.v 0], .mk 115 [.v 0], .c (.str [66, 97, 100, 68, 101, 101, 100])]]])]⟩
def f_law_right_b1 : List Sm := [.ite (.or (.p (.cmp .ne) [.call 3 [.v 1] [none], .lst [.v 3, .c (.str [112, 108, 97, 121]), .c (.str [118, 97, 108, 117, 101])]]) (.p (.cmp .ne) [.call 3 [.v 2] [none], .lst [.v 3, .c (.str [112, 108, 97, 121]), .c (.str [118, 97, 108, 117, 101])]])) [.ret (.c (.bl false))] [], .ite (.or (.p (.cmp .ne) [.p (.fldOf 0) [.v 1], .v 0]) (.p (.cmp .ne) [.p (.fldOf 0) [.v 2], .v 0])) [.ret (.c (.bl false))] []]
def f_law_right_l1 : Sm := .for (.tup [.v 1 0, .v 2 0, .v 3 0]) (.seq (.call 4 [.v 0] [none])) f_law_right_b1
def f_law_right_b2 : List Sm := [.ite (.or (.p (.cmp .ne) [.call 3 [.v 1] [none], .lst [.v 3, .c (.str [112, 108, 97, 121]), .c (.str [118, 97, 108, 117, 101])]]) (.p (.cmp .ne) [.call 3 [.v 2] [none], .lst [.v 3, .c (.str [112, 108, 97, 121]), .c (.str [118, 97, 108, 117, 101])]])) [.ret (.c (.bl false))] [], .ite (.or (.p (.cmp .ne) [.p (.fldOf 1) [.v 1], .v 0]) (.p (.cmp .ne) [.p (.fldOf 1) [.v 2], .v 0])) [.ret (.c (.bl false))] []]
def f_law_right_l2 : Sm := .for (.tup [.v 1 0, .v 2 0, .v 3 0]) (.seq (.call 5 [.v 0] [none])) f_law_right_b2
def f_law_right_b3 : List Sm := [.ite (.or (.p (.cmp .ne) [.call 3 [.v 1] [none], .lst [.c (.str [78, 111, 83, 117, 99, 104]), .c (.str [108, 111, 111, 107, 117, 112])]]) (.p (.cmp .ne) [.p (.fldOf 0) [.v 1], .v 0])) [.ret (.c (.bl false))] []]
def f_law_right_l3 : Sm := .for (.v 1 0) (.seq (.tup [.mk 117 [.v 0], .mk 117 [.v 0]])) f_law_right_b3
def f_law_right_b4 : List Sm := [.ite (.or (.p (.cmp .ne) [.call 3 [.v 1] [none], .lst [.c (.str [84, 111, 111, 77, 97, 110, 121]), .c (.str [111, 118, 101, 114, 102, 108, 111, 119])]]) (.p (.cmp .ne) [.p (.fldOf 2) [.v 1], .v 0])) [.ret (.c (.bl false))] []]
def f_law_right_l4 : Sm := .for (.v 1 0) (.seq (.tup [.mk 116 [.v 0], .mk 116 [.v 0]])) f_law_right_b4
def f_law_right : Fd := ⟨"_law_right", 1, 4, [], [f_law_right_l1, f_law_right_l2, f_law_right_l3, f_law_right_l4, .ret (.c (.bl true))]⟩
def f_law_b1 : List Sm := [.set (.v 3 1) (.call 1 [.v 2, .v 1] [none, none]), .set (.v 4 0) (.call 2 [.c .non, .c (.int (100000))] [some 3, none]), .set (.v 5 0) (.lst [.v 4, .p .sub [.c (.int (0)), .v 4], .p .mul [.c (.str [97, 98]), .p .mod [.v 4, .c (.int (50))]], .tup [.c (.str [108, 101, 102, 116, 115]), .tup [.c (.int (0)), .v 4]], .c (.non), .tup [.p .pow [.c (.int (10)), .c (.int (30))], .tup []], .p .mul [.tup [.v 4], .c (.int (9))]]), .ite (.or (.not (.call 6 [.sub (.v 5) (.call 2 [.c .non, .c (.int (7))] [some 3, none])] [none])) (.not (.call 6 [.p .pow [.p .pow [.p .pow [.c (.int (10)), .c (.int (50))], .c (.int (50))], .c (.int (2))]] [none]))) [.ret (.c (.bl false))] []]
def f_law_l1 : Sm := .for (.tup [.v 1 0, .v 2 0]) (.enum (.p .add [.p (.slice false true) [.v 0, .p .asInt [.c (.int (4))]], .lst [.p .sum [.v 0]]])) f_law_b1
def f_law_e1 : Xp := .p (.fldOf 1) [.v 7]
theorem f_law_e1_tch : Xp.tch f_law_e1 = Xp.tch (.p (.fldOf 1) [.v 7]) := rfl
def f_law_c1 : Xp := .comp [7] (.v 7 0) (.seq (.v 6)) [] f_law_e1
theorem f_law_c1_tch : Xp.tch f_law_c1 = Xp.tch (.comp [7] (.v 7 0) (.seq (.v 6)) [] f_law_e1) := rfl
def f_law_e2 : Xp := .p (.fldOf 0) [.v 7]
theorem f_law_e2_tch : Xp.tch f_law_e2 = Xp.tch (.p (.fldOf 0) [.v 7]) := rfl
def f_law_c2 : Xp := .comp [7] (.v 7 0) (.seq (.v 5)) [] f_law_e2
theorem f_law_c2_tch : Xp.tch f_law_c2 = Xp.tch (.comp [7] (.v 7 0) (.seq (.v 5)) [] f_law_e2) := rfl
def f_law_e3 : Xp := .v 10
theorem f_law_e3_tch : Xp.tch f_law_e3 = Xp.tch (.v 10) := rfl
def f_law_c3 : Xp := .comp [10, 11, 12] (.tup [.v 10 0, .v 11 0, .v 12 0]) (.seq (.p .add [.call 4 [.v 8] [none], .call 5 [.v 8] [none]])) [] f_law_e3
theorem f_law_c3_tch : Xp.tch f_law_c3 = Xp.tch (.comp [10, 11, 12] (.tup [.v 10 0, .v 11 0, .v 12 0]) (.seq (.p .add [.call 4 [.v 8] [none], .call 5 [.v 8] [none]])) [] f_law_e3) := rfl
def f_law_t1 : List Xp := [.p (.cmp .inn) [.p .strOf [.v 8], .p .strOf [.v 7]]]
def f_law_e4 : Xp := .v 7
theorem f_law_e4_tch : Xp.tch f_law_e4 = Xp.tch (.v 7) := rfl
def f_law_c4 : Xp := .comp [7] (.v 7 0) (.seq (.v 9)) f_law_t1 f_law_e4
theorem f_law_c4_tch : Xp.tch f_law_c4 = Xp.tch (.comp [7] (.v 7 0) (.seq (.v 9)) f_law_t1 f_law_e4) := rfl
def f_law_b2 : List Sm := [.set (.v 9 0) (.p .add [f_law_c3, .lst [.mk 117 [.v 8], .mk 116 [.v 8]]]), .ite (.p (.cmp .ne) [f_law_c4, .lst []]) [.ret (.c (.bl false))] []]
def f_law_l2 : Sm := .for (.v 8 0) (.seq (.tup [.c (.str [122, 113, 122, 113]), .p .pow [.c (.int (10)), .c (.int (30))], .c (.int (70707))])) f_law_b2
def f_law : Fd := ⟨"law", 1, 13, [], [f_law_l1, .set (.v 5 0) (.lst [.mk 101 [], .mk 102 [], .mk 103 [], .mk 104 [], .mk 112 [], .mk 117 []]), .set (.v 6 0) (.lst [.mk 105 [], .mk 106 [], .mk 107 [], .mk 108 [], .mk 109 [], .mk 110 [], .mk 111 [], .mk 113 []]), .set (.v 6 0) (.p .add [.v 6, .lst [.mk 114 [], .mk 115 []]]), .ite (.or (.p (.cmp .ne) [f_law_c2, .p .mul [.lst [.c (.non)], .c (.int (6))]]) (.p (.cmp .ne) [f_law_c1, .p .mul [.lst [.c (.non)], .c (.int (10))]])) [.ret (.c (.bl false))] [], f_law_l2, .ret (.c (.bl true))]⟩
def fds : List Fd := ([f_law_mixed,
  f_law_draw,
  f_law_digit,
  f_law_kinds,
  f_law_valued,
  f_law_placed,
  f_law_right,
  f_law] : List Fd)
def T : Tb := ⟨fds, supN⟩
def s_law_mixed : Fs := ⟨"_law_mixed", defArgs (top 20), defBody (top 20), defScope (top 20), ["cell", "k", "number"], ["cell", "k"]⟩
def s_law_draw : Fs := ⟨"_law_draw", defArgs (top 21), defBody (top 21), defScope (top 21), ["cell", "k"], ["cell", "k"]⟩
def s_law_digit : Fs := ⟨"_law_digit", defArgs (top 22), defBody (top 22), defScope (top 22), ["state", "many", "j", "found"], ["state", "many"]⟩
def s_law_kinds : Fs := ⟨"_law_kinds", defArgs (top 23), defBody (top 23), defScope (top 23), ["e", "some", "word", "is_so"], ["e"]⟩
def s_law_valued : Fs := ⟨"_law_valued", defArgs (top 24), defBody (top 24), defScope (top 24), ["thing", "found"], ["thing"]⟩
def s_law_placed : Fs := ⟨"_law_placed", defArgs (top 25), defBody (top 25), defScope (top 25), ["thing", "found"], ["thing"]⟩
def s_law_right : Fs := ⟨"_law_right", defArgs (top 26), defBody (top 26), defScope (top 26), ["thing", "one", "other", "name"], ["thing"]⟩
def s_law : Fs := ⟨"law", defArgs (top 27), defBody (top 27), defScope (top 27), ["script", "k", "cell", "state", "number", "some", "others", "e", "thing", "made", "one", "other", "name"], ["script"]⟩
def srcs : List Fs := ([s_law_mixed,
  s_law_draw,
  s_law_digit,
  s_law_kinds,
  s_law_valued,
  s_law_placed,
  s_law_right,
  s_law] : List Fs)
def gl : List (Str × Gk) := ([("_law_mixed", .fn 0 ["cell", "k"] [] [] false),
  ("_law_draw", .fn 1 ["cell", "k"] [] [] false),
  ("_law_digit", .fn 2 ["state", "many"] [] [0] false),
  ("_law_kinds", .fn 3 ["e"] [] [] false),
  ("_law_valued", .fn 4 ["thing"] [] [] false),
  ("_law_placed", .fn 5 ["thing"] [] [] false),
  ("_law_right", .fn 6 ["thing"] [] [] false),
  ("law", .fn 7 ["script"] [] [] false)] : List (Str × Gk))
def frees : List Str := ["LookupError", "OverflowError", "ValueError", "enumerate", "isinstance", "range", "str", "sum"]
def cls : List (Nat × Str × Str) := []
def mks : List Nat := [101, 102, 103, 104, 105, 106, 107, 108, 109, 110, 111, 112, 113, 114, 115, 116, 117]
def iks : List Nat := [90, 91, 92, 100, 101, 102, 103, 104, 105, 106, 107, 108, 109, 110, 111, 112, 113, 114, 115, 116, 117]
def pg (fuel : Nat) : Pg := ⟨T, fuel, srcs, gl, frees, cls, mks, iks⟩
theorem pg_ok (fuel : Nat) : (pg fuel).ok = true := by
  show (pg 0).ok = true
  decide +kernel
end LK
end
section
set_option Elab.async false
set_option linter.all false
set_option maxRecDepth 100000
namespace LK
open Ev PySem PySem.Spec PyProof.Rows L2
set_option maxHeartbeats 0
def d_law_mixed : He.DefD := ⟨("_law_mixed", none), "_law_mixed", "_law_mixed", defArgs (top 20), defBody (top 20), defScope (top 20), [], []⟩
def d_law_draw : He.DefD := ⟨("_law_draw", none), "_law_draw", "_law_draw", defArgs (top 21), defBody (top 21), defScope (top 21), [], []⟩
def d_law_digit : He.DefD := ⟨("_law_digit", none), "_law_digit", "_law_digit", defArgs (top 22), defBody (top 22), defScope (top 22), [], []⟩
def d_law_kinds : He.DefD := ⟨("_law_kinds", none), "_law_kinds", "_law_kinds", defArgs (top 23), defBody (top 23), defScope (top 23), [], []⟩
def d_law_valued : He.DefD := ⟨("_law_valued", none), "_law_valued", "_law_valued", defArgs (top 24), defBody (top 24), defScope (top 24), [], []⟩
def d_law_placed : He.DefD := ⟨("_law_placed", none), "_law_placed", "_law_placed", defArgs (top 25), defBody (top 25), defScope (top 25), [], []⟩
def d_law_right : He.DefD := ⟨("_law_right", none), "_law_right", "_law_right", defArgs (top 26), defBody (top 26), defScope (top 26), [], []⟩
def d_law : He.DefD := ⟨("law", none), "law", "law", defArgs (top 27), defBody (top 27), defScope (top 27), [], []⟩
def d_BadSigns_init : He.DefD := ⟨("BadSigns", some "__init__"), "__init__", "BadSigns.__init__", defArgs (inClass (top 2) 0), defBody (inClass (top 2) 0), defScope (inClass (top 2) 0), [.non], []⟩
def d_BadLine_init : He.DefD := ⟨("BadLine", some "__init__"), "__init__", "BadLine.__init__", defArgs (inClass (top 3) 0), defBody (inClass (top 3) 0), defScope (inClass (top 3) 0), [.non], []⟩
def d_BadBoard_init : He.DefD := ⟨("BadBoard", some "__init__"), "__init__", "BadBoard.__init__", defArgs (inClass (top 4) 0), defBody (inClass (top 4) 0), defScope (inClass (top 4) 0), [.non], []⟩
def d_BadDirection_init : He.DefD := ⟨("BadDirection", some "__init__"), "__init__", "BadDirection.__init__", defArgs (inClass (top 5) 0), defBody (inClass (top 5) 0), defScope (inClass (top 5) 0), [.non], []⟩
def d_BadMachine_init : He.DefD := ⟨("BadMachine", some "__init__"), "__init__", "BadMachine.__init__", defArgs (inClass (top 6) 0), defBody (inClass (top 6) 0), defScope (inClass (top 6) 0), [.non], []⟩
def d_BadBook_init : He.DefD := ⟨("BadBook", some "__init__"), "__init__", "BadBook.__init__", defArgs (inClass (top 7) 0), defBody (inClass (top 7) 0), defScope (inClass (top 7) 0), [.non], []⟩
def d_BadGuard_init : He.DefD := ⟨("BadGuard", some "__init__"), "__init__", "BadGuard.__init__", defArgs (inClass (top 8) 0), defBody (inClass (top 8) 0), defScope (inClass (top 8) 0), [.non], []⟩
def d_BadGame_init : He.DefD := ⟨("BadGame", some "__init__"), "__init__", "BadGame.__init__", defArgs (inClass (top 9) 0), defBody (inClass (top 9) 0), defScope (inClass (top 9) 0), [.non], []⟩
def d_BadWeights_init : He.DefD := ⟨("BadWeights", some "__init__"), "__init__", "BadWeights.__init__", defArgs (inClass (top 10) 0), defBody (inClass (top 10) 0), defScope (inClass (top 10) 0), [.non], []⟩
def d_BadPaper_init : He.DefD := ⟨("BadPaper", some "__init__"), "__init__", "BadPaper.__init__", defArgs (inClass (top 11) 0), defBody (inClass (top 11) 0), defScope (inClass (top 11) 0), [.non], []⟩
def d_BadText_init : He.DefD := ⟨("BadText", some "__init__"), "__init__", "BadText.__init__", defArgs (inClass (top 12) 0), defBody (inClass (top 12) 0), defScope (inClass (top 12) 0), [.non], []⟩
def d_BadNumber_init : He.DefD := ⟨("BadNumber", some "__init__"), "__init__", "BadNumber.__init__", defArgs (inClass (top 13) 0), defBody (inClass (top 13) 0), defScope (inClass (top 13) 0), [.non], []⟩
def d_BadMods_init : He.DefD := ⟨("BadMods", some "__init__"), "__init__", "BadMods.__init__", defArgs (inClass (top 14) 0), defBody (inClass (top 14) 0), defScope (inClass (top 14) 0), [.non], []⟩
def d_BadSample_init : He.DefD := ⟨("BadSample", some "__init__"), "__init__", "BadSample.__init__", defArgs (inClass (top 15) 0), defBody (inClass (top 15) 0), defScope (inClass (top 15) 0), [.non], []⟩
def d_BadDeed_init : He.DefD := ⟨("BadDeed", some "__init__"), "__init__", "BadDeed.__init__", defArgs (inClass (top 16) 0), defBody (inClass (top 16) 0), defScope (inClass (top 16) 0), [.non], []⟩
def d_TooMany_init : He.DefD := ⟨("TooMany", some "__init__"), "__init__", "TooMany.__init__", defArgs (inClass (top 17) 0), defBody (inClass (top 17) 0), defScope (inClass (top 17) 0), [], []⟩
def d_NoSuch_init : He.DefD := ⟨("NoSuch", some "__init__"), "__init__", "NoSuch.__init__", defArgs (inClass (top 18) 0), defBody (inClass (top 18) 0), defScope (inClass (top 18) 0), [.non], []⟩
def fn : List He.DefD := ([d_law_mixed,
  d_law_draw,
  d_law_digit,
  d_law_kinds,
  d_law_valued,
  d_law_placed,
  d_law_right,
  d_law,
  d_BadSigns_init,
  d_BadLine_init,
  d_BadBoard_init,
  d_BadDirection_init,
  d_BadMachine_init,
  d_BadBook_init,
  d_BadGuard_init,
  d_BadGame_init,
  d_BadWeights_init,
  d_BadPaper_init,
  d_BadText_init,
  d_BadNumber_init] : List He.DefD) ++ ([d_BadMods_init,
  d_BadSample_init,
  d_BadDeed_init,
  d_TooMany_init,
  d_NoSuch_init] : List He.DefD)
def names : List Str := (["PlayError",
  "BadSigns",
  "BadLine",
  "BadBoard",
  "BadDirection",
  "BadMachine",
  "BadBook",
  "BadGuard",
  "BadGame",
  "BadWeights",
  "BadPaper",
  "BadText",
  "BadNumber",
  "BadMods",
  "BadSample",
  "BadDeed",
  "TooMany",
  "NoSuch",
  "_law_mixed",
  "_law_draw"] : List Str) ++ (["_law_digit",
  "_law_kinds",
  "_law_valued",
  "_law_placed",
  "_law_right",
  "law"] : List Str)
def clr : List (Str × Str × Str) := []
def ex : PySem.W.Frag → Bool := fun K => exB gl names frees clr K && exM mks iks K
abbrev R : PySem.W.OpenRow := PySem.W.OpenLaw.row PySem.Challenge.rw_playedalike_k99_errors_by_hand
abbrev hk : PySem.W.Hook := hookX 4 [] fn ex
def ob (s : PySem.W.SharedT) : He.AlD × Bool := obX 4 [] fn ex (HandSHeadRun.getT s)
theorem ob_eq (s : PySem.W.SharedT) : ob s = hk.obs s.abs := obX_eq (HandSHeadRun.getT_eq s)
def loose : List Str := (["PlayError",
  "BadSigns",
  "BadLine",
  "BadBoard",
  "BadDirection",
  "BadMachine",
  "BadBook",
  "BadGuard",
  "BadGame",
  "BadWeights",
  "BadPaper",
  "BadText",
  "BadNumber",
  "BadMods",
  "BadSample",
  "BadDeed",
  "TooMany",
  "NoSuch",
  "_law_mixed",
  "_law_draw"] : List Str) ++ (["_law_digit",
  "_law_kinds",
  "_law_valued",
  "_law_placed",
  "_law_right"] : List Str)
theorem run (w : World) : HandSHeadRun.RunEq R (PySem.W.view R.prog [27]) hk ob 6000 loose w := by
  intro os
  kernel_rfl
end LK
end
section
set_option linter.all false
set_option maxRecDepth 100000
namespace LK
open Ev
theorem call_eq {w n i : Nat} {as : List Sl} {fd : Fd} (h : T.fns[i]? = some fd) (hl : as.length = fd.np) : callN T w (n + 1) i as = endOf fd (Ev.execs (callN T w n) T (toldN T w n) none fd.chg w fd.body (startOf fd as)) := by
  simp only [callN, h, hl, if_true]
theorem ix4 (k : Int) : ∃ j p, ixD 4 (k % 4) = some j ∧ [D.int 1000000007, D.int 998244353, D.int 2147483629, D.int 1000000009].getD j D.non = .int p ∧ 0 < p ∧ p ≤ 2147483629 := by
  have h1 := Int.emod_nonneg k (by decide : (4 : Int) ≠ 0)
  have h2 := Int.emod_lt_of_pos k (by decide : (0 : Int) < 4)
  obtain h | h | h | h : k % 4 = 0 ∨ k % 4 = 1 ∨ k % 4 = 2 ∨ k % 4 = 3 := by omega
  · exact ⟨0, 1000000007, by rw [h]; rfl, rfl, by decide, by decide⟩
  · exact ⟨1, 998244353, by rw [h]; rfl, rfl, by decide, by decide⟩
  · exact ⟨2, 2147483629, by rw [h]; rfl, rfl, by decide, by decide⟩
  · exact ⟨3, 1000000009, by rw [h]; rfl, rfl, by decide, by decide⟩
set_option maxHeartbeats 2000000 in
theorem c_mixed (w n : Nat) (a b : Nat) (c k : Int) (hk : -1000000 < k ∧ k < 1000000) : ∃ r, callN T w (n + 1) 0 [⟨a, .int c⟩, ⟨b, .int k⟩] = .ok 9 (.int r) [] ∧ 0 ≤ r := by
  rw [call_eq (fd := f_law_mixed) rfl rfl]
  obtain ⟨j, p, h1, h2, h3, h4⟩ := ix4 k
  have s0 : smallI 7919 = true := by decide
  have s1 : smallI 48271 = true := by decide
  have h5 := Int.emod_nonneg c (by omega : p ≠ 0)
  have h6 := Int.emod_lt_of_pos c h3
  have s2 : smallI (c % p + 7919 * k + 13) = true := small_c (by omega)
  simp -implicitDefEqProofs only [f_law_mixed, asF_excq, asO_excq, on_excq, fp_add, fp_sub, fp_mul, fp_fdiv, fp_mod, fp_pow, fp_neg, fp_cmp, fp_slice, fp_rev, fp_len, fp_tuple, fp_list, fp_sum, fp_all, fp_any, fp_repr, fp_strOf, fp_isinst, fp_join, fp_index, fp_asInt, fp_asStr, fp_fldOf, q_fld, fld_exc, q_strOf, is_exc, new_exc, startOf, endOf, outsOf, Ev.execs, Ev.exec, ev, evP, evO, evA, evI, evT, evTs, evR, evR1, evRs, bind_ok, toQ_okq, at_zero, at_succ, put_eq, asO_n, asF_n, on_n, clash_none, clash_nil, clash_some, on_int, asF_int, asO_int, new_int, on_str, asF_str, asO_str, new_str, new_bl, asO_bl, new_non, new_tup, new_lst, new_dct, q_add, q_sub, q_mod, q_fdiv, q_mul, q_pow, q_adds, q_muls, q_addl, q_cmp, q_len, q_tuple, q_sum, q_all, q_rev, q_asI, q_asS, q_repr, q_isi, q_join, q_index, q_cutl, q_cuth, subR_dct, subR_tup, subR_lst, subR_str, Xp.tch, Xp.tchs, Xp.base, mutOk, lentOk, lendIn, lendOut, borsOf, stillAt, List.foldl_nil, Ev.itsF, own1, len_str, len_tup, len_lst, itq_tup, itq_lst, itq_str, List.filterMap_cons, List.filterMap_nil, id_eq, List.all_cons, List.all_nil, List.any_nil, Option.isSome_some, ite_self, List.contains_cons, Nat.reduceBEq, BEq.rfl, beq_self_eq_true, cmpD, eqD_int, List.map_cons, List.map_nil, List.replicate, List.cons_append, List.nil_append, List.append_nil, Pr.emb, Bool.false_eq_true, if_true, if_false, ↓reduceIte, reduceCtorEq, List.set_cons_zero, List.set_cons_succ, Option.map_none, Option.map_some, Option.bind_some, Option.bind_none, Nat.reduceSub, Nat.reduceAdd, Nat.reduceLeDiff, Tg.put, Tg.puts, putsO, Tg.slots, Tg.slotss, List.all, wipeE, backE, List.contains_nil, Bool.not_false, Bool.not_true, Bool.or_false, Bool.true_or, Bool.or_true, Bool.and_false, Bool.false_and, Option.some.injEq, Bool.and_eq_true, decide_eq_true_eq, and_self, true_and, and_true, Bool.false_or, Bool.and_true, Bool.true_and, List.length_cons, List.length_nil, List.length_map, decide_true, decide_false, Nat.reduceLT, minK, fr_lst, fr_tup, fr_int, fr_str, fr_bl, Nat.min_zero, Nat.zero_min, Nat.min_self, capK, Ev.ofO, tr_bl, tr_lst, tr_str, lt_int, le_int, appOk, isl, mn1, mn2, tup_lst, isinstD, asF_scrq, on_scrq, sum_scr, sl_scr, asF_tupq, asF_lstq, asO_tupq, asO_lstq, on_tupq, on_lstq, own_eq, dep_nil, Nat.zero_sub, Nat.sub_zero, Nat.lt_irrefl, Nat.reduceEqDiff, Nat.zero_ne_one, List.getD_cons_zero, List.getD_cons_succ, ix_40, ix_41, ix_42, ix_43, isl, rev_str, rev_lst, sl_str, Int.reduceLT, Int.reduceLE, Int.reduceNeg, h1, h2, h3, s0, s1, s2]
  refine ⟨_, rfl, Int.emod_nonneg _ ?_⟩; decide
end LK
end
section
set_option linter.all false
set_option maxRecDepth 100000
namespace LK
open Ev
def stD (l c t : Int) : D := .dct [.str [108, 101, 102, 116], .str [99, 101, 108, 108], .str [116, 117, 114, 110, 115]] [.int l, .int c, .int t]
theorem st_l (l c t : Int) (k : Nat) (src) (k' : Nat) (src') (e : Ls) : subR ⟨stD l c t, k, src⟩ ⟨.str [108, 101, 102, 116], k', src'⟩ e = .ok ⟨.int l, 0, src.map fun q => (q.1, q.2 ++ [0])⟩ e := rfl
theorem st_c (l c t : Int) (k : Nat) (src) (k' : Nat) (src') (e : Ls) : subR ⟨stD l c t, k, src⟩ ⟨.str [99, 101, 108, 108], k', src'⟩ e = .ok ⟨.int c, 0, src.map fun q => (q.1, q.2 ++ [1])⟩ e := rfl
theorem st_t (l c t : Int) (k : Nat) (src) (k' : Nat) (src') (e : Ls) : subR ⟨stD l c t, k, src⟩ ⟨.str [116, 117, 114, 110, 115], k', src'⟩ e = .ok ⟨.int t, 0, src.map fun q => (q.1, q.2 ++ [2])⟩ e := rfl
theorem set_l (l c t x : Int) (e : Ls) : setAt ⟨stD l c t, 0, some (0, [])⟩ (.str [108, 101, 102, 116]) ⟨9, .int x⟩ (some ⟨1, stD l c t⟩ :: e) = some (some ⟨1, stD x c t⟩ :: e) := rfl
theorem set_t (l c t x : Int) (e : Ls) : setAt ⟨stD l c t, 0, some (0, [])⟩ (.str [116, 117, 114, 110, 115]) ⟨9, .int x⟩ (some ⟨1, stD l c t⟩ :: e) = some (some ⟨1, stD l c x⟩ :: e) := rfl
def St (N : Nat) (d : D) : Prop := ∃ l c t : Int, d = stD l c t ∧ 0 ≤ l ∧ 0 ≤ t ∧ t ≤ N
theorem St.mono {N M : Nat} {d : D} (h : St N d) (hM : N ≤ M) : St M d := by
  obtain ⟨l, c, t, p, q, r, s⟩ := h
  exact ⟨l, c, t, p, q, r, by omega⟩
theorem sm1 : smallI 2147483647 = true := by decide
theorem l_digit (w n N a : Nat) (l c t m : Int) (s2 s3 : Option Sl) (hl : 0 ≤ l) (ht : 0 ≤ t) (htN : t ≤ N) (hN : N < 900000) :
    ∃ (l' t' : Int) (s2' : Option Sl), Ev.exec (callN T w (n + 1)) T (toldN T w (n + 1)) none [0] w f_law_digit_l1 [some ⟨1, stD l c t⟩, some ⟨a, .int m⟩, s2, s3] = .nx [some ⟨1, stD l' c t'⟩, some ⟨a, .int m⟩, s2', s3] ∧ 0 ≤ l' ∧ 0 ≤ t' ∧ t' ≤ N + 4 := by
  simp -implicitDefEqProofs only [f_law_digit_l1, rangeL, asF_excq, asO_excq, on_excq, fp_add, fp_sub, fp_mul, fp_fdiv, fp_mod, fp_pow, fp_neg, fp_cmp, fp_slice, fp_rev, fp_len, fp_tuple, fp_list, fp_sum, fp_all, fp_any, fp_repr, fp_strOf, fp_isinst, fp_join, fp_index, fp_asInt, fp_asStr, fp_fldOf, q_fld, fld_exc, q_strOf, is_exc, new_exc, startOf, endOf, outsOf, Ev.execs, Ev.exec, ev, evP, evO, evA, evI, evT, evTs, evR, evR1, evRs, bind_ok, toQ_okq, at_zero, at_succ, put_eq, asO_n, asF_n, on_n, clash_none, clash_nil, clash_some, on_int, asF_int, asO_int, new_int, on_str, asF_str, asO_str, new_str, new_bl, asO_bl, new_non, new_tup, new_lst, new_dct, q_add, q_sub, q_mod, q_fdiv, q_mul, q_pow, q_adds, q_muls, q_addl, q_cmp, q_len, q_tuple, q_sum, q_all, q_rev, q_asI, q_asS, q_repr, q_isi, q_join, q_index, q_cutl, q_cuth, subR_dct, subR_tup, subR_lst, subR_str, Xp.tch, Xp.tchs, Xp.base, mutOk, lentOk, lendIn, lendOut, borsOf, stillAt, List.foldl_nil, Ev.itsF, own1, len_str, len_tup, len_lst, itq_tup, itq_lst, itq_str, List.filterMap_cons, List.filterMap_nil, id_eq, List.all_cons, List.all_nil, List.any_nil, Option.isSome_some, ite_self, List.contains_cons, Nat.reduceBEq, BEq.rfl, beq_self_eq_true, cmpD, eqD_int, List.map_cons, List.map_nil, List.replicate, List.cons_append, List.nil_append, List.append_nil, Pr.emb, Bool.false_eq_true, if_true, if_false, ↓reduceIte, reduceCtorEq, List.set_cons_zero, List.set_cons_succ, Option.map_none, Option.map_some, Option.bind_some, Option.bind_none, Nat.reduceSub, Nat.reduceAdd, Nat.reduceLeDiff, Tg.put, Tg.puts, putsO, Tg.slots, Tg.slotss, List.all, wipeE, backE, List.contains_nil, Bool.not_false, Bool.not_true, Bool.or_false, Bool.true_or, Bool.or_true, Bool.and_false, Bool.false_and, Option.some.injEq, Bool.and_eq_true, decide_eq_true_eq, and_self, true_and, and_true, Bool.false_or, Bool.and_true, Bool.true_and, List.length_cons, List.length_nil, List.length_map, decide_true, decide_false, Nat.reduceLT, minK, fr_lst, fr_tup, fr_int, fr_str, fr_bl, Nat.min_zero, Nat.zero_min, Nat.min_self, capK, Ev.ofO, tr_bl, tr_lst, tr_str, lt_int, le_int, appOk, isl, mn1, mn2, tup_lst, isinstD, asF_scrq, on_scrq, sum_scr, sl_scr, asF_tupq, asF_lstq, asO_tupq, asO_lstq, on_tupq, on_lstq, own_eq, dep_nil, Nat.zero_sub, Nat.sub_zero, Nat.lt_irrefl, Nat.reduceEqDiff, Nat.zero_ne_one, List.getD_cons_zero, List.getD_cons_succ, ix_40, ix_41, ix_42, ix_43, isl, rev_str, rev_lst, sl_str, Int.reduceLT, Int.reduceLE, Int.reduceNeg]
  obtain ⟨e', h1, l', t', s2', rfl, h2, h3, h4⟩ := forL_inv (body := fun e => Ev.execs (callN T w (n + 1)) T (toldN T w (n + 1)) none [0] w f_law_digit_b1 e) (put := fun d e => (Tg.v 2 0).put 0 d [0] e) ((List.range (Int.toNat 4)).map fun (i : Nat) => .int (0 + (i : Int)))
    (fun i e => ∃ (l' t' : Int) (s2' : Option Sl), e = [some ⟨1, stD l' c t'⟩, some ⟨a, .int m⟩, s2', s3] ∧ 0 ≤ l' ∧ 0 ≤ t' ∧ t' ≤ N + i) (by
      intro i d e hd ⟨l, t, s2, he, hl, ht, htN⟩
      subst he
      have hi : i < 4 := (List.getElem?_eq_some_iff.mp hd).1
      obtain ⟨r, hr, hr0⟩ := c_mixed w n 0 0 c (t + 1) (by omega)
      refine ⟨_, _, rfl, ?_, l * 2147483647 + r, t + 1, some ⟨0, d⟩, rfl, by omega, by omega, by omega⟩
      simp -implicitDefEqProofs only [f_law_digit_b1, asF_excq, asO_excq, on_excq, fp_add, fp_sub, fp_mul, fp_fdiv, fp_mod, fp_pow, fp_neg, fp_cmp, fp_slice, fp_rev, fp_len, fp_tuple, fp_list, fp_sum, fp_all, fp_any, fp_repr, fp_strOf, fp_isinst, fp_join, fp_index, fp_asInt, fp_asStr, fp_fldOf, q_fld, fld_exc, q_strOf, is_exc, new_exc, startOf, endOf, outsOf, Ev.execs, Ev.exec, ev, evP, evO, evA, evI, evT, evTs, evR, evR1, evRs, bind_ok, toQ_okq, at_zero, at_succ, put_eq, asO_n, asF_n, on_n, clash_none, clash_nil, clash_some, on_int, asF_int, asO_int, new_int, on_str, asF_str, asO_str, new_str, new_bl, asO_bl, new_non, new_tup, new_lst, new_dct, q_add, q_sub, q_mod, q_fdiv, q_mul, q_pow, q_adds, q_muls, q_addl, q_cmp, q_len, q_tuple, q_sum, q_all, q_rev, q_asI, q_asS, q_repr, q_isi, q_join, q_index, q_cutl, q_cuth, subR_dct, subR_tup, subR_lst, subR_str, Xp.tch, Xp.tchs, Xp.base, mutOk, lentOk, lendIn, lendOut, borsOf, stillAt, List.foldl_nil, Ev.itsF, own1, len_str, len_tup, len_lst, itq_tup, itq_lst, itq_str, List.filterMap_cons, List.filterMap_nil, id_eq, List.all_cons, List.all_nil, List.any_nil, Option.isSome_some, ite_self, List.contains_cons, Nat.reduceBEq, BEq.rfl, beq_self_eq_true, cmpD, eqD_int, List.map_cons, List.map_nil, List.replicate, List.cons_append, List.nil_append, List.append_nil, Pr.emb, Bool.false_eq_true, if_true, if_false, ↓reduceIte, reduceCtorEq, List.set_cons_zero, List.set_cons_succ, Option.map_none, Option.map_some, Option.bind_some, Option.bind_none, Nat.reduceSub, Nat.reduceAdd, Nat.reduceLeDiff, Tg.put, Tg.puts, putsO, Tg.slots, Tg.slotss, List.all, wipeE, backE, List.contains_nil, Bool.not_false, Bool.not_true, Bool.or_false, Bool.true_or, Bool.or_true, Bool.and_false, Bool.false_and, Option.some.injEq, Bool.and_eq_true, decide_eq_true_eq, and_self, true_and, and_true, Bool.false_or, Bool.and_true, Bool.true_and, List.length_cons, List.length_nil, List.length_map, decide_true, decide_false, Nat.reduceLT, minK, fr_lst, fr_tup, fr_int, fr_str, fr_bl, Nat.min_zero, Nat.zero_min, Nat.min_self, capK, Ev.ofO, tr_bl, tr_lst, tr_str, lt_int, le_int, appOk, isl, mn1, mn2, tup_lst, isinstD, asF_scrq, on_scrq, sum_scr, sl_scr, asF_tupq, asF_lstq, asO_tupq, asO_lstq, on_tupq, on_lstq, own_eq, dep_nil, Nat.zero_sub, Nat.sub_zero, Nat.lt_irrefl, Nat.reduceEqDiff, Nat.zero_ne_one, List.getD_cons_zero, List.getD_cons_succ, ix_40, ix_41, ix_42, ix_43, isl, rev_str, rev_lst, sl_str, Int.reduceLT, Int.reduceLE, Int.reduceNeg, st_l, st_t, st_c, set_l, set_t, sm1, hr]) [some ⟨1, stD l c t⟩, some ⟨a, .int m⟩, s2, s3] ⟨l, t, s2, rfl, hl, ht, by omega⟩
  refine ⟨l', t', s2', ?_, h2, h3, h4⟩
  exact h1
set_option maxHeartbeats 2000000 in
theorem c_digit (w n N a : Nat) (d : D) (m : Int) (hd : St N d) (hN : N < 900000) (hm : 0 < m ∧ m < 1000000) : ∃ (r : Nat) (d' : D), callN T w (n + 2) 2 [⟨1, d⟩, ⟨a, .int m⟩] = .ok 9 (.int r) [⟨1, d'⟩] ∧ (r : Int) < m ∧ St (N + 4) d' := by
  obtain ⟨l, c, t, rfl, hl, ht, htN⟩ := hd
  rw [call_eq (fd := f_law_digit) rfl rfl]
  have hm1 := hm.1
  have hm2 : m < 1073741824 := by omega
  have fin : ∀ l : Int, ∃ (r : Nat), (l % m = (r : Int)) ∧ (r : Int) < m := fun l => ⟨(l % m).toNat, by have := Int.emod_nonneg l (by omega : m ≠ 0); omega, by have := Int.emod_nonneg l (by omega : m ≠ 0); have := Int.emod_lt_of_pos l hm1; omega⟩
  by_cases h0 : l = 0
  · obtain ⟨l', t', s2', h1, h2, h3, h4⟩ := l_digit w n N a l c t m none none hl ht htN hN
    obtain ⟨r, hr, hrm⟩ := fin l'
    subst h0
    simp -implicitDefEqProofs only [f_law_digit, asF_excq, asO_excq, on_excq, fp_add, fp_sub, fp_mul, fp_fdiv, fp_mod, fp_pow, fp_neg, fp_cmp, fp_slice, fp_rev, fp_len, fp_tuple, fp_list, fp_sum, fp_all, fp_any, fp_repr, fp_strOf, fp_isinst, fp_join, fp_index, fp_asInt, fp_asStr, fp_fldOf, q_fld, fld_exc, q_strOf, is_exc, new_exc, startOf, endOf, outsOf, Ev.execs, Ev.exec, ev, evP, evO, evA, evI, evT, evTs, evR, evR1, evRs, bind_ok, toQ_okq, at_zero, at_succ, put_eq, asO_n, asF_n, on_n, clash_none, clash_nil, clash_some, on_int, asF_int, asO_int, new_int, on_str, asF_str, asO_str, new_str, new_bl, asO_bl, new_non, new_tup, new_lst, new_dct, q_add, q_sub, q_mod, q_fdiv, q_mul, q_pow, q_adds, q_muls, q_addl, q_cmp, q_len, q_tuple, q_sum, q_all, q_rev, q_asI, q_asS, q_repr, q_isi, q_join, q_index, q_cutl, q_cuth, subR_dct, subR_tup, subR_lst, subR_str, Xp.tch, Xp.tchs, Xp.base, mutOk, lentOk, lendIn, lendOut, borsOf, stillAt, List.foldl_nil, Ev.itsF, own1, len_str, len_tup, len_lst, itq_tup, itq_lst, itq_str, List.filterMap_cons, List.filterMap_nil, id_eq, List.all_cons, List.all_nil, List.any_nil, Option.isSome_some, ite_self, List.contains_cons, Nat.reduceBEq, BEq.rfl, beq_self_eq_true, cmpD, eqD_int, List.map_cons, List.map_nil, List.replicate, List.cons_append, List.nil_append, List.append_nil, Pr.emb, Bool.false_eq_true, if_true, if_false, ↓reduceIte, reduceCtorEq, List.set_cons_zero, List.set_cons_succ, Option.map_none, Option.map_some, Option.bind_some, Option.bind_none, Nat.reduceSub, Nat.reduceAdd, Nat.reduceLeDiff, Tg.put, Tg.puts, putsO, Tg.slots, Tg.slotss, List.all, wipeE, backE, List.contains_nil, Bool.not_false, Bool.not_true, Bool.or_false, Bool.true_or, Bool.or_true, Bool.and_false, Bool.false_and, Option.some.injEq, Bool.and_eq_true, decide_eq_true_eq, and_self, true_and, and_true, Bool.false_or, Bool.and_true, Bool.true_and, List.length_cons, List.length_nil, List.length_map, decide_true, decide_false, Nat.reduceLT, minK, fr_lst, fr_tup, fr_int, fr_str, fr_bl, Nat.min_zero, Nat.zero_min, Nat.min_self, capK, Ev.ofO, tr_bl, tr_lst, tr_str, lt_int, le_int, appOk, isl, mn1, mn2, tup_lst, isinstD, asF_scrq, on_scrq, sum_scr, sl_scr, asF_tupq, asF_lstq, asO_tupq, asO_lstq, on_tupq, on_lstq, own_eq, dep_nil, Nat.zero_sub, Nat.sub_zero, Nat.lt_irrefl, Nat.reduceEqDiff, Nat.zero_ne_one, List.getD_cons_zero, List.getD_cons_succ, ix_40, ix_41, ix_42, ix_43, isl, rev_str, rev_lst, sl_str, Int.reduceLT, Int.reduceLE, Int.reduceNeg, st_l, st_t, st_c, h1, hm1, hm2, set_l]
    exact ⟨r, _, by rw [hr], hrm, l' / m, c, t', rfl, Int.ediv_nonneg h2 (by omega), h3, h4⟩
  · obtain ⟨r, hr, hrm⟩ := fin l
    simp -implicitDefEqProofs only [f_law_digit, asF_excq, asO_excq, on_excq, fp_add, fp_sub, fp_mul, fp_fdiv, fp_mod, fp_pow, fp_neg, fp_cmp, fp_slice, fp_rev, fp_len, fp_tuple, fp_list, fp_sum, fp_all, fp_any, fp_repr, fp_strOf, fp_isinst, fp_join, fp_index, fp_asInt, fp_asStr, fp_fldOf, q_fld, fld_exc, q_strOf, is_exc, new_exc, startOf, endOf, outsOf, Ev.execs, Ev.exec, ev, evP, evO, evA, evI, evT, evTs, evR, evR1, evRs, bind_ok, toQ_okq, at_zero, at_succ, put_eq, asO_n, asF_n, on_n, clash_none, clash_nil, clash_some, on_int, asF_int, asO_int, new_int, on_str, asF_str, asO_str, new_str, new_bl, asO_bl, new_non, new_tup, new_lst, new_dct, q_add, q_sub, q_mod, q_fdiv, q_mul, q_pow, q_adds, q_muls, q_addl, q_cmp, q_len, q_tuple, q_sum, q_all, q_rev, q_asI, q_asS, q_repr, q_isi, q_join, q_index, q_cutl, q_cuth, subR_dct, subR_tup, subR_lst, subR_str, Xp.tch, Xp.tchs, Xp.base, mutOk, lentOk, lendIn, lendOut, borsOf, stillAt, List.foldl_nil, Ev.itsF, own1, len_str, len_tup, len_lst, itq_tup, itq_lst, itq_str, List.filterMap_cons, List.filterMap_nil, id_eq, List.all_cons, List.all_nil, List.any_nil, Option.isSome_some, ite_self, List.contains_cons, Nat.reduceBEq, BEq.rfl, beq_self_eq_true, cmpD, eqD_int, List.map_cons, List.map_nil, List.replicate, List.cons_append, List.nil_append, List.append_nil, Pr.emb, Bool.false_eq_true, if_true, if_false, ↓reduceIte, reduceCtorEq, List.set_cons_zero, List.set_cons_succ, Option.map_none, Option.map_some, Option.bind_some, Option.bind_none, Nat.reduceSub, Nat.reduceAdd, Nat.reduceLeDiff, Tg.put, Tg.puts, putsO, Tg.slots, Tg.slotss, List.all, wipeE, backE, List.contains_nil, Bool.not_false, Bool.not_true, Bool.or_false, Bool.true_or, Bool.or_true, Bool.and_false, Bool.false_and, Option.some.injEq, Bool.and_eq_true, decide_eq_true_eq, and_self, true_and, and_true, Bool.false_or, Bool.and_true, Bool.true_and, List.length_cons, List.length_nil, List.length_map, decide_true, decide_false, Nat.reduceLT, minK, fr_lst, fr_tup, fr_int, fr_str, fr_bl, Nat.min_zero, Nat.zero_min, Nat.min_self, capK, Ev.ofO, tr_bl, tr_lst, tr_str, lt_int, le_int, appOk, isl, mn1, mn2, tup_lst, isinstD, asF_scrq, on_scrq, sum_scr, sl_scr, asF_tupq, asF_lstq, asO_tupq, asO_lstq, on_tupq, on_lstq, own_eq, dep_nil, Nat.zero_sub, Nat.sub_zero, Nat.lt_irrefl, Nat.reduceEqDiff, Nat.zero_ne_one, List.getD_cons_zero, List.getD_cons_succ, ix_40, ix_41, ix_42, ix_43, isl, rev_str, rev_lst, sl_str, Int.reduceLT, Int.reduceLE, Int.reduceNeg, st_l, st_t, st_c, h0, hm1, hm2, set_l]
    exact ⟨r, _, by rw [hr], hrm, l / m, c, t, rfl, Int.ediv_nonneg hl (by omega), ht, by omega⟩
end LK
end
section
set_option linter.all false
set_option maxRecDepth 100000
namespace LK
open Ev PySem
def nmL : Nat → List Nat
  | 101 => [66, 97, 100, 83, 105, 103, 110, 115]
  | 102 => [66, 97, 100, 76, 105, 110, 101]
  | 103 => [66, 97, 100, 66, 111, 97, 114, 100]
  | 104 => [66, 97, 100, 68, 105, 114, 101, 99, 116, 105, 111, 110]
  | 105 => [66, 97, 100, 77, 97, 99, 104, 105, 110, 101]
  | 106 => [66, 97, 100, 66, 111, 111, 107]
  | 107 => [66, 97, 100, 71, 117, 97, 114, 100]
  | 108 => [66, 97, 100, 71, 97, 109, 101]
  | 109 => [66, 97, 100, 87, 101, 105, 103, 104, 116, 115]
  | 110 => [66, 97, 100, 80, 97, 112, 101, 114]
  | 111 => [66, 97, 100, 84, 101, 120, 116]
  | 112 => [66, 97, 100, 78, 117, 109, 98, 101, 114]
  | 113 => [66, 97, 100, 77, 111, 100, 115]
  | 114 => [66, 97, 100, 83, 97, 109, 112, 108, 101]
  | 115 => [66, 97, 100, 68, 101, 101, 100]
  | 116 => [84, 111, 111, 77, 97, 110, 121]
  | 117 => [78, 111, 83, 117, 99, 104]
  | _ => []
def kdL (c : Nat) : List D := if c = 116 then [.str [84, 111, 111, 77, 97, 110, 121], .str [111, 118, 101, 114, 102, 108, 111, 119]] else if c = 117 then [.str [78, 111, 83, 117, 99, 104], .str [108, 111, 111, 107, 117, 112]] else [.str (nmL c), .str [112, 108, 97, 121], .str [118, 97, 108, 117, 101]]
def valued : List Nat := [101, 102, 103, 104, 112]
def placed : List Nat := [105, 106, 107, 108, 109, 110, 111, 113, 114, 115]
def rowsL (cs : List Nat) (t : D) : List D := cs.map fun c => .tup [.exc c t, .exc c t, .str (nmL c)]
theorem kd_101 (w n : Nat) (t : D) : callN T w (n + 1) 3 [⟨0, .exc 101 t⟩] = .ok 9 (.lst (kdL 101)) [] := by kernel_rfl
theorem kd_102 (w n : Nat) (t : D) : callN T w (n + 1) 3 [⟨0, .exc 102 t⟩] = .ok 9 (.lst (kdL 102)) [] := by kernel_rfl
theorem kd_103 (w n : Nat) (t : D) : callN T w (n + 1) 3 [⟨0, .exc 103 t⟩] = .ok 9 (.lst (kdL 103)) [] := by kernel_rfl
theorem kd_104 (w n : Nat) (t : D) : callN T w (n + 1) 3 [⟨0, .exc 104 t⟩] = .ok 9 (.lst (kdL 104)) [] := by kernel_rfl
theorem kd_105 (w n : Nat) (t : D) : callN T w (n + 1) 3 [⟨0, .exc 105 t⟩] = .ok 9 (.lst (kdL 105)) [] := by kernel_rfl
theorem kd_106 (w n : Nat) (t : D) : callN T w (n + 1) 3 [⟨0, .exc 106 t⟩] = .ok 9 (.lst (kdL 106)) [] := by kernel_rfl
theorem kd_107 (w n : Nat) (t : D) : callN T w (n + 1) 3 [⟨0, .exc 107 t⟩] = .ok 9 (.lst (kdL 107)) [] := by kernel_rfl
theorem kd_108 (w n : Nat) (t : D) : callN T w (n + 1) 3 [⟨0, .exc 108 t⟩] = .ok 9 (.lst (kdL 108)) [] := by kernel_rfl
theorem kd_109 (w n : Nat) (t : D) : callN T w (n + 1) 3 [⟨0, .exc 109 t⟩] = .ok 9 (.lst (kdL 109)) [] := by kernel_rfl
theorem kd_110 (w n : Nat) (t : D) : callN T w (n + 1) 3 [⟨0, .exc 110 t⟩] = .ok 9 (.lst (kdL 110)) [] := by kernel_rfl
theorem kd_111 (w n : Nat) (t : D) : callN T w (n + 1) 3 [⟨0, .exc 111 t⟩] = .ok 9 (.lst (kdL 111)) [] := by kernel_rfl
theorem kd_112 (w n : Nat) (t : D) : callN T w (n + 1) 3 [⟨0, .exc 112 t⟩] = .ok 9 (.lst (kdL 112)) [] := by kernel_rfl
theorem kd_113 (w n : Nat) (t : D) : callN T w (n + 1) 3 [⟨0, .exc 113 t⟩] = .ok 9 (.lst (kdL 113)) [] := by kernel_rfl
theorem kd_114 (w n : Nat) (t : D) : callN T w (n + 1) 3 [⟨0, .exc 114 t⟩] = .ok 9 (.lst (kdL 114)) [] := by kernel_rfl
theorem kd_115 (w n : Nat) (t : D) : callN T w (n + 1) 3 [⟨0, .exc 115 t⟩] = .ok 9 (.lst (kdL 115)) [] := by kernel_rfl
theorem kd_116 (w n : Nat) (t : D) : callN T w (n + 1) 3 [⟨0, .exc 116 t⟩] = .ok 9 (.lst (kdL 116)) [] := by kernel_rfl
theorem kd_117 (w n : Nat) (t : D) : callN T w (n + 1) 3 [⟨0, .exc 117 t⟩] = .ok 9 (.lst (kdL 117)) [] := by kernel_rfl
theorem c_kinds (w n c : Nat) (t : D) (h : c ∈ valued ++ placed ++ [116, 117]) : callN T w (n + 1) 3 [⟨0, .exc c t⟩] = .ok 9 (.lst (kdL c)) [] := by
  simp only [valued, placed, List.cons_append, List.nil_append, List.mem_cons, List.not_mem_nil, or_false] at h
  rcases h with rfl | rfl | rfl | rfl | rfl | rfl | rfl | rfl | rfl | rfl | rfl | rfl | rfl | rfl | rfl | rfl | rfl
  · exact kd_101 w n t
  · exact kd_102 w n t
  · exact kd_103 w n t
  · exact kd_104 w n t
  · exact kd_112 w n t
  · exact kd_105 w n t
  · exact kd_106 w n t
  · exact kd_107 w n t
  · exact kd_108 w n t
  · exact kd_109 w n t
  · exact kd_110 w n t
  · exact kd_111 w n t
  · exact kd_113 w n t
  · exact kd_114 w n t
  · exact kd_115 w n t
  · exact kd_116 w n t
  · exact kd_117 w n t
/-- none, a number, a text, a tuple -/
def fourB : D → Bool
  | .non => true | .int _ => true | .str _ => true | .tup _ => true | _ => false
theorem c_valued (w n : Nat) (t : D) (h : fourB t = true) : callN T w (n + 1) 4 [⟨0, t⟩] = .ok 1 (.lst (rowsL valued t)) [] := by
  cases t <;> first | (cases h; done) | kernel_rfl
theorem c_placed (w n : Nat) (t : D) (h : fourB t = true) : callN T w (n + 1) 5 [⟨0, t⟩] = .ok 1 (.lst (rowsL placed t)) [] := by
  cases t <;> first | (cases h; done) | kernel_rfl
end LK
end
section
set_option linter.all false
set_option maxRecDepth 100000
namespace LK
open Ev
theorem kq (c : Nat) (h : c ∈ valued ++ placed) : eqD (.lst (kdL c)) (.lst [.str (nmL c), .str [112, 108, 97, 121], .str [118, 97, 108, 117, 101]]) = some true := by
  revert c; decide +kernel
theorem kq6 : eqD (.lst (kdL 116)) (.lst [.str [84, 111, 111, 77, 97, 110, 121], .str [111, 118, 101, 114, 102, 108, 111, 119]]) = some true := by decide +kernel
theorem kq7 : eqD (.lst (kdL 117)) (.lst [.str [78, 111, 83, 117, 99, 104], .str [108, 111, 111, 107, 117, 112]]) = some true := by decide +kernel
theorem fv (c : Nat) (h : c ∈ valued) : fldNo c = 0 := by revert c; decide
theorem fp (c : Nat) (h : c ∈ placed) : fldNo c = 1 := by revert c; decide
structure Th (t : D) : Prop where
  four : fourB t = true
  eq : eqD t t = some true
def KindF (F : Nat → List Sl → CR) (t : D) : Prop := ∀ c, c ∈ valued ++ placed ++ [116, 117] → F 3 [⟨0, .exc c t⟩] = .ok 9 (.lst (kdL c)) []
section
variable (F : Nat → List Sl → CR) (G : Nat → (Ls → Ev.R Vw) → Ls → Ev.R Vw) (w : Nat) (t : D)
theorem r_b1 (c : Nat) (N : List Nat) (K : List D) (hk : F 3 [⟨0, .exc c t⟩] = .ok 9 (.lst K) []) (hq : eqD (.lst K) (.lst [.str N, .str [112, 108, 97, 121], .str [118, 97, 108, 117, 101]]) = some true) (hf : fldNo c = 0) (ht : eqD t t = some true) :
    Ev.execs F T G none [] w f_law_right_b1 [some ⟨0, t⟩, some ⟨0, .exc c t⟩, some ⟨0, .exc c t⟩, some ⟨0, .str N⟩] = .nx [some ⟨0, t⟩, some ⟨0, .exc c t⟩, some ⟨0, .exc c t⟩, some ⟨0, .str N⟩] := by
  have aF : ∀ k i p e, ownAt e i p = 0 → asF ⟨t, k, some (i, p)⟩ e = (t, e) := fun k i p e h => asF_g h
  have oF : ∀ k i p e, ownAt e i p = 0 → Vw.on ⟨t, k, some (i, p)⟩ e = none := fun k i p e h => on_g h
  have nF : ∀ k, new k t = ⟨t, if t.atom then 9 else k, none⟩ := fun _ => rfl
  refine execs_nx (e' := [some ⟨0, t⟩, some ⟨0, .exc c t⟩, some ⟨0, .exc c t⟩, some ⟨0, .str N⟩]) ?_ (execs_nx (e' := [some ⟨0, t⟩, some ⟨0, .exc c t⟩, some ⟨0, .exc c t⟩, some ⟨0, .str N⟩]) ?_ execs_z)
  · simp -implicitDefEqProofs only [asF_excq, asO_excq, on_excq, fp_add, fp_sub, fp_mul, fp_fdiv, fp_mod, fp_pow, fp_neg, fp_cmp, fp_slice, fp_rev, fp_len, fp_tuple, fp_list, fp_sum, fp_all, fp_any, fp_repr, fp_strOf, fp_isinst, fp_join, fp_index, fp_asInt, fp_asStr, fp_fldOf, q_fld, fld_exc, q_strOf, is_exc, new_exc, startOf, endOf, outsOf, Ev.execs, Ev.exec, ev, evP, evO, evA, evI, evT, evTs, evR, evR1, evRs, bind_ok, toQ_okq, at_zero, at_succ, put_eq, asO_n, asF_n, on_n, clash_none, clash_nil, clash_some, on_int, asF_int, asO_int, new_int, on_str, asF_str, asO_str, new_str, new_bl, asO_bl, new_non, new_tup, new_lst, new_dct, q_add, q_sub, q_mod, q_fdiv, q_mul, q_pow, q_adds, q_muls, q_addl, q_cmp, q_len, q_tuple, q_sum, q_all, q_rev, q_asI, q_asS, q_repr, q_isi, q_join, q_index, q_cutl, q_cuth, subR_dct, subR_tup, subR_lst, subR_str, Xp.tch, Xp.tchs, Xp.base, mutOk, lentOk, lendIn, lendOut, borsOf, stillAt, List.foldl_nil, Ev.itsF, own1, len_str, len_tup, len_lst, itq_tup, itq_lst, itq_str, List.filterMap_cons, List.filterMap_nil, id_eq, List.all_cons, List.all_nil, List.any_nil, Option.isSome_some, ite_self, List.contains_cons, Nat.reduceBEq, BEq.rfl, beq_self_eq_true, cmpD, eqD_int, List.map_cons, List.map_nil, List.replicate, List.cons_append, List.nil_append, List.append_nil, Pr.emb, Bool.false_eq_true, if_true, if_false, ↓reduceIte, reduceCtorEq, List.set_cons_zero, List.set_cons_succ, Option.map_none, Option.map_some, Option.bind_some, Option.bind_none, Nat.reduceSub, Nat.reduceAdd, Nat.reduceLeDiff, Tg.put, Tg.puts, putsO, Tg.slots, Tg.slotss, List.all, wipeE, backE, List.contains_nil, Bool.not_false, Bool.not_true, Bool.or_false, Bool.true_or, Bool.or_true, Bool.and_false, Bool.false_and, Option.some.injEq, Bool.and_eq_true, decide_eq_true_eq, and_self, true_and, and_true, Bool.false_or, Bool.and_true, Bool.true_and, List.length_cons, List.length_nil, List.length_map, decide_true, decide_false, Nat.reduceLT, minK, fr_lst, fr_tup, fr_int, fr_str, fr_bl, Nat.min_zero, Nat.zero_min, Nat.min_self, capK, Ev.ofO, tr_bl, tr_lst, tr_str, lt_int, le_int, appOk, isl, mn1, mn2, tup_lst, isinstD, asF_scrq, on_scrq, sum_scr, sl_scr, asF_tupq, asF_lstq, asO_tupq, asO_lstq, on_tupq, on_lstq, own_eq, dep_nil, Nat.zero_sub, Nat.sub_zero, Nat.lt_irrefl, Nat.reduceEqDiff, Nat.zero_ne_one, List.getD_cons_zero, List.getD_cons_succ, ix_40, ix_41, ix_42, ix_43, isl, rev_str, rev_lst, sl_str, Int.reduceLT, Int.reduceLE, Int.reduceNeg, hk, hq]
  · simp -implicitDefEqProofs only [asF_excq, asO_excq, on_excq, fp_add, fp_sub, fp_mul, fp_fdiv, fp_mod, fp_pow, fp_neg, fp_cmp, fp_slice, fp_rev, fp_len, fp_tuple, fp_list, fp_sum, fp_all, fp_any, fp_repr, fp_strOf, fp_isinst, fp_join, fp_index, fp_asInt, fp_asStr, fp_fldOf, q_fld, fld_exc, q_strOf, is_exc, new_exc, startOf, endOf, outsOf, Ev.execs, Ev.exec, ev, evP, evO, evA, evI, evT, evTs, evR, evR1, evRs, bind_ok, toQ_okq, at_zero, at_succ, put_eq, asO_n, asF_n, on_n, clash_none, clash_nil, clash_some, on_int, asF_int, asO_int, new_int, on_str, asF_str, asO_str, new_str, new_bl, asO_bl, new_non, new_tup, new_lst, new_dct, q_add, q_sub, q_mod, q_fdiv, q_mul, q_pow, q_adds, q_muls, q_addl, q_cmp, q_len, q_tuple, q_sum, q_all, q_rev, q_asI, q_asS, q_repr, q_isi, q_join, q_index, q_cutl, q_cuth, subR_dct, subR_tup, subR_lst, subR_str, Xp.tch, Xp.tchs, Xp.base, mutOk, lentOk, lendIn, lendOut, borsOf, stillAt, List.foldl_nil, Ev.itsF, own1, len_str, len_tup, len_lst, itq_tup, itq_lst, itq_str, List.filterMap_cons, List.filterMap_nil, id_eq, List.all_cons, List.all_nil, List.any_nil, Option.isSome_some, ite_self, List.contains_cons, Nat.reduceBEq, BEq.rfl, beq_self_eq_true, cmpD, eqD_int, List.map_cons, List.map_nil, List.replicate, List.cons_append, List.nil_append, List.append_nil, Pr.emb, Bool.false_eq_true, if_true, if_false, ↓reduceIte, reduceCtorEq, List.set_cons_zero, List.set_cons_succ, Option.map_none, Option.map_some, Option.bind_some, Option.bind_none, Nat.reduceSub, Nat.reduceAdd, Nat.reduceLeDiff, Tg.put, Tg.puts, putsO, Tg.slots, Tg.slotss, List.all, wipeE, backE, List.contains_nil, Bool.not_false, Bool.not_true, Bool.or_false, Bool.true_or, Bool.or_true, Bool.and_false, Bool.false_and, Option.some.injEq, Bool.and_eq_true, decide_eq_true_eq, and_self, true_and, and_true, Bool.false_or, Bool.and_true, Bool.true_and, List.length_cons, List.length_nil, List.length_map, decide_true, decide_false, Nat.reduceLT, minK, fr_lst, fr_tup, fr_int, fr_str, fr_bl, Nat.min_zero, Nat.zero_min, Nat.min_self, capK, Ev.ofO, tr_bl, tr_lst, tr_str, lt_int, le_int, appOk, isl, mn1, mn2, tup_lst, isinstD, asF_scrq, on_scrq, sum_scr, sl_scr, asF_tupq, asF_lstq, asO_tupq, asO_lstq, on_tupq, on_lstq, own_eq, dep_nil, Nat.zero_sub, Nat.sub_zero, Nat.lt_irrefl, Nat.reduceEqDiff, Nat.zero_ne_one, List.getD_cons_zero, List.getD_cons_succ, ix_40, ix_41, ix_42, ix_43, isl, rev_str, rev_lst, sl_str, Int.reduceLT, Int.reduceLE, Int.reduceNeg, hf, ht, fld_exc, aF, oF, nF]
theorem r_b2 (c : Nat) (N : List Nat) (K : List D) (hk : F 3 [⟨0, .exc c t⟩] = .ok 9 (.lst K) []) (hq : eqD (.lst K) (.lst [.str N, .str [112, 108, 97, 121], .str [118, 97, 108, 117, 101]]) = some true) (hf : fldNo c = 1) (ht : eqD t t = some true) :
    Ev.execs F T G none [] w f_law_right_b2 [some ⟨0, t⟩, some ⟨0, .exc c t⟩, some ⟨0, .exc c t⟩, some ⟨0, .str N⟩] = .nx [some ⟨0, t⟩, some ⟨0, .exc c t⟩, some ⟨0, .exc c t⟩, some ⟨0, .str N⟩] := by
  have aF : ∀ k i p e, ownAt e i p = 0 → asF ⟨t, k, some (i, p)⟩ e = (t, e) := fun k i p e h => asF_g h
  have oF : ∀ k i p e, ownAt e i p = 0 → Vw.on ⟨t, k, some (i, p)⟩ e = none := fun k i p e h => on_g h
  have nF : ∀ k, new k t = ⟨t, if t.atom then 9 else k, none⟩ := fun _ => rfl
  refine execs_nx (e' := [some ⟨0, t⟩, some ⟨0, .exc c t⟩, some ⟨0, .exc c t⟩, some ⟨0, .str N⟩]) ?_ (execs_nx (e' := [some ⟨0, t⟩, some ⟨0, .exc c t⟩, some ⟨0, .exc c t⟩, some ⟨0, .str N⟩]) ?_ execs_z)
  · simp -implicitDefEqProofs only [asF_excq, asO_excq, on_excq, fp_add, fp_sub, fp_mul, fp_fdiv, fp_mod, fp_pow, fp_neg, fp_cmp, fp_slice, fp_rev, fp_len, fp_tuple, fp_list, fp_sum, fp_all, fp_any, fp_repr, fp_strOf, fp_isinst, fp_join, fp_index, fp_asInt, fp_asStr, fp_fldOf, q_fld, fld_exc, q_strOf, is_exc, new_exc, startOf, endOf, outsOf, Ev.execs, Ev.exec, ev, evP, evO, evA, evI, evT, evTs, evR, evR1, evRs, bind_ok, toQ_okq, at_zero, at_succ, put_eq, asO_n, asF_n, on_n, clash_none, clash_nil, clash_some, on_int, asF_int, asO_int, new_int, on_str, asF_str, asO_str, new_str, new_bl, asO_bl, new_non, new_tup, new_lst, new_dct, q_add, q_sub, q_mod, q_fdiv, q_mul, q_pow, q_adds, q_muls, q_addl, q_cmp, q_len, q_tuple, q_sum, q_all, q_rev, q_asI, q_asS, q_repr, q_isi, q_join, q_index, q_cutl, q_cuth, subR_dct, subR_tup, subR_lst, subR_str, Xp.tch, Xp.tchs, Xp.base, mutOk, lentOk, lendIn, lendOut, borsOf, stillAt, List.foldl_nil, Ev.itsF, own1, len_str, len_tup, len_lst, itq_tup, itq_lst, itq_str, List.filterMap_cons, List.filterMap_nil, id_eq, List.all_cons, List.all_nil, List.any_nil, Option.isSome_some, ite_self, List.contains_cons, Nat.reduceBEq, BEq.rfl, beq_self_eq_true, cmpD, eqD_int, List.map_cons, List.map_nil, List.replicate, List.cons_append, List.nil_append, List.append_nil, Pr.emb, Bool.false_eq_true, if_true, if_false, ↓reduceIte, reduceCtorEq, List.set_cons_zero, List.set_cons_succ, Option.map_none, Option.map_some, Option.bind_some, Option.bind_none, Nat.reduceSub, Nat.reduceAdd, Nat.reduceLeDiff, Tg.put, Tg.puts, putsO, Tg.slots, Tg.slotss, List.all, wipeE, backE, List.contains_nil, Bool.not_false, Bool.not_true, Bool.or_false, Bool.true_or, Bool.or_true, Bool.and_false, Bool.false_and, Option.some.injEq, Bool.and_eq_true, decide_eq_true_eq, and_self, true_and, and_true, Bool.false_or, Bool.and_true, Bool.true_and, List.length_cons, List.length_nil, List.length_map, decide_true, decide_false, Nat.reduceLT, minK, fr_lst, fr_tup, fr_int, fr_str, fr_bl, Nat.min_zero, Nat.zero_min, Nat.min_self, capK, Ev.ofO, tr_bl, tr_lst, tr_str, lt_int, le_int, appOk, isl, mn1, mn2, tup_lst, isinstD, asF_scrq, on_scrq, sum_scr, sl_scr, asF_tupq, asF_lstq, asO_tupq, asO_lstq, on_tupq, on_lstq, own_eq, dep_nil, Nat.zero_sub, Nat.sub_zero, Nat.lt_irrefl, Nat.reduceEqDiff, Nat.zero_ne_one, List.getD_cons_zero, List.getD_cons_succ, ix_40, ix_41, ix_42, ix_43, isl, rev_str, rev_lst, sl_str, Int.reduceLT, Int.reduceLE, Int.reduceNeg, hk, hq]
  · simp -implicitDefEqProofs only [asF_excq, asO_excq, on_excq, fp_add, fp_sub, fp_mul, fp_fdiv, fp_mod, fp_pow, fp_neg, fp_cmp, fp_slice, fp_rev, fp_len, fp_tuple, fp_list, fp_sum, fp_all, fp_any, fp_repr, fp_strOf, fp_isinst, fp_join, fp_index, fp_asInt, fp_asStr, fp_fldOf, q_fld, fld_exc, q_strOf, is_exc, new_exc, startOf, endOf, outsOf, Ev.execs, Ev.exec, ev, evP, evO, evA, evI, evT, evTs, evR, evR1, evRs, bind_ok, toQ_okq, at_zero, at_succ, put_eq, asO_n, asF_n, on_n, clash_none, clash_nil, clash_some, on_int, asF_int, asO_int, new_int, on_str, asF_str, asO_str, new_str, new_bl, asO_bl, new_non, new_tup, new_lst, new_dct, q_add, q_sub, q_mod, q_fdiv, q_mul, q_pow, q_adds, q_muls, q_addl, q_cmp, q_len, q_tuple, q_sum, q_all, q_rev, q_asI, q_asS, q_repr, q_isi, q_join, q_index, q_cutl, q_cuth, subR_dct, subR_tup, subR_lst, subR_str, Xp.tch, Xp.tchs, Xp.base, mutOk, lentOk, lendIn, lendOut, borsOf, stillAt, List.foldl_nil, Ev.itsF, own1, len_str, len_tup, len_lst, itq_tup, itq_lst, itq_str, List.filterMap_cons, List.filterMap_nil, id_eq, List.all_cons, List.all_nil, List.any_nil, Option.isSome_some, ite_self, List.contains_cons, Nat.reduceBEq, BEq.rfl, beq_self_eq_true, cmpD, eqD_int, List.map_cons, List.map_nil, List.replicate, List.cons_append, List.nil_append, List.append_nil, Pr.emb, Bool.false_eq_true, if_true, if_false, ↓reduceIte, reduceCtorEq, List.set_cons_zero, List.set_cons_succ, Option.map_none, Option.map_some, Option.bind_some, Option.bind_none, Nat.reduceSub, Nat.reduceAdd, Nat.reduceLeDiff, Tg.put, Tg.puts, putsO, Tg.slots, Tg.slotss, List.all, wipeE, backE, List.contains_nil, Bool.not_false, Bool.not_true, Bool.or_false, Bool.true_or, Bool.or_true, Bool.and_false, Bool.false_and, Option.some.injEq, Bool.and_eq_true, decide_eq_true_eq, and_self, true_and, and_true, Bool.false_or, Bool.and_true, Bool.true_and, List.length_cons, List.length_nil, List.length_map, decide_true, decide_false, Nat.reduceLT, minK, fr_lst, fr_tup, fr_int, fr_str, fr_bl, Nat.min_zero, Nat.zero_min, Nat.min_self, capK, Ev.ofO, tr_bl, tr_lst, tr_str, lt_int, le_int, appOk, isl, mn1, mn2, tup_lst, isinstD, asF_scrq, on_scrq, sum_scr, sl_scr, asF_tupq, asF_lstq, asO_tupq, asO_lstq, on_tupq, on_lstq, own_eq, dep_nil, Nat.zero_sub, Nat.sub_zero, Nat.lt_irrefl, Nat.reduceEqDiff, Nat.zero_ne_one, List.getD_cons_zero, List.getD_cons_succ, ix_40, ix_41, ix_42, ix_43, isl, rev_str, rev_lst, sl_str, Int.reduceLT, Int.reduceLE, Int.reduceNeg, hf, ht, fld_exc, aF, oF, nF]
theorem r_b3 (s2 s3 : Option Sl) (K : List D) (hk : F 3 [⟨0, .exc 117 t⟩] = .ok 9 (.lst K) []) (hq : eqD (.lst K) (.lst [.str [78, 111, 83, 117, 99, 104], .str [108, 111, 111, 107, 117, 112]]) = some true) (hf : fldNo 117 = 0) (ht : eqD t t = some true) :
    Ev.execs F T G none [] w f_law_right_b3 [some ⟨0, t⟩, some ⟨0, .exc 117 t⟩, s2, s3] = .nx [some ⟨0, t⟩, some ⟨0, .exc 117 t⟩, s2, s3] := by
  have aF : ∀ k i p e, ownAt e i p = 0 → asF ⟨t, k, some (i, p)⟩ e = (t, e) := fun k i p e h => asF_g h
  have oF : ∀ k i p e, ownAt e i p = 0 → Vw.on ⟨t, k, some (i, p)⟩ e = none := fun k i p e h => on_g h
  have nF : ∀ k, new k t = ⟨t, if t.atom then 9 else k, none⟩ := fun _ => rfl
  refine execs_nx (e' := [some ⟨0, t⟩, some ⟨0, .exc 117 t⟩, s2, s3]) ?_ execs_z
  simp -implicitDefEqProofs only [asF_excq, asO_excq, on_excq, fp_add, fp_sub, fp_mul, fp_fdiv, fp_mod, fp_pow, fp_neg, fp_cmp, fp_slice, fp_rev, fp_len, fp_tuple, fp_list, fp_sum, fp_all, fp_any, fp_repr, fp_strOf, fp_isinst, fp_join, fp_index, fp_asInt, fp_asStr, fp_fldOf, q_fld, fld_exc, q_strOf, is_exc, new_exc, startOf, endOf, outsOf, Ev.execs, Ev.exec, ev, evP, evO, evA, evI, evT, evTs, evR, evR1, evRs, bind_ok, toQ_okq, at_zero, at_succ, put_eq, asO_n, asF_n, on_n, clash_none, clash_nil, clash_some, on_int, asF_int, asO_int, new_int, on_str, asF_str, asO_str, new_str, new_bl, asO_bl, new_non, new_tup, new_lst, new_dct, q_add, q_sub, q_mod, q_fdiv, q_mul, q_pow, q_adds, q_muls, q_addl, q_cmp, q_len, q_tuple, q_sum, q_all, q_rev, q_asI, q_asS, q_repr, q_isi, q_join, q_index, q_cutl, q_cuth, subR_dct, subR_tup, subR_lst, subR_str, Xp.tch, Xp.tchs, Xp.base, mutOk, lentOk, lendIn, lendOut, borsOf, stillAt, List.foldl_nil, Ev.itsF, own1, len_str, len_tup, len_lst, itq_tup, itq_lst, itq_str, List.filterMap_cons, List.filterMap_nil, id_eq, List.all_cons, List.all_nil, List.any_nil, Option.isSome_some, ite_self, List.contains_cons, Nat.reduceBEq, BEq.rfl, beq_self_eq_true, cmpD, eqD_int, List.map_cons, List.map_nil, List.replicate, List.cons_append, List.nil_append, List.append_nil, Pr.emb, Bool.false_eq_true, if_true, if_false, ↓reduceIte, reduceCtorEq, List.set_cons_zero, List.set_cons_succ, Option.map_none, Option.map_some, Option.bind_some, Option.bind_none, Nat.reduceSub, Nat.reduceAdd, Nat.reduceLeDiff, Tg.put, Tg.puts, putsO, Tg.slots, Tg.slotss, List.all, wipeE, backE, List.contains_nil, Bool.not_false, Bool.not_true, Bool.or_false, Bool.true_or, Bool.or_true, Bool.and_false, Bool.false_and, Option.some.injEq, Bool.and_eq_true, decide_eq_true_eq, and_self, true_and, and_true, Bool.false_or, Bool.and_true, Bool.true_and, List.length_cons, List.length_nil, List.length_map, decide_true, decide_false, Nat.reduceLT, minK, fr_lst, fr_tup, fr_int, fr_str, fr_bl, Nat.min_zero, Nat.zero_min, Nat.min_self, capK, Ev.ofO, tr_bl, tr_lst, tr_str, lt_int, le_int, appOk, isl, mn1, mn2, tup_lst, isinstD, asF_scrq, on_scrq, sum_scr, sl_scr, asF_tupq, asF_lstq, asO_tupq, asO_lstq, on_tupq, on_lstq, own_eq, dep_nil, Nat.zero_sub, Nat.sub_zero, Nat.lt_irrefl, Nat.reduceEqDiff, Nat.zero_ne_one, List.getD_cons_zero, List.getD_cons_succ, ix_40, ix_41, ix_42, ix_43, isl, rev_str, rev_lst, sl_str, Int.reduceLT, Int.reduceLE, Int.reduceNeg, hk, hq, hf, ht, fld_exc, aF, oF, nF]
theorem r_b4 (s2 s3 : Option Sl) (K : List D) (hk : F 3 [⟨0, .exc 116 t⟩] = .ok 9 (.lst K) []) (hq : eqD (.lst K) (.lst [.str [84, 111, 111, 77, 97, 110, 121], .str [111, 118, 101, 114, 102, 108, 111, 119]]) = some true) (hf : fldNo 116 = 2) (ht : eqD t t = some true) :
    Ev.execs F T G none [] w f_law_right_b4 [some ⟨0, t⟩, some ⟨0, .exc 116 t⟩, s2, s3] = .nx [some ⟨0, t⟩, some ⟨0, .exc 116 t⟩, s2, s3] := by
  have aF : ∀ k i p e, ownAt e i p = 0 → asF ⟨t, k, some (i, p)⟩ e = (t, e) := fun k i p e h => asF_g h
  have oF : ∀ k i p e, ownAt e i p = 0 → Vw.on ⟨t, k, some (i, p)⟩ e = none := fun k i p e h => on_g h
  have nF : ∀ k, new k t = ⟨t, if t.atom then 9 else k, none⟩ := fun _ => rfl
  refine execs_nx (e' := [some ⟨0, t⟩, some ⟨0, .exc 116 t⟩, s2, s3]) ?_ execs_z
  simp -implicitDefEqProofs only [asF_excq, asO_excq, on_excq, fp_add, fp_sub, fp_mul, fp_fdiv, fp_mod, fp_pow, fp_neg, fp_cmp, fp_slice, fp_rev, fp_len, fp_tuple, fp_list, fp_sum, fp_all, fp_any, fp_repr, fp_strOf, fp_isinst, fp_join, fp_index, fp_asInt, fp_asStr, fp_fldOf, q_fld, fld_exc, q_strOf, is_exc, new_exc, startOf, endOf, outsOf, Ev.execs, Ev.exec, ev, evP, evO, evA, evI, evT, evTs, evR, evR1, evRs, bind_ok, toQ_okq, at_zero, at_succ, put_eq, asO_n, asF_n, on_n, clash_none, clash_nil, clash_some, on_int, asF_int, asO_int, new_int, on_str, asF_str, asO_str, new_str, new_bl, asO_bl, new_non, new_tup, new_lst, new_dct, q_add, q_sub, q_mod, q_fdiv, q_mul, q_pow, q_adds, q_muls, q_addl, q_cmp, q_len, q_tuple, q_sum, q_all, q_rev, q_asI, q_asS, q_repr, q_isi, q_join, q_index, q_cutl, q_cuth, subR_dct, subR_tup, subR_lst, subR_str, Xp.tch, Xp.tchs, Xp.base, mutOk, lentOk, lendIn, lendOut, borsOf, stillAt, List.foldl_nil, Ev.itsF, own1, len_str, len_tup, len_lst, itq_tup, itq_lst, itq_str, List.filterMap_cons, List.filterMap_nil, id_eq, List.all_cons, List.all_nil, List.any_nil, Option.isSome_some, ite_self, List.contains_cons, Nat.reduceBEq, BEq.rfl, beq_self_eq_true, cmpD, eqD_int, List.map_cons, List.map_nil, List.replicate, List.cons_append, List.nil_append, List.append_nil, Pr.emb, Bool.false_eq_true, if_true, if_false, ↓reduceIte, reduceCtorEq, List.set_cons_zero, List.set_cons_succ, Option.map_none, Option.map_some, Option.bind_some, Option.bind_none, Nat.reduceSub, Nat.reduceAdd, Nat.reduceLeDiff, Tg.put, Tg.puts, putsO, Tg.slots, Tg.slotss, List.all, wipeE, backE, List.contains_nil, Bool.not_false, Bool.not_true, Bool.or_false, Bool.true_or, Bool.or_true, Bool.and_false, Bool.false_and, Option.some.injEq, Bool.and_eq_true, decide_eq_true_eq, and_self, true_and, and_true, Bool.false_or, Bool.and_true, Bool.true_and, List.length_cons, List.length_nil, List.length_map, decide_true, decide_false, Nat.reduceLT, minK, fr_lst, fr_tup, fr_int, fr_str, fr_bl, Nat.min_zero, Nat.zero_min, Nat.min_self, capK, Ev.ofO, tr_bl, tr_lst, tr_str, lt_int, le_int, appOk, isl, mn1, mn2, tup_lst, isinstD, asF_scrq, on_scrq, sum_scr, sl_scr, asF_tupq, asF_lstq, asO_tupq, asO_lstq, on_tupq, on_lstq, own_eq, dep_nil, Nat.zero_sub, Nat.sub_zero, Nat.lt_irrefl, Nat.reduceEqDiff, Nat.zero_ne_one, List.getD_cons_zero, List.getD_cons_succ, ix_40, ix_41, ix_42, ix_43, isl, rev_str, rev_lst, sl_str, Int.reduceLT, Int.reduceLE, Int.reduceNeg, hk, hq, hf, ht, fld_exc, aF, oF, nF]
theorem l_right1 (hk : KindF F t) (ht : eqD t t = some true) (k : Nat) (h4 : F 4 [⟨0, t⟩] = .ok k (.lst (rowsL valued t)) []) (s1 s2 s3 : Option Sl) : ∃ s1' s2' s3' : Option Sl, Ev.exec F T G none [] w f_law_right_l1 [some ⟨0, t⟩, s1, s2, s3] = .nx [some ⟨0, t⟩, s1', s2', s3'] := by
  have oF : ∀ k i p e, ownAt e i p = 0 → Vw.on ⟨t, k, some (i, p)⟩ e = none := fun k i p e h => on_g h
  obtain ⟨e', p1, s1', s2', s3', rfl⟩ := forL_inv (body := fun e => Ev.execs F T G none [] w f_law_right_b1 e) (put := fun d e => (Tg.tup [.v 1 0, .v 2 0, .v 3 0]).put 0 d [] e) (rowsL valued t)
    (fun i e => ∃ s1 s2 s3 : Option Sl, e = [some ⟨0, t⟩, s1, s2, s3]) (by
      intro i d e hd ⟨s1, s2, s3, he⟩
      subst he
      obtain ⟨c, hc, rfl⟩ := List.mem_map.mp (List.mem_of_getElem? hd)
      have hm : c ∈ valued ++ placed := List.mem_append_left _ hc
      exact ⟨_, _, rfl, r_b1 F G w t c (nmL c) (kdL c) (hk c (List.mem_append_left _ hm)) (kq c hm) (fv c hc) ht, _, _, _, rfl⟩) [some ⟨0, t⟩, s1, s2, s3] ⟨_, _, _, rfl⟩
  refine ⟨s1', s2', s3', ?_⟩
  simp -implicitDefEqProofs only [asF_excq, asO_excq, on_excq, fp_add, fp_sub, fp_mul, fp_fdiv, fp_mod, fp_pow, fp_neg, fp_cmp, fp_slice, fp_rev, fp_len, fp_tuple, fp_list, fp_sum, fp_all, fp_any, fp_repr, fp_strOf, fp_isinst, fp_join, fp_index, fp_asInt, fp_asStr, fp_fldOf, q_fld, fld_exc, q_strOf, is_exc, new_exc, startOf, endOf, outsOf, Ev.execs, Ev.exec, ev, evP, evO, evA, evI, evT, evTs, evR, evR1, evRs, bind_ok, toQ_okq, at_zero, at_succ, put_eq, asO_n, asF_n, on_n, clash_none, clash_nil, clash_some, on_int, asF_int, asO_int, new_int, on_str, asF_str, asO_str, new_str, new_bl, asO_bl, new_non, new_tup, new_lst, new_dct, q_add, q_sub, q_mod, q_fdiv, q_mul, q_pow, q_adds, q_muls, q_addl, q_cmp, q_len, q_tuple, q_sum, q_all, q_rev, q_asI, q_asS, q_repr, q_isi, q_join, q_index, q_cutl, q_cuth, subR_dct, subR_tup, subR_lst, subR_str, Xp.tch, Xp.tchs, Xp.base, mutOk, lentOk, lendIn, lendOut, borsOf, stillAt, List.foldl_nil, Ev.itsF, own1, len_str, len_tup, len_lst, itq_tup, itq_lst, itq_str, List.filterMap_cons, List.filterMap_nil, id_eq, List.all_cons, List.all_nil, List.any_nil, Option.isSome_some, ite_self, List.contains_cons, Nat.reduceBEq, BEq.rfl, beq_self_eq_true, cmpD, eqD_int, List.map_cons, List.map_nil, List.replicate, List.cons_append, List.nil_append, List.append_nil, Pr.emb, Bool.false_eq_true, if_true, if_false, ↓reduceIte, reduceCtorEq, List.set_cons_zero, List.set_cons_succ, Option.map_none, Option.map_some, Option.bind_some, Option.bind_none, Nat.reduceSub, Nat.reduceAdd, Nat.reduceLeDiff, Tg.put, Tg.puts, putsO, Tg.slots, Tg.slotss, List.all, wipeE, backE, List.contains_nil, Bool.not_false, Bool.not_true, Bool.or_false, Bool.true_or, Bool.or_true, Bool.and_false, Bool.false_and, Option.some.injEq, Bool.and_eq_true, decide_eq_true_eq, and_self, true_and, and_true, Bool.false_or, Bool.and_true, Bool.true_and, List.length_cons, List.length_nil, List.length_map, decide_true, decide_false, Nat.reduceLT, minK, fr_lst, fr_tup, fr_int, fr_str, fr_bl, Nat.min_zero, Nat.zero_min, Nat.min_self, capK, Ev.ofO, tr_bl, tr_lst, tr_str, lt_int, le_int, appOk, isl, mn1, mn2, tup_lst, isinstD, asF_scrq, on_scrq, sum_scr, sl_scr, asF_tupq, asF_lstq, asO_tupq, asO_lstq, on_tupq, on_lstq, own_eq, dep_nil, Nat.zero_sub, Nat.sub_zero, Nat.lt_irrefl, Nat.reduceEqDiff, Nat.zero_ne_one, List.getD_cons_zero, List.getD_cons_succ, ix_40, ix_41, ix_42, ix_43, isl, rev_str, rev_lst, sl_str, Int.reduceLT, Int.reduceLE, Int.reduceNeg, f_law_right_l1, h4, oF]
  exact p1
theorem l_right2 (hk : KindF F t) (ht : eqD t t = some true) (k : Nat) (h4 : F 5 [⟨0, t⟩] = .ok k (.lst (rowsL placed t)) []) (s1 s2 s3 : Option Sl) : ∃ s1' s2' s3' : Option Sl, Ev.exec F T G none [] w f_law_right_l2 [some ⟨0, t⟩, s1, s2, s3] = .nx [some ⟨0, t⟩, s1', s2', s3'] := by
  have oF : ∀ k i p e, ownAt e i p = 0 → Vw.on ⟨t, k, some (i, p)⟩ e = none := fun k i p e h => on_g h
  obtain ⟨e', p1, s1', s2', s3', rfl⟩ := forL_inv (body := fun e => Ev.execs F T G none [] w f_law_right_b2 e) (put := fun d e => (Tg.tup [.v 1 0, .v 2 0, .v 3 0]).put 0 d [] e) (rowsL placed t)
    (fun i e => ∃ s1 s2 s3 : Option Sl, e = [some ⟨0, t⟩, s1, s2, s3]) (by
      intro i d e hd ⟨s1, s2, s3, he⟩
      subst he
      obtain ⟨c, hc, rfl⟩ := List.mem_map.mp (List.mem_of_getElem? hd)
      have hm : c ∈ valued ++ placed := List.mem_append_right _ hc
      exact ⟨_, _, rfl, r_b2 F G w t c (nmL c) (kdL c) (hk c (List.mem_append_left _ hm)) (kq c hm) (fp c hc) ht, _, _, _, rfl⟩) [some ⟨0, t⟩, s1, s2, s3] ⟨_, _, _, rfl⟩
  refine ⟨s1', s2', s3', ?_⟩
  simp -implicitDefEqProofs only [asF_excq, asO_excq, on_excq, fp_add, fp_sub, fp_mul, fp_fdiv, fp_mod, fp_pow, fp_neg, fp_cmp, fp_slice, fp_rev, fp_len, fp_tuple, fp_list, fp_sum, fp_all, fp_any, fp_repr, fp_strOf, fp_isinst, fp_join, fp_index, fp_asInt, fp_asStr, fp_fldOf, q_fld, fld_exc, q_strOf, is_exc, new_exc, startOf, endOf, outsOf, Ev.execs, Ev.exec, ev, evP, evO, evA, evI, evT, evTs, evR, evR1, evRs, bind_ok, toQ_okq, at_zero, at_succ, put_eq, asO_n, asF_n, on_n, clash_none, clash_nil, clash_some, on_int, asF_int, asO_int, new_int, on_str, asF_str, asO_str, new_str, new_bl, asO_bl, new_non, new_tup, new_lst, new_dct, q_add, q_sub, q_mod, q_fdiv, q_mul, q_pow, q_adds, q_muls, q_addl, q_cmp, q_len, q_tuple, q_sum, q_all, q_rev, q_asI, q_asS, q_repr, q_isi, q_join, q_index, q_cutl, q_cuth, subR_dct, subR_tup, subR_lst, subR_str, Xp.tch, Xp.tchs, Xp.base, mutOk, lentOk, lendIn, lendOut, borsOf, stillAt, List.foldl_nil, Ev.itsF, own1, len_str, len_tup, len_lst, itq_tup, itq_lst, itq_str, List.filterMap_cons, List.filterMap_nil, id_eq, List.all_cons, List.all_nil, List.any_nil, Option.isSome_some, ite_self, List.contains_cons, Nat.reduceBEq, BEq.rfl, beq_self_eq_true, cmpD, eqD_int, List.map_cons, List.map_nil, List.replicate, List.cons_append, List.nil_append, List.append_nil, Pr.emb, Bool.false_eq_true, if_true, if_false, ↓reduceIte, reduceCtorEq, List.set_cons_zero, List.set_cons_succ, Option.map_none, Option.map_some, Option.bind_some, Option.bind_none, Nat.reduceSub, Nat.reduceAdd, Nat.reduceLeDiff, Tg.put, Tg.puts, putsO, Tg.slots, Tg.slotss, List.all, wipeE, backE, List.contains_nil, Bool.not_false, Bool.not_true, Bool.or_false, Bool.true_or, Bool.or_true, Bool.and_false, Bool.false_and, Option.some.injEq, Bool.and_eq_true, decide_eq_true_eq, and_self, true_and, and_true, Bool.false_or, Bool.and_true, Bool.true_and, List.length_cons, List.length_nil, List.length_map, decide_true, decide_false, Nat.reduceLT, minK, fr_lst, fr_tup, fr_int, fr_str, fr_bl, Nat.min_zero, Nat.zero_min, Nat.min_self, capK, Ev.ofO, tr_bl, tr_lst, tr_str, lt_int, le_int, appOk, isl, mn1, mn2, tup_lst, isinstD, asF_scrq, on_scrq, sum_scr, sl_scr, asF_tupq, asF_lstq, asO_tupq, asO_lstq, on_tupq, on_lstq, own_eq, dep_nil, Nat.zero_sub, Nat.sub_zero, Nat.lt_irrefl, Nat.reduceEqDiff, Nat.zero_ne_one, List.getD_cons_zero, List.getD_cons_succ, ix_40, ix_41, ix_42, ix_43, isl, rev_str, rev_lst, sl_str, Int.reduceLT, Int.reduceLE, Int.reduceNeg, f_law_right_l2, h4, oF]
  exact p1
theorem l_right3 (hk : KindF F t) (ht : eqD t t = some true) (s1 s2 s3 : Option Sl) : ∃ s1' s2' s3' : Option Sl, Ev.exec F T G none [] w f_law_right_l3 [some ⟨0, t⟩, s1, s2, s3] = .nx [some ⟨0, t⟩, s1', s2', s3'] := by
  have aF : ∀ k i p e, ownAt e i p = 0 → asF ⟨t, k, some (i, p)⟩ e = (t, e) := fun k i p e h => asF_g h
  obtain ⟨e', p1, s1', s2', s3', rfl⟩ := forL_inv (body := fun e => Ev.execs F T G none [] w f_law_right_b3 e) (put := fun d e => (Tg.v 1 0).put 0 d [] e) [.exc 117 t, .exc 117 t]
    (fun i e => ∃ s1 s2 s3 : Option Sl, e = [some ⟨0, t⟩, s1, s2, s3]) (by
      intro i d e hd ⟨s1, s2, s3, he⟩
      subst he
      have hm := List.mem_of_getElem? hd
      simp only [List.mem_cons, List.not_mem_nil, or_false, or_self] at hm
      subst hm
      exact ⟨_, _, rfl, r_b3 F G w t s2 s3 (kdL 117) (hk 117 (by decide)) kq7 rfl ht, _, _, _, rfl⟩) [some ⟨0, t⟩, s1, s2, s3] ⟨_, _, _, rfl⟩
  refine ⟨s1', s2', s3', ?_⟩
  simp -implicitDefEqProofs only [asF_excq, asO_excq, on_excq, fp_add, fp_sub, fp_mul, fp_fdiv, fp_mod, fp_pow, fp_neg, fp_cmp, fp_slice, fp_rev, fp_len, fp_tuple, fp_list, fp_sum, fp_all, fp_any, fp_repr, fp_strOf, fp_isinst, fp_join, fp_index, fp_asInt, fp_asStr, fp_fldOf, q_fld, fld_exc, q_strOf, is_exc, new_exc, startOf, endOf, outsOf, Ev.execs, Ev.exec, ev, evP, evO, evA, evI, evT, evTs, evR, evR1, evRs, bind_ok, toQ_okq, at_zero, at_succ, put_eq, asO_n, asF_n, on_n, clash_none, clash_nil, clash_some, on_int, asF_int, asO_int, new_int, on_str, asF_str, asO_str, new_str, new_bl, asO_bl, new_non, new_tup, new_lst, new_dct, q_add, q_sub, q_mod, q_fdiv, q_mul, q_pow, q_adds, q_muls, q_addl, q_cmp, q_len, q_tuple, q_sum, q_all, q_rev, q_asI, q_asS, q_repr, q_isi, q_join, q_index, q_cutl, q_cuth, subR_dct, subR_tup, subR_lst, subR_str, Xp.tch, Xp.tchs, Xp.base, mutOk, lentOk, lendIn, lendOut, borsOf, stillAt, List.foldl_nil, Ev.itsF, own1, len_str, len_tup, len_lst, itq_tup, itq_lst, itq_str, List.filterMap_cons, List.filterMap_nil, id_eq, List.all_cons, List.all_nil, List.any_nil, Option.isSome_some, ite_self, List.contains_cons, Nat.reduceBEq, BEq.rfl, beq_self_eq_true, cmpD, eqD_int, List.map_cons, List.map_nil, List.replicate, List.cons_append, List.nil_append, List.append_nil, Pr.emb, Bool.false_eq_true, if_true, if_false, ↓reduceIte, reduceCtorEq, List.set_cons_zero, List.set_cons_succ, Option.map_none, Option.map_some, Option.bind_some, Option.bind_none, Nat.reduceSub, Nat.reduceAdd, Nat.reduceLeDiff, Tg.put, Tg.puts, putsO, Tg.slots, Tg.slotss, List.all, wipeE, backE, List.contains_nil, Bool.not_false, Bool.not_true, Bool.or_false, Bool.true_or, Bool.or_true, Bool.and_false, Bool.false_and, Option.some.injEq, Bool.and_eq_true, decide_eq_true_eq, and_self, true_and, and_true, Bool.false_or, Bool.and_true, Bool.true_and, List.length_cons, List.length_nil, List.length_map, decide_true, decide_false, Nat.reduceLT, minK, fr_lst, fr_tup, fr_int, fr_str, fr_bl, Nat.min_zero, Nat.zero_min, Nat.min_self, capK, Ev.ofO, tr_bl, tr_lst, tr_str, lt_int, le_int, appOk, isl, mn1, mn2, tup_lst, isinstD, asF_scrq, on_scrq, sum_scr, sl_scr, asF_tupq, asF_lstq, asO_tupq, asO_lstq, on_tupq, on_lstq, own_eq, dep_nil, Nat.zero_sub, Nat.sub_zero, Nat.lt_irrefl, Nat.reduceEqDiff, Nat.zero_ne_one, List.getD_cons_zero, List.getD_cons_succ, ix_40, ix_41, ix_42, ix_43, isl, rev_str, rev_lst, sl_str, Int.reduceLT, Int.reduceLE, Int.reduceNeg, f_law_right_l3, aF]
  exact p1
theorem l_right4 (hk : KindF F t) (ht : eqD t t = some true) (s1 s2 s3 : Option Sl) : ∃ s1' s2' s3' : Option Sl, Ev.exec F T G none [] w f_law_right_l4 [some ⟨0, t⟩, s1, s2, s3] = .nx [some ⟨0, t⟩, s1', s2', s3'] := by
  have aF : ∀ k i p e, ownAt e i p = 0 → asF ⟨t, k, some (i, p)⟩ e = (t, e) := fun k i p e h => asF_g h
  obtain ⟨e', p1, s1', s2', s3', rfl⟩ := forL_inv (body := fun e => Ev.execs F T G none [] w f_law_right_b4 e) (put := fun d e => (Tg.v 1 0).put 0 d [] e) [.exc 116 t, .exc 116 t]
    (fun i e => ∃ s1 s2 s3 : Option Sl, e = [some ⟨0, t⟩, s1, s2, s3]) (by
      intro i d e hd ⟨s1, s2, s3, he⟩
      subst he
      have hm := List.mem_of_getElem? hd
      simp only [List.mem_cons, List.not_mem_nil, or_false, or_self] at hm
      subst hm
      exact ⟨_, _, rfl, r_b4 F G w t s2 s3 (kdL 116) (hk 116 (by decide)) kq6 rfl ht, _, _, _, rfl⟩) [some ⟨0, t⟩, s1, s2, s3] ⟨_, _, _, rfl⟩
  refine ⟨s1', s2', s3', ?_⟩
  simp -implicitDefEqProofs only [asF_excq, asO_excq, on_excq, fp_add, fp_sub, fp_mul, fp_fdiv, fp_mod, fp_pow, fp_neg, fp_cmp, fp_slice, fp_rev, fp_len, fp_tuple, fp_list, fp_sum, fp_all, fp_any, fp_repr, fp_strOf, fp_isinst, fp_join, fp_index, fp_asInt, fp_asStr, fp_fldOf, q_fld, fld_exc, q_strOf, is_exc, new_exc, startOf, endOf, outsOf, Ev.execs, Ev.exec, ev, evP, evO, evA, evI, evT, evTs, evR, evR1, evRs, bind_ok, toQ_okq, at_zero, at_succ, put_eq, asO_n, asF_n, on_n, clash_none, clash_nil, clash_some, on_int, asF_int, asO_int, new_int, on_str, asF_str, asO_str, new_str, new_bl, asO_bl, new_non, new_tup, new_lst, new_dct, q_add, q_sub, q_mod, q_fdiv, q_mul, q_pow, q_adds, q_muls, q_addl, q_cmp, q_len, q_tuple, q_sum, q_all, q_rev, q_asI, q_asS, q_repr, q_isi, q_join, q_index, q_cutl, q_cuth, subR_dct, subR_tup, subR_lst, subR_str, Xp.tch, Xp.tchs, Xp.base, mutOk, lentOk, lendIn, lendOut, borsOf, stillAt, List.foldl_nil, Ev.itsF, own1, len_str, len_tup, len_lst, itq_tup, itq_lst, itq_str, List.filterMap_cons, List.filterMap_nil, id_eq, List.all_cons, List.all_nil, List.any_nil, Option.isSome_some, ite_self, List.contains_cons, Nat.reduceBEq, BEq.rfl, beq_self_eq_true, cmpD, eqD_int, List.map_cons, List.map_nil, List.replicate, List.cons_append, List.nil_append, List.append_nil, Pr.emb, Bool.false_eq_true, if_true, if_false, ↓reduceIte, reduceCtorEq, List.set_cons_zero, List.set_cons_succ, Option.map_none, Option.map_some, Option.bind_some, Option.bind_none, Nat.reduceSub, Nat.reduceAdd, Nat.reduceLeDiff, Tg.put, Tg.puts, putsO, Tg.slots, Tg.slotss, List.all, wipeE, backE, List.contains_nil, Bool.not_false, Bool.not_true, Bool.or_false, Bool.true_or, Bool.or_true, Bool.and_false, Bool.false_and, Option.some.injEq, Bool.and_eq_true, decide_eq_true_eq, and_self, true_and, and_true, Bool.false_or, Bool.and_true, Bool.true_and, List.length_cons, List.length_nil, List.length_map, decide_true, decide_false, Nat.reduceLT, minK, fr_lst, fr_tup, fr_int, fr_str, fr_bl, Nat.min_zero, Nat.zero_min, Nat.min_self, capK, Ev.ofO, tr_bl, tr_lst, tr_str, lt_int, le_int, appOk, isl, mn1, mn2, tup_lst, isinstD, asF_scrq, on_scrq, sum_scr, sl_scr, asF_tupq, asF_lstq, asO_tupq, asO_lstq, on_tupq, on_lstq, own_eq, dep_nil, Nat.zero_sub, Nat.sub_zero, Nat.lt_irrefl, Nat.reduceEqDiff, Nat.zero_ne_one, List.getD_cons_zero, List.getD_cons_succ, ix_40, ix_41, ix_42, ix_43, isl, rev_str, rev_lst, sl_str, Int.reduceLT, Int.reduceLE, Int.reduceNeg, f_law_right_l4, aF]
  exact p1
end
theorem c_right (w n a : Nat) (t : D) (h : Th t) : callN T w (n + 2) 6 [⟨0, t⟩] = .ok 9 (.bl true) [] := by
  rw [call_eq (fd := f_law_right) rfl rfl]
  have hk : KindF (callN T w (n + 1)) t := fun c hc => c_kinds w n c t hc
  obtain ⟨k4, h4⟩ : ∃ k, callN T w (n + 1) 4 [⟨0, t⟩] = .ok k (.lst (rowsL valued t)) [] := ⟨_, c_valued w n t h.four⟩
  obtain ⟨k5, h5⟩ : ∃ k, callN T w (n + 1) 5 [⟨0, t⟩] = .ok k (.lst (rowsL placed t)) [] := ⟨_, c_placed w n t h.four⟩
  generalize callN T w (n + 1) = F at *
  generalize toldN T w (n + 1) = G
  obtain ⟨a1, a2, a3, p1⟩ := l_right1 F G w t hk h.eq k4 h4 none none none
  obtain ⟨b1, b2, b3, p2⟩ := l_right2 F G w t hk h.eq k5 h5 a1 a2 a3
  obtain ⟨c1, c2, c3, p3⟩ := l_right3 F G w t hk h.eq b1 b2 b3
  obtain ⟨d1, d2, d3, p4⟩ := l_right4 F G w t hk h.eq c1 c2 c3
  refine (congrArg (endOf f_law_right) (execs_nx p1 (execs_nx p2 (execs_nx p3 (execs_nx p4 (execs_rt (k := 9) (d := .bl true) (e' := [some ⟨0, t⟩, d1, d2, d3]) ?_)))))).trans rfl
  simp -implicitDefEqProofs only [asF_excq, asO_excq, on_excq, fp_add, fp_sub, fp_mul, fp_fdiv, fp_mod, fp_pow, fp_neg, fp_cmp, fp_slice, fp_rev, fp_len, fp_tuple, fp_list, fp_sum, fp_all, fp_any, fp_repr, fp_strOf, fp_isinst, fp_join, fp_index, fp_asInt, fp_asStr, fp_fldOf, q_fld, fld_exc, q_strOf, is_exc, new_exc, startOf, endOf, outsOf, Ev.execs, Ev.exec, ev, evP, evO, evA, evI, evT, evTs, evR, evR1, evRs, bind_ok, toQ_okq, at_zero, at_succ, put_eq, asO_n, asF_n, on_n, clash_none, clash_nil, clash_some, on_int, asF_int, asO_int, new_int, on_str, asF_str, asO_str, new_str, new_bl, asO_bl, new_non, new_tup, new_lst, new_dct, q_add, q_sub, q_mod, q_fdiv, q_mul, q_pow, q_adds, q_muls, q_addl, q_cmp, q_len, q_tuple, q_sum, q_all, q_rev, q_asI, q_asS, q_repr, q_isi, q_join, q_index, q_cutl, q_cuth, subR_dct, subR_tup, subR_lst, subR_str, Xp.tch, Xp.tchs, Xp.base, mutOk, lentOk, lendIn, lendOut, borsOf, stillAt, List.foldl_nil, Ev.itsF, own1, len_str, len_tup, len_lst, itq_tup, itq_lst, itq_str, List.filterMap_cons, List.filterMap_nil, id_eq, List.all_cons, List.all_nil, List.any_nil, Option.isSome_some, ite_self, List.contains_cons, Nat.reduceBEq, BEq.rfl, beq_self_eq_true, cmpD, eqD_int, List.map_cons, List.map_nil, List.replicate, List.cons_append, List.nil_append, List.append_nil, Pr.emb, Bool.false_eq_true, if_true, if_false, ↓reduceIte, reduceCtorEq, List.set_cons_zero, List.set_cons_succ, Option.map_none, Option.map_some, Option.bind_some, Option.bind_none, Nat.reduceSub, Nat.reduceAdd, Nat.reduceLeDiff, Tg.put, Tg.puts, putsO, Tg.slots, Tg.slotss, List.all, wipeE, backE, List.contains_nil, Bool.not_false, Bool.not_true, Bool.or_false, Bool.true_or, Bool.or_true, Bool.and_false, Bool.false_and, Option.some.injEq, Bool.and_eq_true, decide_eq_true_eq, and_self, true_and, and_true, Bool.false_or, Bool.and_true, Bool.true_and, List.length_cons, List.length_nil, List.length_map, decide_true, decide_false, Nat.reduceLT, minK, fr_lst, fr_tup, fr_int, fr_str, fr_bl, Nat.min_zero, Nat.zero_min, Nat.min_self, capK, Ev.ofO, tr_bl, tr_lst, tr_str, lt_int, le_int, appOk, isl, mn1, mn2, tup_lst, isinstD, asF_scrq, on_scrq, sum_scr, sl_scr, asF_tupq, asF_lstq, asO_tupq, asO_lstq, on_tupq, on_lstq, own_eq, dep_nil, Nat.zero_sub, Nat.sub_zero, Nat.lt_irrefl, Nat.reduceEqDiff, Nat.zero_ne_one, List.getD_cons_zero, List.getD_cons_succ, ix_40, ix_41, ix_42, ix_43, isl, rev_str, rev_lst, sl_str, Int.reduceLT, Int.reduceLE, Int.reduceNeg, f_law_right]
end LK
end
section
set_option linter.all false
set_option maxRecDepth 100000
namespace LK
open Ev PySem
theorem key_ok : okKeys [.str [108, 101, 102, 116], .str [99, 101, 108, 108], .str [116, 117, 114, 110, 115]] = true := by decide
theorem c_draw (w n : Nat) (c k : Int) (hk : 0 ≤ k ∧ k < 5) : ∃ l : Int, callN T w (n + 1) 1 [⟨0, .int c⟩, ⟨0, .int k⟩] = .ok 9 (stD l c (1000 * k)) [] ∧ 0 ≤ l := by
  rw [call_eq (fd := f_law_draw) rfl rfl]
  generalize callN T w n = F at *
  generalize toldN T w n = G
  have s1 : smallI 10 = true := by decide
  have s2 : smallI 1000 = true := by decide
  have ge (a b : Int) : leI (.int a) (.int b) = some (decide (a ≤ b)) := rfl
  by_cases hc : (10 : Int) ^ (18 : Int).toNat ≤ c
  · have hd := decide_eq_true hc
    refine ⟨c, (congrArg (endOf f_law_draw) (execs_rt (k := 9) (d := stD c c (1000 * k)) (e' := [some ⟨0, .int c⟩, some ⟨0, .int k⟩]) ?_)).trans rfl, Int.le_trans (by decide) hc⟩
    simp -implicitDefEqProofs only [asF_excq, asO_excq, on_excq, fp_add, fp_sub, fp_mul, fp_fdiv, fp_mod, fp_pow, fp_neg, fp_cmp, fp_slice, fp_rev, fp_len, fp_tuple, fp_list, fp_sum, fp_all, fp_any, fp_repr, fp_strOf, fp_isinst, fp_join, fp_index, fp_asInt, fp_asStr, fp_fldOf, q_fld, fld_exc, q_strOf, is_exc, new_exc, startOf, endOf, outsOf, Ev.execs, Ev.exec, ev, evP, evO, evA, evI, evT, evTs, evR, evR1, evRs, bind_ok, toQ_okq, at_zero, at_succ, put_eq, asO_n, asF_n, on_n, clash_none, clash_nil, clash_some, on_int, asF_int, asO_int, new_int, on_str, asF_str, asO_str, new_str, new_bl, asO_bl, new_non, new_tup, new_lst, new_dct, q_add, q_sub, q_mod, q_fdiv, q_mul, q_pow, q_adds, q_muls, q_addl, q_cmp, q_len, q_tuple, q_sum, q_all, q_rev, q_asI, q_asS, q_repr, q_isi, q_join, q_index, q_cutl, q_cuth, subR_dct, subR_tup, subR_lst, subR_str, Xp.tch, Xp.tchs, Xp.base, mutOk, lentOk, lendIn, lendOut, borsOf, stillAt, List.foldl_nil, Ev.itsF, own1, len_str, len_tup, len_lst, itq_tup, itq_lst, itq_str, List.filterMap_cons, List.filterMap_nil, id_eq, List.all_cons, List.all_nil, List.any_nil, Option.isSome_some, ite_self, List.contains_cons, Nat.reduceBEq, BEq.rfl, beq_self_eq_true, cmpD, eqD_int, List.map_cons, List.map_nil, List.replicate, List.cons_append, List.nil_append, List.append_nil, Pr.emb, Bool.false_eq_true, if_true, if_false, ↓reduceIte, reduceCtorEq, List.set_cons_zero, List.set_cons_succ, Option.map_none, Option.map_some, Option.bind_some, Option.bind_none, Nat.reduceSub, Nat.reduceAdd, Nat.reduceLeDiff, Tg.put, Tg.puts, putsO, Tg.slots, Tg.slotss, List.all, wipeE, backE, List.contains_nil, Bool.not_false, Bool.not_true, Bool.or_false, Bool.true_or, Bool.or_true, Bool.and_false, Bool.false_and, Option.some.injEq, Bool.and_eq_true, decide_eq_true_eq, and_self, true_and, and_true, Bool.false_or, Bool.and_true, Bool.true_and, List.length_cons, List.length_nil, List.length_map, decide_true, decide_false, Nat.reduceLT, minK, fr_lst, fr_tup, fr_int, fr_str, fr_bl, Nat.min_zero, Nat.zero_min, Nat.min_self, capK, Ev.ofO, tr_bl, tr_lst, tr_str, lt_int, le_int, appOk, isl, mn1, mn2, tup_lst, isinstD, asF_scrq, on_scrq, sum_scr, sl_scr, asF_tupq, asF_lstq, asO_tupq, asO_lstq, on_tupq, on_lstq, own_eq, dep_nil, Nat.zero_sub, Nat.sub_zero, Nat.lt_irrefl, Nat.reduceEqDiff, Nat.zero_ne_one, List.getD_cons_zero, List.getD_cons_succ, ix_40, ix_41, ix_42, ix_43, isl, rev_str, rev_lst, sl_str, Int.reduceLT, Int.reduceLE, Int.reduceNeg, startOf, f_law_draw, s1, s2, hd, key_ok, stD]
  · have hd := decide_eq_false hc
    refine ⟨0, (congrArg (endOf f_law_draw) (execs_rt (k := 9) (d := stD 0 c (1000 * k)) (e' := [some ⟨0, .int c⟩, some ⟨0, .int k⟩]) ?_)).trans rfl, by decide⟩
    simp -implicitDefEqProofs only [asF_excq, asO_excq, on_excq, fp_add, fp_sub, fp_mul, fp_fdiv, fp_mod, fp_pow, fp_neg, fp_cmp, fp_slice, fp_rev, fp_len, fp_tuple, fp_list, fp_sum, fp_all, fp_any, fp_repr, fp_strOf, fp_isinst, fp_join, fp_index, fp_asInt, fp_asStr, fp_fldOf, q_fld, fld_exc, q_strOf, is_exc, new_exc, startOf, endOf, outsOf, Ev.execs, Ev.exec, ev, evP, evO, evA, evI, evT, evTs, evR, evR1, evRs, bind_ok, toQ_okq, at_zero, at_succ, put_eq, asO_n, asF_n, on_n, clash_none, clash_nil, clash_some, on_int, asF_int, asO_int, new_int, on_str, asF_str, asO_str, new_str, new_bl, asO_bl, new_non, new_tup, new_lst, new_dct, q_add, q_sub, q_mod, q_fdiv, q_mul, q_pow, q_adds, q_muls, q_addl, q_cmp, q_len, q_tuple, q_sum, q_all, q_rev, q_asI, q_asS, q_repr, q_isi, q_join, q_index, q_cutl, q_cuth, subR_dct, subR_tup, subR_lst, subR_str, Xp.tch, Xp.tchs, Xp.base, mutOk, lentOk, lendIn, lendOut, borsOf, stillAt, List.foldl_nil, Ev.itsF, own1, len_str, len_tup, len_lst, itq_tup, itq_lst, itq_str, List.filterMap_cons, List.filterMap_nil, id_eq, List.all_cons, List.all_nil, List.any_nil, Option.isSome_some, ite_self, List.contains_cons, Nat.reduceBEq, BEq.rfl, beq_self_eq_true, cmpD, eqD_int, List.map_cons, List.map_nil, List.replicate, List.cons_append, List.nil_append, List.append_nil, Pr.emb, Bool.false_eq_true, if_true, if_false, ↓reduceIte, reduceCtorEq, List.set_cons_zero, List.set_cons_succ, Option.map_none, Option.map_some, Option.bind_some, Option.bind_none, Nat.reduceSub, Nat.reduceAdd, Nat.reduceLeDiff, Tg.put, Tg.puts, putsO, Tg.slots, Tg.slotss, List.all, wipeE, backE, List.contains_nil, Bool.not_false, Bool.not_true, Bool.or_false, Bool.true_or, Bool.or_true, Bool.and_false, Bool.false_and, Option.some.injEq, Bool.and_eq_true, decide_eq_true_eq, and_self, true_and, and_true, Bool.false_or, Bool.and_true, Bool.true_and, List.length_cons, List.length_nil, List.length_map, decide_true, decide_false, Nat.reduceLT, minK, fr_lst, fr_tup, fr_int, fr_str, fr_bl, Nat.min_zero, Nat.zero_min, Nat.min_self, capK, Ev.ofO, tr_bl, tr_lst, tr_str, lt_int, le_int, appOk, isl, mn1, mn2, tup_lst, isinstD, asF_scrq, on_scrq, sum_scr, sl_scr, asF_tupq, asF_lstq, asO_tupq, asO_lstq, on_tupq, on_lstq, own_eq, dep_nil, Nat.zero_sub, Nat.sub_zero, Nat.lt_irrefl, Nat.reduceEqDiff, Nat.zero_ne_one, List.getD_cons_zero, List.getD_cons_succ, ix_40, ix_41, ix_42, ix_43, isl, rev_str, rev_lst, sl_str, Int.reduceLT, Int.reduceLE, Int.reduceNeg, startOf, f_law_draw, s1, s2, hd, key_ok, stD]

theorem th_non : Th .non := ⟨rfl, rfl⟩
theorem th_int (i : Int) : Th (.int i) := ⟨rfl, by rw [eqD_int]; simp⟩
theorem th_str {s : List Nat} (h : okT s = true) : Th (.str s) := ⟨rfl, by rw [eqD_str h h]; simp⟩
theorem th_left (r : Int) : Th (.tup [.str [108, 101, 102, 116, 115], .tup [.int 0, .int r]]) := ⟨rfl, by
  simp [eqD, D.plain, D.plains, D.py, D.pys, SeqAt.shaped, PyData.canLay0, PyData.canLayAll0, PyData.strOk, PyData.depth, PyData.depthAll, PyData.eqv, PyData.eqvAll]⟩
theorem th_ten (i : Int) : Th (.tup [.int i, .tup []]) := ⟨rfl, by
  simp [eqD, D.plain, D.plains, D.py, D.pys, SeqAt.shaped, PyData.canLay0, PyData.canLayAll0, PyData.strOk, PyData.depth, PyData.depthAll, PyData.eqv, PyData.eqvAll]⟩
theorem th_nine (i : Int) : Th (.tup [.int i, .int i, .int i, .int i, .int i, .int i, .int i, .int i, .int i]) := ⟨rfl, by
  simp [eqD, D.plain, D.plains, D.py, D.pys, SeqAt.shaped, PyData.canLay0, PyData.canLayAll0, PyData.strOk, PyData.depth, PyData.depthAll, PyData.eqv, PyData.eqvAll]⟩
theorem ab_ok (n : Nat) : okT (List.replicate n [97, 98]).flatten = true := by
  unfold okT
  rw [List.all_eq_true]
  intro x hx
  obtain ⟨l, hl, hxl⟩ := List.mem_flatten.mp hx
  rw [(List.mem_replicate.mp hl).2] at hxl
  simp only [List.mem_cons, List.not_mem_nil, or_false] at hxl
  rcases hxl with rfl | rfl <;> rfl
def seven (r : Int) : List D := [.int r, .int (0 - r), .str (List.replicate (r % 50).toNat [97, 98]).flatten, .tup [.str [108, 101, 102, 116, 115], .tup [.int 0, .int r]], .non, .tup [.int (10 ^ (30 : Int).toNat), .tup []], .tup (List.replicate (9 : Int).toNat [.int r]).flatten]
theorem seven_th (r : Int) (k : Nat) (h : k < 7) : Th ((seven r).getD k .non) := by
  obtain h | h | h | h | h | h | h : k = 0 ∨ k = 1 ∨ k = 2 ∨ k = 3 ∨ k = 4 ∨ k = 5 ∨ k = 6 := by omega
  all_goals subst h
  · exact th_int _
  · exact th_int _
  · exact th_str (ab_ok _)
  · exact th_left _
  · exact th_non
  · exact th_ten _
  · exact th_nine _
end LK
end
section
set_option linter.all false
set_option maxRecDepth 100000
namespace LK
open Ev
structure Fx (F : Nat → List Sl → CR) : Prop where
  draw : ∀ c k : Int, 0 ≤ k ∧ k < 5 → ∃ l : Int, F 1 [⟨0, .int c⟩, ⟨0, .int k⟩] = .ok 9 (stD l c (1000 * k)) [] ∧ 0 ≤ l
  digit : ∀ (N : Nat) (d : D) (m : Int), St N d → N < 900000 → 0 < m ∧ m < 1000000 → ∃ (r : Nat) (d' : D), F 2 [⟨1, d⟩, ⟨0, .int m⟩] = .ok 9 (.int r) [⟨1, d'⟩] ∧ (r : Int) < m ∧ St (N + 4) d'
  right : ∀ t : D, Th t → F 6 [⟨0, t⟩] = .ok 9 (.bl true) []
theorem c_fx (w n : Nat) : Fx (callN T w (n + 3)) where
  draw := fun c k h => c_draw w (n + 2) c k h
  digit := fun N d m hd hN hm => c_digit w (n + 1) N 0 d m hd hN hm
  right := fun t h => c_right w (n + 1) 0 t h
section
variable (F : Nat → List Sl → CR) (G : Nat → (Ls → Ev.R Vw) → Ls → Ev.R Vw) (w : Nat) (zs : List Int) (s1 s2 s4 s5 s6 s7 s8 s9 s10 s11 s12 : Option Sl)
theorem b_some (r : Nat) (s3 : Option Sl) : Ev.exec F T G none [] w (.set (.v 5 0) (.lst [.v 4, .p .sub [.c (.int (0)), .v 4], .p .mul [.c (.str [97, 98]), .p .mod [.v 4, .c (.int (50))]], .tup [.c (.str [108, 101, 102, 116, 115]), .tup [.c (.int (0)), .v 4]], .c (.non), .tup [.p .pow [.c (.int (10)), .c (.int (30))], .tup []], .p .mul [.tup [.v 4], .c (.int (9))]])) [some ⟨0, .scr zs⟩, s1, s2, s3, some ⟨0, .int (r : Nat)⟩, s5, s6, s7, s8, s9, s10, s11, s12] = .nx [some ⟨0, .scr zs⟩, s1, s2, s3, some ⟨0, .int (r : Nat)⟩, some ⟨0, .lst (seven r)⟩, s6, s7, s8, s9, s10, s11, s12] := by
  have h1 := Int.emod_nonneg (r : Int) (by decide : (50 : Int) ≠ 0)
  have h2 := Int.emod_lt_of_pos (r : Int) (by decide : (0 : Int) < 50)
  have o1 : okLen ((0 + 1 + 1) * ((r : Int) % 50).toNat) = true := okLen_le (by omega)
  have o2 : smallB ((r : Int) % 50) = true := smallB_le (by omega)
  have s10 : smallI 10 = true := by decide
  have m9 : ∀ s (x : D), primD s .mul [.tup [x], .int 9] = some (.tup (List.replicate (9 : Int).toNat [x]).flatten) := fun _ _ => rfl
  simp -implicitDefEqProofs only [asF_excq, asO_excq, on_excq, fp_add, fp_sub, fp_mul, fp_fdiv, fp_mod, fp_pow, fp_neg, fp_cmp, fp_slice, fp_rev, fp_len, fp_tuple, fp_list, fp_sum, fp_all, fp_any, fp_repr, fp_strOf, fp_isinst, fp_join, fp_index, fp_asInt, fp_asStr, fp_fldOf, q_fld, fld_exc, q_strOf, is_exc, new_exc, startOf, endOf, outsOf, Ev.execs, Ev.exec, ev, evP, evO, evA, evI, evT, evTs, evR, evR1, evRs, bind_ok, toQ_okq, at_zero, at_succ, put_eq, asO_n, asF_n, on_n, clash_none, clash_nil, clash_some, on_int, asF_int, asO_int, new_int, on_str, asF_str, asO_str, new_str, new_bl, asO_bl, new_non, new_tup, new_lst, new_dct, q_add, q_sub, q_mod, q_fdiv, q_mul, q_pow, q_adds, q_muls, q_addl, q_cmp, q_len, q_tuple, q_sum, q_all, q_rev, q_asI, q_asS, q_repr, q_isi, q_join, q_index, q_cutl, q_cuth, subR_dct, subR_tup, subR_lst, subR_str, Xp.tch, Xp.tchs, Xp.base, mutOk, lentOk, lendIn, lendOut, borsOf, stillAt, List.foldl_nil, Ev.itsF, own1, len_str, len_tup, len_lst, itq_tup, itq_lst, itq_str, List.filterMap_cons, List.filterMap_nil, id_eq, List.all_cons, List.all_nil, List.any_nil, Option.isSome_some, ite_self, List.contains_cons, Nat.reduceBEq, BEq.rfl, beq_self_eq_true, cmpD, eqD_int, List.map_cons, List.map_nil, List.replicate, List.cons_append, List.nil_append, List.append_nil, Pr.emb, Bool.false_eq_true, if_true, if_false, ↓reduceIte, reduceCtorEq, List.set_cons_zero, List.set_cons_succ, Option.map_none, Option.map_some, Option.bind_some, Option.bind_none, Nat.reduceSub, Nat.reduceAdd, Nat.reduceLeDiff, Tg.put, Tg.puts, putsO, Tg.slots, Tg.slotss, List.all, wipeE, backE, List.contains_nil, Bool.not_false, Bool.not_true, Bool.or_false, Bool.true_or, Bool.or_true, Bool.and_false, Bool.false_and, Option.some.injEq, Bool.and_eq_true, decide_eq_true_eq, and_self, true_and, and_true, Bool.false_or, Bool.and_true, Bool.true_and, List.length_cons, List.length_nil, List.length_map, decide_true, decide_false, Nat.reduceLT, minK, fr_lst, fr_tup, fr_int, fr_str, fr_bl, Nat.min_zero, Nat.zero_min, Nat.min_self, capK, Ev.ofO, tr_bl, tr_lst, tr_str, lt_int, le_int, appOk, isl, mn1, mn2, tup_lst, isinstD, asF_scrq, on_scrq, sum_scr, sl_scr, asF_tupq, asF_lstq, asO_tupq, asO_lstq, on_tupq, on_lstq, own_eq, dep_nil, Nat.zero_sub, Nat.sub_zero, Nat.lt_irrefl, Nat.reduceEqDiff, Nat.zero_ne_one, List.getD_cons_zero, List.getD_cons_succ, ix_40, ix_41, ix_42, ix_43, isl, rev_str, rev_lst, sl_str, Int.reduceLT, Int.reduceLE, Int.reduceNeg, o1, o2, s10, m9, seven]
theorem b_test (S : List D) (d d' : D) (r : Nat) (hr : r < 7) (hS : S.length = 7) (hd : F 2 [⟨1, d⟩, ⟨0, .int 7⟩] = .ok 9 (.int r) [⟨1, d'⟩]) (h1 : F 6 [⟨0, S.getD r .non⟩] = .ok 9 (.bl true) []) (h2 : ∀ i : Int, F 6 [⟨0, .int i⟩] = .ok 9 (.bl true) []) :
    Ev.exec F T G none [] w (.ite (.or (.not (.call 6 [.sub (.v 5) (.call 2 [.c .non, .c (.int (7))] [some 3, none])] [none])) (.not (.call 6 [.p .pow [.p .pow [.p .pow [.c (.int (10)), .c (.int (50))], .c (.int (50))], .c (.int (2))]] [none]))) [.ret (.c (.bl false))] []) [some ⟨0, .scr zs⟩, s1, s2, some ⟨1, d⟩, s4, some ⟨0, .lst S⟩, s6, s7, s8, s9, s10, s11, s12] = .nx [some ⟨0, .scr zs⟩, s1, s2, some ⟨1, d'⟩, s4, some ⟨0, .lst S⟩, s6, s7, s8, s9, s10, s11, s12] := by
  have ix : ixD S.length (r : Int) = some r := by rw [hS]; exact ix_nat hr
  have oF : ∀ (t : D) k i p e, ownAt e i p = 0 → Vw.on ⟨t, k, some (i, p)⟩ e = none := fun t k i p e h => on_g h
  have p1 : ∀ s, primD s .pow [.int 10, .int 50] = some (.int (10 ^ (50 : Int).toNat)) := fun _ => rfl
  have p2 : ∀ s, primD s .pow [.int (10 ^ (50 : Int).toNat), .int 50] = some (.int ((10 ^ (50 : Int).toNat) ^ (50 : Int).toNat)) := fun _ => by kernel_rfl
  have p3 : ∀ s, primD s .pow [.int ((10 ^ (50 : Int).toNat) ^ (50 : Int).toNat), .int 2] = some (.int (((10 ^ (50 : Int).toNat) ^ (50 : Int).toNat) ^ (2 : Int).toNat)) := fun _ => by kernel_rfl
  generalize (((10 : Int) ^ (50 : Int).toNat) ^ (50 : Int).toNat) ^ (2 : Int).toNat = I3 at *
  generalize ((10 : Int) ^ (50 : Int).toNat) ^ (50 : Int).toNat = I2 at *
  generalize (10 : Int) ^ (50 : Int).toNat = I1 at *
  generalize hg : S.getD r .non = t at *
  simp -implicitDefEqProofs only [p1, p2, p3, hg, oF, hd, h1, h2, ix, asF_excq, asO_excq, on_excq, fp_add, fp_sub, fp_mul, fp_fdiv, fp_mod, fp_pow, fp_neg, fp_cmp, fp_slice, fp_rev, fp_len, fp_tuple, fp_list, fp_sum, fp_all, fp_any, fp_repr, fp_strOf, fp_isinst, fp_join, fp_index, fp_asInt, fp_asStr, fp_fldOf, q_fld, fld_exc, q_strOf, is_exc, new_exc, startOf, endOf, outsOf, Ev.execs, Ev.exec, ev, evP, evO, evA, evI, evT, evTs, evR, evR1, evRs, bind_ok, toQ_okq, at_zero, at_succ, put_eq, asO_n, asF_n, on_n, clash_none, clash_nil, clash_some, on_int, asF_int, asO_int, new_int, on_str, asF_str, asO_str, new_str, new_bl, asO_bl, new_non, new_tup, new_lst, new_dct, q_add, q_sub, q_mod, q_fdiv, q_mul, q_pow, q_adds, q_muls, q_addl, q_cmp, q_len, q_tuple, q_sum, q_all, q_rev, q_asI, q_asS, q_repr, q_isi, q_join, q_index, q_cutl, q_cuth, subR_dct, subR_tup, subR_lst, subR_str, Xp.tch, Xp.tchs, Xp.base, mutOk, lentOk, lendIn, lendOut, borsOf, stillAt, List.foldl_nil, Ev.itsF, own1, len_str, len_tup, len_lst, itq_tup, itq_lst, itq_str, List.filterMap_cons, List.filterMap_nil, id_eq, List.all_cons, List.all_nil, List.any_nil, Option.isSome_some, ite_self, List.contains_cons, Nat.reduceBEq, BEq.rfl, beq_self_eq_true, cmpD, eqD_int, List.map_cons, List.map_nil, List.replicate, List.cons_append, List.nil_append, List.append_nil, Pr.emb, Bool.false_eq_true, if_true, if_false, ↓reduceIte, reduceCtorEq, List.set_cons_zero, List.set_cons_succ, Option.map_none, Option.map_some, Option.bind_some, Option.bind_none, Nat.reduceSub, Nat.reduceAdd, Nat.reduceLeDiff, Tg.put, Tg.puts, putsO, Tg.slots, Tg.slotss, List.all, wipeE, backE, List.contains_nil, Bool.not_false, Bool.not_true, Bool.or_false, Bool.true_or, Bool.or_true, Bool.and_false, Bool.false_and, Option.some.injEq, Bool.and_eq_true, decide_eq_true_eq, and_self, true_and, and_true, Bool.false_or, Bool.and_true, Bool.true_and, List.length_cons, List.length_nil, List.length_map, decide_true, decide_false, Nat.reduceLT, minK, fr_lst, fr_tup, fr_int, fr_str, fr_bl, Nat.min_zero, Nat.zero_min, Nat.min_self, capK, Ev.ofO, tr_bl, tr_lst, tr_str, lt_int, le_int, appOk, isl, mn1, mn2, tup_lst, isinstD, asF_scrq, on_scrq, sum_scr, sl_scr, asF_tupq, asF_lstq, asO_tupq, asO_lstq, on_tupq, on_lstq, own_eq, dep_nil, Nat.zero_sub, Nat.sub_zero, Nat.lt_irrefl, Nat.reduceEqDiff, Nat.zero_ne_one, List.getD_cons_zero, List.getD_cons_succ, ix_40, ix_41, ix_42, ix_43, isl, rev_str, rev_lst, sl_str, Int.reduceLT, Int.reduceLE, Int.reduceNeg]
end
end LK
end
section
set_option linter.all false
set_option maxRecDepth 100000
namespace LK
open Ev
theorem l_law1 (F G) (hF : Fx F) (w : Nat) (zs : List Int) (hz : zs.length ≤ 63) (s1 s2 s3 s4 s5 s6 s7 s8 s9 s10 s11 s12 : Option Sl) :
    ∃ (s1' s2' s3' s4' s5' : Option Sl), Ev.exec F T G none [] w f_law_l1 [some ⟨0, .scr zs⟩, s1, s2, s3, s4, s5, s6, s7, s8, s9, s10, s11, s12] = .nx [some ⟨0, .scr zs⟩, s1', s2', s3', s4', s5', s6, s7, s8, s9, s10, s11, s12] := by
  have c1 : cutL (zs.map D.int) none (some 4) = (zs.map D.int).take 4 := cutL_hi _ 4
  have o1 : okLen (((zs.map D.int).take 4).length + (0 + 1)) = true := okLen_le (by rw [List.length_take]; omega)
  obtain ⟨e', p1, s1', s2', s3', s4', s5', rfl⟩ := forL_inv (body := fun e => Ev.execs F T G none [] w f_law_b1 e) (put := fun d e => (Tg.tup [.v 1 0, .v 2 0]).put 0 d [] e) (enumL 0 ((zs.map D.int).take 4 ++ [.int zs.sum]))
    (fun i e => ∃ (s1 s2 s3 s4 s5 : Option Sl), e = [some ⟨0, .scr zs⟩, s1, s2, s3, s4, s5, s6, s7, s8, s9, s10, s11, s12]) (by
      intro i x e hx ⟨s1, s2, s3, s4, s5, he⟩
      subst he
      obtain ⟨y, hy, rfl⟩ := enumq_get _ _ _ _ hx
      have hi : i < 5 := by
        have := (List.getElem?_eq_some_iff.mp hy).1
        rw [List.length_append, List.length_take] at this
        simp at this
        omega
      obtain ⟨c, rfl⟩ : ∃ c : Int, y = .int c := by
        rcases List.mem_append.mp (List.mem_of_getElem? hy) with hm | hm
        · obtain ⟨c, _, rfl⟩ := List.mem_map.mp (List.mem_of_mem_take hm)
          exact ⟨c, rfl⟩
        · simp only [List.mem_singleton] at hm
          exact ⟨_, hm⟩
      obtain ⟨l, a1, a2⟩ := hF.draw c ((0 + i : Nat) : Int) (by omega)
      have hst : St 4000 (stD l c (1000 * ((0 + i : Nat) : Int))) := ⟨l, c, _, rfl, a2, by omega, by omega⟩
      obtain ⟨r, d1, b1, b2, b3⟩ := hF.digit 4000 _ 100000 hst (by omega) (by omega)
      obtain ⟨r2, d2, g1, g2, g3⟩ := hF.digit 4004 d1 7 b3 (by omega) (by omega)
      have hr2 : r2 < 7 := by omega
      have t1 := hF.right _ (seven_th (r : Int) r2 hr2)
      have t2 : ∀ i : Int, F 6 [⟨0, .int i⟩] = .ok 9 (.bl true) [] := fun i => hF.right _ (th_int i)
      clear hF
      rw [stD] at a1 b1
      refine ⟨_, [some ⟨0, .scr zs⟩, some ⟨0, .int ((0 + i : Nat) : Int)⟩, some ⟨0, .int c⟩, some ⟨1, d2⟩, some ⟨0, .int (r : Nat)⟩, some ⟨0, .lst (seven r)⟩, s6, s7, s8, s9, s10, s11, s12], rfl, ?_, _, _, _, _, _, rfl⟩
      refine execs_nx (e' := [some ⟨0, .scr zs⟩, some ⟨0, .int ((0 + i : Nat) : Int)⟩, some ⟨0, .int c⟩, some ⟨1, .dct [.str [108, 101, 102, 116], .str [99, 101, 108, 108], .str [116, 117, 114, 110, 115]] [.int l, .int c, .int (1000 * ((0 + i : Nat) : Int))]⟩, s4, s5, s6, s7, s8, s9, s10, s11, s12]) ?_ (execs_nx (e' := [some ⟨0, .scr zs⟩, some ⟨0, .int ((0 + i : Nat) : Int)⟩, some ⟨0, .int c⟩, some ⟨1, d1⟩, some ⟨0, .int (r : Nat)⟩, s5, s6, s7, s8, s9, s10, s11, s12]) ?_ (execs_nx (b_some F G w zs _ _ s5 s6 s7 s8 s9 s10 s11 s12 r _) (execs_nx (b_test F G w zs _ _ _ s6 s7 s8 s9 s10 s11 s12 (seven r) d1 d2 r2 hr2 rfl g1 t1 t2) execs_z)))
      · simp -implicitDefEqProofs only [asF_excq, asO_excq, on_excq, fp_add, fp_sub, fp_mul, fp_fdiv, fp_mod, fp_pow, fp_neg, fp_cmp, fp_slice, fp_rev, fp_len, fp_tuple, fp_list, fp_sum, fp_all, fp_any, fp_repr, fp_strOf, fp_isinst, fp_join, fp_index, fp_asInt, fp_asStr, fp_fldOf, q_fld, fld_exc, q_strOf, is_exc, new_exc, startOf, endOf, outsOf, Ev.execs, Ev.exec, ev, evP, evO, evA, evI, evT, evTs, evR, evR1, evRs, bind_ok, toQ_okq, at_zero, at_succ, put_eq, asO_n, asF_n, on_n, clash_none, clash_nil, clash_some, on_int, asF_int, asO_int, new_int, on_str, asF_str, asO_str, new_str, new_bl, asO_bl, new_non, new_tup, new_lst, new_dct, q_add, q_sub, q_mod, q_fdiv, q_mul, q_pow, q_adds, q_muls, q_addl, q_cmp, q_len, q_tuple, q_sum, q_all, q_rev, q_asI, q_asS, q_repr, q_isi, q_join, q_index, q_cutl, q_cuth, subR_dct, subR_tup, subR_lst, subR_str, Xp.tch, Xp.tchs, Xp.base, mutOk, lentOk, lendIn, lendOut, borsOf, stillAt, List.foldl_nil, Ev.itsF, own1, len_str, len_tup, len_lst, itq_tup, itq_lst, itq_str, List.filterMap_cons, List.filterMap_nil, id_eq, List.all_cons, List.all_nil, List.any_nil, Option.isSome_some, ite_self, List.contains_cons, Nat.reduceBEq, BEq.rfl, beq_self_eq_true, cmpD, eqD_int, List.map_cons, List.map_nil, List.replicate, List.cons_append, List.nil_append, List.append_nil, Pr.emb, Bool.false_eq_true, if_true, if_false, ↓reduceIte, reduceCtorEq, List.set_cons_zero, List.set_cons_succ, Option.map_none, Option.map_some, Option.bind_some, Option.bind_none, Nat.reduceSub, Nat.reduceAdd, Nat.reduceLeDiff, Tg.put, Tg.puts, putsO, Tg.slots, Tg.slotss, List.all, wipeE, backE, List.contains_nil, Bool.not_false, Bool.not_true, Bool.or_false, Bool.true_or, Bool.or_true, Bool.and_false, Bool.false_and, Option.some.injEq, Bool.and_eq_true, decide_eq_true_eq, and_self, true_and, and_true, Bool.false_or, Bool.and_true, Bool.true_and, List.length_cons, List.length_nil, List.length_map, decide_true, decide_false, Nat.reduceLT, minK, fr_lst, fr_tup, fr_int, fr_str, fr_bl, Nat.min_zero, Nat.zero_min, Nat.min_self, capK, Ev.ofO, tr_bl, tr_lst, tr_str, lt_int, le_int, appOk, isl, mn1, mn2, tup_lst, isinstD, asF_scrq, on_scrq, sum_scr, sl_scr, asF_tupq, asF_lstq, asO_tupq, asO_lstq, on_tupq, on_lstq, own_eq, dep_nil, Nat.zero_sub, Nat.sub_zero, Nat.lt_irrefl, Nat.reduceEqDiff, Nat.zero_ne_one, List.getD_cons_zero, List.getD_cons_succ, ix_40, ix_41, ix_42, ix_43, isl, rev_str, rev_lst, sl_str, Int.reduceLT, Int.reduceLE, Int.reduceNeg, a1]
      · simp -implicitDefEqProofs only [asF_excq, asO_excq, on_excq, fp_add, fp_sub, fp_mul, fp_fdiv, fp_mod, fp_pow, fp_neg, fp_cmp, fp_slice, fp_rev, fp_len, fp_tuple, fp_list, fp_sum, fp_all, fp_any, fp_repr, fp_strOf, fp_isinst, fp_join, fp_index, fp_asInt, fp_asStr, fp_fldOf, q_fld, fld_exc, q_strOf, is_exc, new_exc, startOf, endOf, outsOf, Ev.execs, Ev.exec, ev, evP, evO, evA, evI, evT, evTs, evR, evR1, evRs, bind_ok, toQ_okq, at_zero, at_succ, put_eq, asO_n, asF_n, on_n, clash_none, clash_nil, clash_some, on_int, asF_int, asO_int, new_int, on_str, asF_str, asO_str, new_str, new_bl, asO_bl, new_non, new_tup, new_lst, new_dct, q_add, q_sub, q_mod, q_fdiv, q_mul, q_pow, q_adds, q_muls, q_addl, q_cmp, q_len, q_tuple, q_sum, q_all, q_rev, q_asI, q_asS, q_repr, q_isi, q_join, q_index, q_cutl, q_cuth, subR_dct, subR_tup, subR_lst, subR_str, Xp.tch, Xp.tchs, Xp.base, mutOk, lentOk, lendIn, lendOut, borsOf, stillAt, List.foldl_nil, Ev.itsF, own1, len_str, len_tup, len_lst, itq_tup, itq_lst, itq_str, List.filterMap_cons, List.filterMap_nil, id_eq, List.all_cons, List.all_nil, List.any_nil, Option.isSome_some, ite_self, List.contains_cons, Nat.reduceBEq, BEq.rfl, beq_self_eq_true, cmpD, eqD_int, List.map_cons, List.map_nil, List.replicate, List.cons_append, List.nil_append, List.append_nil, Pr.emb, Bool.false_eq_true, if_true, if_false, ↓reduceIte, reduceCtorEq, List.set_cons_zero, List.set_cons_succ, Option.map_none, Option.map_some, Option.bind_some, Option.bind_none, Nat.reduceSub, Nat.reduceAdd, Nat.reduceLeDiff, Tg.put, Tg.puts, putsO, Tg.slots, Tg.slotss, List.all, wipeE, backE, List.contains_nil, Bool.not_false, Bool.not_true, Bool.or_false, Bool.true_or, Bool.or_true, Bool.and_false, Bool.false_and, Option.some.injEq, Bool.and_eq_true, decide_eq_true_eq, and_self, true_and, and_true, Bool.false_or, Bool.and_true, Bool.true_and, List.length_cons, List.length_nil, List.length_map, decide_true, decide_false, Nat.reduceLT, minK, fr_lst, fr_tup, fr_int, fr_str, fr_bl, Nat.min_zero, Nat.zero_min, Nat.min_self, capK, Ev.ofO, tr_bl, tr_lst, tr_str, lt_int, le_int, appOk, isl, mn1, mn2, tup_lst, isinstD, asF_scrq, on_scrq, sum_scr, sl_scr, asF_tupq, asF_lstq, asO_tupq, asO_lstq, on_tupq, on_lstq, own_eq, dep_nil, Nat.zero_sub, Nat.sub_zero, Nat.lt_irrefl, Nat.reduceEqDiff, Nat.zero_ne_one, List.getD_cons_zero, List.getD_cons_succ, ix_40, ix_41, ix_42, ix_43, isl, rev_str, rev_lst, sl_str, Int.reduceLT, Int.reduceLE, Int.reduceNeg, b1]) [some ⟨0, .scr zs⟩, s1, s2, s3, s4, s5, s6, s7, s8, s9, s10, s11, s12] ⟨_, _, _, _, _, rfl⟩
  refine ⟨s1', s2', s3', s4', s5', ?_⟩
  simp -implicitDefEqProofs only [asF_excq, asO_excq, on_excq, fp_add, fp_sub, fp_mul, fp_fdiv, fp_mod, fp_pow, fp_neg, fp_cmp, fp_slice, fp_rev, fp_len, fp_tuple, fp_list, fp_sum, fp_all, fp_any, fp_repr, fp_strOf, fp_isinst, fp_join, fp_index, fp_asInt, fp_asStr, fp_fldOf, q_fld, fld_exc, q_strOf, is_exc, new_exc, startOf, endOf, outsOf, Ev.execs, Ev.exec, ev, evP, evO, evA, evI, evT, evTs, evR, evR1, evRs, bind_ok, toQ_okq, at_zero, at_succ, put_eq, asO_n, asF_n, on_n, clash_none, clash_nil, clash_some, on_int, asF_int, asO_int, new_int, on_str, asF_str, asO_str, new_str, new_bl, asO_bl, new_non, new_tup, new_lst, new_dct, q_add, q_sub, q_mod, q_fdiv, q_mul, q_pow, q_adds, q_muls, q_addl, q_cmp, q_len, q_tuple, q_sum, q_all, q_rev, q_asI, q_asS, q_repr, q_isi, q_join, q_index, q_cutl, q_cuth, subR_dct, subR_tup, subR_lst, subR_str, Xp.tch, Xp.tchs, Xp.base, mutOk, lentOk, lendIn, lendOut, borsOf, stillAt, List.foldl_nil, Ev.itsF, own1, len_str, len_tup, len_lst, itq_tup, itq_lst, itq_str, List.filterMap_cons, List.filterMap_nil, id_eq, List.all_cons, List.all_nil, List.any_nil, Option.isSome_some, ite_self, List.contains_cons, Nat.reduceBEq, BEq.rfl, beq_self_eq_true, cmpD, eqD_int, List.map_cons, List.map_nil, List.replicate, List.cons_append, List.nil_append, List.append_nil, Pr.emb, Bool.false_eq_true, if_true, if_false, ↓reduceIte, reduceCtorEq, List.set_cons_zero, List.set_cons_succ, Option.map_none, Option.map_some, Option.bind_some, Option.bind_none, Nat.reduceSub, Nat.reduceAdd, Nat.reduceLeDiff, Tg.put, Tg.puts, putsO, Tg.slots, Tg.slotss, List.all, wipeE, backE, List.contains_nil, Bool.not_false, Bool.not_true, Bool.or_false, Bool.true_or, Bool.or_true, Bool.and_false, Bool.false_and, Option.some.injEq, Bool.and_eq_true, decide_eq_true_eq, and_self, true_and, and_true, Bool.false_or, Bool.and_true, Bool.true_and, List.length_cons, List.length_nil, List.length_map, decide_true, decide_false, Nat.reduceLT, minK, fr_lst, fr_tup, fr_int, fr_str, fr_bl, Nat.min_zero, Nat.zero_min, Nat.min_self, capK, Ev.ofO, tr_bl, tr_lst, tr_str, lt_int, le_int, appOk, isl, mn1, mn2, tup_lst, isinstD, asF_scrq, on_scrq, sum_scr, sl_scr, asF_tupq, asF_lstq, asO_tupq, asO_lstq, on_tupq, on_lstq, own_eq, dep_nil, Nat.zero_sub, Nat.sub_zero, Nat.lt_irrefl, Nat.reduceEqDiff, Nat.zero_ne_one, List.getD_cons_zero, List.getD_cons_succ, ix_40, ix_41, ix_42, ix_43, isl, rev_str, rev_lst, sl_str, Int.reduceLT, Int.reduceLE, Int.reduceNeg, f_law_l1, c1, o1]
  exact p1
section
variable (F : Nat → List Sl → CR) (G : Nat → (Ls → Ev.R Vw) → Ls → Ev.R Vw) (w : Nat) (zs : List Int) (s1 s2 s3 s4 s5 s6 s7 s8 s9 s10 s11 s12 : Option Sl)
theorem e_1 : Ev.exec F T G none [] w (.set (.v 5 0) (.lst [.mk 101 [], .mk 102 [], .mk 103 [], .mk 104 [], .mk 112 [], .mk 117 []])) [some ⟨0, .scr zs⟩, s1, s2, s3, s4, s5, s6, s7, s8, s9, s10, s11, s12] = .nx [some ⟨0, .scr zs⟩, s1, s2, s3, s4, some ⟨0, .lst (([101, 102, 103, 104, 112, 117] : List Nat).map fun c => D.exc c .non)⟩, s6, s7, s8, s9, s10, s11, s12] := by kernel_rfl
theorem e_2 : Ev.exec F T G none [] w (.set (.v 6 0) (.lst [.mk 105 [], .mk 106 [], .mk 107 [], .mk 108 [], .mk 109 [], .mk 110 [], .mk 111 [], .mk 113 []])) [some ⟨0, .scr zs⟩, s1, s2, s3, s4, s5, s6, s7, s8, s9, s10, s11, s12] = .nx [some ⟨0, .scr zs⟩, s1, s2, s3, s4, s5, some ⟨0, .lst (([105, 106, 107, 108, 109, 110, 111, 113] : List Nat).map fun c => D.exc c .non)⟩, s7, s8, s9, s10, s11, s12] := by kernel_rfl
theorem e_3 : Ev.exec F T G none [] w (.set (.v 6 0) (.p .add [.v 6, .lst [.mk 114 [], .mk 115 []]])) [some ⟨0, .scr zs⟩, s1, s2, s3, s4, s5, some ⟨0, .lst (([105, 106, 107, 108, 109, 110, 111, 113] : List Nat).map fun c => D.exc c .non)⟩, s7, s8, s9, s10, s11, s12] = .nx [some ⟨0, .scr zs⟩, s1, s2, s3, s4, s5, some ⟨0, .lst (([105, 106, 107, 108, 109, 110, 111, 113, 114, 115] : List Nat).map fun c => D.exc c .non)⟩, s7, s8, s9, s10, s11, s12] := by kernel_rfl
theorem e_4 : Ev.exec F T G none [] w (.ite (.or (.p (.cmp .ne) [f_law_c2, .p .mul [.lst [.c (.non)], .c (.int (6))]]) (.p (.cmp .ne) [f_law_c1, .p .mul [.lst [.c (.non)], .c (.int (10))]])) [.ret (.c (.bl false))] []) [some ⟨0, .scr zs⟩, s1, s2, s3, s4, some ⟨0, .lst (([101, 102, 103, 104, 112, 117] : List Nat).map fun c => D.exc c .non)⟩, some ⟨0, .lst (([105, 106, 107, 108, 109, 110, 111, 113, 114, 115] : List Nat).map fun c => D.exc c .non)⟩, s7, s8, s9, s10, s11, s12] = .nx [some ⟨0, .scr zs⟩, s1, s2, s3, s4, some ⟨0, .lst (([101, 102, 103, 104, 112, 117] : List Nat).map fun c => D.exc c .non)⟩, some ⟨0, .lst (([105, 106, 107, 108, 109, 110, 111, 113, 114, 115] : List Nat).map fun c => D.exc c .non)⟩, s7, s8, s9, s10, s11, s12] := by kernel_rfl
end
end LK
end
section
set_option linter.all false
set_option maxRecDepth 100000
namespace LK
open Ev
def madeL (t : D) : List D := (valued ++ placed ++ [117, 116]).map fun c => D.exc c t
section
variable (w n : Nat) (G : Nat → (Ls → Ev.R Vw) → Ls → Ev.R Vw) (zs : List Int) (s1 s2 s3 s4 s5 s6 s7 s8 s9 s10 s11 s12 : Option Sl)
theorem z_1 (t : D) (h : fourB t = true) : Ev.exec (callN T w (n + 1)) T G none [] w (.set (.v 9 0) (.p .add [f_law_c3, .lst [.mk 117 [.v 8], .mk 116 [.v 8]]])) [some ⟨0, .scr zs⟩, s1, s2, s3, s4, s5, s6, s7, some ⟨0, t⟩, s9, s10, s11, s12] = .nx [some ⟨0, .scr zs⟩, s1, s2, s3, s4, s5, s6, s7, some ⟨0, t⟩, some ⟨0, .lst (madeL t)⟩, s10, s11, s12] := by
  cases t <;> first | (cases h; done) | kernel_rfl
theorem z_2a : Ev.exec (callN T w (n + 1)) T G none [] w (.ite (.p (.cmp .ne) [f_law_c4, .lst []]) [.ret (.c (.bl false))] []) [some ⟨0, .scr zs⟩, s1, s2, s3, s4, s5, s6, s7, some ⟨0, .str [122, 113, 122, 113]⟩, some ⟨0, .lst (madeL (.str [122, 113, 122, 113]))⟩, s10, s11, s12] = .nx [some ⟨0, .scr zs⟩, s1, s2, s3, s4, s5, s6, s7, some ⟨0, .str [122, 113, 122, 113]⟩, some ⟨0, .lst (madeL (.str [122, 113, 122, 113]))⟩, s10, s11, s12] := by kernel_rfl
theorem z_2b : Ev.exec (callN T w (n + 1)) T G none [] w (.ite (.p (.cmp .ne) [f_law_c4, .lst []]) [.ret (.c (.bl false))] []) [some ⟨0, .scr zs⟩, s1, s2, s3, s4, s5, s6, s7, some ⟨0, .int (10 ^ (30 : Int).toNat)⟩, some ⟨0, .lst (madeL (.int (10 ^ (30 : Int).toNat)))⟩, s10, s11, s12] = .nx [some ⟨0, .scr zs⟩, s1, s2, s3, s4, s5, s6, s7, some ⟨0, .int (10 ^ (30 : Int).toNat)⟩, some ⟨0, .lst (madeL (.int (10 ^ (30 : Int).toNat)))⟩, s10, s11, s12] := by kernel_rfl
theorem z_2c : Ev.exec (callN T w (n + 1)) T G none [] w (.ite (.p (.cmp .ne) [f_law_c4, .lst []]) [.ret (.c (.bl false))] []) [some ⟨0, .scr zs⟩, s1, s2, s3, s4, s5, s6, s7, some ⟨0, .int 70707⟩, some ⟨0, .lst (madeL (.int 70707))⟩, s10, s11, s12] = .nx [some ⟨0, .scr zs⟩, s1, s2, s3, s4, s5, s6, s7, some ⟨0, .int 70707⟩, some ⟨0, .lst (madeL (.int 70707))⟩, s10, s11, s12] := by kernel_rfl
end
end LK
end
section
set_option linter.all false
set_option maxRecDepth 100000
namespace LK
open Ev
theorem l_law2 (w n : Nat) (G) (zs : List Int) (s1 s2 s3 s4 s5 s6 s7 s8 s9 s10 s11 s12 : Option Sl) : ∃ s8' s9' : Option Sl, Ev.exec (callN T w (n + 1)) T G none [] w f_law_l2 [some ⟨0, .scr zs⟩, s1, s2, s3, s4, s5, s6, s7, s8, s9, s10, s11, s12] = .nx [some ⟨0, .scr zs⟩, s1, s2, s3, s4, s5, s6, s7, s8', s9', s10, s11, s12] := by
  have z1 := fun t (h : fourB t = true) s9 => z_1 w n G zs s1 s2 s3 s4 s5 s6 s7 s9 s10 s11 s12 t h
  have z2a := z_2a w n G zs s1 s2 s3 s4 s5 s6 s7 s10 s11 s12
  have z2b := z_2b w n G zs s1 s2 s3 s4 s5 s6 s7 s10 s11 s12
  have z2c := z_2c w n G zs s1 s2 s3 s4 s5 s6 s7 s10 s11 s12
  generalize callN T w (n + 1) = F at *
  have s10q : smallI 10 = true := by decide
  obtain ⟨e', p1, s8', s9', rfl⟩ := forL_inv (body := fun e => Ev.execs F T G none [] w f_law_b2 e) (put := fun d e => (Tg.v 8 0).put 0 d [] e) [.str [122, 113, 122, 113], .int (10 ^ (30 : Int).toNat), .int 70707]
    (fun i e => ∃ s8 s9 : Option Sl, e = [some ⟨0, .scr zs⟩, s1, s2, s3, s4, s5, s6, s7, s8, s9, s10, s11, s12]) (by
      intro i d e hd ⟨s8, s9, he⟩
      subst he
      have hm := List.mem_of_getElem? hd
      simp only [List.mem_cons, List.not_mem_nil, or_false] at hm
      rcases hm with rfl | rfl | rfl
      · exact ⟨_, _, rfl, execs_nx (z1 _ rfl _) (execs_nx z2a execs_z), _, _, rfl⟩
      · exact ⟨_, _, rfl, execs_nx (z1 _ rfl _) (execs_nx z2b execs_z), _, _, rfl⟩
      · exact ⟨_, _, rfl, execs_nx (z1 _ rfl _) (execs_nx z2c execs_z), _, _, rfl⟩) [some ⟨0, .scr zs⟩, s1, s2, s3, s4, s5, s6, s7, s8, s9, s10, s11, s12] ⟨_, _, rfl⟩
  refine ⟨s8', s9', ?_⟩
  have pw : ∀ s, primD s .pow [.int 10, .int 30] = some (.int (10 ^ (30 : Int).toNat)) := fun _ => rfl
  generalize (10 : Int) ^ (30 : Int).toNat = I at *
  simp -implicitDefEqProofs only [pw, f_law_l2, asF_excq, asO_excq, on_excq, fp_add, fp_sub, fp_mul, fp_fdiv, fp_mod, fp_pow, fp_neg, fp_cmp, fp_slice, fp_rev, fp_len, fp_tuple, fp_list, fp_sum, fp_all, fp_any, fp_repr, fp_strOf, fp_isinst, fp_join, fp_index, fp_asInt, fp_asStr, fp_fldOf, q_fld, fld_exc, q_strOf, is_exc, new_exc, startOf, endOf, outsOf, Ev.execs, Ev.exec, ev, evP, evO, evA, evI, evT, evTs, evR, evR1, evRs, bind_ok, toQ_okq, at_zero, at_succ, put_eq, asO_n, asF_n, on_n, clash_none, clash_nil, clash_some, on_int, asF_int, asO_int, new_int, on_str, asF_str, asO_str, new_str, new_bl, asO_bl, new_non, new_tup, new_lst, new_dct, q_add, q_sub, q_mod, q_fdiv, q_mul, q_pow, q_adds, q_muls, q_addl, q_cmp, q_len, q_tuple, q_sum, q_all, q_rev, q_asI, q_asS, q_repr, q_isi, q_join, q_index, q_cutl, q_cuth, subR_dct, subR_tup, subR_lst, subR_str, Xp.tch, Xp.tchs, Xp.base, mutOk, lentOk, lendIn, lendOut, borsOf, stillAt, List.foldl_nil, Ev.itsF, own1, len_str, len_tup, len_lst, itq_tup, itq_lst, itq_str, List.filterMap_cons, List.filterMap_nil, id_eq, List.all_cons, List.all_nil, List.any_nil, Option.isSome_some, ite_self, List.contains_cons, Nat.reduceBEq, BEq.rfl, beq_self_eq_true, cmpD, eqD_int, List.map_cons, List.map_nil, List.replicate, List.cons_append, List.nil_append, List.append_nil, Pr.emb, Bool.false_eq_true, if_true, if_false, ↓reduceIte, reduceCtorEq, List.set_cons_zero, List.set_cons_succ, Option.map_none, Option.map_some, Option.bind_some, Option.bind_none, Nat.reduceSub, Nat.reduceAdd, Nat.reduceLeDiff, Tg.put, Tg.puts, putsO, Tg.slots, Tg.slotss, List.all, wipeE, backE, List.contains_nil, Bool.not_false, Bool.not_true, Bool.or_false, Bool.true_or, Bool.or_true, Bool.and_false, Bool.false_and, Option.some.injEq, Bool.and_eq_true, decide_eq_true_eq, and_self, true_and, and_true, Bool.false_or, Bool.and_true, Bool.true_and, List.length_cons, List.length_nil, List.length_map, decide_true, decide_false, Nat.reduceLT, minK, fr_lst, fr_tup, fr_int, fr_str, fr_bl, Nat.min_zero, Nat.zero_min, Nat.min_self, capK, Ev.ofO, tr_bl, tr_lst, tr_str, lt_int, le_int, appOk, isl, mn1, mn2, tup_lst, isinstD, asF_scrq, on_scrq, sum_scr, sl_scr, asF_tupq, asF_lstq, asO_tupq, asO_lstq, on_tupq, on_lstq, own_eq, dep_nil, Nat.zero_sub, Nat.sub_zero, Nat.lt_irrefl, Nat.reduceEqDiff, Nat.zero_ne_one, List.getD_cons_zero, List.getD_cons_succ, ix_40, ix_41, ix_42, ix_43, isl, rev_str, rev_lst, sl_str, Int.reduceLT, Int.reduceLE, Int.reduceNeg]
  exact p1
theorem ret_t (F G) (w : Nat) (e : Ls) : Ev.exec F T G none [] w (.ret (.c (.bl true))) e = .ret 9 (.bl true) e := by kernel_rfl
theorem c_law (w n : Nat) (zs : List Int) (hz : zs.length ≤ 63) : callN T w (n + 4) 7 [⟨0, .scr zs⟩] = .ok 9 (.bl true) [] := by
  rw [call_eq (fd := f_law) rfl rfl]
  have hF := c_fx w n
  obtain ⟨s1, s2, s3, s4, s5, a1⟩ := l_law1 (callN T w (n + 3)) (toldN T w (n + 3)) hF w zs hz none none none none none none none none none none none none
  have a2 := fun s5 s6 => e_1 (callN T w (n + 3)) (toldN T w (n + 3)) w zs s1 s2 s3 s4 s5 s6 none none none none none none
  have a3 := fun s5 s6 => e_2 (callN T w (n + 3)) (toldN T w (n + 3)) w zs s1 s2 s3 s4 s5 s6 none none none none none none
  have a4 := fun s5 => e_3 (callN T w (n + 3)) (toldN T w (n + 3)) w zs s1 s2 s3 s4 s5 none none none none none none
  have a5 := e_4 (callN T w (n + 3)) (toldN T w (n + 3)) w zs s1 s2 s3 s4 none none none none none none
  have a6 := fun s5 s6 => l_law2 w (n + 2) (toldN T w (n + 3)) zs s1 s2 s3 s4 s5 s6 none none none none none none
  clear hF
  have e3 : n + 2 + 1 = n + 3 := rfl
  rw [e3] at a6
  generalize callN T w (n + 3) = F at *
  generalize toldN T w (n + 3) = G at *
  obtain ⟨s8, s9, a6⟩ := a6 _ _
  refine (congrArg (endOf f_law) (execs_nx a1 (execs_nx (a2 _ _) (execs_nx (a3 _ _) (execs_nx (a4 _) (execs_nx a5 (execs_nx a6 (execs_rt (ret_t F G w _))))))))).trans rfl
end LK
end
section
set_option linter.all false
set_option maxRecDepth 100000
namespace LK
open Ev
def fuel : Nat := 3000
theorem law_run : ∀ ns : List Int, ns.length ≤ 63 → ∃ k outs, callN (pg fuel).T (pg fuel).fuel 12 7 [⟨0, .scr ns⟩] = .ok k (.bl true) outs := fun ns h => ⟨9, [], c_law fuel 8 ns h⟩
end LK
end
section
set_option linter.all false
set_option maxRecDepth 100000
namespace LK
open Ev PySem PySem.Spec PyProof.Rows L2
set_option maxHeartbeats 4000000
theorem e1_of {K : PySem.W.Frag} (e : ex K = true) : exB gl names frees clr K = true := (Bool.and_eq_true_iff.mp e).1
theorem e2_of {K : PySem.W.Frag} (e : ex K = true) : exM mks iks K = true := (Bool.and_eq_true_iff.mp e).2
theorem w_law_mixed {K : PySem.W.Frag} (c : He.SaysD [] fn K) : ∃ dvs kws fdt, L2.FunD K s_law_mixed.name s_law_mixed.name s_law_mixed.params s_law_mixed.body s_law_mixed.scope dvs kws (He.ga K s_law_mixed.name) fdt ∧ L2.Binds K fdt s_law_mixed.ps [] := by
  obtain ⟨fd, F⟩ := c.def_ 0 (d := d_law_mixed) rfl
  exact ⟨_, _, fd, F, F.bindsN fun _ _ _ _ _ _ us hl => match us, hl with | [_, _], _ => rfl⟩
theorem w_law_draw {K : PySem.W.Frag} (c : He.SaysD [] fn K) : ∃ dvs kws fdt, L2.FunD K s_law_draw.name s_law_draw.name s_law_draw.params s_law_draw.body s_law_draw.scope dvs kws (He.ga K s_law_draw.name) fdt ∧ L2.Binds K fdt s_law_draw.ps [] := by
  obtain ⟨fd, F⟩ := c.def_ 1 (d := d_law_draw) rfl
  exact ⟨_, _, fd, F, F.bindsN fun _ _ _ _ _ _ us hl => match us, hl with | [_, _], _ => rfl⟩
theorem w_law_digit {K : PySem.W.Frag} (c : He.SaysD [] fn K) : ∃ dvs kws fdt, L2.FunD K s_law_digit.name s_law_digit.name s_law_digit.params s_law_digit.body s_law_digit.scope dvs kws (He.ga K s_law_digit.name) fdt ∧ L2.Binds K fdt s_law_digit.ps [] := by
  obtain ⟨fd, F⟩ := c.def_ 2 (d := d_law_digit) rfl
  exact ⟨_, _, fd, F, F.bindsN fun _ _ _ _ _ _ us hl => match us, hl with | [_, _], _ => rfl⟩
theorem w_law_kinds {K : PySem.W.Frag} (c : He.SaysD [] fn K) : ∃ dvs kws fdt, L2.FunD K s_law_kinds.name s_law_kinds.name s_law_kinds.params s_law_kinds.body s_law_kinds.scope dvs kws (He.ga K s_law_kinds.name) fdt ∧ L2.Binds K fdt s_law_kinds.ps [] := by
  obtain ⟨fd, F⟩ := c.def_ 3 (d := d_law_kinds) rfl
  exact ⟨_, _, fd, F, F.bindsN fun _ _ _ _ _ _ us hl => match us, hl with | [_], _ => rfl⟩
theorem w_law_valued {K : PySem.W.Frag} (c : He.SaysD [] fn K) : ∃ dvs kws fdt, L2.FunD K s_law_valued.name s_law_valued.name s_law_valued.params s_law_valued.body s_law_valued.scope dvs kws (He.ga K s_law_valued.name) fdt ∧ L2.Binds K fdt s_law_valued.ps [] := by
  obtain ⟨fd, F⟩ := c.def_ 4 (d := d_law_valued) rfl
  exact ⟨_, _, fd, F, F.bindsN fun _ _ _ _ _ _ us hl => match us, hl with | [_], _ => rfl⟩
theorem w_law_placed {K : PySem.W.Frag} (c : He.SaysD [] fn K) : ∃ dvs kws fdt, L2.FunD K s_law_placed.name s_law_placed.name s_law_placed.params s_law_placed.body s_law_placed.scope dvs kws (He.ga K s_law_placed.name) fdt ∧ L2.Binds K fdt s_law_placed.ps [] := by
  obtain ⟨fd, F⟩ := c.def_ 5 (d := d_law_placed) rfl
  exact ⟨_, _, fd, F, F.bindsN fun _ _ _ _ _ _ us hl => match us, hl with | [_], _ => rfl⟩
theorem w_law_right {K : PySem.W.Frag} (c : He.SaysD [] fn K) : ∃ dvs kws fdt, L2.FunD K s_law_right.name s_law_right.name s_law_right.params s_law_right.body s_law_right.scope dvs kws (He.ga K s_law_right.name) fdt ∧ L2.Binds K fdt s_law_right.ps [] := by
  obtain ⟨fd, F⟩ := c.def_ 6 (d := d_law_right) rfl
  exact ⟨_, _, fd, F, F.bindsN fun _ _ _ _ _ _ us hl => match us, hl with | [_], _ => rfl⟩
theorem w_law {K : PySem.W.Frag} (c : He.SaysD [] fn K) : ∃ dvs kws fdt, L2.FunD K s_law.name s_law.name s_law.params s_law.body s_law.scope dvs kws (He.ga K s_law.name) fdt ∧ L2.Binds K fdt s_law.ps [] := by
  obtain ⟨fd, F⟩ := c.def_ 7 (d := d_law) rfl
  exact ⟨_, _, fd, F, F.bindsN fun _ _ _ _ _ _ us hl => match us, hl with | [_], _ => rfl⟩
theorem mk_BadSigns {P : Program} {w : World} {K : PySem.W.Frag} {h : Heap} {mg : Str → Option Value} {base : Heap} (KX : K.In h) (N : h.Ns mainGlobals mg) (c : He.SaysD [] fn K) (e1 : exB gl names frees clr K = true) (e2 : exM mks iks K = true) : MkW P w K mg base 101 := by
  obtain ⟨fd, F⟩ := c.def_ 8 (d := d_BadSigns_init) rfl
  obtain ⟨ox, xk, bi⟩ := exM_mk e2 (c := 101) (by decide)
  obtain ⟨ds, hv, bd⟩ := F.binds1 2 1 (ps := ["self", "value"]) (by simp [d_BadSigns_init, He.DefD.dvs]) rfl fun T kV doc pm an cdv ct us its h1 h2 => match us, its, h1, h2 with | [_, _], [_], _, _ => ⟨_, rfl, rfl⟩
  cases hv
  have b0 := F.binds1 1 0 (ps := ["self", "value"]) (by simp [d_BadSigns_init, He.DefD.dvs]) rfl fun T kV doc pm an cdv ct us its h1 h2 => match us, its, h1, h2 with | [_], [_], _, _ => ⟨_, rfl, rfl⟩
  obtain ⟨its, bk⟩ := F.kbindsD 1 ["value"] (ps := ["self", "value"]) (fun us _ zs => us ++ zs) (by simp [d_BadSigns_init, He.DefD.dvs]) (fun a _ c => a.append c) fun T kV doc pm an cdv ct us its ws h1 h2 h3 => match us, its, ws, h1, h2, h3 with | [_], [_], [_], _, _, _ => ⟨_, rfl, rfl⟩
  exact mkW_of ox xk (ex_glo KX N e1 "BadSigns" (by decide +kernel)) (bi_own (bi rfl) (ex_glo KX N e1 "PlayError" (by decide +kernel)) rfl) F ⟨rfl, rfl, rfl, by decide +kernel, rfl, by decide +kernel, by decide +kernel⟩ (by decide +kernel) (by decide +kernel) (by decide +kernel) rfl rfl bd (fun s u v K => bk.to s [u] [v] K rfl rfl) (.inr b0)
theorem mk_BadLine {P : Program} {w : World} {K : PySem.W.Frag} {h : Heap} {mg : Str → Option Value} {base : Heap} (KX : K.In h) (N : h.Ns mainGlobals mg) (c : He.SaysD [] fn K) (e1 : exB gl names frees clr K = true) (e2 : exM mks iks K = true) : MkW P w K mg base 102 := by
  obtain ⟨fd, F⟩ := c.def_ 9 (d := d_BadLine_init) rfl
  obtain ⟨ox, xk, bi⟩ := exM_mk e2 (c := 102) (by decide)
  obtain ⟨ds, hv, bd⟩ := F.binds1 2 1 (ps := ["self", "value"]) (by simp [d_BadLine_init, He.DefD.dvs]) rfl fun T kV doc pm an cdv ct us its h1 h2 => match us, its, h1, h2 with | [_, _], [_], _, _ => ⟨_, rfl, rfl⟩
  cases hv
  have b0 := F.binds1 1 0 (ps := ["self", "value"]) (by simp [d_BadLine_init, He.DefD.dvs]) rfl fun T kV doc pm an cdv ct us its h1 h2 => match us, its, h1, h2 with | [_], [_], _, _ => ⟨_, rfl, rfl⟩
  obtain ⟨its, bk⟩ := F.kbindsD 1 ["value"] (ps := ["self", "value"]) (fun us _ zs => us ++ zs) (by simp [d_BadLine_init, He.DefD.dvs]) (fun a _ c => a.append c) fun T kV doc pm an cdv ct us its ws h1 h2 h3 => match us, its, ws, h1, h2, h3 with | [_], [_], [_], _, _, _ => ⟨_, rfl, rfl⟩
  exact mkW_of ox xk (ex_glo KX N e1 "BadLine" (by decide +kernel)) (bi_own (bi rfl) (ex_glo KX N e1 "PlayError" (by decide +kernel)) rfl) F ⟨rfl, rfl, rfl, by decide +kernel, rfl, by decide +kernel, by decide +kernel⟩ (by decide +kernel) (by decide +kernel) (by decide +kernel) rfl rfl bd (fun s u v K => bk.to s [u] [v] K rfl rfl) (.inr b0)
theorem mk_BadBoard {P : Program} {w : World} {K : PySem.W.Frag} {h : Heap} {mg : Str → Option Value} {base : Heap} (KX : K.In h) (N : h.Ns mainGlobals mg) (c : He.SaysD [] fn K) (e1 : exB gl names frees clr K = true) (e2 : exM mks iks K = true) : MkW P w K mg base 103 := by
  obtain ⟨fd, F⟩ := c.def_ 10 (d := d_BadBoard_init) rfl
  obtain ⟨ox, xk, bi⟩ := exM_mk e2 (c := 103) (by decide)
  obtain ⟨ds, hv, bd⟩ := F.binds1 2 1 (ps := ["self", "value"]) (by simp [d_BadBoard_init, He.DefD.dvs]) rfl fun T kV doc pm an cdv ct us its h1 h2 => match us, its, h1, h2 with | [_, _], [_], _, _ => ⟨_, rfl, rfl⟩
  cases hv
  have b0 := F.binds1 1 0 (ps := ["self", "value"]) (by simp [d_BadBoard_init, He.DefD.dvs]) rfl fun T kV doc pm an cdv ct us its h1 h2 => match us, its, h1, h2 with | [_], [_], _, _ => ⟨_, rfl, rfl⟩
  obtain ⟨its, bk⟩ := F.kbindsD 1 ["value"] (ps := ["self", "value"]) (fun us _ zs => us ++ zs) (by simp [d_BadBoard_init, He.DefD.dvs]) (fun a _ c => a.append c) fun T kV doc pm an cdv ct us its ws h1 h2 h3 => match us, its, ws, h1, h2, h3 with | [_], [_], [_], _, _, _ => ⟨_, rfl, rfl⟩
  exact mkW_of ox xk (ex_glo KX N e1 "BadBoard" (by decide +kernel)) (bi_own (bi rfl) (ex_glo KX N e1 "PlayError" (by decide +kernel)) rfl) F ⟨rfl, rfl, rfl, by decide +kernel, rfl, by decide +kernel, by decide +kernel⟩ (by decide +kernel) (by decide +kernel) (by decide +kernel) rfl rfl bd (fun s u v K => bk.to s [u] [v] K rfl rfl) (.inr b0)
theorem mk_BadDirection {P : Program} {w : World} {K : PySem.W.Frag} {h : Heap} {mg : Str → Option Value} {base : Heap} (KX : K.In h) (N : h.Ns mainGlobals mg) (c : He.SaysD [] fn K) (e1 : exB gl names frees clr K = true) (e2 : exM mks iks K = true) : MkW P w K mg base 104 := by
  obtain ⟨fd, F⟩ := c.def_ 11 (d := d_BadDirection_init) rfl
  obtain ⟨ox, xk, bi⟩ := exM_mk e2 (c := 104) (by decide)
  obtain ⟨ds, hv, bd⟩ := F.binds1 2 1 (ps := ["self", "value"]) (by simp [d_BadDirection_init, He.DefD.dvs]) rfl fun T kV doc pm an cdv ct us its h1 h2 => match us, its, h1, h2 with | [_, _], [_], _, _ => ⟨_, rfl, rfl⟩
  cases hv
  have b0 := F.binds1 1 0 (ps := ["self", "value"]) (by simp [d_BadDirection_init, He.DefD.dvs]) rfl fun T kV doc pm an cdv ct us its h1 h2 => match us, its, h1, h2 with | [_], [_], _, _ => ⟨_, rfl, rfl⟩
  obtain ⟨its, bk⟩ := F.kbindsD 1 ["value"] (ps := ["self", "value"]) (fun us _ zs => us ++ zs) (by simp [d_BadDirection_init, He.DefD.dvs]) (fun a _ c => a.append c) fun T kV doc pm an cdv ct us its ws h1 h2 h3 => match us, its, ws, h1, h2, h3 with | [_], [_], [_], _, _, _ => ⟨_, rfl, rfl⟩
  exact mkW_of ox xk (ex_glo KX N e1 "BadDirection" (by decide +kernel)) (bi_own (bi rfl) (ex_glo KX N e1 "PlayError" (by decide +kernel)) rfl) F ⟨rfl, rfl, rfl, by decide +kernel, rfl, by decide +kernel, by decide +kernel⟩ (by decide +kernel) (by decide +kernel) (by decide +kernel) rfl rfl bd (fun s u v K => bk.to s [u] [v] K rfl rfl) (.inr b0)
theorem mk_BadMachine {P : Program} {w : World} {K : PySem.W.Frag} {h : Heap} {mg : Str → Option Value} {base : Heap} (KX : K.In h) (N : h.Ns mainGlobals mg) (c : He.SaysD [] fn K) (e1 : exB gl names frees clr K = true) (e2 : exM mks iks K = true) : MkW P w K mg base 105 := by
  obtain ⟨fd, F⟩ := c.def_ 12 (d := d_BadMachine_init) rfl
  obtain ⟨ox, xk, bi⟩ := exM_mk e2 (c := 105) (by decide)
  obtain ⟨ds, hv, bd⟩ := F.binds1 2 1 (ps := ["self", "place"]) (by simp [d_BadMachine_init, He.DefD.dvs]) rfl fun T kV doc pm an cdv ct us its h1 h2 => match us, its, h1, h2 with | [_, _], [_], _, _ => ⟨_, rfl, rfl⟩
  cases hv
  have b0 := F.binds1 1 0 (ps := ["self", "place"]) (by simp [d_BadMachine_init, He.DefD.dvs]) rfl fun T kV doc pm an cdv ct us its h1 h2 => match us, its, h1, h2 with | [_], [_], _, _ => ⟨_, rfl, rfl⟩
  obtain ⟨its, bk⟩ := F.kbindsD 1 ["place"] (ps := ["self", "place"]) (fun us _ zs => us ++ zs) (by simp [d_BadMachine_init, He.DefD.dvs]) (fun a _ c => a.append c) fun T kV doc pm an cdv ct us its ws h1 h2 h3 => match us, its, ws, h1, h2, h3 with | [_], [_], [_], _, _, _ => ⟨_, rfl, rfl⟩
  exact mkW_of ox xk (ex_glo KX N e1 "BadMachine" (by decide +kernel)) (bi_own (bi rfl) (ex_glo KX N e1 "PlayError" (by decide +kernel)) rfl) F ⟨rfl, rfl, rfl, by decide +kernel, rfl, by decide +kernel, by decide +kernel⟩ (by decide +kernel) (by decide +kernel) (by decide +kernel) rfl rfl bd (fun s u v K => bk.to s [u] [v] K rfl rfl) (.inr b0)
theorem mk_BadBook {P : Program} {w : World} {K : PySem.W.Frag} {h : Heap} {mg : Str → Option Value} {base : Heap} (KX : K.In h) (N : h.Ns mainGlobals mg) (c : He.SaysD [] fn K) (e1 : exB gl names frees clr K = true) (e2 : exM mks iks K = true) : MkW P w K mg base 106 := by
  obtain ⟨fd, F⟩ := c.def_ 13 (d := d_BadBook_init) rfl
  obtain ⟨ox, xk, bi⟩ := exM_mk e2 (c := 106) (by decide)
  obtain ⟨ds, hv, bd⟩ := F.binds1 2 1 (ps := ["self", "place"]) (by simp [d_BadBook_init, He.DefD.dvs]) rfl fun T kV doc pm an cdv ct us its h1 h2 => match us, its, h1, h2 with | [_, _], [_], _, _ => ⟨_, rfl, rfl⟩
  cases hv
  have b0 := F.binds1 1 0 (ps := ["self", "place"]) (by simp [d_BadBook_init, He.DefD.dvs]) rfl fun T kV doc pm an cdv ct us its h1 h2 => match us, its, h1, h2 with | [_], [_], _, _ => ⟨_, rfl, rfl⟩
  obtain ⟨its, bk⟩ := F.kbindsD 1 ["place"] (ps := ["self", "place"]) (fun us _ zs => us ++ zs) (by simp [d_BadBook_init, He.DefD.dvs]) (fun a _ c => a.append c) fun T kV doc pm an cdv ct us its ws h1 h2 h3 => match us, its, ws, h1, h2, h3 with | [_], [_], [_], _, _, _ => ⟨_, rfl, rfl⟩
  exact mkW_of ox xk (ex_glo KX N e1 "BadBook" (by decide +kernel)) (bi_own (bi rfl) (ex_glo KX N e1 "PlayError" (by decide +kernel)) rfl) F ⟨rfl, rfl, rfl, by decide +kernel, rfl, by decide +kernel, by decide +kernel⟩ (by decide +kernel) (by decide +kernel) (by decide +kernel) rfl rfl bd (fun s u v K => bk.to s [u] [v] K rfl rfl) (.inr b0)
theorem mk_BadGuard {P : Program} {w : World} {K : PySem.W.Frag} {h : Heap} {mg : Str → Option Value} {base : Heap} (KX : K.In h) (N : h.Ns mainGlobals mg) (c : He.SaysD [] fn K) (e1 : exB gl names frees clr K = true) (e2 : exM mks iks K = true) : MkW P w K mg base 107 := by
  obtain ⟨fd, F⟩ := c.def_ 14 (d := d_BadGuard_init) rfl
  obtain ⟨ox, xk, bi⟩ := exM_mk e2 (c := 107) (by decide)
  obtain ⟨ds, hv, bd⟩ := F.binds1 2 1 (ps := ["self", "place"]) (by simp [d_BadGuard_init, He.DefD.dvs]) rfl fun T kV doc pm an cdv ct us its h1 h2 => match us, its, h1, h2 with | [_, _], [_], _, _ => ⟨_, rfl, rfl⟩
  cases hv
  have b0 := F.binds1 1 0 (ps := ["self", "place"]) (by simp [d_BadGuard_init, He.DefD.dvs]) rfl fun T kV doc pm an cdv ct us its h1 h2 => match us, its, h1, h2 with | [_], [_], _, _ => ⟨_, rfl, rfl⟩
  obtain ⟨its, bk⟩ := F.kbindsD 1 ["place"] (ps := ["self", "place"]) (fun us _ zs => us ++ zs) (by simp [d_BadGuard_init, He.DefD.dvs]) (fun a _ c => a.append c) fun T kV doc pm an cdv ct us its ws h1 h2 h3 => match us, its, ws, h1, h2, h3 with | [_], [_], [_], _, _, _ => ⟨_, rfl, rfl⟩
  exact mkW_of ox xk (ex_glo KX N e1 "BadGuard" (by decide +kernel)) (bi_own (bi rfl) (ex_glo KX N e1 "PlayError" (by decide +kernel)) rfl) F ⟨rfl, rfl, rfl, by decide +kernel, rfl, by decide +kernel, by decide +kernel⟩ (by decide +kernel) (by decide +kernel) (by decide +kernel) rfl rfl bd (fun s u v K => bk.to s [u] [v] K rfl rfl) (.inr b0)
theorem mk_BadGame {P : Program} {w : World} {K : PySem.W.Frag} {h : Heap} {mg : Str → Option Value} {base : Heap} (KX : K.In h) (N : h.Ns mainGlobals mg) (c : He.SaysD [] fn K) (e1 : exB gl names frees clr K = true) (e2 : exM mks iks K = true) : MkW P w K mg base 108 := by
  obtain ⟨fd, F⟩ := c.def_ 15 (d := d_BadGame_init) rfl
  obtain ⟨ox, xk, bi⟩ := exM_mk e2 (c := 108) (by decide)
  obtain ⟨ds, hv, bd⟩ := F.binds1 2 1 (ps := ["self", "place"]) (by simp [d_BadGame_init, He.DefD.dvs]) rfl fun T kV doc pm an cdv ct us its h1 h2 => match us, its, h1, h2 with | [_, _], [_], _, _ => ⟨_, rfl, rfl⟩
  cases hv
  have b0 := F.binds1 1 0 (ps := ["self", "place"]) (by simp [d_BadGame_init, He.DefD.dvs]) rfl fun T kV doc pm an cdv ct us its h1 h2 => match us, its, h1, h2 with | [_], [_], _, _ => ⟨_, rfl, rfl⟩
  obtain ⟨its, bk⟩ := F.kbindsD 1 ["place"] (ps := ["self", "place"]) (fun us _ zs => us ++ zs) (by simp [d_BadGame_init, He.DefD.dvs]) (fun a _ c => a.append c) fun T kV doc pm an cdv ct us its ws h1 h2 h3 => match us, its, ws, h1, h2, h3 with | [_], [_], [_], _, _, _ => ⟨_, rfl, rfl⟩
  exact mkW_of ox xk (ex_glo KX N e1 "BadGame" (by decide +kernel)) (bi_own (bi rfl) (ex_glo KX N e1 "PlayError" (by decide +kernel)) rfl) F ⟨rfl, rfl, rfl, by decide +kernel, rfl, by decide +kernel, by decide +kernel⟩ (by decide +kernel) (by decide +kernel) (by decide +kernel) rfl rfl bd (fun s u v K => bk.to s [u] [v] K rfl rfl) (.inr b0)
theorem mk_BadWeights {P : Program} {w : World} {K : PySem.W.Frag} {h : Heap} {mg : Str → Option Value} {base : Heap} (KX : K.In h) (N : h.Ns mainGlobals mg) (c : He.SaysD [] fn K) (e1 : exB gl names frees clr K = true) (e2 : exM mks iks K = true) : MkW P w K mg base 109 := by
  obtain ⟨fd, F⟩ := c.def_ 16 (d := d_BadWeights_init) rfl
  obtain ⟨ox, xk, bi⟩ := exM_mk e2 (c := 109) (by decide)
  obtain ⟨ds, hv, bd⟩ := F.binds1 2 1 (ps := ["self", "place"]) (by simp [d_BadWeights_init, He.DefD.dvs]) rfl fun T kV doc pm an cdv ct us its h1 h2 => match us, its, h1, h2 with | [_, _], [_], _, _ => ⟨_, rfl, rfl⟩
  cases hv
  have b0 := F.binds1 1 0 (ps := ["self", "place"]) (by simp [d_BadWeights_init, He.DefD.dvs]) rfl fun T kV doc pm an cdv ct us its h1 h2 => match us, its, h1, h2 with | [_], [_], _, _ => ⟨_, rfl, rfl⟩
  obtain ⟨its, bk⟩ := F.kbindsD 1 ["place"] (ps := ["self", "place"]) (fun us _ zs => us ++ zs) (by simp [d_BadWeights_init, He.DefD.dvs]) (fun a _ c => a.append c) fun T kV doc pm an cdv ct us its ws h1 h2 h3 => match us, its, ws, h1, h2, h3 with | [_], [_], [_], _, _, _ => ⟨_, rfl, rfl⟩
  exact mkW_of ox xk (ex_glo KX N e1 "BadWeights" (by decide +kernel)) (bi_own (bi rfl) (ex_glo KX N e1 "PlayError" (by decide +kernel)) rfl) F ⟨rfl, rfl, rfl, by decide +kernel, rfl, by decide +kernel, by decide +kernel⟩ (by decide +kernel) (by decide +kernel) (by decide +kernel) rfl rfl bd (fun s u v K => bk.to s [u] [v] K rfl rfl) (.inr b0)
theorem mk_BadPaper {P : Program} {w : World} {K : PySem.W.Frag} {h : Heap} {mg : Str → Option Value} {base : Heap} (KX : K.In h) (N : h.Ns mainGlobals mg) (c : He.SaysD [] fn K) (e1 : exB gl names frees clr K = true) (e2 : exM mks iks K = true) : MkW P w K mg base 110 := by
  obtain ⟨fd, F⟩ := c.def_ 17 (d := d_BadPaper_init) rfl
  obtain ⟨ox, xk, bi⟩ := exM_mk e2 (c := 110) (by decide)
  obtain ⟨ds, hv, bd⟩ := F.binds1 2 1 (ps := ["self", "place"]) (by simp [d_BadPaper_init, He.DefD.dvs]) rfl fun T kV doc pm an cdv ct us its h1 h2 => match us, its, h1, h2 with | [_, _], [_], _, _ => ⟨_, rfl, rfl⟩
  cases hv
  have b0 := F.binds1 1 0 (ps := ["self", "place"]) (by simp [d_BadPaper_init, He.DefD.dvs]) rfl fun T kV doc pm an cdv ct us its h1 h2 => match us, its, h1, h2 with | [_], [_], _, _ => ⟨_, rfl, rfl⟩
  obtain ⟨its, bk⟩ := F.kbindsD 1 ["place"] (ps := ["self", "place"]) (fun us _ zs => us ++ zs) (by simp [d_BadPaper_init, He.DefD.dvs]) (fun a _ c => a.append c) fun T kV doc pm an cdv ct us its ws h1 h2 h3 => match us, its, ws, h1, h2, h3 with | [_], [_], [_], _, _, _ => ⟨_, rfl, rfl⟩
  exact mkW_of ox xk (ex_glo KX N e1 "BadPaper" (by decide +kernel)) (bi_own (bi rfl) (ex_glo KX N e1 "PlayError" (by decide +kernel)) rfl) F ⟨rfl, rfl, rfl, by decide +kernel, rfl, by decide +kernel, by decide +kernel⟩ (by decide +kernel) (by decide +kernel) (by decide +kernel) rfl rfl bd (fun s u v K => bk.to s [u] [v] K rfl rfl) (.inr b0)
theorem mk_BadText {P : Program} {w : World} {K : PySem.W.Frag} {h : Heap} {mg : Str → Option Value} {base : Heap} (KX : K.In h) (N : h.Ns mainGlobals mg) (c : He.SaysD [] fn K) (e1 : exB gl names frees clr K = true) (e2 : exM mks iks K = true) : MkW P w K mg base 111 := by
  obtain ⟨fd, F⟩ := c.def_ 18 (d := d_BadText_init) rfl
  obtain ⟨ox, xk, bi⟩ := exM_mk e2 (c := 111) (by decide)
  obtain ⟨ds, hv, bd⟩ := F.binds1 2 1 (ps := ["self", "place"]) (by simp [d_BadText_init, He.DefD.dvs]) rfl fun T kV doc pm an cdv ct us its h1 h2 => match us, its, h1, h2 with | [_, _], [_], _, _ => ⟨_, rfl, rfl⟩
  cases hv
  have b0 := F.binds1 1 0 (ps := ["self", "place"]) (by simp [d_BadText_init, He.DefD.dvs]) rfl fun T kV doc pm an cdv ct us its h1 h2 => match us, its, h1, h2 with | [_], [_], _, _ => ⟨_, rfl, rfl⟩
  obtain ⟨its, bk⟩ := F.kbindsD 1 ["place"] (ps := ["self", "place"]) (fun us _ zs => us ++ zs) (by simp [d_BadText_init, He.DefD.dvs]) (fun a _ c => a.append c) fun T kV doc pm an cdv ct us its ws h1 h2 h3 => match us, its, ws, h1, h2, h3 with | [_], [_], [_], _, _, _ => ⟨_, rfl, rfl⟩
  exact mkW_of ox xk (ex_glo KX N e1 "BadText" (by decide +kernel)) (bi_own (bi rfl) (ex_glo KX N e1 "PlayError" (by decide +kernel)) rfl) F ⟨rfl, rfl, rfl, by decide +kernel, rfl, by decide +kernel, by decide +kernel⟩ (by decide +kernel) (by decide +kernel) (by decide +kernel) rfl rfl bd (fun s u v K => bk.to s [u] [v] K rfl rfl) (.inr b0)
theorem mk_BadNumber {P : Program} {w : World} {K : PySem.W.Frag} {h : Heap} {mg : Str → Option Value} {base : Heap} (KX : K.In h) (N : h.Ns mainGlobals mg) (c : He.SaysD [] fn K) (e1 : exB gl names frees clr K = true) (e2 : exM mks iks K = true) : MkW P w K mg base 112 := by
  obtain ⟨fd, F⟩ := c.def_ 19 (d := d_BadNumber_init) rfl
  obtain ⟨ox, xk, bi⟩ := exM_mk e2 (c := 112) (by decide)
  obtain ⟨ds, hv, bd⟩ := F.binds1 2 1 (ps := ["self", "value"]) (by simp [d_BadNumber_init, He.DefD.dvs]) rfl fun T kV doc pm an cdv ct us its h1 h2 => match us, its, h1, h2 with | [_, _], [_], _, _ => ⟨_, rfl, rfl⟩
  cases hv
  have b0 := F.binds1 1 0 (ps := ["self", "value"]) (by simp [d_BadNumber_init, He.DefD.dvs]) rfl fun T kV doc pm an cdv ct us its h1 h2 => match us, its, h1, h2 with | [_], [_], _, _ => ⟨_, rfl, rfl⟩
  obtain ⟨its, bk⟩ := F.kbindsD 1 ["value"] (ps := ["self", "value"]) (fun us _ zs => us ++ zs) (by simp [d_BadNumber_init, He.DefD.dvs]) (fun a _ c => a.append c) fun T kV doc pm an cdv ct us its ws h1 h2 h3 => match us, its, ws, h1, h2, h3 with | [_], [_], [_], _, _, _ => ⟨_, rfl, rfl⟩
  exact mkW_of ox xk (ex_glo KX N e1 "BadNumber" (by decide +kernel)) (bi_own (bi rfl) (ex_glo KX N e1 "PlayError" (by decide +kernel)) rfl) F ⟨rfl, rfl, rfl, by decide +kernel, rfl, by decide +kernel, by decide +kernel⟩ (by decide +kernel) (by decide +kernel) (by decide +kernel) rfl rfl bd (fun s u v K => bk.to s [u] [v] K rfl rfl) (.inr b0)
theorem mk_BadMods {P : Program} {w : World} {K : PySem.W.Frag} {h : Heap} {mg : Str → Option Value} {base : Heap} (KX : K.In h) (N : h.Ns mainGlobals mg) (c : He.SaysD [] fn K) (e1 : exB gl names frees clr K = true) (e2 : exM mks iks K = true) : MkW P w K mg base 113 := by
  obtain ⟨fd, F⟩ := c.def_ 20 (d := d_BadMods_init) rfl
  obtain ⟨ox, xk, bi⟩ := exM_mk e2 (c := 113) (by decide)
  obtain ⟨ds, hv, bd⟩ := F.binds1 2 1 (ps := ["self", "place"]) (by simp [d_BadMods_init, He.DefD.dvs]) rfl fun T kV doc pm an cdv ct us its h1 h2 => match us, its, h1, h2 with | [_, _], [_], _, _ => ⟨_, rfl, rfl⟩
  cases hv
  have b0 := F.binds1 1 0 (ps := ["self", "place"]) (by simp [d_BadMods_init, He.DefD.dvs]) rfl fun T kV doc pm an cdv ct us its h1 h2 => match us, its, h1, h2 with | [_], [_], _, _ => ⟨_, rfl, rfl⟩
  obtain ⟨its, bk⟩ := F.kbindsD 1 ["place"] (ps := ["self", "place"]) (fun us _ zs => us ++ zs) (by simp [d_BadMods_init, He.DefD.dvs]) (fun a _ c => a.append c) fun T kV doc pm an cdv ct us its ws h1 h2 h3 => match us, its, ws, h1, h2, h3 with | [_], [_], [_], _, _, _ => ⟨_, rfl, rfl⟩
  exact mkW_of ox xk (ex_glo KX N e1 "BadMods" (by decide +kernel)) (bi_own (bi rfl) (ex_glo KX N e1 "PlayError" (by decide +kernel)) rfl) F ⟨rfl, rfl, rfl, by decide +kernel, rfl, by decide +kernel, by decide +kernel⟩ (by decide +kernel) (by decide +kernel) (by decide +kernel) rfl rfl bd (fun s u v K => bk.to s [u] [v] K rfl rfl) (.inr b0)
theorem mk_BadSample {P : Program} {w : World} {K : PySem.W.Frag} {h : Heap} {mg : Str → Option Value} {base : Heap} (KX : K.In h) (N : h.Ns mainGlobals mg) (c : He.SaysD [] fn K) (e1 : exB gl names frees clr K = true) (e2 : exM mks iks K = true) : MkW P w K mg base 114 := by
  obtain ⟨fd, F⟩ := c.def_ 21 (d := d_BadSample_init) rfl
  obtain ⟨ox, xk, bi⟩ := exM_mk e2 (c := 114) (by decide)
  obtain ⟨ds, hv, bd⟩ := F.binds1 2 1 (ps := ["self", "place"]) (by simp [d_BadSample_init, He.DefD.dvs]) rfl fun T kV doc pm an cdv ct us its h1 h2 => match us, its, h1, h2 with | [_, _], [_], _, _ => ⟨_, rfl, rfl⟩
  cases hv
  have b0 := F.binds1 1 0 (ps := ["self", "place"]) (by simp [d_BadSample_init, He.DefD.dvs]) rfl fun T kV doc pm an cdv ct us its h1 h2 => match us, its, h1, h2 with | [_], [_], _, _ => ⟨_, rfl, rfl⟩
  obtain ⟨its, bk⟩ := F.kbindsD 1 ["place"] (ps := ["self", "place"]) (fun us _ zs => us ++ zs) (by simp [d_BadSample_init, He.DefD.dvs]) (fun a _ c => a.append c) fun T kV doc pm an cdv ct us its ws h1 h2 h3 => match us, its, ws, h1, h2, h3 with | [_], [_], [_], _, _, _ => ⟨_, rfl, rfl⟩
  exact mkW_of ox xk (ex_glo KX N e1 "BadSample" (by decide +kernel)) (bi_own (bi rfl) (ex_glo KX N e1 "PlayError" (by decide +kernel)) rfl) F ⟨rfl, rfl, rfl, by decide +kernel, rfl, by decide +kernel, by decide +kernel⟩ (by decide +kernel) (by decide +kernel) (by decide +kernel) rfl rfl bd (fun s u v K => bk.to s [u] [v] K rfl rfl) (.inr b0)
theorem mk_BadDeed {P : Program} {w : World} {K : PySem.W.Frag} {h : Heap} {mg : Str → Option Value} {base : Heap} (KX : K.In h) (N : h.Ns mainGlobals mg) (c : He.SaysD [] fn K) (e1 : exB gl names frees clr K = true) (e2 : exM mks iks K = true) : MkW P w K mg base 115 := by
  obtain ⟨fd, F⟩ := c.def_ 22 (d := d_BadDeed_init) rfl
  obtain ⟨ox, xk, bi⟩ := exM_mk e2 (c := 115) (by decide)
  obtain ⟨ds, hv, bd⟩ := F.binds1 2 1 (ps := ["self", "place"]) (by simp [d_BadDeed_init, He.DefD.dvs]) rfl fun T kV doc pm an cdv ct us its h1 h2 => match us, its, h1, h2 with | [_, _], [_], _, _ => ⟨_, rfl, rfl⟩
  cases hv
  have b0 := F.binds1 1 0 (ps := ["self", "place"]) (by simp [d_BadDeed_init, He.DefD.dvs]) rfl fun T kV doc pm an cdv ct us its h1 h2 => match us, its, h1, h2 with | [_], [_], _, _ => ⟨_, rfl, rfl⟩
  obtain ⟨its, bk⟩ := F.kbindsD 1 ["place"] (ps := ["self", "place"]) (fun us _ zs => us ++ zs) (by simp [d_BadDeed_init, He.DefD.dvs]) (fun a _ c => a.append c) fun T kV doc pm an cdv ct us its ws h1 h2 h3 => match us, its, ws, h1, h2, h3 with | [_], [_], [_], _, _, _ => ⟨_, rfl, rfl⟩
  exact mkW_of ox xk (ex_glo KX N e1 "BadDeed" (by decide +kernel)) (bi_own (bi rfl) (ex_glo KX N e1 "PlayError" (by decide +kernel)) rfl) F ⟨rfl, rfl, rfl, by decide +kernel, rfl, by decide +kernel, by decide +kernel⟩ (by decide +kernel) (by decide +kernel) (by decide +kernel) rfl rfl bd (fun s u v K => bk.to s [u] [v] K rfl rfl) (.inr b0)
theorem mk_TooMany {P : Program} {w : World} {K : PySem.W.Frag} {h : Heap} {mg : Str → Option Value} {base : Heap} (KX : K.In h) (N : h.Ns mainGlobals mg) (c : He.SaysD [] fn K) (e1 : exB gl names frees clr K = true) (e2 : exM mks iks K = true) : MkW P w K mg base 116 := by
  obtain ⟨fd, F⟩ := c.def_ 23 (d := d_TooMany_init) rfl
  obtain ⟨ox, xk, bi⟩ := exM_mk e2 (c := 116) (by decide)
  have bd : L2.Binds K fd ["self", "most"] [] := F.bindsN fun _ _ _ _ _ _ us hl => match us, hl with | [_, _], _ => rfl
  exact mkW_of ox xk (ex_glo KX N e1 "TooMany" (by decide +kernel)) (bi_blt (n := 92) (ex_free KX N e1 "OverflowError" (by decide +kernel))) F ⟨rfl, rfl, rfl, by decide +kernel, rfl, by decide +kernel, by decide +kernel⟩ (by decide +kernel) (by decide +kernel) (by decide +kernel) rfl rfl bd (fun s u v _ => kw_plain F (fun _ _ _ _ _ _ _ _ => rfl) s u v) (.inl rfl)
theorem mk_NoSuch {P : Program} {w : World} {K : PySem.W.Frag} {h : Heap} {mg : Str → Option Value} {base : Heap} (KX : K.In h) (N : h.Ns mainGlobals mg) (c : He.SaysD [] fn K) (e1 : exB gl names frees clr K = true) (e2 : exM mks iks K = true) : MkW P w K mg base 117 := by
  obtain ⟨fd, F⟩ := c.def_ 24 (d := d_NoSuch_init) rfl
  obtain ⟨ox, xk, bi⟩ := exM_mk e2 (c := 117) (by decide)
  obtain ⟨ds, hv, bd⟩ := F.binds1 2 1 (ps := ["self", "value"]) (by simp [d_NoSuch_init, He.DefD.dvs]) rfl fun T kV doc pm an cdv ct us its h1 h2 => match us, its, h1, h2 with | [_, _], [_], _, _ => ⟨_, rfl, rfl⟩
  cases hv
  have b0 := F.binds1 1 0 (ps := ["self", "value"]) (by simp [d_NoSuch_init, He.DefD.dvs]) rfl fun T kV doc pm an cdv ct us its h1 h2 => match us, its, h1, h2 with | [_], [_], _, _ => ⟨_, rfl, rfl⟩
  obtain ⟨its, bk⟩ := F.kbindsD 1 ["value"] (ps := ["self", "value"]) (fun us _ zs => us ++ zs) (by simp [d_NoSuch_init, He.DefD.dvs]) (fun a _ c => a.append c) fun T kV doc pm an cdv ct us its ws h1 h2 h3 => match us, its, ws, h1, h2, h3 with | [_], [_], [_], _, _, _ => ⟨_, rfl, rfl⟩
  exact mkW_of ox xk (ex_glo KX N e1 "NoSuch" (by decide +kernel)) (bi_blt (n := 91) (ex_free KX N e1 "LookupError" (by decide +kernel))) F ⟨rfl, rfl, rfl, by decide +kernel, rfl, by decide +kernel, by decide +kernel⟩ (by decide +kernel) (by decide +kernel) (by decide +kernel) rfl rfl bd (fun s u v K => bk.to s [u] [v] K rfl rfl) (.inr b0)
theorem wd {P : Program} {w : World} {K : PySem.W.Frag} {h : Heap} {mg : Str → Option Value} {base : Heap} (fuel : Nat) (KX : K.In h) (N : h.Ns mainGlobals mg) (c : He.SaysD [] fn K) (e9 : ex K = true) (kin : K.In base) (bns : base.Ns mainGlobals mg) : Wd (pg fuel) P w K mg base where
  fn := fun i src hs => by
    match i with
    | 0 =>
      obtain rfl := Option.some.inj (show some s_law_mixed = some src from hs)
      exact w_law_mixed c
    | 1 =>
      obtain rfl := Option.some.inj (show some s_law_draw = some src from hs)
      exact w_law_draw c
    | 2 =>
      obtain rfl := Option.some.inj (show some s_law_digit = some src from hs)
      exact w_law_digit c
    | 3 =>
      obtain rfl := Option.some.inj (show some s_law_kinds = some src from hs)
      exact w_law_kinds c
    | 4 =>
      obtain rfl := Option.some.inj (show some s_law_valued = some src from hs)
      exact w_law_valued c
    | 5 =>
      obtain rfl := Option.some.inj (show some s_law_placed = some src from hs)
      exact w_law_placed c
    | 6 =>
      obtain rfl := Option.some.inj (show some s_law_right = some src from hs)
      exact w_law_right c
    | 7 =>
      obtain rfl := Option.some.inj (show some s_law = some src from hs)
      exact w_law c
    | n + 8 => exact nomatch (show none = some src from hs)
  glo := fun i src hs => ex_glo KX N (e1_of e9) src.name (by
    have hall : (srcs.all fun s => names.contains s.name) = true := by decide +kernel
    exact List.all_eq_true.mp hall src (List.mem_of_getElem? hs))
  free := ex_free KX N (e1_of e9)
  con := ex_con KX N (e1_of e9)
  mkw := fun k hk => by
    have hk2 : k ∈ mks := by simpa [pg] using hk
    simp only [mks, List.mem_cons, List.not_mem_nil, or_false] at hk2
    rcases hk2 with rfl | rfl | rfl | rfl | rfl | rfl | rfl | rfl | rfl | rfl | rfl | rfl | rfl | rfl | rfl | rfl | rfl
    · exact mk_BadSigns KX N c (e1_of e9) (e2_of e9)
    · exact mk_BadLine KX N c (e1_of e9) (e2_of e9)
    · exact mk_BadBoard KX N c (e1_of e9) (e2_of e9)
    · exact mk_BadDirection KX N c (e1_of e9) (e2_of e9)
    · exact mk_BadMachine KX N c (e1_of e9) (e2_of e9)
    · exact mk_BadBook KX N c (e1_of e9) (e2_of e9)
    · exact mk_BadGuard KX N c (e1_of e9) (e2_of e9)
    · exact mk_BadGame KX N c (e1_of e9) (e2_of e9)
    · exact mk_BadWeights KX N c (e1_of e9) (e2_of e9)
    · exact mk_BadPaper KX N c (e1_of e9) (e2_of e9)
    · exact mk_BadText KX N c (e1_of e9) (e2_of e9)
    · exact mk_BadNumber KX N c (e1_of e9) (e2_of e9)
    · exact mk_BadMods KX N c (e1_of e9) (e2_of e9)
    · exact mk_BadSample KX N c (e1_of e9) (e2_of e9)
    · exact mk_BadDeed KX N c (e1_of e9) (e2_of e9)
    · exact mk_TooMany KX N c (e1_of e9) (e2_of e9)
    · exact mk_NoSuch KX N c (e1_of e9) (e2_of e9)
  isx := fun k hk => ⟨fun hk1 => by
    have hk2 : k ∈ iks := by simpa [pg] using hk
    simp only [iks, List.mem_cons, List.not_mem_nil, or_false] at hk2
    rcases hk2 with rfl | rfl | rfl | rfl | rfl | rfl | rfl | rfl | rfl | rfl | rfl | rfl | rfl | rfl | rfl | rfl | rfl | rfl | rfl | rfl | rfl
    · exact absurd hk1 (by decide)
    · exact absurd hk1 (by decide)
    · exact absurd hk1 (by decide)
    · exact ex_glo KX N (e1_of e9) "PlayError" (by decide +kernel)
    · exact ex_glo KX N (e1_of e9) "BadSigns" (by decide +kernel)
    · exact ex_glo KX N (e1_of e9) "BadLine" (by decide +kernel)
    · exact ex_glo KX N (e1_of e9) "BadBoard" (by decide +kernel)
    · exact ex_glo KX N (e1_of e9) "BadDirection" (by decide +kernel)
    · exact ex_glo KX N (e1_of e9) "BadMachine" (by decide +kernel)
    · exact ex_glo KX N (e1_of e9) "BadBook" (by decide +kernel)
    · exact ex_glo KX N (e1_of e9) "BadGuard" (by decide +kernel)
    · exact ex_glo KX N (e1_of e9) "BadGame" (by decide +kernel)
    · exact ex_glo KX N (e1_of e9) "BadWeights" (by decide +kernel)
    · exact ex_glo KX N (e1_of e9) "BadPaper" (by decide +kernel)
    · exact ex_glo KX N (e1_of e9) "BadText" (by decide +kernel)
    · exact ex_glo KX N (e1_of e9) "BadNumber" (by decide +kernel)
    · exact ex_glo KX N (e1_of e9) "BadMods" (by decide +kernel)
    · exact ex_glo KX N (e1_of e9) "BadSample" (by decide +kernel)
    · exact ex_glo KX N (e1_of e9) "BadDeed" (by decide +kernel)
    · exact ex_glo KX N (e1_of e9) "TooMany" (by decide +kernel)
    · exact ex_glo KX N (e1_of e9) "NoSuch" (by decide +kernel), exM_is (e2_of e9) hk⟩
  exc := fun X e1 e2 e3 e4 e5 calm room k n f hm => by
    exact absurd hm (by simp [pg, cls])
end LK
end
set_option Elab.async false
set_option linter.all false
set_option maxRecDepth 100000
open PySem PySem.W PySem.Calls PyProof.Rows
set_option maxHeartbeats 4000000
theorem PySem.Challenge.cw_playedalike_k99_errors_by_hand_holds : PySem.Challenge.rw_playedalike_k99_errors_by_hand.Holds := by
  w_on; o_law
  refine HandSHeadRun.head_any (r := OpenLaw.row PySem.Challenge.rw_playedalike_k99_errors_by_hand) (q := view (OpenLaw.row PySem.Challenge.rw_playedalike_k99_errors_by_hand).prog [27]) (H := LK.hk) (ob := LK.ob) (M := 6000) (loose := LK.loose) (d := HandSHeadRun.topDef (OpenLaw.row PySem.Challenge.rw_playedalike_k99_errors_by_hand).prog 27) (kwd := []) LK.ob_eq
    (by kernel_rfl) (fun s => by kernel_rfl) LK.run (by kernel_rfl) (by kernel_rfl) (by kernel_rfl) (by rfl) (by first | assumption | decide +kernel) (by decide +kernel) ⟨rfl, rfl, rfl, rfl, rfl, by decide +kernel⟩ ?hw ?hc
  case hw => w_witness2
  case hc =>
    exact Ev.walk_pg (p := LK.pg) (l := PySem.Challenge.rw_playedalike_k99_errors_by_hand) (i := 7) (x := "script") (fd := LK.f_law) (src := LK.s_law) LK.fuel 12 rfl (by kernel_rfl) (LK.pg_ok _) rfl rfl rfl (by kernel_rfl) ⟨rfl, by decide, by decide⟩
      (fun w K h mg KX N c e base kin bns => LK.wd LK.fuel KX N c e kin bns) LK.law_run
