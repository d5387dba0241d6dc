import PyProof.Rows.All
import Wide.All
import OpenK.AllK
import Wide.FinOn
import PySem.Challenge.RW_lendshelf_k18_refusals_with_fields
import HandS.ForMost
import HandS.ForExc
import HandS.Wide
import HandS.HotCalls
import HandS.SuiteRaise
import HandS.IsInst
import HandS.ExcIs
import HandS.TupAny
import HandS.Style
import HandS.Deep
import HandS.StrMore
import HandS.SortInts
import HandS.Zip
import HandS.HeadHook1
import HandS.TupLe
import HandS.ExcValue
import HandS.ExcInit
import HandS.ExcField
import KE.KExcIs
import HandS.Strs
import PyProof.Rows.StrMeet
import HandS.List
import HandS.More
import KE.KSortedM
import HandS.Walk
import HandS.Comp
import HandS.Defaults
import HandS.HeadWalk
import HandS.Head0
import HandS.Head1
import HandS.Head2
import HandS.HeadEnd
import HandS.HeadHook2
import HandS.Text
import PyProof.P3Eq
set_option Elab.async false
set_option linter.all false
set_option maxRecDepth 100000
/-! VI: data trees, the core language, its evaluator. -/
namespace VI
open PySem PySem.Spec PyProof.Rows

/-- data: a list bears a flag: true, it is owned where it stands and may be changed; false, it is frozen -/
inductive D where
  | non | bl (b : Bool) | int (i : Int) | str (s : Str)
  | tup (xs : List D) | lst (m : Bool) (xs : List D)
  /-- a dict: its keys, its values; the keys texts and numbers, or tuples of these -/
  | dct (m : Bool) (ks : List L2.Key) (xs : List D)
  | dtt (m : Bool) (ks : List (List L2.Key)) (xs : List D)
  /-- an instance of the class named c: its attributes' names, their values -/
  | obj (m : Bool) (c : Str) (fs : List Str) (xs : List D)
  /-- the script: a list of whole numbers that nobody changes -/
  | scr (ns : List Int)
  /-- something of which nothing is known -/
  | unk
  /-- the same value as the i-th held -/
  | hole (i : Nat)
  /-- an exception as a value: its class, its attributes' names and values; nobody changes it -/
  | exn (c : Str) (fs : List Str) (xs : List D)

abbrev Env := List (Option D)

mutual
def frz : D → D
  | .tup xs => .tup (frzL xs)
  | .lst _ xs => .lst false (frzL xs)
  | .dct _ ks xs => .dct false ks (frzL xs)
  | .dtt _ ks xs => .dtt false ks (frzL xs)
  | .obj _ c fs xs => .obj false c fs (frzL xs)
  | .exn c fs xs => .exn c fs (frzL xs)
  | .non => .non | .bl b => .bl b | .int i => .int i | .str s => .str s | .scr ns => .scr ns | .unk => .unk | .hole _ => .unk
def frzL : List D → List D
  | [] => []
  | x :: xs => frz x :: frzL xs
end
mutual
/-- nothing in it is owned -/
def lf : D → Bool
  | .tup xs => lfL xs
  | .lst m xs => !m && lfL xs
  | .dct m _ xs => !m && lfL xs
  | .dtt m _ xs => !m && lfL xs
  | .obj m _ _ xs => !m && lfL xs
  | .exn _ _ xs => lfL xs
  | .non => true | .bl _ => true | .int _ => true | .str _ => true | .scr _ => true | .unk => true | .hole _ => false
def lfL : List D → Bool
  | [] => true
  | x :: xs => lf x && lfL xs
end
mutual
/-- nothing in it is frozen -/
def ff : D → Bool
  | .tup xs => ffL xs
  | .lst m xs => m && ffL xs
  | .dct m _ xs => m && ffL xs
  | .dtt m _ xs => m && ffL xs
  | .obj m _ _ xs => m && ffL xs
  | .exn _ _ xs => ffL xs
  | .non => true | .bl _ => true | .int _ => true | .str _ => true | .scr _ => true | .unk => true | .hole _ => true
def ffL : List D → Bool
  | [] => true
  | x :: xs => ff x && ffL xs
end

mutual
/-- no hole of x in it -/
def noh (x : Nat) : D → Bool
  | .hole i => !(i == x)
  | .tup xs => nohL x xs
  | .lst _ xs => nohL x xs
  | .dct _ _ xs => nohL x xs
  | .dtt _ _ xs => nohL x xs
  | .obj _ _ _ xs => nohL x xs
  | .exn _ _ xs => nohL x xs
  | .non => true | .bl _ => true | .int _ => true | .str _ => true | .scr _ => true | .unk => true
def nohL (x : Nat) : List D → Bool
  | [] => true
  | d :: ds => noh x d && nohL x ds
end
def nohE (x : Nat) : Env → Bool
  | [] => true
  | some d :: e => noh x d && nohE x e
  | none :: e => nohE x e
/-- the kind of a list's first -/
def k1 : D → Nat
  | .str _ => 1
  | .non => 2 | .bl _ => 2 | .int _ => 2
  | _ => 3
def nks : List D → List Nat
  | [] => [0]
  | .unk :: _ => [1, 2, 3]
  | .hole _ :: _ => [1, 2, 3]
  | x :: _ => [k1 x]
mutual
/-- the kinds of what is owned in it -/
def ownk : D → List Nat
  | .tup xs => ownkL xs
  | .lst m xs => if m then nks xs ++ ownkL xs else []
  | .dct m _ xs => if m then 4 :: ownkL xs else []
  | .dtt m _ xs => if m then 5 :: ownkL xs else []
  | .obj m _ _ xs => if m then 6 :: ownkL xs else []
  | .exn _ _ xs => ownkL xs
  | _ => []
def ownkL : List D → List Nat
  | [] => []
  | x :: xs => ownk x ++ ownkL xs
end
mutual
/-- .. of what is frozen -/
def frok : D → List Nat
  | .tup xs => frokL xs
  | .lst m xs => if m then frokL xs else nks xs ++ frokL xs
  | .dct m _ xs => if m then frokL xs else 4 :: frokL xs
  | .dtt m _ xs => if m then frokL xs else 5 :: frokL xs
  | .obj m _ _ xs => if m then frokL xs else 6 :: frokL xs
  | .exn _ _ xs => frokL xs
  | _ => []
def frokL : List D → List Nat
  | [] => []
  | x :: xs => frok x ++ frokL xs
end
/-- nothing frozen in the one is of a kind that the others own -/
def sepB (d : D) (ds : List D) : Bool := (frok d).all fun k => !(ownkL ds).contains k

inductive Bop where | add | sub | mul | div | mod | pow
  deriving DecidableEq
inductive Cop where | lt | le | gt | ge | eq | ne | is | isn | in_ | nin
  deriving DecidableEq
/-- built-in functions of values -/
inductive Bi where | len | int | str | max2 | min2 | sum | tup | lst | sorted | abs | dvm | dct
  deriving DecidableEq
/-- len(set(..)) of texts -/
def setLen {α : Type} [DecidableEq α] (xs : List α) : Nat := (xs.foldl (fun acc x => if x ∈ acc then acc else acc ++ [x]) []).length
/-- methods of texts -/
inductive Mth where | split | find | zfill | join | isdigit | upper
  deriving DecidableEq
/-- what isinstance asks: a built-in type, an exception class of the table, ValueError -/
inductive Ty where | int | str | bool | list | tuple | dict | exc (j : Nat) | verr
  /-- an own class, the j-th of those told by name: these classes stand under it, those do not -/
  | cls (j : Nat) (ys ns : List Str)
  /-- .. an exception class, asked of exceptions as values -/
  | xcl (j : Nat) (ys ns : List Str)
  deriving DecidableEq
/-- what changes a list, a dict where it stands -/
inductive Mop where | app | ins | clear | rev | ext | upd
  deriving DecidableEq
/-- a step into data -/
inductive Stp where | fld (f : Str) | ix (j : Nat) | key (k : L2.Key) | keyt (k : List L2.Key)
  deriving DecidableEq
inductive Tg where | one (i : Nat) | many (is : List Nat)
  deriving DecidableEq

/-- the core language: expressions, argument lists, statements in one -/
inductive C where
  | non | bl (b : Bool) | int (i : Int) | str (s : Str)
  | get (i : Nat) | glo (g : Nat)
  | bin (o : Bop) (a b : C) | neg (a : C) | cmp (o : Cop) (a b : C) | chain (o o' : Cop) (a b c : C)
  | nt (a : C) | and (a b : C) | or (a b : C)
  | tup (as : C) | lst (as : C) | nil | cons (a as : C)
  | idx (a b : C) | slc (a lo hi : C) | rev (a : C)
  | bi (f : Bi) (as : C) | isi (a : C) (ts : List Ty) (wrap : Bool) | isx (ts : List Ty) (wrap : Bool) | call (f : Nat) (as : C) | scall (f : Nat) (as : C) | callx (f : Nat) | mth (m : Mth) (o as : C) | cond (c a b : C)
  | lc (elt : C) (own : List Nat) (tg : Tg) (it cond : C)
  | rng1 (a : C) | rng2 (a b : C) | zip (a b : C) | enum (a : C)
  | app (i : Nat) (a : C) | clear (i : Nat) | popat (i : Nat) (a : C)
  | dnew | dnewT
  | fld (a : C) (f : Str) | mk (c : Nat) (as : C) | mcall (m : Str) (o as : C) | lset (a : C) | dget (a b o : C)
  | mv (pl : C) | mop (o : Mop) (pl as : C) | bcall (f : Nat) (pl as : C) | bmeth (m : Str) (pl as : C)
  | items (a : C) | keys (a : C) | vals (a : C) | revw (a : C)
  | setp (pl ix a : C) | setf (pl : C) (f : Str) (a : C) | retb (a : C)
  | skip | seq (a b : C) | expr (a : C) | aug (o : Bop) (i : Nat) (a : C) | set (tg : Tg) (a : C) | seti (i : Nat) (ix a : C)
  | ife (c a b : C) | for_ (tg : Tg) (it b : C) | while_ (c b : C)
  | ret (a : C) | retm (i : Nat) | raise (c : Nat) | brk | cont
  | try_ (b : C) (c : Nat) (as_ : Option Nat) (suite : C) (md : Nat)
  /-- two clauses, one name -/
  | try2 (b : C) (c1 : Nat) (s1 : C) (c2 : Nat) (s2 : C) (i : Nat)
  /-- a walk over the slot r's list, by reference: x is each of its things in turn -/
  | forr (x r : Nat) (b : C)
  /-- x = r[k]; the statement b, with x by reference; then c -/
  | lend (x r : Nat) (k b c : C)
  /-- the same statements, told in two ways: a where slot i is n -/
  | gif (i : Nat) (n : Int) (a b : C)
  /-- pl.pop(k) -/
  | mpop (pl k : C)
  /-- pl.update(a) -/
  | dupd (pl a : C)
  /-- x = r[k]; n statements b, with x by reference and a hole in r; then c -/
  | href (x r : Nat) (k : C) (n : Nat) (b c : C)
  /-- what stands at a place, frozen there -/
  | fzat (pl : C)
  /-- a call whose arguments are handed over -/
  | hcall (f : Nat) (as : C)
  /-- an exception as a value: its class, its fields' names (none: no __init__ of its own) -/
  | mkx (c : Str) (fs : List Str) (as : C)
  /-- whatever the text says: never reached -/
  | dead

inductive R (α : Type) where
  | ok (a : α) (e : Env) | ex (c : Nat) (h : Bool) (e : Env) | stuck
def R.bind {α β : Type} : R α → (α → Env → R β) → R β
  | .ok a e, f => f a e
  | .ex c h e, _ => .ex c h e
  | .stuck, _ => .stuck
inductive Out where
  | nx (e : Env) | rt (d : D) | rb (d : D) (e : Env) | bk (e : Env) | ct (e : Env) | ex (c : Nat) (h : Bool) (e : Env) | stuck
inductive CR where
  | ok (d : D) | ex (c : Nat) (h : Bool) | stuck
/-- .. of a def that may change its first argument: that one behind it, too -/
inductive BR where
  | ok (d d0 : D) | ex (c : Nat) (h : Bool) (d0 : D) | stuck
/-- a class: its name, its __init__, its methods -/
structure ClsR where
  nm : Str
  init : Option Nat
  ms : List (Str × Nat)
  flds : List Str

/-- the surroundings: calls, constants, subclasses (exception i is a j), a while's most turns -/
structure Par where
  cl : Nat → List D → CR
  /-- .. of a def that may change its first argument -/
  bc : Nat → List D → BR
  /-- a def that is called with the handled exception alone -/
  ch : Nat → Nat → CR
  /-- the handled exception's slot and class -/
  cur : Option (Nat × Nat)
  glo : Nat → Option D
  sub : Nat → Nat → Bool
  fuel : Nat
  cls : List ClsR

def mulOk (i j : Int) : Bool := (decide (-(2 ^ 64) < i) && decide (i < 2 ^ 64)) || (decide (-(2 ^ 64) < j) && decide (j < 2 ^ 64)) || decide (i.natAbs.log2 + j.natAbs.log2 < 1000000)
def divOk (j : Int) : Bool := decide (0 < j) && decide (j.natAbs.log2 < 9000)
def powOk (i j : Int) : Bool := decide (0 ≤ j) && decide (j ≤ 1000000) && decide (i.natAbs < 2 ^ 64)
def most : Nat := 100000

/-- a text, so many times -/
def repS (s : Str) (n : Nat) : Str := ⟨(List.replicate n s.cps).foldl (· ++ ·) #[]⟩
def binop : Bop → D → D → Option D
  | .add, .int i, .int j => some (.int (i + j))
  | .add, .str i, .str j => if i.length + j.length ≤ most then some (.str (i ++ j)) else none
  | .add, .lst _ xs, .lst _ ys => if xs.length + ys.length ≤ most then some (.lst true (xs ++ ys)) else none
  | .add, .tup xs, .tup ys => if xs.length + ys.length ≤ most then some (.tup (xs ++ ys)) else none
  | .sub, .int i, .int j => some (.int (i - j))
  | .mul, .int i, .int j => if mulOk i j then some (.int (i * j)) else none
  | .mul, .lst _ xs, .int j => if xs.length * j.toNat ≤ most ∧ -(2 ^ 62) ≤ j ∧ j < 2 ^ 62 then some (.lst true (List.replicate j.toNat xs).flatten) else none
  | .mul, .str s, .int j => if s.length ≤ 1000 ∧ 0 ≤ j ∧ j ≤ 1000 then some (.str (repS s j.toNat)) else none
  | .div, .int i, .int j => if divOk j then some (.int (i / j)) else none
  | .mod, .int i, .int j => if 0 < j then some (.int (i % j)) else none
  | .pow, .int i, .int j => if powOk i j then some (.int (i ^ j.toNat)) else none
  | _, _, _ => none

/-! ### dicts, attributes -/
def idxK {κ : Type} [DecidableEq κ] (ks : List κ) (k : κ) : Option Nat := ks.findIdx? fun x => decide (x = k)
def getK {κ : Type} [DecidableEq κ] (ks : List κ) (xs : List D) (k : κ) : Option D := (idxK ks k).bind (xs[·]?)
/-- its keys and values behind a store -/
def putD {κ : Type} [DecidableEq κ] (ks : List κ) (xs : List D) (k : κ) (d : D) : List κ × List D := match idxK ks k with
  | some j => (ks, xs.set j d)
  | none => (ks ++ [k], xs ++ [d])
/-- a dict's keys and values behind another one's -/
def mrgD {κ : Type} [DecidableEq κ] (ks : List κ) (xs : List D) : List κ → List D → List κ × List D
  | k :: ks2, d :: ds2 => mrgD (putD ks xs k d).1 (putD ks xs k d).2 ks2 ds2
  | _, _ => (ks, xs)
def keyD : D → Option L2.Key
  | .int i => some (.inl i)
  | .str s => some (.inr s)
  | _ => none
def keysD : List D → Option (List L2.Key)
  | [] => some []
  | x :: xs => (keyD x).bind fun k => (keysD xs).map (k :: ·)
/-- what a dict holds at a key -/
def dictD : D → D → Option (Option D)
  | .dct _ ks xs, y => (keyD y).map (getK ks xs)
  | .dtt _ ks xs, .tup ys => (keysD ys).map (getK ks xs)
  | _, _ => none
/-- a class of the table, an attribute that no class has -/
def fldOk (cls : List ClsR) (c f : Str) : Bool := match cls.find? fun r => decide (r.nm = c) with
  | some r => r.flds.contains f
  | none => false
def fldD (cls : List ClsR) : D → Str → Option D
  | .obj _ c fs xs, f => if fldOk cls c f then getK fs xs f else none
  | .exn _ fs xs, f => getK fs xs f
  | _, _ => none
mutual
/-- the data without flags, as the model reads it -/
def py : D → Option PyData
  | .non => some .none | .bl b => some (.bool b) | .int i => some (.int i) | .str s => some (.str s)
  | .tup xs => (pyL xs).map .tuple
  | .lst _ xs => (pyL xs).map .list
  | .dct _ _ _ => none | .dtt _ _ _ => none | .obj _ _ _ _ => none | .scr _ => none | .unk => none | .hole _ => none | .exn _ _ _ => none
def pyL : List D → Option (List PyData)
  | [] => some []
  | x :: xs => match py x, pyL xs with
    | some a, some r => some (a :: r)
    | _, _ => none
end
def flat : D → Bool
  | .non => true | .bl _ => true | .int _ => true | .str _ => true | _ => false
def flatEq : D → D → Bool
  | .non, .non => true
  | .bl a, .bl b => a == b | .int a, .int b => a == b | .str a, .str b => a == b
  | .bl a, .int b => (if a then 1 else 0) == b | .int a, .bl b => a == (if b then 1 else 0)
  | _, _ => false
/-- scalars that == tells apart at once -/
def scal : D → D → Option Bool
  | .non, .non => some true | .non, .int _ => some false | .int _, .non => some false | .non, .bl _ => some false | .bl _, .non => some false | .non, .str _ => some false | .str _, .non => some false
  | .int i, .int j => some (decide (i = j)) | .bl i, .bl j => some (decide (i = j)) | .str i, .str j => some (decide (i = j))
  | .int _, .str _ => some false | .str _, .int _ => some false | .bl _, .str _ => some false | .str _, .bl _ => some false
  | _, _ => none
def deq (x y : D) : Option Bool := match scal x y with
  | some b => some b
  | none => match py x, py y with
    | some a, some b => if SeqAt.shaped a && SeqAt.shaped b then some (PyData.eqv a b) else none
    | _, _ => none
/-- rows of numbers, by the first that differs -/
def ltI : List Int → List Int → Bool
  | [], ys => !ys.isEmpty
  | _ :: _, [] => false
  | x :: xs, y :: ys => if x = y then ltI xs ys else decide (x < y)
def intsD : List D → Option (List Int)
  | [] => some []
  | .int i :: xs => (intsD xs).map (i :: ·)
  | _ :: _ => none
def cmpop : Cop → D → D → Option Bool
  | .lt, .int i, .int j => some (decide (i < j))
  | .lt, .tup xs, .tup ys => match intsD xs, intsD ys with
    | some a, some b => some (ltI a b)
    | _, _ => none
  | .le, .int i, .int j => some (decide (i ≤ j))
  | .gt, .int i, .int j => some (decide (j < i))
  | .ge, .int i, .int j => some (decide (j ≤ i))
  | .eq, x, y => deq x y
  | .ne, x, y => (deq x y).map (!·)
  | .is, .unk, .non => none
  | .is, .hole _, .non => none
  | .isn, .unk, .non => none
  | .isn, .hole _, .non => none
  | .is, x, .non => some (match x with | .non => true | _ => false)
  | .isn, x, .non => some (match x with | .non => false | _ => true)
  | .is, .bl a, .bl b => some (decide (a = b))
  | .isn, .bl a, .bl b => some (!decide (a = b))
  | .in_, .str a, .str b => some (!(Builtin.Str.occurrences b a 0 b.length 1).isEmpty)
  | .nin, .str a, .str b => some (!(!(Builtin.Str.occurrences b a 0 b.length 1).isEmpty))
  | .in_, x, .lst _ ys => if flat x && ys.all flat then some (ys.any fun y => flatEq y x) else none
  | .nin, x, .lst _ ys => if flat x && ys.all flat then some (!(ys.any fun y => flatEq y x)) else none
  | .in_, x, .tup ys => if flat x && ys.all flat then some (ys.any fun y => flatEq y x) else none
  | .nin, x, .tup ys => if flat x && ys.all flat then some (!(ys.any fun y => flatEq y x)) else none
  | .in_, x, .dct _ ks xs => (keyD x).map fun k => (getK ks xs k).isSome
  | .nin, x, .dct _ ks xs => (keyD x).map fun k => !(getK ks xs k).isSome
  | .in_, .tup ys, .dtt _ ks xs => (keysD ys).map fun k => (getK ks xs k).isSome
  | .nin, .tup ys, .dtt _ ks xs => (keysD ys).map fun k => !(getK ks xs k).isSome
  | _, _, _ => none
/-- a value's truth -/
def truth : D → Option Bool
  | .bl b => some b
  | _ => none

def strsD : List D → Option (List Str)
  | [] => some []
  | .str s :: xs => (strsD xs).map (s :: ·)
  | _ :: _ => none
def sortI (ns : List Int) : List Int := ns.mergeSort (fun a b => decide (a ≤ b))
/-- texts by their signs -/
def leS (a b : Str) : Bool := !decide (b.cps.toList < a.cps.toList)
def sortT (xs : List Str) : List Str := xs.mergeSort leS
def bifD : Bi → List D → Option D
  | .len, [.lst _ xs] => some (.int xs.length)
  | .len, [.tup xs] => some (.int xs.length)
  | .len, [.scr xs] => some (.int xs.length)
  | .len, [.dct _ ks _] => some (.int ks.length)
  | .len, [.str s] => if s.length ≤ most then some (.int s.length) else none
  | .int, [.int i] => some (.int i)
  | .int, [.bl b] => some (.int (if b then 1 else 0))
  | .int, [.str s] => match PySem.intText? s with
    | some n => if s.length ≤ 640 then some (.int n) else none
    | none => none
  | .str, [.int i] => if i.natAbs.log2 < 1920 then some (.str (toString i)) else none
  | .max2, [.int i, .int j] => some (.int (if j > i then j else i))
  | .min2, [.int i, .int j] => some (.int (if j < i then j else i))
  | .sum, [.lst _ xs] => (intsD xs).map fun ns => .int ns.sum
  | .sum, [.tup xs] => (intsD xs).map fun ns => .int ns.sum
  | .tup, [.lst _ xs] => some (.tup xs)
  | .tup, [.tup xs] => some (.tup xs)
  | .lst, [.lst _ xs] => some (.lst true xs)
  | .lst, [.tup xs] => some (.lst true xs)
  | .dct, [.dct _ ks xs] => some (.dct true ks xs)
  | .sorted, [.lst _ xs] => match intsD xs with
    | some ns => some (.lst true ((sortI ns).map .int))
    | none => match strsD xs with
      | some ss => if ss.length < 64 then some (.lst true ((sortT ss).map .str)) else none
      | none => none
  | .abs, [.int i] => some (.int (if i < 0 then -i else i))
  | .dvm, [.int i, .int j] => if divOk j then some (.tup [.int (i / j), .int (i % j)]) else none
  | _, _ => none
def mthf : Mth → D → List D → Option D
  | .split, .str a, [.str b] => if (b.length == 0) = false ∧ a.length + 2 ≤ most then some (.lst true ((Txt.split a b).map .str)) else none
  | .find, .str a, [.str b] => some (.int (Txt.find a b))
  | .zfill, .str a, [.int i] => if PadOk i then some (.str (Txt.zfill a i)) else none
  | .join, .str a, [.lst _ xs] => match strsD xs with
    | some ys => if (ys.map (·.length)).sum + ys.length * a.length ≤ 16777216 then some (.str (Txt.join a ys)) else none
    | none => none
  | .isdigit, .str a, [] => some (.bl (Txt.isdigit a))
  | .upper, .str a, [] => if a.length ≤ 5592405 then some (.str (Txt.upper a)) else none
  | _, _, _ => none
def isTy : D → Ty → Option Bool
  | .exn c _ _, .xcl _ ys ns => if c ∈ ys then some true else if c ∈ ns then some false else none
  | .exn _ _ _, .verr => some true
  | .exn _ _ _, _ => none
  | _, .xcl _ _ _ => none
  | .non, .exc _ => none | .non, .verr => none | .non, _ => some false
  | .bl _, .int => some true | .bl _, .bool => some true | .bl _, .exc _ => none | .bl _, .verr => none | .bl _, _ => some false
  | .int _, .int => some true | .int _, .exc _ => none | .int _, .verr => none | .int _, _ => some false
  | .str _, .str => some true | .str _, .exc _ => none | .str _, .verr => none | .str _, _ => some false
  | .tup _, .tuple => some true | .tup _, .exc _ => none | .tup _, .verr => none | .tup _, _ => some false
  | .lst _ _, .list => some true | .lst _ _, .exc _ => none | .lst _ _, .verr => none | .lst _ _, _ => some false
  | .dct _ _ _, .dict => some true | .dct _ _ _, .exc _ => none | .dct _ _ _, .verr => none | .dct _ _ _, _ => some false
  | .dtt true _ _, .dict => some true | .dtt true _ _, .exc _ => none | .dtt true _ _, .verr => none | .dtt true _ _, _ => some false
  | .dtt false _ _, _ => none
  | .obj _ c _ _, .cls _ ys ns => if c ∈ ys then some true else if c ∈ ns then some false else none
  | .obj _ _ _ _, _ => none
  | .scr _, .list => some true | .scr _, .exc _ => none | .scr _, .verr => none | .scr _, _ => some false
  | .unk, _ => none
  | .hole _, _ => none
/-- isinstance tells of it -/
def tyable : D → Bool
  | .dtt m _ _ => m
  | .obj _ _ _ _ => false
  | .unk => false
  | .hole _ => false
  | .exn _ _ _ => false
  | _ => true
def isAny (d : D) : List Ty → Option Bool
  | [] => if tyable d then some false else none
  | t :: ts => match isTy d t with
    | some true => some true
    | some false => if ts.isEmpty then some false else isAny d ts
    | none => none
/-- .. of the handled exception, of class c -/
def isTyX (sub : Nat → Nat → Bool) (c : Nat) : Ty → Option Bool
  | .exc j => some (sub c j)
  | .verr => some true
  | _ => none
def isAnyX (sub : Nat → Nat → Bool) (c : Nat) : List Ty → Option Bool
  | [] => some false
  | t :: ts => match isTyX sub c t with
    | some true => some true
    | some false => isAnyX sub c ts
    | none => none

def opt (o : Option D) (e : Env) : R D := match o with
  | some d => .ok d e
  | none => .stuck
/-- the slot that an expression looks into -/
def root : C → Option Nat
  | .get i => some i
  | .idx a _ => root a
  | .fld a _ => root a
  | .dget a _ _ => root a
  | _ => none
/-- a choice lends nothing of a slot's -/
def cpb (p : Bool) (a : C) : Bool := p && (root a).isNone
def fz (e : Env) : Option Nat → Env
  | some i => e.modify i (Option.map frz)
  | none => e
/-- inner parts of an owned outside -/
def inLf : D → Bool
  | .lst _ xs => lfL xs
  | .tup xs => lfL xs
  | .dct _ _ xs => lfL xs
  | .dtt _ _ xs => lfL xs
  | .obj _ _ _ xs => lfL xs
  | _ => true
def frzIn : D → D
  | .lst m xs => .lst m (frzL xs)
  | .tup xs => .tup (frzL xs)
  | .dct m ks xs => .dct m ks (frzL xs)
  | .dtt m ks xs => .dtt m ks (frzL xs)
  | .obj m c fs xs => .obj m c fs (frzL xs)
  | d => d
/-- what is told of looked-at things: where its parts are owned by a slot, that slot is frozen -/
def shr (rs : List (Option Nat)) (d : D) (e : Env) : R D :=
  if inLf d then .ok d e else .ok (frzIn d) (rs.foldl fz e)
def roots : C → List (Option Nat)
  | .cons a as => root a :: roots as
  | _ => []
/-- a text, a list, a tuple at a place -/
def ixD : D → D → Option D
  | .lst _ xs, .int i => L2.atI xs i
  | .tup xs, .int i => L2.atI xs i
  | .scr xs, .int i => (L2.atI xs i).map .int
  | .str s, .int i => if s.length ≤ most then (L2.atI s.cps.toList i).map fun c => .str ⟨#[c]⟩ else none
  | x, y => (dictD x y).join
def cutD {α : Type} (xs : List α) (lo hi : Option Int) : List α := (xs.drop (HT.sIx xs.length 0 lo)).take (HT.sIx xs.length xs.length hi - HT.sIx xs.length 0 lo)
def slD : D → Option Int → Option Int → Option D
  | .lst _ xs, lo, hi => some (.lst true (cutD xs lo hi))
  | .tup xs, lo, hi => some (.tup (cutD xs lo hi))
  | .scr xs, lo, hi => some (.lst true ((cutD xs lo hi).map .int))
  | .str s, lo, hi => if s.length ≤ most then some (.str (L2.cutS s lo hi)) else none
  | _, _, _ => none
def isDct : D → Bool
  | .dct _ _ _ => true | .dtt _ _ _ => true
  | _ => false
/-! ### places -/
def kids : D → List D
  | .tup xs => xs | .lst _ xs => xs | .dct _ _ xs => xs | .dtt _ _ xs => xs | .obj _ _ _ xs => xs
  | _ => []
def withKids : D → List D → D
  | .tup _, ys => .tup ys | .lst m _, ys => .lst m ys | .dct m ks _, ys => .dct m ks ys | .dtt m ks _, ys => .dtt m ks ys | .obj m c fs _, ys => .obj m c fs ys
  | d, _ => d
/-- where a step leads: only owned things, and tuples, are gone through -/
def kidIx : Stp → D → Option Nat
  | .ix j, .tup _ => some j
  | .ix j, .lst true _ => some j
  | .key k, .dct true ks _ => idxK ks k
  | .keyt k, .dtt true ks _ => idxK ks k
  | .fld f, .obj true _ fs _ => idxK fs f
  | _, _ => none
def stepD (s : Stp) (d : D) : Option D := (kidIx s d).bind ((kids d)[·]?)
def atP : List Stp → D → Option D
  | [], d => some d
  | s :: p, d => (stepD s d).bind (atP p)
def setP : List Stp → D → D → D
  | [], x, _ => x
  | s :: p, x, d => match kidIx s d with
    | some j => (match (kids d)[j]? with
      | some c => withKids d ((kids d).set j (setP p x c))
      | none => d)
    | none => d
def plD (e : Env) (ip : Nat × List Stp) : Option D := match e[ip.1]? with
  | some (some d) => atP ip.2 d
  | _ => none
def setPl (e : Env) (ip : Nat × List Stp) (x : D) : Env := e.modify ip.1 (Option.map (setP ip.2 x))
/-- the step that a subscript takes -/
def stpOf : D → D → Option Stp
  | .tup xs, .int i => (L2.ixN xs.length i).map .ix
  | .lst true xs, .int i => (L2.ixN xs.length i).map .ix
  | .dct true ks _, y => (keyD y).bind fun k => if (idxK ks k).isSome then some (.key k) else none
  | .dtt true ks _, .tup ys => (keysD ys).bind fun k => if (idxK ks k).isSome then some (.keyt k) else none
  | _, _ => none
/-- lists, dicts, instances that may be changed -/
def isOwn : D → Bool
  | .lst m _ => m | .dct m _ _ => m | .dtt m _ _ => m | .obj m _ _ _ => m
  | _ => false
def mopF : Mop → D → List D → Option D
  | .app, .lst true ys, [x] => if ys.length < most then some (.lst true (ys ++ [x])) else none
  | .ins, .lst true ys, [.int i, x] => if ys.length < most ∧ 0 ≤ i ∧ i < 2 ^ 62 then some (.lst true (ys.take i.toNat ++ [x] ++ ys.drop i.toNat)) else none
  | .clear, .lst true _, [] => some (.lst true [])
  | .rev, .lst true ys, [] => some (.lst true ys.reverse)
  | .ext, .lst true ys, [.lst _ zs] => if ys.length + zs.length ≤ most then some (.lst true (ys ++ zs)) else none
  | _, _, _ => none
/-- pl[k] = d -/
def putF : D → D → D → Option D
  | .lst true xs, .int i, d => (L2.ixN xs.length i).map fun j => .lst true (xs.set j d)
  | .dct true ks xs, y, d => (keyD y).bind fun k => if ks.length < most then some (.dct true (putD ks xs k d).1 (putD ks xs k d).2) else none
  | .dtt true ks xs, .tup ys, d => (keysD ys).bind fun k => if ks.length < most then some (.dtt true (putD ks xs k d).1 (putD ks xs k d).2) else none
  | _, _, _ => none
def fldF (cls : List ClsR) : D → Str → D → Option D
  | .obj true c fs xs, f, d => if fldOk cls c f && decide (fs.length < 900) then some (.obj true c (putD fs xs f d).1 (putD fs xs f d).2) else none
  | _, _, _ => none
def mtOf (cls : List ClsR) (c m : Str) : Option Nat := (cls.find? fun r => decide (r.nm = c)).bind fun r => r.ms.lookup m
/-- a target's slots take a value -/
def put : Tg → D → Env → Option Env
  | .one i, d, e => if i < e.length then some (e.set i (some d)) else none
  | .many is, .tup ds, e => if ds.length = is.length ∧ is.all (· < e.length) then some ((is.zip ds).foldl (fun e p => e.set p.1 (some p.2)) e) else none
  | _, _, _ => none
def wipe (e : Env) (own : List Nat) : Env := own.foldl (fun e i => e.set i none) e

def rngL (lo : Int) (n : Nat) : List D := (List.range n).map fun (k : Nat) => .int (lo + ((k : Nat) : Int))
def smallI (i : Int) : Bool := decide (-(2 ^ 62) ≤ i) && decide (i < 2 ^ 62)
/-- what is walked; ms: owned things may be changed meanwhile -/
def walkOf (ms : Bool) (c : C) (d : D) (e : Env) : R (List D) := match d with
  | .lst _ xs => if lfL xs && !ms then .ok xs e else .ok (frzL xs) (fz e (root c))
  | .tup xs => if lfL xs then .ok xs e else .ok (frzL xs) (fz e (root c))
  | .str s => .ok (s.cps.toList.map fun c => .str ⟨#[c]⟩) e
  | .scr ns => .ok (ns.map .int) e
  | _ => .stuck

def loopI (b : D → Env → Out) : List D → Env → Out
  | [], e => .nx e
  | d :: ds, e => match b d e with
    | .nx e' => loopI b ds e'
    | .ct e' => loopI b ds e'
    | .bk e' => .nx e'
    | o => o
def loopW (c : Env → R Bool) (b : Env → Out) : Nat → Env → Out
  | 0, _ => .stuck
  | n + 1, e => match c e with
    | .ok true e1 => (match b e1 with
      | .nx e' => loopW c b n e'
      | .ct e' => loopW c b n e'
      | .bk e' => .nx e'
      | o => o)
    | .ok false e1 => .nx e1
    | .ex c h e1 => .ex c h e1
    | .stuck => .stuck
/-- a comprehension's turns: f tells whether an item is kept, and what it becomes -/
def loopC (f : D → Env → R (Option D)) : List D → List D → Env → R (List D)
  | [], acc, e => .ok acc e
  | d :: ds, acc, e => match f d e with
    | .ok (some x) e' => if acc.length < most then loopC f ds (acc ++ [x]) e' else .stuck
    | .ok none e' => loopC f ds acc e'
    | _ => .stuck
def zipD : List D → List D → List D
  | x :: xs, y :: ys => .tup [x, y] :: zipD xs ys
  | _, _ => []
def enumD (n : Nat) : List D → List D
  | x :: xs => .tup [.int (n : Nat), x] :: enumD (n + 1) xs
  | [] => []

/-! ### what may change owned cells -/
def mu : C → Bool
  | .bin _ a b => mu a || mu b
  | .neg a => mu a
  | .cmp _ a b => mu a || mu b
  | .chain _ _ a b c => mu a || mu b || mu c
  | .nt a => mu a
  | .and a b => mu a || mu b
  | .or a b => mu a || mu b
  | .tup a => mu a | .lst a => mu a
  | .cons a b => mu a || mu b
  | .idx a b => mu a || mu b
  | .slc a b c => mu a || mu b || mu c
  | .rev a => mu a
  | .bi _ a => mu a
  | .isi a _ _ => mu a
  | .call _ a => mu a
  | .scall _ a => mu a
  | .try2 _ _ _ _ _ _ => true | .forr _ _ _ => true | .lend _ _ _ _ _ => true | .href _ _ _ _ _ _ => true | .fzat pl => mu pl | .hcall _ _ => true | .mkx _ _ as => mu as | .gif _ _ a b => mu a || mu b | .mpop _ _ => true | .dupd _ _ => true
  | .mv pl => mu pl
  | .mth _ a b => mu a || mu b
  | .lc _ _ _ it _ => mu it
  | .rng1 a => mu a
  | .rng2 a b => mu a || mu b
  | .zip a b => mu a || mu b
  | .enum a => mu a
  | .cond a b c => mu a || mu b || mu c
  | .app _ _ => true | .clear _ => true | .popat _ _ => true
  | .fld a _ => mu a | .mk _ as => mu as | .mcall _ o as => mu o || mu as | .lset a => mu a | .dget a b o => mu a || mu b || mu o
  | .mop _ _ _ => true | .bcall _ _ _ => true | .bmeth _ _ _ => true | .items a => mu a | .keys a => mu a | .vals a => mu a | .revw a => mu a
  | .setp _ _ _ => true | .setf _ _ _ => true | .retb a => mu a
  | .seq a b => mu a || mu b | .expr a => mu a | .aug _ _ a => mu a | .set _ a => mu a | .seti _ _ _ => true | .ife a b c => mu a || mu b || mu c
  | .for_ _ a b => mu a || mu b | .while_ a b => mu a || mu b | .ret a => mu a | .try_ a _ _ b _ => mu a || mu b
  | _ => false

/-- what is looked at by a def that may keep it: where its parts are owned by a slot, that slot is frozen -/
def lend (rs : List (Option Nat)) (xs : List D) (e : Env) : Env := if lfL xs then e else rs.foldl fz e
/-- a def is called that may change what stands at a place -/
def bcR (bc : Nat → List D → BR) (f : Nat) (rs : List (Option Nat)) (ip : Nat × List Stp) (xs : List D) (e : Env) : R D := match plD (lend rs xs e) ip with
  | some d => if isOwn d then (match bc f (d :: frzL xs) with
    | .ok r d' => .ok r (setPl (lend rs xs e) ip d')
    | .ex c h d' => .ex c h (setPl (lend rs xs e) ip d')
    | .stuck => .stuck) else .stuck
  | none => .stuck
mutual
def ev (P : Par) : C → Bool → Env → R D
  | .non, _, e => .ok .non e
  | .bl b, _, e => .ok (.bl b) e
  | .int i, _, e => .ok (.int i) e
  | .str s, _, e => .ok (.str s) e
  | .get i, p, e => match e[i]? with
    | some (some d) => if p then .ok d e else .ok (frz d) (fz e (some i))
    | _ => .stuck
  | .glo g, _, e => opt (P.glo g) e
  | .bin o a b, _, e => (ev P a true e).bind fun x e1 => (ev P b true e1).bind fun y e2 => match binop o x y with
    | some d => shr [root a, root b] d e2
    | none => .stuck
  | .neg a, _, e => (ev P a true e).bind fun x e1 => match x with
    | .int i => .ok (.int (-i)) e1
    | _ => .stuck
  | .cmp o a b, _, e => (ev P a true e).bind fun x e1 => (ev P b true e1).bind fun y e2 => opt ((cmpop o x y).map .bl) e2
  | .chain o o' a b c, _, e => (ev P a true e).bind fun x e1 => (ev P b true e1).bind fun y e2 => match cmpop o x y with
    | some true => (ev P c true e2).bind fun z e3 => opt ((cmpop o' y z).map .bl) e3
    | some false => .ok (.bl false) e2
    | none => .stuck
  | .nt a, _, e => (ev P a true e).bind fun x e1 => match x with
    | .bl b => .ok (.bl (!b)) e1
    | _ => .stuck
  | .and a b, _, e => (ev P a true e).bind fun x e1 => match x with
    | .bl true => (ev P b true e1).bind fun y e2 => match y with
      | .bl c => .ok (.bl c) e2
      | _ => .stuck
    | .bl false => .ok (.bl false) e1
    | _ => .stuck
  | .or a b, _, e => (ev P a true e).bind fun x e1 => match x with
    | .bl true => .ok (.bl true) e1
    | .bl false => (ev P b true e1).bind fun y e2 => match y with
      | .bl c => .ok (.bl c) e2
      | _ => .stuck
    | _ => .stuck
  | .tup as, _, e => (evA P as false e).bind fun xs e1 => .ok (.tup xs) e1
  | .lst as, _, e => (evA P as false e).bind fun xs e1 => .ok (.lst true xs) e1
  | .idx a b, p, e => (ev P a true e).bind fun x e1 => (ev P b true e1).bind fun y e2 => match ixD x y with
    | some d => if p || lf d then .ok d e2 else .ok (frz d) (fz e2 (root a))
    | none => .stuck
  | .slc a lo hi, _, e => (ev P a true e).bind fun x e1 => (evP P lo e1).bind fun l e2 => (evP P hi e2).bind fun h e3 => match slD x l h with
    | some d => shr [root a] d e3
    | none => .stuck
  | .rev a, _, e => (ev P a true e).bind fun x e1 => match x with
    | .lst _ xs => shr [root a] (.lst true xs.reverse) e1
    | _ => .stuck
  | .bi f as, _, e => (evA P as true e).bind fun xs e1 => match bifD f xs with
    | some d => shr (roots as) d e1
    | none => .stuck
  | .isi a ts _, _, e => (ev P a true e).bind fun x e1 => opt ((isAny x ts).map .bl) e1
  | .isx ts _, _, e => match P.cur with
    | some c => opt ((isAnyX P.sub c.2 ts).map .bl) e
    | none => .stuck
  | .scall f as, _, e => (evA P as true e).bind fun xs e1 => match P.cl f (frzL xs) with
    | .ok d => if sepB d xs then .ok d e1 else .stuck
    | .ex c h => .ex c h e1
    | .stuck => .stuck
  | .callx f, _, e => match P.cur with
    | some c => (match P.ch f c.2 with
      | .ok d => if ff d then .ok d e else .stuck
      | _ => .stuck)
    | none => .stuck
  | .cond c a b, p, e => (evT P c e).bind fun t e1 => if t then ev P a (cpb p a) e1 else ev P b (cpb p b) e1
  | .call f as, _, e => (evA P as true e).bind fun xs e1 => match P.cl f (frzL xs) with
    | .ok d => if ff d then .ok d e1 else .ok d ((roots as).foldl fz e1)
    | .ex c h => .ex c h e1
    | .stuck => .stuck
  | .mth m o as, _, e => (ev P o true e).bind fun x e1 => match x with
    | .str _ => (evA P as true e1).bind fun xs e2 => opt (mthf m x xs) e2
    | _ => .stuck
  | .lc elt own tg it cond, _, e => (evI P false it e).bind fun ds e1 => (loopC (fun d e2 => match put tg d (wipe e2 own) with
        | some e3 => (evT P cond e3).bind fun b e4 => if b then (ev P elt false e4).bind fun x e5 => .ok (some x) e5 else .ok none e4
        | none => .stuck) ds [] e1).bind fun xs e6 => .ok (.lst true xs) (wipe e6 own)
  | .app i a, _, e => match e[i]? with
    | some (some (.lst _ _)) => (ev P a false e).bind fun d e1 => (match e1[i]? with
      | some (some (.lst true xs)) => if xs.length < most then .ok .non (e1.set i (some (.lst true (xs ++ [d])))) else .stuck
      | _ => .stuck)
    | _ => .stuck
  | .clear i, _, e => match e[i]? with
    | some (some (.lst true _)) => .ok .non (e.set i (some (.lst true [])))
    | _ => .stuck
  | .popat i a, _, e => match e[i]? with
    | some (some (.lst _ _)) => (ev P a true e).bind fun d e1 => (match e1[i]?, d with
      | some (some (.lst true xs)), .int k => if smallI k then (match seqIndex? k xs.length with
        | some j => (match xs[j]? with
          | some x => .ok x (e1.set i (some (.lst true (xs.eraseIdx j))))
          | none => .stuck)
        | none => .stuck) else .stuck
      | _, _ => .stuck)
    | _ => .stuck
  | .lset a, _, e => (ev P a true e).bind fun x e1 => match x with
    | .lst _ xs => (match strsD xs with
      | some ss => if ss.length ≤ 3000 then .ok (.int (setLen ss)) e1 else .stuck
      | none => .stuck)
    | _ => .stuck
  | .dnew, _, e => .ok (.dct true [] []) e
  | .dnewT, _, e => .ok (.dtt true [] []) e
  | .fld a f, p, e => (ev P a true e).bind fun x e1 => match fldD P.cls x f with
    | some d => if p || lf d then .ok d e1 else .ok (frz d) (fz e1 (root a))
    | none => .stuck
  | .mk c as, _, e => (evA P as true e).bind fun xs e1 => match P.cls[c]? with
    | some r => (match r.init with
      | some f => (match P.bc f (.obj true r.nm [] [] :: frzL xs) with
        | .ok .non d => if ff d then .ok d e1 else .ok d ((roots as).foldl fz e1)
        | .ex c h _ => .ex c h e1
        | _ => .stuck)
      | none => if xs.isEmpty then .ok (.obj true r.nm [] []) e1 else .stuck)
    | none => .stuck
  | .mcall m o as, _, e => (ev P o true e).bind fun x e1 => match x with
    | .obj _ c fs _ => (match mtOf P.cls c m with
      | some f => if m ∈ fs then .stuck else (evA P as true e1).bind fun xs e2 => (match P.cl f (frzL (x :: xs)) with
        | .ok d => if ff d then .ok d e2 else .ok d ((root o :: roots as).foldl fz e2)
        | .ex c h => .ex c h e2
        | .stuck => .stuck)
      | none => .stuck)
    | _ => .stuck
  | .dget a b o, p, e => (ev P a true e).bind fun x e1 => if isDct x then ((ev P b true e1).bind fun y e2 => (evA P o true e2).bind fun zs e3 => match dictD x y, zs with
    | some v, [] => (match v with
      | some d => if p || lf d then .ok d e3 else .ok (frz d) (fz e3 (root a))
      | none => .ok .non e3)
    | some v, [z] => (match v with
      | some d => if lf d && lf z then .ok d e3 else .stuck
      | none => if lf z then .ok z e3 else .stuck)
    | _, _ => .stuck) else .stuck
  | .mop o pl as, _, e => (evPl P pl e).bind fun ip e1 => match plD e1 ip with
    | some (.lst _ _) => (evA P as false e1).bind fun xs e2 => (match (plD e2 ip).bind fun d => mopF o d xs with
      | some d => .ok .non (setPl e2 ip d)
      | none => .stuck)
    | _ => .stuck
  | .dupd pl a, _, e => (evPl P pl e).bind fun ip e1 => match plD e1 ip with
    | some (.dct true _ _) => (ev P a false e1).bind fun d e2 => (match plD e2 ip, d with
      | some (.dct true ks xs), .dct _ ks2 xs2 => if lfL xs2 = true ∧ ks.length + ks2.length < most then .ok .non (setPl e2 ip (.dct true (mrgD ks xs ks2 xs2).1 (mrgD ks xs ks2 xs2).2)) else .stuck
      | _, _ => .stuck)
    | _ => .stuck
  | .mpop pl a, _, e => (evPl P pl e).bind fun ip e1 => match plD e1 ip with
    | some (.lst _ _) => (ev P a true e1).bind fun d e2 => (match plD e2 ip, d with
      | some (.lst true xs), .int k => if smallI k then (match seqIndex? k xs.length with
        | some j => (match xs[j]? with
          | some x => .ok x (setPl e2 ip (.lst true (xs.eraseIdx j)))
          | none => .stuck)
        | none => .stuck) else .stuck
      | _, _ => .stuck)
    | _ => .stuck
  | .hcall f as, _, e => (evA P as false e).bind fun xs e1 => match P.cl f xs with
    | .ok d => .ok d e1
    | .ex c h => .ex c h e1
    | .stuck => .stuck
  | .mkx c fs as, _, e => (evA P as true e).bind fun xs e1 => if lfL xs = true then (match fs with
      | [] => (match xs with
        | [_] => .ok (.exn c [] []) e1
        | _ => .stuck)
      | f :: fs => if (f :: fs).length = xs.length then .ok (.exn c (f :: fs).reverse xs.reverse) e1 else .stuck) else .stuck
  | .fzat pl, _, e => (evPl P pl e).bind fun ip e1 => match plD e1 ip with
    | some d => .ok (frz d) (setPl e1 ip (frz d))
    | none => .stuck
  | .mv pl, _, e => (evPl P pl e).bind fun ip e1 => match plD e1 ip with
    | some d => .ok d (setPl e1 ip .unk)
    | none => .stuck
  | .bcall f pl as, _, e => (evPl P pl e).bind fun ip e1 => (evA P as true e1).bind fun xs e2 => bcR P.bc f (roots as) ip xs e2
  | .bmeth m pl as, _, e => (evPl P pl e).bind fun ip e1 => match plD e1 ip with
    | some (.obj true c fs _) => (match mtOf P.cls c m with
      | some f => if m ∈ fs then .stuck else (evA P as true e1).bind fun xs e2 => bcR P.bc f (roots as) ip xs e2
      | none => .stuck)
    | _ => .stuck
  | _, _, _ => .stuck
/-- arguments, from the left; looked at (true) or handed over (false) -/
def evA (P : Par) : C → Bool → Env → R (List D)
  | .nil, _, e => .ok [] e
  | .cons a as, p, e => (ev P a p e).bind fun x e1 => (evA P as p e1).bind fun xs e2 => .ok (x :: xs) e2
  | _, _, _ => .stuck
/-- a slice's part -/
def evP (P : Par) : C → Env → R (Option Int)
  | .nil, e => .ok none e
  | .cons a .nil, e => (ev P a true e).bind fun x e1 => match x with
    | .int i => .ok (some i) e1
    | _ => .stuck
  | _, _ => .stuck
/-- a test -/
def evT (P : Par) : C → Env → R Bool
  | .skip, e => .ok true e
  | .cons a .nil, e => (ev P a true e).bind fun x e1 => match truth x with
    | some b => .ok b e1
    | none => .stuck
  | _, _ => .stuck
/-- the items of a walk -/
def evI (P : Par) (ms : Bool) : C → Env → R (List D)
  | .rng1 a, e => (ev P a true e).bind fun x e1 => match x with
    | .int n => if smallI n then .ok (rngL 0 n.toNat) e1 else .stuck
    | _ => .stuck
  | .rng2 a b, e => (ev P a true e).bind fun x e1 => (ev P b true e1).bind fun y e2 => match x, y with
    | .int i, .int j => if smallI i && smallI j then .ok (rngL i (j - i).toNat) e2 else .stuck
    | _, _ => .stuck
  | .zip a b, e => (ev P a true e).bind fun x e1 => (ev P b true e1).bind fun y e2 => match x, y with
    | .lst _ xs, .lst _ ys => if lfL xs && lfL ys && !ms then .ok (zipD xs ys) e2 else .ok (zipD (frzL xs) (frzL ys)) (fz (fz e2 (root a)) (root b))
    | .tup xs, .tup ys => if lfL xs && lfL ys then .ok (zipD xs ys) e2 else .ok (zipD (frzL xs) (frzL ys)) (fz (fz e2 (root a)) (root b))
    | _, _ => .stuck
  | .enum a, e => (ev P a true e).bind fun x e1 => match x with
    | .lst _ xs => if lfL xs && !ms then .ok (enumD 0 xs) e1 else .ok (enumD 0 (frzL xs)) (fz e1 (root a))
    | _ => .stuck
  | .revw a, e => (ev P a true e).bind fun x e1 => match x with
    | .lst _ xs => if lfL xs && !ms then .ok xs.reverse e1 else .ok (frzL xs).reverse (fz e1 (root a))
    | _ => .stuck
  | .cons a .nil, e => (ev P a true e).bind fun x e1 => walkOf ms a x e1
  | _, _ => .stuck
/-- a place: its slot, the steps from there -/
def evPl (P : Par) : C → Env → R (Nat × List Stp)
  | .get i, e => (match e[i]? with
    | some (some _) => .ok (i, []) e
    | _ => .stuck)
  | .fld a f, e => (evPl P a e).bind fun ip e1 => match plD e1 ip with
    | some (.obj true c fs _) => if fldOk P.cls c f && (idxK fs f).isSome then .ok (ip.1, ip.2 ++ [.fld f]) e1 else .stuck
    | _ => .stuck
  | .idx a b, e => (evPl P a e).bind fun ip e1 => (ev P b true e1).bind fun k e2 => match (plD e2 ip).bind fun d => stpOf d k with
    | some s => .ok (ip.1, ip.2 ++ [s]) e2
    | none => .stuck
  | _, _ => .stuck
end

def ofR {α : Type} : R α → (α → Env → Out) → Out
  | .ok a e, f => f a e
  | .ex c h e, _ => .ex c h e
  | .stuck, _ => .stuck
/-- a walk by reference: done, to do -/
def loopR (x r : Nat) (f : Env → Out) : List D → List D → Env → Out
  | done, [], e => .nx ((e.set x none).set r (some (.lst true done)))
  | done, d :: ds, e => match f (e.set x (some d)) with
    | .nx e1 => (match e1[x]?, e1[r]? with
      | some (some d1), some none => loopR x r f (done ++ [d1]) ds (e1.set x none)
      | _, _ => .stuck)
    | .ct e1 => (match e1[x]?, e1[r]? with
      | some (some d1), some none => loopR x r f (done ++ [d1]) ds (e1.set x none)
      | _, _ => .stuck)
    | _ => .stuck
/-- what a suite with a name leaves -/
def suiteR (i : Nat) : Out → Out
  | .nx e2 => .nx (e2.set i none)
  | .bk e2 => .bk (e2.set i none)
  | .ct e2 => .ct (e2.set i none)
  | .ex _ _ _ => .stuck
  | o => o
/-- statements; hot: within an except suite -/
def run : Par → C → Bool → Env → Out
  | P, .skip, _, e => .nx e
  | P, .seq a b, h, e => match run P a h e with
    | .nx e1 => run P b h e1
    | o => o
  | P, .expr a, _, e => ofR (ev P a false e) fun _ e1 => .nx e1
  | P, .set tg a, _, e => ofR (ev P a false e) fun d e1 => match put tg d e1 with
    | some e2 => .nx e2
    | none => .stuck
  | P, .aug o i a, _, e => match e[i]? with
    | some (some (.int x)) => ofR (ev P a true e) fun d e1 => (match d with
      | .int y => (match o with
        | .add => .nx (e1.set i (some (.int (x + y))))
        | .sub => .nx (e1.set i (some (.int (x - y))))
        | _ => .stuck)
      | _ => .stuck)
    | _ => .stuck
  | P, .seti i ix a, _, e => ofR (ev P a false e) fun d e1 => match e1[i]? with
    | some (some _) => ofR (ev P ix true e1) fun k e2 => (match e2[i]?, k with
      | some (some (.lst true xs)), .int k => (match L2.ixN xs.length k with
        | some j => .nx (e2.set i (some (.lst true (xs.set j d))))
        | none => .stuck)
      | _, _ => .stuck)
    | _ => .stuck
  | P, .ife c a b, h, e => ofR (evT P c e) fun t e1 => if t then run P a h e1 else run P b h e1
  | P, .for_ tg it b, h, e => ofR (evI P (mu b) it e) fun ds e1 => loopI (fun d e2 => match put tg d e2 with
      | some e3 => run P b h e3
      | none => .stuck) ds e1
  | P, .while_ c b, h, e => loopW (evT P c) (run P b h) P.fuel e
  | P, .ret a, _, e => ofR (ev P a false e) fun d _ => .rt d
  | P, .retm i, _, e => match e[i]? with
    | some (some d) => .rt d
    | _ => .stuck
  | P, .setp pl ix a, _, e => ofR (ev P a false e) fun d e1 => ofR (evPl P pl e1) fun ip e2 => ofR (ev P ix true e2) fun k e3 => match (plD e3 ip).bind fun c => putF c k d with
    | some c => .nx (setPl e3 ip c)
    | none => .stuck
  | P, .setf pl f a, _, e => ofR (ev P a false e) fun d e1 => ofR (evPl P pl e1) fun ip e2 => match (plD e2 ip).bind fun c => fldF P.cls c f d with
    | some c => .nx (setPl e2 ip c)
    | none => .stuck
  | P, .retb a, _, e => ofR (ev P a false e) fun d e1 => .rb d e1
  | P, .raise c, h, e => .ex c h e
  | P, .brk, _, e => .bk e
  | P, .cont, _, e => .ct e
  | P, .try_ b c as_ s md, h, e => match run P b h e with
    | .ex c' h' e1 => if P.sub c' c then (if md != 0 && h' then .stuck else (match as_ with
        | some i => if i < e1.length then (match run { P with cur := some (i, c') } s true (e1.set i none) with
          | .nx e2 => .nx (e2.set i none)
          | .bk e2 => .bk (e2.set i none)
          | .ct e2 => .ct (e2.set i none)
          | .ex _ _ _ => .stuck
          | o => o) else .stuck
        | none => (match run { P with cur := none } s true e1 with
          | .ex c2 h2 e2 => if md == 2 then .ex c2 h2 e2 else .stuck
          | o => o))) else (if md == 1 then (if h' then .stuck else .ex c' false e1) else .ex c' true e1)
    | o => o
  | P, .try2 b c1 s1 c2 s2 i, h, e => match run P b h e with
    | .ex c' h' e1 => if P.sub c' c1 then (if i < e1.length then suiteR i (run { P with cur := some (i, c') } s1 true (e1.set i none)) else .stuck)
        else if P.sub c' c2 then (if i < e1.length then suiteR i (run { P with cur := some (i, c') } s2 true (e1.set i none)) else .stuck)
        else .ex c' true e1
    | o => o
  | P, .forr x r b, h, e => match e[r]? with
    | some (some (.lst true ds)) => if x ≠ r ∧ x < e.length then loopR x r (fun e2 => run P b h e2) [] ds (e.set r none) else .stuck
    | _ => .stuck
  | P, .lend x r k b c, h, e => ofR (evPl P (.idx (.get r) k) e) fun ip e1 => match e1[r]?, ip.2 with
    | some (some (.lst true ds)), [.ix j] => (match ds[j]? with
      | some d => if ip.1 = r ∧ x ≠ r ∧ x < e1.length then (match run P b h ((e1.set r none).set x (some d)) with
        | .nx e2 => (match e2[x]?, e2[r]? with
          | some (some d1), some none => run P c h ((e2.set x none).set r (some (.lst true (ds.set j d1))))
          | _, _ => .stuck)
        | _ => .stuck) else .stuck
      | none => .stuck)
    | _, _ => .stuck
  | P, .href x r k _ b c, h, e => ofR (evPl P (.idx (.get r) k) e) fun ip e1 => match e1[r]?, ip.2 with
    | some (some (.lst true ds)), [.ix j] => (match ds[j]? with
      | some d => if ip.1 = r ∧ x ≠ r ∧ x < e1.length then (match run P b h ((setPl e1 ip (.hole x)).set x (some d)) with
        | .nx e2 => (match e2[x]?, plD e2 ip with
          | some (some d1), some (.hole i) => if i = x ∧ nohE x (setPl (e2.set x none) ip d1) = true then run P c h (setPl (e2.set x none) ip d1) else .stuck
          | _, _ => .stuck)
        | _ => .stuck) else .stuck
      | none => .stuck)
    | _, _ => .stuck
  | P, .gif i n a b, h, e => match e[i]? with
    | some (some (.int m)) => if m = n then run P a h e else run P b h e
    | _ => .stuck
  | _, _, _, _ => .stuck

/-- a def: how many parameters, how many slots, its body; raises with a context (late); may be called in a suite (hot) -/
structure Fn where
  ps : Nat
  ns : Nat
  body : C
  late : Bool := false
  /-- may change its first argument -/
  br : Bool := false
def startE (n : Nat) (ds : List D) : Env := ds.map some ++ List.replicate (n - ds.length) none
def outC (late : Bool) : Out → CR
  | .nx _ => .ok .non
  | .rt d => .ok d
  | .ex c h _ => if late then .ex c true else if h then .stuck else .ex c false
  | _ => .stuck
def outB (late : Bool) : Out → BR
  | .nx e => (match e[0]? with
    | some (some d) => .ok .non d
    | _ => .stuck)
  | .rb r e => (match e[0]? with
    | some (some d) => .ok r d
    | _ => .stuck)
  | .ex c h e => (match e[0]? with
    | some (some d) => if late then .ex c true d else if h then .stuck else .ex c false d
    | _ => .stuck)
  | _ => .stuck
structure Prg where
  fns : List Fn
  glo : Nat → Option D
  sub : Nat → Nat → Bool
  fuel : Nat
  cls : List ClsR := []
mutual
/-- k: how deep; hot: the handled exception's class, of which the def is told alone -/
def callG (G : Prg) : Nat → Nat → Option Nat → List D → CR
  | 0, _, _, _ => .stuck
  | k + 1, f, hot, ds => match G.fns[f]? with
    | some fn => (match hot with
      | none => if ds.length = fn.ps ∧ fn.br = false then outC fn.late (run ⟨fun g xs => callG G k g none xs, callB G k, fun g c => callG G k g (some c) [], none, G.glo, G.sub, G.fuel, G.cls⟩ fn.body false (startE fn.ns ds)) else .stuck
      | some c => if fn.ps = 1 then (match run ⟨fun _ _ => .stuck, fun _ _ => .stuck, fun g c => callG G k g (some c) [], some (0, c), G.glo, G.sub, G.fuel, G.cls⟩ fn.body true (startE fn.ns []) with
        | .rt d => .ok d
        | _ => .stuck) else .stuck)
    | none => .stuck
def callB (G : Prg) : Nat → Nat → List D → BR
  | 0, _, _ => .stuck
  | k + 1, f, ds => match G.fns[f]? with
    | some fn => if ds.length = fn.ps ∧ fn.br = true then outB fn.late (run ⟨fun g xs => callG G k g none xs, callB G k, fun g c => callG G k g (some c) [], none, G.glo, G.sub, G.fuel, G.cls⟩ fn.body false (startE fn.ns ds)) else .stuck
    | none => .stuck
end
def callF (G : Prg) (k f : Nat) (ds : List D) : CR := callG G k f none ds
def callX (G : Prg) (k f : Nat) (c : Nat) : CR := callG G k f (some c) []
def par (G : Prg) (k : Nat) : Par := ⟨callF G k, callB G k, callX G k, none, G.glo, G.sub, G.fuel, G.cls⟩
end VI
set_option maxRecDepth 100000
/-! VX: exceptions as values: what stands in the heap. -/
namespace VI
open PySem PySem.Spec PyProof.Rows L2

/-- what the written part says of the class named c: its instances bear the attributes fs -/
structure XnS (K : PySem.W.Frag) (c : Str) (fs : List Str) : Prop where
  ec : ExcC K (He.ga K c)
  na : ∀ f ∈ fs, PySem.W.findIn K (.ref (He.ga K c)) f = some none
  ve : PySem.W.kitOne K (.ref (He.ga K c)) (.type "ValueError") = some true
/-- such an exception at a: without attributes, or its dict beside it -/
def XnH (K : PySem.W.Frag) (H : Hp) (a : Addr) (c : Str) (fvs : List (Str × V)) : Prop :=
  (fvs = [] ∧ H a = some (ExO (.ref (He.ga K c)) a)) ∨ ∃ dx : Addr, H a = some (exo a (He.ga K c) (some dx)) ∧ H dx = some (exd dx fvs)
end VI
set_option maxRecDepth 100000
set_option maxHeartbeats 4000000
/-! VS1: how many unlike texts a list holds: its set; texts in order. -/
namespace VI
open PySem PySem.Spec PyProof.Rows L2
/-! ### unlike texts -/
def ded {α : Type} [DecidableEq α] (xs : List α) : List α := xs.foldl (fun acc x => if x ∈ acc then acc else acc ++ [x]) []
theorem setLen_ded {α : Type} [DecidableEq α] {xs : List α} : setLen xs = (ded xs).length := rfl
theorem ded_snoc {α : Type} [DecidableEq α] {xs : List α} {x : α} : ded (xs ++ [x]) = if x ∈ ded xs then ded xs else ded xs ++ [x] := by
  unfold ded
  rw [List.foldl_append]; rfl
theorem mem_ded' {α : Type} [DecidableEq α] {y : α} : ∀ (xs acc : List α), y ∈ xs.foldl (fun acc x => if x ∈ acc then acc else acc ++ [x]) acc ↔ y ∈ acc ∨ y ∈ xs
  | [], acc => by simp
  | x :: xs, acc => by
    rw [List.foldl_cons, mem_ded' xs]
    by_cases h : x ∈ acc
    · rw [if_pos h]
      constructor
      · rintro (a | a)
        · exact .inl a
        · exact .inr (List.mem_cons_of_mem _ a)
      · rintro (a | a)
        · exact .inl a
        · rcases List.mem_cons.mp a with rfl | a
          · exact .inl h
          · exact .inr a
    · rw [if_neg h]
      simp only [List.mem_append, List.mem_cons, List.not_mem_nil, or_false, or_assoc]
theorem mem_ded {α : Type} [DecidableEq α] {xs : List α} {y : α} : y ∈ ded xs ↔ y ∈ xs := by
  unfold ded
  rw [mem_ded']; simp
theorem ded_le {α : Type} [DecidableEq α] : ∀ (xs acc : List α), (xs.foldl (fun acc x => if x ∈ acc then acc else acc ++ [x]) acc).length ≤ acc.length + xs.length
  | [], acc => by simp
  | x :: xs, acc => by
    rw [List.foldl_cons]
    have := ded_le xs (if x ∈ acc then acc else acc ++ [x])
    have h : (if x ∈ acc then acc else acc ++ [x]).length ≤ acc.length + 1 := by split <;> simp
    simp only [List.length_cons]; omega
theorem setLen_le {α : Type} [DecidableEq α] {xs : List α} : setLen xs ≤ xs.length := by
  have := ded_le xs ([] : List α)
  unfold setLen
  simpa using this
/-! ### the set of a list of texts -/
section
variable {prog : Program} {w : World} {A : Around} {R : Result → Shared → Prop} {I : Addr} {fp wr : List Addr} {G : Array GenState → Array GenState → Prop} {n : Nat} {P : Nat → Value → Prop} {St : Nat → Shared → Prop}
abbrev TSet (prog : Program) (w : World) (h : Heap) (S : Addr) (ys : List Str) : Prop := h.SetOf (PySem.strKind prog w) S (fun z => decide (z ∈ ys)) (setLen ys)
theorem getD_at {α : Type} {d : α} {l : List α} {i : Nat} (h : i < l.length) : l.getD i d = l[i] := by
  rw [List.getD_eq_getElem?_getD, List.getElem?_eq_getElem h]; rfl
theorem tset_at {h h' : Heap} {S : Addr} {ys : List Str} (k : ∀ o, h.get? S = some o → h'.get? S = some o) (a : TSet prog w h S ys) : TSet prog w h' S ys :=
  let ⟨o, es, ep, t, ho, r⟩ := a
  ⟨o, es, ep, t, k o ho, r⟩
theorem tset_put {h' : Heap} {S : Addr} {ys : List Str} {x : Str} (a : h'.SetOf (PySem.strKind prog w) S (fun z => decide (z ∈ ys) || decide (z = x)) (if decide (x ∈ ys) then setLen ys else setLen ys + 1)) : TSet prog w h' S (ys ++ [x]) := by
  refine PyProof.Rows.SetOf_congr a (fun z => ?_) ?_
  · simp
  · rw [setLen_ded, setLen_ded, ded_snoc]
    by_cases h : x ∈ ys
    · rw [if_pos (by simpa using h), if_pos (mem_ded.mpr h)]
    · rw [if_neg (by simpa using h), if_neg (fun z => h (mem_ded.mp z)), List.length_append]; rfl
theorem turns (W : WalksS prog w A.in1 I fp wr G n P St) (S : Addr) (ns : S ∉ fp) (xs : List Str) (hx : xs.length = n) (hn : n ≤ 3000)
    (val : ∀ i v, P i v → ∃ t, v = .str (xs.getD i Str.empty) t) :
    ∀ (m i : Nat) (s : Shared), i + m = n → St i s → TSet prog w s.heap S (xs.take i) →
      (∀ s', Moved (S :: wr) G s s' → TSet prog w s'.heap S xs → R (.ok (.ret .none)) s') →
      codeAny (model prog w) A (.builtin "set.update.loop" ⟨[.ref S, .ref I], []⟩) R s := by
  have nw : S ∉ wr := fun h => ns (W.sub _ h)
  have more : ∀ b ∈ wr, b ∈ S :: wr := fun b hb => List.mem_cons_of_mem _ hb
  intro m
  induction m with
  | zero =>
    intro i s hm st a k
    obtain rfl : i = n := by omega
    refine codeAny_builtin (PyProof.Rows.F.entry_set_update_loop) ?_; rw [Around.under_plainId (PyProof.Rows.F.plain_set_update_loop) _]
    refine (show wpAny _ A.in1 (pyNext (.ref I) >>= _) _ _ s from wpAny_bind (W.done s _ _ st fun s' mv => ?_))
    refine (show wpAny _ A.in1 (ret Value.none) _ _ s' from wpAny_pure (k s' (mv.mono more) ?_))
    have e : xs.take xs.length = xs := List.take_length
    rw [hx] at e
    rw [← e]
    exact tset_at (fun o ho => mv.heap S _ nw ho) a
  | succ m ih =>
    intro i s hm st a k
    have hi : i < n := by omega
    refine codeAny_builtin (PyProof.Rows.F.entry_set_update_loop) ?_; rw [Around.under_plainId (PyProof.Rows.F.plain_set_update_loop) _]
    refine (show wpAny _ A.in1 (pyNext (.ref I) >>= _) _ _ s from wpAny_bind (W.item i s _ _ hi st fun v s' hP st' mv => ?_))
    obtain ⟨t, rfl⟩ := val i v hP
    have a' : TSet prog w s'.heap S (xs.take i) := tset_at (fun o ho => mv.heap S _ nw ho) a
    have hxi : i < xs.length := by omega
    have gd : xs.getD i Str.empty = xs[i] := getD_at hxi
    rw [gd]
    refine (show wpAny _ A.in1 (holding [Value.str xs[i] t] (setAdd S (.str xs[i] t)) >>= _) _ _ s' from wpAny_bind (wpAny_holding ?_))
    unfold setAdd; refine wpAny_holding (wpAny_bind ((PySem.strKind prog w).pyHash (k := xs[i]) (strKind_is _ _ _ _) ?_))
    have small : setLen (xs.take i) + 1 < scanBound := by
      have := setLen_le (xs := xs.take i)
      rw [List.length_take] at this
      unfold scanBound; omega
    refine wpAny_setAddHashed_of (knd := PySem.strKind prog w) (s := { s' with toks := s'.toks + 1 }) (k := xs[i]) (strKind_is _ _ _ _) rfl a' small fun h' same a2 => ?_
    have a3 := tset_put a2
    have tk : xs.take i ++ [xs[i]] = xs.take (i + 1) := by rw [List.take_add_one, List.getElem?_eq_getElem hxi]; rfl
    rw [tk] at a3
    refine wpAny_pure ⟨plainId_quiet (PyProof.Rows.F.plain_set_update_loop) _, ih (i + 1) _ (by omega) (W.frame _ s' _ _ st' (Nat.le_succ _) fun b hb o e => ?_) a3 fun s2 mv2 a4 => ?_⟩
    · have nb : b ≠ S := fun z => ns (by rw [← z]; exact hb)
      rw [same.2 b nb]; exact e
    · refine k s2 (Moved.trans W.gtrans ((mv.mono more).then_heap (Nat.le_succ _) fun b o hb e => ?_) mv2) a4
      have nb : b ≠ S := fun z => hb (by rw [z]; exact List.mem_cons_self)
      rw [same.2 b nb]; exact e
end
section
variable {prog : Program} {w : World} {A : Around} {E : Value → Shared → Prop} {s : Shared}
set_option maxHeartbeats 8000000 in
/-- set(l), l a list of texts -/
theorem set_of_texts {l : Addr} {its : Array Value} {xs : List Str} {Q : Value → Shared → Prop} (nh : A.handled = none) (il : s.heap.IsList l its) (sa : PyProof.Rows.StrsAre its.toList xs) (hn : xs.length ≤ 3000)
    (fin : ∀ (h' : Heap) (tk : Nat), TSet prog w h' s.heap.objs.size xs → (∀ b o, b < s.heap.objs.size → s.heap.get? b = some o → h'.get? b = some o) → Q (.ref s.heap.objs.size) { s with heap := h', toks := tk }) :
    wpAny (model prog w) A (call (.type "set") [.ref l]) Q E s := by
  obtain ⟨c, tl, m1⟩ := PySem.F.called_set.mro
  have m2 := PySem.F.called_set.made; have m3 := PySem.F.called_set.sub
  refine wpAny_call (codeAny_of_tree (show wpAny _ _ (callAny (.type "set") _) _ _ _ from ?_))
  refine wpAny_pure ⟨Code.quiet_builtin _ (by decide +kernel), (codeAny_builtin PySem.F.entry_type_call) ?_⟩
  rw [Around.under_plain (weight_type_call_type "set" [Value.ref l] []) rfl]
  have m4 := PySem.F.called_set.notType; have m5 := PySem.F.called_set.canCreate; have m6 := PySem.F.typeCall_set_1 (.ref l)
  repeat any_goals (first | assumption | wp_step)
  let fresh : Bool → Heap := fun led => s.heap.push { cls := .type "set", dict := none, data := .set #[] 0 (.fresh 0 0 led) }
  refine codeAny_mono (code_set_new_1 (.ref l) (E := E) (Q₁ := fun ob s1 => ∃ led : Bool, ob = .ref s.heap.objs.size ∧ s1 = { s with heap := fresh led }) fun led => ⟨led, rfl, rfl⟩) fun r s1 hr => ?_
  cases r with
  | error e => exact hr
  | ok fl =>
    cases fl <;> (first | exact hr.elim | skip)
    rename_i ob
    obtain ⟨led, rfl, rfl⟩ := hr
    have at0 : (fresh led).get? s.heap.objs.size = some { cls := .type "set", dict := none, data := .set #[] 0 (.fresh 0 0 led) } := Heap.get?_push_size _ rfl
    have ty0 : Shared.TypeIs { s with heap := fresh led } (.ref s.heap.objs.size) "set" := ⟨_, at0, rfl⟩
    have m7 := PySem.F.called_set.init.lookup; have m8 := PySem.F.called_set.init.bind (.ref s.heap.objs.size)
    repeat any_goals (first | assumption | wp_step)
    refine codeAny_mono (codeAny_call_builtin (R := wants (fun r s2 => r = .none ∧ ∃ h' tk, s2 = { s with heap := h', toks := tk } ∧ TSet prog w h' s.heap.objs.size xs ∧
        (∀ b o, b < s.heap.objs.size → s.heap.get? b = some o → h'.get? b = some o)) E) PySem.F.called_set.init.plain PySem.F.entry_set_init (check_set_init_1 ty0 ?_)) fun r2 s2 hr2 => ?_
    · obtain ⟨⟨oc, od, odt, osl⟩, ho, hoc, nl, hod⟩ := il
      simp only at hoc hod
      subst hoc; subst hod
      have ho' : (fresh led).get? l = some { cls := .type "list", dict := od, data := .seq its nl, slots := osl } := Heap.get?_push_of_some _ ho
      have d1 := PySem.F.sub_list_set; have d2 := PySem.F.sub_list_frozenset
      have d3 : (Value.type "list" == Value.type "dict") = false := by decide
      have il1 : (fresh led).IsList l its := ⟨_, ho', rfl, nl, rfl⟩
      unfold Builtin.«set.__init__» noKeywords Builtin.Frozenset.updateFrom; generalize hPI : pyIter = PI
      wp_walk
      subst hPI
      refine wpAny_pyIter_list il1 (wpAny_bind (wpAny_runValue ?_))
      have small : l < s.heap.objs.size := Heap.lt_size ho
      have nh3 : A.in1.in1.in1.handled = none := by simp [nh]
      have sz : (fresh led).objs.size = s.heap.objs.size + 1 := Heap.size_push ..
      have n1 : l ≠ (fresh led).objs.size := fun z => absurd (z.trans sz) (Nat.ne_of_lt (Nat.lt_succ_of_lt small))
      have n2 : s.heap.objs.size ∉ [(fresh led).objs.size, l] := by
        intro z
        rcases List.mem_cons.mp z with z | z
        · exact absurd (z.trans sz) (Nat.ne_of_lt (Nat.lt_succ_self _))
        · exact absurd (List.mem_singleton.mp z) (Nat.ne_of_gt small)
      have lx : xs.length = its.size := by rw [← PyProof.Rows.StrsAre.len_eq sa, Array.length_toList]
      have val : ∀ (i : Nat) (v : Value), its[i]? = some v → ∃ t, v = .str (xs.getD i Str.empty) t := fun i v hv => SS.strs_at sa i v (by rw [Array.getElem?_toList]; exact hv)
      refine turns ((Walks.list nh3 _ l n1 its).toS) s.heap.objs.size n2 xs lx (by omega) val its.size 0 _ (by omega) ⟨⟨_, Heap.get?_push_size _ rfl, rfl, rfl⟩, (il1.push _)⟩ ?start ?done
      case start =>
        have at1 : ((fresh led).push { cls := .type "list_iterator", data := .fields #[.ref l, .int 0 0] }).get? s.heap.objs.size = some { cls := .type "set", dict := none, data := .set #[] 0 (.fresh 0 0 led) } := Heap.get?_push_of_some _ at0
        exact PyProof.Rows.SetOf_congr ((PyProof.Rows.setObjOf_fresh (knd := PySem.strKind prog w) led).setOf at1 (by unfold scanBound; omega)) (fun z => by simp) (by simp [setLen])
      case done =>
        intro s3 mv a3
        obtain ⟨h3, g3, d4, t3, o3⟩ := s3
        have q1 : g3 = s.gens := mv.gens
        have q2 : d4 = s.drawn := mv.drawn
        have q3 : o3 = s.os := mv.os
        subst q1; subst q2; subst q3
        refine (show wpAny _ _ _ _ _ _ from wpAny_pure (show wpAny _ _ (ret Value.none) _ _ _ from wpAny_pure ⟨rfl, h3, t3, rfl, a3, fun b o hb e => ?_⟩))
        refine mv.heap b o (fun z => ?_) (Heap.get?_push_of_some _ (Heap.get?_push_of_some _ e))
        rcases List.mem_cons.mp z with z | z
        · exact absurd z (Nat.ne_of_lt hb)
        · exact absurd ((List.mem_singleton.mp z).trans sz) (Nat.ne_of_lt (Nat.lt_succ_of_lt hb))
    · cases r2 with
      | error e => exact hr2
      | ok fl2 =>
        cases fl2 <;> (first | exact hr2.elim | skip)
        rename_i rv
        obtain ⟨rfl, h', tk, rfl, a2, k2⟩ := hr2
        repeat any_goals (first | assumption | wp_step)
        exact fin _ _ a2 k2
end
end VI
set_option maxRecDepth 100000
set_option maxHeartbeats 4000000
/-! VS2: texts in order. -/
namespace VI
open PySem PySem.Spec PyProof.Rows L2
def leP (a b : Str) : Prop := a.cps.toList ≤ b.cps.toList
theorem leS_iff {a b : Str} : leS a b = true ↔ leP a b := by
  unfold leS leP
  simp only [Bool.not_eq_true', decide_eq_false_iff_not]
  exact Iff.rfl
theorem leP_total (a b : Str) : leP a b ∨ leP b a := List.le_total _ _
theorem leP_trans {a b c : Str} (h : leP a b) (k : leP b c) : leP a c := List.le_trans h k
theorem leP_anti {a b : Str} (h : leP a b) (k : leP b a) : a = b := by
  have e : a.cps.toList = b.cps.toList := List.le_antisymm h k
  obtain ⟨a⟩ := a
  obtain ⟨b⟩ := b
  have : a = b := Array.toList_inj.mp e
  rw [this]
theorem sortT_perm (xs : List Str) : (sortT xs).Perm xs := List.mergeSort_perm _ _
theorem sortT_pw (xs : List Str) : (sortT xs).Pairwise leP :=
  (List.pairwise_mergeSort (le := leS) (fun a b c h k => leS_iff.mpr (leP_trans (leS_iff.mp h) (leS_iff.mp k))) (fun a b => by
    rcases leP_total a b with h | h
    · simp [leS_iff.mpr h]
    · simp [leS_iff.mpr h]) xs).imp fun h => leS_iff.mp h
theorem rising_pw : ∀ (r : List Str) (p : Str), risingS p r = true → (p :: r).Pairwise leP
  | [], p, _ => List.pairwise_singleton _ _
  | x :: r, p, h => by
    simp only [risingS, Bool.and_eq_true, Bool.not_eq_true'] at h
    have ih := rising_pw r x h.2
    have le : leP p x := by
      have e := h.1
      rw [ltCps_eq, decide_eq_false_iff_not] at e
      exact e
    refine List.Pairwise.cons (fun y hy => ?_) ih
    rcases List.mem_cons.mp hy with rfl | hy
    · exact le
    · exact leP_trans le (List.rel_of_pairwise_cons ih hy)
theorem sortedS_pw : ∀ {ys : List Str}, sortedS ys = true → ys.Pairwise leP
  | [], _ => .nil
  | x :: r, h => rising_pw r x h
theorem pw_uniq : ∀ {xs ys : List Str}, xs.Perm ys → xs.Pairwise leP → ys.Pairwise leP → xs = ys
  | [], ys, p, _, _ => (List.nil_perm.mp p).symm
  | x :: xs, ys, p, h, k => by
    cases ys with
    | nil => exact absurd p.length_eq (by simp)
    | cons y ys =>
      have e : x = y := by
        have a1 : x ∈ y :: ys := p.subset List.mem_cons_self
        have a2 : y ∈ x :: xs := p.symm.subset List.mem_cons_self
        rcases List.mem_cons.mp a1 with rfl | a1
        · rfl
        · rcases List.mem_cons.mp a2 with e | a2
          · exact e.symm
          · exact leP_anti (List.rel_of_pairwise_cons h a2) (List.rel_of_pairwise_cons k a1)
      subst e
      rw [pw_uniq (List.Perm.cons_inv p) h.of_cons k.of_cons]
theorem sortT_uniq {xs ys : List Str} (p : ys.Perm xs) (h : sortedS ys = true) : ys = sortT xs := pw_uniq (p.trans (sortT_perm xs).symm) (sortedS_pw h) (sortT_pw xs)
end VI
set_option maxRecDepth 100000
/-! VI: what stands for data in the abstract heap; states; effects. -/
namespace VI
open PySem PySem.Spec PyProof.Rows L2

/-- the script's list: known to the object, or of the written part -/
def Scr (K : PySem.W.Frag) (H : Hp) (a : Addr) (vs : List V) : Prop := (∃ o, H a = some (.frz o (.lst vs))) ∨ ∃ (o : Obj) (its : Array Value) (n : Nat), K.lookup a = some o ∧ o.cls = .type "list" ∧ o.dict = none ∧ o.data = .seq its n ∧ its.size ≤ sizeLine ∧ Vals vs its.toList
theorem Scr.sq {K : PySem.W.Frag} {H : Hp} {a : Addr} {vs : List V} (h : Scr K H a vs) : SqL K H a vs := h.elim (fun h => .inl (.inr h)) .inr
/-- what is held: the values of slots that no statement sets; those of holes -/
structure EE where
  s : Nat → Option V
  h : Nat → Option V
instance : CoeFun EE fun _ => Nat → Option V := ⟨EE.s⟩
def Er0 : EE := ⟨fun _ => none, fun _ => none⟩
mutual
/-- the value v stands for the data d in the heap H; L: the cells that it owns; F: the frozen cells -/
inductive Rep (K : PySem.W.Frag) (Er : EE) (F : Addr → Prop) (H : Hp) : V → D → List Addr → Prop
  | non : Rep K Er F H .non .non []
  | bl (b : Bool) : Rep K Er F H (.bl b) (.bl b) []
  | int (i : Int) : Rep K Er F H (.int i) (.int i) []
  | str (s : Str) : Rep K Er F H (.str s) (.str s) []
  | tup {a : Addr} {vs : List V} {ds : List D} {L : List Addr} : H a = some (.tup vs) → Reps K Er F H vs ds L → Rep K Er F H (.ref a) (.tup ds) L
  | own {a : Addr} {vs : List V} {ds : List D} {L : List Addr} : H a = some (.lst vs) → Reps K Er F H vs ds L → Rep K Er F H (.ref a) (.lst true ds) (a :: L)
  | fro {a : Addr} {vs : List V} {ds : List D} : Rd H a (.lst vs) → F a → Reps K Er F H vs ds [] → Rep K Er F H (.ref a) (.lst false ds) []
  | dow {a : Addr} {kvs : List (Key × V)} {ks : List Key} {ds : List D} {L : List Addr} : H a = some (.dK kvs) → (kvs.map (·.1) = ks ∧ ks.Nodup) → Reps K Er F H (kvs.map (·.2)) ds L → Rep K Er F H (.ref a) (.dct true ks ds) (a :: L)
  | dfr {a : Addr} {kvs : List (Key × V)} {ks : List Key} {ds : List D} : Rd H a (.dK kvs) → F a → (kvs.map (·.1) = ks ∧ ks.Nodup) → Reps K Er F H (kvs.map (·.2)) ds [] → Rep K Er F H (.ref a) (.dct false ks ds) []
  | tow {a : Addr} {kvs : List (List Key × V)} {ks : List (List Key)} {ds : List D} {L : List Addr} : H a = some (.dT kvs) → (kvs.map (·.1) = ks ∧ ks.Nodup) → Reps K Er F H (kvs.map (·.2)) ds L → Rep K Er F H (.ref a) (.dtt true ks ds) (a :: L)
  | tfr {a : Addr} {kvs : List (List Key × V)} {ks : List (List Key)} {ds : List D} : Rd H a (.dT kvs) → F a → (kvs.map (·.1) = ks ∧ ks.Nodup) → Reps K Er F H (kvs.map (·.2)) ds [] → Rep K Er F H (.ref a) (.dtt false ks ds) []
  | oow {a dx : Addr} {c : Str} {fvs : List (Str × V)} {fs : List Str} {ds : List D} {L : List Addr} : H a = some (.ins (He.ga K c) dx fvs) → fvs.map (·.1) = fs → Reps K Er F H (fvs.map (·.2)) ds L → Rep K Er F H (.ref a) (.obj true c fs ds) (a :: L)
  | ofr {a dx : Addr} {c : Str} {fvs : List (Str × V)} {fs : List Str} {ds : List D} : H a = some (.ins (He.ga K c) dx fvs) → F a → fvs.map (·.1) = fs → Reps K Er F H (fvs.map (·.2)) ds [] → Rep K Er F H (.ref a) (.obj false c fs ds) []
  | scr {a : Addr} {ns : List Int} : Scr K H a (ns.map .int) → Rep K Er F H (.ref a) (.scr ns) []
  | unk {v : V} : Rep K Er F H v .unk []
  | hole {v : V} {i : Nat} : Er.h i = some v → Rep K Er F H v (.hole i) []
  | exn {a : Addr} {c : Str} {fvs : List (Str × V)} {fs : List Str} {ds : List D} {L : List Addr} : XnS K c fs → XnH K H a c fvs → fvs.map (·.1) = fs → Reps K Er F H (fvs.map (·.2)) ds L → Rep K Er F H (.ref a) (.exn c fs ds) L
inductive Reps (K : PySem.W.Frag) (Er : EE) (F : Addr → Prop) (H : Hp) : List V → List D → List Addr → Prop
  | nil : Reps K Er F H [] [] []
  | cons {v : V} {d : D} {vs : List V} {ds : List D} {L M : List Addr} : Rep K Er F H v d L → Reps K Er F H vs ds M → Reps K Er F H (v :: vs) (d :: ds) (L ++ M)
end

/-- what may be changed: lists, dicts -/
def cellH : HO → Bool
  | .lst _ => true
  | .dK _ => true
  | .dT _ => true
  | .ins _ _ _ => true
  | _ => false
section
variable {K : PySem.W.Frag} {Er : EE} {F F' : Addr → Prop} {H H' : Hp}

/-- from (F, H) to (F', H') nothing is lost of what doesn't own a changed cell (in M) -/
structure Kp (M : Addr → Prop) (F : Addr → Prop) (H : Hp) (F' : Addr → Prop) (H' : Hp) : Prop where
  keep : ∀ a o, H a = some o → ¬ M a → H' a = some o
  cell : ∀ a, M a → ∃ o, H a = some o ∧ cellH o = true
  fm : ∀ a, F a → F' a
  nf : ∀ a, M a → ¬ F a

section
variable {M : Addr → Prop} (k : Kp M F H F' H')
include k
theorem Kp.no {b : Addr} {o : HO} (e : H b = some o) (c : cellH o = false) : ¬ M b := fun m => by
  obtain ⟨u, e', c'⟩ := k.cell b m
  rw [e] at e'; cases e'
  rw [c] at c'; cases c'
theorem Kp.rdT {a : Addr} {vs : List V} (h : SqT K H a vs) : SqT K H' a vs := by
  rcases h with (h | ⟨o, h⟩) | h
  · exact .inl (.inl (k.keep _ _ h (k.no h rfl)))
  · exact .inl (.inr ⟨o, k.keep _ _ h (k.no h rfl)⟩)
  · exact .inr h
theorem Kp.scr {a : Addr} {vs : List V} (h : Scr K H a vs) : Scr K H' a vs := by
  rcases h with ⟨o, h⟩ | h
  · exact .inl ⟨o, k.keep _ _ h (k.no h rfl)⟩
  · exact .inr h
theorem Kp.rd {a : Addr} {u : HO} (h : Rd H a u) (f : F a) : Rd H' a u := by
  rcases h with h | ⟨o, h⟩
  · exact .inl (k.keep _ _ h fun m => k.nf _ m f)
  · exact .inr ⟨o, k.keep _ _ h fun m => k.nf _ m f⟩
theorem Kp.xn {a : Addr} {c : Str} {fvs : List (Str × V)} (h : XnH K H a c fvs) : XnH K H' a c fvs := by
  rcases h with ⟨e, h⟩ | ⟨dx, h, g⟩
  · exact .inl ⟨e, k.keep _ _ h (k.no h rfl)⟩
  · exact .inr ⟨dx, k.keep _ _ h (k.no h rfl), k.keep _ _ g (k.no g rfl)⟩
mutual
theorem Rep.kp : ∀ {v : V} {d : D} {L : List Addr}, Rep K Er F H v d L → (∀ a ∈ L, ¬ M a) → Rep K Er F' H' v d L
  | _, _, _, .non, _ => .non
  | _, _, _, .bl b, _ => .bl b
  | _, _, _, .int i, _ => .int i
  | _, _, _, .str s, _ => .str s
  | _, _, _, .tup h r, m => .tup (k.keep _ _ h (k.no h rfl)) (Reps.kp r m)
  | _, _, _, .own h r, m => .own (k.keep _ _ h (m _ List.mem_cons_self)) (Reps.kp r fun a h => m a (List.mem_cons_of_mem _ h))
  | _, _, _, .scr h, _ => .scr (k.scr h)
  | _, _, _, .unk, _ => .unk
  | _, _, _, .hole h, _ => .hole h
  | _, _, _, .exn s h e r, m => .exn s (k.xn h) e (Reps.kp r m)
  | _, _, _, .fro h f r, _ => .fro (k.rd h f) (k.fm _ f) (Reps.kp r fun a h => nomatch h)
  | _, _, _, .dow h e r, m => .dow (k.keep _ _ h (m _ List.mem_cons_self)) e (Reps.kp r fun a h => m a (List.mem_cons_of_mem _ h))
  | _, _, _, .tow h e r, m => .tow (k.keep _ _ h (m _ List.mem_cons_self)) e (Reps.kp r fun a h => m a (List.mem_cons_of_mem _ h))
  | _, _, _, .oow h e r, m => .oow (k.keep _ _ h (m _ List.mem_cons_self)) e (Reps.kp r fun a h => m a (List.mem_cons_of_mem _ h))
  | _, _, _, .dfr h f e r, _ => .dfr (k.rd h f) (k.fm _ f) e (Reps.kp r fun a h => nomatch h)
  | _, _, _, .tfr h f e r, _ => .tfr (k.rd h f) (k.fm _ f) e (Reps.kp r fun a h => nomatch h)
  | _, _, _, .ofr h f e r, _ => .ofr (k.keep _ _ h fun m => k.nf _ m f) (k.fm _ f) e (Reps.kp r fun a h => nomatch h)
theorem Reps.kp : ∀ {vs : List V} {ds : List D} {L : List Addr}, Reps K Er F H vs ds L → (∀ a ∈ L, ¬ M a) → Reps K Er F' H' vs ds L
  | _, _, _, .nil, _ => .nil
  | _, _, _, .cons r t, m => .cons (Rep.kp r fun a h => m a (List.mem_append_left _ h)) (Reps.kp t fun a h => m a (List.mem_append_right _ h))
end
end

/-- all is kept -/
def All (F : Addr → Prop) (H : Hp) (F' : Addr → Prop) (H' : Hp) : Prop := (∀ a o, H a = some o → H' a = some o) ∧ ∀ a, F a → F' a
theorem All.kp (x : All F H F' H') : Kp (fun _ => False) F H F' H' := ⟨fun a o e _ => x.1 a o e, fun _ z => z.elim, x.2, fun _ z => z.elim⟩
theorem Rep.all (x : All F H F' H') {v : V} {d : D} {L : List Addr} (r : Rep K Er F H v d L) : Rep K Er F' H' v d L := r.kp x.kp fun _ _ z => z
theorem Reps.all (x : All F H F' H') {v : List V} {d : List D} {L : List Addr} (r : Reps K Er F H v d L) : Reps K Er F' H' v d L := r.kp x.kp fun _ _ z => z

/-! ### frozen -/
mutual
theorem Rep.frz {Er2 : EE} (hF : ∀ a, F a → F' a) : ∀ {v : V} {d : D} {L : List Addr}, Rep K Er F H v d L → (∀ a ∈ L, F' a) → Rep K Er2 F' H v (VI.frz d) []
  | _, _, _, .non, _ => .non
  | _, _, _, .bl b, _ => .bl b
  | _, _, _, .int i, _ => .int i
  | _, _, _, .str s, _ => .str s
  | _, _, _, .tup h r, m => .tup h (Reps.frz hF r m)
  | _, _, _, .own h r, m => .fro (.inl h) (m _ List.mem_cons_self) (Reps.frz hF r fun a h => m a (List.mem_cons_of_mem _ h))
  | _, _, _, .scr h, _ => .scr h
  | _, _, _, .unk, _ => .unk
  | _, _, _, .hole _, _ => .unk
  | _, _, _, .exn s h e r, m => .exn s h e (Reps.frz hF r m)
  | _, _, _, .fro h f r, _ => .fro h (hF _ f) (Reps.frz hF r fun a h => nomatch h)
  | _, _, _, .dow h e r, m => .dfr (.inl h) (m _ List.mem_cons_self) e (Reps.frz hF r fun a h => m a (List.mem_cons_of_mem _ h))
  | _, _, _, .tow h e r, m => .tfr (.inl h) (m _ List.mem_cons_self) e (Reps.frz hF r fun a h => m a (List.mem_cons_of_mem _ h))
  | _, _, _, .oow h e r, m => .ofr h (m _ List.mem_cons_self) e (Reps.frz hF r fun a h => m a (List.mem_cons_of_mem _ h))
  | _, _, _, .dfr h f e r, _ => .dfr h (hF _ f) e (Reps.frz hF r fun a h => nomatch h)
  | _, _, _, .tfr h f e r, _ => .tfr h (hF _ f) e (Reps.frz hF r fun a h => nomatch h)
  | _, _, _, .ofr h f e r, _ => .ofr h (hF _ f) e (Reps.frz hF r fun a h => nomatch h)
theorem Reps.frz {Er2 : EE} (hF : ∀ a, F a → F' a) : ∀ {vs : List V} {ds : List D} {L : List Addr}, Reps K Er F H vs ds L → (∀ a ∈ L, F' a) → Reps K Er2 F' H vs (VI.frzL ds) []
  | _, _, _, .nil, _ => .nil
  | _, _, _, .cons r t, m => .cons (L := []) (M := []) (Rep.frz hF r fun a h => m a (List.mem_append_left _ h)) (Reps.frz hF t fun a h => m a (List.mem_append_right _ h))
end
mutual
theorem Rep.lf : ∀ {v : V} {d : D} {L : List Addr}, Rep K Er F H v d L → VI.lf d = true → L = []
  | _, _, _, .non, _ => rfl
  | _, _, _, .bl b, _ => rfl
  | _, _, _, .int i, _ => rfl
  | _, _, _, .str s, _ => rfl
  | _, _, _, .tup h r, m => Reps.lf r (by simpa [VI.lf] using m)
  | _, _, _, .own h r, m => by simp [VI.lf] at m
  | _, _, _, .scr h, _ => rfl
  | _, _, _, .unk, _ => rfl
  | _, _, _, .hole _, m => by simp [VI.lf] at m
  | _, _, _, .exn s h e r, m => Reps.lf r (by simpa [VI.lf] using m)
  | _, _, _, .fro h f r, _ => rfl
  | _, _, _, .dow h e r, m => by simp [VI.lf] at m
  | _, _, _, .tow h e r, m => by simp [VI.lf] at m
  | _, _, _, .oow h e r, m => by simp [VI.lf] at m
  | _, _, _, .dfr h f e r, _ => rfl
  | _, _, _, .tfr h f e r, _ => rfl
  | _, _, _, .ofr h f e r, _ => rfl
theorem Reps.lf : ∀ {vs : List V} {ds : List D} {L : List Addr}, Reps K Er F H vs ds L → VI.lfL ds = true → L = []
  | _, _, _, .nil, _ => rfl
  | _, _, _, .cons r t, m => by
    simp only [VI.lfL, Bool.and_eq_true] at m
    rw [Rep.lf r m.1, Reps.lf t m.2]
    rfl
end
mutual
/-- nothing frozen in it: it stands whatever is frozen -/
theorem Rep.ff : ∀ {v : V} {d : D} {L : List Addr}, Rep K Er F H v d L → VI.ff d = true → Rep K Er F' H v d L
  | _, _, _, .non, _ => .non
  | _, _, _, .bl b, _ => .bl b
  | _, _, _, .int i, _ => .int i
  | _, _, _, .str s, _ => .str s
  | _, _, _, .tup h r, m => .tup h (Reps.ff r (by simpa [VI.ff] using m))
  | _, _, _, .own h r, m => .own h (Reps.ff r (by simpa [VI.ff] using m))
  | _, _, _, .scr h, _ => .scr h
  | _, _, _, .unk, _ => .unk
  | _, _, _, .hole h, _ => .hole h
  | _, _, _, .exn s h e r, m => .exn s h e (Reps.ff r (by simpa [VI.ff] using m))
  | _, _, _, .fro h f r, m => by simp [VI.ff] at m
  | _, _, _, .dow h e r, m => .dow h e (Reps.ff r (by simpa [VI.ff] using m))
  | _, _, _, .tow h e r, m => .tow h e (Reps.ff r (by simpa [VI.ff] using m))
  | _, _, _, .oow h e r, m => .oow h e (Reps.ff r (by simpa [VI.ff] using m))
  | _, _, _, .dfr h f e r, m => by simp [VI.ff] at m
  | _, _, _, .tfr h f e r, m => by simp [VI.ff] at m
  | _, _, _, .ofr h f e r, m => by simp [VI.ff] at m
theorem Reps.ff : ∀ {vs : List V} {ds : List D} {L : List Addr}, Reps K Er F H vs ds L → VI.ffL ds = true → Reps K Er F' H vs ds L
  | _, _, _, .nil, _ => .nil
  | _, _, _, .cons r t, m => by
    simp only [VI.ffL, Bool.and_eq_true] at m
    exact .cons (Rep.ff r m.1) (Reps.ff t m.2)
end
mutual
/-- .. where more is held -/
theorem Rep.er {Er' : EE} (he : ∀ i v, Er.h i = some v → Er'.h i = some v) : ∀ {v : V} {d : D} {L : List Addr}, Rep K Er F H v d L → Rep K Er' F H v d L
  | _, _, _, .non => .non
  | _, _, _, .bl b => .bl b
  | _, _, _, .int i => .int i
  | _, _, _, .str s => .str s
  | _, _, _, .tup h r => .tup h (Reps.er he r)
  | _, _, _, .own h r => .own h (Reps.er he r)
  | _, _, _, .scr h => .scr h
  | _, _, _, .unk => .unk
  | _, _, _, .hole h => .hole (he _ _ h)
  | _, _, _, .exn s h e r => .exn s h e (Reps.er he r)
  | _, _, _, .fro h f r => .fro h f (Reps.er he r)
  | _, _, _, .dow h e r => .dow h e (Reps.er he r)
  | _, _, _, .dfr h f e r => .dfr h f e (Reps.er he r)
  | _, _, _, .tow h e r => .tow h e (Reps.er he r)
  | _, _, _, .tfr h f e r => .tfr h f e (Reps.er he r)
  | _, _, _, .oow h e r => .oow h e (Reps.er he r)
  | _, _, _, .ofr h f e r => .ofr h f e (Reps.er he r)
theorem Reps.er {Er' : EE} (he : ∀ i v, Er.h i = some v → Er'.h i = some v) : ∀ {vs : List V} {ds : List D} {L : List Addr}, Reps K Er F H vs ds L → Reps K Er' F H vs ds L
  | _, _, _, .nil => .nil
  | _, _, _, .cons r t => .cons (Rep.er he r) (Reps.er he t)
end
mutual
/-- .. where x is held no more -/
theorem Rep.erN {Er' : EE} {x : Nat} (he : ∀ i v, i ≠ x → Er.h i = some v → Er'.h i = some v) : ∀ {v : V} {d : D} {L : List Addr}, Rep K Er F H v d L → noh x d = true → Rep K Er' F H v d L
  | _, _, _, .non, _ => .non
  | _, _, _, .bl b, _ => .bl b
  | _, _, _, .int i, _ => .int i
  | _, _, _, .str s, _ => .str s
  | _, _, _, .tup h r, m => .tup h (Reps.erN he r (by simpa [noh] using m))
  | _, _, _, .own h r, m => .own h (Reps.erN he r (by simpa [noh] using m))
  | _, _, _, .scr h, _ => .scr h
  | _, _, _, .unk, _ => .unk
  | _, _, _, .hole h, m => .hole (he _ _ (by simpa [noh] using m) h)
  | _, _, _, .exn s h e r, m => .exn s h e (Reps.erN he r (by simpa [noh] using m))
  | _, _, _, .fro h f r, m => .fro h f (Reps.erN he r (by simpa [noh] using m))
  | _, _, _, .dow h e r, m => .dow h e (Reps.erN he r (by simpa [noh] using m))
  | _, _, _, .dfr h f e r, m => .dfr h f e (Reps.erN he r (by simpa [noh] using m))
  | _, _, _, .tow h e r, m => .tow h e (Reps.erN he r (by simpa [noh] using m))
  | _, _, _, .tfr h f e r, m => .tfr h f e (Reps.erN he r (by simpa [noh] using m))
  | _, _, _, .oow h e r, m => .oow h e (Reps.erN he r (by simpa [noh] using m))
  | _, _, _, .ofr h f e r, m => .ofr h f e (Reps.erN he r (by simpa [noh] using m))
theorem Reps.erN {Er' : EE} {x : Nat} (he : ∀ i v, i ≠ x → Er.h i = some v → Er'.h i = some v) : ∀ {vs : List V} {ds : List D} {L : List Addr}, Reps K Er F H vs ds L → nohL x ds = true → Reps K Er' F H vs ds L
  | _, _, _, .nil, _ => .nil
  | _, _, _, .cons r t, m => by
    simp only [nohL, Bool.and_eq_true] at m
    exact .cons (Rep.erN he r m.1) (Reps.erN he t m.2)
end
theorem er0 {Er' : EE} : ∀ i v, Er0.h i = some v → Er'.h i = some v := fun _ _ h => nomatch h
mutual
/-- an owned cell stands in the heap, as a cell -/
theorem Rep.cell : ∀ {v : V} {d : D} {L : List Addr}, Rep K Er F H v d L → ∀ a ∈ L, ∃ o, H a = some o ∧ cellH o = true
  | _, _, _, .non => fun _ h => nomatch h
  | _, _, _, .bl b => fun _ h => nomatch h
  | _, _, _, .int i => fun _ h => nomatch h
  | _, _, _, .str s => fun _ h => nomatch h
  | _, _, _, .tup h r => Reps.cell r
  | _, _, _, .own h r => fun a m => by
    rcases List.mem_cons.mp m with rfl | m
    · exact ⟨_, h, rfl⟩
    · exact Reps.cell r a m
  | _, _, _, .scr _ => fun _ h => nomatch h
  | _, _, _, .unk => fun _ h => nomatch h
  | _, _, _, .hole _ => fun _ h => nomatch h
  | _, _, _, .exn s h e r => Reps.cell r
  | _, _, _, .fro _ _ _ => fun _ h => nomatch h
  | _, _, _, .dow h e r => fun a m => by
    rcases List.mem_cons.mp m with rfl | m
    · exact ⟨_, h, rfl⟩
    · exact Reps.cell r a m
  | _, _, _, .tow h e r => fun a m => by
    rcases List.mem_cons.mp m with rfl | m
    · exact ⟨_, h, rfl⟩
    · exact Reps.cell r a m
  | _, _, _, .oow h e r => fun a m => by
    rcases List.mem_cons.mp m with rfl | m
    · exact ⟨_, h, rfl⟩
    · exact Reps.cell r a m
  | _, _, _, .dfr _ _ _ _ => fun _ h => nomatch h
  | _, _, _, .tfr _ _ _ _ => fun _ h => nomatch h
  | _, _, _, .ofr _ _ _ _ => fun _ h => nomatch h
theorem Reps.cell : ∀ {v : List V} {d : List D} {L : List Addr}, Reps K Er F H v d L → ∀ a ∈ L, ∃ o, H a = some o ∧ cellH o = true
  | _, _, _, .nil => fun _ h => nomatch h
  | _, _, _, .cons r t => fun a m => by
    rcases List.mem_append.mp m with m | m
    · exact Rep.cell r a m
    · exact Reps.cell t a m
end
theorem Reps.len : ∀ {vs : List V} {ds : List D} {L : List Addr}, Reps K Er F H vs ds L → vs.length = ds.length
  | _, _, _, .nil => rfl
  | _, _, _, .cons r t => by rw [List.length_cons, List.length_cons, Reps.len t]
theorem Reps.append : ∀ {vs vs' : List V} {ds ds' : List D} {L L' : List Addr}, Reps K Er F H vs ds L → Reps K Er F H vs' ds' L' → Reps K Er F H (vs ++ vs') (ds ++ ds') (L ++ L')
  | _, _, _, _, _, _, .nil, s => s
  | _, _, _, _, _, _, .cons r t, s => by
    rw [List.append_assoc]
    exact .cons r (Reps.append t s)
/-- the i-th -/
theorem Reps.get : ∀ {vs : List V} {ds : List D} {L : List Addr} {i : Nat} {d : D}, Reps K Er F H vs ds L → ds[i]? = some d → ∃ v M, vs[i]? = some v ∧ Rep K Er F H v d M ∧ M.Sublist L
  | _, _, _, _, _, .nil, e => by simp at e
  | _, _, _, 0, _, .cons (L := L) (M := M) r t, e => by
    simp at e; subst e
    exact ⟨_, L, rfl, r, List.sublist_append_left _ _⟩
  | _, _, _, i + 1, d, .cons r t, e => by
    obtain ⟨v, M, h1, h2, h3⟩ := Reps.get (i := i) t (by simpa using e)
    exact ⟨v, M, by simpa using h1, h2, h3.trans (List.sublist_append_right _ _)⟩
theorem Reps.take : ∀ {vs : List V} {ds : List D} {L : List Addr} (n : Nat), Reps K Er F H vs ds L → ∃ M, Reps K Er F H (vs.take n) (ds.take n) M ∧ M.Sublist L
  | _, _, _, 0, _ => ⟨[], .nil, List.nil_sublist _⟩
  | _, _, _, n + 1, .nil => ⟨[], .nil, List.nil_sublist _⟩
  | _, _, _, n + 1, .cons r t => by
    obtain ⟨M, h, s⟩ := Reps.take n t
    exact ⟨_, .cons r h, (List.append_sublist_append_left _).mpr s⟩
theorem Reps.drop : ∀ {vs : List V} {ds : List D} {L : List Addr} (n : Nat), Reps K Er F H vs ds L → ∃ M, Reps K Er F H (vs.drop n) (ds.drop n) M ∧ M.Sublist L
  | _, _, L, 0, h => ⟨L, h, List.Sublist.refl _⟩
  | _, _, _, n + 1, .nil => ⟨[], .nil, List.nil_sublist _⟩
  | _, _, _, n + 1, .cons r t => by
    obtain ⟨M, h, s⟩ := Reps.drop n t
    exact ⟨M, h, s.trans (List.sublist_append_right _ _)⟩
theorem Reps.reverse : ∀ {vs : List V} {ds : List D} {L : List Addr}, Reps K Er F H vs ds L → ∃ M, Reps K Er F H vs.reverse ds.reverse M ∧ M.Perm L
  | _, _, _, .nil => ⟨[], .nil, List.Perm.refl _⟩
  | _, _, _, .cons (L := L1) (M := L2) r t => by
    obtain ⟨M, h, p⟩ := Reps.reverse t
    rw [List.reverse_cons, List.reverse_cons]
    exact ⟨_, h.append (.cons (M := []) r .nil), by
      rw [List.append_nil]
      exact (List.perm_append_comm).trans ((List.perm_append_left_iff _).mpr p)⟩
theorem Reps.eraseIdx : ∀ {vs : List V} {ds : List D} {L : List Addr} {i : Nat} {d : D}, Reps K Er F H vs ds L → ds[i]? = some d → ∃ v M M', vs[i]? = some v ∧ Rep K Er F H v d M ∧ Reps K Er F H (vs.eraseIdx i) (ds.eraseIdx i) M' ∧ (M ++ M').Perm L
  | _, _, _, _, _, .nil, e => by simp at e
  | _, _, _, 0, _, .cons (L := L) (M := M) r t, e => by
    simp at e; subst e
    exact ⟨_, L, M, rfl, r, t, List.Perm.refl _⟩
  | _, _, _, i + 1, d, .cons (L := L1) (M := L2) r t, e => by
    obtain ⟨v, M, M', h1, h2, h3, p⟩ := Reps.eraseIdx (i := i) t (by simpa using e)
    refine ⟨v, M, L1 ++ M', by simpa using h1, h2, .cons r h3, ?_⟩
    rw [← List.append_assoc]
    refine ((List.perm_append_right_iff _).mpr List.perm_append_comm).trans ?_
    rw [List.append_assoc]
    exact (List.perm_append_left_iff _).mpr p
theorem Reps.set : ∀ {vs : List V} {ds : List D} {L M : List Addr} {i : Nat} {v : V} {d : D}, Reps K Er F H vs ds L → Rep K Er F H v d M → i < ds.length → ∃ L', Reps K Er F H (vs.set i v) (ds.set i d) L' ∧ ∃ X, (L' ++ X).Perm (M ++ L)
  | _, _, _, _, _, _, _, .nil, _, e => by simp at e
  | _, _, _, M, 0, _, _, .cons (L := L1) (M := L2) r t, q, e => ⟨_, .cons q t, L1, by
      rw [List.append_assoc]
      exact (List.perm_append_left_iff _).mpr List.perm_append_comm⟩
  | _, _, _, M, i + 1, v, d, .cons (L := L1) (M := L2) r t, q, e => by
    obtain ⟨L', h, X, p⟩ := Reps.set (i := i) t q (by simpa using e)
    refine ⟨_, .cons r h, X, ?_⟩
    rw [List.append_assoc, ← List.append_assoc M L1 L2]
    refine ((List.perm_append_left_iff _).mpr p).trans ?_
    rw [← List.append_assoc]
    exact (List.perm_append_right_iff _).mpr List.perm_append_comm
theorem Reps.replF {vs : List V} {ds : List D} {L : List Addr} (r : Reps K Er F H vs ds L) : Reps K Er F H vs ds L := r
theorem lfL_mem : ∀ {ds : List D} {i : Nat} {d : D}, lfL ds = true → ds[i]? = some d → VI.lf d = true
  | [], _, _, _, e => by simp at e
  | x :: xs, 0, d, h, e => by
    simp at e; subst e
    simp only [lfL, Bool.and_eq_true] at h
    exact h.1
  | x :: xs, i + 1, d, h, e => by
    simp only [lfL, Bool.and_eq_true] at h
    exact lfL_mem h.2 (by simpa using e)
end
end VI
set_option maxRecDepth 100000
/-! VI: states and effects. -/
namespace VI
open PySem PySem.Spec PyProof.Rows L2

def In (Ls : Nat → List Addr) (a : Addr) : Prop := ∃ i, a ∈ Ls i
def up (Ls : Nat → List Addr) (i : Nat) (L : List Addr) : Nat → List Addr := fun j => if j = i then L else Ls j
theorem up_same {Ls : Nat → List Addr} {i : Nat} {L : List Addr} : up Ls i L i = L := by unfold up; rw [if_pos rfl]
theorem up_ne {Ls : Nat → List Addr} {i j : Nat} {L : List Addr} (h : j ≠ i) : up Ls i L j = Ls j := by unfold up; rw [if_neg h]
theorem In.up {Ls : Nat → List Addr} {i : Nat} {L : List Addr} {a : Addr} (h : In (up Ls i L) a) : a ∈ L ∨ ∃ j, j ≠ i ∧ a ∈ Ls j := by
  obtain ⟨j, h⟩ := h
  by_cases e : j = i
  · subst e; rw [up_same] at h; exact .inl h
  · rw [up_ne e] at h; exact .inr ⟨j, e, h⟩

section
variable {K : PySem.W.Frag} {Er : EE}
/-- the environment e and the slots σ in the heap H: slot i owns the cells Ls i -/
structure Sx (K : PySem.W.Frag) (Er : EE) (F : Addr → Prop) (H : Hp) (e : Env) (σ : L2.St) (Ls : Nat → List Addr) : Prop where
  len : e.length = σ.length
  rep : ∀ i d, e[i]? = some (some d) → ∃ v, σ[i]? = some (some v) ∧ Rep K Er F H v d (Ls i)
  emp : ∀ i, (∀ d, e[i]? ≠ some (some d)) → Ls i = []
  nd : ∀ i, (Ls i).Nodup
  dj : ∀ i j a, a ∈ Ls i → a ∈ Ls j → i = j
  nf : ∀ i a, a ∈ Ls i → ¬ F a
  fa : ∀ a, F a → H a ≠ none
  fx : ∀ i v, Er i = some v → σ[i]? = some (some v)
variable {F F' F1 F2 : Addr → Prop} {H H' H1 H2 : Hp} {e e' e1 : Env} {σ σ' : L2.St} {Ls Ls' Ls1 Ls2 : Nat → List Addr} {T T1 T2 : List Addr}

theorem Sx.cell (s : Sx K Er F H e σ Ls) {a : Addr} (h : In Ls a) : ∃ o, H a = some o ∧ cellH o = true := by
  obtain ⟨i, h⟩ := h
  cases q : e[i]? with
  | none => rw [s.emp i (by simp [q])] at h; cases h
  | some o =>
    cases o with
    | none => rw [s.emp i (by simp [q])] at h; cases h
    | some d =>
      obtain ⟨v, _, r⟩ := s.rep i d q
      exact r.cell a h
theorem Sx.inF (s : Sx K Er F H e σ Ls) {a : Addr} (h : In Ls a) : ¬ F a := let ⟨i, m⟩ := h; s.nf i a m
theorem Sx.inH (s : Sx K Er F H e σ Ls) {a : Addr} (h : In Ls a) : H a ≠ none := by
  obtain ⟨o, e, _⟩ := s.cell h
  rw [e]; simp

/-- what happens: mu: owned cells may be changed; U: cells at hand (of what was told ahead); T: the cells of what is told -/
structure Eff (mu : Bool) (F : Addr → Prop) (H : Hp) (Ls : Nat → List Addr) (U : List Addr) (F' : Addr → Prop) (H' : Hp) (Ls' : Nat → List Addr) (T : List Addr) : Prop where
  keep : ∀ a o, H a = some o → (mu = true → ¬ In Ls a ∧ a ∉ U) → H' a = some o
  live : ∀ a, H a ≠ none → H' a ≠ none
  fm : ∀ a, F a → F' a
  fn : ∀ a, F' a → In Ls a ∨ a ∈ U ∨ F a ∨ H a = none
  sub : ∀ a, In Ls' a ∨ a ∈ T → In Ls a ∨ a ∈ U ∨ H a = none
  shr : mu = false → ∀ i a, a ∈ Ls' i → a ∈ Ls i
variable {U U1 U2 : List Addr}
theorem Eff.refl : Eff false F H Ls U F H Ls [] := ⟨fun _ _ h _ => h, fun _ h => h, fun _ h => h, fun _ h => .inr (.inr (.inl h)), fun a h => h.elim .inl (fun z => nomatch z), fun _ _ _ h => h⟩
theorem Eff.mono {mu mu' : Bool} (x : Eff mu F H Ls U F' H' Ls' T) (h : mu = true → mu' = true) : Eff mu' F H Ls U F' H' Ls' T :=
  ⟨fun a o e n => x.keep a o e fun m => n (h m), x.live, x.fm, x.fn, x.sub, fun m => x.shr (by cases mu; rfl; rw [h rfl] at m; cases m)⟩
theorem Eff.more {mu : Bool} (x : Eff mu F H Ls U F' H' Ls' T) (h : ∀ a ∈ U, a ∈ U1) : Eff mu F H Ls U1 F' H' Ls' T :=
  ⟨fun a o e n => x.keep a o e fun m => ⟨(n m).1, fun z => (n m).2 (h a z)⟩, x.live, x.fm, fun a q => by
    rcases x.fn a q with z | z | z
    · exact .inl z
    · exact .inr (.inl (h a z))
    · exact .inr (.inr z), fun a q => by
    rcases x.sub a q with z | z | z
    · exact .inl z
    · exact .inr (.inl (h a z))
    · exact .inr (.inr z), x.shr⟩
theorem Eff.less {mu : Bool} (x : Eff mu F H Ls U F' H' Ls' T) (h : ∀ a ∈ T1, a ∈ T ∨ In Ls' a) : Eff mu F H Ls U F' H' Ls' T1 :=
  ⟨x.keep, x.live, x.fm, x.fn, fun a q => by
    rcases q with q | q
    · exact x.sub a (.inl q)
    · rcases h a q with z | z
      · exact x.sub a (.inr z)
      · exact x.sub a (.inl z), x.shr⟩
/-- one behind another -/
theorem Eff.trans {mu1 mu2 : Bool} (x : Eff mu1 F H Ls U F1 H1 Ls1 T1) (y : Eff mu2 F1 H1 Ls1 (U ++ T1) F2 H2 Ls2 T2) : Eff (mu1 || mu2) F H Ls U F2 H2 Ls2 T2 where
  keep := fun a o h n => y.keep a o (x.keep a o h fun m => n (by rw [m]; rfl)) fun m => by
    have nn := n (by rw [m]; simp)
    have one : ¬ (In Ls a ∨ a ∈ U ∨ H a = none) := fun q => by
      rcases q with q | q | q
      · exact nn.1 q
      · exact nn.2 q
      · rw [h] at q; cases q
    exact ⟨fun z => one (x.sub a (.inl z)), fun z => (List.mem_append.mp z).elim nn.2 fun z => one (x.sub a (.inr z))⟩
  live := fun a h => y.live a (x.live a h)
  fm := fun a h => y.fm a (x.fm a h)
  fn := fun a h => by
    have z0 : H1 a = none → H a = none := fun q => by
      cases z : H a with
      | none => rfl
      | some o => exact absurd q (x.live a (by rw [z]; simp))
    rcases y.fn a h with q | q | q | q
    · rcases x.sub a (.inl q) with z | z | z
      · exact .inl z
      · exact .inr (.inl z)
      · exact .inr (.inr (.inr z))
    · rcases List.mem_append.mp q with q | q
      · exact .inr (.inl q)
      · rcases x.sub a (.inr q) with z | z | z
        · exact .inl z
        · exact .inr (.inl z)
        · exact .inr (.inr (.inr z))
    · exact x.fn a q
    · exact .inr (.inr (.inr (z0 q)))
  sub := fun a h => by
    rcases y.sub a h with q | q | q
    · exact x.sub a (.inl q)
    · rcases List.mem_append.mp q with q | q
      · exact .inr (.inl q)
      · exact x.sub a (.inr q)
    · refine .inr (.inr ?_)
      cases z : H a with
      | none => rfl
      | some o => exact absurd q (x.live a (by rw [z]; simp))
  shr := fun m i a h => by
    rw [Bool.or_eq_false_iff] at m
    exact x.shr m.1 i a (y.shr m.2 i a h)
theorem Eff.all {F' : Addr → Prop} (x : Eff false F H Ls U F' H' Ls' T) : All F H F' H' := ⟨fun a o e => x.keep a o e fun z => Bool.noConfusion z, x.fm⟩
theorem Eff.kp {mu : Bool} (s : Sx K Er F H e σ Ls) (x : Eff mu F H Ls [] F' H' Ls' T) : Kp (In Ls) F H F' H' :=
  ⟨fun a o e n => x.keep a o e fun _ => ⟨n, fun z => nomatch z⟩, fun a h => s.cell h, x.fm, fun a h => s.inF h⟩
/-- what stands beside the state goes on standing -/
theorem Rep.side {mu : Bool} (s : Sx K Er F H e σ Ls) (x : Eff mu F H Ls [] F' H' Ls' T) {v : V} {d : D} {L : List Addr} (r : Rep K Er F H v d L) (h : mu = true → ∀ a ∈ L, ¬ In Ls a) : Rep K Er F' H' v d L := by
  cases mu with
  | false => exact r.all x.all
  | true => exact r.kp (x.kp s) (h rfl)
theorem Reps.side {mu : Bool} (s : Sx K Er F H e σ Ls) (x : Eff mu F H Ls [] F' H' Ls' T) {v : List V} {d : List D} {L : List Addr} (r : Reps K Er F H v d L) (h : mu = true → ∀ a ∈ L, ¬ In Ls a) : Reps K Er F' H' v d L := by
  cases mu with
  | false => exact r.all x.all
  | true => exact r.kp (x.kp s) (h rfl)

/-! ### changes of a state -/
/-- a new thing is laid -/
theorem Sx.laid (s : Sx K Er F H e σ Ls) {p : Addr} {o : HO} (n : H p = none) : Sx K Er F (upd H p o) e σ Ls where
  len := s.len
  rep := fun i d h => by
    obtain ⟨v, a, r⟩ := s.rep i d h
    exact ⟨v, a, r.all ⟨fun b u q => by rw [upd_ne (ne_of_none q n)]; exact q, fun _ h => h⟩⟩
  emp := s.emp
  nd := s.nd
  dj := s.dj
  nf := s.nf
  fa := fun a h => by
    have z : a ≠ p := fun z => s.fa a h (by rw [z]; exact n)
    rw [upd_ne z]
    exact s.fa a h
  fx := s.fx
theorem Eff.laid (s : Sx K Er F H e σ Ls) {p : Addr} {o : HO} (n : H p = none) : Eff false F H Ls U F (upd H p o) Ls (p :: U) where
  keep := fun b u q _ => by rw [upd_ne (ne_of_none q n)]; exact q
  live := fun a h => by
    by_cases z : a = p
    · rw [z, upd_same]; simp
    · rw [upd_ne z]; exact h
  fm := fun _ h => h
  fn := fun _ h => .inr (.inr (.inl h))
  sub := fun a h => by
    rcases h with h | h
    · exact .inl h
    · rcases List.mem_cons.mp h with e | h
      · exact .inr (.inr (e ▸ n))
      · exact .inr (.inl h)
  shr := fun _ _ _ h => h
theorem all_laid {p : Addr} {o : HO} (n : H p = none) : All F H F (upd H p o) := ⟨fun b u q => by rw [upd_ne (ne_of_none q n)]; exact q, fun _ h => h⟩
theorem Sx.newF (s : Sx K Er F H e σ Ls) {p : Addr} (n : H p = none) : ¬ F p := fun h => s.fa p h n
theorem Sx.newI (s : Sx K Er F H e σ Ls) {p : Addr} (n : H p = none) : ¬ In Ls p := fun h => s.inH h n

/-- a slot is frozen -/
theorem fz_get (e : Env) (i j : Nat) : (fz e (some i))[j]? = if i = j then (e[j]?).map (Option.map frz) else e[j]? := by
  show (e.modify i (Option.map frz))[j]? = _
  rw [List.getElem?_modify]
  split <;> rename_i h
  · subst h; cases e[i]? <;> rfl
  · cases e[j]? <;> rfl
theorem Sx.fz (s : Sx K Er F H e σ Ls) (i : Nat) : Sx K Er (fun a => F a ∨ a ∈ Ls i) H (VI.fz e (some i)) σ (up Ls i []) where
  len := by
    show (e.modify i (Option.map frz)).length = _
    rw [List.length_modify]; exact s.len
  rep := fun j d h => by
    rw [fz_get] at h
    by_cases z : i = j
    · subst z
      rw [if_pos rfl] at h
      cases q : e[i]? with
      | none => rw [q] at h; cases h
      | some o =>
        cases o with
        | none => rw [q] at h; cases h
        | some d' =>
          rw [q] at h
          have e' : frz d' = d := by simpa using h
          subst e'
          obtain ⟨v, a, r⟩ := s.rep i d' q
          rw [up_same]
          exact ⟨v, a, r.frz (fun _ h => .inl h) fun _ h => .inr h⟩
    · rw [if_neg z] at h
      obtain ⟨v, a, r⟩ := s.rep j d h
      rw [up_ne fun w => z w.symm]
      exact ⟨v, a, r.all ⟨fun _ _ h => h, fun _ h => .inl h⟩⟩
  emp := fun j h => by
    by_cases z : j = i
    · subst z; exact up_same
    · rw [up_ne z]
      refine s.emp j fun d q => ?_
      have := h d
      rw [fz_get, if_neg fun w => z w.symm] at this
      exact this q
  nd := fun j => by
    by_cases z : j = i
    · subst z; rw [up_same]; exact List.nodup_nil
    · rw [up_ne z]; exact s.nd j
  dj := fun j k a h1 h2 => by
    by_cases z : j = i
    · subst z; rw [up_same] at h1; cases h1
    · by_cases z' : k = i
      · subst z'; rw [up_same] at h2; cases h2
      · rw [up_ne z] at h1; rw [up_ne z'] at h2
        exact s.dj j k a h1 h2
  nf := fun j a h q => by
    by_cases z : j = i
    · subst z; rw [up_same] at h; cases h
    · rw [up_ne z] at h
      rcases q with q | q
      · exact s.nf j a h q
      · exact z (s.dj j i a h q)
  fa := fun a h => by
    rcases h with h | h
    · exact s.fa a h
    · exact s.inH ⟨i, h⟩
  fx := s.fx
theorem Eff.fz (F : Addr → Prop) (H : Hp) (Ls : Nat → List Addr) (U : List Addr) (i : Nat) : Eff false F H Ls U (fun a => F a ∨ a ∈ Ls i) H (up Ls i []) U where
  keep := fun _ _ h _ => h
  live := fun _ h => h
  fm := fun _ h => .inl h
  fn := fun a h => by
    rcases h with h | h
    · exact .inr (.inr (.inl h))
    · exact .inl ⟨i, h⟩
  sub := fun a h => by
    rcases h with h | h
    · rcases h.up with z | ⟨j, _, z⟩
      · cases z
      · exact .inl ⟨j, z⟩
    · exact .inr (.inl h)
  shr := fun _ j a h => by
    by_cases z : j = i
    · subst z; rw [up_same] at h; cases h
    · rw [up_ne z] at h; exact h
theorem Sx.fzs : ∀ (rs : List (Option Nat)) {F : Addr → Prop} {e : Env} {Ls : Nat → List Addr}, Sx K Er F H e σ Ls →
    ∃ F' Ls', Sx K Er F' H (rs.foldl VI.fz e) σ Ls' ∧ Eff false F H Ls [] F' H Ls' [] ∧ ∀ r, some r ∈ rs → ∀ a ∈ Ls r, F' a
  | [], F, e, Ls, s => ⟨F, Ls, s, .refl, fun _ h => nomatch h⟩
  | none :: rs, F, e, Ls, s => by
    obtain ⟨F', Ls', a, b, c⟩ := Sx.fzs rs s
    exact ⟨F', Ls', a, b, fun r h => c r (by simpa using h)⟩
  | some i :: rs, F, e, Ls, s => by
    obtain ⟨F', Ls', sx', b, c⟩ := Sx.fzs rs (s.fz i)
    have b' : Eff false F H Ls [] F' H Ls' [] := (Eff.fz F H Ls [] i).trans b
    refine ⟨F', Ls', sx', b', fun r h x hx => ?_⟩
    by_cases z : r = i
    · exact b.fm x (.inr (z ▸ hx))
    · exact c r (by simpa [z] using h) x (by rw [up_ne z]; exact hx)

/-- a slot takes a value -/
theorem Sx.put (s : Sx K Er F H e σ Ls) {i : Nat} {v : V} {d : D} {L : List Addr} (hx : Er i = none) (hi : i < e.length) (r : Rep K Er F H v d L) (n : L.Nodup) (o : ∀ a ∈ L, ¬ F a ∧ ¬ In Ls a) :
    Sx K Er F H (e.set i (some d)) (σ.set i (some v)) (up Ls i L) where
  len := by rw [List.length_set, List.length_set]; exact s.len
  rep := fun j d' h => by
    by_cases z : j = i
    · subst z
      rw [List.getElem?_set_self hi] at h
      cases h
      exact ⟨v, by rw [List.getElem?_set_self (s.len ▸ hi)], by rw [up_same]; exact r⟩
    · rw [List.getElem?_set_ne fun w => z w.symm] at h
      obtain ⟨v', a, r'⟩ := s.rep j d' h
      exact ⟨v', by rw [List.getElem?_set_ne fun w => z w.symm]; exact a, by rw [up_ne z]; exact r'⟩
  emp := fun j h => by
    by_cases z : j = i
    · subst z
      exact absurd (List.getElem?_set_self hi) (h d)
    · rw [up_ne z]
      refine s.emp j fun d' q => h d' ?_
      rw [List.getElem?_set_ne fun w => z w.symm]; exact q
  nd := fun j => by
    by_cases z : j = i
    · subst z; rw [up_same]; exact n
    · rw [up_ne z]; exact s.nd j
  dj := fun j k a h1 h2 => by
    by_cases z : j = i
    · by_cases z' : k = i
      · rw [z, z']
      · rw [z, up_same] at h1
        rw [up_ne z'] at h2
        exact absurd ⟨k, h2⟩ (o a h1).2
    · by_cases z' : k = i
      · rw [z', up_same] at h2
        rw [up_ne z] at h1
        exact absurd ⟨j, h1⟩ (o a h2).2
      · rw [up_ne z] at h1; rw [up_ne z'] at h2
        exact s.dj j k a h1 h2
  nf := fun j a h => by
    by_cases z : j = i
    · subst z; rw [up_same] at h; exact (o a h).1
    · rw [up_ne z] at h; exact s.nf j a h
  fa := s.fa
  fx := fun j w h => by
    have z : i ≠ j := fun z => by rw [← z, hx] at h; cases h
    rw [List.getElem?_set_ne z]; exact s.fx j w h
theorem Eff.put {i : Nat} {L : List Addr} (hL : ∀ a ∈ L, a ∈ U) : Eff true F H Ls U F H (up Ls i L) U :=
  ⟨fun _ _ h _ => h, fun _ h => h, fun _ h => h, fun _ h => .inr (.inr (.inl h)), fun a h => h.elim (fun h => h.up.elim (fun z => .inr (.inl (hL a z))) fun ⟨j, _, z⟩ => .inl ⟨j, z⟩) (fun z => .inr (.inl z)), fun z => Bool.noConfusion z⟩
/-- a slot is forgotten (and may hold anything) -/
theorem Sx.unset (s : Sx K Er F H e σ Ls) {i : Nat} (hx : Er i = none) (x : Option V) : Sx K Er F H (e.set i none) (σ.set i x) (up Ls i []) where
  len := by rw [List.length_set, List.length_set]; exact s.len
  rep := fun j d' h => by
    by_cases z : j = i
    · subst z
      by_cases hj : j < e.length
      · rw [List.getElem?_set_self hj] at h; cases h
      · rw [List.getElem?_eq_none (by rw [List.length_set]; omega)] at h; cases h
    · rw [List.getElem?_set_ne fun w => z w.symm] at h
      obtain ⟨v', a, r'⟩ := s.rep j d' h
      exact ⟨v', by rw [List.getElem?_set_ne fun w => z w.symm]; exact a, by rw [up_ne z]; exact r'⟩
  emp := fun j h => by
    by_cases z : j = i
    · subst z; exact up_same
    · rw [up_ne z]
      refine s.emp j fun d' q => h d' ?_
      rw [List.getElem?_set_ne fun w => z w.symm]; exact q
  nd := fun j => by
    by_cases z : j = i
    · subst z; rw [up_same]; exact List.nodup_nil
    · rw [up_ne z]; exact s.nd j
  dj := fun j k a h1 h2 => by
    by_cases z : j = i
    · rw [z, up_same] at h1; cases h1
    · by_cases z' : k = i
      · rw [z', up_same] at h2; cases h2
      · rw [up_ne z] at h1; rw [up_ne z'] at h2
        exact s.dj j k a h1 h2
  nf := fun j a h => by
    by_cases z : j = i
    · rw [z, up_same] at h; cases h
    · rw [up_ne z] at h; exact s.nf j a h
  fa := s.fa
  fx := fun j w h => by
    have z : i ≠ j := fun z => by rw [← z, hx] at h; cases h
    rw [List.getElem?_set_ne z]; exact s.fx j w h
/-- a slot is forgotten, its value stays -/
theorem Sx.drop (s : Sx K Er F H e σ Ls) {i : Nat} : Sx K Er F H (e.set i none) σ (up Ls i []) := by
  refine ⟨by rw [List.length_set]; exact s.len, fun j d' h => ?_, fun j h => ?_, fun j => ?_, fun j k a h1 h2 => ?_, fun j a h => ?_, s.fa, s.fx⟩
  · by_cases z : j = i
    · subst z
      by_cases hj : j < e.length
      · rw [List.getElem?_set_self hj] at h; cases h
      · rw [List.getElem?_eq_none (by rw [List.length_set]; omega)] at h; cases h
    · rw [List.getElem?_set_ne fun w => z w.symm] at h
      obtain ⟨v', a, r'⟩ := s.rep j d' h
      exact ⟨v', a, by rw [up_ne z]; exact r'⟩
  · by_cases z : j = i
    · subst z; exact up_same
    · rw [up_ne z]
      refine s.emp j fun d' q => h d' ?_
      rw [List.getElem?_set_ne fun w => z w.symm]; exact q
  · by_cases z : j = i
    · subst z; rw [up_same]; exact List.nodup_nil
    · rw [up_ne z]; exact s.nd j
  · by_cases z : j = i
    · rw [z, up_same] at h1; cases h1
    · by_cases z' : k = i
      · rw [z', up_same] at h2; cases h2
      · rw [up_ne z] at h1; rw [up_ne z'] at h2
        exact s.dj j k a h1 h2
  · by_cases z : j = i
    · rw [z, up_same] at h; cases h
    · rw [up_ne z] at h; exact s.nf j a h
theorem Eff.drop {i : Nat} : Eff false F H Ls U F H (up Ls i []) U where
  keep := fun _ _ h _ => h
  live := fun _ h => h
  fm := fun _ h => h
  fn := fun _ h => .inr (.inr (.inl h))
  sub := fun a h => by
    rcases h with h | h
    · rcases h.up with z | ⟨j, _, z⟩
      · cases z
      · exact .inl ⟨j, z⟩
    · exact .inr (.inl h)
  shr := fun _ j a h => by
    by_cases z : j = i
    · subst z; rw [up_same] at h; cases h
    · rw [up_ne z] at h; exact h

/-- the list that a slot owns -/
theorem Sx.owned (s : Sx K Er F H e σ Ls) {i : Nat} {ds : List D} (h : e[i]? = some (some (.lst true ds))) :
    ∃ a vs L, σ[i]? = some (some (.ref a)) ∧ H a = some (.lst vs) ∧ Reps K Er F H vs ds L ∧ Ls i = a :: L ∧ a ∉ L ∧ L.Nodup := by
  obtain ⟨v, q, r⟩ := s.rep i _ h
  generalize hL : Ls i = M at r
  cases r with
  | own h1 r1 =>
    have nd := s.nd i
    rw [hL, List.nodup_cons] at nd
    exact ⟨_, _, _, q, h1, r1, rfl, nd.1, nd.2⟩
/-- .. is changed -/
theorem Sx.write (s : Sx K Er F H e σ Ls) {i : Nat} {a : Addr} {vs vs' : List V} {ds ds' : List D} {L L' : List Addr} (h : e[i]? = some (some (.lst true ds))) (hσ : σ[i]? = some (some (.ref a)))
    (ha : H a = some (.lst vs)) (hL : Ls i = a :: L) (r : Reps K Er F H vs' ds' L') (n : L'.Nodup) (o : ∀ b ∈ L', b ≠ a ∧ ¬ F b ∧ ∀ j, j ≠ i → b ∉ Ls j) :
    Sx K Er F (upd H a (.lst vs')) (e.set i (some (.lst true ds'))) σ (up Ls i (a :: L')) := by
  have hi : i < e.length := by
    obtain ⟨z, _⟩ := List.getElem?_eq_some_iff.mp h
    exact z
  have ain : a ∈ Ls i := by rw [hL]; exact List.mem_cons_self
  have kp : Kp (fun b => b = a) F H F (upd H a (.lst vs')) := ⟨fun b u q n => by rw [upd_ne n]; exact q, fun b z => by subst z; exact ⟨_, ha, rfl⟩, fun _ h => h, fun b z => by subst z; exact s.nf i _ ain⟩
  refine ⟨by rw [List.length_set]; exact s.len, fun j d' q => ?_, fun j q => ?_, fun j => ?_, fun j k b h1 h2 => ?_, fun j b q => ?_, fun b q => ?_, s.fx⟩
  · by_cases z : j = i
    · subst z
      rw [List.getElem?_set_self hi] at q
      cases q
      refine ⟨_, hσ, ?_⟩
      rw [up_same]
      exact .own upd_same (r.kp kp fun b hb => (o b hb).1)
    · rw [List.getElem?_set_ne fun w => z w.symm] at q
      obtain ⟨v', a', r'⟩ := s.rep j d' q
      rw [up_ne z]
      exact ⟨v', a', r'.kp kp fun b hb w => z (s.dj j i a (w ▸ hb) ain)⟩
  · by_cases z : j = i
    · subst z
      exact absurd (List.getElem?_set_self hi) (q _)
    · rw [up_ne z]
      refine s.emp j fun d' w => q d' ?_
      rw [List.getElem?_set_ne fun w => z w.symm]; exact w
  · by_cases z : j = i
    · subst z; rw [up_same, List.nodup_cons]; exact ⟨fun w => (o a w).1 rfl, n⟩
    · rw [up_ne z]; exact s.nd j
  · have one : ∀ k b, k ≠ i → b ∈ a :: L' → b ∉ Ls k := fun k b z hb w => by
      rcases List.mem_cons.mp hb with rfl | hb
      · exact z (s.dj k i _ w ain)
      · exact (o b hb).2.2 k z w
    by_cases z : j = i
    · by_cases z' : k = i
      · rw [z, z']
      · rw [z, up_same] at h1
        rw [up_ne z'] at h2
        exact absurd h2 (one k b z' h1)
    · by_cases z' : k = i
      · rw [z', up_same] at h2
        rw [up_ne z] at h1
        exact absurd h1 (one j b z h2)
      · rw [up_ne z] at h1; rw [up_ne z'] at h2
        exact s.dj j k b h1 h2
  · by_cases z : j = i
    · subst z
      rw [up_same] at q
      rcases List.mem_cons.mp q with rfl | q
      · exact s.nf j _ ain
      · exact (o b q).2.1
    · rw [up_ne z] at q; exact s.nf j b q
  · by_cases z : b = a
    · rw [z, upd_same]; simp
    · rw [upd_ne z]; exact s.fa b q
theorem Eff.write {i : Nat} {a : Addr} {o : HO} {L' : List Addr} (ain : a ∈ Ls i) (hL : ∀ b ∈ L', In Ls b ∨ b ∈ U) : Eff true F H Ls U F (upd H a o) (up Ls i (a :: L')) U where
  keep := fun b u h n => by
    have hb : b ≠ a := fun z => (n rfl).1 (z ▸ ⟨i, ain⟩)
    rw [upd_ne hb]
    exact h
  live := fun b h => by
    by_cases z : b = a
    · rw [z, upd_same]; simp
    · rw [upd_ne z]; exact h
  fm := fun _ h => h
  fn := fun _ h => .inr (.inr (.inl h))
  sub := fun b h => by
    rcases h with h | h
    · rcases h.up with z | ⟨j, _, z⟩
      · rcases List.mem_cons.mp z with e | z
        · exact .inl (e ▸ ⟨i, ain⟩)
        · rcases hL b z with w | w
          · exact .inl w
          · exact .inr (.inl w)
      · exact .inl ⟨j, z⟩
    · exact .inr (.inl h)
  shr := fun z => Bool.noConfusion z
end
end VI
set_option maxRecDepth 100000
set_option maxHeartbeats 2000000
/-! VI: the check of a core text against the model's; readings of the core language. -/
namespace VI
open PySem PySem.Spec PyProof.Rows L2

/-! ### forms of the model's expressions -/
def plain : Expr → Bool
  | .Constant _ _ _ => true | .Name _ _ => true | .BinOp _ _ _ _ => true | .UnaryOp _ _ _ => true | .Compare _ _ _ _ => true | .BoolOp _ _ _ => true | .Call _ _ _ _ => true
  | .Subscript _ _ _ => true | .Attribute _ _ _ => true | .List _ _ => true | .Tuple _ _ _ => true | .ListComp _ _ _ _ => true | .Dict _ _ _ => true | .IfExp _ _ _ _ => true
  | _ => false
/-- its truth is asked of its value -/
def valued : Expr → Bool
  | .UnaryOp .Not _ _ => false | .BoolOp _ _ _ => false | .IfExp _ _ _ _ => false | .Compare _ _ _ _ => false
  | _ => true
def noSup : Expr → Bool
  | .Call (.Name _ _) [] [] _ => false
  | _ => true
def noComp : Expr → Bool
  | .ListComp _ _ _ _ => false
  | _ => true
section
variable {env : PySem.Env}
theorem star_plain {e : Expr} (h : plain e = true) (es : List Expr) : starEach (e :: es) env = (false, eval e env) :: starEach es env := by
  cases e <;> first | rfl | (simp [plain] at h)
theorem back_plain {pos : Pos} : ∀ {es : List Expr}, es.all plain = true → (backTo pos (starEach es env)).any (·.1) = false
  | [], _ => rfl
  | e :: es, h => by
    rw [List.all_cons, Bool.and_eq_true] at h
    rw [star_plain h.1]
    show (false || (backTo pos (starEach es env)).any (·.1)) = false
    rw [Bool.false_or]
    exact back_plain h.2
theorem folded_plain {e : Expr} (h : plain e = true) (x : Value) : foldedSetIterable e env x = pure x := by
  cases e <;> first | rfl | (simp [plain] at h)
theorem marks_plain {e : Expr} (h : plain e = true) (op : CmpOp) : behindInMarks op e = false := by
  cases e <;> first | rfl | (simp [plain] at h)
theorem plainIx_plain {e : Expr} (h : plain e = true) : PlainIx e := by
  intro o i
  cases e <;> first | rfl | (simp [plain] at h)
theorem swaps_plain {e : Expr} (h : plain e = true) (h2 : noComp e = true) (t : Option Expr) (n : Nat) : swapsWith e t n env = pure false := by
  cases e <;> first | rfl | (simp [noComp] at h2; done) | (simp [plain] at h; done)
theorem truth_plain {e : Expr} (h : plain e = true) (h2 : valued e = true) (whole : Sem Value) : PySem.isTrue e env whole = (do let v ← whole; standAt e.pos; holding [v] (truthy v)) := by
  cases e <;> first | rfl | (simp [plain] at h) | (simp [valued] at h2) | skip
  all_goals (rename_i op _ _; cases op <;> first | rfl | (simp [valued] at h2))
theorem attr_plain {o : Expr} (h : noSup o = true) (f : Str) (w : Sem Value) : attributeBase o f env w = w := by
  unfold attributeBase
  split
  · simp [noSup] at h
  · rfl
end

/-! ### readings -/
section
variable (K : PySem.W.Frag) (Er : EE) (Wf : Bool → Nat → L2.St → Hp → Prop)
/-- what is told is owned by nobody else -/
structure Own (F : Addr → Prop) (Ls : Nat → List Addr) (L : List Addr) : Prop where
  nd : L.Nodup
  no : ∀ a ∈ L, ¬ F a ∧ ¬ In Ls a
/-- what is looked at: what is owned of it is the slot r's -/
def View (r : Option Nat) (F : Addr → Prop) (Ls : Nat → List Addr) (L : List Addr) : Prop := ∀ a ∈ L, In Ls a → ¬ F a → ∃ i, r = some i ∧ a ∈ Ls i
def OV (p : Bool) (r : Option Nat) (F : Addr → Prop) (Ls : Nat → List Addr) (L : List Addr) : Prop := if p = true then View r F Ls L else Own F Ls L
def ExP (m : Bool) (F : Addr → Prop) (H : Hp) (Ls : Nat → List Addr) (U : List Addr) (σ : L2.St) (h : Bool) (c : Nat) (e' : Env) : Prop :=
  ∀ F' H' Ls', Eff m F H Ls U F' H' Ls' [] → Sx K Er F' H' e' σ Ls' → Wf h c σ H'
/-- behind a result -/
def PostE (m : Bool) (F : Addr → Prop) (H : Hp) (Ls : Nat → List Addr) (U : List Addr) (σ : L2.St) (p : Bool) (rt : Option Nat) (r : R D) (Q : VK) : Prop := match r with
  | .ok d e' => ∀ v F' H' Ls' L, Eff m F H Ls U F' H' Ls' L → Sx K Er F' H' e' σ Ls' → Rep K Er F' H' v d L → OV p rt F' Ls' L → Q v H'
  | .ex c h e' => ExP K Er Wf m F H Ls U σ h c e'
  | .stuck => False
def tE (P : Par) (c : C) (p : Bool) : TE := fun σ H Q => ∃ F e Ls, Sx K Er F H e σ Ls ∧ PostE K Er Wf (mu c) F H Ls [] σ p (root c) (ev P c p e) Q
def PostA (m : Bool) (F : Addr → Prop) (H : Hp) (Ls : Nat → List Addr) (U : List Addr) (σ : L2.St) (p : Bool) (rs : List (Option Nat)) (r : R (List D)) (Q : List V → Hp → Prop) : Prop := match r with
  | .ok ds e' => ∀ vs F' H' Ls' L, Eff m F H Ls U F' H' Ls' L → Sx K Er F' H' e' σ Ls' → Reps K Er F' H' vs ds L → (p = false → Own F' Ls' L) → (p = true → ∀ a ∈ L, In Ls' a → ¬ F' a → ∃ r, some r ∈ rs ∧ a ∈ Ls' r) → Q vs H'
  | .ex c h e' => ExP K Er Wf m F H Ls U σ h c e'
  | .stuck => False
def tAr (P : Par) (c : C) (p : Bool) : TA := fun σ H Q => ∃ F e Ls, Sx K Er F H e σ Ls ∧ PostA K Er Wf (mu c) F H Ls [] σ p (roots c) (evA P c p e) Q
end
section
variable {K : PySem.W.Frag} {Er : EE} {Wf : Bool → Nat → L2.St → Hp → Prop} {F F' F1 : Addr → Prop} {H H' H1 : Hp} {Ls Ls' Ls1 : Nat → List Addr} {U T L : List Addr} {σ : L2.St} {m m1 m2 p : Bool} {rt : Option Nat} {Q : VK} {e e' : Env}
theorem Own.view (o : Own F Ls L) : View rt F Ls L := fun a h hi => absurd hi (o.no a h).2
theorem Own.nil : Own F Ls [] := ⟨List.nodup_nil, fun _ h => nomatch h⟩
theorem View.nil : View rt F Ls [] := fun _ h => nomatch h
theorem OV.nil : OV p rt F Ls [] := by
  unfold OV
  split
  · exact View.nil
  · exact Own.nil
theorem Own.ov (o : Own F Ls L) (h : rt = none) : OV p rt F Ls L := by
  unfold OV
  split
  · exact o.view
  · exact o
theorem ExP.step {h : Bool} {c : Nat} (h1 : m1 = true → m = true) (h2 : m2 = true → m = true) (E : Eff m1 F H Ls U F1 H1 Ls1 T) (q : ExP K Er Wf m F H Ls U σ h c e') : ExP K Er Wf m2 F1 H1 Ls1 (U ++ T) σ h c e' :=
  fun F' H' Ls' x s => q F' H' Ls' ((E.trans x).mono fun z => by
    rcases Bool.or_eq_true_iff.mp z with z | z
    · exact h1 z
    · exact h2 z) s
theorem ExP.weak {h : Bool} {c : Nat} (h1 : m1 = true → m = true) (q : ExP K Er Wf m F H Ls U σ h c e') : ExP K Er Wf m1 F H Ls U σ h c e' := fun F' H' Ls' x s => q F' H' Ls' (x.mono h1) s
theorem ExP.none {h : Bool} {c : Nat} (q : ExP K Er Wf m F H Ls U σ h c e') : ExP K Er Wf m F H Ls [] σ h c e' := fun F' H' Ls' x s => q F' H' Ls' (x.more fun _ z => nomatch z) s
/-- from the state behind E -/
theorem PostE.step {r : R D} (h1 : m1 = true → m = true) (h2 : m2 = true → m = true) (E : Eff m1 F H Ls U F1 H1 Ls1 T) (q : PostE K Er Wf m F H Ls U σ p rt r Q) : PostE K Er Wf m2 F1 H1 Ls1 (U ++ T) σ p rt r Q := by
  cases r with
  | ok d e' => exact fun v F' H' Ls' L x => q v F' H' Ls' L ((E.trans x).mono fun z => by
      rcases Bool.or_eq_true_iff.mp z with z | z
      · exact h1 z
      · exact h2 z)
  | ex c h e' => exact ExP.step h1 h2 E q
  | stuck => exact q
theorem _root_.L2.PE.imp {X : Cx} {e : Expr} {t t' : TE} (h : PE X e t) (i : ∀ σ H Q, t' σ H Q → t σ H Q) : PE X e t' := ⟨fun pins s σ H Q I q => h.run pins s σ H Q I (i σ H Q q)⟩
theorem _root_.L2.PT.imp {X : Cx} {e : Expr} {t t' : TT} (h : PT X e t) (i : ∀ σ H Q, t' σ H Q → t σ H Q) : PT X e t' := ⟨fun pins s σ H Q I q => h.run pins s σ H Q I (i σ H Q q)⟩
theorem _root_.L2.PW.imp {X : Cx} {e : Expr} {t t' : TT} (h : PW X e t) (i : ∀ σ H Q, t' σ H Q → t σ H Q) : PW X e t' := ⟨fun w pins s σ H Q I q => h.run w pins s σ H Q I (i σ H Q q)⟩
theorem _root_.L2.PA.imp {X : Cx} {es : List Expr} {t t' : TA} (h : PA X es t) (i : ∀ σ H Q, t' σ H Q → t σ H Q) : PA X es t' := ⟨fun pos pins s σ H Q I q => h.run pos pins s σ H Q I (i σ H Q q)⟩

/-- in a state: an operand -/
theorem tE.mk {P : Par} {c : C} (s : Sx K Er F H e σ Ls) (h : PostE K Er Wf (mu c) F H Ls [] σ p (root c) (ev P c p e) Q) : tE K Er Wf P c p σ H Q := ⟨F, e, Ls, s, h⟩
/-- an operand, then the rest f: g is asked at each of the operand's good ends -/
theorem opnd {P : Par} {a : C} {f : D → Env → R D} {Qa : VK} {pa : Bool} (s : Sx K Er F H e σ Ls) (h1 : mu a = true → m = true) (h2 : m2 = true → m = true) (q : PostE K Er Wf m F H Ls U σ p rt ((ev P a pa e).bind f) Q)
    (g : ∀ d e1 v F1 H1 Ls1 L, Eff (mu a) F H Ls [] F1 H1 Ls1 L → Sx K Er F1 H1 e1 σ Ls1 → Rep K Er F1 H1 v d L → OV pa (root a) F1 Ls1 L → PostE K Er Wf m2 F1 H1 Ls1 (U ++ L) σ p rt (f d e1) Q → Qa v H1) : tE K Er Wf P a pa σ H Qa := by
  refine ⟨F, e, Ls, s, ?_⟩
  cases hr : ev P a pa e with
  | ok d e1 =>
    rw [hr] at q
    intro v F1 H1 Ls1 L E S r o
    exact g d e1 v F1 H1 Ls1 L E S r o (PostE.step h1 h2 (E.more fun _ z => nomatch z) q)
  | ex c h e' =>
    rw [hr] at q
    exact ExP.weak h1 (ExP.none q)
  | stuck => rw [hr] at q; exact q
end
end VI
set_option maxRecDepth 100000
set_option maxHeartbeats 2000000
/-! VI: operations by values. -/
namespace VI
open PySem PySem.Spec PyProof.Rows L2

/-! ### what a value's data tells -/
section
variable {K : PySem.W.Frag} {Er : EE} {F F' F1 : Addr → Prop} {H H' H1 : Hp} {v : V} {L : List Addr} {e : Env} {σ : L2.St} {Ls : Nat → List Addr} {U : List Addr}
theorem Rep.non' (r : Rep K Er F H v .non L) : v = .non ∧ L = [] := by cases r; exact ⟨rfl, rfl⟩
theorem Rep.bl' {b : Bool} (r : Rep K Er F H v (.bl b) L) : v = .bl b ∧ L = [] := by cases r; exact ⟨rfl, rfl⟩
theorem Rep.int' {i : Int} (r : Rep K Er F H v (.int i) L) : v = .int i ∧ L = [] := by cases r; exact ⟨rfl, rfl⟩
theorem Rep.str' {s : Str} (r : Rep K Er F H v (.str s) L) : v = .str s ∧ L = [] := by cases r; exact ⟨rfl, rfl⟩
theorem sqT_of {a : Addr} {vs : List V} (h : H a = some (.tup vs)) : SqT K H a vs := .inl (.inl h)
theorem Rep.tup' {ds : List D} (r : Rep K Er F H v (.tup ds) L) : ∃ a vs, v = .ref a ∧ H a = some (.tup vs) ∧ Reps K Er F H vs ds L := by cases r with | tup h q => exact ⟨_, _, rfl, h, q⟩
theorem Rep.dct' {m : Bool} {ks : List Key} {ds : List D} (r : Rep K Er F H v (.dct m ks ds) L) : ∃ a kvs M, v = .ref a ∧ Rd H a (.dK kvs) ∧ kvs.map (·.1) = ks ∧ Reps K Er F H (kvs.map (·.2)) ds M ∧ M.Sublist L := by
  cases r with
  | dow h e q => exact ⟨_, _, _, rfl, .inl h, e.1, q, List.sublist_cons_self _ _⟩
  | dfr h f e q => exact ⟨_, _, _, rfl, h, e.1, q, List.Sublist.refl _⟩
theorem Rep.dtt' {m : Bool} {ks : List (List Key)} {ds : List D} (r : Rep K Er F H v (.dtt m ks ds) L) : ∃ a kvs M, v = .ref a ∧ Rd H a (.dT kvs) ∧ kvs.map (·.1) = ks ∧ Reps K Er F H (kvs.map (·.2)) ds M ∧ M.Sublist L := by
  cases r with
  | tow h e q => exact ⟨_, _, _, rfl, .inl h, e.1, q, List.sublist_cons_self _ _⟩
  | tfr h f e q => exact ⟨_, _, _, rfl, h, e.1, q, List.Sublist.refl _⟩
theorem Rep.obj' {m : Bool} {c : Str} {fs : List Str} {ds : List D} (r : Rep K Er F H v (.obj m c fs ds) L) : ∃ a dx fvs M, v = .ref a ∧ H a = some (.ins (He.ga K c) dx fvs) ∧ fvs.map (·.1) = fs ∧ Reps K Er F H (fvs.map (·.2)) ds M ∧ M.Sublist L := by
  cases r with
  | oow h e q => exact ⟨_, _, _, _, rfl, h, e, q, List.sublist_cons_self _ _⟩
  | ofr h f e q => exact ⟨_, _, _, _, rfl, h, e, q, List.Sublist.refl _⟩
theorem Rep.exn' {c : Str} {fs : List Str} {ds : List D} (r : Rep K Er F H v (.exn c fs ds) L) : ∃ a fvs, v = .ref a ∧ XnS K c fs ∧ XnH K H a c fvs ∧ fvs.map (·.1) = fs ∧ Reps K Er F H (fvs.map (·.2)) ds L := by
  cases r with
  | exn s h e q => exact ⟨_, _, rfl, s, h, e, q⟩
theorem Rep.lst' {m : Bool} {ds : List D} (r : Rep K Er F H v (.lst m ds) L) : ∃ a vs M, v = .ref a ∧ Rd H a (.lst vs) ∧ Reps K Er F H vs ds M ∧ M.Sublist L := by
  cases r with
  | own h q => exact ⟨_, _, _, rfl, .inl h, q, List.sublist_cons_self _ _⟩
  | fro h f q => exact ⟨_, _, _, rfl, h, q, List.Sublist.refl _⟩
theorem Rep.scr' {ns : List Int} (r : Rep K Er F H v (.scr ns) L) : ∃ a, v = .ref a ∧ Scr K H a (ns.map .int) ∧ L = [] := by cases r with | scr h => exact ⟨_, rfl, h, rfl⟩
theorem Reps.nil' {vs : List V} (r : Reps K Er F H vs [] L) : vs = [] ∧ L = [] := by cases r; exact ⟨rfl, rfl⟩
theorem Reps.cons' {vs : List V} {d : D} {ds : List D} (r : Reps K Er F H vs (d :: ds) L) : ∃ v ws M N, vs = v :: ws ∧ Rep K Er F H v d M ∧ Reps K Er F H ws ds N ∧ L = M ++ N := by
  cases r with
  | cons a b => exact ⟨_, _, _, _, rfl, a, b, rfl⟩
theorem Reps.one' {vs : List V} {d : D} (r : Reps K Er F H vs [d] L) : ∃ v, vs = [v] ∧ Rep K Er F H v d L := by
  obtain ⟨v, ws, M, N, rfl, a, b, rfl⟩ := r.cons'
  obtain ⟨rfl, rfl⟩ := b.nil'
  exact ⟨v, rfl, by rw [List.append_nil]; exact a⟩
theorem Reps.two' {vs : List V} {d d' : D} (r : Reps K Er F H vs [d, d'] L) : ∃ v v' M M', vs = [v, v'] ∧ Rep K Er F H v d M ∧ Rep K Er F H v' d' M' ∧ L = M ++ M' := by
  obtain ⟨v, ws, M, N, rfl, a, b, rfl⟩ := r.cons'
  obtain ⟨v', rfl, c⟩ := b.one'
  exact ⟨v, v', M, N, rfl, a, c, rfl⟩
theorem intsD_some : ∀ {ds : List D} {ns : List Int}, intsD ds = some ns → ds = ns.map .int
  | [], ns, h => by simp [intsD] at h; subst h; rfl
  | .int i :: xs, ns, h => by
    simp only [intsD] at h
    cases q : intsD xs with
    | none => rw [q] at h; cases h
    | some r =>
      rw [q] at h
      simp at h; subst h
      rw [List.map_cons, ← intsD_some q]
  | .non :: _, _, h => by simp [intsD] at h
  | .bl _ :: _, _, h => by simp [intsD] at h
  | .str _ :: _, _, h => by simp [intsD] at h
  | .tup _ :: _, _, h => by simp [intsD] at h
  | .lst _ _ :: _, _, h => by simp [intsD] at h
  | .dct _ _ _ :: _, _, h => by simp [intsD] at h
  | .dtt _ _ _ :: _, _, h => by simp [intsD] at h
  | .obj _ _ _ _ :: _, _, h => by simp [intsD] at h
  | .scr _ :: _, _, h => by simp [intsD] at h
  | .unk :: _, _, h => by simp [intsD] at h
  | .hole _ :: _, _, h => by simp [intsD] at h
  | .exn _ _ _ :: _, _, h => by simp [intsD] at h
theorem strsD_some : ∀ {ds : List D} {ns : List Str}, strsD ds = some ns → ds = ns.map .str
  | [], ns, h => by simp [strsD] at h; subst h; rfl
  | .str i :: xs, ns, h => by
    simp only [strsD] at h
    cases q : strsD xs with
    | none => rw [q] at h; cases h
    | some r =>
      rw [q] at h
      simp at h; subst h
      rw [List.map_cons, ← strsD_some q]
  | .non :: _, _, h => by simp [strsD] at h
  | .bl _ :: _, _, h => by simp [strsD] at h
  | .int _ :: _, _, h => by simp [strsD] at h
  | .tup _ :: _, _, h => by simp [strsD] at h
  | .lst _ _ :: _, _, h => by simp [strsD] at h
  | .dct _ _ _ :: _, _, h => by simp [strsD] at h
  | .dtt _ _ _ :: _, _, h => by simp [strsD] at h
  | .obj _ _ _ _ :: _, _, h => by simp [strsD] at h
  | .scr _ :: _, _, h => by simp [strsD] at h
  | .unk :: _, _, h => by simp [strsD] at h
  | .hole _ :: _, _, h => by simp [strsD] at h
  | .exn _ _ _ :: _, _, h => by simp [strsD] at h
theorem Reps.ints : ∀ {ns : List Int} {vs : List V} {L : List Addr}, Reps K Er F H vs (ns.map .int) L → vs = ns.map .int ∧ L = []
  | [], _, _, r => r.nil'
  | n :: ns, _, _, r => by
    obtain ⟨v, ws, M, N, rfl, a, b, rfl⟩ := r.cons'
    obtain ⟨rfl, rfl⟩ := a.int'
    obtain ⟨rfl, rfl⟩ := Reps.ints b
    exact ⟨rfl, rfl⟩
theorem Reps.strs : ∀ {ns : List Str} {vs : List V} {L : List Addr}, Reps K Er F H vs (ns.map .str) L → vs = ns.map .str ∧ L = []
  | [], _, _, r => r.nil'
  | n :: ns, _, _, r => by
    obtain ⟨v, ws, M, N, rfl, a, b, rfl⟩ := r.cons'
    obtain ⟨rfl, rfl⟩ := a.str'
    obtain ⟨rfl, rfl⟩ := Reps.strs b
    exact ⟨rfl, rfl⟩
theorem Reps.ofInts : ∀ ns : List Int, Reps K Er F H (ns.map .int) (ns.map .int) []
  | [] => .nil
  | n :: ns => .cons (L := []) (M := []) (.int n) (Reps.ofInts ns)
theorem Reps.ofStrs : ∀ ns : List Str, Reps K Er F H (ns.map .str) (ns.map .str) []
  | [] => .nil
  | n :: ns => .cons (L := []) (M := []) (.str n) (Reps.ofStrs ns)
theorem Rep.flatV (r : Rep K Er F H v d L) (f : flat d = true) : L2.flatV v = true := by
  cases r <;> first | rfl | (simp [flat] at f)
theorem Reps.flatV : ∀ {vs : List V} {ds : List D} {L : List Addr}, Reps K Er F H vs ds L → ds.all flat = true → vs.all L2.flatV = true
  | _, _, _, .nil, _ => rfl
  | _, _, _, .cons r t, f => by
    rw [List.all_cons, Bool.and_eq_true] at f ⊢
    exact ⟨Rep.flatV r f.1, Reps.flatV t f.2⟩
theorem eqV_flat {v v' : V} {d d' : D} {L L' : List Addr} (r : Rep K Er F H v d L) (r' : Rep K Er F H v' d' L') (f : flat d = true) (f' : flat d' = true) : eqV v v' = flatEq d d' := by
  cases r <;> (first | (simp [flat] at f; done) | skip) <;> cases r' <;> first | (simp [flat] at f'; done) | rfl
theorem anyV_flat {x : V} {d : D} {Lx : List Addr} (r : Rep K Er F H x d Lx) (f : flat d = true) : ∀ {vs : List V} {ds : List D} {L : List Addr}, Reps K Er F H vs ds L → ds.all flat = true → inV x vs = ds.any fun y => flatEq y d
  | _, _, _, .nil, _ => rfl
  | _, _, _, .cons q t, g => by
    rw [List.all_cons, Bool.and_eq_true] at g
    have ih := anyV_flat r f t g.2
    unfold inV at ih ⊢
    rw [List.any_cons, List.any_cons, ih, eqV_flat q r g.1 f]
mutual
theorem Rep.dp : ∀ {v : V} {d : D} {L : List Addr} {a : PyData}, Rep K Er F H v d L → py d = some a → Dp K H v a
  | _, _, _, _, .non, e => by simp [py] at e; subst e; exact .non
  | _, _, _, _, .bl b, e => by simp [py] at e; subst e; exact .bl b
  | _, _, _, _, .int b, e => by simp [py] at e; subst e; exact .int b
  | _, _, _, _, .str b, e => by simp [py] at e; subst e; exact .str b
  | _, _, _, _, .tup h r, e => by
    simp only [py] at e
    generalize q : pyL _ = o at e
    cases o with
    | none => cases e
    | some x => cases e; exact .tup (sqT_of h) (Reps.dp r q)
  | _, _, _, _, .own h r, e => by
    simp only [py] at e
    generalize q : pyL _ = o at e
    cases o with
    | none => cases e
    | some x => cases e; exact .lst (.inl (.inl h)) (Reps.dp r q)
  | _, _, _, _, .scr _, e => by simp [py] at e
  | _, _, _, _, .unk, e => by simp [py] at e
  | _, _, _, _, .hole _, e => by simp [py] at e
  | _, _, _, _, .exn _ _ _ _, e => by simp [py] at e
  | _, _, _, _, .fro h f r, e => by
    simp only [py] at e
    generalize q : pyL _ = o at e
    cases o with
    | none => cases e
    | some x => cases e; exact .lst (.inl h) (Reps.dp r q)
  | _, _, _, _, .dow h _ r, e => by simp [py] at e
  | _, _, _, _, .dfr h _ _ r, e => by simp [py] at e
  | _, _, _, _, .tow h _ r, e => by simp [py] at e
  | _, _, _, _, .tfr h _ _ r, e => by simp [py] at e
  | _, _, _, _, .oow h _ r, e => by simp [py] at e
  | _, _, _, _, .ofr h _ _ r, e => by simp [py] at e
theorem Reps.dp : ∀ {vs : List V} {ds : List D} {L : List Addr} {as : List PyData}, Reps K Er F H vs ds L → pyL ds = some as → DpAll K H vs as
  | _, _, _, _, .nil, e => by simp [pyL] at e; subst e; exact .nil
  | _, _, _, _, .cons r t, e => by
    simp only [pyL] at e
    split at e
    · rename_i a b q1 q2
      cases e
      exact .cons (Rep.dp r q1) (Reps.dp t q2)
    · cases e
end

/-! ### new things -/
theorem refl' : Eff false F H Ls U F H Ls U := ⟨fun _ _ h _ => h, fun _ h => h, fun _ h => h, fun _ h => .inr (.inr (.inl h)), fun a h => h.elim .inl fun z => .inr (.inl z), fun _ _ _ h => h⟩
/-- what a slice, a sum .. of looked-at things is told as: its parts ds stand there, owned by nobody -/
theorem shr_ok (s : Sx K Er F H e σ Ls) {rs : List (Option Nat)} {vs : List V} {ds : List D} (r : Reps K Er F H vs ds L) (hU : ∀ a ∈ L, a ∈ U) (hv : ∀ a ∈ L, In Ls a → ¬ F a → ∃ i, some i ∈ rs ∧ a ∈ Ls i) :
    ∃ F' Ls' e' ds', (∀ m, shr rs (.lst m ds) e = .ok (.lst m ds') e') ∧ shr rs (.tup ds) e = .ok (.tup ds') e' ∧ Sx K Er F' H e' σ Ls' ∧ Eff false F H Ls U F' H Ls' U ∧ Reps K Er F' H vs ds' [] := by
  cases h : lfL ds with
  | true =>
    have e0 := r.lf h
    subst e0
    exact ⟨F, Ls, e, ds, fun m => by simp [shr, inLf, h], by simp [shr, inLf, h], s, refl', r⟩
  | false =>
    obtain ⟨F1, Ls1, s1, E1, c1⟩ := s.fzs rs
    have nIn : ∀ a, In Ls1 a → ¬ (a ∈ L) := fun a ⟨i, h⟩ ha => by
      have hi := E1.shr rfl i a h
      by_cases hf : F a
      · exact s1.nf i a h (E1.fm a hf)
      · obtain ⟨j, hj, hm⟩ := hv a ha ⟨i, hi⟩ hf
        exact s1.nf i a h (c1 j hj a hm)
    refine ⟨fun a => F1 a ∨ a ∈ L, Ls1, rs.foldl fz e, frzL ds, fun m => by simp [shr, inLf, h, frzIn], by simp [shr, inLf, h, frzIn], ?_, ?_, ?_⟩
    · exact ⟨s1.len, fun i d q => let ⟨v, a, b⟩ := s1.rep i d q; ⟨v, a, b.all ⟨fun _ _ z => z, fun _ z => .inl z⟩⟩, s1.emp, s1.nd, s1.dj, fun i a q z => z.elim (s1.nf i a q) (nIn a ⟨i, q⟩), fun a z => z.elim (s1.fa a) (fun z => by
        obtain ⟨o, q, _⟩ := r.cell a z
        rw [q]; simp), s1.fx⟩
    · exact ⟨fun _ _ z _ => z, fun _ z => z, fun a z => .inl (E1.fm a z), fun a z => by
        rcases z with z | z
        · rcases E1.fn a z with w | w | w | w
          · exact .inl w
          · cases w
          · exact .inr (.inr (.inl w))
          · exact .inr (.inr (.inr w))
        · exact .inr (.inl (hU a z)), fun a z => by
        rcases z with z | z
        · rcases E1.sub a (.inl z) with w | w | w
          · exact .inl w
          · cases w
          · exact .inr (.inr w)
        · exact .inr (.inl z), E1.shr⟩
    · exact r.frz (fun _ z => .inl (E1.fm _ z)) fun _ z => .inr z
variable {Wf : Bool → Nat → L2.St → Hp → Prop} {m p : Bool} {rt : Option Nat} {Q : VK} {d : D}
/-- a value without cells -/
theorem fin0 (s : Sx K Er F H e σ Ls) (q : PostE K Er Wf m F H Ls U σ p rt (.ok d e) Q) (r : Rep K Er F H v d []) : Q v H :=
  q v F H Ls [] (Eff.refl.mono fun z => Bool.noConfusion z) s r OV.nil
/-- a new list -/
theorem finL (s : Sx K Er F H e σ Ls) {vs : List V} {ds : List D} (q : PostE K Er Wf m F H Ls U σ p none (.ok (.lst true ds) e) Q) (r : Reps K Er F H vs ds []) : ∀ a, H a = none → Q (.ref a) (upd H a (.lst vs)) := fun a n =>
  q (.ref a) F (upd H a (.lst vs)) Ls [a] (((Eff.laid s n).mono fun z => Bool.noConfusion z).less fun b hb => .inl (by simp at hb; simp [hb])) (s.laid n) (.own (L := []) upd_same (r.all (all_laid n)))
    (Own.ov ⟨by simp, fun b hb => by
      simp at hb; subst hb
      exact ⟨s.newF n, s.newI n⟩⟩ rfl)
/-- a new tuple -/
theorem finT (s : Sx K Er F H e σ Ls) {vs : List V} {ds : List D} (q : PostE K Er Wf m F H Ls U σ p none (.ok (.tup ds) e) Q) (r : Reps K Er F H vs ds []) : ∀ a, H a = none → Q (.ref a) (upd H a (.tup vs)) := fun a n =>
  q (.ref a) F (upd H a (.tup vs)) Ls [] (((Eff.laid s n).mono fun z => Bool.noConfusion z).less fun b hb => nomatch hb) (s.laid n) (.tup upd_same (r.all (all_laid n))) OV.nil
theorem finL' (s : Sx K Er F H e σ Ls) {rs : List (Option Nat)} {vs : List V} {ds : List D} (q : PostE K Er Wf m F H Ls U σ p none (shr rs (.lst true ds) e) Q) (r : Reps K Er F H vs ds L) (hU : ∀ a ∈ L, a ∈ U) (hv : ∀ a ∈ L, In Ls a → ¬ F a → ∃ i, some i ∈ rs ∧ a ∈ Ls i) :
    ∀ a, H a = none → Q (.ref a) (upd H a (.lst vs)) := by
  obtain ⟨F', Ls', e', ds', e1, _, s', E, r'⟩ := shr_ok s r hU hv
  rw [e1] at q
  exact finL s' (PostE.step (m1 := false) (m2 := m) (fun z => Bool.noConfusion z) id E q) r'
theorem finT' (s : Sx K Er F H e σ Ls) {rs : List (Option Nat)} {vs : List V} {ds : List D} (q : PostE K Er Wf m F H Ls U σ p none (shr rs (.tup ds) e) Q) (r : Reps K Er F H vs ds L) (hU : ∀ a ∈ L, a ∈ U) (hv : ∀ a ∈ L, In Ls a → ¬ F a → ∃ i, some i ∈ rs ∧ a ∈ Ls i) :
    (∀ a, H a = none → Q (.ref a) (upd H a (.tup vs))) ∧ ∀ a, H a = some (.tup vs) → Q (.ref a) H := by
  obtain ⟨F', Ls', e', ds', _, e1, s', E, r'⟩ := shr_ok s r hU hv
  rw [e1] at q
  have q' := PostE.step (m1 := false) (m2 := m) (fun z => Bool.noConfusion z) id E q
  exact ⟨finT s' q' r', fun a h => fin0 s' q' (.tup h r')⟩
end
theorem Reps.repl {K : PySem.W.Frag} {Er : EE} {F : Addr → Prop} {H : Hp} {vs : List V} {ds : List D} {L : List Addr} (r : Reps K Er F H vs ds L) : ∀ n : Nat, ∃ N, Reps K Er F H (List.replicate n vs).flatten (List.replicate n ds).flatten N ∧ ∀ c ∈ N, c ∈ L
  | 0 => ⟨[], .nil, fun _ h => nomatch h⟩
  | n + 1 => by
    obtain ⟨N, h, s⟩ := Reps.repl r n
    refine ⟨L ++ N, ?_, fun c hc => (List.mem_append.mp hc).elim id (s c)⟩
    rw [List.replicate_succ, List.replicate_succ, List.flatten_cons, List.flatten_cons]
    exact r.append h
/-! ### dicts -/
section
variable {K : PySem.W.Frag} {Er : EE} {F : Addr → Prop} {H : Hp}
theorem valV_idx {κ : Type} [DecidableEq κ] (k : κ) : ∀ kvs : List (κ × V), valV kvs k = (idxK (kvs.map (·.1)) k).bind ((kvs.map (·.2))[·]?)
  | [] => rfl
  | p :: r => by
    unfold idxK
    rw [List.map_cons, List.map_cons, List.findIdx?_cons]
    by_cases h : p.1 = k
    · rw [valV_pos h]
      simp [h]
    · rw [valV_neg h, valV_idx k r]
      simp only [h, decide_false, Bool.false_eq_true, if_false]
      unfold idxK
      cases (r.map (·.1)).findIdx? (fun x => decide (x = k)) <;> simp
theorem idxK_lt {κ : Type} [DecidableEq κ] {ks : List κ} {k : κ} {j : Nat} (h : idxK ks k = some j) : j < ks.length := by
  unfold idxK at h
  rw [List.findIdx?_eq_some_iff_findIdx_eq] at h
  exact h.1
theorem Reps.getK {κ : Type} [DecidableEq κ] {kvs : List (κ × V)} {xs : List D} {L : List Addr} {k : κ} {d : D} (r : Reps K Er F H (kvs.map (·.2)) xs L) (h : VI.getK (kvs.map (·.1)) xs k = some d) : ∃ v M, valV kvs k = some v ∧ Rep K Er F H v d M ∧ M.Sublist L := by
  unfold VI.getK at h
  rw [valV_idx]
  cases hj : idxK (kvs.map (·.1)) k with
  | none => rw [hj] at h; cases h
  | some j =>
    rw [hj] at h
    exact r.get h
theorem Reps.getK_none {κ : Type} [DecidableEq κ] {kvs : List (κ × V)} {xs : List D} {L : List Addr} {k : κ} (r : Reps K Er F H (kvs.map (·.2)) xs L) (h : VI.getK (kvs.map (·.1)) xs k = none) : valV kvs k = none := by
  unfold VI.getK at h
  rw [valV_idx]
  cases hj : idxK (kvs.map (·.1)) k with
  | none => rfl
  | some j =>
    rw [hj] at h
    have hl := idxK_lt hj
    rw [List.length_map] at hl
    have : xs.length = kvs.length := by rw [← r.len, List.length_map]
    replace h : xs[j]? = none := h
    rw [List.getElem?_eq_none_iff] at h
    omega
theorem Rep.keyD {v : V} {d : D} {L : List Addr} {k : Key} (r : Rep K Er F H v d L) (h : VI.keyD d = some k) : v = kV k ∧ L = [] := by
  cases d <;> (first | (cases h; done) | skip)
  · cases h; obtain ⟨rfl, rfl⟩ := r.int'; exact ⟨rfl, rfl⟩
  · cases h; obtain ⟨rfl, rfl⟩ := r.str'; exact ⟨rfl, rfl⟩
theorem Reps.keysD : ∀ {vs : List V} {ds : List D} {L : List Addr} {ks : List Key}, Reps K Er F H vs ds L → VI.keysD ds = some ks → vs = ks.map kV ∧ L = []
  | _, _, _, _, .nil, h => by cases h; exact ⟨rfl, rfl⟩
  | _, d :: ds, _, _, .cons r t, h => by
    simp only [VI.keysD] at h
    cases hk : VI.keyD d with
    | none => rw [hk] at h; cases h
    | some k =>
      rw [hk] at h
      cases hks : VI.keysD ds with
      | none => rw [hks] at h; cases h
      | some ks =>
        rw [hks] at h
        cases h
        obtain ⟨rfl, rfl⟩ := Rep.keyD r hk
        obtain ⟨rfl, rfl⟩ := Reps.keysD t hks
        exact ⟨rfl, rfl⟩
theorem dictD_some {dx dy : D} {o : Option D} (h : dictD dx dy = some o) : (∃ m ks xs k, dx = .dct m ks xs ∧ VI.keyD dy = some k ∧ VI.getK ks xs k = o) ∨ ∃ m ks xs ys k, dx = .dtt m ks xs ∧ dy = .tup ys ∧ VI.keysD ys = some k ∧ VI.getK ks xs k = o := by
  unfold dictD at h
  split at h
  · obtain ⟨k, h1, h2⟩ := Option.map_eq_some_iff.mp h
    exact .inl ⟨_, _, _, k, rfl, h1, h2⟩
  · obtain ⟨k, h1, h2⟩ := Option.map_eq_some_iff.mp h
    exact .inr ⟨_, _, _, _, k, rfl, rfl, h1, h2⟩
  · cases h
/-- what is held, as the data tells -/
def Held (K : PySem.W.Frag) (Er : EE) (F : Addr → Prop) (H : Hp) (a : Addr) (y : V) (Lx : List Addr) : Option D → Prop
  | some d => ∃ v M, DGet H a y (some v) ∧ Rep K Er F H v d M ∧ M.Sublist Lx
  | none => DGet H a y none
theorem dget_of {x y : V} {dx dy : D} {Lx Ly : List Addr} {o : Option D} (rx : Rep K Er F H x dx Lx) (ry : Rep K Er F H y dy Ly) (h : dictD dx dy = some o) : ∃ a, x = .ref a ∧ Held K Er F H a y Lx o := by
  rcases dictD_some h with ⟨m, ks, xs, k, rfl, hk, ho⟩ | ⟨m, ks, xs, ys, k, rfl, rfl, hk, ho⟩
  · obtain ⟨a, kvs, M, rfl, h1, rfl, r1, s1⟩ := rx.dct'
    obtain ⟨rfl, _⟩ := Rep.keyD ry hk
    refine ⟨a, rfl, ?_⟩
    cases o with
    | some d =>
      obtain ⟨v, N, e1, r2, s2⟩ := r1.getK ho
      exact ⟨v, N, .inl ⟨kvs, k, h1, rfl, e1.symm⟩, r2, s2.trans s1⟩
    | none => exact .inl ⟨kvs, k, h1, rfl, (r1.getK_none ho).symm⟩
  · obtain ⟨a, kvs, M, rfl, h1, rfl, r1, s1⟩ := rx.dtt'
    obtain ⟨b, vs, rfl, h2, r2⟩ := ry.tup'
    obtain ⟨rfl, _⟩ := Reps.keysD r2 hk
    refine ⟨a, rfl, ?_⟩
    cases o with
    | some d =>
      obtain ⟨v, N, e1, r3, s2⟩ := r1.getK ho
      exact ⟨v, N, .inr ⟨kvs, k, b, h1, rfl, h2, e1.symm⟩, r3, s2.trans s1⟩
    | none => exact .inr ⟨kvs, k, b, h1, rfl, h2, (r1.getK_none ho).symm⟩
theorem Held.get {a : Addr} {y : V} {Lx : List Addr} {o : Option D} (h : Held K Er F H a y Lx o) : ∃ r, DGet H a y r ∧ r.isSome = o.isSome := by
  cases o with
  | some d => obtain ⟨v, _, g, _⟩ := h; exact ⟨_, g, rfl⟩
  | none => exact ⟨_, h, rfl⟩
end
def rDGet : R2 := fun x y H Q => ∃ a v, x = .ref a ∧ DGet H a y (some v) ∧ Q v H
theorem ix_dict {X : Cx} (hu : X.A.units + 1 < cLine) : IxR X rDGet := by
  intro value slice pins s σ H x y v u Q I rx ry h hs
  obtain ⟨a, z, rfl, g, q⟩ := h
  obtain rfl : v = Value.ref a := rx
  have hT := dict_typeIs I g
  unfold subscriptTail
  refine wpAny_bind ?_
  rw [getitemInPython_of_ne hT.not_modules]
  refine wpAny_bind (wpAny_specialOf hT PySem.F.slot_dict_getitem.lookup ?_)
  have fin : wpAny (model X.prog X.w) X.A (subscripted slice false (.ref a) u) (fun r s₃ => wpAny (model X.prog X.w) X.A (letTemporaryGo value (.ref a) r >>= fun _ => pure r) (EP X pins σ Q) X.xe s₃) X.xe s := by
    rw [hs]
    exact wpAny_operating (wpAny_mono (d_getItem hu I g ry fun w' s' I' rw' => ⟨z, H, I', rw', q⟩) (fun r s₃ h₃ => wpAny_bind (wpAny_letTemporaryGo (wpAny_pure h₃))) fun _ _ x => x)
  first
    | exact wpAny_pure (wpAny_bind fin)
    | exact wpAny_bind (wpAny_pure (wpAny_bind fin))
    | exact wpAny_bind fin
def rDIn (neg : Bool) : R2 := fun y x H Q => ∃ a o, x = .ref a ∧ DGet H a y o ∧ Q (.bl (if neg then !o.isSome else o.isSome)) H
theorem op_inD {X : Cx} (hu : X.A.units + 1 < cLine) : OpR X (compareOp .In) (rDIn false) := by
  intro pins s σ H y x v u Q I ry rx h
  obtain ⟨a, o, rfl, g, q⟩ := h
  obtain rfl : u = Value.ref a := rx
  exact d_in hu I g ry fun s' I' => ⟨.bl o.isSome, H, I', rfl, q⟩
theorem op_ninD {X : Cx} (hu : X.A.units + 1 < cLine) : OpR X (compareOp .NotIn) (rDIn true) := by
  intro pins s σ H y x v u Q I ry rx h
  obtain ⟨a, o, rfl, g, q⟩ := h
  obtain rfl : u = Value.ref a := rx
  exact d_notIn hu I g ry fun s' I' => ⟨.bl (!o.isSome), H, I', rfl, q⟩
end VI
set_option maxRecDepth 100000
set_option maxHeartbeats 2000000
/-! VI: operations: from data to the hand layer's rules. -/
namespace VI
open PySem PySem.Spec PyProof.Rows L2

theorem most_le {n : Nat} (h : n ≤ most) : n ≤ sizeLine := Nat.le_trans h (by decide)
theorem most_lt {n : Nat} (h : n < most) : n < sizeLine := Nat.lt_of_lt_of_le h (by decide)

/-- list + list, of any two that are tracked -/
def rCatR : R2 := fun x y H Q => ∃ l b xs zs, x = .ref l ∧ y = .ref b ∧ Rd H l (.lst xs) ∧ Rd H b (.lst zs) ∧ xs.length + zs.length ≤ sizeLine ∧ ∀ p, H p = none → Q (.ref p) (upd H p (.lst (xs ++ zs)))
section
variable {X : Cx}
theorem op_catR : OpR X (binaryOp .Add) rCatR := by
  intro pins s σ H x y v u Q I rx ry h
  obtain ⟨l, b, xs, zs, rfl, rfl, hH, hB, hz, q⟩ := h
  cases rx
  cases ry
  obtain ⟨z, its, n, r, e⟩ := hH.ok I.hok
  obtain ⟨z2, its2, n2, r2, e2⟩ := hB.ok I.hok
  have hl := r.length
  have hl2 := r2.length
  refine PySem.P.add_list e e2 ?_ (by rw [List.size_toArray, List.size_toArray]; omega)
  have ea : its.toArray ++ its2.toArray = (its ++ its2).toArray := by simp
  rw [ea]
  exact ⟨.ref _, _, I.lnew (t' := s.toks) (r.append r2) (by rw [List.length_append]; omega), rfl, q _ I.fresh⟩
end

/-- list * int, of any that is tracked -/
def rRepR : R2 := fun x y H Q => ∃ l k xs, x = .ref l ∧ y = .int k ∧ Rd H l (.lst xs) ∧ -(2 ^ 63) ≤ k ∧ k < 2 ^ 63 ∧ xs.length * k.toNat ≤ sizeLine ∧ ∀ p, H p = none → Q (.ref p) (upd H p (.lst (List.replicate k.toNat xs).flatten))
theorem op_repR {X : Cx} : OpR X (binaryOp .Mult) rRepR := by
  intro pins s σ H x y v u Q I rx ry h
  obtain ⟨l, k, xs, rfl, rfl, hH, h1, h2, hz, q⟩ := h
  cases rx
  obtain ⟨t, rfl⟩ := ry
  obtain ⟨z, its, n, r, e⟩ := hH.ok I.hok
  have hl := r.length
  have hs : its.toArray.size * k.toNat ≤ sizeLine := by rw [List.size_toArray, ← hl]; exact hz
  have cap : ¬ its.toArray.size * k.toNat > (2 ^ 63 - 1) / 8 := by
    have : (sizeLine : Nat) ≤ (2 ^ 63 - 1) / 8 := by decide
    omega
  have fit : ¬ (!Builtin.List.listFitsIndex k) = true := by rw [fitsIndex_both h1 h2]; decide
  have lng : ¬ Builtin.List.listTooLong (its.toArray.size * k.toNat) = true := by rw [notLongL hs]; decide
  have fold : ∀ m : Nat, List.foldl (fun x1 x2 => x1 ++ x2) #[] (List.replicate m its.toArray) = (List.replicate m its).flatten.toArray := fun m => by
    have w := foldl_rep its m []
    rwa [List.nil_append] at w
  have new : List.foldl (fun x1 x2 => x1 ++ x2) #[] (List.replicate (if its.toArray.isEmpty = true then 0 else k.toNat) its.toArray) = (List.replicate k.toNat its).flatten.toArray := by
    rw [fold]
    cases its with
    | nil => simp
    | cons a r' => rw [if_neg (by simp)]
  refine wpAny_binaryOp_repeat_ref (T := "list") (U := "int") (by decide) ⟨_, e, rfl⟩ (fun s' => typeIs_int s' k t) noFill_list_mul PySem.F.fills_int_mul PySem.F.slot_int_rmul repeat_list PySem.F.slot_int_index.lookup
    (call_meets PySem.F.slot_int_rmul (typeIs_int s k t) PySem.F.entry_int_rmul (PySem.F.args_int_rmul_2 _ _) (int___rmul___int_list k t l its.toArray n)
      ⟨e, rfl, ⟨_, e, rfl⟩, call_meets PySem.F.slot_list_mul ⟨_, e, rfl⟩ PySem.F.entry_list_mul (PySem.F.args_list_mul_2 _ _) (AutoListH.list___mul___list_int_3 l its.toArray n k t fit cap lng) ⟨e, ?_⟩⟩)
  rw [new]
  exact ⟨.ref _, _, I.lnew (t' := s.toks) (r.rep k.toNat) (by rw [PyProof.Rows.lm_len_rep_flat, Nat.mul_comm]; exact hz), rfl, q _ I.fresh⟩
/-- a text, so many times -/
def rRepS : R2 := fun x y H Q => ∃ z k, x = .str z ∧ y = .int k ∧ z.length ≤ 1000 ∧ 0 ≤ k ∧ k ≤ 1000 ∧ Q (.str (repS z k.toNat)) H
theorem repS_one {z : Str} : repS z 1 = z := by
  simp [repS]
theorem repS_none {z : Str} (h : z.length = 0) : ∀ n, repS z n = z
  | 0 => by
    obtain ⟨c⟩ := z
    have : c = #[] := Array.eq_empty_of_size_eq_zero h
    rw [this]; rfl
  | n + 1 => by
    obtain ⟨c⟩ := z
    have e : c = #[] := Array.eq_empty_of_size_eq_zero h
    subst e
    have ih := repS_none (z := ⟨#[]⟩) rfl n
    unfold repS at ih ⊢
    rw [List.replicate_succ, List.foldl_cons]
    exact ih
theorem repS_size : ∀ (n : Nat) (c acc : Array Nat), ((List.replicate n c).foldl (· ++ ·) acc).size = acc.size + n * c.size
  | 0, c, acc => by simp
  | n + 1, c, acc => by
    rw [List.replicate_succ, List.foldl_cons, repS_size n, Array.size_append, Nat.succ_mul]
    omega
theorem repS_len {z : Str} {n : Nat} : (repS z n).length = n * z.length := by
  show ((List.replicate n z.cps).foldl (· ++ ·) #[]).size = n * z.cps.size
  rw [repS_size]; simp
theorem op_repS {X : Cx} : OpR X (binaryOp .Mult) rRepS := by
  intro pins s σ H x y v u Q I rx ry h
  obtain ⟨z, k, rfl, rfl, hz, h0, h1, q⟩ := h
  obtain ⟨t, rfl⟩ := (show ∃ t, v = .str z t from rx)
  obtain ⟨t', rfl⟩ := (show ∃ t, u = .int k t from ry)
  refine PySem.P.mul_str (by rw [Bool.or_eq_false_iff]; exact ⟨decide_eq_false (by omega), decide_eq_false (by omega)⟩) (fun a b => ?_) (fun a b => ?_) ?_
  · have hk : 2 ≤ k := by
      rw [Bool.or_eq_false_iff] at b
      have : k ≠ 1 := by simpa using b.1
      omega
    have : (1000 : Int) ≤ (2 ^ 63 - 1) / k := by
      rw [Int.le_ediv_iff_mul_le (by omega)]
      omega
    omega
  · unfold Builtin.Str.tooLong
    refine decide_eq_false ?_
    have : z.length * k.toNat ≤ 1000 * 1000 := Nat.mul_le_mul hz (by omega)
    have : 1000000 ≤ sizeLine := by rw [sizeLine_eq]; decide
    omega
  · by_cases a : k < 1
    · rw [if_pos a]
      have e : repS z k.toNat = Str.empty := by rw [show k.toNat = 0 by omega]; rfl
      rw [e] at q
      exact ⟨Nat.zero_le _, .str Str.empty, H, I.tok _, ⟨_, rfl⟩, q⟩
    · rw [if_neg a]
      by_cases b : (k == 1 || z.length == 0) = true
      · rw [if_pos b]
        have e : repS z k.toNat = z := by
          rw [Bool.or_eq_true] at b
          rcases b with b | b
          · have : k = 1 := by simpa using b
            subst this
            exact repS_one
          · exact repS_none (by simpa using b) _
        rw [e] at q
        exact ⟨.str z, H, I, ⟨_, rfl⟩, q⟩
      · rw [if_neg b]
        refine ⟨?_, .str (repS z k.toNat), H, I.tok _, ⟨_, rfl⟩, q⟩
        show (repS z k.toNat).length ≤ sizeLine
        rw [repS_len]
        have : k.toNat * z.length ≤ 1000 * 1000 := Nat.mul_le_mul (by omega) hz
        have : 1000000 ≤ sizeLine := by rw [sizeLine_eq]; decide
        omega
def opB : Bop → Operator
  | .add => .Add | .sub => .Sub | .mul => .Mult | .div => .FloorDiv | .mod => .Mod | .pow => .Pow
def rB (K : PySem.W.Frag) : Bop → R2
  | .add => fun x y H Q => rI0 (fun i j => .int (i + j)) x y H Q ∨ (∃ i j, x = .str i ∧ y = .str j ∧ i.length + j.length ≤ sizeLine ∧ Q (.str (i ++ j)) H) ∨ rCatR x y H Q ∨ rCatA K x y H Q
  | .sub => rI0 fun i j => .int (i - j)
  | .mul => fun x y H Q => rI CMul (fun i j => .int (i * j)) x y H Q ∨ rI CMulW (fun i j => .int (i * j)) x y H Q ∨ rRepR x y H Q ∨ rRepS x y H Q
  | .div => rI CDivW fun i j => .int (i / j)
  | .mod => rI (fun _ j => 0 < j) fun i j => .int (i % j)
  | .pow => rI CPow fun i j => .int (i ^ j.toNat)
theorem op_B {X : Cx} : ∀ o, OpR X (binaryOp (opB o)) (rB X.K o)
  | .add => op_add.or (op_add_str.or (op_catR.or op_catA))
  | .sub => op_sub
  | .mul => op_mul.or (op_mulW.or (op_repR.or op_repS))
  | .div => op_fdivW
  | .mod => op_mod
  | .pow => op_pow
theorem ltI_at : ∀ (ns ms : List Int) (e r : Nat → Bool) (z : Bool) (i : Nat), (∀ j, j < min ns.length ms.length → e (i + j) = decide (ns.getD j 0 = ms.getD j 0)) → (∀ j, j < min ns.length ms.length → r (i + j) = decide (ns.getD j 0 < ms.getD j 0)) → z = decide (ns.length < ms.length) →
    Ob.lexAt e r z i (min ns.length ms.length) = ltI ns ms
  | [], ms, e, r, z, i, he, hr, hz => by
    rw [show min ([] : List Int).length ms.length = 0 by simp, Ob.lexAt_zero, hz]
    cases ms <;> simp [ltI]
  | n :: ns, [], e, r, z, i, he, hr, hz => by
    rw [show min (n :: ns).length ([] : List Int).length = 0 by simp, Ob.lexAt_zero, hz]
    simp [ltI]
  | n :: ns, m :: ms, e, r, z, i, he, hr, hz => by
    have hl : min (n :: ns).length (m :: ms).length = min ns.length ms.length + 1 := by simp only [List.length_cons]; omega
    rw [hl] at he hr ⊢
    rw [Ob.lexAt_succ]
    have e0 := he 0 (by omega)
    have r0 := hr 0 (by omega)
    simp only [Nat.add_zero, List.getD_cons_zero] at e0 r0
    rw [e0, r0, ltI]
    have ih := ltI_at ns ms e r z (i + 1) (fun j hj => by have := he (j + 1) (by omega); rw [List.getD_cons_succ, List.getD_cons_succ] at this; rw [← this]; congr 1; omega) (fun j hj => by have := hr (j + 1) (by omega); rw [List.getD_cons_succ, List.getD_cons_succ] at this; rw [← this]; congr 1; omega) (by rw [hz]; simp)
    rw [ih]
    by_cases q : n = m <;> simp [q]
def rLtT (K : PySem.W.Frag) : R2 := fun x y H Q => ∃ (a b : Addr) (ns ms : List Int), x = .ref a ∧ y = .ref b ∧ SqT K H a (ns.map V.int) ∧ SqT K H b (ms.map V.int) ∧ Q (.bl (ltI ns ms)) H
theorem op_ltT {X : Cx} (hu : X.A.units < cLine) : OpR X (compareOp .Lt) (rLtT X.K) := by
  intro pins s σ H x y v u Q I rx ry h
  obtain ⟨a, b, ns, ms, rfl, rfl, ha, hb, q⟩ := h
  cases rx
  cases ry
  obtain ⟨its, r1, p1, _⟩ := I.tuple ha
  obtain ⟨its2, r2, p2, _⟩ := I.tuple hb
  have i1 : IntsAre its ns := Vals.ints r1
  have i2 : IntsAre its2 ms := Vals.ints r2
  have e1 : its.toArray.size = ns.length := by rw [List.size_toArray]; exact i1.length
  have e2 : its2.toArray.size = ms.length := by rw [List.size_toArray]; exact i2.length
  have at1 : ∀ j (h1 : j < its.toArray.size), ∃ t, its.toArray[j] = .int (ns.getD j 0) t := fun j h1 => PyProof.Rows.IntsAre.int_at i1 _ _ (by simp at h1; simp [h1])
  have at2 : ∀ j (h1 : j < its2.toArray.size), ∃ t, its2.toArray[j] = .int (ms.getD j 0) t := fun j h1 => PyProof.Rows.IntsAre.int_at i2 _ _ (by simp at h1; simp [h1])
  have R := Ob.RcOp.tuples_lt (A := X.A) (s := s) (e := fun j => decide (ns.getD j 0 = ms.getD j 0)) (r := fun j => decide (ns.getD j 0 < ms.getD j 0)) p1 p2 hu (fun j h1 h2 => by
    obtain ⟨t, et⟩ := at1 j h1
    obtain ⟨t', et'⟩ := at2 j h2
    rw [et, et']
    have z : (ns.getD j 0 == ms.getD j 0) = decide (ns.getD j 0 = ms.getD j 0) := by
      by_cases q : ns.getD j 0 = ms.getD j 0
      · rw [decide_eq_true q]; exact beq_iff_eq.mpr q
      · rw [decide_eq_false q]; exact beq_eq_false_iff_ne.mpr q
    rw [← z]
    exact SeqAt.EqAt.int_int _ _ _ _) (fun j h1 h2 _ => by
    obtain ⟨t, et⟩ := at1 j h1
    obtain ⟨t', et'⟩ := at2 j h2
    rw [et, et']
    exact Ob.RcOp.lt_int _ _ _ _)
  rw [e1, e2, ltI_at ns ms _ _ _ 0 (fun j _ => by rw [Nat.zero_add]) (fun j _ => by rw [Nat.zero_add]) rfl] at R
  have z : wpAny (model X.prog X.w) X.A (compareOp .Lt (.ref a) (.ref b)) (EP X pins σ Q) X.xe s := R X.prog X.w X.xe (EP X pins σ Q) ⟨.bl _, H, I, rfl, q⟩
  exact z
section
variable {K : PySem.W.Frag} {Er : EE} {F : Addr → Prop} {H : Hp} {v : V} {L : List Addr}
theorem Reps.intsV : ∀ {ds : List D} {vs : List V} {L : List Addr} {ns : List Int}, Reps K Er F H vs ds L → intsD ds = some ns → vs = ns.map V.int
  | [], _, _, _, r, h => by cases h; cases r; rfl
  | d :: ds, _, _, ns, r, h => by
    cases d <;> (first | cases h | skip)
    rename_i i
    simp only [intsD] at h
    obtain ⟨ms, h1, rfl⟩ := Option.map_eq_some_iff.mp h
    cases r with
    | cons r1 r2 =>
      obtain ⟨rfl, _⟩ := r1.int'
      rw [Reps.intsV r2 h1]
      rfl
end
def opC : Cop → CmpOp
  | .lt => .Lt | .le => .LtE | .gt => .Gt | .ge => .GtE | .eq => .Eq | .ne => .NotEq | .is => .Is | .isn => .IsNot | .in_ => .In | .nin => .NotIn
def rC (K : PySem.W.Frag) : Cop → R2
  | .lt => fun x y H Q => rI0 (fun i j => .bl (decide (i < j))) x y H Q ∨ rLtT K x y H Q
  | .le => rI0 fun i j => .bl (decide (i ≤ j))
  | .gt => rI0 fun i j => .bl (decide (j < i))
  | .ge => rI0 fun i j => .bl (decide (j ≤ i))
  | .eq => fun x y H Q => rEq x y H Q ∨ rEqD K x y H Q
  | .ne => fun x y H Q => rNe x y H Q ∨ rNeD K x y H Q
  | .is => fun x y H Q => (y = .non ∧ Q (.bl (decide (x = .non))) H) ∨ rIsB x y H Q
  | .isn => fun x y H Q => (y = .non ∧ Q (.bl (!decide (x = .non))) H) ∨ rNotB x y H Q
  | .in_ => fun x y H Q => (∃ i j, x = .str i ∧ y = .str j ∧ Q (.bl (!(Builtin.Str.occurrences j i 0 j.length 1).isEmpty)) H) ∨ rIn K false x y H Q ∨ rDIn false x y H Q
  | .nin => fun x y H Q => (∃ i j, x = .str i ∧ y = .str j ∧ Q (.bl (!(!(Builtin.Str.occurrences j i 0 j.length 1).isEmpty))) H) ∨ rIn K true x y H Q ∨ rDIn true x y H Q
theorem op_C {X : Cx} (hu : X.A.units + 64 < cLine) : ∀ o, OpR X (compareOp (opC o)) (rC X.K o)
  | .lt => op_lt.or (op_ltT (by omega))
  | .le => op_le
  | .gt => op_gt
  | .ge => op_ge
  | .eq => op_eq.or (op_eqD hu)
  | .ne => op_ne.or (op_neD hu)
  | .is => op_isN.or op_isBl
  | .isn => op_notN.or op_notBl
  | .in_ => op_in_str.or (op_in_seq.or (op_inD (by omega)))
  | .nin => op_notIn_str.or (op_notIn_seq.or (op_ninD (by omega)))

section
variable {K : PySem.W.Frag} {Er : EE} {F F' F1 : Addr → Prop} {H H' H1 : Hp} {v x y : V} {dx dy d : D} {L Lx Ly : List Addr} {e : Env} {σ : L2.St} {Ls : Nat → List Addr} {U : List Addr}
variable {Wf : Bool → Nat → L2.St → Hp → Prop} {m p : Bool} {rt : Option Nat} {Q : VK}
theorem shr_int {rs : List (Option Nat)} {i : Int} : shr rs (.int i) e = .ok (.int i) e := rfl
theorem shr_str {rs : List (Option Nat)} {i : Str} : shr rs (.str i) e = .ok (.str i) e := rfl
theorem shr_bl {rs : List (Option Nat)} {i : Bool} : shr rs (.bl i) e = .ok (.bl i) e := rfl
theorem bin_val {o : Bop} {rs : List (Option Nat)} (s : Sx K Er F H e σ Ls) (rx : Rep K Er F H x dx Lx) (ry : Rep K Er F H y dy Ly) (hU : ∀ a ∈ Lx ++ Ly, a ∈ U)
    (hv : ∀ a ∈ Lx ++ Ly, In Ls a → ¬ F a → ∃ i, some i ∈ rs ∧ a ∈ Ls i)
    (q : PostE K Er Wf m F H Ls U σ p none (match binop o dx dy with | some d => shr rs d e | none => .stuck) Q) : rB K o x y H Q := by
  cases hb : binop o dx dy with
  | none => rw [hb] at q; exact q.elim
  | some d =>
    rw [hb] at q
    replace q : PostE K Er Wf m F H Ls U σ p none (shr rs d e) Q := q
    unfold binop at hb
    split at hb
    · cases hb; obtain ⟨rfl, rfl⟩ := rx.int'; obtain ⟨rfl, rfl⟩ := ry.int'
      exact .inl ⟨_, _, rfl, rfl, fin0 s q (.int _)⟩
    · split at hb
      · rename_i hz
        cases hb; obtain ⟨rfl, rfl⟩ := rx.str'; obtain ⟨rfl, rfl⟩ := ry.str'
        exact .inr (.inl ⟨_, _, rfl, rfl, most_le hz, fin0 s q (.str _)⟩)
      · cases hb
    · split at hb
      · rename_i hz
        cases hb
        obtain ⟨a, vs, M, rfl, h1, r1, s1⟩ := rx.lst'
        obtain ⟨b, ws, N, rfl, h2, r2, s2⟩ := ry.lst'
        have sub : ∀ c ∈ M ++ N, c ∈ Lx ++ Ly := fun c hc => (List.mem_append.mp hc).elim (fun z => List.mem_append_left _ (s1.subset z)) fun z => List.mem_append_right _ (s2.subset z)
        refine .inr (.inr (.inl ⟨a, b, vs, ws, rfl, rfl, h1, h2, ?_, finL' s q (r1.append r2) (fun c hc => hU c (sub c hc)) fun c hc => hv c (sub c hc)⟩))
        rw [r1.len, r2.len]
        exact most_le hz
      · cases hb
    · split at hb
      · rename_i hz
        cases hb
        obtain ⟨a, vs, rfl, h1, r1⟩ := rx.tup'
        obtain ⟨b, ws, rfl, h2, r2⟩ := ry.tup'
        obtain ⟨f1, f2⟩ := finT' s q (r1.append r2) hU hv
        refine .inr (.inr (.inr ⟨a, b, vs, ws, rfl, rfl, sqT_of h1, sqT_of h2, ?_, fun z => ?_, fun z z' => ?_, fun _ _ => f1⟩))
        · rw [r1.len, r2.len]
          exact most_le hz
        · exact f2 b (by rw [z]; exact h2)
        · exact f2 a (by rw [z', List.append_nil]; exact h1)
      · cases hb
    · cases hb; obtain ⟨rfl, rfl⟩ := rx.int'; obtain ⟨rfl, rfl⟩ := ry.int'
      exact ⟨_, _, rfl, rfl, fin0 s q (.int _)⟩
    · split at hb
      · rename_i i j hz
        cases hb; obtain ⟨rfl, rfl⟩ := rx.int'; obtain ⟨rfl, rfl⟩ := ry.int'
        have q' := fin0 s q (.int _)
        simp only [mulOk, Bool.or_eq_true, Bool.and_eq_true, decide_eq_true_eq] at hz
        rcases hz with (hz | hz) | hz
        · exact .inl ⟨_, _, rfl, rfl, .inl hz, q'⟩
        · exact .inl ⟨_, _, rfl, rfl, .inr hz, q'⟩
        · exact .inr (.inl ⟨_, _, rfl, rfl, hz, q'⟩)
      · cases hb
    · split at hb
      · rename_i mm xs j hz
        obtain ⟨z1, z2, z3⟩ := hz
        cases hb
        obtain ⟨a, vs, M, rfl, h1, r1, s1⟩ := rx.lst'
        obtain ⟨rfl, rfl⟩ := ry.int'
        obtain ⟨N, r2, s2⟩ := r1.repl j.toNat
        refine .inr (.inr (.inl ⟨a, j, vs, rfl, rfl, h1, by omega, by omega, ?_, finL' s q r2 (fun c hc => hU c (List.mem_append_left _ (s1.subset (s2 c hc)))) fun c hc => hv c (List.mem_append_left _ (s1.subset (s2 c hc)))⟩))
        rw [r1.len]
        exact most_le z1
      · cases hb
    · split at hb
      · rename_i hz
        cases hb; obtain ⟨rfl, rfl⟩ := rx.str'; obtain ⟨rfl, rfl⟩ := ry.int'
        exact .inr (.inr (.inr ⟨_, _, rfl, rfl, hz.1, hz.2.1, hz.2.2, fin0 s q (.str _)⟩))
      · cases hb
    · split at hb
      · rename_i i j hz
        cases hb; obtain ⟨rfl, rfl⟩ := rx.int'; obtain ⟨rfl, rfl⟩ := ry.int'
        simp only [divOk, Bool.and_eq_true, decide_eq_true_eq] at hz
        exact ⟨_, _, rfl, rfl, hz, fin0 s q (.int _)⟩
      · cases hb
    · split at hb
      · rename_i i j hz
        cases hb; obtain ⟨rfl, rfl⟩ := rx.int'; obtain ⟨rfl, rfl⟩ := ry.int'
        exact ⟨_, _, rfl, rfl, hz, fin0 s q (.int _)⟩
      · cases hb
    · split at hb
      · rename_i i j hz
        cases hb; obtain ⟨rfl, rfl⟩ := rx.int'; obtain ⟨rfl, rfl⟩ := ry.int'
        simp only [powOk, Bool.and_eq_true, decide_eq_true_eq] at hz
        exact ⟨_, _, rfl, rfl, ⟨hz.1.1, hz.1.2, hz.2⟩, fin0 s q (.int _)⟩
      · cases hb
    · cases hb
theorem scal_val {b : Bool} (rx : Rep K Er F H x dx Lx) (ry : Rep K Er F H y dy Ly) (h : scal dx dy = some b) : L2.scal x y = true ∧ decide (x = y) = b := by
  unfold scal at h
  split at h <;> (first | cases h) <;> cases rx <;> cases ry <;> first | exact ⟨rfl, by simp⟩ | exact ⟨rfl, by decide⟩ | exact ⟨rfl, rfl⟩
theorem cmp_val {o : Cop} {b : Bool} {Q : VK} (rx : Rep K Er F H x dx Lx) (ry : Rep K Er F H y dy Ly) (h : cmpop o dx dy = some b) (q : Q (.bl b) H) : rC K o x y H Q := by
  have eqd : ∀ {b : Bool}, deq dx dy = some b → (L2.scal x y = true ∧ decide (x = y) = b) ∨ ∃ d e, Dp K H x d ∧ Dp K H y e ∧ SeqAt.shaped d = true ∧ SeqAt.shaped e = true ∧ PyData.eqv d e = b := fun {b} h => by
    unfold deq at h
    split at h
    · rename_i b' hs
      cases h
      exact .inl (scal_val rx ry hs)
    · split at h
      · rename_i a a' h1 h2
        split at h
        · rename_i hz
          rw [Bool.and_eq_true] at hz
          cases h
          exact .inr ⟨a, a', rx.dp h1, ry.dp h2, hz.1, hz.2, rfl⟩
        · cases h
      · cases h
  unfold cmpop at h
  split at h
  · cases h; obtain ⟨rfl, rfl⟩ := rx.int'; obtain ⟨rfl, rfl⟩ := ry.int'; exact .inl ⟨_, _, rfl, rfl, q⟩
  · split at h
    · rename_i n1 n2 z1 z2
      cases h
      obtain ⟨a, vs, rfl, h1, r1⟩ := rx.tup'
      obtain ⟨b, ws, rfl, h2, r2⟩ := ry.tup'
      cases r1.intsV z1
      cases r2.intsV z2
      exact .inr ⟨a, b, n1, n2, rfl, rfl, sqT_of h1, sqT_of h2, q⟩
    · cases h
  · cases h; obtain ⟨rfl, rfl⟩ := rx.int'; obtain ⟨rfl, rfl⟩ := ry.int'; exact ⟨_, _, rfl, rfl, q⟩
  · cases h; obtain ⟨rfl, rfl⟩ := rx.int'; obtain ⟨rfl, rfl⟩ := ry.int'; exact ⟨_, _, rfl, rfl, q⟩
  · cases h; obtain ⟨rfl, rfl⟩ := rx.int'; obtain ⟨rfl, rfl⟩ := ry.int'; exact ⟨_, _, rfl, rfl, q⟩
  · rcases eqd h with ⟨h1, h2⟩ | ⟨d, e, h1, h2, h3, h4, h5⟩
    · exact .inl ⟨h1, by rw [h2]; exact q⟩
    · exact .inr ⟨d, e, h1, h2, h3, h4, by rw [h5]; exact q⟩
  · cases z : deq dx dy with
    | none => rw [z] at h; cases h
    | some b' =>
      rw [z] at h
      cases h
      rcases eqd z with ⟨h1, h2⟩ | ⟨d, e, h1, h2, h3, h4, h5⟩
      · exact .inl ⟨h1, by rw [h2]; exact q⟩
      · exact .inr ⟨d, e, h1, h2, h3, h4, by rw [h5]; exact q⟩
  · cases h
  · cases h
  · cases h
  · cases h
  · rename_i hu hu2
    cases h
    obtain ⟨rfl, rfl⟩ := ry.non'
    refine .inl ⟨rfl, ?_⟩
    cases rx <;> (first | exact q | exact absurd rfl hu | exact absurd rfl (hu2 _))
  · rename_i hu hu2
    cases h
    obtain ⟨rfl, rfl⟩ := ry.non'
    refine .inl ⟨rfl, ?_⟩
    cases rx <;> (first | exact q | exact absurd rfl hu | exact absurd rfl (hu2 _))
  · cases h; obtain ⟨rfl, rfl⟩ := rx.bl'; obtain ⟨rfl, rfl⟩ := ry.bl'; exact .inr ⟨_, _, rfl, rfl, q⟩
  · cases h; obtain ⟨rfl, rfl⟩ := rx.bl'; obtain ⟨rfl, rfl⟩ := ry.bl'; exact .inr ⟨_, _, rfl, rfl, q⟩
  · cases h; obtain ⟨rfl, rfl⟩ := rx.str'; obtain ⟨rfl, rfl⟩ := ry.str'; exact .inl ⟨_, _, rfl, rfl, q⟩
  · cases h; obtain ⟨rfl, rfl⟩ := rx.str'; obtain ⟨rfl, rfl⟩ := ry.str'; exact .inl ⟨_, _, rfl, rfl, q⟩
  · split at h
    · rename_i hz
      rw [Bool.and_eq_true] at hz
      cases h
      obtain ⟨b, ws, N, rfl, h2, r2, s2⟩ := ry.lst'
      refine .inr (.inl ⟨b, ws, rfl, .inl (.inl h2), rx.flatV hz.1, r2.flatV hz.2, ?_⟩)
      rw [if_neg Bool.false_ne_true, anyV_flat rx hz.1 r2 hz.2]
      exact q
    · cases h
  · split at h
    · rename_i hz
      rw [Bool.and_eq_true] at hz
      cases h
      obtain ⟨b, ws, N, rfl, h2, r2, s2⟩ := ry.lst'
      refine .inr (.inl ⟨b, ws, rfl, .inl (.inl h2), rx.flatV hz.1, r2.flatV hz.2, ?_⟩)
      rw [if_pos rfl, anyV_flat rx hz.1 r2 hz.2]
      exact q
    · cases h
  · split at h
    · rename_i hz
      rw [Bool.and_eq_true] at hz
      cases h
      obtain ⟨b, ws, rfl, h2, r2⟩ := ry.tup'
      refine .inr (.inl ⟨b, ws, rfl, .inr (sqT_of h2), rx.flatV hz.1, r2.flatV hz.2, ?_⟩)
      rw [if_neg Bool.false_ne_true, anyV_flat rx hz.1 r2 hz.2]
      exact q
    · cases h
  · split at h
    · rename_i hz
      rw [Bool.and_eq_true] at hz
      cases h
      obtain ⟨b, ws, rfl, h2, r2⟩ := ry.tup'
      refine .inr (.inl ⟨b, ws, rfl, .inr (sqT_of h2), rx.flatV hz.1, r2.flatV hz.2, ?_⟩)
      rw [if_pos rfl, anyV_flat rx hz.1 r2 hz.2]
      exact q
    · cases h
  · obtain ⟨k, h1, h2⟩ := Option.map_eq_some_iff.mp h
    obtain ⟨a, rfl, hh⟩ := dget_of ry rx (Option.map_eq_some_iff.mpr ⟨k, h1, rfl⟩)
    obtain ⟨r, g, e⟩ := hh.get
    refine .inr (.inr ⟨a, r, rfl, g, ?_⟩)
    rw [if_neg Bool.false_ne_true, e, h2]
    exact q
  · obtain ⟨k, h1, h2⟩ := Option.map_eq_some_iff.mp h
    obtain ⟨a, rfl, hh⟩ := dget_of ry rx (Option.map_eq_some_iff.mpr ⟨k, h1, rfl⟩)
    obtain ⟨r, g, e⟩ := hh.get
    refine .inr (.inr ⟨a, r, rfl, g, ?_⟩)
    rw [if_pos rfl, e, h2]
    exact q
  · obtain ⟨k, h1, h2⟩ := Option.map_eq_some_iff.mp h
    obtain ⟨a, rfl, hh⟩ := dget_of ry rx (Option.map_eq_some_iff.mpr ⟨k, h1, rfl⟩)
    obtain ⟨r, g, e⟩ := hh.get
    refine .inr (.inr ⟨a, r, rfl, g, ?_⟩)
    rw [if_neg Bool.false_ne_true, e, h2]
    exact q
  · obtain ⟨k, h1, h2⟩ := Option.map_eq_some_iff.mp h
    obtain ⟨a, rfl, hh⟩ := dget_of ry rx (Option.map_eq_some_iff.mpr ⟨k, h1, rfl⟩)
    obtain ⟨r, g, e⟩ := hh.get
    refine .inr (.inr ⟨a, r, rfl, g, ?_⟩)
    rw [if_pos rfl, e, h2]
    exact q
  · cases h
/-- what a subscript asks -/
def rIxA (K : PySem.W.Frag) : R2 := fun x y H Q => rIx K x y H Q ∨ rDGet x y H Q
theorem ix_all {X : Cx} (hu : X.A.units + 1 < cLine) : IxR X (rIxA X.K) := ix_seq.or (ix_dict hu)
theorem ix_val (rx : Rep K Er F H x dx Lx) (ry : Rep K Er F H y dy Ly) (h : ixD dx dy = some d) : ∃ v L, Rep K Er F H v d L ∧ L.Sublist Lx ∧ ∀ Q : VK, Q v H → rIxA K x y H Q := by
  unfold ixD at h
  split at h
  · rename_i m xs i
    obtain ⟨a, vs, M, rfl, h1, r1, s1⟩ := rx.lst'
    obtain ⟨rfl, rfl⟩ := ry.int'
    unfold atI at h
    cases z : ixN xs.length i with
    | none => rw [z] at h; cases h
    | some j =>
      rw [z] at h
      obtain ⟨v, N, h2, r2, s2⟩ := r1.get h
      refine ⟨v, N, r2, s2.trans s1, fun Q q => .inl (.inl ⟨a, vs, i, v, rfl, rfl, .inl h1, ?_, q⟩)⟩
      unfold atI
      rw [r1.len, z]
      exact h2
  · rename_i xs i
    obtain ⟨a, vs, rfl, h1, r1⟩ := rx.tup'
    obtain ⟨rfl, rfl⟩ := ry.int'
    unfold atI at h
    cases z : ixN xs.length i with
    | none => rw [z] at h; cases h
    | some j =>
      rw [z] at h
      obtain ⟨v, N, h2, r2, s2⟩ := r1.get h
      refine ⟨v, N, r2, s2, fun Q q => .inl (.inr (.inl ⟨a, vs, i, v, rfl, rfl, sqT_of h1, ?_, q⟩))⟩
      unfold atI
      rw [r1.len, z]
      exact h2
  · rename_i xs i
    obtain ⟨a, rfl, h1, _⟩ := rx.scr'
    obtain ⟨rfl, rfl⟩ := ry.int'
    unfold atI at h
    cases z : ixN xs.length i with
    | none => rw [z] at h; cases h
    | some j =>
      rw [z] at h
      dsimp only [Option.bind] at h
      cases zj : xs[j]? with
      | none => rw [zj] at h; cases h
      | some c =>
        rw [zj] at h
        cases h
        refine ⟨.int c, [], .int c, List.nil_sublist _, fun Q q => .inl (.inl ⟨a, _, i, _, rfl, rfl, h1.sq, ?_, q⟩)⟩
        unfold atI
        rw [List.length_map, z]
        show (xs.map V.int)[j]? = _
        rw [List.getElem?_map, zj]
        rfl
  · rename_i s i
    split at h
    · rename_i hz
      obtain ⟨rfl, rfl⟩ := rx.str'
      obtain ⟨rfl, rfl⟩ := ry.int'
      cases z : atI s.cps.toList i with
      | none => rw [z] at h; cases h
      | some c =>
        rw [z] at h
        cases h
        exact ⟨_, [], .str _, List.Sublist.refl _, fun Q q => .inl (.inr (.inr ⟨s, i, c, rfl, rfl, most_le hz, z, q⟩))⟩
    · cases h
  · cases ho : dictD dx dy with
    | none => rw [ho] at h; cases h
    | some o =>
      rw [ho] at h
      obtain rfl : o = some d := h
      obtain ⟨a, rfl, v, M, g, r, s⟩ := dget_of rx ry ho
      exact ⟨v, M, r, s, fun Q q => .inr ⟨a, v, rfl, g, q⟩⟩
/-- a slice -/
def rSlice (K : PySem.W.Frag) : V → Option Int → Option Int → Hp → VK → Prop := fun x lo hi H Q => rSlL K x lo hi H Q ∨ rSlA K x lo hi H Q ∨ rSlS x lo hi H Q
theorem sl_all {X : Cx} : SlR X (rSlice X.K) := sl_list.or (sl_tupA.or sl_str)
theorem cut_len {α β : Type} {xs : List α} {ys : List β} (h : xs.length = ys.length) (lo hi : Option Int) : HT.sIx xs.length 0 lo = HT.sIx ys.length 0 lo ∧ HT.sIx xs.length xs.length hi = HT.sIx ys.length ys.length hi := by rw [h]; exact ⟨rfl, rfl⟩
theorem Reps.cut {vs : List V} {ds : List D} (r : Reps K Er F H vs ds L) (lo hi : Option Int) : ∃ M, Reps K Er F H (cutV vs lo hi) (cutD ds lo hi) M ∧ M.Sublist L := by
  obtain ⟨e1, e2⟩ := cut_len r.len lo hi
  obtain ⟨M, h, s⟩ := r.drop (HT.sIx ds.length 0 lo)
  obtain ⟨N, h', s'⟩ := h.take (HT.sIx ds.length ds.length hi - HT.sIx ds.length 0 lo)
  refine ⟨N, ?_, s'.trans s⟩
  unfold cutV cutD
  rw [e1, e2]
  exact h'
theorem sl_val {rs : List (Option Nat)} {lo hi : Option Int} (s : Sx K Er F H e σ Ls) (rx : Rep K Er F H x dx Lx) (hU : ∀ a ∈ Lx, a ∈ U) (hv : ∀ a ∈ Lx, In Ls a → ¬ F a → ∃ i, some i ∈ rs ∧ a ∈ Ls i)
    (q : PostE K Er Wf m F H Ls U σ p none (match slD dx lo hi with | some d => shr rs d e | none => .stuck) Q) : rSlice K x lo hi H Q := by
  cases hb : slD dx lo hi with
  | none => rw [hb] at q; exact q.elim
  | some d =>
    rw [hb] at q
    replace q : PostE K Er Wf m F H Ls U σ p none (shr rs d e) Q := q
    unfold slD at hb
    split at hb
    · cases hb
      obtain ⟨a, vs, M, rfl, h1, r1, s1⟩ := rx.lst'
      obtain ⟨N, r2, s2⟩ := r1.cut lo hi
      exact .inl ⟨a, vs, rfl, .inl h1, finL' s q r2 (fun c hc => hU c (s1.subset (s2.subset hc))) fun c hc => hv c (s1.subset (s2.subset hc))⟩
    · cases hb
      obtain ⟨a, vs, rfl, h1, r1⟩ := rx.tup'
      obtain ⟨N, r2, s2⟩ := r1.cut lo hi
      obtain ⟨f1, f2⟩ := finT' s q r2 (fun c hc => hU c (s2.subset hc)) fun c hc => hv c (s2.subset hc)
      refine .inr (.inl ⟨a, vs, rfl, sqT_of h1, fun ⟨z1, z2⟩ => f2 a ?_, fun _ => f1⟩)
      have e0 : cutV vs lo hi = vs := by
        unfold cutV
        rw [z1, z2, List.drop_zero, Nat.sub_zero, List.take_length]
      rw [e0]
      exact h1
    · cases hb
      rename_i ns
      obtain ⟨a, rfl, h1, _⟩ := rx.scr'
      have ec : cutV (ns.map V.int) lo hi = (cutD ns lo hi).map V.int := by
        unfold cutV cutD
        rw [List.length_map, List.map_take, List.map_drop]
      refine .inl ⟨a, _, rfl, h1.sq, ?_⟩
      rw [ec]
      exact finL' (L := []) s q (.ofInts _) (fun _ z => nomatch z) (fun _ z => nomatch z)
    · split at hb
      · rename_i hz
        cases hb
        obtain ⟨rfl, rfl⟩ := rx.str'
        exact .inr (.inr ⟨_, rfl, most_le hz, fin0 s q (.str _)⟩)
      · cases hb
    · cases hb
end
end VI
set_option maxRecDepth 100000
set_option maxHeartbeats 2000000
/-! VX: exceptions as values: isinstance, attributes. -/
namespace VI
open PySem PySem.Spec PyProof.Rows L2

section
variable {X : Cx} {pins : List (Addr × Obj)} {σ : L2.St} {H : Hp} {s : Shared} {a : Addr} {c : Str} {fvs : List (Str × V)} {fs : List Str}
theorem XnS.isCls {K : PySem.W.Frag} (S : XnS K c fs) : (PySem.W.clsIn K (He.ga K c)).isSome = true := by
  obtain ⟨cd, hc, _⟩ := PySem.W.any_some S.ec.hd
  rw [hc]; rfl
/-- the object in the heap -/
theorem xn_at (I : Inv X pins σ H s) (h : XnH X.K H a c fvs) : ∃ ox od, PySem.W.InstAt s.heap a ox (He.ga X.K c) od := by
  rcases h with ⟨_, h⟩ | ⟨dx, h, g⟩
  · obtain ⟨⟨oe, vs, ho, hz, hd, _⟩, _, _⟩ := I.hok a _ h
    obtain ⟨oc, odc, oda, osl⟩ := oe
    obtain ⟨z1, z2⟩ := hz
    dsimp only at z1 z2 hd
    subst z1 z2 hd
    exact ⟨_, none, ⟨ho, rfl, rfl, trivial⟩⟩
  · obtain ⟨t1, ho⟩ := exo_at I.hok h
    obtain ⟨mA, hn, _⟩ := exd_at I.hok g
    obtain ⟨od, hd, _⟩ := lookIn_ns hn
    exact ⟨_, some od, ⟨ho, rfl, rfl, hd⟩⟩
theorem xn_kit (S : XnS X.K c fs) (od : Option Obj) {ox : Obj} : PySem.W.KitX X.K (.ref a) (.ref (He.ga X.K c)) (fun h => PySem.W.InstAt h a ox (He.ga X.K c) od) :=
  PySem.W.kitx_exc S.isCls S.ec.hg S.ec.hk S.ec.hs S.ec.ha S.ec.hn S.ec.ht S.ec.hm
end
/-- isinstance of an exception as a value -/
def rIsN (K : PySem.W.Frag) : List V → Hp → VK → Prop := fun xs H Q => ∃ (a : Addr) (c : Str) (fvs : List (Str × V)) (fs : List Str), XnS K c fs ∧ XnH K H a c fvs ∧
  ((∃ (k : V) (u : Value) (b : Bool), xs = [.ref a, k] ∧ ClsV k u ∧ PySem.W.kitOne K (.ref (He.ga K c)) u = some b ∧ Q (.bl b) H) ∨
   (∃ (tp : Addr) (cs : List V) (us : List Value) (b : Bool), xs = [.ref a, .ref tp] ∧ H tp = some (.tup cs) ∧ Paired ClsV cs us ∧ PySem.W.kitAny K (.ref (He.ga K c)) us = some b ∧ Q (.bl b) H))
theorem call_isN {X : Cx} : CallR X (.builtin "isinstance") (rIsN X.K) := by
  intro pins s σ H xs us Q I r h
  obtain ⟨a, c, fvs, fs, S, hx, h⟩ := h
  obtain ⟨ox, od, J⟩ := xn_at I hx
  rcases h with ⟨k, u, b, rfl, hk, e, q⟩ | ⟨tp, cs, ws, b, rfl, hT, hk, e, q⟩
  · obtain ⟨u1, u2, rfl, r1, r2⟩ := vals2 r
    cases (show u1 = Value.ref a from r1)
    rw [hk.eq r2]
    exact PySem.W.kia_one (xn_kit S od) I.kIn J e (fun z => nomatch z) fun tk => ⟨.bl b, H, I.kept (t' := tk) fun _ _ z => z, rfl, q⟩
  · obtain ⟨u1, u2, rfl, r1, r2⟩ := vals2 r
    cases (show u1 = Value.ref a from r1)
    cases (show u2 = Value.ref tp from r2)
    obtain ⟨_, its, rv, o, h1, h2, n, h3⟩ := (show ObjOk X.prog X.w H s.heap tp (.tup cs) from I.hok tp _ hT)
    have e3 := ClsV.all hk rv
    obtain ⟨oc, od2, dt, sl⟩ := o
    simp only at h2 h3
    subst e3 h2 h3
    exact PySem.W.kia_tup (xn_kit S od) I.kIn J h1 e (fun z => nomatch z) fun tk => ⟨.bl b, H, I.kept (t' := tk) fun _ _ z => z, rfl, q⟩
section
variable {X : Cx} {pins : List (Addr × Obj)} {σ : L2.St} {H : Hp} {s : Shared} {a : Addr} {c f : Str} {fvs : List (Str × V)} {fs : List Str} {v : V}
/-- .. its attribute -/
theorem xf_run {ex : Bool} {Q : VK} (I : Inv X pins σ H s) (S : XnS X.K c fs) (hf : f ∈ fs) (hx : XnH X.K H a c fvs) (l : fvs.lookup f = some v) (q : Q v H) : wpAny (model X.prog X.w) X.A (getAttr (.ref a) f ex) (EP X pins σ Q) X.xe s := by
  rcases hx with ⟨rfl, _⟩ | ⟨dx, h, g⟩
  · cases l
  · obtain ⟨t1, ho⟩ := exo_at I.hok h
    obtain ⟨mA, hn, rel⟩ := exd_at I.hok g
    obtain ⟨od, hd, hl⟩ := lookIn_ns hn
    obtain ⟨u, hu, ru⟩ := RelO.some_of (v := v) (o := mA f) (l ▸ rel f)
    have J : PySem.W.InstAt s.heap a _ (He.ga X.K c) (some od) := ⟨ho, rfl, rfl, hd⟩
    exact HandSPX.exc_get I.kIn J S.ec.hg S.ec.hk S.ec.hs (PySem.W.findObj_own S.ec.hd (S.na f hf) rfl (by rw [hl f, hu])) (handed_of ru) ⟨v, H, I.tok _, ru, q⟩
end
/-- e.f: of an instance, of an exception as a value -/
def tFldX (K : PySem.W.Frag) (ta : TE) (f : Str) : TE := fun σ H Q => ta σ H fun x H1 => (∃ a C dx gs v, x = .ref a ∧ H1 a = some (.ins C dx gs) ∧ Cls K C ∧ NoAttr K C f ∧ gs.lookup f = some v ∧ Q v H1) ∨
  ∃ a c fvs fs v, x = .ref a ∧ XnS K c fs ∧ f ∈ fs ∧ XnH K H1 a c fvs ∧ fvs.lookup f = some v ∧ Q v H1
theorem pe_fldX {X : Cx} {l : Expr} {f : Str} {pos : Pos} {ta : TE} (he : PE X l ta) (hb : attributeBase l f X.env (eval l X.env) = eval l X.env) : PE X (.Attribute l f pos) (tFldX X.K ta f) :=
  ⟨fun ps s σ H Q I h => attr_of hb (thn (he.run ps s σ H _ I h) fun u s1 hh => by
    obtain ⟨x, H1, I1, rx, hh⟩ := hh
    rcases hh with ⟨a, C, dx, gs, v, rfl, ea, cl, na, lk, q⟩ | ⟨a, c, fvs, fs, v, rfl, S, hf, hx, lk, q⟩
    · obtain rfl : u = Value.ref a := rx
      exact getattr_ok I1 ea cl na lk fun w s2 I2 rw => ⟨v, H1, I2, rw, q⟩
    · obtain rfl : u = Value.ref a := rx
      exact xf_run I1 S hf hx lk q)⟩
end VI
set_option maxRecDepth 100000
set_option maxHeartbeats 2000000
/-! VI: built-in functions, methods of texts, isinstance. -/
namespace VI
open PySem PySem.Spec PyProof.Rows L2

theorem sortI_perm (ns : List Int) : (sortI ns).Perm ns := List.mergeSort_perm ns _
theorem sortI_sorted (ns : List Int) : (sortI ns).Pairwise (· ≤ ·) := by
  have h := List.pairwise_mergeSort (le := fun a b : Int => decide (a ≤ b)) (fun a b c h1 h2 => by
    have h1 := of_decide_eq_true h1
    have h2 := of_decide_eq_true h2
    exact decide_eq_true (by omega)) (fun a b => by
    by_cases h : a ≤ b
    · rw [decide_eq_true h]; rfl
    · rw [decide_eq_true (show b ≤ a by omega), Bool.or_true]) ns
  exact h.imp fun h => of_decide_eq_true h
theorem sortI_uniq {ns ns' : List Int} (p : ns'.Perm ns) (s : ns'.Pairwise (· ≤ ·)) : ns' = sortI ns :=
  PySem.W.ksm_same (p.trans (sortI_perm ns).symm) s (sortI_sorted ns)

section
variable {prog : Program} {w : World} {A : Around} {E : Value → Shared → Prop} {s : Shared} {l : Addr} {xs : Array (Int × Tok)} {ns : List Int} {its : List Value} {Q : Value → Shared → Prop}
theorem sum_tupI (hh : A.handled = none) (hT : s.heap.IsTuple l (intItems xs))
    (h : ∀ h' tk t', (∀ b o, s.heap.get? b = some o → h'.get? b = some o) → Q (.int (preSum (numAt xs) xs.size) t') { s with heap := h', toks := tk }) :
    wpAny (model prog w) A (call (.builtin "sum") [.ref l]) Q E s := by
  have hlt : l < s.heap.objs.size := by obtain ⟨_, e, _⟩ := hT; exact Heap.lt_size e
  refine call_sum_walkG (wpAny_pyIter_tuple hT ?_)
  refine ⟨_, [s.heap.objs.size, l], [s.heap.objs.size], _, _, _, numAt xs, rfl, Walks.tuple (A := A.in1) hh _ l (Nat.ne_of_lt hlt) (intItems xs), ⟨⟨_, Heap.get?_push_size _ rfl, rfl, rfl⟩, hT.push _⟩, fun b hb => ?_, (fun _ _ => intItems_at), fun h' tk t' hk => ?_⟩
  · show b < (s.heap.push _).objs.size
    rw [Heap.size_push]
    rcases List.mem_cons.mp hb with rfl | hb
    · exact Nat.lt_succ_self _
    · rcases List.mem_cons.mp hb with rfl | hb
      · exact Nat.lt_succ_of_lt hlt
      · cases hb
  · have := h h' tk t' fun b o e => hk b o (fun hm => by
      rcases List.mem_cons.mp hm with e1 | hm
      · exact absurd (e1 ▸ Heap.lt_size e) (Nat.lt_irrefl _)
      · cases hm) (Heap.get?_push_of_some _ e)
    simpa [intItems] using this
theorem sum_rawT (hh : A.handled = none) (hl : s.heap.IsTuple l its.toArray) (hi : IntsAre its ns)
    (h : ∀ h' tk t', (∀ b o, s.heap.get? b = some o → h'.get? b = some o) → Q (.int ns.sum t') { s with heap := h', toks := tk }) : wpAny (model prog w) A (call (.builtin "sum") [.ref l]) Q E s := by
  obtain ⟨xs, e⟩ := hi.allInts.items
  have hn : numsOf (intItems xs).toList = ns := by rw [← e]; exact hi.numsOf
  rw [nums_intItems] at hn
  rw [e] at hl
  refine sum_tupI hh hl fun h' tk t' hk => ?_
  have := h h' tk t' hk
  rw [preSum_eq, List.take_of_length_le (by simp), hn]; exact this
end
/-- sum of a tuple of ints -/
def rSumT (K : PySem.W.Frag) : List V → Hp → VK → Prop := fun vs H Q => ∃ (a : Addr) (ns : List Int), vs = [V.ref a] ∧ SqT K H a (ns.map V.int) ∧ Q (.int ns.sum) H
theorem cr_sumT {X : Cx} (hc : X.calm = true) : CallR X (.builtin "sum") (rSumT X.K) := by
  intro pins s σ H vs us Q I r h
  obtain ⟨a, ns, rfl, hs, q⟩ := h
  obtain ⟨its, rv, hl, _⟩ := I.tuple hs
  rw [Vals.ref1 r]
  exact sum_rawT (I.ok.hd hc) hl rv.ints fun h' tk t' hk => ⟨.int _, H, I.kept hk, ⟨_, rfl⟩, q⟩

/-- len of a dict -/
def rLenD : List V → Hp → VK → Prop := fun vs H Q => ∃ (a : Addr) (kvs : List (Key × V)), vs = [V.ref a] ∧ Rd H a (.dK kvs) ∧ Q (.int kvs.length) H
theorem cr_lenD {X : Cx} : CallR X (.builtin "len") rLenD := by
  intro pins s σ H vs us Q I r h
  obtain ⟨a, kvs, rfl, e, q⟩ := h
  rw [Vals.ref1 r]
  exact d_len I e fun t s' I' => ⟨.int kvs.length, H, I', ⟨t, rfl⟩, q⟩
/-- divmod by a positive divisor below 2 ^ 9000 -/
def rDvm : List V → Hp → VK → Prop := fun xs H Q => ∃ i j, xs = [.int i, .int j] ∧ CDivW i j ∧ ∀ p, H p = none → Q (.ref p) (upd H p (.tup [.int (i / j), .int (i % j)]))
theorem cr_dvm {X : Cx} : CallR X (.builtin "divmod") rDvm := by
  intro pins s σ H xs us Q I r h
  obtain ⟨i, j, rfl, ⟨h1, h2⟩, q⟩ := h
  obtain ⟨u, w', rfl, ⟨t, rfl⟩, ⟨t', rfl⟩⟩ := vals2 r
  refine divmod_int (by omega) ?_ (.inl (PyProof.noPylong_of_log2 h2))
  rw [Int.fdiv_eq_ediv_of_nonneg i (by omega), Int.fmod_eq_emod_of_nonneg i (by omega)]
  have hn : H s.heap.objs.size = none := I.hok.fresh (Nat.le_refl _)
  refine ⟨.ref s.heap.objs.size, _, ?_, rfl, q _ hn⟩
  refine I.laid (fun b o e => Heap.get?_push_of_some _ e) (Nat.le_refl _) ⟨by simp only [List.length_cons, List.length_nil]; rw [sizeLine_eq]; decide, [.int (i / j) s.toks, .int (i % j) (s.toks + 1)], .cons ⟨_, rfl⟩ (.cons ⟨_, rfl⟩ .nil), ?_⟩
  exact ⟨_, Heap.get?_push_size s.heap rfl, rfl, 0, rfl⟩
def biN : Bi → Str
  | .len => "len" | .int => "int" | .str => "str" | .max2 => "max" | .min2 => "min" | .sum => "sum" | .tup => "tuple" | .lst => "list" | .sorted => "sorted" | .abs => "abs" | .dvm => "divmod" | .dct => "dict"
def biV : Bi → Value
  | .len => .builtin "len" | .int => .type "int" | .str => .type "str" | .max2 => .builtin "max" | .min2 => .builtin "min" | .sum => .builtin "sum" | .tup => .type "tuple" | .lst => .type "list" | .sorted => .builtin "sorted" | .abs => .builtin "abs" | .dvm => .builtin "divmod" | .dct => .type "dict"
theorem bi_boot (f : Bi) : bootBuiltins (biN f) = some (biV f) := by cases f <;> decide +kernel
theorem bi_nm (f : Bi) : biN f ≠ "__name__" ∧ (biN f == ("__debug__" : Str)) = false := by cases f <;> decide
/-- within an except suite not asked -/
def biCalm : Bi → Bool
  | .max2 => true | .min2 => true | .sum => true | _ => false
def rBi (K : PySem.W.Frag) : Bi → List V → Hp → VK → Prop
  | .len => fun xs H Q => (∃ p ys, xs = [.ref p] ∧ (SqL K H p ys ∨ SqT K H p ys) ∧ Q (.int ys.length) H) ∨ (∃ z, xs = [.str z] ∧ z.length ≤ sizeLine ∧ Q (.int z.length) H) ∨ rLenD xs H Q
  | .int => fun xs H Q => ((∃ i, xs = [.int i] ∧ Q (.int i) H) ∨ ∃ k, xs = [.bl k] ∧ Q (.int (if k then 1 else 0)) H) ∨ (∃ a n, xs = [.str a] ∧ PySem.intText? a = some n ∧ a.length ≤ 640 ∧ Q (.int n) H)
  | .str => fun xs H Q => ∃ i, xs = [.int i] ∧ i.natAbs.log2 < 1920 ∧ Q (.str (toString i)) H
  | .max2 => fun xs H Q => ∃ i j, xs = [.int i, .int j] ∧ Q (.int (if j > i then j else i)) H
  | .min2 => fun xs H Q => ∃ i j, xs = [.int i, .int j] ∧ Q (.int (if j < i then j else i)) H
  | .sum => fun xs H Q => rSum K xs H Q ∨ rSumT K xs H Q
  | .tup => fun xs H Q => ∃ p ys, xs = [.ref p] ∧ ((SqL K H p ys ∧ ∀ l, H l = none → Q (.ref l) (upd H l (.tup ys))) ∨ (SqT K H p ys ∧ Q (.ref p) H))
  | .lst => fun xs H Q => ∃ p ys, xs = [.ref p] ∧ (SqL K H p ys ∨ SqT K H p ys) ∧ ∀ l, H l = none → Q (.ref l) (upd H l (.lst ys))
  | .sorted => fun xs H Q => rSortedI K xs H Q ∨ rSortedS K xs H Q
  | .abs => fun xs H Q => ∃ i, xs = [.int i] ∧ Q (.int (if i < 0 then -i else i)) H
  | .dvm => rDvm
  | .dct => fun xs H Q => ∃ (a : Addr) (kvs : List (Key × V)), xs = [.ref a] ∧ Rd H a (.dK kvs) ∧ ∀ p, H p = none → Q (.ref p) (upd H p (.dK kvs))
theorem op_Bi {X : Cx} : ∀ f, (biCalm f = true → X.calm = true) → CallR X (biV f) (rBi X.K f)
  | .len, _ => call_len_seq.or (call_len_str.or cr_lenD)
  | .int, _ => call_int1.or call_int_str
  | .str, _ => call_str_int
  | .max2, h => call_max2 (h rfl)
  | .min2, h => call_min2 (h rfl)
  | .sum, h => (cr_sum (h rfl)).or (cr_sumT (h rfl))
  | .tup, _ => call_tuple_of
  | .lst, _ => call_list_of
  | .sorted, _ => cr_sortedI.or cr_sortedS
  | .abs, _ => call_abs
  | .dvm, _ => cr_dvm
  | .dct, _ => call_dictD

section
variable {K : PySem.W.Frag} {Er : EE} {F F' F1 : Addr → Prop} {H H' H1 : Hp} {v x y : V} {dx dy d : D} {L Lx Ly : List Addr} {e : Env} {σ : L2.St} {Ls : Nat → List Addr} {U : List Addr}
variable {Wf : Bool → Nat → L2.St → Hp → Prop} {m p : Bool} {rt : Option Nat} {Q : VK}
theorem finD' (s : Sx K Er F H e σ Ls) {rs : List (Option Nat)} {kvs : List (Key × V)} {ks : List Key} {ds : List D} (q : PostE K Er Wf m F H Ls U σ p none (shr rs (.dct true ks ds) e) Q) (hk : kvs.map (·.1) = ks ∧ ks.Nodup) (r : Reps K Er F H (kvs.map (·.2)) ds L) (hU : ∀ a ∈ L, a ∈ U) (hv : ∀ a ∈ L, In Ls a → ¬ F a → ∃ i, some i ∈ rs ∧ a ∈ Ls i) :
    ∀ a, H a = none → Q (.ref a) (upd H a (.dK kvs)) := by
  obtain ⟨F', Ls', e', ds', _, e1, s', E, r'⟩ := shr_ok s r hU hv
  have e2 : shr rs (.dct true ks ds) e = .ok (.dct true ks ds') e' := by
    unfold shr at e1 ⊢
    cases h : lfL ds with
    | true =>
      simp only [inLf, h, if_true] at e1 ⊢
      cases e1
      rfl
    | false =>
      simp only [inLf, h, if_false, Bool.false_eq_true, frzIn] at e1 ⊢
      cases e1
      rfl
  rw [e2] at q
  have q' := PostE.step (m1 := false) (m2 := m) (fun z => Bool.noConfusion z) id E q
  intro a n
  exact q' (.ref a) F' (upd H a (.dK kvs)) Ls' [a] (((Eff.laid s' n).mono fun z => Bool.noConfusion z).less fun b hb => .inl (by simp at hb; simp [hb])) (s'.laid n) (.dow (L := []) upd_same hk (r'.all (all_laid n)))
    (Own.ov ⟨by simp, fun b hb => by
      simp at hb; subst hb
      exact ⟨s'.newF n, s'.newI n⟩⟩ rfl)
theorem _root_.VI.Rep.dctN {m : Bool} {ks : List Key} {ds : List D} {v : V} {L : List Addr} (r : Rep K Er F H v (.dct m ks ds) L) : ks.Nodup := by
  cases r with
  | dow h e q => exact e.2
  | dfr h f e q => exact e.2
theorem bi_val {f : Bi} {rs : List (Option Nat)} {vs : List V} {ds : List D} (s : Sx K Er F H e σ Ls) (r : Reps K Er F H vs ds L) (hU : ∀ a ∈ L, a ∈ U) (hv : ∀ a ∈ L, In Ls a → ¬ F a → ∃ i, some i ∈ rs ∧ a ∈ Ls i)
    (q : PostE K Er Wf m F H Ls U σ p none (match bifD f ds with | some d => shr rs d e | none => .stuck) Q) : rBi K f vs H Q := by
  cases hb : bifD f ds with
  | none => rw [hb] at q; exact q.elim
  | some d =>
    rw [hb] at q
    replace q : PostE K Er Wf m F H Ls U σ p none (shr rs d e) Q := q
    unfold bifD at hb
    split at hb
    · cases hb
      obtain ⟨v, rfl, r1⟩ := r.one'
      obtain ⟨a, vs, M, rfl, h1, r2, s2⟩ := r1.lst'
      refine .inl ⟨a, vs, rfl, .inl (.inl h1), ?_⟩
      rw [r2.len]
      exact fin0 s q (.int _)
    · cases hb
      obtain ⟨v, rfl, r1⟩ := r.one'
      obtain ⟨a, vs, rfl, h1, r2⟩ := r1.tup'
      refine .inl ⟨a, vs, rfl, .inr (sqT_of h1), ?_⟩
      rw [r2.len]
      exact fin0 s q (.int _)
    · cases hb
      obtain ⟨v, rfl, r1⟩ := r.one'
      obtain ⟨a, rfl, h1, _⟩ := r1.scr'
      refine .inl ⟨a, _, rfl, .inl h1.sq, ?_⟩
      rw [List.length_map]
      exact fin0 s q (.int _)
    · cases hb
      obtain ⟨v, rfl, r1⟩ := r.one'
      obtain ⟨a, kvs, M, rfl, h1, h2, r2, s2⟩ := r1.dct'
      refine .inr (.inr ⟨a, kvs, rfl, h1, ?_⟩)
      rw [← List.length_map (as := kvs) (f := fun x => x.1), h2]
      exact fin0 s q (.int _)
    · split at hb
      · rename_i hz
        cases hb
        obtain ⟨v, rfl, r1⟩ := r.one'
        obtain ⟨rfl, rfl⟩ := r1.str'
        exact .inr (.inl ⟨_, rfl, most_le hz, fin0 s q (.int _)⟩)
      · cases hb
    · cases hb
      obtain ⟨v, rfl, r1⟩ := r.one'
      obtain ⟨rfl, rfl⟩ := r1.int'
      exact .inl (.inl ⟨_, rfl, fin0 s q (.int _)⟩)
    · cases hb
      obtain ⟨v, rfl, r1⟩ := r.one'
      obtain ⟨rfl, rfl⟩ := r1.bl'
      exact .inl (.inr ⟨_, rfl, fin0 s q (.int _)⟩)
    · split at hb
      · rename_i n hn
        split at hb
        · rename_i hz
          cases hb
          obtain ⟨v, rfl, r1⟩ := r.one'
          obtain ⟨rfl, rfl⟩ := r1.str'
          exact .inr ⟨_, _, rfl, hn, hz, fin0 s q (.int _)⟩
        · cases hb
      · cases hb
    · split at hb
      · rename_i hz
        cases hb
        obtain ⟨v, rfl, r1⟩ := r.one'
        obtain ⟨rfl, rfl⟩ := r1.int'
        exact ⟨_, rfl, hz, fin0 s q (.str _)⟩
      · cases hb
    · cases hb
      obtain ⟨v, v', M, M', rfl, r1, r2, rfl⟩ := r.two'
      obtain ⟨rfl, rfl⟩ := r1.int'
      obtain ⟨rfl, rfl⟩ := r2.int'
      exact ⟨_, _, rfl, fin0 s q (.int _)⟩
    · cases hb
      obtain ⟨v, v', M, M', rfl, r1, r2, rfl⟩ := r.two'
      obtain ⟨rfl, rfl⟩ := r1.int'
      obtain ⟨rfl, rfl⟩ := r2.int'
      exact ⟨_, _, rfl, fin0 s q (.int _)⟩
    · rename_i mm xs
      cases hn : intsD xs with
      | none => rw [hn] at hb; cases hb
      | some ns =>
        rw [hn] at hb
        cases hb
        have ex := intsD_some hn
        subst ex
        obtain ⟨v, rfl, r1⟩ := r.one'
        obtain ⟨a, vs, M, rfl, h1, r2, s2⟩ := r1.lst'
        obtain ⟨rfl, _⟩ := r2.ints
        exact .inl ⟨a, ns, rfl, .inl h1, fin0 s q (.int _)⟩
    · rename_i xs
      cases hn : intsD xs with
      | none => rw [hn] at hb; cases hb
      | some ns =>
        rw [hn] at hb
        cases hb
        have ex := intsD_some hn
        subst ex
        obtain ⟨v, rfl, r1⟩ := r.one'
        obtain ⟨a, vs, rfl, h1, r2⟩ := r1.tup'
        obtain ⟨rfl, _⟩ := r2.ints
        exact .inr ⟨a, ns, rfl, sqT_of h1, fin0 s q (.int _)⟩
    · cases hb
      obtain ⟨v, rfl, r1⟩ := r.one'
      obtain ⟨a, vs, M, rfl, h1, r2, s2⟩ := r1.lst'
      obtain ⟨f1, f2⟩ := finT' s q r2 (fun c hc => hU c (s2.subset hc)) fun c hc => hv c (s2.subset hc)
      exact ⟨a, vs, rfl, .inl ⟨.inl h1, f1⟩⟩
    · cases hb
      obtain ⟨v, rfl, r1⟩ := r.one'
      obtain ⟨a, vs, rfl, h1, r2⟩ := r1.tup'
      obtain ⟨f1, f2⟩ := finT' s q r2 hU hv
      exact ⟨a, vs, rfl, .inr ⟨sqT_of h1, f2 a h1⟩⟩
    · cases hb
      obtain ⟨v, rfl, r1⟩ := r.one'
      obtain ⟨a, vs, M, rfl, h1, r2, s2⟩ := r1.lst'
      exact ⟨a, vs, rfl, .inl (.inl h1), finL' s q r2 (fun c hc => hU c (s2.subset hc)) fun c hc => hv c (s2.subset hc)⟩
    · cases hb
      obtain ⟨v, rfl, r1⟩ := r.one'
      obtain ⟨a, vs, rfl, h1, r2⟩ := r1.tup'
      exact ⟨a, vs, rfl, .inr (sqT_of h1), finL' s q r2 hU hv⟩
    · cases hb
      obtain ⟨v, rfl, r1⟩ := r.one'
      obtain ⟨a, kvs, M, rfl, h1, h2, r2, s2⟩ := r1.dct'
      exact ⟨a, kvs, rfl, h1, finD' s q ⟨h2, r1.dctN⟩ r2 (fun c hc => hU c (s2.subset hc)) fun c hc => hv c (s2.subset hc)⟩
    · rename_i mm xs
      cases hn : intsD xs with
      | none =>
        rw [hn] at hb
        dsimp only at hb
        cases hn2 : strsD xs with
        | none => rw [hn2] at hb; cases hb
        | some ss =>
          rw [hn2] at hb
          dsimp only at hb
          split at hb
          · rename_i h64
            cases hb
            have ex := strsD_some hn2
            subst ex
            obtain ⟨v, rfl, r1⟩ := r.one'
            obtain ⟨a, vs, M, rfl, h1, r2, s2⟩ := r1.lst'
            obtain ⟨rfl, _⟩ := r2.strs
            refine .inr ⟨a, ss, rfl, .inl h1, h64, fun ys p' hp hs hn => ?_⟩
            rw [sortT_uniq hp hs]
            exact finL' s q (.ofStrs _) (fun _ z => nomatch z) (fun _ z => nomatch z) p' hn
          · cases hb
      | some ns =>
        rw [hn] at hb
        cases hb
        have ex := intsD_some hn
        subst ex
        obtain ⟨v, rfl, r1⟩ := r.one'
        obtain ⟨a, vs, M, rfl, h1, r2, s2⟩ := r1.lst'
        obtain ⟨rfl, _⟩ := r2.ints
        refine .inl ⟨a, ns, rfl, .inl h1, fun ns' p' hp hs hn => ?_⟩
        rw [sortI_uniq hp hs]
        exact finL' s q (.ofInts _) (fun _ z => nomatch z) (fun _ z => nomatch z) p' hn
    · cases hb
      obtain ⟨v, rfl, r1⟩ := r.one'
      obtain ⟨rfl, rfl⟩ := r1.int'
      exact ⟨_, rfl, fin0 s q (.int _)⟩
    · split at hb
      · rename_i hz
        cases hb
        obtain ⟨v, v', M, M', rfl, r1, r2, rfl⟩ := r.two'
        obtain ⟨rfl, rfl⟩ := r1.int'
        obtain ⟨rfl, rfl⟩ := r2.int'
        simp only [divOk, Bool.and_eq_true, decide_eq_true_eq] at hz
        exact ⟨_, _, rfl, hz, (finT' s q (.cons (L := []) (M := []) (.int _) (.cons (L := []) (M := []) (.int _) .nil)) (fun _ z => nomatch z) fun _ z => nomatch z).1⟩
      · cases hb
    · cases hb

/-! ### isinstance -/
structure Exw (K : PySem.W.Frag) (sub : Nat → Nat → Bool) (ca : Nat → Addr) (n m : Nat) : Prop where
  le : n ≤ m
  ex : ∀ c, c < n → ExcC K (ca c)
  kit : ∀ c j, c < n → j < m → PySem.W.kitOne K (.ref (ca c)) (.ref (ca j)) = some (sub c j)
  kitV : ∀ c, c < n → PySem.W.kitOne K (.ref (ca c)) (.type "ValueError") = some true
  exm : ∀ c j, c < n → j < n → PySem.W.exmOne K (.ref (ca c)) (.ref (ca j)) = some (sub c j)
/-- the handled exception: its slot, its class -/
def CurOk (X : Cx) (Er : EE) (ca : Nat → Addr) (n : Nat) (cur : Option (Nat × Nat)) : Prop := ∀ xc, cur = some xc → xc.2 < n ∧ ∃ a oe, Er xc.1 = some (.ref a) ∧ (a, oe) ∈ X.pn ∧ Zc (.ref (ca xc.2)) none oe ∧ ∃ vs, oe.data = .fields vs
def tyN : Ty → String
  | .int => "int" | .str => "str" | .bool => "bool" | .list => "list" | .tuple => "tuple" | .dict => "dict" | .exc _ => "" | .verr => "ValueError" | .cls _ _ _ => "" | .xcl _ _ _ => ""
def tyV' (ca : Nat → Addr) : Ty → V
  | .exc j => .ref (ca j) | .cls j _ _ => .ref (ca j) | .xcl j _ _ => .ref (ca j) | t => .ty (tyN t)
def tyU (ca : Nat → Addr) : Ty → Value
  | .exc j => .ref (ca j) | .cls j _ _ => .ref (ca j) | .xcl j _ _ => .ref (ca j) | t => .type (tyN t)
theorem tyClsV (ca : Nat → Addr) (t : Ty) : ClsV (tyV' ca t) (tyU ca t) := by
  cases t with
  | exc j => exact .own _
  | cls j ys ns => exact .own _
  | xcl j ys ns => exact .own _
  | int => exact .ty _
  | str => exact .ty _
  | bool => exact .ty _
  | list => exact .ty _
  | tuple => exact .ty _
  | dict => exact .ty _
  | verr => exact .ty _
theorem tyRel (ca : Nat → Addr) (t : Ty) : RelV (tyV' ca t) (tyU ca t) := by cases t <;> rfl
def dTy : D → String
  | .non => "NoneType" | .bl _ => "bool" | .int _ => "int" | .str _ => "str" | .tup _ => "tuple" | .lst _ _ => "list" | .dct _ _ _ => "dict" | .dtt _ _ _ => "dict" | .obj _ _ _ _ => "object" | .scr _ => "list" | .unk => "object" | .hole _ => "object" | .exn _ _ _ => "object"
/-- what isinstance asks of an own class -/
structure InsF (K : PySem.W.Frag) (c : Str) : Prop where
  cl : Cls K (He.ga K c)
  ha : PySem.W.findIn K (.ref (He.ga K c)) "__class__" = some (some (.builtin "object.__class__"))
  hn : PySem.W.specialIn K (.builtin "object.__class__") "__get__" = some (some (.builtin "getset_descriptor.__get__"))
  htk : PySem.W.takesIn K (.builtin "object.__class__") = some true
  hm : PySem.W.mroIn K (He.ga K c) (.type "object") = some true
/-- what stands under an own class -/
structure TyW (K : PySem.W.Frag) (ca : Nat → Addr) (t : Ty) : Prop where
  base : ∀ j ys ns, t = .cls j ys ns → ∀ T ∈ ["NoneType", "bool", "int", "str", "tuple", "list", "dict"], PySem.W.kitOne K (.type T) (.ref (ca j)) = some false
  yes : ∀ j ys ns, t = .cls j ys ns → ∀ c ∈ ys, InsF K c ∧ PySem.W.kitOne K (.ref (He.ga K c)) (.ref (ca j)) = some true
  no : ∀ j ys ns, t = .cls j ys ns → ∀ c ∈ ns, InsF K c ∧ PySem.W.kitOne K (.ref (He.ga K c)) (.ref (ca j)) = some false
  xy : ∀ j ys ns, t = .xcl j ys ns → ∀ c ∈ ys, PySem.W.kitOne K (.ref (He.ga K c)) (.ref (ca j)) = some true
  xn : ∀ j ys ns, t = .xcl j ys ns → ∀ c ∈ ns, PySem.W.kitOne K (.ref (He.ga K c)) (.ref (ca j)) = some false
def isExn : D → Bool
  | .exn _ _ _ => true
  | _ => false
def dVal (K : PySem.W.Frag) : D → Value
  | .obj _ c _ _ => .ref (He.ga K c)
  | .exn c _ _ => .ref (He.ga K c)
  | d => .type (dTy d)
theorem Rep.tyx (r : Rep K Er F H v d L) (ht : tyable d = true) : TyX K H v (.type (dTy d)) := by
  cases r with
  | non => exact .base .non
  | bl b => exact .base (.bl b)
  | int b => exact .base (.int b)
  | str b => exact .base (.str b)
  | tup h _ => exact .base (.tup h)
  | own h _ => exact .base (.lst h)
  | scr h =>
    rcases h with ⟨o, h⟩ | ⟨o, its, n, h, hc, _⟩
    · exact .base (.frz h)
    · exact .kList h hc
  | fro h _ _ =>
    rcases h with h | ⟨o, h⟩
    · exact .base (.lst h)
    · exact .base (.frz h)
  | dow h _ _ => exact .base (.dK h)
  | dfr h _ _ _ =>
    rcases h with h | ⟨o, h⟩
    · exact .base (.dK h)
    · exact .fDict h
  | tow h _ _ => exact .base (.dT h)
  | tfr h _ _ _ => cases ht
  | oow h _ _ => cases ht
  | ofr h _ _ _ => cases ht
  | unk => cases ht
  | hole _ => cases ht
  | exn _ _ _ _ => cases ht
/-- .. of instances too -/
theorem Rep.tyv (r : Rep K Er F H v d L) (ht : tyable d = true ∨ ∃ m c fs xs, d = .obj m c fs xs ∧ InsF K c) : TyX K H v (dVal K d) := by
  rcases ht with ht | ⟨m, c, fs, xs, rfl, I⟩
  · have e : dVal K d = .type (dTy d) := by
      cases d <;> (first | rfl | cases ht)
    rw [e]
    exact r.tyx ht
  · cases r with
    | oow h _ _ => exact .base (.ins h I.cl I.ha I.hn I.htk I.hm)
    | ofr h _ _ _ => exact .base (.ins h I.cl I.ha I.hn I.htk I.hm)
theorem isTy_able {ca : Nat → Addr} {t : Ty} {b : Bool} (hx : isExn d = false) (T : TyW K ca t) (e : isTy d t = some b) : tyable d = true ∨ ∃ m c fs xs, d = .obj m c fs xs ∧ InsF K c := by
  cases d <;> (first | exact .inl rfl | (cases hx; done) | (cases t <;> cases e; done) | skip)
  · rename_i m _ _
    cases m with
    | true => exact .inl rfl
    | false => cases t <;> cases e
  · rename_i m c fs xs
    cases t <;> (first | (cases e; done) | skip)
    rename_i j ys ns
    refine .inr ⟨m, c, fs, xs, rfl, ?_⟩
    simp only [isTy] at e
    split at e
    · rename_i h; exact (T.yes j ys ns rfl c h).1
    · split at e
      · rename_i h; exact (T.no j ys ns rfl c h).1
      · cases e
theorem isAny_able {ca : Nat → Addr} (hx : isExn d = false) : ∀ {ts : List Ty} {b : Bool}, (∀ t ∈ ts, TyW K ca t) → isAny d ts = some b → tyable d = true ∨ ∃ m c fs xs, d = .obj m c fs xs ∧ InsF K c
  | [], b, _, e => by
    simp only [isAny] at e
    split at e
    · exact .inl (by assumption)
    · cases e
  | t :: ts, b, T, e => by
    simp only [isAny] at e
    split at e
    · rename_i z; exact isTy_able hx (T t List.mem_cons_self) z
    · rename_i z; exact isTy_able hx (T t List.mem_cons_self) z
    · cases e
theorem isTy_kit {ca : Nat → Addr} {t : Ty} {b : Bool} (hx : ∀ c fs xs, d = .exn c fs xs → PySem.W.kitOne K (.ref (He.ga K c)) (.type "ValueError") = some true) (T : TyW K ca t) (e : isTy d t = some b) : PySem.W.kitOne K (dVal K d) (tyU ca t) = some b := by
  cases d
  case dtt m _ _ =>
    cases m with
    | false => cases t <;> cases e
    | true =>
      cases t <;> (first | (cases e; done) | skip) <;> (first | (cases e; dsimp only [dVal, dTy, tyU, tyN]; exact kit_ty (by decide +kernel)) | skip)
      cases e; exact T.base _ _ _ rfl _ (by simp [dTy])
  case exn c fs xs =>
    cases t <;> (first | (cases e; done) | skip)
    · cases e; exact hx c fs xs rfl
    · rename_i j ys ns
      simp only [isTy] at e
      split at e
      · rename_i h; cases e; exact T.xy j ys ns rfl c h
      · split at e
        · rename_i h; cases e; exact T.xn j ys ns rfl c h
        · cases e
  case obj m c fs xs =>
    cases t <;> (first | (cases e; done) | skip)
    rename_i j ys ns
    simp only [isTy] at e
    split at e
    · rename_i h; cases e; exact (T.yes j ys ns rfl c h).2
    · split at e
      · rename_i h; cases e; exact (T.no j ys ns rfl c h).2
      · cases e
  all_goals cases t <;> (first | (cases e; done) | skip) <;> (first | (cases e; dsimp only [dVal, dTy, tyU, tyN]; exact kit_ty (by decide +kernel)) | skip)
  all_goals (cases e; exact T.base _ _ _ rfl _ (by simp [dTy]))
theorem isTyX_kit {sub : Nat → Nat → Bool} {ca : Nat → Addr} {n m c : Nat} {t : Ty} {b : Bool} (W : Exw K sub ca n m) (hc : c < n) (ht : ∀ j, t = .exc j → j < m) (e : isTyX sub c t = some b) : PySem.W.kitOne K (.ref (ca c)) (tyU ca t) = some b := by
  cases t with
  | exc j => cases e; exact W.kit c j hc (ht j rfl)
  | verr => cases e; exact W.kitV c hc
  | _ => cases e
theorem isAny_kit {ca : Nat → Addr} (hx : ∀ c fs xs, d = .exn c fs xs → PySem.W.kitOne K (.ref (He.ga K c)) (.type "ValueError") = some true) : ∀ {ts : List Ty} {b : Bool}, (∀ t ∈ ts, TyW K ca t) → isAny d ts = some b → PySem.W.kitAny K (dVal K d) (ts.map (tyU ca)) = some b
  | [], b, _, e => by
    simp only [isAny] at e
    split at e
    · exact e
    · cases e
  | t :: ts, b, T, e => by
    simp only [isAny] at e
    split at e
    · rename_i z
      cases e
      exact kitAny_cons (isTy_kit hx (T t List.mem_cons_self) z) (fun q => Bool.noConfusion q) fun _ => rfl
    · rename_i z
      refine kitAny_cons (isTy_kit hx (T t List.mem_cons_self) z) (fun _ => ?_) fun q => Bool.noConfusion q
      cases ts with
      | nil => exact e
      | cons t2 ts => exact isAny_kit hx (fun t h => T t (List.mem_cons_of_mem _ h)) e
    · cases e
theorem isAnyX_kit {sub : Nat → Nat → Bool} {ca : Nat → Addr} {n m c : Nat} (W : Exw K sub ca n m) (hc : c < n) : ∀ {ts : List Ty} {b : Bool}, (∀ j, .exc j ∈ ts → j < m) → isAnyX sub c ts = some b → PySem.W.kitAny K (.ref (ca c)) (ts.map (tyU ca)) = some b
  | [], b, _, e => e
  | t :: ts, b, h, e => by
    have h1 : ∀ j, t = .exc j → j < m := fun j q => h j (by rw [q]; exact List.mem_cons_self)
    simp only [isAnyX] at e
    split at e
    · rename_i z
      cases e
      exact kitAny_cons (isTyX_kit W hc h1 z) (fun q => Bool.noConfusion q) fun _ => rfl
    · rename_i z
      exact kitAny_cons (isTyX_kit W hc h1 z) (fun _ => isAnyX_kit W hc (fun j q => h j (List.mem_cons_of_mem _ q)) e) fun q => Bool.noConfusion q
    · cases e
end
/-- isinstance of the handled exception -/
def rIsX (K : PySem.W.Frag) (Er : EE) (ca : Nat → Addr) (xc : Nat × Nat) : List V → Hp → VK → Prop := fun xs H Q => ∃ a, Er xc.1 = some (.ref a) ∧
  ((∃ (k : V) (u : Value) (b : Bool), xs = [.ref a, k] ∧ ClsV k u ∧ PySem.W.kitOne K (.ref (ca xc.2)) u = some b ∧ Q (.bl b) H) ∨
   (∃ (tp : Addr) (cs : List V) (us : List Value) (b : Bool), xs = [.ref a, .ref tp] ∧ H tp = some (.tup cs) ∧ Paired ClsV cs us ∧ PySem.W.kitAny K (.ref (ca xc.2)) us = some b ∧ Q (.bl b) H))
theorem call_isX {X : Cx} {Er : EE} {sub : Nat → Nat → Bool} {ca : Nat → Addr} {n m : Nat} {cur : Option (Nat × Nat)} {xc : Nat × Nat} (W : Exw X.K sub ca n m) (E : CurOk X Er ca n cur) (hcur : cur = some xc) : CallR X (.builtin "isinstance") (rIsX X.K Er ca xc) := by
  intro pins s σ H xs us Q I r h
  obtain ⟨a, her, h⟩ := h
  obtain ⟨hc, a', oe, her', hpin, hz, vs, hv⟩ := E xc hcur
  rw [her] at her'; cases her'
  obtain ⟨xi, c⟩ := xc
  dsimp only at hc hz h
  have C := W.ex c hc
  obtain ⟨hget, _⟩ := I.pin (a, oe) (List.mem_append.mpr (.inl hpin))
  have J : PySem.W.InstAt s.heap a oe (ca c) none := by
    obtain ⟨oc, od, oda, osl⟩ := oe
    obtain ⟨h1, h2⟩ := hz
    dsimp only at h1 h2 hv
    subst h1 h2 hv
    exact ⟨hget, rfl, rfl, trivial⟩
  rcases h with ⟨k, u, b, rfl, hk, e, q⟩ | ⟨tp, cs, ws, b, rfl, hT, hk, e, q⟩
  · obtain ⟨u1, u2, rfl, r1, r2⟩ := vals2 r
    cases (show u1 = Value.ref a from r1)
    have e2 := hk.eq r2
    subst e2
    exact PySem.W.kia_one (PySem.W.handS_kitx_exc C.hg C.hk C.hs C.hd C.ha C.hn C.ht C.hm) I.kIn J e (fun z => nomatch z) fun tk => ⟨.bl b, H, I.kept (t' := tk) fun _ _ z => z, rfl, q⟩
  · obtain ⟨u1, u2, rfl, r1, r2⟩ := vals2 r
    cases (show u1 = Value.ref a from r1)
    cases (show u2 = Value.ref tp from r2)
    obtain ⟨_, its, rv, o, h1, h2, n, h3⟩ := (show ObjOk X.prog X.w H s.heap tp (.tup cs) from I.hok tp _ hT)
    have e3 := ClsV.all hk rv
    subst e3
    obtain ⟨oc, od, dt, sl⟩ := o
    simp only at h2 h3
    subst h2 h3
    exact PySem.W.kia_tup (PySem.W.handS_kitx_exc C.hg C.hk C.hs C.hd C.ha C.hn C.ht C.hm) I.kIn J h1 e (fun z => nomatch z) fun tk => ⟨.bl b, H, I.kept (t' := tk) fun _ _ z => z, rfl, q⟩
def rIsA (K : PySem.W.Frag) : List V → Hp → VK → Prop := fun xs H Q => rIsi K xs H Q ∨ (rIsiT K xs H Q ∨ rIsN K xs H Q)
theorem call_isA {X : Cx} : CallR X (.builtin "isinstance") (rIsA X.K) := call_isi.or (call_isiT.or call_isN)
theorem isExn_some {d : D} (h : ¬ isExn d = false) : ∃ c fs xs, d = .exn c fs xs := by
  cases d <;> (first | exact absurd rfl h | exact ⟨_, _, _, rfl⟩)
theorem noExn {d : D} {p : Str → Prop} (h : isExn d = false) : ∀ c fs xs, d = .exn c fs xs → p c := fun c fs xs e => by
  subst e; cases h
section
variable {K : PySem.W.Frag} {Er : EE} {F : Addr → Prop} {H : Hp} {v : V} {d : D} {L : List Addr} {Q : VK}
theorem paired_cls (ca : Nat → Addr) : ∀ ts : List Ty, Paired ClsV (ts.map (tyV' ca)) (ts.map (tyU ca))
  | [] => .nil
  | t :: ts => .cons (tyClsV ca t) (paired_cls ca ts)
theorem is_one {ca : Nat → Addr} {t : Ty} {b : Bool} (T : TyW K ca t) (r : Rep K Er F H v d L) (e : isAny d [t] = some b) (q : Q (.bl b) H) : rIsA K [v, tyV' ca t] H Q := by
  have e1 : isTy d t = some b := by
    simp only [isAny] at e
    split at e
    · rename_i z; cases e; exact z
    · rename_i z; cases e; exact z
    · cases e
  by_cases hx : isExn d = false
  · exact .inl ⟨v, tyV' ca t, _, _, b, rfl, tyClsV ca t, r.tyv (isTy_able hx T e1), isTy_kit (noExn hx) T e1, q⟩
  · obtain ⟨c, fs, xs, rfl⟩ := isExn_some hx
    obtain ⟨a, fvs, rfl, S, h, _, _⟩ := r.exn'
    exact .inr (.inr ⟨a, c, fvs, fs, S, h, .inl ⟨_, _, b, rfl, tyClsV ca t, isTy_kit (d := .exn c fs xs) (fun _ _ _ z => by cases z; exact S.ve) T e1, q⟩⟩)
theorem is_tup {ca : Nat → Addr} {ts : List Ty} {b : Bool} {p : Addr} (T : ∀ t ∈ ts, TyW K ca t) (r : Rep K Er F H v d L) (e : isAny d ts = some b) (hp : H p = some (.tup (ts.map (tyV' ca)))) (q : Q (.bl b) H) : rIsA K [v, .ref p] H Q := by
  by_cases hx : isExn d = false
  · exact .inr (.inl ⟨v, p, _, _, _, b, rfl, hp, paired_cls ca ts, r.tyv (isAny_able hx T e), isAny_kit (noExn hx) T e, q⟩)
  · obtain ⟨c, fs, xs, rfl⟩ := isExn_some hx
    obtain ⟨a, fvs, rfl, S, h, _, _⟩ := r.exn'
    exact .inr (.inr ⟨a, c, fvs, fs, S, h, .inr ⟨p, _, _, b, rfl, hp, paired_cls ca ts, isAny_kit (d := .exn c fs xs) (fun _ _ _ z => by cases z; exact S.ve) T e, q⟩⟩)
theorem isX_one {ca : Nat → Addr} {sub : Nat → Nat → Bool} {n m : Nat} {xc : Nat × Nat} {a : Addr} {t : Ty} {b : Bool} (W : Exw K sub ca n m) (hc : xc.2 < n) (her : Er xc.1 = some (.ref a)) (ht : ∀ j, t = .exc j → j < m) (e : isAnyX sub xc.2 [t] = some b) (q : Q (.bl b) H) : rIsX K Er ca xc [.ref a, tyV' ca t] H Q := by
  have e1 : isTyX sub xc.2 t = some b := by
    simp only [isAnyX] at e
    split at e
    · rename_i z; cases e; exact z
    · rename_i z; cases e; exact z
    · cases e
  exact ⟨a, her, .inl ⟨_, _, b, rfl, tyClsV ca t, isTyX_kit W hc ht e1, q⟩⟩
theorem isX_tup {ca : Nat → Addr} {sub : Nat → Nat → Bool} {n m : Nat} {xc : Nat × Nat} {a : Addr} {ts : List Ty} {b : Bool} {p : Addr} (W : Exw K sub ca n m) (hc : xc.2 < n) (her : Er xc.1 = some (.ref a)) (ht : ∀ j, .exc j ∈ ts → j < m) (e : isAnyX sub xc.2 ts = some b) (hp : H p = some (.tup (ts.map (tyV' ca)))) (q : Q (.bl b) H) : rIsX K Er ca xc [.ref a, .ref p] H Q :=
  ⟨a, her, .inr ⟨p, _, _, b, rfl, hp, paired_cls ca ts, isAnyX_kit W hc ht e, q⟩⟩
end
end VI
set_option maxRecDepth 100000
set_option maxHeartbeats 2000000
/-! VI: expressions. -/
namespace VI
open PySem PySem.Spec PyProof.Rows L2

section
variable {K : PySem.W.Frag} {Er : EE} {F F' F1 F2 : Addr → Prop} {H H' H1 H2 : Hp} {v x y : V} {dx dy d : D} {L L' Lx Ly : List Addr} {e e' e1 : Env} {σ : L2.St} {Ls Ls' Ls1 Ls2 : Nat → List Addr} {U T : List Addr}
variable {Wf : Bool → Nat → L2.St → Hp → Prop} {m m1 p : Bool} {rt : Option Nat} {Q : VK} {P : Par}
/-- a view, used behind what changes nothing owned -/
theorem View.use (s : Sx K Er F H e σ Ls) (x : Eff false F H Ls U F1 H1 Ls1 T) (v : View rt F Ls L) : View rt F1 Ls1 L := fun a h ⟨j, hj⟩ nf => by
  have hj0 := x.shr rfl j a hj
  obtain ⟨i, h1, h2⟩ := v a h ⟨j, hj0⟩ fun z => nf (x.fm a z)
  have := s.dj j i a hj0 h2
  subst this
  exact ⟨j, h1, hj⟩
theorem ov_t (o : OV true rt F Ls L) : View rt F Ls L := o
theorem ov_f (o : OV false rt F Ls L) : Own F Ls L := o
theorem toF {m : Bool} (h : m = false) (x : Eff m F H Ls U F1 H1 Ls1 T) : Eff false F H Ls U F1 H1 Ls1 T := by subst h; exact x
theorem ne_mu {m : Bool} (h : m = false) {A : Prop} : m = true → A := fun z => by rw [h] at z; cases z
variable {X : Cx} {l r : Expr} {pos : Pos} {a b c : C}

theorem E_non {j : Nat} : PE X (.Constant .none j pos) (tE K Er Wf P .non p) := pe_non.imp fun σ H Q ⟨F, e, Ls, s, q⟩ => fin0 s q .non
theorem E_bl {i : Bool} {j : Nat} : PE X (.Constant (.bool i) j pos) (tE K Er Wf P (.bl i) p) := pe_bl.imp fun σ H Q ⟨F, e, Ls, s, q⟩ => fin0 s q (.bl _)
theorem E_int {i : Int} {j : Nat} : PE X (.Constant (.int i) j pos) (tE K Er Wf P (.int i) p) := pe_int.imp fun σ H Q ⟨F, e, Ls, s, q⟩ => fin0 s q (.int _)
theorem E_str {i : Str} {j : Nat} : PE X (.Constant (.str i) j pos) (tE K Er Wf P (.str i) p) := pe_str.imp fun σ H Q ⟨F, e, Ls, s, q⟩ => fin0 s q (.str _)
theorem E_get {i : Nat} {n : Str} (hN : X.N[i]? = some n) (hv : Vis X.env.scope n) (hd : (n == ("__debug__" : Str)) = false) (hcd : (n == ("__classdict__" : Str)) = false) : PE X (.Name n pos) (tE K Er Wf P (.get i) p) :=
  (pe_var hN hv hd hcd).imp fun σ H Q ⟨F, e, Ls, s, q⟩ => by
    simp only [ev] at q
    cases he : e[i]? with
    | none => rw [he] at q; exact q.elim
    | some o =>
      cases o with
      | none => rw [he] at q; exact q.elim
      | some d =>
        rw [he] at q
        obtain ⟨v, hσ, r⟩ := s.rep i d he
        refine ⟨v, hσ, ?_⟩
        cases p with
        | true =>
          exact q v F H Ls (Ls i) ⟨fun _ _ z _ => z, fun _ z => z, fun _ z => z, fun _ z => .inr (.inr (.inl z)), fun a z => z.elim .inl fun z => .inl ⟨i, z⟩, fun _ _ _ z => z⟩ s r (fun a z _ _ => ⟨i, rfl, z⟩)
        | false =>
          exact q v _ H _ [] (((Eff.fz F H Ls [] i).mono fun z => Bool.noConfusion z)) (s.fz i) (r.frz (fun _ z => .inl z) fun _ z => .inr z) OV.nil
theorem E_glo {g : Nat} {n : Str} {u : Value} {v : V} {d : D} (hg : Gl X n) (hm : X.mg n = some u) (rv : RelV v u) (hd : (n == ("__debug__" : Str)) = false) (hP : P.glo g = some d) (hr : ∀ F H, Rep K Er F H v d []) : PE X (.Name n pos) (tE K Er Wf P (.glo g) p) :=
  (pe_glob hg hm rv hd).imp fun σ H Q ⟨F, e, Ls, s, q⟩ => by
    simp only [ev, hP, opt] at q
    exact fin0 s q (hr F H)
theorem E_bin {o : Bop} (ha : PE X l (tE X.K Er Wf P a true)) (hb : PE X r (tE X.K Er Wf P b true)) (hm : mu b = false) : PE X (.BinOp l (opB o) r pos) (tE X.K Er Wf P (.bin o a b) p) :=
  (pe_op (op_B o) ha hb).imp fun σ H Q ⟨F, e, Ls, s, q⟩ => by
    simp only [ev] at q
    refine opnd s (m2 := mu (.bin o a b)) (fun z => by simp [mu, z]) id q fun d1 e1 v1 F1 H1 Ls1 L1 E1 S1 R1 O1 q1 => ?_
    refine opnd S1 (m2 := mu (.bin o a b)) (ne_mu hm) id q1 fun d2 e2 v2 F2 H2 Ls2 L2 E2 S2 R2 O2 q2 => ?_
    refine bin_val S2 (R1.side S1 E2 (ne_mu hm)) R2 (fun a z => by simpa using z) (fun a z hi nf => ?_) q2
    rcases List.mem_append.mp z with z | z
    · obtain ⟨i, h1, h2⟩ := (ov_t O1).use S1 (toF hm E2) a z hi nf
      exact ⟨i, by simp [h1], h2⟩
    · obtain ⟨i, h1, h2⟩ := ov_t O2 a z hi nf
      exact ⟨i, by simp [h1], h2⟩
theorem E_neg (ha : PE X l (tE X.K Er Wf P a true)) : PE X (.UnaryOp .USub l pos) (tE X.K Er Wf P (.neg a) p) :=
  (pe_un un_neg ha).imp fun σ H Q ⟨F, e, Ls, s, q⟩ => by
    simp only [ev] at q
    refine opnd s (m2 := mu (.neg a)) id id q fun d1 e1 v1 F1 H1 Ls1 L1 E1 S1 R1 O1 q1 => ?_
    cases d1 <;> (first | exact q1.elim | skip)
    obtain ⟨rfl, rfl⟩ := R1.int'
    exact ⟨_, rfl, fin0 S1 q1 (.int _)⟩
theorem opt_some {o : Option D} (q : PostE K Er Wf m F H Ls U σ p rt (opt o e) Q) : ∃ d, o = some d ∧ PostE K Er Wf m F H Ls U σ p rt (.ok d e) Q := by
  cases o with
  | none => exact q.elim
  | some d => exact ⟨d, rfl, q⟩
theorem opt_bl {o : Option Bool} (s : Sx K Er F H e σ Ls) (q : PostE K Er Wf m F H Ls U σ p rt (opt (o.map .bl) e) Q) : ∃ b, o = some b ∧ Q (.bl b) H := by
  cases o with
  | none => exact q.elim
  | some d => exact ⟨d, rfl, fin0 s q (.bl _)⟩
theorem E_cmp {o : Cop} (hu : X.A.units + 64 < cLine) (ha : PE X l (tE X.K Er Wf P a true)) (hb : PE X r (tE X.K Er Wf P b true)) (hm : mu b = false) (hr : plain r = true) : PE X (.Compare l [opC o] [r] pos) (tE X.K Er Wf P (.cmp o a b) p) :=
  (pe_cmpR (op_C hu o) ha hb (marks_plain hr _)).imp fun σ H Q ⟨F, e, Ls, s, q⟩ => by
    simp only [ev] at q
    refine opnd s (m2 := mu (.cmp o a b)) (fun z => by simp [mu, z]) id q fun d1 e1 v1 F1 H1 Ls1 L1 E1 S1 R1 O1 q1 => ?_
    refine opnd S1 (m2 := mu (.cmp o a b)) (ne_mu hm) id q1 fun d2 e2 v2 F2 H2 Ls2 L2 E2 S2 R2 O2 q2 => ?_
    obtain ⟨b, h1, h2⟩ := opt_bl S2 q2
    exact cmp_val (R1.side S1 E2 (ne_mu hm)) R2 h1 h2
theorem chain_rd {o o' : Cop} {σ : L2.St} {H : Hp} {Q : VK} (hmb : mu b = false) (hmc : mu c = false) (h : tE K Er Wf P (.chain o o' a b c) p σ H Q) : tChain (rC K o) (rC K o') (tE K Er Wf P a true) (tE K Er Wf P b true) (tE K Er Wf P c true) σ H Q := by
  obtain ⟨F, e, Ls, s, q⟩ := h
  simp only [ev] at q
  refine opnd s (m2 := mu (.chain o o' a b c)) (fun z => by simp [mu, z]) id q fun d1 e1 v1 F1 H1 Ls1 L1 E1 S1 R1 O1 q1 => ?_
  refine opnd S1 (m2 := mu (.chain o o' a b c)) (ne_mu hmb) id q1 fun d2 e2 v2 F2 H2 Ls2 L2 E2 S2 R2 O2 q2 => ?_
  cases hc : cmpop o d1 d2 with
  | none => rw [hc] at q2; exact q2.elim
  | some k =>
    rw [hc] at q2
    refine cmp_val (R1.side S1 E2 (ne_mu hmb)) R2 hc ⟨k, rfl, ?_⟩
    cases k with
    | false =>
      rw [if_neg Bool.false_ne_true]
      exact fin0 S2 q2 (.bl _)
    | true =>
      rw [if_pos rfl]
      refine opnd S2 (m2 := mu (.chain o o' a b c)) (ne_mu hmc) id q2 fun d3 e3 v3 F3 H3 Ls3 L3 E3 S3 R3 O3 q3 => ?_
      obtain ⟨b, h1, h2⟩ := opt_bl S3 q3
      exact cmp_val (R2.side S2 E3 (ne_mu hmc)) R3 h1 h2
theorem E_chain {o o' : Cop} {t : Expr} (hu : X.A.units + 64 < cLine) (ha : PE X l (tE X.K Er Wf P a true)) (hb : PE X r (tE X.K Er Wf P b true)) (hc : PE X t (tE X.K Er Wf P c true)) (hmb : mu b = false) (hmc : mu c = false) (ht : plain t = true) :
    PE X (.Compare l [opC o, opC o'] [r, t] pos) (tE X.K Er Wf P (.chain o o' a b c) p) :=
  (pe_chain (op_C hu o) (op_C hu o') ha hb hc (marks_plain ht _)).imp fun σ H Q h => chain_rd hmb hmc h
theorem E_nt (ha : PE X l (tE X.K Er Wf P a true)) : PE X (.UnaryOp .Not l pos) (tE X.K Er Wf P (.nt a) p) :=
  (pe_not ha).imp fun σ H Q ⟨F, e, Ls, s, q⟩ => by
    simp only [ev] at q
    refine opnd s (m2 := mu (.nt a)) id id q fun d1 e1 v1 F1 H1 Ls1 L1 E1 S1 R1 O1 q1 => ?_
    cases d1 <;> (first | exact q1.elim | skip)
    obtain ⟨rfl, rfl⟩ := R1.bl'
    exact ⟨_, rfl, fin0 S1 q1 (.bl _)⟩
theorem E_and {rest : List Expr} (ha : PE X l (tE X.K Er Wf P a true)) (hb : PE X (.BoolOp .And (r :: rest) pos) (tE X.K Er Wf P b true)) : PE X (.BoolOp .And (l :: r :: rest) pos) (tE X.K Er Wf P (.and a b) p) :=
  (pe_and ha hb).imp fun σ H Q ⟨F, e, Ls, s, q⟩ => by
    simp only [ev] at q
    refine opnd s (m2 := mu (.and a b)) (fun z => by simp [mu, z]) id q fun d1 e1 v1 F1 H1 Ls1 L1 E1 S1 R1 O1 q1 => ?_
    cases d1 <;> (first | exact q1.elim | skip)
    rename_i k
    obtain ⟨rfl, rfl⟩ := R1.bl'
    refine ⟨k, rfl, ?_⟩
    cases k with
    | false =>
      rw [if_neg Bool.false_ne_true]
      exact fin0 S1 q1 (.bl _)
    | true =>
      rw [if_pos rfl]
      refine opnd S1 (m2 := mu (.and a b)) (fun z => by simp [mu, z]) id q1 fun d2 e2 v2 F2 H2 Ls2 L2 E2 S2 R2 O2 q2 => ?_
      cases d2 <;> (first | exact q2.elim | skip)
      obtain ⟨rfl, rfl⟩ := R2.bl'
      exact fin0 S2 q2 (.bl _)
theorem E_or {rest : List Expr} (ha : PE X l (tE X.K Er Wf P a true)) (hb : PE X (.BoolOp .Or (r :: rest) pos) (tE X.K Er Wf P b true)) : PE X (.BoolOp .Or (l :: r :: rest) pos) (tE X.K Er Wf P (.or a b) p) :=
  (pe_or ha hb).imp fun σ H Q ⟨F, e, Ls, s, q⟩ => by
    simp only [ev] at q
    refine opnd s (m2 := mu (.or a b)) (fun z => by simp [mu, z]) id q fun d1 e1 v1 F1 H1 Ls1 L1 E1 S1 R1 O1 q1 => ?_
    cases d1 <;> (first | exact q1.elim | skip)
    rename_i k
    obtain ⟨rfl, rfl⟩ := R1.bl'
    refine ⟨k, rfl, ?_⟩
    cases k with
    | true =>
      rw [if_pos rfl]
      exact fin0 S1 q1 (.bl _)
    | false =>
      rw [if_neg Bool.false_ne_true]
      refine opnd S1 (m2 := mu (.or a b)) (fun z => by simp [mu, z]) id q1 fun d2 e2 v2 F2 H2 Ls2 L2 E2 S2 R2 O2 q2 => ?_
      cases d2 <;> (first | exact q2.elim | skip)
      obtain ⟨rfl, rfl⟩ := R2.bl'
      exact fin0 S2 q2 (.bl _)
theorem E_idx (hu : X.A.units + 64 < cLine) (ha : PE X l (tE X.K Er Wf P a true)) (hb : PE X r (tE X.K Er Wf P b true)) (hm : mu b = false) (hr : plain r = true) : PE X (.Subscript l r pos) (tE X.K Er Wf P (.idx a b) p) :=
  (pe_ix (ix_all (by omega)) ha hb (plainIx_plain hr)).imp fun σ H Q ⟨F, e, Ls, s, q⟩ => by
    simp only [ev] at q
    refine opnd s (m2 := mu (.idx a b)) (fun z => by simp [mu, z]) id q fun d1 e1 v1 F1 H1 Ls1 L1 E1 S1 R1 O1 q1 => ?_
    refine opnd S1 (m2 := mu (.idx a b)) (ne_mu hm) id q1 fun d2 e2 v2 F2 H2 Ls2 L2 E2 S2 R2 O2 q2 => ?_
    cases hd : ixD d1 d2 with
    | none => rw [hd] at q2; exact q2.elim
    | some d =>
      rw [hd] at q2
      obtain ⟨v, L, r, sub, fin⟩ := ix_val (R1.side S1 E2 (ne_mu hm)) R2 hd
      refine fin Q ?_
      have hv : ∀ x ∈ L, In Ls2 x → ¬ F2 x → ∃ i, root a = some i ∧ x ∈ Ls2 i := fun x hx hi nf => (ov_t O1).use S1 (toF hm E2) x (sub.subset hx) hi nf
      have hU : ∀ x ∈ L, x ∈ [] ++ L1 ++ L2 := fun x hx => by simp [sub.subset hx]
      cases hp : p || lf d with
      | true =>
        simp only [hp, if_true] at q2
        cases p with
        | true =>
          refine q2 v F2 H2 Ls2 L ⟨fun _ _ z _ => z, fun _ z => z, fun _ z => z, fun _ z => .inr (.inr (.inl z)), fun x z => z.elim .inl fun z => .inr (.inl (hU x z)), fun _ _ _ z => z⟩ S2 r ?_
          exact hv
        | false =>
          have e0 := r.lf (by simpa using hp)
          subst e0
          exact fin0 S2 q2 r
      | false =>
        simp only [hp, if_false, Bool.false_eq_true] at q2
        have hpf : p = false := by cases p; rfl; simp at hp
        subst hpf
        obtain ⟨F3, Ls3, e3, ds3, hh1, hh2, S3, E3, R3⟩ := shr_ok (rs := [root a]) (ds := [d]) (vs := [v]) S2 (.cons (M := []) r .nil) (by rw [List.append_nil]; exact hU) (by rw [List.append_nil]; exact fun x hx hi nf => let ⟨i, h1, h2⟩ := hv x hx hi nf; ⟨i, by simp [h1], h2⟩)
        have hl : lf d = false := by simpa using hp
        have h2' : shr [root a] (.tup [d]) e2 = .ok (.tup [frz d]) (fz e2 (root a)) := by simp [shr, inLf, lfL, hl, frzIn, frzL]
        rw [h2'] at hh2
        cases hh2
        obtain ⟨v', hv', R4⟩ := R3.one'
        cases hv'
        exact fin0 S3 (PostE.step (m1 := false) (m2 := mu (.idx a b)) (fun z => Bool.noConfusion z) id E3 q2) R4
end
end VI
set_option maxRecDepth 100000
set_option maxHeartbeats 2000000
/-! VI: arguments, displays, calls, tests. -/
namespace VI
open PySem PySem.Spec PyProof.Rows L2

def alen : C → Nat
  | .cons _ as => alen as + 1
  | _ => 0
theorem bind_ok {α β : Type} {r : R α} {f : α → Env → R β} {b : β} {e' : Env} (h : r.bind f = .ok b e') : ∃ a e1, r = .ok a e1 ∧ f a e1 = .ok b e' := by
  cases r with
  | ok a e1 => exact ⟨a, e1, rfl, h⟩
  | ex c h e => cases h
  | stuck => cases h
theorem evA_len {P : Par} : ∀ {as : C} {p : Bool} {e e' : Env} {ds : List D}, evA P as p e = .ok ds e' → ds.length = alen as
  | .nil, p, e, e', ds, h => by simp only [evA] at h; cases h; rfl
  | .cons a as, p, e, e', ds, h => by
    simp only [evA] at h
    obtain ⟨x, e1, _, h2⟩ := bind_ok h
    obtain ⟨xs, e2, h3, h4⟩ := bind_ok h2
    cases h4
    rw [List.length_cons, evA_len h3]
    rfl

section
variable {K : PySem.W.Frag} {Er : EE} {F F' F1 F2 : Addr → Prop} {H H' H1 H2 : Hp} {v x y : V} {dx dy d : D} {L L' Lx Ly : List Addr} {e e' e1 : Env} {σ : L2.St} {Ls Ls' Ls1 Ls2 : Nat → List Addr} {U T : List Addr}
variable {Wf : Bool → Nat → L2.St → Hp → Prop} {m m1 m2 p : Bool} {rt : Option Nat} {Q : VK} {P : Par}
theorem PostA.step {rs : List (Option Nat)} {r : R (List D)} {Q : List V → Hp → Prop} (h1 : m1 = true → m = true) (h2 : m2 = true → m = true) (E : Eff m1 F H Ls U F1 H1 Ls1 T) (q : PostA K Er Wf m F H Ls U σ p rs r Q) : PostA K Er Wf m2 F1 H1 Ls1 (U ++ T) σ p rs r Q := by
  cases r with
  | ok d e' => exact fun v F' H' Ls' L x => q v F' H' Ls' L ((E.trans x).mono fun z => by
      rcases Bool.or_eq_true_iff.mp z with z | z
      · exact h1 z
      · exact h2 z)
  | ex c h e' => exact ExP.step h1 h2 E q
  | stuck => exact q
theorem opndA {a : C} {rs : List (Option Nat)} {f : D → Env → R (List D)} {Qa : VK} {Q : List V → Hp → Prop} {pa : Bool} (s : Sx K Er F H e σ Ls) (h1 : mu a = true → m = true) (h2 : m2 = true → m = true) (q : PostA K Er Wf m F H Ls U σ p rs ((ev P a pa e).bind f) Q)
    (g : ∀ d e1 v F1 H1 Ls1 L, Eff (mu a) F H Ls [] F1 H1 Ls1 L → Sx K Er F1 H1 e1 σ Ls1 → Rep K Er F1 H1 v d L → OV pa (root a) F1 Ls1 L → PostA K Er Wf m2 F1 H1 Ls1 (U ++ L) σ p rs (f d e1) Q → Qa v H1) : tE K Er Wf P a pa σ H Qa := by
  refine ⟨F, e, Ls, s, ?_⟩
  cases hr : ev P a pa e with
  | ok d e1 =>
    rw [hr] at q
    intro v F1 H1 Ls1 L E S r o
    exact g d e1 v F1 H1 Ls1 L E S r o (PostA.step h1 h2 (E.more fun _ z => nomatch z) q)
  | ex c h e' =>
    rw [hr] at q
    exact ExP.weak h1 (ExP.none q)
  | stuck => rw [hr] at q; exact q
/-- arguments as operands of arguments -/
theorem argsA {as : C} {rs : List (Option Nat)} {f : List D → Env → R (List D)} {Qa Q : List V → Hp → Prop} {pa : Bool} (s : Sx K Er F H e σ Ls) (h1 : mu as = true → m = true) (h2 : m2 = true → m = true) (q : PostA K Er Wf m F H Ls U σ p rs ((evA P as pa e).bind f) Q)
    (g : ∀ ds e1 vs F1 H1 Ls1 L, Eff (mu as) F H Ls [] F1 H1 Ls1 L → Sx K Er F1 H1 e1 σ Ls1 → Reps K Er F1 H1 vs ds L → (pa = false → Own F1 Ls1 L) → (pa = true → ∀ a ∈ L, In Ls1 a → ¬ F1 a → ∃ r, some r ∈ roots as ∧ a ∈ Ls1 r) → PostA K Er Wf m2 F1 H1 Ls1 (U ++ L) σ p rs (f ds e1) Q → Qa vs H1) : tAr K Er Wf P as pa σ H Qa := by
  refine ⟨F, e, Ls, s, ?_⟩
  cases hr : evA P as pa e with
  | ok d e1 =>
    rw [hr] at q
    intro v F1 H1 Ls1 L E S r o1 o2
    exact g d e1 v F1 H1 Ls1 L E S r o1 o2 (PostA.step h1 h2 (E.more fun _ z => nomatch z) q)
  | ex c h e' =>
    rw [hr] at q
    exact ExP.weak h1 (ExP.none q)
  | stuck => rw [hr] at q; exact q
/-- arguments as operands of an expression -/
theorem args {as : C} {f : List D → Env → R D} {Qa : List V → Hp → Prop} {pa : Bool} (s : Sx K Er F H e σ Ls) (h1 : mu as = true → m = true) (h2 : m2 = true → m = true) (q : PostE K Er Wf m F H Ls U σ p rt ((evA P as pa e).bind f) Q)
    (g : ∀ ds e1 vs F1 H1 Ls1 L, evA P as pa e = .ok ds e1 → Eff (mu as) F H Ls [] F1 H1 Ls1 L → Sx K Er F1 H1 e1 σ Ls1 → Reps K Er F1 H1 vs ds L → (pa = false → Own F1 Ls1 L) → (pa = true → ∀ a ∈ L, In Ls1 a → ¬ F1 a → ∃ r, some r ∈ roots as ∧ a ∈ Ls1 r) → PostE K Er Wf m2 F1 H1 Ls1 (U ++ L) σ p rt (f ds e1) Q → Qa vs H1) : tAr K Er Wf P as pa σ H Qa := by
  refine ⟨F, e, Ls, s, ?_⟩
  cases hr : evA P as pa e with
  | ok d e1 =>
    rw [hr] at q
    intro v F1 H1 Ls1 L E S r o1 o2
    exact g d e1 v F1 H1 Ls1 L hr E S r o1 o2 (PostE.step h1 h2 (E.more fun _ z => nomatch z) q)
  | ex c h e' =>
    rw [hr] at q
    exact ExP.weak h1 (ExP.none q)
  | stuck => rw [hr] at q; exact q
variable {X : Cx} {l r : Expr} {es : List Expr} {pos : Pos} {a b c as : C}
theorem A_nil : PA X [] (tAr K Er Wf P .nil p) := pa_nil.imp fun σ H Q ⟨F, e, Ls, s, q⟩ => by
  simp only [evA] at q
  exact q [] F H Ls [] (Eff.refl.mono fun z => Bool.noConfusion z) s .nil (fun _ => Own.nil) fun _ _ z => nomatch z
theorem A_cons (hl : plain l = true) (ha : PE X l (tE K Er Wf P a p)) (hs : PA X es (tAr K Er Wf P as p)) (hm : p = true → mu as = false) : PA X (l :: es) (tAr K Er Wf P (.cons a as) p) :=
  (pa_cons ha hs (star_plain hl es)).imp fun σ H Q ⟨F, e, Ls, s, q⟩ => by
    simp only [evA] at q
    refine opndA s (m2 := mu (.cons a as)) (fun z => by simp [mu, z]) id q fun d1 e1 v1 F1 H1 Ls1 L1 E1 S1 R1 O1 q1 => ?_
    refine argsA S1 (m2 := mu (.cons a as)) (fun z => by simp [mu, z]) id q1 fun ds e2 vs F2 H2 Ls2 L2 E2 S2 R2 O2 V2 q2 => ?_
    have R1' : Rep K Er F2 H2 v1 d1 L1 := R1.side S1 E2 fun z x hx hi => by
      cases p with
      | true => rw [hm rfl] at z; cases z
      | false => exact (ov_f O1).no x hx |>.2 hi
    have dead : ∀ x ∈ L1, p = false → ¬ (In Ls2 x ∨ x ∈ L2) ∧ ¬ F2 x := fun x hx hp => by
      subst hp
      obtain ⟨n1, n2⟩ := (ov_f O1).no x hx
      have hH : H1 x ≠ none := by
        obtain ⟨o, ho, _⟩ := R1.cell x hx
        rw [ho]; simp
      refine ⟨fun z => ?_, fun z => ?_⟩
      · rcases E2.sub x z with w | w | w
        · exact n2 w
        · cases w
        · exact hH w
      · rcases E2.fn x z with w | w | w | w
        · exact n2 w
        · cases w
        · exact n1 w
        · exact hH w
    refine q2 (v1 :: vs) F2 H2 Ls2 (L1 ++ L2) ⟨fun _ _ z _ => z, fun _ z => z, fun _ z => z, fun _ z => .inr (.inr (.inl z)), fun x z => z.elim .inl fun z => .inr (.inl (by simpa using z)), fun _ _ _ z => z⟩ S2 (.cons R1' R2) (fun hp => ?_) fun hp x hx hi nf => ?_
    · have o2 := O2 hp
      subst hp
      refine ⟨List.nodup_append.mpr ⟨(ov_f O1).nd, o2.nd, fun x hx y hy z => (dead x hx rfl).1 (.inr (z ▸ hy))⟩, fun x hx => ?_⟩
      rcases List.mem_append.mp hx with z | z
      · exact ⟨(dead x z rfl).2, fun w => (dead x z rfl).1 (.inl w)⟩
      · exact o2.no x z
    · subst hp
      rcases List.mem_append.mp hx with z | z
      · obtain ⟨i, h1, h2⟩ := (ov_t O1).use S1 (toF (hm rfl) E2) x z hi nf
        exact ⟨i, by simp [roots, h1], h2⟩
      · obtain ⟨i, h1, h2⟩ := V2 rfl x z hi nf
        exact ⟨i, by simp [roots, h1], h2⟩
/-- a new tuple of things handed over -/
theorem finTo (s : Sx K Er F H e σ Ls) {vs : List V} {ds : List D} (q : PostE K Er Wf m F H Ls U σ p none (.ok (.tup ds) e) Q) (r : Reps K Er F H vs ds L) (o : Own F Ls L) (hU : ∀ a ∈ L, a ∈ U) : ∀ a, H a = none → Q (.ref a) (upd H a (.tup vs)) := fun a n =>
  q (.ref a) F (upd H a (.tup vs)) Ls L (((Eff.laid s n).mono fun z => Bool.noConfusion z).less fun b hb => .inl (List.mem_cons_of_mem _ (hU b hb))) (s.laid n) (.tup upd_same (r.all (all_laid n))) (o.ov rfl)
theorem finLo (s : Sx K Er F H e σ Ls) {vs : List V} {ds : List D} (q : PostE K Er Wf m F H Ls U σ p none (.ok (.lst true ds) e) Q) (r : Reps K Er F H vs ds L) (o : Own F Ls L) (hU : ∀ a ∈ L, a ∈ U) : ∀ a, H a = none → Q (.ref a) (upd H a (.lst vs)) := fun a n =>
  q (.ref a) F (upd H a (.lst vs)) Ls (a :: L) (((Eff.laid s n).mono fun z => Bool.noConfusion z).less fun b hb => .inl ((List.mem_cons.mp hb).elim (fun z => z ▸ List.mem_cons_self) fun z => List.mem_cons_of_mem _ (hU b z))) (s.laid n) (.own upd_same (r.all (all_laid n)))
    (Own.ov ⟨List.nodup_cons.mpr ⟨fun z => (by
      obtain ⟨o, ho, _⟩ := r.cell a z
      rw [n] at ho; cases ho), o.nd⟩, fun b hb => (List.mem_cons.mp hb).elim (fun z => z ▸ ⟨s.newF n, s.newI n⟩) fun z => o.no b z⟩ rfl)
theorem E_tup {k : Nat} (ha : PA X es (tAr K Er Wf P as false)) (hn : alen as ≤ most) : PE X (.Tuple es k pos) (tE K Er Wf P (.tup as) p) :=
  (pe_tup ha).imp fun σ H Q ⟨F, e, Ls, s, q⟩ => by
    simp only [ev] at q
    refine args s (m2 := mu (.tup as)) id id q fun ds e1 vs F1 H1 Ls1 L1 he E1 S1 R1 O1 _ q1 => ?_
    refine ⟨?_, finTo S1 q1 R1 (O1 rfl) fun a z => by simpa using z⟩
    rw [R1.len, evA_len he]
    exact most_le hn
theorem E_lst (ha : PA X es (tAr K Er Wf P as false)) (hn : alen as ≤ most) : PE X (.List es pos) (tE K Er Wf P (.lst as) p) :=
  (pe_lst ha).imp fun σ H Q ⟨F, e, Ls, s, q⟩ => by
    simp only [ev] at q
    refine args s (m2 := mu (.lst as)) id id q fun ds e1 vs F1 H1 Ls1 L1 he E1 S1 R1 O1 _ q1 => ?_
    refine ⟨?_, finLo S1 q1 R1 (O1 rfl) fun a z => by simpa using z⟩
    rw [R1.len, evA_len he]
    exact most_le hn
theorem E_bi {f : Bi} {q : Pos} {n : Str} (hn : n = biN f) (hb : Gl X n) (hm : X.mg n = none) (hc : biCalm f = true → X.calm = true) (hp : (l :: es).all plain = true) (ha : PA X (l :: es) (tAr X.K Er Wf P as true)) : PE X (.Call (.Name n q) (l :: es) [] pos) (tE X.K Er Wf P (.bi f as) p) := by
  subst hn
  rw [List.all_cons, Bool.and_eq_true] at hp
  have main : ∀ σ H Q, tE X.K Er Wf P (.bi f as) p σ H Q → tCB (rBi X.K f) (tAr X.K Er Wf P as true) σ H Q := fun σ H Q ⟨F, e, Ls, s, q⟩ => by
    simp only [ev] at q
    refine args s (m2 := mu (.bi f as)) id id q fun ds e1 vs F1 H1 Ls1 L1 he E1 S1 R1 O1 V1 q1 => ?_
    exact bi_val S1 R1 (fun a z => by simpa using z) (V1 rfl) q1
  have bt := bi_boot f
  have op := op_Bi (X := X) f hc
  obtain ⟨nn, nd⟩ := bi_nm f
  cases f with
  | len => exact (pe_callB op hb hm bt ha nn nd (star_plain hp.1 es) (back_plain hp.2)).imp main
  | int => exact (pe_callTy op hb hm bt ha nn nd (star_plain hp.1 es) (back_plain hp.2)).imp main
  | str => exact (pe_callTy op hb hm bt ha nn nd (star_plain hp.1 es) (back_plain hp.2)).imp main
  | max2 => exact (pe_callB op hb hm bt ha nn nd (star_plain hp.1 es) (back_plain hp.2)).imp main
  | min2 => exact (pe_callB op hb hm bt ha nn nd (star_plain hp.1 es) (back_plain hp.2)).imp main
  | sum => exact (pe_callB op hb hm bt ha nn nd (star_plain hp.1 es) (back_plain hp.2)).imp main
  | tup => exact (pe_callTy op hb hm bt ha nn nd (star_plain hp.1 es) (back_plain hp.2)).imp main
  | lst => exact (pe_callTy op hb hm bt ha nn nd (star_plain hp.1 es) (back_plain hp.2)).imp main
  | sorted => exact (pe_callB op hb hm bt ha nn nd (star_plain hp.1 es) (back_plain hp.2)).imp main
  | abs => exact (pe_callB op hb hm bt ha nn nd (star_plain hp.1 es) (back_plain hp.2)).imp main
  | dvm => exact (pe_callB op hb hm bt ha nn nd (star_plain hp.1 es) (back_plain hp.2)).imp main
  | dct => exact (pe_callTy op hb hm bt ha nn nd (star_plain hp.1 es) (back_plain hp.2)).imp main
/-- a slice's parts -/
def PostP (K : PySem.W.Frag) (Er : EE) (Wf : Bool → Nat → L2.St → Hp → Prop) (P : Par) (c : C) : TO := fun σ H Q => ∃ F e Ls, Sx K Er F H e σ Ls ∧ match evP P c e with
  | .ok o e' => ∀ F' H' Ls', Eff (mu c) F H Ls [] F' H' Ls' [] → Sx K Er F' H' e' σ Ls' → Q o H'
  | .ex c' h e' => ExP K Er Wf (mu c) F H Ls [] σ h c' e'
  | .stuck => False
theorem P_nil : PO X none (PostP K Er Wf P .nil) := ⟨fun pins s σ H Q I h => po_none.run pins s σ H Q I (by
  obtain ⟨F, e, Ls, s, q⟩ := h
  simp only [evP] at q
  exact q F H Ls (Eff.refl.mono fun z => Bool.noConfusion z) s)⟩
theorem P_one (ha : PE X l (tE K Er Wf P a true)) : PO X (some l) (PostP K Er Wf P (.cons a .nil)) := ⟨fun pins s σ H Q I h => (po_some ha).run pins s σ H Q I (by
  obtain ⟨F, e, Ls, s, q⟩ := h
  simp only [evP] at q
  refine ⟨F, e, Ls, s, ?_⟩
  cases hr : ev P a true e with
  | ok d e1 =>
    rw [hr] at q
    intro v F1 H1 Ls1 L E S r o
    replace q : (match (match d with | .int i => R.ok (some i) e1 | _ => R.stuck) with
      | .ok o e' => ∀ F' H' Ls', Eff (mu (.cons a .nil)) F H Ls [] F' H' Ls' [] → Sx K Er F' H' e' σ Ls' → Q o H'
      | .ex c' h e' => ExP K Er Wf (mu (.cons a .nil)) F H Ls [] σ h c' e'
      | .stuck => False) := q
    cases d <;> (first | exact q.elim | skip)
    obtain ⟨rfl, rfl⟩ := r.int'
    exact ⟨_, rfl, q F1 H1 Ls1 (E.mono fun z => by simp [mu, z]) S⟩
  | ex c h e' =>
    rw [hr] at q
    exact ExP.weak (fun z => by simp [mu, z]) q
  | stuck => rw [hr] at q; exact q)⟩
theorem partsE {lo : C} {f : Option Int → Env → R D} {Qa : Option Int → Hp → Prop} (s : Sx K Er F H e σ Ls) (h1 : mu lo = true → m = true) (h2 : m2 = true → m = true) (q : PostE K Er Wf m F H Ls U σ p rt ((evP P lo e).bind f) Q)
    (g : ∀ o e1 F1 H1 Ls1, Eff (mu lo) F H Ls [] F1 H1 Ls1 [] → Sx K Er F1 H1 e1 σ Ls1 → PostE K Er Wf m2 F1 H1 Ls1 (U ++ []) σ p rt (f o e1) Q → Qa o H1) : PostP K Er Wf P lo σ H Qa := by
  refine ⟨F, e, Ls, s, ?_⟩
  cases hr : evP P lo e with
  | ok d e1 =>
    rw [hr] at q
    intro F1 H1 Ls1 E S
    exact g d e1 F1 H1 Ls1 E S (PostE.step h1 h2 (E.more fun _ z => nomatch z) q)
  | ex c h e' =>
    rw [hr] at q
    exact ExP.weak h1 (ExP.none q)
  | stuck => rw [hr] at q; exact q
theorem E_slc {lo hi : Option Expr} {cl ch : C} {p2 : Pos} (ha : PE X l (tE X.K Er Wf P a true)) (hl : PO X lo (PostP X.K Er Wf P cl)) (hh : PO X hi (PostP X.K Er Wf P ch)) (ml : mu cl = false) (mh : mu ch = false) :
    PE X (.Subscript l (.Slice lo hi none p2) pos) (tE X.K Er Wf P (.slc a cl ch) p) :=
  (pe_slice sl_all ha hl hh).imp fun σ H Q ⟨F, e, Ls, s, q⟩ => by
    simp only [ev] at q
    refine opnd s (m2 := mu (.slc a cl ch)) (fun z => by simp [mu, z]) id q fun d1 e1 v1 F1 H1 Ls1 L1 E1 S1 R1 O1 q1 => ?_
    refine partsE S1 (m2 := mu (.slc a cl ch)) (ne_mu ml) id q1 fun o2 e2 F2 H2 Ls2 E2 S2 q2 => ?_
    refine partsE S2 (m2 := mu (.slc a cl ch)) (ne_mu mh) id q2 fun o3 e3 F3 H3 Ls3 E3 S3 q3 => ?_
    have V2 := (ov_t O1).use S1 (toF ml E2)
    have V3 := V2.use S2 (toF mh E3)
    exact sl_val S3 ((R1.side S1 E2 (ne_mu ml)).side S2 E3 (ne_mu mh)) (fun a z => by simpa using z) (fun x hx hi nf => let ⟨i, h1, h2⟩ := V3 x hx hi nf; ⟨i, by simp [h1], h2⟩) q3
theorem E_rev {k : Nat} {p1 p2 p3 : Pos} (ha : PE X l (tE X.K Er Wf P a true)) : PE X (.Subscript l (.Slice none none (some (.UnaryOp .USub (.Constant (.int 1) k p1) p2)) p3) pos) (tE X.K Er Wf P (.rev a) p) :=
  (pe_revL ha).imp fun σ H Q ⟨F, e, Ls, s, q⟩ => by
    simp only [ev] at q
    refine opnd s (m2 := mu (.rev a)) id id q fun d1 e1 v1 F1 H1 Ls1 L1 E1 S1 R1 O1 q1 => ?_
    cases d1 <;> (first | exact q1.elim | skip)
    obtain ⟨a', vs, M, rfl, h1, r1, s1⟩ := R1.lst'
    obtain ⟨N, r2, pm⟩ := r1.reverse
    have sub : ∀ x ∈ N, x ∈ L1 := fun x hx => s1.subset (pm.subset hx)
    exact ⟨a', vs, rfl, .inl h1, finL' S1 q1 r2 (fun x hx => by simpa using sub x hx) fun x hx hi nf => let ⟨i, h1, h2⟩ := ov_t O1 x (sub x hx) hi nf; ⟨i, by simp [h1], h2⟩⟩
/-- len(set(..)) of texts -/
def tSetLen (K : PySem.W.Frag) (ta : TE) : TE := fun σ H Q => ta σ H fun x H1 => ∃ (l : Addr) (xs : List Str), x = .ref l ∧ SqL K H1 l (xs.map V.str) ∧ xs.length ≤ 3000 ∧ Q (.int (setLen xs : Nat)) H1
theorem pe_setLen {X : Cx} {a : Expr} {ta : TE} {p p2 q pos : Pos} (hg : Gl X "len") (hm : X.mg "len" = none) (hg2 : Gl X "set") (hm2 : X.mg "set" = none) (ha : PE X a ta) (hc : X.calm = true) (hp : plain a = true) :
    PE X (.Call (.Name "len" p) [.Call (.Name "set" p2) [a] [] q] [] pos) (tSetLen X.K ta) := by
  refine ⟨fun pins s σ H Q I h => Call_ (ld_blt I hg hm (show bootBuiltins "len" = some (.builtin "len") by decide +kernel) ?_)⟩
  refine PyProof.Rows.callWith_builtin1 (PyProof.Rows.args_cons (Call_ (ld_blt I hg2 hm2 (show bootBuiltins "set" = some (.type "set") by decide +kernel) ?_)) rfl) rfl rfl
  refine PyProof.Rows.callWith_type1 (PyProof.Rows.args_cons (thn (ha.run pins s σ H _ I h) fun v s1 ⟨x, H1, I1, r1, q1⟩ => PyProof.Rows.args_nil ?_) (star_plain hp [])) (star_plain hp []) rfl
  obtain ⟨l, xs, rfl, hq, hl, q1⟩ := q1
  cases (show v = Value.ref l from r1)
  obtain ⟨its, r, pl, _⟩ := I1.list hq
  refine set_of_texts (I1.ok.hd hc) pl.isList (by simpa using L2.strsAre_of r) hl fun h' tk hS hk => PyProof.Rows.args_nil ?_
  obtain ⟨o, es, ep, t, ho, hex, hd, _, _, _, hf, hn⟩ := hS
  have I2 : Inv X pins σ H1 { s1 with heap := h', toks := tk } := I1.kept fun b o e => hk b o (Heap.lt_size e) e
  have le := setLen_le (xs := xs)
  exact call_len_set ho hex hd hf (by rw [hn] <;> omega) ⟨.int (setLen xs : Nat), H1, I2.tok _, ⟨_, by rw [hn]⟩, q1⟩
theorem E_lset {p2 q2 q : Pos} (hg : Gl X "len") (hm : X.mg "len" = none) (hg2 : Gl X "set") (hm2 : X.mg "set" = none) (hc : X.calm = true) (hp : plain l = true) (ha : PE X l (tE X.K Er Wf P a true)) :
    PE X (.Call (.Name "len" p2) [.Call (.Name "set" q2) [l] [] q] [] pos) (tE X.K Er Wf P (.lset a) p) :=
  (pe_setLen hg hm hg2 hm2 ha hc hp).imp fun σ H Q ⟨F, e, Ls, s, q⟩ => by
    simp only [ev] at q
    refine opnd s (m2 := mu (.lset a)) id id q fun d1 e1 v1 F1 H1 Ls1 L1 E1 S1 R1 O1 q1 => ?_
    cases d1 <;> (first | exact q1.elim | skip)
    rename_i m xs
    dsimp only at q1
    cases hs : strsD xs with
    | none => rw [hs] at q1; exact q1.elim
    | some ss =>
      rw [hs] at q1
      dsimp only at q1
      split at q1
      · rename_i hl
        have ex := strsD_some hs
        subst ex
        obtain ⟨a', vs, M, rfl, h1, r1, s1⟩ := R1.lst'
        obtain ⟨rfl, _⟩ := r1.strs
        exact ⟨a', ss, rfl, .inl h1, hl, fin0 S1 q1 (.int _)⟩
      · exact q1.elim
/-! ### isinstance -/
theorem N_one {n : Str} {q : Pos} {u : Value} {w : V} (hg : Gl X n) (hd : (n == ("__debug__" : Str)) = false) (hr : RelV w u) (hm : X.mg n = some u ∨ (X.mg n = none ∧ bootBuiltins n = some u ∧ n ≠ "__name__")) : PE X (.Name n q) (tC w) := by
  rcases hm with hm | ⟨hm, hb, hn⟩
  · exact pe_glob hg hm hr hd
  · exact pe_bltn hg hm hb hr hn hd
theorem E_isi1 {ca : Nat → Addr} {t : Ty} {q : Pos} (hT : TyW X.K ca t) (hb : Gl X "isinstance") (hm : X.mg "isinstance" = none) (hl : plain l = true) (hr : plain r = true)
    (ha : PE X l (tE X.K Er Wf P a true)) (ht : PE X r (tC (tyV' ca t))) : PE X (.Call (.Name "isinstance" q) [l, r] [] pos) (tE X.K Er Wf P (.isi a [t] false) p) :=
  (pe_callB call_isA hb hm (by decide +kernel) (pa_cons ha (pa_cons ht pa_nil (star_plain hr _)) (star_plain hl _)) (by decide) (by decide) (star_plain hl _) (back_plain (by simp [hr]))).imp fun σ H Q ⟨F, e, Ls, s, q⟩ => by
    simp only [ev] at q
    refine opnd s (m2 := mu (.isi a [t] false)) id id q fun d1 e1 v1 F1 H1 Ls1 L1 E1 S1 R1 O1 q1 => ?_
    obtain ⟨b, h1, h2⟩ := opt_bl S1 q1
    exact is_one hT R1 h1 h2
theorem E_isiT {ca : Nat → Addr} {ts : List Ty} {q p2 : Pos} {k : Nat} (hT : ∀ t ∈ ts, TyW X.K ca t) (hb : Gl X "isinstance") (hm : X.mg "isinstance" = none) (hl : plain l = true)
    (ha : PE X l (tE X.K Er Wf P a true)) (ht : PA X es (fun σ H Q => Q (ts.map (tyV' ca)) H)) (hz : ts.length ≤ most) : PE X (.Call (.Name "isinstance" q) [l, .Tuple es k p2] [] pos) (tE X.K Er Wf P (.isi a ts true) p) :=
  (pe_callB call_isA hb hm (by decide +kernel) (pa_cons ha (pa_cons (pe_tup ht) pa_nil (by rfl)) (star_plain hl _)) (by decide) (by decide) (star_plain hl _) (back_plain (by rfl))).imp fun σ H Q ⟨F, e, Ls, s, q⟩ => by
    simp only [ev] at q
    refine opnd s (m2 := mu (.isi a ts true)) id id q fun d1 e1 v1 F1 H1 Ls1 L1 E1 S1 R1 O1 q1 => ?_
    refine ⟨by rw [List.length_map]; exact most_le hz, fun p' hp' => ?_⟩
    have E2 : Eff false F1 H1 Ls1 ([] ++ L1) F1 (upd H1 p' (.tup (ts.map (tyV' ca)))) Ls1 [] := (Eff.laid S1 hp').less fun _ z => nomatch z
    obtain ⟨b, h1, h2⟩ := opt_bl (S1.laid hp') (PostE.step (m1 := false) (m2 := mu (.isi a ts true)) (fun z => Bool.noConfusion z) id E2 q1)
    exact is_tup hT (R1.all (all_laid hp')) h1 upd_same h2
/-- isinstance of the handled exception, told by its name -/
theorem E_isx1 {ca : Nat → Addr} {n mm xi : Nat} {xn : Str} {t : Ty} {q q2 : Pos} (W : Exw X.K P.sub ca n mm) (E : CurOk X Er ca n P.cur) (hcur : ∀ xc, P.cur = some xc → xc.1 = xi) (hN : X.N[xi]? = some xn) (hv : Vis X.env.scope xn) (hd : (xn == ("__debug__" : Str)) = false) (hcd : (xn == ("__classdict__" : Str)) = false)
    (hb : Gl X "isinstance") (hm : X.mg "isinstance" = none) (hr : plain r = true) (ht : PE X r (tC (tyV' ca t))) (hj : ∀ j, t = .exc j → j < mm) : PE X (.Call (.Name "isinstance" q) [.Name xn q2, r] [] pos) (tE X.K Er Wf P (.isx [t] false) p) := by
  cases hc : P.cur with
  | none => exact ⟨fun pins s σ H Q I ⟨F, e, Ls, sx, q⟩ => by simp only [ev, hc] at q; exact q.elim⟩
  | some xc =>
    exact (pe_callB (call_isX W E hc) hb hm (by decide +kernel) (pa_cons (pe_var hN hv hd hcd) (pa_cons ht pa_nil (star_plain hr _)) (by rfl)) (by decide) (by decide) (by rfl) (back_plain (by simp [hr]))).imp fun σ H Q ⟨F, e, Ls, s, q⟩ => by
      simp only [ev, hc] at q
      obtain ⟨hn, a, oe, her, _⟩ := E xc hc
      refine ⟨.ref a, by rw [← hcur xc hc]; exact s.fx _ _ her, ?_⟩
      obtain ⟨b, h1, h2⟩ := opt_bl s q
      exact isX_one W hn her hj h1 h2
theorem E_isxT {ca : Nat → Addr} {n mm xi k : Nat} {xn : Str} {ts : List Ty} {q q2 p2 : Pos} (W : Exw X.K P.sub ca n mm) (E : CurOk X Er ca n P.cur) (hcur : ∀ xc, P.cur = some xc → xc.1 = xi) (hN : X.N[xi]? = some xn) (hv : Vis X.env.scope xn) (hd : (xn == ("__debug__" : Str)) = false) (hcd : (xn == ("__classdict__" : Str)) = false)
    (hb : Gl X "isinstance") (hm : X.mg "isinstance" = none) (ht : PA X es (fun σ H Q => Q (ts.map (tyV' ca)) H)) (hz : ts.length ≤ most) (hj : ∀ j, .exc j ∈ ts → j < mm) : PE X (.Call (.Name "isinstance" q) [.Name xn q2, .Tuple es k p2] [] pos) (tE X.K Er Wf P (.isx ts true) p) := by
  cases hc : P.cur with
  | none => exact ⟨fun pins s σ H Q I ⟨F, e, Ls, sx, q⟩ => by simp only [ev, hc] at q; exact q.elim⟩
  | some xc =>
    exact (pe_callB (call_isX W E hc) hb hm (by decide +kernel) (pa_cons (pe_var hN hv hd hcd) (pa_cons (pe_tup ht) pa_nil (by rfl)) (by rfl)) (by decide) (by decide) (by rfl) (back_plain (by rfl))).imp fun σ H Q ⟨F, e, Ls, s, q⟩ => by
      simp only [ev, hc] at q
      obtain ⟨hn, a, oe, her, _⟩ := E xc hc
      refine ⟨.ref a, by rw [← hcur xc hc]; exact s.fx _ _ her, ?_⟩
      refine ⟨by rw [List.length_map]; exact most_le hz, fun p' hp' => ?_⟩
      have E2 : Eff false F H Ls ([] ++ []) F (upd H p' (.tup (ts.map (tyV' ca)))) Ls [] := (Eff.laid s hp').less fun _ z => nomatch z
      obtain ⟨b, h1, h2⟩ := opt_bl (s.laid hp') (PostE.step (m1 := false) (m2 := mu (.isx ts true)) (U := []) (fun z => Bool.noConfusion z) id E2 q)
      exact isX_tup W hn her hj h1 upd_same h2
end
end VI
set_option maxRecDepth 100000
set_option maxHeartbeats 2000000
/-! VI: calls of defs, methods, changes. -/
namespace VI
open PySem PySem.Spec PyProof.Rows L2

/-- what leaves as an exception -/
def WW (ca : Nat → Addr) (n : Nat) (Wf : Bool → Nat → L2.St → Hp → Prop) (h : Bool) : WX := fun cls d σ H => ∃ c, c < n ∧ cls = .ref (ca c) ∧ d = none ∧ Wf h c σ H
/-- a def's promise: what the evaluator tells of it -/
def spI (K : PySem.W.Frag) (Er : EE) (ca : Nat → Addr) (n : Nat) (ps : Nat) (cr : List D → CR) : Sp := fun vs H Q E => ∃ F ds L, ds.length = ps ∧ (∀ a, F a → H a ≠ none) ∧ Reps K Er0 F H vs ds L ∧ L.Nodup ∧ (∀ a ∈ L, ¬ F a) ∧ match cr ds with
  | .ok d => ∀ v F' H' L', (∀ a o, H a = some o → a ∉ L → H' a = some o) → (∀ a, H a ≠ none → H' a ≠ none) → (∀ a, F a → F' a) → (∀ a, F' a → F a ∨ a ∈ L ∨ H a = none) → (∀ a, F' a → H' a ≠ none) → Rep K Er0 F' H' v d L' → L'.Nodup → (∀ a ∈ L', (a ∈ L ∨ H a = none) ∧ ¬ F' a) → Q v H'
  | .ex c h => ∀ H', c < n → (∀ a o, H a = some o → a ∉ L → H' a = some o) → (∀ a, H a ≠ none → H' a ≠ none) → E (.ref (ca c)) none H'
  | .stuck => False
theorem frzL_len : ∀ ds : List D, (frzL ds).length = ds.length
  | [] => rfl
  | d :: ds => by
    simp only [frzL, List.length_cons]
    rw [frzL_len ds]

/-! ### what can be no part of what was lent -/
def kv : V → Nat
  | .str _ => 1
  | .ref _ => 3
  | _ => 2
def kvL : List V → Nat
  | [] => 0
  | v :: _ => kv v
def hk : HO → Nat
  | .lst vs => kvL vs
  | .dK _ => 4
  | .dT _ => 5
  | .ins _ _ _ => 6
  | .frz _ u => hk u
  | _ => 7
theorem Rep.kv {K : PySem.W.Frag} {Er : EE} {F : Addr → Prop} {H : Hp} {v : V} {d : D} {L : List Addr} (r : Rep K Er F H v d L) (ds : List D) : VI.kv v ∈ nks (d :: ds) := by
  cases r with
  | unk => cases v <;> simp [VI.kv, nks]
  | hole _ => cases v <;> simp [VI.kv, nks]
  | _ => simp [VI.kv, nks, k1]
theorem Reps.kvL {K : PySem.W.Frag} {Er : EE} {F : Addr → Prop} {H : Hp} {vs : List V} {ds : List D} {L : List Addr} (r : Reps K Er F H vs ds L) : VI.kvL vs ∈ nks ds := by
  cases r with
  | nil => exact List.mem_singleton.2 rfl
  | cons r _ => exact r.kv _
mutual
theorem Rep.ownK {K : PySem.W.Frag} {Er : EE} {F : Addr → Prop} {H : Hp} : ∀ {v : V} {d : D} {L : List Addr}, Rep K Er F H v d L → ∀ a ∈ L, ∃ o, H a = some o ∧ hk o ∈ ownk d
  | _, _, _, .non, a, h => nomatch h
  | _, _, _, .bl _, a, h => nomatch h
  | _, _, _, .int _, a, h => nomatch h
  | _, _, _, .str _, a, h => nomatch h
  | _, _, _, .tup _ r, a, h => r.ownK a h
  | _, _, _, .own e r, a, h => by
    rcases List.mem_cons.1 h with rfl | h
    · exact ⟨_, e, by simp only [hk, ownk, if_true]; exact List.mem_append_left _ r.kvL⟩
    · obtain ⟨o, h1, h2⟩ := r.ownK a h
      exact ⟨o, h1, by simp only [ownk, if_true]; exact List.mem_append_right _ h2⟩
  | _, _, _, .fro _ _ _, a, h => nomatch h
  | _, _, _, .dow e _ r, a, h => by
    rcases List.mem_cons.1 h with rfl | h
    · exact ⟨_, e, by simp only [hk, ownk, if_true]; exact List.mem_cons_self⟩
    · obtain ⟨o, h1, h2⟩ := r.ownK a h
      exact ⟨o, h1, by simp only [ownk, if_true]; exact List.mem_cons_of_mem _ h2⟩
  | _, _, _, .dfr _ _ _ _, a, h => nomatch h
  | _, _, _, .tow e _ r, a, h => by
    rcases List.mem_cons.1 h with rfl | h
    · exact ⟨_, e, by simp only [hk, ownk, if_true]; exact List.mem_cons_self⟩
    · obtain ⟨o, h1, h2⟩ := r.ownK a h
      exact ⟨o, h1, by simp only [ownk, if_true]; exact List.mem_cons_of_mem _ h2⟩
  | _, _, _, .tfr _ _ _ _, a, h => nomatch h
  | _, _, _, .oow e _ r, a, h => by
    rcases List.mem_cons.1 h with rfl | h
    · exact ⟨_, e, by simp only [hk, ownk, if_true]; exact List.mem_cons_self⟩
    · obtain ⟨o, h1, h2⟩ := r.ownK a h
      exact ⟨o, h1, by simp only [ownk, if_true]; exact List.mem_cons_of_mem _ h2⟩
  | _, _, _, .ofr _ _ _ _, a, h => nomatch h
  | _, _, _, .scr _, a, h => nomatch h
  | _, _, _, .unk, a, h => nomatch h
  | _, _, _, .hole _, a, h => nomatch h
  | _, _, _, .exn _ _ _ r, a, h => r.ownK a h
theorem Reps.ownK {K : PySem.W.Frag} {Er : EE} {F : Addr → Prop} {H : Hp} : ∀ {vs : List V} {ds : List D} {L : List Addr}, Reps K Er F H vs ds L → ∀ a ∈ L, ∃ o, H a = some o ∧ hk o ∈ ownkL ds
  | _, _, _, .nil, a, h => nomatch h
  | _, _, _, .cons r rs, a, h => by
    rcases List.mem_append.1 h with h | h
    · obtain ⟨o, h1, h2⟩ := r.ownK a h
      exact ⟨o, h1, by simp only [ownkL]; exact List.mem_append_left _ h2⟩
    · obtain ⟨o, h1, h2⟩ := rs.ownK a h
      exact ⟨o, h1, by simp only [ownkL]; exact List.mem_append_right _ h2⟩
end
theorem rd_hk {H : Hp} {a : Addr} {u o : HO} (h : Rd H a u) (e : H a = some o) : hk o = hk u := by
  rcases h with h | ⟨w, h⟩
  · rw [h] at e; cases e; rfl
  · rw [h] at e; cases e; rfl
mutual
theorem Rep.sep {K : PySem.W.Frag} {Er : EE} {F G : Addr → Prop} {H : Hp} {S : List Nat} (hG : ∀ a, F a → ¬ G a → ∃ o, H a = some o ∧ hk o ∈ S) : ∀ {v : V} {d : D} {L : List Addr}, Rep K Er F H v d L → (∀ k ∈ frok d, k ∉ S) → Rep K Er G H v d L
  | _, _, _, .non, _ => .non
  | _, _, _, .bl _, _ => .bl _
  | _, _, _, .int _, _ => .int _
  | _, _, _, .str _, _ => .str _
  | _, _, _, .tup e r, h => .tup e (r.sep hG h)
  | _, _, _, .own e r, h => .own e (r.sep hG (by simpa only [frok, if_true] using h))
  | _, _, _, .fro (a := a) e f r, h => by
    simp only [frok, if_false, Bool.false_eq_true] at h
    refine .fro e (Classical.byContradiction fun n => ?_) (r.sep hG fun k hk => h k (List.mem_append_right _ hk))
    obtain ⟨o, h1, h2⟩ := hG a f n
    rw [rd_hk e h1] at h2
    exact h _ (List.mem_append_left _ r.kvL) h2
  | _, _, _, .dow e k r, h => .dow e k (r.sep hG (by simpa only [frok, if_true] using h))
  | _, _, _, .dfr (a := a) e f k r, h => by
    simp only [frok, if_false, Bool.false_eq_true] at h
    refine .dfr e (Classical.byContradiction fun n => ?_) k (r.sep hG fun k hk => h k (List.mem_cons_of_mem _ hk))
    obtain ⟨o, h1, h2⟩ := hG a f n
    rw [rd_hk e h1] at h2
    exact h _ List.mem_cons_self h2
  | _, _, _, .tow e k r, h => .tow e k (r.sep hG (by simpa only [frok, if_true] using h))
  | _, _, _, .tfr (a := a) e f k r, h => by
    simp only [frok, if_false, Bool.false_eq_true] at h
    refine .tfr e (Classical.byContradiction fun n => ?_) k (r.sep hG fun k hk => h k (List.mem_cons_of_mem _ hk))
    obtain ⟨o, h1, h2⟩ := hG a f n
    rw [rd_hk e h1] at h2
    exact h _ List.mem_cons_self h2
  | _, _, _, .oow e k r, h => .oow e k (r.sep hG (by simpa only [frok, if_true] using h))
  | _, _, _, .ofr (a := a) e f k r, h => by
    simp only [frok, if_false, Bool.false_eq_true] at h
    refine .ofr e (Classical.byContradiction fun n => ?_) k (r.sep hG fun k hk => h k (List.mem_cons_of_mem _ hk))
    obtain ⟨o, h1, h2⟩ := hG a f n
    rw [e] at h1
    cases h1
    exact h _ List.mem_cons_self h2
  | _, _, _, .scr e, _ => .scr e
  | _, _, _, .unk, _ => .unk
  | _, _, _, .hole h, _ => .hole h
  | _, _, _, .exn s x e r, h => .exn s x e (r.sep hG h)
theorem Reps.sep {K : PySem.W.Frag} {Er : EE} {F G : Addr → Prop} {H : Hp} {S : List Nat} (hG : ∀ a, F a → ¬ G a → ∃ o, H a = some o ∧ hk o ∈ S) : ∀ {vs : List V} {ds : List D} {L : List Addr}, Reps K Er F H vs ds L → (∀ k ∈ frokL ds, k ∉ S) → Reps K Er G H vs ds L
  | _, _, _, .nil, _ => .nil
  | _, _, _, .cons r rs, h => .cons (r.sep hG fun k hk => h k (by simp only [frokL]; exact List.mem_append_left _ hk)) (rs.sep hG fun k hk => h k (by simp only [frokL]; exact List.mem_append_right _ hk))
end
section
variable {K : PySem.W.Frag} {Er : EE} {F F' F1 F2 : Addr → Prop} {H H' H1 H2 : Hp} {v x y : V} {dx dy d : D} {L L' Lx Ly : List Addr} {e e' e1 : Env} {σ : L2.St} {Ls Ls' Ls1 Ls2 : Nat → List Addr} {U T : List Addr}
variable {Wf : Bool → Nat → L2.St → Hp → Prop} {m m1 m2 p : Bool} {rt : Option Nat} {Q : VK} {P : Par}
theorem Sx.same (s : Sx K Er F H e σ Ls) (h : Same H H') (hF : ∀ a, F a → F' a) (hn : ∀ a, F' a → ¬ In Ls a) (fa : ∀ a, F' a → H' a ≠ none) : Sx K Er F' H' e σ Ls :=
  ⟨s.len, fun i d q => let ⟨v, a, r⟩ := s.rep i d q; ⟨v, a, r.all ⟨h, hF⟩⟩, s.emp, s.nd, s.dj, fun i a q z => hn a z ⟨i, q⟩, fa, s.fx⟩
theorem _root_.L2.Same.live (h : Same H H') {a : Addr} (n : H a ≠ none) : H' a ≠ none := by
  cases q : H a with
  | none => exact absurd q n
  | some o => rw [h a o q]; simp
theorem effSame (s : Sx K Er F H e σ Ls) (h : Same H H') (hT : ∀ a ∈ T, H a = none ∨ a ∈ U) : Eff false F H Ls U F H' Ls T :=
  ⟨fun a o q _ => h a o q, fun a n => h.live n, fun _ z => z, fun _ z => .inr (.inr (.inl z)), fun a z => z.elim .inl fun z => (hT a z).elim (fun z => .inr (.inr z)) fun z => .inr (.inl z), fun _ _ _ z => z⟩
variable {X : Cx} {l r : Expr} {es : List Expr} {pos : Pos} {a b c as : C}
/-- what a def tells is told on -/
theorem call_end {rs : List (Option Nat)} {vs : List V} {ds : List D} (s : Sx K Er F H e σ Ls) (r : Reps K Er F H vs ds L) (hU : ∀ a ∈ L, a ∈ U) (hv : ∀ a ∈ L, In Ls a → ¬ F a → ∃ i, some i ∈ rs ∧ a ∈ Ls i)
    (q : PostE K Er Wf m F H Ls U σ p none (if ff d then .ok d e else .ok d (rs.foldl fz e)) Q) : ∀ v F' H' L', Same H H' → (∀ a, (F a ∨ a ∈ L) → F' a) → (∀ a, F' a → (F a ∨ a ∈ L) ∨ H a = none) → (∀ a, F' a → H' a ≠ none) → Rep K Er F' H' v d L' → L'.Nodup → (∀ a ∈ L', H a = none ∧ ¬ F' a) → Q v H' := by
  intro v F' H' L' sm fm fn fa r' nd no
  have Lnew : ∀ a ∈ L', H a = none := fun a z => (no a z).1
  cases hf : ff d with
  | true =>
    simp only [hf, if_true] at q
    refine q v F H' Ls L' ((effSame s sm fun a z => .inl (Lnew a z)).mono fun z => Bool.noConfusion z) (s.same sm (fun _ z => z) (fun a z w => s.inF w z) fun a z => sm.live (s.fa a z)) (r'.ff hf) (Own.ov ⟨nd, fun a z => ⟨fun w => s.fa a w (Lnew a z), fun w => s.inH w (Lnew a z)⟩⟩ rfl)
  | false =>
    simp only [hf, if_false, Bool.false_eq_true] at q
    obtain ⟨F2, Ls2, S2, E2, c2⟩ := s.fzs (rs)
    have nIn : ∀ a, F' a → ¬ In Ls2 a := fun a z ⟨i, hi⟩ => by
      have hi0 := E2.shr rfl i a hi
      rcases fn a z with (w | w) | w
      · exact s.nf i a hi0 w
      · obtain ⟨j, hj, hm⟩ := hv a w ⟨i, hi0⟩ (s.nf i a hi0)
        exact S2.nf i a hi (c2 j hj a hm)
      · exact s.inH ⟨i, hi0⟩ w
    have live : ∀ a, F2 a → H' a ≠ none := fun a z => sm.live (S2.fa a z)
    have S3 : Sx K Er (fun a => F2 a ∨ F' a) H' ((rs).foldl fz e) σ Ls2 :=
      S2.same sm (fun _ z => .inl z) (fun a z w => z.elim (fun z => S2.inF w z) fun z => nIn a z w) fun a z => z.elim (live a) (fa a)
    refine q v _ H' Ls2 L' ⟨fun a o z _ => sm a o z, fun a z => sm.live z, fun a z => .inl (E2.fm a z), fun a z => ?_, fun a z => ?_, fun z => ?_⟩ S3 (r'.all ⟨fun _ _ z => z, fun _ z => .inr z⟩) (Own.ov ⟨nd, fun a z => ⟨fun w => ?_, fun w => ?_⟩⟩ rfl)
    · rcases z with z | z
      · rcases E2.fn a z with w | w | w | w
        · exact .inl w
        · cases w
        · exact .inr (.inr (.inl w))
        · exact .inr (.inr (.inr w))
      · rcases fn a z with (w | w) | w
        · exact .inr (.inr (.inl w))
        · exact .inr (.inl (hU a w))
        · exact .inr (.inr (.inr w))
    · rcases z with ⟨i, hi⟩ | z
      · exact .inl ⟨i, E2.shr rfl i a hi⟩
      · exact .inr (.inr (Lnew a z))
    · exact fun i a hi => E2.shr rfl i a hi
    · rcases w with w | w
      · exact S2.fa a w (Lnew a z)
      · exact (no a z).2 w
    · exact S2.inH w (Lnew a z)
/-- .. and nothing of what was lent is frozen where no kinds meet -/
theorem call_endS {vs : List V} {ds : List D} (s : Sx K Er F H e σ Ls) (r : Reps K Er F H vs ds L)
    (q : PostE K Er Wf m F H Ls U σ p none (if sepB d ds then .ok d e else .stuck) Q) : ∀ v F' H' L', Same H H' → (∀ a, (F a ∨ a ∈ L) → F' a) → (∀ a, F' a → (F a ∨ a ∈ L) ∨ H a = none) → (∀ a, F' a → H' a ≠ none) → Rep K Er F' H' v d L' → L'.Nodup → (∀ a ∈ L', H a = none ∧ ¬ F' a) → Q v H' := by
  intro v F' H' L' sm fm fn fa r' nd no
  cases hs : sepB d ds with
  | false => rw [hs] at q; exact q.elim
  | true =>
    rw [hs] at q
    have hsep : ∀ k ∈ frok d, k ∉ ownkL ds := fun k hk hm => by
      have := List.all_eq_true.1 hs k hk
      simp only [Bool.not_eq_true', List.contains_eq_mem, decide_eq_false_iff_not] at this
      exact this hm
    have Lnew : ∀ a ∈ L', H a = none := fun a z => (no a z).1
    have r2 : Rep K Er (fun a => F' a ∧ (a ∈ L → F a)) H' v d L' := r'.sep (S := ownkL ds) (fun a fa' ng => by
      have hL : a ∈ L := Classical.byContradiction fun n => ng ⟨fa', fun z => absurd z n⟩
      obtain ⟨o, h1, h2⟩ := r.ownK a hL
      exact ⟨o, sm a o h1, h2⟩) hsep
    have nIn : ∀ a, (F' a ∧ (a ∈ L → F a)) → ¬ In Ls a := fun a z w => by
      rcases fn a z.1 with (h | h) | h
      · exact s.inF w h
      · exact s.inF w (z.2 h)
      · exact s.inH w h
    refine q v _ H' Ls L' ⟨fun a o z _ => sm a o z, fun a z => sm.live z, fun a z => ⟨fm a (.inl z), fun _ => z⟩, fun a z => ?_, fun a z => ?_, fun z => ?_⟩ (s.same sm (fun a z => ⟨fm a (.inl z), fun _ => z⟩) nIn fun a z => fa a z.1) r2 (Own.ov ⟨nd, fun a z => ⟨fun w => (no a z).2 w.1, fun w => s.inH w (Lnew a z)⟩⟩ rfl)
    · rcases fn a z.1 with (h | h) | h
      · exact .inr (.inr (.inl h))
      · exact .inr (.inr (.inl (z.2 h)))
      · exact .inr (.inr (.inr h))
    · rcases z with z | z
      · exact .inl z
      · exact .inr (.inr (Lnew a z))
    · exact fun i a hi => hi
theorem call_fin {rs : List (Option Nat)} {ca : Nat → Addr} {n : Nat} {f : Nat} {vs : List V} {ds : List D} {E : XK} {late : Bool} (s : Sx K Er F H e σ Ls) (r : Reps K Er F H vs ds L) (hU : ∀ a ∈ L, a ∈ U) (hv : ∀ a ∈ L, In Ls a → ¬ F a → ∃ i, some i ∈ rs ∧ a ∈ Ls i)
    (hlate : ∀ c h, P.cl f (frzL ds) = .ex c h → h = late) (hE : ∀ c H', c < n → Wf late c σ H' → E (.ref (ca c)) none H') {ps : Nat} (hps : ds.length = ps)
    (q : PostE K Er Wf m F H Ls U σ p none (match P.cl f (frzL ds) with
      | .ok d => if ff d then .ok d e else .ok d ((rs).foldl fz e)
      | .ex c h => .ex c h e
      | .stuck => .stuck) Q) : spI K Er ca n ps (P.cl f) vs H Q E := by
  refine ⟨fun a => F a ∨ a ∈ L, frzL ds, [], by rw [frzL_len]; exact hps, fun a h => ?_, r.frz (fun _ z => .inl z) fun _ z => .inr z, List.nodup_nil, (fun a z => nomatch z), ?_⟩
  · rcases h with h | h
    · exact s.fa a h
    · obtain ⟨o, ho, _⟩ := r.cell a h
      rw [ho]; simp
  · cases hc : P.cl f (frzL ds) with
    | stuck => rw [hc] at q; exact q.elim
    | ex c h =>
      rw [hc] at q
      have hl := hlate c h hc
      intro H' hcn sm0 _
      have sm : Same H H' := fun a o h => sm0 a o h fun z => nomatch z
      refine hE c H' hcn (hl ▸ q F H' Ls ((effSame (T := []) s sm fun a z => nomatch z).mono fun z => Bool.noConfusion z) ?_)
      exact s.same sm (fun _ z => z) (fun a z w => s.inF w z) fun a z => sm.live (s.fa a z)
    | ok d =>
      rw [hc] at q
      exact fun v F' H' L' a _ b c d' R e f => call_end s r hU hv q v F' H' L' (fun a' o h => a a' o h fun z => nomatch z) b (fun a' z => (c a' z).elim .inl fun w => w.elim (fun z => nomatch z) .inr) d' (R.er er0) e fun a' z => ⟨(f a' z).1.elim (fun z => nomatch z) id, (f a' z).2⟩
theorem call_finS {ca : Nat → Addr} {n : Nat} {f : Nat} {vs : List V} {ds : List D} {E : XK} {late : Bool} (s : Sx K Er F H e σ Ls) (r : Reps K Er F H vs ds L)
    (hlate : ∀ c h, P.cl f (frzL ds) = .ex c h → h = late) (hE : ∀ c H', c < n → Wf late c σ H' → E (.ref (ca c)) none H') {ps : Nat} (hps : ds.length = ps)
    (q : PostE K Er Wf m F H Ls U σ p none (match P.cl f (frzL ds) with
      | .ok d => if sepB d ds then .ok d e else .stuck
      | .ex c h => .ex c h e
      | .stuck => .stuck) Q) : spI K Er ca n ps (P.cl f) vs H Q E := by
  refine ⟨fun a => F a ∨ a ∈ L, frzL ds, [], by rw [frzL_len]; exact hps, fun a h => ?_, r.frz (fun _ z => .inl z) fun _ z => .inr z, List.nodup_nil, (fun a z => nomatch z), ?_⟩
  · rcases h with h | h
    · exact s.fa a h
    · obtain ⟨o, ho, _⟩ := r.cell a h
      rw [ho]; simp
  · cases hc : P.cl f (frzL ds) with
    | stuck => rw [hc] at q; exact q.elim
    | ex c h =>
      rw [hc] at q
      have hl := hlate c h hc
      intro H' hcn sm0 _
      have sm : Same H H' := fun a o h => sm0 a o h fun z => nomatch z
      refine hE c H' hcn (hl ▸ q F H' Ls ((effSame (T := []) s sm fun a z => nomatch z).mono fun z => Bool.noConfusion z) ?_)
      exact s.same sm (fun _ z => z) (fun a z w => s.inF w z) fun a z => sm.live (s.fa a z)
    | ok d =>
      rw [hc] at q
      exact fun v F' H' L' a _ b c d' R e f => call_endS s r q v F' H' L' (fun a' o h => a a' o h fun z => nomatch z) b (fun a' z => (c a' z).elim .inl fun w => w.elim (fun z => nomatch z) .inr) d' (R.er er0) e fun a' z => ⟨(f a' z).1.elim (fun z => nomatch z) id, (f a' z).2⟩
theorem E_scall {ca : Nat → Addr} {n k : Nat} {f : Nat} {fa : Addr} {fd : FuncData} {pn : List Str} {CX : CXT} {nm : Str} {q : Pos} {late : Bool}
    (FO : FnOk X.prog X.w X.K X.mg X.base CX k fa fd pn (spI X.K Er ca n pn.length (P.cl f))) (hr : Room k X.A) (hg : Gl X nm) (hm : X.mg nm = some (.ref fa)) (hk : PySem.W.keepIn X.K (.ref fa) = true) (hb : Binds X.K fd pn []) (hd : (nm == ("__debug__" : Str)) = false)
    (hx : ∀ σ, PassesAt CX X σ (fun cls d H => WW ca n Wf late cls d σ H)) (hlate : ∀ ds c h, P.cl f ds = .ex c h → h = late) (hn : alen as = pn.length) (hp : (l :: es).all plain = true) (ha : PA X (l :: es) (tAr X.K Er Wf P as true)) :
    PE X (.Call (.Name nm q) (l :: es) [] pos) (tE X.K Er Wf P (.scall f as) p) := by
  rw [List.all_cons, Bool.and_eq_true] at hp
  refine (pe_callS (E := fun σ cls d H => WW ca n Wf late cls d σ H) FO hr hg hm hk hb hx ha hd (star_plain hp.1 es) (back_plain hp.2)).imp fun σ H Q ⟨F, e, Ls, s, q⟩ => ?_
  simp only [ev] at q
  refine args s (m2 := mu (.scall f as)) id id q fun ds e1 vs F1 H1 Ls1 L1 he E1 S1 R1 O1 V1 q1 => ?_
  exact call_finS S1 R1 (fun c h z => hlate _ c h z) (fun c H' hc w => ⟨c, hc, rfl, rfl, w⟩) (by rw [evA_len he]; exact hn) q1
theorem E_call {ca : Nat → Addr} {n k : Nat} {f : Nat} {fa : Addr} {fd : FuncData} {pn : List Str} {CX : CXT} {nm : Str} {q : Pos} {late : Bool}
    (FO : FnOk X.prog X.w X.K X.mg X.base CX k fa fd pn (spI X.K Er ca n pn.length (P.cl f))) (hr : Room k X.A) (hg : Gl X nm) (hm : X.mg nm = some (.ref fa)) (hk : PySem.W.keepIn X.K (.ref fa) = true) (hb : Binds X.K fd pn []) (hd : (nm == ("__debug__" : Str)) = false)
    (hx : ∀ σ, PassesAt CX X σ (fun cls d H => WW ca n Wf late cls d σ H)) (hlate : ∀ ds c h, P.cl f ds = .ex c h → h = late) (hn : alen as = pn.length) (hp : (l :: es).all plain = true) (ha : PA X (l :: es) (tAr X.K Er Wf P as true)) :
    PE X (.Call (.Name nm q) (l :: es) [] pos) (tE X.K Er Wf P (.call f as) p) := by
  rw [List.all_cons, Bool.and_eq_true] at hp
  refine (pe_callS (E := fun σ cls d H => WW ca n Wf late cls d σ H) FO hr hg hm hk hb hx ha hd (star_plain hp.1 es) (back_plain hp.2)).imp fun σ H Q ⟨F, e, Ls, s, q⟩ => ?_
  simp only [ev] at q
  refine args s (m2 := mu (.call f as)) id id q fun ds e1 vs F1 H1 Ls1 L1 he E1 S1 R1 O1 V1 q1 => ?_
  exact call_fin S1 R1 (fun a z => by simpa using z) (V1 rfl) (fun c h z => hlate _ c h z) (fun c H' hc w => ⟨c, hc, rfl, rfl, w⟩) (by rw [evA_len he]; exact hn) q1

/-- .. without arguments -/
theorem pe_callS0 {CX : CXT} {k : Nat} {f : Addr} {fd : FuncData} {ps : List Str} {sp : Sp} {E' : L2.St → XK} {x : Str} {q : Pos} (FO : FnOk X.prog X.w X.K X.mg X.base CX k f fd ps sp) (hr : Room k X.A) (hg : Gl X x) (hm : X.mg x = some (.ref f)) (hk : PySem.W.keepIn X.K (.ref f) = true) (hb : Binds X.K fd ps []) (hx : ∀ σ, PassesAt CX X σ (E' σ)) (hd : (x == ("__debug__" : Str)) = false) :
    PE X (.Call (.Name x q) [] [] pos) (tCallS sp E' tNil) :=
  ⟨fun pins s σ H Q I h => wpAny_Call_Name_kw (ld_glob I hg hm (PySem.W.callWith_K0 I.kIn hk (run_fnS (us := []) FO hr hb (hx σ) I .nil h)) hd)⟩
theorem E_call0 {ca : Nat → Addr} {n k : Nat} {f : Nat} {fa : Addr} {fd : FuncData} {pn : List Str} {CX : CXT} {nm : Str} {q : Pos} {late : Bool}
    (FO : FnOk X.prog X.w X.K X.mg X.base CX k fa fd pn (spI X.K Er ca n pn.length (P.cl f))) (hr : Room k X.A) (hg : Gl X nm) (hm : X.mg nm = some (.ref fa)) (hk : PySem.W.keepIn X.K (.ref fa) = true) (hb : Binds X.K fd pn []) (hd : (nm == ("__debug__" : Str)) = false)
    (hx : ∀ σ, PassesAt CX X σ (fun cls d H => WW ca n Wf late cls d σ H)) (hlate : ∀ ds c h, P.cl f ds = .ex c h → h = late) (hn : 0 = pn.length) :
    PE X (.Call (.Name nm q) [] [] pos) (tE X.K Er Wf P (.call f .nil) p) := by
  refine (pe_callS0 (E' := fun σ cls d H => WW ca n Wf late cls d σ H) FO hr hg hm hk hb hx hd).imp fun σ H Q ⟨F, e, Ls, s, q⟩ => ?_
  simp only [ev, evA, R.bind] at q
  show spI X.K Er ca n pn.length (P.cl f) [] H Q (fun cls d H => WW ca n Wf late cls d σ H)
  exact call_fin (vs := []) (ds := []) (L := []) s .nil (fun a z => nomatch z) (fun a z => nomatch z) (fun c h z => hlate _ c h z) (fun c H' hc w => ⟨c, hc, rfl, rfl, w⟩) hn q

/-! ### methods of texts -/
theorem ev_one {a : C} {e : Env} : evA P (.cons a .nil) true e = (ev P a true e).bind fun x e1 => .ok [x] e1 := by
  simp only [evA]
  cases ev P a true e <;> rfl
theorem bind_bind {α β γ : Type} {r : R α} {f : α → Env → R β} {g : β → Env → R γ} : (r.bind f).bind g = r.bind fun a e => (f a e).bind g := by
  cases r <;> rfl
/-- a method of one argument -/
theorem mth1_rd {mt : Mth} {rr : V → List V → Hp → VK → Prop} (hmu : mu b = false)
    (hval : ∀ {F : Addr → Prop} {H : Hp} {e : Env} {Ls : Nat → List Addr} {U : List Addr} {sx : Str} {y : V} {dy : D} {Ly : List Addr}, Sx K Er F H e σ Ls → Rep K Er F H y dy Ly → PostE K Er Wf (mu (.mth mt a (.cons b .nil))) F H Ls U σ p none (opt (mthf mt (.str sx) [dy]) e) Q → rr (.str sx) [y] H Q)
    (h : tE K Er Wf P (.mth mt a (.cons b .nil)) p σ H Q) : tM1 rr (tE K Er Wf P a true) (tE K Er Wf P b true) σ H Q := by
  obtain ⟨F, e, Ls, s, q⟩ := h
  simp only [ev] at q
  refine opnd s (m2 := mu (.mth mt a (.cons b .nil))) (fun z => by simp [mu, z]) id q fun d1 e1 v1 F1 H1 Ls1 L1 E1 S1 R1 O1 q1 => ?_
  cases d1 <;> (first | exact q1.elim | skip)
  rename_i sx
  obtain ⟨rfl, rfl⟩ := R1.str'
  refine ⟨⟨_, rfl⟩, ?_⟩
  simp only [ev_one, bind_bind] at q1
  refine opnd S1 (m2 := mu (.mth mt a (.cons b .nil))) (ne_mu hmu) id q1 fun d2 e2 v2 F2 H2 Ls2 L2 E2 S2 R2 O2 q2 => ?_
  exact hval S2 R2 q2
theorem mth0_rd {mt : Mth} {rr : V → List V → Hp → VK → Prop}
    (hval : ∀ {F : Addr → Prop} {H : Hp} {e : Env} {Ls : Nat → List Addr} {U : List Addr} {sx : Str}, Sx K Er F H e σ Ls → PostE K Er Wf (mu (.mth mt a .nil)) F H Ls U σ p none (opt (mthf mt (.str sx) []) e) Q → rr (.str sx) [] H Q)
    (h : tE K Er Wf P (.mth mt a .nil) p σ H Q) : tM0 rr (tE K Er Wf P a true) σ H Q := by
  obtain ⟨F, e, Ls, s, q⟩ := h
  simp only [ev] at q
  refine opnd s (m2 := mu (.mth mt a .nil)) (fun z => by simp [mu, z]) id q fun d1 e1 v1 F1 H1 Ls1 L1 E1 S1 R1 O1 q1 => ?_
  cases d1 <;> (first | exact q1.elim | skip)
  rename_i sx
  obtain ⟨rfl, rfl⟩ := R1.str'
  refine ⟨⟨_, rfl⟩, ?_⟩
  simp only [evA] at q1
  exact hval S1 q1
theorem E_split {apos : Pos} (hs : noSup l = true) (hline : (apos.endLine == pos.line) = true) (hr : plain r = true) (ha : PE X l (tE X.K Er Wf P a true)) (hb : PE X r (tE X.K Er Wf P b true)) (hmu : mu b = false) :
    PE X (.Call (.Attribute l "split" apos) [r] [] pos) (tE X.K Er Wf P (.mth .split a (.cons b .nil)) p) :=
  (pe_split ha hb (star_plain hr _) (attr_plain hs _ _) hline).imp fun σ H Q h => mth1_rd hmu (fun {F H e Ls U sx y dy Ly} s r q => by
    obtain ⟨d, h1, h2⟩ := opt_some q
    cases dy <;> simp only [mthf] at h1 <;> (first | (cases h1; done) | skip)
    obtain ⟨rfl, rfl⟩ := r.str'
    split at h1
    · rename_i hz
      cases h1
      exact ⟨_, _, rfl, rfl, hz.1, most_le hz.2, finL s h2 (.ofStrs _)⟩
    · cases h1) h
theorem E_find {apos : Pos} (hs : noSup l = true) (hline : (apos.endLine == pos.line) = true) (hr : plain r = true) (ha : PE X l (tE X.K Er Wf P a true)) (hb : PE X r (tE X.K Er Wf P b true)) (hmu : mu b = false) :
    PE X (.Call (.Attribute l "find" apos) [r] [] pos) (tE X.K Er Wf P (.mth .find a (.cons b .nil)) p) :=
  (pe_m1 PySem.F.slot_str_find PySem.F.type_str_find mt_find ha hb (star_plain hr _) (attr_plain hs _ _) hline).imp fun σ H Q h => mth1_rd hmu (fun {F H e Ls U sx y dy Ly} s r q => by
    obtain ⟨d, h1, h2⟩ := opt_some q
    cases dy <;> simp only [mthf] at h1 <;> (first | (cases h1; done) | skip)
    obtain ⟨rfl, rfl⟩ := r.str'
    cases h1
    exact ⟨_, _, rfl, rfl, fin0 s h2 (.int _)⟩) h
theorem E_zfill {apos : Pos} (hs : noSup l = true) (hline : (apos.endLine == pos.line) = true) (hr : plain r = true) (ha : PE X l (tE X.K Er Wf P a true)) (hb : PE X r (tE X.K Er Wf P b true)) (hmu : mu b = false) :
    PE X (.Call (.Attribute l "zfill" apos) [r] [] pos) (tE X.K Er Wf P (.mth .zfill a (.cons b .nil)) p) :=
  (pe_m1 PySem.F.slot_str_zfill PySem.F.type_str_zfill mt_zfill ha hb (star_plain hr _) (attr_plain hs _ _) hline).imp fun σ H Q h => mth1_rd hmu (fun {F H e Ls U sx y dy Ly} s r q => by
    obtain ⟨d, h1, h2⟩ := opt_some q
    cases dy <;> simp only [mthf] at h1 <;> (first | (cases h1; done) | skip)
    obtain ⟨rfl, rfl⟩ := r.int'
    split at h1
    · rename_i hz
      cases h1
      exact ⟨_, _, rfl, rfl, hz, fin0 s h2 (.str _)⟩
    · cases h1) h
theorem E_join {apos : Pos} (hs : noSup l = true) (hline : (apos.endLine == pos.line) = true) (hr : plain r = true) (ha : PE X l (tE X.K Er Wf P a true)) (hb : PE X r (tE X.K Er Wf P b true)) (hmu : mu b = false) :
    PE X (.Call (.Attribute l "join" apos) [r] [] pos) (tE X.K Er Wf P (.mth .join a (.cons b .nil)) p) :=
  (pe_join ha hb (star_plain hr _) (attr_plain hs _ _) hline).imp fun σ H Q h => mth1_rd hmu (fun {F H e Ls U sx y dy Ly} s r q => by
    obtain ⟨d, h1, h2⟩ := opt_some q
    cases dy <;> simp only [mthf] at h1 <;> (first | (cases h1; done) | skip)
    rename_i mm xs
    split at h1
    · rename_i ys hy
      split at h1
      · rename_i hz
        cases h1
        have ex := strsD_some hy
        subst ex
        obtain ⟨a', vs, M, rfl, h3, r2, s2⟩ := r.lst'
        obtain ⟨rfl, _⟩ := r2.strs
        exact ⟨sx, a', ys, rfl, rfl, .inl (.inl h3), hz, fin0 s h2 (.str _)⟩
      · cases h1
    · cases h1) h
theorem E_isdigit {apos : Pos} (hs : noSup l = true) (hline : (apos.endLine == pos.line) = true) (ha : PE X l (tE X.K Er Wf P a true)) :
    PE X (.Call (.Attribute l "isdigit" apos) [] [] pos) (tE X.K Er Wf P (.mth .isdigit a .nil) p) :=
  (pe_m0 PySem.F.slot_str_isdigit PySem.F.type_str_isdigit mt_isdigit ha (attr_plain hs _ _) hline).imp fun σ H Q h => mth0_rd (fun {F H e Ls U sx} s q => by
    obtain ⟨d, h1, h2⟩ := opt_some q
    cases h1
    exact ⟨_, rfl, rfl, trivial, fin0 s h2 (.bl _)⟩) h
theorem E_upper {apos : Pos} (hs : noSup l = true) (hline : (apos.endLine == pos.line) = true) (ha : PE X l (tE X.K Er Wf P a true)) :
    PE X (.Call (.Attribute l "upper" apos) [] [] pos) (tE X.K Er Wf P (.mth .upper a .nil) p) :=
  (pe_upper ha (attr_plain hs _ _) hline).imp fun σ H Q h => mth0_rd (fun {F H e Ls U sx} s q => by
    obtain ⟨d, h1, h2⟩ := opt_some q
    simp only [mthf] at h1
    split at h1
    · rename_i hz
      cases h1
      exact ⟨_, rfl, rfl, hz, fin0 s h2 (.str _)⟩
    · cases h1) h

/-! ### a slot's list is changed -/
theorem bm_pre {apos : Pos} {a : Expr} (h : plain a = true) : ((backTo pos (starEach (a :: []) X.env)).all (fun x => !x.1) && (backToKw pos (keywordEach [] X.env)).all (fun x => x.1.isSome) && decide (((a :: ([] : List Expr)).length + ([] : List Keyword).length + if ([] : List Keyword).isEmpty = true then 0 else 1) < 30)) = true := by
  rw [star_plain h]
  rfl
theorem slot_list {i : Nat} {o : Option D} (s : Sx K Er F H e σ Ls) {mm : Bool} {xs : List D} (h : e[i]? = some (some (.lst mm xs))) : ∃ v, σ[i]? = some (some v) ∧ tyV K "list" v H := by
  obtain ⟨v, hσ, r⟩ := s.rep i _ h
  obtain ⟨a, vs, M, rfl, h1, _, _⟩ := r.lst'
  exact ⟨_, hσ, .inl ⟨rfl, vs, .inl h1⟩⟩
theorem E_app {i : Nat} {n : Str} {q1 apos : Pos} (hN : X.N[i]? = some n) (hv : Vis X.env.scope n) (hd : (n == ("__debug__" : Str)) = false) (hcd : (n == ("__classdict__" : Str)) = false) (hline : (apos.endLine == pos.line) = true) (hr : plain r = true) (ha : PE X r (tE X.K Er Wf P a false)) :
    PE X (.Call (.Attribute (.Name n q1) "append" apos) [r] [] pos) (tE X.K Er Wf P (.app i a) p) :=
  (pe_bm PySem.F.plainAttrs_list PySem.F.slot_list_append PySem.F.type_list_append mt_append (pe_var hN hv hd hcd) (pa_cons ha pa_nil (star_plain hr _)) (by rfl) (bm_pre (apos := apos) hr) hline (star_plain hr _) (by rfl)).imp fun σ H Q ⟨F, e, Ls, s, q⟩ => by
    simp only [ev] at q
    split at q
    · rename_i mm xs he
      obtain ⟨v, hσ, ty⟩ := slot_list (o := none) s he
      refine ⟨v, hσ, ty, ?_⟩
      refine opnd s (m2 := mu (.app i a)) (fun _ => rfl) id q fun d1 e1 v1 F1 H1 Ls1 L1 E1 S1 R1 O1 q1 => ?_
      split at q1
      · rename_i ys he1
        split at q1
        · rename_i hz
          obtain ⟨b, ws, L, hσ1, hb, rb, hL, bL, nd⟩ := S1.owned he1
          rw [hσ] at hσ1; cases hσ1
          have o1 := ov_f O1
          have hbi : b ∈ Ls1 i := by rw [hL]; exact List.mem_cons_self
          have inL : ∀ x ∈ L, x ∈ Ls1 i := fun x hx => by rw [hL]; exact List.mem_cons_of_mem _ hx
          have r2 := rb.append (.cons (M := []) R1 .nil)
          rw [List.append_nil] at r2
          refine ⟨b, ws, v1, rfl, rfl, hb, by rw [rb.len]; exact most_lt hz, ?_⟩
          have nd2 : (L ++ L1).Nodup := List.nodup_append.mpr ⟨nd, o1.nd, fun x hx y hy z => (o1.no y hy).2 ⟨i, z ▸ inL x hx⟩⟩
          have S2 := S1.write he1 hσ hb hL r2 nd2 (fun x hx => by
            rcases List.mem_append.mp hx with z | z
            · exact ⟨fun w => bL (w ▸ z), S1.nf i x (inL x z), fun j hj w => hj (S1.dj j i x w (inL x z))⟩
            · exact ⟨fun w => (o1.no x z).2 ⟨i, w ▸ hbi⟩, (o1.no x z).1, fun j _ w => (o1.no x z).2 ⟨j, w⟩⟩)
          exact q1 .non _ _ _ [] ((Eff.write hbi (fun x hx => by
            rcases List.mem_append.mp hx with z | z
            · exact .inl ⟨i, inL x z⟩
            · exact .inr (by simpa using z))).less fun _ z => nomatch z) S2 .non OV.nil
        · exact q1.elim
      · exact q1.elim
    · exact q.elim
theorem E_clear {i : Nat} {n : Str} {q1 apos : Pos} (hN : X.N[i]? = some n) (hv : Vis X.env.scope n) (hd : (n == ("__debug__" : Str)) = false) (hcd : (n == ("__classdict__" : Str)) = false) (hline : (apos.endLine == pos.line) = true) :
    PE X (.Call (.Attribute (.Name n q1) "clear" apos) [] [] pos) (tE X.K Er Wf P (.clear i) p) :=
  (pe_bm0 PySem.F.plainAttrs_list PySem.F.slot_list_clear PySem.F.type_list_clear mt_clear (pe_var hN hv hd hcd) (by rfl) hline).imp fun σ H Q ⟨F, e, Ls, s, q⟩ => by
    simp only [ev] at q
    split at q
    · rename_i xs he
      obtain ⟨b, ws, L, hσ, hb, rb, hL, bL, nd⟩ := s.owned he
      refine ⟨_, hσ, .inl ⟨rfl, ws, .inl (.inl hb)⟩, b, ws, rfl, rfl, hb, ?_⟩
      have hbi : b ∈ Ls i := by rw [hL]; exact List.mem_cons_self
      have S2 := s.write (ds' := []) (L' := []) he hσ hb hL .nil List.nodup_nil (fun x hx => nomatch hx)
      exact q .non _ _ _ [] ((Eff.write (L' := []) hbi (fun x hx => nomatch hx)).less fun _ z => nomatch z) S2 .non OV.nil
    · exact q.elim
theorem E_popat {i : Nat} {n : Str} {q1 apos : Pos} (hN : X.N[i]? = some n) (hv : Vis X.env.scope n) (hd : (n == ("__debug__" : Str)) = false) (hcd : (n == ("__classdict__" : Str)) = false) (hline : (apos.endLine == pos.line) = true) (hr : plain r = true) (ha : PE X r (tE X.K Er Wf P a true)) :
    PE X (.Call (.Attribute (.Name n q1) "pop" apos) [r] [] pos) (tE X.K Er Wf P (.popat i a) p) :=
  (pe_bm PySem.F.plainAttrs_list PySem.F.slot_list_pop PySem.F.type_list_pop mt_popAt (pe_var hN hv hd hcd) (pa_cons ha pa_nil (star_plain hr _)) (by rfl) (bm_pre (apos := apos) hr) hline (star_plain hr _) (by rfl)).imp fun σ H Q ⟨F, e, Ls, s, q⟩ => by
    simp only [ev] at q
    split at q
    · rename_i mm xs he
      obtain ⟨v, hσ, ty⟩ := slot_list (o := none) s he
      refine ⟨v, hσ, ty, ?_⟩
      refine opnd s (m2 := mu (.popat i a)) (fun _ => rfl) id q fun d1 e1 v1 F1 H1 Ls1 L1 E1 S1 R1 O1 q1 => ?_
      split at q1
      · rename_i ys k he1
        obtain ⟨rfl, rfl⟩ := R1.int'
        split at q1
        · rename_i hz
          simp only [smallI, Bool.and_eq_true, decide_eq_true_eq] at hz
          split at q1
          · rename_i j hj
            split at q1
            · rename_i x hx
              obtain ⟨b, ws, L, hσ1, hb, rb, hL, bL, nd⟩ := S1.owned he1
              rw [hσ] at hσ1; cases hσ1
              have hbi : b ∈ Ls1 i := by rw [hL]; exact List.mem_cons_self
              have inL : ∀ x ∈ L, x ∈ Ls1 i := fun x hx => by rw [hL]; exact List.mem_cons_of_mem _ hx
              obtain ⟨w, M, M', hw, rw', r2, pm⟩ := rb.eraseIdx hx
              have ndp : (M ++ M').Nodup := pm.nodup_iff.mpr nd
              have subM : ∀ z ∈ M, z ∈ L := fun z hz => pm.subset (List.mem_append_left _ hz)
              have subM' : ∀ z ∈ M', z ∈ L := fun z hz => pm.subset (List.mem_append_right _ hz)
              refine ⟨b, ws, k, j, w, rfl, rfl, hb, by omega, by omega, by rw [rb.len]; exact hj, hw, ?_⟩
              have S2 := S1.write he1 hσ hb hL r2 (List.nodup_append.mp ndp).2.1 (fun z hz => ⟨fun y => bL (y ▸ subM' z hz), S1.nf i z (inL z (subM' z hz)), fun j' hj' y => hj' (S1.dj j' i z y (inL z (subM' z hz)))⟩)
              have kp : Kp (fun y => y = b) F1 H1 F1 (upd H1 b (.lst (ws.eraseIdx j))) := ⟨fun y u q n => by rw [upd_ne n]; exact q, fun y z => by subst z; exact ⟨_, hb, rfl⟩, fun _ h => h, fun y z => by subst z; exact S1.nf i _ hbi⟩
              have R2 := rw'.kp kp fun y hy z => bL (z ▸ subM y hy)
              have E0 : Eff true F1 H1 Ls1 ([] ++ []) F1 (upd H1 b (.lst (ws.eraseIdx j))) (up Ls1 i (b :: M')) M := by
                have E := Eff.write (F := F1) (H := H1) (U := []) (o := .lst (ws.eraseIdx j)) hbi (L' := M') fun z hz => .inl ⟨i, inL z (subM' z hz)⟩
                exact ⟨E.keep, E.live, E.fm, E.fn, fun z h => h.elim (fun h => E.sub z (.inl h)) fun h => .inl ⟨i, inL z (subM z h)⟩, E.shr⟩
              refine q1 w _ _ _ M E0 S2 R2 (Own.ov ⟨(List.nodup_append.mp ndp).1, fun z hz => ⟨S1.nf i z (inL z (subM z hz)), fun y => ?_⟩⟩ rfl)
              rcases y.up with y | ⟨j', hj', y⟩
              · rcases List.mem_cons.mp y with y | y
                · exact bL (y ▸ subM z hz)
                · exact (List.nodup_append.mp ndp).2.2 z hz z y rfl
              · exact hj' (S1.dj j' i z y (inL z (subM z hz)))
            · exact q1.elim
          · exact q1.elim
        · exact q1.elim
      · exact q1.elim
    · exact q.elim
end
end VI
set_option maxRecDepth 100000
set_option maxHeartbeats 2000000
/-! VI: tests, conditional expressions, calls without arguments, targets, walks. -/
namespace VI
open PySem PySem.Spec PyProof.Rows L2

section
variable (K : PySem.W.Frag) (Er : EE) (Wf : Bool → Nat → L2.St → Hp → Prop)
def PostT (m : Bool) (F : Addr → Prop) (H : Hp) (Ls : Nat → List Addr) (U : List Addr) (σ : L2.St) (r : R Bool) (Q : Bool → Hp → Prop) : Prop := match r with
  | .ok b e' => ∀ F' H' Ls', Eff m F H Ls U F' H' Ls' [] → Sx K Er F' H' e' σ Ls' → Q b H'
  | .ex c h e' => ExP K Er Wf m F H Ls U σ h c e'
  | .stuck => False
def tT (P : Par) (c : C) : TT := fun σ H Q => ∃ F e Ls, Sx K Er F H e σ Ls ∧ PostT K Er Wf (mu c) F H Ls [] σ (evT P c e) Q
end
section
variable {K : PySem.W.Frag} {Er : EE} {F F' F1 F2 : Addr → Prop} {H H' H1 H2 : Hp} {v x y : V} {dx dy d : D} {L L' Lx Ly : List Addr} {e e' e1 : Env} {σ : L2.St} {Ls Ls' Ls1 Ls2 : Nat → List Addr} {U T : List Addr}
variable {Wf : Bool → Nat → L2.St → Hp → Prop} {m m1 m2 p : Bool} {rt : Option Nat} {Q : VK} {P : Par} {QT : Bool → Hp → Prop}
variable {X : Cx} {l r : Expr} {pos : Pos} {a b c as : C}
theorem PostT.step {r : R Bool} (h1 : m1 = true → m = true) (h2 : m2 = true → m = true) (E : Eff m1 F H Ls U F1 H1 Ls1 T) (q : PostT K Er Wf m F H Ls U σ r QT) : PostT K Er Wf m2 F1 H1 Ls1 (U ++ T) σ r QT := by
  cases r with
  | ok d e' => exact fun F' H' Ls' x => q F' H' Ls' ((E.trans x).mono fun z => by
      rcases Bool.or_eq_true_iff.mp z with z | z
      · exact h1 z
      · exact h2 z)
  | ex c h e' => exact ExP.step h1 h2 E q
  | stuck => exact q
theorem opndT {a : C} {f : D → Env → R Bool} {Qa : VK} {pa : Bool} (s : Sx K Er F H e σ Ls) (h1 : mu a = true → m = true) (h2 : m2 = true → m = true) (q : PostT K Er Wf m F H Ls U σ ((ev P a pa e).bind f) QT)
    (g : ∀ d e1 v F1 H1 Ls1 L, Eff (mu a) F H Ls [] F1 H1 Ls1 L → Sx K Er F1 H1 e1 σ Ls1 → Rep K Er F1 H1 v d L → OV pa (root a) F1 Ls1 L → PostT K Er Wf m2 F1 H1 Ls1 (U ++ L) σ (f d e1) QT → Qa v H1) : tE K Er Wf P a pa σ H Qa := by
  refine ⟨F, e, Ls, s, ?_⟩
  cases hr : ev P a pa e with
  | ok d e1 =>
    rw [hr] at q
    intro v F1 H1 Ls1 L E S r o
    exact g d e1 v F1 H1 Ls1 L E S r o (PostT.step h1 h2 (E.more fun _ z => nomatch z) q)
  | ex c h e' =>
    rw [hr] at q
    exact ExP.weak h1 (ExP.none q)
  | stuck => rw [hr] at q; exact q
/-- a test, then the rest, an expression's -/
theorem testE {c : C} {f : Bool → Env → R D} {Qa : Bool → Hp → Prop} (s : Sx K Er F H e σ Ls) (h1 : mu c = true → m = true) (h2 : m2 = true → m = true) (q : PostE K Er Wf m F H Ls U σ p rt ((evT P c e).bind f) Q)
    (g : ∀ b e1 F1 H1 Ls1, Eff (mu c) F H Ls [] F1 H1 Ls1 [] → Sx K Er F1 H1 e1 σ Ls1 → PostE K Er Wf m2 F1 H1 Ls1 U σ p rt (f b e1) Q → Qa b H1) : tT K Er Wf P c σ H Qa := by
  refine ⟨F, e, Ls, s, ?_⟩
  cases hr : evT P c e with
  | ok d e1 =>
    rw [hr] at q
    intro F1 H1 Ls1 E S
    have q2 := PostE.step (T := []) h1 h2 (E.more fun _ z => nomatch z) q
    rw [List.append_nil] at q2
    exact g d e1 F1 H1 Ls1 E S q2
  | ex c h e' =>
    rw [hr] at q
    exact ExP.weak h1 (ExP.none q)
  | stuck => rw [hr] at q; exact q
/-- .. a test's -/
theorem testT {c : C} {f : Bool → Env → R Bool} {Qa : Bool → Hp → Prop} (s : Sx K Er F H e σ Ls) (h1 : mu c = true → m = true) (h2 : m2 = true → m = true) (q : PostT K Er Wf m F H Ls U σ ((evT P c e).bind f) QT)
    (g : ∀ b e1 F1 H1 Ls1, Eff (mu c) F H Ls [] F1 H1 Ls1 [] → Sx K Er F1 H1 e1 σ Ls1 → PostT K Er Wf m2 F1 H1 Ls1 U σ (f b e1) QT → Qa b H1) : tT K Er Wf P c σ H Qa := by
  refine ⟨F, e, Ls, s, ?_⟩
  cases hr : evT P c e with
  | ok d e1 =>
    rw [hr] at q
    intro F1 H1 Ls1 E S
    have q2 := PostT.step (T := []) h1 h2 (E.more fun _ z => nomatch z) q
    rw [List.append_nil] at q2
    exact g d e1 F1 H1 Ls1 E S q2
  | ex c h e' =>
    rw [hr] at q
    exact ExP.weak h1 (ExP.none q)
  | stuck => rw [hr] at q; exact q
theorem truth_bl : ∀ {d : D} {b : Bool}, truth d = some b → d = .bl b
  | .bl c, b, h => by
    simp only [truth] at h
    cases h; rfl
  | .non, _, h => nomatch h
  | .int _, _, h => nomatch h
  | .str _, _, h => nomatch h
  | .tup _, _, h => nomatch h
  | .lst _ _, _, h => nomatch h
  | .dct _ _ _, _, h => nomatch h
  | .dtt _ _ _, _, h => nomatch h
  | .obj _ _ _ _, _, h => nomatch h
  | .scr _, _, h => nomatch h
theorem evT_nt {a : C} {e : Env} : evT P (.cons (.nt a) .nil) e = (evT P (.cons a .nil) e).bind fun b o => .ok (!b) o := by
  simp only [evT, ev, bind_bind]
  cases ev P a true e with
  | ok d o => cases d <;> rfl
  | ex c h o => rfl
  | stuck => rfl
theorem evT_and {a b : C} {e : Env} : evT P (.cons (.and a b) .nil) e = (evT P (.cons a .nil) e).bind fun t o => if t then evT P (.cons b .nil) o else .ok false o := by
  simp only [evT, ev, bind_bind]
  cases ev P a true e with
  | ok d o =>
    cases d with
    | bl t =>
      cases t with
      | false => rfl
      | true =>
        show R.bind (R.bind (ev P b true o) _) _ = (ev P b true o).bind _
        rw [bind_bind]
        cases ev P b true o with
        | ok d2 o2 => cases d2 <;> rfl
        | ex c h o2 => rfl
        | stuck => rfl
    | _ => rfl
  | ex c h o => rfl
  | stuck => rfl
theorem evT_or {a b : C} {e : Env} : evT P (.cons (.or a b) .nil) e = (evT P (.cons a .nil) e).bind fun t o => if t then .ok true o else evT P (.cons b .nil) o := by
  simp only [evT, ev, bind_bind]
  cases ev P a true e with
  | ok d o =>
    cases d with
    | bl t =>
      cases t with
      | true => rfl
      | false =>
        show R.bind (R.bind (ev P b true o) _) _ = (ev P b true o).bind _
        rw [bind_bind]
        cases ev P b true o with
        | ok d2 o2 => cases d2 <;> rfl
        | ex c h o2 => rfl
        | stuck => rfl
    | _ => rfl
  | ex c h o => rfl
  | stuck => rfl
theorem mu_one {a : C} : mu (.cons a .nil) = mu a := by simp [mu]
/-- a value's test, once its value has come -/
theorem truth_fin {o : Env} (s : Sx K Er F1 H1 o σ Ls1) (r : Rep K Er F1 H1 v d L) (q : PostT K Er Wf m F1 H1 Ls1 U σ (match truth d with
      | some b => .ok b o
      | none => .stuck) QT) : ∃ c, v = .bl c ∧ QT c H1 := by
  cases ht : truth d with
  | none => rw [ht] at q; exact q.elim
  | some b =>
    rw [ht] at q
    have e := truth_bl ht
    subst e
    obtain ⟨rfl, rfl⟩ := r.bl'
    exact ⟨b, rfl, q F1 H1 Ls1 (Eff.refl.mono fun z => Bool.noConfusion z) s⟩
theorem T_read {σ : L2.St} {H : Hp} {QT : Bool → Hp → Prop} (h : tT K Er Wf P (.cons a .nil) σ H QT) : tE K Er Wf P a true σ H fun x H1 => ∃ c, x = .bl c ∧ QT c H1 := by
  obtain ⟨F, e, Ls, s, q⟩ := h
  rw [mu_one] at q
  simp only [evT] at q
  exact opndT s (m2 := mu a) id id q fun d1 e1 v1 F1 H1 Ls1 L1 E1 S1 R1 O1 q1 => truth_fin S1 R1 q1
theorem T_val (hl : plain l = true) (hv : valued l = true) (hn : noComp l = true) (ha : PE X l (tE K Er Wf P a true)) : PT X l (tT K Er Wf P (.cons a .nil)) :=
  (pt_val ha (truth_plain hl hv)).imp fun σ H Q h => T_read h
theorem T_skip_ok : ∀ σ H Q, tT K Er Wf P .skip σ H Q → tYes σ H Q := fun σ H Q ⟨F, e, Ls, s, q⟩ => by
  simp only [evT] at q
  exact q F H Ls (Eff.refl.mono fun z => Bool.noConfusion z) s
theorem T_cmp {o : Cop} (hu : X.A.units + 64 < cLine) (ha : PE X l (tE X.K Er Wf P a true)) (hb : PE X r (tE X.K Er Wf P b true)) (hm : mu b = false) (hr : plain r = true) : PT X (.Compare l [opC o] [r] pos) (tT X.K Er Wf P (.cons (.cmp o a b) .nil)) :=
  (pt_cmpR (op_C hu o) ha hb (marks_plain hr _)).imp fun σ H Q h => by
    obtain ⟨F, e, Ls, s, q⟩ := T_read h
    simp only [ev] at q
    refine opnd s (m2 := mu (.cmp o a b)) (fun z => by simp [mu, z]) id q fun d1 e1 v1 F1 H1 Ls1 L1 E1 S1 R1 O1 q1 => ?_
    refine opnd S1 (m2 := mu (.cmp o a b)) (ne_mu hm) id q1 fun d2 e2 v2 F2 H2 Ls2 L2 E2 S2 R2 O2 q2 => ?_
    obtain ⟨b, h1, h2⟩ := opt_bl S2 q2
    exact cmp_val (R1.side S1 E2 (ne_mu hm)) R2 h1 h2
theorem T_chain {o o' : Cop} {t : Expr} (hu : X.A.units + 64 < cLine) (ha : PE X l (tE X.K Er Wf P a true)) (hb : PE X r (tE X.K Er Wf P b true)) (hc : PE X t (tE X.K Er Wf P c true)) (hmb : mu b = false) (hmc : mu c = false) (ht : plain t = true)
    (hl : lastMarks [opC o, opC o'] [r, t] = false) : PT X (.Compare l [opC o, opC o'] [r, t] pos) (tT X.K Er Wf P (.cons (.chain o o' a b c) .nil)) :=
  (pt_chain (op_C hu o) (op_C hu o') ha hb hc hl).imp fun σ H Q h => chain_rd hmb hmc (T_read h)
theorem T_nt (ha : PT X l (tT K Er Wf P (.cons a .nil))) : PT X (.UnaryOp .Not l pos) (tT K Er Wf P (.cons (.nt a) .nil)) :=
  (pt_not ha).imp fun σ H Q ⟨F, e, Ls, s, q⟩ => by
    rw [evT_nt] at q
    exact testT (U := []) (QT := Q) (m := mu (.cons (.nt a) .nil)) (m2 := mu (.cons (.nt a) .nil)) s (by rw [mu_one, mu_one]; exact id) id q fun b e1 F1 H1 Ls1 E1 S1 q1 => q1 F1 H1 Ls1 (Eff.refl.mono fun z => Bool.noConfusion z) S1
/-- .. a test in the rest -/
theorem restT {b : C} {m : Bool} {Q : Bool → Hp → Prop} (S1 : Sx K Er F1 H1 e1 σ Ls1) (hm : mu b = true → m = true) (q1 : PostT K Er Wf m F1 H1 Ls1 [] σ (evT P (.cons b .nil) e1) Q) : tT K Er Wf P (.cons b .nil) σ H1 Q :=
  ⟨F1, e1, Ls1, S1, PostT.step (T := []) (m1 := false) (fun z => Bool.noConfusion z) (by rw [mu_one]; exact hm) Eff.refl q1⟩
theorem T_and {rest : List Expr} (ha : PT X l (tT K Er Wf P (.cons a .nil))) (hb : PW X (.BoolOp .And (r :: rest) pos) (tT K Er Wf P (.cons b .nil))) : PW X (.BoolOp .And (l :: r :: rest) pos) (tT K Er Wf P (.cons (.and a b) .nil)) :=
  (pw_and ha hb).imp fun σ H Q ⟨F, e, Ls, s, q⟩ => by
    rw [evT_and] at q
    refine testT (U := []) (QT := Q) (m := mu (.cons (.and a b) .nil)) (m2 := mu (.cons (.and a b) .nil)) s (by rw [mu_one, mu_one]; exact fun z => by simp [mu, z]) id q fun t e1 F1 H1 Ls1 E1 S1 q1 => ?_
    cases t with
    | true => exact iteT (restT S1 (fun z => by simp [mu, z]) q1)
    | false => exact iteF (q1 F1 H1 Ls1 (Eff.refl.mono fun z => Bool.noConfusion z) S1)
theorem T_or {rest : List Expr} (ha : PT X l (tT K Er Wf P (.cons a .nil))) (hb : PW X (.BoolOp .Or (r :: rest) pos) (tT K Er Wf P (.cons b .nil))) : PW X (.BoolOp .Or (l :: r :: rest) pos) (tT K Er Wf P (.cons (.or a b) .nil)) :=
  (pw_or ha hb).imp fun σ H Q ⟨F, e, Ls, s, q⟩ => by
    rw [evT_or] at q
    refine testT (U := []) (QT := Q) (m := mu (.cons (.or a b) .nil)) (m2 := mu (.cons (.or a b) .nil)) s (by rw [mu_one, mu_one]; exact fun z => by simp [mu, z]) id q fun t e1 F1 H1 Ls1 E1 S1 q1 => ?_
    cases t with
    | false => exact iteF (restT S1 (fun z => by simp [mu, z]) q1)
    | true => exact iteT (q1 F1 H1 Ls1 (Eff.refl.mono fun z => Bool.noConfusion z) S1)
/-- a if c else b, nothing owned told -/
theorem cpb_t {p : Bool} {a : C} (h : cpb p a = true) : p = true ∧ root a = none := by
  unfold cpb at h
  rw [Bool.and_eq_true] at h
  exact ⟨h.1, Option.isNone_iff_eq_none.mp h.2⟩
theorem OV.cond {p pa : Bool} {rt : Option Nat} {F' : Addr → Prop} {Ls' : Nat → List Addr} {L : List Addr} (hr : pa = true → p = true ∧ rt = none) (o : OV pa rt F' Ls' L) : OV p none F' Ls' L := by
  cases pa with
  | true =>
    obtain ⟨h1, h2⟩ := hr rfl
    subst h1 h2
    exact o
  | false =>
    unfold OV at o
    rw [if_neg (by decide)] at o
    exact Own.ov o rfl
theorem E_cond {t : Expr} (hc : PT X t (tT K Er Wf P c)) (ha : PE X l (tE K Er Wf P a (cpb p a))) (hb : PE X r (tE K Er Wf P b (cpb p b))) : PE X (.IfExp t l r pos) (tE K Er Wf P (.cond c a b) p) :=
  (pe_ifExp hc ha hb).imp fun σ H Q ⟨F, e, Ls, s, q⟩ => by
    simp only [ev] at q
    refine testE s (m2 := mu (.cond c a b)) (fun z => by simp [mu, z]) id q fun t e1 F1 H1 Ls1 E1 S1 q1 => ?_
    cases t with
    | true =>
      refine iteT ⟨F1, e1, Ls1, S1, ?_⟩
      have q2 : PostE K Er Wf (mu (.cond c a b)) F1 H1 Ls1 [] σ p none (ev P a (cpb p a) e1) Q := q1
      cases he : ev P a (cpb p a) e1 with
      | ok d e2 =>
        rw [he] at q2
        exact fun v F' H' Ls' L E S R O => q2 v F' H' Ls' L (E.mono fun z => by simp [mu, z]) S R (O.cond cpb_t)
      | ex c' h' e2 =>
        rw [he] at q2
        exact ExP.weak (fun z => by simp [mu, z]) q2
      | stuck => rw [he] at q2; exact q2
    | false =>
      refine iteF ⟨F1, e1, Ls1, S1, ?_⟩
      have q2 : PostE K Er Wf (mu (.cond c a b)) F1 H1 Ls1 [] σ p none (ev P b (cpb p b) e1) Q := q1
      cases he : ev P b (cpb p b) e1 with
      | ok d e2 =>
        rw [he] at q2
        exact fun v F' H' Ls' L E S R O => q2 v F' H' Ls' L (E.mono fun z => by simp [mu, z]) S R (O.cond cpb_t)
      | ex c' h' e2 =>
        rw [he] at q2
        exact ExP.weak (fun z => by simp [mu, z]) q2
      | stuck => rw [he] at q2; exact q2
end
end VI
set_option maxRecDepth 100000
set_option maxHeartbeats 2000000
/-! VI: targets, walks. -/
namespace VI
open PySem PySem.Spec PyProof.Rows L2 RZ

def gNs : List Nat → TGs
  | [] => gNil
  | i :: is => gCons (gName i) (gNs is)
def gT (K : PySem.W.Frag) : Tg → TG
  | .one i => gName i
  | .many is => gTup K is.length (gNs is)
def tgs : Tg → List Nat
  | .one i => [i]
  | .many is => is
section
variable {K : PySem.W.Frag} {Er : EE} {F F' F1 F2 : Addr → Prop} {H H' H1 H2 H3 : Hp} {v x y : V} {dx dy d : D} {L L' Lx Ly : List Addr} {e e' e1 : Env} {σ : L2.St} {Ls Ls' Ls1 Ls2 : Nat → List Addr} {U T : List Addr}
variable {Wf : Bool → Nat → L2.St → Hp → Prop} {m m1 m2 p : Bool} {rt : Option Nat} {Q : VK} {P : Par}
variable {X : Cx} {l r : Expr} {pos : Pos} {a b c as : C}
theorem set_many : ∀ (is : List Nat) {ds : List D} {vs : List V} {L : List Addr} {e : Env} {σ : L2.St} {Ls : Nat → List Addr}, Sx K Er F H e σ Ls → Reps K Er F H vs ds L → L.Nodup → (∀ a ∈ L, ¬ F a ∧ ¬ In Ls a) → ds.length = is.length →
    is.all (· < e.length) = true → (∀ i ∈ is, Er i = none) → ∀ {Q : L2.St → Hp → Prop}, (∀ σ' Ls', Sx K Er F H ((is.zip ds).foldl (fun e p => e.set p.1 (some p.2)) e) σ' Ls' → (∀ a, In Ls' a → In Ls a ∨ a ∈ L) → (∀ j, j ∉ is → σ'[j]? = σ[j]? ∧ Ls' j = Ls j) → Q σ' H) → gNs is vs σ H Q
  | [], ds, vs, L, e, σ, Ls, s, r, nd, o, hl, _, _, Q, q => by
    cases ds with
    | cons _ _ => cases hl
    | nil =>
      obtain ⟨rfl, rfl⟩ := r.nil'
      exact ⟨rfl, q σ Ls s (fun a h => .inl h) fun _ _ => ⟨rfl, rfl⟩⟩
  | i :: is, ds, vs, L, e, σ, Ls, s, r, nd, o, hl, hi, hx, Q, q => by
    cases ds with
    | nil => cases hl
    | cons d ds =>
      obtain ⟨v, ws, M, N, rfl, r1, r2, rfl⟩ := r.cons'
      rw [List.all_cons, Bool.and_eq_true, decide_eq_true_eq] at hi
      have nd' := List.nodup_append.mp nd
      have s1 := s.put (hx i List.mem_cons_self) hi.1 r1 nd'.1 fun a h => o a (List.mem_append_left _ h)
      refine ⟨v, ws, rfl, set_many is s1 r2 nd'.2.1 (fun a h => ⟨(o a (List.mem_append_right _ h)).1, fun z => ?_⟩) (by simpa using hl) (by rw [List.length_set]; exact hi.2) (fun j h => hx j (List.mem_cons_of_mem _ h)) fun σ' Ls' S' sub fr => q σ' Ls' S' (fun a h => ?_) fun j hj => ?_⟩
      · rcases z.up with z | ⟨j, _, z⟩
        · exact nd'.2.2 a z a h rfl
        · exact (o a (List.mem_append_right _ h)).2 ⟨j, z⟩
      · rcases sub a h with z | z
        · rcases z.up with z | ⟨j, _, z⟩
          · exact .inr (List.mem_append_left _ z)
          · exact .inl ⟨j, z⟩
        · exact .inr (List.mem_append_right _ z)
      · have ne : j ≠ i := fun z => hj (by rw [z]; exact List.mem_cons_self)
        obtain ⟨h1, h2⟩ := fr j fun z => hj (List.mem_cons_of_mem _ z)
        exact ⟨by rw [h1, List.getElem?_set_ne (Ne.symm ne)], by rw [h2, up_ne ne]⟩
/-- a target takes a value -/
theorem put_ok {tg : Tg} {d : D} {Q : L2.St → Hp → Prop} (s : Sx K Er F H e σ Ls) (r : Rep K Er F H v d L) (nd : L.Nodup) (o : ∀ a ∈ L, ¬ F a ∧ ¬ In Ls a) (h : put tg d e = some e') (hx : ∀ i ∈ tgs tg, Er i = none)
    (q : ∀ σ' Ls', Sx K Er F H e' σ' Ls' → (∀ a, In Ls' a → In Ls a ∨ a ∈ L) → (∀ j, j ∉ tgs tg → σ'[j]? = σ[j]? ∧ Ls' j = Ls j) → Q σ' H) : gT K tg v σ H Q := by
  cases tg with
  | one i =>
    simp only [put] at h
    split at h
    · rename_i hi
      cases h
      exact q _ _ (s.put (hx i (by simp [tgs])) hi r nd o) (fun a h => by
        rcases h.up with z | ⟨j, _, z⟩
        · exact .inr z
        · exact .inl ⟨j, z⟩) fun j hj => ⟨List.getElem?_set_ne fun z => hj (by simp [tgs, z]), up_ne fun z => hj (by simp [tgs, z])⟩
    · cases h
  | many is =>
    cases d with
    | tup ds =>
      simp only [put] at h
      split at h
      · rename_i hi
        cases h
        obtain ⟨a, vs, rfl, h1, r1⟩ := r.tup'
        exact ⟨a, vs, rfl, sqT_of h1, by rw [r1.len]; exact hi.1, set_many is s r1 nd o hi.1 hi.2 hx q⟩
      · cases h
    | _ => simp [put] at h
theorem set_len : ∀ (ps : List (Nat × D)) (e : Env), (ps.foldl (fun e p => e.set p.1 (some p.2)) e).length = e.length
  | [], _ => rfl
  | p :: ps, e => by
    rw [List.foldl_cons, set_len ps, List.length_set]
theorem put_len {tg : Tg} {d : D} (h : put tg d e = some e') : e'.length = e.length := by
  cases tg with
  | one i =>
    simp only [put] at h
    split at h
    · cases h; rw [List.length_set]
    · cases h
  | many is =>
    cases d <;> simp only [put] at h <;> (first | (cases h; done) | skip)
    split at h
    · cases h; exact set_len _ _
    · cases h
theorem Eff.idle (h : ∀ a, In Ls' a → In Ls a ∨ a ∈ U) : Eff true F H Ls U F H Ls' [] :=
  ⟨fun _ _ z _ => z, fun _ z => z, fun _ z => z, fun _ z => .inr (.inr (.inl z)), fun a z => z.elim (fun z => (h a z).elim .inl fun z => .inr (.inl z)) (fun z => nomatch z), fun z => Bool.noConfusion z⟩

/-! ### walks -/
/-- what stands from (F, H) on to H2; ms: owned cells may have changed -/
def Later (ms : Bool) (F : Addr → Prop) (H H2 : Hp) : Prop := ∀ a o, H a = some o → (ms = true → F a ∨ cellH o = false) → H2 a = some o
def Laid (H2 H3 : Hp) : Prop := H3 = H2 ∨ ∃ T xs, H2 T = none ∧ H3 = upd H2 T (.tup xs)
theorem Laid.same (h : Laid H2 H3) : ∀ a o, H2 a = some o → H3 a = some o := fun a o z => by
  rcases h with rfl | ⟨T, xs, n, rfl⟩
  · exact z
  · rw [upd_ne (ne_of_none z n)]; exact z
theorem Rep.later {ms : Bool} (r : Rep K Er F H v d []) (h : Later ms F H H2) (hF : ∀ a, F a → F2 a) : Rep K Er F2 H2 v d [] :=
  r.kp (M := fun a => ∃ o, H a = some o ∧ cellH o = true ∧ ¬ F a) ⟨fun a o e n => h a o e fun _ => by
    by_cases z : F a
    · exact .inl z
    · cases q : cellH o with
      | false => exact .inr rfl
      | true => exact absurd ⟨o, e, q, z⟩ n, fun a ⟨o, e, q, _⟩ => ⟨o, e, q⟩, hF, fun a ⟨_, _, _, z⟩ => z⟩ fun a h => nomatch h
theorem Later.rd {ms : Bool} {a : Addr} {vs : List V} (h : Later ms F H H2) (r : Rd H a (.lst vs)) (f : ms = true → F a) : Rd H2 a (.lst vs) := by
  rcases r with r | ⟨o, r⟩
  · exact .inl (h a _ r fun z => .inl (f z))
  · exact .inr ⟨o, h a _ r fun _ => .inr rfl⟩
theorem Later.sqT {ms : Bool} {a : Addr} {vs : List V} (h : Later ms F H H2) (r : SqT K H a vs) : SqT K H2 a vs := by
  rcases r with (r | ⟨o, r⟩) | r
  · exact .inl (.inl (h a _ r fun _ => .inr rfl))
  · exact .inl (.inr ⟨o, h a _ r fun _ => .inr rfl⟩)
  · exact .inr r
/-- a walk whose items are ds -/
structure WalkD (K : PySem.W.Frag) (Er : EE) (ms : Bool) (J : It) (ds : List D) (F : Addr → Prop) (H : Hp) (G : Hp → Prop) (Y : Nat → Hp → V → Hp → Prop) : Prop where
  walk : Walk J ds.length G Y
  goes : ∀ H2, Later ms F H H2 → G H2
  item : ∀ i H2 x H3 F2, i < ds.length → Later ms F H H2 → (∀ a, F a → F2 a) → Y i H2 x H3 → ∃ d, ds[i]? = some d ∧ Laid H2 H3 ∧ Rep K Er F2 H3 x d []
end
section
variable (K : PySem.W.Frag) (Er : EE) (Wf : Bool → Nat → L2.St → Hp → Prop)
def PostI (ms m : Bool) (F : Addr → Prop) (H : Hp) (Ls : Nat → List Addr) (U : List Addr) (σ : L2.St) (r : R (List D)) (R : It → Hp → Prop) : Prop := match r with
  | .ok ds e' => ∀ J G Y F' H' Ls', Eff m F H Ls U F' H' Ls' [] → Sx K Er F' H' e' σ Ls' → WalkD K Er ms J ds F' H' G Y → R J H'
  | .ex c h e' => ExP K Er Wf m F H Ls U σ h c e'
  | .stuck => False
def tI (P : Par) (ms : Bool) (c : C) : TI := fun σ H R => ∃ F e Ls, Sx K Er F H e σ Ls ∧ PostI K Er Wf ms (mu c) F H Ls [] σ (evI P ms c e) R
end
section
variable {K : PySem.W.Frag} {Er : EE} {F F' F1 F2 : Addr → Prop} {H H' H1 H2 H3 : Hp} {v x y : V} {dx dy d : D} {L L' Lx Ly : List Addr} {e e' e1 : Env} {σ : L2.St} {Ls Ls' Ls1 Ls2 : Nat → List Addr} {U T : List Addr}
variable {Wf : Bool → Nat → L2.St → Hp → Prop} {ms m m1 m2 p : Bool} {rt : Option Nat} {Q : VK} {P : Par} {QI : It → Hp → Prop}
variable {X : Cx} {l r : Expr} {pos : Pos} {a b c as : C}
theorem PostI.step {r : R (List D)} (h1 : m1 = true → m = true) (h2 : m2 = true → m = true) (E : Eff m1 F H Ls U F1 H1 Ls1 T) (q : PostI K Er Wf ms m F H Ls U σ r QI) : PostI K Er Wf ms m2 F1 H1 Ls1 (U ++ T) σ r QI := by
  cases r with
  | ok d e' => exact fun J G Y F' H' Ls' x => q J G Y F' H' Ls' ((E.trans x).mono fun z => by
      rcases Bool.or_eq_true_iff.mp z with z | z
      · exact h1 z
      · exact h2 z)
  | ex c h e' => exact ExP.step h1 h2 E q
  | stuck => exact q
theorem opndI {a : C} {f : D → Env → R (List D)} {Qa : VK} {pa : Bool} (s : Sx K Er F H e σ Ls) (h1 : mu a = true → m = true) (h2 : m2 = true → m = true) (q : PostI K Er Wf ms m F H Ls U σ ((ev P a pa e).bind f) QI)
    (g : ∀ d e1 v F1 H1 Ls1 L, ev P a pa e = .ok d e1 → Eff (mu a) F H Ls [] F1 H1 Ls1 L → Sx K Er F1 H1 e1 σ Ls1 → Rep K Er F1 H1 v d L → OV pa (root a) F1 Ls1 L → PostI K Er Wf ms m2 F1 H1 Ls1 (U ++ L) σ (f d e1) QI → Qa v H1) : tE K Er Wf P a pa σ H Qa := by
  refine ⟨F, e, Ls, s, ?_⟩
  cases hr : ev P a pa e with
  | ok d e1 =>
    rw [hr] at q
    intro v F1 H1 Ls1 L E S r o
    exact g d e1 v F1 H1 Ls1 L hr E S r o (PostI.step h1 h2 (E.more fun _ z => nomatch z) q)
  | ex c h e' =>
    rw [hr] at q
    exact ExP.weak h1 (ExP.none q)
  | stuck => rw [hr] at q; exact q
theorem rngL_get {lo : Int} {n i : Nat} (h : i < n) : (rngL lo n)[i]? = some (.int (lo + (i : Int))) := by
  unfold rngL
  rw [List.getElem?_map, List.getElem?_range h]
  rfl
theorem rngL_len {lo : Int} {n : Nat} : (rngL lo n).length = n := by simp [rngL]
theorem walkD_range {lo : Int} {n : Nat} : WalkD K Er ms (Itr lo n) (rngL lo n) F H (fun _ => True) (YFn fun i => .int (lo + i)) := by
  refine ⟨by rw [rngL_len]; exact walk_range, fun _ _ => trivial, fun i H2 x H3 F2 hi _ _ y => ?_⟩
  rw [rngL_len] at hi
  obtain ⟨rfl, rfl⟩ := y
  exact ⟨_, rngL_get hi, .inl rfl, .int _⟩
theorem Reps.at' {vs : List V} {ds : List D} {L : List Addr} {i : Nat} {x : V} (r : Reps K Er F H vs ds L) (e : vs[i]? = some x) : ∃ d M, ds[i]? = some d ∧ Rep K Er F H x d M ∧ M.Sublist L := by
  have hi : i < ds.length := by
    rw [← r.len]
    exact (List.getElem?_eq_some_iff.mp e).1
  obtain ⟨w, M, h1, h2, h3⟩ := r.get (List.getElem?_eq_getElem hi)
  rw [e] at h1; cases h1
  exact ⟨_, M, List.getElem?_eq_getElem hi, h2, h3⟩
theorem Reps.at0 {vs : List V} {ds : List D} {i : Nat} {x : V} (r : Reps K Er F H vs ds []) (e : vs[i]? = some x) : ∃ d, ds[i]? = some d ∧ Rep K Er F H x d [] := by
  obtain ⟨d, M, h1, h2, h3⟩ := r.at' e
  obtain rfl := List.sublist_nil.mp h3
  exact ⟨d, h1, h2⟩
theorem walkD_list {a : Addr} {vs : List V} {ds : List D} (r : Rd H a (.lst vs)) (f : ms = true → F a) (rs : Reps K Er F H vs ds []) : WalkD K Er ms (Itl K a) ds F H (fun H => SqL K H a vs) (YAt vs) := by
  refine ⟨by rw [← rs.len]; exact walk_list, fun H2 h => .inl (h.rd r f), fun i H2 x H3 F2 hi h hF y => ?_⟩
  obtain ⟨rfl, y⟩ := y
  obtain ⟨d, h1, h2⟩ := rs.at0 y
  exact ⟨d, h1, .inl rfl, h2.later h hF⟩
theorem walkD_scr {a : Addr} {ns : List Int} (r : Scr K H a (ns.map V.int)) : WalkD K Er ms (Itl K a) (ns.map D.int) F H (fun H => SqL K H a (ns.map V.int)) (YAt (ns.map V.int)) := by
  refine ⟨?_, fun H2 h => ?_, fun i H2 x H3 F2 hi h hF y => ?_⟩
  · have w := walk_list (K := K) (a := a) (xs := ns.map V.int)
    rw [List.length_map] at w ⊢
    exact w
  · rcases r with ⟨o, r⟩ | r
    · exact .inl (.inr ⟨o, h a _ r fun _ => .inr rfl⟩)
    · exact .inr r
  · obtain ⟨rfl, y⟩ := y
    rw [List.getElem?_map] at y
    cases z : ns[i]? with
    | none => rw [z] at y; cases y
    | some c =>
      rw [z] at y
      cases y
      exact ⟨.int c, by rw [List.getElem?_map, z]; rfl, .inl rfl, .int c⟩
theorem walkD_tup {a : Addr} {vs : List V} {ds : List D} (r : SqT K H a vs) (rs : Reps K Er F H vs ds []) : WalkD K Er ms (Itt K a) ds F H (fun H => SqT K H a vs) (YAt vs) := by
  refine ⟨by rw [← rs.len]; exact walk_tup, fun H2 h => h.sqT r, fun i H2 x H3 F2 hi h hF y => ?_⟩
  obtain ⟨rfl, y⟩ := y
  obtain ⟨d, h1, h2⟩ := rs.at0 y
  exact ⟨d, h1, .inl rfl, h2.later h hF⟩
theorem walkD_str {z : Str} : WalkD K Er ms (Its z) (z.cps.toList.map fun c => D.str ⟨#[c]⟩) F H (fun _ => True) (fun i H v H' => H' = H ∧ ∃ c, z.cps[i]? = some c ∧ v = .str ⟨#[c]⟩) := by
  refine ⟨by rw [List.length_map]; exact walk_str, fun _ _ => trivial, fun i H2 x H3 F2 hi _ _ y => ?_⟩
  obtain ⟨rfl, c, hc, rfl⟩ := y
  refine ⟨.str ⟨#[c]⟩, ?_, .inl rfl, .str _⟩
  rw [List.getElem?_map, Array.getElem?_toList, hc]
  rfl
theorem zipD_len : ∀ {xs ys : List D}, (zipD xs ys).length = min xs.length ys.length
  | [], _ => by simp [zipD]
  | _ :: _, [] => by simp [zipD]
  | x :: xs, y :: ys => by simp only [zipD, List.length_cons]; rw [zipD_len]; omega
theorem zipD_get : ∀ {xs ys : List D} {i : Nat} {x y : D}, xs[i]? = some x → ys[i]? = some y → (zipD xs ys)[i]? = some (.tup [x, y])
  | [], _, _, _, _, h, _ => by simp at h
  | _ :: _, [], _, _, _, _, h => by simp at h
  | _ :: _, _ :: _, 0, _, _, h, h' => by
    simp at h h'; subst h h'
    rfl
  | _ :: xs, _ :: ys, i + 1, _, _, h, h' => by
    simp only [zipD, List.getElem?_cons_succ] at h h' ⊢
    exact zipD_get h h'
theorem enumD_len : ∀ {xs : List D} {n : Nat}, (enumD n xs).length = xs.length
  | [], _ => rfl
  | x :: xs, n => by simp only [enumD, List.length_cons]; rw [enumD_len]
theorem enumD_get : ∀ {xs : List D} {n i : Nat} {x : D}, xs[i]? = some x → (enumD n xs)[i]? = some (.tup [.int ((n + i : Nat) : Int), x])
  | [], _, _, _, h => by simp at h
  | _ :: _, n, 0, _, h => by
    simp at h; subst h
    rfl
  | _ :: xs, n, i + 1, _, h => by
    simp only [enumD, List.getElem?_cons_succ] at h ⊢
    rw [enumD_get h, Nat.add_right_comm]
    rfl
theorem pair_item {ms : Bool} {xs ys : Nat → Option V} {i : Nat} {F2 : Addr → Prop} {x : V} (y : YPair xs ys i H2 x H3) (h : ∀ a b, xs i = some a → ys i = some b → ∃ da db, d = .tup [da, db] ∧ Rep K Er F2 H2 a da [] ∧ Rep K Er F2 H2 b db []) : Laid H2 H3 ∧ Rep K Er F2 H3 x d [] := by
  obtain ⟨T, a, b, rfl, n, rfl, h1, h2⟩ := y
  obtain ⟨da, db, rfl, r1, r2⟩ := h a b h1 h2
  refine ⟨.inr ⟨T, _, n, rfl⟩, .tup upd_same (.cons (L := []) (M := []) (r1.all (all_laid n)) (.cons (L := []) (M := []) (r2.all (all_laid n)) .nil))⟩
theorem walkD_zip {J : It} {vs ws : List V} {ds dt : List D} {G : Hp → Prop} (w : Walk J (zipD ds dt).length G (YPair (fun i => vs[i]?) (fun i => ws[i]?))) (hg : ∀ H2, Later ms F H H2 → G H2) (r1 : Reps K Er F H vs ds []) (r2 : Reps K Er F H ws dt []) :
    WalkD K Er ms J (zipD ds dt) F H G (YPair (fun i => vs[i]?) (fun i => ws[i]?)) := by
  refine ⟨w, hg, fun i H2 x H3 F2 hi h hF y => ?_⟩
  obtain ⟨T, a, b, _, _, _, h1, h2⟩ := id y
  obtain ⟨da, e1, q1⟩ := r1.at0 h1
  obtain ⟨db, e2, q2⟩ := r2.at0 h2
  refine ⟨_, zipD_get e1 e2, ?_⟩
  refine pair_item (ms := ms) y fun a' b' h1' h2' => ?_
  cases h1.symm.trans h1'
  cases h2.symm.trans h2'
  exact ⟨da, db, rfl, q1.later h hF, q2.later h hF⟩
theorem walkD_enum {a : Addr} {vs : List V} {ds : List D} (r : Rd H a (.lst vs)) (f : ms = true → F a) (rs : Reps K Er F H vs ds []) : WalkD K Er ms (Ite K a) (enumD 0 ds) F H (fun H => SqL K H a vs) (YPair (fun i => some (.int (i : Nat))) (fun i => vs[i]?)) := by
  refine ⟨by rw [enumD_len, ← rs.len]; exact walk_enum, fun H2 h => .inl (h.rd r f), fun i H2 x H3 F2 hi h hF y => ?_⟩
  obtain ⟨T, a, b, _, _, _, h1, h2⟩ := id y
  obtain ⟨db, e2, q2⟩ := rs.at0 h2
  refine ⟨_, enumD_get e2, ?_⟩
  refine pair_item (ms := ms) y fun a' b' h1' h2' => ?_
  cases h2.symm.trans h2'
  cases h1'
  exact ⟨_, db, by rw [Nat.zero_add], .int _, q2.later h hF⟩

/-- what was looked at is frozen, with all that it stands on -/
theorem frz_ok (s : Sx K Er F H e σ Ls) (rs : List (Option Nat)) {L : List Addr} (hc : ∀ a ∈ L, H a ≠ none) (hU : ∀ a ∈ L, a ∈ U) (hv : ∀ a ∈ L, In Ls a → ¬ F a → ∃ i, some i ∈ rs ∧ a ∈ Ls i) :
    ∃ F' Ls', Sx K Er F' H (rs.foldl fz e) σ Ls' ∧ Eff false F H Ls U F' H Ls' [] ∧ ∀ a ∈ L, F' a := by
  obtain ⟨F1, Ls1, s1, E1, c1⟩ := s.fzs rs
  have nIn : ∀ a, In Ls1 a → ¬ (a ∈ L) := fun a ⟨i, h⟩ ha => by
    have hi := E1.shr rfl i a h
    by_cases hf : F a
    · exact s1.nf i a h (E1.fm a hf)
    · obtain ⟨j, hj, hm⟩ := hv a ha ⟨i, hi⟩ hf
      exact s1.nf i a h (c1 j hj a hm)
  refine ⟨fun a => F1 a ∨ a ∈ L, Ls1, ⟨s1.len, fun i d q => let ⟨v, a, b⟩ := s1.rep i d q; ⟨v, a, b.all ⟨fun _ _ z => z, fun _ z => .inl z⟩⟩, s1.emp, s1.nd, s1.dj, fun i a q z => z.elim (s1.nf i a q) (nIn a ⟨i, q⟩), fun a z => z.elim (s1.fa a) (hc a), s1.fx⟩, ⟨fun _ _ z _ => z, fun _ z => z, fun a z => .inl (E1.fm a z), fun a z => ?_, fun a z => ?_, E1.shr⟩, fun a z => .inr z⟩
  · rcases z with z | z
    · rcases E1.fn a z with w | w | w | w
      · exact .inl w
      · cases w
      · exact .inr (.inr (.inl w))
      · exact .inr (.inr (.inr w))
    · exact .inr (.inl (hU a z))
  · rcases z with z | z
    · rcases E1.sub a (.inl z) with w | w | w
      · exact .inl w
      · cases w
      · exact .inr (.inr w)
    · cases z
theorem live_of (s : Sx K Er F H e σ Ls) (r : Rep K Er F H v d L) : ∀ a ∈ L, H a ≠ none := fun a h => by
  obtain ⟨o, q, _⟩ := r.cell a h
  rw [q]; simp
theorem _root_.L2.PI.imp {X : Cx} {tg e : Expr} {t t' : TI} (h : PI X tg e t) (i : ∀ σ H R, t' σ H R → t σ H R) : PI X tg e t' := ⟨fun pins s σ H R I q => h.run pins s σ H R I (i σ H R q)⟩
theorem _root_.L2.PI.or {X : Cx} {tg e : Expr} {t t' : TI} (h : PI X tg e t) (h' : PI X tg e t') : PI X tg e (fun σ H R => t σ H R ∨ t' σ H R) := ⟨fun pins s σ H R I q => q.elim (h.run pins s σ H R I) (h'.run pins s σ H R I)⟩
/-- the end of a walk's beginning: nothing frozen, or all -/
theorem walk_fin {G : Hp → Prop} {Y : Nat → Hp → V → Hp → Prop} {J : It} {ds ds' : List D} {t : Bool} (s : Sx K Er F H e σ Ls) (rs : List (Option Nat)) (hL : ∀ a ∈ L, H a ≠ none) (hU : ∀ a ∈ L, a ∈ U) (hv : ∀ a ∈ L, In Ls a → ¬ F a → ∃ i, some i ∈ rs ∧ a ∈ Ls i)
    (q : PostI K Er Wf ms m F H Ls U σ (if t then .ok ds e else .ok ds' (rs.foldl fz e)) QI)
    (w1 : t = true → WalkD K Er ms J ds F H G Y) (w2 : t = false → ∀ F', (∀ a, F a → F' a) → (∀ a ∈ L, F' a) → WalkD K Er ms J ds' F' H G Y) : QI J H := by
  cases t with
  | true => exact q J G Y F H Ls (Eff.refl.mono fun z => Bool.noConfusion z) s (w1 rfl)
  | false =>
    obtain ⟨F', Ls', S', E', c'⟩ := frz_ok s rs hL hU hv
    exact q J G Y F' H Ls' (E'.mono fun z => Bool.noConfusion z) S' (w2 rfl F' E'.fm c')
theorem walk_zipT {K : PySem.W.Frag} {a b : Addr} {xs ys : List V} {n : Nat} (hn : n = min xs.length ys.length) : Walk (ItzT K a b) n (fun H => SqT K H a xs ∧ SqT K H b ys) (YPair (fun i => xs[i]?) (fun i => ys[i]?)) := by
  subst hn
  refine ⟨fun i _ hi q => ?_, fun _ q => ⟨xs, ys, q.1, q.2, by omega⟩, fun i H v H' _ q y => ?_⟩
  · have h1 : i < xs.length := by omega
    have h2 : i < ys.length := by omega
    exact ⟨xs, ys, xs[i], ys[i], q.1, q.2, by simp [h1], by simp [h2]⟩
  · obtain ⟨T, x, z, h1, h2, h3, h4, h5⟩ := y
    exact ⟨T, x, z, h1, h2, h3, h4 xs q.1, h5 ys q.2⟩
theorem I_rng1 {n : Str} {tg : Expr} {q : Pos} (hn : n = "range") (hg : Gl X n) (hm : X.mg n = none) (hl : plain l = true) (ha : PE X l (tE K Er Wf P a true)) : PI X tg (.Call (.Name n q) [l] [] pos) (tI K Er Wf P ms (.rng1 a)) := by
  subst hn
  exact (pi_range1 hg hm (pa_cons ha pa_nil (star_plain hl _)) (star_plain hl _)).imp fun σ H R ⟨F, e, Ls, s, q⟩ => by
    simp only [evI] at q
    refine opndI s (m2 := mu (.rng1 a)) id id q fun d1 e1 v1 F1 H1 Ls1 L1 X1 E1 S1 R1 O1 q1 => ?_
    cases d1 <;> (first | exact q1.elim | skip)
    rename_i i
    obtain ⟨rfl, rfl⟩ := R1.int'
    dsimp only at q1
    split at q1
    · rename_i hz
      simp only [smallI, Bool.and_eq_true, decide_eq_true_eq] at hz
      exact ⟨i, rfl, hz.1, hz.2, q1 _ _ _ F1 H1 Ls1 (Eff.refl.mono fun z => Bool.noConfusion z) S1 walkD_range⟩
    · exact q1.elim
theorem I_rng2 {n : Str} {tg : Expr} {q : Pos} (hn : n = "range") (hg : Gl X n) (hm : X.mg n = none) (hl : plain l = true) (hr : plain r = true) (ha : PE X l (tE K Er Wf P a true)) (hb : PE X r (tE K Er Wf P b true)) (hmb : mu b = false) : PI X tg (.Call (.Name n q) [l, r] [] pos) (tI K Er Wf P ms (.rng2 a b)) := by
  subst hn
  exact (pi_range2 hg hm (pa_cons ha (pa_cons hb pa_nil (star_plain hr _)) (star_plain hl _)) (by rw [star_plain hl, star_plain hr]; rfl) (star_plain hr _)).imp fun σ H R ⟨F, e, Ls, s, q⟩ => by
    simp only [evI] at q
    refine opndI s (m2 := mu (.rng2 a b)) (fun z => by simp [mu, z]) id q fun d1 e1 v1 F1 H1 Ls1 L1 X1 E1 S1 R1 O1 q1 => ?_
    refine opndI S1 (m2 := mu (.rng2 a b)) (ne_mu hmb) id q1 fun d2 e2 v2 F2 H2 Ls2 L2 X2 E2 S2 R2 O2 q2 => ?_
    cases d1 <;> (first | exact q2.elim | skip)
    cases d2 <;> (first | exact q2.elim | skip)
    rename_i i j
    obtain ⟨rfl, rfl⟩ := R1.int'
    obtain ⟨rfl, rfl⟩ := R2.int'
    dsimp only at q2
    split at q2
    · rename_i hz
      simp only [smallI, Bool.and_eq_true, decide_eq_true_eq] at hz
      exact ⟨i, j, rfl, ⟨hz.1.1, hz.1.2, hz.2.1, hz.2.2⟩, q2 _ _ _ F2 H2 Ls2 (Eff.refl.mono fun z => Bool.noConfusion z) S2 walkD_range⟩
    · exact q2.elim
theorem Rep.lstF {mm : Bool} {ds : List D} (r : Rep K Er F H v (.lst mm ds) L) : ∃ a vs M, v = .ref a ∧ Rd H a (.lst vs) ∧ Reps K Er F H vs ds M ∧ (∀ x ∈ M, x ∈ L) ∧ (a ∈ L ∨ F a) := by
  cases r with
  | own h q => exact ⟨_, _, _, rfl, .inl h, q, fun x h => List.mem_cons_of_mem _ h, .inl List.mem_cons_self⟩
  | fro h f q => exact ⟨_, _, _, rfl, h, q, fun x h => h, .inr f⟩
theorem walkList {mm : Bool} {xs : List D} (r : Rep K Er F H v (.lst mm xs) L) : ∃ a, v = .ref a ∧ (∃ vs, SqL K H a vs) ∧ ∃ G Y, ((lfL xs && !ms) = true → WalkD K Er ms (Itl K a) xs F H G Y) ∧ ∀ F', (∀ b, F b → F' b) → (∀ b ∈ L, F' b) → WalkD K Er ms (Itl K a) (frzL xs) F' H G Y := by
  obtain ⟨a, vs, M, rfl, h1, r1, sub, fa⟩ := r.lstF
  refine ⟨a, rfl, ⟨vs, .inl h1⟩, fun H => SqL K H a vs, YAt vs, fun t => ?_, fun F' hF hL => ?_⟩
  · rw [Bool.and_eq_true] at t
    have e0 := r1.lf t.1
    subst e0
    exact walkD_list h1 (fun z => by rw [z] at t; exact Bool.noConfusion t.2) r1
  · exact walkD_list h1 (fun _ => fa.elim (hL a) (hF a)) (r1.frz hF fun x hx => hL x (sub x hx))
theorem walkTup {xs : List D} (r : Rep K Er F H v (.tup xs) L) : ∃ a, v = .ref a ∧ (∃ vs, SqT K H a vs) ∧ ∃ G Y, (lfL xs = true → WalkD K Er ms (Itt K a) xs F H G Y) ∧ ∀ F', (∀ b, F b → F' b) → (∀ b ∈ L, F' b) → WalkD K Er ms (Itt K a) (frzL xs) F' H G Y := by
  obtain ⟨a, vs, rfl, h1, r1⟩ := r.tup'
  replace h1 := sqT_of (K := K) h1
  refine ⟨a, rfl, ⟨vs, h1⟩, fun H => SqT K H a vs, YAt vs, fun t => ?_, fun F' hF hL => ?_⟩
  · have e0 := r1.lf t
    subst e0
    exact walkD_tup h1 r1
  · exact walkD_tup h1 (r1.frz hF hL)
theorem I_walk {tg : Expr} (ha : PE X l (tE X.K Er Wf P a true)) : PI X tg l (tI X.K Er Wf P ms (.cons a .nil)) :=
  ((pi_list ha).or ((pi_tup ha).or (pi_str ha))).imp fun σ H R ⟨F, e, Ls, s, q⟩ => by
    rw [mu_one] at q
    simp only [evI] at q
    cases hd : ev P a true e with
    | stuck => rw [hd] at q; exact q.elim
    | ex c h o =>
      rw [hd] at q
      exact .inl ⟨F, e, Ls, s, by rw [hd]; exact ExP.none q⟩
    | ok d o =>
      have vw : ∀ {F1 : Addr → Prop} {Ls1 : Nat → List Addr} {L1 : List Addr}, OV true (root a) F1 Ls1 L1 → ∀ b ∈ L1, In Ls1 b → ¬ F1 b → ∃ i, some i ∈ [root a] ∧ b ∈ Ls1 i := fun O b hb hi nf => let ⟨i, h1, h2⟩ := ov_t O b hb hi nf; ⟨i, by simp [h1], h2⟩
      cases d with
      | lst mm xs =>
        refine .inl ?_
        refine opndI s (m2 := mu a) id id q fun d1 e1 v1 F1 H1 Ls1 L1 X1 E1 S1 R1 O1 q1 => ?_
        rw [hd] at X1; cases X1
        obtain ⟨a', rfl, hs, G, Y, w1, w2⟩ := walkList (ms := ms) R1
        exact ⟨a', rfl, hs, walk_fin S1 [root a] (live_of S1 R1) (fun b hb => by simpa using hb) (vw O1) q1 w1 fun _ => w2⟩
      | tup xs =>
        refine .inr (.inl ?_)
        refine opndI s (m2 := mu a) id id q fun d1 e1 v1 F1 H1 Ls1 L1 X1 E1 S1 R1 O1 q1 => ?_
        rw [hd] at X1; cases X1
        obtain ⟨a', rfl, hs, G, Y, w1, w2⟩ := walkTup (ms := ms) R1
        exact ⟨a', rfl, hs, walk_fin S1 [root a] (live_of S1 R1) (fun b hb => by simpa using hb) (vw O1) q1 w1 fun _ => w2⟩
      | str z =>
        refine .inr (.inr ?_)
        refine opndI s (m2 := mu a) id id q fun d1 e1 v1 F1 H1 Ls1 L1 X1 E1 S1 R1 O1 q1 => ?_
        rw [hd] at X1; cases X1
        obtain ⟨rfl, rfl⟩ := R1.str'
        exact ⟨z, rfl, q1 _ _ _ F1 H1 Ls1 (Eff.refl.mono fun z => Bool.noConfusion z) S1 walkD_str⟩
      | scr ns =>
        refine .inl ?_
        refine opndI s (m2 := mu a) id id q fun d1 e1 v1 F1 H1 Ls1 L1 X1 E1 S1 R1 O1 q1 => ?_
        rw [hd] at X1; cases X1
        obtain ⟨a', rfl, h1, rfl⟩ := R1.scr'
        refine ⟨a', rfl, ⟨_, h1.sq⟩, q1 (Itl X.K a') (fun H => SqL X.K H a' (ns.map V.int)) (YAt (ns.map V.int)) F1 H1 Ls1 (Eff.refl.mono fun z => Bool.noConfusion z) S1 (walkD_scr h1)⟩
      | _ => rw [hd] at q; exact q.elim
theorem I_enum {n : Str} {elts : List Expr} {kk : Nat} {tpos q : Pos} (hn : n = "enumerate") (hg : Gl X n) (hm : X.mg n = none) (hl : plain l = true) (ha : PE X l (tE X.K Er Wf P a true)) : PI X (.Tuple elts kk tpos) (.Call (.Name n q) [l] [] pos) (tI X.K Er Wf P ms (.enum a)) := by
  subst hn
  exact (pi_enum hg hm (pa_cons ha pa_nil (star_plain hl _)) (star_plain hl _)).imp fun σ H R ⟨F, e, Ls, s, q⟩ => by
    simp only [evI] at q
    refine opndI s (m2 := mu (.enum a)) id id q fun d1 e1 v1 F1 H1 Ls1 L1 X1 E1 S1 R1 O1 q1 => ?_
    have vw : ∀ b ∈ L1, In Ls1 b → ¬ F1 b → ∃ i, some i ∈ [root a] ∧ b ∈ Ls1 i := fun b hb hi nf => let ⟨i, h1, h2⟩ := ov_t O1 b hb hi nf; ⟨i, by simp [h1], h2⟩
    cases d1 <;> (first | exact q1.elim | skip)
    rename_i mm xs
    obtain ⟨a', vs, M, rfl, h1, r1, sub, fa⟩ := R1.lstF
    refine ⟨a', vs, rfl, .inl h1, walk_fin S1 [root a] (live_of S1 R1) (fun b hb => by simpa using hb) vw q1 (fun t => ?_) fun _ F' hF hL => walkD_enum h1 (fun _ => fa.elim (hL a') (hF a')) (r1.frz hF fun x hx => hL x (sub x hx))⟩
    rw [Bool.and_eq_true] at t
    have e0 := r1.lf t.1
    subst e0
    exact walkD_enum h1 (fun z => by rw [z] at t; exact Bool.noConfusion t.2) r1
theorem walkD_rev {a : Addr} {vs : List V} {ds : List D} (r : Rd H a (.lst vs)) (f : ms = true → F a) (rs : Reps K Er F H vs ds []) : WalkD K Er ms (Itv K a vs.length) ds.reverse F H (fun H => SqL K H a vs) (fun i H x H' => H' = H ∧ vs[vs.length - 1 - i]? = some x) := by
  refine ⟨by rw [List.length_reverse, ← rs.len]; exact walk_rev, fun H2 h => .inl (h.rd r f), fun i H2 x H3 F2 hi h hF y => ?_⟩
  obtain ⟨rfl, y⟩ := y
  obtain ⟨d, h1, h2⟩ := rs.at0 y
  rw [List.length_reverse] at hi
  refine ⟨d, ?_, .inl rfl, h2.later h hF⟩
  rw [List.getElem?_reverse hi, ← rs.len]
  exact h1
theorem I_rev {tg : Expr} {n : Str} {q : Pos} (hn : n = "reversed") (hg : Gl X n) (hm : X.mg n = none) (hl : plain l = true) (ha : PE X l (tE X.K Er Wf P a true)) : PI X tg (.Call (.Name n q) [l] [] pos) (tI X.K Er Wf P ms (.revw a)) := by
  subst hn
  exact (pi_reversed hg hm (pa_cons ha pa_nil (star_plain hl _)) (star_plain hl _)).imp fun σ H R ⟨F, e, Ls, s, q⟩ => by
    simp only [evI] at q
    refine opndI s (m2 := mu (.revw a)) id id q fun d1 e1 v1 F1 H1 Ls1 L1 X1 E1 S1 R1 O1 q1 => ?_
    have vw : ∀ b ∈ L1, In Ls1 b → ¬ F1 b → ∃ i, some i ∈ [root a] ∧ b ∈ Ls1 i := fun b hb hi nf => let ⟨i, h1, h2⟩ := ov_t O1 b hb hi nf; ⟨i, by simp [h1], h2⟩
    cases d1 <;> (first | exact q1.elim | skip)
    rename_i mm xs
    obtain ⟨a', vs, M, rfl, h1, r1, sub, fa⟩ := R1.lstF
    refine ⟨a', vs, rfl, .inl h1, walk_fin S1 [root a] (live_of S1 R1) (fun b hb => by simpa using hb) vw q1 (fun t => ?_) fun _ F' hF hL => walkD_rev h1 (fun _ => fa.elim (hL a') (hF a')) (r1.frz hF fun x hx => hL x (sub x hx))⟩
    rw [Bool.and_eq_true] at t
    have e0 := r1.lf t.1
    subst e0
    exact walkD_rev h1 (fun z => by rw [z] at t; exact Bool.noConfusion t.2) r1
theorem I_zip {n : Str} {elts : List Expr} {kk : Nat} {tpos q : Pos} (hn : n = "zip") (hg : Gl X n) (hm : X.mg n = none) (hl : plain l = true) (hr : plain r = true) (ha : PE X l (tE X.K Er Wf P a true)) (hb : PE X r (tE X.K Er Wf P b true)) (hmb : mu b = false) :
    PI X (.Tuple elts kk tpos) (.Call (.Name n q) [l, r] [] pos) (tI X.K Er Wf P ms (.zip a b)) := by
  subst hn
  exact (pi_zipA hg hm (pa_cons ha (pa_cons hb pa_nil (star_plain hr _)) (star_plain hl _)) (star_plain hl _) (back_plain (by simp [hr]))).imp fun σ H R ⟨F, e, Ls, s, q⟩ => by
    simp only [evI] at q
    refine opndI s (m2 := mu (.zip a b)) (fun z => by simp [mu, z]) id q fun d1 e1 v1 F1 H1 Ls1 L1 X1 E1 S1 R1 O1 q1 => ?_
    refine opndI S1 (m2 := mu (.zip a b)) (ne_mu hmb) id q1 fun d2 e2 v2 F2 H2 Ls2 L2 X2 E2 S2 R2 O2 q2 => ?_
    have R1' := R1.side S1 E2 (ne_mu hmb)
    have vw : ∀ c ∈ L1 ++ L2, In Ls2 c → ¬ F2 c → ∃ i, some i ∈ [root a, root b] ∧ c ∈ Ls2 i := fun c z hi nf => by
      rcases List.mem_append.mp z with z | z
      · obtain ⟨i, h1, h2⟩ := (ov_t O1).use S1 (toF hmb E2) c z hi nf
        exact ⟨i, by simp [h1], h2⟩
      · obtain ⟨i, h1, h2⟩ := ov_t O2 c z hi nf
        exact ⟨i, by simp [h1], h2⟩
    have lv : ∀ c ∈ L1 ++ L2, H2 c ≠ none := fun c z => (List.mem_append.mp z).elim (live_of S2 R1' c) (live_of S2 R2 c)
    have hU : ∀ c ∈ L1 ++ L2, c ∈ [] ++ L1 ++ L2 := fun c z => by simpa using z
    cases d1 <;> (first | exact q2.elim | skip)
    · cases d2 <;> (first | exact q2.elim | skip)
      rename_i xs ys
      obtain ⟨a', vs, rfl, h1, r1⟩ := R1'.tup'
      obtain ⟨b', ws, rfl, h2, r2⟩ := R2.tup'
      replace h1 := sqT_of (K := X.K) h1
      replace h2 := sqT_of (K := X.K) h2
      refine ⟨a', b', vs, ws, rfl, .inr ⟨h1, h2, ?_⟩⟩
      refine walk_fin (ds := zipD xs ys) (ds' := zipD (frzL xs) (frzL ys)) (t := lfL xs && lfL ys) (G := fun H => SqT X.K H a' vs ∧ SqT X.K H b' ws) (Y := YPair (fun i => vs[i]?) (fun i => ws[i]?)) S2 [root a, root b] lv hU vw q2 (fun t => ?_) (fun t F' hF hL => ?_)
      · rw [Bool.and_eq_true] at t
        have e1 := r1.lf t.1
        have e2 := r2.lf t.2
        subst e1 e2
        exact walkD_zip (walk_zipT (by rw [zipD_len, r1.len, r2.len])) (fun H3 h => ⟨h.sqT h1, h.sqT h2⟩) r1 r2
      · exact walkD_zip (walk_zipT (by rw [zipD_len, r1.len, r2.len]; simp [frzL_len])) (fun H3 h => ⟨h.sqT h1, h.sqT h2⟩) (r1.frz hF fun x hx => hL x (List.mem_append_left _ hx)) (r2.frz hF fun x hx => hL x (List.mem_append_right _ hx))
    · cases d2 <;> (first | exact q2.elim | skip)
      rename_i m1 xs m2 ys
      obtain ⟨a', vs, M, rfl, h1, r1, s1, f1⟩ := R1'.lstF
      obtain ⟨b', ws, N, rfl, h2, r2, s2, f2⟩ := R2.lstF
      refine ⟨a', b', vs, ws, rfl, .inl ⟨.inl h1, .inl h2, ?_⟩⟩
      refine walk_fin (ds := zipD xs ys) (ds' := zipD (frzL xs) (frzL ys)) (t := lfL xs && lfL ys && !ms) (G := fun H => SqL X.K H a' vs ∧ SqL X.K H b' ws) (Y := YPair (fun i => vs[i]?) (fun i => ws[i]?)) S2 [root a, root b] lv hU vw q2 (fun t => ?_) (fun t F' hF hL => ?_)
      · rw [Bool.and_eq_true, Bool.and_eq_true] at t
        have e1 := r1.lf t.1.1
        have e2 := r2.lf t.1.2
        subst e1 e2
        have f0 : ∀ {A : Prop}, ms = true → A := fun z => by rw [z] at t; exact Bool.noConfusion t.2
        exact walkD_zip (walk_zip (by rw [zipD_len, r1.len, r2.len])) (fun H3 h => ⟨.inl (h.rd h1 f0), .inl (h.rd h2 f0)⟩) r1 r2
      · exact walkD_zip (walk_zip (by rw [zipD_len, r1.len, r2.len]; simp [frzL_len])) (fun H3 h => ⟨.inl (h.rd h1 fun _ => f1.elim (fun z => hL _ (List.mem_append_left _ z)) (hF _)), .inl (h.rd h2 fun _ => f2.elim (fun z => hL _ (List.mem_append_right _ z)) (hF _))⟩)
          (r1.frz hF fun x hx => hL x (List.mem_append_left _ (s1 x hx))) (r2.frz hF fun x hx => hL x (List.mem_append_right _ (s2 x hx)))
end
end VI
set_option maxRecDepth 100000
set_option maxHeartbeats 2000000
/-! VI: list comprehensions. -/
namespace VI
open PySem PySem.Spec PyProof.Rows L2 RZ

theorem wipe_get : ∀ (vs : List Nat) (e : Env) (j : Nat), (wipe e vs)[j]? = if j ∈ vs then (e[j]?).map (fun _ => none) else e[j]?
  | [], e, j => by simp [wipe]
  | v :: vs, e, j => by
    show (wipe (e.set v none) vs)[j]? = _
    rw [wipe_get vs]
    by_cases h : j ∈ vs
    · rw [if_pos h, if_pos (List.mem_cons_of_mem _ h)]
      by_cases z : v = j
      · subst z
        by_cases hv : v < e.length
        · rw [List.getElem?_set_self hv, List.getElem?_eq_getElem hv]; rfl
        · rw [List.getElem?_eq_none (by rw [List.length_set]; omega), List.getElem?_eq_none (by omega)]
      · rw [List.getElem?_set_ne z]
    · rw [if_neg h]
      by_cases z : v = j
      · subst z
        rw [if_pos List.mem_cons_self]
        by_cases hv : v < e.length
        · rw [List.getElem?_set_self hv, List.getElem?_eq_getElem hv]; rfl
        · rw [List.getElem?_eq_none (by rw [List.length_set]; omega), List.getElem?_eq_none (by omega)]; rfl
      · rw [List.getElem?_set_ne z, if_neg (fun w => (List.mem_cons.mp w).elim (fun w => z w.symm) h)]
theorem wipe_len : ∀ (vs : List Nat) (e : Env), (wipe e vs).length = e.length
  | [], e => rfl
  | v :: vs, e => by
    show (wipe (e.set v none) vs).length = _
    rw [wipe_len vs, List.length_set]
theorem wipeS_get : ∀ (vs : List Nat) (σ : L2.St) (j : Nat), (L2.wipe σ vs)[j]? = if j ∈ vs then (σ[j]?).map (fun _ => none) else σ[j]?
  | [], σ, j => by simp [L2.wipe]
  | v :: vs, σ, j => by
    show ((L2.wipe σ vs).set v none)[j]? = _
    by_cases z : v = j
    · subst z
      rw [if_pos List.mem_cons_self]
      by_cases hv : v < σ.length
      · rw [List.getElem?_set_self (by rw [L2.wipe_length]; exact hv), List.getElem?_eq_getElem hv]; rfl
      · rw [List.getElem?_eq_none (by rw [List.length_set, L2.wipe_length]; omega), List.getElem?_eq_none (by omega)]; rfl
    · rw [List.getElem?_set_ne z, wipeS_get vs]
      by_cases h : j ∈ vs
      · rw [if_pos h, if_pos (List.mem_cons_of_mem _ h)]
      · rw [if_neg h, if_neg (fun w => (List.mem_cons.mp w).elim (fun w => z w.symm) h)]
theorem wipeS_eq {σ σ' : L2.St} {vs : List Nat} (hl : σ'.length = σ.length) (h : ∀ j, j ∉ vs → σ'[j]? = (L2.wipe σ vs)[j]?) : L2.wipe σ' vs = L2.wipe σ vs := by
  refine List.ext_getElem? fun j => ?_
  rw [wipeS_get]
  by_cases z : j ∈ vs
  · rw [if_pos z, wipeS_get, if_pos z]
    by_cases hj : j < σ.length
    · rw [List.getElem?_eq_getElem hj, List.getElem?_eq_getElem (by omega)]; rfl
    · rw [List.getElem?_eq_none (by omega), List.getElem?_eq_none (by omega)]
  · rw [if_neg z]
    exact h j z
def lsW (Ls : Nat → List Addr) (vs : List Nat) : Nat → List Addr := fun i => if i ∈ vs then [] else Ls i
section
variable {K : PySem.W.Frag} {Er : EE} {F F' F1 F2 : Addr → Prop} {H H' H1 H2 H3 : Hp} {v x y : V} {dx dy d : D} {L L' Lx Ly : List Addr} {e e' e1 : Env} {σ : L2.St} {Ls Ls' Ls1 Ls2 : Nat → List Addr} {U T : List Addr} {vs : List Nat}
theorem lsW_mem {i : Nat} {a : Addr} (h : a ∈ lsW Ls vs i) : i ∉ vs ∧ a ∈ Ls i := by
  unfold lsW at h
  split at h
  · cases h
  · rename_i z; exact ⟨z, h⟩
theorem Sx.wiped (s : Sx K Er F H e σ Ls) (hx : ∀ i ∈ vs, Er i = none) : Sx K Er F H (wipe e vs) (L2.wipe σ vs) (lsW Ls vs) where
  len := by rw [wipe_len, L2.wipe_length]; exact s.len
  rep := fun i d h => by
    rw [wipe_get] at h
    by_cases z : i ∈ vs
    · rw [if_pos z] at h
      cases q : e[i]? with
      | none => rw [q] at h; cases h
      | some o => rw [q] at h; cases h
    · rw [if_neg z] at h
      obtain ⟨v, a, r⟩ := s.rep i d h
      refine ⟨v, by rw [wipeS_get, if_neg z]; exact a, ?_⟩
      unfold lsW
      rw [if_neg z]; exact r
  emp := fun i h => by
    unfold lsW
    split
    · rfl
    · rename_i z
      refine s.emp i fun d q => h d ?_
      rw [wipe_get, if_neg z]; exact q
  nd := fun i => by
    unfold lsW
    split
    · exact List.nodup_nil
    · exact s.nd i
  dj := fun i j a h1 h2 => s.dj i j a (lsW_mem h1).2 (lsW_mem h2).2
  nf := fun i a h => s.nf i a (lsW_mem h).2
  fa := s.fa
  fx := fun i v h => by
    rw [wipeS_get, if_neg fun z => by rw [hx i z] at h; cases h]
    exact s.fx i v h
theorem Sx.rewipe (s : Sx K Er F H (wipe e vs) (L2.wipe σ vs) Ls) (fx : ∀ i v, Er i = some v → σ[i]? = some (some v)) : Sx K Er F H (wipe e vs) σ Ls where
  len := by rw [s.len, L2.wipe_length]
  rep := fun i d h => by
    obtain ⟨v, a, r⟩ := s.rep i d h
    exact ⟨v, (L2.wipe_some a).1, r⟩
  emp := s.emp
  nd := s.nd
  dj := s.dj
  nf := s.nf
  fa := s.fa
  fx := fx
/-- another cell changes -/
theorem Sx.other (s : Sx K Er F H e σ Ls) {a : Addr} {o u : HO} (h : H a = some o) (hc : cellH o = true) (n : ¬ In Ls a) (nf : ¬ F a) : Sx K Er F (upd H a u) e σ Ls := by
  have kp : Kp (fun b => b = a) F H F (upd H a u) := ⟨fun b w q n => by rw [upd_ne n]; exact q, fun b z => by subst z; exact ⟨_, h, hc⟩, fun _ h => h, fun b z => by subst z; exact nf⟩
  refine ⟨s.len, fun i d q => let ⟨v, w, r⟩ := s.rep i d q; ⟨v, w, r.kp kp fun b hb z => n ⟨i, z ▸ hb⟩⟩, s.emp, s.nd, s.dj, s.nf, fun b hb => ?_, s.fx⟩
  by_cases z : b = a
  · rw [z, upd_same]; simp
  · rw [upd_ne z]; exact s.fa b hb
theorem Reps.other {xs : List V} {ds : List D} (r : Reps K Er F H xs ds L) {a : Addr} {o u : HO} (h : H a = some o) (hc : cellH o = true) (n : a ∉ L) (nf : ¬ F a) : Reps K Er F (upd H a u) xs ds L :=
  r.kp (M := fun b => b = a) ⟨fun b w q n => by rw [upd_ne n]; exact q, fun b z => by subst z; exact ⟨_, h, hc⟩, fun _ h => h, fun b z => by subst z; exact nf⟩ fun b hb z => n (z ▸ hb)
/-- what stands apart goes on so -/
theorem Eff.apart {m : Bool} {a : Addr} (E : Eff m F H Ls [] F' H' Ls' T) (h : H a ≠ none) (nf : ¬ F a) (n : ¬ In Ls a) : ¬ F' a ∧ ¬ In Ls' a ∧ a ∉ T :=
  ⟨fun z => by
    rcases E.fn a z with w | w | w | w
    · exact n w
    · cases w
    · exact nf w
    · exact h w, fun z => by
    rcases E.sub a (.inl z) with w | w | w
    · exact n w
    · cases w
    · exact h w, fun z => by
    rcases E.sub a (.inr z) with w | w | w
    · exact n w
    · cases w
    · exact h w⟩
variable {Wf : Bool → Nat → L2.St → Hp → Prop} {ms m m1 m2 p : Bool} {rt : Option Nat} {Q : VK} {P : Par}
variable {X : Cx} {l r : Expr} {pos : Pos} {a b c as : C}
def Wf0 : Bool → Nat → L2.St → Hp → Prop := fun _ _ _ _ => False
/-- a comprehension's turn -/
def turnC (P : Par) (tg : Tg) (vs : List Nat) (cond elt : C) : D → Env → R (Option D) := fun d e2 => match put tg d (wipe e2 vs) with
  | some e3 => (evT P cond e3).bind fun b e4 => if b then (ev P elt false e4).bind fun x e5 => .ok (some x) e5 else .ok none e4
  | none => .stuck
theorem loopC_ne {f : D → Env → R (Option D)} : ∀ {ds acc : List D} {e : Env} {c : Nat} {h : Bool} {e' : Env}, loopC f ds acc e ≠ .ex c h e'
  | [], acc, e, c, h, e', z => by simp [loopC] at z
  | d :: ds, acc, e, c, h, e', z => by
    simp only [loopC] at z
    split at z
    · split at z
      · exact loopC_ne z
      · cases z
    · exact loopC_ne z
    · cases z
/-- what stands between the turns -/
def LcI (K : PySem.W.Frag) (Er : EE) (P : Par) (tg : Tg) (vs : List Nat) (cond elt : C) (σ : L2.St) (D0 : Addr) (F1 : Addr → Prop) (H1 : Hp) (Ls1 : Nat → List Addr) (zs : List D) (e3 : Env) (ds : List D) (i : Nat) (H2 : Hp) : Prop :=
  ∃ F2 e2 Ls2 acc xs L, Sx K Er F2 H2 (wipe e2 vs) (L2.wipe σ vs) Ls2 ∧ Eff false F1 H1 Ls1 [] F2 H2 Ls2 (D0 :: L) ∧ H2 D0 = some (.lst acc) ∧ Reps K Er F2 H2 acc xs L ∧ (D0 :: L).Nodup ∧ (∀ a ∈ D0 :: L, ¬ F2 a ∧ ¬ In Ls2 a) ∧
    loopC (turnC P tg vs cond elt) (ds.drop i) xs e2 = .ok zs e3
theorem Eff.same' (h : Laid H H') : Eff false F H Ls U F H' Ls [] :=
  ⟨fun a o q _ => h.same a o q, fun a q => by
    cases z : H a with
    | none => exact absurd z q
    | some o => rw [h.same a o z]; simp, fun _ z => z, fun _ z => .inr (.inr (.inl z)), fun a z => z.elim .inl (fun z => nomatch z), fun _ _ _ z => z⟩
theorem Sx.laid' (s : Sx K Er F H e σ Ls) (h : Laid H H') : Sx K Er F H' e σ Ls := by
  rcases h with rfl | ⟨T, xs, n, rfl⟩
  · exact s
  · exact s.laid n
theorem Reps.laid' {xs : List V} {ds : List D} (r : Reps K Er F H xs ds L) (h : Laid H H') : Reps K Er F H' xs ds L := r.all ⟨h.same, fun _ z => z⟩
theorem Eff.toW (E : Eff false F H (lsW Ls vs) U F' H' Ls' T) : Eff false F H Ls U F' H' Ls' T :=
  have one : ∀ {a}, In (lsW Ls vs) a → In Ls a := fun ⟨i, h⟩ => ⟨i, (lsW_mem h).2⟩
  ⟨fun a o h _ => E.keep a o h fun z => Bool.noConfusion z, E.live, E.fm, fun a z => (E.fn a z).elim (fun z => .inl (one z)) .inr, fun a z => (E.sub a z).elim (fun z => .inl (one z)) .inr, fun z i a h => (lsW_mem (E.shr z i a h)).2⟩
theorem Eff.andW (E : Eff m F H Ls U F' H' Ls' T) : Eff m F H Ls U F' H' (lsW Ls' vs) T :=
  ⟨E.keep, E.live, E.fm, E.fn, fun a z => E.sub a (z.elim (fun ⟨i, h⟩ => .inl ⟨i, (lsW_mem h).2⟩) .inr), fun z i a h => E.shr z i a (lsW_mem h).2⟩
theorem none_back {A B : Hp} (h : ∀ a, A a ≠ none → B a ≠ none) {a : Addr} (n : B a = none) : A a = none := by
  cases q : A a with
  | none => rfl
  | some o => exact absurd n (h a (by rw [q]; simp))
theorem lc_eff {D0 : Addr} {L : List Addr} {Lw Ls3 Ls4 : Nat → List Addr} {F4 : Addr → Prop} {H4 : Hp} (E2 : Eff false F1 H1 (lsW Lw vs) [] F2 H2 Ls2 (D0 :: L)) (ld : Laid H2 H3) (sub : ∀ {a}, In Ls3 a → In Ls2 a) (fr : ∀ j, j ∉ vs → Ls3 j = Ls2 j) (E4 : Eff false F2 H3 Ls3 [] F4 H4 Ls4 []) :
    Eff false F1 H1 (lsW Lw vs) [] F4 H4 (lsW Ls4 vs) (D0 :: L) where
  keep := fun a o h n => E4.keep a o (ld.same a o (E2.keep a o h fun z => Bool.noConfusion z)) fun z => Bool.noConfusion z
  live := fun a h => E4.live a (by
    have z := E2.live a h
    cases q : H2 a with
    | none => exact absurd q z
    | some o => rw [ld.same a o q]; simp)
  fm := fun a h => E4.fm a (E2.fm a h)
  fn := fun a h => by
    have l2 : ∀ b, H2 b ≠ none → H3 b ≠ none := fun b q => by
      cases z : H2 b with
      | none => exact absurd z q
      | some o => rw [ld.same b o z]; simp
    rcases E4.fn a h with z | z | z | z
    · rcases E2.sub a (.inl (sub z)) with w | w | w
      · exact .inl w
      · cases w
      · exact .inr (.inr (.inr w))
    · cases z
    · exact E2.fn a z
    · exact .inr (.inr (.inr (none_back E2.live (none_back l2 z))))
  sub := fun a h => by
    have l2 : ∀ b, H2 b ≠ none → H3 b ≠ none := fun b q => by
      cases z : H2 b with
      | none => exact absurd z q
      | some o => rw [ld.same b o z]; simp
    rcases h with ⟨i, h⟩ | h
    · rcases E4.sub a (.inl ⟨i, (lsW_mem h).2⟩) with z | z | z
      · exact E2.sub a (.inl (sub z))
      · cases z
      · exact .inr (.inr (none_back E2.live (none_back l2 z)))
    · exact E2.sub a (.inr h)
  shr := fun _ i a h => by
    obtain ⟨h1, h2⟩ := lsW_mem h
    have z := E4.shr rfl i a h2
    rw [fr i h1] at z
    exact E2.shr rfl i a z
theorem lc_eff2 {D0 : Addr} {L L5 : List Addr} {Lw Ls4 Ls5 : Nat → List Addr} {F4 F5 : Addr → Prop} {H4 H5 : Hp} (E : Eff false F1 H1 Lw [] F4 H4 (lsW Ls4 vs) (D0 :: L)) (E5 : Eff false F4 H4 Ls4 [] F5 H5 Ls5 L5) (hw : ∀ {a}, In Ls4 a → In Lw a ∨ H1 a = none) :
    Eff false F1 H1 Lw [] F5 H5 (lsW Ls5 vs) (D0 :: (L ++ L5)) where
  keep := fun a o h n => E5.keep a o (E.keep a o h fun z => Bool.noConfusion z) fun z => Bool.noConfusion z
  live := fun a h => E5.live a (E.live a h)
  fm := fun a h => E5.fm a (E.fm a h)
  fn := fun a h => by
    rcases E5.fn a h with z | z | z | z
    · exact (hw z).elim .inl fun z => .inr (.inr (.inr z))
    · cases z
    · exact E.fn a z
    · exact .inr (.inr (.inr (none_back E.live z)))
  sub := fun a h => by
    have one : In Ls5 a ∨ a ∈ L5 → In Lw a ∨ a ∈ [] ∨ H1 a = none := fun h => by
      rcases E5.sub a h with z | z | z
      · exact (hw z).elim .inl fun z => .inr (.inr z)
      · cases z
      · exact .inr (.inr (none_back E.live z))
    rcases h with ⟨i, h⟩ | h
    · exact one (.inl ⟨i, (lsW_mem h).2⟩)
    · rcases List.mem_cons.mp h with h | h
      · exact E.sub a (.inr (by rw [h]; exact List.mem_cons_self))
      · rcases List.mem_append.mp h with h | h
        · exact E.sub a (.inr (List.mem_cons_of_mem _ h))
        · exact one (.inr h)
  shr := fun _ i a h => by
    obtain ⟨h1, h2⟩ := lsW_mem h
    refine E.shr rfl i a ?_
    unfold lsW
    rw [if_neg h1]
    exact E5.shr rfl i a h2
theorem lc_upd {D0 : Addr} {o : HO} {Lw : Nat → List Addr} {F5 : Addr → Prop} {H5 : Hp} (E : Eff false F1 H1 Lw [] F5 H5 Ls' T) (hD : H1 D0 = none) : Eff false F1 H1 Lw [] F5 (upd H5 D0 o) Ls' T where
  keep := fun a u h n => by
    have ne : a ≠ D0 := fun z => by rw [z, hD] at h; cases h
    rw [upd_ne ne]
    exact E.keep a u h n
  live := fun a h => by
    by_cases z : a = D0
    · rw [z, upd_same]; simp
    · rw [upd_ne z]; exact E.live a h
  fm := E.fm
  fn := E.fn
  sub := E.sub
  shr := E.shr
theorem lc_read {tgc : Tg} {it cond eltc : C} {vs : List Nat} {σ : L2.St} {H : Hp} {Q : VK} (s : Sx K Er F H e σ Ls) (q : PostE K Er Wf (mu (.lc eltc vs tgc it cond)) F H Ls [] σ p none (ev P (.lc eltc vs tgc it cond) p e) Q)
    (hmc : mu cond = false) (hme : mu eltc = false) (hx : ∀ i ∈ vs, Er i = none) (htg : ∀ i ∈ tgs tgc, i ∈ vs) : tLc (tI K Er Wf P false it) (gT K tgc) (tT K Er Wf0 P cond) (tE K Er Wf0 P eltc false) vs σ H Q := by
  simp only [ev] at q
  refine ⟨F, e, Ls, s, ?_⟩
  cases hi : evI P false it e with
  | stuck => rw [hi] at q; exact q.elim
  | ex c h o => rw [hi] at q; exact ExP.none q
  | ok ds e1 =>
    rw [hi] at q
    intro J G Y F1 H1 Ls1 E1 S1 W1 D0 hD
    have q1 : PostE K Er Wf (mu it) F1 H1 Ls1 [] σ p none ((loopC (turnC P tgc vs cond eltc) ds [] e1).bind fun xs e6 => .ok (.lst true xs) (wipe e6 vs)) Q := PostE.step (T := []) (U := []) id id E1 q
    cases hl : loopC (turnC P tgc vs cond eltc) ds [] e1 with
    | stuck => rw [hl] at q1; exact q1.elim
    | ex c h o => exact absurd hl loopC_ne
    | ok zs e3 =>
      rw [hl] at q1
      have S1w := S1.wiped hx
      refine lc_it W1.walk (LcI K Er P tgc vs cond eltc σ D0 F1 H1 (lsW Ls1 vs) zs e3 ds) ?_ ?_ ?_ ?_
      · refine ⟨F1, e1, lsW Ls1 vs, [], [], [], S1w.laid hD, (Eff.laid S1w hD), upd_same, .nil, by simp, fun a h => ?_, by rw [List.drop_zero]; exact hl⟩
        obtain rfl : a = D0 := by simpa using h
        exact ⟨S1.newF hD, S1w.newI hD⟩
      · rintro i H2 hn ⟨F2, e2, Ls2, acc, xs, L, S2, E2, _⟩
        exact W1.goes H2 fun a o h _ => E2.keep a o h fun z => Bool.noConfusion z
      · rintro i x H2 H3 hn ⟨F2, e2, Ls2, acc, xs, L, S2, E2, hD2, R2, nd2, ap2, hl2⟩ hy
        obtain ⟨d, hd, ld, rd⟩ := W1.item i H2 x H3 F2 hn (fun a o h _ => E2.keep a o h fun z => Bool.noConfusion z) E2.fm hy
        have hdr : ds.drop i = d :: ds.drop (i + 1) := by
          rw [List.drop_eq_getElem_cons hn]
          rw [List.getElem?_eq_getElem hn] at hd
          cases hd; rfl
        rw [hdr] at hl2
        simp only [loopC] at hl2
        cases hp : put tgc d (wipe e2 vs) with
        | none =>
          simp only [turnC, hp] at hl2
          cases hl2
        | some e4 =>
          have S3 := S2.laid' ld
          refine put_ok S3 rd List.nodup_nil (fun _ h => nomatch h) hp (fun i h => hx i (htg i h)) fun σ' Ls' S' sub fr => ?_
          have hlen : σ'.length = σ.length := by rw [← S'.len, put_len hp, S2.len, L2.wipe_length]
          have hsame : L2.wipe σ' vs = L2.wipe σ vs := wipeS_eq hlen fun j hj => (fr j fun z => hj (htg j z)).1
          refine ⟨hsame, F2, e4, Ls', S', ?_⟩
          have subI : ∀ {a}, In Ls' a → In Ls2 a := fun h => (sub _ h).elim id fun z => nomatch z
          cases ht : evT P cond e4 with
          | stuck => simp only [turnC, hp, ht, R.bind] at hl2; cases hl2
          | ex c h o => simp only [turnC, hp, ht, R.bind] at hl2; cases hl2
          | ok b e5 =>
            intro F4 H4 Ls4 E4 S4
            rw [hmc] at E4
            have E := lc_eff E2 ld subI (fun j hj => (fr j fun z => hj (htg j z)).2) E4
            have ap : ∀ a ∈ D0 :: L, H4 a ≠ none ∧ ¬ F4 a ∧ ¬ In Ls4 a := fun a h => by
              have z2 : H2 a ≠ none := by
                rcases List.mem_cons.mp h with rfl | h
                · rw [hD2]; simp
                · obtain ⟨o, q, _⟩ := R2.cell a h
                  rw [q]; simp
              have z3 : H3 a ≠ none := by
                cases q : H2 a with
                | none => exact absurd q z2
                | some o => rw [ld.same a o q]; simp
              have z4 := E4.apart z3 (ap2 a h).1 fun z => (ap2 a h).2 (subI z)
              exact ⟨E4.live a z3, z4.1, z4.2.1⟩
            have R4 := (R2.laid' ld).all E4.all
            have l2 : ∀ b, H2 b ≠ none → H3 b ≠ none := fun b q => by
              cases z : H2 b with
              | none => exact absurd z q
              | some o => rw [ld.same b o z]; simp
            have hw4 : ∀ {a}, In Ls4 a → In (lsW Ls1 vs) a ∨ H1 a = none := fun {a} h => by
              rcases E4.sub a (.inl h) with z | z | z
              · rcases E2.sub a (.inl (subI z)) with w | w | w
                · exact .inl w
                · cases w
                · exact .inr w
              · cases z
              · exact .inr (none_back E2.live (none_back l2 z))
            have hD4 := E4.keep _ _ (ld.same _ _ hD2) (fun z => Bool.noConfusion z)
            cases b with
            | false =>
              simp only [turnC, hp, ht, R.bind] at hl2
              have S4w := S4.wiped hx
              rw [hsame] at S4w
              exact iteF ⟨F4, e5, lsW Ls4 vs, acc, xs, L, S4w, E, hD4, R4, nd2, fun a h => ⟨(ap a h).2.1, fun ⟨i, z⟩ => (ap a h).2.2 ⟨i, (lsW_mem z).2⟩⟩, hl2⟩
            | true =>
              refine iteT ⟨F4, e5, Ls4, S4, ?_⟩
              cases hy : ev P eltc false e5 with
              | stuck => simp only [turnC, hp, ht, R.bind, hy, if_true] at hl2; cases hl2
              | ex c h o => simp only [turnC, hp, ht, R.bind, hy, if_true] at hl2; cases hl2
              | ok y e6 =>
                intro v F5 H5 Ls5 L5 E5 S5 R5 O5
                rw [hme] at E5
                simp only [turnC, hp, ht, R.bind, hy, if_true] at hl2
                split at hl2
                · rename_i hm
                  have o5 := ov_f O5
                  have ap5 : ∀ a ∈ D0 :: L, H5 a ≠ none ∧ ¬ F5 a ∧ ¬ In Ls5 a ∧ a ∉ L5 := fun a h => ⟨E5.live a (ap a h).1, E5.apart (ap a h).1 (ap a h).2.1 (ap a h).2.2⟩
                  have hD5 := E5.keep _ _ hD4 (fun z => Bool.noConfusion z)
                  have R6 := (R4.all E5.all).append (.cons (M := []) R5 .nil)
                  rw [List.append_nil] at R6
                  have S5w := S5.wiped hx
                  rw [hsame] at S5w
                  have nW : ∀ {a}, ¬ In Ls5 a → ¬ In (lsW Ls5 vs) a := fun n ⟨i, z⟩ => n ⟨i, (lsW_mem z).2⟩
                  have nD : D0 ∉ L ++ L5 := fun z => (List.mem_append.mp z).elim (List.nodup_cons.mp nd2).1 (ap5 D0 List.mem_cons_self).2.2.2
                  refine ⟨acc, hD5, by rw [R2.len]; exact most_lt hm, F5, e6, lsW Ls5 vs, acc ++ [v], xs ++ [y], L ++ L5, S5w.other hD5 rfl (nW (ap5 D0 List.mem_cons_self).2.2.1) (ap5 D0 List.mem_cons_self).2.1, ?_, upd_same, R6.other hD5 rfl nD (ap5 D0 List.mem_cons_self).2.1, ?_, fun a h => ?_, hl2⟩
                  · exact lc_upd (lc_eff2 E E5 hw4) hD
                  · rw [List.nodup_cons]
                    exact ⟨nD, List.nodup_append.mpr ⟨(List.nodup_cons.mp nd2).2, o5.nd, fun a h b hb z => (ap5 a (List.mem_cons_of_mem _ h)).2.2.2 (z ▸ hb)⟩⟩
                  · rcases List.mem_cons.mp h with z | z
                    · subst z
                      exact ⟨(ap5 _ List.mem_cons_self).2.1, nW (ap5 _ List.mem_cons_self).2.2.1⟩
                    · rcases List.mem_append.mp z with z | z
                      · exact ⟨(ap5 a (List.mem_cons_of_mem _ z)).2.1, nW (ap5 a (List.mem_cons_of_mem _ z)).2.2.1⟩
                      · exact ⟨(o5.no a z).1, nW (o5.no a z).2⟩
                · cases hl2
      · rintro H2 ⟨F2, e2, Ls2, acc, xs, L, S2, E2, hD2, R2, nd2, ap2, hl2⟩
        rw [List.drop_length] at hl2
        simp only [loopC] at hl2
        cases hl2
        exact q1 (.ref D0) F2 H2 Ls2 (D0 :: L) (E2.toW.mono fun z => Bool.noConfusion z) (S2.rewipe S1.fx) (.own hD2 R2) (Own.ov ⟨nd2, ap2⟩ rfl)
theorem E_lc {elt tg iter : Expr} {ifs : List Expr} {scope : Scope} {own : List (Str × Nat)} {tgc : Tg} {it cond eltc : C} (hc : X.calm = true) (hN : X.N.Nodup) (hi : PI X tg iter (tI X.K Er Wf P false it)) (ok : BlkOk X.N X.env.scope scope own)
    (hg : ∀ (s : Shared) (H : Hp) (C : Addr) (cl : List (Str × Addr)) (fp : List Addr), PG (X.blk s H scope (compEnvC scope cl C X.env) fp) tg (gT X.K tgc))
    (ht : ∀ (s : Shared) (H : Hp) (C : Addr) (cl : List (Str × Addr)) (fp : List Addr), PTs (X.blk s H scope (compEnvC scope cl C X.env) fp) ifs (tT X.K Er Wf0 P cond))
    (he : ∀ (s : Shared) (H : Hp) (C : Addr) (cl : List (Str × Addr)) (fp : List Addr), PE (X.blk s H scope (compEnvC scope cl C X.env) fp) elt (tE X.K Er Wf0 P eltc false))
    (hs : ∀ x, foldedSetIterable iter X.env x = pure x) (hmc : mu cond = false) (hme : mu eltc = false) (hx : ∀ i ∈ own.map (·.2), Er i = none) (htg : ∀ i ∈ tgs tgc, i ∈ own.map (·.2)) :
    PE X (.ListComp elt [⟨tg, iter, ifs, 0⟩] scope pos) (tE X.K Er Wf P (.lc eltc (own.map (·.2)) tgc it cond) p) :=
  (pe_lc hc hN hi ok hg ht he hs).imp fun σ H Q ⟨F, e, Ls, s, q⟩ => lc_read s q hmc hme hx htg
end
end VI
set_option maxRecDepth 100000
set_option maxHeartbeats 2000000
/-! VI: statements. -/
namespace VI
open PySem PySem.Spec PyProof.Rows L2 RZ

section
variable (K : PySem.W.Frag) (Er : EE) (Wf : Bool → Nat → L2.St → Hp → Prop)
def Kept (m : Bool) (H H' : Hp) : Prop := m = false → ∀ a o, H a = some o → H' a = some o
def NxP (m : Bool) (F : Addr → Prop) (H : Hp) (Ls : Nat → List Addr) (e' : Env) (N : L2.St → Hp → Prop) : Prop := ∀ F' H' Ls' σ', Eff true F H Ls [] F' H' Ls' [] → Kept m H H' → Sx K Er F' H' e' σ' Ls' → N σ' H'
def RtP (F : Addr → Prop) (H : Hp) (Ls : Nat → List Addr) (d : D) (Q : VK) : Prop := ∀ v F' H' Ls' σ' e' L, Eff true F H Ls [] F' H' Ls' L → Sx K Er F' H' e' σ' Ls' → Rep K Er F' H' v d L → Own F' Ls' L → Q v H'
def RbP (F : Addr → Prop) (H : Hp) (Ls : Nat → List Addr) (d : D) (e' : Env) (Q : VK) : Prop := ∀ v F' H' Ls' σ' L, Eff true F H Ls [] F' H' Ls' L → Sx K Er F' H' e' σ' Ls' → Rep K Er F' H' v d L → Own F' Ls' L → Q v H'
def PostS (m : Bool) (F : Addr → Prop) (H : Hp) (Ls : Nat → List Addr) (r : Out) (D : Ends) : Prop := match r with
  | .nx e' => NxP K Er m F H Ls e' D.nx
  | .bk e' => NxP K Er m F H Ls e' D.bk
  | .ct e' => NxP K Er m F H Ls e' D.ct
  | .rt d => RtP K Er F H Ls d D.rt
  | .rb d e' => RbP K Er F H Ls d e' D.rt
  | .ex c h e' => NxP K Er m F H Ls e' (Wf h c)
  | .stuck => False
def tS (P : Par) (c : C) (hot : Bool) : TS := fun D σ H => ∃ F e Ls, Sx K Er F H e σ Ls ∧ PostS K Er Wf (mu c) F H Ls (run P c hot e) D
end
section
variable {K : PySem.W.Frag} {Er : EE} {F F' F1 F2 : Addr → Prop} {H H' H1 H2 H3 : Hp} {v x y : V} {dx dy d : D} {L L' Lx Ly : List Addr} {e e' e1 : Env} {σ σ' : L2.St} {Ls Ls' Ls1 Ls2 : Nat → List Addr} {U T : List Addr}
variable {Wf : Bool → Nat → L2.St → Hp → Prop} {ms m m1 m2 p hot : Bool} {rt : Option Nat} {Q : VK} {P : Par} {D0 D1 : Ends} {N N' : L2.St → Hp → Prop}
variable {X : Cx} {l r : Expr} {pos : Pos} {a b c as : C} {st : Stmt} {sts : List Stmt}
theorem Kept.refl : Kept m H H := fun _ _ _ h => h
theorem Kept.trans (a : Kept m1 H H1) (b : Kept m2 H1 H2) (h1 : m1 = true → m = true) (h2 : m2 = true → m = true) : Kept m H H2 := fun z u o h => b (by cases q : m2; rfl; rw [h2 q] at z; cases z) u o (a (by cases q : m1; rfl; rw [h1 q] at z; cases z) u o h)
theorem Eff.kept (E : Eff m F H Ls U F' H' Ls' T) : Kept m H H' := fun z a o h => E.keep a o h fun w => by rw [z] at w; cases w
theorem Eff.tt (E : Eff true F H Ls [] F1 H1 Ls1 []) (E' : Eff true F1 H1 Ls1 [] F2 H2 Ls2 T) : Eff true F H Ls [] F2 H2 Ls2 T := E.trans E'
theorem NxP.step (E : Eff true F H Ls [] F1 H1 Ls1 []) (k : Kept m1 H H1) (h1 : m1 = true → m = true) (h2 : m2 = true → m = true) (q : NxP K Er m F H Ls e' N) : NxP K Er m2 F1 H1 Ls1 e' N :=
  fun F' H' Ls' σ' E' k' S => q F' H' Ls' σ' (E.tt E') (k.trans k' h1 h2) S
theorem PostS.step {r : Out} (E : Eff true F H Ls [] F1 H1 Ls1 []) (k : Kept m1 H H1) (h1 : m1 = true → m = true) (h2 : m2 = true → m = true) (q : PostS K Er Wf m F H Ls r D0) : PostS K Er Wf m2 F1 H1 Ls1 r D0 := by
  cases r with
  | nx e' => exact NxP.step E k h1 h2 q
  | bk e' => exact NxP.step E k h1 h2 q
  | ct e' => exact NxP.step E k h1 h2 q
  | ex c h e' => exact NxP.step E k h1 h2 q
  | rt d => exact fun v F' H' Ls' σ' e' L E' S R O => q v F' H' Ls' σ' e' L (E.tt E') S R O
  | rb d e' => exact fun v F' H' Ls' σ' L E' S R O => q v F' H' Ls' σ' L (E.tt E') S R O
  | stuck => exact q
theorem NxP.exP {c : Nat} {h : Bool} (q : NxP K Er m F H Ls e' (Wf h c)) (h1 : m1 = true → m = true) : ExP K Er Wf m1 F H Ls [] σ h c e' :=
  fun F' H' Ls' E S => q F' H' Ls' σ (E.mono fun _ => rfl) (fun z => E.kept (by cases w : m1; rfl; rw [h1 w] at z; cases z)) S
/-- an expression, then the rest -/
theorem opndS {f : D → Env → Out} {Qa : VK} (s : Sx K Er F H e σ Ls) (h1 : mu a = true → m = true) (q : PostS K Er Wf m F H Ls (ofR (ev P a p e) f) D0)
    (g : ∀ d e1 v F1 H1 Ls1 L, Eff (mu a) F H Ls [] F1 H1 Ls1 L → Sx K Er F1 H1 e1 σ Ls1 → Rep K Er F1 H1 v d L → OV p (root a) F1 Ls1 L → PostS K Er Wf m F H Ls (f d e1) D0 → Qa v H1) : tE K Er Wf P a p σ H Qa := by
  refine ⟨F, e, Ls, s, ?_⟩
  cases hr : ev P a p e with
  | ok d e1 =>
    rw [hr] at q
    intro v F1 H1 Ls1 L E S r o
    exact g d e1 v F1 H1 Ls1 L E S r o q
  | ex c h e' =>
    rw [hr] at q
    exact NxP.exP q h1
  | stuck => rw [hr] at q; exact q
theorem opndST {f : Bool → Env → Out} {Qa : Bool → Hp → Prop} (s : Sx K Er F H e σ Ls) (h1 : mu c = true → m = true) (q : PostS K Er Wf m F H Ls (ofR (evT P c e) f) D0)
    (g : ∀ b e1 F1 H1 Ls1, Eff (mu c) F H Ls [] F1 H1 Ls1 [] → Sx K Er F1 H1 e1 σ Ls1 → PostS K Er Wf m F H Ls (f b e1) D0 → Qa b H1) : tT K Er Wf P c σ H Qa := by
  refine ⟨F, e, Ls, s, ?_⟩
  cases hr : evT P c e with
  | ok d e1 =>
    rw [hr] at q
    intro F1 H1 Ls1 E S
    exact g d e1 F1 H1 Ls1 E S q
  | ex c h e' =>
    rw [hr] at q
    exact NxP.exP q h1
  | stuck => rw [hr] at q; exact q
theorem _root_.L2.PS.imp {X : Cx} {st : Stmt} {t t' : TS} (h : PS X st t) (i : ∀ D σ H, t' D σ H → t D σ H) : PS X st t' := ⟨fun pins s σ H D I q => h.run pins s σ H D I (i D σ H q)⟩
theorem _root_.L2.PSs.imp {X : Cx} {st : List Stmt} {t t' : TS} (h : PSs X st t) (i : ∀ D σ H, t' D σ H → t D σ H) : PSs X st t' := ⟨fun pins s σ H D I q => h.run pins s σ H D I (i D σ H q)⟩
theorem skip_read (D : Ends) (σ : L2.St) (H : Hp) (h : tS K Er Wf P .skip hot D σ H) : tNext D σ H := by
  obtain ⟨F, e, Ls, s, q⟩ := h
  simp only [run] at q
  exact q F H Ls σ (Eff.refl.mono fun _ => rfl) Kept.refl s
theorem S_nil : PSs X [] (tS K Er Wf P .skip hot) := pss_nil.imp skip_read
theorem S_pass : PS X (.Pass pos) (tS K Er Wf P .skip hot) := ps_pass.imp skip_read
theorem S_doc {x : Str} {j : Nat} {p2 : Pos} : PS X (.Expr (.Constant (.str x) j pos) p2) (tS K Er Wf P .skip hot) := ps_doc.imp skip_read
theorem seq_read (D : Ends) (σ : L2.St) (H : Hp) (h : tS K Er Wf P (.seq a b) hot D σ H) : tS K Er Wf P a hot { D with nx := fun σ H => tS K Er Wf P b hot D σ H } σ H := by
  obtain ⟨F, e, Ls, s, q⟩ := h
  refine ⟨F, e, Ls, s, ?_⟩
  simp only [run] at q
  have ha : mu a = true → mu (.seq a b) = true := fun z => by simp [mu, z]
  cases hr : run P a hot e with
  | nx e1 =>
    rw [hr] at q
    exact fun F' H' Ls' σ' E k S => ⟨F', e1, Ls', S, PostS.step E k ha (fun z => by simp [mu, z]) q⟩
  | bk e1 => rw [hr] at q; exact NxP.step (m1 := false) (Eff.refl.mono fun _ => rfl) Kept.refl (fun z => Bool.noConfusion z) ha q
  | ct e1 => rw [hr] at q; exact NxP.step (m1 := false) (Eff.refl.mono fun _ => rfl) Kept.refl (fun z => Bool.noConfusion z) ha q
  | ex c h e1 => rw [hr] at q; exact NxP.step (m1 := false) (Eff.refl.mono fun _ => rfl) Kept.refl (fun z => Bool.noConfusion z) ha q
  | rt d => rw [hr] at q; exact q
  | rb d e1 => rw [hr] at q; exact q
  | stuck => rw [hr] at q; exact q
theorem S_seq (h1 : PS X st (tS K Er Wf P a hot)) (h2 : PSs X sts (tS K Er Wf P b hot)) : PSs X (st :: sts) (tS K Er Wf P (.seq a b) hot) := (pss_cons h1 h2).imp seq_read
theorem S_one (h1 : PS X st (tS K Er Wf P a hot)) : PSs X [st] (tS K Er Wf P a hot) := pss_one h1
theorem S_expr (hl : plain l = true) (hn : noComp l = true) (ha : PE X l (tE K Er Wf P a false)) : PS X (.Expr l pos) (tS K Er Wf P (.expr a) hot) :=
  (ps_expr ha (swaps_plain hl hn _ _)).imp fun D σ H ⟨F, e, Ls, s, q⟩ => by
    simp only [run] at q
    exact opndS s (m := mu (.expr a)) id q fun d e1 v F1 H1 Ls1 L E S R O q1 => q1 F1 H1 Ls1 σ ((E.less (T1 := []) fun _ z => nomatch z).mono fun _ => rfl) E.kept S
theorem put_read {tg : Tg} {f : D → Env → Out} (E : Eff (mu a) F H Ls [] F1 H1 Ls1 L) (S : Sx K Er F1 H1 e1 σ Ls1) (R : Rep K Er F1 H1 v d L) (O : Own F1 Ls1 L) (hx : ∀ i ∈ tgs tg, Er i = none)
    (q : PostS K Er Wf (mu a) F H Ls (match put tg d e1 with
      | some e2 => .nx e2
      | none => .stuck) D0) : gT K tg v σ H1 D0.nx := by
  cases hp : put tg d e1 with
  | none => rw [hp] at q; exact q.elim
  | some e2 =>
    rw [hp] at q
    exact put_ok S R O.nd O.no hp hx fun σ' Ls' S' sub fr => q F1 H1 Ls' σ' (E.trans (mu2 := true) (Eff.idle fun a h => by simpa using sub a h) |>.mono fun _ => rfl) E.kept S'
def isTup : Expr → Bool
  | .Tuple _ _ _ => true
  | _ => false
def isName : Expr → Bool
  | .Name _ _ => true
  | _ => false
theorem stores_name {t e : Expr} {env : PySem.Env} (h : isName t = true ∨ isTup e = false) : swappedStores [t] e env = pure none := by
  unfold swappedStores
  rcases h with h | h
  · cases t <;> first | rfl | (simp [isName] at h)
  · cases e <;> first | (simp [isTup] at h; done) | (cases t <;> rfl)
def isTgt : Expr → Bool
  | .Name _ _ => true
  | .Tuple _ _ _ => true
  | .Subscript _ _ _ => true
  | _ => false
theorem each_one {t : Expr} {env : PySem.Env} (h : isTgt t = true) : (assignEach [t] env).map (·.2) = [assign t env] := by
  cases t <;> first | rfl | (simp [isTgt] at h)
theorem sole_plain {t l : Expr} {n : Nat} {env : PySem.Env} (hl : plain l = true) (hn : noComp l = true) : swapsWithSole [t] l n env = pure false := swaps_plain hl hn (some t) n
theorem S_set {t : Expr} {tg : Tg} (hl : plain l = true) (hn : noComp l = true) (htg : isTgt t = true) (hst : isName t = true ∨ isTup l = false) (hg : PG X t (gT K tg)) (hx : ∀ i ∈ tgs tg, Er i = none) (ha : PE X l (tE K Er Wf P a false)) : PS X (.Assign [t] l pos) (tS K Er Wf P (.set tg a) hot) :=
  (ps_asg ha hg (sole_plain hl hn) (stores_name hst) (each_one htg)).imp fun D σ H ⟨F, e, Ls, s, q⟩ => by
    simp only [run] at q
    exact opndS s (m := mu (.set tg a)) id q fun d e1 v F1 H1 Ls1 L E S R O q1 => put_read (a := a) (f := fun _ _ => .stuck) E S R (ov_f O) hx q1
theorem S_ret (ha : PE X l (tE K Er Wf P a false)) : PS X (.Return (some l) pos) (tS K Er Wf P (.ret a) hot) :=
  (ps_ret ha).imp fun D σ H ⟨F, e, Ls, s, q⟩ => by
    simp only [run] at q
    exact opndS s (m := mu (.ret a)) id q fun d e1 v F1 H1 Ls1 L E S R O q1 => q1 v F1 H1 Ls1 σ e1 L (E.mono fun _ => rfl) S R (ov_f O)
theorem S_retN : PS X (.Return none pos) (tS K Er Wf P (.ret .non) hot) :=
  ps_retN.imp fun D σ H ⟨F, e, Ls, s, q⟩ => by
    simp only [run, ev, ofR] at q
    exact q .non F H Ls σ e [] (Eff.refl.mono fun _ => rfl) s .non Own.nil
/-- a slot's thing is handed back as it is -/
theorem S_retm {i : Nat} {n : Str} {q1 : Pos} (hN : X.N[i]? = some n) (hv : Vis X.env.scope n) (hd : (n == ("__debug__" : Str)) = false) (hcd : (n == ("__classdict__" : Str)) = false) : PS X (.Return (some (.Name n q1)) pos) (tS K Er Wf P (.retm i) hot) :=
  (ps_ret (pe_var hN hv hd hcd)).imp fun D σ H ⟨F, e, Ls, s, q⟩ => by
    simp only [run] at q
    split at q
    · rename_i d hd
      obtain ⟨v, hσ, r⟩ := s.rep i d hd
      refine ⟨v, hσ, q v F H (up Ls i []) σ (e.set i none) (Ls i) ?_ s.drop r ⟨s.nd i, fun a h => ⟨s.nf i a h, fun z => ?_⟩⟩⟩
      · exact ⟨fun _ _ h _ => h, fun _ h => h, fun _ h => h, fun _ h => .inr (.inr (.inl h)), fun a z => by
          rcases z with z | z
          · rcases z.up with z | ⟨j, _, z⟩
            · cases z
            · exact .inl ⟨j, z⟩
          · exact .inl ⟨i, z⟩, fun z => Bool.noConfusion z⟩
      · rcases z.up with z | ⟨j, hj, z⟩
        · cases z
        · exact hj (s.dj j i a z h)
    · exact q.elim
theorem S_brk : PS X (.Break pos) (tS K Er Wf P .brk hot) := ps_break.imp fun D σ H ⟨F, e, Ls, s, q⟩ => q F H Ls σ (Eff.refl.mono fun _ => rfl) Kept.refl s
theorem S_cont : PS X (.Continue pos) (tS K Er Wf P .cont hot) := ps_continue.imp fun D σ H ⟨F, e, Ls, s, q⟩ => q F H Ls σ (Eff.refl.mono fun _ => rfl) Kept.refl s
theorem S_ife {t : Expr} {s1 s2 : List Stmt} (hc : PT X t (tT K Er Wf P c)) (ha : PSs X s1 (tS K Er Wf P a hot)) (hb : PSs X s2 (tS K Er Wf P b hot)) : PS X (.If t s1 s2 pos) (tS K Er Wf P (.ife c a b) hot) :=
  (ps_if hc ha hb).imp fun D σ H ⟨F, e, Ls, s, q⟩ => by
    simp only [run] at q
    refine opndST s (m := mu (.ife c a b)) (fun z => by simp [mu, z]) q fun t e1 F1 H1 Ls1 E S q1 => ?_
    have E' := E.mono (mu' := true) fun _ => rfl
    cases t with
    | true => exact iteT ⟨F1, e1, Ls1, S, PostS.step (r := run P a hot e1) E' E.kept (fun z => by simp [mu, z]) (fun z => by simp [mu, z]) q1⟩
    | false => exact iteF ⟨F1, e1, Ls1, S, PostS.step (r := run P b hot e1) E' E.kept (fun z => by simp [mu, z]) (fun z => by simp [mu, z]) q1⟩
theorem S_aug {o : Bop} {i : Nat} {n : Str} {p2 : Pos} (ho : o = .add ∨ o = .sub) (hNd : X.N.Nodup) (hN : X.N[i]? = some n) (hL : Loc X.env.scope n) (hf : X.fn n = true ∨ X.env.scope.names.lookup n = some .local) (hx : Er i = none) (hm : mu a = false) (ha : PE X r (tE K Er Wf P a true)) : PS X (.AugAssign (.Name n p2) (opB o) r pos) (tS K Er Wf P (.aug o i a) hot) := by
  have rd : ∀ (f : Int → Int → Int) (D : Ends) (σ : L2.St) (H : Hp), (∀ x y, (match o with | .add => x + y | .sub => x - y | _ => 0) = f x y) → tS K Er Wf P (.aug o i a) hot D σ H → tAug i (tE K Er Wf P a true) (ipI f) D σ H := fun f D σ H hfe ⟨F, e, Ls, s, q⟩ => by
    simp only [run] at q
    split at q
    · rename_i x he
      obtain ⟨v, hσ, rv⟩ := s.rep i _ he
      obtain ⟨rfl, _⟩ := rv.int'
      refine ⟨_, hσ, ?_⟩
      refine opndS s (m := mu (.aug o i a)) id q fun d e1 v F1 H1 Ls1 L E S R O q1 => ?_
      cases d <;> (first | exact q1.elim | skip)
      rename_i y
      obtain ⟨rfl, rfl⟩ := R.int'
      refine ⟨x, y, rfl, rfl, ?_⟩
      have hi : i < e1.length := by rw [S.len, ← s.len]; exact (List.getElem?_eq_some_iff.mp he).1
      have S2 : Sx K Er F1 H1 (e1.set i (some (.int (f x y)))) (σ.set i (some (.int (f x y)))) (up Ls1 i []) := S.put hx hi (.int _) List.nodup_nil fun _ h => nomatch h
      have fin : NxP K Er (mu (.aug o i a)) F H Ls (e1.set i (some (.int (f x y)))) D.nx → D.nx (σ.set i (some (.int (f x y)))) H1 := fun q => q F1 H1 _ _ ((E.trans (mu2 := true) (Eff.idle fun b h => by
        rcases h.up with z | ⟨j, _, z⟩
        · cases z
        · exact .inl ⟨j, z⟩)).mono fun _ => rfl) E.kept S2
      rcases ho with rfl | rfl
      · refine fin ?_
        rw [← hfe]
        exact q1
      · refine fin ?_
        rw [← hfe]
        exact q1
    · exact q.elim
  rcases ho with rfl | rfl
  · exact (ps_aug hNd hN hL ha ip_add hf).imp fun D σ H h => rd _ D σ H (fun _ _ => rfl) h
  · exact (ps_aug hNd hN hL ha ip_sub hf).imp fun D σ H h => rd _ D σ H (fun _ _ => rfl) h
theorem S_seti {i : Nat} {n : Str} {p1 p2 : Pos} {ix : C} {k : Expr} (hN : X.N[i]? = some n) (hv : Vis X.env.scope n) (hd : (n == ("__debug__" : Str)) = false) (hcd : (n == ("__classdict__" : Str)) = false) (hl : plain l = true) (hn : noComp l = true) (hmx : mu ix = false) (hk : plain k = true)
    (ha : PE X l (tE X.K Er Wf P a false)) (hb : PE X k (tE X.K Er Wf P ix true)) : PS X (.Assign [.Subscript (.Name n p1) k p2] l pos) (tS X.K Er Wf P (.seti i ix a) hot) :=
  (ps_asg ha (pg_sub (pos := p2) (pe_var hN hv hd hcd (pos := p1)) hb set_list (by intro v; cases k <;> first | rfl | (simp [plain] at hk))) (sole_plain hl hn) (by unfold swappedStores; cases l <;> rfl) (each_one rfl)).imp fun D σ H ⟨F, e, Ls, s, q⟩ => by
    simp only [run] at q
    have tt : ∀ {A : Prop}, mu (.seti i ix a) = false → A := fun z => by simp [mu] at z
    refine opndS s (m := mu (.seti i ix a)) (fun _ => rfl) q fun d e1 v F1 H1 Ls1 L E S R O q1 => ?_
    split at q1
    · rename_i d0 he1
      obtain ⟨w, hσ, _⟩ := S.rep i _ he1
      refine ⟨w, hσ, F1, e1, Ls1, S, ?_⟩
      cases hr : ev P ix true e1 with
      | stuck => rw [hr] at q1; exact q1.elim
      | ex c h e2 =>
        rw [hr] at q1
        exact fun F' H' Ls' E' S' => q1 F' H' Ls' σ (((E.trans (E'.more (fun _ z => nomatch z))).less (T1 := []) fun _ z => nomatch z).mono fun _ => rfl) (fun z => tt z) S'
      | ok k0 e2 =>
        rw [hr] at q1
        intro kv F2 H2 Ls2 L2 E2 S2 R2 O2
        dsimp only [ofR] at q1
        split at q1
        · rename_i xs kk he2
          obtain ⟨rfl, rfl⟩ := R2.int'
          split at q1
          · rename_i j hj
            obtain ⟨b, ws, M, hσ2, hb, rb, hL, bM, nd⟩ := S2.owned he2
            rw [hσ] at hσ2; cases hσ2
            have hbi : b ∈ Ls2 i := by rw [hL]; exact List.mem_cons_self
            have inM : ∀ z ∈ M, z ∈ Ls2 i := fun z hz => by rw [hL]; exact List.mem_cons_of_mem _ hz
            have o1 := ov_f O
            have E2' := toF hmx E2
            have lv1 : ∀ z ∈ L, H1 z ≠ none := live_of S R
            have ap : ∀ z ∈ L, ¬ F2 z ∧ ¬ In Ls2 z := fun z hz => let ⟨h1, h2, _⟩ := E2'.apart (lv1 z hz) (o1.no z hz).1 (o1.no z hz).2; ⟨h1, h2⟩
            have Rv := R.side S E2 (ne_mu hmx)
            have jl := (ixN_seq hj).2.1
            obtain ⟨L', r2, Z, pm⟩ := rb.set (i := j) Rv jl
            have subL : ∀ z ∈ L', z ∈ L ∨ z ∈ M := fun z hz => List.mem_append.mp (pm.subset (List.mem_append_left _ hz))
            have ndL : L'.Nodup := by
              have n2 : (L ++ M).Nodup := List.nodup_append.mpr ⟨o1.nd, nd, fun x hx y hy z => (ap x hx).2 ⟨i, inM x (z ▸ hy)⟩⟩
              exact (List.nodup_append.mp (pm.nodup_iff.mpr n2)).1
            refine ⟨b, ws, kk, j, rfl, rfl, hb, by rw [rb.len]; exact hj, ?_⟩
            have S3 := S2.write he2 hσ hb hL r2 ndL fun z hz => by
              rcases subL z hz with w | w
              · exact ⟨fun y => (ap z w).2 ⟨i, y ▸ hbi⟩, (ap z w).1, fun j' _ y => (ap z w).2 ⟨j', y⟩⟩
              · exact ⟨fun y => bM (y ▸ w), S2.nf i z (inM z w), fun j' hj' y => hj' (S2.dj j' i z y (inM z w))⟩
            have E3 : Eff true F2 H2 Ls2 ([] ++ L) F2 (upd H2 b (.lst (ws.set j v))) (up Ls2 i (b :: L')) [] := (Eff.write hbi fun z hz => by
              rcases subL z hz with w | w
              · exact .inr (by simpa using w)
              · exact .inl ⟨i, inM z w⟩).less fun _ z => nomatch z
            have E2'' : Eff (mu ix) F1 H1 Ls1 ([] ++ L) F2 H2 Ls2 [] := (E2.more fun _ z => nomatch z)
            have E23 : Eff true F1 H1 Ls1 ([] ++ L) F2 (upd H2 b (.lst (ws.set j v))) (up Ls2 i (b :: L')) [] := by
              have z := E2''.trans (T1 := []) (U := [] ++ L) (T2 := []) (by rw [List.append_nil]; exact E3)
              exact z.mono fun _ => rfl
            exact q1 F2 _ _ σ ((E.trans E23).mono fun _ => rfl) (fun z => tt z) S3
          · exact q1.elim
        · exact q1.elim
    · exact q1.elim

/-! ### loops -/
theorem loop_read {tg : Tg} {body : C} {J : It} {ds : List D} {G : Hp → Prop} {Y : Nat → Hp → V → Hp → Prop} {e1 : Env} {Ls0 : Nat → List Addr} {F0 : Addr → Prop} {H0 : Hp} (S1 : Sx K Er F1 H1 e1 σ Ls1) (W1 : WalkD K Er (mu body) J ds F1 H1 G Y) (hx : ∀ i ∈ tgs tg, Er i = none) (D : Ends)
    (q : PostS K Er Wf (mu body) F1 H1 Ls1 (loopI (fun d e2 => match put tg d e2 with
      | some e3 => run P body hot e3
      | none => .stuck) ds e1) D) :
    ∃ W : Nat → Nat → L2.St → Hp → Prop, (∃ m, W 0 m σ H1) ∧ ∀ i m σ H, W i m σ H →
      (J.stop i H ∧ D.nx σ H) ∨ (J.go i H ∧ ∃ N : L2.St → Hp → Prop, (∀ σ' H', N σ' H' → ∃ m', m' < m ∧ W (i + 1) m' σ' H') ∧ ∀ x H', J.yld i H x H' → gT K tg x σ H' fun σ2 H2 => tS K Er Wf P body hot { D with nx := N, ct := N, bk := D.nx } σ2 H2) := by
  generalize hb : (fun d e2 => match put tg d e2 with
      | some e3 => run P body hot e3
      | none => Out.stuck) = f at q
  have later : ∀ {F2 : Addr → Prop} {H2 : Hp} {Ls2 : Nat → List Addr}, Eff true F1 H1 Ls1 [] F2 H2 Ls2 [] → Kept (mu body) H1 H2 → Later (mu body) F1 H1 H2 := fun {F2 H2 Ls2} E k a o h z => by
    cases hm : mu body with
    | false => exact k hm a o h
    | true =>
      refine E.keep a o h fun _ => ⟨fun w => ?_, fun w => nomatch w⟩
      rcases z hm with z | z
      · exact S1.inF w z
      · obtain ⟨o', q1, q2⟩ := S1.cell w
        rw [h] at q1; cases q1
        rw [q2] at z; cases z
  refine for_it W1.walk (fun i σ2 H2 => ∃ F2 e2 Ls2, Eff true F1 H1 Ls1 [] F2 H2 Ls2 [] ∧ Kept (mu body) H1 H2 ∧ Sx K Er F2 H2 e2 σ2 Ls2 ∧ PostS K Er Wf (mu body) F1 H1 Ls1 (loopI f (ds.drop i) e2) D) ?_ ?_ ?_ ?_
  · exact ⟨F1, e1, Ls1, Eff.refl.mono fun _ => rfl, Kept.refl, S1, by rw [List.drop_zero]; exact q⟩
  · rintro i σ2 H2 _ ⟨F2, e2, Ls2, E, k, S, _⟩
    exact W1.goes H2 (later E k)
  · rintro i x σ2 H2 H3 hn ⟨F2, e2, Ls2, E, k, S, q2⟩ hy
    obtain ⟨d, hd, ld, rd⟩ := W1.item i H2 x H3 F2 hn (later E k) E.fm hy
    have hdr : ds.drop i = d :: ds.drop (i + 1) := by
      rw [List.drop_eq_getElem_cons hn]
      rw [List.getElem?_eq_getElem hn] at hd
      cases hd; rfl
    rw [hdr] at q2
    simp only [loopI] at q2
    have S3 := S.laid' ld
    have E3 : Eff true F1 H1 Ls1 [] F2 H3 Ls2 [] := E.tt ((Eff.same' ld).mono fun _ => rfl)
    have k3 : Kept (mu body) H1 H3 := fun z a o h => ld.same a o (k z a o h)
    subst hb
    cases hp : put tg d e2 with
    | none => simp only [hp] at q2; exact q2.elim
    | some e3 =>
      simp only [hp] at q2
      refine put_ok S3 rd List.nodup_nil (fun _ h => nomatch h) hp hx fun σ' Ls' S' sub fr => ⟨F2, e3, Ls', S', ?_⟩
      have E4 : Eff true F1 H1 Ls1 [] F2 H3 Ls' [] := E3.tt (Eff.idle fun a h => .inl ((sub a h).elim id fun z => nomatch z))
      have nxt : ∀ {e4 : Env}, PostS K Er Wf (mu body) F1 H1 Ls1 (loopI (fun d e2 => match put tg d e2 with
          | some e3 => run P body hot e3
          | none => Out.stuck) (ds.drop (i + 1)) e4) D → NxP K Er (mu body) F2 H3 Ls' e4 fun σ2 H2 => ∃ F2 e2 Ls2, Eff true F1 H1 Ls1 [] F2 H2 Ls2 [] ∧ Kept (mu body) H1 H2 ∧ Sx K Er F2 H2 e2 σ2 Ls2 ∧ PostS K Er Wf (mu body) F1 H1 Ls1 (loopI (fun d e2 => match put tg d e2 with
          | some e3 => run P body hot e3
          | none => Out.stuck) (ds.drop (i + 1)) e2) D :=
        fun q F' H' Ls' σ' E' k' S' => ⟨F', _, Ls', E4.tt E', k3.trans k' id id, S', q⟩
      cases hr : run P body hot e3 with
      | nx e4 => rw [hr] at q2; exact nxt q2
      | ct e4 => rw [hr] at q2; exact nxt q2
      | bk e4 => rw [hr] at q2; exact NxP.step E4 k3 id id q2
      | ex c h e4 => rw [hr] at q2; exact NxP.step E4 k3 id id q2
      | rt d => rw [hr] at q2; exact fun v F' H' Ls' σ' e' L E' S R O => q2 v F' H' Ls' σ' e' L (E4.tt E') S R O
      | rb d e' => rw [hr] at q2; exact fun v F' H' Ls' σ' L E' S R O => q2 v F' H' Ls' σ' L (E4.tt E') S R O
      | stuck => rw [hr] at q2; exact q2.elim
  · rintro σ2 H2 ⟨F2, e2, Ls2, E, k, S, q2⟩
    rw [List.drop_length] at q2
    exact q2 F2 H2 Ls2 σ2 E k S
theorem S_for {t : Expr} {tg : Tg} {it : C} (hp : PassesOwn (model X.prog X.w) X.A X.env X.xe) (hc : X.calm = true) (hi : PI X t l (tI K Er Wf P (mu b) it)) (hg : PG X t (gT K tg)) (hb : PSs X sts (tS K Er Wf P b hot)) (hx : ∀ i ∈ tgs tg, Er i = none)
    (hs : ∀ x, foldedSetIterable l X.env x = pure x) : PS X (.For t l sts [] pos) (tS K Er Wf P (.for_ tg it b) hot) :=
  (ps_for hp hc hi hg hb hs).imp fun D σ H ⟨F, e, Ls, s, q⟩ => by
    simp only [run] at q
    refine ⟨F, e, Ls, s, ?_⟩
    cases hr : evI P (mu b) it e with
    | stuck => rw [hr] at q; exact q.elim
    | ex c h e1 => rw [hr] at q; exact NxP.exP q (fun z => by simp [mu, z])
    | ok ds e1 =>
      rw [hr] at q
      intro J G Y F1 H1 Ls1 E1 S1 W1
      exact loop_read (Ls0 := Ls) (F0 := F) (H0 := H) S1 W1 hx D (PostS.step (E1.mono fun _ => rfl) E1.kept (fun z => by simp [mu, z]) (fun z => by simp [mu, z]) q)
theorem S_while {t : Expr} (hp : PassesOwn (model X.prog X.w) X.A X.env X.xe) (hc : PT X t (tT K Er Wf P c)) (hb : PSs X sts (tS K Er Wf P b hot)) : PS X (.While t sts [] pos) (tS K Er Wf P (.while_ c b) hot) :=
  (ps_while hp hc hb).imp fun D σ H ⟨F, e, Ls, s, q⟩ => by
    simp only [run] at q
    refine ⟨fun n σ2 H2 => ∃ F2 e2 Ls2, Eff true F H Ls [] F2 H2 Ls2 [] ∧ Kept (mu (.while_ c b)) H H2 ∧ Sx K Er F2 H2 e2 σ2 Ls2 ∧ PostS K Er Wf (mu (.while_ c b)) F H Ls (loopW (evT P c) (run P b hot) n e2) D, ⟨P.fuel, F, e, Ls, Eff.refl.mono fun _ => rfl, Kept.refl, s, q⟩, ?_⟩
    rintro n σ2 H2 ⟨F2, e2, Ls2, E, k, S, q2⟩
    have hm1 : mu c = true → mu (.while_ c b) = true := fun z => by simp [mu, z]
    have hm2 : mu b = true → mu (.while_ c b) = true := fun z => by simp [mu, z]
    cases n with
    | zero => simp only [loopW] at q2; exact q2.elim
    | succ n =>
      simp only [loopW] at q2
      refine ⟨F2, e2, Ls2, S, ?_⟩
      cases hr : evT P c e2 with
      | stuck => rw [hr] at q2; exact q2.elim
      | ex c' h e3 =>
        rw [hr] at q2
        exact fun F' H' Ls' E' S' => q2 F' H' Ls' σ2 (E.tt (E'.mono fun _ => rfl)) (k.trans E'.kept id hm1) S'
      | ok t e3 =>
        intro F3 H3 Ls3 E3 S3
        rw [hr] at q2
        have E3' := E.tt (E3.mono (mu' := true) fun _ => rfl)
        have k3 : Kept (mu (.while_ c b)) H H3 := k.trans E3.kept id hm1
        cases t with
        | false => exact iteF (q2 F3 H3 Ls3 σ2 E3' k3 S3)
        | true =>
          refine iteT ⟨fun σ' H' => ∃ F2 e2 Ls2, Eff true F H Ls [] F2 H' Ls2 [] ∧ Kept (mu (.while_ c b)) H H' ∧ Sx K Er F2 H' e2 σ' Ls2 ∧ PostS K Er Wf (mu (.while_ c b)) F H Ls (loopW (evT P c) (run P b hot) n e2) D, fun σ' H' h => ⟨n, Nat.lt_succ_self n, h⟩, F3, e3, Ls3, S3, ?_⟩
          dsimp only at q2
          cases hb : run P b hot e3 with
          | nx e4 => rw [hb] at q2; exact fun F' H' Ls' σ' E' k' S' => ⟨F', e4, Ls', E3'.tt E', k3.trans k' id hm2, S', q2⟩
          | ct e4 => rw [hb] at q2; exact fun F' H' Ls' σ' E' k' S' => ⟨F', e4, Ls', E3'.tt E', k3.trans k' id hm2, S', q2⟩
          | bk e4 => rw [hb] at q2; exact NxP.step E3' k3 id hm2 q2
          | ex c' h e4 => rw [hb] at q2; exact NxP.step E3' k3 id hm2 q2
          | rt d => rw [hb] at q2; exact fun v F' H' Ls' σ' e' L E' S R O => q2 v F' H' Ls' σ' e' L (E3'.tt E') S R O
          | rb d e' => rw [hb] at q2; exact fun v F' H' Ls' σ' L E' S R O => q2 v F' H' Ls' σ' L (E3'.tt E') S R O
          | stuck => rw [hb] at q2; exact q2.elim
/-- y = [..] -/
theorem S_setLc {i : Nat} {y : Str} {py p3 : Pos} {elt tg iter : Expr} {ifs : List Expr} {scope : Scope} {own : List (Str × Nat)} {tgc : Tg} {it cond eltc : C} (hc : X.calm = true) (hN : X.N.Nodup) (hy : X.N[i]? = some y) (hyl : X.env.scope.names.lookup y = some .local)
    (hsw : swapsWith (.ListComp elt [⟨tg, iter, ifs, 0⟩] scope p3) (some (.Name y py)) pos.line X.env = pure true) (hi : PI X tg iter (tI X.K Er Wf P false it)) (ok : BlkOk X.N X.env.scope scope own)
    (hg : ∀ (s : Shared) (H : Hp) (C : Addr) (cl : List (Str × Addr)) (fp : List Addr), PG (X.blk s H scope (compEnvC scope cl C X.env) fp) tg (gT X.K tgc))
    (ht : ∀ (s : Shared) (H : Hp) (C : Addr) (cl : List (Str × Addr)) (fp : List Addr), PTs (X.blk s H scope (compEnvC scope cl C X.env) fp) ifs (tT X.K Er Wf0 P cond))
    (he : ∀ (s : Shared) (H : Hp) (C : Addr) (cl : List (Str × Addr)) (fp : List Addr), PE (X.blk s H scope (compEnvC scope cl C X.env) fp) elt (tE X.K Er Wf0 P eltc false))
    (hs : ∀ x, foldedSetIterable iter X.env x = pure x) (hmc : mu cond = false) (hme : mu eltc = false) (hx : ∀ i ∈ own.map (·.2), Er i = none) (htg : ∀ i ∈ tgs tgc, i ∈ own.map (·.2)) (hxi : Er i = none) :
    PS X (.Assign [.Name y py] (.ListComp elt [⟨tg, iter, ifs, 0⟩] scope p3) pos) (tS X.K Er Wf P (.set (.one i) (.lc eltc (own.map (·.2)) tgc it cond)) hot) :=
  (ps_setLc hc hN hy hyl hsw hi ok hg ht he hs).imp fun D σ H ⟨F, e, Ls, s, q⟩ => by
    simp only [run] at q
    have h : tE X.K Er Wf P (.lc eltc (own.map (·.2)) tgc it cond) false σ H (fun v H' => gT X.K (.one i) v σ H' D.nx) :=
      opndS s (m := mu (.set (.one i) (.lc eltc (own.map (·.2)) tgc it cond))) id q fun d e1 v F1 H1 Ls1 L E S R O q1 => put_read (f := fun _ _ => .stuck) E S R (ov_f O) (fun j hj => by
        obtain rfl : j = i := by simpa [tgs] using hj
        exact hxi) q1
    obtain ⟨F', e', Ls', s', q'⟩ := h
    exact lc_read s' q' hmc hme hx htg
end
end VI
set_option maxRecDepth 100000
set_option maxHeartbeats 2000000
/-! VI: raising and catching. -/
namespace VI
open PySem PySem.Spec PyProof.Rows L2 RZ

theorem skyZ {B : Heap} {l : List PySem.Env} {a L : Addr} {Z Z' : Obj → Prop} {h : Heap} (z : ∀ o, Z o → Z' o) (x : L2.Sky B l a Z L h) : L2.Sky B l a Z' L h := by
  rcases x with ⟨h1, h2, h3, oe, vs, h4, h5, h6⟩ | x | x
  · exact .inl ⟨h1, h2, h3, oe, vs, h4, z oe h5, h6⟩
  · exact .inr (.inl (L2H.flyingZ_imp z x))
  · exact .inr (.inr ⟨x.1, x.2.1, x.2.2.1, L2H.tracedZ_imp z x.2.2.2⟩)
theorem takes_down {X : Cx} {W : WX} (t : L2.Takes X W) : L2N.Takes X W := fun u s' ⟨a, B, sI, pins, σ, H, cls, d, e, I, nb, up, sky, na, os, ag, w⟩ =>
  t u s' ⟨a, B, sI, pins, σ, H, cls, d, e, I, nb, up, skyZ (fun o h => h.zc) sky, na, os, ag, w⟩
/-- what a class of exceptions says of itself -/
structure ExcF (K : PySem.W.Frag) (mg : Str → Option Value) (C : Addr) (nm : Str) : Prop where
  gC : mg nm = some (.ref C)
  ex : PySem.W.excIn K C [.type "ValueError", .type "Exception", .type "BaseException", .type "object"] "ValueError.__new__" = true
  kp : PySem.W.keepIn K (.ref C) = true
  sb : PySem.W.subIn K (.ref C) (.type "BaseException") = some true
  ty : PySem.W.typeIn K (.ref C) = some (.type "type")
def fixE (Er : EE) (i : Nat) (v : V) : EE := ⟨fun j => if j = i then some v else Er j, Er.h⟩
theorem fixE_s {Er : EE} {i j : Nat} {v : V} : (fixE Er i v).s j = if j = i then some v else Er j := rfl
section
variable {K : PySem.W.Frag} {Er : EE} {F F' F1 F2 : Addr → Prop} {H H' H1 H2 H3 : Hp} {v x y : V} {dx dy d : D} {L L' Lx Ly : List Addr} {e e' e1 : Env} {σ σ' : L2.St} {Ls Ls' Ls1 Ls2 : Nat → List Addr} {U T : List Addr}
variable {Wf : Bool → Nat → L2.St → Hp → Prop} {ms m m1 m2 p hot : Bool} {rt : Option Nat} {Q : VK} {P : Par} {D0 D1 : Ends} {N N' : L2.St → Hp → Prop}
variable {X : Cx} {l r : Expr} {pos : Pos} {a b c as : C} {st : Stmt} {sts : List Stmt} {ca : Nat → Addr} {n n2 : Nat}
theorem raise_rd {c : Nat} {h : Bool} {D : Ends} (hc : c < n) (q : tS K Er Wf P (.raise c) h D σ H) : WW ca n Wf h (.ref (ca c)) none σ H := by
  obtain ⟨F, e, Ls, s, q⟩ := q
  exact ⟨c, hc, rfl, rfl, q F H Ls σ (Eff.refl.mono fun _ => rfl) Kept.refl s⟩
theorem S_raise {c j : Nat} {nm msg : Str} {p1 p2 p3 : Pos} (hc : X.calm = true) (tk : L2N.Takes X (WW ca n Wf false)) (E : ExcF X.K X.mg (ca c) nm) (hn : c < n) (hg : Gl X nm) (hd : (nm == ("__debug__" : Str)) = false) :
    PS X (.Raise (some (.Call (.Name nm p1) [.Constant (.str msg) j p2] [] p3)) none pos) (tS X.K Er Wf P (.raise c) false) :=
  (L2N.ps_raise hc tk (L2N.pmk_own PySem.F.excBase_ValueError E.ex E.gC E.kp (raises_own E.sb E.ty) hg hd)).imp fun D σ H h => raise_rd hn h
theorem S_raiseH {c j : Nat} {nm msg : Str} {p1 p2 p3 : Pos} (hc : L2H.HotC X) (tk : L2.Takes X (WW ca n Wf true)) (E : ExcF X.K X.mg (ca c) nm) (hn : c < n) (hg : Gl X nm) (hd : (nm == ("__debug__" : Str)) = false) :
    PS X (.Raise (some (.Call (.Name nm p1) [.Constant (.str msg) j p2] [] p3)) none pos) (tS X.K Er Wf P (.raise c) true) :=
  (L2H.ps_raiseH hc tk (L2N.pmk_own PySem.F.excBase_ValueError E.ex E.gC E.kp (raises_own E.sb E.ty) hg hd)).imp fun D σ H h => raise_rd hn h

theorem Rep.fxd {i : Nat} {w : V} (r : Rep K Er F H v d L) : Rep K (fixE Er i w) F H v d L := Rep.er (Er := Er) (Er' := fixE Er i w) (fun _ _ z => z) r
theorem Rep.unf {i : Nat} {w : V} (r : Rep K (fixE Er i w) F H v d L) : Rep K Er F H v d L := Rep.er (Er := fixE Er i w) (Er' := Er) (fun _ _ z => z) r
theorem Sx.fix (s : Sx K Er F H e σ Ls) {i : Nat} {v : V} (h : σ[i]? = some (some v)) : Sx K (fixE Er i v) F H e σ Ls :=
  ⟨s.len, fun i d q => let ⟨v, a, r⟩ := s.rep i d q; ⟨v, a, r.fxd⟩, s.emp, s.nd, s.dj, s.nf, s.fa, fun j w q => by
    rw [fixE_s] at q
    split at q
    · rename_i z; cases q; rw [z]; exact h
    · exact s.fx j w q⟩
theorem Sx.unfix {i : Nat} {v : V} (s : Sx K (fixE Er i v) F H e σ Ls) (hi : Er i = none) : Sx K Er F H e σ Ls :=
  ⟨s.len, fun i d q => let ⟨v, a, r⟩ := s.rep i d q; ⟨v, a, r.unf⟩, s.emp, s.nd, s.dj, s.nf, s.fa, fun j w q => s.fx j w (by
    rw [fixE_s]
    split
    · rename_i z; rw [z, hi] at q; cases q
    · exact q)⟩
theorem Eff.unset {i : Nat} : Eff true F H Ls [] F H (up Ls i []) [] := Eff.idle fun a h => by
  rcases h.up with z | ⟨j, _, z⟩
  · cases z
  · exact .inl ⟨j, z⟩
/-- the exception is in its slot: the suite's state -/
theorem enter (s : Sx K Er F H e σ Ls) {i : Nat} {a : Addr} (hi : Er i = none) (hl : i < e.length) : Sx K (fixE Er i (.ref a)) F H (e.set i none) (σ.set i (some (.ref a))) (up Ls i []) :=
  (s.unset hi _).fix (List.getElem?_set_self (by rw [← s.len]; exact hl))
/-- what leaves a suite -/
theorem NxP.out {i : Nat} {v : V} (q : NxP K Er m F H Ls (e'.set i none) N) (hi : Er i = none) (s1 : Eff true F H Ls [] F1 H1 Ls1 []) (k1 : Kept m H H1) (h2 : m2 = true → m = true) : NxP K (fixE Er i v) m2 F1 H1 Ls1 e' fun σ' H' => N (σ'.set i none) H' :=
  fun F' H' Ls' σ' E k S => q F' H' (up Ls' i []) (σ'.set i none) ((s1.tt E).tt Eff.unset) (k1.trans k id h2) ((S.unfix hi).unset hi _)
/-- what the suite's results are to the statement -/
theorem suite_read {i : Nat} {a' : Addr} {P' : Par} {cs : C} {m : Bool} {e1 : Env} (hi : Er i = none) (hl : i < e1.length) (E : Eff true F H Ls [] F1 H1 Ls1 []) (k : Kept m H H1) (S : Sx K Er F1 H1 e1 σ Ls1) (hms : mu cs = true → m = true)(D : Ends)
    (q : PostS K Er Wf m F H Ls (match run P' cs true (e1.set i none) with
      | .nx e2 => .nx (e2.set i none)
      | .bk e2 => .bk (e2.set i none)
      | .ct e2 => .ct (e2.set i none)
      | .ex c h e2 => .stuck
      | o => o) D) : tS K (fixE Er i (.ref a')) Wf0 P' cs true { nx := fun σ' H' => D.nx (σ'.set i none) H', rt := D.rt, bk := fun σ' H' => D.bk (σ'.set i none) H', ct := fun σ' H' => D.ct (σ'.set i none) H' } (σ.set i (some (.ref a'))) H1 := by
  refine ⟨F1, e1.set i none, up Ls1 i [], enter S hi hl, ?_⟩
  have E' : Eff true F H Ls [] F1 H1 (up Ls1 i []) [] := E.tt Eff.unset
  cases hr : run P' cs true (e1.set i none) with
  | nx e2 => rw [hr] at q; exact NxP.out q hi E' k hms
  | bk e2 => rw [hr] at q; exact NxP.out q hi E' k hms
  | ct e2 => rw [hr] at q; exact NxP.out q hi E' k hms
  | ex c h e2 => rw [hr] at q; exact q.elim
  | rt d =>
    rw [hr] at q
    exact fun v F' H' Ls' σ' e' L E2 S2 R O => q v F' H' Ls' σ' e' L (E'.tt E2) (S2.unfix hi) R.unf O
  | rb d e' =>
    rw [hr] at q
    exact fun v F' H' Ls' σ' L E2 S2 R O => q v F' H' Ls' σ' L (E'.tt E2) (S2.unfix hi) R.unf O
  | stuck => rw [hr] at q; exact q.elim
theorem Kept.mono (k : Kept m1 H H') (h : m1 = true → m = true) : Kept m H H' := k.trans (m2 := false) Kept.refl h fun z => Bool.noConfusion z
theorem try_body {Rr : Nat → Bool → Env → Out} {M : Bool} {Wf' : Bool → Nat → L2.St → Hp → Prop} {cb : C} {D : Ends} (q : PostS K Er Wf M F H Ls (match run P cb false e with
      | .ex c h e1 => Rr c h e1
      | o => o) D) (hm : mu cb = true → M = true)
    (hw : ∀ c h e1 F1 H1 Ls1 σ1, Eff true F H Ls [] F1 H1 Ls1 [] → Kept M H H1 → Sx K Er F1 H1 e1 σ1 Ls1 → PostS K Er Wf M F H Ls (Rr c h e1) D → Wf' h c σ1 H1) : PostS K Er Wf' (mu cb) F H Ls (run P cb false e) D := by
  cases hr : run P cb false e with
  | nx e2 => rw [hr] at q; exact NxP.step (m1 := false) (Eff.refl.mono fun _ => rfl) Kept.refl (fun z => Bool.noConfusion z) hm q
  | bk e2 => rw [hr] at q; exact NxP.step (m1 := false) (Eff.refl.mono fun _ => rfl) Kept.refl (fun z => Bool.noConfusion z) hm q
  | ct e2 => rw [hr] at q; exact NxP.step (m1 := false) (Eff.refl.mono fun _ => rfl) Kept.refl (fun z => Bool.noConfusion z) hm q
  | rt d => rw [hr] at q; exact q
  | rb d e2 => rw [hr] at q; exact q
  | stuck => rw [hr] at q; exact q
  | ex c h e1 =>
    rw [hr] at q
    exact fun F1 H1 Ls1 σ1 E k S => hw c h e1 F1 H1 Ls1 σ1 E (k.mono hm) S q
def wfOf (ca : Nat → Addr) (n : Nat) (W : WX) : Bool → Nat → L2.St → Hp → Prop := fun _ c σ H => c < n → W (.ref (ca c)) none σ H
theorem wfOf_imp {W : WX} {h : Bool} : ∀ c d σ H, WW ca n (wfOf ca n W) h c d σ H → W c d σ H := fun cls d σ H ⟨c, hc, e1, e2, w⟩ => by
  subst e1 e2
  exact w hc
variable {body suite : List Stmt} {b₀ : Stmt} {np p1 : Pos} {cb cs : C} {i j : Nat} {nm xn : Str}
def tsE (K : PySem.W.Frag) (Er : EE) (P : Par) (ca : Nat → Addr) (n i : Nat) (cs : C) (Zx : Value → Option Addr → Prop) : Addr → Value → Option Addr → TS := fun a cls d D σ H => ∃ c', c' < n ∧ cls = .ref (ca c') ∧ d = none ∧ tS K (fixE Er i (.ref a)) Wf0 { P with cur := some (i, c') } cs true D σ H
theorem tryA_rd {Wout : WX} (W : Exw K P.sub ca n n2) (hj : j < n) (hEr : Er i = none) {D : Ends} (h : tS K Er Wf P (.try_ cb j (some i) cs 0) false D σ H) (ho : ∀ c σ H, c < n → Wf true c σ H → Wout (.ref (ca c)) none σ H) :
    tS K Er (wfOf ca n (wAs K (.ref (ca j)) i (tsE K Er P ca n i cs fun _ _ => True) Wout D)) P cb false D σ H := by
  obtain ⟨F, e, Ls, s, q⟩ := h
  refine ⟨F, e, Ls, s, ?_⟩
  simp only [run] at q
  refine try_body q (fun z => by simp [mu, z]) fun c h e1 F1 H1 Ls1 σ1 E k S q1 hc => ?_
  refine ⟨P.sub c j, W.exm c j hc hj, fun hb a ha => ⟨c, hc, rfl, rfl, ?_⟩, fun hb => ?_⟩
  · rw [if_pos hb] at q1
    simp only [bne_self_eq_false, Bool.false_and, Bool.false_eq_true, if_false] at q1
    split at q1
    · rename_i hl
      exact suite_read hEr hl E k S (fun z => by simp [mu, z]) D q1
    · exact q1.elim
  · rw [if_neg (by rw [hb]; exact Bool.false_ne_true)] at q1
    simp only [Nat.reduceBEq, Bool.false_eq_true, if_false] at q1
    exact ho c σ1 H1 hc (q1 F1 H1 Ls1 σ1 E k S)
theorem tryB_rd {Wout : WX} (W : Exw K P.sub ca n n2) (hj : j < n) (hEr : Er i = none) {D : Ends} (h : tS K Er Wf P (.try_ cb j (some i) cs 1) false D σ H) (ho : ∀ c σ H, c < n → Wf false c σ H → Wout (.ref (ca c)) none σ H) :
    tS K Er (fun h c σ H => h = false ∧ wfOf ca n (wAs K (.ref (ca j)) i (tsE K Er P ca n i cs fun _ _ => True) Wout D) h c σ H) P cb false D σ H := by
  obtain ⟨F, e, Ls, s, q⟩ := h
  refine ⟨F, e, Ls, s, ?_⟩
  simp only [run] at q
  refine try_body q (fun z => by simp [mu, z]) fun c h e1 F1 H1 Ls1 σ1 E k S q1 => ?_
  have h0 : h = false := by
    cases h with
    | false => rfl
    | true =>
      split at q1
      · exact q1.elim
      · exact q1.elim
  subst h0
  refine ⟨rfl, fun hc => ⟨P.sub c j, W.exm c j hc hj, fun hb a ha => ⟨c, hc, rfl, rfl, ?_⟩, fun hb => ?_⟩⟩
  · rw [if_pos hb] at q1
    simp only [Bool.and_false, Bool.false_eq_true, if_false] at q1
    split at q1
    · rename_i hl
      exact suite_read hEr hl E k S (fun z => by simp [mu, z]) D q1
    · exact q1.elim
  · rw [if_neg (by rw [hb]; exact Bool.false_ne_true)] at q1
    simp only [Nat.reduceBEq, Bool.false_eq_true, if_false, if_true] at q1
    exact ho c σ1 H1 hc (q1 F1 H1 Ls1 σ1 E k S)
theorem takes_false {X : Cx} {W : WX} (h : ∀ c d σ H, ¬ W c d σ H) : L2.Takes X W := L2.takes0.imp fun c d σ H w => h c d σ H w
theorem S_tryA (hs : X.stack = X.env :: X.outer) (hf : X.env.frame = some X.env.locals) (hN : X.N.Nodup) (hi : X.N[i]? = some nm) (hln : X.env.kindOf nm = some .local) (hcn : L2.Names X xn (.ref (ca j))) (W : Exw X.K P.sub ca n n2) (hj : j < n) (hEr : Er i = none) (tk : L2.Takes X (WW ca n Wf true))
    (hb : ∀ Wf' pn xe, L2N.Takes (X.tr pn xe) (WW ca n Wf' false) → L2.Takes (X.tr pn xe) (WW ca n Wf' true) → PassesOwn (model X.prog X.w) X.A X.env xe → PSs (X.tr pn xe) body (tS X.K Er Wf' P cb false))
    (hsu : ∀ a oe pn c', c' < n → Zc (.ref (ca c')) none oe → (∃ vs, oe.data = .fields vs) → PSs (X.suite a ((a, oe) :: pn)) (b₀ :: suite) (tS X.K (fixE Er i (.ref a)) Wf0 { P with cur := some (i, c') } cs true)) :
    PS X (.Try body [.ExceptHandler (some (.Name xn np)) (some nm) (b₀ :: suite) p1] [] [] pos) (tS X.K Er Wf P (.try_ cb j (some i) cs 0) false) :=
  (L2.ps_try_as (Wout := WW ca n Wf true) (tb := fun W => tS X.K Er (wfOf ca n W) P cb false) (ts := tsE X.K Er P ca n i cs fun _ _ => True) hs hf hN hi hln hcn tk (fun W pn xe tkb po => hb _ pn xe (takes_down (tkb.imp wfOf_imp)) (tkb.imp wfOf_imp) po)
    (fun a oe cls d pn hz hv => ⟨fun pins s σ H D I ⟨c', hc, e1, e2, h⟩ => by
      subst e1 e2
      exact (hsu a oe pn c' hc hz hv).run pins s σ H D I h⟩)).imp fun D σ H h => tryA_rd W hj hEr h fun c σ H hc w => ⟨c, hc, rfl, rfl, w⟩
theorem S_tryB (hs : X.stack = X.env :: X.outer) (hf : X.env.frame = some X.env.locals) (hN : X.N.Nodup) (hi : X.N[i]? = some nm) (hln : X.env.kindOf nm = some .local) (hcn : L2.Names X xn (.ref (ca j))) (W : Exw X.K P.sub ca n n2) (hj : j < n) (hEr : Er i = none) (tk : L2N.Takes X (WW ca n Wf false))
    (hb : ∀ Wf' pn xe, L2N.Takes (X.tr pn xe) (WW ca n Wf' false) → L2.Takes (X.tr pn xe) (WW ca n Wf' true) → PassesOwn (model X.prog X.w) X.A X.env xe → PSs (X.tr pn xe) body (tS X.K Er Wf' P cb false))
    (hsu : ∀ a oe pn c', c' < n → L2N.Zn (.ref (ca c')) none oe → (∃ vs, oe.data = .fields vs) → PSs (X.suite a ((a, oe) :: pn)) (b₀ :: suite) (tS X.K (fixE Er i (.ref a)) Wf0 { P with cur := some (i, c') } cs true)) :
    PS X (.Try body [.ExceptHandler (some (.Name xn np)) (some nm) (b₀ :: suite) p1] [] [] pos) (tS X.K Er Wf P (.try_ cb j (some i) cs 1) false) :=
  (L2N.ps_try_as (Wout := WW ca n Wf false) (tb := fun W => tS X.K Er (fun h c σ H => h = false ∧ wfOf ca n W h c σ H) P cb false) (ts := tsE X.K Er P ca n i cs fun _ _ => True) hs hf hN hi hln hcn tk
    (fun W pn xe tkb po => hb _ pn xe (tkb.imp fun cls d σ H ⟨c, hc, e1, e2, _, w⟩ => wfOf_imp _ _ _ _ ⟨c, hc, e1, e2, w⟩) (takes_false fun cls d σ H ⟨c, hc, e1, e2, z, w⟩ => Bool.noConfusion z) po)
    (fun a oe cls d pn hz hv => ⟨fun pins s σ H D I ⟨c', hc, e1, e2, h⟩ => by
      subst e1 e2
      exact (hsu a oe pn c' hc hz hv).run pins s σ H D I h⟩)).imp fun D σ H h => tryB_rd W hj hEr h fun c σ H hc w => ⟨c, hc, rfl, rfl, w⟩
/-! .. without a name -/
def tsO (K : PySem.W.Frag) (Er : EE) (Wf : Bool → Nat → L2.St → Hp → Prop) (P : Par) (ca : Nat → Addr) (n : Nat) (cs : C) : Addr → Value → Option Addr → TS := fun a cls d D σ H => tS K Er Wf { P with cur := none } cs true D σ H
theorem suiteO_read {P' : Par} {cs : C} {m x : Bool} {e1 : Env} (E : Eff true F H Ls [] F1 H1 Ls1 []) (k : Kept m H H1) (S : Sx K Er F1 H1 e1 σ Ls1) (hms : mu cs = true → m = true) (D : Ends)
    (q : PostS K Er Wf m F H Ls (match run P' cs true e1 with
      | .ex c h e2 => if x = true then .ex c h e2 else .stuck
      | o => o) D) : tS K Er (if x = true then Wf else Wf0) P' cs true D σ H1 := by
  refine ⟨F1, e1, Ls1, S, ?_⟩
  cases hr : run P' cs true e1 with
  | nx e2 => rw [hr] at q; exact NxP.step E k id hms q
  | bk e2 => rw [hr] at q; exact NxP.step E k id hms q
  | ct e2 => rw [hr] at q; exact NxP.step E k id hms q
  | ex c h e2 =>
    rw [hr] at q
    dsimp only at q
    cases x with
    | true => exact NxP.step E k id hms q
    | false => exact q.elim
  | rt d => rw [hr] at q; exact fun v F' H' Ls' σ' e' L E2 S2 R O => q v F' H' Ls' σ' e' L (E.tt E2) S2 R O
  | rb d e' => rw [hr] at q; exact fun v F' H' Ls' σ' L E2 S2 R O => q v F' H' Ls' σ' L (E.tt E2) S2 R O
  | stuck => rw [hr] at q; exact q.elim
theorem tryAo_rd {Wout : WX} (W : Exw K P.sub ca n n2) (hj : j < n) {D : Ends} (h : tS K Er Wf P (.try_ cb j none cs 0) false D σ H) (ho : ∀ c σ H, c < n → Wf true c σ H → Wout (.ref (ca c)) none σ H) :
    tS K Er (wfOf ca n (wOnly K (.ref (ca j)) (tsO K Er Wf0 P ca n cs) Wout D)) P cb false D σ H := by
  obtain ⟨F, e, Ls, s, q⟩ := h
  refine ⟨F, e, Ls, s, ?_⟩
  simp only [run] at q
  refine try_body q (fun z => by simp [mu, z]) fun c h e1 F1 H1 Ls1 σ1 E k S q1 hc => ?_
  refine ⟨P.sub c j, W.exm c j hc hj, fun hb a ha => ?_, fun hb => ?_⟩
  · rw [if_pos hb] at q1
    simp only [bne_self_eq_false, Bool.false_and, Bool.false_eq_true, if_false, Nat.reduceBEq] at q1
    exact suiteO_read (Wf := Wf) (x := false) E k S (fun z => by simp [mu, z]) D (by
      revert q1
      generalize run _ cs true e1 = o
      intro q1
      cases o <;> exact q1)
  · rw [if_neg (by rw [hb]; exact Bool.false_ne_true)] at q1
    simp only [Nat.reduceBEq, Bool.false_eq_true, if_false] at q1
    exact ho c σ1 H1 hc (q1 F1 H1 Ls1 σ1 E k S)
/-- the body's wishes where the suite raises: what comes with a context flies through -/
def wfC (K : PySem.W.Frag) (ca : Nat → Addr) (n j : Nat) (W Wout : WX) : Bool → Nat → L2.St → Hp → Prop := fun h c σ H => c < n → if h = true then L2H.wPass K (.ref (ca j)) Wout (.ref (ca c)) none σ H else W (.ref (ca c)) none σ H
theorem tryC_rd {Wout : WX} (W : Exw K P.sub ca n n2) (hj : j < n) {D : Ends} (h : tS K Er Wf P (.try_ cb j none cs 2) false D σ H) (ho : ∀ c σ H, c < n → Wf true c σ H → Wout (.ref (ca c)) none σ H) :
    tS K Er (wfC K ca n j (wOnly K (.ref (ca j)) (tsO K Er Wf P ca n cs) Wout D) Wout) P cb false D σ H := by
  obtain ⟨F, e, Ls, s, q⟩ := h
  refine ⟨F, e, Ls, s, ?_⟩
  simp only [run] at q
  refine try_body q (fun z => by simp [mu, z]) fun c h e1 F1 H1 Ls1 σ1 E k S q1 hc => ?_
  have no : P.sub c j = false → Wout (.ref (ca c)) none σ1 H1 := fun hb => by
    rw [if_neg (by rw [hb]; exact Bool.false_ne_true)] at q1
    simp only [Nat.reduceBEq, Bool.false_eq_true, if_false] at q1
    exact ho c σ1 H1 hc (q1 F1 H1 Ls1 σ1 E k S)
  cases h with
  | true =>
    refine iteT ⟨?_, ?_⟩
    · cases hb : P.sub c j with
      | false => rw [← hb]; exact W.exm c j hc hj
      | true =>
        rw [if_pos hb] at q1
        exact q1.elim
    · cases hb : P.sub c j with
      | false => exact no hb
      | true =>
        rw [if_pos hb] at q1
        exact q1.elim
  | false =>
    refine iteF ⟨P.sub c j, W.exm c j hc hj, fun hb a ha => ?_, no⟩
    rw [if_pos hb] at q1
    simp only [Bool.and_false, Bool.false_eq_true, if_false, Nat.reduceBEq] at q1
    exact suiteO_read (Wf := Wf) (x := true) E k S (fun z => by simp [mu, z]) D (by
      revert q1
      generalize run _ cs true e1 = o
      intro q1
      cases o <;> exact q1)
theorem S_tryAo (hs : X.stack = X.env :: X.outer) (hf : X.env.frame = some X.env.locals) (hcn : L2.Names X xn (.ref (ca j))) (W : Exw X.K P.sub ca n n2) (hj : j < n) (tk : L2.Takes X (WW ca n Wf true))
    (hb : ∀ Wf' pn xe, L2N.Takes (X.tr pn xe) (WW ca n Wf' false) → L2.Takes (X.tr pn xe) (WW ca n Wf' true) → PassesOwn (model X.prog X.w) X.A X.env xe → PSs (X.tr pn xe) body (tS X.K Er Wf' P cb false))
    (hsu : ∀ a oe pn, (∃ vs, oe.data = .fields vs) → PSs (X.suite a ((a, oe) :: pn)) (b₀ :: suite) (tS X.K Er Wf0 { P with cur := none } cs true)) :
    PS X (.Try body [.ExceptHandler (some (.Name xn np)) none (b₀ :: suite) p1] [] [] pos) (tS X.K Er Wf P (.try_ cb j none cs 0) false) :=
  (L2.ps_try_only (Wout := WW ca n Wf true) (tb := fun W => tS X.K Er (wfOf ca n W) P cb false) (ts := tsO X.K Er Wf0 P ca n cs) hs hf hcn tk (fun W pn xe tkb po => hb _ pn xe (takes_down (tkb.imp wfOf_imp)) (tkb.imp wfOf_imp) po)
    (fun a oe cls d pn hz hv => hsu a oe pn hv)).imp fun D σ H h => tryAo_rd W hj h fun c σ H hc w => ⟨c, hc, rfl, rfl, w⟩
theorem S_tryC (hs : X.stack = X.env :: X.outer) (hf : X.env.frame = some X.env.locals) (hcn : L2.Names X xn (.ref (ca j))) (W : Exw X.K P.sub ca n n2) (hj : j < n) (hpa : ∀ hd : Option Value, PassesOwnAt (model X.prog X.w) (X.A.mark hd) X.A X.env X.xe) (tk : L2.Takes X (WW ca n Wf true))
    (hb : ∀ Wf' pn xe, L2N.Takes (X.tr pn xe) (WW ca n Wf' false) → L2.Takes (X.tr pn xe) (WW ca n Wf' true) → PassesOwn (model X.prog X.w) X.A X.env xe → PSs (X.tr pn xe) body (tS X.K Er Wf' P cb false))
    (hsu : ∀ a oe pn, (∃ vs, oe.data = .fields vs) → L2.Takes (L2H.suiteX X a ((a, oe) :: pn)) (WW ca n Wf true) → L2H.HotC (L2H.suiteX X a ((a, oe) :: pn)) → PSs (L2H.suiteX X a ((a, oe) :: pn)) (b₀ :: suite) (tS X.K Er Wf { P with cur := none } cs true)) :
    PS X (.Try body [.ExceptHandler (some (.Name xn np)) none (b₀ :: suite) p1] [] [] pos) (tS X.K Er Wf P (.try_ cb j none cs 2) false) :=
  (L2H.ps_try_onlyX (Wout := WW ca n Wf true) (tb := fun W => tS X.K Er (wfC X.K ca n j W (WW ca n Wf true)) P cb false) (ts := tsO X.K Er Wf P ca n cs) hs hf hcn hpa tk
    (fun W pn xe t1 t2 po => hb _ pn xe (t1.imp fun cls d σ H ⟨c, hc, e1, e2, w⟩ => by
      subst e1 e2
      have w' := w hc
      rw [if_neg Bool.false_ne_true] at w'
      exact w') (t2.imp fun cls d σ H ⟨c, hc, e1, e2, w⟩ => by
      subst e1 e2
      have w' := w hc
      rw [if_pos rfl] at w'
      exact w') po)
    (fun a oe cls d pn hz hv tkS hot => hsu a oe pn hv tkS hot)).imp fun D σ H h => tryC_rd W hj h fun c σ H hc w => ⟨c, hc, rfl, rfl, w⟩
end
end VI
set_option maxRecDepth 100000
set_option maxHeartbeats 2000000
/-! VI: defs, calm and hot. -/
namespace VI
open PySem PySem.Spec PyProof.Rows L2 RZ

def cxb : Bool → Program → World → CXT
  | false => L2N.CX
  | true => L2.CX
section
variable {K : PySem.W.Frag} {Er : EE} {F F' F1 F2 : Addr → Prop} {H H' H1 H2 H3 : Hp} {v x y : V} {dx dy d : D} {L L' Lx Ly : List Addr} {e e' e1 : Env} {σ σ' : L2.St} {Ls Ls' Ls1 Ls2 : Nat → List Addr} {U T : List Addr}
variable {P : Program} {w : World} {mg : Str → Option Value} {base : Heap} {ca : Nat → Addr} {n : Nat}
theorem start_some {N : List Str} {vs : List V} {i : Nat} {v : V} (h : vs[i]? = some v) : (L2.start N vs)[i]? = some (some v) := by
  unfold L2.start
  have hi : i < vs.length := (List.getElem?_eq_some_iff.mp h).1
  rw [List.getElem?_append_left (by simpa using hi), List.getElem?_map, h]
  rfl
theorem start_len {N : List Str} {vs : List V} (h : vs.length ≤ N.length) : (L2.start N vs).length = N.length := by
  unfold L2.start
  rw [List.length_append, List.length_map, List.length_replicate]
  omega
theorem startE_len {m : Nat} {ds : List D} (h : ds.length ≤ m) : (startE m ds).length = m := by
  unfold startE
  rw [List.length_append, List.length_map, List.length_replicate]
  omega
theorem startE_get {m : Nat} {ds : List D} {i : Nat} {d : D} (h : (startE m ds)[i]? = some (some d)) : ds[i]? = some d := by
  unfold startE at h
  by_cases hi : i < ds.length
  · rw [List.getElem?_append_left (by simpa using hi), List.getElem?_map] at h
    cases q : ds[i]? with
    | none => rw [q] at h; cases h
    | some d' => rw [q] at h; cases h; rfl
  · rw [List.getElem?_append_right (by simpa using Nat.le_of_not_lt hi), List.getElem?_replicate] at h
    split at h <;> cases h
/-- what each of some things owns -/
theorem Reps.slots {K : PySem.W.Frag} {Er : EE} {F : Addr → Prop} {H : Hp} : ∀ {vs : List V} {ds : List D} {L : List Addr}, Reps K Er F H vs ds L → L.Nodup → ∃ Ls : Nat → List Addr, (∀ (i : Nat) (d : D), ds[i]? = some d → ∃ v, vs[i]? = some v ∧ Rep K Er F H v d (Ls i)) ∧ (∀ i, ds.length ≤ i → Ls i = []) ∧ (∀ i a, a ∈ Ls i → a ∈ L) ∧ (∀ i, (Ls i).Nodup) ∧ ∀ i j a, a ∈ Ls i → a ∈ Ls j → i = j
  | _, _, _, .nil, _ => ⟨fun _ => [], (fun i d h => by simp at h), fun _ _ => rfl, (fun _ _ h => nomatch h), fun _ => List.nodup_nil, fun _ _ _ h => nomatch h⟩
  | _, _, _, .cons (L := L1) (M := L2) r t, n => by
    have nn := List.nodup_append.mp n
    obtain ⟨Ls, h1, h2, h3, h4, h5⟩ := Reps.slots t nn.2.1
    refine ⟨fun i => match i with
      | 0 => L1
      | i + 1 => Ls i, fun i d h => ?_, fun i h => ?_, fun i a h => ?_, fun i => ?_, fun i j a hi hj => ?_⟩
    · cases i with
      | zero =>
        simp at h; subst h
        exact ⟨_, rfl, r⟩
      | succ i => exact h1 i d (by simpa using h)
    · cases i with
      | zero => simp at h
      | succ i => exact h2 i (by simpa using h)
    · cases i with
      | zero => exact List.mem_append_left _ h
      | succ i => exact List.mem_append_right _ (h3 i a h)
    · cases i with
      | zero => exact nn.1
      | succ i => exact h4 i
    · cases i with
      | zero =>
        cases j with
        | zero => rfl
        | succ j => exact absurd rfl (nn.2.2 a hi a (h3 j a hj))
      | succ i =>
        cases j with
        | zero => exact absurd rfl (nn.2.2 a hj a (h3 i a hi))
        | succ j => rw [h5 i j a hi hj]
/-- a body's beginning -/
theorem Sx.begin {N : List Str} {vs : List V} {ds : List D} (r : Reps K Er0 F H vs ds L) (n : L.Nodup) (nf : ∀ a ∈ L, ¬ F a) (hl : ds.length ≤ N.length) (fa : ∀ a, F a → H a ≠ none) : ∃ Ls, Sx K Er0 F H (startE N.length ds) (L2.start N vs) Ls ∧ ∀ a, In Ls a → a ∈ L := by
  obtain ⟨Ls, h1, h2, h3, h4, h5⟩ := r.slots n
  refine ⟨Ls, ⟨by rw [startE_len hl, start_len (by rw [r.len]; exact hl)], fun i d h => ?_, fun i h => ?_, h4, h5, fun i a h => nf a (h3 i a h), fa, (fun _ _ h => nomatch h)⟩, fun a ⟨i, h⟩ => h3 i a h⟩
  · obtain ⟨v, h6, h7⟩ := h1 i d (startE_get h)
    exact ⟨v, start_some h6, h7⟩
  · refine h2 i (Nat.le_of_not_lt fun hi => h ds[i] ?_)
    unfold startE
    rw [List.getElem?_append_left (by simpa using hi), List.getElem?_map, List.getElem?_eq_getElem hi]
    rfl
/-- what a body's wishes are -/
def wfE (ca : Nat → Addr) (n : Nat) (late : Bool) (E : XK) : Bool → Nat → L2.St → Hp → Prop := fun h c _ H => (late = true ∨ h = false) ∧ (c < n → E (.ref (ca c)) none H)
theorem body_rd {Pa : Par} {fn : Fn} {N : List Str} {vs : List V} {Q : VK} {E : XK} {ps : Nat} {late : Bool} (hps : ps ≤ N.length) (h : spI K Er0 ca n ps (fun ds => outC late (run Pa fn.body false (startE N.length ds))) vs H Q E) :
    tS K Er0 (wfE ca n late E) Pa fn.body false { nx := fun _ H' => Q .non H', rt := Q } (L2.start N vs) H := by
  obtain ⟨F, ds, L0, hl, fa, r, nd0, nf0, h⟩ := h
  dsimp only at h
  obtain ⟨Ls0, S0, inL⟩ := Sx.begin (N := N) r nd0 nf0 (by omega) fa
  refine ⟨F, startE N.length ds, Ls0, S0, ?_⟩
  have same : ∀ {F' : Addr → Prop} {H' : Hp} {Ls' : Nat → List Addr} {L : List Addr}, Eff true F H Ls0 [] F' H' Ls' L → ∀ a o, H a = some o → a ∉ L0 → H' a = some o := fun E a o z nz => E.keep a o z fun _ => ⟨fun w => nz (inL a w), fun z => nomatch z⟩
  have fn' : ∀ {F' : Addr → Prop} {H' : Hp} {Ls' : Nat → List Addr} {L : List Addr}, Eff true F H Ls0 [] F' H' Ls' L → ∀ a, F' a → F a ∨ a ∈ L0 ∨ H a = none := fun E a z => by
    rcases E.fn a z with w | w | w | w
    · exact .inr (.inl (inL a w))
    · cases w
    · exact .inl w
    · exact .inr (.inr w)
  have new : ∀ {F' : Addr → Prop} {H' : Hp} {Ls' : Nat → List Addr} {L : List Addr}, Eff true F H Ls0 [] F' H' Ls' L → ∀ a ∈ L, a ∈ L0 ∨ H a = none := fun E a z => by
    rcases E.sub a (.inr z) with w | w | w
    · exact .inl (inL a w)
    · cases w
    · exact .inr w
  cases hr : run Pa fn.body false (startE N.length ds) with
  | nx e2 =>
    rw [hr] at h
    exact fun F' H' Ls' σ' E k S => h .non F' H' [] (same E) E.live E.fm (fn' E) S.fa .non List.nodup_nil fun _ z => nomatch z
  | rt d =>
    rw [hr] at h
    exact fun v F' H' Ls' σ' e' L E S R O => h v F' H' L (same E) E.live E.fm (fn' E) S.fa R O.nd fun a z => ⟨new E a z, (O.no a z).1⟩
  | ex c hh e2 =>
    rw [hr] at h
    intro F' H' Ls' σ' E k S
    cases late with
    | true => exact ⟨.inl rfl, fun hc => h H' hc (same E) E.live⟩
    | false =>
      cases hh with
      | true => exact h.elim
      | false => exact ⟨.inr rfl, fun hc => h H' hc (same E) E.live⟩
  | rb d e2 => rw [hr] at h; exact h.elim
  | bk e2 => rw [hr] at h; exact h.elim
  | ct e2 => rw [hr] at h; exact h.elim
  | stuck => rw [hr] at h; exact h.elim
theorem spI_len {ps : Nat} {cr : List D → CR} {vs : List V} {Q : VK} {E : XK} (h : spI K Er ca n ps cr vs H Q E) : vs.length = ps := by
  obtain ⟨F, ds, L, hl, _, r, _⟩ := h
  rw [r.len, hl]

/-! ### hot defs: called where an exception is handled, with that exception alone -/
def spX (K : PySem.W.Frag) (ca : Nat → Addr) (n : Nat) (cr : Nat → CR) (p : Addr × Obj) : List V → Hp → VK → Prop := fun vs H Q => ∃ c, c < n ∧ vs = [.ref p.1] ∧ Zc (.ref (ca c)) none p.2 ∧ match cr c with
  | .ok d => ∀ v F' H' L, Same H H' → (∀ a, F' a → H a = none) → Rep K Er0 F' H' v d L → L.Nodup → (∀ a ∈ L, H a = none ∧ ¬ F' a) → Q v H'
  | _ => False
/-- what such a def promises -/
structure HotFn (P : Program) (w : World) (K : PySem.W.Frag) (mg : Str → Option Value) (base : Heap) (k : Nat) (f : Addr) (fd : FuncData) (ps : List Str) (sp : Addr × Obj → List V → Hp → VK → Prop) : Prop where
  go : ∀ (A : Around) (o : List PySem.Env) (s : Shared) (H : Hp) (us : List Value) (vs : List V) (Q : VK) (p : Addr × Obj), L2H.RoomH k A → L2H.Hot1 A p → L2H.PinOk o H s p → Env0 P w K mg base A o s H →
    BindsTo s fd ⟨us, []⟩ (ps.zip us) → Vals vs us → vs.length = ps.length → sp p vs H Q → codeAny (model P w) A (.call (.ref f) ⟨us, []⟩) (L2.CR CX0 o P w H s Q E0) s
theorem hot_of {k : Nat} {x qual : Str} {pr : Arguments} {bd : List Stmt} {sc : Scope} {kws : List (Str × V)} {f : Addr} {fd : FuncData} {N ps : List Str} {sp : Addr × Obj → List V → Hp → VK → Prop} (F : FunD K x qual pr bd sc [] kws f fd) (S : FnScope N ps sc)
    (go : ∀ (cdv : Value) (A : Around) (o : List PySem.Env) (s : Shared) (H : Hp) (vs : List V) (Q : VK) (p : Addr × Obj), L2H.Hot1 A p → L2H.RoomH k (A.deeper (envOfC qual sc s.heap.objs.size f cdv)) → vs.length = ps.length → sp p vs H Q →
      ∃ t, PSs (L2H.cxH CX0 P w K mg base N qual sc f cdv A o s H E0 p) bd t ∧ t { nx := fun _ H' => Q .non H', rt := Q } (L2.start N vs) H) : HotFn P w K mg base (k + 1) f fd ps sp := by
  obtain ⟨oc, od, dV, kV, doc, pm, an, cdv, ct, osl, rfl, lk, hcd, _, _⟩ := F.ex
  refine ⟨fun A o s H us vs Q p room hot pin e0 bi rel len h => ?_⟩
  have kin : K.In s.heap := e0.mod.kin.keeps fun b u q => (e0.bs b u q).1
  have names : ∀ q ∈ ps.zip us, sc.names.lookup q.1 = some .local ∨
      (sc.names.lookup q.1 = some .cell ∧ ((cellsFrom (s.heap.objs.size + 1) sc.names []).lookup q.1).isSome = true) := by
    rintro ⟨y, u⟩ hq
    exact (S.par y (List.of_mem_zip hq).1).elim .inl fun q =>
      .inr ⟨q, PySem.W.cellsFrom_some _ _ _ (.inl q)⟩
  refine codeAny_call_function room.depth (kin _ _ lk) rfl S.co S.gen rfl
    (PySem.W.codeRec_of kin hcd) (bi _ _ _ _ (wpAny_newFunctionEnv_cells S.kind names ?_))
  rintro env rfl s1 inn
  refine ⟨(e0.mod.nolimit.keeps fun b u q => (e0.bs b u q).1).keeps inn.toInCall.keep, codeAny_func ?_⟩
  obtain ⟨t, ht, read⟩ := go cdv A o s H vs Q p hot (room.deeper _) len h
  have J := L2H.inv_startH (CX := CX0) (E := E0) (cd := cdv) (qual := qual) (f := f)
    S pin e0 len rel inn
  refine wpAny_mono (ht.run [] s1 _ H _ J read)
    (fun fl s' z => ?_) (fun _ _ z => z)
  cases fl with
  | ret u => exact let ⟨v, _, H', I, r, q⟩ := z; ⟨v, H', I.os, I.bare, I.base, I.hok, r, q⟩
  | next => exact let ⟨_, H', I, q⟩ := z; ⟨.non, H', I.os, I.bare, I.base, I.hok, rfl, q⟩
  | brk => exact let ⟨_, _, _, q⟩ := z; False.elim q
  | cont => exact let ⟨_, _, _, q⟩ := z; False.elim q
theorem hot_rd {Pa : Par} {b : C} {N : List Str} {vs : List V} {Q : VK} {p : Addr × Obj} {cr : Nat → CR} (hN : 0 < N.length) (h : spX K ca n cr p vs H Q) (hcr : ∀ c, (∃ d, cr c = .ok d) → cr c = (match run { Pa with cur := some (0, c) } b true (startE N.length []) with
      | .rt d => .ok d
      | _ => .stuck)) :
    ∃ c, c < n ∧ Zc (.ref (ca c)) none p.2 ∧ tS K (fixE Er0 0 (.ref p.1)) Wf0 { Pa with cur := some (0, c) } b true { nx := fun _ H' => Q .non H', rt := Q } (L2.start N vs) H := by
  obtain ⟨c, hc, rfl, hz, h⟩ := h
  refine ⟨c, hc, hz, fun _ => False, startE N.length [], fun _ => [], ?_, ?_⟩
  · refine ⟨by rw [startE_len (Nat.zero_le _), start_len (by exact hN)], fun i d h => by have := startE_get h; simp at this, fun _ _ => rfl, fun _ => List.nodup_nil, (fun _ _ _ h => nomatch h), (fun _ _ h => nomatch h), (fun _ h => False.elim h), fun i v q => ?_⟩
    rw [fixE_s] at q
    split at q
    · rename_i z
      cases q
      rw [z]
      exact start_some rfl
    · cases q
  · cases hcc : cr c with
    | stuck => rw [hcc] at h; exact h.elim
    | ex _ _ => rw [hcc] at h; exact h.elim
    | ok d0 =>
      have e := hcr c ⟨d0, hcc⟩
      rw [hcc] at e h
      cases hr : run { Pa with cur := some (0, c) } b true (startE N.length []) with
      | rt d =>
        rw [hr] at e
        cases e
        intro v F' H' Ls' σ' e' L E S R O
        have noIn : ∀ a, ¬ In (fun _ => ([] : List Addr)) a := fun a ⟨_, z⟩ => nomatch z
        refine h v F' H' L (fun a o z => E.keep a o z fun _ => ⟨noIn a, fun z => nomatch z⟩) (fun a z => ?_) R.unf O.nd fun a z => ⟨?_, (O.no a z).1⟩
        · rcases E.fn a z with w | w | w | w
          · exact absurd w (noIn a)
          · cases w
          · exact False.elim w
          · exact w
        · rcases E.sub a (.inr z) with w | w | w
          · exact absurd w (noIn a)
          · cases w
          · exact w
      | _ => rw [hr] at e; cases e
variable {X : Cx} {Wf : Bool → Nat → L2.St → Hp → Prop} {Pa : Par} {p : Bool}
theorem E_callx {k f xi : Nat} {fa : Addr} {fd : FuncData} {pn : List Str} {nm xn : Str} {q q2 pos : Pos} (HF : HotFn X.prog X.w X.K X.mg X.base k fa fd pn (spX X.K ca n (Pa.ch f))) (hr : L2H.RoomH k X.A) (hc : L2H.HotC X) (hg : Gl X nm) (hm : X.mg nm = some (.ref fa)) (hk : PySem.W.keepIn X.K (.ref fa) = true) (hb : Binds X.K fd pn []) (hpn : pn.length = 1)
    (hd : (nm == ("__debug__" : Str)) = false) (E : ∀ xc, Pa.cur = some xc → xc.1 = xi ∧ xc.2 < n ∧ ∃ pp : Addr × Obj, L2H.Hot1 X.A pp ∧ pp ∈ X.pn ∧ Er xc.1 = some (.ref pp.1) ∧ Zc (.ref (ca xc.2)) none pp.2) (hN : X.N[xi]? = some xn) (hv : Vis X.env.scope xn) (hxd : (xn == ("__debug__" : Str)) = false) (hcd : (xn == ("__classdict__" : Str)) = false) :
    PE X (.Call (.Name nm q) [.Name xn q2] [] pos) (tE X.K Er Wf Pa (.callx f) p) := by
  refine ⟨fun pins s σ H Q I ⟨F, e, Ls, sx, h⟩ => ?_⟩
  simp only [ev] at h
  cases hcur : Pa.cur with
  | none => rw [hcur] at h; exact h.elim
  | some xc =>
    rw [hcur] at h
    dsimp only at h
    obtain ⟨rfl, hcn, pp, hot, hpp, her, hz⟩ := E xc hcur
    refine wpAny_Call_Name_kw (ld_glob I hg hm ?_ hd)
    have arg : tCons (tVar xc.1) tNil σ H (fun vs H1 => vs = [.ref pp.1] ∧ H1 = H) := ⟨_, sx.fx _ _ her, rfl, rfl⟩
    refine PySem.W.callWith_K (h₀ := X.base) I.ok.mod.kin hk (thn ((pa_cons (pe_var hN hv hxd hcd) pa_nil (by rfl)).run pos pins s σ H _ I arg) fun us s1 ⟨vs, H1, I1, r, e1, e2⟩ => ⟨I1.kIn, ?_⟩) (by rfl) (by rfl)
    subst e1 e2
    have hl : us.length = pn.length := by rw [← r.length]; exact hpn.symm
    have b := hb s1 us I1.kIn (by rw [List.append_nil]; exact hl)
    rw [List.append_nil] at b
    obtain ⟨g1, g2, g3, g4, g5⟩ := I1.pin pp (List.mem_append_left _ hpp)
    have hpin : L2H.PinOk X.stack H1 s1 pp := ⟨g1, g2, fun hm => (List.mem_cons.mp (I1.stkSub _ hm)).elim g3 g4, g5⟩
    refine wpAny_call (codeAny_mono (HF.go X.A X.stack s1 H1 us _ Q pp hr hot hpin I1.env0 b r (by simpa using hpn.symm) ⟨xc.2, hcn, rfl, hz, ?_⟩) fun r s' hq => ?_)
    · cases hch : Pa.ch f xc.2 with
      | stuck => rw [hch] at h; exact h.elim
      | ex _ _ => rw [hch] at h; exact h.elim
      | ok d =>
        rw [hch] at h
        dsimp only at h
        cases hff : ff d with
        | false => rw [hff] at h; exact h.elim
        | true =>
          rw [hff] at h
          intro v F' H' L sm _ R nd no
          exact h v F H' Ls L ((effSame sx sm fun a z => .inl (no a z).1).mono fun z => Bool.noConfusion z) (sx.same sm (fun _ z => z) (fun a z w => sx.inF w z) fun a z => sm.live (sx.fa a z)) ((R.ff hff).er er0)
            (Own.ov ⟨nd, fun a z => ⟨fun w => sx.fa a w (no a z).1, fun w => sx.inH w (no a z).1⟩⟩ rfl)
    · cases r with
      | error e => exact False.elim hq
      | ok fl =>
        cases fl with
        | ret u => exact I1.after hq
        | next => exact False.elim hq
        | brk => exact False.elim hq
        | cont => exact False.elim hq
theorem E_dnew {pos : Pos} : PE X (.Dict [] [] pos) (tE K Er Wf Pa .dnew p) := pe_dnewK.imp fun σ H Q ⟨F, e, Ls, s, q⟩ => by
  simp only [ev] at q
  intro a na
  exact q (.ref a) F (upd H a (.dK [])) Ls [a] (((Eff.laid s na).mono fun z => Bool.noConfusion z).less fun b hb => .inl (by simp at hb; simp [hb])) (s.laid na) (.dow (L := []) upd_same ⟨rfl, List.nodup_nil⟩ .nil)
    (Own.ov ⟨by simp, fun b hb => by
      simp at hb; subst hb
      exact ⟨s.newF na, s.newI na⟩⟩ rfl)
end
end VI
set_option maxRecDepth 100000
set_option maxHeartbeats 2000000
/-! VJ: places in data. -/
namespace VI
open PySem PySem.Spec PyProof.Rows L2 RZ

/-! ### steps into values -/
def kidV (H : Hp) (s : Stp) (v : V) : Option V := match v with
  | .ref a => (match s, H a with
    | .ix j, some (.lst vs) => vs[j]?
    | .ix j, some (.tup vs) => vs[j]?
    | .fld f, some (.ins _ _ fs) => fs.lookup f
    | .key k, some (.dK kvs) => valV kvs k
    | .keyt k, some (.dT kvs) => valV kvs k
    | _, _ => none)
  | _ => none
def valAt (H : Hp) : List Stp → V → Option V
  | [], v => some v
  | s :: p, v => (kidV H s v).bind (valAt H p)
theorem valAt_snoc {H : Hp} {s : Stp} : ∀ {p : List Stp} {v : V}, valAt H (p ++ [s]) v = (valAt H p v).bind (kidV H s)
  | [], v => by
    simp only [List.nil_append, valAt, Option.bind]
    cases kidV H s v <;> rfl
  | t :: p, v => by
    simp only [List.cons_append, valAt]
    cases h : kidV H t v with
    | none => rfl
    | some w => exact valAt_snoc (p := p)
theorem atP_snoc {s : Stp} : ∀ {p : List Stp} {d : D}, atP (p ++ [s]) d = (atP p d).bind (stepD s)
  | [], d => by
    simp only [List.nil_append, atP, Option.bind]
    cases stepD s d <;> rfl
  | t :: p, d => by
    simp only [List.cons_append, atP]
    cases h : stepD t d with
    | none => rfl
    | some w => exact atP_snoc (p := p)
theorem lookup_idx (f : Str) : ∀ fvs : List (Str × V), fvs.lookup f = (idxK (fvs.map (·.1)) f).bind ((fvs.map (·.2))[·]?)
  | [] => rfl
  | p :: r => by
    obtain ⟨g, v⟩ := p
    unfold idxK
    rw [List.map_cons, List.map_cons, List.findIdx?_cons]
    by_cases h : g = f
    · subst h
      simp [List.lookup_cons]
    · have h' : (f == g) = false := by simpa using fun z => h z.symm
      rw [List.lookup_cons, h', lookup_idx f r]
      simp only [h, decide_false, Bool.false_eq_true, if_false]
      unfold idxK
      cases (r.map (·.1)).findIdx? (fun x => decide (x = f)) <;> simp
/-- more of the heap: what was at a place is there still -/
theorem kidV_mono {H H' : Hp} (h : Same H H') {s : Stp} {v w : V} (e : kidV H s v = some w) : kidV H' s v = some w := by
  unfold kidV at e ⊢
  split at e
  · rename_i a
    cases ha : H a with
    | none => rw [ha] at e; simp at e
    | some o => rw [h a o ha]; rw [ha] at e; exact e
  · cases e
theorem valAt_mono {H H' : Hp} (h : Same H H') : ∀ {p : List Stp} {v w : V}, valAt H p v = some w → valAt H' p v = some w
  | [], _, _, e => e
  | s :: p, v, w, e => by
    simp only [valAt] at e ⊢
    cases hk : kidV H s v with
    | none => rw [hk] at e; cases e
    | some u =>
      rw [hk] at e
      rw [kidV_mono h hk]
      exact valAt_mono h e
section
variable {K : PySem.W.Frag} {Er : EE} {F F' F1 F2 : Addr → Prop} {H H' H1 H2 H3 : Hp} {v x y : V} {dx dy d : D} {L L' Lx Ly : List Addr} {e e' e1 : Env} {σ σ' : L2.St} {Ls Ls' Ls1 Ls2 : Nat → List Addr} {U T : List Addr}
/-- one of some: what it is, and that they stand when it is changed -/
theorem Reps.at : ∀ {vs : List V} {ds : List D} {L : List Addr} {j : Nat} {c : D}, Reps K Er F H vs ds L → L.Nodup → ds[j]? = some c →
    ∃ w M R, vs[j]? = some w ∧ Rep K Er F H w c M ∧ (M ++ R).Perm L ∧ ∀ {F' : Addr → Prop} {H' : Hp} {N : Addr → Prop} {c' : D} {M' : List Addr}, Kp N F H F' H' → (∀ a, N a → a ∈ M) → Rep K Er F' H' w c' M' → ∃ L', Reps K Er F' H' vs (ds.set j c') L' ∧ L'.Perm (M' ++ R)
  | _, _, _, _, _, .nil, _, e => by simp at e
  | _, _, _, 0, _, .cons (v := v) (L := L1) (M := L2) r t, nd, e => by
    simp at e; subst e
    refine ⟨v, L1, L2, rfl, r, List.Perm.refl _, fun k n r' => ⟨_, .cons r' (t.kp k fun a ha z => ?_), List.Perm.refl _⟩⟩
    exact (List.nodup_append.mp nd).2.2 a (n a z) a ha rfl
  | _, _, _, j + 1, _, .cons (L := L1) (M := L2) r t, nd, e => by
    obtain ⟨w, M, R, h1, h2, h3, h4⟩ := Reps.at (j := j) t (List.nodup_append.mp nd).2.1 (by simpa using e)
    refine ⟨w, M, L1 ++ R, by simpa using h1, h2, ?_, fun k n r' => ?_⟩
    · rw [← List.append_assoc]
      refine ((List.perm_append_right_iff _).mpr List.perm_append_comm).trans ?_
      rw [List.append_assoc]
      exact (List.perm_append_left_iff _).mpr h3
    · obtain ⟨L', h5, h6⟩ := h4 k n r'
      refine ⟨L1 ++ L', .cons (r.kp k fun a ha z => ?_) h5, ?_⟩
      · exact (List.nodup_append.mp nd).2.2 a ha a (h3.subset (List.mem_append_left _ (n a z))) rfl
      · refine ((List.perm_append_left_iff _).mpr h6).trans ?_
        rw [← List.append_assoc, ← List.append_assoc]
        exact (List.perm_append_right_iff _).mpr List.perm_append_comm
theorem stepD_some {s : Stp} {d c : D} (h : stepD s d = some c) : ∃ j, kidIx s d = some j ∧ (kids d)[j]? = some c := by
  unfold stepD at h
  cases hj : kidIx s d with
  | none => rw [hj] at h; cases h
  | some j => rw [hj] at h; exact ⟨j, rfl, h⟩
/-- a container's own cell -/
theorem perm_in {α : Type} {a : α} {M R L : List α} (h : (M ++ R).Perm L) : (M ++ a :: R).Perm (a :: L) := List.perm_middle.trans (List.Perm.cons a h)
theorem Rep.kid {v : V} {d : D} {L : List Addr} {s : Stp} {j : Nat} {c : D} (r : Rep K Er F H v d L) (nd : L.Nodup) (hj : kidIx s d = some j) (hc : (kids d)[j]? = some c) :
    ∃ w M R, kidV H s v = some w ∧ Rep K Er F H w c M ∧ (M ++ R).Perm L ∧ ∀ {F' : Addr → Prop} {H' : Hp} {N : Addr → Prop} {c' : D} {M' : List Addr}, Kp N F H F' H' → (∀ a, N a → a ∈ M) → Rep K Er F' H' w c' M' → ∃ L', Rep K Er F' H' v (withKids d ((kids d).set j c')) L' ∧ L'.Perm (M' ++ R) := by
  have own : ∀ {a : Addr} {M R L : List Addr} {N : Addr → Prop}, (M ++ R).Perm L → (a :: L).Nodup → (∀ b, N b → b ∈ M) → ¬ N a := fun {a M R L N} p nd n z => (List.nodup_cons.mp nd).1 (p.subset (List.mem_append_left _ (n a z)))
  cases r with
  | tup h q =>
    cases s <;> (first | (cases hj; done) | skip)
    cases hj
    obtain ⟨w, M, R, h1, h2, h3, h4⟩ := q.at nd hc
    refine ⟨w, M, R, by simp only [kidV, h]; exact h1, h2, h3, fun k n r' => ?_⟩
    obtain ⟨L', h5, h6⟩ := h4 k n r'
    exact ⟨L', .tup (k.keep _ _ h (k.no h rfl)) h5, h6⟩
  | own h q =>
    cases s <;> (first | (cases hj; done) | skip)
    cases hj
    obtain ⟨w, M, R, h1, h2, h3, h4⟩ := q.at (List.nodup_cons.mp nd).2 hc
    refine ⟨w, M, _ :: R, by simp only [kidV, h]; exact h1, h2, perm_in h3, fun k n r' => ?_⟩
    obtain ⟨L', h5, h6⟩ := h4 k n r'
    exact ⟨_ :: L', .own (k.keep _ _ h (own h3 nd n)) h5, (List.Perm.cons _ h6).trans (List.perm_middle.symm)⟩
  | dow h e q =>
    cases s <;> (first | (cases hj; done) | skip)
    obtain ⟨w, M, R, h1, h2, h3, h4⟩ := q.at (List.nodup_cons.mp nd).2 hc
    refine ⟨w, M, _ :: R, ?_, h2, perm_in h3, fun k n r' => ?_⟩
    · simp only [kidV, h]
      rw [valV_idx, e.1, show idxK _ _ = some j from hj]
      exact h1
    · obtain ⟨L', h5, h6⟩ := h4 k n r'
      exact ⟨_ :: L', .dow (k.keep _ _ h (own h3 nd n)) e h5, (List.Perm.cons _ h6).trans (List.perm_middle.symm)⟩
  | tow h e q =>
    cases s <;> (first | (cases hj; done) | skip)
    obtain ⟨w, M, R, h1, h2, h3, h4⟩ := q.at (List.nodup_cons.mp nd).2 hc
    refine ⟨w, M, _ :: R, ?_, h2, perm_in h3, fun k n r' => ?_⟩
    · simp only [kidV, h]
      rw [valV_idx, e.1, show idxK _ _ = some j from hj]
      exact h1
    · obtain ⟨L', h5, h6⟩ := h4 k n r'
      exact ⟨_ :: L', .tow (k.keep _ _ h (own h3 nd n)) e h5, (List.Perm.cons _ h6).trans (List.perm_middle.symm)⟩
  | oow h e q =>
    cases s <;> (first | (cases hj; done) | skip)
    obtain ⟨w, M, R, h1, h2, h3, h4⟩ := q.at (List.nodup_cons.mp nd).2 hc
    refine ⟨w, M, _ :: R, ?_, h2, perm_in h3, fun k n r' => ?_⟩
    · simp only [kidV, h]
      rw [lookup_idx, e, show idxK _ _ = some j from hj]
      exact h1
    · obtain ⟨L', h5, h6⟩ := h4 k n r'
      exact ⟨_ :: L', .oow (k.keep _ _ h (own h3 nd n)) e h5, (List.Perm.cons _ h6).trans (List.perm_middle.symm)⟩
  | non => cases s <;> cases hj
  | bl _ => cases s <;> cases hj
  | int _ => cases s <;> cases hj
  | str _ => cases s <;> cases hj
  | scr _ => cases s <;> cases hj
  | unk => cases s <;> cases hj
  | hole _ => cases s <;> cases hj
  | exn _ _ _ _ => cases s <;> cases hj
  | fro _ _ _ => cases s <;> cases hj
  | dfr _ _ _ _ => cases s <;> cases hj
  | tfr _ _ _ _ => cases s <;> cases hj
  | ofr _ _ _ _ => cases s <;> cases hj
/-- what stands at a place, and that the whole stands when that is changed -/
theorem Rep.focus : ∀ {p : List Stp} {v : V} {d c : D} {L : List Addr}, Rep K Er F H v d L → L.Nodup → atP p d = some c →
    ∃ w M R, valAt H p v = some w ∧ Rep K Er F H w c M ∧ (M ++ R).Perm L ∧ ∀ {F' : Addr → Prop} {H' : Hp} {N : Addr → Prop} {c' : D} {M' : List Addr}, Kp N F H F' H' → (∀ a, N a → a ∈ M) → Rep K Er F' H' w c' M' → ∃ L', Rep K Er F' H' v (setP p c' d) L' ∧ L'.Perm (M' ++ R)
  | [], v, d, c, L, r, nd, e => by
    cases e
    exact ⟨v, L, [], rfl, r, by rw [List.append_nil], fun k n r' => ⟨_, r', by rw [List.append_nil]⟩⟩
  | s :: p, v, d, c, L, r, nd, e => by
    simp only [atP] at e
    cases hs : stepD s d with
    | none => rw [hs] at e; cases e
    | some c1 =>
      rw [hs] at e
      obtain ⟨j, hj, hc⟩ := stepD_some hs
      obtain ⟨w1, M1, R1, h1, r1, p1, g1⟩ := r.kid nd hj hc
      have nd1 : M1.Nodup := (List.nodup_append.mp (p1.nodup_iff.mpr nd)).1
      obtain ⟨w, M, R, h2, r2, p2, g2⟩ := Rep.focus r1 nd1 e
      refine ⟨w, M, R ++ R1, ?_, r2, ?_, fun k n r' => ?_⟩
      · simp only [valAt, h1]
        exact h2
      · rw [← List.append_assoc]
        exact ((List.perm_append_right_iff _).mpr p2).trans p1
      · obtain ⟨L1, h3, p3⟩ := g2 k n r'
        obtain ⟨L2, h4, p4⟩ := g1 k (fun a z => p2.subset (List.mem_append_left _ (n a z))) h3
        refine ⟨L2, ?_, p4.trans ?_⟩
        · simp only [setP, hj, hc]
          exact h4
        · rw [← List.append_assoc]
          exact (List.perm_append_right_iff _).mpr p3
end
end VI
set_option maxRecDepth 100000
set_option maxHeartbeats 2000000
/-! VJ: attributes, places, what is changed there. -/
namespace VI
open PySem PySem.Spec PyProof.Rows L2 RZ

/-- what the text says of its classes -/
structure ClsF (K : PySem.W.Frag) (r : ClsR) : Prop where
  cl : Cls K (He.ga K r.nm)
  na : ∀ f ∈ r.flds, NoAttr K (He.ga K r.nm) f
def ClsOk (K : PySem.W.Frag) (cls : List ClsR) : Prop := ∀ r ∈ cls, ClsF K r
theorem fldOk_ok {K : PySem.W.Frag} {cls : List ClsR} (C : ClsOk K cls) {c f : Str} (h : fldOk cls c f = true) : Cls K (He.ga K c) ∧ NoAttr K (He.ga K c) f := by
  unfold fldOk at h
  split at h
  · rename_i r hr
    have hm := List.mem_of_find?_eq_some hr
    have hn : r.nm = c := by simpa using List.find?_some hr
    subst hn
    exact ⟨(C r hm).cl, (C r hm).na f (by simpa using h)⟩
  · cases h
section
variable {K : PySem.W.Frag} {Er : EE} {F F' F1 F2 : Addr → Prop} {H H' H1 H2 H3 : Hp} {v x y : V} {dx dy d : D} {L L' Lx Ly : List Addr} {e e' e1 : Env} {σ σ' : L2.St} {Ls Ls' Ls1 Ls2 : Nat → List Addr} {U T : List Addr}
variable {Wf : Bool → Nat → L2.St → Hp → Prop} {ms m m1 m2 p hot : Bool} {rt : Option Nat} {Q : VK} {P : Par} {D0 D1 : Ends} {N N' : L2.St → Hp → Prop}
variable {X : Cx} {l r : Expr} {pos : Pos} {a b c as : C} {st : Stmt} {sts : List Stmt} {es : List Expr}
/-- a part of what is looked at is told -/
theorem part_fin (S : Sx K Er F H e σ Ls) (R : Rep K Er F H v d L) (hU : ∀ x ∈ L, x ∈ U) (hv : ∀ x ∈ L, In Ls x → ¬ F x → ∃ i, root a = some i ∧ x ∈ Ls i)
    (q : PostE K Er Wf m F H Ls U σ p (root a) (if p || lf d then .ok d e else .ok (frz d) (fz e (root a))) Q) : Q v H := by
  cases hp : p || lf d with
  | true =>
    simp only [hp, if_true] at q
    cases p with
    | true =>
      refine q v F H Ls L ⟨fun _ _ z _ => z, fun _ z => z, fun _ z => z, fun _ z => .inr (.inr (.inl z)), fun x z => z.elim .inl fun z => .inr (.inl (hU x z)), fun _ _ _ z => z⟩ S R ?_
      exact hv
    | false =>
      have e0 := R.lf (by simpa using hp)
      subst e0
      exact fin0 S q R
  | false =>
    simp only [hp, if_false, Bool.false_eq_true] at q
    have hpf : p = false := by cases p; rfl; simp at hp
    subst hpf
    obtain ⟨F3, Ls3, e3, ds3, hh1, hh2, S3, E3, R3⟩ := shr_ok (rs := [root a]) (ds := [d]) (vs := [v]) S (.cons (M := []) R .nil) (by rw [List.append_nil]; exact hU) (by rw [List.append_nil]; exact fun x hx hi nf => let ⟨i, h1, h2⟩ := hv x hx hi nf; ⟨i, by simp [h1], h2⟩)
    have hl : lf d = false := by simpa using hp
    have h2' : shr [root a] (.tup [d]) e = .ok (.tup [frz d]) (fz e (root a)) := by simp [shr, inLf, lfL, hl, frzIn, frzL]
    rw [h2'] at hh2
    cases hh2
    obtain ⟨v', hv', R4⟩ := R3.one'
    cases hv'
    exact fin0 S3 (PostE.step (m1 := false) (m2 := m) (fun z => Bool.noConfusion z) id E3 q) R4
theorem idxK_mem {κ : Type} [DecidableEq κ] {ks : List κ} {k : κ} {j : Nat} (h : idxK ks k = some j) : k ∈ ks := by
  obtain ⟨hj, h1, _⟩ := List.findIdx?_eq_some_iff_getElem.mp h
  rw [← of_decide_eq_true h1]
  exact List.getElem_mem hj
theorem E_fld {f : Str} (C : ClsOk X.K P.cls) (hs : noSup l = true) (ha : PE X l (tE X.K Er Wf P a true)) : PE X (.Attribute l f pos) (tE X.K Er Wf P (.fld a f) p) :=
  (pe_fldX ha (attr_plain hs _ _)).imp fun σ H Q ⟨F, e, Ls, s, q⟩ => by
    simp only [ev] at q
    refine opnd s (m2 := mu (.fld a f)) id id q fun d1 e1 v1 F1 H1 Ls1 L1 E1 S1 R1 O1 q1 => ?_
    cases hd : fldD P.cls d1 f with
    | none => rw [hd] at q1; exact q1.elim
    | some d =>
      rw [hd] at q1
      unfold fldD at hd
      split at hd
      · rename_i mm cn fs xs
        split at hd
        · rename_i hk
          obtain ⟨cl, na⟩ := fldOk_ok C hk
          obtain ⟨a', dx, fvs, M, rfl, h1, h2, r1, s1⟩ := R1.obj'
          unfold getK at hd
          cases hj : idxK fs f with
          | none => rw [hj] at hd; cases hd
          | some j =>
            rw [hj] at hd
            obtain ⟨w, M2, hw, r2, s2⟩ := r1.get hd
            refine .inl ⟨a', _, dx, fvs, w, rfl, h1, cl, na, ?_, ?_⟩
            · rw [lookup_idx, h2, hj]; exact hw
            · have sub := s2.trans s1
              exact part_fin S1 r2 (fun x hx => by simpa using sub.subset hx) (fun x hx hi nf => (ov_t O1) x (sub.subset hx) hi nf) q1
        · cases hd
      · rename_i cn fs xs
        obtain ⟨a', fvs, rfl, hS, hX, h2, r1⟩ := R1.exn'
        unfold getK at hd
        cases hj : idxK fs f with
        | none => rw [hj] at hd; cases hd
        | some j =>
          rw [hj] at hd
          obtain ⟨w, M2, hw, r2, sub⟩ := r1.get hd
          refine .inr ⟨a', cn, fvs, fs, w, rfl, hS, idxK_mem hj, hX, ?_, ?_⟩
          · rw [lookup_idx, h2, hj]; exact hw
          · exact part_fin S1 r2 (fun x hx => by simpa using sub.subset hx) (fun x hx hi nf => (ov_t O1) x (sub.subset hx) hi nf) q1
      · cases hd
/-! ### places -/
def tPl (K : PySem.W.Frag) (Er : EE) (Wf : Bool → Nat → L2.St → Hp → Prop) (P : Par) (c : C) : TE := fun σ H Q => ∃ F e Ls, Sx K Er F H e σ Ls ∧ match evPl P c e with
  | .ok ip e' => ∀ v v0 F' H' Ls', Eff (mu c) F H Ls [] F' H' Ls' [] → Sx K Er F' H' e' σ Ls' → σ[ip.1]? = some (some v0) → valAt H' ip.2 v0 = some v → Q v H'
  | .ex c' h e' => ExP K Er Wf (mu c) F H Ls [] σ h c' e'
  | .stuck => False
/-- what stands at a place -/
theorem Sx.place (s : Sx K Er F H e σ Ls) {ip : Nat × List Stp} {c : D} (h : plD e ip = some c) : ∃ v0 w M R d0, e[ip.1]? = some (some d0) ∧ σ[ip.1]? = some (some v0) ∧ valAt H ip.2 v0 = some w ∧ Rep K Er F H w c M ∧ (M ++ R).Perm (Ls ip.1) ∧
    ∀ {F' : Addr → Prop} {H' : Hp} {N : Addr → Prop} {c' : D} {M' : List Addr}, Kp N F H F' H' → (∀ a, N a → a ∈ M) → Rep K Er F' H' w c' M' → ∃ L', Rep K Er F' H' v0 (setP ip.2 c' d0) L' ∧ L'.Perm (M' ++ R) := by
  unfold plD at h
  split at h
  · rename_i d0 he
    obtain ⟨v0, hσ, r⟩ := s.rep _ _ he
    obtain ⟨w, M, R, h1, h2, h3, h4⟩ := r.focus (s.nd _) h
    exact ⟨v0, w, M, R, d0, he, hσ, h1, h2, h3, h4⟩
  · cases h
theorem setPl_get {e : Env} {ip : Nat × List Stp} {x : D} {j : Nat} : (setPl e ip x)[j]? = if ip.1 = j then (e[j]?).map (Option.map (setP ip.2 x)) else e[j]? := by
  unfold setPl
  rw [List.getElem?_modify]
  split <;> rename_i h
  · subst h; cases e[ip.1]? <;> rfl
  · cases e[j]? <;> rfl
/-- .. is changed -/
theorem Sx.change (s : Sx K Er F H e σ Ls) {ip : Nat × List Stp} {c : D} {w : V} {M R : List Addr} {v0 : V} {d0 : D} (he : e[ip.1]? = some (some d0)) (hσ : σ[ip.1]? = some (some v0)) (rM : Rep K Er F H w c M) (pm : (M ++ R).Perm (Ls ip.1))
    (re : ∀ {F' : Addr → Prop} {H' : Hp} {N : Addr → Prop} {c' : D} {M' : List Addr}, Kp N F H F' H' → (∀ a, N a → a ∈ M) → Rep K Er F' H' w c' M' → ∃ L', Rep K Er F' H' v0 (setP ip.2 c' d0) L' ∧ L'.Perm (M' ++ R))
    {c' : D} {M' : List Addr} (kp : ∀ a o, H a = some o → a ∉ M → H' a = some o) (fm : ∀ a, F a → F' a) (fn : ∀ a, F' a → F a ∨ a ∈ M ∨ ¬ In Ls a) (fa : ∀ a, F' a → H' a ≠ none)
    (r' : Rep K Er F' H' w c' M') (nd : M'.Nodup) (no : ∀ a ∈ M', a ∉ R ∧ (∀ j, j ≠ ip.1 → a ∉ Ls j) ∧ ¬ F' a) :
    ∃ L', L'.Perm (M' ++ R) ∧ Sx K Er F' H' (setPl e ip c') σ (up Ls ip.1 L') := by
  have inM : ∀ a ∈ M, a ∈ Ls ip.1 := fun a h => pm.subset (List.mem_append_left _ h)
  have inR : ∀ a ∈ R, a ∈ Ls ip.1 := fun a h => pm.subset (List.mem_append_right _ h)
  have nMR := List.nodup_append.mp (pm.nodup_iff.mpr (s.nd ip.1))
  have k : Kp (fun a => a ∈ M) F H F' H' := ⟨kp, fun a h => rM.cell a h, fm, fun a h => s.nf _ a (inM a h)⟩
  obtain ⟨L', rep', pm'⟩ := re k (fun _ h => h) r'
  have nR : ∀ a ∈ R, ¬ F' a := fun a h z => by
    rcases fn a z with w | w | w
    · exact s.nf _ a (inR a h) w
    · exact nMR.2.2 a w a h rfl
    · exact w ⟨_, inR a h⟩
  have oth : ∀ j, j ≠ ip.1 → ∀ a ∈ Ls j, ¬ F' a := fun j hj a h z => by
    rcases fn a z with w | w | w
    · exact s.nf _ a h w
    · exact hj (s.dj j ip.1 a h (inM a w))
    · exact w ⟨_, h⟩
  have sub : ∀ a ∈ L', (a ∈ M' ∨ a ∈ R) := fun a h => List.mem_append.mp (pm'.subset h)
  refine ⟨L', pm', ⟨?_, fun j d h => ?_, fun j h => ?_, fun j => ?_, fun j j' a h1 h2 => ?_, fun j a h => ?_, fa, s.fx⟩⟩
  · unfold setPl
    rw [List.length_modify]; exact s.len
  · rw [setPl_get] at h
    by_cases z : ip.1 = j
    · subst z
      rw [if_pos rfl, he] at h
      cases h
      exact ⟨v0, hσ, by rw [up_same]; exact rep'⟩
    · rw [if_neg z] at h
      obtain ⟨v, a, r⟩ := s.rep j d h
      rw [up_ne fun w => z w.symm]
      exact ⟨v, a, r.kp k fun a ha w => z (s.dj ip.1 j a (inM a w) ha)⟩
  · by_cases z : j = ip.1
    · subst z
      exact absurd (by rw [setPl_get, if_pos rfl, he]; rfl) (h (setP ip.2 c' d0))
    · rw [up_ne z]
      refine s.emp j fun d q => h d ?_
      rw [setPl_get, if_neg fun w => z w.symm]; exact q
  · by_cases z : j = ip.1
    · subst z
      rw [up_same]
      refine pm'.nodup_iff.mpr (List.nodup_append.mpr ⟨nd, nMR.2.1, fun a h b h' q => (no a h).1 (q ▸ h')⟩)
    · rw [up_ne z]; exact s.nd j
  · have one : ∀ j, j ≠ ip.1 → ∀ a ∈ L', a ∉ Ls j := fun j hj a h w => by
      rcases sub a h with q | q
      · exact (no a q).2.1 j hj w
      · exact hj (s.dj j ip.1 a w (inR a q))
    by_cases z : j = ip.1
    · by_cases z' : j' = ip.1
      · rw [z, z']
      · rw [z, up_same] at h1
        rw [up_ne z'] at h2
        exact absurd h2 (one j' z' a h1)
    · by_cases z' : j' = ip.1
      · rw [z', up_same] at h2
        rw [up_ne z] at h1
        exact absurd h1 (one j z a h2)
      · rw [up_ne z] at h1; rw [up_ne z'] at h2
        exact s.dj j j' a h1 h2
  · by_cases z : j = ip.1
    · subst z
      rw [up_same] at h
      rcases sub a h with q | q
      · exact (no a q).2.2
      · exact nR a q
    · rw [up_ne z] at h; exact oth j z a h
theorem Eff.change {i : Nat} {M R L' M' : List Addr} (pm : (M ++ R).Perm (Ls i)) (pm' : L'.Perm (M' ++ R)) (kp : ∀ a o, H a = some o → a ∉ M → H' a = some o) (live : ∀ a, H a ≠ none → H' a ≠ none) (fm : ∀ a, F a → F' a) (fn : ∀ a, F' a → F a ∨ a ∈ M ∨ a ∈ U ∨ H a = none)
    (hM : ∀ a ∈ M', a ∈ M ∨ a ∈ U ∨ H a = none) (hT : ∀ a ∈ T, a ∈ M ∨ a ∈ U ∨ H a = none) : Eff true F H Ls U F' H' (up Ls i L') T where
  keep := fun a o h n => kp a o h fun z => (n rfl).1 ⟨i, pm.subset (List.mem_append_left _ z)⟩
  live := live
  fm := fm
  fn := fun a z => by
    rcases fn a z with w | w | w | w
    · exact .inr (.inr (.inl w))
    · exact .inl ⟨i, pm.subset (List.mem_append_left _ w)⟩
    · exact .inr (.inl w)
    · exact .inr (.inr (.inr w))
  sub := fun a z => by
    have one : (a ∈ M ∨ a ∈ U ∨ H a = none) → In Ls a ∨ a ∈ U ∨ H a = none := fun z => by
      rcases z with w | w | w
      · exact .inl ⟨i, pm.subset (List.mem_append_left _ w)⟩
      · exact .inr (.inl w)
      · exact .inr (.inr w)
    rcases z with z | z
    · rcases z.up with z | ⟨j, _, z⟩
      · rcases List.mem_append.mp (pm'.subset z) with z | z
        · exact one (hM a z)
        · exact .inl ⟨i, pm.subset (List.mem_append_right _ z)⟩
      · exact .inl ⟨j, z⟩
    · exact one (hT a z)
  shr := fun z => Bool.noConfusion z
end
end VI
set_option maxRecDepth 100000
set_option maxHeartbeats 4000000
/-! VJ: places' rules; lists changed where they stand. -/
namespace VI
open PySem PySem.Spec PyProof.Rows L2 RZ
section
variable {K : PySem.W.Frag} {Er : EE} {F F' F1 F2 : Addr → Prop} {H H' H1 H2 H3 : Hp} {v x y : V} {dx dy d : D} {L L' Lx Ly : List Addr} {e e' e1 : Env} {σ σ' : L2.St} {Ls Ls' Ls1 Ls2 : Nat → List Addr} {U T : List Addr}
variable {Wf : Bool → Nat → L2.St → Hp → Prop} {ms m m1 m2 p hot : Bool} {rt : Option Nat} {Q : VK} {P : Par} {D0 D1 : Ends} {N N' : L2.St → Hp → Prop}
variable {X : Cx} {l r : Expr} {pos : Pos} {a b c as : C} {st : Stmt} {sts : List Stmt} {es : List Expr}
theorem Pl_get {i : Nat} {n : Str} (hN : X.N[i]? = some n) (hv : Vis X.env.scope n) (hd : (n == ("__debug__" : Str)) = false) (hcd : (n == ("__classdict__" : Str)) = false) : PE X (.Name n pos) (tPl X.K Er Wf P (.get i)) :=
  (pe_var hN hv hd hcd).imp fun σ H Q ⟨F, e, Ls, s, q⟩ => by
    simp only [evPl] at q
    cases he : e[i]? with
    | none => rw [he] at q; exact q.elim
    | some o =>
      cases o with
      | none => rw [he] at q; exact q.elim
      | some d =>
        rw [he] at q
        obtain ⟨v, hσ, r⟩ := s.rep i d he
        exact ⟨v, hσ, q v v F H Ls (Eff.refl.mono fun z => Bool.noConfusion z) s hσ rfl⟩
/-- what stands at a place is the value there -/
theorem place_at (s : Sx K Er F H e σ Ls) {ip : Nat × List Stp} {c : D} {v v0 : V} (h : plD e ip = some c) (hσ : σ[ip.1]? = some (some v0)) (hv : valAt H ip.2 v0 = some v) : ∃ M, Rep K Er F H v c M ∧ M.Nodup ∧ ∀ a ∈ M, a ∈ Ls ip.1 := by
  obtain ⟨v0', w, M, R, d0, _, h2, h3, h4, h5, _⟩ := s.place h
  rw [hσ] at h2; cases h2
  rw [hv] at h3; cases h3
  exact ⟨M, h4, (List.nodup_append.mp (h5.nodup_iff.mpr (s.nd _))).1, fun a z => h5.subset (List.mem_append_left _ z)⟩
theorem Pl_fld {f : Str} (C : ClsOk X.K P.cls) (hs : noSup l = true) (ha : PE X l (tPl X.K Er Wf P a)) : PE X (.Attribute l f pos) (tPl X.K Er Wf P (.fld a f)) :=
  (pe_fld ha (attr_plain hs _ _)).imp fun σ H Q ⟨F, e, Ls, s, q⟩ => by
    simp only [evPl] at q
    refine ⟨F, e, Ls, s, ?_⟩
    cases hr : evPl P a e with
    | stuck => rw [hr] at q; exact q.elim
    | ex c h e1 => rw [hr] at q; exact q
    | ok ip e1 =>
      rw [hr] at q
      intro v v0 F1 H1 Ls1 E1 S1 hσ hv
      simp only [R.bind] at q
      cases hp : plD e1 ip with
      | none => rw [hp] at q; exact q.elim
      | some dd =>
        rw [hp] at q
        cases dd <;> (first | exact q.elim | skip)
        rename_i mm cn fs xs
        cases mm with
        | false => exact q.elim
        | true =>
          dsimp only at q
          cases hk : (fldOk P.cls cn f && (idxK fs f).isSome) with
          | false => rw [hk] at q; exact q.elim
          | true =>
            rw [hk, if_pos rfl] at q
            rw [Bool.and_eq_true] at hk
            obtain ⟨cl, na⟩ := fldOk_ok C hk.1
            obtain ⟨M, r, nd, _⟩ := place_at S1 hp hσ hv
            obtain ⟨j, hj⟩ := Option.isSome_iff_exists.mp hk.2
            obtain ⟨a', dx, fvs, M1, rfl, h, e', q', _⟩ := r.obj'
            have hl : j < xs.length := by
              have := idxK_lt hj
              rw [← q'.len, List.length_map]
              rw [← e', List.length_map] at this
              exact this
            obtain ⟨w, M2, hw, _, _⟩ := q'.get (List.getElem?_eq_getElem hl)
            have hlk : fvs.lookup f = some w := by rw [lookup_idx, e', hj]; exact hw
            refine ⟨a', _, dx, fvs, w, rfl, h, cl, na, hlk, q w v0 F1 H1 Ls1 E1 S1 hσ ?_⟩
            rw [valAt_snoc, hv]
            simp only [Option.bind, kidV, h]
            exact hlk
/-- how many parts a thing ought to have -/
def kn : D → Nat
  | .dct _ ks _ => ks.length
  | .dtt _ ks _ => ks.length
  | d => (kids d).length
theorem stpOf_kid {d k : D} {s : Stp} (h : stpOf d k = some s) : ∃ j c, kidIx s d = some j ∧ ((kids d).length = kn d → (kids d)[j]? = some c) := by
  unfold stpOf at h
  have ixN_lt : ∀ {n : Nat} {i : Int} {j : Nat}, ixN n i = some j → j < n := fun {n i j} e => by
    unfold ixN at e
    split at e
    · split at e
      · cases e; omega
      · cases e
    · split at e
      · cases e; omega
      · cases e
  split at h
  · obtain ⟨j, h1, rfl⟩ := Option.map_eq_some_iff.mp h
    exact ⟨j, _, rfl, fun _ => List.getElem?_eq_getElem (ixN_lt h1)⟩
  · obtain ⟨j, h1, rfl⟩ := Option.map_eq_some_iff.mp h
    exact ⟨j, _, rfl, fun _ => List.getElem?_eq_getElem (ixN_lt h1)⟩
  · rename_i y ks xs
    obtain ⟨k', h1, h2⟩ := Option.bind_eq_some_iff.mp h
    split at h2
    · rename_i hk
      cases h2
      obtain ⟨j, hj⟩ := Option.isSome_iff_exists.mp hk
      cases hx : xs[j]? with
      | some c => exact ⟨j, c, hj, fun _ => hx⟩
      | none => exact ⟨j, .non, hj, fun z => absurd (idxK_lt hj) (by
          have := List.getElem?_eq_none_iff.mp hx
          simp only [kn, kids] at z
          omega)⟩
    · cases h2
  · rename_i ks xs ys
    obtain ⟨k', h1, h2⟩ := Option.bind_eq_some_iff.mp h
    split at h2
    · rename_i hk
      cases h2
      obtain ⟨j, hj⟩ := Option.isSome_iff_exists.mp hk
      cases hx : xs[j]? with
      | some c => exact ⟨j, c, hj, fun _ => hx⟩
      | none => exact ⟨j, .non, hj, fun z => absurd (idxK_lt hj) (by
          have := List.getElem?_eq_none_iff.mp hx
          simp only [kn, kids] at z
          omega)⟩
    · cases h2
  · cases h
theorem stp_val {w y : V} {d k : D} {s : Stp} {M N : List Addr} (r : Rep K Er F H w d M) (nd : M.Nodup) (ry : Rep K Er F H y k N) (h : stpOf d k = some s) : ∃ u, kidV H s w = some u ∧ ∀ Q : VK, Q u H → rIxA K w y H Q := by
  have atI_of : ∀ {vs : List V} {n : Nat} {i : Int} {j : Nat} {u : V}, n = vs.length → ixN n i = some j → vs[j]? = some u → atI vs i = some u := fun {vs n i j u} hn h1 h2 => by
    unfold atI
    rw [← hn, h1]
    exact h2
  obtain ⟨j, c, hj, hc⟩ := stpOf_kid h
  have lens : (kids d).length = kn d := by
    cases r <;> (first | rfl | skip)
    all_goals
      rename_i e q
      have := q.len
      rw [List.length_map] at this
      simp only [kids, kn]
      rw [← this, ← e.1, List.length_map]
  obtain ⟨u, M1, R1, hu, ru, _, _⟩ := r.kid nd hj (hc lens)
  refine ⟨u, hu, fun Q q => ?_⟩
  unfold stpOf at h
  split at h
  · obtain ⟨j', h1, rfl⟩ := Option.map_eq_some_iff.mp h
    obtain ⟨a, vs, rfl, h2, r2⟩ := r.tup'
    obtain ⟨rfl, _⟩ := ry.int'
    simp only [kidV, h2] at hu
    exact .inl (.inr (.inl ⟨a, vs, _, u, rfl, rfl, sqT_of h2, atI_of r2.len.symm h1 hu, q⟩))
  · obtain ⟨j', h1, rfl⟩ := Option.map_eq_some_iff.mp h
    obtain ⟨rfl, _⟩ := ry.int'
    cases r with
    | own h2 r2 =>
      simp only [kidV, h2] at hu
      exact .inl (.inl ⟨_, _, _, u, rfl, rfl, .inl (.inl h2), atI_of r2.len.symm h1 hu, q⟩)
  · obtain ⟨k', h1, h2⟩ := Option.bind_eq_some_iff.mp h
    split at h2
    · cases h2
      obtain ⟨rfl, _⟩ := Rep.keyD ry h1
      cases r with
      | dow h3 e r2 =>
        simp only [kidV, h3] at hu
        exact .inr ⟨_, u, rfl, .inl ⟨_, k', .inl h3, rfl, hu.symm⟩, q⟩
    · cases h2
  · obtain ⟨k', h1, h2⟩ := Option.bind_eq_some_iff.mp h
    split at h2
    · cases h2
      obtain ⟨b, vs, rfl, h4, r4⟩ := ry.tup'
      obtain ⟨rfl, _⟩ := Reps.keysD r4 h1
      cases r with
      | tow h3 e r2 =>
        simp only [kidV, h3] at hu
        exact .inr ⟨_, u, rfl, .inr ⟨_, k', b, .inl h3, rfl, h4, hu.symm⟩, q⟩
    · cases h2
  · cases h
theorem Pl_idx (hu : X.A.units + 64 < cLine) (hr : plain r = true) (ha : PE X l (tPl X.K Er Wf P a)) (hb : PE X r (tE X.K Er Wf P b true)) (hm : mu b = false) (hma : mu a = false) : PE X (.Subscript l r pos) (tPl X.K Er Wf P (.idx a b)) :=
  (pe_ix (ix_all (by omega)) ha hb (plainIx_plain hr)).imp fun σ H Q ⟨F, e, Ls, s, q⟩ => by
    have hmm : mu (.idx a b) = false := by simp [mu, hm, hma]
    simp only [evPl] at q
    refine ⟨F, e, Ls, s, ?_⟩
    cases hra : evPl P a e with
    | stuck => rw [hra] at q; exact q.elim
    | ex c h e1 => rw [hra] at q; exact ExP.weak (fun z => by rw [hma] at z; cases z) q
    | ok ip e1 =>
      rw [hra] at q
      intro v v0 F1 H1 Ls1 E1 S1 hσ hv
      replace E1 : Eff false F H Ls [] F1 H1 Ls1 [] := toF hma E1
      refine ⟨F1, e1, Ls1, S1, ?_⟩
      simp only [R.bind] at q
      cases hrb : ev P b true e1 with
      | stuck => rw [hrb] at q; exact q.elim
      | ex c h e2 =>
        rw [hrb] at q
        exact fun F' H' Ls' E2 S2 => q F' H' Ls' (((E1.trans (U := []) (mu2 := false) (toF hm E2)).mono fun z => Bool.noConfusion z)) S2
      | ok k e2 =>
        rw [hrb] at q
        intro y F2 H2 Ls2 L2 E2 S2 R2 O2
        dsimp only at q
        cases hst : (plD e2 ip).bind fun d => stpOf d k with
        | none => rw [hst] at q; exact q.elim
        | some st =>
          rw [hst] at q
          obtain ⟨c, hc, hs⟩ := Option.bind_eq_some_iff.mp hst
          have sm : Same H1 H2 := fun a o h => (toF hm E2).all.1 a o h
          have hv2 := valAt_mono sm hv
          obtain ⟨M, rM, nd, _⟩ := place_at S2 hc hσ hv2
          obtain ⟨u, hu2, fin⟩ := stp_val rM nd R2 hs
          refine fin Q (q u v0 F2 H2 Ls2 ?_ S2 hσ ?_)
          · have z := (E1.trans (U := []) (mu2 := false) (toF hm E2)).less (T1 := []) fun _ z => nomatch z
            exact z.mono fun z => Bool.noConfusion z
          · rw [valAt_snoc, hv2]
            exact hu2
/-! ### lists changed -/
/-- what a change of a list asks of its rule -/
def MopOk (o : Mop) (rr : V → List V → Hp → VK → Prop) : Prop := ∀ {K : PySem.W.Frag} {Er : EE} {F : Addr → Prop} {H : Hp} {w : V} {d d' : D} {M L : List Addr} {vs : List V} {xs : List D},
  Rep K Er F H w d M → M.Nodup → (∀ a ∈ M, ¬ F a) → Reps K Er F H vs xs L → L.Nodup → (∀ a ∈ L, a ∉ M) → mopF o d xs = some d' →
  ∃ a ho M', w = .ref a ∧ a ∈ M ∧ (∀ Q : VK, Q .non (upd H a ho) → rr w vs H Q) ∧ Rep K Er F (upd H a ho) w d' M' ∧ M'.Nodup ∧ ∀ z ∈ M', z ∈ M ∨ z ∈ L
theorem upd_kp {a : Addr} {u ho : HO} (h : H a = some u) (c : cellH u = true) (nf : ¬ F a) : Kp (fun z => z = a) F H F (upd H a ho) := ⟨fun y u q n => by rw [upd_ne n]; exact q, fun y z => by subst z; exact ⟨_, h, c⟩, fun _ h => h, fun y z => by subst z; exact nf⟩
theorem mop_app : MopOk .app (rAppend) := by
  intro K Er F H w d d' M L vs xs r nd nf rs ndL dj h
  unfold mopF at h
  split at h <;> (first | (cases h; done) | skip)
  all_goals (first | (rename_i heq; cases heq; done) | skip)
  · split at h
    · rename_i hz
      cases h
      obtain ⟨v, rfl, r1⟩ := rs.one'
      cases r with
      | own h1 r2 =>
        rename_i a ws L2
        have n2 := List.nodup_cons.mp nd
        have k := upd_kp (F := F) (ho := .lst (ws ++ [v])) h1 rfl (nf _ List.mem_cons_self)
        refine ⟨a, .lst (ws ++ [v]), a :: (L2 ++ L), rfl, List.mem_cons_self, fun Q q => ⟨a, ws, v, rfl, rfl, h1, by rw [r2.len]; exact most_lt hz, q⟩, .own upd_same ?_, ?_, fun z hz' => ?_⟩
        · have := (r2.kp k fun z hz' e => n2.1 (e ▸ hz')).append (.cons (r1.kp k fun z hz' e => dj z hz' (e ▸ List.mem_cons_self)) .nil)
          rw [List.append_nil] at this
          exact this
        · refine List.nodup_cons.mpr ⟨fun z => ?_, List.nodup_append.mpr ⟨n2.2, ndL, fun z hz' y hy e => dj y hy (e ▸ List.mem_cons_of_mem _ hz')⟩⟩
          rcases List.mem_append.mp z with z | z
          · exact n2.1 z
          · exact dj _ z List.mem_cons_self
        · rcases List.mem_cons.mp hz' with z | z
          · exact .inl (z ▸ List.mem_cons_self)
          · rcases List.mem_append.mp z with z | z
            · exact .inl (List.mem_cons_of_mem _ z)
            · exact .inr z
    · cases h
end
end VI
set_option maxRecDepth 100000
set_option maxHeartbeats 4000000
/-! VJ: lists, dicts, attributes changed at a place. -/
namespace VI
open PySem PySem.Spec PyProof.Rows L2 RZ
section
variable {K : PySem.W.Frag} {Er : EE} {F F' F1 F2 : Addr → Prop} {H H' H1 H2 H3 : Hp} {v x y : V} {dx dy d : D} {L L' Lx Ly : List Addr} {e e' e1 : Env} {σ σ' : L2.St} {Ls Ls' Ls1 Ls2 : Nat → List Addr} {U T : List Addr}
variable {Wf : Bool → Nat → L2.St → Hp → Prop} {ms m m1 m2 p hot : Bool} {rt : Option Nat} {Q : VK} {P : Par} {D0 D1 : Ends} {N N' : L2.St → Hp → Prop}
variable {X : Cx} {l r : Expr} {pos : Pos} {a b c as pl : C} {st : Stmt} {sts : List Stmt} {es : List Expr}
theorem mop_lst {o : Mop} {rr : V → List V → Hp → VK → Prop}
    (go : ∀ {d d' : D} {xs : List D}, mopF o d xs = some d' → ∃ ys ys', d = .lst true ys ∧ d' = .lst true ys' ∧ ∀ {K : PySem.W.Frag} {Er : EE} {F : Addr → Prop} {H : Hp} {ws : List V} {L2' L : List Addr} {vs : List V}, Reps K Er F H ws ys L2' → Reps K Er F H vs xs L →
      ∃ us M, Reps K Er F H us ys' M ∧ (∃ R, (M ++ R).Perm (L2' ++ L)) ∧ ∀ (a : Addr) (Q : VK), H a = some (.lst ws) → Q .non (upd H a (.lst us)) → rr (.ref a) vs H Q) : MopOk o rr := by
  intro K Er F H w d d' M L vs xs r nd nf rs ndL dj h
  obtain ⟨ys, ys', rfl, rfl, g⟩ := go h
  cases r with
  | own h1 r2 =>
    rename_i a ws L2
    have n2 := List.nodup_cons.mp nd
    obtain ⟨us, M2, r3, ⟨R, pm⟩, fin⟩ := g r2 rs
    have k := upd_kp (F := F) (ho := .lst us) h1 rfl (nf _ List.mem_cons_self)
    have sub : ∀ z ∈ M2, z ∈ L2 ∨ z ∈ L := fun z hz => List.mem_append.mp (pm.subset (List.mem_append_left _ hz))
    have ndA : (L2 ++ L).Nodup := List.nodup_append.mpr ⟨n2.2, ndL, fun z hz y hy e => dj y hy (e ▸ List.mem_cons_of_mem _ hz)⟩
    have na : a ∉ M2 := fun z => (sub a z).elim n2.1 fun z => dj a z List.mem_cons_self
    refine ⟨a, .lst us, a :: M2, rfl, List.mem_cons_self, fun Q q => fin a Q h1 q, .own upd_same (r3.kp k fun z hz e => na (e ▸ hz)), ?_, fun z hz => ?_⟩
    · exact List.nodup_cons.mpr ⟨na, (List.nodup_append.mp (pm.nodup_iff.mpr ndA)).1⟩
    · rcases List.mem_cons.mp hz with z' | z'
      · exact .inl (z' ▸ List.mem_cons_self)
      · exact (sub z z').elim (fun q => .inl (List.mem_cons_of_mem _ q)) .inr
theorem Reps.parts : ∀ {vs : List V} {ds : List D} {L : List Addr} (n : Nat), Reps K Er F H vs ds L → ∃ A B, Reps K Er F H (vs.take n) (ds.take n) A ∧ Reps K Er F H (vs.drop n) (ds.drop n) B ∧ A ++ B = L
  | _, _, _, n, .nil => ⟨[], [], by rw [List.take_nil, List.take_nil]; exact .nil, by rw [List.drop_nil, List.drop_nil]; exact .nil, rfl⟩
  | _, _, _, 0, .cons r t => ⟨[], _, .nil, .cons r t, rfl⟩
  | _, _, _, n + 1, .cons (L := L1) r t => by
    obtain ⟨A, B, h1, h2, h3⟩ := Reps.parts n t
    exact ⟨L1 ++ A, B, .cons r h1, h2, by rw [List.append_assoc, h3]⟩
def rIns : V → List V → Hp → VK → Prop := fun x vs H Q => ∃ (l : Addr) (xs : List V) (i : Int) (y : V), x = .ref l ∧ vs = [.int i, y] ∧ H l = some (.lst xs) ∧ xs.length < sizeLine ∧ 0 ≤ i ∧ i < 2 ^ 63 ∧ Q .non (upd H l (.lst (xs.take i.toNat ++ [y] ++ xs.drop i.toNat)))
theorem mt_ins {X : Cx} : MtR X "list.insert" rIns := mt_insert
theorem mop_ins : MopOk .ins rIns := by
  refine mop_lst ?_
  intro d d' xs h
  unfold mopF at h
  split at h <;> (first | (cases h; done) | skip)
  all_goals (first | (rename_i heq; cases heq; done) | skip)
  rename_i ys i x _
  split at h
  · rename_i hz
    cases h
    refine ⟨ys, _, rfl, rfl, fun {K Er F H ws L2' L vs} r rs => ?_⟩
    obtain ⟨v1, v2, M1, M2, rfl, r1, r2, rfl⟩ := rs.two'
    obtain ⟨rfl, rfl⟩ := r1.int'
    obtain ⟨A, B, h1, h2, h3⟩ := Reps.parts i.toNat r
    have := (h1.append (.cons r2 (.nil))).append h2
    rw [List.append_nil] at this
    refine ⟨_, _, this, ⟨[], ?_⟩, fun a Q h q => ⟨a, ws, i, v2, rfl, rfl, h, by rw [r.len]; exact most_lt hz.1, hz.2.1, by have := hz.2.2; omega, q⟩⟩
    rw [List.append_nil, ← h3, List.append_assoc, List.append_assoc]
    exact (List.perm_append_left_iff _).mpr List.perm_append_comm
  · cases h
theorem mop_clear : MopOk .clear rClear := by
  refine mop_lst ?_
  intro d d' xs h
  unfold mopF at h
  split at h <;> (first | (cases h; done) | skip)
  all_goals (first | (rename_i heq; cases heq; done) | skip)
  cases h
  refine ⟨_, _, rfl, rfl, fun {K Er F H ws L2' L vs} r rs => ?_⟩
  obtain ⟨rfl, rfl⟩ := rs.nil'
  exact ⟨[], [], .nil, ⟨L2', by simp⟩, fun a Q h q => ⟨a, ws, rfl, rfl, h, q⟩⟩
theorem mop_rev : MopOk .rev rReverse := by
  refine mop_lst ?_
  intro d d' xs h
  unfold mopF at h
  split at h <;> (first | (cases h; done) | skip)
  all_goals (first | (rename_i heq; cases heq; done) | skip)
  cases h
  refine ⟨_, _, rfl, rfl, fun {K Er F H ws L2' L vs} r rs => ?_⟩
  obtain ⟨rfl, rfl⟩ := rs.nil'
  obtain ⟨M, r2, pm⟩ := r.reverse
  exact ⟨_, M, r2, ⟨[], by simpa using pm⟩, fun a Q h q => ⟨a, ws, rfl, rfl, h, q⟩⟩
/-- the state behind a change at a place -/
theorem changed_at (S : Sx K Er F H e σ Ls) {ip : Nat × List Stp} {cd : D} {w v0 : V} (hc : plD e ip = some cd) (hσ : σ[ip.1]? = some (some v0)) (hv : valAt H ip.2 v0 = some w) :
    ∃ M, Rep K Er F H w cd M ∧ M.Nodup ∧ (∀ z ∈ M, ¬ F z) ∧ (∀ z ∈ M, z ∈ Ls ip.1) ∧ ∀ {F' : Addr → Prop} {H' : Hp} {d' : D} {M' U T : List Addr}, (∀ z o, H z = some o → z ∉ M → H' z = some o) → (∀ z, H z ≠ none → H' z ≠ none) → (∀ z, F z → F' z) → (∀ z, F' z → F z ∨ z ∈ M ∨ (z ∈ U ∧ ¬ In Ls z) ∨ H z = none) → (∀ z, F' z → H' z ≠ none) →
      Rep K Er F' H' w d' M' → M'.Nodup → (∀ z ∈ M', (z ∈ M ∨ (z ∈ U ∧ ¬ In Ls z) ∨ H z = none) ∧ ¬ F' z) → (∀ z ∈ T, z ∈ M ∨ z ∈ U ∨ H z = none) →
      ∃ L', (∀ z ∈ L', z ∈ M' ∨ (In Ls z ∧ z ∉ M)) ∧ Sx K Er F' H' (setPl e ip d') σ (up Ls ip.1 L') ∧ Eff true F H Ls U F' H' (up Ls ip.1 L') T := by
  obtain ⟨v0', w', M, R, d0, he, hσ', hv', rM, pm, re⟩ := S.place hc
  rw [hσ] at hσ'; cases hσ'
  rw [hv] at hv'; cases hv'
  have ndMR := List.nodup_append.mp (pm.nodup_iff.mpr (S.nd ip.1))
  have inM : ∀ z ∈ M, z ∈ Ls ip.1 := fun z h => pm.subset (List.mem_append_left _ h)
  have inR : ∀ z ∈ R, z ∈ Ls ip.1 := fun z h => pm.subset (List.mem_append_right _ h)
  refine ⟨M, rM, ndMR.1, fun z h => S.nf _ z (inM z h), inM, fun {F' H' d' M' U T} kp live fm fn fa r' nd no hT => ?_⟩
  have fresh : ∀ z, H z = none → ¬ In Ls z := fun z h i => S.inH i h
  have nM : ∀ z ∈ M', z ∉ R ∧ (∀ j, j ≠ ip.1 → z ∉ Ls j) ∧ ¬ F' z := fun z hz => by
    obtain ⟨h1, h2⟩ := no z hz
    refine ⟨fun q => ?_, fun j hj q => ?_, h2⟩
    · rcases h1 with h1 | h1 | h1
      · exact ndMR.2.2 z h1 z q rfl
      · exact h1.2 ⟨_, inR z q⟩
      · exact fresh z h1 ⟨_, inR z q⟩
    · rcases h1 with h1 | h1 | h1
      · exact hj (S.dj j ip.1 z q (inM z h1))
      · exact h1.2 ⟨_, q⟩
      · exact fresh z h1 ⟨_, q⟩
  obtain ⟨L', pm', S'⟩ := S.change he hσ rM pm re kp fm (fun z h => by
    rcases fn z h with w | w | w | w
    · exact .inl w
    · exact .inr (.inl w)
    · exact .inr (.inr w.2)
    · exact .inr (.inr (fresh z w))) fa r' nd nM
  refine ⟨L', fun z hz => ?_, S', Eff.change pm pm' kp live fm (fun z h => by
    rcases fn z h with w | w | w | w
    · exact .inl w
    · exact .inr (.inl w)
    · exact .inr (.inr (.inl w.1))
    · exact .inr (.inr (.inr w))) (fun z hz => by
    rcases (no z hz).1 with w | w | w
    · exact .inl w
    · exact .inr (.inl w.1)
    · exact .inr (.inr w)) hT⟩
  rcases List.mem_append.mp (pm'.subset hz) with q | q
  · exact .inl q
  · exact .inr ⟨⟨_, inR z q⟩, fun q' => ndMR.2.2 z q' z q rfl⟩
/-- what stands at a place goes out with all that it owns -/
theorem E_mv {X : Cx} {l : Expr} {pl : C} {P : Par} {Er : EE} {Wf : Bool → Nat → L2.St → Hp → Prop} {p : Bool} (ho : PE X l (tPl X.K Er Wf P pl)) : PE X l (tE X.K Er Wf P (.mv pl) p) :=
  ho.imp fun σ H Q ⟨F, e, Ls, s, q⟩ => by
    refine ⟨F, e, Ls, s, ?_⟩
    simp only [ev] at q
    cases hp : evPl P pl e with
    | stuck => rw [hp] at q; exact q
    | ex c h e1 => rw [hp] at q; exact q
    | ok ip e1 =>
      rw [hp] at q
      intro v v0 F1 H1 Ls1 E1 S1 hσ hv
      have q1 := PostE.step (m1 := mu pl) (m2 := mu (.mv pl)) id id E1 q
      cases hd : plD e1 ip with
      | none =>
        simp only [R.bind, hd] at q1
        exact q1.elim
      | some d =>
        simp only [R.bind, hd] at q1
        obtain ⟨v0', w', M, R, d0, he, hσ', hv', rM, pm, re⟩ := S1.place hd
        rw [hσ] at hσ'; cases hσ'
        rw [hv] at hv'; cases hv'
        have ndMR := List.nodup_append.mp (pm.nodup_iff.mpr (S1.nd ip.1))
        have inM : ∀ z ∈ M, z ∈ Ls1 ip.1 := fun z h => pm.subset (List.mem_append_left _ h)
        have inR : ∀ z ∈ R, z ∈ Ls1 ip.1 := fun z h => pm.subset (List.mem_append_right _ h)
        obtain ⟨L', pm', S'⟩ := S1.change (c' := .unk) (M' := []) (F' := F1) (H' := H1) he hσ rM pm re (fun a o h _ => h) (fun a h => h) (fun a h => .inl h) S1.fa .unk List.nodup_nil (fun a h => nomatch h)
        rw [List.nil_append] at pm'
        have inL : ∀ j z, z ∈ up Ls1 ip.1 L' j → z ∈ Ls1 j := fun j z h => by
          by_cases hj : j = ip.1
          · subst hj
            rw [up_same] at h
            exact inR z (pm'.subset h)
          · rw [up_ne hj] at h
            exact h
        refine q1 v F1 H1 (up Ls1 ip.1 L') M (Eff.mono (mu := false) ⟨fun a o h _ => h, fun a h => h, fun a h => h, fun a h => .inr (.inr (.inl h)), fun a h => ?_, fun _ i a h => inL i a h⟩ (fun z => Bool.noConfusion z)) S' rM (Own.ov ⟨ndMR.1, fun a z => ⟨S1.nf _ a (inM a z), fun w => ?_⟩⟩ rfl)
        · rcases h with ⟨j, h⟩ | h
          · exact .inl ⟨j, inL j a h⟩
          · exact .inl ⟨_, inM a h⟩
        · obtain ⟨j, h⟩ := w
          by_cases hj : j = ip.1
          · subst hj
            rw [up_same] at h
            exact ndMR.2.2 a z a (pm'.subset h) rfl
          · rw [up_ne hj] at h
            exact hj (S1.dj j ip.1 a h (inM a z))
theorem upd_live {a z : Addr} {o : HO} (h : H z ≠ none) : upd H a o z ≠ none := by
  by_cases q : z = a
  · rw [q, upd_same]; simp
  · rw [upd_ne q]; exact h
theorem mop_rd {o : Mop} {rr : V → List V → Hp → VK → Prop} (ok : MopOk o rr) (h1 : mu pl = false) (h2 : mu as = false) (h : tE K Er Wf P (.mop o pl as) p σ H Q) : tBM K "list" rr (tPl K Er Wf P pl) (tAr K Er Wf P as false) σ H Q := by
  obtain ⟨F, e, Ls, s, q⟩ := h
  simp only [ev] at q
  refine ⟨F, e, Ls, s, ?_⟩
  cases hp : evPl P pl e with
  | stuck => rw [hp] at q; exact q.elim
  | ex c h e1 => rw [hp] at q; exact ExP.weak (fun _ => rfl) q
  | ok ip e1 =>
    rw [hp] at q
    intro v v0 F1 H1 Ls1 E1 S1 hσ hv
    replace E1 : Eff false F H Ls [] F1 H1 Ls1 [] := toF h1 E1
    simp only [R.bind] at q
    cases hc1 : plD e1 ip with
    | none => rw [hc1] at q; exact q.elim
    | some dd =>
      rw [hc1] at q
      cases dd <;> (first | exact q.elim | skip)
      dsimp only at q
      obtain ⟨M1, rM1, _, _⟩ := place_at S1 hc1 hσ hv
      obtain ⟨a1, vs1, _, rfl, hl, _, _⟩ := rM1.lst'
      refine ⟨.inl ⟨rfl, vs1, .inl hl⟩, F1, e1, Ls1, S1, ?_⟩
      cases ha : evA P as false e1 with
      | stuck => rw [ha] at q; exact q.elim
      | ex c h e2 =>
        rw [ha] at q
        exact fun F' H' Ls' E2 S2 => q F' H' Ls' (((E1.trans (U := []) (toF h2 E2)).mono fun _ => rfl)) S2
      | ok xs e2 =>
        rw [ha] at q
        intro vs F2 H2 Ls2 L2 E2 S2 R2 O2 _
        replace E2 : Eff false F1 H1 Ls1 [] F2 H2 Ls2 L2 := toF h2 E2
        dsimp only at q
        cases hb : (plD e2 ip).bind fun d => mopF o d xs with
        | none => rw [hb] at q; exact q.elim
        | some d' =>
          rw [hb] at q
          obtain ⟨c, hc, hm⟩ := Option.bind_eq_some_iff.mp hb
          have hv2 := valAt_mono (fun a o h => E2.all.1 a o h) hv
          obtain ⟨M, rM, ndM, nfM, inM, fin⟩ := changed_at S2 hc hσ hv2
          have own := O2 rfl
          obtain ⟨z, ho, M', e1', zin, rd, r', nd', sub'⟩ := ok rM ndM nfM R2 own.nd (fun a h q => (own.no a h).2 ⟨_, inM a q⟩) hm
          cases e1'
          refine rd Q ?_
          obtain ⟨L', _, S3, E3⟩ := fin (F' := F2) (H' := upd H2 a1 ho) (d' := d') (M' := M') (U := L2) (T := []) (fun y u hy hn => by rw [upd_ne fun e => hn (by rw [e]; exact zin)]; exact hy) (fun y h => upd_live h) (fun _ h => h) (fun _ h => .inl h) (fun y h => upd_live (S2.fa y h)) r' nd'
            (fun y hy => (sub' y hy).elim (fun q => ⟨.inl q, nfM y q⟩) fun q => ⟨.inr (.inl ⟨q, (own.no y q).2⟩), (own.no y q).1⟩) (fun _ z => nomatch z)
          exact q .non F2 _ _ [] (((E1.trans (U := []) E2).trans (U := []) E3).mono fun _ => rfl) S3 .non OV.nil
theorem tA_imp {es : List Expr} {t : TE} {X : Cx} {e0 : Expr} (h : PE X e0 t) : PE X e0 t := h
theorem E_mapp {o : Expr} {apos : Pos} (hs : noSup o = true) (hline : (apos.endLine == pos.line) = true) (hr : plain r = true) (ho : PE X o (tPl X.K Er Wf P pl)) (ha : PA X [r] (tAr X.K Er Wf P as false)) (h1 : mu pl = false) (h2 : mu as = false) :
    PE X (.Call (.Attribute o "append" apos) [r] [] pos) (tE X.K Er Wf P (.mop .app pl as) p) :=
  (pe_bm PySem.F.plainAttrs_list PySem.F.slot_list_append PySem.F.type_list_append mt_append ho ha (attr_plain hs _ _) (bm_pre (apos := apos) hr) hline (star_plain hr _) (by rfl)).imp fun σ H Q h => mop_rd mop_app h1 h2 h
theorem bm_pre2 {a b : Expr} (h : plain a = true) (h' : plain b = true) : ((backTo pos (starEach (a :: [b]) X.env)).all (fun x => !x.1) && (backToKw pos (keywordEach [] X.env)).all (fun x => x.1.isSome) && decide (((a :: ([b] : List Expr)).length + ([] : List Keyword).length + if ([] : List Keyword).isEmpty = true then 0 else 1) < 30)) = true := by
  rw [star_plain h, star_plain h']
  rfl
theorem E_mins {o r2 : Expr} {apos : Pos} (hs : noSup o = true) (hline : (apos.endLine == pos.line) = true) (hr : plain r = true) (hr2 : plain r2 = true) (ho : PE X o (tPl X.K Er Wf P pl)) (ha : PA X [r, r2] (tAr X.K Er Wf P as false)) (h1 : mu pl = false) (h2 : mu as = false) :
    PE X (.Call (.Attribute o "insert" apos) [r, r2] [] pos) (tE X.K Er Wf P (.mop .ins pl as) p) :=
  (pe_bm PySem.F.plainAttrs_list PySem.F.slot_list_insert PySem.F.type_list_insert mt_ins ho ha (attr_plain hs _ _) (bm_pre2 hr hr2) hline (star_plain hr _) (back_plain (by simp [hr2]))).imp fun σ H Q h => mop_rd mop_ins h1 h2 h
end
end VI
set_option maxRecDepth 100000
set_option maxHeartbeats 4000000
/-! VJ: stores at a place. -/
namespace VI
open PySem PySem.Spec PyProof.Rows L2 RZ
def rSetD : V → V → V → Hp → (Hp → Prop) → Prop := fun o i v H Q => ∃ a H4, o = .ref a ∧ DPut H a i v H4 ∧ Q H4
theorem set_dict {X : Cx} (hu : X.A.units + 1 < cLine) : PSet X rSetD := by
  intro pins s σ H o i v ov iv u Q I ro ri rv h
  obtain ⟨a, H4, rfl, g, q⟩ := h
  obtain rfl : ov = Value.ref a := ro
  exact d_setItem hu I g ri rv fun s' I' => ⟨H4, I', q⟩
def rSetA : V → V → V → Hp → (Hp → Prop) → Prop := fun o i v H Q => rSetL o i v H Q ∨ rSetD o i v H Q
theorem set_all {X : Cx} (hu : X.A.units + 1 < cLine) : PSet X rSetA := by
  intro pins s σ H o i v ov iv u Q I ro ri rv h
  rcases h with h | h
  · exact set_list pins s σ H o i v ov iv u Q I ro ri rv h
  · exact set_dict hu pins s σ H o i v ov iv u Q I ro ri rv h
theorem idxK_none {κ : Type} [DecidableEq κ] {ks : List κ} {k : κ} (h : idxK ks k = none) : k ∉ ks := by
  unfold idxK at h
  rw [List.findIdx?_eq_none_iff] at h
  exact fun z => by simpa using h k z
theorem idxK_get {κ : Type} [DecidableEq κ] {ks : List κ} {k : κ} {j : Nat} (h : idxK ks k = some j) : ks[j]? = some k := by
  unfold idxK at h
  rw [List.findIdx?_eq_some_iff_getElem] at h
  obtain ⟨hl, h1, _⟩ := h
  rw [List.getElem?_eq_getElem hl]
  exact congrArg some (by simpa using h1)
/-- a store, by keys and values -/
theorem putK_kv {κ : Type} [DecidableEq κ] {k : κ} {v : V} : ∀ {kvs : List (κ × V)}, (kvs.map (·.1)).Nodup → match idxK (kvs.map (·.1)) k with
    | some j => (putK kvs k v).map (·.1) = kvs.map (·.1) ∧ (putK kvs k v).map (·.2) = (kvs.map (·.2)).set j v
    | none => (putK kvs k v).map (·.1) = kvs.map (·.1) ++ [k] ∧ (putK kvs k v).map (·.2) = kvs.map (·.2) ++ [v] := by
  intro kvs nd
  cases hj : idxK (kvs.map (·.1)) k with
  | none =>
    have hn : valV kvs k = none := by rw [valV_idx, hj]; rfl
    dsimp only
    rw [putK_new v hn, List.map_append, List.map_append]
    exact ⟨rfl, rfl⟩
  | some j =>
    have hl := idxK_lt hj
    have hg := idxK_get hj
    rw [List.length_map] at hl
    have any : (kvs.any fun kv => decide (kv.1 = k)) = true := by
      rw [List.any_eq_true]
      refine ⟨kvs[j], List.getElem_mem hl, ?_⟩
      rw [List.getElem?_map, List.getElem?_eq_getElem hl] at hg
      exact decide_eq_true (Option.some.inj hg)
    have hp : putK kvs k v = kvs.map fun kv => if kv.1 = k then (kv.1, v) else kv := by
      unfold putK
      rw [any]; rfl
    dsimp only
    rw [hp, List.map_map, List.map_map]
    refine ⟨List.map_congr_left fun p _ => ?_, List.ext_getElem? fun i => ?_⟩
    · show (if p.1 = k then (p.1, v) else p).1 = p.1
      split <;> rfl
    · rw [List.getElem?_map, List.getElem?_set]
      by_cases hi : j = i
      · subst hi
        rw [if_pos rfl, List.length_map, if_pos hl, List.getElem?_eq_getElem hl]
        rw [List.getElem?_map, List.getElem?_eq_getElem hl] at hg
        have hk : kvs[j].1 = k := Option.some.inj hg
        show some ((if kvs[j].1 = k then (kvs[j].1, v) else kvs[j]).2) = some v
        rw [if_pos hk]
      · rw [if_neg hi, List.getElem?_map]
        cases hx : kvs[i]? with
        | none => rfl
        | some p =>
          show some ((if p.1 = k then (p.1, v) else p).2) = some p.2
          rw [if_neg]
          intro hk
          have hi' : i < kvs.length := (List.getElem?_eq_some_iff.mp hx).1
          refine hi ((List.getElem_inj (h₀ := by rw [List.length_map]; exact hl) (h₁ := by rw [List.length_map]; exact hi') nd).mp ?_)
          rw [List.getElem_map, List.getElem_map]
          rw [List.getElem?_map, List.getElem?_eq_getElem hl] at hg
          have e1 : kvs[j].1 = k := Option.some.inj hg
          have e2 : kvs[i] = p := (List.getElem?_eq_some_iff.mp hx).2
          rw [e1, e2, hk]
section
variable {K : PySem.W.Frag} {Er : EE} {F F' F1 F2 : Addr → Prop} {H H' H1 H2 H3 : Hp} {v x y : V} {dx dy d : D} {L L' Lx Ly : List Addr} {e e' e1 : Env} {σ σ' : L2.St} {Ls Ls' Ls1 Ls2 : Nat → List Addr} {U T : List Addr}
variable {Wf : Bool → Nat → L2.St → Hp → Prop} {ms m m1 m2 p hot : Bool} {rt : Option Nat} {Q : VK} {P : Par} {D0 D1 : Ends} {N N' : L2.St → Hp → Prop}
variable {X : Cx} {l r : Expr} {pos : Pos} {a b c as pl : C} {st : Stmt} {sts : List Stmt} {es : List Expr}
/-- keys and values behind a store stand for the data behind it -/
theorem putD_rep {κ : Type} [DecidableEq κ] {kvs : List (κ × V)} {ks : List κ} {xs : List D} {k : κ} {M : List Addr} (he : kvs.map (·.1) = ks ∧ ks.Nodup) (r : Reps K Er F H (kvs.map (·.2)) xs M) (rv : Rep K Er F H v d L) :
    ∃ M', ((putK kvs k v).map (·.1) = (putD ks xs k d).1 ∧ (putD ks xs k d).1.Nodup) ∧ Reps K Er F H ((putK kvs k v).map (·.2)) (putD ks xs k d).2 M' ∧ ∃ R, (M' ++ R).Perm (L ++ M) := by
  obtain ⟨rfl, nd⟩ := he
  have z := putK_kv (k := k) (v := v) nd
  unfold putD
  cases hj : idxK (kvs.map (·.1)) k with
  | some j =>
    rw [hj] at z
    obtain ⟨z1, z2⟩ := z
    dsimp only
    rw [z1, z2]
    have hl := idxK_lt hj
    obtain ⟨L', r2, X, pm⟩ := r.set (i := j) rv (by rw [← r.len, List.length_map]; rwa [List.length_map] at hl)
    exact ⟨L', ⟨rfl, nd⟩, r2, X, pm⟩
  | none =>
    rw [hj] at z
    obtain ⟨z1, z2⟩ := z
    dsimp only
    rw [z1, z2]
    have r2 := r.append (.cons rv .nil)
    rw [List.append_nil] at r2
    refine ⟨M ++ L, ⟨rfl, List.nodup_append.mpr ⟨nd, by simp, fun a ha b hb e => ?_⟩⟩, r2, [], by rw [List.append_nil]; exact List.perm_append_comm⟩
    have : b = k := by simpa using hb
    exact idxK_none hj (this ▸ e ▸ ha)
/-- what a store does to what it stores into -/
theorem putF_rep {w y : V} {dc dk d' : D} {M N : List Addr} (r : Rep K Er F H w dc M) (nd : M.Nodup) (nf : ∀ z ∈ M, ¬ F z) (ry : Rep K Er F H y dk N) (rv : Rep K Er F H v d L) (ndL : L.Nodup) (dj : ∀ z ∈ L, z ∉ M) (h : VI.putF dc dk d = some d') :
    ∃ a ho M', w = .ref a ∧ a ∈ M ∧ (∀ Q : Hp → Prop, Q (upd H a ho) → rSetA w y v H Q) ∧ Rep K Er F (upd H a ho) w d' M' ∧ M'.Nodup ∧ ∀ z ∈ M', z ∈ M ∨ z ∈ L := by
  have fin : ∀ {a : Addr} {M0 M2 R : List Addr}, M = a :: M0 → (M2 ++ R).Perm (L ++ M0) → a ∉ M2 ∧ (a :: M2).Nodup ∧ ∀ z ∈ a :: M2, z ∈ M ∨ z ∈ L := fun {a M0 M2 R} e pm => by
    subst e
    have n2 := List.nodup_cons.mp nd
    have sub : ∀ z ∈ M2, z ∈ L ∨ z ∈ M0 := fun z hz => List.mem_append.mp (pm.subset (List.mem_append_left _ hz))
    have ndA : (L ++ M0).Nodup := List.nodup_append.mpr ⟨ndL, n2.2, fun z hz y hy e => dj z hz (e ▸ List.mem_cons_of_mem _ hy)⟩
    have na : a ∉ M2 := fun z => (sub a z).elim (fun z => dj a z List.mem_cons_self) n2.1
    refine ⟨na, List.nodup_cons.mpr ⟨na, (List.nodup_append.mp (pm.nodup_iff.mpr ndA)).1⟩, fun z hz => ?_⟩
    rcases List.mem_cons.mp hz with q | q
    · exact .inl (q ▸ List.mem_cons_self)
    · exact (sub z q).elim .inr fun q => .inl (List.mem_cons_of_mem _ q)
  unfold VI.putF at h
  split at h
  · rename_i xs i d0
    obtain ⟨j, hj, rfl⟩ := Option.map_eq_some_iff.mp h
    obtain ⟨rfl, _⟩ := ry.int'
    cases r with
    | own h1 r2 =>
      rename_i a ws M0
      obtain ⟨M2, r3, R, pm⟩ := r2.set (i := j) rv (ixN_seq hj).2.1
      obtain ⟨na, f1, f2⟩ := fin rfl pm
      have k := upd_kp (F := F) (ho := .lst (ws.set j v)) h1 rfl (nf _ List.mem_cons_self)
      exact ⟨a, _, a :: M2, rfl, List.mem_cons_self, fun Q q => .inl ⟨a, ws, _, j, rfl, rfl, h1, by rw [r2.len]; exact hj, q⟩, .own upd_same (r3.kp k fun z hz e => na (e ▸ hz)), f1, f2⟩
  · rename_i ks xs y0 d0
    obtain ⟨k, hk, h2⟩ := Option.bind_eq_some_iff.mp h
    split at h2
    · rename_i hz
      cases h2
      obtain ⟨rfl, _⟩ := Rep.keyD ry hk
      cases r with
      | dow h1 e r2 =>
        rename_i a kvs M0
        obtain ⟨M2, e2, r3, R, pm⟩ := putD_rep (k := k) e r2 rv
        obtain ⟨na, f1, f2⟩ := fin rfl pm
        have kk := upd_kp (F := F) (ho := .dK (putK kvs k v)) h1 rfl (nf _ List.mem_cons_self)
        refine ⟨a, _, a :: M2, rfl, List.mem_cons_self, fun Q q => .inr ⟨a, _, rfl, .inl ⟨kvs, k, h1, rfl, ?_, rfl⟩, q⟩, .dow upd_same e2 (r3.kp kk fun z hz e => na (e ▸ hz)), f1, f2⟩
        rw [← List.length_map (f := fun x => x.1) (as := kvs), e.1]
        exact most_lt hz
    · cases h2
  · rename_i ks xs ys d0
    obtain ⟨k, hk, h2⟩ := Option.bind_eq_some_iff.mp h
    split at h2
    · rename_i hz
      cases h2
      obtain ⟨b, vs, rfl, h4, r4⟩ := ry.tup'
      obtain ⟨rfl, _⟩ := Reps.keysD r4 hk
      cases r with
      | tow h1 e r2 =>
        rename_i a kvs M0
        obtain ⟨M2, e2, r3, R, pm⟩ := putD_rep (k := k) e r2 rv
        obtain ⟨na, f1, f2⟩ := fin rfl pm
        have kk := upd_kp (F := F) (ho := .dT (putK kvs k v)) h1 rfl (nf _ List.mem_cons_self)
        refine ⟨a, _, a :: M2, rfl, List.mem_cons_self, fun Q q => .inr ⟨a, _, rfl, .inr ⟨kvs, k, b, h1, rfl, h4, ?_, rfl⟩, q⟩, .tow upd_same e2 (r3.kp kk fun z hz e => na (e ▸ hz)), f1, f2⟩
        rw [← List.length_map (f := fun x => x.1) (as := kvs), e.1]
        exact most_lt hz
    · cases h2
  · cases h
end
end VI
set_option maxRecDepth 100000
set_option maxHeartbeats 4000000
/-! VJ: statements that store. -/
namespace VI
open PySem PySem.Spec PyProof.Rows L2 RZ
theorem putF_kv {f : Str} {v : V} : ∀ {fvs : List (Str × V)}, match idxK (fvs.map (·.1)) f with
    | some j => (L2.putF f v fvs).map (·.1) = fvs.map (·.1) ∧ (L2.putF f v fvs).map (·.2) = (fvs.map (·.2)).set j v
    | none => (L2.putF f v fvs).map (·.1) = fvs.map (·.1) ++ [f] ∧ (L2.putF f v fvs).map (·.2) = fvs.map (·.2) ++ [v]
  | [] => ⟨rfl, rfl⟩
  | (g, x) :: r => by
    have ih := putF_kv (f := f) (v := v) (fvs := r)
    unfold idxK at ih ⊢
    rw [List.map_cons, List.findIdx?_cons]
    by_cases h : g = f
    · simp only [h, decide_true, if_true]
      unfold L2.putF
      simp
    · simp only [h, decide_false, Bool.false_eq_true, if_false]
      cases hj : (r.map (·.1)).findIdx? (fun x => decide (x = f)) with
      | none =>
        rw [hj] at ih
        simp only [Option.map_none]
        unfold L2.putF
        rw [if_neg h]
        simp only [List.map_cons, ih.1, ih.2, List.cons_append, and_self]
      | some j =>
        rw [hj] at ih
        simp only [Option.map_some]
        unfold L2.putF
        rw [if_neg h]
        simp only [List.map_cons, ih.1, ih.2, List.set_cons_succ, and_self]
section
variable {K : PySem.W.Frag} {Er : EE} {F F' F1 F2 : Addr → Prop} {H H' H1 H2 H3 : Hp} {v x y : V} {dx dy d : D} {L L' Lx Ly : List Addr} {e e' e1 : Env} {σ σ' : L2.St} {Ls Ls' Ls1 Ls2 : Nat → List Addr} {U T : List Addr}
variable {Wf : Bool → Nat → L2.St → Hp → Prop} {ms m m1 m2 p hot : Bool} {rt : Option Nat} {Q : VK} {P : Par} {D0 D1 : Ends} {N N' : L2.St → Hp → Prop}
variable {X : Cx} {l r : Expr} {pos : Pos} {a b c as pl ix : C} {st : Stmt} {sts : List Stmt} {es : List Expr}
theorem putFd_rep {fvs : List (Str × V)} {fs : List Str} {xs : List D} {f : Str} {M : List Addr} (he : fvs.map (·.1) = fs) (r : Reps K Er F H (fvs.map (·.2)) xs M) (rv : Rep K Er F H v d L) :
    ∃ M', (L2.putF f v fvs).map (·.1) = (putD fs xs f d).1 ∧ Reps K Er F H ((L2.putF f v fvs).map (·.2)) (putD fs xs f d).2 M' ∧ ∃ R, (M' ++ R).Perm (L ++ M) := by
  subst he
  have z := putF_kv (f := f) (v := v) (fvs := fvs)
  unfold putD
  cases hj : idxK (fvs.map (·.1)) f with
  | some j =>
    rw [hj] at z
    obtain ⟨z1, z2⟩ := z
    dsimp only
    rw [z1, z2]
    have hl := idxK_lt hj
    obtain ⟨L', r2, X, pm⟩ := r.set (i := j) rv (by rw [← r.len, List.length_map]; rwa [List.length_map] at hl)
    exact ⟨L', rfl, r2, X, pm⟩
  | none =>
    rw [hj] at z
    obtain ⟨z1, z2⟩ := z
    dsimp only
    rw [z1, z2]
    have r2 := r.append (.cons rv .nil)
    rw [List.append_nil] at r2
    exact ⟨M ++ L, rfl, r2, [], by rw [List.append_nil]; exact List.perm_append_comm⟩
/-- an attribute is stored -/
theorem fldF_rep {cls : List ClsR} (C : ClsOk K cls) {w : V} {dc d' : D} {f : Str} {M : List Addr} (r : Rep K Er F H w dc M) (nd : M.Nodup) (nf : ∀ z ∈ M, ¬ F z) (rv : Rep K Er F H v d L) (ndL : L.Nodup) (dj : ∀ z ∈ L, z ∉ M) (h : fldF cls dc f d = some d') :
    ∃ a Cl dx fvs M', w = .ref a ∧ a ∈ M ∧ H a = some (.ins Cl dx fvs) ∧ Cls K Cl ∧ NoAttr K Cl f ∧ fvs.length < 1000 ∧ Rep K Er F (upd H a (.ins Cl dx (L2.putF f v fvs))) w d' M' ∧ M'.Nodup ∧ ∀ z ∈ M', z ∈ M ∨ z ∈ L := by
  unfold fldF at h
  split at h
  · split at h
    · rename_i hz
      rw [Bool.and_eq_true, decide_eq_true_eq] at hz
      cases h
      obtain ⟨cl, na⟩ := fldOk_ok C hz.1
      cases r with
      | oow h1 e r2 =>
        rename_i a dx fvs M0
        obtain ⟨M2, e2, r3, R, pm⟩ := putFd_rep (f := f) e r2 rv
        have n2 := List.nodup_cons.mp nd
        have sub : ∀ z ∈ M2, z ∈ L ∨ z ∈ M0 := fun z hz => List.mem_append.mp (pm.subset (List.mem_append_left _ hz))
        have ndA : (L ++ M0).Nodup := List.nodup_append.mpr ⟨ndL, n2.2, fun z hz y hy e => dj z hz (e ▸ List.mem_cons_of_mem _ hy)⟩
        have na2 : a ∉ M2 := fun z => (sub a z).elim (fun z => dj a z List.mem_cons_self) n2.1
        have kk := fun Cl (h1 : H a = some (.ins Cl dx fvs)) => upd_kp (F := F) (ho := .ins Cl dx (L2.putF f v fvs)) h1 rfl (nf _ List.mem_cons_self)
        refine ⟨a, _, dx, fvs, a :: M2, rfl, List.mem_cons_self, h1, cl, na, ?_, .oow upd_same e2 (r3.kp (kk _ h1) fun z hz e => na2 (e ▸ hz)), List.nodup_cons.mpr ⟨na2, (List.nodup_append.mp (pm.nodup_iff.mpr ndA)).1⟩, fun z hz => ?_⟩
        · rw [← List.length_map (f := fun x => x.1) (as := fvs), e]
          omega
        · rcases List.mem_cons.mp hz with q | q
          · exact .inl (q ▸ List.mem_cons_self)
          · exact (sub z q).elim .inr fun q => .inl (List.mem_cons_of_mem _ q)
    · cases h
  · cases h
/-- a place in the rest of a statement -/
theorem plS {f : Nat × List Stp → Env → Out} {Qa : VK} (s : Sx K Er F H e σ Ls) (hm : mu pl = false) (q : PostS K Er Wf m F H Ls (ofR (evPl P pl e) f) D0)
    (g : ∀ ip e1 v v0 F1 H1 Ls1, Eff false F H Ls [] F1 H1 Ls1 [] → Sx K Er F1 H1 e1 σ Ls1 → σ[ip.1]? = some (some v0) → valAt H1 ip.2 v0 = some v → PostS K Er Wf m F H Ls (f ip e1) D0 → Qa v H1) : tPl K Er Wf P pl σ H Qa := by
  refine ⟨F, e, Ls, s, ?_⟩
  cases hp : evPl P pl e with
  | stuck => rw [hp] at q; exact q.elim
  | ex c h e1 => rw [hp] at q; exact NxP.exP q (fun z => by rw [hm] at z; cases z)
  | ok ip e1 =>
    rw [hp] at q
    intro v v0 F1 H1 Ls1 E1 S1 hσ hv
    exact g ip e1 v v0 F1 H1 Ls1 (toF hm E1) S1 hσ hv q
theorem S_setp {o k : Expr} {p2 : Pos} (hu : X.A.units + 64 < cLine) (hl : plain l = true) (hn : noComp l = true) (hmp : mu pl = false) (hmx : mu ix = false) (hk : plain k = true)
    (ha : PE X l (tE X.K Er Wf P a false)) (ho : PE X o (tPl X.K Er Wf P pl)) (hb : PE X k (tE X.K Er Wf P ix true)) : PS X (.Assign [.Subscript o k p2] l pos) (tS X.K Er Wf P (.setp pl ix a) hot) :=
  (ps_asg ha (pg_sub (pos := p2) ho hb (set_all (by omega)) (by intro v; cases k <;> first | rfl | (simp [plain] at hk))) (sole_plain hl hn) (by unfold swappedStores; cases l <;> rfl) (each_one rfl)).imp fun D σ H ⟨F, e, Ls, s, q⟩ => by
    simp only [run] at q
    have tt : ∀ {A : Prop}, mu (.setp pl ix a) = false → A := fun z => by simp [mu] at z
    refine opndS s (m := mu (.setp pl ix a)) (fun _ => rfl) q fun d e1 v F1 H1 Ls1 L E S R O q1 => ?_
    have o1 := ov_f O
    refine ⟨F1, e1, Ls1, S, ?_⟩
    cases hp : evPl P pl e1 with
    | stuck => rw [hp] at q1; exact q1.elim
    | ex c h e2 =>
      rw [hp] at q1
      exact fun F' H' Ls' E' S' => q1 F' H' Ls' σ (((E.trans (E'.more (fun _ z => nomatch z))).less (T1 := []) fun _ z => nomatch z).mono fun _ => rfl) (fun z => tt z) S'
    | ok ip e2 =>
      rw [hp] at q1
      intro w w0 F2 H2 Ls2 E2 S2 hσ hv
      replace E2 : Eff false F1 H1 Ls1 [] F2 H2 Ls2 [] := toF hmp E2
      refine ⟨F2, e2, Ls2, S2, ?_⟩
      simp only [ofR] at q1
      cases hr : ev P ix true e2 with
      | stuck => rw [hr] at q1; exact q1.elim
      | ex c h e3 =>
        rw [hr] at q1
        refine fun F' H' Ls' E' S' => q1 F' H' Ls' σ ?_ (fun z => tt z) S'
        have z := (E.trans (U := []) (E2.more (U1 := [] ++ L) fun _ z => nomatch z)).trans (U := []) ((toF hmx E').more (U1 := [] ++ []) fun _ z => nomatch z)
        exact z.mono fun _ => rfl
      | ok k0 e3 =>
        rw [hr] at q1
        intro kv F3 H3 Ls3 L3 E3 S3 R3 O3
        replace E3 : Eff false F2 H2 Ls2 [] F3 H3 Ls3 L3 := toF hmx E3
        dsimp only at q1
        cases hb : (plD e3 ip).bind fun c => VI.putF c k0 d with
        | none => rw [hb] at q1; exact q1.elim
        | some d' =>
          rw [hb] at q1
          obtain ⟨cd, hc, hm⟩ := Option.bind_eq_some_iff.mp hb
          have hv3 := valAt_mono (fun a o h => E3.all.1 a o h) hv
          have lv1 : ∀ z ∈ L, H1 z ≠ none := live_of S R
          have ap2 : ∀ z ∈ L, ¬ F2 z ∧ ¬ In Ls2 z := fun z hz => let ⟨h1, h2, _⟩ := E2.apart (lv1 z hz) (o1.no z hz).1 (o1.no z hz).2; ⟨h1, h2⟩
          have ap3 : ∀ z ∈ L, ¬ F3 z ∧ ¬ In Ls3 z := fun z hz => let ⟨h1, h2, _⟩ := E3.apart (E2.live z (lv1 z hz)) (ap2 z hz).1 (ap2 z hz).2; ⟨h1, h2⟩
          have Rv := (R.all E2.all).all E3.all
          obtain ⟨M, rM, ndM, nfM, inM, fin⟩ := changed_at S3 hc hσ hv3
          obtain ⟨z0, ho', M', ew, zin, rd, r', nd', sub'⟩ := putF_rep rM ndM nfM R3 Rv o1.nd (fun z hz q => (ap3 z hz).2 ⟨_, inM z q⟩) hm
          subst ew
          refine rd _ ?_
          obtain ⟨L', _, S4, E4⟩ := fin (F' := F3) (H' := upd H3 z0 ho') (d' := d') (M' := M') (U := L) (T := []) (fun y u hy hn => by rw [upd_ne fun e => hn (by rw [e]; exact zin)]; exact hy) (fun y h => upd_live h) (fun _ h => h) (fun _ h => .inl h) (fun y h => upd_live (S3.fa y h)) r' nd'
            (fun y hy => (sub' y hy).elim (fun q => ⟨.inl q, nfM y q⟩) fun q => ⟨.inr (.inl ⟨q, (ap3 y q).2⟩), (ap3 y q).1⟩) (fun _ z => nomatch z)
          refine q1 F3 _ _ σ ?_ (fun z => tt z) S4
          have E23 : Eff false F1 H1 Ls1 L F3 H3 Ls3 [] := ((E2.more (U1 := L) fun _ z => nomatch z).trans (U := L) (T2 := L3) (E3.more fun _ z => nomatch z)).less fun _ z => nomatch z
          have E24 := E23.trans (U := L) (by rw [List.append_nil]; exact E4)
          have := E.trans (U := []) (E24.more (U1 := [] ++ L) fun _ z => by simpa using z)
          exact this.mono fun _ => rfl
theorem S_setf {o : Expr} {f : Str} {p2 : Pos} (C : ClsOk X.K P.cls) (hl : plain l = true) (hn : noComp l = true) (hmp : mu pl = false)
    (ha : PE X l (tE X.K Er Wf P a false)) (ho : PE X o (tPl X.K Er Wf P pl)) : PS X (.Assign [.Attribute o f p2] l pos) (tS X.K Er Wf P (.setf pl f a) hot) :=
  (ps_fld ho ha (swaps_plain hl hn _ _)).imp fun D σ H ⟨F, e, Ls, s, q⟩ => by
    simp only [run] at q
    have tt : ∀ {A : Prop}, mu (.setf pl f a) = false → A := fun z => by simp [mu] at z
    refine opndS s (m := mu (.setf pl f a)) (fun _ => rfl) q fun d e1 v F1 H1 Ls1 L E S R O q1 => ?_
    have o1 := ov_f O
    refine ⟨F1, e1, Ls1, S, ?_⟩
    cases hp : evPl P pl e1 with
    | stuck => rw [hp] at q1; exact q1.elim
    | ex c h e2 =>
      rw [hp] at q1
      exact fun F' H' Ls' E' S' => q1 F' H' Ls' σ (((E.trans (E'.more (fun _ z => nomatch z))).less (T1 := []) fun _ z => nomatch z).mono fun _ => rfl) (fun z => tt z) S'
    | ok ip e2 =>
      rw [hp] at q1
      intro w w0 F2 H2 Ls2 E2 S2 hσ hv
      replace E2 : Eff false F1 H1 Ls1 [] F2 H2 Ls2 [] := toF hmp E2
      simp only [ofR] at q1
      cases hb : (plD e2 ip).bind fun c => fldF P.cls c f d with
      | none => rw [hb] at q1; exact q1.elim
      | some d' =>
        rw [hb] at q1
        obtain ⟨cd, hc, hm⟩ := Option.bind_eq_some_iff.mp hb
        have lv1 : ∀ z ∈ L, H1 z ≠ none := live_of S R
        have ap2 : ∀ z ∈ L, ¬ F2 z ∧ ¬ In Ls2 z := fun z hz => let ⟨h1, h2, _⟩ := E2.apart (lv1 z hz) (o1.no z hz).1 (o1.no z hz).2; ⟨h1, h2⟩
        have Rv := R.all E2.all
        obtain ⟨M, rM, ndM, nfM, inM, fin⟩ := changed_at S2 hc hσ hv
        obtain ⟨z0, Cl, dx, fvs, M', ew, zin, hz0, cl, na, hlen, r', nd', sub'⟩ := fldF_rep C rM ndM nfM Rv o1.nd (fun z hz q => (ap2 z hz).2 ⟨_, inM z q⟩) hm
        refine ⟨z0, Cl, dx, fvs, ew, hz0, cl, na, hlen, ?_⟩
        obtain ⟨L', _, S4, E4⟩ := fin (F' := F2) (H' := upd H2 z0 (.ins Cl dx (L2.putF f v fvs))) (d' := d') (M' := M') (U := L) (T := []) (fun y u hy hn => by rw [upd_ne fun e => hn (by rw [e]; exact zin)]; exact hy) (fun y h => upd_live h) (fun _ h => h) (fun _ h => .inl h) (fun y h => upd_live (S2.fa y h)) r' nd'
          (fun y hy => (sub' y hy).elim (fun q => ⟨.inl q, nfM y q⟩) fun q => ⟨.inr (.inl ⟨q, (ap2 y q).2⟩), (ap2 y q).1⟩) (fun _ z => nomatch z)
        refine q1 F2 _ _ σ ?_ (fun z => tt z) S4
        have E24 := (E2.more (U1 := L) fun _ z => nomatch z).trans (U := L) (by rw [List.append_nil]; exact E4)
        have := E.trans (U := []) (E24.more (U1 := [] ++ L) fun _ z => by simpa using z)
        exact this.mono fun _ => rfl
theorem S_retb (ha : PE X l (tE X.K Er Wf P a false)) : PS X (.Return (some l) pos) (tS X.K Er Wf P (.retb a) hot) :=
  (ps_ret ha).imp fun D σ H ⟨F, e, Ls, s, q⟩ => by
    simp only [run] at q
    exact opndS s (m := mu (.retb a)) id q fun d e1 v F1 H1 Ls1 L E S R O q1 => q1 v F1 H1 Ls1 σ L (E.mono fun _ => rfl) S R (ov_f O)
theorem S_retbN : PS X (.Return none pos) (tS X.K Er Wf P (.retb .non) hot) :=
  ps_retN.imp fun D σ H ⟨F, e, Ls, s, q⟩ => by
    simp only [run, ev, ofR] at q
    exact q .non F H Ls σ [] (Eff.refl.mono fun _ => rfl) s .non Own.nil
end
end VI
set_option maxRecDepth 100000
set_option maxHeartbeats 4000000
/-! VJ: defs that may change their first argument; methods; instances made. -/
namespace VI
open PySem PySem.Spec PyProof.Rows L2 RZ
/-- a promise: what the evaluator tells of a def that may change its first argument -/
def spB (K : PySem.W.Frag) (Er : EE) (ca : Nat → Addr) (n : Nat) (ps : Nat) (cr : List D → BR) : Sp := fun vs H Q E => ∃ F d0 ds v0 vs' L, vs = v0 :: vs' ∧ ds.length + 1 = ps ∧ (∀ a, F a → H a ≠ none) ∧ Rep K Er F H v0 d0 L ∧ L.Nodup ∧ (∀ a ∈ L, ¬ F a) ∧ Reps K Er F H vs' ds [] ∧ match cr (d0 :: ds) with
  | .ok r d => ∀ v F' H' Lr L0, (∀ a o, H a = some o → a ∉ L → H' a = some o) → (∀ a, H a ≠ none → H' a ≠ none) → (∀ a, F a → F' a) → (∀ a, F' a → F a ∨ a ∈ L ∨ H a = none) → (∀ a, F' a → H' a ≠ none) → Rep K Er F' H' v r Lr → Rep K Er F' H' v0 d L0 → (Lr ++ L0).Nodup → (∀ a ∈ Lr ++ L0, (a ∈ L ∨ H a = none) ∧ ¬ F' a) → Q v H'
  | .ex c h d => ∀ F' H' L0, c < n → (∀ a o, H a = some o → a ∉ L → H' a = some o) → (∀ a, H a ≠ none → H' a ≠ none) → (∀ a, F a → F' a) → (∀ a, F' a → F a ∨ a ∈ L ∨ H a = none) → (∀ a, F' a → H' a ≠ none) → Rep K Er F' H' v0 d L0 → L0.Nodup → (∀ a ∈ L0, (a ∈ L ∨ H a = none) ∧ ¬ F' a) → E (.ref (ca c)) none H'
  | .stuck => False
section
variable {K : PySem.W.Frag} {Er : EE} {F F' F1 F2 : Addr → Prop} {H H' H1 H2 H3 : Hp} {v x y : V} {dx dy d : D} {L L' Lx Ly : List Addr} {e e' e1 : Env} {σ σ' : L2.St} {Ls Ls' Ls1 Ls2 : Nat → List Addr} {U T : List Addr}
variable {Wf : Bool → Nat → L2.St → Hp → Prop} {ms m m1 m2 p hot : Bool} {rt : Option Nat} {Q : VK} {P : Par} {D0 D1 : Ends} {N N' : L2.St → Hp → Prop} {ca : Nat → Addr} {n : Nat}
variable {X : Cx} {l r : Expr} {pos : Pos} {a b c as pl ix : C} {st : Stmt} {sts : List Stmt} {es : List Expr}
theorem startE_zero {k : Nat} {ds : List D} : (startE k (d :: ds))[0]? = some (some d) := by
  unfold startE
  rw [List.map_cons, List.cons_append]
  rfl
/-- a body's beginning, the first argument owned -/
theorem Sx.beginB {N : List Str} {v0 : V} {d0 : D} {vs : List V} {ds : List D} (r0 : Rep K Er0 F H v0 d0 L) (nd : L.Nodup) (nf : ∀ a ∈ L, ¬ F a) (r : Reps K Er0 F H vs ds []) (hl : ds.length + 1 ≤ N.length) (fa : ∀ a, F a → H a ≠ none) : Sx K (fixE Er0 0 v0) F H (startE N.length (d0 :: ds)) (L2.start N (v0 :: vs)) (up (fun _ => []) 0 L) := by
  refine ⟨by rw [startE_len (by simpa using hl), start_len (by simp only [List.length_cons]; rw [r.len]; exact hl)], fun i d h => ?_, fun i h => ?_, fun i => ?_, fun i j a h1 h2 => ?_, fun i a h => ?_, fa, fun i v h => ?_⟩
  · have h2 := startE_get h
    cases i with
    | zero =>
      cases h2
      exact ⟨v0, start_some rfl, by rw [up_same]; exact r0.er er0⟩
    | succ i =>
      obtain ⟨v, M, h1, h3, h4⟩ := r.get (i := i) (by simpa using h2)
      obtain rfl := List.sublist_nil.mp h4
      exact ⟨v, start_some (by simpa using h1), by rw [up_ne (by omega)]; exact h3.er er0⟩
  · by_cases z : i = 0
    · subst z
      exact absurd startE_zero (h d0)
    · rw [up_ne z]
  · by_cases z : i = 0
    · subst z; rw [up_same]; exact nd
    · rw [up_ne z]; exact List.nodup_nil
  · by_cases z : i = 0
    · by_cases z' : j = 0
      · rw [z, z']
      · rw [up_ne z'] at h2; cases h2
    · rw [up_ne z] at h1; cases h1
  · by_cases z : i = 0
    · subst z; rw [up_same] at h; exact nf a h
    · rw [up_ne z] at h; cases h
  · rw [fixE_s] at h
    split at h
    · rename_i z
      cases h
      rw [z]
      exact start_some rfl
    · cases h
theorem body_rdB {Pa : Par} {fn : Fn} {N : List Str} {vs : List V} {Q : VK} {E : XK} {ps : Nat} {late : Bool} (hps : ps ≤ N.length) (h : spB K Er0 ca n ps (fun ds => outB late (run Pa fn.body false (startE N.length ds))) vs H Q E) :
    ∃ v0 vs', vs = v0 :: vs' ∧ tS K (fixE Er0 0 v0) (wfE ca n late E) Pa fn.body false { nx := fun _ H' => Q .non H', rt := Q } (L2.start N vs) H := by
  obtain ⟨F, d0, ds, v0, vs', L, rfl, hl, fa, r0, nd, nf, r, h⟩ := h
  refine ⟨v0, vs', rfl, ?_⟩
  dsimp only at h
  have hN : 0 < N.length := by omega
  refine ⟨F, startE N.length (d0 :: ds), up (fun _ => []) 0 L, Sx.beginB r0 nd nf r (by omega) fa, ?_⟩
  have inL : ∀ a, In (up (fun _ => ([] : List Addr)) 0 L) a ↔ a ∈ L := fun a => ⟨fun z => z.up.elim id (fun ⟨_, _, z⟩ => (nomatch z)), fun z => ⟨0, by rw [up_same]; exact z⟩⟩
  have kp : ∀ {F' : Addr → Prop} {H' : Hp} {Ls' : Nat → List Addr} {T : List Addr}, Eff true F H (up (fun _ => []) 0 L) [] F' H' Ls' T → ∀ a o, H a = some o → a ∉ L → H' a = some o := fun E a o z q => E.keep a o z fun _ => ⟨fun w => q ((inL a).mp w), (fun z => (nomatch z))⟩
  have fn' : ∀ {F' : Addr → Prop} {H' : Hp} {Ls' : Nat → List Addr} {T : List Addr}, Eff true F H (up (fun _ => []) 0 L) [] F' H' Ls' T → ∀ a, F' a → F a ∨ a ∈ L ∨ H a = none := fun E a z => by
    rcases E.fn a z with w | w | w | w
    · exact .inr (.inl ((inL a).mp w))
    · cases w
    · exact .inl w
    · exact .inr (.inr w)
  have new : ∀ {F' : Addr → Prop} {H' : Hp} {Ls' : Nat → List Addr} {T : List Addr}, Eff true F H (up (fun _ => []) 0 L) [] F' H' Ls' T → ∀ a, In Ls' a ∨ a ∈ T → a ∈ L ∨ H a = none := fun E a z => by
    rcases E.sub a z with w | w | w
    · exact .inl ((inL a).mp w)
    · cases w
    · exact .inr w
  -- the first slot at the end
  have slot : ∀ {F' : Addr → Prop} {H' : Hp} {Ls' : Nat → List Addr} {σ' : L2.St} {e2 : Env} {d : D}, Sx K (fixE Er0 0 v0) F' H' e2 σ' Ls' → e2[0]? = some (some d) → Rep K Er0 F' H' v0 d (Ls' 0) := fun S he => by
    obtain ⟨v, hv, rv⟩ := S.rep 0 _ he
    have := S.fx 0 v0 rfl
    rw [hv] at this
    cases this
    exact rv.unf
  cases hr : run Pa fn.body false (startE N.length (d0 :: ds)) with
  | nx e2 =>
    rw [hr] at h
    unfold outB at h
    intro F' H' Ls' σ' E k S
    dsimp only at h
    split at h
    · rename_i z _ hz
      split at hz
      · rename_i d he
        cases hz
        exact h .non F' H' [] (Ls' 0) (kp E) E.live E.fm (fn' E) S.fa .non (slot S he) (S.nd 0) fun a z => ⟨new E a (.inl ⟨0, z⟩), S.nf 0 a z⟩
      · cases hz
    · rename_i z _ hz
      split at hz <;> cases hz
    · exact h.elim
  | rb r2 e2 =>
    rw [hr] at h
    unfold outB at h
    intro v F' H' Ls' σ' Lr E S R O
    dsimp only at h
    split at h
    · rename_i z _ hz
      split at hz
      · rename_i d he
        cases hz
        refine h v F' H' Lr (Ls' 0) (kp E) E.live E.fm (fn' E) S.fa R.unf (slot S he) (List.nodup_append.mpr ⟨O.nd, S.nd 0, fun a ha b hb q => (O.no a ha).2 ⟨0, q ▸ hb⟩⟩) fun a z => ?_
        rcases List.mem_append.mp z with z | z
        · exact ⟨new E a (.inr z), (O.no a z).1⟩
        · exact ⟨new E a (.inl ⟨0, z⟩), S.nf 0 a z⟩
      · cases hz
    · rename_i z _ hz
      split at hz <;> cases hz
    · exact h.elim
  | ex c hh e2 =>
    rw [hr] at h
    unfold outB at h
    intro F' H' Ls' σ' Ef k S
    dsimp only at h
    cases he : e2[0]? with
    | none => rw [he] at h; exact h.elim
    | some o =>
      cases o with
      | none => rw [he] at h; exact h.elim
      | some d =>
        rw [he] at h
        have go : ∀ {b : Bool}, (match BR.ex c b d with
          | .ok r d => ∀ v F' H' Lr L0, (∀ a o, H a = some o → a ∉ L → H' a = some o) → (∀ a, H a ≠ none → H' a ≠ none) → (∀ a, F a → F' a) → (∀ a, F' a → F a ∨ a ∈ L ∨ H a = none) → (∀ a, F' a → H' a ≠ none) → Rep K Er0 F' H' v r Lr → Rep K Er0 F' H' v0 d L0 → (Lr ++ L0).Nodup → (∀ a ∈ Lr ++ L0, (a ∈ L ∨ H a = none) ∧ ¬ F' a) → Q v H'
          | .ex c h d => ∀ F' H' L0, c < n → (∀ a o, H a = some o → a ∉ L → H' a = some o) → (∀ a, H a ≠ none → H' a ≠ none) → (∀ a, F a → F' a) → (∀ a, F' a → F a ∨ a ∈ L ∨ H a = none) → (∀ a, F' a → H' a ≠ none) → Rep K Er0 F' H' v0 d L0 → L0.Nodup → (∀ a ∈ L0, (a ∈ L ∨ H a = none) ∧ ¬ F' a) → E (.ref (ca c)) none H'
          | .stuck => False) → c < n → E (.ref (ca c)) none H' := fun g hc => g F' H' (Ls' 0) hc (kp Ef) Ef.live Ef.fm (fn' Ef) S.fa (slot S he) (S.nd 0) fun a z => ⟨new Ef a (.inl ⟨0, z⟩), S.nf 0 a z⟩
        cases late with
        | true =>
          simp only [if_true] at h
          exact ⟨.inl rfl, go (b := true) h⟩
        | false =>
          simp only [Bool.false_eq_true, if_false] at h
          cases hh with
          | true => simp only [if_true] at h
          | false =>
            simp only [Bool.false_eq_true, if_false] at h
            exact ⟨.inr rfl, go (b := false) h⟩
  | rt d => rw [hr] at h; exact h.elim
  | bk e2 => rw [hr] at h; exact h.elim
  | ct e2 => rw [hr] at h; exact h.elim
  | stuck => rw [hr] at h; exact h.elim
theorem spB_len {ps : Nat} {cr : List D → BR} {vs : List V} {Q : VK} {E : XK} (h : spB K Er ca n ps cr vs H Q E) : vs.length = ps := by
  obtain ⟨F, d0, ds, v0, vs', L, rfl, hl, _, _, _, _, r, _⟩ := h
  rw [List.length_cons, r.len, hl]
end
end VI
set_option maxRecDepth 100000
set_option maxHeartbeats 4000000
/-! VJ: calls of such defs, of methods; instances made. -/
namespace VI
open PySem PySem.Spec PyProof.Rows L2 RZ
section
variable {X : Cx} {CX : CXT} {k : Nat} {f C : Addr} {fd : FuncData} {ps : List Str} {sp : Sp} {E : L2.St → XK} {x m : Str} {p pos apos : Pos} {e o : Expr} {es : List Expr} {ta : TE} {t : TA}
/-- o.m(e, ..), the class told by what o is -/
def tMethD (X : Cx) (m : Str) (ta : TE) (t : TA) : TE := fun σ H Q => ta σ H fun x H1 => ∃ (a C dx g : Addr) (fs : List (Str × V)) (CX : CXT) (k : Nat) (fd : FuncData) (ps : List Str) (sp : Sp) (E : XK), x = .ref a ∧ H1 a = some (.ins C dx fs) ∧ fs.lookup m = none ∧
  Cls X.K C ∧ Meth X.K C m g ∧ FnOk X.prog X.w X.K X.mg X.base CX k g fd ps sp ∧ Room k X.A ∧ Binds X.K fd ps [] ∧ PassesAt CX X σ E ∧ t σ H1 fun vs H2 => sp (x :: vs) H2 Q E
theorem run_fnS1 {pins : List (Addr × Obj)} {σ : L2.St} {H : Hp} {s : Shared} {Q : VK} {E : XK} {us : List Value} {vs : List V} (F : FnOk X.prog X.w X.K X.mg X.base CX k f fd ps sp) (hr : Room k X.A) (hb : Binds X.K fd ps []) (hx : PassesAt CX X σ E)
    (I : Inv X pins σ H s) (r : Vals vs us) (h : sp vs H Q E) : wpAny (model X.prog X.w) X.A (call (.ref f) us) (EP X pins σ Q) X.xe s := run_fnS (E := fun _ => E) F hr hb hx I r h
theorem pe_methD {pl : Sem Bool} (he : PE X o ta) (ha : PA X (e :: es) t)
    (hst : starEach (e :: es) X.env = (false, eval e X.env) :: starEach es X.env) (hpl : (backTo pos (starEach es X.env)).any (·.1) = false)
    (ht : eval (.Call (.Attribute o m apos) (e :: es) [] pos) X.env = (do
      let ov ← eval o X.env
      standAt apos.atName
      let (f, first) ← holding [ov] (getMethod ov m pl)
      callWith pos f first (backTo pos (starEach (e :: es) X.env)) (backToKw pos (keywordEach [] X.env)))) :
    PE X (.Call (.Attribute o m apos) (e :: es) [] pos) (tMethD X m ta t) := by
  refine ⟨fun pins s σ H Q I h => ?_⟩
  refine PySem.W.methodCall_KW (pl := pl) (thn (he.run pins s σ H _ I h) fun u s1 ⟨x, H1, I1, rx, a, C, dx, g, fs, CX, k, fd, ps, sp, E, ex, ea, l, c, hm, F, hr, hb, hx, q⟩ => ?_) ht
  subst ex
  obtain rfl : u = Value.ref a := rx
  refine getmeth_ok I1 ea c hm l ?_
  refine PySem.W.callWith_K (first := [.ref a]) (h₀ := X.base) I.ok.mod.kin hm.kp (thn (ha.run pos pins s1 σ H1 _ I1 q) fun us s2 ⟨vs, H2, I2, r, q2⟩ => ⟨I2.kIn, ?_⟩) hst hpl
  exact run_fnS1 (us := .ref a :: us) (vs := .ref a :: vs) F hr hb hx I2 (.cons rfl r) q2
theorem pe_methD0 {pl : Sem Bool} (he : PE X o ta)
    (ht : eval (.Call (.Attribute o m apos) [] [] pos) X.env = (do
      let ov ← eval o X.env
      standAt apos.atName
      let (f, first) ← holding [ov] (getMethod ov m pl)
      callWith pos f first (backTo pos (starEach [] X.env)) (backToKw pos (keywordEach [] X.env)))) :
    PE X (.Call (.Attribute o m apos) [] [] pos) (tMethD X m ta tNil) := by
  refine ⟨fun pins s σ H Q I h => ?_⟩
  refine PySem.W.methodCall_KW (pl := pl) (thn (he.run pins s σ H _ I h) fun u s1 ⟨x, H1, I1, rx, a, C, dx, g, fs, CX, k, fd, ps, sp, E, ex, ea, l, c, hm, F, hr, hb, hx, q⟩ => ?_) ht
  subst ex
  obtain rfl : u = Value.ref a := rx
  refine getmeth_ok I1 ea c hm l ?_
  exact PySem.W.callWith_K0 (first := [.ref a]) I1.kIn hm.kp (run_fnS1 (us := [.ref a]) (vs := [.ref a]) F hr hb hx I1 (.cons rfl .nil) q)
/-- C(..), what is raised wished for at the slots -/
theorem run_makeS {pins : List (Addr × Obj)} {σ : L2.St} {H : Hp} {s : Shared} {Q : VK} {E : XK} {us : List Value} {vs : List V} (M : Mk X.K C f) (F : FnOk X.prog X.w X.K X.mg X.base CX k f fd ps sp) (hr : Room (k + 1) X.A) (hb : Binds X.K fd ps [])
    (hx : PassesAt CX X σ E) (I : Inv X pins σ H s) (r : Vals vs us)
    (h : ∀ x dx, H x = none → H dx = none → dx ≠ x → sp (.ref x :: vs) (upd (upd H dx (.own x)) x (.ins C dx [])) (fun v H2 => v = .non ∧ Q (.ref x) H2) E) :
    wpAny (model X.prog X.w) X.A (call (.ref C) us) (EP X pins σ Q) X.xe s := by
  have hq := h (s.heap.objs.size + 1) s.heap.objs.size (I.hok.fresh (Nat.le_succ _)) (I.hok.fresh (Nat.le_refl _)) (Nat.ne_of_lt (Nat.lt_succ_self _))
  have I2 := Inv.made (C := C) I
  have r2 : Vals (V.ref (s.heap.objs.size + 1) :: vs) (Value.ref (s.heap.objs.size + 1) :: us) := .cons rfl r
  have hl : (Value.ref (s.heap.objs.size + 1) :: us).length = ps.length := by
    have e := r2.length
    rw [F.len _ _ _ _ hq] at e
    exact e.symm
  have hbb := hb _ (Value.ref (s.heap.objs.size + 1) :: us) I2.kIn (by rw [List.append_nil]; exact hl)
  rw [List.append_nil] at hbb
  refine wpAny_call (make_map (f := f) I.kIn M.makes M.init (beq_iff_eq.mp M.fn) (codeAny_mono (F.run _ X.stack _ _ ⟨Value.ref (s.heap.objs.size + 1) :: us, []⟩ (Value.ref (s.heap.objs.size + 1) :: us) _ _ E (hr.make C us [])
    (I2.env0.make C us []) hbb r2 hq) fun r s' hq' => ?_))
  cases r with
  | error e => exact hx pins _ _ e s' I2 hq'
  | ok fl =>
    cases fl with
    | ret u =>
      obtain ⟨v, H', I3, rv, ev, q3⟩ := I2.after hq'
      subst ev
      exact ⟨rv, ⟨V.ref (s.heap.objs.size + 1), H', I3, rfl, q3⟩⟩
    | next => exact False.elim hq'
    | brk => exact False.elim hq'
    | cont => exact False.elim hq'
def tMakeS (C : Addr) (sp : Sp) (E : L2.St → XK) (t : TA) : TE := fun σ H Q => t σ H fun vs H1 => ∀ x dx, H1 x = none → H1 dx = none → dx ≠ x →
  sp (.ref x :: vs) (upd (upd H1 dx (.own x)) x (.ins C dx [])) (fun v H2 => v = .non ∧ Q (.ref x) H2) (E σ)
theorem pe_makeS (M : Mk X.K C f) (F : FnOk X.prog X.w X.K X.mg X.base CX k f fd ps sp) (hr : Room (k + 1) X.A) (hg : Gl X x) (hm : X.mg x = some (.ref C)) (hb : Binds X.K fd ps []) (hx : ∀ σ, PassesAt CX X σ (E σ))
    (ha : PA X (e :: es) t) (hdb : (x == ("__debug__" : Str)) = false) (he : starEach (e :: es) X.env = (false, eval e X.env) :: starEach es X.env) (hpl : (backTo pos (starEach es X.env)).any (·.1) = false) :
    PE X (.Call (.Name x p) (e :: es) [] pos) (tMakeS C sp E t) := by
  refine ⟨fun pins s σ H Q I h => ?_⟩
  refine wpAny_Call_Name_kw (ld_glob I hg hm ?_ hdb)
  refine PySem.W.callWith_K (h₀ := X.base) I.ok.mod.kin M.kp (thn (ha.run pos pins s σ H _ I h) fun us s1 ⟨vs, H1, I1, r, q⟩ => ⟨I1.kIn, ?_⟩) he hpl
  exact run_makeS M F hr hb (hx σ) I1 r q
theorem pe_makeS0 (M : Mk X.K C f) (F : FnOk X.prog X.w X.K X.mg X.base CX k f fd ps sp) (hr : Room (k + 1) X.A) (hg : Gl X x) (hm : X.mg x = some (.ref C)) (hb : Binds X.K fd ps []) (hx : ∀ σ, PassesAt CX X σ (E σ)) (hdb : (x == ("__debug__" : Str)) = false) :
    PE X (.Call (.Name x p) [] [] pos) (tMakeS C sp E tNil) := by
  refine ⟨fun pins s σ H Q I h => ?_⟩
  refine wpAny_Call_Name_kw (ld_glob I hg hm ?_ hdb)
  exact PySem.W.callWith_K0 I.kIn M.kp (run_makeS (us := []) M F hr hb (hx σ) I .nil h)
end
section
variable {K : PySem.W.Frag} {Er : EE} {F F' F1 F2 : Addr → Prop} {H H' H1 H2 H3 : Hp} {v x y : V} {dx dy d : D} {L L' Lx Ly : List Addr} {e e' e1 : Env} {σ σ' : L2.St} {Ls Ls' Ls1 Ls2 : Nat → List Addr} {U T : List Addr}
variable {Wf : Bool → Nat → L2.St → Hp → Prop} {ms m m1 m2 p hot : Bool} {rt : Option Nat} {Q : VK} {P : Par} {D0 D1 : Ends} {N N' : L2.St → Hp → Prop} {ca : Nat → Addr} {n : Nat}
variable {X : Cx} {l r : Expr} {pos : Pos} {a b c as pl ix : C} {st : Stmt} {sts : List Stmt} {es : List Expr}
/-- what is lent to a def stands frozen -/
theorem lend_ok (s : Sx K Er F H e σ Ls) {rs : List (Option Nat)} {vs : List V} {ds : List D} (r : Reps K Er F H vs ds L) (hU : ∀ a ∈ L, a ∈ U) (hv : ∀ a ∈ L, In Ls a → ¬ F a → ∃ i, some i ∈ rs ∧ a ∈ Ls i) :
    ∃ F' Ls', Sx K Er F' H (lend rs ds e) σ Ls' ∧ Eff false F H Ls U F' H Ls' U ∧ Reps K Er F' H vs (frzL ds) [] := by
  obtain ⟨F', Ls', e', ds', _, h2, s', E, r'⟩ := shr_ok s r hU hv
  refine ⟨F', Ls', ?_, E, ?_⟩
  all_goals replace h2 : (if lfL ds = true then R.ok (D.tup ds) e else R.ok (.tup (frzL ds)) (rs.foldl fz e)) = .ok (.tup ds') e' := h2
  · unfold lend
    by_cases h : lfL ds = true
    · rw [if_pos h] at h2 ⊢
      cases h2; exact s'
    · rw [if_neg h] at h2 ⊢
      cases h2; exact s'
  · by_cases h : lfL ds = true
    · rw [if_pos h] at h2
      cases h2
      exact r'.frz (fun _ z => z) fun _ z => nomatch z
    · rw [if_neg h] at h2
      cases h2
      exact r'
theorem bcR_fin {f ps : Nat} {rs : List (Option Nat)} {ip : Nat × List Stp} {w v0 : V} {vs : List V} {ds : List D} {E : XK} {late : Bool} (s : Sx K Er F H e σ Ls) (hσ : σ[ip.1]? = some (some v0)) (hw : valAt H ip.2 v0 = some w) (r : Reps K Er F H vs ds L) (hU : ∀ a ∈ L, a ∈ U) (hv : ∀ a ∈ L, In Ls a → ¬ F a → ∃ i, some i ∈ rs ∧ a ∈ Ls i)
    (hlate : ∀ c h ds d, P.bc f ds = .ex c h d → h = late) (hE : ∀ c H', c < n → Wf late c σ H' → E (.ref (ca c)) none H') (hlen : ∀ ds, P.bc f ds ≠ .stuck → ds.length = ps) (hm : m = true)
    (q : PostE K Er Wf m F H Ls U σ p none (bcR P.bc f rs ip ds e) Q) : spB K Er ca n ps (P.bc f) (w :: vs) H Q E := by
  obtain ⟨F3, Ls3, S3, E3, R3⟩ := lend_ok s r hU hv
  unfold bcR at q
  cases hc : plD (lend rs ds e) ip with
  | none => rw [hc] at q; exact q.elim
  | some d =>
    rw [hc] at q
    dsimp only at q
    cases ho : isOwn d with
    | false => rw [ho] at q; exact q.elim
    | true =>
      rw [ho, if_pos rfl] at q
      obtain ⟨M, rM, ndM, nfM, inM, fin⟩ := changed_at S3 hc hσ hw
      have hps : ds.length + 1 = ps := by
        have := hlen (d :: frzL ds) fun z => by rw [z] at q; exact q
        rw [← this, List.length_cons, frzL_len]
      refine ⟨F3, d, frzL ds, w, vs, M, rfl, by rw [frzL_len]; exact hps, S3.fa, rM, ndM, nfM, R3, ?_⟩
      have fin' : ∀ {F' : Addr → Prop} {H' : Hp} {d' : D} {L0 T : List Addr}, (∀ a o, H a = some o → a ∉ M → H' a = some o) → (∀ a, H a ≠ none → H' a ≠ none) → (∀ a, F3 a → F' a) → (∀ a, F' a → F3 a ∨ a ∈ M ∨ H a = none) → (∀ a, F' a → H' a ≠ none) → Rep K Er F' H' w d' L0 → L0.Nodup → (∀ a ∈ L0, (a ∈ M ∨ H a = none) ∧ ¬ F' a) → (∀ a ∈ T, a ∈ M ∨ H a = none) →
          ∃ L', (∀ z ∈ L', z ∈ L0 ∨ (In Ls3 z ∧ z ∉ M)) ∧ Sx K Er F' H' (setPl (lend rs ds e) ip d') σ (up Ls3 ip.1 L') ∧ Eff true F3 H Ls3 (U ++ U) F' H' (up Ls3 ip.1 L') T := fun {F' H' d' L0 T} k1 k2 k3 k4 k5 k6 k7 k8 k9 =>
        fin k1 k2 k3 (fun z h => by
          rcases k4 z h with w | w | w
          · exact .inl w
          · exact .inr (.inl w)
          · exact .inr (.inr (.inr w))) k5 k6 k7 (fun z h => ⟨(k8 z h).1.elim .inl fun w => .inr (.inr w), (k8 z h).2⟩) fun z h => (k9 z h).elim .inl fun w => .inr (.inr w)
      cases hb : P.bc f (d :: frzL ds) with
      | stuck => rw [hb] at q; exact q.elim
      | ok r2 d' =>
        rw [hb] at q
        intro v F' H' Lr L0 k1 k2 k3 k4 k5 Rr R0 nd no
        have ndp := List.nodup_append.mp nd
        obtain ⟨L', sub, S4, E4⟩ := fin' (T := Lr) k1 k2 k3 k4 k5 R0 ndp.2.1 (fun a h => no a (List.mem_append_right _ h)) fun a h => (no a (List.mem_append_left _ h)).1
        have q2 := PostE.step (m1 := false) (m2 := m) (fun z => Bool.noConfusion z) id E3 q
        refine q2 v F' H' _ Lr (E4.mono fun _ => hm) S4 Rr (Own.ov ⟨ndp.1, fun a h => ⟨(no a (List.mem_append_left _ h)).2, fun z => ?_⟩⟩ rfl)
        have ha := (no a (List.mem_append_left _ h)).1
        have out : ∀ {j : Nat}, j ≠ ip.1 → a ∈ Ls3 j → False := fun {j} hj z => by
          rcases ha with w | w
          · exact hj (S3.dj j ip.1 a z (inM a w))
          · exact S3.inH ⟨_, z⟩ w
        rcases z.up with z | ⟨j, hj, z⟩
        · rcases sub a z with z | z
          · exact ndp.2.2 a h a z rfl
          · rcases ha with w | w
            · exact z.2 w
            · exact S3.inH z.1 w
        · exact out hj z
      | ex c h d' =>
        rw [hb] at q
        have hl := hlate c h _ _ hb
        intro F' H' L0 hcn k1 k2 k3 k4 k5 R0 nd no
        obtain ⟨L', sub, S4, E4⟩ := fin' (T := []) k1 k2 k3 k4 k5 R0 nd no (fun _ z => nomatch z)
        refine hE c H' hcn (hl ▸ q F' H' _ ?_ S4)
        exact ((E3.trans (U := U) E4).mono fun _ => hm)
end
end VI
set_option maxRecDepth 100000
set_option maxHeartbeats 4000000
/-! VJ: the rules of such calls. -/
namespace VI
open PySem PySem.Spec PyProof.Rows L2 RZ
section
variable {K : PySem.W.Frag} {Er : EE} {F F' F1 F2 : Addr → Prop} {H H' H1 H2 H3 : Hp} {v x y : V} {dx dy d : D} {L L' Lx Ly : List Addr} {e e' e1 : Env} {σ σ' : L2.St} {Ls Ls' Ls1 Ls2 : Nat → List Addr} {U T : List Addr}
variable {Wf : Bool → Nat → L2.St → Hp → Prop} {ms m m1 m2 p hot : Bool} {rt : Option Nat} {Q : VK} {P : Par} {D0 D1 : Ends} {N N' : L2.St → Hp → Prop} {ca fa : Nat → Addr} {n k : Nat}
variable {X : Cx} {l r : Expr} {pos : Pos} {a b c as pl ix : C} {st : Stmt} {sts : List Stmt} {es : List Expr}
/-- a def of the table, as it is called -/
structure CallI (X : Cx) (Er : EE) (Wf : Bool → Nat → L2.St → Hp → Prop) (P : Par) (ca : Nat → Addr) (n k : Nat) (f : Nat) (g : Addr) : Prop where
  ex : ∃ fd pn late, FnOk X.prog X.w X.K X.mg X.base (cxb late X.prog X.w) k g fd pn (spI X.K Er ca n pn.length (P.cl f)) ∧ Binds X.K fd pn [] ∧ (∀ ds c h, P.cl f ds = .ex c h → h = late) ∧ (∀ ds, P.cl f ds ≠ .stuck → ds.length = pn.length) ∧ ∀ σ, PassesAt (cxb late X.prog X.w) X σ (fun cls d H => WW ca n Wf late cls d σ H)
structure CallBr (X : Cx) (Er : EE) (Wf : Bool → Nat → L2.St → Hp → Prop) (P : Par) (ca : Nat → Addr) (n k : Nat) (f : Nat) (g : Addr) : Prop where
  ex : ∃ fd pn late, FnOk X.prog X.w X.K X.mg X.base (cxb late X.prog X.w) k g fd pn (spB X.K Er ca n pn.length (P.bc f)) ∧ Binds X.K fd pn [] ∧ (∀ c h ds d, P.bc f ds = .ex c h d → h = late) ∧ (∀ ds, P.bc f ds ≠ .stuck → ds.length = pn.length) ∧ ∀ σ, PassesAt (cxb late X.prog X.w) X σ (fun cls d H => WW ca n Wf late cls d σ H)
theorem opPl {f : Nat × List Stp → Env → R D} {Qa : VK} (s : Sx K Er F H e σ Ls) (hm : mu pl = false) (q : PostE K Er Wf m F H Ls [] σ p rt ((evPl P pl e).bind f) Q)
    (g : ∀ ip e1 v v0 F1 H1 Ls1, Eff false F H Ls [] F1 H1 Ls1 [] → Sx K Er F1 H1 e1 σ Ls1 → σ[ip.1]? = some (some v0) → valAt H1 ip.2 v0 = some v → PostE K Er Wf m F1 H1 Ls1 [] σ p rt (f ip e1) Q → Qa v H1) : tPl K Er Wf P pl σ H Qa := by
  refine ⟨F, e, Ls, s, ?_⟩
  cases hp : evPl P pl e with
  | stuck => rw [hp] at q; exact q.elim
  | ex c h e1 => rw [hp] at q; exact ExP.weak (fun z => by rw [hm] at z; cases z) q
  | ok ip e1 =>
    rw [hp] at q
    intro v v0 F1 H1 Ls1 E1 S1 hσ hv
    have q2 := PostE.step (U := []) (T := []) (m1 := false) (m2 := m) (fun z => Bool.noConfusion z) id (toF hm E1) q
    exact g ip e1 v v0 F1 H1 Ls1 (toF hm E1) S1 hσ hv q2
theorem E_bcall {f : Nat} {g : Addr} {nm : Str} {q : Pos} (CB : CallBr X Er Wf P ca n k f g) (hr : Room k X.A) (hg : Gl X nm) (hm : X.mg nm = some (.ref g)) (hk : PySem.W.keepIn X.K (.ref g) = true) (hd : (nm == ("__debug__" : Str)) = false)
    (hmp : mu pl = false) (hma : mu as = false) (hp : (l :: es).all plain = true) (hl : PE X l (tPl X.K Er Wf P pl)) (ha : PA X es (tAr X.K Er Wf P as true)) :
    PE X (.Call (.Name nm q) (l :: es) [] pos) (tE X.K Er Wf P (.bcall f pl as) p) := by
  obtain ⟨fd, pn, late, FO, hb, hlate, hlen, hx⟩ := CB.ex
  rw [List.all_cons, Bool.and_eq_true] at hp
  refine (pe_callS (E := fun σ cls d H => WW ca n Wf late cls d σ H) FO hr hg hm hk hb hx (pa_cons hl ha (star_plain hp.1 es)) hd (star_plain hp.1 es) (back_plain hp.2)).imp fun σ H Q ⟨F, e, Ls, s, q⟩ => ?_
  simp only [ev] at q
  refine opPl s hmp q fun ip e1 v v0 F1 H1 Ls1 E1 S1 hσ hv q1 => ?_
  refine args S1 (m2 := mu (.bcall f pl as)) (fun _ => rfl) id q1 fun ds e2 vs F2 H2 Ls2 L2 he E2 S2 R2 _ V2 q2 => ?_
  exact bcR_fin (Wf := Wf) S2 hσ (valAt_mono (fun a o h => (toF hma E2).all.1 a o h) hv) R2 (fun a z => by simpa using z) (V2 rfl) hlate (fun c H' hc w => ⟨c, hc, rfl, rfl, w⟩) hlen rfl q2
/-- how a method is found -/
def MethsOk (X : Cx) (cls : List ClsR) (fa : Nat → Addr) : Prop := ∀ c m f, mtOf cls c m = some f → Cls X.K (He.ga X.K c) ∧ Meth X.K (He.ga X.K c) m (fa f)
theorem look_none {fvs : List (Str × V)} {fs : List Str} {m : Str} (h : fvs.map (·.1) = fs) (hn : m ∉ fs) : fvs.lookup m = none := by
  rw [lookup_idx, h]
  cases hj : idxK fs m with
  | none => rfl
  | some j => exact absurd (List.mem_of_getElem? (idxK_get hj)) hn
theorem E_mcall {o : Expr} {mt : Str} {apos : Pos} {plm : Sem Bool} (MO : MethsOk X P.cls fa) (CI : ∀ c f, mtOf P.cls c mt = some f → CallI X Er Wf P ca n k f (fa f)) (hr : Room k X.A) (hma : mu as = false) (hp : (l :: es).all plain = true)
    (ht : eval (.Call (.Attribute o mt apos) (l :: es) [] pos) X.env = (do
      let ov ← eval o X.env
      standAt apos.atName
      let (f, first) ← holding [ov] (getMethod ov mt plm)
      callWith pos f first (backTo pos (starEach (l :: es) X.env)) (backToKw pos (keywordEach [] X.env))))
    (ho : PE X o (tE X.K Er Wf P a true)) (ha : PA X (l :: es) (tAr X.K Er Wf P as true)) : PE X (.Call (.Attribute o mt apos) (l :: es) [] pos) (tE X.K Er Wf P (.mcall mt a as) p) := by
  rw [List.all_cons, Bool.and_eq_true] at hp
  refine (pe_methD ho ha (star_plain hp.1 es) (back_plain hp.2) ht).imp fun σ H Q ⟨F, e, Ls, s, q⟩ => ?_
  simp only [ev] at q
  refine opnd s (m2 := mu (.mcall mt a as)) (fun z => by simp [mu, z]) id q fun d1 e1 v1 F1 H1 Ls1 L1 E1 S1 R1 O1 q1 => ?_
  cases d1 <;> (first | exact q1.elim | skip)
  rename_i mm cn fs xs
  dsimp only at q1
  cases hf : mtOf P.cls cn mt with
  | none => rw [hf] at q1; exact q1.elim
  | some f =>
    rw [hf] at q1
    dsimp only at q1
    by_cases hin : mt ∈ fs
    · rw [if_pos hin] at q1; exact q1.elim
    · rw [if_neg hin] at q1
      obtain ⟨cl, me⟩ := MO cn mt f hf
      obtain ⟨a', dx, fvs, M, rfl, h1, h2, r1, s1⟩ := R1.obj'
      obtain ⟨fd, pn, late, FO, hb, hlate, hlen, hx⟩ := (CI cn f hf).ex
      · refine ⟨a', _, dx, fa f, fvs, _, k, fd, pn, _, fun cls d H => WW ca n Wf late cls d σ H, rfl, h1, look_none h2 hin, cl, me, FO, hr, hb, hx σ, ?_⟩
        refine args S1 (m2 := mu (.mcall mt a as)) (fun z => by simp [mu, z]) id q1 fun ds e2 vs F2 H2 Ls2 L2 he E2 S2 R2 _ V2 q2 => ?_
        refine call_fin (rs := root a :: roots as) (ds := D.obj mm cn fs xs :: ds) (f := f) (Wf := Wf) (late := late) S2 (.cons (R1.side S1 E2 (ne_mu hma)) R2) (fun z hz => ?_) (fun z hz hi nf => ?_) (hlate _) (fun c H' hc w => ⟨c, hc, rfl, rfl, w⟩) ?_ q2
        · rcases List.mem_append.mp hz with w | w
          · simp [w]
          · simp [w]
        · rcases List.mem_append.mp hz with w | w
          · obtain ⟨i, h3, h4⟩ := (ov_t O1).use S1 (toF hma E2) z w hi nf
            exact ⟨i, by simp [h3], h4⟩
          · obtain ⟨i, h3, h4⟩ := V2 rfl z w hi nf
            exact ⟨i, by simp [h3], h4⟩
        · have := hlen (frzL (D.obj mm cn fs xs :: ds)) fun z => by rw [z] at q2; exact q2
          rw [← this, frzL_len]
theorem E_mcall0 {o : Expr} {mt : Str} {apos : Pos} {plm : Sem Bool} (MO : MethsOk X P.cls fa) (CI : ∀ c f, mtOf P.cls c mt = some f → CallI X Er Wf P ca n k f (fa f)) (hr : Room k X.A)
    (ht : eval (.Call (.Attribute o mt apos) [] [] pos) X.env = (do
      let ov ← eval o X.env
      standAt apos.atName
      let (f, first) ← holding [ov] (getMethod ov mt plm)
      callWith pos f first (backTo pos (starEach [] X.env)) (backToKw pos (keywordEach [] X.env))))
    (ho : PE X o (tE X.K Er Wf P a true)) : PE X (.Call (.Attribute o mt apos) [] [] pos) (tE X.K Er Wf P (.mcall mt a .nil) p) := by
  refine (pe_methD0 ho ht).imp fun σ H Q ⟨F, e, Ls, s, q⟩ => ?_
  simp only [ev] at q
  refine opnd s (m2 := mu (.mcall mt a .nil)) (fun z => by simp [mu, z]) id q fun d1 e1 v1 F1 H1 Ls1 L1 E1 S1 R1 O1 q1 => ?_
  cases d1 <;> (first | exact q1.elim | skip)
  rename_i mm cn fs xs
  dsimp only at q1
  cases hf : mtOf P.cls cn mt with
  | none => rw [hf] at q1; exact q1.elim
  | some f =>
    rw [hf] at q1
    dsimp only at q1
    by_cases hin : mt ∈ fs
    · rw [if_pos hin] at q1; exact q1.elim
    · rw [if_neg hin] at q1
      obtain ⟨cl, me⟩ := MO cn mt f hf
      obtain ⟨a', dx, fvs, M, rfl, h1, h2, r1, s1⟩ := R1.obj'
      obtain ⟨fd, pn, late, FO, hb, hlate, hlen, hx⟩ := (CI cn f hf).ex
      refine ⟨a', _, dx, fa f, fvs, _, k, fd, pn, _, fun cls d H => WW ca n Wf late cls d σ H, rfl, h1, look_none h2 hin, cl, me, FO, hr, hb, hx σ, ?_⟩
      simp only [evA, R.bind] at q1
      have R1' : Reps X.K Er F1 H1 [V.ref a'] [D.obj mm cn fs xs] L1 := by
        have := Reps.cons (M := []) R1 (Reps.nil (F := F1) (H := H1) (K := X.K) (Er := Er))
        rwa [List.append_nil] at this
      show spI X.K Er ca n pn.length (P.cl f) [V.ref a'] H1 Q (fun cls d H => WW ca n Wf late cls d σ H)
      refine call_fin (rs := root a :: roots .nil) (ds := [D.obj mm cn fs xs]) (f := f) (Wf := Wf) (late := late) S1 R1' (fun z hz => by simpa using hz) (fun z hz hi nf => ?_) (hlate _) (fun c H' hc w => ⟨c, hc, rfl, rfl, w⟩) ?_ q1
      · obtain ⟨i, h3, h4⟩ := ov_t O1 z hz hi nf
        exact ⟨i, by simp [h3], h4⟩
      · have := hlen (frzL [D.obj mm cn fs xs]) fun z => by rw [z] at q1; exact q1
        rw [← this, frzL_len]
/-- a method that may change what it is called of -/
theorem bmeth_rd (MO : MethsOk X P.cls fa) {mt : Str} (CB : ∀ c f, mtOf P.cls c mt = some f → CallBr X Er Wf P ca n k f (fa f)) (hr : Room k X.A) (hmp : mu pl = false) (hma : mu as = false) {t : TA}
    (ht : ∀ {σ : L2.St} {H : Hp} {QA : List V → Hp → Prop}, tAr X.K Er Wf P as true σ H QA → t σ H QA) {σ : L2.St} {H : Hp} {Q : VK} (h : tE X.K Er Wf P (.bmeth mt pl as) p σ H Q) : tMethD X mt (tPl X.K Er Wf P pl) t σ H Q := by
  obtain ⟨F, e, Ls, s, q⟩ := h
  simp only [ev] at q
  refine opPl s hmp q fun ip e1 v v0 F1 H1 Ls1 E1 S1 hσ hv q1 => ?_
  cases hc : plD e1 ip with
  | none => rw [hc] at q1; exact q1.elim
  | some dd =>
    rw [hc] at q1
    cases dd <;> (first | exact q1.elim | skip)
    rename_i mm cn fs xs
    cases mm with
    | false => exact q1.elim
    | true =>
      dsimp only at q1
      cases hf : mtOf P.cls cn mt with
      | none => rw [hf] at q1; exact q1.elim
      | some f =>
        rw [hf] at q1
        dsimp only at q1
        by_cases hin : mt ∈ fs
        · rw [if_pos hin] at q1; exact q1.elim
        · rw [if_neg hin] at q1
          obtain ⟨cl, me⟩ := MO cn mt f hf
          obtain ⟨M, rM, _, _⟩ := place_at S1 hc hσ hv
          obtain ⟨a', dx, fvs, M1, rfl, h1, h2, r1, s1⟩ := rM.obj'
          obtain ⟨fd, pn, late, FO, hb, hlate, hlen, hx⟩ := (CB cn f hf).ex
          refine ⟨a', _, dx, fa f, fvs, _, k, fd, pn, _, fun cls d H => WW ca n Wf late cls d σ H, rfl, h1, look_none h2 hin, cl, me, FO, hr, hb, hx σ, ht ?_⟩
          refine args S1 (m2 := mu (.bmeth mt pl as)) (fun _ => rfl) id q1 fun ds e2 vs F2 H2 Ls2 L2 he E2 S2 R2 _ V2 q2 => ?_
          exact bcR_fin (Wf := Wf) S2 hσ (valAt_mono (fun a o h => (toF hma E2).all.1 a o h) hv) R2 (fun a z => by simpa using z) (V2 rfl) hlate (fun c H' hc w => ⟨c, hc, rfl, rfl, w⟩) hlen rfl q2
theorem E_bmeth {o : Expr} {mt : Str} {apos : Pos} {plm : Sem Bool} (MO : MethsOk X P.cls fa) (CB : ∀ c f, mtOf P.cls c mt = some f → CallBr X Er Wf P ca n k f (fa f)) (hr : Room k X.A) (hmp : mu pl = false) (hma : mu as = false) (hp : (l :: es).all plain = true)
    (ht : eval (.Call (.Attribute o mt apos) (l :: es) [] pos) X.env = (do
      let ov ← eval o X.env
      standAt apos.atName
      let (f, first) ← holding [ov] (getMethod ov mt plm)
      callWith pos f first (backTo pos (starEach (l :: es) X.env)) (backToKw pos (keywordEach [] X.env))))
    (ho : PE X o (tPl X.K Er Wf P pl)) (ha : PA X (l :: es) (tAr X.K Er Wf P as true)) : PE X (.Call (.Attribute o mt apos) (l :: es) [] pos) (tE X.K Er Wf P (.bmeth mt pl as) p) := by
  rw [List.all_cons, Bool.and_eq_true] at hp
  exact (pe_methD ho ha (star_plain hp.1 es) (back_plain hp.2) ht).imp fun σ H Q h => bmeth_rd MO CB hr hmp hma (fun h => h) h
theorem E_bmeth0 {o : Expr} {mt : Str} {apos : Pos} {plm : Sem Bool} (MO : MethsOk X P.cls fa) (CB : ∀ c f, mtOf P.cls c mt = some f → CallBr X Er Wf P ca n k f (fa f)) (hr : Room k X.A) (hmp : mu pl = false)
    (ht : eval (.Call (.Attribute o mt apos) [] [] pos) X.env = (do
      let ov ← eval o X.env
      standAt apos.atName
      let (f, first) ← holding [ov] (getMethod ov mt plm)
      callWith pos f first (backTo pos (starEach [] X.env)) (backToKw pos (keywordEach [] X.env))))
    (ho : PE X o (tPl X.K Er Wf P pl)) : PE X (.Call (.Attribute o mt apos) [] [] pos) (tE X.K Er Wf P (.bmeth mt pl .nil) p) :=
  (pe_methD0 ho ht).imp fun σ H Q h => bmeth_rd MO CB hr hmp rfl (fun {σ H QA} ⟨F, e, Ls, s, q⟩ => by
    simp only [evA] at q
    exact q [] F H Ls [] (Eff.refl.mono fun z => Bool.noConfusion z) s .nil (fun _ => Own.nil) fun _ _ z => nomatch z) h
/-! ### instances made -/
theorem mk_rd {cr : ClsR} {c f : Nat} {fd : FuncData} {pn : List Str} {late : Bool} (hc : P.cls[c]? = some cr) (hi : cr.init = some f) (hlate : ∀ c h ds d, P.bc f ds = .ex c h d → h = late) (hlen : ∀ ds, P.bc f ds ≠ .stuck → ds.length = pn.length) {t : TA}
    (ht : ∀ {σ : L2.St} {H : Hp} {QA : List V → Hp → Prop}, tAr X.K Er Wf P as true σ H QA → t σ H QA) {σ : L2.St} {H : Hp} {Q : VK} (h : tE X.K Er Wf P (.mk c as) p σ H Q) :
    tMakeS (He.ga X.K cr.nm) (spB X.K Er ca n pn.length (P.bc f)) (fun σ cls d H => WW ca n Wf late cls d σ H) t σ H Q := by
  obtain ⟨F, e, Ls, s, q⟩ := h
  simp only [ev] at q
  refine ht (args s (m2 := mu (.mk c as)) id id q fun ds e1 vs F1 H1 Ls1 L1 he E1 S1 R1 _ V1 q1 => ?_)
  rw [hc] at q1
  dsimp only at q1
  rw [hi] at q1
  dsimp only at q1
  intro x dx nx ndx nex
  have nexd : x ≠ dx := fun z => nex z.symm
  have sm1 : Same H1 (upd (upd H1 dx (.own x)) x (.ins (He.ga X.K cr.nm) dx [])) := fun a o h => by
    rw [upd_ne (fun z => by rw [z, nx] at h; cases h), upd_ne (fun z => by rw [z, ndx] at h; cases h)]
    exact h
  have live1 : ∀ a, H1 a ≠ none → upd (upd H1 dx (.own x)) x (.ins (He.ga X.K cr.nm) dx []) a ≠ none := fun a h => sm1.live h
  have cellL : ∀ a ∈ L1, H1 a ≠ none := fun a h => by
    obtain ⟨o, ho, _⟩ := R1.cell a h
    rw [ho]; simp
  have nul : ∀ a, upd (upd H1 dx (.own x)) x (.ins (He.ga X.K cr.nm) dx []) a = none → H1 a = none := fun a h => by
    cases z : H1 a with
    | none => rfl
    | some o => rw [sm1 a o z] at h; cases h
  refine ⟨fun a => F1 a ∨ a ∈ L1, .obj true cr.nm [] [], frzL ds, .ref x, vs, [x], rfl, ?_, fun a h => live1 a (h.elim (S1.fa a) (cellL a)), .oow (fvs := []) upd_same rfl .nil, by simp, fun a h z => ?_, (R1.frz (F' := fun a => F1 a ∨ a ∈ L1) (fun _ z => .inl z) fun _ z => .inr z).all ⟨sm1, fun _ z => z⟩, ?_⟩
  · have := hlen (.obj true cr.nm [] [] :: frzL ds) fun z => by rw [z] at q1; exact q1
    rw [← this]; rfl
  · obtain rfl : a = x := by simpa using h
    exact z.elim (fun z => S1.fa a z nx) fun z => cellL a z nx
  · have same : ∀ {H' : Hp}, (∀ a o, upd (upd H1 dx (.own x)) x (.ins (He.ga X.K cr.nm) dx []) a = some o → a ∉ [x] → H' a = some o) → Same H1 H' := fun k a o h => k a o (sm1 a o h) (fun z => by
      obtain rfl : a = x := by simpa using z
      rw [nx] at h; cases h)
    cases hb : P.bc f (.obj true cr.nm [] [] :: frzL ds) with
    | stuck => rw [hb] at q1; exact q1.elim
    | ex c' h d => 
      rw [hb] at q1
      have hl := hlate _ _ _ _ hb
      intro F' H' L0 hcn k1 k2 k3 k4 k5 R0 nd no
      refine ⟨c', hcn, rfl, rfl, hl ▸ q1 F1 H' Ls1 ((effSame (T := []) S1 (same k1) fun a z => nomatch z).mono fun z => Bool.noConfusion z) ?_⟩
      exact S1.same (same k1) (fun _ z => z) (fun a z w => S1.inF w z) fun a z => (same k1).live (S1.fa a z)
    | ok r2 d =>
      rw [hb] at q1
      cases r2 <;> (first | exact q1.elim | skip)
      intro v F' H' Lr L0 k1 k2 k3 k4 k5 Rr R0 nd no
      obtain ⟨rfl, rfl⟩ := Rr.non'
      refine ⟨rfl, ?_⟩
      refine call_end (rs := roots as) S1 R1 (fun a z => by simpa using z) (V1 rfl) q1 (.ref x) F' H' L0 (same k1) k3 (fun a z => ?_) k5 R0 (List.nodup_append.mp nd).2.1 fun a z => ?_
      · rcases k4 a z with w | w | w
        · exact .inl w
        · obtain rfl : a = x := by simpa using w
          exact .inr nx
        · exact .inr (nul a w)
      · obtain ⟨w, nf⟩ := no a (List.mem_append_right _ z)
        refine ⟨?_, nf⟩
        rcases w with w | w
        · obtain rfl : a = x := by simpa using w
          exact nx
        · exact nul a w
theorem E_mk {cr : ClsR} {c f j : Nat} {nm : Str} {q : Pos} (hc : P.cls[c]? = some cr) (hi : cr.init = some f) (M : Mk X.K (He.ga X.K cr.nm) (fa f)) (CB : CallBr X Er Wf P ca n j f (fa f)) (hr : Room (j + 1) X.A) (hg : Gl X nm) (hm : X.mg nm = some (.ref (He.ga X.K cr.nm))) (hd : (nm == ("__debug__" : Str)) = false)
    (hp : (l :: es).all plain = true) (ha : PA X (l :: es) (tAr X.K Er Wf P as true)) : PE X (.Call (.Name nm q) (l :: es) [] pos) (tE X.K Er Wf P (.mk c as) p) := by
  obtain ⟨fd, pn, late, FO, hb, hlate, hlen, hx⟩ := CB.ex
  rw [List.all_cons, Bool.and_eq_true] at hp
  exact (pe_makeS M FO hr hg hm hb hx ha hd (star_plain hp.1 es) (back_plain hp.2)).imp fun σ H Q h => mk_rd (fd := fd) hc hi hlate hlen (fun h => h) h
theorem E_mk0 {cr : ClsR} {c f j : Nat} {nm : Str} {q : Pos} (hc : P.cls[c]? = some cr) (hi : cr.init = some f) (M : Mk X.K (He.ga X.K cr.nm) (fa f)) (CB : CallBr X Er Wf P ca n j f (fa f)) (hr : Room (j + 1) X.A) (hg : Gl X nm) (hm : X.mg nm = some (.ref (He.ga X.K cr.nm))) (hd : (nm == ("__debug__" : Str)) = false) :
    PE X (.Call (.Name nm q) [] [] pos) (tE X.K Er Wf P (.mk c .nil) p) := by
  obtain ⟨fd, pn, late, FO, hb, hlate, hlen, hx⟩ := CB.ex
  exact (pe_makeS0 M FO hr hg hm hb hx hd).imp fun σ H Q h => mk_rd (fd := fd) hc hi hlate hlen (fun {σ H QA} ⟨F, e, Ls, s, q⟩ => by
    simp only [evA] at q
    exact q [] F H Ls [] (Eff.refl.mono fun z => Bool.noConfusion z) s .nil (fun _ => Own.nil) fun _ _ z => nomatch z) h
end
end VI
set_option maxRecDepth 100000
set_option maxHeartbeats 4000000
/-! VJ: a method's call as the model reads it. -/
namespace VI
open PySem PySem.Spec PyProof.Rows L2 RZ
theorem form_plain {env : PySem.Env} {pos : Pos} : ∀ {es : List Expr}, es.all plain = true → (backTo pos (starEach es env)).all (fun x => !x.1) = true
  | [], _ => rfl
  | e :: es, h => by
    rw [List.all_cons, Bool.and_eq_true] at h
    rw [star_plain h.1]
    show (true && (backTo pos (starEach es env)).all (fun x => !x.1)) = true
    rw [form_plain h.2]
    rfl
theorem meth_eq {env : PySem.Env} {o : Expr} {m : Str} {apos pos : Pos} {es : List Expr} (hs : noSup o = true) (hline : (apos.endLine == pos.line) = true) (hp : es.all plain = true) (hl : es.length < 29) :
    eval (.Call (.Attribute o m apos) es [] pos) env = (do
      let ov ← eval o env
      standAt apos.atName
      let (f, first) ← holding [ov] (getMethod ov m (do return (← importBound o env).getD true))
      callWith pos f first (backTo pos (starEach es env)) (backToKw pos (keywordEach [] env))) := by
  have hform : methodCallForm (es.length + ([] : List Keyword).length) (backTo pos (starEach es env)) (backToKw pos (keywordEach [] env)) = true := by
    unfold methodCallForm
    rw [form_plain hp]
    show (true && true && decide (es.length + 0 + 0 < 30)) = true
    simp
    omega
  have hpos : methodCallPos true o env apos pos = pure pos := by unfold methodCallPos; simp [hline]
  rw [arm_eval_Call, attr_plain hs]
  unfold methodCall
  rw [hform, hpos]
  rfl
/-! ### d.get(k), d.get(k, x); C() without a def of its own -/
section
variable {K : PySem.W.Frag} {Er : EE} {F F' F1 F2 : Addr → Prop} {H H' H1 H2 H3 : Hp} {v x y : V} {dx dy d : D} {L L' Lx Ly : List Addr} {e e' e1 : Env} {σ σ' : L2.St} {Ls Ls' Ls1 Ls2 : Nat → List Addr} {U T : List Addr}
variable {Wf : Bool → Nat → L2.St → Hp → Prop} {m p : Bool} {rt : Option Nat} {Q : VK} {P : Par} {ca fa : Nat → Addr} {n k : Nat}
variable {X : Cx} {l r r2 : Expr} {pos apos : Pos} {a b c as pl ix : C}
theorem isD_of (r : Rep K Er F H v d L) (h : isDct d = true) : ∃ a, v = .ref a ∧ IsD H a := by
  cases d <;> (first | (cases h; done) | skip)
  · obtain ⟨a, kvs, M, rfl, h1, _⟩ := r.dct'
    exact ⟨a, rfl, .inl ⟨kvs, h1⟩⟩
  · obtain ⟨a, kvs, M, rfl, h1, _⟩ := r.dtt'
    exact ⟨a, rfl, .inr ⟨kvs, h1⟩⟩
theorem E_dget1 (hu : X.A.units + 64 < cLine) (hs : noSup l = true) (hline : (apos.endLine == pos.line) = true) (hr : plain r = true) (ha : PE X l (tE X.K Er Wf P a true)) (hb : PE X r (tE X.K Er Wf P b true)) (hmb : mu b = false) :
    PE X (.Call (.Attribute l "get" apos) [r] [] pos) (tE X.K Er Wf P (.dget a b .nil) p) :=
  (pe_dget1 (by omega) ha hb ⟨attr_plain hs _ _, bm_pre (apos := apos) hr, hline, by rw [star_plain hr]; rfl⟩).imp fun σ H Q ⟨F, e, Ls, s, q⟩ => by
    simp only [ev] at q
    refine opnd s (m2 := mu (.dget a b .nil)) (fun z => by simp [mu, z]) id q fun d1 e1 v1 F1 H1 Ls1 L1 E1 S1 R1 O1 q1 => ?_
    cases hdd : isDct d1 with
    | false => rw [hdd] at q1; exact q1.elim
    | true =>
      rw [hdd, if_pos rfl] at q1
      obtain ⟨a', rfl, isd⟩ := isD_of R1 hdd
      refine ⟨a', rfl, isd, ?_⟩
      refine opnd S1 (m2 := mu (.dget a b .nil)) (ne_mu hmb) id q1 fun d2 e2 v2 F2 H2 Ls2 L2 E2 S2 R2 O2 q2 => ?_
      simp only [evA, R.bind] at q2
      cases hd : dictD d1 d2 with
      | none => rw [hd] at q2; exact q2.elim
      | some v =>
        rw [hd] at q2
        obtain ⟨a'', ea, hh⟩ := dget_of (R1.side S1 E2 (ne_mu hmb)) R2 hd
        cases ea
        cases v with
        | some d =>
          obtain ⟨w, N, g, rw', sub⟩ := hh
          exact ⟨some w, g, part_fin S2 rw' (fun x hx => by simp [sub.subset hx]) (fun x hx hi nf => (ov_t O1).use S1 (toF hmb E2) x (sub.subset hx) hi nf) q2⟩
        | none => exact ⟨none, hh, fin0 S2 q2 .non⟩
theorem E_dget2 {o : C} (hu : X.A.units + 64 < cLine) (hs : noSup l = true) (hline : (apos.endLine == pos.line) = true) (hr : plain r = true) (hr2 : plain r2 = true) (ha : PE X l (tE X.K Er Wf P a true)) (hb : PE X r (tE X.K Er Wf P b true)) (ho : PE X r2 (tE X.K Er Wf P o true)) (hmb : mu b = false) (hmo : mu o = false) :
    PE X (.Call (.Attribute l "get" apos) [r, r2] [] pos) (tE X.K Er Wf P (.dget a b (.cons o .nil)) p) :=
  (pe_dget2 (by omega) ha hb ho ⟨attr_plain hs _ _, bm_pre2 hr hr2, hline, by rw [star_plain hr, star_plain hr2]; rfl⟩).imp fun σ H Q ⟨F, e, Ls, s, q⟩ => by
    simp only [ev] at q
    refine opnd s (m2 := mu (.dget a b (.cons o .nil))) (fun z => by simp [mu, z]) id q fun d1 e1 v1 F1 H1 Ls1 L1 E1 S1 R1 O1 q1 => ?_
    cases hdd : isDct d1 with
    | false => rw [hdd] at q1; exact q1.elim
    | true =>
      rw [hdd, if_pos rfl] at q1
      obtain ⟨a', rfl, isd⟩ := isD_of R1 hdd
      refine ⟨a', rfl, isd, ?_⟩
      refine opnd S1 (m2 := mu (.dget a b (.cons o .nil))) (ne_mu hmb) id q1 fun d2 e2 v2 F2 H2 Ls2 L2 E2 S2 R2 O2 q2 => ?_
      simp only [evA] at q2
      have q2' : PostE X.K Er Wf (mu (.dget a b (.cons o .nil))) F2 H2 Ls2 ([] ++ L1 ++ L2) σ p (root (.dget a b (.cons o .nil))) ((ev P o true e2).bind fun z e3 => match dictD d1 d2, [z] with
        | some v, [] => (match v with
          | some d => if p || lf d then .ok d e3 else .ok (frz d) (fz e3 (root a))
          | none => .ok .non e3)
        | some v, [z] => (match v with
          | some d => if lf d && lf z then .ok d e3 else .stuck
          | none => if lf z then .ok z e3 else .stuck)
        | _, _ => .stuck) Q := by
        cases hz : ev P o true e2 <;> rw [hz] at q2 <;> exact q2
      refine opnd S2 (m2 := mu (.dget a b (.cons o .nil))) (ne_mu hmo) id q2' fun d3 e3 v3 F3 H3 Ls3 L3 E3 S3 R3 O3 q3 => ?_
      cases hd : dictD d1 d2 with
      | none => rw [hd] at q3; exact q3.elim
      | some v =>
        rw [hd] at q3
        dsimp only at q3
        obtain ⟨a'', ea, hh⟩ := dget_of ((R1.side S1 E2 (ne_mu hmb)).side S2 E3 (ne_mu hmo)) (R2.side S2 E3 (ne_mu hmo)) hd
        cases ea
        cases v with
        | some d =>
          obtain ⟨w, N, g, rw', sub⟩ := hh
          dsimp only at q3
          split at q3
          · rename_i hz
            rw [Bool.and_eq_true] at hz
            have e0 := rw'.lf hz.1
            subst e0
            exact ⟨some w, g, fin0 S3 q3 rw'⟩
          · exact q3.elim
        | none =>
          dsimp only at q3
          split at q3
          · rename_i hz
            have e0 := R3.lf hz
            subst e0
            exact ⟨none, hh, fin0 S3 q3 R3⟩
          · exact q3.elim
end
/-- a class without an __init__ of its own -/
structure Mk0 (K : PySem.W.Frag) (C : Addr) : Prop where
  makes : PySem.W.makesIn K C = true
  init : PySem.W.findIn K (.ref C) "__init__" = some (some (.builtin "object.__init__"))
  kp : PySem.W.keepIn K (.ref C) = true
theorem run_make0 {X : Cx} {C : Addr} {pins : List (Addr × Obj)} {σ : L2.St} {H : Hp} {s : Shared} {Q : VK} (M : Mk0 X.K C) (I : Inv X pins σ H s)
    (h : ∀ x dx, H x = none → H dx = none → dx ≠ x → Q (.ref x) (upd (upd H dx (.own x)) x (.ins C dx []))) : wpAny (model X.prog X.w) X.A (call (.ref C) []) (EP X pins σ Q) X.xe s := by
  have hq := h (s.heap.objs.size + 1) s.heap.objs.size (I.hok.fresh (Nat.le_succ _)) (I.hok.fresh (Nat.le_refl _)) (Nat.ne_of_lt (Nat.lt_succ_self _))
  have I2 := Inv.made (C := C) I
  have Y := PySem.W.makes_of (M := model X.prog X.w) I.kIn M.makes
  have e2 : ((s.heap.push PySem.W.emptyDict).push (PySem.W.instObj C s.heap.objs.size)).get? (s.heap.objs.size + 1) = some (PySem.W.instObj C s.heap.objs.size) := by
    have := Heap.get?_push_size (s.heap.push PySem.W.emptyDict) (o := PySem.W.instObj C s.heap.objs.size) rfl
    rwa [Heap.size_push] at this
  have li := PySem.W.looks_findIn (M := model X.prog X.w) I.kIn M.init
  obtain ⟨hh, g, d, t, os⟩ := s
  have t1 : PySem.W.Looks (model X.prog X.w) ((hh.push PySem.W.emptyDict).push (PySem.W.instObj C hh.objs.size)) (typeOf (.ref (hh.objs.size + 1))) (.ref C) := (PySem.W.Looks.ld e2).andThen .now
  have t2 : PySem.W.Looks (model X.prog X.w) ((hh.push PySem.W.emptyDict).push (PySem.W.instObj C hh.objs.size)) (isInstance (.ref (hh.objs.size + 1)) (.type "object")) true := t1.andThen (Y.top.keeps fun b o e => Heap.get?_push_of_some _ (Heap.get?_push_of_some _ e))
  refine wpAny_call (PySem.W.make_core Y li (fun self => PySem.W.Looks.of_pure (PySem.W.oi_bind self)) (.inr ⟨rfl, rfl⟩) ?_)
  refine codeAny_call_builtin PySem.W.oi_plain PySem.W.entry_oi (@PySem.W.check_slot (model X.prog X.w) _ _ _ "object.__init__" "object" "__init__" (.ref (hh.objs.size + 1)) [] [] _ PySem.W.oi_kind PySem.W.oi_split t2 (PySem.W.oi_args (.ref (hh.objs.size + 1))) ?_)
  rw [PySem.W.oi_run]
  exact wpAny_pure (And.intro rfl ⟨V.ref (hh.objs.size + 1), _, I2, rfl, hq⟩)
section
variable {Er : EE} {Wf : Bool → Nat → L2.St → Hp → Prop} {P : Par} {X : Cx} {p : Bool}
theorem E_mkN {cr : ClsR} {c : Nat} {nm : Str} {q pos : Pos} (hc : P.cls[c]? = some cr) (hi : cr.init = none) (M : Mk0 X.K (He.ga X.K cr.nm)) (hg : Gl X nm) (hm : X.mg nm = some (.ref (He.ga X.K cr.nm))) (hd : (nm == ("__debug__" : Str)) = false) :
    PE X (.Call (.Name nm q) [] [] pos) (tE X.K Er Wf P (.mk c .nil) p) := by
  refine ⟨fun pins s σ H Q I h => ?_⟩
  obtain ⟨F, e, Ls, S, q⟩ := h
  refine wpAny_Call_Name_kw (ld_glob I hg hm ?_ hd)
  refine PySem.W.callWith_K0 (first := []) I.kIn M.kp (run_make0 M I fun x dx nx ndx nex => ?_)
  simp only [ev, evA, R.bind] at q
  rw [hc] at q
  dsimp only at q
  rw [hi] at q
  have sm1 : Same H (upd (upd H dx (.own x)) x (.ins (He.ga X.K cr.nm) dx [])) := fun a o h => by
    rw [upd_ne (fun z => by rw [z, nx] at h; cases h), upd_ne (fun z => by rw [z, ndx] at h; cases h)]
    exact h
  refine q (.ref x) F _ Ls [x] ((effSame (T := [x]) S sm1 fun a z => by
    obtain rfl : a = x := by simpa using z
    exact .inl nx).mono fun z => Bool.noConfusion z) (S.same sm1 (fun _ z => z) (fun a z w => S.inF w z) fun a z => sm1.live (S.fa a z)) (.oow (fvs := []) upd_same rfl .nil) (Own.ov ⟨by simp, fun b hb => by
      obtain rfl : b = x := by simpa using hb
      exact ⟨S.newF nx, S.newI nx⟩⟩ rfl)
theorem E_dnewT {pos : Pos} : PE X (.Dict [] [] pos) (tE X.K Er Wf P .dnewT p) := pe_dnewT.imp fun σ H Q ⟨F, e, Ls, s, q⟩ => by
  simp only [ev] at q
  intro a na
  exact q (.ref a) F (upd H a (.dT [])) Ls [a] (((Eff.laid s na).mono fun z => Bool.noConfusion z).less fun b hb => .inl (by simp at hb; simp [hb])) (s.laid na) (.tow (L := []) upd_same ⟨rfl, List.nodup_nil⟩ .nil)
    (Own.ov ⟨by simp, fun b hb => by
      simp at hb; subst hb
      exact ⟨s.newF na, s.newI na⟩⟩ rfl)
end
end VI
set_option maxRecDepth 100000
set_option maxHeartbeats 4000000
/-! VX: the __init__ of an own exception class: Base.__init__(self, ".."), then self.f = parameter, one after another. -/
namespace VI
open PySem PySem.Spec PyProof.Rows L2

/-- B.__init__ is ValueError's -/
structure XbF (K : PySem.W.Frag) (B : Addr) : Prop where
  at_ : PySem.W.findCls K (.ref B) (.type "type") "__init__" = some (.val (.builtin "ValueError.__init__"))
  rd : PySem.W.readsIn K B (.type "type") = true
  ga : PySem.W.specialIn K (.ref B) "__getattribute__" = some (some (.builtin "type.__getattribute__"))
section
variable {X : Cx} {pins : List (Addr × Obj)} {σ : L2.St} {H : Hp} {s : Shared} {B : Addr}
theorem getm_base {A : Around} {E : Value → Shared → Prop} {pl : Sem Bool} {Q : Value × List Value → Shared → Prop} (I : Inv X pins σ H s) (T : XbF X.K B) (h : ∀ t, Inv X pins σ H { s with toks := t } → Q (.builtin "ValueError.__init__", []) { s with toks := t }) :
    wpAny (model X.prog X.w) A (getMethod (.ref B) "__init__" pl) Q E s :=
  PySem.W.method_cls I.kIn T.ga (PySem.W.cls_value I.kIn T.rd T.at_ (by decide +kernel) (h _ (I.tok _)))
/-- Base.__init__(self, ..) -/
theorem pe_xbase {bn : Str} {p1 p2 pos : Pos} {e : Expr} {es : List Expr} {ta : TA} {pl : Sem Bool} (hg : Gl X bn) (hm : X.mg bn = some (.ref B)) (hd : (bn == ("__debug__" : Str)) = false) (T : XbF X.K B) (ha : PA X (e :: es) ta)
    (hc : eval (.Call (.Attribute (.Name bn p1) "__init__" p2) (e :: es) [] pos) X.env = (do
      let v ← eval (.Name bn p1) X.env
      standAt p2.atName
      let (fx, args) ← holding [v] (getMethod v "__init__" pl)
      callWith pos fx args (backTo pos (starEach (e :: es) X.env)) (backToKw pos (keywordEach [] X.env))))
    (he : starEach (e :: es) X.env = (false, eval e X.env) :: starEach es X.env := by rfl) (hpl : (backTo pos (starEach es X.env)).any (·.1) = false := by rfl) :
    PE X (.Call (.Attribute (.Name bn p1) "__init__" p2) (e :: es) [] pos) (tVeI X.K ta) :=
  ⟨fun pn0 s σ H Q I h => PySem.W.methodCall_KW (ld_glob I hg hm (getm_base I T fun t I0 => by
    show wpAny _ _ (callWith pos (Value.builtin "ValueError.__init__") [] (backTo pos (starEach (e :: es) X.env)) []) _ _ _
    refine PyProof.Rows.callWith_method1 (thn (ha.run pos pn0 _ σ H _ I0 h) fun us s1 hh => ?_) he hpl
    obtain ⟨vs, H1, I1, r1, a, C, ws, ev, hl, TC, ea, q⟩ := hh
    subst ev
    cases r1 with
    | @cons _ u0 _ ur ra rw' =>
      obtain rfl : u0 = Value.ref a := ra
      have lw : ur.length ≤ sizeLine := by
        rw [sizeLine_eq, ← Paired.length rw']
        omega
      exact oinit_ok TC I1 ea lw fun s2 J => ⟨.non, H1, J, rfl, q⟩) hd) hc⟩
end

/-! ### the text -/
def xiNm (N : List Str) (sc : Scope) (i : Nat) (n : Str) : Bool := decide (N[i]? = some n) && (!(n == ("__debug__" : Str)) && (!(n == ("__classdict__" : Str)) && (match sc.names.lookup n with
  | some .local => true
  | _ => false)))
/-- self.f = the i-th, .. -/
def xiA (N : List Str) (sc : Scope) : List Str → Nat → List Stmt → Bool
  | [], _, [] => true
  | f :: fs, i, .Assign [.Attribute (.Name s _) g _] (.Name p _) _ :: r => decide (g = f) && (xiNm N sc 0 s && (xiNm N sc i p && xiA N sc fs (i + 1) r))
  | _, _, _ => false
/-- Base.__init__(self, ".."), then these -/
def xiB (N : List Str) (sc : Scope) (b : Str) (fs : List Str) : List Stmt → Bool
  | .Expr (.Call (.Attribute (.Name bn _) m ap) [.Name s _, .Constant (.str _) _ _] [] ps) _ :: r => (ap.endLine == ps.line) && (decide (bn = b) && (decide (m = "__init__") && (!(bn == ("__debug__" : Str)) && (decide (sc.names.lookup bn = some .globalImplicit) && (xiNm N sc 0 s && xiA N sc fs 1 r)))))
  | _ => false
/-- the heap with such an exception at a -/
def xiH (H : Hp) (a C dx : Addr) (fvs : List (Str × V)) : Hp := upd (upd H dx (exd dx fvs)) a (exo a C (some dx))
theorem upd_upd {H : Hp} {a : Addr} {o o' : HO} : upd (upd H a o) a o' = upd H a o' := by
  funext b
  by_cases h : b = a
  · rw [h, upd_same, upd_same]
  · rw [upd_ne h, upd_ne h, upd_ne h]
theorem upd_swap {H : Hp} {a b : Addr} {o o' : HO} (n : a ≠ b) : upd (upd H a o) b o' = upd (upd H b o') a o := by
  funext c
  by_cases h : c = a
  · subst h
    rw [upd_ne n, upd_same, upd_same]
  · by_cases h2 : c = b
    · subst h2
      rw [upd_same, upd_ne h, upd_same]
    · rw [upd_ne h2, upd_ne h, upd_ne h, upd_ne h2]
theorem upd_id {H : Hp} {a : Addr} {o : HO} (e : H a = some o) : upd H a o = H := by
  funext b
  by_cases h : b = a
  · rw [h, upd_same, e]
  · rw [upd_ne h]
theorem xiH_more {H : Hp} {a C dx : Addr} {fvs gvs : List (Str × V)} (n : dx ≠ a) : upd (xiH H a C dx fvs) dx (exd dx gvs) = xiH H a C dx gvs := by
  unfold xiH
  rw [upd_swap (Ne.symm n), upd_upd]
section
variable {X : Cx} {N : List Str} {sc : Scope} {fs : List Str} {C : Addr} {b : Str}
theorem xiNm_pe {i : Nat} {n : Str} {ps : Pos} (hN : X.N = N) (hs : X.env.scope = sc) (h : xiNm N sc i n = true) : PE X (.Name n ps) (tVar i) := by
  subst hN hs
  unfold xiNm at h
  simp only [Bool.and_eq_true, decide_eq_true_eq, Bool.not_eq_true'] at h
  obtain ⟨h1, h2, h3, h4⟩ := h
  split at h4
  · exact pe_var h1 (.inl (by assumption)) h2 h3
  · cases h4
/-- the slots hold the values -/
def xiSl (σ : L2.St) (i : Nat) (ws : List V) : Prop := ∀ (j : Nat) (w : V), ws[j]? = some w → σ[i + j]? = some (some w)
theorem xiSl_tail {σ : L2.St} {i : Nat} {w : V} {ws : List V} (h : xiSl σ i (w :: ws)) : σ[i]? = some (some w) ∧ xiSl σ (i + 1) ws :=
  ⟨h 0 w rfl, fun j v e => by
    have z := h (j + 1) v e
    rwa [show i + (j + 1) = i + 1 + j by omega] at z⟩
def tXA (K : PySem.W.Frag) (fs : List Str) (i : Nat) : TS := fun D σ H => ∃ (a C dx : Addr) (fvs : List (Str × V)) (ws : List V), σ[0]? = some (some (.ref a)) ∧ xiSl σ i ws ∧ ws.length = fs.length ∧ OexC K C ∧ (∀ f ∈ fs, PySem.W.findIn K (.ref C) f = some none) ∧
  dx ≠ a ∧ H a = some (exo a C (some dx)) ∧ H dx = some (exd dx fvs) ∧ fvs.length + fs.length ≤ 900 ∧ D.nx σ (upd H dx (exd dx ((fs.zip ws).reverse ++ fvs)))
theorem xi_more (hN : X.N = N) (hs : X.env.scope = sc) : ∀ {fs : List Str} {i : Nat} {sts : List Stmt}, xiA N sc fs i sts = true → PSs X sts (tXA X.K fs i)
  | [], i, [], _ => pss_nil.imp fun D σ H h => by
    obtain ⟨a, C, dx, fvs, ws, h0, hw, hl, T, na, ne, ea, ed, le, q⟩ := h
    rw [show (([] : List Str).zip ws).reverse ++ fvs = fvs by simp, upd_id ed] at q
    exact q
  | f :: fs, i, [], h => by simp [xiA] at h
  | [], i, st :: r, h => by simp [xiA] at h
  | f :: fs, i, st :: r, h => by
    unfold xiA at h
    split at h
    · cases ‹f :: fs = []›
    · rename_i f' fs' i' s p1 g p2 p p3 p4 r' e1 e2
      cases e1
      cases e2
      simp only [Bool.and_eq_true, decide_eq_true_eq] at h
      obtain ⟨rfl, h1, h2, h3⟩ := h
      refine (pss_cons (ps_ost (xiNm_pe hN hs h1) (xiNm_pe hN hs h2) (swaps_plain rfl rfl _ _)) (xi_more hN hs h3)).imp fun D σ H h => ?_
      obtain ⟨a, C, dx, fvs, ws, h0, hw, hl, T, na, ne, ea, ed, le, q⟩ := h
      cases ws with
      | nil => cases hl
      | cons w ws =>
        obtain ⟨w0, wt⟩ := xiSl_tail hw
        simp only [List.length_cons] at le hl
        refine ⟨w, w0, .ref a, h0, a, C, rfl, T, na _ List.mem_cons_self, .inr ⟨dx, fvs, ea, ed, by omega, ?_⟩⟩
        refine ⟨a, C, dx, (g, w) :: fvs, ws, h0, wt, by omega, T, fun f' hf => na f' (List.mem_cons_of_mem _ hf), ne, by rw [upd_ne (Ne.symm ne)]; exact ea, upd_same, by simp only [List.length_cons]; omega, ?_⟩
        rw [upd_upd]
        have e : ((g :: fs).zip (w :: ws)).reverse ++ fvs = (fs.zip ws).reverse ++ (g, w) :: fvs := by simp
        rw [← e]
        exact q
    · cases h
def tXB (K : PySem.W.Frag) (fs : List Str) : TS := fun D σ H => ∃ (a C : Addr) (ws : List V), σ[0]? = some (some (.ref a)) ∧ xiSl σ 1 ws ∧ ws.length = fs.length ∧ OexC K C ∧ (∀ f ∈ fs, PySem.W.findIn K (.ref C) f = some none) ∧
  H a = some (exo a C none) ∧ fs ≠ [] ∧ fs.length ≤ 900 ∧ ∀ dx, H dx = none → dx ≠ a → D.nx σ (xiH H a C dx (fs.zip ws).reverse)
theorem xi_body {B : Addr} {sts : List Stmt} (hN : X.N = N) (hs : X.env.scope = sc) (hm : X.mg b = some (.ref B)) (T : XbF X.K B) (h : xiB N sc b fs sts = true) : PSs X sts (tXB X.K fs) := by
  unfold xiB at h
  split at h
  · rename_i bn p1 m p2 s p3 z p4 p5 p6 p7 r
    simp only [Bool.and_eq_true, decide_eq_true_eq, Bool.not_eq_true'] at h
    obtain ⟨ho, rfl, rfl, h1, h2, h3, h4⟩ := h
    cases fs with
    | nil => exact ⟨fun pn0 s σ H D I h => by
        obtain ⟨a, C, ws, _, _, _, _, _, _, z, _⟩ := h
        exact absurd rfl z⟩
    | cons f fs =>
      cases r with
      | nil => simp [xiA] at h4
      | cons st r =>
        unfold xiA at h4
        split at h4
        · cases ‹f :: fs = []›
        · rename_i f' fs' i' s' q1 g q2 p q3 q4 r' e1 e2
          cases e1
          cases e2
          simp only [Bool.and_eq_true, decide_eq_true_eq] at h4
          obtain ⟨rfl, k1, k2, k3⟩ := h4
          have hg : Gl X bn := by
            show X.env.scope.names.lookup bn = some .globalImplicit
            rw [hs]; exact h2
          refine (pss_cons (ps_expr (pe_xbase hg hm h1 T (pa_cons (xiNm_pe hN hs h3) (pa_cons pe_str pa_nil)) (meth_eq rfl ho rfl (by simp))) (swaps_plain rfl rfl _ _)) (pss_cons (ps_ost (xiNm_pe hN hs k1) (xiNm_pe hN hs k2) (swaps_plain rfl rfl _ _)) (xi_more hN hs k3))).imp fun D σ H h => ?_
          obtain ⟨a, C, ws, h0, hw, hl, TC, na, ea, _, le, q⟩ := h
          cases ws with
          | nil => cases hl
          | cons w ws =>
            obtain ⟨w0, wt⟩ := xiSl_tail hw
            simp only [List.length_cons] at le hl
            refine ⟨.ref a, h0, a, C, [.str _], rfl, by simp, TC, ea, ?_⟩
            refine ⟨w, w0, .ref a, h0, a, C, rfl, TC, na _ List.mem_cons_self, .inl ⟨ea, fun dx n ne => ?_⟩⟩
            refine ⟨a, C, dx, [(g, w)], ws, h0, wt, by omega, TC, fun f' hf => na f' (List.mem_cons_of_mem _ hf), ne, upd_same, by rw [upd_ne ne]; exact upd_same, by simp only [List.length_cons, List.length_nil]; omega, ?_⟩
            have e : ((g :: fs).zip (w :: ws)).reverse = (fs.zip ws).reverse ++ [(g, w)] := by simp
            have z := q dx n ne
            rw [e] at z
            exact (xiH_more (H := H) (C := C) (fvs := [(g, w)]) ne).symm ▸ z
        · cases h4
  · cases h
end
/-- what such an __init__ promises -/
def spXi (C : Addr) (fs : List Str) : Sp := fun vs H Q E => ∃ (a : Addr) (ws : List V), vs = .ref a :: ws ∧ ws.length = fs.length ∧ H a = some (exo a C none) ∧ ∀ dx, H dx = none → dx ≠ a → Q .non (xiH H a C dx (fs.zip ws).reverse)
end VI
set_option maxRecDepth 100000
set_option maxHeartbeats 4000000
/-! VX: exceptions as values: made. -/
namespace VI
open PySem PySem.Spec PyProof.Rows L2 RZ

/-- what is known of an exception class with an __init__ of its own -/
structure XiR (K : PySem.W.Frag) (mg : Str → Option Value) (nm : Str) (fs : List Str) (fI : Addr) (fd : FuncData) (ps : List Str) : Prop where
  gC : mg nm = some (.ref (He.ga K nm))
  ox : OexC K (He.ga K nm)
  xs : XnS K nm fs
  ne : fs ≠ []
  le : fs.length ≤ 900
  it : PySem.W.findIn K (.ref (He.ga K nm)) "__init__" = some (some (.ref fI))
  ty : PySem.W.typeIn K (.ref fI) = some (.type "function")
  bd : Binds K fd ps []
  lps : ps.length = fs.length + 1
  fn : ∀ (P : Program) (w : World) (base : Heap), FnOk P w K mg base L2.CX0 1 fI fd ps (spXi (He.ga K nm) fs)
theorem start_sl {N : List Str} {a : Addr} {ws : List V} : xiSl (L2.start N (.ref a :: ws)) 1 ws := fun j w e => start_some (by rw [Nat.add_comm]; exact e)
/-- its __init__, walked -/
theorem xi_fn {K : PySem.W.Frag} {mg : Str → Option Value} {x qual b nm : Str} {params : Arguments} {body : List Stmt} {scope : Scope} {f B : Addr} {fd : FuncData} {N ps fs : List Str} (F : FunD K x qual params body scope [] [] f fd) (S : FnScope N ps scope)
    (hl : ps.length = fs.length + 1) (T : OexC K (He.ga K nm)) (xs : XnS K nm fs) (ne : fs ≠ []) (le : fs.length ≤ 900) (hm : mg b = some (.ref B)) (TB : XbF K B) (h : xiB N scope b fs body = true) (P : Program) (w : World) (base : Heap) :
    FnOk P w K mg base L2.CX0 1 f fd ps (spXi (He.ga K nm) fs) :=
  F.ok (k := 0) S (fun vs H Q E q => by
    obtain ⟨a, ws, rfl, hw, _⟩ := q
    rw [List.length_cons, hw, hl]) fun cdv A outer s H vs Q E room q => by
      obtain ⟨a, ws, rfl, hw, ea, q⟩ := q
      exact ⟨_, xi_body (X := cxOf L2.CX0 P w K mg base N qual scope f cdv A outer s H E) rfl rfl hm TB h, a, He.ga K nm, ws, start_some (i := 0) rfl, start_sl, hw, T, xs.na, ea, ne, le, q⟩
/-- C(e, ..), C's own __init__ walked: a new exception, which stays known -/
def tMkX (C : Addr) (fs : List Str) (ta : TA) : TE := fun σ H Q => ta σ H fun vs H1 => vs.length = fs.length ∧ fs.length ≤ 900 ∧ ∀ a dx, H1 a = none → H1 dx = none → dx ≠ a → Q (.ref a) (xiH H1 a C dx (fs.zip vs).reverse)
section
variable {X : Cx} {x : Str} {e : Expr} {es : List Expr} {ta : TA} {p pos : Pos} {fI : Addr} {fd : FuncData} {ps fs : List Str}
theorem pe_makeX (R : XiR X.K X.mg x fs fI fd ps) (hr : Room 2 X.A) (hg : Gl X x) (hd : (x == ("__debug__" : Str)) = false) (ha : PA X (e :: es) ta)
    (he : starEach (e :: es) X.env = (false, eval e X.env) :: starEach es X.env) (hpl : (backTo pos (starEach es X.env)).any (·.1) = false) : PE X (.Call (.Name x p) (e :: es) [] pos) (tMkX (He.ga X.K x) fs ta) :=
  ⟨fun pn0 s σ H Q I h => by
    obtain ⟨nm, q, N, bs, bm, sn, sub, ab, col, dd, k0, k1, k2, k3, k5, hC, hbm⟩ := R.ox.cls
    have F1 := R.fn X.prog X.w X.base
    refine wpAny_Call_Name_kw (ld_glob I hg R.gC (PySem.W.callWith_K (h₀ := X.base) I.ok.mod.kin R.ox.kC (thn (ha.run pos pn0 s σ H _ I h) fun us s1 hh => ?_) he hpl) hd)
    obtain ⟨vs, H1, I1, r1, hz, hf, q1⟩ := hh
    refine ⟨I1.kIn, ?_⟩
    show wpAny _ _ (call (.ref (He.ga X.K x)) us) _ _ _
    obtain ⟨hp, g, dr, tk, os⟩ := s1
    have hsz : hp.objs.size ≤ hp.objs.size + 1 := Nat.le_succ _
    have hn : H1 (hp.objs.size + 1) = none := I1.hok.fresh hsz
    have kp : ∀ b o, hp.get? b = some o → ((hp.push (PySem.W.kdv_tup us)).push (PySem.HandSPX.excO (He.ga X.K x) hp.objs.size)).get? b = some o := fun b o z => Heap.get?_push_of_some _ (Heap.get?_push_of_some _ z)
    have ga : ((hp.push (PySem.W.kdv_tup us)).push (PySem.HandSPX.excO (He.ga X.K x) hp.objs.size)).get? (hp.objs.size + 1) = some (PySem.HandSPX.excO (He.ga X.K x) hp.objs.size) := by heap_get
    have J : Inv X pn0 σ (upd H1 (hp.objs.size + 1) (exo (hp.objs.size + 1) (He.ga X.K x) none)) ⟨(hp.push (PySem.W.kdv_tup us)).push (PySem.HandSPX.excO (He.ga X.K x) hp.objs.size), g, dr, tk, os⟩ := I1.laid (t' := tk) kp hsz (exo_ok ga)
    have lu : us.length = fs.length := by rw [← Paired.length r1]; exact hz
    have hl : (Value.ref (hp.objs.size + 1) :: us ++ []).length = ps.length := by
      rw [List.append_nil, List.length_cons, lu, R.lps]
    have sp : spXi (He.ga X.K x) fs (.ref (hp.objs.size + 1) :: vs) (upd H1 (hp.objs.size + 1) (exo (hp.objs.size + 1) (He.ga X.K x) none)) (fun v H2 => v = .non ∧ Q (.ref (hp.objs.size + 1)) H2) (fun _ _ _ => False) :=
      ⟨_, vs, rfl, hz, upd_same, fun dx n ne => ⟨rfl, by
        have n1 : H1 dx = none := by rwa [upd_ne ne] at n
        have z := q1 _ dx hn n1 ne
        unfold xiH at z ⊢
        rwa [upd_swap (Ne.symm ne), upd_upd]⟩⟩
    have lus : us.length ≤ sizeLine := by
      rw [sizeLine_eq, lu]
      omega
    refine wpAny_call (PySem.HandSPX.call_own F.excBase_ValueError (fun Y => PySem.HandSPX.refsVE_contains Y bm hbm) (I1.kIn _ _ hC) (PySem.W.looks_findIn I1.kIn R.it) (fun self => PySem.W.bind_fn I1.kIn self R.ty) lus
      (codeAny_mono (F1.run _ X.stack _ _ ⟨Value.ref (hp.objs.size + 1) :: us, []⟩ (Value.ref (hp.objs.size + 1) :: us) (.ref (hp.objs.size + 1) :: vs) _ (fun _ _ _ => False) ((hr.make (He.ga X.K x) us [])) (J.env0.make (He.ga X.K x) us []) (by
        have z := R.bd _ (Value.ref (hp.objs.size + 1) :: us) J.kIn hl
        rwa [List.append_nil] at z) (.cons rfl r1) sp) fun r s' hq => ?_))
    cases r with
    | error er => exact hq.elim
    | ok fl =>
      cases fl with
      | ret u =>
        obtain ⟨v, H2, os2, bare2, un2, hok2, rv, ev, q2⟩ := hq
        subst ev
        exact ⟨rv, .ref (hp.objs.size + 1), H2, J.call' (ch := []) os2 un2 hok2 bare2 (fun b z => nomatch z), rfl, q2⟩
      | next => exact hq.elim
      | brk => exact hq.elim
      | cont => exact hq.elim⟩
end
section
variable {K : PySem.W.Frag} {Er : EE} {F F' F1 F2 : Addr → Prop} {H H' H1 H2 H3 : Hp} {v x y : V} {dx dy d : D} {L L' Lx Ly : List Addr} {e e' e1 : Env} {σ σ' : L2.St} {Ls Ls' Ls1 Ls2 : Nat → List Addr} {U T : List Addr}
variable {Wf : Bool → Nat → L2.St → Hp → Prop} {ms m m1 m2 p hot : Bool} {rt : Option Nat} {Q : VK} {P : Par}
variable {X : Cx} {l r : Expr} {pos : Pos} {a b c as : C} {es : List Expr} {nm : Str} {q : Pos}
/-- what was read, nothing of it owned: a new thing beside it -/
theorem new_fin (S : Sx K Er F H e σ Ls) {c : Str} {fs : List Str} {ds : List D} {a : Addr} {fvs : List (Str × V)} (hs : XnS K c fs) (sm : Same H H') (hx : XnH K H' a c fvs) (ef : fvs.map (·.1) = fs) (r : Reps K Er F H (fvs.map (·.2)) ds [])
    (q : PostE K Er Wf m F H Ls U σ p none (.ok (.exn c fs ds) e) Q) : Q (.ref a) H' :=
  q (.ref a) F H' Ls [] ((effSame (T := []) S sm fun a z => nomatch z).mono fun z => Bool.noConfusion z) (S.same sm (fun _ z => z) (fun a z w => S.inF w z) fun a z => sm.live (S.fa a z)) (.exn hs hx ef (r.all ⟨sm, fun _ z => z⟩)) OV.nil
theorem evA_one {P : Par} {a : C} {p : Bool} {e : Env} : evA P (.cons a .nil) p e = (ev P a p e).bind fun x e1 => .ok [x] e1 := by
  simp only [evA] <;> rfl
theorem bind_bindX {α β γ : Type} {r : R α} {f : α → Env → R β} {g : β → Env → R γ} : (r.bind f).bind g = r.bind fun a e => (f a e).bind g := by cases r <;> rfl
/-- a class without an __init__ of its own -/
theorem E_mkx0 (E : ExcF X.K X.mg (He.ga X.K nm) nm) (hs : XnS X.K nm []) (hg : Gl X nm) (hd : (nm == ("__debug__" : Str)) = false) (hp : plain l = true) (ha : PE X l (tE X.K Er Wf P a true)) :
    PE X (.Call (.Name nm q) [l] [] pos) (tE X.K Er Wf P (.mkx nm [] (.cons a .nil)) p) := by
  refine (pe_exc1 F.excBase_ValueError E.ex E.gC E.kp hg ha (star_plain hp []) hd).imp fun σ H Q ⟨F, e, Ls, s, q⟩ => ?_
  have eq : ev P (.mkx nm [] (.cons a .nil)) p e = (ev P a true e).bind fun d e1 => if lfL [d] = true then .ok (.exn nm [] []) e1 else .stuck := by
    simp only [ev, evA_one, bind_bindX]
    rfl
  rw [eq] at q
  refine opnd s (m2 := mu (.mkx nm [] (.cons a .nil))) (fun z => by simp [mu, z]) id q fun d e1 v F1 H1 Ls1 L1 E1 S1 R1 O1 q1 => ?_
  intro b nb
  split at q1
  · exact new_fin S1 hs (fun c o z => by
      rw [upd_ne (fun w => by rw [w, nb] at z; cases z)]
      exact z) (.inl ⟨rfl, upd_same⟩) rfl .nil q1
  · exact q1.elim
/-- a class with one -/
theorem E_mkx {fs ps : List Str} {fI : Addr} {fd : FuncData} (R : XiR X.K X.mg nm fs fI fd ps) (hr : Room 2 X.A) (hg : Gl X nm) (hd : (nm == ("__debug__" : Str)) = false) (hp : (l :: es).all plain = true) (ha : PA X (l :: es) (tAr X.K Er Wf P as true)) :
    PE X (.Call (.Name nm q) (l :: es) [] pos) (tE X.K Er Wf P (.mkx nm fs as) p) := by
  rw [List.all_cons, Bool.and_eq_true] at hp
  refine (pe_makeX R hr hg hd ha (star_plain hp.1 es) (back_plain hp.2)).imp fun σ H Q ⟨F, e, Ls, s, q⟩ => ?_
  simp only [ev] at q
  refine args s (m2 := mu (.mkx nm fs as)) id id q fun ds e1 vs F1 H1 Ls1 L1 he E1 S1 R1 O1 V1 q1 => ?_
  split at q1
  · rename_i hl
    have e0 := R1.lf hl
    subst e0
    cases fs with
    | nil => exact absurd rfl R.ne
    | cons f fs =>
      dsimp only at q1
      split at q1
      · rename_i hlen
        have lv : vs.length = (f :: fs).length := by rw [R1.len, hlen]
        refine ⟨lv, R.le, fun b dx nb ndx ne => ?_⟩
        obtain ⟨M, r2, pm⟩ := R1.reverse
        have eM := pm.eq_nil
        subst eM
        have m1 : ((f :: fs).zip vs).reverse.map (·.1) = (f :: fs).reverse := by
          rw [List.map_reverse, List.map_fst_zip (by omega)]
        have m2 : ((f :: fs).zip vs).reverse.map (·.2) = vs.reverse := by
          rw [List.map_reverse, List.map_snd_zip (by omega)]
        refine new_fin S1 (fs := (f :: fs).reverse) ⟨R.xs.ec, fun g hg => R.xs.na g (List.mem_reverse.mp hg), R.xs.ve⟩ (fun c o z => ?_) (.inr ⟨dx, upd_same, ?_⟩) m1 (m2 ▸ r2) q1
        · unfold xiH
          rw [upd_ne (fun w => by rw [w, nb] at z; cases z), upd_ne (fun w => by rw [w, ndx] at z; cases z)]
          exact z
        · unfold xiH
          rw [upd_ne ne]
          exact upd_same
      · exact q1.elim
  · exact q1.elim
end
end VI
set_option maxRecDepth 100000
set_option maxHeartbeats 4000000
/-! VM: by reference: an item of a list is at hand in a slot, and goes back. -/
namespace VI
open PySem PySem.Spec PyProof.Rows L2 RZ
section
variable {K : PySem.W.Frag} {Er : EE} {F F' F1 F2 : Addr → Prop} {H H' H1 H2 H3 : Hp} {v x y : V} {dx dy d : D} {L L' Lx Ly : List Addr} {e e' e1 : Env} {σ σ' : L2.St} {Ls Ls' Ls1 Ls2 : Nat → List Addr} {U T : List Addr}
variable {Wf : Bool → Nat → L2.St → Hp → Prop} {ms m m1 m2 p hot : Bool} {rt : Option Nat} {Q : VK} {P : Par} {D0 D1 : Ends} {N N' : L2.St → Hp → Prop}
variable {X : Cx} {l r : Expr} {pos : Pos} {a b c as pl : C} {st : Stmt} {sts : List Stmt} {es : List Expr}
/-- pl.pop(k) -/
theorem E_mpop {o : Expr} {apos : Pos} (hs : noSup o = true) (hline : (apos.endLine == pos.line) = true) (hr : plain r = true) (ho : PE X o (tPl X.K Er Wf P pl)) (ha : PE X r (tE X.K Er Wf P a true)) (h1 : mu pl = false) (h2 : mu a = false) :
    PE X (.Call (.Attribute o "pop" apos) [r] [] pos) (tE X.K Er Wf P (.mpop pl a) p) :=
  (pe_bm PySem.F.plainAttrs_list PySem.F.slot_list_pop PySem.F.type_list_pop mt_popAt ho (pa_cons ha pa_nil (star_plain hr _)) (attr_plain hs _ _) (bm_pre (apos := apos) hr) hline (star_plain hr _) (by rfl)).imp fun σ H Q ⟨F, e, Ls, s, q⟩ => by
    simp only [ev] at q
    refine ⟨F, e, Ls, s, ?_⟩
    cases hp : evPl P pl e with
    | stuck => rw [hp] at q; exact q.elim
    | ex c h e1 => rw [hp] at q; exact ExP.weak (fun _ => rfl) q
    | ok ip e1 =>
      rw [hp] at q
      intro v v0 F1 H1 Ls1 E1 S1 hσ hv
      replace E1 : Eff false F H Ls [] F1 H1 Ls1 [] := toF h1 E1
      have q0 := PostE.step (m1 := false) (m2 := true) (fun z => Bool.noConfusion z) (fun _ => rfl) E1 q
      simp only [R.bind] at q0
      cases hc1 : plD e1 ip with
      | none => rw [hc1] at q0; exact q0.elim
      | some dd =>
        rw [hc1] at q0
        cases dd <;> (first | exact q0.elim | skip)
        dsimp only at q0
        obtain ⟨M1, rM1, _, _⟩ := place_at S1 hc1 hσ hv
        obtain ⟨a1, vs1, _, rfl, hl, _, _⟩ := rM1.lst'
        refine ⟨.inl ⟨rfl, vs1, .inl hl⟩, ?_⟩
        refine opnd S1 (m2 := true) (fun _ => rfl) id q0 fun d1 e2 v1 F2 H2 Ls2 L1 E2 S2 R1 O1 q1 => ?_
        replace E2 : Eff false F1 H1 Ls1 [] F2 H2 Ls2 L1 := toF h2 E2
        split at q1
        · rename_i xs k hc
          obtain ⟨rfl, rfl⟩ := R1.int'
          split at q1
          · rename_i hz
            simp only [smallI, Bool.and_eq_true, decide_eq_true_eq] at hz
            split at q1
            · rename_i j hj
              split at q1
              · rename_i x hx
                have hv2 := valAt_mono (fun a o h => E2.all.1 a o h) hv
                obtain ⟨M, rM, ndM, nfM, inM, fin⟩ := changed_at S2 hc hσ hv2
                cases rM with
                | own hb rb =>
                  rename_i ws Lw
                  obtain ⟨w, Mx, M', hw, rw', r3, pm⟩ := rb.eraseIdx hx
                  have n2 := List.nodup_cons.mp ndM
                  have ndp : (Mx ++ M').Nodup := pm.nodup_iff.mpr n2.2
                  have subX : ∀ z ∈ Mx, z ∈ Lw := fun z hz => pm.subset (List.mem_append_left _ hz)
                  have subM' : ∀ z ∈ M', z ∈ Lw := fun z hz => pm.subset (List.mem_append_right _ hz)
                  have kp := upd_kp (F := F2) (ho := .lst (ws.eraseIdx j)) hb rfl (nfM _ List.mem_cons_self)
                  refine ⟨a1, ws, k, j, w, rfl, rfl, hb, by omega, by omega, by rw [rb.len]; exact hj, hw, ?_⟩
                  obtain ⟨L', sub, S3, E3⟩ := fin (F' := F2) (H' := upd H2 a1 (.lst (ws.eraseIdx j))) (d' := .lst true (xs.eraseIdx j)) (M' := a1 :: M') (U := []) (T := Mx) (fun y u hy hn => by rw [upd_ne fun e => hn (by rw [e]; exact List.mem_cons_self)]; exact hy) (fun y h => upd_live h) (fun _ h => h) (fun _ h => .inl h) (fun y h => upd_live (S2.fa y h))
                    (.own upd_same (r3.kp kp fun z hz e => n2.1 (e ▸ subM' z hz))) (List.nodup_cons.mpr ⟨fun z => n2.1 (subM' _ z), (List.nodup_append.mp ndp).2.1⟩)
                    (fun y hy => by
                      rcases List.mem_cons.mp hy with e | hy
                      · exact ⟨.inl (e ▸ List.mem_cons_self), nfM y (e ▸ List.mem_cons_self)⟩
                      · exact ⟨.inl (List.mem_cons_of_mem _ (subM' y hy)), nfM y (List.mem_cons_of_mem _ (subM' y hy))⟩)
                    (fun z hz => .inl (List.mem_cons_of_mem _ (subX z hz)))
                  refine q1 w F2 _ _ Mx ((E3.more fun _ z => nomatch z).mono fun _ => rfl) S3 (rw'.kp kp fun z hz e => n2.1 (e ▸ subX z hz)) (Own.ov ⟨(List.nodup_append.mp ndp).1, fun z hz => ⟨nfM z (List.mem_cons_of_mem _ (subX z hz)), fun y => ?_⟩⟩ rfl)
                  rcases y.up with y | ⟨j', hj', y⟩
                  · rcases sub z y with w | w
                    · rcases List.mem_cons.mp w with e | w
                      · exact n2.1 (e ▸ subX z hz)
                      · exact (List.nodup_append.mp ndp).2.2 z hz z w rfl
                    · exact w.2 (List.mem_cons_of_mem _ (subX z hz))
                  · exact hj' (S2.dj j' ip.1 z y (inM z (List.mem_cons_of_mem _ (subX z hz))))
              · exact q1.elim
            · exact q1.elim
          · exact q1.elim
        · exact q1.elim
theorem set_slf {α : Type} {a : α} : ∀ {l : List α} {i : Nat}, l[i]? = some a → l.set i a = l
  | [], i, h => by simp at h
  | b :: l, 0, h => by simp at h; subst h; rfl
  | b :: l, i + 1, h => by
    have : l[i]? = some a := by simpa using h
    rw [List.set_cons_succ, set_slf this]
/-- a slot that is not told of takes what its value stands for -/
theorem Sx.give (s : Sx K Er F H e σ Ls) {i : Nat} {v : V} {d : D} {L : List Addr} (hi : i < e.length) (hσ : σ[i]? = some (some v)) (r : Rep K Er F H v d L) (n : L.Nodup) (o : ∀ a ∈ L, ¬ F a ∧ ¬ In Ls a) :
    Sx K Er F H (e.set i (some d)) σ (up Ls i L) := by
  have s0 : Sx K ⟨fun j => if j = i then none else Er j, Er.h⟩ F H e σ Ls := ⟨s.len, fun j d q => let ⟨v, a, r⟩ := s.rep j d q; ⟨v, a, Rep.er (Er := Er) (Er' := ⟨fun j => if j = i then none else Er j, Er.h⟩) (fun _ _ z => z) r⟩, s.emp, s.nd, s.dj, s.nf, s.fa, fun j v q => by
    replace q : (if j = i then none else Er j) = some v := q
    by_cases h : j = i
    · rw [if_pos h] at q; cases q
    · rw [if_neg h] at q; exact s.fx j v q⟩
  have t := s0.put (if_pos rfl) hi (Rep.er (Er := Er) (Er' := ⟨fun j => if j = i then none else Er j, Er.h⟩) (fun _ _ z => z) r) n o
  rw [set_slf hσ] at t
  exact ⟨t.len, fun j d q => let ⟨v, a, r⟩ := t.rep j d q; ⟨v, a, Rep.er (Er := ⟨fun j => if j = i then none else Er j, Er.h⟩) (Er' := Er) (fun _ _ z => z) r⟩, t.emp, t.nd, t.dj, t.nf, t.fa, s.fx⟩
/-- cells that no slot owns -/
structure Beside (F : Addr → Prop) (H : Hp) (Ls : Nat → List Addr) (S : List Addr) : Prop where
  nd : S.Nodup
  nf : ∀ b ∈ S, ¬ F b
  ni : ∀ b ∈ S, ¬ In Ls b
  lv : ∀ b ∈ S, H b ≠ none
theorem Beside.step {S : List Addr} (B : Beside F H Ls S) (E : Eff true F H Ls [] F' H' Ls' T) : Beside F' H' Ls' S where
  nd := B.nd
  nf := fun b hb z => by
    rcases E.fn b z with w | w | w | w
    · exact B.ni b hb w
    · cases w
    · exact B.nf b hb w
    · exact B.lv b hb w
  ni := fun b hb z => by
    rcases E.sub b (.inl z) with w | w | w
    · exact B.ni b hb w
    · cases w
    · exact B.lv b hb w
  lv := fun b hb => E.live b (B.lv b hb)
theorem Beside.keep {S : List Addr} (B : Beside F H Ls S) (E : Eff true F H Ls [] F' H' Ls' T) {b : Addr} {o : HO} (hb : b ∈ S) (h : H b = some o) : H' b = some o := E.keep b o h fun _ => ⟨B.ni b hb, fun z => nomatch z⟩
theorem Eff.take (E : Eff true F H Ls [] F' H' Ls1 []) (h : ∀ b, In Ls' b → In Ls b ∨ H b = none ∨ In Ls1 b) : Eff true F H Ls [] F' H' Ls' [] :=
  ⟨E.keep, E.live, E.fm, E.fn, (fun b z => by
    rcases z with z | z
    · rcases h b z with w | w | w
      · exact .inl w
      · exact .inr (.inr w)
      · exact E.sub b (.inl w)
    · cases z), fun z => Bool.noConfusion z⟩
/-- an item is in its slot, the list beside -/
theorem Sx.lent {S : List Addr} {x : Nat} {M : List Addr} {xv : V} (s : Sx K Er F H e σ Ls) (hx : Er x = none) (hl : x < e.length) (rv : Rep K Er F H xv d M) (B : Beside F H Ls (M ++ S)) :
    Sx K Er F H (e.set x (some d)) (σ.set x (some xv)) (up Ls x M) ∧ Beside F H (up Ls x M) S := by
  have n := List.nodup_append.mp B.nd
  refine ⟨s.put hx hl rv n.1 fun b hb => ⟨B.nf b (List.mem_append_left _ hb), B.ni b (List.mem_append_left _ hb)⟩, n.2.1, fun b hb => B.nf b (List.mem_append_right _ hb), fun b hb z => ?_, fun b hb => B.lv b (List.mem_append_right _ hb)⟩
  rcases z.up with w | ⟨j, _, w⟩
  · exact n.2.2 b w b hb rfl
  · exact B.ni b (List.mem_append_right _ hb) ⟨j, w⟩
/-- .. and out of it again -/
theorem Sx.unlent {S : List Addr} {x : Nat} (s : Sx K Er F H e σ Ls) (B : Beside F H Ls S) : Beside F H (up Ls x []) (S ++ Ls x) where
  nd := List.nodup_append.mpr ⟨B.nd, s.nd x, fun b hb c hc z => B.ni b hb ⟨x, z ▸ hc⟩⟩
  nf := fun b hb => (List.mem_append.mp hb).elim (B.nf b) (s.nf x b)
  ni := fun b hb z => by
    rcases z.up with w | ⟨j, hj, w⟩
    · cases w
    · rcases List.mem_append.mp hb with q | q
      · exact B.ni b q ⟨j, w⟩
      · exact hj (s.dj j x b w q)
  lv := fun b hb => (List.mem_append.mp hb).elim (B.lv b) fun q => s.inH ⟨x, q⟩
def tRef (K : PySem.W.Frag) (Er : EE) (Wf : Bool → Nat → L2.St → Hp → Prop) (P : Par) (x r : Nat) (b : C) (hot : Bool) : TS := fun D σ H => ∃ v w, tS K (fixE (fixE Er r v) x w) Wf P b hot D σ H
theorem fix_x {x r : Nat} {v w : V} : fixE (fixE Er r v) x w x = some w := by
  rw [fixE_s, if_pos rfl]
theorem fix_r {x r : Nat} {v w : V} (h : x ≠ r) : fixE (fixE Er r v) x w r = some v := by
  rw [fixE_s, fixE_s, if_neg (Ne.symm h), if_pos rfl]
theorem Sx.fix2 {x r : Nat} {v w : V} (s : Sx K Er F H e σ Ls) (hx : σ[x]? = some (some w)) (hr : σ[r]? = some (some v)) : Sx K (fixE (fixE Er r v) x w) F H e σ Ls := (s.fix hr).fix hx
theorem Sx.unfix2 {x r : Nat} {v w : V} (s : Sx K (fixE (fixE Er r v) x w) F H e σ Ls) (h : x ≠ r) (hx : Er x = none) (hr : Er r = none ∨ Er r = some v) : Sx K Er F H e σ Ls := by
  have s1 := s.unfix (by rw [fixE_s, if_neg h]; exact hx)
  rcases hr with hr | hr
  · exact s1.unfix hr
  · have : fixE Er r v = Er := by
      have h1 : (fun j => if j = r then some v else Er j) = Er.s := by
        funext j
        by_cases hj : j = r
        · rw [if_pos hj, hj, hr]
        · rw [if_neg hj]
      unfold fixE
      rw [h1]
    rwa [this] at s1
theorem pin_or (s : Sx K Er F H e σ Ls) {r : Nat} {v : V} (h : σ[r]? = some (some v)) : Er r = none ∨ Er r = some v := by
  cases hr : Er r with
  | none => exact .inl rfl
  | some v' =>
    have := s.fx r v' hr
    rw [h] at this
    cases this
    exact .inr rfl
/-- what a turn by reference leaves -/
theorem ref_back {x r : Nat} {a : Addr} {xv : V} {vs : List V} {ws : List V} {dw : List D} {Lw : List Addr} {d1 : D} {e4 : Env}
    (S' : Sx K (fixE (fixE Er r (.ref a)) x xv) F' H' e4 σ' Ls') (h : x ≠ r) (hx : Er x = none) (hr : Er r = none ∨ Er r = some (.ref a)) (h1 : e4[x]? = some (some d1)) :
    Sx K Er F' H' (e4.set x none) σ' (up Ls' x []) ∧ σ'[r]? = some (some (.ref a)) ∧ Rep K Er F' H' xv d1 (Ls' x) := by
  obtain ⟨v', hv, rv⟩ := S'.rep x d1 h1
  rw [S'.fx x xv fix_x] at hv
  cases hv
  exact ⟨(S'.unfix2 h hx hr).drop, S'.fx r _ (fix_r h), rv.unf.unf⟩
theorem S_forr {t : Expr} {x r : Nat} {nr : Str} {q1 : Pos} (hp : PassesOwn (model X.prog X.w) X.A X.env X.xe) (hc : X.calm = true) (hN : X.N[r]? = some nr) (hv : Vis X.env.scope nr) (hd : (nr == ("__debug__" : Str)) = false) (hcd : (nr == ("__classdict__" : Str)) = false)
    (hg : PG X t (gT X.K (.one x))) (hb : ∀ v w, PSs X sts (tS X.K (fixE (fixE Er r v) x w) Wf P b hot)) (hx : Er x = none)
    (hs : ∀ y, foldedSetIterable (.Name nr q1) X.env y = pure y) : PS X (.For t (.Name nr q1) sts [] pos) (tS X.K Er Wf P (.forr x r b) hot) :=
  (ps_for (tb := tRef X.K Er Wf P x r b hot) hp hc (pi_list (pe_var hN hv hd hcd)) hg ⟨fun pins s σ H D I ⟨v, w, h⟩ => (hb v w).run pins s σ H D I h⟩ hs).imp fun D σ H ⟨F, e, Ls, s, q⟩ => by
    simp only [run] at q
    split at q
    case h_2 => exact q.elim
    rename_i ds he
    split at q
    case isFalse => exact q.elim
    rename_i hxr
    obtain ⟨hxr, hxl⟩ := hxr
    obtain ⟨a, vs, L, hσ, hb0, rb, hL, aL, nd⟩ := s.owned he
    refine ⟨_, hσ, a, rfl, ⟨vs, .inl (.inl hb0)⟩, ?_⟩
    have hlen := rb.len
    have hr := pin_or s hσ
    have hrl : r < e.length := (List.getElem?_eq_some_iff.mp he).1
    generalize hf : (fun e2 => run P b hot e2) = f at q
    refine for_it (n := vs.length) (G := fun H => SqL X.K H a vs) (Y := YAt vs) (g := gT X.K (.one x)) (tb := tRef X.K Er Wf P x r b hot) (walk_list (K := X.K) (a := a) (xs := vs)) (fun i σ2 H2 => ∃ F2 e2 Ls2 dn Ld Lt, Eff true F H Ls [] F2 H2 Ls2 [] ∧ Sx X.K Er F2 H2 e2 σ2 Ls2 ∧ e2[r]? = some none ∧ σ2[r]? = some (some (.ref a)) ∧ x < e2.length ∧ H2 a = some (.lst vs) ∧
      Reps X.K Er F2 H2 (vs.take i) dn Ld ∧ Reps X.K Er F2 H2 (vs.drop i) (ds.drop i) Lt ∧ Beside F2 H2 Ls2 (Lt ++ (a :: Ld)) ∧ (∀ c ∈ Lt ++ (a :: Ld), In Ls c ∨ H c = none) ∧ PostS X.K Er Wf true F H Ls (loopR x r f dn (ds.drop i) e2) D) ?_ ?_ ?_ ?_
    · have inL : ∀ c ∈ L ++ [a], c ∈ Ls r := fun c hc => by
        rw [hL]
        rcases List.mem_append.mp hc with z | z
        · exact List.mem_cons_of_mem _ z
        · rw [List.mem_singleton] at z; subst z; exact List.mem_cons_self
      refine ⟨F, e.set r none, up Ls r [], [], [], L, (Eff.drop (U := [])).mono fun _ => rfl, s.drop, List.getElem?_set_self hrl, hσ, by rw [List.length_set]; exact hxl, hb0, .nil, by rw [List.drop_zero, List.drop_zero]; exact rb, ⟨?_, fun c hc => s.nf r c (inL c hc), fun c hc z => ?_, fun c hc => s.inH ⟨r, inL c hc⟩⟩, fun c hc => .inl ⟨r, inL c hc⟩, by rw [List.drop_zero]; exact q⟩
      · exact List.nodup_append.mpr ⟨nd, by simp, fun c hc y hy z => by
          rw [List.mem_singleton] at hy; subst hy; exact aL (z ▸ hc)⟩
      · rcases z.up with w | ⟨j, hj, w⟩
        · cases w
        · exact hj (s.dj j r c w (inL c hc))
    · rintro i σ2 H2 _ ⟨F2, e2, Ls2, dn, Ld, Lt, E, S, h1, h2, h3, h4, _⟩
      exact .inl (.inl h4)
    · rintro i xv σ2 H2 H3 hn ⟨F2, e2, Ls2, dn, Ld, Lt, E, S, h1, h2, h3, h4, r1, r2, B, inB, q2⟩ ⟨rfl, hy⟩
      have hnd : i < ds.length := by rw [← hlen]; exact hn
      rw [List.drop_eq_getElem_cons hnd] at r2 q2
      obtain ⟨v', ws, M, N, hvs, rv, rw', rfl⟩ := r2.cons'
      rw [List.drop_eq_getElem_cons hn] at hvs
      obtain ⟨rfl, rfl⟩ := List.cons.inj hvs
      rw [List.getElem?_eq_getElem hn] at hy
      cases hy
      obtain ⟨S3, B3⟩ := S.lent hx h3 rv (by rw [← List.append_assoc]; exact B)
      have E3 : Eff true F H Ls [] F2 H3 (up Ls2 x M) [] := E.take fun c z => by
        rcases z.up with w | ⟨j, _, w⟩
        · rcases inB c (List.mem_append_left _ (List.mem_append_left _ w)) with w | w
          · exact .inl w
          · exact .inr (.inl w)
        · exact .inr (.inr ⟨j, w⟩)
      have hr3 : (σ2.set x (some vs[i]))[r]? = some (some (.ref a)) := by rw [List.getElem?_set_ne hxr]; exact h2
      have hx3 : (σ2.set x (some vs[i]))[x]? = some (some vs[i]) := List.getElem?_set_self (by rw [← S.len]; exact h3)
      refine ⟨.ref a, vs[i], F2, e2.set x (some ds[i]), up Ls2 x M, S3.fix2 hx3 hr3, ?_⟩
      simp only [loopR] at q2
      subst hf
      have back : ∀ {e4 : Env}, PostS X.K Er Wf true F H Ls (match e4[x]?, e4[r]? with
            | some (some d1), some none => loopR x r (fun e2 => run P b hot e2) (dn ++ [d1]) (ds.drop (i + 1)) (e4.set x none)
            | _, _ => .stuck) D → NxP X.K (fixE (fixE Er r (.ref a)) x vs[i]) (mu b) F2 H3 (up Ls2 x M) e4 fun σ2 H2 => ∃ F2 e2 Ls2 dn Ld Lt, Eff true F H Ls [] F2 H2 Ls2 [] ∧ Sx X.K Er F2 H2 e2 σ2 Ls2 ∧ e2[r]? = some none ∧ σ2[r]? = some (some (.ref a)) ∧ x < e2.length ∧ H2 a = some (.lst vs) ∧
              Reps X.K Er F2 H2 (vs.take (i + 1)) dn Ld ∧ Reps X.K Er F2 H2 (vs.drop (i + 1)) (ds.drop (i + 1)) Lt ∧ Beside F2 H2 Ls2 (Lt ++ (a :: Ld)) ∧ (∀ c ∈ Lt ++ (a :: Ld), In Ls c ∨ H c = none) ∧ PostS X.K Er Wf true F H Ls (loopR x r (fun e2 => run P b hot e2) dn (ds.drop (i + 1)) e2) D := fun {e4} q3 F' H' Ls' σ' E' k' S' => by
        split at q3
        case h_2 => exact q3.elim
        rename_i d1 g1 g2
        obtain ⟨S5, hσ5, rx⟩ := ref_back (vs := vs) (ws := vs) (dw := ds) (Lw := N) S' hxr hx hr g1
        have B4 := B3.step E'
        have B5 := S'.unlent (x := x) B4
        have E5 : Eff true F H Ls [] F' H' Ls' [] := E3.tt E'
        have s3 := S3.fix2 hx3 hr3
        have kp := E'.kp s3
        refine ⟨F', e4.set x none, up Ls' x [], dn ++ [d1], Ld ++ Ls' x, N, E5.take fun c z => ?_, S5, by rw [List.getElem?_set_ne hxr]; exact g2, hσ5, ?_, B3.keep E' (List.mem_append_right _ List.mem_cons_self) h4, ?_, rw'.kp kp (fun c hc => B3.ni c (List.mem_append_left _ hc)), ?_, fun c hc => ?_, q3⟩
        · rcases z.up with w | ⟨j, _, w⟩
          · cases w
          · exact .inr (.inr ⟨j, w⟩)
        · rw [List.length_set]
          exact (List.getElem?_eq_some_iff.mp g1).1
        · rw [List.take_succ_eq_append_getElem hn]
          exact (r1.kp kp fun c hc => B3.ni c (List.mem_append_right _ (List.mem_cons_of_mem _ hc))).append (by simpa using Reps.cons rx .nil)
        · rw [show N ++ (a :: (Ld ++ Ls' x)) = (N ++ (a :: Ld)) ++ Ls' x by simp]
          exact B5
        · rw [show N ++ (a :: (Ld ++ Ls' x)) = (N ++ (a :: Ld)) ++ Ls' x by simp] at hc
          rcases List.mem_append.mp hc with w | w
          · exact inB c (by
              rcases List.mem_append.mp w with w | w
              · exact List.mem_append_left _ (List.mem_append_right _ w)
              · exact List.mem_append_right _ w)
          · rcases E5.sub c (.inl ⟨x, w⟩) with w | w | w
            · exact .inl w
            · cases w
            · exact .inr w
      dsimp only at q2
      cases hr0 : run P b hot (e2.set x (some ds[i])) with
      | nx e4 => rw [hr0] at q2; exact back q2
      | ct e4 => rw [hr0] at q2; exact back q2
      | bk e4 => rw [hr0] at q2; exact q2.elim
      | ex c h e4 => rw [hr0] at q2; exact q2.elim
      | rt d => rw [hr0] at q2; exact q2.elim
      | rb d e' => rw [hr0] at q2; exact q2.elim
      | stuck => rw [hr0] at q2; exact q2.elim
    · rintro σ2 H2 ⟨F2, e2, Ls2, dn, Ld, Lt, E, S, h1, h2, h3, h4, r1, r2, B, inB, q2⟩
      rw [hlen, List.drop_length] at q2
      simp only [loopR] at q2
      rw [List.take_length] at r1
      have n := List.nodup_append.mp B.nd
      have S5 : Sx X.K Er F2 H2 (e2.set x none) σ2 (up Ls2 x []) := S.drop
      have S6 := S5.give (i := r) (v := .ref a) (d := .lst true dn) (L := a :: Ld) (by rw [List.length_set]; exact (List.getElem?_eq_some_iff.mp h1).1) h2 (.own h4 r1) n.2.1 fun c hc => ⟨B.nf c (List.mem_append_right _ hc), fun z => by
        rcases z.up with w | ⟨j, _, w⟩
        · cases w
        · exact B.ni c (List.mem_append_right _ hc) ⟨j, w⟩⟩
      refine q2 F2 H2 _ σ2 (E.take fun c z => ?_) (fun z => Bool.noConfusion z) S6
      rcases z.up with w | ⟨j, _, w⟩
      · rcases inB c (List.mem_append_right _ w) with w | w
        · exact .inl w
        · exact .inr (.inl w)
      · rcases In.up ⟨j, w⟩ with w | ⟨j', _, w⟩
        · cases w
        · exact .inr (.inr ⟨j', w⟩)
end
end VI
set_option maxRecDepth 100000
set_option maxHeartbeats 4000000
/-! VM2: an item by reference for one statement; the same statements told in two ways. -/
namespace VI
open PySem PySem.Spec PyProof.Rows L2 RZ
section
variable {K : PySem.W.Frag} {Er : EE} {F F' F1 F2 : Addr → Prop} {H H' H1 H2 H3 : Hp} {v x y : V} {dx dy d : D} {L L' Lx Ly : List Addr} {e e' e1 : Env} {σ σ' : L2.St} {Ls Ls' Ls1 Ls2 : Nat → List Addr} {U T : List Addr}
variable {Wf : Bool → Nat → L2.St → Hp → Prop} {ms m m1 m2 p hot : Bool} {rt : Option Nat} {Q : VK} {P : Par} {D0 D1 : Ends} {N N' : L2.St → Hp → Prop}
variable {X : Cx} {l r : Expr} {pos : Pos} {a b c as pl : C} {st : Stmt} {sts : List Stmt} {es : List Expr}
theorem PostS.less {r : Out} (h : m2 = true → m = true) (q : PostS K Er Wf m F H Ls r D0) : PostS K Er Wf m2 F H Ls r D0 :=
  PostS.step (m1 := false) (Eff.refl.mono fun _ => rfl) Kept.refl (fun z => Bool.noConfusion z) h q
theorem S_gif {i : Nat} {n : Int} (ha : PSs X sts (tS K Er Wf P a hot)) (hb : PSs X sts (tS K Er Wf P b hot)) : PSs X sts (tS K Er Wf P (.gif i n a b) hot) :=
  ⟨fun pins s σ H D I ⟨F, e, Ls, s', q⟩ => by
    simp only [run] at q
    split at q
    · split at q
      · exact ha.run pins s σ H D I ⟨F, e, Ls, s', q.less fun z => by simp [mu, z]⟩
      · exact hb.run pins s σ H D I ⟨F, e, Ls, s', q.less fun z => by simp [mu, z]⟩
    · exact q.elim⟩
theorem S_lend {t kx : Expr} {x r : Nat} {nr : Str} {q1 p2 : Pos} {kc : C} (hN : X.N[r]? = some nr) (hv : Vis X.env.scope nr) (hd : (nr == ("__debug__" : Str)) = false) (hcd : (nr == ("__classdict__" : Str)) = false)
    (hu : X.A.units + 64 < cLine) (hpk : plain kx = true) (hk : PE X kx (tE X.K Er Wf P kc true)) (hmk : mu kc = false) (hl : plain (.Subscript (.Name nr q1) kx p2) = true) (hn : noComp (.Subscript (.Name nr q1) kx p2) = true) (ht : isTgt t = true) (hst : isName t = true)
    (hg : PG X t (gT X.K (.one x))) (hb : ∀ v w, PS X st (tS X.K (fixE (fixE Er r v) x w) Wf P b hot)) (hc : PSs X sts (tS X.K Er Wf P c hot)) (hx : Er x = none) :
    PSs X (.Assign [t] (.Subscript (.Name nr q1) kx p2) pos :: st :: sts) (tS X.K Er Wf P (.lend x r kc b c) hot) :=
  (pss_cons (ps_asg (Pl_idx hu hpk (Pl_get hN hv hd hcd) hk hmk rfl) hg (sole_plain hl hn) (stores_name (.inl hst)) (each_one ht)) (pss_cons (t := tRef X.K Er Wf P x r b hot) ⟨fun pins s σ H D I ⟨v, w, h⟩ => (hb v w).run pins s σ H D I h⟩ hc)).imp fun D σ H ⟨F, e, Ls, s, q⟩ => by
    simp only [run] at q
    refine ⟨F, e, Ls, s, ?_⟩
    have hmi : mu (.idx (.get r) kc) = false := by simp [mu, hmk]
    cases hp : evPl P (.idx (.get r) kc) e with
    | stuck => rw [hp] at q; exact q.elim
    | ex c' h e1 =>
      rw [hp] at q
      exact NxP.exP q fun _ => rfl
    | ok ip e1 =>
      rw [hp] at q
      intro v v0 F1 H1 Ls1 E1 S1 hσ hva
      replace E1 : Eff false F H Ls [] F1 H1 Ls1 [] := toF hmi E1
      simp only [ofR] at q
      split at q
      case h_2 => exact q.elim
      rename_i ds j he hip
      split at q
      case h_2 => exact q.elim
      rename_i d hdj
      split at q
      case isFalse => exact q.elim
      rename_i hc3
      obtain ⟨rfl, hxr, hxl⟩ := hc3
      obtain ⟨a, vs, L, hσ', hb0, rb, hL, aL, nd⟩ := S1.owned he
      rw [hσ] at hσ'
      cases hσ'
      have hr := pin_or S1 hσ
      rw [hip] at hva
      have hj : j < ds.length := (List.getElem?_eq_some_iff.mp hdj).1
      have hjv : j < vs.length := by rw [rb.len]; exact hj
      have hvj : vs[j]? = some v := by
        have h0 : valAt H1 [.ix j] (.ref a) = vs[j]? := by
          simp only [valAt, kidV, hb0]
          cases vs[j]? <;> rfl
        rw [h0] at hva
        exact hva
      rw [List.getElem?_eq_getElem hjv] at hvj
      cases hvj
      rw [List.getElem?_eq_getElem hj] at hdj
      cases hdj
      obtain ⟨A, B, ra, rb', hAB⟩ := rb.parts j
      rw [List.drop_eq_getElem_cons hj] at rb'
      obtain ⟨v', ws, M, N, hvs, rv, rw', rfl⟩ := rb'.cons'
      rw [List.drop_eq_getElem_cons hjv] at hvs
      obtain ⟨rfl, rfl⟩ := List.cons.inj hvs
      subst hAB
      have hrl : ip.1 < e1.length := (List.getElem?_eq_some_iff.mp he).1
      have inL : ∀ c ∈ M ++ (a :: (A ++ N)), c ∈ Ls1 ip.1 := fun c hc => by
        rw [hL]
        simp only [List.mem_append, List.mem_cons] at hc ⊢
        rcases hc with h | h | h | h <;> simp [h]
      have B0 : Beside F1 H1 (up Ls1 ip.1 []) (M ++ (a :: (A ++ N))) := ⟨by
          have n1 := S1.nd ip.1
          rw [hL] at n1
          refine (List.Perm.nodup_iff ?_).mp n1
          refine (List.Perm.cons a ?_).trans List.perm_middle.symm
          rw [← List.append_assoc, ← List.append_assoc]
          exact List.Perm.append_right N List.perm_append_comm, fun c hc => S1.nf _ c (inL c hc), fun c hc z => by
          rcases z.up with w | ⟨j', hj', w⟩
          · cases w
          · exact hj' (S1.dj j' ip.1 c w (inL c hc)), fun c hc => S1.inH ⟨_, inL c hc⟩⟩
      obtain ⟨S3, B3⟩ := (S1.drop (i := ip.1)).lent hx (by rw [List.length_set]; exact hxl) rv B0
      have E0 : Eff true F H Ls [] F1 H1 Ls1 [] := E1.mono fun _ => rfl
      have E3 : Eff true F H Ls [] F1 H1 (up (up Ls1 ip.1 []) x M) [] := E0.take fun c z => by
        rcases z.up with w | ⟨j', _, w⟩
        · exact .inr (.inr ⟨_, inL c (List.mem_append_left _ w)⟩)
        · rcases In.up ⟨j', w⟩ with w | ⟨j'', _, w⟩
          · cases w
          · exact .inr (.inr ⟨j'', w⟩)
      have hr3 : (σ.set x (some vs[j]))[ip.1]? = some (some (.ref a)) := by rw [List.getElem?_set_ne hxr]; exact hσ
      have hx3 : (σ.set x (some vs[j]))[x]? = some (some vs[j]) := List.getElem?_set_self (by rw [← S1.len]; exact hxl)
      have s3 := S3.fix2 hx3 hr3
      refine ⟨.ref a, vs[j], F1, (e1.set ip.1 none).set x (some ds[j]), up (up Ls1 ip.1 []) x M, s3, ?_⟩
      cases hr0 : run P b hot ((e1.set ip.1 none).set x (some ds[j])) with
      | nx e4 =>
        rw [hr0] at q
        dsimp only at q
        split at q
        case h_2 => exact q.elim
        rename_i d1 g1 g2
        intro F' H' Ls' σ' E' k' S'
        obtain ⟨S5, hσ5, rx⟩ := ref_back (vs := vs) (ws := vs) (dw := ds) (Lw := N) S' hxr hx hr g1
        have B4 := B3.step E'
        have B5 := S'.unlent (x := x) B4
        have E5 : Eff true F H Ls [] F' H' Ls' [] := E3.tt E'
        have kp := E'.kp s3
        have hr4 : ip.1 < e4.length := (List.getElem?_eq_some_iff.mp g2).1
        have hb4 := B3.keep E' List.mem_cons_self hb0
        have rA := ra.kp kp fun c hc => B3.ni c (List.mem_cons_of_mem _ (List.mem_append_left _ hc))
        have rN := rw'.kp kp fun c hc => B3.ni c (List.mem_cons_of_mem _ (List.mem_append_right _ hc))
        have rr : Reps X.K Er F' H' vs (ds.set j d1) (A ++ (Ls' x ++ N)) := by
          have := rA.append (Reps.cons rx rN)
          rw [← List.drop_eq_getElem_cons hjv, List.take_append_drop] at this
          rw [List.set_eq_take_append_cons_drop, if_pos hj]
          exact this
        have inS : ∀ c ∈ a :: (A ++ (Ls' x ++ N)), c ∈ (a :: (A ++ N)) ++ Ls' x := fun c hc => by
          simp only [List.mem_append, List.mem_cons] at hc ⊢
          rcases hc with h | h | h | h <;> simp [h]
        have S6 := S5.give (i := ip.1) (v := .ref a) (d := .lst true (ds.set j d1)) (L := a :: (A ++ (Ls' x ++ N))) (by rw [List.length_set]; exact hr4) hσ5 (.own hb4 rr) ((List.Perm.nodup_iff (by
            rw [List.cons_append]
            refine List.Perm.cons a ?_
            rw [List.append_assoc]
            exact List.Perm.append_left A List.perm_append_comm)).mp B5.nd) fun c hc => ⟨B5.nf c (inS c hc), B5.ni c (inS c hc)⟩
        refine ⟨F', _, _, S6, PostS.step (m1 := true) (E5.take fun c z => ?_) (fun z => Bool.noConfusion z) (fun _ => rfl) (fun _ => rfl) q⟩
        rcases z.up with w | ⟨j', _, w⟩
        · rcases List.mem_append.mp (inS c w) with w | w
          · rcases E0.sub c (.inl ⟨_, inL c (List.mem_append_right _ w)⟩) with w | w | w
            · exact .inl w
            · cases w
            · exact .inr (.inl w)
          · exact .inr (.inr ⟨x, w⟩)
        · rcases In.up ⟨j', w⟩ with w | ⟨j'', _, w⟩
          · cases w
          · exact .inr (.inr ⟨j'', w⟩)
      | ct e4 => rw [hr0] at q; exact q.elim
      | bk e4 => rw [hr0] at q; exact q.elim
      | ex c h e4 => rw [hr0] at q; exact q.elim
      | rt d => rw [hr0] at q; exact q.elim
      | rb d e' => rw [hr0] at q; exact q.elim
      | stuck => rw [hr0] at q; exact q.elim
end
end VI
set_option maxRecDepth 100000
set_option maxHeartbeats 4000000
/-! VM5: an item by reference for several statements, its list whole but for a hole; what stands at a place, frozen there. -/
namespace VI
open PySem PySem.Spec PyProof.Rows L2 RZ
theorem execs_app {env : PySem.Env} (rest : List Stmt) : ∀ l : List Stmt, execs (l ++ rest) env = (execs l env).bind fun f => match f with
    | .next => execs rest env
    | f => pure f
  | [] => rfl
  | st :: l => by
    show (exec st env).bind (fun f => match f with
      | .next => execs (l ++ rest) env
      | f => pure f) = ((exec st env).bind fun f => match f with
      | .next => execs l env
      | f => pure f).bind _
    rw [Sem.bind_assoc]
    congr 1
    funext f
    cases f with
    | next => exact execs_app rest l
    | _ => rfl
theorem pss_app {X : Cx} {s1 s2 : List Stmt} {t u : TS} (h1 : PSs X s1 t) (h2 : PSs X s2 u) : PSs X (s1 ++ s2) (tSeq t u) := by
  refine ⟨fun pins s σ H D I h => ?_⟩
  rw [execs_app]
  refine wpAny_bind (thn (h1.run pins s σ H { D with nx := u D } I h) fun f s1 q => ?_)
  cases f with
  | next =>
    obtain ⟨σ', H', I', q⟩ := q
    exact h2.run pins s1 σ' H' D I' q
  | ret v => exact wpAny_pure q
  | brk => exact wpAny_pure q
  | cont => exact wpAny_pure q
/-- x's value is held -/
def fixH (Er : EE) (x : Nat) (v : V) : EE := fixE ⟨Er.s, fun i => if i = x then some v else Er.h i⟩ x v
theorem nohE_at {x : Nat} : ∀ {e : Env} {i : Nat} {d : D}, nohE x e = true → e[i]? = some (some d) → noh x d = true
  | [], i, d, _, h => by simp at h
  | some d' :: e, 0, d, n, h => by
    simp only [nohE, Bool.and_eq_true] at n
    simp at h; subst h
    exact n.1
  | none :: e, 0, d, n, h => by simp at h
  | some d' :: e, i + 1, d, n, h => by
    simp only [nohE, Bool.and_eq_true] at n
    exact nohE_at n.2 (by simpa using h)
  | none :: e, i + 1, d, n, h => by
    simp only [nohE] at n
    exact nohE_at n (by simpa using h)
section
variable {K : PySem.W.Frag} {Er : EE} {F F' F1 F2 : Addr → Prop} {H H' H1 H2 H3 : Hp} {v x y : V} {dx dy d : D} {L L' Lx Ly : List Addr} {e e' e1 : Env} {σ σ' : L2.St} {Ls Ls' Ls1 Ls2 : Nat → List Addr} {U T : List Addr}
variable {Wf : Bool → Nat → L2.St → Hp → Prop} {ms m m1 m2 p hot : Bool} {rt : Option Nat} {Q : VK} {P : Par} {D0 D1 : Ends} {N N' : L2.St → Hp → Prop}
variable {X : Cx} {l r : Expr} {pos : Pos} {a b c as pl : C} {st : Stmt} {sts sts1 sts2 : List Stmt} {es : List Expr}
theorem plD_ix {ds : List D} {i j : Nat} (he : e[i]? = some (some (.lst true ds))) (hj : ds[j]? = some d) : plD e (i, [.ix j]) = some d := by
  simp [plD, he, atP, stepD, kidIx, kids, hj]
theorem plD_set {ip : Nat × List Stp} {x : Nat} {o : Option D} (h : x ≠ ip.1) : plD (e.set x o) ip = plD e ip := by
  unfold plD
  rw [List.getElem?_set_ne h]
/-- what stands at a place, frozen there -/
theorem E_fzat (ho : PE X l (tPl X.K Er Wf P pl)) : PE X l (tE X.K Er Wf P (.fzat pl) p) :=
  ho.imp fun σ H Q ⟨F, e, Ls, s, q⟩ => by
    refine ⟨F, e, Ls, s, ?_⟩
    simp only [ev] at q
    cases hp : evPl P pl e with
    | stuck => rw [hp] at q; exact q
    | ex c h e1 => rw [hp] at q; exact q
    | ok ip e1 =>
      rw [hp] at q
      intro v v0 F1 H1 Ls1 E1 S1 hσ hv
      have q1 := PostE.step (m1 := mu pl) (m2 := mu (.fzat pl)) id id E1 q
      cases hd : plD e1 ip with
      | none =>
        simp only [R.bind, hd] at q1
        exact q1.elim
      | some d =>
        simp only [R.bind, hd] at q1
        obtain ⟨v0', w', M, R, d0, he, hσ', hv', rM, pm, re⟩ := S1.place hd
        rw [hσ] at hσ'; cases hσ'
        rw [hv] at hv'; cases hv'
        have ndMR := List.nodup_append.mp (pm.nodup_iff.mpr (S1.nd ip.1))
        have inM : ∀ z ∈ M, z ∈ Ls1 ip.1 := fun z h => pm.subset (List.mem_append_left _ h)
        have inR : ∀ z ∈ R, z ∈ Ls1 ip.1 := fun z h => pm.subset (List.mem_append_right _ h)
        have rF : Rep X.K Er (fun a => F1 a ∨ a ∈ M) H1 v (frz d) [] := rM.frz (fun _ z => .inl z) fun _ z => .inr z
        have liv : ∀ a, (F1 a ∨ a ∈ M) → H1 a ≠ none := fun a h => h.elim (S1.fa a) fun z => S1.inH ⟨_, inM a z⟩
        obtain ⟨L', pm', S'⟩ := S1.change (c' := frz d) (M' := []) (F' := fun a => F1 a ∨ a ∈ M) (H' := H1) he hσ rM pm re (fun a o h _ => h) (fun a h => .inl h) (fun a h => h.elim .inl fun z => .inr (.inl z)) liv rF List.nodup_nil (fun a h => nomatch h)
        rw [List.nil_append] at pm'
        have inL : ∀ j z, z ∈ up Ls1 ip.1 L' j → z ∈ Ls1 j := fun j z h => by
          by_cases hj : j = ip.1
          · subst hj
            rw [up_same] at h
            exact inR z (pm'.subset h)
          · rw [up_ne hj] at h
            exact h
        refine q1 v (fun a => F1 a ∨ a ∈ M) H1 (up Ls1 ip.1 L') [] (Eff.mono (mu := false) ⟨fun a o h _ => h, fun a h => h, fun a h => .inl h, fun a h => h.elim (fun z => .inr (.inr (.inl z))) fun z => .inl ⟨_, inM a z⟩, fun a h => ?_, fun _ i a h => inL i a h⟩ (fun z => Bool.noConfusion z)) S' rF OV.nil
        rcases h with ⟨j, h⟩ | h
        · exact .inl ⟨j, inL j a h⟩
        · cases h
def tHef (K : PySem.W.Frag) (Er : EE) (Wf : Bool → Nat → L2.St → Hp → Prop) (P : Par) (x : Nat) (b : C) (hot : Bool) : TS := fun D σ H => ∃ w, tS K (fixH Er x w) Wf P b hot D σ H
/-- x is held no more, nor is there a hole of it -/
theorem Sx.unhold {x : Nat} {w : V} (s : Sx K (fixH Er x w) F H e σ Ls) (hx : Er x = none) (n : nohE x e = true) : Sx K Er F H e σ Ls :=
  ⟨s.len, fun i d q => let ⟨v, a, r⟩ := s.rep i d q; ⟨v, a, r.erN (fun j u hj z => by
    replace z : (if j = x then some w else Er.h j) = some u := z
    rwa [if_neg hj] at z) (nohE_at n q)⟩, s.emp, s.nd, s.dj, s.nf, s.fa, fun j u q => s.fx j u (by
    by_cases h : j = x
    · rw [h, hx] at q; cases q
    · show (if j = x then some w else Er.s j) = some u
      rw [if_neg h]; exact q)⟩
theorem S_href {t kx : Expr} {x r n : Nat} {nr : Str} {q1 p2 : Pos} {kc : C} (hN : X.N[r]? = some nr) (hv : Vis X.env.scope nr) (hd : (nr == ("__debug__" : Str)) = false) (hcd : (nr == ("__classdict__" : Str)) = false)
    (hu : X.A.units + 64 < cLine) (hpk : plain kx = true) (hk : PE X kx (tE X.K Er Wf P kc true)) (hmk : mu kc = false) (hl : plain (.Subscript (.Name nr q1) kx p2) = true) (hn : noComp (.Subscript (.Name nr q1) kx p2) = true) (ht : isTgt t = true) (hst : isName t = true)
    (hg : PG X t (gT X.K (.one x))) (hb : ∀ w, PSs X sts1 (tS X.K (fixH Er x w) Wf P b hot)) (hc : PSs X sts2 (tS X.K Er Wf P c hot)) (hx : Er x = none) (hh : ∀ i, Er.h i = none) :
    PSs X (.Assign [t] (.Subscript (.Name nr q1) kx p2) pos :: (sts1 ++ sts2)) (tS X.K Er Wf P (.href x r kc n b c) hot) :=
  (pss_cons (ps_asg (Pl_idx hu hpk (Pl_get hN hv hd hcd) hk hmk rfl) hg (sole_plain hl hn) (stores_name (.inl hst)) (each_one ht)) (pss_app (t := tHef X.K Er Wf P x b hot) ⟨fun pins s σ H D I ⟨w, h⟩ => (hb w).run pins s σ H D I h⟩ hc)).imp fun D σ H ⟨F, e, Ls, s, q⟩ => by
    simp only [run] at q
    refine ⟨F, e, Ls, s, ?_⟩
    have hmi : mu (.idx (.get r) kc) = false := by simp [mu, hmk]
    cases hp : evPl P (.idx (.get r) kc) e with
    | stuck => rw [hp] at q; exact q.elim
    | ex c' h e1 =>
      rw [hp] at q
      exact NxP.exP q fun _ => rfl
    | ok ip e1 =>
      rw [hp] at q
      intro v v0 F1 H1 Ls1 E1 S1 hσ hva
      replace E1 : Eff false F H Ls [] F1 H1 Ls1 [] := toF hmi E1
      simp only [ofR] at q
      split at q
      case h_2 => exact q.elim
      rename_i ds j he hip
      split at q
      case h_2 => exact q.elim
      rename_i d hdj
      split at q
      case isFalse => exact q.elim
      rename_i hc3
      obtain ⟨hir, hxr, hxl⟩ := hc3
      have hxi : x ≠ ip.1 := fun z => hxr (z.trans hir)
      have hpd : plD e1 ip = some d := by
        have := plD_ix (e := e1) (i := ip.1) (j := j) (by rw [hir]; exact he) hdj
        rw [← hip] at this
        exact this
      have S1h : Sx X.K ⟨Er.s, fun i => if i = x then some v else Er.h i⟩ F1 H1 e1 σ Ls1 :=
        ⟨S1.len, fun i d q => let ⟨v, a, r⟩ := S1.rep i d q; ⟨v, a, r.er fun i u z => by rw [hh] at z; cases z⟩, S1.emp, S1.nd, S1.dj, S1.nf, S1.fa, S1.fx⟩
      obtain ⟨v0', w', M, R, d0, he0, hσ', hv', rM, pm, re⟩ := S1h.place hpd
      rw [hσ] at hσ'; cases hσ'
      rw [hva] at hv'; cases hv'
      have ndMR := List.nodup_append.mp (pm.nodup_iff.mpr (S1.nd ip.1))
      have inM : ∀ z ∈ M, z ∈ Ls1 ip.1 := fun z h => pm.subset (List.mem_append_left _ h)
      have inR : ∀ z ∈ R, z ∈ Ls1 ip.1 := fun z h => pm.subset (List.mem_append_right _ h)
      obtain ⟨L', pm', S2⟩ := S1h.change (c' := .hole x) (M' := []) (F' := F1) (H' := H1) he0 hσ rM pm re (fun a o h _ => h) (fun a h => h) (fun a h => .inl h) S1.fa (.hole (show (if x = x then some v else Er.h x) = some v by rw [if_pos rfl])) List.nodup_nil (fun a h => nomatch h)
      rw [List.nil_append] at pm'
      have inL : ∀ j z, z ∈ up Ls1 ip.1 L' j → z ∈ Ls1 j ∧ z ∉ M := fun j z h => by
        by_cases hj : j = ip.1
        · subst hj
          rw [up_same] at h
          exact ⟨inR z (pm'.subset h), fun w => ndMR.2.2 z w z (pm'.subset h) rfl⟩
        · rw [up_ne hj] at h
          exact ⟨h, fun w => hj (S1.dj j ip.1 z h (inM z w))⟩
      have hlx : x < (setPl e1 ip (.hole x)).length := by unfold setPl; rw [List.length_modify]; exact hxl
      have S3 := S2.put (i := x) (v := v) hx hlx rM ndMR.1 fun z hz => ⟨S1.nf _ z (inM z hz), fun ⟨j, w⟩ => (inL j z w).2 hz⟩
      have hxs : x < σ.length := by rw [← S1.len]; exact hxl
      have S4 : Sx X.K (fixH Er x v) F1 H1 ((setPl e1 ip (.hole x)).set x (some d)) (σ.set x (some v)) (up (up Ls1 ip.1 L') x M) := S3.fix (List.getElem?_set_self hxs)
      have E0 : Eff true F H Ls [] F1 H1 Ls1 [] := E1.mono fun _ => rfl
      have E3 : Eff true F H Ls [] F1 H1 (up (up Ls1 ip.1 L') x M) [] := E0.take fun z w => by
        rcases w.up with w | ⟨j', _, w⟩
        · exact .inr (.inr ⟨_, inM z w⟩)
        · exact .inr (.inr ⟨j', (inL j' z w).1⟩)
      refine ⟨v, F1, _, _, S4, ?_⟩
      cases hr0 : run P b hot ((setPl e1 ip (.hole x)).set x (some d)) with
      | nx e4 =>
        rw [hr0] at q
        dsimp only at q
        split at q
        case h_2 => exact q.elim
        rename_i d1 i1 g1 g2
        split at q
        case isFalse => exact q.elim
        rename_i hz
        obtain ⟨rfl, hno⟩ := hz
        intro F' H' Ls' σ' E' k' S'
        obtain ⟨v', hv', rv⟩ := S'.rep _ d1 g1
        have hv2 := S'.fx i1 v (show (if i1 = i1 then some v else Er.s i1) = some v by rw [if_pos rfl])
        rw [hv2] at hv'; cases hv'
        have S5 := S'.drop (i := i1)
        have g3 : plD (e4.set i1 none) ip = some (.hole i1) := by rw [plD_set hxi]; exact g2
        obtain ⟨v1, w1, M2, R2, d2, he2, hσ2, hva2, rM2, pm2, re2⟩ := S5.place g3
        cases rM2 with
        | hole hw =>
        replace hw : (if i1 = i1 then some v else Er.h i1) = some w1 := hw
        rw [if_pos rfl] at hw
        cases hw
        rw [List.nil_append] at pm2
        have inR2 : ∀ z ∈ R2, z ∈ Ls' ip.1 := fun z hz => by
          have := pm2.subset hz
          rwa [up_ne (Ne.symm hxi)] at this
        obtain ⟨L2, pmL2, S6⟩ := S5.change (c' := d1) (M' := Ls' i1) (F' := F') (H' := H') he2 hσ2 (.hole (show (if i1 = i1 then some v else Er.h i1) = some v by rw [if_pos rfl])) (by rw [List.nil_append]; exact pm2) re2 (fun a o h _ => h) (fun a h => h) (fun a h => .inl h) S'.fa rv (S'.nd i1) fun z hz => ⟨fun w => hxi (S'.dj i1 ip.1 z hz (inR2 z w)), fun j hj w => by
          by_cases hji : j = i1
          · rw [hji, up_same] at w; cases w
          · rw [up_ne hji] at w
            exact hji (S'.dj j i1 z w hz), S'.nf i1 z hz⟩
        have S7 := S6.unhold hx hno
        have E5 : Eff true F H Ls [] F' H' Ls' [] := E3.tt E'
        refine ⟨F', _, _, S7, PostS.step (m1 := true) (E5.take fun z w => ?_) (fun z => Bool.noConfusion z) (fun _ => rfl) (fun _ => rfl) q⟩
        rcases w.up with w | ⟨j', _, w⟩
        · rcases List.mem_append.mp (pmL2.subset w) with w | w
          · exact .inr (.inr ⟨_, w⟩)
          · exact .inr (.inr ⟨_, inR2 z w⟩)
        · rcases In.up ⟨j', w⟩ with w | ⟨j'', _, w⟩
          · cases w
          · exact .inr (.inr ⟨j'', w⟩)
      | ct e4 => rw [hr0] at q; exact q.elim
      | bk e4 => rw [hr0] at q; exact q.elim
      | ex c h e4 => rw [hr0] at q; exact q.elim
      | rt d => rw [hr0] at q; exact q.elim
      | rb d e' => rw [hr0] at q; exact q.elim
      | stuck => rw [hr0] at q; exact q.elim
/-- a call whose arguments are handed over -/
theorem E_hcall {ca : Nat → Addr} {n k : Nat} {f : Nat} {fa : Addr} {fd : FuncData} {pn : List Str} {CX : CXT} {nm : Str} {q : Pos} {late : Bool}
    (FO : FnOk X.prog X.w X.K X.mg X.base CX k fa fd pn (spI X.K Er ca n pn.length (P.cl f))) (hr : Room k X.A) (hg : Gl X nm) (hm : X.mg nm = some (.ref fa)) (hk : PySem.W.keepIn X.K (.ref fa) = true) (hb : Binds X.K fd pn []) (hd : (nm == ("__debug__" : Str)) = false)
    (hx : ∀ σ, PassesAt CX X σ (fun cls d H => WW ca n Wf late cls d σ H)) (hlate : ∀ ds c h, P.cl f ds = .ex c h → h = late) (hn : alen as = pn.length) (hp : (l :: es).all plain = true) (ha : PA X (l :: es) (tAr X.K Er Wf P as false)) (hh : ∀ i, Er.h i = none) :
    PE X (.Call (.Name nm q) (l :: es) [] pos) (tE X.K Er Wf P (.hcall f as) p) := by
  rw [List.all_cons, Bool.and_eq_true] at hp
  refine (pe_callS (E := fun σ cls d H => WW ca n Wf late cls d σ H) FO hr hg hm hk hb hx ha hd (star_plain hp.1 es) (back_plain hp.2)).imp fun σ H Q ⟨F, e, Ls, s, q⟩ => ?_
  simp only [ev] at q
  refine args s (m2 := mu (.hcall f as)) (fun _ => rfl) id q fun ds e1 vs F1 H1 Ls1 L1 he E1 S1 R1 O1 V1 q1 => ?_
  have own := O1 rfl
  have hps : ds.length = pn.length := by rw [evA_len he]; exact hn
  have kp : ∀ {F' : Addr → Prop} {H' : Hp}, (∀ a o, H1 a = some o → a ∉ L1 → H' a = some o) → (∀ a, F1 a → F' a) → Kp (fun a => a ∈ L1) F1 H1 F' H' := fun k1 fm => ⟨k1, fun a h => R1.cell a h, fm, fun a h => (own.no a h).1⟩
  have Sk : ∀ {F' : Addr → Prop} {H' : Hp}, (∀ a o, H1 a = some o → a ∉ L1 → H' a = some o) → (∀ a, F1 a → F' a) → (∀ a, F' a → ¬ In Ls1 a) → (∀ a, F' a → H' a ≠ none) → Sx X.K Er F' H' e1 σ Ls1 := fun k1 fm nIn fa =>
    ⟨S1.len, fun i d q => let ⟨v, a, r⟩ := S1.rep i d q; ⟨v, a, r.kp (kp k1 fm) fun b hb hl => (own.no b hl).2 ⟨i, hb⟩⟩, S1.emp, S1.nd, S1.dj, fun i a h z => nIn a z ⟨i, h⟩, fa, S1.fx⟩
  refine ⟨F1, ds, L1, hps, S1.fa, R1.er fun i v z => (by rw [hh] at z; cases z), own.nd, fun a h => (own.no a h).1, ?_⟩
  cases hc : P.cl f ds with
  | stuck => rw [hc] at q1; exact q1.elim
  | ex c h =>
    rw [hc] at q1
    have hl := hlate _ c h hc
    intro H' hcn k1 lv
    refine ⟨c, hcn, rfl, rfl, hl ▸ q1 F1 H' Ls1 ⟨fun a o h n => k1 a o h fun z => (n rfl).2 (List.mem_append_right _ z), lv, fun _ h => h, fun _ h => .inr (.inr (.inl h)), fun a h => h.elim .inl (fun z => nomatch z), fun z => Bool.noConfusion z⟩ (Sk k1 (fun _ h => h) (fun a z w => S1.inF w z) fun a z => lv a (S1.fa a z))⟩
  | ok d =>
    rw [hc] at q1
    intro v F' H' L' k1 lv fm fn fa R nd no
    refine q1 v F' H' Ls1 L' ⟨fun a o h n => k1 a o h fun z => (n rfl).2 (List.mem_append_right _ z), lv, fm, fun a h => ?_, fun a h => ?_, fun z => Bool.noConfusion z⟩ (Sk k1 fm (fun a z w => ?_) fa) (R.er er0) (Own.ov ⟨nd, fun a z => ⟨(no a z).2, fun w => ?_⟩⟩ rfl)
    · rcases fn a h with w | w | w
      · exact .inr (.inr (.inl w))
      · exact .inr (.inl (List.mem_append_right _ w))
      · exact .inr (.inr (.inr w))
    · rcases h with h | h
      · exact .inl h
      · rcases (no a h).1 with w | w
        · exact .inr (.inl (List.mem_append_right _ w))
        · exact .inr (.inr w)
    · rcases fn a z with u | u | u
      · exact S1.inF w u
      · exact (own.no a u).2 w
      · exact S1.inH w u
    · rcases (no a z).1 with u | u
      · exact (own.no a u).2 w
      · exact S1.inH w u
end
end VI
set_option maxRecDepth 100000
set_option maxHeartbeats 4000000
/-! VM4: a dict takes all that another one holds. -/
namespace VI
open PySem PySem.Spec PyProof.Rows L2 RZ
def mrgK (kvs : List (Key × V)) : List (Key × V) → List (Key × V)
  | [] => kvs
  | kv :: more => mrgK (putK kvs kv.1 kv.2) more
theorem mrgK_len : ∀ {more kvs : List (Key × V)}, (mrgK kvs more).length ≤ kvs.length + more.length
  | [], kvs => Nat.le_refl _
  | kv :: more, kvs => by
    have h1 := mrgK_len (more := more) (kvs := putK kvs kv.1 kv.2)
    have h2 := length_putK kvs kv.1 kv.2
    show (mrgK (putK kvs kv.1 kv.2) more).length ≤ _
    rw [List.length_cons]
    omega
theorem mrg_kv {more : List (Key × V)} {ws : List (Key × Value)} (r2 : KV more ws) : ∀ {kvs : List (Key × V)} {vs : List (Key × Value)}, KV kvs vs → KV (mrgK kvs more) (merged vs ws) := by
  unfold KV at r2
  induction r2 with
  | nil => exact fun h => h
  | @cons p q ps qs h t ih =>
    intro kvs vs r
    obtain ⟨h1, h2⟩ := h
    have := r.put p.1 h2
    rw [h1] at this
    show KV (mrgK (putK kvs p.1 p.2) ps) (merged (stored vs q.1 q.2) qs)
    rw [h1]
    exact ih this
def rUpd : V → List V → Hp → VK → Prop := fun x vs H Q => ∃ a b kvs more, x = .ref a ∧ vs = [.ref b] ∧ H a = some (.dK kvs) ∧ Rd H b (.dK more) ∧ a ≠ b ∧ kvs.length + more.length ≤ sizeLine ∧ Q .non (upd H a (.dK (mrgK kvs more)))
theorem mt_upd {X : Cx} : MtM X "dict.update" rUpd := by
  intro pins s σ H x vs v us Q I rx rv h
  obtain ⟨a, b, kvs, more, rfl, rfl, e1, e2, ne, hl, q⟩ := h
  cases rx
  obtain ⟨u, rfl, ru⟩ := rv.one
  cases (show u = Value.ref b from ru)
  obtain ⟨z1, hd1, us1, rel1, dd1⟩ := dk_of I.hok e1
  obtain ⟨z2, hd2, us2, rel2, dd2⟩ := dk_rd I.hok e2
  refine call_meetsIn PySem.F.slot_dict_update dd1.typeIs PySem.F.entry_dict_update (PySem.F.args_dict_update_2 _ _) (meets_dict_update (mixKind X.prog X.w) a b ne hd2) ⟨us1, us2, dd1, dd2, by rw [← rel1.length, ← rel2.length]; exact hl, fun h' dd' _ hs => ?_⟩
  have he : ∃ q, h'.get? a = some q := let ⟨q, _, _, hq, _⟩ := dd'; ⟨q, hq⟩
  exact ⟨.non, _, d_write (t' := s.toks) I (by rw [e1]; exact True.intro) hs he (dk_new (Nat.le_trans mrgK_len hl) hd1 (mrg_kv rel2 rel1) dd'), rfl, q⟩
section
variable {K : PySem.W.Frag} {Er : EE} {F F' F1 F2 : Addr → Prop} {H H' H1 H2 H3 : Hp} {v x y : V} {dx dy d : D} {L L' Lx Ly : List Addr} {e e' e1 : Env} {σ σ' : L2.St} {Ls Ls' Ls1 Ls2 : Nat → List Addr} {U T : List Addr}
variable {Wf : Bool → Nat → L2.St → Hp → Prop} {ms m m1 m2 p hot : Bool} {rt : Option Nat} {Q : VK} {P : Par} {D0 D1 : Ends} {N N' : L2.St → Hp → Prop}
variable {X : Cx} {l r : Expr} {pos : Pos} {a b c as pl : C} {st : Stmt} {sts : List Stmt} {es : List Expr}
theorem mrgD_rep : ∀ {more : List (Key × V)} {xs2 : List D} {kvs : List (Key × V)} {ks : List Key} {xs : List D} {M : List Addr}, Reps K Er F H (more.map (·.2)) xs2 [] → (kvs.map (·.1) = ks ∧ ks.Nodup) → Reps K Er F H (kvs.map (·.2)) xs M →
    ∃ M', ((mrgK kvs more).map (·.1) = (mrgD ks xs (more.map (·.1)) xs2).1 ∧ (mrgD ks xs (more.map (·.1)) xs2).1.Nodup) ∧ Reps K Er F H ((mrgK kvs more).map (·.2)) (mrgD ks xs (more.map (·.1)) xs2).2 M' ∧ ∃ R, (M' ++ R).Perm M
  | [], xs2, kvs, ks, xs, M, r2, he, r => ⟨M, he, r, [], by rw [List.append_nil]⟩
  | kv :: more, xs2, kvs, ks, xs, M, r2, he, r => by
    rw [List.map_cons] at r2
    generalize hz : ([] : List Addr) = Z at r2
    cases r2 with
    | cons rv rt =>
      obtain ⟨rfl, rfl⟩ := List.append_eq_nil_iff.mp hz.symm
      obtain ⟨M1, he1, r1, R1, pm1⟩ := putD_rep (k := kv.1) he r rv
      obtain ⟨M', he', r', R', pm'⟩ := mrgD_rep rt he1 r1
      refine ⟨M', he', r', R' ++ R1, ?_⟩
      rw [List.nil_append] at pm1
      rw [← List.append_assoc]
      exact (pm'.append_right R1).trans pm1
theorem Rep.dow' {ks : List Key} {ds : List D} (r : Rep K Er F H v (.dct true ks ds) L) : ∃ (a : Addr) (kvs : List (Key × V)) (M : List Addr), v = .ref a ∧ L = a :: M ∧ H a = some (.dK kvs) ∧ (kvs.map (·.1) = ks ∧ ks.Nodup) ∧ Reps K Er F H (kvs.map (·.2)) ds M := by
  cases r with
  | dow h1 h2 h3 => exact ⟨_, _, _, rfl, rfl, h1, h2, h3⟩
/-- pl.update(a) -/
theorem E_dupd {o : Expr} {apos : Pos} (hs : noSup o = true) (hline : (apos.endLine == pos.line) = true) (hr : plain r = true) (ho : PE X o (tPl X.K Er Wf P pl)) (ha : PE X r (tE X.K Er Wf P a false)) (h1 : mu pl = false) (h2 : mu a = false) :
    PE X (.Call (.Attribute o "update" apos) [r] [] pos) (tE X.K Er Wf P (.dupd pl a) p) :=
  (pe_bm PySem.F.plainAttrs_dict PySem.F.slot_dict_update PySem.F.type_dict_update mt_upd ho (pa_cons ha pa_nil (star_plain hr _)) (attr_plain hs _ _) (bm_pre (apos := apos) hr) hline (star_plain hr _) (by rfl)).imp fun σ H Q ⟨F, e, Ls, s, q⟩ => by
    simp only [ev] at q
    refine ⟨F, e, Ls, s, ?_⟩
    cases hp : evPl P pl e with
    | stuck => rw [hp] at q; exact q.elim
    | ex c h e1 => rw [hp] at q; exact ExP.weak (fun _ => rfl) q
    | ok ip e1 =>
      rw [hp] at q
      intro v v0 F1 H1 Ls1 E1 S1 hσ hv
      replace E1 : Eff false F H Ls [] F1 H1 Ls1 [] := toF h1 E1
      have q0 := PostE.step (m1 := false) (m2 := true) (fun z => Bool.noConfusion z) (fun _ => rfl) E1 q
      simp only [R.bind] at q0
      split at q0
      case h_2 => exact q0.elim
      rename_i ks0 xs0 hc1
      obtain ⟨M1, rM1, _, _⟩ := place_at S1 hc1 hσ hv
      obtain ⟨a1, kvs0, L0, rfl, rfl, hb0, he0, r0⟩ := Rep.dow' rM1
      · skip
        refine ⟨.inr (.inr (.inl ⟨rfl, .inl ⟨_, hb0⟩⟩)), ?_⟩
        refine opnd S1 (m2 := true) (fun _ => rfl) id q0 fun d1 e2 v1 F2 H2 Ls2 L1 E2 S2 R1 O1 q1 => ?_
        replace E2 : Eff false F1 H1 Ls1 [] F2 H2 Ls2 L1 := toF h2 E2
        split at q1
        case h_2 => exact q1.elim
        rename_i ks xs mm ks2 xs2 hc
        split at q1
        case isFalse => exact q1.elim
        rename_i hz
        obtain ⟨hlf, hsz⟩ := hz
        have own := ov_f O1
        have hv2 := valAt_mono (fun a o h => E2.all.1 a o h) hv
        obtain ⟨M, rM, ndM, nfM, inM, fin⟩ := changed_at S2 hc hσ hv2
        obtain ⟨a2, kvs, Lw, hq, rfl, hb, he, r2⟩ := Rep.dow' rM
        cases hq
        · skip
          obtain ⟨b, more, rfl, hrd, hke, rmore, hne⟩ : ∃ b more, v1 = .ref b ∧ Rd H2 b (.dK more) ∧ more.map (·.1) = ks2 ∧ Reps X.K Er F2 H2 (more.map (·.2)) xs2 [] ∧ a1 ≠ b := by
            cases R1 with
            | dow hb2 he2 r3 =>
              have e0 := r3.lf hlf
              subst e0
              exact ⟨_, _, rfl, .inl hb2, he2.1, r3, fun z => (own.no _ List.mem_cons_self).2 ⟨_, z ▸ inM a1 List.mem_cons_self⟩⟩
            | dfr hb2 f2 he2 r3 => exact ⟨_, _, rfl, hb2, he2.1, r3, fun z => nfM a1 List.mem_cons_self (z ▸ f2)⟩
          subst hke
          obtain ⟨M', he', r', R', pm⟩ := mrgD_rep rmore he r2
          have n2 := List.nodup_cons.mp ndM
          have ndp := List.nodup_append.mp (pm.nodup_iff.mpr n2.2)
          have subM' : ∀ z ∈ M', z ∈ Lw := fun z hz => pm.subset (List.mem_append_left _ hz)
          have kp := upd_kp (F := F2) (ho := .dK (mrgK kvs more)) hb rfl (nfM _ List.mem_cons_self)
          refine ⟨a1, b, kvs, more, rfl, rfl, hb, hrd, hne, ?_, ?_⟩
          · have := he.1
            have l1 : kvs.length = ks.length := by rw [← he.1, List.length_map]
            rw [List.length_map] at hsz
            have := most_lt hsz
            omega
          · obtain ⟨L', sub, S3, E3⟩ := fin (F' := F2) (H' := upd H2 a1 (.dK (mrgK kvs more))) (d' := .dct true (mrgD ks xs (more.map (·.1)) xs2).1 (mrgD ks xs (more.map (·.1)) xs2).2) (M' := a1 :: M') (U := []) (T := []) (fun y u hy hn => by rw [upd_ne fun e => hn (by rw [e]; exact List.mem_cons_self)]; exact hy) (fun y h => upd_live h) (fun _ h => h) (fun _ h => .inl h) (fun y h => upd_live (S2.fa y h))
              (.dow upd_same he' (r'.kp kp fun z hz e => n2.1 (e ▸ subM' z hz))) (List.nodup_cons.mpr ⟨fun z => n2.1 (subM' _ z), ndp.1⟩)
              (fun y hy => by
                rcases List.mem_cons.mp hy with e | hy
                · exact ⟨.inl (e ▸ List.mem_cons_self), nfM y (e ▸ List.mem_cons_self)⟩
                · exact ⟨.inl (List.mem_cons_of_mem _ (subM' y hy)), nfM y (List.mem_cons_of_mem _ (subM' y hy))⟩)
              (fun z hz => nomatch hz)
            exact q1 .non F2 _ _ [] ((E3.more fun _ z => nomatch z).mono fun _ => rfl) S3 .non OV.nil
end
end VI
set_option maxRecDepth 100000
set_option maxHeartbeats 4000000
/-! VM3: a try with two clauses, each with the same name. -/
namespace VI
open PySem PySem.Spec PyProof.Rows L2 RZ
/-- what two clauses wish of an exception of the body, the first one first -/
def wAs2 (K : PySem.W.Frag) (c1 c2 : Value) (i : Nat) (t1 t2 : Addr → Value → Option Addr → TS) (Wout : WX) (D : Ends) : WX := wAs K c1 i t1 (wAs K c2 i t2 Wout D) D
section
variable {X : Cx} {n : Str} {i : Nat} {body : List Stmt} {pos : Pos} {tb : WX → TS} {Wout : WX}
variable {x1 x2 : Str} {c1 c2 : Value} {s1 s2 : List Stmt} {b1 b2 : Stmt} {np1 np2 hp1 hp2 : Pos} {t1 t2 : Addr → Value → Option Addr → TS}
theorem try_two (hs : X.stack = X.env :: X.outer) (hf : X.env.frame = some X.env.locals) (hN : X.N.Nodup) (hi : X.N[i]? = some n) (hln : X.env.kindOf n = some .local) (hc1 : Names X x1 c1) (hc2 : Names X x2 c2) (tk : L2.Takes X Wout)
    (hb : ∀ (W : WX) (pn : List (Addr × Obj)) (xe : Value → Shared → Prop), L2.Takes (X.tr pn xe) W → PassesOwn (model X.prog X.w) X.A X.env xe → PSs (X.tr pn xe) body (tb W))
    (hs1 : ∀ (a : Addr) (oe : Obj) (cls : Value) (d : Option Addr) (pn : List (Addr × Obj)), Zc cls d oe → (∃ vs, oe.data = .fields vs) → PSs (X.suite a ((a, oe) :: pn)) (b1 :: s1) (t1 a cls d))
    (hs2 : ∀ (a : Addr) (oe : Obj) (cls : Value) (d : Option Addr) (pn : List (Addr × Obj)), Zc cls d oe → (∃ vs, oe.data = .fields vs) → PSs (X.suite a ((a, oe) :: pn)) (b2 :: s2) (t2 a cls d)) :
    PS X (.Try body [.ExceptHandler (some (.Name x1 np1)) (some n) (b1 :: s1) hp1, .ExceptHandler (some (.Name x2 np2)) (some n) (b2 :: s2) hp2] [] [] pos) (fun D σ H => tb (wAs2 X.K c1 c2 i t1 t2 Wout D) D σ H) := by
  constructor
  intro pins s0 σ0 H0 D I0 h0
  have okI := I0.ok
  have frs0 : X.A.frames = some (X.env :: X.outer) := by rw [okI.frames, hs]
  apply wpAny_Try_except
  have bodyRun := hb (wAs2 X.K c1 c2 i t1 t2 Wout D) (X.pn ++ pins)
    (fun ev q1 => wpAny (model X.prog X.w) X.A (noteFrame ev X.env)
      (fun _ q2 => wpAny (model X.prog X.w) X.A (setFlight ev none)
        (fun _ q3 => wpAny (model X.prog X.w) X.A (handleBy ev X.env [.ExceptHandler (some (.Name x1 np1)) (some n) (b1 :: s1) hp1, .ExceptHandler (some (.Name x2 np2)) (some n) (b2 :: s2) hp2]) (SP X pins D) X.xe q3) X.xe q2) X.xe q1)
    ?caught PassesOwn.looking
  case caught =>
    rintro u sw ⟨a, B, sI, pinsB, σw, Hw, cls, d, rfl, Iw, nb, upw, skyw, fresh, eos, bare, b, hm1, yes1, no1⟩
    have I1 : Inv X pins σw Hw sI := Iw.ofTry okI
    refine Sky.land Zc.steady frs0 hf (by rw [← hs]; exact skyw) fun hp ld upl => ?_
    have I2 : Inv X pins σw Hw { sw with heap := hp } := I1.landed nb ld.1 (upw.trans upl) eos bare
    obtain ⟨ob, fs, hat, hz, hd⟩ := ld.there
    have outer : a ∉ frs (X.env :: X.outer) := fun hm => by
      obtain ⟨_, o2, e2, ne2⟩ := ld.2.2.1.mem hm
      rw [hat] at e2
      cases e2
      exact ne2 _ hd
    have aL : a ≠ X.env.locals := fun z => outer (List.mem_filterMap.mpr ⟨X.env, List.mem_cons_self, by rw [hf, z]⟩)
    have aF : a ∉ X.fs := fun hm => by
      obtain ⟨e, he, q⟩ := List.mem_filterMap.mp hm
      exact outer (List.mem_filterMap.mpr ⟨e, List.mem_cons_of_mem _ he, q⟩)
    have I3 := I2.suite hat hd fresh aL aF
    have looks : PySem.W.Looks (model X.prog X.w) hp (typeOf (.ref a)) cls := fun A Q E s k q => wpAny_typeOf_ref (k _ _ hat) (by rw [hz.1]; exact q)
    -- one clause, the others behind it
    have clause : ∀ {x : Str} {c : Value} {bs : Stmt} {su : List Stmt} {np hpp : Pos} {ts : Addr → Value → Option Addr → TS} {hds : List ExceptHandler} {b : Bool}, Names X x c →
        (∀ (oe : Obj) (pn : List (Addr × Obj)), Zc cls d oe → (∃ vs, oe.data = .fields vs) → PSs (X.suite a ((a, oe) :: pn)) (bs :: su) (ts a cls d)) → PySem.W.exmOne X.K cls c = some b →
        (b = true → ∀ a, Hw a = none → ts a cls d { nx := fun σ' H' => D.nx (σ'.set i none) H', rt := D.rt, bk := fun σ' H' => D.bk (σ'.set i none) H', ct := fun σ' H' => D.ct (σ'.set i none) H' } (σw.set i (some (.ref a))) Hw) →
        (b = false → wpAny (model X.prog X.w) X.A (handleBy (.ref a) X.env hds) (SP X pins D) X.xe { sw with heap := hp }) →
        wpAny (model X.prog X.w) X.A (handleBy (.ref a) X.env (.ExceptHandler (some (.Name x np)) (some n) (bs :: su) hpp :: hds)) (SP X pins D) X.xe { sw with heap := hp } := by
      intro x c bs su np hpp ts hds b hc hsu hm yes no
      refine wpAny_handleBy_cons (codeAny_handlers_test ?_) (fun q => nomatch q)
      have isOne := PySem.W.exm_one (M := model X.prog X.w) I2.kIn looks hm
      have named : ∀ {Q E : Value → Shared → Prop}, Q c { sw with heap := hp } → wpAny (model X.prog X.w) (X.A.mark (some (.ref a))) (eval (.Name x np) X.env) Q E { sw with heap := hp } := by
        intro Q E q
        obtain ⟨gl, nd, here | ⟨nn, bt, nm⟩⟩ := hc
        · exact ld_glob (X := X.suite a ((a, ob) :: (X.pn ++ pins))) I3 gl here q nd
        · exact ld_blt (X := X.suite a ((a, ob) :: (X.pn ++ pins))) I3 gl nn bt q nm nd
      apply named
      apply isOne.here
      cases b with
      | false => exact no rfl
      | true =>
        apply codeAny_handlers_suite_as
        refine HandSPX.lands_againZ ld fun hp4 ld4 up4 => ?_
        obtain ⟨ob4, fs4, hat4, hz4, hd4⟩ := ld4.there
        have I4a : Inv X pins σw Hw { sw with heap := hp4 } := I1.landed nb ld4.1 ((upw.trans upl).trans up4) eos bare
        have I4 := I4a.suite hat4 hd4 fresh aL aF
        refine store_ok (X := X.suite a ((a, ob4) :: (X.pn ++ pins))) (v := .ref a) I4 hN hi (.inl hln) rfl (fun s5 I5 => ?_) (.inr hln)
        have leave : ∀ {σ6 : L2.St} {H6 : Hp} {s6 : Shared} {Q : Shared → Prop}, Inv (X.suite a ((a, ob4) :: (X.pn ++ pins))) [] σ6 H6 s6 → (∀ s7, Inv X pins (σ6.set i none) H6 s7 → Q s7) →
            wpAny (model X.prog X.w) X.A (do bindName X.env n .none; unbindBehindTheSuite X.env n hpp) (fun _ s7 => Q s7) X.xe s6 := fun I6 hq => gone_ok (I6.unsuite okI) hN hi hln hq
        refine wpAny_mono ((hsu ob4 (X.pn ++ pins) hz4 ⟨_, hd4⟩).run [] s5 _ Hw _ I5 (yes rfl a fresh)) (fun fl s6 after => ?_) fun _ _ z => z.elim
        cases fl with
        | ret u =>
          obtain ⟨v6, σ6, H6, I6, r6, q6⟩ := after
          exact leave I6 fun s7 I7 => ⟨_, _, _, I7, r6, q6⟩
        | _ =>
          obtain ⟨σ6, H6, I6, q6⟩ := after
          exact leave I6 fun s7 I7 => ⟨_, _, I7, q6⟩
    refine clause hc1 (fun oe pn => hs1 a oe cls d pn) hm1 yes1 fun hb1 => ?_
    obtain ⟨bb, hm2, yes2, no2⟩ := no1 hb1
    refine clause hc2 (fun oe pn => hs2 a oe cls d pn) hm2 yes2 fun hb2 => ?_
    apply wpAny_handleBy_nil
    obtain ⟨_, _, _, oe, vs, T, oT, tt, he, hze, hde, hv1, htr⟩ := id ld
    unfold PySem.passOn
    refine wpAny_bind (wpAny_field he hde hv1 ?_)
    rw [if_neg (show ¬ ((Value.ref T == Value.none) = true) by simp)]
    have fly : wpAny (model X.prog X.w) X.A (setFlight (.ref a) X.env.frame)
        (fun _ s4 => wpAny (model X.prog X.w) X.A (throw (.ref a) : Sem Flow) (SP X pins D) X.xe s4) X.xe { sw with heap := hp } := by
      rw [hf]
      refine HandSPX.setFlight_upZ ld fun h4 flies up4 => wpAny_throw (tk _ _ ⟨a, B, sI, pins, σw, Hw, cls, d, rfl, I1, nb, (upw.trans upl).trans up4, .inr (.inr ?_), fresh, eos, bare, no2 hb2⟩)
      rw [hs]
      exact flies
    first
      | exact wpAny_bind fly
      | exact wpAny_bind (wpAny_pure (wpAny_bind fly))
  refine wpAny_mono (bodyRun.run [] s0 σ0 H0 D (I0.toTry _) h0) (fun fl s1 after => ?_) fun _ _ z => z
  cases fl with
  | next =>
    obtain ⟨σ1, H1, I1, q⟩ := after
    exact wpAny_execs_nil ⟨σ1, H1, I1.ofTry okI, q⟩
  | ret u =>
    obtain ⟨v, σ1, H1, I1, r1, q⟩ := after
    exact ⟨v, σ1, H1, I1.ofTry okI, r1, q⟩
  | _ =>
    obtain ⟨σ1, H1, I1, q⟩ := after
    exact ⟨σ1, H1, I1.ofTry okI, q⟩
end
section
variable {K : PySem.W.Frag} {Er : EE} {F F' F1 F2 : Addr → Prop} {H H' H1 H2 H3 : Hp} {v x y : V} {d : D} {L : List Addr} {e e' e1 : Env} {σ σ' : L2.St} {Ls Ls' Ls1 Ls2 : Nat → List Addr}
variable {Wf : Bool → Nat → L2.St → Hp → Prop} {P : Par} {X : Cx} {pos : Pos} {ca : Nat → Addr} {n n2 : Nat}
variable {body u1 u2 : List Stmt} {b1 b2 : Stmt} {np1 np2 hp1 hp2 : Pos} {cb k1 k2 : C} {i j1 j2 : Nat} {nm x1 x2 : Str}
theorem suiteR_read {a' : Addr} {P' : Par} {cs : C} {m : Bool} (hi : Er i = none) (hl : i < e1.length) (E : Eff true F H Ls [] F1 H1 Ls1 []) (k : Kept m H H1) (S : Sx K Er F1 H1 e1 σ Ls1) (hms : mu cs = true → m = true) (D : Ends)
    (q : PostS K Er Wf m F H Ls (suiteR i (run P' cs true (e1.set i none))) D) : tS K (fixE Er i (.ref a')) Wf0 P' cs true { nx := fun σ' H' => D.nx (σ'.set i none) H', rt := D.rt, bk := fun σ' H' => D.bk (σ'.set i none) H', ct := fun σ' H' => D.ct (σ'.set i none) H' } (σ.set i (some (.ref a'))) H1 :=
  suite_read (Wf := Wf) hi hl E k S hms D (by
    revert q
    generalize run P' cs true (e1.set i none) = o
    intro q
    cases o <;> exact q)
theorem try2_rd {Wout : WX} (W : Exw K P.sub ca n n2) (hj1 : j1 < n) (hj2 : j2 < n) (hEr : Er i = none) {D : Ends} (h : tS K Er Wf P (.try2 cb j1 k1 j2 k2 i) false D σ H) (ho : ∀ c σ H, c < n → Wf true c σ H → Wout (.ref (ca c)) none σ H) :
    tS K Er (wfOf ca n (wAs2 K (.ref (ca j1)) (.ref (ca j2)) i (tsE K Er P ca n i k1 fun _ _ => True) (tsE K Er P ca n i k2 fun _ _ => True) Wout D)) P cb false D σ H := by
  obtain ⟨F, e, Ls, s, q⟩ := h
  refine ⟨F, e, Ls, s, ?_⟩
  simp only [run] at q
  refine try_body q (fun _ => rfl) fun c h e1 F1 H1 Ls1 σ1 E k S q1 hc => ?_
  refine ⟨P.sub c j1, W.exm c j1 hc hj1, fun hb a ha => ⟨c, hc, rfl, rfl, ?_⟩, fun hb => ⟨P.sub c j2, W.exm c j2 hc hj2, fun hb2 a ha => ⟨c, hc, rfl, rfl, ?_⟩, fun hb2 => ?_⟩⟩
  · rw [if_pos hb] at q1
    split at q1
    · rename_i hl
      exact suiteR_read hEr hl E k S (fun _ => rfl) D q1
    · exact q1.elim
  · rw [if_neg (by rw [hb]; exact Bool.false_ne_true), if_pos hb2] at q1
    split at q1
    · rename_i hl
      exact suiteR_read hEr hl E k S (fun _ => rfl) D q1
    · exact q1.elim
  · rw [if_neg (by rw [hb]; exact Bool.false_ne_true), if_neg (by rw [hb2]; exact Bool.false_ne_true)] at q1
    exact ho c σ1 H1 hc (q1 F1 H1 Ls1 σ1 E k S)
theorem S_try2 (hs : X.stack = X.env :: X.outer) (hf : X.env.frame = some X.env.locals) (hN : X.N.Nodup) (hi : X.N[i]? = some nm) (hln : X.env.kindOf nm = some .local) (hc1 : L2.Names X x1 (.ref (ca j1))) (hc2 : L2.Names X x2 (.ref (ca j2))) (W : Exw X.K P.sub ca n n2) (hj1 : j1 < n) (hj2 : j2 < n) (hEr : Er i = none) (tk : L2.Takes X (WW ca n Wf true))
    (hb : ∀ Wf' pn xe, L2N.Takes (X.tr pn xe) (WW ca n Wf' false) → L2.Takes (X.tr pn xe) (WW ca n Wf' true) → PassesOwn (model X.prog X.w) X.A X.env xe → PSs (X.tr pn xe) body (tS X.K Er Wf' P cb false))
    (hs1 : ∀ a oe pn c', c' < n → Zc (.ref (ca c')) none oe → (∃ vs, oe.data = .fields vs) → PSs (X.suite a ((a, oe) :: pn)) (b1 :: u1) (tS X.K (fixE Er i (.ref a)) Wf0 { P with cur := some (i, c') } k1 true))
    (hs2 : ∀ a oe pn c', c' < n → Zc (.ref (ca c')) none oe → (∃ vs, oe.data = .fields vs) → PSs (X.suite a ((a, oe) :: pn)) (b2 :: u2) (tS X.K (fixE Er i (.ref a)) Wf0 { P with cur := some (i, c') } k2 true)) :
    PS X (.Try body [.ExceptHandler (some (.Name x1 np1)) (some nm) (b1 :: u1) hp1, .ExceptHandler (some (.Name x2 np2)) (some nm) (b2 :: u2) hp2] [] [] pos) (tS X.K Er Wf P (.try2 cb j1 k1 j2 k2 i) false) :=
  (try_two (Wout := WW ca n Wf true) (tb := fun W => tS X.K Er (wfOf ca n W) P cb false) (t1 := tsE X.K Er P ca n i k1 fun _ _ => True) (t2 := tsE X.K Er P ca n i k2 fun _ _ => True) hs hf hN hi hln hc1 hc2 tk (fun W pn xe tkb po => hb _ pn xe (takes_down (tkb.imp wfOf_imp)) (tkb.imp wfOf_imp) po)
    (fun a oe cls d pn hz hv => ⟨fun pins s σ H D I ⟨c', hc, e1, e2, h⟩ => by
      subst e1 e2
      exact (hs1 a oe pn c' hc hz hv).run pins s σ H D I h⟩)
    (fun a oe cls d pn hz hv => ⟨fun pins s σ H D I ⟨c', hc, e1, e2, h⟩ => by
      subst e1 e2
      exact (hs2 a oe pn c' hc hz hv).run pins s σ H D I h⟩)).imp fun D σ H h => try2_rd W hj1 hj2 hEr h fun c σ H hc w => ⟨c, hc, rfl, rfl, w⟩
end
end VI
set_option maxRecDepth 100000
set_option maxHeartbeats 4000000
/-! VI: the check of a core text against the model's, and what it is worth: expressions. -/
namespace VI
open PySem PySem.Spec PyProof.Rows L2 RZ

inductive Md where | calm | suite | hot | hotr
  deriving DecidableEq
structure FnRow where
  nm : Str
  ps : Nat
  late : Bool
  hot : Bool
  /-- may change its first argument -/
  br : Bool := false
  /-- a method: of which class -/
  own : Option Str := none
  qual : Str := nm
/-- an exception class with an __init__ of its own: its fields, its __init__'s row, its base -/
structure XRow where
  nm : Str
  fs : List Str
  f : Nat
  b : Str
structure Tb where
  fns : List FnRow
  excs : List Str
  glos : List (Str × D)
  free : List Str
  sub : Nat → Nat → Bool
  cls : List ClsR := []
  /-- classes that are known by name alone; own classes that isinstance is asked of -/
  tys : List Str := []
  ctys : List Ty := []
  xns : List XRow := []
def Tb.names (tb : Tb) : List Str := tb.excs ++ tb.tys
structure Sta where
  tb : Tb
  N : List Str
  sc : Scope
  md : Md
  xi : Option Nat
  co : Bool := true
  /-- slots that no statement sets -/
  fz : List Nat := []
  /-- something is held -/
  hol : Bool := false
def okN (n : Str) : Bool := !(n == ("__debug__" : Str)) && !(n == ("__classdict__" : Str))
def visB (sc : Scope) (n : Str) : Bool := match sc.names.lookup n with
  | some .local => true
  | some .cell => true
  | some .free => true
  | _ => false
def locB (S : Sta) (n : Str) : Bool := match S.sc.names.lookup n with
  | some .local => true
  | some .cell => S.co
  | _ => false
/-- a comprehension's scope, as the model relabels it -/
def relB' (sc scope : Scope) : Scope := { scope with names := scope.names.map fun (n, k) => if (k == NameKind.free && sc.kind == .function && sc.names.lookup n == some .cell) then (n, NameKind.cell) else (n, k) }
def Sta.blk (S : Sta) (scope : Scope) : Sta := { S with sc := relB' S.sc scope, co := false }
def glB (sc : Scope) (n : Str) : Bool := match sc.names.lookup n with
  | some .globalImplicit => true
  | _ => false
def nmB (S : Sta) (i : Nat) (n : Str) : Bool := decide (S.N[i]? = some n) && okN n && visB S.sc n
/-- a built-in's name -/
def biB (S : Sta) (n : Str) : Bool := glB S.sc n && okN n && decide (n ∈ S.tb.free)
def leaf (t : Bool) (e : Expr) : Bool := !t || (plain e && valued e && noComp e)
def tyB (S : Sta) (t : Ty) (e : Expr) : Bool := match e with
  | .Name n _ => glB S.sc n && okN n && (match t with
    | .exc j => decide (S.tb.names[j]? = some n)
    | .cls j ys ns => decide (S.tb.names[j]? = some n) && decide (.cls j ys ns ∈ S.tb.ctys)
    | .xcl j ys ns => decide (S.tb.names[j]? = some n) && decide (.xcl j ys ns ∈ S.tb.ctys)
    | t => decide (n = (tyN t : Str)) && decide (n ∈ S.tb.free))
  | _ => false
def tysB (S : Sta) : List Ty → List Expr → Bool
  | [], [] => true
  | t :: ts, e :: es => tyB S t e && tysB S ts es
  | _, _ => false
def tgB (S : Sta) (tg : Tg) (e : Expr) : Bool := match tg, e with
  | .one i, .Name n _ => decide (S.N[i]? = some n) && locB S n && decide (i ∉ S.fz)
  | .many is, .Tuple es _ _ => decide (S.md = .calm) && go is es
  | _, _ => false
where go : List Nat → List Expr → Bool
  | [], [] => true
  | i :: is, .Name n _ :: es => decide (S.N[i]? = some n) && locB S n && decide (i ∉ S.fz) && go is es
  | _, _ => false
def ownOf (N : List Str) (vs : List Nat) : List (Str × Nat) := vs.map fun i => ((N[i]?).getD "", i)
/-- what a name's methods are -/
def mthB (S : Sta) (br : Bool) (m : Str) : Bool := S.tb.cls.all fun r => r.ms.all fun p => !decide (p.1 = m) || (match S.tb.fns[p.2]? with
  | some r => !r.hot && (r.br == br)
  | none => false)
def oneLine (a b : Pos) : Bool := a.endLine == b.line
mutual
/-- t: as a test -/
def chkE : Sta → Bool → C → Expr → Bool
  | S, t, .non, e => leaf t e && (match e with
    | .Constant .none _ _ => true
    | _ => false)
  | S, t, .bl b, e => leaf t e && (match e with
    | .Constant (.bool c) _ _ => decide (c = b)
    | _ => false)
  | S, t, .int i, e => leaf t e && (match e with
    | .Constant (.int j) _ _ => decide (j = i)
    | _ => false)
  | S, t, .str s, e => leaf t e && (match e with
    | .Constant (.str z) _ _ => decide (z = s)
    | _ => false)
  | S, t, .get i, e => leaf t e && (match e with
    | .Name n _ => nmB S i n
    | _ => false)
  | S, t, .glo g, e => leaf t e && (match e with
    | .Name n _ => glB S.sc n && okN n && decide ((S.tb.glos[g]?).map (·.1) = some n)
    | _ => false)
  | S, t, .bin o a b, e => leaf t e && (match e with
    | .BinOp l op r _ => decide (op = opB o) && chkE S false a l && chkE S false b r && !mu b
    | _ => false)
  | S, t, .neg a, e => leaf t e && (match e with
    | .UnaryOp .USub l _ => chkE S false a l
    | _ => false)
  | S, _, .cmp o a b, e => (match e with
    | .Compare l [op] [r] _ => decide (op = opC o) && chkE S false a l && chkE S false b r && !mu b && plain r
    | _ => false)
  | S, _, .chain o o' a b c, e => (match e with
    | .Compare l [op, op'] [r, z] _ => decide (op = opC o) && decide (op' = opC o') && chkE S false a l && chkE S false b r && chkE S false c z && !mu b && !mu c && plain z
    | _ => false)
  | S, t, .nt a, e => (match e with
    | .UnaryOp .Not l _ => chkE S t a l
    | _ => false)
  | S, t, .and a b, e => (match e with
    | .BoolOp .And (l :: rs) ps => chkE S t a l && (match rs with
      | [] => false
      | [r] => chkE S t b r
      | r :: r2 :: rest => chkE S t b (.BoolOp .And (r :: r2 :: rest) ps))
    | _ => false)
  | S, t, .or a b, e => (match e with
    | .BoolOp .Or (l :: rs) ps => chkE S t a l && (match rs with
      | [] => false
      | [r] => chkE S t b r
      | r :: r2 :: rest => chkE S t b (.BoolOp .Or (r :: r2 :: rest) ps))
    | _ => false)
  | S, t, .cond c a b, e => leaf t e && (match e with
    | .IfExp z l r _ => (match c with
      | .cons c2 .nil => chkE S true c2 z
      | _ => false) && chkE S false a l && chkE S false b r
    | _ => false)
  | S, t, .tup as, e => leaf t e && (match e with
    | .Tuple es _ _ => chkA S as es && decide (alen as ≤ most)
    | _ => false)
  | S, t, .lst as, e => leaf t e && (match e with
    | .List es _ => chkA S as es && decide (alen as ≤ most)
    | _ => false)
  | S, t, .idx a b, e => leaf t e && (match e with
    | .Subscript l r _ => chkE S false a l && chkE S false b r && !mu b && plain r
    | _ => false)
  | S, t, .slc a lo hi, e => leaf t e && (match e with
    | .Subscript l (.Slice x y none _) _ => chkE S false a l && chkP S lo x && chkP S hi y && !mu lo && !mu hi
    | _ => false)
  | S, t, .rev a, e => leaf t e && (match e with
    | .Subscript l (.Slice none none (some (.UnaryOp .USub (.Constant (.int j) _ _) _)) _) _ => decide (j = 1) && chkE S false a l
    | _ => false)
  | S, t, .bi f as, e => leaf t e && (match e with
    | .Call (.Name n _) (l :: es) [] _ => decide (n = biN f) && biB S n && (!biCalm f || decide (S.md = .calm)) && (l :: es).all plain && chkA S as (l :: es)
    | _ => false)
  | S, t, .isi a ts w, e => leaf t e && (match e with
    | .Call (.Name n _) [l, r] [] _ => decide (n = "isinstance") && biB S n && plain l && chkE S false a l && (match w, ts, r with
      | false, [z], r => plain r && tyB S z r
      | true, ts, .Tuple es _ _ => tysB S ts es && decide (ts.length ≤ most)
      | _, _, _ => false)
    | _ => false)
  | S, t, .isx ts w, e => leaf t e && (match e with
    | .Call (.Name n _) [.Name xn _, r] [] _ => decide (n = "isinstance") && biB S n && (match S.xi with
      | some xi => nmB S xi xn
      | none => false) && (match w, ts, r with
      | false, [z], r => plain r && tyB S z r
      | true, ts, .Tuple es _ _ => tysB S ts es && decide (ts.length ≤ most)
      | _, _, _ => false)
    | _ => false)
  | S, t, .call f as, e => leaf t e && (match e with
    | .Call (.Name n _) (l :: es) [] _ => decide (S.md = .calm) && glB S.sc n && okN n && (match S.tb.fns[f]? with
      | some r => decide (r.nm = n) && !r.hot && !r.br && r.own.isNone && decide (alen as = r.ps)
      | none => false) && (l :: es).all plain && chkA S as (l :: es)
    | .Call (.Name n _) [] [] _ => decide (S.md = .calm) && glB S.sc n && okN n && (match S.tb.fns[f]? with
      | some r => decide (r.nm = n) && !r.hot && !r.br && r.own.isNone && decide (0 = r.ps)
      | none => false) && (match as with
      | .nil => true
      | _ => false)
    | _ => false)
  | S, t, .hcall f as, e => leaf t e && (match e with
    | .Call (.Name n _) (l :: es) [] _ => decide (S.md = .calm ∧ S.hol = false) && glB S.sc n && okN n && (match S.tb.fns[f]? with
      | some r => decide (r.nm = n) && !r.hot && !r.br && r.own.isNone && decide (alen as = r.ps)
      | none => false) && (l :: es).all plain && chkA S as (l :: es)
    | _ => false)
  | S, t, .mkx c fs as, e => leaf t e && (match e with
    | .Call (.Name n _) (l :: es) [] _ => decide (n = c) && glB S.sc n && okN n && (l :: es).all plain && (match fs with
      | [] => (match as, es with
        | .cons a .nil, [] => chkE S false a l && decide (n ∈ S.tb.excs)
        | _, _ => false)
      | f :: fs => decide (S.md = .calm) && S.tb.xns.any (fun x => decide (x.nm = n) && decide (x.fs = f :: fs)) && chkA S as (l :: es))
    | _ => false)
  | S, t, .scall f as, e => leaf t e && (match e with
    | .Call (.Name n _) (l :: es) [] _ => decide (S.md = .calm) && glB S.sc n && okN n && (match S.tb.fns[f]? with
      | some r => decide (r.nm = n) && !r.hot && !r.br && r.own.isNone && decide (alen as = r.ps)
      | none => false) && (l :: es).all plain && chkA S as (l :: es)
    | _ => false)
  | S, t, .lset a, e => leaf t e && (match e with
    | .Call (.Name n _) [.Call (.Name n2 _) [l] [] _] [] _ => decide (n = "len") && decide (n2 = "set") && biB S n && glB S.sc n2 && decide (n2 ∈ S.tb.free) && decide (S.md = .calm) && plain l && chkE S false a l
    | _ => false)
  | S, t, .callx f, e => leaf t e && (match e with
    | .Call (.Name n _) [.Name xn _] [] _ => decide (S.md = .hot) && glB S.sc n && okN n && (match S.tb.fns[f]? with
      | some r => decide (r.nm = n) && r.hot && r.own.isNone && decide (r.ps = 1)
      | none => false) && (match S.xi with
      | some xi => nmB S xi xn
      | none => false)
    | _ => false)
  | S, t, .mth m o as, e => leaf t e && (match e with
    | .Call (.Attribute l f ap) es [] ps => noSup l && oneLine ap ps && chkE S false o l && (match m, as, es with
      | .split, .cons b .nil, [r] => decide (f = "split") && plain r && chkE S false b r && !mu b
      | .find, .cons b .nil, [r] => decide (f = "find") && plain r && chkE S false b r && !mu b
      | .zfill, .cons b .nil, [r] => decide (f = "zfill") && plain r && chkE S false b r && !mu b
      | .join, .cons b .nil, [r] => decide (f = "join") && plain r && chkE S false b r && !mu b
      | .isdigit, .nil, [] => decide (f = "isdigit")
      | .upper, .nil, [] => decide (f = "upper")
      | _, _, _ => false)
    | _ => false)
  | S, t, .lc elt vs tg it cond, e => leaf t e && (match e with
    | .ListComp e2 [⟨g, iter, ifs, k⟩] scope _ => decide (k = 0) && decide (S.md = .calm) && chkI S g it iter && blkC S.N S.sc scope (ownOf S.N vs) && plain iter && tgB (S.blk scope) tg g &&
      (match cond, ifs with
      | .skip, [] => true
      | .cons c .nil, [z] => chkE (S.blk scope) true c z
      | _, _ => false) && chkE (S.blk scope) false elt e2 && !mu cond && !mu elt && (tgs tg).all (fun i => decide (i ∈ vs)) && vs.all (fun i => decide (i ∉ S.fz))
    | _ => false)
  | S, t, .app i a, e => leaf t e && (match e with
    | .Call (.Attribute (.Name n _) f ap) [r] [] ps => decide (f = "append") && nmB S i n && oneLine ap ps && plain r && chkE S false a r
    | _ => false)
  | S, t, .clear i, e => leaf t e && (match e with
    | .Call (.Attribute (.Name n _) f ap) [] [] ps => decide (f = "clear") && nmB S i n && oneLine ap ps
    | _ => false)
  | S, t, .popat i a, e => leaf t e && (match e with
    | .Call (.Attribute (.Name n _) f ap) [r] [] ps => decide (f = "pop") && nmB S i n && oneLine ap ps && plain r && chkE S false a r
    | _ => false)
  | S, t, .dnew, e => leaf t e && (match e with
    | .Dict [] [] _ => true
    | _ => false)
  | S, t, .dnewT, e => leaf t e && (match e with
    | .Dict [] [] _ => true
    | _ => false)
  | S, t, .fld a f, e => leaf t e && (match e with
    | .Attribute l g _ => decide (g = f) && noSup l && chkE S false a l
    | _ => false)
  | S, t, .mk c as, e => leaf t e && (match e with
    | .Call (.Name n _) es [] _ => decide (S.md = .calm ∧ S.hol = false) && glB S.sc n && okN n && (match S.tb.cls[c]? with
      | some cr => decide (cr.nm = n) && (match cr.init with
        | some f => (match S.tb.fns[f]? with
          | some r => !r.hot && r.br
          | none => false)
        | none => es.isEmpty)
      | none => false) && es.all plain && chkA S as es
    | _ => false)
  | S, t, .mcall m o as, e => leaf t e && (match e with
    | .Call (.Attribute l f ap) es [] ps => decide (S.md = .calm) && decide (f = m) && noSup l && oneLine ap ps && mthB S false m && chkE S false o l && !mu as && decide (es.length < 29) && es.all plain && chkA S as es
    | _ => false)
  | S, t, .bcall f pl as, e => leaf t e && (match e with
    | .Call (.Name n _) (l :: es) [] _ => decide (S.md = .calm ∧ S.hol = false) && glB S.sc n && okN n && (match S.tb.fns[f]? with
      | some r => decide (r.nm = n) && !r.hot && r.br && r.own.isNone
      | none => false) && (l :: es).all plain && chkPl S pl l && !mu pl && !mu as && chkA S as es
    | _ => false)
  | S, t, .bmeth m pl as, e => leaf t e && (match e with
    | .Call (.Attribute l f ap) es [] ps => decide (S.md = .calm ∧ S.hol = false) && decide (f = m) && noSup l && oneLine ap ps && mthB S true m && chkPl S pl l && !mu pl && !mu as && decide (es.length < 29) && es.all plain && chkA S as es
    | _ => false)
  | S, t, .mop o pl as, e => leaf t e && (match e with
    | .Call (.Attribute l f ap) es [] ps => noSup l && oneLine ap ps && es.all plain && chkPl S pl l && !mu pl && !mu as && chkA S as es && (match o, es with
      | .app, [_] => decide (f = "append")
      | .ins, [_, _] => decide (f = "insert")
      | _, _ => false)
    | _ => false)
  | S, t, .dget a b o, e => leaf t e && (match e with
    | .Call (.Attribute l f ap) es [] ps => decide (f = "get") && noSup l && oneLine ap ps && chkE S false a l && !mu b && (match o, es with
      | .nil, [r] => plain r && chkE S false b r
      | .cons o2 .nil, [r, r2] => plain r && plain r2 && chkE S false b r && chkE S false o2 r2 && !mu o2
      | _, _ => false)
    | _ => false)
  | S, t, .mv pl, e => leaf t e && chkPl S pl e
  | S, t, .fzat pl, e => leaf t e && chkPl S pl e
  | S, t, .dupd pl a, e => leaf t e && (match e with
    | .Call (.Attribute l f ap) [r] [] ps => noSup l && oneLine ap ps && plain r && chkPl S pl l && !mu pl && !mu a && chkE S false a r && decide (f = "update")
    | _ => false)
  | S, t, .mpop pl a, e => leaf t e && (match e with
    | .Call (.Attribute l f ap) [r] [] ps => noSup l && oneLine ap ps && plain r && chkPl S pl l && !mu pl && !mu a && chkE S false a r && decide (f = "pop")
    | _ => false)
  | _, _, _, _ => false
/-- a place -/
def chkPl : Sta → C → Expr → Bool
  | S, .get i, e => (match e with
    | .Name n _ => nmB S i n
    | _ => false)
  | S, .fld a f, e => (match e with
    | .Attribute l g _ => decide (g = f) && noSup l && chkPl S a l
    | _ => false)
  | S, .idx a b, e => (match e with
    | .Subscript l r _ => chkPl S a l && chkE S false b r && !mu b && !mu a && plain r
    | _ => false)
  | _, _, _ => false
def chkA : Sta → C → List Expr → Bool
  | S, .nil, es => es.isEmpty
  | S, .cons a as, es => (match es with
    | l :: r => plain l && chkE S false a l && chkA S as r && !mu as
    | [] => false)
  | _, _, _ => false
def chkP : Sta → C → Option Expr → Bool
  | S, .nil, o => o.isNone
  | S, .cons a .nil, o => (match o with
    | some l => chkE S false a l
    | none => false)
  | _, _, _ => false
def chkI : Sta → Expr → C → Expr → Bool
  | S, tg, .rng1 a, e => (match e with
    | .Call (.Name n _) [l] [] _ => decide (n = "range") && biB S n && plain l && chkE S false a l
    | _ => false)
  | S, tg, .rng2 a b, e => (match e with
    | .Call (.Name n _) [l, r] [] _ => decide (n = "range") && biB S n && plain l && plain r && chkE S false a l && chkE S false b r && !mu b
    | _ => false)
  | S, tg, .zip a b, e => isTup tg && (match e with
    | .Call (.Name n _) [l, r] [] _ => decide (n = "zip") && biB S n && plain l && plain r && chkE S false a l && chkE S false b r && !mu b
    | _ => false)
  | S, tg, .enum a, e => isTup tg && (match e with
    | .Call (.Name n _) [l] [] _ => decide (n = "enumerate") && biB S n && plain l && chkE S false a l
    | _ => false)
  | S, tg, .revw a, e => (match e with
    | .Call (.Name n _) [l] [] _ => decide (n = "reversed") && biB S n && plain l && chkE S false a l
    | _ => false)
  | S, tg, .cons a .nil, e => chkE S false a e
  | _, _, _, _ => false
end
end VI
set_option maxRecDepth 100000
set_option maxHeartbeats 4000000
/-! VI: what the check is worth: expressions. -/
namespace VI
open PySem PySem.Spec PyProof.Rows L2 RZ

/-- what stands behind the top, by names -/
def atOf (r : FnRow) : Str × Option Str := match r.own with
  | none => (r.nm, none)
  | some c => (c, some r.nm)
structure Fx (tb : Tb) (K : PySem.W.Frag) (mg : Str → Option Value) (ca fa : Nat → Addr) : Prop where
  free : ∀ x ∈ tb.free, mg x = none
  fn : ∀ (f : Nat) (r : FnRow), tb.fns[f]? = some r → r.own = none → mg r.nm = some (.ref (fa f)) ∧ PySem.W.keepIn K (.ref (fa f)) = true
  exc : ∀ (c : Nat) (nm : Str), tb.excs[c]? = some nm → ExcF K mg (ca c) nm
  glo : ∀ (g : Nat) (r : Str × D), tb.glos[g]? = some r → ∃ u v, mg r.1 = some u ∧ RelV v u ∧ ∀ Er F H, Rep K Er F H v r.2 []
  exw : Exw K tb.sub ca tb.excs.length tb.names.length
  tyg : ∀ (j : Nat) (nm : Str), tb.names[j]? = some nm → mg nm = some (.ref (ca j))
  tyw : ∀ t ∈ tb.ctys, TyW K ca t
  cls : ClsOk K tb.cls
  meths : ∀ c m f, mtOf tb.cls c m = some f → Cls K (He.ga K c) ∧ Meth K (He.ga K c) m (fa f)
  caN : ∀ (c : Nat) (nm : Str), tb.excs[c]? = some nm → ca c = He.ga K nm
  xns : ∀ x ∈ tb.xns, ∃ fI fd ps, XiR K mg x.nm x.fs fI fd ps
  mkr : ∀ (c : Nat) (r : ClsR), tb.cls[c]? = some r → mg r.nm = some (.ref (He.ga K r.nm)) ∧ (∀ f, r.init = some f → Mk K (He.ga K r.nm) (fa f)) ∧ (r.init = none → Mk0 K (He.ga K r.nm))
theorem spI_er {K : PySem.W.Frag} {Er : EE} {ca : Nat → Addr} {n m : Nat} {cr : List D → CR} : spI K Er ca n m cr = spI K Er0 ca n m cr := rfl
theorem spB_er {K : PySem.W.Frag} {Er : EE} (hh : ∀ i, Er.h i = none) {ca : Nat → Addr} {n m : Nat} {cr : List D → BR} : spB K Er ca n m cr = spB K Er0 ca n m cr := by
  have one : ∀ {A B : EE} {vs H Q E}, (∀ i v, A.h i = some v → B.h i = some v) → (∀ i v, B.h i = some v → A.h i = some v) → spB K A ca n m cr vs H Q E → spB K B ca n m cr vs H Q E := fun {A B vs H Q E} ab ba h => by
    obtain ⟨F, d0, ds, v0, vs', L, h0, hl, fa, r0, nd, nf, r, h⟩ := h
    refine ⟨F, d0, ds, v0, vs', L, h0, hl, fa, r0.er ab, nd, nf, r.er ab, ?_⟩
    cases hc : cr (d0 :: ds) with
    | ok r d =>
      rw [hc] at h
      exact fun v F' H' Lr L0 a b c d' e R R0 f g => h v F' H' Lr L0 a b c d' e (R.er ba) (R0.er ba) f g
    | ex c hh d =>
      rw [hc] at h
      exact fun F' H' L0 z a b c d' e R0 f g => h F' H' L0 z a b c d' e (R0.er ba) f g
    | stuck =>
      rw [hc] at h
      exact h
  funext vs H Q E
  exact propext ⟨one (fun i v z => by rw [hh] at z; cases z) er0, one er0 fun i v z => by rw [hh] at z; cases z⟩
def CallsOk (tb : Tb) (ca fa : Nat → Addr) (k : Nat) (X : Cx) (P : Par) : Prop := ∀ f r, tb.fns[f]? = some r → r.hot = false → r.br = false →
  ∃ fd pn, FnOk X.prog X.w X.K X.mg X.base (cxb r.late X.prog X.w) k (fa f) fd pn (spI X.K Er0 ca tb.excs.length pn.length (P.cl f)) ∧ Binds X.K fd pn [] ∧ pn.length = r.ps ∧ (∀ ds c h, P.cl f ds = .ex c h → h = r.late) ∧ ∀ ds, P.cl f ds ≠ .stuck → ds.length = pn.length
def BrsOk (tb : Tb) (ca fa : Nat → Addr) (k : Nat) (X : Cx) (P : Par) : Prop := ∀ f r, tb.fns[f]? = some r → r.hot = false → r.br = true →
  ∃ fd pn, FnOk X.prog X.w X.K X.mg X.base (cxb r.late X.prog X.w) k (fa f) fd pn (spB X.K Er0 ca tb.excs.length pn.length (P.bc f)) ∧ Binds X.K fd pn [] ∧ (∀ c h ds d, P.bc f ds = .ex c h d → h = r.late) ∧ ∀ ds, P.bc f ds ≠ .stuck → ds.length = pn.length
def HotsOk (tb : Tb) (ca fa : Nat → Addr) (k : Nat) (X : Cx) (P : Par) : Prop := ∀ f r, tb.fns[f]? = some r → r.hot = true →
  ∃ fd pn, HotFn X.prog X.w X.K X.mg X.base k (fa f) fd pn (spX X.K ca tb.excs.length (P.ch f)) ∧ Binds X.K fd pn [] ∧ pn.length = r.ps
structure EC (S : Sta) (ca fa : Nat → Addr) (k : Nat) (X : Cx) (Er : EE) (Wf : Bool → Nat → L2.St → Hp → Prop) (P : Par) : Prop where
  hN : X.N = S.N
  nd : S.N.Nodup
  sc : X.env.scope = S.sc
  hu : X.A.units + 64 < cLine
  fx : Fx S.tb X.K X.mg ca fa
  sub : P.sub = S.tb.sub
  glo : P.glo = fun g => (S.tb.glos[g]?).map (·.2)
  tkN : S.md ≠ .hotr → L2N.Takes X (WW ca S.tb.excs.length Wf false)
  tkL : L2.Takes X (WW ca S.tb.excs.length Wf true)
  calm : S.md = .calm → X.calm = true ∧ Room (k + 1) X.A ∧ BrsOk S.tb ca fa k X P ∧ P.cur = none ∧ CallsOk S.tb ca fa k X P
  hots : HotsOk S.tb ca fa k X P
  rmH : S.md = .hot → L2H.RoomH k X.A ∧ L2H.HotC X
  cur : ∀ xc, P.cur = some xc → S.xi = some xc.1 ∧ xc.2 < S.tb.excs.length ∧ ∃ pp : Addr × Obj, pp ∈ X.pn ∧ Er xc.1 = some (.ref pp.1) ∧ Zc (.ref (ca xc.2)) none pp.2 ∧ (∃ vs, pp.2.data = .fields vs) ∧ (S.md = .hot → L2H.Hot1 X.A pp)
  er : ∀ i, i ∉ S.fz → Er i = none
  cls : P.cls = S.tb.cls
  fnok : S.co = true → ∀ x, X.fn x = true
  hh : S.hol = false → ∀ i, Er.h i = none
  mk1 : S.md = .calm → 1 ≤ k
section
variable {S : Sta} {ca fa : Nat → Addr} {k : Nat} {X : Cx} {Er : EE} {Wf : Bool → Nat → L2.St → Hp → Prop} {P : Par} {n : Str} {e l r : Expr} {pos : Pos} {i : Nat}
theorem okN_d (h : okN n = true) : (n == ("__debug__" : Str)) = false ∧ (n == ("__classdict__" : Str)) = false := by
  unfold okN at h
  rw [Bool.and_eq_true, Bool.not_eq_true', Bool.not_eq_true'] at h
  exact h
theorem EC.vis (C : EC S ca fa k X Er Wf P) (h : visB S.sc n = true) : Vis X.env.scope n := by
  unfold visB at h
  rw [C.sc]
  split at h <;> first | exact .inl (by assumption) | exact .inr (.inl (by assumption)) | exact .inr (.inr (by assumption)) | cases h
theorem EC.loc (C : EC S ca fa k X Er Wf P) (h : locB S n = true) : Loc X.env.scope n ∧ (X.fn n = true ∨ X.env.scope.names.lookup n = some .local) := by
  unfold locB at h
  rw [C.sc]
  split at h
  · exact ⟨.inl (by assumption), .inr (by assumption)⟩
  · exact ⟨.inr (by assumption), .inl (C.fnok h _)⟩
  · cases h
theorem EC.gl (C : EC S ca fa k X Er Wf P) (h : glB S.sc n = true) : Gl X n := by
  show X.env.scope.names.lookup n = some .globalImplicit
  unfold glB at h
  rw [C.sc]
  split at h
  · assumption
  · cases h
theorem EC.nm (C : EC S ca fa k X Er Wf P) (h : nmB S i n = true) : X.N[i]? = some n ∧ Vis X.env.scope n ∧ (n == ("__debug__" : Str)) = false ∧ (n == ("__classdict__" : Str)) = false := by
  unfold nmB at h
  simp only [Bool.and_eq_true, decide_eq_true_eq] at h
  obtain ⟨⟨h1, h2⟩, h3⟩ := h
  exact ⟨by rw [C.hN]; exact h1, C.vis h3, okN_d h2⟩
theorem EC.bi (C : EC S ca fa k X Er Wf P) (h : biB S n = true) : Gl X n ∧ X.mg n = none ∧ (n == ("__debug__" : Str)) = false := by
  unfold biB at h
  simp only [Bool.and_eq_true, decide_eq_true_eq] at h
  obtain ⟨⟨h1, h2⟩, h3⟩ := h
  exact ⟨C.gl h1, C.fx.free _ h3, (okN_d h2).1⟩
/-- a comprehension's block -/
theorem EC.blk (C : EC S ca fa k X Er Wf P) (hm : S.md = .calm) (s : Shared) (H : Hp) (scope : Scope) (A : Addr) (cl : List (Str × Addr)) (fp : List Addr) : EC (S.blk scope) ca fa k (X.blk s H scope (compEnvC scope cl A X.env) fp) Er Wf0 P where
  hN := C.hN
  nd := C.nd
  sc := by rw [← show relabel scope X.env = (S.blk scope).sc by unfold Sta.blk relB' relabel; rw [← C.sc]; rfl]; rfl
  hu := C.hu
  fx := C.fx
  sub := C.sub
  glo := C.glo
  tkN := fun _ => takes_down (takes_false fun _ _ _ _ ⟨_, _, _, _, z⟩ => z)
  tkL := takes_false fun _ _ _ _ ⟨_, _, _, _, z⟩ => z
  calm := C.calm
  hots := C.hots
  rmH := fun z => by rw [show (S.blk scope).md = S.md from rfl, hm] at z; cases z
  cur := fun xc z => by
    rw [(C.calm hm).2.2.2.1] at z
    cases z
  er := C.er
  cls := C.cls
  fnok := fun z => Bool.noConfusion z
  hh := C.hh
  mk1 := C.mk1
theorem tyw_base {K : PySem.W.Frag} {ca : Nat → Addr} {t : Ty} (h : ∀ j ys ns, t ≠ .cls j ys ns) (h2 : ∀ j ys ns, t ≠ .xcl j ys ns) : TyW K ca t :=
  ⟨fun j ys ns e => absurd e (h j ys ns), fun j ys ns e => absurd e (h j ys ns), fun j ys ns e => absurd e (h j ys ns), fun j ys ns e => absurd e (h2 j ys ns), fun j ys ns e => absurd e (h2 j ys ns)⟩
theorem ty_ok (C : EC S ca fa k X Er Wf P) {t : Ty} (h : tyB S t e = true) : PE X e (tC (tyV' ca t)) ∧ (∀ j, t = .exc j → j < S.tb.names.length) ∧ TyW X.K ca t := by
  unfold tyB at h
  split at h
  · rename_i n ps
    simp only [Bool.and_eq_true] at h
    obtain ⟨⟨h1, h2⟩, h3⟩ := h
    have bt : ∀ s : String, bootBuiltins (s : Str) = some (.type s) → (s : Str) ≠ "__name__" → n = (s : Str) → n ∈ S.tb.free → PE X (.Name n ps) (tC (.ty s)) := fun s hb hn e1 e2 => by
      subst e1
      exact N_one (C.gl h1) (okN_d h2).1 rfl (.inr ⟨C.fx.free _ e2, hb, hn⟩)
    cases t with
    | exc j =>
      have h3' : S.tb.names[j]? = some n := of_decide_eq_true h3
      refine ⟨N_one (C.gl h1) (okN_d h2).1 rfl (.inl (C.fx.tyg j n h3')), fun j' q => ?_, tyw_base (fun j ys ns q => nomatch q) fun j ys ns q => nomatch q⟩
      cases q
      exact (List.getElem?_eq_some_iff.mp h3').1
    | cls j ys ns =>
      simp only [Bool.and_eq_true, decide_eq_true_eq] at h3
      exact ⟨N_one (C.gl h1) (okN_d h2).1 rfl (.inl (C.fx.tyg j n h3.1)), (fun j' q => nomatch q), C.fx.tyw _ h3.2⟩
    | xcl j ys ns =>
      simp only [Bool.and_eq_true, decide_eq_true_eq] at h3
      exact ⟨N_one (C.gl h1) (okN_d h2).1 rfl (.inl (C.fx.tyg j n h3.1)), (fun j' q => nomatch q), C.fx.tyw _ h3.2⟩
    | int =>
      simp only [Bool.and_eq_true, decide_eq_true_eq] at h3
      exact ⟨bt "int" (by decide +kernel) (by decide) h3.1 h3.2, (fun j q => nomatch q), tyw_base (fun j ys ns q => nomatch q) fun j ys ns q => nomatch q⟩
    | str =>
      simp only [Bool.and_eq_true, decide_eq_true_eq] at h3
      exact ⟨bt "str" (by decide +kernel) (by decide) h3.1 h3.2, (fun j q => nomatch q), tyw_base (fun j ys ns q => nomatch q) fun j ys ns q => nomatch q⟩
    | bool =>
      simp only [Bool.and_eq_true, decide_eq_true_eq] at h3
      exact ⟨bt "bool" (by decide +kernel) (by decide) h3.1 h3.2, (fun j q => nomatch q), tyw_base (fun j ys ns q => nomatch q) fun j ys ns q => nomatch q⟩
    | list =>
      simp only [Bool.and_eq_true, decide_eq_true_eq] at h3
      exact ⟨bt "list" (by decide +kernel) (by decide) h3.1 h3.2, (fun j q => nomatch q), tyw_base (fun j ys ns q => nomatch q) fun j ys ns q => nomatch q⟩
    | tuple =>
      simp only [Bool.and_eq_true, decide_eq_true_eq] at h3
      exact ⟨bt "tuple" (by decide +kernel) (by decide) h3.1 h3.2, (fun j q => nomatch q), tyw_base (fun j ys ns q => nomatch q) fun j ys ns q => nomatch q⟩
    | dict =>
      simp only [Bool.and_eq_true, decide_eq_true_eq] at h3
      exact ⟨bt "dict" (by decide +kernel) (by decide) h3.1 h3.2, (fun j q => nomatch q), tyw_base (fun j ys ns q => nomatch q) fun j ys ns q => nomatch q⟩
    | verr =>
      simp only [Bool.and_eq_true, decide_eq_true_eq] at h3
      exact ⟨bt "ValueError" (by decide +kernel) (by decide) h3.1 h3.2, (fun j q => nomatch q), tyw_base (fun j ys ns q => nomatch q) fun j ys ns q => nomatch q⟩
  · cases h
theorem ty_plain {t : Ty} (h : tyB S t e = true) : plain e = true := by
  unfold tyB at h
  split at h
  · rfl
  · cases h
theorem tys_ok (C : EC S ca fa k X Er Wf P) : ∀ {ts : List Ty} {es : List Expr}, tysB S ts es = true → PA X es (fun σ H Q => Q (ts.map (tyV' ca)) H) ∧ (∀ j, .exc j ∈ ts → j < S.tb.names.length) ∧ ∀ t ∈ ts, TyW X.K ca t
  | [], [], _ => ⟨pa_nil, (fun j q => nomatch q), fun t q => nomatch q⟩
  | [], _ :: _, h => by simp [tysB] at h
  | _ :: _, [], h => by simp [tysB] at h
  | t :: ts, e :: es, h => by
    simp only [tysB, Bool.and_eq_true] at h
    obtain ⟨a1, a2, a3⟩ := ty_ok C h.1
    obtain ⟨b1, b2, b3⟩ := tys_ok C h.2
    refine ⟨(pa_cons a1 b1 (star_plain (ty_plain h.1) _)).imp fun σ H Q q => q, fun j q => ?_, fun t' q => ?_⟩
    · rcases List.mem_cons.mp q with q | q
      · exact a2 j q.symm
      · exact b2 j q
    · rcases List.mem_cons.mp q with q | q
      · rw [q]; exact a3
      · exact b3 t' q
theorem tg_ok (C : EC S ca fa k X Er Wf P) {tg : Tg} (h : tgB S tg e = true) : PG X e (gT X.K tg) ∧ (∀ i ∈ tgs tg, Er i = none) ∧ isTgt e = true ∧ ∀ i, tg = .one i → isName e = true := by
  unfold tgB at h
  split at h
  · rename_i i n ps
    simp only [Bool.and_eq_true, decide_eq_true_eq] at h
    obtain ⟨⟨h1, h2⟩, h3⟩ := h
    obtain ⟨l1, l2⟩ := C.loc h2
    exact ⟨pg_name (by rw [C.hN]; exact C.nd) (by rw [C.hN]; exact h1) l1 l2, fun j hj => by
      obtain rfl : j = i := by simpa [tgs] using hj
      exact C.er _ h3, rfl, fun _ _ => rfl⟩
  · rename_i is es kk ps
    simp only [Bool.and_eq_true, decide_eq_true_eq] at h
    obtain ⟨hm, h⟩ := h
    have main : ∀ {is : List Nat} {es : List Expr}, tgB.go S is es = true → PGs X es (gNs is) ∧ (∀ i ∈ is, Er i = none) ∧ (assignEach es X.env).length = is.length ∧ (assignEach es X.env).findIdx? (·.1) = none := by
      intro is
      induction is with
      | nil =>
        intro es h
        cases es with
        | nil => exact ⟨pgs_nil, (fun i z => nomatch z), rfl, rfl⟩
        | cons _ _ => simp [tgB.go] at h
      | cons i is ih =>
        intro es h
        cases es with
        | nil => simp [tgB.go] at h
        | cons e es =>
          cases e <;> (first | (simp [tgB.go] at h; done) | skip)
          rename_i n ps
          simp only [tgB.go, Bool.and_eq_true, decide_eq_true_eq] at h
          obtain ⟨⟨⟨h1, h2⟩, h3⟩, h4⟩ := h
          obtain ⟨l1, l2⟩ := C.loc h2
          obtain ⟨i1, i2, i3, i4⟩ := ih h4
          refine ⟨pgs_cons (pg_name (by rw [C.hN]; exact C.nd) (by rw [C.hN]; exact h1) l1 l2) i1, fun j z => ?_, ?_, ?_⟩
          · rcases List.mem_cons.mp z with z | z
            · rw [z]; exact C.er _ h3
            · exact i2 j z
          · show (_ :: assignEach es X.env).length = _
            rw [List.length_cons, List.length_cons, i3]
          · show List.findIdx? (·.1) ((false, _) :: assignEach es X.env) = none
            rw [List.findIdx?_cons]
            simp only [Bool.false_eq_true, if_false]
            rw [i4]; rfl
    obtain ⟨m1, m2, m3, m4⟩ := main h
    exact ⟨pg_tup (C.calm hm).1 m1 m3 m4, m2, rfl, fun i z => nomatch z⟩
  · cases h

/-- what is shown of an expression -/
structure Good (X : Cx) (Er : EE) (Wf : Bool → Nat → L2.St → Hp → Prop) (P : Par) (t : Bool) (c : C) (e : Expr) : Prop where
  pe : t = false → ∀ p, PE X e (tE X.K Er Wf P c p)
  pt : t = true → PT X e (tT X.K Er Wf P (.cons c .nil))
  pw : t = true → ∀ op vs ps, e = .BoolOp op vs ps → PW X e (tT X.K Er Wf P (.cons c .nil))
theorem good_leaf {t : Bool} {c : C} (h : leaf t e = true) (g : ∀ p, PE X e (tE X.K Er Wf P c p)) : Good X Er Wf P t c e := by
  refine ⟨fun _ => g, fun z => ?_, fun z op vs ps he => ?_⟩
  · subst z
    simp only [leaf, Bool.not_true, Bool.false_or, Bool.and_eq_true] at h
    exact T_val h.1.1 h.1.2 h.2 (g true)
  · subst z he
    simp [leaf, plain, valued] at h
theorem good_of {t : Bool} {c : C} (g : ∀ p, PE X e (tE X.K Er Wf P c p)) (g' : PT X e (tT X.K Er Wf P (.cons c .nil))) (ne : ∀ op vs ps, e ≠ .BoolOp op vs ps) : Good X Er Wf P t c e := ⟨fun _ => g, fun _ => g', fun _ op vs ps he => absurd he (ne op vs ps)⟩
theorem lm_plain {o o' : CmpOp} {r z : Expr} (h : plain z = true) : lastMarks [o, o'] [r, z] = false := marks_plain h o'
theorem room_u (C : EC S ca fa k X Er Wf P) : X.A.units + 64 < cLine := C.hu
theorem isx_cur (C : EC S ca fa k X Er Wf P) : CurOk X Er ca S.tb.excs.length P.cur := fun xc h => by
  obtain ⟨_, h2, pp, h3, h4, h5, h6, _⟩ := C.cur xc h
  exact ⟨h2, pp.1, pp.2, h4, h3, h5, h6⟩
end
end VI
set_option maxRecDepth 100000
set_option maxHeartbeats 8000000
/-! VI: what the check is worth: expressions, the induction. -/
namespace VI
open PySem PySem.Spec PyProof.Rows L2 RZ
variable {ca fa : Nat → Addr} {k : Nat}
theorem cur_of {S : Sta} {X : Cx} {Er : EE} {Wf : Bool → Nat → L2.St → Hp → Prop} {P : Par} {xi : Nat} (C : EC S ca fa k X Er Wf P) (h : S.xi = some xi) : ∀ xc, P.cur = some xc → xc.1 = xi := fun xc z => by
  have := (C.cur xc z).1
  rw [h] at this
  exact (Option.some.inj this).symm
theorem tk_at {S : Sta} {X : Cx} {Er : EE} {Wf : Bool → Nat → L2.St → Hp → Prop} {P : Par} (C : EC S ca fa k X Er Wf P) (hm : S.md = .calm) (late : Bool) (σ : L2.St) : PassesAt (cxb late X.prog X.w) X σ (fun cls d H => WW ca S.tb.excs.length Wf late cls d σ H) := by
  cases late with
  | false => exact L2N.passAt (C.tkN (by rw [hm]; decide)) σ
  | true => exact L2.passAt C.tkL σ
theorem lookup_mem {β : Type} {m : Str} {g : β} : ∀ {ps : List (Str × β)}, ps.lookup m = some g → (m, g) ∈ ps
  | [], h => by cases h
  | (a, b) :: r, h => by
    rw [List.lookup_cons] at h
    split at h
    · rename_i z
      cases h
      rw [beq_iff_eq.mp z]
      exact List.mem_cons_self
    · exact List.mem_cons_of_mem _ (lookup_mem h)
theorem own_snd {N : List Str} {vs : List Nat} : (ownOf N vs).map (·.2) = vs := by
  unfold ownOf
  rw [List.map_map]
  exact List.map_id' vs
theorem root_none {o : Option Nat} (h : o.isNone = true) : o = none := by
  cases o with
  | none => rfl
  | some _ => cases h
theorem root_none' {o : Option Expr} (h : o.isNone = true) : o = none := by
  cases o with
  | none => rfl
  | some _ => cases h
theorem chkA_nil {S : Sta} {c : C} (h : chkA S c [] = true) : c = .nil := by
  cases c with
  | nil => rfl
  | _ => simp [chkA] at h
theorem mthB_ok {S : Sta} {br : Bool} {m c : Str} {g : Nat} (h : mthB S br m = true) (hg : mtOf S.tb.cls c m = some g) : ∃ r, S.tb.fns[g]? = some r ∧ r.hot = false ∧ r.br = br := by
  unfold mtOf at hg
  obtain ⟨r, h1, h2⟩ := Option.bind_eq_some_iff.mp hg
  unfold mthB at h
  rw [List.all_eq_true] at h
  have h3 := h r (List.mem_of_find?_eq_some h1)
  rw [List.all_eq_true] at h3
  have h4 := h3 (m, g) (lookup_mem h2)
  simp only [decide_true, Bool.not_true, Bool.false_or] at h4
  cases hf : S.tb.fns[g]? with
  | none => rw [hf] at h4; cases h4
  | some r =>
    rw [hf] at h4
    simp only [Bool.and_eq_true, Bool.not_eq_true', beq_iff_eq] at h4
    exact ⟨r, rfl, h4.1, h4.2⟩
theorem call_of {S : Sta} {X : Cx} {Er : EE} {Wf : Bool → Nat → L2.St → Hp → Prop} {P : Par} {f : Nat} {r : FnRow} (C : EC S ca fa k X Er Wf P) (h1 : S.md = .calm) (hf : S.tb.fns[f]? = some r) (e1 : r.hot = false) (e2 : r.br = false) : CallI X Er Wf P ca S.tb.excs.length k f (fa f) := by
  obtain ⟨_, _, _, _, c5⟩ := C.calm h1
  obtain ⟨fd, pn, FO, hb, hl, hx, hn⟩ := c5 f r hf e1 e2
  rw [← spI_er (Er := Er)] at FO
  exact ⟨fd, pn, r.late, FO, hb, hx, hn, tk_at C h1 r.late⟩
theorem br_of {S : Sta} {X : Cx} {Er : EE} {Wf : Bool → Nat → L2.St → Hp → Prop} {P : Par} {f : Nat} {r : FnRow} (C : EC S ca fa k X Er Wf P) (hb0 : S.hol = false) (h1 : S.md = .calm) (hf : S.tb.fns[f]? = some r) (e1 : r.hot = false) (e2 : r.br = true) : CallBr X Er Wf P ca S.tb.excs.length k f (fa f) := by
  obtain ⟨_, _, c3, _, _⟩ := C.calm h1
  obtain ⟨fd, pn, FO, hb, hx, hn⟩ := c3 f r hf e1 e2
  rw [← spB_er (Er := Er) (C.hh hb0)] at FO
  exact ⟨fd, pn, r.late, FO, hb, hx, hn, tk_at C h1 r.late⟩
section
variable (ca fa k)
def StE (c : C) : Prop := ∀ (S : Sta) (t : Bool) (e : Expr) (X : Cx) (Er : EE) (Wf : Bool → Nat → L2.St → Hp → Prop) (P : Par), EC S ca fa k X Er Wf P → chkE S t c e = true → Good X Er Wf P t c e
def StA (c : C) : Prop := ∀ (S : Sta) (es : List Expr) (X : Cx) (Er : EE) (Wf : Bool → Nat → L2.St → Hp → Prop) (P : Par), EC S ca fa k X Er Wf P → chkA S c es = true → ∀ p, PA X es (tAr X.K Er Wf P c p)
def StP (c : C) : Prop := ∀ (S : Sta) (o : Option Expr) (X : Cx) (Er : EE) (Wf : Bool → Nat → L2.St → Hp → Prop) (P : Par), EC S ca fa k X Er Wf P → chkP S c o = true → PO X o (PostP X.K Er Wf P c)
def StPl (c : C) : Prop := ∀ (S : Sta) (e : Expr) (X : Cx) (Er : EE) (Wf : Bool → Nat → L2.St → Hp → Prop) (P : Par), EC S ca fa k X Er Wf P → chkPl S c e = true → PE X e (tPl X.K Er Wf P c)
def StI (c : C) : Prop := ∀ (S : Sta) (tg e : Expr) (X : Cx) (Er : EE) (Wf : Bool → Nat → L2.St → Hp → Prop) (P : Par) (ms : Bool), EC S ca fa k X Er Wf P → chkI S tg c e = true → PI X tg e (tI X.K Er Wf P ms c)
end
section
variable {n : Nat} (E : ∀ c, sizeOf c < n → ∀ {S : Sta} {t : Bool} {e : Expr} {X : Cx} {Er : EE} {Wf : Bool → Nat → L2.St → Hp → Prop} {P : Par}, EC S ca fa k X Er Wf P → chkE S t c e = true → Good X Er Wf P t c e)
include E
theorem stepA (A : ∀ c, sizeOf c < n → ∀ {S : Sta} {es : List Expr} {X : Cx} {Er : EE} {Wf : Bool → Nat → L2.St → Hp → Prop} {P : Par}, EC S ca fa k X Er Wf P → chkA S c es = true → ∀ p, PA X es (tAr X.K Er Wf P c p)) : ∀ c, sizeOf c < n + 1 → StA ca fa k c := by
  intro c hc S es X Er Wf P C h p
  cases c with
  | nil =>
    simp only [chkA] at h
    cases es with
    | nil => exact A_nil
    | cons _ _ => cases h
  | cons a as =>
    simp only [chkA] at h
    split at h
    · simp only [Bool.and_eq_true, Bool.not_eq_true'] at h
      obtain ⟨⟨⟨h1, h2⟩, h3⟩, h4⟩ := h
      exact A_cons h1 ((E a (by simp at hc; omega) C h2).pe rfl p) (A as (by simp at hc; omega) C h3 p) fun _ => h4
    · cases h
  | _ => simp [chkA] at h
theorem stepP : ∀ c, sizeOf c < n + 1 → StP ca fa k c := by
  intro c hc S o X Er Wf P C h
  cases c with
  | nil =>
    simp only [chkP] at h
    obtain rfl := root_none' h
    exact P_nil
  | cons a as =>
    cases as with
    | nil =>
      simp only [chkP] at h
      split at h
      · exact P_one ((E a (by simp at hc; omega) C h).pe rfl true)
      · cases h
    | _ => simp [chkP] at h
  | _ => simp [chkP] at h
theorem stepPl (Pl : ∀ c, sizeOf c < n → ∀ {S : Sta} {e : Expr} {X : Cx} {Er : EE} {Wf : Bool → Nat → L2.St → Hp → Prop} {P : Par}, EC S ca fa k X Er Wf P → chkPl S c e = true → PE X e (tPl X.K Er Wf P c)) : ∀ c, sizeOf c < n + 1 → StPl ca fa k c := by
  intro c hc S e X Er Wf P C h
  cases c with
  | get i =>
    simp only [chkPl] at h
    split at h
    · obtain ⟨h1, h2, h3, h4⟩ := C.nm h
      exact Pl_get h1 h2 h3 h4
    · cases h
  | fld a f =>
    simp only [chkPl] at h
    split at h
    · simp only [Bool.and_eq_true, decide_eq_true_eq] at h
      obtain ⟨⟨rfl, h2⟩, h3⟩ := h
      exact Pl_fld (C.cls ▸ C.fx.cls) h2 (Pl a (by simp at hc; omega) C h3)
    · cases h
  | idx a b =>
    simp only [chkPl] at h
    split at h
    · simp only [Bool.and_eq_true, Bool.not_eq_true'] at h
      obtain ⟨⟨⟨⟨h1, h2⟩, h3⟩, h4⟩, h5⟩ := h
      exact Pl_idx C.hu h5 (Pl a (by simp at hc; omega) C h1) ((E b (by simp at hc; omega) C h2).pe rfl true) h3 h4
    · cases h
  | _ => simp [chkPl] at h
theorem stepI : ∀ c, sizeOf c < n + 1 → StI ca fa k c := by
  intro c hc S tg e X Er Wf P ms C h
  have tup : isTup tg = true → ∃ es kk ps, tg = .Tuple es kk ps := fun z => by
    cases tg <;> first | exact ⟨_, _, _, rfl⟩ | (simp [isTup] at z)
  cases c with
  | rng1 a =>
    simp only [chkI] at h
    split at h
    · simp only [Bool.and_eq_true, decide_eq_true_eq] at h
      obtain ⟨⟨⟨h1, h2⟩, h3⟩, h4⟩ := h
      obtain ⟨b1, b2, _⟩ := C.bi h2
      exact I_rng1 h1 b1 b2 h3 ((E a (by simp at hc; omega) C h4).pe rfl true)
    · cases h
  | rng2 a b =>
    simp only [chkI] at h
    split at h
    · simp only [Bool.and_eq_true, decide_eq_true_eq, Bool.not_eq_true'] at h
      obtain ⟨⟨⟨⟨⟨⟨h1, h2⟩, h3⟩, h4⟩, h5⟩, h6⟩, h7⟩ := h
      obtain ⟨b1, b2, _⟩ := C.bi h2
      exact I_rng2 h1 b1 b2 h3 h4 ((E a (by simp at hc; omega) C h5).pe rfl true) ((E b (by simp at hc; omega) C h6).pe rfl true) h7
    · cases h
  | zip a b =>
    simp only [chkI, Bool.and_eq_true] at h
    obtain ⟨h0, h⟩ := h
    obtain ⟨es, kk, ps, rfl⟩ := tup h0
    split at h
    · simp only [Bool.and_eq_true, decide_eq_true_eq, Bool.not_eq_true'] at h
      obtain ⟨⟨⟨⟨⟨⟨h1, h2⟩, h3⟩, h4⟩, h5⟩, h6⟩, h7⟩ := h
      obtain ⟨b1, b2, _⟩ := C.bi h2
      exact I_zip h1 b1 b2 h3 h4 ((E a (by simp at hc; omega) C h5).pe rfl true) ((E b (by simp at hc; omega) C h6).pe rfl true) h7
    · cases h
  | enum a =>
    simp only [chkI, Bool.and_eq_true] at h
    obtain ⟨h0, h⟩ := h
    obtain ⟨es, kk, ps, rfl⟩ := tup h0
    split at h
    · simp only [Bool.and_eq_true, decide_eq_true_eq] at h
      obtain ⟨⟨⟨h1, h2⟩, h3⟩, h4⟩ := h
      obtain ⟨b1, b2, _⟩ := C.bi h2
      exact I_enum h1 b1 b2 h3 ((E a (by simp at hc; omega) C h4).pe rfl true)
    · cases h
  | revw a =>
    simp only [chkI] at h
    split at h
    · simp only [Bool.and_eq_true, decide_eq_true_eq] at h
      obtain ⟨⟨⟨h1, h2⟩, h3⟩, h4⟩ := h
      obtain ⟨b1, b2, _⟩ := C.bi h2
      exact I_rev h1 b1 b2 h3 ((E a (by simp at hc; omega) C h4).pe rfl true)
    · cases h
  | cons a as =>
    cases as with
    | nil =>
      simp only [chkI] at h
      exact I_walk ((E a (by simp at hc; omega) C h).pe rfl true)
    | _ => simp [chkI] at h
  | _ => simp [chkI] at h
theorem stepE (Pl : ∀ c, sizeOf c < n → ∀ {S : Sta} {e : Expr} {X : Cx} {Er : EE} {Wf : Bool → Nat → L2.St → Hp → Prop} {P : Par}, EC S ca fa k X Er Wf P → chkPl S c e = true → PE X e (tPl X.K Er Wf P c)) (A : ∀ c, sizeOf c < n → ∀ {S : Sta} {es : List Expr} {X : Cx} {Er : EE} {Wf : Bool → Nat → L2.St → Hp → Prop} {P : Par}, EC S ca fa k X Er Wf P → chkA S c es = true → ∀ p, PA X es (tAr X.K Er Wf P c p))
    (Pp : ∀ c, sizeOf c < n → ∀ {S : Sta} {o : Option Expr} {X : Cx} {Er : EE} {Wf : Bool → Nat → L2.St → Hp → Prop} {P : Par}, EC S ca fa k X Er Wf P → chkP S c o = true → PO X o (PostP X.K Er Wf P c))
    (I : ∀ c, sizeOf c < n → ∀ {S : Sta} {tg e : Expr} {X : Cx} {Er : EE} {Wf : Bool → Nat → L2.St → Hp → Prop} {P : Par} {ms : Bool}, EC S ca fa k X Er Wf P → chkI S tg c e = true → PI X tg e (tI X.K Er Wf P ms c)) : ∀ c, sizeOf c < n + 1 → StE ca fa k c := by
  intro c hc
  cases c with
  | non =>
    intro S t e X Er Wf P C h
    simp only [chkE, Bool.and_eq_true] at h
    obtain ⟨h0, h⟩ := h
    split at h
    · exact good_leaf h0 fun p => E_non
    · cases h
  | bl b =>
    intro S t e X Er Wf P C h
    simp only [chkE, Bool.and_eq_true] at h
    obtain ⟨h0, h⟩ := h
    split at h
    · obtain rfl := of_decide_eq_true h
      exact good_leaf h0 fun p => E_bl
    · cases h
  | int i =>
    intro S t e X Er Wf P C h
    simp only [chkE, Bool.and_eq_true] at h
    obtain ⟨h0, h⟩ := h
    split at h
    · obtain rfl := of_decide_eq_true h
      exact good_leaf h0 fun p => E_int
    · cases h
  | str s =>
    intro S t e X Er Wf P C h
    simp only [chkE, Bool.and_eq_true] at h
    obtain ⟨h0, h⟩ := h
    split at h
    · obtain rfl := of_decide_eq_true h
      exact good_leaf h0 fun p => E_str
    · cases h
  | get i =>
    intro S t e X Er Wf P C h
    simp only [chkE, Bool.and_eq_true] at h
    obtain ⟨h0, h⟩ := h
    split at h
    · obtain ⟨h1, h2, h3, h4⟩ := C.nm h
      exact good_leaf h0 fun p => E_get h1 h2 h3 h4
    · cases h
  | glo g =>
    intro S t e X Er Wf P C h
    simp only [chkE, Bool.and_eq_true] at h
    obtain ⟨h0, h⟩ := h
    split at h
    · rename_i n ps
      simp only [Bool.and_eq_true, decide_eq_true_eq] at h
      obtain ⟨⟨h1, h2⟩, h3⟩ := h
      cases hg : S.tb.glos[g]? with
      | none => rw [hg] at h3; cases h3
      | some r =>
        rw [hg] at h3
        have e1 : r.1 = n := by simpa using h3
        obtain ⟨u, v, h4, h5, h6⟩ := C.fx.glo g r hg
        rw [e1] at h4
        exact good_leaf h0 fun p => E_glo (C.gl h1) h4 h5 (okN_d h2).1 (by rw [C.glo]; simp [hg]) fun F H => h6 Er F H
    · cases h
  | bin o a b =>
    intro S t e X Er Wf P C h
    simp only [chkE, Bool.and_eq_true] at h
    obtain ⟨h0, h⟩ := h
    split at h
    · simp only [Bool.and_eq_true, decide_eq_true_eq, Bool.not_eq_true'] at h
      obtain ⟨⟨⟨h1, h2⟩, h3⟩, h4⟩ := h
      subst h1
      exact good_leaf h0 fun p => E_bin ((E a (by simp at hc; omega) C h2).pe rfl true) ((E b (by simp at hc; omega) C h3).pe rfl true) h4
    · cases h
  | neg a =>
    intro S t e X Er Wf P C h
    simp only [chkE, Bool.and_eq_true] at h
    obtain ⟨h0, h⟩ := h
    split at h
    · exact good_leaf h0 fun p => E_neg ((E a (by simp at hc; omega) C h).pe rfl true)
    · cases h
  | cmp o a b =>
    intro S t e X Er Wf P C h
    simp only [chkE] at h
    split at h
    · simp only [Bool.and_eq_true, decide_eq_true_eq, Bool.not_eq_true'] at h
      obtain ⟨⟨⟨⟨h1, h2⟩, h3⟩, h4⟩, h5⟩ := h
      subst h1
      have ha := (E a (by simp at hc; omega) C h2).pe rfl true
      have hb := (E b (by simp at hc; omega) C h3).pe rfl true
      exact good_of (fun p => E_cmp C.hu ha hb h4 h5) (T_cmp C.hu ha hb h4 h5) fun _ _ _ z => nomatch z
    · cases h
  | chain o o' a b c =>
    intro S t e X Er Wf P C h
    simp only [chkE] at h
    split at h
    · simp only [Bool.and_eq_true, decide_eq_true_eq, Bool.not_eq_true'] at h
      obtain ⟨⟨⟨⟨⟨⟨⟨h1, h2⟩, h3⟩, h4⟩, h5⟩, h6⟩, h7⟩, h8⟩ := h
      subst h1 h2
      have ha := (E a (by simp at hc; omega) C h3).pe rfl true
      have hb := (E b (by simp at hc; omega) C h4).pe rfl true
      have hc := (E c (by simp at hc; omega) C h5).pe rfl true
      exact good_of (fun p => E_chain C.hu ha hb hc h6 h7 h8) (T_chain C.hu ha hb hc h6 h7 h8 (lm_plain h8)) fun _ _ _ z => nomatch z
    · cases h
  | nt a =>
    intro S t e X Er Wf P C h
    simp only [chkE] at h
    split at h
    · have ih := E a (by simp at hc; omega) C h
      exact ⟨fun z p => by subst z; exact E_nt (ih.pe rfl true), fun z => by subst z; exact T_nt (ih.pt rfl), fun _ _ _ _ z => nomatch z⟩
    · cases h
  | and a b =>
    intro S t e X Er Wf P C h
    simp only [chkE] at h
    split at h
    · simp only [Bool.and_eq_true] at h
      obtain ⟨h1, h⟩ := h
      have ia := E a (by simp at hc; omega) C h1
      split at h
      · cases h
      · have ib := E b (by simp at hc; omega) C h
        exact ⟨fun z p => by subst z; exact E_and (ia.pe rfl true) (pe_one (ib.pe rfl true)), fun z => by subst z; exact (T_and (ia.pt rfl) (pw_and1 (ib.pt rfl))).pt, fun z _ _ _ _ => by subst z; exact T_and (ia.pt rfl) (pw_and1 (ib.pt rfl))⟩
      · have ib := E b (by simp at hc; omega) C h
        exact ⟨fun z p => by subst z; exact E_and (ia.pe rfl true) (ib.pe rfl true), fun z => by subst z; exact (T_and (ia.pt rfl) (ib.pw rfl _ _ _ rfl)).pt, fun z _ _ _ _ => by subst z; exact T_and (ia.pt rfl) (ib.pw rfl _ _ _ rfl)⟩
    · cases h
  | or a b =>
    intro S t e X Er Wf P C h
    simp only [chkE] at h
    split at h
    · simp only [Bool.and_eq_true] at h
      obtain ⟨h1, h⟩ := h
      have ia := E a (by simp at hc; omega) C h1
      split at h
      · cases h
      · have ib := E b (by simp at hc; omega) C h
        exact ⟨fun z p => by subst z; exact E_or (ia.pe rfl true) (pe_one (ib.pe rfl true)), fun z => by subst z; exact (T_or (ia.pt rfl) (pw_or1 (ib.pt rfl))).pt, fun z _ _ _ _ => by subst z; exact T_or (ia.pt rfl) (pw_or1 (ib.pt rfl))⟩
      · have ib := E b (by simp at hc; omega) C h
        exact ⟨fun z p => by subst z; exact E_or (ia.pe rfl true) (ib.pe rfl true), fun z => by subst z; exact (T_or (ia.pt rfl) (ib.pw rfl _ _ _ rfl)).pt, fun z _ _ _ _ => by subst z; exact T_or (ia.pt rfl) (ib.pw rfl _ _ _ rfl)⟩
    · cases h
  | cond c a b =>
    intro S t e X Er Wf P C h
    unfold chkE at h
    simp only [Bool.and_eq_true] at h
    obtain ⟨h0, h⟩ := h
    split at h
    · simp only [Bool.and_eq_true] at h
      obtain ⟨⟨h1, h2⟩, h3⟩ := h
      split at h1
      case h_2 => cases h1
      exact good_leaf h0 fun p => E_cond ((E _ (by simp at hc; omega) C h1).pt rfl) ((E a (by simp at hc; omega) C h2).pe rfl _) ((E b (by simp at hc; omega) C h3).pe rfl _)
    · cases h
  | tup as =>
    intro S t e X Er Wf P C h
    simp only [chkE, Bool.and_eq_true] at h
    obtain ⟨h0, h⟩ := h
    split at h
    · simp only [Bool.and_eq_true, decide_eq_true_eq] at h
      exact good_leaf h0 fun p => E_tup (A as (by simp at hc; omega) C h.1 false) h.2
    · cases h
  | lst as =>
    intro S t e X Er Wf P C h
    simp only [chkE, Bool.and_eq_true] at h
    obtain ⟨h0, h⟩ := h
    split at h
    · simp only [Bool.and_eq_true, decide_eq_true_eq] at h
      exact good_leaf h0 fun p => E_lst (A as (by simp at hc; omega) C h.1 false) h.2
    · cases h
  | idx a b =>
    intro S t e X Er Wf P C h
    simp only [chkE, Bool.and_eq_true] at h
    obtain ⟨h0, h⟩ := h
    split at h
    · simp only [Bool.and_eq_true, Bool.not_eq_true'] at h
      obtain ⟨⟨⟨h1, h2⟩, h3⟩, h4⟩ := h
      exact good_leaf h0 fun p => E_idx C.hu ((E a (by simp at hc; omega) C h1).pe rfl true) ((E b (by simp at hc; omega) C h2).pe rfl true) h3 h4
    · cases h
  | slc a lo hi =>
    intro S t e X Er Wf P C h
    simp only [chkE, Bool.and_eq_true] at h
    obtain ⟨h0, h⟩ := h
    split at h
    · simp only [Bool.and_eq_true, Bool.not_eq_true'] at h
      obtain ⟨⟨⟨⟨h1, h2⟩, h3⟩, h4⟩, h5⟩ := h
      exact good_leaf h0 fun p => E_slc ((E a (by simp at hc; omega) C h1).pe rfl true) (Pp lo (by simp at hc; omega) C h2) (Pp hi (by simp at hc; omega) C h3) h4 h5
    · cases h
  | rev a =>
    intro S t e X Er Wf P C h
    simp only [chkE, Bool.and_eq_true] at h
    obtain ⟨h0, h⟩ := h
    split at h
    · simp only [Bool.and_eq_true, decide_eq_true_eq] at h
      obtain ⟨rfl, h1⟩ := h
      exact good_leaf h0 fun p => E_rev ((E a (by simp at hc; omega) C h1).pe rfl true)
    · cases h
  | bi f as =>
    intro S t e X Er Wf P C h
    simp only [chkE, Bool.and_eq_true] at h
    obtain ⟨h0, h⟩ := h
    split at h
    · simp only [Bool.and_eq_true, decide_eq_true_eq, Bool.or_eq_true, Bool.not_eq_true'] at h
      obtain ⟨⟨⟨⟨h1, h2⟩, h3⟩, h4⟩, h5⟩ := h
      obtain ⟨b1, b2, _⟩ := C.bi h2
      exact good_leaf h0 fun p => E_bi h1 b1 b2 (fun z => h3.elim (fun w => by rw [z] at w; cases w) fun w => (C.calm w).1) h4 (A as (by simp at hc; omega) C h5 true)
    · cases h
  | isi a ts w =>
    intro S t e X Er Wf P C h
    simp only [chkE, Bool.and_eq_true] at h
    obtain ⟨h0, h⟩ := h
    split at h
    · simp only [Bool.and_eq_true, decide_eq_true_eq] at h
      obtain ⟨⟨⟨⟨h1, h2⟩, h3⟩, h4⟩, h5⟩ := h
      subst h1
      obtain ⟨b1, b2, _⟩ := C.bi h2
      have ha := (E a (by simp at hc; omega) C h4).pe rfl true
      split at h5
      · simp only [Bool.and_eq_true] at h5
        exact good_leaf h0 fun p => E_isi1 (ty_ok C h5.2).2.2 b1 b2 h3 h5.1 ha (ty_ok C h5.2).1
      · simp only [Bool.and_eq_true, decide_eq_true_eq] at h5
        exact good_leaf h0 fun p => E_isiT (tys_ok C h5.1).2.2 b1 b2 h3 ha (tys_ok C h5.1).1 h5.2
      · cases h5
    · cases h
  | isx ts w =>
    intro S t e X Er Wf P C h
    simp only [chkE, Bool.and_eq_true] at h
    obtain ⟨h0, h⟩ := h
    split at h
    · simp only [Bool.and_eq_true, decide_eq_true_eq] at h
      obtain ⟨⟨⟨h1, h2⟩, h3⟩, h5⟩ := h
      subst h1
      obtain ⟨b1, b2, _⟩ := C.bi h2
      cases hxi : S.xi with
      | none => rw [hxi] at h3; cases h3
      | some xi =>
        rw [hxi] at h3
        obtain ⟨n1, n2, n3, n4⟩ := C.nm h3
        have W : Exw X.K P.sub ca S.tb.excs.length S.tb.names.length := by rw [C.sub]; exact C.fx.exw
        split at h5
        · simp only [Bool.and_eq_true] at h5
          obtain ⟨t1, t2, _⟩ := ty_ok C h5.2
          exact good_leaf h0 fun p => E_isx1 W (isx_cur C) (cur_of C hxi) n1 n2 n3 n4 b1 b2 h5.1 t1 t2
        · simp only [Bool.and_eq_true, decide_eq_true_eq] at h5
          obtain ⟨t1, t2, _⟩ := tys_ok C h5.1
          exact good_leaf h0 fun p => E_isxT W (isx_cur C) (cur_of C hxi) n1 n2 n3 n4 b1 b2 t1 h5.2 t2
        · cases h5
    · cases h
  | call f as =>
    intro S t e X Er Wf P C h
    simp only [chkE, Bool.and_eq_true] at h
    obtain ⟨h0, h⟩ := h
    split at h
    · simp only [Bool.and_eq_true, decide_eq_true_eq] at h
      obtain ⟨⟨⟨⟨⟨h1, h2⟩, h3⟩, h4⟩, h5⟩, h6⟩ := h
      obtain ⟨c1, c2, c3, c4, c5⟩ := C.calm h1
      cases hf : S.tb.fns[f]? with
      | none => rw [hf] at h4; cases h4
      | some r =>
        rw [hf] at h4
        simp only [Bool.and_eq_true, decide_eq_true_eq, Bool.not_eq_true'] at h4
        obtain ⟨⟨⟨⟨e1, e2⟩, e4⟩, e5⟩, e3⟩ := h4
        subst e1
        obtain ⟨g1, g2⟩ := C.fx.fn f r hf (Option.isNone_iff_eq_none.mp e5)
        obtain ⟨fd, pn, FO, hb, hl, hx, _⟩ := c5 f r hf e2 e4
        rw [← spI_er (Er := Er)] at FO
        exact good_leaf h0 fun p => E_call FO (c2.mono (Nat.le_succ k)) (C.gl h2) g1 g2 hb (okN_d h3).1 (tk_at C h1 r.late) hx (by rw [e3, hl]) h5 (A as (by simp at hc; omega) C h6 true)
    · simp only [Bool.and_eq_true, decide_eq_true_eq] at h
      obtain ⟨⟨⟨⟨h1, h2⟩, h3⟩, h4⟩, h5⟩ := h
      obtain ⟨c1, c2, c3, c4, c5⟩ := C.calm h1
      cases as <;> (first | (cases h5; done) | skip)
      cases hf : S.tb.fns[f]? with
      | none => rw [hf] at h4; cases h4
      | some r =>
        rw [hf] at h4
        simp only [Bool.and_eq_true, decide_eq_true_eq, Bool.not_eq_true'] at h4
        obtain ⟨⟨⟨⟨e1, e2⟩, e4⟩, e5⟩, e3⟩ := h4
        subst e1
        obtain ⟨g1, g2⟩ := C.fx.fn f r hf (Option.isNone_iff_eq_none.mp e5)
        obtain ⟨fd, pn, FO, hb, hl, hx, _⟩ := c5 f r hf e2 e4
        rw [← spI_er (Er := Er)] at FO
        exact good_leaf h0 fun p => E_call0 FO (c2.mono (Nat.le_succ k)) (C.gl h2) g1 g2 hb (okN_d h3).1 (tk_at C h1 r.late) hx (by rw [hl, e3])
    · cases h
  | mkx c fs as =>
    intro S t e X Er Wf P C h
    unfold chkE at h
    simp only [Bool.and_eq_true] at h
    obtain ⟨h0, h⟩ := h
    split at h
    · rename_i n q0 l es q1
      simp only [Bool.and_eq_true, decide_eq_true_eq] at h
      obtain ⟨⟨⟨⟨h1, h2⟩, h3⟩, h4⟩, h5⟩ := h
      subst h1
      split at h5
      · split at h5
        · rename_i a
          simp only [Bool.and_eq_true, decide_eq_true_eq] at h5
          obtain ⟨h5, h6⟩ := h5
          obtain ⟨i, hi, e1⟩ := List.mem_iff_getElem.mp h6
          have e2 : S.tb.excs[i]? = some n := by rw [List.getElem?_eq_getElem hi, e1]
          have EF := C.fx.exc i n e2
          rw [C.fx.caN i n e2] at EF
          have xs : XnS X.K n [] := ⟨by rw [← C.fx.caN i n e2]; exact C.fx.exw.ex i hi, (fun f z => nomatch z), by rw [← C.fx.caN i n e2]; exact C.fx.exw.kitV i hi⟩
          have hp : plain l = true := by
            rw [List.all_cons, Bool.and_eq_true] at h4
            exact h4.1
          exact good_leaf h0 fun p => E_mkx0 EF xs (C.gl h2) (okN_d h3).1 hp ((E a (by simp at hc; omega) C h5).pe rfl true)
        · cases h5
      · rename_i f fs
        simp only [Bool.and_eq_true, decide_eq_true_eq, List.any_eq_true] at h5
        obtain ⟨⟨h5, x, hx, h6, h7⟩, h8⟩ := h5
        obtain ⟨fI, fd, ps, R⟩ := C.fx.xns x hx
        rw [h6, h7] at R
        obtain ⟨_, c2, _⟩ := C.calm h5
        exact good_leaf h0 fun p => E_mkx R (c2.mono (by have := C.mk1 h5; omega)) (C.gl h2) (okN_d h3).1 h4 (A as (by simp at hc; omega) C h8 true)
    · cases h
  | hcall f as =>
    intro S t e X Er Wf P C h
    simp only [chkE, Bool.and_eq_true] at h
    obtain ⟨h0, h⟩ := h
    split at h
    · simp only [Bool.and_eq_true, decide_eq_true_eq] at h
      obtain ⟨⟨⟨⟨⟨h1, h2⟩, h3⟩, h4⟩, h5⟩, h6⟩ := h
      obtain ⟨c1, c2, c3, c4, c5⟩ := C.calm h1.1
      cases hf : S.tb.fns[f]? with
      | none => rw [hf] at h4; cases h4
      | some r =>
        rw [hf] at h4
        simp only [Bool.and_eq_true, decide_eq_true_eq, Bool.not_eq_true'] at h4
        obtain ⟨⟨⟨⟨e1, e2⟩, e4⟩, e5⟩, e3⟩ := h4
        subst e1
        obtain ⟨g1, g2⟩ := C.fx.fn f r hf (Option.isNone_iff_eq_none.mp e5)
        obtain ⟨fd, pn, FO, hb, hl, hx, _⟩ := c5 f r hf e2 e4
        rw [← spI_er (Er := Er)] at FO
        exact good_leaf h0 fun p => E_hcall FO (c2.mono (Nat.le_succ k)) (C.gl h2) g1 g2 hb (okN_d h3).1 (tk_at C h1.1 r.late) hx (by rw [e3, hl]) h5 (A as (by simp at hc; omega) C h6 false) (C.hh h1.2)
    · cases h
  | scall f as =>
    intro S t e X Er Wf P C h
    simp only [chkE, Bool.and_eq_true] at h
    obtain ⟨h0, h⟩ := h
    split at h
    · simp only [Bool.and_eq_true, decide_eq_true_eq] at h
      obtain ⟨⟨⟨⟨⟨h1, h2⟩, h3⟩, h4⟩, h5⟩, h6⟩ := h
      obtain ⟨c1, c2, c3, c4, c5⟩ := C.calm h1
      cases hf : S.tb.fns[f]? with
      | none => rw [hf] at h4; cases h4
      | some r =>
        rw [hf] at h4
        simp only [Bool.and_eq_true, decide_eq_true_eq, Bool.not_eq_true'] at h4
        obtain ⟨⟨⟨⟨e1, e2⟩, e4⟩, e5⟩, e3⟩ := h4
        subst e1
        obtain ⟨g1, g2⟩ := C.fx.fn f r hf (Option.isNone_iff_eq_none.mp e5)
        obtain ⟨fd, pn, FO, hb, hl, hx, _⟩ := c5 f r hf e2 e4
        rw [← spI_er (Er := Er)] at FO
        exact good_leaf h0 fun p => E_scall FO (c2.mono (Nat.le_succ k)) (C.gl h2) g1 g2 hb (okN_d h3).1 (tk_at C h1 r.late) hx (by rw [e3, hl]) h5 (A as (by simp at hc; omega) C h6 true)
    · cases h
  | lset a =>
    intro S t e X Er Wf P C h
    simp only [chkE, Bool.and_eq_true] at h
    obtain ⟨h0, h⟩ := h
    split at h
    · simp only [Bool.and_eq_true, decide_eq_true_eq] at h
      obtain ⟨⟨⟨⟨⟨⟨⟨h1, h2⟩, h3⟩, h4⟩, h5⟩, h6⟩, h7⟩, h8⟩ := h
      subst h1 h2
      obtain ⟨b1, b2, _⟩ := C.bi h3
      have ha := (E a (by simp at hc; omega) C h8).pe rfl true
      exact good_leaf h0 fun p => E_lset b1 b2 (C.gl h4) (C.fx.free _ h5) (C.calm h6).1 h7 ha
    · cases h
  | callx f =>
    intro S t e X Er Wf P C h
    simp only [chkE, Bool.and_eq_true] at h
    obtain ⟨h0, h⟩ := h
    split at h
    · simp only [Bool.and_eq_true, decide_eq_true_eq] at h
      obtain ⟨⟨⟨⟨h1, h2⟩, h3⟩, h4⟩, h5⟩ := h
      obtain ⟨c1, c2⟩ := C.rmH h1
      cases hf : S.tb.fns[f]? with
      | none => rw [hf] at h4; cases h4
      | some r =>
        rw [hf] at h4
        simp only [Bool.and_eq_true, decide_eq_true_eq] at h4
        obtain ⟨⟨⟨e1, e2⟩, e5⟩, e3⟩ := h4
        subst e1
        cases hxi : S.xi with
        | none => rw [hxi] at h5; cases h5
        | some xi =>
          rw [hxi] at h5
          obtain ⟨n1, n2, n3, n4⟩ := C.nm h5
          obtain ⟨g1, g2⟩ := C.fx.fn f r hf (Option.isNone_iff_eq_none.mp e5)
          obtain ⟨fd, pn, HF, hb, hl⟩ := C.hots f r hf e2
          exact good_leaf h0 fun p => E_callx HF c1 c2 (C.gl h2) g1 g2 hb (by rw [hl, e3]) (okN_d h3).1 (fun xc z => ⟨cur_of C hxi xc z, (C.cur xc z).2.1, let ⟨_, _, pp, q1, q2, q3, q4, q5⟩ := C.cur xc z; ⟨pp, q5 h1, q1, q2, q3⟩⟩) n1 n2 n3 n4
    · cases h
  | mth m o as =>
    intro S t e X Er Wf P C h
    unfold chkE at h
    simp only [Bool.and_eq_true] at h
    obtain ⟨h0, h⟩ := h
    split at h
    · simp only [Bool.and_eq_true] at h
      obtain ⟨⟨⟨h1, h2⟩, h3⟩, h4⟩ := h
      have ho := (E o (by simp at hc; omega) C h3).pe rfl true
      split at h4
      · simp only [Bool.and_eq_true, decide_eq_true_eq, Bool.not_eq_true'] at h4
        obtain ⟨⟨⟨rfl, r1⟩, r2⟩, r3⟩ := h4
        exact good_leaf h0 fun p => E_split h1 h2 r1 ho ((E _ (by simp at hc; omega) C r2).pe rfl true) r3
      · simp only [Bool.and_eq_true, decide_eq_true_eq, Bool.not_eq_true'] at h4
        obtain ⟨⟨⟨rfl, r1⟩, r2⟩, r3⟩ := h4
        exact good_leaf h0 fun p => E_find h1 h2 r1 ho ((E _ (by simp at hc; omega) C r2).pe rfl true) r3
      · simp only [Bool.and_eq_true, decide_eq_true_eq, Bool.not_eq_true'] at h4
        obtain ⟨⟨⟨rfl, r1⟩, r2⟩, r3⟩ := h4
        exact good_leaf h0 fun p => E_zfill h1 h2 r1 ho ((E _ (by simp at hc; omega) C r2).pe rfl true) r3
      · simp only [Bool.and_eq_true, decide_eq_true_eq, Bool.not_eq_true'] at h4
        obtain ⟨⟨⟨rfl, r1⟩, r2⟩, r3⟩ := h4
        exact good_leaf h0 fun p => E_join h1 h2 r1 ho ((E _ (by simp at hc; omega) C r2).pe rfl true) r3
      · obtain rfl := of_decide_eq_true h4
        exact good_leaf h0 fun p => E_isdigit h1 h2 ho
      · obtain rfl := of_decide_eq_true h4
        exact good_leaf h0 fun p => E_upper h1 h2 ho
      · cases h4
    · cases h
  | lc elt vs tg it cond =>
    intro S t e X Er Wf P C h
    unfold chkE at h
    simp only [Bool.and_eq_true] at h
    obtain ⟨h0, h⟩ := h
    split at h
    · rename_i e2 g iter ifs kk scope ps
      simp only [Bool.and_eq_true, decide_eq_true_eq, Bool.not_eq_true', List.all_eq_true] at h
      obtain ⟨⟨⟨⟨⟨⟨⟨⟨⟨⟨⟨h1, h2⟩, h3⟩, h4⟩, h5⟩, h6⟩, h7⟩, h8⟩, h9⟩, h10⟩, h11⟩, h12⟩ := h
      subst h1
      obtain ⟨c1, c2, c3, c4, c5⟩ := C.calm h2
      have key : ∀ p, PE X (.ListComp e2 [⟨g, iter, ifs, 0⟩] scope ps) (tE X.K Er Wf P (.lc elt ((ownOf S.N vs).map (·.2)) tg it cond) p) := fun p => by
        refine E_lc c1 (by rw [C.hN]; exact C.nd) (I it (by simp at hc; omega) C h3) (by rw [C.hN, C.sc]; exact blkOk_by h4) (fun s H D cl fp => (tg_ok (C.blk h2 s H scope D cl fp) h6).1) (fun s H D cl fp => ?_)
          (fun s H D cl fp => (E elt (by simp at hc; omega) (C.blk h2 s H scope D cl fp) h8).pe rfl false) (folded_plain h5) h9 h10 (fun i hi => C.er i (h12 i (by rw [own_snd] at hi; exact hi))) (fun i hi => by rw [own_snd]; exact h11 i hi)
        split at h7
        · exact ⟨fun pins s2 σ H2 Q II q => pts_nil.run pins s2 σ H2 Q II (T_skip_ok _ _ _ q)⟩
        · exact pts_one ((E _ (by simp at hc; omega) (C.blk h2 s H scope D cl fp) h7).pt rfl)
        · cases h7
      rw [own_snd] at key
      exact good_leaf h0 key
    · cases h
  | app i a =>
    intro S t e X Er Wf P C h
    simp only [chkE, Bool.and_eq_true] at h
    obtain ⟨h0, h⟩ := h
    split at h
    · simp only [Bool.and_eq_true, decide_eq_true_eq] at h
      obtain ⟨⟨⟨⟨rfl, h1⟩, h2⟩, h3⟩, h4⟩ := h
      obtain ⟨n1, n2, n3, n4⟩ := C.nm h1
      exact good_leaf h0 fun p => E_app n1 n2 n3 n4 h2 h3 ((E a (by simp at hc; omega) C h4).pe rfl false)
    · cases h
  | clear i =>
    intro S t e X Er Wf P C h
    simp only [chkE, Bool.and_eq_true] at h
    obtain ⟨h0, h⟩ := h
    split at h
    · simp only [Bool.and_eq_true, decide_eq_true_eq] at h
      obtain ⟨⟨rfl, h1⟩, h2⟩ := h
      obtain ⟨n1, n2, n3, n4⟩ := C.nm h1
      exact good_leaf h0 fun p => E_clear n1 n2 n3 n4 h2
    · cases h
  | popat i a =>
    intro S t e X Er Wf P C h
    simp only [chkE, Bool.and_eq_true] at h
    obtain ⟨h0, h⟩ := h
    split at h
    · simp only [Bool.and_eq_true, decide_eq_true_eq] at h
      obtain ⟨⟨⟨⟨rfl, h1⟩, h2⟩, h3⟩, h4⟩ := h
      obtain ⟨n1, n2, n3, n4⟩ := C.nm h1
      exact good_leaf h0 fun p => E_popat n1 n2 n3 n4 h2 h3 ((E a (by simp at hc; omega) C h4).pe rfl true)
    · cases h
  | dnew =>
    intro S t e X Er Wf P C h
    simp only [chkE, Bool.and_eq_true] at h
    obtain ⟨h0, h⟩ := h
    split at h
    · exact good_leaf h0 fun p => E_dnew
    · cases h
  | dnewT =>
    intro S t e X Er Wf P C h
    simp only [chkE, Bool.and_eq_true] at h
    obtain ⟨h0, h⟩ := h
    split at h
    · exact good_leaf h0 fun p => E_dnewT
    · cases h
  | fld a f =>
    intro S t e X Er Wf P C h
    simp only [chkE, Bool.and_eq_true] at h
    obtain ⟨h0, h⟩ := h
    split at h
    · simp only [Bool.and_eq_true, decide_eq_true_eq] at h
      obtain ⟨⟨rfl, h2⟩, h3⟩ := h
      exact good_leaf h0 fun p => E_fld (C.cls ▸ C.fx.cls) h2 ((E a (by simp at hc; omega) C h3).pe rfl true)
    · cases h
  | mk c as =>
    intro S t e X Er Wf P C h
    simp only [chkE, Bool.and_eq_true] at h
    obtain ⟨h0, h⟩ := h
    split at h
    · rename_i n q es ps
      simp only [Bool.and_eq_true, decide_eq_true_eq] at h
      obtain ⟨⟨⟨⟨⟨h1, h2⟩, h3⟩, h4⟩, h5⟩, h6⟩ := h
      obtain ⟨c1, c2, c3, c4, c5⟩ := C.calm h1.1
      cases hcr : S.tb.cls[c]? with
      | none => rw [hcr] at h4; cases h4
      | some cr =>
        rw [hcr] at h4
        simp only [Bool.and_eq_true, decide_eq_true_eq] at h4
        obtain ⟨rfl, h4⟩ := h4
        cases hi : cr.init with
        | none =>
          rw [hi] at h4
          dsimp only at h4
          obtain rfl : es = [] := by simpa using h4
          obtain ⟨m1, _, m2⟩ := C.fx.mkr c cr hcr
          have hcp : P.cls[c]? = some cr := by rw [C.cls]; exact hcr
          obtain rfl := chkA_nil h6
          exact good_leaf h0 fun p => E_mkN hcp hi (m2 hi) (C.gl h2) m1 (okN_d h3).1
        | some f =>
          rw [hi] at h4
          dsimp only at h4
          cases hf : S.tb.fns[f]? with
          | none => rw [hf] at h4; cases h4
          | some r =>
            rw [hf] at h4
            simp only [Bool.and_eq_true, Bool.not_eq_true'] at h4
            obtain ⟨m1, m2, _⟩ := C.fx.mkr c cr hcr
            have hcp : P.cls[c]? = some cr := by rw [C.cls]; exact hcr
            have CB : CallBr X Er Wf P ca S.tb.excs.length k f (fa f) := br_of C h1.2 h1.1 hf h4.1 h4.2
            cases es with
            | nil =>
              obtain rfl := chkA_nil h6
              exact good_leaf h0 fun p => E_mk0 hcp hi (m2 f hi) CB c2 (C.gl h2) m1 (okN_d h3).1
            | cons l es => exact good_leaf h0 fun p => E_mk hcp hi (m2 f hi) CB c2 (C.gl h2) m1 (okN_d h3).1 h5 (A as (by simp at hc; omega) C h6 true)
    · cases h
  | mcall m o as =>
    intro S t e X Er Wf P C h
    simp only [chkE, Bool.and_eq_true] at h
    obtain ⟨h0, h⟩ := h
    split at h
    · rename_i l f ap es ps
      simp only [Bool.and_eq_true, decide_eq_true_eq, Bool.not_eq_true'] at h
      obtain ⟨⟨⟨⟨⟨⟨⟨⟨⟨h1, rfl⟩, h3⟩, h4⟩, h5⟩, h6⟩, h7⟩, h8⟩, h9⟩, h10⟩ := h
      obtain ⟨c1, c2, c3, c4, c5⟩ := C.calm h1
      have MO : MethsOk X P.cls fa := by rw [C.cls]; exact C.fx.meths
      have ho := (E o (by simp at hc; omega) C h6).pe rfl true
      have CI : ∀ c g, mtOf P.cls c f = some g → CallI X Er Wf P ca S.tb.excs.length k g (fa g) := fun c g hg => by
        rw [C.cls] at hg
        obtain ⟨r, hf, e1, e2⟩ := mthB_ok h5 hg
        exact call_of C h1 hf e1 e2
      cases es with
      | nil =>
        obtain rfl := chkA_nil h10
        exact good_leaf h0 fun p => E_mcall0 MO CI (c2.mono (Nat.le_succ k)) (meth_eq h3 h4 rfl h8) ho
      | cons l es => exact good_leaf h0 fun p => E_mcall MO CI (c2.mono (Nat.le_succ k)) h7 h9 (meth_eq h3 h4 h9 h8) ho (A as (by simp at hc; omega) C h10 true)
    · cases h
  | bcall f pl as =>
    intro S t e X Er Wf P C h
    simp only [chkE, Bool.and_eq_true] at h
    obtain ⟨h0, h⟩ := h
    split at h
    · simp only [Bool.and_eq_true, decide_eq_true_eq, Bool.not_eq_true'] at h
      obtain ⟨⟨⟨⟨⟨⟨⟨⟨h1, h2⟩, h3⟩, h4⟩, h5⟩, h6⟩, h7⟩, h8⟩, h9⟩ := h
      obtain ⟨c1, c2, c3, c4, c5⟩ := C.calm h1.1
      cases hf : S.tb.fns[f]? with
      | none => rw [hf] at h4; cases h4
      | some r =>
        rw [hf] at h4
        simp only [Bool.and_eq_true, decide_eq_true_eq, Bool.not_eq_true'] at h4
        obtain ⟨⟨⟨e1, e2⟩, e3⟩, e5⟩ := h4
        subst e1
        obtain ⟨g1, g2⟩ := C.fx.fn f r hf (Option.isNone_iff_eq_none.mp e5)
        exact good_leaf h0 fun p => E_bcall (br_of C h1.2 h1.1 hf e2 e3) (c2.mono (Nat.le_succ k)) (C.gl h2) g1 g2 (okN_d h3).1 h7 h8 h5 (Pl pl (by simp at hc; omega) C h6) (A as (by simp at hc; omega) C h9 true)
    · cases h
  | bmeth m pl as =>
    intro S t e X Er Wf P C h
    simp only [chkE, Bool.and_eq_true] at h
    obtain ⟨h0, h⟩ := h
    split at h
    · rename_i l f ap es ps
      simp only [Bool.and_eq_true, decide_eq_true_eq, Bool.not_eq_true'] at h
      obtain ⟨⟨⟨⟨⟨⟨⟨⟨⟨⟨h1, rfl⟩, h3⟩, h4⟩, h5⟩, h6⟩, h7⟩, h7'⟩, h8⟩, h9⟩, h10⟩ := h
      obtain ⟨c1, c2, c3, c4, c5⟩ := C.calm h1.1
      have MO : MethsOk X P.cls fa := by rw [C.cls]; exact C.fx.meths
      have ho := Pl pl (by simp at hc; omega) C h6
      have CB : ∀ c g, mtOf P.cls c f = some g → CallBr X Er Wf P ca S.tb.excs.length k g (fa g) := fun c g hg => by
        rw [C.cls] at hg
        obtain ⟨r, hf, e1, e2⟩ := mthB_ok h5 hg
        exact br_of C h1.2 h1.1 hf e1 e2
      cases es with
      | nil =>
        obtain rfl := chkA_nil h10
        exact good_leaf h0 fun p => E_bmeth0 MO CB (c2.mono (Nat.le_succ k)) h7 (meth_eq h3 h4 rfl h8) ho
      | cons l es => exact good_leaf h0 fun p => E_bmeth MO CB (c2.mono (Nat.le_succ k)) h7 h7' h9 (meth_eq h3 h4 h9 h8) ho (A as (by simp at hc; omega) C h10 true)
    · cases h
  | mv pl =>
    intro S t e X Er Wf P C h
    simp only [chkE, Bool.and_eq_true] at h
    obtain ⟨h0, h⟩ := h
    exact good_leaf h0 fun p => E_mv (Pl pl (by simp at hc; omega) C h)
  | fzat pl =>
    intro S t e X Er Wf P C h
    simp only [chkE, Bool.and_eq_true] at h
    obtain ⟨h0, h⟩ := h
    exact good_leaf h0 fun p => E_fzat (Pl pl (by simp at hc; omega) C h)
  | href _ _ _ _ _ _ =>
    intro S t e X Er Wf P C h
    simp [chkE] at h
  | dupd pl a =>
    intro S t e X Er Wf P C h
    simp only [chkE, Bool.and_eq_true] at h
    obtain ⟨h0, h⟩ := h
    split at h
    · rename_i l f ap r ps
      simp only [Bool.and_eq_true, decide_eq_true_eq, Bool.not_eq_true'] at h
      obtain ⟨⟨⟨⟨⟨⟨⟨h1, h2⟩, h3⟩, h4⟩, h5⟩, h6⟩, h7⟩, rfl⟩ := h
      exact good_leaf h0 fun p => E_dupd h1 h2 h3 (Pl pl (by simp at hc; omega) C h4) ((E a (by simp at hc; omega) C h7).pe rfl false) h5 h6
    · cases h
  | mpop pl a =>
    intro S t e X Er Wf P C h
    simp only [chkE, Bool.and_eq_true] at h
    obtain ⟨h0, h⟩ := h
    split at h
    · rename_i l f ap r ps
      simp only [Bool.and_eq_true, decide_eq_true_eq, Bool.not_eq_true'] at h
      obtain ⟨⟨⟨⟨⟨⟨⟨h1, h2⟩, h3⟩, h4⟩, h5⟩, h6⟩, h7⟩, rfl⟩ := h
      exact good_leaf h0 fun p => E_mpop h1 h2 h3 (Pl pl (by simp at hc; omega) C h4) ((E a (by simp at hc; omega) C h7).pe rfl true) h5 h6
    · cases h
  | try2 _ _ _ _ _ _ =>
    intro S t e X Er Wf P C h
    simp [chkE] at h
  | forr _ _ _ =>
    intro S t e X Er Wf P C h
    simp [chkE] at h
  | lend _ _ _ _ _ =>
    intro S t e X Er Wf P C h
    simp [chkE] at h
  | gif _ _ _ _ =>
    intro S t e X Er Wf P C h
    simp [chkE] at h
  | dead =>
    intro S t e X Er Wf P C h
    simp [chkE] at h
  | mop o pl as =>
    intro S t e X Er Wf P C h
    simp only [chkE, Bool.and_eq_true] at h
    obtain ⟨h0, h⟩ := h
    split at h
    · rename_i l f ap es ps
      simp only [Bool.and_eq_true, decide_eq_true_eq, Bool.not_eq_true'] at h
      obtain ⟨⟨⟨⟨⟨⟨⟨h1, h2⟩, h3⟩, h4⟩, h5⟩, h6⟩, h7⟩, h8⟩ := h
      have ho := Pl pl (by simp at hc; omega) C h4
      have ha := A as (by simp at hc; omega) C h7 false
      split at h8
      · obtain rfl := of_decide_eq_true h8
        exact good_leaf h0 fun p => E_mapp h1 h2 (by simpa using h3) ho ha h5 h6
      · obtain rfl := of_decide_eq_true h8
        simp only [List.all_cons, Bool.and_eq_true] at h3
        exact good_leaf h0 fun p => E_mins h1 h2 h3.1 h3.2.1 ho ha h5 h6
      · cases h8
    · cases h
  | dget a b o =>
    intro S t e X Er Wf P C h
    unfold chkE at h
    simp only [Bool.and_eq_true] at h
    obtain ⟨h0, h⟩ := h
    split at h
    · simp only [Bool.and_eq_true, decide_eq_true_eq, Bool.not_eq_true'] at h
      obtain ⟨⟨⟨⟨⟨rfl, h2⟩, h3⟩, h4⟩, h5⟩, h6⟩ := h
      have ha := (E a (by simp at hc; omega) C h4).pe rfl true
      split at h6
      · simp only [Bool.and_eq_true] at h6
        exact good_leaf h0 fun p => E_dget1 C.hu h2 h3 h6.1 ha ((E b (by simp at hc; omega) C h6.2).pe rfl true) h5
      · simp only [Bool.and_eq_true, Bool.not_eq_true'] at h6
        obtain ⟨⟨⟨⟨q1, q2⟩, q3⟩, q4⟩, q5⟩ := h6
        exact good_leaf h0 fun p => E_dget2 C.hu h2 h3 q1 q2 ha ((E b (by simp at hc; omega) C q3).pe rfl true) ((E _ (by simp at hc; omega) C q4).pe rfl true) h5 q5
      · cases h6
    · cases h
  | items _ =>
    intro S t e X Er Wf P C h
    simp [chkE] at h
  | keys _ =>
    intro S t e X Er Wf P C h
    simp [chkE] at h
  | vals _ =>
    intro S t e X Er Wf P C h
    simp [chkE] at h
  | revw _ =>
    intro S t e X Er Wf P C h
    simp [chkE] at h
  | setp _ _ _ =>
    intro S t e X Er Wf P C h
    simp [chkE] at h
  | setf _ _ _ =>
    intro S t e X Er Wf P C h
    simp [chkE] at h
  | retb _ =>
    intro S t e X Er Wf P C h
    simp [chkE] at h
  | nil =>
    intro S t e X Er Wf P C h
    simp [chkE] at h
  | cons _ _ =>
    intro S t e X Er Wf P C h
    simp [chkE] at h
  | rng1 _ =>
    intro S t e X Er Wf P C h
    simp [chkE] at h
  | rng2 _ _ =>
    intro S t e X Er Wf P C h
    simp [chkE] at h
  | zip _ _ =>
    intro S t e X Er Wf P C h
    simp [chkE] at h
  | enum _ =>
    intro S t e X Er Wf P C h
    simp [chkE] at h
  | skip =>
    intro S t e X Er Wf P C h
    simp [chkE] at h
  | seq _ _ =>
    intro S t e X Er Wf P C h
    simp [chkE] at h
  | expr _ =>
    intro S t e X Er Wf P C h
    simp [chkE] at h
  | aug _ _ _ =>
    intro S t e X Er Wf P C h
    simp [chkE] at h
  | set _ _ =>
    intro S t e X Er Wf P C h
    simp [chkE] at h
  | seti _ _ _ =>
    intro S t e X Er Wf P C h
    simp [chkE] at h
  | ife _ _ _ =>
    intro S t e X Er Wf P C h
    simp [chkE] at h
  | for_ _ _ _ =>
    intro S t e X Er Wf P C h
    simp [chkE] at h
  | while_ _ _ =>
    intro S t e X Er Wf P C h
    simp [chkE] at h
  | ret _ =>
    intro S t e X Er Wf P C h
    simp [chkE] at h
  | retm _ =>
    intro S t e X Er Wf P C h
    simp [chkE] at h
  | raise _ =>
    intro S t e X Er Wf P C h
    simp [chkE] at h
  | brk =>
    intro S t e X Er Wf P C h
    simp [chkE] at h
  | cont =>
    intro S t e X Er Wf P C h
    simp [chkE] at h
  | try_ _ _ _ _ _ =>
    intro S t e X Er Wf P C h
    simp [chkE] at h
end
theorem chk_all : ∀ (n : Nat) (c : C), sizeOf c < n → StE ca fa k c ∧ StA ca fa k c ∧ StP ca fa k c ∧ StI ca fa k c ∧ StPl ca fa k c := by
  intro n
  induction n with
  | zero => intro c h; omega
  | succ n ih =>
    have E : ∀ c, sizeOf c < n → ∀ {S : Sta} {t : Bool} {e : Expr} {X : Cx} {Er : EE} {Wf : Bool → Nat → L2.St → Hp → Prop} {P : Par}, EC S ca fa k X Er Wf P → chkE S t c e = true → Good X Er Wf P t c e := fun c h => @fun S t e X Er Wf P => (ih c h).1 S t e X Er Wf P
    have A : ∀ c, sizeOf c < n → ∀ {S : Sta} {es : List Expr} {X : Cx} {Er : EE} {Wf : Bool → Nat → L2.St → Hp → Prop} {P : Par}, EC S ca fa k X Er Wf P → chkA S c es = true → ∀ p, PA X es (tAr X.K Er Wf P c p) := fun c h => @fun S es X Er Wf P => (ih c h).2.1 S es X Er Wf P
    have Pp : ∀ c, sizeOf c < n → ∀ {S : Sta} {o : Option Expr} {X : Cx} {Er : EE} {Wf : Bool → Nat → L2.St → Hp → Prop} {P : Par}, EC S ca fa k X Er Wf P → chkP S c o = true → PO X o (PostP X.K Er Wf P c) := fun c h => @fun S o X Er Wf P => (ih c h).2.2.1 S o X Er Wf P
    have I : ∀ c, sizeOf c < n → ∀ {S : Sta} {tg e : Expr} {X : Cx} {Er : EE} {Wf : Bool → Nat → L2.St → Hp → Prop} {P : Par} {ms : Bool}, EC S ca fa k X Er Wf P → chkI S tg c e = true → PI X tg e (tI X.K Er Wf P ms c) := fun c h => @fun S tg e X Er Wf P ms => (ih c h).2.2.2.1 S tg e X Er Wf P ms
    have Pl : ∀ c, sizeOf c < n → ∀ {S : Sta} {e : Expr} {X : Cx} {Er : EE} {Wf : Bool → Nat → L2.St → Hp → Prop} {P : Par}, EC S ca fa k X Er Wf P → chkPl S c e = true → PE X e (tPl X.K Er Wf P c) := fun c h => @fun S e X Er Wf P => (ih c h).2.2.2.2 S e X Er Wf P
    exact fun c hc => ⟨stepE E Pl A Pp I c hc, stepA E A c hc, stepP E c hc, stepI E c hc, stepPl E Pl c hc⟩
section
variable {S : Sta} {X : Cx} {Er : EE} {Wf : Bool → Nat → L2.St → Hp → Prop} {P : Par}
theorem chkE_ok {t : Bool} {e : Expr} (c : C) (C : EC S ca fa k X Er Wf P) (h : chkE S t c e = true) : Good X Er Wf P t c e := (chk_all _ c (Nat.lt_succ_self _)).1 S t e X Er Wf P C h
theorem chkI_ok {tg e : Expr} {ms : Bool} (c : C) (C : EC S ca fa k X Er Wf P) (h : chkI S tg c e = true) : PI X tg e (tI X.K Er Wf P ms c) := (chk_all _ c (Nat.lt_succ_self _)).2.2.2.1 S tg e X Er Wf P ms C h
theorem chkPl_ok {e : Expr} (c : C) (C : EC S ca fa k X Er Wf P) (h : chkPl S c e = true) : PE X e (tPl X.K Er Wf P c) := (chk_all _ c (Nat.lt_succ_self _)).2.2.2.2 S e X Er Wf P C h
end
end VI
set_option maxRecDepth 100000
set_option maxHeartbeats 8000000
/-! VI: the check of statements, and what it is worth. -/
namespace VI
open PySem PySem.Spec PyProof.Rows L2 RZ

def hotOf : Md → Bool
  | .calm => false
  | _ => true
def isLc : Expr → Bool
  | .ListComp _ _ _ _ => true
  | _ => false
/-- y = [..] -/
def lcB (S : Sta) (i : Nat) (a : C) (y : Str) (py : Pos) (l : Expr) : Bool := match a, l with
  | .lc elt vs tg it cond, .ListComp e2 [⟨g, iter, ifs, k⟩] scope p3 => decide (k = 0) && decide (S.md = .calm) && chkI S g it iter && blkC S.N S.sc scope (ownOf S.N vs) && plain iter && tgB (S.blk scope) tg g &&
      (match cond, ifs with
      | .skip, [] => true
      | .cons c .nil, [z] => chkE (S.blk scope) true c z
      | _, _ => false) && chkE (S.blk scope) false elt e2 && !mu cond && !mu elt && (tgs tg).all (fun i => decide (i ∈ vs)) && vs.all (fun i => decide (i ∉ S.fz)) &&
      decide (S.N[i]? = some y) && decide (S.sc.names.lookup y = some .local) && decide (S.sc.kind = .function) && (py.line == p3.line) && !(scope.names.any fun (n, k) => n == y && (k == .local || k == .cell))
  | _, _ => false
section
variable {K : PySem.W.Frag} {Er : EE} {Wf : Bool → Nat → L2.St → Hp → Prop} {P : Par} {X : Cx} {l : Expr} {pos : Pos} {a : C} {hot : Bool}
/-- a cell takes a new list: no swap -/
theorem S_setC {y : Str} {py : Pos} {tg : Tg} (hy : X.env.scope.names.lookup y = some .cell) (hg : PG X (.Name y py) (gT X.K tg)) (hx : ∀ i ∈ tgs tg, Er i = none) (ha : PE X l (tE X.K Er Wf P a false)) : PS X (.Assign [.Name y py] l pos) (tS X.K Er Wf P (.set tg a) hot) := by
  have hs : swapsWithSole [.Name y py] l pos.line X.env = pure false := by
    have ky : X.env.kindOf y = some .cell := hy
    show swapsWith l (some (.Name y py)) pos.line X.env = pure false
    unfold swapsWith
    split
    · have e : (NameKind.cell == NameKind.local) = false := by decide
      simp only [ky]
      simp [e]
    · rfl
  exact (ps_asg ha hg hs (stores_name (.inl rfl)) (each_one rfl)).imp fun D σ H ⟨F, e, Ls, s, q⟩ => by
    simp only [run] at q
    exact opndS s (m := mu (.set tg a)) id q fun d e1 v F1 H1 Ls1 L E S R O q1 => put_read (a := a) (f := fun _ _ => .stuck) E S R (ov_f O) hx q1
/-- whatever is never reached -/
theorem S_dead {st : Stmt} : PS X st (tS X.K Er Wf P .dead hot) := ⟨fun pn0 s σ H D I h => by
  obtain ⟨F, e, Ls, S, q⟩ := h
  simp only [run] at q
  exact q.elim⟩
theorem S_deads {sts : List Stmt} : PSs X sts (tS X.K Er Wf P .dead hot) := ⟨fun pn0 s σ H D I h => by
  obtain ⟨F, e, Ls, S, q⟩ := h
  simp only [run] at q
  exact q.elim⟩
end
mutual
def chkS : Sta → Bool → C → Stmt → Bool
  | S, tp, .dead, st => true
  | S, tp, .skip, st => (match st with
    | .Pass _ => true
    | .Expr (.Constant (.str _) _ _) _ => true
    | _ => false)
  | S, tp, .expr a, st => (match st with
    | .Expr l _ => plain l && noComp l && chkE S false a l
    | _ => false)
  | S, tp, .aug o i a, st => (match st with
    | .AugAssign (.Name n _) op r _ => (decide (o = .add) || decide (o = .sub)) && decide (op = opB o) && decide (S.N[i]? = some n) && locB S n && decide (i ∉ S.fz) && !mu a && chkE S false a r
    | _ => false)
  | S, tp, .set tg a, st => (match st with
    | .Assign [t] l _ => if isLc l then (match tg, t with
        | .one i, .Name y py => (lcB S i a y py l && decide (i ∉ S.fz)) || (decide (S.sc.names.lookup y = some .cell) && plain l && tgB S tg t && chkE S false a l)
        | _, _ => false) else plain l && noComp l && isTgt t && (isName t || !isTup l) && tgB S tg t && chkE S false a l
    | _ => false)
  | S, tp, .seti i ix a, st => (match st with
    | .Assign [.Subscript (.Name n _) q _] l _ => nmB S i n && plain l && noComp l && !mu ix && plain q && chkE S false a l && chkE S false ix q
    | _ => false)
  | S, tp, .ife c a b, st => (match st with
    | .If t s1 s2 _ => (match c with
      | .cons c2 .nil => chkE S true c2 t
      | _ => false) && chkSs S tp a s1 && chkSs S tp b s2
    | _ => false)
  | S, tp, .for_ tg it b, st => (match st with
    | .For t l sts [] _ => decide (S.md = .calm) && chkI S t it l && tgB S tg t && plain l && chkSs S tp b sts
    | _ => false)
  | S, tp, .forr x r b, st => (match st with
    | .For t (.Name n _) sts [] _ => decide (S.md = .calm) && nmB S r n && tgB S (.one x) t && decide (x ≠ r) && chkSs { S with fz := x :: r :: S.fz } tp b sts
    | _ => false)
  | S, tp, .while_ c b, st => (match st with
    | .While t sts [] _ => decide (S.md = .calm) && (match c with
      | .cons c2 .nil => chkE S true c2 t
      | _ => false) && chkSs S tp b sts
    | _ => false)
  | S, tp, .ret a, st => (match st with
    | .Return (some l) _ => chkE S false a l
    | .Return none _ => (match a with
      | .non => true
      | _ => false)
    | _ => false)
  | S, tp, .retm i, st => (match st with
    | .Return (some (.Name n _)) _ => nmB S i n
    | _ => false)
  | S, tp, .setp pl ix a, st => (match st with
    | .Assign [.Subscript o k _] l _ => plain l && noComp l && !mu pl && !mu ix && plain k && chkE S false a l && chkPl S pl o && chkE S false ix k
    | _ => false)
  | S, tp, .setf pl f a, st => (match st with
    | .Assign [.Attribute o g _] l _ => decide (g = f) && plain l && noComp l && !mu pl && chkE S false a l && chkPl S pl o
    | _ => false)
  | S, tp, .retb a, st => (match st with
    | .Return (some l) _ => chkE S false a l
    | .Return none _ => (match a with
      | .non => true
      | _ => false)
    | _ => false)
  | S, tp, .raise c, st => (match st with
    | .Raise (some (.Call (.Name nm _) [.Constant (.str _) _ _] [] _)) none _ => glB S.sc nm && okN nm && decide (S.tb.excs[c]? = some nm) && (decide (S.md = .calm) || decide (S.md = .hotr))
    | _ => false)
  | S, tp, .brk, st => (match st with
    | .Break _ => true
    | _ => false)
  | S, tp, .cont, st => (match st with
    | .Continue _ => true
    | _ => false)
  | S, tp, .try_ b c as_ s md, st => (match st with
    | .Try body [.ExceptHandler (some (.Name xn _)) nm (b0 :: suite) _] [] [] _ => decide (S.md = .calm) && glB S.sc xn && okN xn && decide (S.tb.excs[c]? = some xn) && chkSs S false b body &&
      (match as_, nm, md with
      | some i, some y, 0 => decide (S.N[i]? = some y) && decide (S.sc.names.lookup y = some .local) && decide (i ∉ S.fz) && chkSs { S with md := .suite, xi := some i, fz := i :: S.fz } false s (b0 :: suite)
      | some i, some y, 1 => decide (S.N[i]? = some y) && decide (S.sc.names.lookup y = some .local) && decide (i ∉ S.fz) && chkSs { S with md := .hot, xi := some i, fz := i :: S.fz } false s (b0 :: suite)
      | none, none, 0 => chkSs { S with md := .suite, xi := none } false s (b0 :: suite)
      | none, none, 2 => tp && chkSs { S with md := .hotr, xi := none } false s (b0 :: suite)
      | _, _, _ => false)
    | _ => false)
  | S, tp, .try2 b c1 s1 c2 s2 i, st => (match st with
    | .Try body [.ExceptHandler (some (.Name x1 _)) (some y1) (b1 :: u1) _, .ExceptHandler (some (.Name x2 _)) (some y2) (b2 :: u2) _] [] [] _ => decide (S.md = .calm) && glB S.sc x1 && okN x1 && decide (S.tb.excs[c1]? = some x1) && glB S.sc x2 && okN x2 && decide (S.tb.excs[c2]? = some x2) && chkSs S false b body &&
      decide (y2 = y1) && decide (S.N[i]? = some y1) && decide (S.sc.names.lookup y1 = some .local) && decide (i ∉ S.fz) && chkSs { S with md := .suite, xi := some i, fz := i :: S.fz } false s1 (b1 :: u1) && chkSs { S with md := .suite, xi := some i, fz := i :: S.fz } false s2 (b2 :: u2)
    | _ => false)
  | _, _, _, _ => false
def chkSs : Sta → Bool → C → List Stmt → Bool
  | S, tp, .dead, sts => true
  | S, tp, .skip, sts => sts.isEmpty
  | S, tp, .seq a b, sts => (match sts with
    | st :: rest => chkS S tp a st && chkSs S tp b rest
    | [] => false)
  | S, tp, .gif i n a b, sts => chkSs S tp a sts && chkSs S tp b sts
  | S, tp, .lend x r k b c, sts => (match sts with
    | .Assign [t] (.Subscript (.Name n q) kx p2) ps :: st :: rest => decide (S.md = .calm) && nmB S r n && plain kx && chkE S false k kx && !mu k && plain (.Subscript (.Name n q) kx p2) && noComp (.Subscript (.Name n q) kx p2) && isTgt t && isName t && tgB S (.one x) t && decide (x ≠ r) &&
        chkS { S with fz := x :: r :: S.fz } tp b st && chkSs S tp c rest
    | _ => false)
  | S, tp, .href x r k n b c, sts => (match sts with
    | .Assign [t] (.Subscript (.Name nm q) kx p2) ps :: rest => decide (S.md = .calm) && nmB S r nm && plain kx && chkE S false k kx && !mu k && plain (.Subscript (.Name nm q) kx p2) && noComp (.Subscript (.Name nm q) kx p2) && isTgt t && isName t && tgB S (.one x) t && !S.hol &&
        chkSs { S with fz := x :: S.fz, hol := true } tp b (rest.take n) && chkSs S tp c (rest.drop n)
    | _ => false)
  | _, _, _, _ => false
end
structure SC (S : Sta) (tp : Bool) (ca fa : Nat → Addr) (k : Nat) (X : Cx) (Er : EE) (Wf : Bool → Nat → L2.St → Hp → Prop) (P : Par) : Prop where
  ec : EC S ca fa k X Er Wf P
  st : S.md = .calm → X.stack = X.env :: X.outer ∧ X.env.frame = some X.env.locals ∧ PassesOwn (model X.prog X.w) X.A X.env X.xe
  top : tp = true → ∀ hd : Option Value, PassesOwnAt (model X.prog X.w) (X.A.mark hd) X.A X.env X.xe
  rh : S.md = .hotr → L2H.HotC X
section
variable {ca fa : Nat → Addr} {k : Nat} {S : Sta} {tp : Bool} {X : Cx} {Er : EE} {Wf : Bool → Nat → L2.St → Hp → Prop} {P : Par}
/-- a try's body -/
theorem SC.body (C : SC S tp ca fa k X Er Wf P) (hm : S.md = .calm) {Wf' : Bool → Nat → L2.St → Hp → Prop} {pn : List (Addr × Obj)} {xe : Value → Shared → Prop} (t1 : L2N.Takes (X.tr pn xe) (WW ca S.tb.excs.length Wf' false)) (t2 : L2.Takes (X.tr pn xe) (WW ca S.tb.excs.length Wf' true)) (po : PassesOwn (model X.prog X.w) X.A X.env xe) : SC S false ca fa k (X.tr pn xe) Er Wf' P where
  ec := ⟨C.ec.hN, C.ec.nd, C.ec.sc, C.ec.hu, C.ec.fx, C.ec.sub, C.ec.glo, fun _ => t1, t2, C.ec.calm, C.ec.hots, (fun z => by rw [hm] at z; cases z), (fun xc z => by rw [(C.ec.calm hm).2.2.2.1] at z; cases z), C.ec.er, C.ec.cls, C.ec.fnok, C.ec.hh, C.ec.mk1⟩
  st := fun z => ⟨(C.st z).1, (C.st z).2.1, po⟩
  top := fun z => Bool.noConfusion z
  rh := fun z => by rw [hm] at z; cases z
/-- a suite with a name -/
theorem SC.suite (C : SC S tp ca fa k X Er Wf P) (hm : S.md = .calm) {i : Nat} {a : Addr} {oe : Obj} {pn : List (Addr × Obj)} {c : Nat} {md : Md} (hmd : md = .suite ∨ md = .hot) (hc : c < S.tb.excs.length) (hz : Zc (.ref (ca c)) none oe) (hv : ∃ vs, oe.data = .fields vs) (hn : md = .hot → ∀ vs, oe.data = .fields vs → vs[2]? = some .none) :
    SC { S with md := md, xi := some i, fz := i :: S.fz } false ca fa k (X.suite a ((a, oe) :: pn)) (fixE Er i (.ref a)) Wf0 { P with cur := some (i, c) } where
  ec := by
    obtain ⟨c1, c2, c3, c4, c5⟩ := C.ec.calm hm
    have hot : md = .hot → L2H.Hot1 (X.A.mark (some (.ref a))) (a, oe) := fun z => let ⟨vs, q⟩ := hv; ⟨rfl, vs, q, hn z vs q⟩
    refine ⟨C.ec.hN, C.ec.nd, C.ec.sc, C.ec.hu, C.ec.fx, C.ec.sub, C.ec.glo, fun _ => takes_down (takes_false fun _ _ _ _ ⟨_, _, _, _, z⟩ => z), takes_false fun _ _ _ _ ⟨_, _, _, _, z⟩ => z, fun z => ?_, C.ec.hots, fun z => ⟨⟨(c2.mono (Nat.le_succ k)).dp, (c2.mono (Nat.le_succ k)).un⟩, ⟨(a, oe), hot z, List.mem_cons_self⟩⟩, fun xc z => ?_, fun j z => ?_, C.ec.cls, C.ec.fnok, C.ec.hh, fun z => by rcases hmd with q | q <;> rw [show md = .calm from z] at q <;> cases q⟩
    · have z' : md = .calm := z
      rcases hmd with q | q <;> rw [q] at z' <;> cases z'
    · cases z
      refine ⟨rfl, hc, (a, oe), List.mem_cons_self, ?_, hz, hv, hot⟩
      show (if i = i then some (V.ref a) else Er i) = _
      rw [if_pos rfl]
    · have z' : j ∉ i :: S.fz := z
      show (if j = i then some (V.ref a) else Er j) = none
      rw [if_neg (fun q => z' (by rw [q]; exact List.mem_cons_self))]
      exact C.ec.er j fun q => z' (List.mem_cons_of_mem _ q)
  st := fun z => by
    have z' : md = .calm := z
    rcases hmd with q | q <;> rw [q] at z' <;> cases z'
  top := fun z => Bool.noConfusion z
  rh := fun z => by
    have z' : md = .hotr := z
    rcases hmd with q | q <;> rw [q] at z' <;> cases z'
/-- .. without -/
theorem SC.suiteO (C : SC S tp ca fa k X Er Wf P) (hm : S.md = .calm) {a : Addr} {oe : Obj} {pn : List (Addr × Obj)} : SC { S with md := .suite, xi := none } false ca fa k (X.suite a ((a, oe) :: pn)) Er Wf0 { P with cur := none } where
  ec := ⟨C.ec.hN, C.ec.nd, C.ec.sc, C.ec.hu, C.ec.fx, C.ec.sub, C.ec.glo, fun _ => takes_down (takes_false fun _ _ _ _ ⟨_, _, _, _, z⟩ => z), takes_false fun _ _ _ _ ⟨_, _, _, _, z⟩ => z, (fun z => nomatch z), C.ec.hots, (fun z => nomatch z), (fun xc z => nomatch z), C.ec.er, C.ec.cls, C.ec.fnok, C.ec.hh, fun z => nomatch z⟩
  st := fun z => nomatch z
  top := fun z => Bool.noConfusion z
  rh := fun z => nomatch z
theorem SC.suiteH (C : SC S tp ca fa k X Er Wf P) (hm : S.md = .calm) {a : Addr} {oe : Obj} {pn : List (Addr × Obj)} (tk : L2.Takes (L2H.suiteX X a ((a, oe) :: pn)) (WW ca S.tb.excs.length Wf true)) (hot : L2H.HotC (L2H.suiteX X a ((a, oe) :: pn)))
    : SC { S with md := .hotr, xi := none } false ca fa k (L2H.suiteX X a ((a, oe) :: pn)) Er Wf { P with cur := none } where
  ec := ⟨C.ec.hN, C.ec.nd, C.ec.sc, C.ec.hu, C.ec.fx, C.ec.sub, C.ec.glo, (fun z => absurd rfl z), tk, (fun z => nomatch z), C.ec.hots, (fun z => nomatch z), (fun xc z => nomatch z), C.ec.er, C.ec.cls, C.ec.fnok, C.ec.hh, fun z => nomatch z⟩
  st := fun z => nomatch z
  top := fun z => Bool.noConfusion z
  rh := fun _ => hot
end
section
variable {ca fa : Nat → Addr} {k : Nat} {S : Sta} {tp : Bool} {X : Cx} {Er : EE} {Wf : Bool → Nat → L2.St → Hp → Prop} {P : Par}
/-- two slots are fixed -/
theorem SC.pin (C : SC S tp ca fa k X Er Wf P) (hm : S.md = .calm) {x r : Nat} {v w : V} : SC { S with fz := x :: r :: S.fz } tp ca fa k X (fixE (fixE Er r v) x w) Wf P where
  ec := ⟨C.ec.hN, C.ec.nd, C.ec.sc, C.ec.hu, C.ec.fx, C.ec.sub, C.ec.glo, C.ec.tkN, C.ec.tkL, C.ec.calm, C.ec.hots, (fun z => by rw [show ({ S with fz := x :: r :: S.fz } : Sta).md = S.md from rfl, hm] at z; cases z), (fun xc z => by rw [(C.ec.calm hm).2.2.2.1] at z; cases z), (fun j z => by
      have z' : j ∉ x :: r :: S.fz := z
      rw [fixE_s, fixE_s, if_neg (fun q => z' (by rw [q]; exact List.mem_cons_self)), if_neg (fun q => z' (by rw [q]; exact List.mem_cons_of_mem _ List.mem_cons_self))]
      exact C.ec.er j fun q => z' (List.mem_cons_of_mem _ (List.mem_cons_of_mem _ q))), C.ec.cls, C.ec.fnok, C.ec.hh, C.ec.mk1⟩
  st := C.st
  top := C.top
  rh := C.rh
end
section
variable {ca fa : Nat → Addr} {k : Nat} {S : Sta} {tp : Bool} {X : Cx} {Er : EE} {Wf : Bool → Nat → L2.St → Hp → Prop} {P : Par}
/-- a slot is held -/
theorem SC.hold (C : SC S tp ca fa k X Er Wf P) (hm : S.md = .calm) {x : Nat} {w : V} : SC { S with fz := x :: S.fz, hol := true } tp ca fa k X (fixH Er x w) Wf P where
  ec := ⟨C.ec.hN, C.ec.nd, C.ec.sc, C.ec.hu, C.ec.fx, C.ec.sub, C.ec.glo, C.ec.tkN, C.ec.tkL, C.ec.calm, C.ec.hots, (fun z => by rw [show ({ S with fz := x :: S.fz, hol := true } : Sta).md = S.md from rfl, hm] at z; cases z), (fun xc z => by rw [(C.ec.calm hm).2.2.2.1] at z; cases z), (fun j z => by
      have z' : j ∉ x :: S.fz := z
      show (if j = x then some w else Er.s j) = none
      rw [if_neg (fun q => z' (by rw [q]; exact List.mem_cons_self))]
      exact C.ec.er j fun q => z' (List.mem_cons_of_mem _ q)), C.ec.cls, C.ec.fnok, (fun z => Bool.noConfusion z), C.ec.mk1⟩
  st := C.st
  top := C.top
  rh := C.rh
end
section
variable (ca fa : Nat → Addr) (k : Nat)
def StS (c : C) : Prop := ∀ (S : Sta) (tp : Bool) (st : Stmt) (X : Cx) (Er : EE) (Wf : Bool → Nat → L2.St → Hp → Prop) (P : Par), SC S tp ca fa k X Er Wf P → chkS S tp c st = true → PS X st (tS X.K Er Wf P c (hotOf S.md))
def StB (c : C) : Prop := ∀ (S : Sta) (tp : Bool) (sts : List Stmt) (X : Cx) (Er : EE) (Wf : Bool → Nat → L2.St → Hp → Prop) (P : Par), SC S tp ca fa k X Er Wf P → chkSs S tp c sts = true → PSs X sts (tS X.K Er Wf P c (hotOf S.md))
end
theorem stepB {ca fa : Nat → Addr} {k n : Nat} (A : ∀ c, sizeOf c < n → StS ca fa k c) (B : ∀ c, sizeOf c < n → StB ca fa k c) : ∀ c, sizeOf c < n + 1 → StB ca fa k c := by
  intro c hc S tp sts X Er Wf P C h
  cases c with
  | dead => exact S_deads
  | skip =>
    simp only [chkSs] at h
    cases sts with
    | nil => exact S_nil
    | cons _ _ => cases h
  | seq a b =>
    simp only [chkSs] at h
    split at h
    · simp only [Bool.and_eq_true] at h
      exact S_seq (A a (by simp at hc; omega) S tp _ X Er Wf P C h.1) (B b (by simp at hc; omega) S tp _ X Er Wf P C h.2)
    · cases h
  | gif i n a b =>
    simp only [chkSs, Bool.and_eq_true] at h
    exact S_gif (B a (by simp at hc; omega) S tp _ X Er Wf P C h.1) (B b (by simp at hc; omega) S tp _ X Er Wf P C h.2)
  | lend x r kc b c =>
    unfold chkSs at h
    split at h
    · rename_i t n q kx p2 ps st rest
      simp only [Bool.and_eq_true, decide_eq_true_eq, Bool.not_eq_true'] at h
      obtain ⟨⟨⟨⟨⟨⟨⟨⟨⟨⟨⟨⟨h1, h2⟩, h3⟩, h4⟩, h5⟩, h6⟩, h7⟩, h8⟩, h9⟩, h10⟩, h12⟩, h13⟩, h14⟩ := h
      obtain ⟨n1, n2, n3, n4⟩ := C.ec.nm h2
      obtain ⟨g1, g2, _, _⟩ := tg_ok C.ec h10
      exact S_lend n1 n2 n3 n4 C.ec.hu h3 ((chkE_ok kc C.ec h4).pe rfl true) h5 h6 h7 h8 h9 g1 (fun v w => A b (by simp at hc; omega) { S with fz := x :: r :: S.fz } tp _ X _ Wf P (C.pin h1) h13) (B c (by simp at hc; omega) S tp _ X Er Wf P C h14) (g2 x (by simp [tgs]))
    · cases h
  | href x r kc n b c =>
    unfold chkSs at h
    split at h
    · rename_i t nm q kx p2 ps rest
      simp only [Bool.and_eq_true, decide_eq_true_eq, Bool.not_eq_true'] at h
      obtain ⟨⟨⟨⟨⟨⟨⟨⟨⟨⟨⟨⟨h1, h2⟩, h3⟩, h4⟩, h5⟩, h6⟩, h7⟩, h8⟩, h9⟩, h10⟩, h12⟩, h13⟩, h14⟩ := h
      obtain ⟨n1, n2, n3, n4⟩ := C.ec.nm h2
      obtain ⟨g1, g2, _, _⟩ := tg_ok C.ec h10
      have := S_href (n := n) (pos := ps) n1 n2 n3 n4 C.ec.hu h3 ((chkE_ok kc C.ec h4).pe rfl true) h5 h6 h7 h8 h9 g1 (fun w => B b (by simp at hc; omega) { S with fz := x :: S.fz, hol := true } tp _ X _ Wf P (C.hold h1) h13) (B c (by simp at hc; omega) S tp _ X Er Wf P C h14) (g2 x (by simp [tgs])) (C.ec.hh h12)
      rwa [List.take_append_drop] at this
    · cases h
  | _ => simp [chkSs] at h
theorem stepS {ca fa : Nat → Addr} {k n : Nat} (B : ∀ c, sizeOf c < n → StB ca fa k c) : ∀ c, sizeOf c < n + 1 → StS ca fa k c := by
  intro c hc S tp st X Er Wf P C h
  cases c with
  | dead => exact S_dead
  | skip =>
    simp only [chkS] at h
    split at h
    · exact S_pass
    · exact S_doc
    · cases h
  | expr a =>
    simp only [chkS] at h
    split at h
    · simp only [Bool.and_eq_true] at h
      exact S_expr h.1.1 h.1.2 ((chkE_ok a C.ec h.2).pe rfl false)
    · cases h
  | aug o i a =>
    simp only [chkS] at h
    split at h
    · simp only [Bool.and_eq_true, decide_eq_true_eq, Bool.or_eq_true, Bool.not_eq_true'] at h
      obtain ⟨⟨⟨⟨⟨⟨h1, h2⟩, h3⟩, h4⟩, h5⟩, h6⟩, h7⟩ := h
      subst h2
      obtain ⟨l1, l2⟩ := C.ec.loc h4
      exact S_aug h1 (by rw [C.ec.hN]; exact C.ec.nd) (by rw [C.ec.hN]; exact h3) l1 l2 (C.ec.er _ h5) h6 ((chkE_ok a C.ec h7).pe rfl true)
    · cases h
  | set tg a =>
    simp only [chkS] at h
    split at h
    · rename_i t l ps
      split at h
      · split at h
        · rename_i i y py
          rw [Bool.or_eq_true] at h
          rcases h with h | h
          case inr =>
            simp only [Bool.and_eq_true, decide_eq_true_eq] at h
            obtain ⟨⟨⟨h1, h2⟩, h3⟩, h4⟩ := h
            obtain ⟨g1, g2, _, _⟩ := tg_ok C.ec h3
            exact S_setC (by rw [C.ec.sc]; exact h1) g1 g2 ((chkE_ok a C.ec h4).pe rfl false)
          simp only [Bool.and_eq_true, decide_eq_true_eq] at h
          obtain ⟨h, hx⟩ := h
          unfold lcB at h
          split at h
          · rename_i elt vs tgc it cond e2 g iter ifs kk scope p3 qq
            simp only [Bool.and_eq_true, decide_eq_true_eq, Bool.not_eq_true', List.all_eq_true] at h
            obtain ⟨⟨⟨⟨⟨⟨⟨⟨⟨⟨⟨⟨⟨⟨⟨⟨h1, h2⟩, h3⟩, h4⟩, h5⟩, h6⟩, h7⟩, h8⟩, h9⟩, h10⟩, h11⟩, h17⟩, h12⟩, h13⟩, h14⟩, h15⟩, h16⟩ := h
            subst h1
            obtain ⟨c1, c2, c3, c4, c5⟩ := C.ec.calm h2
            have key : PS X (.Assign [.Name y py] (.ListComp e2 [⟨g, iter, ifs, 0⟩] scope p3) ps) (tS X.K Er Wf P (.set (.one i) (.lc elt ((ownOf S.N vs).map (·.2)) tgc it cond)) (hotOf S.md)) := by
              refine S_setLc c1 (by rw [C.ec.hN]; exact C.ec.nd) (by rw [C.ec.hN]; exact h12) (by rw [C.ec.sc]; exact h13) (sw_true (by rw [C.ec.sc]; exact h14) (by rw [C.ec.sc]; exact h13) h15 h16) (chkI_ok it C.ec h3) (by rw [C.ec.hN, C.ec.sc]; exact blkOk_by h4)
                (fun s H D cl fp => (tg_ok (C.ec.blk h2 s H scope D cl fp) h6).1) (fun s H D cl fp => ?_) (fun s H D cl fp => (chkE_ok elt (C.ec.blk h2 s H scope D cl fp) h8).pe rfl false) (folded_plain h5) h9 h10 (fun i hi => C.ec.er i (h17 i (by rw [own_snd] at hi; exact hi))) (fun i hi => by rw [own_snd]; exact h11 i hi) (C.ec.er _ hx)
              split at h7
              · exact ⟨fun pins s2 σ H2 Q II q => pts_nil.run pins s2 σ H2 Q II (T_skip_ok _ _ _ q)⟩
              · exact pts_one ((chkE_ok _ (C.ec.blk h2 s H scope D cl fp) h7).pt rfl)
              · cases h7
            rw [own_snd] at key
            exact key
          · cases h
        · cases h
      · simp only [Bool.and_eq_true, Bool.or_eq_true, Bool.not_eq_true'] at h
        obtain ⟨⟨⟨⟨⟨h1, h2⟩, h3⟩, h4⟩, h5⟩, h6⟩ := h
        obtain ⟨g1, g2, _, _⟩ := tg_ok C.ec h5
        exact S_set h1 h2 h3 h4 g1 g2 ((chkE_ok a C.ec h6).pe rfl false)
    · cases h
  | seti i ix a =>
    simp only [chkS] at h
    split at h
    · simp only [Bool.and_eq_true, Bool.not_eq_true'] at h
      obtain ⟨⟨⟨⟨⟨⟨h1, h2⟩, h3⟩, h4⟩, h5⟩, h6⟩, h7⟩ := h
      obtain ⟨n1, n2, n3, n4⟩ := C.ec.nm h1
      exact S_seti n1 n2 n3 n4 h2 h3 h4 h5 ((chkE_ok a C.ec h6).pe rfl false) ((chkE_ok ix C.ec h7).pe rfl true)
    · cases h
  | ife c a b =>
    unfold chkS at h
    split at h
    · simp only [Bool.and_eq_true] at h
      obtain ⟨⟨h1, h2⟩, h3⟩ := h
      split at h1
      case h_2 => cases h1
      exact S_ife ((chkE_ok _ C.ec h1).pt rfl) (B a (by simp at hc; omega) S tp _ X Er Wf P C h2) (B b (by simp at hc; omega) S tp _ X Er Wf P C h3)
    · cases h
  | for_ tg it b =>
    simp only [chkS] at h
    split at h
    · simp only [Bool.and_eq_true, decide_eq_true_eq] at h
      obtain ⟨⟨⟨⟨h1, h2⟩, h3⟩, h4⟩, h5⟩ := h
      obtain ⟨g1, g2, _, _⟩ := tg_ok C.ec h3
      exact S_for (C.st h1).2.2 (C.ec.calm h1).1 (chkI_ok it C.ec h2) g1 (B b (by simp at hc; omega) S tp _ X Er Wf P C h5) g2 (folded_plain h4)
    · cases h
  | forr x r b =>
    simp only [chkS] at h
    split at h
    · simp only [Bool.and_eq_true, decide_eq_true_eq] at h
      obtain ⟨⟨⟨⟨h1, h2⟩, h3⟩, h5⟩, h6⟩ := h
      obtain ⟨n1, n2, n3, n4⟩ := C.ec.nm h2
      obtain ⟨g1, g2, _, _⟩ := tg_ok C.ec h3
      exact S_forr (C.st h1).2.2 (C.ec.calm h1).1 n1 n2 n3 n4 g1 (fun v w => B b (by simp at hc; omega) { S with fz := x :: r :: S.fz } tp _ X _ Wf P (C.pin h1) h6) (g2 x (by simp [tgs])) (folded_plain rfl)
    · cases h
  | while_ c b =>
    unfold chkS at h
    split at h
    · simp only [Bool.and_eq_true, decide_eq_true_eq] at h
      obtain ⟨⟨h1, h2⟩, h3⟩ := h
      split at h2
      case h_2 => cases h2
      exact S_while (C.st h1).2.2 ((chkE_ok _ C.ec h2).pt rfl) (B b (by simp at hc; omega) S tp _ X Er Wf P C h3)
    · cases h
  | ret a =>
    simp only [chkS] at h
    split at h
    · exact S_ret ((chkE_ok a C.ec h).pe rfl false)
    · split at h
      · exact S_retN
      · cases h
    · cases h
  | retm i =>
    simp only [chkS] at h
    split at h
    · obtain ⟨n1, n2, n3, n4⟩ := C.ec.nm h
      exact S_retm n1 n2 n3 n4
    · cases h
  | raise c =>
    simp only [chkS] at h
    split at h
    · simp only [Bool.and_eq_true, decide_eq_true_eq, Bool.or_eq_true] at h
      obtain ⟨⟨⟨h1, h2⟩, h3⟩, h4⟩ := h
      have hn : c < S.tb.excs.length := (List.getElem?_eq_some_iff.mp h3).1
      have gl := C.ec.gl h1
      rcases h4 with h4 | h4
      · rw [h4]
        exact S_raise (C.ec.calm h4).1 (C.ec.tkN (by rw [h4]; decide)) (C.ec.fx.exc c _ h3) hn gl (okN_d h2).1
      · have hot := C.rh h4
        rw [h4]
        exact S_raiseH hot C.ec.tkL (C.ec.fx.exc c _ h3) hn gl (okN_d h2).1
    · cases h
  | setp pl ix a =>
    simp only [chkS] at h
    split at h
    · simp only [Bool.and_eq_true, Bool.not_eq_true'] at h
      obtain ⟨⟨⟨⟨⟨⟨⟨h1, h2⟩, h3⟩, h4⟩, h5⟩, h6⟩, h7⟩, h8⟩ := h
      exact S_setp C.ec.hu h1 h2 h3 h4 h5 ((chkE_ok a C.ec h6).pe rfl false) (chkPl_ok pl C.ec h7) ((chkE_ok ix C.ec h8).pe rfl true)
    · cases h
  | setf pl f a =>
    simp only [chkS] at h
    split at h
    · simp only [Bool.and_eq_true, Bool.not_eq_true', decide_eq_true_eq] at h
      obtain ⟨⟨⟨⟨⟨rfl, h2⟩, h3⟩, h4⟩, h5⟩, h6⟩ := h
      exact S_setf (by rw [C.ec.cls]; exact C.ec.fx.cls) h2 h3 h4 ((chkE_ok a C.ec h5).pe rfl false) (chkPl_ok pl C.ec h6)
    · cases h
  | retb a =>
    simp only [chkS] at h
    split at h
    · exact S_retb ((chkE_ok a C.ec h).pe rfl false)
    · split at h
      · exact S_retbN
      · cases h
    · cases h
  | brk =>
    simp only [chkS] at h
    split at h
    · exact S_brk
    · cases h
  | cont =>
    simp only [chkS] at h
    split at h
    · exact S_cont
    · cases h
  | try_ b c as_ s md =>
    unfold chkS at h
    split at h
    · rename_i body xn np nm b0 suite p1 ps
      simp only [Bool.and_eq_true, decide_eq_true_eq] at h
      obtain ⟨⟨⟨⟨⟨h1, h2⟩, h3⟩, h4⟩, h5⟩, h6⟩ := h
      have hn : c < S.tb.excs.length := (List.getElem?_eq_some_iff.mp h4).1
      have W : Exw X.K P.sub ca S.tb.excs.length S.tb.names.length := by rw [C.ec.sub]; exact C.ec.fx.exw
      have hcn : L2.Names X xn (.ref (ca c)) := ⟨C.ec.gl h2, (okN_d h3).1, .inl (C.ec.fx.exc c _ h4).gC⟩
      obtain ⟨s1, s2, s3⟩ := C.st h1
      have hb : ∀ (Wf' : Bool → Nat → L2.St → Hp → Prop) (pn : List (Addr × Obj)) (xe : Value → Shared → Prop), L2N.Takes (X.tr pn xe) (WW ca S.tb.excs.length Wf' false) → L2.Takes (X.tr pn xe) (WW ca S.tb.excs.length Wf' true) → PassesOwn (model X.prog X.w) X.A X.env xe → PSs (X.tr pn xe) body (tS X.K Er Wf' P b false) := fun Wf' pn xe t1 t2 po => by
        have z := B b (by simp at hc; omega) S false body (X.tr pn xe) Er Wf' P (C.body h1 t1 t2 po) h5
        rw [h1] at z
        exact z
      rw [h1]
      split at h6
      · rename_i i y
        simp only [Bool.and_eq_true, decide_eq_true_eq] at h6
        obtain ⟨⟨⟨q1, q2⟩, q4⟩, q3⟩ := h6
        exact S_tryA s1 s2 (by rw [C.ec.hN]; exact C.ec.nd) (by rw [C.ec.hN]; exact q1) (by show X.env.scope.names.lookup y = _; rw [C.ec.sc]; exact q2) hcn W hn (C.ec.er i q4) C.ec.tkL hb fun a oe pn c' hc' hz hv =>
          B s (by simp at hc; omega) { S with md := .suite, xi := some i, fz := i :: S.fz } false _ _ _ _ _ (C.suite h1 (.inl rfl) hc' hz hv (fun z => nomatch z)) q3
      · rename_i i y
        simp only [Bool.and_eq_true, decide_eq_true_eq] at h6
        obtain ⟨⟨⟨q1, q2⟩, q4⟩, q3⟩ := h6
        exact S_tryB s1 s2 (by rw [C.ec.hN]; exact C.ec.nd) (by rw [C.ec.hN]; exact q1) (by show X.env.scope.names.lookup y = _; rw [C.ec.sc]; exact q2) hcn W hn (C.ec.er i q4) (C.ec.tkN (by rw [h1]; decide)) hb fun a oe pn c' hc' hz hv =>
          B s (by simp at hc; omega) { S with md := .hot, xi := some i, fz := i :: S.fz } false _ _ _ _ _ (C.suite h1 (.inr rfl) hc' hz.zc hv (fun _ => hz.2.2)) q3
      · exact S_tryAo s1 s2 hcn W hn C.ec.tkL hb fun a oe pn hv => B s (by simp at hc; omega) { S with md := .suite, xi := none } false _ _ _ _ _ (C.suiteO h1) h6
      · simp only [Bool.and_eq_true] at h6
        exact S_tryC s1 s2 hcn W hn (C.top h6.1) C.ec.tkL hb fun a oe pn hv tkS hot => B s (by simp at hc; omega) { S with md := .hotr, xi := none } false _ _ _ _ _ (C.suiteH h1 tkS hot) h6.2
      · cases h6
    · cases h
  | try2 b c1 s1 c2 s2 i =>
    unfold chkS at h
    split at h
    · rename_i body x1 np1 y1 b1 u1 hp1 x2 np2 y2 b2 u2 hp2 ps
      simp only [Bool.and_eq_true, decide_eq_true_eq] at h
      obtain ⟨⟨⟨⟨⟨⟨⟨⟨⟨⟨⟨⟨⟨h1, h2⟩, h3⟩, h4⟩, h5⟩, h6⟩, h7⟩, h8⟩, h9⟩, q1⟩, q2⟩, q3⟩, q4⟩, q5⟩ := h
      subst h9
      have hn1 : c1 < S.tb.excs.length := (List.getElem?_eq_some_iff.mp h4).1
      have hn2 : c2 < S.tb.excs.length := (List.getElem?_eq_some_iff.mp h7).1
      have W : Exw X.K P.sub ca S.tb.excs.length S.tb.names.length := by rw [C.ec.sub]; exact C.ec.fx.exw
      have hcn1 : L2.Names X x1 (.ref (ca c1)) := ⟨C.ec.gl h2, (okN_d h3).1, .inl (C.ec.fx.exc c1 _ h4).gC⟩
      have hcn2 : L2.Names X x2 (.ref (ca c2)) := ⟨C.ec.gl h5, (okN_d h6).1, .inl (C.ec.fx.exc c2 _ h7).gC⟩
      obtain ⟨t1, t2, t3⟩ := C.st h1
      have hb : ∀ (Wf' : Bool → Nat → L2.St → Hp → Prop) (pn : List (Addr × Obj)) (xe : Value → Shared → Prop), L2N.Takes (X.tr pn xe) (WW ca S.tb.excs.length Wf' false) → L2.Takes (X.tr pn xe) (WW ca S.tb.excs.length Wf' true) → PassesOwn (model X.prog X.w) X.A X.env xe → PSs (X.tr pn xe) body (tS X.K Er Wf' P b false) := fun Wf' pn xe t1 t2 po => by
        have z := B b (by simp at hc; omega) S false body (X.tr pn xe) Er Wf' P (C.body h1 t1 t2 po) h8
        rw [h1] at z
        exact z
      rw [h1]
      exact S_try2 t1 t2 (by rw [C.ec.hN]; exact C.ec.nd) (by rw [C.ec.hN]; exact q1) (by show X.env.scope.names.lookup y2 = _; rw [C.ec.sc]; exact q2) hcn1 hcn2 W hn1 hn2 (C.ec.er i q3) C.ec.tkL hb
        (fun a oe pn c' hc' hz hv => B s1 (by simp at hc; omega) { S with md := .suite, xi := some i, fz := i :: S.fz } false _ _ _ _ _ (C.suite h1 (.inl rfl) hc' hz hv (fun z => nomatch z)) q4)
        (fun a oe pn c' hc' hz hv => B s2 (by simp at hc; omega) { S with md := .suite, xi := some i, fz := i :: S.fz } false _ _ _ _ _ (C.suite h1 (.inl rfl) hc' hz hv (fun z => nomatch z)) q5)
    · cases h
  | _ => simp [chkS] at h
theorem chkS_all {ca fa : Nat → Addr} {k : Nat} : ∀ (n : Nat) (c : C), sizeOf c < n → StS ca fa k c ∧ StB ca fa k c := by
  intro n
  induction n with
  | zero => intro c h; omega
  | succ n ih => exact fun c hc => ⟨stepS (fun c h => (ih c h).2) c hc, stepB (fun c h => (ih c h).1) (fun c h => (ih c h).2) c hc⟩
theorem chkSs_ok {ca fa : Nat → Addr} {k : Nat} {S : Sta} {tp : Bool} {sts : List Stmt} {X : Cx} {Er : EE} {Wf : Bool → Nat → L2.St → Hp → Prop} {P : Par} (c : C) (C : SC S tp ca fa k X Er Wf P) (h : chkSs S tp c sts = true) : PSs X sts (tS X.K Er Wf P c (hotOf S.md)) :=
  (chkS_all _ c (Nat.lt_succ_self _)).2 S tp sts X Er Wf P C h
end VI
set_option maxRecDepth 100000
set_option maxHeartbeats 4000000
/-! VI: a whole program's defs, by one induction over the depth of calls. -/
namespace VI
open PySem PySem.Spec PyProof.Rows L2 RZ

/-- a def as the text has it, and as the core language has it -/
structure DRow where
  st : Stmt
  N : List Str
  ps : List Str
  row : FnRow
  fn : Fn
def scopeB (N P : List Str) (sc : Scope) : Bool := decide (sc.kind = .function) && !sc.isCoroutine && !sc.isGenerator && decide N.Nodup && decide (N.take P.length = P) && P.all (fun x => match sc.names.lookup x with
  | some .local => true
  | some .cell => true
  | _ => false) && sc.names.all fun y => decide (y.2 ≠ .free)
theorem scopeB_ok {N P : List Str} {sc : Scope} (h : scopeB N P sc = true) : FnScope N P sc := by
  unfold scopeB at h
  simp only [Bool.and_eq_true, decide_eq_true_eq, Bool.not_eq_true', List.all_eq_true] at h
  obtain ⟨⟨⟨⟨⟨⟨h1, h2⟩, h3⟩, h4⟩, h5⟩, h6⟩, h7⟩ := h
  refine ⟨h1, h2, h3, h4, h5, fun x hx => ?_, h7⟩
  have := h6 x hx
  split at this
  · exact .inl (by assumption)
  · exact .inr (by assumption)
  · cases this
def rowB (tb : Tb) (d : DRow) : Bool := scopeB d.N d.ps (defScope d.st) && decide (d.fn.ns = d.N.length) && decide (d.fn.ps = d.ps.length) && decide (d.row.ps = d.ps.length) && (d.fn.late == d.row.late) && decide (d.ps.length ≤ d.N.length) && (d.fn.br == d.row.br) &&
  (if d.row.hot then decide (d.ps.length = 1) && decide (0 < d.N.length) && !d.row.br && chkSs ⟨tb, d.N, defScope d.st, .hot, some 0, true, [0], false⟩ false d.fn.body (defBody d.st)
   else chkSs ⟨tb, d.N, defScope d.st, .calm, none, true, if d.row.br then [0] else [], false⟩ true d.fn.body (defBody d.st))
/-- the text of a def stands behind the top -/
def Stands (K : PySem.W.Frag) (fa : Nat → Addr) (R : Nat → DRow → FuncData → Prop) (f : Nat) (d : DRow) : Prop := ∃ fd, FunD K d.row.nm d.row.qual (defArgs d.st) (defBody d.st) (defScope d.st) [] [] (fa f) fd ∧ Binds K fd d.ps [] ∧ R f d fd
section
variable {P : Program} {w : World} {K : PySem.W.Frag} {mg : Str → Option Value} {base : Heap} {ca fa : Nat → Addr}
theorem spI_imp {n ps : Nat} {cr cr' : List D → CR} {Er : EE} {vs : List V} {H : Hp} {Q : VK} {E : XK} (h : spI K Er ca n ps cr vs H Q E) (e : ∀ ds : List D, ds.length = ps → cr ds = cr' ds) : spI K Er ca n ps cr' vs H Q E := by
  obtain ⟨F, ds, L, hl, fa, r, n1, n2, h⟩ := h
  exact ⟨F, ds, L, hl, fa, r, n1, n2, by rw [← e ds hl]; exact h⟩
theorem callF_succ {G : Prg} {k f : Nat} {fn : Fn} (hf : G.fns[f]? = some fn) {ds : List D} (hl : ds.length = fn.ps) (hb : fn.br = false) : callF G (k + 1) f ds = outC fn.late (run (par G k) fn.body false (startE fn.ns ds)) := by
  unfold callF
  simp only [callG, hf]
  rw [if_pos ⟨hl, hb⟩]
  rfl
theorem callB_succ {G : Prg} {k f : Nat} {fn : Fn} (hf : G.fns[f]? = some fn) {ds : List D} (hl : ds.length = fn.ps) (hb : fn.br = true) : callB G (k + 1) f ds = outB fn.late (run (par G k) fn.body false (startE fn.ns ds)) := by
  simp only [callB, hf]
  rw [if_pos ⟨hl, hb⟩]
  rfl
theorem callF_len {G : Prg} {k f : Nat} {fn : Fn} (hf : G.fns[f]? = some fn) {ds : List D} (e : callF G k f ds ≠ .stuck) : ds.length = fn.ps := by
  cases k with
  | zero => exact absurd (by unfold callF; simp only [callG]) e
  | succ k =>
    unfold callF at e
    simp only [callG, hf] at e
    by_cases h : ds.length = fn.ps ∧ fn.br = false
    · exact h.1
    · rw [if_neg h] at e; exact absurd rfl e
theorem callB_len {G : Prg} {k f : Nat} {fn : Fn} (hf : G.fns[f]? = some fn) {ds : List D} (e : callB G k f ds ≠ .stuck) : ds.length = fn.ps := by
  cases k with
  | zero => exact absurd (by simp only [callB]) e
  | succ k =>
    simp only [callB, hf] at e
    by_cases h : ds.length = fn.ps ∧ fn.br = true
    · exact h.1
    · rw [if_neg h] at e; exact absurd rfl e
theorem outB_late {late : Bool} {o : Out} {c : Nat} {h : Bool} {d : D} (e : outB late o = .ex c h d) : h = late := by
  unfold outB at e
  split at e
  · split at e <;> cases e
  · split at e <;> cases e
  · split at e
    · split at e
      · rename_i hl; cases e; exact hl.symm
      · rename_i hl
        split at e
        · cases e
        · cases e
          cases late with
          | true => exact absurd rfl hl
          | false => rfl
    · cases e
  · cases e
theorem callB_late {G : Prg} {k f : Nat} {fn : Fn} (hf : G.fns[f]? = some fn) {ds : List D} {c : Nat} {h : Bool} {d : D} (e : callB G k f ds = .ex c h d) : h = fn.late := by
  cases k with
  | zero => simp only [callB] at e; cases e
  | succ k =>
    simp only [callB, hf] at e
    split at e
    · exact outB_late e
    · cases e
theorem spB_imp {n ps : Nat} {cr cr' : List D → BR} {Er : EE} {vs : List V} {H : Hp} {Q : VK} {E : XK} (h : spB K Er ca n ps cr vs H Q E) (e : ∀ ds : List D, ds.length = ps → cr ds = cr' ds) : spB K Er ca n ps cr' vs H Q E := by
  obtain ⟨F, d0, ds, v0, vs', L, h0, hl, fa, r0, nd, nf, r, h⟩ := h
  exact ⟨F, d0, ds, v0, vs', L, h0, hl, fa, r0, nd, nf, r, by rw [← e (d0 :: ds) (by simpa using hl)]; exact h⟩
theorem outC_late {late : Bool} {o : Out} {c : Nat} {h : Bool} (e : outC late o = .ex c h) : h = late := by
  cases o <;> simp only [outC] at e <;> (first | (cases e; done) | skip)
  split at e
  · rename_i hl; cases e; exact hl.symm
  · rename_i hl
    split at e
    · cases e
    · cases e
      cases late with
      | true => exact absurd rfl hl
      | false => rfl
theorem callF_late {G : Prg} {k f : Nat} {fn : Fn} (hf : G.fns[f]? = some fn) {ds : List D} {c : Nat} {h : Bool} (e : callF G k f ds = .ex c h) : h = fn.late := by
  cases k with
  | zero => unfold callF at e; simp only [callG] at e; cases e
  | succ k =>
    unfold callF at e
    simp only [callG, hf] at e
    split at e
    · exact outC_late e
    · cases e
/-- the context of a calm body -/
theorem sc_calm {tb : Tb} {G : Prg} {k : Nat} (h1k : 1 ≤ k) {N : List Str} {qual : Str} {sc : Scope} {f : Addr} {cd : Value} {A : Around} {outer : List PySem.Env} {s : Shared} {H : Hp} {E : XK} {Er : EE} {fz : List Nat} (late : Bool) (F : Fx tb K mg ca fa) (nd : N.Nodup) (hsub : G.sub = tb.sub) (hglo : G.glo = fun g => (tb.glos[g]?).map (·.2)) (hcls : G.cls = tb.cls) (her : ∀ i, i ∉ fz → Er i = none) (hhh : ∀ i, Er.h i = none) {kG : Nat}
    (room : Room (k + 1) (A.deeper (envOfC qual sc s.heap.objs.size f cd)))
    (hc : ∀ X : Cx, X.prog = P → X.w = w → X.K = K → X.mg = mg → X.base = base → CallsOk tb ca fa k X (par G kG))
    (hbr : ∀ X : Cx, X.prog = P → X.w = w → X.K = K → X.mg = mg → X.base = base → BrsOk tb ca fa k X (par G kG))
    (hh : ∀ X : Cx, X.prog = P → X.w = w → X.K = K → X.mg = mg → X.base = base → HotsOk tb ca fa k X (par G kG)) :
    SC ⟨tb, N, sc, .calm, none, true, fz, false⟩ true ca fa k (cxOf (cxb late P w) P w K mg base N qual sc f cd A outer s H E) Er (wfE ca tb.excs.length late E) (par G kG) := by
  have un : (A.deeper (envOfC qual sc s.heap.objs.size f cd)).units + 64 < cLine := by have := room.un; omega
  refine ⟨⟨rfl, nd, rfl, un, F, hsub, hglo, fun _ => ?_, ?_, fun _ => ⟨rfl, room, hbr _ rfl rfl rfl rfl rfl, rfl, hc _ rfl rfl rfl rfl rfl⟩, hh _ rfl rfl rfl rfl rfl, (fun z => nomatch z), (fun xc z => nomatch z), her, hcls, fun _ _ => rfl, fun _ => hhh, fun _ => h1k⟩, fun _ => ⟨rfl, rfl, ?_⟩, fun _ hd => ?_, fun z => nomatch z⟩
  · cases late with
    | false => exact (L2N.takes_of rfl rfl rfl rfl).imp fun cls d σ H ⟨c, h1, h2, h3, _, h4⟩ => by subst h2 h3; exact h4 h1
    | true => exact takes_down ((L2.takes_of rfl rfl rfl rfl).imp fun cls d σ H ⟨c, h1, h2, h3, _, h4⟩ => by subst h2 h3; exact h4 h1)
  · cases late with
    | false => exact takes_false fun cls d σ H ⟨c, h1, h2, h3, h4, _⟩ => h4.elim (fun z => Bool.noConfusion z) fun z => Bool.noConfusion z
    | true => exact (L2.takes_of rfl rfl rfl rfl).imp fun cls d σ H ⟨c, h1, h2, h3, _, h4⟩ => by subst h2 h3; exact h4 h1
  · exact L2.passes_of rfl
  · exact L2H.passesAt_of rfl hd
theorem sc_hot {tb : Tb} {G : Prg} {k c : Nat} {N : List Str} {qual : Str} {sc : Scope} {f : Addr} {cd : Value} {A : Around} {outer : List PySem.Env} {s : Shared} {H : Hp} {p : Addr × Obj} {kG : Nat} (F : Fx tb K mg ca fa) (nd : N.Nodup) (hsub : G.sub = tb.sub) (hglo : G.glo = fun g => (tb.glos[g]?).map (·.2)) (hcls : G.cls = tb.cls)
    (room : L2H.RoomH k (A.deeper (envOfC qual sc s.heap.objs.size f cd))) (hot : L2H.Hot1 A p) (hc : c < tb.excs.length) (hz : Zc (.ref (ca c)) none p.2)
    (hh : ∀ (X : Cx) (Pa : Par), X.prog = P → X.w = w → X.K = K → X.mg = mg → X.base = base → Pa.ch = callX G kG → HotsOk tb ca fa k X Pa) :
    SC ⟨tb, N, sc, .hot, some 0, true, [0], false⟩ false ca fa k (L2H.cxH CX0 P w K mg base N qual sc f cd A outer s H E0 p) (fixE Er0 0 (.ref p.1)) Wf0 { par G kG with cl := fun _ _ => .stuck, bc := fun _ _ => .stuck, cur := some (0, c) } := by
  have un : (A.deeper (envOfC qual sc s.heap.objs.size f cd)).units + 64 < cLine := by have := room.un; omega
  refine ⟨⟨rfl, nd, rfl, un, F, hsub, hglo, fun _ => takes_down (takes_false fun _ _ _ _ ⟨_, _, _, _, z⟩ => z), takes_false fun _ _ _ _ ⟨_, _, _, _, z⟩ => z, (fun z => nomatch z), hh _ _ rfl rfl rfl rfl rfl rfl, fun _ => ⟨room, p, hot, List.mem_cons_self⟩, fun xc z => ?_, fun i z => ?_, hcls, fun _ _ => rfl, fun _ _ => rfl, fun z => nomatch z⟩, (fun z => nomatch z), (fun z => Bool.noConfusion z), fun z => nomatch z⟩
  · cases z
    obtain ⟨hh1, vs, hv, _⟩ := hot
    exact ⟨rfl, hc, p, List.mem_cons_self, rfl, hz, ⟨vs, hv⟩, fun _ => ⟨hh1, vs, hv, by assumption⟩⟩
  · show (if i = 0 then some (V.ref p.1) else Er0 i) = none
    rw [if_neg fun q => z (by rw [q]; exact List.mem_cons_self)]
    rfl
theorem calls_of {R : Nat → DRow → FuncData → Prop} {tb : Tb} {rows : List DRow} {G : Prg} {k kG : Nat} (hfn : tb.fns = rows.map (·.row)) (hG : G.fns = rows.map (·.fn)) (hps : ∀ d ∈ rows, d.row.ps = d.ps.length ∧ d.fn.late = d.row.late)
    (ih : ∀ f d, rows[f]? = some d → d.row.hot = false → d.row.br = false → ∃ fd, FnOk P w K mg base (cxb d.row.late P w) k (fa f) fd d.ps (spI K Er0 ca tb.excs.length d.ps.length (callF G kG f)) ∧ Binds K fd d.ps [] ∧ R f d fd) (hps2 : ∀ d ∈ rows, d.fn.ps = d.ps.length) :
    ∀ X : Cx, X.prog = P → X.w = w → X.K = K → X.mg = mg → X.base = base → CallsOk tb ca fa k X (par G kG) := by
  rintro X rfl rfl rfl rfl rfl f r hr hh hbr
  rw [hfn, List.getElem?_map] at hr
  cases hd : rows[f]? with
  | none => rw [hd] at hr; cases hr
  | some d =>
    rw [hd] at hr
    cases hr
    obtain ⟨fd, h1, h2, _⟩ := ih f d hd hh hbr
    obtain ⟨p1, p2⟩ := hps d (List.mem_of_getElem? hd)
    exact ⟨fd, d.ps, h1, h2, p1.symm, (fun ds c h e => by
      rw [← p2]
      exact callF_late (fn := d.fn) (by rw [hG, List.getElem?_map, hd]; rfl) e), fun ds e => by
      rw [← hps2 d (List.mem_of_getElem? hd)]
      exact callF_len (fn := d.fn) (by rw [hG, List.getElem?_map, hd]; rfl) e⟩
theorem brs_of {tb : Tb} {rows : List DRow} {G : Prg} {k kG : Nat} (hfn : tb.fns = rows.map (·.row)) (hG : G.fns = rows.map (·.fn)) (hps : ∀ d ∈ rows, d.row.ps = d.ps.length ∧ d.fn.late = d.row.late)
    (ih : ∀ f d, rows[f]? = some d → d.row.hot = false → d.row.br = true → ∃ fd, FnOk P w K mg base (cxb d.row.late P w) k (fa f) fd d.ps (spB K Er0 ca tb.excs.length d.ps.length (callB G kG f)) ∧ Binds K fd d.ps []) (hps2 : ∀ d ∈ rows, d.fn.ps = d.ps.length) :
    ∀ X : Cx, X.prog = P → X.w = w → X.K = K → X.mg = mg → X.base = base → BrsOk tb ca fa k X (par G kG) := by
  rintro X rfl rfl rfl rfl rfl f r hr hh hbr
  rw [hfn, List.getElem?_map] at hr
  cases hd : rows[f]? with
  | none => rw [hd] at hr; cases hr
  | some d =>
    rw [hd] at hr
    cases hr
    obtain ⟨fd, h1, h2⟩ := ih f d hd hh hbr
    obtain ⟨p1, p2⟩ := hps d (List.mem_of_getElem? hd)
    exact ⟨fd, d.ps, h1, h2, (fun c h ds d0 e => by
      rw [← p2]
      exact callB_late (fn := d.fn) (by rw [hG, List.getElem?_map, hd]; rfl) e), fun ds e => by
      rw [← hps2 d (List.mem_of_getElem? hd)]
      exact callB_len (fn := d.fn) (by rw [hG, List.getElem?_map, hd]; rfl) e⟩
theorem hots_of {tb : Tb} {rows : List DRow} {G : Prg} {k kG : Nat} (hfn : tb.fns = rows.map (·.row)) (hps : ∀ d ∈ rows, d.row.ps = d.ps.length ∧ d.fn.late = d.row.late)
    (ih : ∀ f d, rows[f]? = some d → d.row.hot = true → ∃ fd, HotFn P w K mg base k (fa f) fd d.ps (spX K ca tb.excs.length (callX G kG f)) ∧ Binds K fd d.ps []) :
    ∀ (X : Cx) (Pa : Par), X.prog = P → X.w = w → X.K = K → X.mg = mg → X.base = base → Pa.ch = callX G kG → HotsOk tb ca fa k X Pa := by
  rintro X Pa rfl rfl rfl rfl rfl hch f r hr hh
  rw [hfn, List.getElem?_map] at hr
  cases hd : rows[f]? with
  | none => rw [hd] at hr; cases hr
  | some d =>
    rw [hd] at hr
    cases hr
    obtain ⟨fd, h1, h2⟩ := ih f d hd hh
    exact ⟨fd, d.ps, by rw [hch]; exact h1, h2, (hps d (List.mem_of_getElem? hd)).1.symm⟩
/-- ALL DEFS: what the evaluator tells of a def, that it does -/
theorem table_ok {R : Nat → DRow → FuncData → Prop} {tb : Tb} {rows : List DRow} {G : Prg} (F : Fx tb K mg ca fa) (hfn : tb.fns = rows.map (·.row)) (hG : G.fns = rows.map (·.fn)) (hsub : G.sub = tb.sub) (hglo : G.glo = fun g => (tb.glos[g]?).map (·.2)) (hcls : G.cls = tb.cls) (hB : rows.all (rowB tb) = true)
    (hst : ∀ f d, rows[f]? = some d → Stands K fa R f d) : ∀ k,
    (∀ f d, rows[f]? = some d → d.row.hot = false → d.row.br = false → ∃ fd, FnOk P w K mg base (cxb d.row.late P w) (2 * k + 1) (fa f) fd d.ps (spI K Er0 ca tb.excs.length d.ps.length (callF G k f)) ∧ Binds K fd d.ps [] ∧ R f d fd) ∧
    (∀ f d, rows[f]? = some d → d.row.hot = true → ∃ fd, HotFn P w K mg base (2 * k + 1) (fa f) fd d.ps (spX K ca tb.excs.length (callX G k f)) ∧ Binds K fd d.ps []) ∧
    (∀ f d, rows[f]? = some d → d.row.hot = false → d.row.br = true → ∃ fd, FnOk P w K mg base (cxb d.row.late P w) (2 * k + 1) (fa f) fd d.ps (spB K Er0 ca tb.excs.length d.ps.length (callB G k f)) ∧ Binds K fd d.ps []) := by
  have hrow : ∀ d ∈ rows, rowB tb d = true := fun d hd => List.all_eq_true.mp hB d hd
  have hps : ∀ d ∈ rows, d.row.ps = d.ps.length ∧ d.fn.late = d.row.late := fun d hd => by
    have h := hrow d hd
    unfold rowB at h
    simp only [Bool.and_eq_true, decide_eq_true_eq, beq_iff_eq] at h
    exact ⟨h.1.1.1.1.2, h.1.1.1.2⟩
  have hps2 : ∀ d ∈ rows, d.fn.ps = d.ps.length := fun d hd => by
    have h := hrow d hd
    unfold rowB at h
    simp only [Bool.and_eq_true, decide_eq_true_eq, beq_iff_eq] at h
    exact h.1.1.1.1.1.2
  intro k
  induction k with
  | zero =>
    refine ⟨fun f d hd hh _ => ?_, fun f d hd hh => ?_, fun f d hd hh _ => ?_⟩
    · obtain ⟨fd, h1, h2, h3⟩ := hst f d hd
      refine ⟨fd, ⟨fun vs H Q E h => spI_len h, fun A outer s H args us vs Q E _ _ _ _ h => ?_⟩, h2, h3⟩
      obtain ⟨F0, ds, _, _, _, _, _, _, h⟩ := h
      exact False.elim h
    · obtain ⟨fd, h1, h2, _⟩ := hst f d hd
      refine ⟨fd, ⟨fun A o s H us vs Q p _ _ _ _ _ _ _ h => ?_⟩, h2⟩
      obtain ⟨c, _, _, _, h⟩ := h
      exact False.elim h
    · obtain ⟨fd, h1, h2, _⟩ := hst f d hd
      refine ⟨fd, ⟨fun vs H Q E h => spB_len h, fun A outer s H args us vs Q E _ _ _ _ h => ?_⟩, h2⟩
      obtain ⟨F0, d0, ds, v0, vs', L, _, _, _, _, _, _, _, h⟩ := h
      exact False.elim h
  | succ k ih =>
    have hc := calls_of hfn hG hps ih.1 hps2
    have hbr := brs_of hfn hG hps ih.2.2 hps2
    have hh := hots_of hfn hps ih.2.1
    refine ⟨fun f d hd hot br => ?_, fun f d hd hot => ?_, fun f d hd hot br => ?_⟩
    · obtain ⟨fd, h1, h2, h3⟩ := hst f d hd
      have h := hrow d (List.mem_of_getElem? hd)
      unfold rowB at h
      rw [hot, br] at h
      simp only [Bool.and_eq_true, decide_eq_true_eq, beq_iff_eq, Bool.false_eq_true, if_false] at h
      obtain ⟨⟨⟨⟨⟨⟨⟨b1, b2⟩, b3⟩, b4⟩, b5⟩, b6⟩, b8⟩, b7⟩ := h
      have S := scopeB_ok b1
      refine ⟨fd, h1.ok S (fun vs H Q E h => spI_len h) fun cdv A outer s H vs Q E room hsp => ?_, h2, h3⟩
      refine ⟨_, chkSs_ok d.fn.body (sc_calm (k := 2 * k + 1) (by omega) (Er := Er0) (fz := []) d.row.late F S.nd hsub hglo hcls (fun _ _ => rfl) (fun _ => rfl) room hc hbr (fun X e1 e2 e3 e4 e5 => hh X _ e1 e2 e3 e4 e5 rfl)) b7, ?_⟩
      refine body_rd (fn := d.fn) (ps := d.ps.length) b6 (spI_imp hsp fun ds hl => ?_)
      rw [callF_succ (fn := d.fn) (by rw [hG, List.getElem?_map, hd]; rfl) (by rw [b3]; exact hl) b8, b5, b2]
    · obtain ⟨fd, h1, h2, _⟩ := hst f d hd
      have h := hrow d (List.mem_of_getElem? hd)
      unfold rowB at h
      rw [hot] at h
      simp only [Bool.and_eq_true, decide_eq_true_eq, beq_iff_eq, if_true] at h
      obtain ⟨⟨⟨⟨⟨⟨⟨b1, b2⟩, b3⟩, b4⟩, b5⟩, b6⟩, b10⟩, ⟨⟨b7, b8⟩, b11⟩, b9⟩ := h
      have S := scopeB_ok b1
      refine ⟨fd, hot_of h1 S fun cdv A o s H vs Q p hp room hl hsp => ?_, h2⟩
      obtain ⟨c, hc', hz, read⟩ := hot_rd (Pa := { par G k with cl := fun _ _ => .stuck, bc := fun _ _ => .stuck }) (b := d.fn.body) (N := d.N) b8 hsp fun c ⟨d0, hok⟩ => by
        unfold callX
        have hf : G.fns[f]? = some d.fn := by rw [hG, List.getElem?_map, hd]; rfl
        simp only [callG, hf]
        rw [if_pos (by rw [b3]; exact b7), b2]
        rfl
      exact ⟨_, chkSs_ok d.fn.body (sc_hot F S.nd hsub hglo hcls (room.mono (Nat.le_succ _)) hp hc' hz hh) b9, read⟩
    · obtain ⟨fd, h1, h2, h3⟩ := hst f d hd
      have h := hrow d (List.mem_of_getElem? hd)
      unfold rowB at h
      rw [hot, br] at h
      simp only [Bool.and_eq_true, decide_eq_true_eq, beq_iff_eq, Bool.false_eq_true, if_false, if_true] at h
      obtain ⟨⟨⟨⟨⟨⟨⟨b1, b2⟩, b3⟩, b4⟩, b5⟩, b6⟩, b8⟩, b7⟩ := h
      have S := scopeB_ok b1
      refine ⟨fd, h1.ok S (fun vs H Q E h => spB_len h) fun cdv A outer s H vs Q E room hsp => ?_, h2⟩
      obtain ⟨v0, vs', ev, hb⟩ := body_rdB (fn := d.fn) (N := d.N) (Pa := par G k) (late := d.row.late) (ps := d.ps.length) b6 (spB_imp hsp fun ds hl => by
        rw [callB_succ (fn := d.fn) (by rw [hG, List.getElem?_map, hd]; rfl) (by rw [b3]; exact hl) b8, b5, b2])
      refine ⟨_, chkSs_ok d.fn.body (sc_calm (k := 2 * k + 1) (by omega) (Er := fixE Er0 0 v0) (fz := [0]) d.row.late F S.nd hsub hglo hcls (fun i z => ?_) (fun _ => rfl) room hc hbr (fun X e1 e2 e3 e4 e5 => hh X _ e1 e2 e3 e4 e5 rfl)) b7, hb⟩
      show (if i = 0 then some v0 else Er0 i) = none
      rw [if_neg fun q => z (by rw [q]; exact List.mem_cons_self)]
      rfl
/-- where nothing is raised -/
theorem to0 {late : Bool} {k f : Nat} {n : Nat} {fd : FuncData} {ps : List Str} {cr : List D → CR} (FO : FnOk P w K mg base (cxb late P w) k f fd ps (spI K Er0 ca n ps.length cr)) :
    FnOk P w K mg base CX0 k f fd ps (fun vs H Q _ => spI K Er0 ca n ps.length cr vs H Q fun _ _ _ => False) := by
  refine ⟨fun vs H Q E h => spI_len h, fun A outer s H args us vs Q E r e0 b v h => ?_⟩
  refine codeAny_mono (FO.run A outer s H args us vs Q _ r e0 b v h) fun r s' hq => ?_
  cases r with
  | ok fl => cases fl <;> exact hq
  | error e =>
    cases late with
    | false =>
      obtain ⟨_, _, _, _, _, _, _, _, _, _, _, _, z⟩ := hq
      exact False.elim z
    | true =>
      obtain ⟨_, _, _, _, _, _, _, _, _, _, _, _, z⟩ := hq
      exact False.elim z
end
end VI
set_option maxRecDepth 100000
set_option maxHeartbeats 4000000
/-! VI: the head's facts, the law's end. -/
namespace VI
open PySem PySem.Spec PyProof.Rows L2 RZ

/-! ### facts, as a Bool of a part of the heap -/
def caOf (tb : Tb) (K : PySem.W.Frag) (c : Nat) : Addr := He.ga K (tb.names.getD c "")
def faOf (tb : Tb) (K : PySem.W.Frag) (f : Nat) : Addr := He.fAd K ((tb.fns[f]?).elim ("", none) atOf)
def excB (K : PySem.W.Frag) (D : Addr) : Bool :=
  decide (PySem.W.findIn K (.ref D) "__getattribute__" = some (some (.builtin "BaseException.__getattribute__"))) &&
  (decide (PySem.W.findIn K (.ref D) "__getattr__" = some none) &&
  (decide (PySem.W.subIn K (.ref D) (.type "BaseException") = some true) &&
  (PySem.W.hasDictIn K D &&
  (decide (PySem.W.findIn K (.ref D) "__class__" = some (some (.builtin "object.__class__"))) &&
  (decide (PySem.W.specialIn K (.builtin "object.__class__") "__get__" = some (some (.builtin "getset_descriptor.__get__"))) &&
  (decide (PySem.W.takesIn K (.builtin "object.__class__") = some true) &&
  (decide (PySem.W.mroIn K D (.type "object") = some true) &&
  decide (PySem.W.kitOne K (.ref D) (.type "ValueError") = some true))))))))
def gloB (K : PySem.W.Frag) (r : Str × D) : Bool := match r.2 with
  | .int i => (He.Fa.int r.1 i).ok K
  | .str z => (He.Fa.str r.1 z).ok K
  | _ => false
def clsB (tb : Tb) (K : PySem.W.Frag) (r : ClsR) : Bool := (He.Fa.glo r.nm).ok K && ((He.Fa.cls r.nm).ok K && ((r.flds.all fun f => (He.Fa.noat r.nm f).ok K) && ((r.ms.all fun p => (He.Fa.meth r.nm p.1).ok K && decide (He.ma K (He.ga K r.nm) p.1 = faOf tb K p.2)) &&
  (match r.init with
  | some f => (He.Fa.mkr r.nm).ok K && decide (He.ma K (He.ga K r.nm) "__init__" = faOf tb K f)
  | none => PySem.W.makesIn K (He.ga K r.nm) && (decide (PySem.W.findIn K (.ref (He.ga K r.nm)) "__init__" = some (some (.builtin "object.__init__"))) && PySem.W.keepIn K (.ref (He.ga K r.nm)))))))
def upto (n : Nat) : List Nat := List.range n
def insB (K : PySem.W.Frag) (c : Str) : Bool := (He.Fa.cls c).ok K && (decide (PySem.W.findIn K (.ref (He.ga K c)) "__class__" = some (some (.builtin "object.__class__"))) && (decide (PySem.W.specialIn K (.builtin "object.__class__") "__get__" = some (some (.builtin "getset_descriptor.__get__"))) &&
  (decide (PySem.W.takesIn K (.builtin "object.__class__") = some true) && decide (PySem.W.mroIn K (He.ga K c) (.type "object") = some true))))
/-- an exception class whose __init__ is its own -/
def oexB (K : PySem.W.Frag) (C : Addr) : Bool := (match K.lookup C with
  | some ⟨.type "type", _, .cls cd, sl⟩ => (match cd.mro, sl.toList with
    | .ref C1 :: bm, [_, _, _, _, some (.builtin nw), _] => decide (C1 = C) && (decide (nw = "ValueError.__new__") && (!cd.hasDel && (cd.hasDict && PySem.HandSPX.refsVE bm)))
    | _, _ => false)
  | _ => false) && (decide (PySem.W.findIn K (.ref C) "__setattr__" = some (some (.builtin "object.__setattr__"))) && (decide (PySem.W.subIn K (.ref C) (.type "BaseException") = some true) && (decide (PySem.W.typeIn K (.ref C) = some (.type "type")) && PySem.W.keepIn K (.ref C))))
theorem oexB_ok {K : PySem.W.Frag} {C : Addr} (h : oexB K C = true) : OexC K C := by
  unfold oexB at h
  simp only [Bool.and_eq_true, decide_eq_true_eq] at h
  obtain ⟨w, y1, y2, y3, y4⟩ := h
  refine ⟨?_, y1, y2, y3, y4⟩
  split at w
  · rename_i dd cd sl lk
    split at w
    · rename_i C1 bm k0 k1 k2 k3 nw k5 em es
      simp only [Bool.and_eq_true, decide_eq_true_eq, Bool.not_eq_true'] at w
      obtain ⟨w1, w2, w3, w4, w5⟩ := w
      obtain ⟨nm, bs, mro, N, q, hd, sn, sub, ab, col, del⟩ := cd
      dsimp only at em w3 w4
      subst em w1 w2 w3 w4
      obtain ⟨ls⟩ := sl
      dsimp only at es
      subst es
      exact ⟨nm, q, N, bs, bm, sn, sub, ab, col, dd, k0, k1, k2, k3, k5, lk, w5⟩
    · cases w
  · cases w
def xbB (K : PySem.W.Frag) (B : Addr) : Bool := (match PySem.W.findCls K (.ref B) (.type "type") "__init__" with
  | some (.val (.builtin nw)) => decide (nw = "ValueError.__init__")
  | _ => false) && (PySem.W.readsIn K B (.type "type") && decide (PySem.W.specialIn K (.ref B) "__getattribute__" = some (some (.builtin "type.__getattribute__"))))
theorem xbB_ok {K : PySem.W.Frag} {B : Addr} (h : xbB K B = true) : XbF K B := by
  unfold xbB at h
  simp only [Bool.and_eq_true, decide_eq_true_eq] at h
  obtain ⟨w, y1, y2⟩ := h
  refine ⟨?_, y1, y2⟩
  split at w
  · rename_i nw e
    rw [e, of_decide_eq_true w]
  · cases w
/-- .. what the written part says of such a class -/
def xnsB (tb : Tb) (K : PySem.W.Frag) (x : XRow) : Bool := (He.Fa.glo x.nm).ok K && (oexB K (He.ga K x.nm) && (excB K (He.ga K x.nm) && ((x.fs.all fun f => decide (PySem.W.findIn K (.ref (He.ga K x.nm)) f = some none)) &&
  (decide (PySem.W.findIn K (.ref (He.ga K x.nm)) "__init__" = some (some (.ref (faOf tb K x.f)))) && (decide (PySem.W.typeIn K (.ref (faOf tb K x.f)) = some (.type "function")) && ((He.Fa.glo x.b).ok K && xbB K (He.ga K x.b)))))))
/-- .. what its __init__'s text says -/
def xrowB (rows : List DRow) (x : XRow) : Bool := match rows[x.f]? with
  | some d => scopeB d.N d.ps (defScope d.st) && (decide (d.ps.length = x.fs.length + 1) && (decide (x.fs ≠ []) && (decide (x.fs.length ≤ 900) && xiB d.N (defScope d.st) x.b x.fs (defBody d.st))))
  | none => false
def ctyB (tb : Tb) (K : PySem.W.Frag) : Ty → Bool
  | .xcl j ys ns => (ys.all fun c => decide (PySem.W.kitOne K (.ref (He.ga K c)) (.ref (caOf tb K j)) = some true)) && ns.all fun c => decide (PySem.W.kitOne K (.ref (He.ga K c)) (.ref (caOf tb K j)) = some false)
  | .cls j ys ns => (["NoneType", "bool", "int", "str", "tuple", "list", "dict"].all fun T => decide (PySem.W.kitOne K (.type T) (.ref (caOf tb K j)) = some false)) &&
      ((ys.all fun c => insB K c && decide (PySem.W.kitOne K (.ref (He.ga K c)) (.ref (caOf tb K j)) = some true)) && ns.all fun c => insB K c && decide (PySem.W.kitOne K (.ref (He.ga K c)) (.ref (caOf tb K j)) = some false))
  | _ => false
def factsB (tb : Tb) (K : PySem.W.Frag) : Bool :=
  (tb.free.all fun x => (He.Fa.free x).ok K) && ((tb.fns.all fun r => r.own.isSome || ((He.Fa.glo r.nm).ok K && PySem.W.keepIn K (.ref (He.ga K r.nm)))) && ((tb.cls.all (clsB tb K)) && ((tb.glos.all (gloB K)) &&
  ((tb.excs.all fun x => (He.Fa.glo x).ok K && ((He.Fa.exc x).ok K && excB K (He.ga K x))) &&
  (((upto tb.excs.length).all fun c => (upto tb.names.length).all fun j => decide (PySem.W.kitOne K (.ref (caOf tb K c)) (.ref (caOf tb K j)) = some (tb.sub c j)) && (decide (tb.excs.length ≤ j) || decide (PySem.W.exmOne K (.ref (caOf tb K c)) (.ref (caOf tb K j)) = some (tb.sub c j)))) &&
    ((tb.tys.all fun x => (He.Fa.glo x).ok K) && (tb.ctys.all (ctyB tb K) && tb.xns.all (xnsB tb K))))))))
section
variable {K : PySem.W.Frag} {h : Heap} {mg : Str → Option Value} {tb : Tb}
theorem caOf_at {c : Nat} {x : Str} (e : tb.names[c]? = some x) : caOf tb K c = He.ga K x := by
  unfold caOf
  rw [List.getD_eq_getElem?_getD, e]; rfl
theorem names_exc {c : Nat} {x : Str} (e : tb.excs[c]? = some x) : tb.names[c]? = some x := by
  unfold Tb.names
  rw [List.getElem?_append_left (List.getElem?_eq_some_iff.mp e).1]; exact e
theorem faOf_at {f : Nat} {r : FnRow} (e : tb.fns[f]? = some r) : faOf tb K f = He.fAd K (atOf r) := by
  unfold faOf
  rw [e]; rfl
theorem excB_ok {D : Addr} (e : excB K D = true) : ExcC K D ∧ PySem.W.kitOne K (.ref D) (.type "ValueError") = some true := by
  unfold excB at e
  simp only [Bool.and_eq_true, decide_eq_true_eq] at e
  obtain ⟨h1, h2, h3, h4, h5, h6, h7, h8, h9⟩ := e
  exact ⟨⟨h1, h2, h3, h4, h5, h6, h7, h8⟩, h9⟩
theorem fx_of (X : K.In h) (G : h.Ns mainGlobals mg) (hx : (∀ x ∈ tb.xns, xnsB tb K x = true) → ∀ x ∈ tb.xns, ∃ fI fd ps, XiR K mg x.nm x.fs fI fd ps) (e : factsB tb K = true) : Fx tb K mg (caOf tb K) (faOf tb K) := by
  unfold factsB at e
  simp only [Bool.and_eq_true, List.all_eq_true] at e
  obtain ⟨e1, e2, e6, e3, e4, e5, e7, e8, e9⟩ := e
  have clsR : ∀ r ∈ tb.cls, mg r.nm = some (.ref (He.ga K r.nm)) ∧ ClsF K r ∧ (∀ p ∈ r.ms, Meth K (He.ga K r.nm) p.1 (faOf tb K p.2)) ∧ (∀ f, r.init = some f → Mk K (He.ga K r.nm) (faOf tb K f)) ∧ (r.init = none → Mk0 K (He.ga K r.nm)) := fun r hr => by
    have z := e6 r hr
    unfold clsB at z
    simp only [Bool.and_eq_true, List.all_eq_true, decide_eq_true_eq] at z
    obtain ⟨z1, z2, z3, z4, z5⟩ := z
    refine ⟨He.glo_ok X G z1, ⟨He.cls_ok z2, fun f hf => He.noat_ok (z3 f hf)⟩, fun p hp => ?_, fun f hf => ?_, fun hf => ?_⟩
    · obtain ⟨w1, w2⟩ := z4 p hp
      rw [← w2]; exact He.meth_ok w1
    · rw [hf] at z5
      simp only [Bool.and_eq_true, decide_eq_true_eq] at z5
      rw [← z5.2]; exact He.mkr_ok z5.1
    · rw [hf] at z5
      simp only [Bool.and_eq_true, decide_eq_true_eq] at z5
      exact ⟨z5.1, z5.2.1, z5.2.2⟩
  refine ⟨fun x hx => He.free_ok X G (e1 x hx), fun f r hf ho => ?_, fun c x hc => ?_, fun g r hg => ?_, ?_, fun j nm hc => ?_, fun t ht => ?_, fun r hr => (clsR r hr).2.1, fun c m f hm => ?_, (fun c x hc => caOf_at (names_exc hc)), hx e9, fun c r hc => ?_⟩
  · have a := e2 r (List.mem_of_getElem? hf)
    rw [ho] at a
    simp only [Option.isSome_none, Bool.false_or, Bool.and_eq_true] at a
    obtain ⟨a1, a2⟩ := a
    have e0 : He.fAd K (atOf r) = He.ga K r.nm := by
      unfold atOf
      rw [ho]; rfl
    rw [faOf_at hf, e0]
    exact ⟨He.glo_ok X G a1, a2⟩
  · obtain ⟨a1, a2, a3⟩ := e4 x (List.mem_of_getElem? hc)
    rw [caOf_at (names_exc hc)]
    have a2' : (PySem.W.excIn K (He.ga K x) He.veBase "ValueError.__new__" && (PySem.W.keepIn K (.ref (He.ga K x)) && (decide (PySem.W.subIn K (.ref (He.ga K x)) (.type "BaseException") = some true) && decide (PySem.W.typeIn K (.ref (He.ga K x)) = some (.type "type"))))) = true := a2
    simp only [Bool.and_eq_true, decide_eq_true_eq] at a2'
    obtain ⟨b1, b2, b3, b4⟩ := a2'
    exact ⟨He.glo_ok X G a1, b1, b2, b3, b4⟩
  · have a := e3 r (List.mem_of_getElem? hg)
    obtain ⟨x, d⟩ := r
    unfold gloB at a
    cases d <;> dsimp only at a <;> (first | (cases a; done) | skip)
    · obtain ⟨t, ht⟩ := He.int_ok X G a
      exact ⟨_, .int _, ht, ⟨t, rfl⟩, fun _ _ _ => .int _⟩
    · obtain ⟨t, ht⟩ := He.str_ok X G a
      exact ⟨_, .str _, ht, ⟨t, rfl⟩, fun _ _ _ => .str _⟩
  · have get : ∀ {c}, c < tb.excs.length → ∃ x, tb.excs[c]? = some x := fun hc => ⟨_, List.getElem?_eq_getElem hc⟩
    have one : ∀ {c}, c < tb.excs.length → ExcC K (caOf tb K c) ∧ PySem.W.kitOne K (.ref (caOf tb K c)) (.type "ValueError") = some true := fun {c} hc => by
      obtain ⟨x, hx⟩ := get hc
      obtain ⟨_, _, a3⟩ := e4 x (List.mem_of_getElem? hx)
      rw [caOf_at (names_exc hx)]
      exact excB_ok a3
    have two : ∀ {c j}, c < tb.excs.length → j < tb.names.length → PySem.W.kitOne K (.ref (caOf tb K c)) (.ref (caOf tb K j)) = some (tb.sub c j) ∧ (j < tb.excs.length → PySem.W.exmOne K (.ref (caOf tb K c)) (.ref (caOf tb K j)) = some (tb.sub c j)) := fun {c j} hc hj => by
      have z := e5 c (List.mem_range.mpr hc)
      have z2 := z j (List.mem_range.mpr hj)
      refine ⟨of_decide_eq_true z2.1, fun h => ?_⟩
      have z3 := z2.2
      rw [Bool.or_eq_true, decide_eq_true_eq, decide_eq_true_eq] at z3
      exact z3.resolve_left (by omega)
    have le : tb.excs.length ≤ tb.names.length := by unfold Tb.names; rw [List.length_append]; omega
    exact ⟨le, fun c hc => (one hc).1, fun c j hc hj => (two hc hj).1, fun c hc => (one hc).2, fun c j hc hj => (two hc (Nat.lt_of_lt_of_le hj le)).2 hj⟩
  · by_cases hj : j < tb.excs.length
    · have he : tb.excs[j]? = some nm := by
        unfold Tb.names at hc
        rwa [List.getElem?_append_left hj] at hc
      rw [caOf_at hc]
      exact He.glo_ok X G (e4 nm (List.mem_of_getElem? he)).1
    · have he : tb.tys[j - tb.excs.length]? = some nm := by
        unfold Tb.names at hc
        rwa [List.getElem?_append_right (by omega)] at hc
      rw [caOf_at hc]
      exact He.glo_ok X G (e7 nm (List.mem_of_getElem? he))
  · have z := e8 t ht
    cases t <;> (first | (cases z; done) | skip)
    case xcl j ys ns =>
      unfold ctyB at z
      simp only [Bool.and_eq_true, List.all_eq_true, decide_eq_true_eq] at z
      exact ⟨(fun j' ys' ns' q => nomatch q), (fun j' ys' ns' q => nomatch q), (fun j' ys' ns' q => nomatch q), (fun j' ys' ns' q c h => by cases q; exact z.1 c h), fun j' ys' ns' q c h => by cases q; exact z.2 c h⟩
    rename_i j ys ns
    unfold ctyB at z
    simp only [Bool.and_eq_true, List.all_eq_true, decide_eq_true_eq] at z
    obtain ⟨z1, z2, z3⟩ := z
    have ins : ∀ {c : Str}, insB K c = true → InsF K c := fun {c} w => by
      unfold insB at w
      simp only [Bool.and_eq_true, decide_eq_true_eq] at w
      obtain ⟨w1, w2, w3, w4, w5⟩ := w
      exact ⟨He.cls_ok w1, w2, w3, w4, w5⟩
    exact ⟨fun j' ys' ns' q T hT => by cases q; exact z1 T hT, fun j' ys' ns' q c h => by cases q; exact ⟨ins (z2 c h).1, (z2 c h).2⟩, (fun j' ys' ns' q c h => by cases q; exact ⟨ins (z3 c h).1, (z3 c h).2⟩), (fun j' ys' ns' q => nomatch q), fun j' ys' ns' q => nomatch q⟩
  · unfold mtOf at hm
    obtain ⟨r, h1, h2⟩ := Option.bind_eq_some_iff.mp hm
    have hn : r.nm = c := by simpa using List.find?_some h1
    obtain ⟨_, a2, a3, _⟩ := clsR r (List.mem_of_find?_eq_some h1)
    subst hn
    exact ⟨a2.cl, a3 (m, f) (lookup_mem h2)⟩
  · obtain ⟨a1, _, _, a4⟩ := clsR r (List.mem_of_getElem? hc)
    exact ⟨a1, a4⟩
end
/-! ### the Hook -/
def defD (d : DRow) : He.DefD := ⟨atOf d.row, d.row.nm, d.row.qual, defArgs d.st, defBody d.st, defScope d.st, [], []⟩
def obsV (tb : Tb) (fn : List He.DefD) (K : PySem.W.Frag) : He.AlD := (factsB tb K && fn.all fun d => d.ok K, fn.map fun d => He.fnW K d.at_)
def obsVG (n : Nat) (tb : Tb) (fn : List He.DefD) (g : Addr → Option Obj) : He.AlD := obsV tb fn (He.frG g (He.asD g n ++ [cStatics]))
def hookV (n : Nat) (tb : Tb) (fn : List He.DefD) : PySem.W.Hook where
  α := He.AlD
  obs := fun s => obsVG n tb fn s.heap.get?
  val := fun _ => He.valD fn
  says := fun _ h => ∃ K : PySem.W.Frag, K.In h ∧ obsV tb fn K = He.valD fn
  of := fun _ _ e => ⟨_, He.frG_in, e⟩
  keeps := fun _ _ _ ⟨K, hK, c⟩ k => ⟨K, PySem.W.Frag.In.keeps hK k, c⟩
theorem obsVG_eq {n : Nat} {tb : Tb} {fn : List He.DefD} {g : Addr → Option Obj} {s : Shared} (h : ∀ a, g a = s.heap.get? a) : obsVG n tb fn g = (hookV n tb fn).obs s := by
  have e : g = s.heap.get? := funext h
  rw [e] <;> rfl
section
variable {K : PySem.W.Frag} {tb : Tb} {fn : List He.DefD}
theorem says_facts (c : obsV tb fn K = He.valD fn) : factsB tb K = true ∧ ∀ d ∈ fn, d.ok K = true ∧ He.fnW K d.at_ = d.val := by
  have c1 : (factsB tb K && fn.all fun d => d.ok K) = true := congrArg (fun z : He.AlD => z.1) c
  have c2 : fn.map (fun d => He.fnW K d.at_) = fn.map He.DefD.val := congrArg (fun z : He.AlD => z.2) c
  rw [Bool.and_eq_true] at c1
  refine ⟨c1.1, fun d hd => ⟨List.all_eq_true.mp c1.2 d hd, ?_⟩⟩
  obtain ⟨i, hi, e⟩ := List.mem_iff_getElem.mp hd
  have z := congrArg (fun l => l[i]?) c2
  simp only [List.getElem?_map, List.getElem?_eq_getElem hi, e, Option.map_some] at z
  exact Option.some.inj z
/-- how the parameters of a def are bound -/
def BindsAll (d : DRow) : Prop := ∀ (kV doc pm : Value) (an : Option Addr) (cdv ct : Value) (us : List Value), us.length = d.ps.length → bindArgs (PySem.W.fnOf d.row.nm d.row.qual (defArgs d.st) (defBody d.st) (defScope d.st) .none kV doc pm an cdv ct) ⟨us, []⟩ = pure (d.ps.zip us)
theorem stands_of {d : DRow} (h1 : (defD d).ok K = true) (h2 : He.fnW K (defD d).at_ = (defD d).val) (b : BindsAll d) : ∃ fd, FunD K d.row.nm d.row.qual (defArgs d.st) (defBody d.st) (defScope d.st) [] [] (He.fAd K (atOf d.row)) fd ∧ Binds K fd d.ps [] ∧ ∀ (s : Shared) (us : List Value), us.length = d.ps.length → BindsTo s fd ⟨us, []⟩ (d.ps.zip us) := by
  obtain ⟨fd, F⟩ := He.DefD.funD h2 h1
  exact ⟨fd, F, F.bindsN b, F.bindsA b⟩
end
/-! ### the law -/
theorem rep_script {K : PySem.W.Frag} {H : Hp} {a : Addr} {ns : List Int} {F : Addr → Prop} (hO : Only H) (h : SqL K H a (ns.map V.int)) : Rep K Er0 F H (.ref a) (.scr ns) [] := by
  refine .scr ?_
  rcases h with (h | h) | h
  · rcases hO a with z | ⟨o, xs, z⟩
    · rw [z] at h; cases h
    · rw [z] at h; cases h
  · exact .inl h
  · exact .inr h
theorem law_walk {l : PySem.W.OpenLaw} {n k i : Nat} {tb : Tb} {rows : List DRow} {G : Prg} {q : Program} {loose : List Str} {d : DefRec} {m : Nat} {dl : DRow} {x : Str}
    (hn : l.most = some n) (hn2 : n ≤ sizeLine) (hdf : d.params.defaults = []) (hr : Room (2 * k + 1) callerA) (hfn : tb.fns = rows.map (·.row)) (hG : G.fns = rows.map (·.fn)) (hsub : G.sub = tb.sub) (hglo : G.glo = fun g => (tb.glos[g]?).map (·.2)) (hcls : G.cls = tb.cls) (hB : rows.all (rowB tb) = true) (hxs : tb.xns.all (xrowB rows) = true)
    (hb : ∀ d ∈ rows, BindsAll d) (hi : rows[i]? = some dl) (hnm : d.name = dl.row.nm) (hx : dl.ps = [x]) (hhot : dl.row.hot = false) (hbr : dl.row.br = false) (hown : dl.row.own = none)
    (law : ∀ ns : List Int, ns.length ≤ n → callF G k i [.scr ns] = .ok (.bl true)) :
    PySem.W.WalkO q loose (PySem.W.XL q []) (hookV m tb (rows.map defD)).says l.row.toRowW d [] (fun f vs => PySem.call f vs) := by
  refine L2.walk_ofE (l := l) (n := n) (k := 2 * k + 1) (x := x) (CX := CX0) hn hn2 hdf hr ?_ (fun _ _ _ _ z => z)
  intro w mg fa h Y G0 hmg
  obtain ⟨K, KX, c⟩ := Y
  obtain ⟨f1, f2⟩ := says_facts c
  have st : ∀ f d, rows[f]? = some d → ∃ fd, FunD K d.row.nm d.row.qual (defArgs d.st) (defBody d.st) (defScope d.st) [] [] (faOf tb K f) fd ∧ Binds K fd d.ps [] ∧ ∀ (s : Shared) (us : List Value), us.length = d.ps.length → BindsTo s fd ⟨us, []⟩ (d.ps.zip us) := fun f d hd => by
    have hm := List.mem_of_getElem? hd
    obtain ⟨a1, a2⟩ := f2 (defD d) (List.mem_map.mpr ⟨d, hm, rfl⟩)
    have e : tb.fns[f]? = some d.row := by rw [hfn, List.getElem?_map, hd]; rfl
    rw [faOf_at e]
    exact stands_of a1 a2 (hb d hm)
  obtain ⟨fdo, hfd⟩ : ∃ fdo : Nat → FuncData, ∀ f d, rows[f]? = some d → FunD K d.row.nm d.row.qual (defArgs d.st) (defBody d.st) (defScope d.st) [] [] (faOf tb K f) (fdo f) ∧ Binds K (fdo f) d.ps [] ∧ ∀ (s : Shared) (us : List Value), us.length = d.ps.length → BindsTo s (fdo f) ⟨us, []⟩ (d.ps.zip us) := by
    have z : ∀ f, ∃ fd, ∀ d, rows[f]? = some d → FunD K d.row.nm d.row.qual (defArgs d.st) (defBody d.st) (defScope d.st) [] [] (faOf tb K f) fd ∧ Binds K fd d.ps [] ∧ ∀ (s : Shared) (us : List Value), us.length = d.ps.length → BindsTo s fd ⟨us, []⟩ (d.ps.zip us) := fun f => by
      cases hd : rows[f]? with
      | none =>
        obtain ⟨fd, _⟩ := st i dl hi
        exact ⟨fd, fun d z => by cases z⟩
      | some d =>
        obtain ⟨fd, a⟩ := st f d hd
        exact ⟨fd, fun d' z => by cases z; exact a⟩
    exact ⟨fun f => Classical.choose (z f), fun f d hd => Classical.choose_spec (z f) d hd⟩
  have F := fx_of KX G0 (fun hx x m => by
    have z := hx x m
    unfold xnsB at z
    simp only [Bool.and_eq_true, List.all_eq_true, decide_eq_true_eq] at z
    obtain ⟨z1, z2, z3, z4, z5, z6, z7, z8⟩ := z
    have y := List.all_eq_true.mp hxs x m
    unfold xrowB at y
    cases hd : rows[x.f]? with
    | none => rw [hd] at y; cases y
    | some d =>
      rw [hd] at y
      simp only [Bool.and_eq_true, decide_eq_true_eq] at y
      obtain ⟨y1, y2, y3, y4, y5⟩ := y
      obtain ⟨FD, BD, _⟩ := hfd x.f d hd
      have xs : XnS K x.nm x.fs := ⟨(excB_ok z3).1, z4, (excB_ok z3).2⟩
      exact ⟨_, _, d.ps, He.glo_ok KX G0 z1, oexB_ok z2, xs, y3, y4, z5, z6, BD, y2, xi_fn FD (scopeB_ok y1) y2 (oexB_ok z2) xs y3 y4 (He.glo_ok KX G0 z7) (xbB_ok z8) y5⟩) f1
  have eFa : fa = faOf tb K i := by
    have e : tb.fns[i]? = some dl.row := by rw [hfn, List.getElem?_map, hi]; rfl
    have z := (F.fn i _ e hown).1
    rw [hnm] at hmg
    rw [hmg] at z
    cases z; rfl
  have T := fun base (KB : K.In base) (GB : base.Ns mainGlobals mg) => (table_ok (R := fun f d fd => fd = fdo f) (P := l.prog) (w := w) (base := base) F hfn hG hsub hglo hcls hB (fun f d hd => ⟨fdo f, (hfd f d hd).1, (hfd f d hd).2.1, rfl⟩) k).1 i dl hi hhot hbr
  obtain ⟨_, _, bt⟩ := hfd i dl hi
  refine ⟨K, fdo i, fun vs H Q _ => spI K Er0 (caOf tb K) tb.excs.length dl.ps.length (callF G k i) vs H Q fun _ _ _ => False, KX, fun s v => ?_, fun H a ns hl hO hS => ?_, fun base KB GB => ?_⟩
  · have z := bt s [v] (by rw [hx]; rfl)
    rw [hx] at z
    exact z
  · refine ⟨fun _ => False, [.scr ns], [], by rw [hx]; rfl, (fun _ z => False.elim z), .cons (L := []) (M := []) (rep_script hO hS) .nil, List.nodup_nil, (fun _ z => nomatch z), ?_⟩
    rw [law ns hl]
    intro v F' H' L _ _ _ _ _ r _ _
    exact r.bl'.1
  · obtain ⟨fd1, FO, _, e1⟩ := T base KB GB
    have FO' := to0 FO
    rw [← eFa, hx] at FO'
    rw [hx]
    rw [e1] at FO'
    exact FO'
end VI
set_option maxRecDepth 100000
set_option maxHeartbeats 2000000
/-! PL: how the evaluator computes, for plain proofs. -/
namespace VI
open PySem PySem.Spec PyProof.Rows

/-! ### joints -/
def Out.seq (o : Out) (f : Env → Out) : Out := match o with
  | .nx e => f e
  | o => o
section
variable {α β : Type} {e : Env} {c : Nat} {h : Bool} {d : D} {f : Env → Out} {a b : Out} {p : Prop} [Decidable p]
@[simp] theorem seq_nx : (Out.nx e).seq f = f e := id rfl
@[simp] theorem seq_rt : (Out.rt d).seq f = .rt d := id rfl
@[simp] theorem seq_bk : (Out.bk e).seq f = .bk e := id rfl
@[simp] theorem seq_ct : (Out.ct e).seq f = .ct e := id rfl
@[simp] theorem seq_ex : (Out.ex c h e).seq f = .ex c h e := id rfl
@[simp] theorem seq_stuck : Out.stuck.seq f = .stuck := id rfl
@[simp] theorem seq_ite : (if p then a else b).seq f = if p then a.seq f else b.seq f := by split <;> rfl
@[simp] theorem bind_ok' {x : α} {g : α → Env → R β} : (R.ok x e).bind g = g x e := id rfl
@[simp] theorem bind_ex' {g : α → Env → R β} : (R.ex c h e : R α).bind g = .ex c h e := id rfl
@[simp] theorem bind_stuck' {g : α → Env → R β} : (R.stuck : R α).bind g = .stuck := id rfl
@[simp] theorem bind_ite' {x y : R α} {g : α → Env → R β} : (if p then x else y).bind g = if p then x.bind g else y.bind g := by split <;> rfl
@[simp] theorem ofR_ok {x : α} {g : α → Env → Out} : ofR (.ok x e) g = g x e := id rfl
@[simp] theorem ofR_ex {g : α → Env → Out} : ofR (.ex c h e : R α) g = .ex c h e := id rfl
@[simp] theorem ofR_stuck {g : α → Env → Out} : ofR (.stuck : R α) g = .stuck := id rfl
@[simp] theorem ofR_ite {x y : R α} {g : α → Env → Out} : ofR (if p then x else y) g = if p then ofR x g else ofR y g := by split <;> rfl
end
/-! ### frozen things -/
@[simp] theorem frzL_ints : ∀ ns : List Int, frzL (ns.map D.int) = ns.map D.int
  | [] => rfl
  | n :: ns => by simp only [List.map_cons, frzL, frz, frzL_ints ns]
@[simp] theorem lfL_ints : ∀ ns : List Int, lfL (ns.map D.int) = true
  | [] => rfl
  | n :: ns => by simp only [List.map_cons, lfL, lf, lfL_ints ns, Bool.and_self]
@[simp] theorem ffL_ints : ∀ ns : List Int, ffL (ns.map D.int) = true
  | [] => rfl
  | n :: ns => by simp only [List.map_cons, ffL, ff, ffL_ints ns, Bool.and_self]
@[simp] theorem frzL_strs : ∀ ns : List Str, frzL (ns.map D.str) = ns.map D.str
  | [] => rfl
  | n :: ns => by simp only [List.map_cons, frzL, frz, frzL_strs ns]
@[simp] theorem lfL_strs : ∀ ns : List Str, lfL (ns.map D.str) = true
  | [] => rfl
  | n :: ns => by simp only [List.map_cons, lfL, lf, lfL_strs ns, Bool.and_self]
@[simp] theorem ffL_strs : ∀ ns : List Str, ffL (ns.map D.str) = true
  | [] => rfl
  | n :: ns => by simp only [List.map_cons, ffL, ff, ffL_strs ns, Bool.and_self]
@[simp] theorem frz_non : frz .non = .non := id rfl
@[simp] theorem frz_bl {b : Bool} : frz (.bl b) = .bl b := id rfl
@[simp] theorem frz_int {i : Int} : frz (.int i) = .int i := id rfl
@[simp] theorem frz_str {s : Str} : frz (.str s) = .str s := id rfl
@[simp] theorem frz_scr {s : List Int} : frz (.scr s) = .scr s := id rfl
@[simp] theorem frz_tup {xs : List D} : frz (.tup xs) = .tup (frzL xs) := id rfl
@[simp] theorem frz_lst {m : Bool} {xs : List D} : frz (.lst m xs) = .lst false (frzL xs) := id rfl
@[simp] theorem frz_dct {m : Bool} {ks : List L2.Key} {xs : List D} : frz (.dct m ks xs) = .dct false ks (frzL xs) := id rfl
@[simp] theorem frz_dtt {m : Bool} {ks : List (List L2.Key)} {xs : List D} : frz (.dtt m ks xs) = .dtt false ks (frzL xs) := id rfl
@[simp] theorem frz_obj {m : Bool} {c : Str} {fs : List Str} {xs : List D} : frz (.obj m c fs xs) = .obj false c fs (frzL xs) := id rfl
@[simp] theorem lf_dct {m : Bool} {ks : List L2.Key} {xs : List D} : lf (.dct m ks xs) = (!m && lfL xs) := id rfl
@[simp] theorem lf_dtt {m : Bool} {ks : List (List L2.Key)} {xs : List D} : lf (.dtt m ks xs) = (!m && lfL xs) := id rfl
@[simp] theorem lf_obj {m : Bool} {c : Str} {fs : List Str} {xs : List D} : lf (.obj m c fs xs) = (!m && lfL xs) := id rfl
@[simp] theorem ff_dct {m : Bool} {ks : List L2.Key} {xs : List D} : ff (.dct m ks xs) = (m && ffL xs) := id rfl
@[simp] theorem ff_dtt {m : Bool} {ks : List (List L2.Key)} {xs : List D} : ff (.dtt m ks xs) = (m && ffL xs) := id rfl
@[simp] theorem ff_obj {m : Bool} {c : Str} {fs : List Str} {xs : List D} : ff (.obj m c fs xs) = (m && ffL xs) := id rfl
@[simp] theorem frzL_nil : frzL [] = [] := id rfl
@[simp] theorem frzL_cons {x : D} {xs : List D} : frzL (x :: xs) = frz x :: frzL xs := id rfl
@[simp] theorem lf_non : lf .non = true := id rfl
@[simp] theorem lf_bl {b : Bool} : lf (.bl b) = true := id rfl
@[simp] theorem lf_int {i : Int} : lf (.int i) = true := id rfl
@[simp] theorem lf_str {s : Str} : lf (.str s) = true := id rfl
@[simp] theorem lf_tup {xs : List D} : lf (.tup xs) = lfL xs := id rfl
@[simp] theorem lf_lst {m : Bool} {xs : List D} : lf (.lst m xs) = (!m && lfL xs) := id rfl
@[simp] theorem lfL_nil : lfL [] = true := id rfl
@[simp] theorem lfL_cons {x : D} {xs : List D} : lfL (x :: xs) = (lf x && lfL xs) := id rfl
@[simp] theorem ff_non : ff .non = true := id rfl
@[simp] theorem ff_bl {b : Bool} : ff (.bl b) = true := id rfl
@[simp] theorem ff_int {i : Int} : ff (.int i) = true := id rfl
@[simp] theorem ff_str {s : Str} : ff (.str s) = true := id rfl
@[simp] theorem ff_tup {xs : List D} : ff (.tup xs) = ffL xs := id rfl
@[simp] theorem ff_lst {m : Bool} {xs : List D} : ff (.lst m xs) = (m && ffL xs) := id rfl
@[simp] theorem ffL_nil : ffL [] = true := id rfl
@[simp] theorem ffL_cons {x : D} {xs : List D} : ffL (x :: xs) = (ff x && ffL xs) := id rfl
@[simp] theorem frzL_app : ∀ {xs ys : List D}, frzL (xs ++ ys) = frzL xs ++ frzL ys
  | [], _ => id rfl
  | x :: xs, ys => by simp only [List.cons_append, frzL, frzL_app (xs := xs)]
@[simp] theorem lfL_app : ∀ {xs ys : List D}, lfL (xs ++ ys) = (lfL xs && lfL ys)
  | [], _ => id rfl
  | x :: xs, ys => by simp only [List.cons_append, lfL, lfL_app (xs := xs), Bool.and_assoc]
@[simp] theorem ffL_app : ∀ {xs ys : List D}, ffL (xs ++ ys) = (ffL xs && ffL ys)
  | [], _ => id rfl
  | x :: xs, ys => by simp only [List.cons_append, ffL, ffL_app (xs := xs), Bool.and_assoc]
@[simp] theorem fz_none {e : Env} : fz e none = e := id rfl
@[simp] theorem fz_zero {x : Option D} {e : Env} : fz (x :: e) (some 0) = x.map frz :: e := id rfl
@[simp] theorem fz_succ {x : Option D} {e : Env} {i : Nat} : fz (x :: e) (some (i + 1)) = x :: fz e (some i) := id rfl
/-! ### expressions -/
def getT : Option (Option D) → Env → R D
  | some (some d), e => .ok d e
  | _, _ => .stuck
def getF : Option (Option D) → Nat → Env → R D
  | some (some d), i, e => .ok (frz d) (fz e (some i))
  | _, _, _ => .stuck
@[simp] theorem getT_some {d : D} {e : Env} : getT (some (some d)) e = .ok d e := id rfl
@[simp] theorem getF_some {d : D} {i : Nat} {e : Env} : getF (some (some d)) i e = .ok (frz d) (fz e (some i)) := id rfl
def binR (o : Bop) (x y : D) (rs : List (Option Nat)) (e : Env) : R D := match binop o x y with
  | some d => shr rs d e
  | none => .stuck
def cmpR (o : Cop) (x y : D) (e : Env) : R D := opt ((cmpop o x y).map .bl) e
def truthR (d : D) (e : Env) : R Bool := match truth d with
  | some b => .ok b e
  | none => .stuck
def blR : D → Env → R D
  | .bl b, e => .ok (.bl b) e
  | _, _ => .stuck
def ntR : D → Env → R D
  | .bl b, e => .ok (.bl (!b)) e
  | _, _ => .stuck
def negR : D → Env → R D
  | .int i, e => .ok (.int (-i)) e
  | _, _ => .stuck
def andR : D → Env → (Env → R D) → R D
  | .bl t, e, f => if t = true then (f e).bind blR else .ok (.bl false) e
  | _, _, _ => .stuck
def orR : D → Env → (Env → R D) → R D
  | .bl t, e, f => if t = true then .ok (.bl true) e else (f e).bind blR
  | _, _, _ => .stuck
def idxR (x y : D) (p : Bool) (r : Option Nat) (e : Env) : R D := match ixD x y with
  | some d => if (p || lf d) = true then .ok d e else .ok (frz d) (fz e r)
  | none => .stuck
def slR (x : D) (l h : Option Int) (r : Option Nat) (e : Env) : R D := match slD x l h with
  | some d => shr [r] d e
  | none => .stuck
def biR (f : Bi) (xs : List D) (rs : List (Option Nat)) (e : Env) : R D := match bifD f xs with
  | some d => shr rs d e
  | none => .stuck
def callR (c : CR) (rs : List (Option Nat)) (e : Env) : R D := match c with
  | .ok d => if ff d = true then .ok d e else .ok d (rs.foldl fz e)
  | .ex c h => .ex c h e
  | .stuck => .stuck
def lsetR (x : D) (e : Env) : R D := match x with
  | .lst _ xs => (match strsD xs with
    | some ss => if ss.length ≤ 3000 then .ok (.int (setLen ss)) e else .stuck
    | none => .stuck)
  | _ => .stuck
def mthR (m : Mth) (x : D) (f : Env → R (List D)) (e : Env) : R D := match x with
  | .str _ => (f e).bind fun xs e2 => opt (mthf m x xs) e2
  | _ => .stuck
section
variable {P : Par} {a b c as : C} {p : Bool} {e : Env}
@[simp] theorem ev_non : ev P .non p e = .ok .non e := by simp only [ev]
@[simp] theorem ev_bl {t : Bool} : ev P (.bl t) p e = .ok (.bl t) e := by simp only [ev]
@[simp] theorem ev_int {i : Int} : ev P (.int i) p e = .ok (.int i) e := by simp only [ev]
@[simp] theorem ev_str {i : Str} : ev P (.str i) p e = .ok (.str i) e := by simp only [ev]
@[simp] theorem ev_getT {i : Nat} : ev P (.get i) true e = getT e[i]? e := by
  simp only [ev, getT]
  split <;> simp_all
@[simp] theorem ev_getF {i : Nat} : ev P (.get i) false e = getF e[i]? i e := by
  simp only [ev, getF]
  split <;> simp_all
@[simp] theorem ev_glo {g : Nat} : ev P (.glo g) p e = opt (P.glo g) e := by simp only [ev]
@[simp] theorem opt_some' {d : D} : opt (some d) e = .ok d e := id rfl
@[simp] theorem ev_bin {o : Bop} : ev P (.bin o a b) p e = (ev P a true e).bind fun x e1 => (ev P b true e1).bind fun y e2 => binR o x y [root a, root b] e2 := by simp only [ev]; rfl
@[simp] theorem ev_neg : ev P (.neg a) p e = (ev P a true e).bind negR := by
  simp only [ev]
  congr; funext x e1; cases x <;> rfl
@[simp] theorem ev_cmp {o : Cop} : ev P (.cmp o a b) p e = (ev P a true e).bind fun x e1 => (ev P b true e1).bind fun y e2 => cmpR o x y e2 := by simp only [ev]; rfl
@[simp] theorem ev_nt : ev P (.nt a) p e = (ev P a true e).bind ntR := by
  simp only [ev]
  congr; funext x e1; cases x <;> rfl
@[simp] theorem ev_and : ev P (.and a b) p e = (ev P a true e).bind fun x e1 => andR x e1 (ev P b true) := by
  simp only [ev]
  congr; funext x e1
  cases x <;> (try rfl)
  rename_i t
  cases t
  · rfl
  · simp only [andR, if_true]
    congr; funext y e2; cases y <;> rfl
@[simp] theorem ev_or : ev P (.or a b) p e = (ev P a true e).bind fun x e1 => orR x e1 (ev P b true) := by
  simp only [ev]
  congr; funext x e1
  cases x <;> (try rfl)
  rename_i t
  cases t
  · simp only [orR, Bool.false_eq_true, if_false]
    congr; funext y e2; cases y <;> rfl
  · rfl
def chainR (o o' : Cop) (x y : D) (f : Env → R D) (e : Env) : R D := match cmpop o x y with
  | some t => if t = true then (f e).bind fun z e3 => cmpR o' y z e3 else .ok (.bl false) e
  | none => .stuck
@[simp] theorem ev_chain {o o' : Cop} : ev P (.chain o o' a b c) p e = (ev P a true e).bind fun x e1 => (ev P b true e1).bind fun y e2 => chainR o o' x y (ev P c true) e2 := by
  simp only [ev]
  congr; funext x e1; congr; funext y e2
  unfold chainR
  cases cmpop o x y with
  | none => rfl
  | some t => cases t <;> rfl
@[simp] theorem chain_le {o' : Cop} {i j : Int} {f : Env → R D} : chainR .le o' (.int i) (.int j) f e = if i ≤ j then (f e).bind fun z e3 => cmpR o' (.int j) z e3 else .ok (.bl false) e := by
  by_cases h : i ≤ j
  · simp only [chainR, cmpop, h, decide_true, if_true]
  · simp only [chainR, cmpop, h, decide_false, if_false, Bool.false_eq_true]
@[simp] theorem chain_lt {o' : Cop} {i j : Int} {f : Env → R D} : chainR .lt o' (.int i) (.int j) f e = if i < j then (f e).bind fun z e3 => cmpR o' (.int j) z e3 else .ok (.bl false) e := by
  by_cases h : i < j
  · simp only [chainR, cmpop, h, decide_true, if_true]
  · simp only [chainR, cmpop, h, decide_false, if_false, Bool.false_eq_true]
@[simp] theorem cpb_f {a : C} : cpb false a = false := rfl
@[simp] theorem cpb_get {i : Nat} : cpb p (.get i) = false := by cases p <;> rfl
@[simp] theorem cpb_idx : cpb p (.idx a b) = cpb p a := by cases p <;> rfl
@[simp] theorem cpb_fld {f : Str} : cpb p (.fld a f) = cpb p a := by cases p <;> rfl
@[simp] theorem cpb_int {i : Int} : cpb p (.int i) = p := by cases p <;> rfl
@[simp] theorem cpb_str {s : Str} : cpb p (.str s) = p := by cases p <;> rfl
@[simp] theorem cpb_bl {s : Bool} : cpb p (.bl s) = p := by cases p <;> rfl
@[simp] theorem cpb_non : cpb p .non = p := by cases p <;> rfl
@[simp] theorem cpb_bin {o : Bop} : cpb p (.bin o a b) = p := by cases p <;> rfl
@[simp] theorem cpb_neg : cpb p (.neg a) = p := by cases p <;> rfl
@[simp] theorem cpb_cmp {o : Cop} : cpb p (.cmp o a b) = p := by cases p <;> rfl
@[simp] theorem cpb_tup : cpb p (.tup a) = p := by cases p <;> rfl
@[simp] theorem cpb_lst : cpb p (.lst a) = p := by cases p <;> rfl
@[simp] theorem cpb_bi {f : Bi} : cpb p (.bi f a) = p := by cases p <;> rfl
@[simp] theorem cpb_call {f : Nat} : cpb p (.call f a) = p := by cases p <;> rfl
@[simp] theorem cpb_slc : cpb p (.slc a b c) = p := by cases p <;> rfl
@[simp] theorem ev_cond : ev P (.cond c a b) p e = (evT P c e).bind fun t e1 => if t = true then ev P a (cpb p a) e1 else ev P b (cpb p b) e1 := by simp only [ev]
@[simp] theorem ev_tup : ev P (.tup as) p e = (evA P as false e).bind fun xs e1 => .ok (.tup xs) e1 := by simp only [ev]
@[simp] theorem ev_lst : ev P (.lst as) p e = (evA P as false e).bind fun xs e1 => .ok (.lst true xs) e1 := by simp only [ev]
@[simp] theorem ev_idx : ev P (.idx a b) p e = (ev P a true e).bind fun x e1 => (ev P b true e1).bind fun y e2 => idxR x y p (root a) e2 := by simp only [ev]; rfl
@[simp] theorem ev_slc {lo hi : C} : ev P (.slc a lo hi) p e = (ev P a true e).bind fun x e1 => (evP P lo e1).bind fun l e2 => (evP P hi e2).bind fun h e3 => slR x l h (root a) e3 := by simp only [ev]; rfl
@[simp] theorem ev_bi {f : Bi} : ev P (.bi f as) p e = (evA P as true e).bind fun xs e1 => biR f xs (roots as) e1 := by simp only [ev]; rfl
@[simp] theorem ev_isi {ts : List Ty} {w : Bool} : ev P (.isi a ts w) p e = (ev P a true e).bind fun x e1 => opt ((isAny x ts).map .bl) e1 := by simp only [ev]
@[simp] theorem ev_isx {ts : List Ty} {w : Bool} {xc : Nat × Nat} (h : P.cur = some xc) : ev P (.isx ts w) p e = opt ((isAnyX P.sub xc.2 ts).map .bl) e := by simp only [ev, h]
def scallR (c : CR) (xs : List D) (e : Env) : R D := match c with
  | .ok d => if sepB d xs then .ok d e else .stuck
  | .ex c h => .ex c h e
  | .stuck => .stuck
def mvR (ip : Nat × List Stp) (e : Env) : R D := match plD e ip with
  | some d => .ok d (setPl e ip .unk)
  | none => .stuck
theorem ev_mv : ev P (.mv a) p e = (evPl P a e).bind mvR := by simp only [ev]; rfl
@[simp] theorem ev_scall {f : Nat} : ev P (.scall f as) p e = (evA P as true e).bind fun xs e1 => scallR (P.cl f (frzL xs)) xs e1 := by simp only [ev]; rfl
@[simp] theorem ev_call {f : Nat} : ev P (.call f as) p e = (evA P as true e).bind fun xs e1 => callR (P.cl f (frzL xs)) (roots as) e1 := by simp only [ev]; rfl
@[simp] theorem ev_mth {m : Mth} : ev P (.mth m a as) p e = (ev P a true e).bind fun x e1 => mthR m x (evA P as true) e1 := by
  simp only [ev]
  congr
@[simp] theorem ev_lset : ev P (.lset a) p e = (ev P a true e).bind fun x e1 => lsetR x e1 := by
  simp only [ev]
  first | done | rfl | (congr; done) | (congr; funext x e1; cases x <;> rfl)
@[simp] theorem ev_dnew : ev P .dnew p e = .ok (.dct true [] []) e := by simp only [ev]
@[simp] theorem evA_nil : evA P .nil p e = .ok [] e := by simp only [evA]
@[simp] theorem evA_cons : evA P (.cons a as) p e = (ev P a p e).bind fun x e1 => (evA P as p e1).bind fun xs e2 => .ok (x :: xs) e2 := by simp only [evA]
def intR : D → Env → R (Option Int)
  | .int i, e => .ok (some i) e
  | _, _ => .stuck
@[simp] theorem intR_int {i : Int} : intR (.int i) e = .ok (some i) e := id rfl
@[simp] theorem evP_nil : evP P .nil e = .ok none e := by simp only [evP]
@[simp] theorem evP_one : evP P (.cons a .nil) e = (ev P a true e).bind intR := by
  simp only [evP]
  congr; funext x e1; cases x <;> rfl
@[simp] theorem evT_skip : evT P .skip e = .ok true e := by simp only [evT]
@[simp] theorem evT_one : evT P (.cons a .nil) e = (ev P a true e).bind truthR := by simp only [evT]; rfl
@[simp] theorem truthR_bl {t : Bool} : truthR (.bl t) e = .ok t e := id rfl
@[simp] theorem negR_int {i : Int} : negR (.int i) e = .ok (.int (-i)) e := id rfl
@[simp] theorem ntR_bl {t : Bool} : ntR (.bl t) e = .ok (.bl (!t)) e := id rfl
@[simp] theorem blR_bl {t : Bool} : blR (.bl t) e = .ok (.bl t) e := id rfl
@[simp] theorem andR_bl {t : Bool} {f : Env → R D} : andR (.bl t) e f = if t = true then (f e).bind blR else .ok (.bl false) e := id rfl
@[simp] theorem orR_bl {t : Bool} {f : Env → R D} : orR (.bl t) e f = if t = true then .ok (.bl true) e else (f e).bind blR := id rfl
end
section
variable {e : Env} {rs : List (Option Nat)} {i j : Int} {s z : Str} {xs ys : List D} {m m' p : Bool} {r : Option Nat}
@[simp] theorem bin_add : binR .add (.int i) (.int j) rs e = .ok (.int (i + j)) e := id rfl
@[simp] theorem bin_sub : binR .sub (.int i) (.int j) rs e = .ok (.int (i - j)) e := id rfl
theorem bin_mul (h : mulOk i j = true) : binR .mul (.int i) (.int j) rs e = .ok (.int (i * j)) e := by simp only [binR, binop, h, if_true, shr, inLf]
theorem bin_div (h : divOk j = true) : binR .div (.int i) (.int j) rs e = .ok (.int (i / j)) e := by simp only [binR, binop, h, if_true, shr, inLf]
theorem bin_mod (h : 0 < j) : binR .mod (.int i) (.int j) rs e = .ok (.int (i % j)) e := by simp only [binR, binop, h, if_true, shr, inLf]
theorem bin_pow (h : powOk i j = true) : binR .pow (.int i) (.int j) rs e = .ok (.int (i ^ j.toNat)) e := by simp only [binR, binop, h, if_true, shr, inLf]
theorem bin_cat (h : s.length + z.length ≤ most) : binR .add (.str s) (.str z) rs e = .ok (.str (s ++ z)) e := by simp only [binR, binop, h, if_true, shr, inLf]
theorem bin_tup (h : xs.length + ys.length ≤ most) (hx : lfL (xs ++ ys) = true) : binR .add (.tup xs) (.tup ys) rs e = .ok (.tup (xs ++ ys)) e := by simp only [binR, binop, h, if_true, shr, inLf, hx]
theorem bin_lst (h : xs.length + ys.length ≤ most) (hx : lfL (xs ++ ys) = true) : binR .add (.lst m xs) (.lst m' ys) rs e = .ok (.lst true (xs ++ ys)) e := by simp only [binR, binop, h, if_true, shr, inLf, hx]
@[simp] theorem cmp_lt : cmpR .lt (.int i) (.int j) e = .ok (.bl (decide (i < j))) e := id rfl
@[simp] theorem cmp_le : cmpR .le (.int i) (.int j) e = .ok (.bl (decide (i ≤ j))) e := id rfl
@[simp] theorem cmp_gt : cmpR .gt (.int i) (.int j) e = .ok (.bl (decide (j < i))) e := id rfl
@[simp] theorem cmp_ge : cmpR .ge (.int i) (.int j) e = .ok (.bl (decide (j ≤ i))) e := id rfl
@[simp] theorem cmp_eqI : cmpR .eq (.int i) (.int j) e = .ok (.bl (decide (i = j))) e := id rfl
@[simp] theorem cmp_neI : cmpR .ne (.int i) (.int j) e = .ok (.bl (!decide (i = j))) e := id rfl
@[simp] theorem cmp_eqS : cmpR .eq (.str s) (.str z) e = .ok (.bl (decide (s = z))) e := id rfl
@[simp] theorem cmp_neS : cmpR .ne (.str s) (.str z) e = .ok (.bl (!decide (s = z))) e := id rfl
@[simp] theorem cmp_eqB {s z : Bool} : cmpR .eq (.bl s) (.bl z) e = .ok (.bl (decide (s = z))) e := id rfl
@[simp] theorem cmp_neB {s z : Bool} : cmpR .ne (.bl s) (.bl z) e = .ok (.bl (!decide (s = z))) e := id rfl
@[simp] theorem cmp_isB {s z : Bool} : cmpR .is (.bl s) (.bl z) e = .ok (.bl (decide (s = z))) e := id rfl
@[simp] theorem cmp_isnB {s z : Bool} : cmpR .isn (.bl s) (.bl z) e = .ok (.bl (!decide (s = z))) e := id rfl
theorem cmp_isN {d : D} : cmpR .is d .non e = (match d with | .unk => .stuck | .hole _ => .stuck | .non => .ok (.bl true) e | _ => .ok (.bl false) e) := by cases d <;> rfl
theorem cmp_isnN {d : D} : cmpR .isn d .non e = (match d with | .unk => .stuck | .hole _ => .stuck | .non => .ok (.bl false) e | _ => .ok (.bl true) e) := by cases d <;> rfl
@[simp] theorem bi_len_scr {ns : List Int} : biR .len [.scr ns] rs e = .ok (.int ns.length) e := id rfl
@[simp] theorem bi_len_tup : biR .len [.tup xs] rs e = .ok (.int xs.length) e := id rfl
@[simp] theorem bi_len_lst : biR .len [.lst m xs] rs e = .ok (.int xs.length) e := id rfl
theorem bi_len_str (h : s.length ≤ most) : biR .len [.str s] rs e = .ok (.int s.length) e := by simp only [biR, bifD, h, if_true, shr, inLf]
@[simp] theorem bi_int_bl {t : Bool} : biR .int [.bl t] rs e = .ok (.int (if t then 1 else 0)) e := id rfl
@[simp] theorem bi_max : biR .max2 [.int i, .int j] rs e = .ok (.int (if j > i then j else i)) e := id rfl
@[simp] theorem bi_min : biR .min2 [.int i, .int j] rs e = .ok (.int (if j < i then j else i)) e := id rfl
theorem intsD_map : ∀ ns : List Int, intsD (ns.map .int) = some ns
  | [] => rfl
  | n :: ns => by simp only [List.map_cons, intsD, intsD_map ns, Option.map_some]
@[simp] theorem bi_sumT {ns : List Int} : biR .sum [.tup (ns.map .int)] rs e = .ok (.int ns.sum) e := by simp only [biR, bifD, intsD_map, Option.map_some, shr, inLf, if_true]
@[simp] theorem bi_sumL {ns : List Int} : biR .sum [.lst m (ns.map .int)] rs e = .ok (.int ns.sum) e := by simp only [biR, bifD, intsD_map, Option.map_some, shr, inLf, if_true]
theorem bi_tup (h : lfL xs = true) : biR .tup [.lst m xs] rs e = .ok (.tup xs) e := by simp only [biR, bifD, shr, inLf, h, if_true]
theorem bi_tupT (h : lfL xs = true) : biR .tup [.tup xs] rs e = .ok (.tup xs) e := by simp only [biR, bifD, shr, inLf, h, if_true]
theorem bi_lst (h : lfL xs = true) : biR .lst [.lst m xs] rs e = .ok (.lst true xs) e := by simp only [biR, bifD, shr, inLf, h, if_true]
theorem idx_scr {ns : List Int} {d : Int} (h : L2.atI ns i = some d) : idxR (.scr ns) (.int i) p r e = .ok (.int d) e := by
  simp only [idxR, ixD, h, Option.map_some, lf, Bool.or_true, if_true]
theorem idx_tup {d : D} (h : L2.atI xs i = some d) (hd : lf d = true) : idxR (.tup xs) (.int i) p r e = .ok d e := by
  simp only [idxR, ixD, h, hd, Bool.or_true, if_true]
theorem idx_lst {d : D} (h : L2.atI xs i = some d) (hd : lf d = true) : idxR (.lst m xs) (.int i) p r e = .ok d e := by
  simp only [idxR, ixD, h, hd, Bool.or_true, if_true]
theorem atI_lt {α : Type} {xs : List α} {i : Nat} (h : i < xs.length) : L2.atI xs (i : Int) = some xs[i] := L2.atI_nat (List.getElem?_eq_getElem h)
theorem scall_ok {d : D} {xs : List D} (h : sepB d xs = true) : scallR (.ok d) xs e = .ok d e := by simp only [scallR, h, if_true]
theorem call_ff {d : D} (h : ff d = true) : callR (.ok d) rs e = .ok d e := by simp only [callR, h, if_true]
@[simp] theorem call_int : callR (.ok (.int i)) rs e = .ok (.int i) e := id rfl
@[simp] theorem call_bl {t : Bool} : callR (.ok (.bl t)) rs e = .ok (.bl t) e := id rfl
@[simp] theorem call_str : callR (.ok (.str s)) rs e = .ok (.str s) e := id rfl
@[simp] theorem call_non : callR (.ok .non) rs e = .ok .non e := id rfl
@[simp] theorem call_tupI {ns : List Int} : callR (.ok (.tup (ns.map .int))) rs e = .ok (.tup (ns.map .int)) e := call_ff (by simp)
@[simp] theorem call_lstI {ns : List Int} : callR (.ok (.lst true (ns.map .int))) rs e = .ok (.lst true (ns.map .int)) e := call_ff (by simp)
@[simp] theorem call_ex {c : Nat} {h : Bool} : callR (.ex c h) rs e = .ex c h e := id rfl
end
theorem rngL_map {n : Nat} : rngL 0 n = (List.range n).map fun k : Nat => D.int ((k : Nat) : Int) := by
  unfold rngL
  refine List.map_congr_left fun k _ => ?_
  rw [Int.zero_add]
/-! ### signs of texts -/
def sg (c : Nat) : Str := ⟨#[c]⟩
def sgs (s : Str) : List Nat := s.cps.toList
theorem sg_inj {a b : Nat} : sg a = sg b ↔ a = b := by
  constructor
  · intro h
    have : (#[a] : Array Nat) = #[b] := congrArg Str.cps h
    simpa using this
  · rintro rfl; rfl
theorem p62 : (2 : Int) ^ 62 = 4611686018427387904 := by decide
theorem small_nat {n : Nat} (h : n ≤ 100000) : smallI n = true := by
  simp only [smallI, p62, Bool.and_eq_true, decide_eq_true_eq]
  constructor <;> omega
/-! ### statements -/
def putO (tg : Tg) (d : D) (e : Env) : Out := match put tg d e with
  | some e2 => .nx e2
  | none => .stuck
@[simp] theorem putO_one {i : Nat} {d : D} {e : Env} : putO (.one i) d e = if i < e.length then .nx (e.set i (some d)) else .stuck := by
  unfold putO
  simp only [put]
  by_cases h : i < e.length
  · simp only [if_pos h]
  · simp only [if_neg h]
@[simp] theorem putO_two {i j : Nat} {x y : D} {e : Env} : putO (.many [i, j]) (.tup [x, y]) e = if i < e.length ∧ j < e.length then .nx ((e.set i (some x)).set j (some y)) else .stuck := by
  unfold putO
  simp only [put, List.length_cons, List.length_nil, List.all_cons, List.all_nil, Bool.and_true, Bool.and_eq_true, decide_eq_true_eq, true_and, List.zip_cons_cons, List.zip_nil_right, List.foldl_cons, List.foldl_nil]
  by_cases h : i < e.length ∧ j < e.length
  · simp only [if_pos h]
  · simp only [if_neg h]
def bodyO (P : Par) (tg : Tg) (b : C) (h : Bool) : D → Env → Out := fun d e2 => match put tg d e2 with
  | some e3 => run P b h e3
  | none => .stuck
theorem bodyO_seq {P : Par} {tg : Tg} {b : C} {h : Bool} {d : D} {e : Env} : bodyO P tg b h d e = (putO tg d e).seq (run P b h) := by
  unfold bodyO putO
  cases put tg d e <;> rfl
section
variable {P : Par} {a b c : C} {h : Bool} {e : Env} {tg : Tg} {it : C}
@[simp] theorem run_skip : run P .skip h e = .nx e := by simp only [run]
@[simp] theorem run_seq : run P (.seq a b) h e = (run P a h e).seq (run P b h) := by
  simp only [run]
  cases run P a h e <;> rfl
@[simp] theorem run_expr : run P (.expr a) h e = ofR (ev P a false e) fun _ e1 => .nx e1 := by simp only [run]
@[simp] theorem run_set : run P (.set tg a) h e = ofR (ev P a false e) fun d e1 => putO tg d e1 := by simp only [run]; rfl
@[simp] theorem run_ife : run P (.ife c a b) h e = ofR (evT P c e) fun t e1 => if t = true then run P a h e1 else run P b h e1 := by simp only [run]
@[simp] theorem run_for : run P (.for_ tg it b) h e = ofR (evI P (mu b) it e) fun ds e1 => loopI (bodyO P tg b h) ds e1 := by simp only [run]; rfl
@[simp] theorem run_while : run P (.while_ c b) h e = loopW (evT P c) (run P b h) P.fuel e := by simp only [run]
@[simp] theorem run_ret : run P (.ret a) h e = ofR (ev P a false e) fun d _ => .rt d := by simp only [run]
def retO : Option (Option D) → Out
  | some (some d) => .rt d
  | _ => .stuck
@[simp] theorem retO_some {d : D} : retO (some (some d)) = .rt d := id rfl
@[simp] theorem run_retm {i : Nat} : run P (.retm i) h e = retO e[i]? := by
  simp only [run, retO] <;> split <;> simp_all
def setO (o : Option (Option D)) (i : Nat) (d k : D) (e : Env) : Out := match o, k with
  | some (some (.lst true xs)), .int k => match L2.ixN xs.length k with
    | some j => .nx (e.set i (some (.lst true (xs.set j d))))
    | none => .stuck
  | _, _ => .stuck
def setS (o : Option (Option D)) (f : Out) : Out := match o with
  | some (some _) => f
  | _ => .stuck
@[simp] theorem setS_some {d : D} {f : Out} : setS (some (some d)) f = f := id rfl
@[simp] theorem run_seti {i : Nat} {ix : C} : run P (.seti i ix a) h e = ofR (ev P a false e) fun d e1 => setS e1[i]? (ofR (ev P ix true e1) fun k e2 => setO e2[i]? i d k e2) := by
  simp only [run]
  first | done | (congr; done) | (congr; funext d e1; unfold setS; split <;> first | rfl | (simp_all; done) | (simp_all; rfl))
theorem setO_at {i j : Nat} {d : D} {xs : List D} {e : Env} (h : j < xs.length) : setO (some (some (.lst true xs))) i d (.int j) e = .nx (e.set i (some (.lst true (xs.set j d)))) := by
  have h : L2.ixN xs.length (j : Int) = some j := by
    unfold L2.ixN
    rw [if_pos (by omega), if_pos (by omega)]
    simp
  simp only [setO, h]
theorem setO_last {i : Nat} {d x : D} {xs : List D} {e : Env} : setO (some (some (.lst true (xs ++ [x])))) i d (.int (-1)) e = .nx (e.set i (some (.lst true (xs ++ [d])))) := by
  have h : L2.ixN (xs ++ [x]).length (-1) = some xs.length := by
    unfold L2.ixN
    simp
    try omega
  simp only [setO, h]
  congr 2
  simp
def augS (o : Option (Option D)) (f : Int → Out) : Out := match o with
  | some (some (.int x)) => f x
  | _ => .stuck
@[simp] theorem augS_int {x : Int} {f : Int → Out} : augS (some (some (.int x))) f = f x := id rfl
def augK (o : Bop) (x : Int) (i : Nat) (d : D) (e : Env) : Out := match d with
  | .int y => (match o with
    | .add => .nx (e.set i (some (.int (x + y))))
    | .sub => .nx (e.set i (some (.int (x - y))))
    | _ => .stuck)
  | _ => .stuck
@[simp] theorem augK_add {x y : Int} {i : Nat} {e : Env} : augK .add x i (.int y) e = .nx (e.set i (some (.int (x + y)))) := id rfl
@[simp] theorem augK_sub {x y : Int} {i : Nat} {e : Env} : augK .sub x i (.int y) e = .nx (e.set i (some (.int (x - y)))) := id rfl
@[simp] theorem run_aug {o : Bop} {i : Nat} : run P (.aug o i a) h e = augS e[i]? fun x => ofR (ev P a true e) fun d e1 => augK o x i d e1 := by
  simp only [run]
  unfold augS
  first | done | rfl | (split <;> first | rfl | (simp_all; done) | (simp_all; rfl))
@[simp] theorem run_raise {n : Nat} : run P (.raise n) h e = .ex n h e := by simp only [run]
@[simp] theorem run_brk : run P .brk h e = .bk e := by simp only [run]
@[simp] theorem run_cont : run P .cont h e = .ct e := by simp only [run]
def appO (o : Option (Option D)) (i : Nat) (d : D) (e : Env) : R D := match o with
  | some (some (.lst true xs)) => if xs.length < most then .ok .non (e.set i (some (.lst true (xs ++ [d])))) else .stuck
  | _ => .stuck
def appS (o : Option (Option D)) (f : R D) : R D := match o with
  | some (some (.lst _ _)) => f
  | _ => .stuck
@[simp] theorem appS_lst {m : Bool} {xs : List D} {f : R D} : appS (some (some (.lst m xs))) f = f := id rfl
@[simp] theorem ev_app {i : Nat} {p : Bool} : ev P (.app i a) p e = appS e[i]? ((ev P a false e).bind fun d e1 => appO e1[i]? i d e1) := by
  simp only [ev]
  unfold appS
  split <;> first | rfl | (simp_all; done) | (simp_all; rfl)
def clrO (o : Option (Option D)) (i : Nat) (e : Env) : R D := match o with
  | some (some (.lst true _)) => .ok .non (e.set i (some (.lst true [])))
  | _ => .stuck
@[simp] theorem clrO_lst {i : Nat} {xs : List D} : clrO (some (some (.lst true xs))) i e = .ok .non (e.set i (some (.lst true []))) := id rfl
@[simp] theorem ev_clear {i : Nat} {p : Bool} : ev P (.clear i) p e = clrO e[i]? i e := by
  simp only [ev]
  first | done | rfl | (unfold clrO; split <;> first | rfl | (simp_all; done) | (simp_all; rfl))
def popS (o : Option (Option D)) (f : R D) : R D := match o with
  | some (some (.lst _ _)) => f
  | _ => .stuck
@[simp] theorem popS_lst {m : Bool} {xs : List D} {f : R D} : popS (some (some (.lst m xs))) f = f := id rfl
def popO (o : Option (Option D)) (i : Nat) (d : D) (e : Env) : R D := match o, d with
  | some (some (.lst true xs)), .int k => if smallI k then (match seqIndex? k xs.length with
    | some j => (match xs[j]? with
      | some x => .ok x (e.set i (some (.lst true (xs.eraseIdx j))))
      | none => .stuck)
    | none => .stuck) else .stuck
  | _, _ => .stuck
@[simp] theorem ev_popat {i : Nat} {p : Bool} : ev P (.popat i a) p e = popS e[i]? ((ev P a true e).bind fun d e1 => popO e1[i]? i d e1) := by
  simp only [ev]
  first | done | rfl | (unfold popS; split <;> first | rfl | (simp_all; done) | (simp_all; rfl))
theorem popO_ok {i j : Nat} {xs : List D} {e : Env} (h : j < xs.length) (hl : xs.length ≤ 100000) : popO (some (some (.lst true xs))) i (.int j) e = .ok xs[j] (e.set i (some (.lst true (xs.eraseIdx j)))) := by
  have h1 : seqIndex? (j : Int) xs.length = some j := by
    unfold seqIndex?
    simp [h]
    try omega
  simp only [popO, small_nat (show j ≤ 100000 by omega), if_true, h1, List.getElem?_eq_getElem h]
theorem appO_ok {i : Nat} {d : D} {xs : List D} (h : xs.length < most) : appO (some (some (.lst true xs))) i d e = .ok .non (e.set i (some (.lst true (xs ++ [d])))) := by
  simp only [appO, h, if_true]
def rngR : D → Env → R (List D)
  | .int n, e => if smallI n = true then .ok (rngL 0 n.toNat) e else .stuck
  | _, _ => .stuck
theorem rngR_nat {n : Nat} (h : n ≤ 100000) : rngR (.int n) e = .ok ((List.range n).map fun k : Nat => D.int ((k : Nat) : Int)) e := by
  simp only [rngR, small_nat h, if_true, Int.toNat_natCast, rngL_map]
@[simp] theorem evI_rng1 {ms : Bool} : evI P ms (.rng1 a) e = (ev P a true e).bind rngR := by
  simp only [evI]
  congr; funext x e1; cases x <;> rfl
@[simp] theorem evI_walk {ms : Bool} : evI P ms (.cons a .nil) e = (ev P a true e).bind fun x e1 => walkOf ms a x e1 := by simp only [evI]
def zipR (ms : Bool) (ra rb : Option Nat) (x y : D) (e : Env) : R (List D) := match x, y with
    | .lst _ xs, .lst _ ys => if lfL xs && lfL ys && !ms then .ok (zipD xs ys) e else .ok (zipD (frzL xs) (frzL ys)) (fz (fz e ra) rb)
    | .tup xs, .tup ys => if lfL xs && lfL ys then .ok (zipD xs ys) e else .ok (zipD (frzL xs) (frzL ys)) (fz (fz e ra) rb)
    | _, _ => .stuck
@[simp] theorem evI_zip {ms : Bool} : evI P ms (.zip a b) e = (ev P a true e).bind fun x e1 => (ev P b true e1).bind fun y e2 => zipR ms (root a) (root b) x y e2 := by
  simp only [evI]
  congr
theorem zipR_tup {ms : Bool} {ra rb : Option Nat} {xs ys : List D} (h1 : lfL xs = true) (h2 : lfL ys = true) : zipR ms ra rb (.tup xs) (.tup ys) e = .ok (zipD xs ys) e := by simp only [zipR, h1, h2, Bool.and_self, if_true]
theorem walk_tup' {ms : Bool} {xs : List D} (h : lfL xs = true) : walkOf ms a (.tup xs) e = .ok xs e := by simp only [walkOf, h, if_true]
theorem walk_lst' {xs : List D} {m : Bool} (h : lfL xs = true) : walkOf false a (.lst m xs) e = .ok xs e := by simp only [walkOf, h, Bool.not_false, Bool.and_self, if_true]
theorem walk_lstG {ms : Bool} {xs : List D} {m : Bool} : walkOf ms a (.lst m xs) e = if (lfL xs && !ms) = true then .ok xs e else .ok (frzL xs) (fz e (root a)) := id rfl
@[simp] theorem walk_str' {ms : Bool} {s : Str} : walkOf ms a (.str s) e = .ok ((sgs s).map fun c => .str (sg c)) e := id rfl
@[simp] theorem walk_scr' {ms : Bool} {ns : List Int} : walkOf ms a (.scr ns) e = .ok (ns.map .int) e := id rfl
end
theorem zipD_map {xs ys : List Int} : zipD (xs.map .int) (ys.map .int) = (xs.zip ys).map fun p => D.tup [.int p.1, .int p.2] := by
  induction xs generalizing ys with
  | nil => rfl
  | cons x xs ih =>
    cases ys with
    | nil => rfl
    | cons y ys => simp only [List.map_cons, zipD, ih, List.zip_cons_cons]
/-! ### loops -/
/-- a loop whose turns all run through -/
theorem loopI_fold {σ : Type} {b : D → Env → Out} {env : σ → Env} {step : σ → D → σ} : ∀ {ds : List D} {s : σ}, (∀ s, ∀ d ∈ ds, b d (env s) = .nx (env (step s d))) → loopI b ds (env s) = .nx (env (ds.foldl step s))
  | [], _, _ => rfl
  | d :: ds, s, h => by
    simp only [loopI, h s d List.mem_cons_self, List.foldl_cons]
    exact loopI_fold fun s d hd => h s d (List.mem_cons_of_mem _ hd)
/-- .. over a mapped list -/
theorem loopI_map {σ α : Type} {b : D → Env → Out} {g : α → D} {env : σ → Env} {step : σ → α → σ} : ∀ {ds : List α} {s : σ}, (∀ s, ∀ d ∈ ds, b (g d) (env s) = .nx (env (step s d))) → loopI b (ds.map g) (env s) = .nx (env (ds.foldl step s))
  | [], _, _ => rfl
  | d :: ds, s, h => by
    simp only [List.map_cons, loopI, h s d List.mem_cons_self, List.foldl_cons]
    exact loopI_map fun s d hd => h s d (List.mem_cons_of_mem _ hd)
/-- what follows a turn -/
def loopK (o : Out) (f : Env → Out) : Out := match o with
  | .nx e => f e
  | .ct e => f e
  | .bk e => .nx e
  | o => o
section
variable {e : Env} {f : Env → Out} {d : D} {c : Nat} {h : Bool} {p : Prop} [Decidable p] {a b : Out}
@[simp] theorem loopK_nx : loopK (.nx e) f = f e := id rfl
@[simp] theorem loopK_ct : loopK (.ct e) f = f e := id rfl
@[simp] theorem loopK_bk : loopK (.bk e) f = .nx e := id rfl
@[simp] theorem loopK_rt : loopK (.rt d) f = .rt d := id rfl
@[simp] theorem loopK_ex : loopK (.ex c h e) f = .ex c h e := id rfl
@[simp] theorem loopK_ite : loopK (if p then a else b) f = if p then loopK a f else loopK b f := by split <;> rfl
end
theorem loopI_nil {b : D → Env → Out} {e : Env} : loopI b [] e = .nx e := rfl
theorem loopI_cons {b : D → Env → Out} {d : D} {ds : List D} {e : Env} : loopI b (d :: ds) e = loopK (b d e) (loopI b ds) := by
  simp only [loopI]
  cases b d e <;> rfl
/-- a loop that returns r at the first bad thing -/
theorem loopI_find {σ α : Type} {b : D → Env → Out} {g : α → D} {env : σ → Env} {step : σ → α → σ} {bad : α → Bool} {r : D} : ∀ {ds : List α} {s : σ}, (∀ s, ∀ d ∈ ds, b (g d) (env s) = if bad d = true then .rt r else .nx (env (step s d))) → loopI b (ds.map g) (env s) = if ds.any bad = true then .rt r else .nx (env (ds.foldl step s))
  | [], s, _ => by simp [loopI]
  | d :: ds, s, h => by
    rw [List.map_cons, loopI_cons, h s d List.mem_cons_self]
    cases hb : bad d with
    | true => simp [hb]
    | false =>
      simp only [Bool.false_eq_true, if_false, loopK_nx, List.any_cons, hb, Bool.false_or, List.foldl_cons]
      exact loopI_find fun s d hd => h s d (List.mem_cons_of_mem _ hd)
theorem loopI_find' {σ α : Type} {b : D → Env → Out} {g : α → D} {env : σ → Env} {step : σ → α → σ} {bad : α → Bool} {r : D} {ds : List α} {s : σ} (t : Bool) (ht : ds.any bad = t) (h : ∀ s, ∀ d ∈ ds, b (g d) (env s) = if bad d = true then .rt r else .nx (env (step s d))) : loopI b (ds.map g) (env s) = if t = true then .rt r else .nx (env (ds.foldl step s)) := ht ▸ loopI_find h
/-- .. that raises at the first bad thing -/
theorem loopI_raise {σ α : Type} {b : D → Env → Out} {g : α → D} {env : σ → Env} {step : σ → α → σ} {bad : α → Bool} {c : Nat} {hh : Bool} : ∀ {ds : List α} {s : σ}, (∀ s, ∀ d ∈ ds, b (g d) (env s) = if bad d = true then .ex c hh (env (step s d)) else .nx (env (step s d))) → ∃ e', loopI b (ds.map g) (env s) = if ds.any bad = true then .ex c hh e' else .nx (env (ds.foldl step s))
  | [], s, _ => ⟨[], by simp [loopI]⟩
  | d :: ds, s, h => by
    cases hb : bad d with
    | true =>
      refine ⟨env (step s d), ?_⟩
      rw [List.map_cons, loopI_cons, h s d List.mem_cons_self]
      simp [hb]
    | false =>
      obtain ⟨e', he⟩ := loopI_raise (ds := ds) (s := step s d) fun s d hd => h s d (List.mem_cons_of_mem _ hd)
      refine ⟨e', ?_⟩
      rw [List.map_cons, loopI_cons, h s d List.mem_cons_self]
      simp only [hb, Bool.false_eq_true, if_false, loopK_nx, List.any_cons, Bool.false_or, List.foldl_cons]
      exact he
theorem loopI_raise' {σ α : Type} {b : D → Env → Out} {g : α → D} {env : σ → Env} {step : σ → α → σ} {bad : α → Bool} {c : Nat} {hh : Bool} {ds : List α} {s : σ} (t : Bool) (ht : ds.any bad = t) (h : ∀ s, ∀ d ∈ ds, b (g d) (env s) = if bad d = true then .ex c hh (env (step s d)) else .nx (env (step s d))) : ∃ e', loopI b (ds.map g) (env s) = if t = true then .ex c hh e' else .nx (env (ds.foldl step s)) := ht ▸ loopI_raise h
/-- .. over the numbers below n, with the state told by the number of turns -/
theorem loopI_range' {b : D → Env → Out} {g : Nat → D} {env : Nat → Env} {n : Nat} (h : ∀ i, i < n → b (g i) (env i) = .nx (env (i + 1))) : ∀ m i, i + m ≤ n → loopI b ((List.range' i m).map g) (env i) = .nx (env (i + m))
  | 0, i, _ => rfl
  | m + 1, i, hm => by
    simp only [List.range'_succ, List.map_cons, loopI, h i (by omega)]
    rw [loopI_range' h m (i + 1) (by omega)]
    congr 2; omega
theorem loopI_range {b : D → Env → Out} {g : Nat → D} {env : Nat → Env} {n : Nat} (h : ∀ i, i < n → b (g i) (env i) = .nx (env (i + 1))) : loopI b ((List.range n).map g) (env 0) = .nx (env n) := by
  rw [List.range_eq_range', loopI_range' h n 0 (by omega)]
  congr 2; omega
/-- .. with an invariant -/
theorem loopI_inv' {b : D → Env → Out} {I : Nat → Env → Prop} {ds : List D} : ∀ (m i : Nat), i + m = ds.length → (∀ j (hj : j < ds.length) e, I j e → ∃ e', b ds[j] e = .nx e' ∧ I (j + 1) e') → ∀ e, I i e → ∃ e', loopI b (ds.drop i) e = .nx e' ∧ I ds.length e'
  | 0, i, hi, _, e, he => ⟨e, by rw [List.drop_of_length_le (by omega)]; rfl, by rw [show ds.length = i by omega]; exact he⟩
  | m + 1, i, hi, h, e, he => by
    obtain ⟨e1, h1, h2⟩ := h i (by omega) e he
    obtain ⟨e2, h3, h4⟩ := loopI_inv' m (i + 1) (by omega) h e1 h2
    refine ⟨e2, ?_, h4⟩
    rw [List.drop_eq_getElem_cons (by omega), loopI_cons, h1, loopK_nx, h3]
theorem loopI_inv {b : D → Env → Out} {I : Nat → Env → Prop} {ds : List D} {e : Env} (h : ∀ j (hj : j < ds.length) e, I j e → ∃ e', b ds[j] e = .nx e' ∧ I (j + 1) e') (he : I 0 e) : ∃ e', loopI b ds e = .nx e' ∧ I ds.length e' := by
  have := loopI_inv' ds.length 0 (by omega) h e he
  simpa using this
theorem loopI_invR {b : D → Env → Out} {I : Nat → Env → Prop} {n : Nat} {g : Nat → D} {e : Env} (h : ∀ j, j < n → ∀ e, I j e → ∃ e', b (g j) e = .nx e' ∧ I (j + 1) e') (he : I 0 e) : ∃ e', loopI b ((List.range n).map g) e = .nx e' ∧ I n e' := by
  have := loopI_inv (b := b) (I := I) (ds := (List.range n).map g) (e := e) (fun j hj e hI => by
    simp only [List.length_map, List.length_range] at hj
    simp only [List.getElem_map, List.getElem_range]
    exact h j hj e hI) he
  simpa using this
/-- the slot of a for loop's number -/
def last : Nat → Option D
  | 0 => none
  | i + 1 => some (.int i)
@[simp] theorem last_zero : last 0 = none := id rfl
@[simp] theorem last_succ {i : Nat} : last (i + 1) = some (.int i) := id rfl
/-- .. over a mapped list, with the state told by the place and by what the slots hold -/
theorem loopI_mapP' {σ α : Type} {b : D → Env → Out} {g : α → D} {env : Nat → σ → Env} {step : σ → α → σ} {ds : List α} (h : ∀ i (hi : i < ds.length) s, b (g ds[i]) (env i s) = .nx (env (i + 1) (step s ds[i]))) : ∀ (m i : Nat) (s : σ), i + m = ds.length → loopI b ((ds.drop i).map g) (env i s) = .nx (env ds.length ((ds.drop i).foldl step s))
  | 0, i, s, hm => by
    rw [List.drop_of_length_le (by omega), show ds.length = i by omega]
    rfl
  | m + 1, i, s, hm => by
    have hi : i < ds.length := by omega
    rw [List.drop_eq_getElem_cons hi, List.map_cons, loopI_cons, h i hi s, loopK_nx, loopI_mapP' h m (i + 1) _ (by omega)]
    rfl
theorem loopI_mapP {σ α : Type} {b : D → Env → Out} {g : α → D} {env : Nat → σ → Env} {step : σ → α → σ} {ds : List α} {s : σ} (h : ∀ i (hi : i < ds.length) s, b (g ds[i]) (env i s) = .nx (env (i + 1) (step s ds[i]))) : loopI b (ds.map g) (env 0 s) = .nx (env ds.length (ds.foldl step s)) := by
  have := loopI_mapP' h ds.length 0 s (by omega)
  simpa using this
/-- a comprehension -/
def turnL (P : Par) (tg : Tg) (w : Env) (cond elt : C) (d : D) : R (Option D) := match put tg d w with
  | some e3 => (evT P cond e3).bind fun b e4 => if b then (ev P elt false e4).bind fun x e5 => .ok (some x) e5 else .ok none e4
  | none => .stuck
theorem loopC_map {α : Type} {P : Par} {tg : Tg} {own : List Nat} {w : Env} {cond elt : C} {g f : α → D} : ∀ {ds : List α} {acc : List D} {e : Env}, wipe e own = w → acc.length + ds.length ≤ most → (∀ d ∈ ds, ∃ e', turnL P tg w cond elt (g d) = .ok (some (f d)) e' ∧ wipe e' own = w) →
    ∃ e', loopC (fun d e2 => turnL P tg (wipe e2 own) cond elt d) (ds.map g) acc e = .ok (acc ++ ds.map f) e' ∧ wipe e' own = w
  | [], acc, e, hw, _, _ => ⟨e, by simp [loopC], hw⟩
  | d :: ds, acc, e, hw, hl, h => by
    obtain ⟨e1, h1, h2⟩ := h d List.mem_cons_self
    simp only [List.length_cons] at hl
    obtain ⟨e2, h3, h4⟩ := loopC_map (acc := acc ++ [f d]) h2 (by simp only [List.length_append, List.length_cons, List.length_nil]; omega) fun d hd => h d (List.mem_cons_of_mem _ hd)
    refine ⟨e2, ?_, h4⟩
    simp only [List.map_cons, loopC, hw, h1]
    rw [if_pos (by omega), h3, List.append_assoc]
    rfl
theorem ev_lc {α : Type} {P : Par} {elt it cond : C} {own : List Nat} {tg : Tg} {p : Bool} {e e1 : Env} {ds : List α} {g f : α → D} (hi : evI P false it e = .ok (ds.map g) e1) (hl : ds.length ≤ most)
    (h : ∀ d ∈ ds, ∃ e', turnL P tg (wipe e1 own) cond elt (g d) = .ok (some (f d)) e' ∧ wipe e' own = wipe e1 own) : ev P (.lc elt own tg it cond) p e = .ok (.lst true (ds.map f)) (wipe e1 own) := by
  obtain ⟨e2, h1, h2⟩ := loopC_map (acc := []) rfl (by simpa using hl) h
  simp only [ev, hi, bind_ok']
  show (loopC (fun d e2 => turnL P tg (wipe e2 own) cond elt d) (ds.map g) [] e1).bind _ = _
  rw [h1, bind_ok', h2]
  rfl
theorem set_same {α : Type} {e : List α} {i : Nat} {x : α} (h : e[i]? = some x) : e.set i x = e := by
  apply List.ext_getElem?
  intro j
  rw [List.getElem?_set]
  by_cases hj : i = j
  · subst hj
    have hl : i < e.length := (List.getElem?_eq_some_iff.1 h).1
    rw [if_pos rfl, if_pos hl, h]
  · rw [if_neg hj]
/-- a comprehension over one slot, which stood empty -/
theorem lc_one {α : Type} {P : Par} {elt it : C} {s : Nat} {p : Bool} {e : Env} {ds : List α} {g f : α → D} (hi : evI P false it e = .ok (ds.map g) e) (hl : ds.length ≤ most) (hs : e[s]? = some none)
    (h : ∀ d ∈ ds, ev P elt false (e.set s (some (g d))) = .ok (f d) (e.set s (some (g d)))) : ev P (.lc elt [s] (.one s) it .skip) p e = .ok (.lst true (ds.map f)) e := by
  have hw : wipe e [s] = e := set_same hs
  have hsl : s < e.length := (List.getElem?_eq_some_iff.1 hs).1
  have := ev_lc (elt := elt) (it := it) (cond := .skip) (own := [s]) (tg := .one s) (p := p) (g := g) (f := f) hi hl fun d hd => by
    refine ⟨e.set s (some (g d)), ?_, ?_⟩
    · rw [hw]
      simp only [turnL, put, if_pos hsl, evT_skip, bind_ok', if_true, h d hd]
    · show (e.set s (some (g d))).set s none = e.set s none
      rw [List.set_set]
  rw [hw] at this
  exact this
theorem loopC_if {α : Type} {P : Par} {s : Nat} {w : Env} {cond elt : C} {g f : α → D} {t : α → Bool} (hw : ∀ x, wipe (w.set s x) [s] = w) (hww : wipe w [s] = w) (hs : s < w.length) : ∀ {ds : List α} {acc : List D} {e : Env}, wipe e [s] = w → acc.length + ds.length ≤ most →
    (∀ d ∈ ds, evT P cond (w.set s (some (g d))) = .ok (t d) (w.set s (some (g d))) ∧ (t d = true → ev P elt false (w.set s (some (g d))) = .ok (f d) (w.set s (some (g d))))) →
    ∃ e', loopC (fun d e2 => turnL P (.one s) (wipe e2 [s]) cond elt d) (ds.map g) acc e = .ok (acc ++ (ds.filter t).map f) e' ∧ wipe e' [s] = w
  | [], acc, e, he, _, _ => ⟨e, by simp [loopC], he⟩
  | d :: ds, acc, e, he, hl, h => by
    obtain ⟨h1, h2⟩ := h d List.mem_cons_self
    simp only [List.length_cons] at hl
    cases ht : t d with
    | true =>
      rw [ht] at h1
      have h2 := h2 ht
      obtain ⟨e2, h3, h4⟩ := loopC_if hw hww hs (acc := acc ++ [f d]) (e := w.set s (some (g d))) (hw _) (by simp only [List.length_append, List.length_cons, List.length_nil]; omega) fun d hd => h d (List.mem_cons_of_mem _ hd)
      refine ⟨e2, ?_, h4⟩
      have hT : turnL P (.one s) (wipe e [s]) cond elt (g d) = .ok (some (f d)) (w.set s (some (g d))) := by
        rw [he]
        simp only [turnL, put, if_pos hs, h1, bind_ok', if_true, h2]
      simp only [List.map_cons, loopC, hT]
      rw [if_pos (by omega), h3, List.append_assoc, List.filter_cons, if_pos ht]
      rfl
    | false =>
      rw [ht] at h1
      obtain ⟨e2, h3, h4⟩ := loopC_if hw hww hs (acc := acc) (e := w.set s (some (g d))) (hw _) (by omega) fun d hd => h d (List.mem_cons_of_mem _ hd)
      refine ⟨e2, ?_, h4⟩
      have hT : turnL P (.one s) (wipe e [s]) cond elt (g d) = .ok none (w.set s (some (g d))) := by
        rw [he]
        simp only [turnL, put, if_pos hs, h1, bind_ok', Bool.false_eq_true, if_false]
      simp only [List.map_cons, loopC, hT]
      rw [h3, List.filter_cons, if_neg (by rw [ht]; decide)]
/-- .. of the things for which t holds -/
theorem lc_if {α : Type} {P : Par} {elt it cond : C} {s : Nat} {p : Bool} {e : Env} {ds : List α} {g f : α → D} {t : α → Bool} (hi : evI P false it e = .ok (ds.map g) e) (hl : ds.length ≤ most) (hs : e[s]? = some none)
    (h : ∀ d ∈ ds, evT P cond (e.set s (some (g d))) = .ok (t d) (e.set s (some (g d))) ∧ (t d = true → ev P elt false (e.set s (some (g d))) = .ok (f d) (e.set s (some (g d))))) : ev P (.lc elt [s] (.one s) it cond) p e = .ok (.lst true ((ds.filter t).map f)) e := by
  have hw : wipe e [s] = e := set_same hs
  have hsl : s < e.length := (List.getElem?_eq_some_iff.1 hs).1
  have hw2 : ∀ x, wipe (e.set s x) [s] = e := fun x => by
    show (e.set s x).set s none = e
    rw [List.set_set]
    exact set_same hs
  obtain ⟨e2, h1, h2⟩ := loopC_if hw2 hw hsl (acc := []) (e := e) hw (by simpa using hl) h
  simp only [ev, hi, bind_ok']
  show (loopC (fun d e2 => turnL P (.one s) (wipe e2 [s]) cond elt d) (ds.map g) [] e).bind _ = _
  rw [h1, bind_ok', h2]
  rfl
theorem lc_rng {P : Par} {elt a : C} {s : Nat} {p : Bool} {e : Env} {n : Nat} {f : Nat → D} (ha : ev P a true e = .ok (.int n) e) (hn : n ≤ 100000) (hs : e[s]? = some none)
    (h : ∀ d, d < n → ev P elt false (e.set s (some (.int d))) = .ok (f d) (e.set s (some (.int d)))) : ev P (.lc elt [s] (.one s) (.rng1 a) .skip) p e = .ok (.lst true ((List.range n).map f)) e := by
  refine lc_one (g := fun k : Nat => .int k) ?_ ?_ hs fun d hd => h d (List.mem_range.1 hd)
  · rw [evI_rng1, ha, bind_ok', rngR_nat hn]
  · rw [List.length_range]; exact hn
/-- .. over a slot that held something: it is empty behind -/
theorem lc_oneW {α : Type} {P : Par} {elt it : C} {s : Nat} {p : Bool} {e : Env} {ds : List α} {g f : α → D} (hi : evI P false it e = .ok (ds.map g) e) (hl : ds.length ≤ most) (hsl : s < e.length)
    (h : ∀ d ∈ ds, ev P elt false (e.set s (some (g d))) = .ok (f d) (e.set s (some (g d)))) : ev P (.lc elt [s] (.one s) it .skip) p e = .ok (.lst true (ds.map f)) (e.set s none) := by
  have hw : wipe e [s] = e.set s none := rfl
  have := ev_lc (elt := elt) (it := it) (cond := .skip) (own := [s]) (tg := .one s) (p := p) (g := g) (f := f) hi hl fun d hd => by
    refine ⟨e.set s (some (g d)), ?_, ?_⟩
    · rw [hw]
      have hsl2 : s < (e.set s none).length := by rw [List.length_set]; exact hsl
      simp only [turnL, put, if_pos hsl2, List.set_set, evT_skip, bind_ok', if_true, h d hd]
    · show (e.set s (some (g d))).set s none = e.set s none
      rw [List.set_set]
  rw [hw] at this
  exact this
theorem lc_rngW {P : Par} {elt a : C} {s : Nat} {p : Bool} {e : Env} {n : Nat} {f : Nat → D} (ha : ev P a true e = .ok (.int n) e) (hn : n ≤ 100000) (hsl : s < e.length)
    (h : ∀ d, d < n → ev P elt false (e.set s (some (.int d))) = .ok (f d) (e.set s (some (.int d)))) : ev P (.lc elt [s] (.one s) (.rng1 a) .skip) p e = .ok (.lst true ((List.range n).map f)) (e.set s none) := by
  refine lc_oneW (g := fun k : Nat => .int k) ?_ ?_ hsl fun d hd => h d (List.mem_range.1 hd)
  · rw [evI_rng1, ha, bind_ok', rngR_nat hn]
  · rw [List.length_range]; exact hn
/-! ### a try with a name -/
def backO (i : Nat) : Out → Out
  | .nx e2 => .nx (e2.set i none)
  | .bk e2 => .bk (e2.set i none)
  | .ct e2 => .ct (e2.set i none)
  | .ex _ _ _ => .stuck
  | o => o
@[simp] theorem backO_nx {i : Nat} {e : Env} : backO i (.nx e) = .nx (e.set i none) := id rfl
@[simp] theorem backO_rt {i : Nat} {d : D} : backO i (.rt d) = .rt d := id rfl
@[simp] theorem backO_ite {i : Nat} {p : Prop} [Decidable p] {a b : Out} : backO i (if p then a else b) = if p then backO i a else backO i b := by split <;> rfl
def tryO (P : Par) (c i : Nat) (s : C) (md : Nat) : Out → Out
  | .ex c' h' e1 => if P.sub c' c = true then (if (md != 0 && h') = true then .stuck else if i < e1.length then backO i (run { P with cur := some (i, c') } s true (e1.set i none)) else .stuck) else (if (md == 1) = true then (if h' = true then .stuck else .ex c' false e1) else .ex c' true e1)
  | o => o
@[simp] theorem tryO_nx {P : Par} {c i md : Nat} {s : C} {e : Env} : tryO P c i s md (.nx e) = .nx e := id rfl
@[simp] theorem tryO_rt {P : Par} {c i md : Nat} {s : C} {d : D} : tryO P c i s md (.rt d) = .rt d := id rfl
@[simp] theorem run_try {P : Par} {b s : C} {c i md : Nat} {h : Bool} {e : Env} : run P (.try_ b c (some i) s md) h e = tryO P c i s md (run P b h e) := by
  simp only [run]
  cases run P b h e <;> try rfl
theorem tryO_ex {P : Par} {c i md c' : Nat} {s : C} {h' : Bool} {e1 : Env} (hs : P.sub c' c = true) (hm : (md != 0 && h') = false) (hi : i < e1.length) : tryO P c i s md (.ex c' h' e1) = backO i (run { P with cur := some (i, c') } s true (e1.set i none)) := by
  simp only [tryO, hs, hm, hi, if_true, Bool.false_eq_true, if_false]
@[simp] theorem ev_callx {P : Par} {f : Nat} {p : Bool} {e : Env} {xc : Nat × Nat} (h : P.cur = some xc) : ev P (.callx f) p e = (match P.ch f xc.2 with
      | .ok d => if ff d = true then .ok d e else .stuck
      | _ => .stuck) := by
  simp only [ev, h] <;> cases P.ch f xc.2 <;> rfl
def tryN (P : Par) (c : Nat) (s : C) (md : Nat) : Out → Out
  | .ex c' h' e1 => if P.sub c' c = true then (if (md != 0 && h') = true then .stuck else (match run { P with cur := none } s true e1 with
      | .ex c2 h2 e2 => if (md == 2) = true then .ex c2 h2 e2 else .stuck
      | o => o)) else (if (md == 1) = true then (if h' = true then .stuck else .ex c' false e1) else .ex c' true e1)
  | o => o
@[simp] theorem tryN_nx {P : Par} {c md : Nat} {s : C} {e : Env} : tryN P c s md (.nx e) = .nx e := id rfl
@[simp] theorem tryN_rt {P : Par} {c md : Nat} {s : C} {d : D} : tryN P c s md (.rt d) = .rt d := id rfl
@[simp] theorem run_tryN {P : Par} {b s : C} {c md : Nat} {h : Bool} {e : Env} : run P (.try_ b c none s md) h e = tryN P c s md (run P b h e) := by
  simp only [run]
  first | done | (cases run P b h e <;> rfl)
theorem tryN_raise {P : Par} {c n : Nat} {c' : Nat} {h' : Bool} {e1 : Env} (hs : P.sub c' c = true) (hm : h' = false) : tryN P c (.seq (.raise n) .skip) 2 (.ex c' h' e1) = .ex n true e1 := by
  subst hm
  simp only [tryN, hs, if_true, Bool.and_false, Bool.false_eq_true, if_false, run_seq, run_raise, seq_ex]
  rfl
def callxR (c : CR) (e : Env) : R D := match c with
  | .ok d => if ff d = true then .ok d e else .stuck
  | _ => .stuck
@[simp] theorem callxR_bl {t : Bool} {e : Env} : callxR (.ok (.bl t)) e = .ok (.bl t) e := id rfl
@[simp] theorem ev_callx' {cl : Nat → List D → CR} {bc : Nat → List D → BR} {cls : List ClsR} {ch : Nat → Nat → CR} {xc : Nat × Nat} {glo : Nat → Option D} {sub : Nat → Nat → Bool} {fuel f : Nat} {p : Bool} {e : Env} : ev ⟨cl, bc, ch, some xc, glo, sub, fuel, cls⟩ (.callx f) p e = callxR (ch f xc.2) e := ev_callx rfl
/-! ### == of tuples and lists -/
theorem pyL_ints : ∀ ns : List Int, pyL (ns.map D.int) = some (ns.map PyData.int)
  | [] => rfl
  | n :: ns => by simp only [List.map_cons, pyL, py, pyL_ints ns]
theorem lay_ints : ∀ ns : List Int, PyData.canLayAll0 (ns.map PyData.int) = true
  | [] => rfl
  | n :: ns => by simp only [List.map_cons, PyData.canLayAll0, PyData.canLay0, lay_ints ns, Bool.and_self]
theorem depth_ints : ∀ ns : List Int, PyData.depthAll (ns.map PyData.int) = 0
  | [] => rfl
  | n :: ns => by simp only [List.map_cons, PyData.depthAll, PyData.depth, depth_ints ns, Nat.max_self]
theorem shaped_tupI (ns : List Int) : SeqAt.shaped (.tuple (ns.map .int)) = true := by
  unfold SeqAt.shaped
  simp only [PyData.canLay0, lay_ints, PyData.depth, depth_ints, Bool.true_and]
  decide
theorem eqvAll_ints : ∀ xs ys : List Int, PyData.eqvAll (xs.map .int) (ys.map .int) = decide (xs = ys)
  | [], [] => rfl
  | [], y :: ys => by simp [PyData.eqvAll]
  | x :: xs, [] => by simp [PyData.eqvAll]
  | x :: xs, y :: ys => by
    simp only [List.map_cons, PyData.eqvAll, PyData.eqv, eqvAll_ints xs ys]
    by_cases h : x = y
    · subst h; simp
    · simp [h]
@[simp] theorem deq_tupI {xs ys : List Int} : deq (.tup (xs.map .int)) (.tup (ys.map .int)) = some (decide (xs = ys)) := by
  simp only [deq, scal, py, pyL_ints, Option.map_some, shaped_tupI, Bool.and_self, if_true, PyData.eqv, eqvAll_ints]
@[simp] theorem cmp_eqT {xs ys : List Int} {e : Env} : cmpR .eq (.tup (xs.map .int)) (.tup (ys.map .int)) e = .ok (.bl (decide (xs = ys))) e := by simp only [cmpR, cmpop, deq_tupI, Option.map_some, opt]
@[simp] theorem cmp_neT {xs ys : List Int} {e : Env} : cmpR .ne (.tup (xs.map .int)) (.tup (ys.map .int)) e = .ok (.bl (!decide (xs = ys))) e := by simp only [cmpR, cmpop, deq_tupI, Option.map_some, opt]
@[simp] theorem isAny_one {d : D} {t : Ty} : isAny d [t] = isTy d t := by
  simp only [isAny, List.isEmpty_nil, if_true]
  cases isTy d t with
  | none => rfl
  | some b => cases b <;> rfl
@[simp] theorem isTy_non_int  : isTy .non .int = some false := id rfl
@[simp] theorem isTy_non_str  : isTy .non .str = some false := id rfl
@[simp] theorem isTy_non_bool  : isTy .non .bool = some false := id rfl
@[simp] theorem isTy_non_list  : isTy .non .list = some false := id rfl
@[simp] theorem isTy_non_tuple  : isTy .non .tuple = some false := id rfl
@[simp] theorem isTy_non_dict  : isTy .non .dict = some false := id rfl
@[simp] theorem isTy_bl_int {b : Bool} : isTy (.bl b) .int = some true := id rfl
@[simp] theorem isTy_bl_str {b : Bool} : isTy (.bl b) .str = some false := id rfl
@[simp] theorem isTy_bl_bool {b : Bool} : isTy (.bl b) .bool = some true := id rfl
@[simp] theorem isTy_bl_list {b : Bool} : isTy (.bl b) .list = some false := id rfl
@[simp] theorem isTy_bl_tuple {b : Bool} : isTy (.bl b) .tuple = some false := id rfl
@[simp] theorem isTy_bl_dict {b : Bool} : isTy (.bl b) .dict = some false := id rfl
@[simp] theorem isTy_int_int {i : Int} : isTy (.int i) .int = some true := id rfl
@[simp] theorem isTy_int_str {i : Int} : isTy (.int i) .str = some false := id rfl
@[simp] theorem isTy_int_bool {i : Int} : isTy (.int i) .bool = some false := id rfl
@[simp] theorem isTy_int_list {i : Int} : isTy (.int i) .list = some false := id rfl
@[simp] theorem isTy_int_tuple {i : Int} : isTy (.int i) .tuple = some false := id rfl
@[simp] theorem isTy_int_dict {i : Int} : isTy (.int i) .dict = some false := id rfl
@[simp] theorem isTy_str_int {s : Str} : isTy (.str s) .int = some false := id rfl
@[simp] theorem isTy_str_str {s : Str} : isTy (.str s) .str = some true := id rfl
@[simp] theorem isTy_str_bool {s : Str} : isTy (.str s) .bool = some false := id rfl
@[simp] theorem isTy_str_list {s : Str} : isTy (.str s) .list = some false := id rfl
@[simp] theorem isTy_str_tuple {s : Str} : isTy (.str s) .tuple = some false := id rfl
@[simp] theorem isTy_str_dict {s : Str} : isTy (.str s) .dict = some false := id rfl
@[simp] theorem isTy_tup_int {xs : List D} : isTy (.tup xs) .int = some false := id rfl
@[simp] theorem isTy_tup_str {xs : List D} : isTy (.tup xs) .str = some false := id rfl
@[simp] theorem isTy_tup_bool {xs : List D} : isTy (.tup xs) .bool = some false := id rfl
@[simp] theorem isTy_tup_list {xs : List D} : isTy (.tup xs) .list = some false := id rfl
@[simp] theorem isTy_tup_tuple {xs : List D} : isTy (.tup xs) .tuple = some true := id rfl
@[simp] theorem isTy_tup_dict {xs : List D} : isTy (.tup xs) .dict = some false := id rfl
@[simp] theorem isTy_lst_int {m : Bool} {xs : List D} : isTy (.lst m xs) .int = some false := id rfl
@[simp] theorem isTy_lst_str {m : Bool} {xs : List D} : isTy (.lst m xs) .str = some false := id rfl
@[simp] theorem isTy_lst_bool {m : Bool} {xs : List D} : isTy (.lst m xs) .bool = some false := id rfl
@[simp] theorem isTy_lst_list {m : Bool} {xs : List D} : isTy (.lst m xs) .list = some true := id rfl
@[simp] theorem isTy_lst_tuple {m : Bool} {xs : List D} : isTy (.lst m xs) .tuple = some false := id rfl
@[simp] theorem isTy_lst_dict {m : Bool} {xs : List D} : isTy (.lst m xs) .dict = some false := id rfl
@[simp] theorem isTy_dct_int {m : Bool} {ks : List L2.Key} {xs : List D} : isTy (.dct m ks xs) .int = some false := id rfl
@[simp] theorem isTy_dct_str {m : Bool} {ks : List L2.Key} {xs : List D} : isTy (.dct m ks xs) .str = some false := id rfl
@[simp] theorem isTy_dct_bool {m : Bool} {ks : List L2.Key} {xs : List D} : isTy (.dct m ks xs) .bool = some false := id rfl
@[simp] theorem isTy_dct_list {m : Bool} {ks : List L2.Key} {xs : List D} : isTy (.dct m ks xs) .list = some false := id rfl
@[simp] theorem isTy_dct_tuple {m : Bool} {ks : List L2.Key} {xs : List D} : isTy (.dct m ks xs) .tuple = some false := id rfl
@[simp] theorem isTy_dct_dict {m : Bool} {ks : List L2.Key} {xs : List D} : isTy (.dct m ks xs) .dict = some true := id rfl
@[simp] theorem isTy_scr_int {ns : List Int} : isTy (.scr ns) .int = some false := id rfl
@[simp] theorem isTy_scr_str {ns : List Int} : isTy (.scr ns) .str = some false := id rfl
@[simp] theorem isTy_scr_bool {ns : List Int} : isTy (.scr ns) .bool = some false := id rfl
@[simp] theorem isTy_scr_list {ns : List Int} : isTy (.scr ns) .list = some true := id rfl
@[simp] theorem isTy_scr_tuple {ns : List Int} : isTy (.scr ns) .tuple = some false := id rfl
@[simp] theorem isTy_scr_dict {ns : List Int} : isTy (.scr ns) .dict = some false := id rfl
/-! ### parts of lists -/
theorem take_min {α : Type} (xs : List α) (n : Nat) : xs.take (min n xs.length) = xs.take n := by
  by_cases h : n ≤ xs.length
  · rw [Nat.min_eq_left h]
  · rw [Nat.min_eq_right (by omega), List.take_length, List.take_of_length_le (by omega)]
theorem drop_min {α : Type} (xs : List α) (n : Nat) : xs.drop (min n xs.length) = xs.drop n := by
  by_cases h : n ≤ xs.length
  · rw [Nat.min_eq_left h]
  · rw [Nat.min_eq_right (by omega), List.drop_length, List.drop_of_length_le (by omega)]
theorem cut_take {α : Type} {xs : List α} {n : Nat} : cutD xs none (some (n : Int)) = xs.take n := by
  unfold cutD
  rw [HT.sIx_none, HT.sIx_nat, List.drop_zero, Nat.sub_zero, take_min]
theorem cut_drop {α : Type} {xs : List α} {n : Nat} : cutD xs (some (n : Int)) none = xs.drop n := by
  unfold cutD
  rw [HT.sIx_none, HT.sIx_nat, drop_min, List.take_of_length_le]
  rw [List.length_drop]; omega
theorem cut_both {α : Type} {xs : List α} {a b : Nat} : cutD xs (some (a : Int)) (some (b : Int)) = (xs.drop a).take (b - a) := by
  unfold cutD
  rw [HT.sIx_nat, HT.sIx_nat, drop_min]
  by_cases hb : b ≤ xs.length
  · rw [Nat.min_eq_left hb]
    by_cases ha : a ≤ xs.length
    · rw [Nat.min_eq_left ha]
    · rw [List.drop_of_length_le (by omega)]; simp
  · rw [Nat.min_eq_right (by omega)]
    by_cases ha : a ≤ xs.length
    · rw [Nat.min_eq_left ha, List.take_of_length_le, List.take_of_length_le] <;> rw [List.length_drop] <;> omega
    · rw [List.drop_of_length_le (by omega)]; simp
theorem cut_all {α : Type} {xs : List α} : cutD xs none none = xs := by
  unfold cutD
  simp [HT.sIx_none]
section
variable {xs : List D} {m : Bool} {l h : Option Int} {r : Option Nat} {e : Env}
theorem sl_tup (hf : lfL (cutD xs l h) = true) : slR (.tup xs) l h r e = .ok (.tup (cutD xs l h)) e := by simp only [slR, slD, shr, inLf, hf, if_true]
theorem sl_lst (hf : lfL (cutD xs l h) = true) : slR (.lst m xs) l h r e = .ok (.lst true (cutD xs l h)) e := by simp only [slR, slD, shr, inLf, hf, if_true]
@[simp] theorem sl_scr {ns : List Int} : slR (.scr ns) l h r e = .ok (.lst true ((cutD ns l h).map .int)) e := by simp only [slR, slD, shr, inLf, lfL_ints, if_true]
theorem cutD_map {α β : Type} {f : α → β} {xs : List α} : cutD (xs.map f) l h = (cutD xs l h).map f := by
  simp only [cutD, List.length_map, ← List.map_drop, ← List.map_take]
theorem sl_tupI {ns : List Int} : slR (.tup (ns.map .int)) l h r e = .ok (.tup ((cutD ns l h).map .int)) e := by
  rw [sl_tup] <;> rw [cutD_map]
  exact lfL_ints _
theorem sl_lstI {ns : List Int} : slR (.lst m (ns.map .int)) l h r e = .ok (.lst true ((cutD ns l h).map .int)) e := by
  rw [sl_lst] <;> rw [cutD_map]
  exact lfL_ints _
end
/-! ### texts -/
theorem lcat {a b : Str} : (a ++ b).length = a.length + b.length := Str.length_append a b
@[simp] theorem len_sgs {s : Str} : (sgs s).length = s.length := by simp [sgs, Str.length]
theorem len_cut {s : Str} {l h : Option Int} : (L2.cutS s l h).length ≤ s.length := by
  unfold L2.cutS
  simp only [Str.length, List.size_toArray, List.length_take, List.length_drop, Array.length_toList]
  omega
@[simp] theorem len_sg {c : Nat} : (sg c).length = 1 := id rfl
section
variable {s z : Str} {i : Int} {p : Bool} {r : Option Nat} {e : Env} {l h : Option Int}
theorem idx_str {c : Nat} (hl : s.length ≤ most) (h : L2.atI (sgs s) i = some c) : idxR (.str s) (.int i) p r e = .ok (.str (sg c)) e := by
  unfold sgs at h
  simp only [idxR, ixD, hl, if_true, h, Option.map_some, lf, Bool.or_true, sg]
theorem sl_str (hl : s.length ≤ most) : slR (.str s) l h r e = .ok (.str (L2.cutS s l h)) e := by simp only [slR, slD, hl, if_true, shr, inLf]
/-- one text stands in another -/
def has (b a : Str) : Bool := !(Builtin.Str.occurrences b a 0 b.length 1).isEmpty
@[simp] theorem cmp_inS : cmpR .in_ (.str s) (.str z) e = .ok (.bl (has z s)) e := id rfl
@[simp] theorem cmp_ninS : cmpR .nin (.str s) (.str z) e = .ok (.bl (!has z s)) e := id rfl
end
theorem atI_some {α : Type} {xs : List α} {i : Int} (h0 : 0 ≤ i) (h1 : i < xs.length) : ∃ x, L2.atI xs i = some x ∧ x ∈ xs := by
  have hi : i = (i.toNat : Int) := by omega
  have hl : i.toNat < xs.length := by omega
  exact ⟨xs[i.toNat], by have := atI_lt hl; rwa [← hi] at this, List.getElem_mem hl⟩
theorem getD_lt {α : Type} {d : α} {l : List α} {i : Nat} (h : i < l.length) : l.getD i d = l[i] := by
  rw [List.getD_eq_getElem?_getD, List.getElem?_eq_getElem h]; rfl
theorem any_range {α : Type} (d : α) (f : α → Bool) (l : List α) : l.any f = (List.range l.length).any fun i => f (l.getD i d) := by
  rw [Bool.eq_iff_iff, List.any_eq_true, List.any_eq_true]
  constructor
  · rintro ⟨x, hx, hf⟩
    obtain ⟨i, hi, rfl⟩ := List.mem_iff_getElem.1 hx
    exact ⟨i, List.mem_range.2 hi, by rw [getD_lt hi]; exact hf⟩
  · rintro ⟨i, hi, hf⟩
    have hi := List.mem_range.1 hi
    rw [getD_lt hi] at hf
    exact ⟨_, List.getElem_mem hi, hf⟩
theorem pickM {s : Str} {n : Nat} (hs : s.length = n) (h0 : 0 < n) (hm : n ≤ 1000) (x : Int) : ∃ c, c ∈ sgs s ∧ ∀ p r (e : Env), idxR (.str s) (.int (x % n)) p r e = .ok (.str (sg c)) e := by
  have h1 := Int.emod_nonneg x (show (n : Int) ≠ 0 by omega)
  have h2 := Int.emod_lt_of_pos x (show (0 : Int) < n by omega)
  obtain ⟨c, hc, hcs⟩ := atI_some (xs := sgs s) h1 (by rw [len_sgs, hs]; exact h2)
  exact ⟨c, hcs, fun p r e => idx_str (by unfold most; omega) hc⟩
theorem pickS {s : Str} {n : Nat} (hs : s.length = n) (h0 : 0 < n) (hm : n ≤ 1000) (x : Int) : ∃ c, ∀ p r (e : Env), idxR (.str s) (.int (x % n)) p r e = .ok (.str (sg c)) e := by
  have h1 := Int.emod_nonneg x (show (n : Int) ≠ 0 by omega)
  have h2 := Int.emod_lt_of_pos x (show (0 : Int) < n by omega)
  obtain ⟨c, hc, _⟩ := atI_some (xs := sgs s) h1 (by rw [len_sgs, hs]; exact h2)
  exact ⟨c, fun p r e => idx_str (by unfold most; omega) hc⟩
theorem len_zero {s : Str} (h : s ≠ "") : 0 < s.length := by
  rcases Nat.eq_zero_or_pos s.length with h0 | h0
  · refine absurd ?_ h
    cases s with
    | mk cps =>
      have : cps = #[] := Array.eq_empty_of_size_eq_zero h0
      rw [this]; rfl
  · exact h0
/-! ### what the evaluator tells of texts -/
section
variable {e : Env} {rs : List (Option Nat)} {i : Int} {s : Str} {xs : List D} {f : Env → R (List D)}
theorem bi_int_str {n : Int} (h : PySem.intText? s = some n) (hl : s.length ≤ 640) : biR .int [.str s] rs e = .ok (.int n) e := by simp only [biR, bifD, h, if_pos hl, shr, inLf, if_true]
@[simp] theorem bi_int_int : biR .int [.int i] rs e = .ok (.int i) e := id rfl
theorem bi_str_int (h : i.natAbs.log2 < 1920) : biR .str [.int i] rs e = .ok (.str (toString i)) e := by simp only [biR, bifD, h, if_true, shr, inLf]
@[simp] theorem mth_str {m : Mth} : mthR m (.str s) f e = (f e).bind fun xs e2 => opt (mthf m (.str s) xs) e2 := id rfl
@[simp] theorem mth_find {z : Str} : mthf .find (.str s) [.str z] = some (.int (Txt.find s z)) := id rfl
theorem mth_zfill (h : PadOk i = true) : mthf .zfill (.str s) [.int i] = some (.str (Txt.zfill s i)) := by simp only [mthf, h, if_true]
end
theorem log_ltS {n : Nat} (h : n < 1000) : n.log2 < 10 := by
  by_cases h0 : n = 0
  · subst h0; decide
  · exact (Nat.log2_lt h0).2 (by omega)
/-! ### the handled exception -/
@[simp] theorem ev_isx' {cl : Nat → List D → CR} {bc : Nat → List D → BR} {cls : List ClsR} {ch : Nat → Nat → CR} {xc : Nat × Nat} {glo : Nat → Option D} {sub : Nat → Nat → Bool} {fuel : Nat} {ts : List Ty} {w p : Bool} {e : Env} : ev ⟨cl, bc, ch, some xc, glo, sub, fuel, cls⟩ (.isx ts w) p e = opt ((isAnyX sub xc.2 ts).map .bl) e := ev_isx rfl
/-! ### the surroundings -/
section
variable {G : Prg} {k f : Nat} {ds : List D}
@[simp] theorem par_bc : (par G k).bc f ds = callB G k f ds := id rfl
@[simp] theorem par_cls : (par G k).cls = G.cls := id rfl
@[simp] theorem par_cl : (par G k).cl f ds = callF G k f ds := id rfl
@[simp] theorem par_ch {c : Nat} : (par G k).ch f c = callX G k f c := id rfl
@[simp] theorem par_sub : (par G k).sub = G.sub := id rfl
@[simp] theorem par_glo {g : Nat} : (par G k).glo g = G.glo g := id rfl
@[simp] theorem par_fuel : (par G k).fuel = G.fuel := id rfl
@[simp] theorem outC_rt {l : Bool} {d : D} : outC l (.rt d) = .ok d := id rfl
@[simp] theorem outC_nx {l : Bool} {e : Env} : outC l (.nx e) = .ok .non := id rfl
@[simp] theorem outC_ex {c : Nat} {e : Env} : outC false (.ex c false e) = .ex c false := id rfl
@[simp] theorem outC_exL {h : Bool} {c : Nat} {e : Env} : outC true (.ex c h e) = .ex c true := id rfl
@[simp] theorem outC_ite {l : Bool} {p : Prop} [Decidable p] {a b : Out} : outC l (if p then a else b) = if p then outC l a else outC l b := by split <;> rfl
end
/-! ### instances, dicts -/
def partR (p : Bool) (rt : Option Nat) : Option D → Env → R D
  | some d, e => if (p || lf d) = true then .ok d e else .ok (frz d) (fz e rt)
  | none, _ => .stuck
@[simp] theorem partR_p {rt : Option Nat} {d : D} {e : Env} : partR true rt (some d) e = .ok d e := id rfl
theorem partR_lf {p : Bool} {rt : Option Nat} {d : D} {e : Env} (h : lf d = true) : partR p rt (some d) e = .ok d e := by simp [partR, h]
theorem partR_f {rt : Option Nat} {d : D} {e : Env} (h : lf d = false) : partR false rt (some d) e = .ok (frz d) (fz e rt) := by simp [partR, h]
def mtR (P : Par) (m : Str) (ro : Option Nat) (rs : List (Option Nat)) (f : Env → R (List D)) : D → Env → R D
  | .obj mm c fs ys, e1 => match mtOf P.cls c m with
    | some g => if m ∈ fs then .stuck else (f e1).bind fun xs e2 => callR (P.cl g (frzL (.obj mm c fs ys :: xs))) (ro :: rs) e2
    | none => .stuck
  | _, _ => .stuck
def mkR (P : Par) (c : Nat) (rs : List (Option Nat)) (xs : List D) (e1 : Env) : R D := match P.cls[c]? with
  | some r => (match r.init with
    | some f => (match P.bc f (.obj true r.nm [] [] :: frzL xs) with
      | .ok .non d => if ff d = true then .ok d e1 else .ok d (rs.foldl fz e1)
      | .ex c h _ => .ex c h e1
      | _ => .stuck)
    | none => if xs.isEmpty = true then .ok (.obj true r.nm [] []) e1 else .stuck)
  | none => .stuck
def getR (p : Bool) (rt : Option Nat) : Option (Option D) → List D → Env → R D
  | some v, [], e => (match v with
    | some d => partR p rt (some d) e
    | none => .ok .non e)
  | some v, [z], e => (match v with
    | some d => if (lf d && lf z) = true then .ok d e else .stuck
    | none => if lf z = true then .ok z e else .stuck)
  | _, _, _ => .stuck
section
variable {P : Par} {p : Bool} {e : Env} {a b o as pl : C} {f m : Str} {c g : Nat}
@[simp] theorem ev_dnewT : ev P .dnewT p e = .ok (.dtt true [] []) e := by simp only [ev]
@[simp] theorem ev_fld : ev P (.fld a f) p e = (ev P a true e).bind fun x e1 => partR p (root a) (fldD P.cls x f) e1 := by
  simp only [ev]
  congr
  funext x e1
  cases fldD P.cls x f <;> rfl
@[simp] theorem ev_mcall : ev P (.mcall m o as) p e = (ev P o true e).bind fun x e1 => mtR P m (root o) (roots as) (evA P as true) x e1 := by
  simp only [ev]
  congr
  funext x e1
  cases x <;> rfl
@[simp] theorem ev_mk : ev P (.mk c as) p e = (evA P as true e).bind fun xs e1 => mkR P c (roots as) xs e1 := by
  simp only [ev]
  congr
@[simp] theorem ev_bcall : ev P (.bcall g pl as) p e = (evPl P pl e).bind fun ip e1 => (evA P as true e1).bind fun xs e2 => bcR P.bc g (roots as) ip xs e2 := by simp only [ev]
theorem mtR_obj {mm : Bool} {cn : Str} {fs : List Str} {ys : List D} {ro : Option Nat} {rs : List (Option Nat)} {f : Env → R (List D)} (h : mtOf P.cls cn m = some g) (hn : m ∉ fs) :
    mtR P m ro rs f (.obj mm cn fs ys) e = (f e).bind fun xs e2 => callR (P.cl g (frzL (.obj mm cn fs ys :: xs))) (ro :: rs) e2 := by
  simp only [mtR, h, if_neg hn]
theorem mkR_ok {r : ClsR} {g : Nat} {rs : List (Option Nat)} {xs : List D} {d : D} (hc : P.cls[c]? = some r) (hi : r.init = some g) (h : P.bc g (.obj true r.nm [] [] :: frzL xs) = .ok .non d) : mkR P c rs xs e = if ff d = true then .ok d e else .ok d (rs.foldl fz e) := by
  simp only [mkR, hc, hi, h]
theorem mkR_0 {r : ClsR} {rs : List (Option Nat)} (hc : P.cls[c]? = some r) (hi : r.init = none) : mkR P c rs [] e = .ok (.obj true r.nm [] []) e := by
  simp [mkR, hc, hi]
end
/-! ### places -/
section
variable {P : Par} {e : Env} {d x : D} {i : Nat} {f : Str} {h : Bool} {a pl ix : C}
@[simp] theorem evPl_get0 : evPl P (.get 0) (some d :: e) = .ok (0, []) (some d :: e) := by simp only [evPl]; rfl
theorem evPl_get (h : e[i]? = some (some d)) : evPl P (.get i) e = .ok (i, []) e := by simp only [evPl, h]
@[simp] theorem plD_get0 : plD (some d :: e) (0, []) = some d := id rfl
theorem plD_get (h : e[i]? = some (some d)) : plD e (i, []) = some d := by simp only [plD, h, atP]
@[simp] theorem setPl_0 : setPl (some d :: e) (0, []) x = some x :: e := id rfl
def setfR (P : Par) (f : Str) (d : D) (ip : Nat × List Stp) (e : Env) : Out := match (plD e ip).bind fun c => fldF P.cls c f d with
  | some c => .nx (setPl e ip c)
  | none => .stuck
@[simp] theorem run_setf : run P (.setf pl f a) h e = ofR (ev P a false e) fun d e1 => ofR (evPl P pl e1) fun ip e2 => setfR P f d ip e2 := by
  simp only [run]
  rfl
theorem setfR_0 {y : D} (h : fldF P.cls x f d = some y) : setfR P f d (0, []) (some x :: e) = .nx (some y :: e) := by
  simp only [setfR, plD_get0, Option.bind_some, h, setPl_0]
def setpR (d : D) (k : D) (ip : Nat × List Stp) (e : Env) : Out := match (plD e ip).bind fun c => putF c k d with
  | some c => .nx (setPl e ip c)
  | none => .stuck
@[simp] theorem run_setp : run P (.setp pl ix a) h e = ofR (ev P a false e) fun d e1 => ofR (evPl P pl e1) fun ip e2 => ofR (ev P ix true e2) fun k e3 => setpR d k ip e3 := by
  simp only [run]
  rfl
@[simp] theorem run_retb : run P (.retb a) h e = ofR (ev P a false e) fun d e1 => .rb d e1 := by simp only [run]
@[simp] theorem outB_nx {l : Bool} : outB l (.nx (some d :: e)) = .ok .non d := id rfl
@[simp] theorem outB_rb {l : Bool} : outB l (.rb x (some d :: e)) = .ok x d := id rfl
@[simp] theorem outB_ex {c : Nat} : outB false (.ex c false (some d :: e)) = .ex c false d := id rfl
end
/-! ### reversed, divmod -/
def revR (ms : Bool) (rt : Option Nat) : D → Env → R (List D)
  | .lst _ xs, e1 => if (lfL xs && !ms) = true then .ok xs.reverse e1 else .ok (frzL xs).reverse (fz e1 rt)
  | _, _ => .stuck
@[simp] theorem evI_rev {P : Par} {ms : Bool} {a : C} {e : Env} : evI P ms (.revw a) e = (ev P a true e).bind fun x e1 => revR ms (root a) x e1 := by
  simp only [evI]
  congr
  funext x e1
  cases x <;> rfl
def rvR (rt : Option Nat) : D → Env → R D
  | .lst _ xs, e1 => shr [rt] (.lst true xs.reverse) e1
  | _, _ => .stuck
@[simp] theorem ev_rv {P : Par} {p : Bool} {a : C} {e : Env} : ev P (.rev a) p e = (ev P a true e).bind fun x e1 => rvR (root a) x e1 := by
  simp only [ev]
  congr
  funext x e1
  cases x <;> rfl
theorem rvR_I {rt : Option Nat} {m : Bool} {xs : List Int} {e : Env} : rvR rt (.lst m (xs.map .int)) e = .ok (.lst true (xs.reverse.map .int)) e := by
  simp only [rvR, shr, inLf, ← List.map_reverse, lfL_ints, if_true]
theorem bin_lstI {xs ys : List Int} {m m' : Bool} {rs : List (Option Nat)} {e : Env} (h : xs.length + ys.length ≤ most) : binR .add (.lst m (xs.map .int)) (.lst m' (ys.map .int)) rs e = .ok (.lst true ((xs ++ ys).map .int)) e := by
  rw [bin_lst (by simpa using h) (by rw [← List.map_append]; exact lfL_ints _), List.map_append]
theorem revR_lf {rt : Option Nat} {m : Bool} {xs : List D} {e : Env} (h : lfL xs = true) : revR false rt (.lst m xs) e = .ok xs.reverse e := by simp [revR, h]
@[simp] theorem bi_dvm {i j : Int} {rs : List (Option Nat)} {e : Env} (h : divOk j = true) : biR .dvm [.int i, .int j] rs e = .ok (.tup [.int (i / j), .int (i % j)]) e := by
  simp only [biR, bifD, h, if_true, shr]
  rfl
end VI
set_option maxRecDepth 100000
set_option maxHeartbeats 2000000
/-! PS: the parts of a text between a sign; lists and tuples of texts. -/
namespace VI
open PySem PySem.Spec PyProof.Rows
/-- the parts between signs c: what stands so far, what is still to be walked -/
def cut (c : Nat) : List Nat → List Nat → List (List Nat)
  | acc, [] => [acc]
  | acc, d :: r => if d = c then acc :: cut c [] r else cut c (acc ++ [d]) r
def ofL (l : List Nat) : Str := ⟨l.toArray⟩
@[simp] theorem len_ofL {l : List Nat} : (ofL l).length = l.length := by simp [ofL, Str.length]
theorem ofL_sgs {w : Str} : ofL (sgs w) = w := by cases w; simp [ofL, sgs]
theorem sgs_ofL {l : List Nat} : sgs (ofL l) = l := by simp [ofL, sgs]
theorem ofL_snoc {l : List Nat} {d : Nat} : ofL l ++ sg d = ofL (l ++ [d]) := by
  apply Str.ext'
  rw [Str.cps_append]
  simp [ofL, sg]
theorem ofL_nil : ofL [] = "" := by decide +kernel
def parts (w : Str) (c : Nat) : List Str := (cut c [] (sgs w)).map ofL
theorem spl_cut (c : Nat) : ∀ (r acc : List Nat), TL.spl [c] 0 acc r = cut c acc r
  | [], acc => by rw [TL.spl_nil]; rfl
  | d :: r, acc => by
    have hp : TL.pre [c] (d :: r) = decide (d = c) := by
      unfold TL.pre
      simp only [List.length_cons, List.length_nil, List.take_succ_cons, List.take_zero]
      rw [Bool.eq_iff_iff, beq_iff_eq, decide_eq_true_eq]
      simp
    unfold cut
    by_cases h : d = c
    · rw [if_pos h, TL.spl_hit (by rw [hp, decide_eq_true h])]
      show acc :: TL.spl [c] 0 [] r = _
      rw [spl_cut c r []]
    · rw [if_neg h, ← spl_cut c r (acc ++ [d])]
      show (if TL.pre [c] (d :: r) = true then _ else _) = _
      rw [hp, decide_eq_false h, if_neg (by decide)]
theorem split_parts {w : Str} {c : Nat} (hc : c < 256) : Txt.split w (sg c) = parts w c := by
  have h := TL.split_spl w (sg c) (by show [c] ≠ []; simp) (by
    have : Builtin.Str.strKind (sg c) = 1 := by
      unfold Builtin.Str.strKind sg
      simp [hc]
    rw [this]
    unfold Builtin.Str.strKind
    split
    · decide
    · split <;> decide)
  have h2 : TL.spl [c] 0 [] (sgs w) = cut c [] (sgs w) := spl_cut c _ _
  have h3 : (Txt.split w (sg c)).map sgs = cut c [] (sgs w) := h.trans h2
  unfold parts
  rw [← h3, List.map_map]
  have : (ofL ∘ sgs) = id := by funext x; exact ofL_sgs
  rw [this, List.map_id]
theorem cut_ne {c : Nat} : ∀ {r acc : List Nat}, cut c acc r ≠ []
  | [], acc => by simp [cut]
  | d :: r, acc => by
    unfold cut
    split
    · simp
    · exact cut_ne
theorem pcut_len {c : Nat} : ∀ {r acc : List Nat}, (cut c acc r).length ≤ r.length + 1
  | [], acc => by simp [cut]
  | d :: r, acc => by
    unfold cut
    split
    · simp only [List.length_cons]
      have := pcut_len (c := c) (r := r) (acc := [])
      omega
    · have := pcut_len (c := c) (r := r) (acc := acc ++ [d])
      simp only [List.length_cons]
      omega
theorem cut_part {c : Nat} : ∀ {r acc : List Nat} {l : List Nat}, l ∈ cut c acc r → l.length ≤ acc.length + r.length
  | [], acc, l, h => by
    simp only [cut, List.mem_singleton] at h
    subst h; simp
  | d :: r, acc, l, h => by
    unfold cut at h
    split at h
    · rcases List.mem_cons.1 h with rfl | h
      · simp only [List.length_cons]; omega
      · have := cut_part h
        simp only [List.length_cons, List.length_nil] at this ⊢; omega
    · have := cut_part h
      simp only [List.length_cons, List.length_append, List.length_nil] at this ⊢; omega
theorem parts_len {w : Str} {c : Nat} : (parts w c).length ≤ w.length + 1 := by
  unfold parts
  rw [List.length_map, ← len_sgs]
  exact pcut_len
theorem part_len {w p : Str} {c : Nat} (h : p ∈ parts w c) : p.length ≤ w.length := by
  unfold parts at h
  obtain ⟨l, hl, rfl⟩ := List.mem_map.1 h
  have := cut_part hl
  rw [len_ofL, ← len_sgs (s := w)]
  simpa using this
/-! ### lists of texts -/
theorem pyL_strs : ∀ ns : List Str, pyL (ns.map D.str) = some (ns.map PyData.str)
  | [] => rfl
  | n :: ns => by simp only [List.map_cons, pyL, py, pyL_strs ns]
/-- a text of signs that there are -/
def okT (s : Str) : Prop := PyData.strOk s = true
instance {s : Str} : Decidable (okT s) := inferInstanceAs (Decidable (PyData.strOk s = true))
theorem okT_iff {s : Str} : okT s ↔ ∀ c ∈ sgs s, c < 0x110000 := by
  unfold okT PyData.strOk sgs
  rw [← Array.all_toList, List.all_eq_true]
  simp
theorem okT_cat {a b : Str} (ha : okT a) (hb : okT b) : okT (a ++ b) := by
  rw [okT_iff] at *
  intro c hc
  unfold sgs at hc
  rw [Str.cps_append, Array.toList_append] at hc
  rcases List.mem_append.1 hc with h | h
  · exact ha c h
  · exact hb c h
theorem okT_sg {c : Nat} (h : c < 0x110000) : okT (sg c) := by
  rw [okT_iff]
  intro d hd
  have : d = c := by simpa [sgs, sg] using hd
  omega
theorem okT_ofL {l : List Nat} : okT (ofL l) ↔ ∀ c ∈ l, c < 0x110000 := by rw [okT_iff, sgs_ofL]
theorem okT_cut {s : Str} {l h : Option Int} (hs : okT s) : okT (L2.cutS s l h) := by
  rw [okT_iff] at *
  intro c hc
  refine hs c ?_
  unfold L2.cutS sgs at hc
  exact List.mem_of_mem_drop (List.mem_of_mem_take hc)
theorem cut_mem {c : Nat} : ∀ {r acc : List Nat} {l : List Nat} {d : Nat}, l ∈ cut c acc r → d ∈ l → d ∈ acc ∨ d ∈ r
  | [], acc, l, d, h, hd => by
    simp only [cut, List.mem_singleton] at h
    subst h; exact .inl hd
  | x :: r, acc, l, d, h, hd => by
    unfold cut at h
    split at h
    · rcases List.mem_cons.1 h with rfl | h
      · exact .inl hd
      · rcases cut_mem h hd with h | h
        · cases h
        · exact .inr (List.mem_cons_of_mem _ h)
    · rcases cut_mem h hd with h | h
      · rcases List.mem_append.1 h with h | h
        · exact .inl h
        · have : d = x := by simpa using h
          exact .inr (this ▸ List.mem_cons_self)
      · exact .inr (List.mem_cons_of_mem _ h)
theorem okT_parts {w : Str} {c : Nat} (hw : okT w) : ∀ p ∈ parts w c, okT p := by
  intro p hp
  unfold parts at hp
  obtain ⟨l, hl, rfl⟩ := List.mem_map.1 hp
  rw [okT_ofL]
  intro d hd
  rcases cut_mem hl hd with h | h
  · cases h
  · exact okT_iff.1 hw d h
theorem lay_strs : ∀ ns : List Str, (∀ s ∈ ns, okT s) → PyData.canLayAll0 (ns.map PyData.str) = true
  | [], _ => rfl
  | n :: ns, h => by
    have hn : PyData.strOk n = true := h n List.mem_cons_self
    simp only [List.map_cons, PyData.canLayAll0, PyData.canLay0, hn, lay_strs ns fun s hs => h s (List.mem_cons_of_mem _ hs), Bool.and_self]
theorem depth_strs : ∀ ns : List Str, PyData.depthAll (ns.map PyData.str) = 0
  | [] => rfl
  | n :: ns => by simp only [List.map_cons, PyData.depthAll, PyData.depth, depth_strs ns, Nat.max_self]
theorem shaped_tupS {ns : List Str} (h : ∀ s ∈ ns, okT s) : SeqAt.shaped (.tuple (ns.map .str)) = true := by
  unfold SeqAt.shaped
  simp only [PyData.canLay0, lay_strs ns h, PyData.depth, depth_strs, Bool.true_and]
  decide
theorem shaped_lstS {ns : List Str} (h : ∀ s ∈ ns, okT s) : SeqAt.shaped (.list (ns.map .str)) = true := by
  unfold SeqAt.shaped
  simp only [PyData.canLay0, lay_strs ns h, PyData.depth, depth_strs, Bool.true_and]
  decide
theorem eqvAll_strs : ∀ xs ys : List Str, PyData.eqvAll (xs.map .str) (ys.map .str) = decide (xs = ys)
  | [], [] => rfl
  | [], y :: ys => by simp [PyData.eqvAll]
  | x :: xs, [] => by simp [PyData.eqvAll]
  | x :: xs, y :: ys => by
    simp only [List.map_cons, PyData.eqvAll, PyData.eqv, eqvAll_strs xs ys]
    by_cases h : x = y
    · subst h; simp
    · simp [h]
section
variable {xs ys : List Str} {m m' : Bool} {e : Env} {s : Str}
theorem deq_tupS (hx : ∀ s ∈ xs, okT s) (hy : ∀ s ∈ ys, okT s) : deq (.tup (xs.map .str)) (.tup (ys.map .str)) = some (decide (xs = ys)) := by
  simp only [deq, scal, py, pyL_strs, Option.map_some, shaped_tupS hx, shaped_tupS hy, Bool.and_self, if_true, PyData.eqv, eqvAll_strs]
theorem deq_lstS (hx : ∀ s ∈ xs, okT s) (hy : ∀ s ∈ ys, okT s) : deq (.lst m (xs.map .str)) (.lst m' (ys.map .str)) = some (decide (xs = ys)) := by
  simp only [deq, scal, py, pyL_strs, Option.map_some, shaped_lstS hx, shaped_lstS hy, Bool.and_self, if_true, PyData.eqv, eqvAll_strs]
theorem cmp_neTS (hx : ∀ s ∈ xs, okT s) (hy : ∀ s ∈ ys, okT s) : cmpR .ne (.tup (xs.map .str)) (.tup (ys.map .str)) e = .ok (.bl (!decide (xs = ys))) e := by simp only [cmpR, cmpop, deq_tupS hx hy, Option.map_some, opt]
theorem cmp_neLS (hx : ∀ s ∈ xs, okT s) (hy : ∀ s ∈ ys, okT s) : cmpR .ne (.lst m (xs.map .str)) (.lst m' (ys.map .str)) e = .ok (.bl (!decide (xs = ys))) e := by simp only [cmpR, cmpop, deq_lstS hx hy, Option.map_some, opt]
theorem flat_strs : (xs.map D.str).all flat = true := by
  rw [List.all_map, List.all_eq_true]
  intro x _; rfl
theorem any_strs : ((xs.map D.str).any fun y => flatEq y (.str s)) = decide (s ∈ xs) := by
  rw [List.any_map, Bool.eq_iff_iff, List.any_eq_true, decide_eq_true_eq]
  constructor
  · rintro ⟨x, hx, h⟩
    have : x = s := by simpa [flatEq] using h
    exact this ▸ hx
  · intro h
    exact ⟨s, h, by simp [flatEq]⟩
@[simp] theorem cmp_inLS : cmpR .in_ (.str s) (.lst m (xs.map .str)) e = .ok (.bl (decide (s ∈ xs))) e := by
  have : flat (.str s) = true := rfl
  simp only [cmpR, cmpop, this, flat_strs, Bool.and_self, if_true, any_strs, Option.map_some, opt]
@[simp] theorem cmp_inTS : cmpR .in_ (.str s) (.tup (xs.map .str)) e = .ok (.bl (decide (s ∈ xs))) e := by
  have : flat (.str s) = true := rfl
  simp only [cmpR, cmpop, this, flat_strs, Bool.and_self, if_true, any_strs, Option.map_some, opt]
@[simp] theorem call_tupS {rs : List (Option Nat)} : callR (.ok (.tup (xs.map .str))) rs e = .ok (.tup (xs.map .str)) e := call_ff (by simp)
@[simp] theorem call_lstS {rs : List (Option Nat)} : callR (.ok (.lst true (xs.map .str))) rs e = .ok (.lst true (xs.map .str)) e := call_ff (by simp)
theorem mth_split {z : Str} (h1 : (z.length == 0) = false) (h2 : s.length + 2 ≤ most) : mthf .split (.str s) [.str z] = some (.lst true ((Txt.split s z).map .str)) := by simp only [mthf, h1, h2, and_self, if_true]
end
end VI
set_option maxRecDepth 100000
set_option maxHeartbeats 2000000
/-! PD: == of rows: nested tuples and lists of numbers and texts. -/
namespace VI
open PySem PySem.Spec PyProof.Rows
/-- data that == looks through, at most n deep -/
def Sh (d : D) (n : Nat) : Prop := ∃ p, py d = some p ∧ p.canLay0 = true ∧ p.depth ≤ n
def ShL (ds : List D) (n : Nat) : Prop := ∃ ps, pyL ds = some ps ∧ PyData.canLayAll0 ps = true ∧ PyData.depthAll ps ≤ n
theorem Sh.le {d : D} {n m : Nat} (h : Sh d n) (hm : n ≤ m) : Sh d m := by
  obtain ⟨p, h1, h2, h3⟩ := h
  exact ⟨p, h1, h2, by omega⟩
theorem sh_int {i : Int} {n : Nat} : Sh (.int i) n := ⟨_, rfl, rfl, Nat.zero_le _⟩
theorem sh_str {s : Str} {n : Nat} (h : okT s) : Sh (.str s) n := ⟨_, rfl, h, Nat.zero_le _⟩
theorem shL_nil {n : Nat} : ShL [] n := ⟨[], rfl, rfl, Nat.zero_le _⟩
theorem shL_cons {d : D} {ds : List D} {n : Nat} (h : Sh d n) (hs : ShL ds n) : ShL (d :: ds) n := by
  obtain ⟨p, h1, h2, h3⟩ := h
  obtain ⟨ps, k1, k2, k3⟩ := hs
  refine ⟨p :: ps, by simp only [pyL, h1, k1], by simp only [PyData.canLayAll0, h2, k2, Bool.and_self], ?_⟩
  simp only [PyData.depthAll]
  omega
theorem shL_all {ds : List D} {n : Nat} (h : ∀ d ∈ ds, Sh d n) : ShL ds n := by
  induction ds with
  | nil => exact shL_nil
  | cons d ds ih => exact shL_cons (h d List.mem_cons_self) (ih fun d hd => h d (List.mem_cons_of_mem _ hd))
theorem sh_tup {ds : List D} {n : Nat} (h : ShL ds n) : Sh (.tup ds) (n + 1) := by
  obtain ⟨ps, k1, k2, k3⟩ := h
  exact ⟨.tuple ps, by simp only [py, k1, Option.map_some], by simp only [PyData.canLay0, k2], by simp only [PyData.depth]; omega⟩
theorem sh_lst {ds : List D} {m : Bool} {n : Nat} (h : ShL ds n) : Sh (.lst m ds) (n + 1) := by
  obtain ⟨ps, k1, k2, k3⟩ := h
  exact ⟨.list ps, by simp only [py, k1, Option.map_some], by simp only [PyData.canLay0, k2], by simp only [PyData.depth]; omega⟩
theorem shaped_of {p : PyData} (h : p.canLay0 = true) (hd : p.depth ≤ 64) : SeqAt.shaped p = true := by
  unfold SeqAt.shaped
  rw [h, decide_eq_true hd]; rfl
/-- what == tells of two such -/
def eqb (x y : D) : Bool := match py x, py y with
  | some a, some b => PyData.eqv a b
  | _, _ => false
theorem deq_gen {x y : D} (hs : scal x y = none) (hx : Sh x 64) (hy : Sh y 64) : deq x y = some (eqb x y) := by
  obtain ⟨p, h1, h2, h3⟩ := hx
  obtain ⟨q, k1, k2, k3⟩ := hy
  simp only [deq, hs, h1, k1, shaped_of h2 h3, shaped_of k2 k3, Bool.and_self, if_true, eqb]
theorem eqb_same {x y : D} (h : py x = py y) (hx : Sh x 64) : eqb x y = true := by
  obtain ⟨p, h1, h2, h3⟩ := hx
  simp only [eqb, ← h, h1]
  exact PySem.SeqAt.eqv_refl p h2
section
variable {xs ys : List D} {m m' : Bool} {e : Env}
theorem cmp_neTT (hx : Sh (.tup xs) 64) (hy : Sh (.tup ys) 64) : cmpR .ne (.tup xs) (.tup ys) e = .ok (.bl (!eqb (.tup xs) (.tup ys))) e := by
  simp only [cmpR, cmpop, deq_gen (x := .tup xs) (y := .tup ys) rfl hx hy, Option.map_some, opt]
theorem py_lst : py (.lst m xs) = py (.lst m' xs) := by simp only [py]
theorem cmp_eqLL (hx : Sh (.lst m xs) 64) : cmpR .eq (.lst m xs) (.lst m' xs) e = .ok (.bl true) e := by
  have hy : Sh (.lst m' xs) 64 := by
    obtain ⟨p, h1, h2, h3⟩ := hx
    exact ⟨p, by rw [← h1]; exact py_lst, h2, h3⟩
  simp only [cmpR, cmpop, deq_gen (x := .lst m xs) (y := .lst m' xs) rfl hx hy, eqb_same (x := .lst m xs) (y := .lst m' xs) py_lst hx, Option.map_some, opt]
theorem cmp_neLL (hx : Sh (.lst m xs) 64) : cmpR .ne (.lst m xs) (.lst m' xs) e = .ok (.bl false) e := by
  have hy : Sh (.lst m' xs) 64 := by
    obtain ⟨p, h1, h2, h3⟩ := hx
    exact ⟨p, by rw [← h1]; exact py_lst, h2, h3⟩
  simp only [cmpR, cmpop, deq_gen (x := .lst m xs) (y := .lst m' xs) rfl hx hy, eqb_same (x := .lst m xs) (y := .lst m' xs) py_lst hx, Option.map_some, opt, Bool.not_true]
end
end VI
set_option maxRecDepth 100000
set_option maxHeartbeats 4000000
/-! K18: the defs in the core language (printed by gen.py). -/
namespace K18
open PySem PySem.Spec PyProof.Rows VI
/-- 0: _law_cell_at[0 _law_script, 1 _law_k] -/
def c0 : C := (.seq (.ife (.cons (.cmp .lt (.get 1) (.bi .len (.cons (.get 0) .nil))) .nil) (.seq (.ret (.idx (.get 0) (.get 1))) .skip) .skip) (.seq (.ret (.int 0)) .skip))
def f0 : Fn := ⟨2, 2, c0, false, false⟩
/-- 1: _law_flags[0 _law_e, 1 _law_flags_here] -/
def c1 : C := (.seq (.set (.one 1) (.lst (.cons (.isi (.get 0) [(.xcl 1 ["NoNumber"] ["LendError", "NoName", "NoRow", "NoStamp", "NoClock", "NoFine", "NoMercy", "NoWheel", "NoHold", "NoDeed", "NoGround", "Misfit", "Torn", "Gap", "NoHistory"])] false) (.cons (.isi (.get 0) [(.xcl 2 ["NoName"] ["LendError", "NoNumber", "NoRow", "NoStamp", "NoClock", "NoFine", "NoMercy", "NoWheel", "NoHold", "NoDeed", "NoGround", "Misfit", "Torn", "Gap", "NoHistory"])] false) (.cons (.isi (.get 0) [(.xcl 3 ["NoRow"] ["LendError", "NoNumber", "NoName", "NoStamp", "NoClock", "NoFine", "NoMercy", "NoWheel", "NoHold", "NoDeed", "NoGround", "Misfit", "Torn", "Gap", "NoHistory"])] false) (.cons (.isi (.get 0) [(.xcl 4 ["NoStamp"] ["LendError", "NoNumber", "NoName", "NoRow", "NoClock", "NoFine", "NoMercy", "NoWheel", "NoHold", "NoDeed", "NoGround", "Misfit", "Torn", "Gap", "NoHistory"])] false) .nil)))))) (.seq (.set (.one 1) (.bin .add (.get 1) (.lst (.cons (.isi (.get 0) [(.xcl 5 ["NoClock"] ["LendError", "NoNumber", "NoName", "NoRow", "NoStamp", "NoFine", "NoMercy", "NoWheel", "NoHold", "NoDeed", "NoGround", "Misfit", "Torn", "Gap", "NoHistory"])] false) (.cons (.isi (.get 0) [(.xcl 6 ["NoFine"] ["LendError", "NoNumber", "NoName", "NoRow", "NoStamp", "NoClock", "NoMercy", "NoWheel", "NoHold", "NoDeed", "NoGround", "Misfit", "Torn", "Gap", "NoHistory"])] false) (.cons (.isi (.get 0) [(.xcl 7 ["NoMercy"] ["LendError", "NoNumber", "NoName", "NoRow", "NoStamp", "NoClock", "NoFine", "NoWheel", "NoHold", "NoDeed", "NoGround", "Misfit", "Torn", "Gap", "NoHistory"])] false) (.cons (.isi (.get 0) [(.xcl 8 ["NoWheel"] ["LendError", "NoNumber", "NoName", "NoRow", "NoStamp", "NoClock", "NoFine", "NoMercy", "NoHold", "NoDeed", "NoGround", "Misfit", "Torn", "Gap", "NoHistory"])] false) .nil))))))) (.seq (.set (.one 1) (.bin .add (.get 1) (.lst (.cons (.isi (.get 0) [(.xcl 9 ["NoHold"] ["LendError", "NoNumber", "NoName", "NoRow", "NoStamp", "NoClock", "NoFine", "NoMercy", "NoWheel", "NoDeed", "NoGround", "Misfit", "Torn", "Gap", "NoHistory"])] false) (.cons (.isi (.get 0) [(.xcl 10 ["NoDeed"] ["LendError", "NoNumber", "NoName", "NoRow", "NoStamp", "NoClock", "NoFine", "NoMercy", "NoWheel", "NoHold", "NoGround", "Misfit", "Torn", "Gap", "NoHistory"])] false) (.cons (.isi (.get 0) [(.xcl 11 ["NoGround"] ["LendError", "NoNumber", "NoName", "NoRow", "NoStamp", "NoClock", "NoFine", "NoMercy", "NoWheel", "NoHold", "NoDeed", "Misfit", "Torn", "Gap", "NoHistory"])] false) (.cons (.isi (.get 0) [(.xcl 12 ["Misfit"] ["LendError", "NoNumber", "NoName", "NoRow", "NoStamp", "NoClock", "NoFine", "NoMercy", "NoWheel", "NoHold", "NoDeed", "NoGround", "Torn", "Gap", "NoHistory"])] false) .nil))))))) (.seq (.ret (.bin .add (.get 1) (.lst (.cons (.isi (.get 0) [(.xcl 13 ["Torn"] ["LendError", "NoNumber", "NoName", "NoRow", "NoStamp", "NoClock", "NoFine", "NoMercy", "NoWheel", "NoHold", "NoDeed", "NoGround", "Misfit", "Gap", "NoHistory"])] false) (.cons (.isi (.get 0) [(.xcl 14 ["Gap"] ["LendError", "NoNumber", "NoName", "NoRow", "NoStamp", "NoClock", "NoFine", "NoMercy", "NoWheel", "NoHold", "NoDeed", "NoGround", "Misfit", "Torn", "NoHistory"])] false) (.cons (.isi (.get 0) [(.xcl 15 ["NoHistory"] ["LendError", "NoNumber", "NoName", "NoRow", "NoStamp", "NoClock", "NoFine", "NoMercy", "NoWheel", "NoHold", "NoDeed", "NoGround", "Misfit", "Torn", "Gap"])] false) .nil)))))) .skip))))
def f1 : Fn := ⟨1, 2, c1, false, false⟩
/-- 2: _law_made[0 _law_one, 1 _law_two, 2 _law_key, 3 _law_some] -/
def c2 : C := (.seq (.set (.one 3) (.lst (.cons (.mkx "NoNumber" [] (.cons (.str "no") .nil)) (.cons (.mkx "NoName" [] (.cons (.str "no") .nil)) (.cons (.mkx "NoRow" [] (.cons (.str "no") .nil)) (.cons (.mkx "NoStamp" [] (.cons (.str "no") .nil)) (.cons (.mkx "NoClock" [] (.cons (.str "no") .nil)) (.cons (.mkx "NoFine" [] (.cons (.str "no") .nil)) (.cons (.mkx "NoMercy" [] (.cons (.str "no") .nil)) .nil))))))))) (.seq (.set (.one 3) (.bin .add (.get 3) (.lst (.cons (.mkx "NoWheel" [] (.cons (.str "no") .nil)) (.cons (.mkx "NoHold" [] (.cons (.str "no") .nil)) (.cons (.mkx "NoDeed" [] (.cons (.str "no") .nil)) (.cons (.mkx "NoGround" ["at"] (.cons (.get 0) .nil)) (.cons (.mkx "Misfit" ["key"] (.cons (.get 2) .nil)) .nil)))))))) (.seq (.ret (.bin .add (.get 3) (.lst (.cons (.mkx "Torn" ["house", "number"] (.cons (.get 0) (.cons (.get 1) .nil))) (.cons (.mkx "Gap" ["house", "number"] (.cons (.get 1) (.cons (.get 0) .nil))) (.cons (.mkx "NoHistory" ["house", "number"] (.cons (.get 0) (.cons (.get 1) .nil))) .nil)))))) .skip)))
def f2 : Fn := ⟨3, 4, c2, false, false⟩
/-- 3: _law_is[0 _law_found, 1 _law_due] -/
def c3 : C := (.seq (.ret (.and (.isi (.get 0) [.int] false) (.and (.nt (.isi (.get 0) [.bool] false)) (.cmp .eq (.get 0) (.get 1))))) .skip)
def f3 : Fn := ⟨2, 2, c3, false, false⟩
/-- 4: _law_fields[0 _law_some, 1 _law_one, 2 _law_two, 3 _law_key] -/
def c4 : C := (.seq (.ife (.cons (.or (.nt (.call 3 (.cons (.fld (.idx (.get 0) (.int 10)) "at") (.cons (.get 1) .nil)))) (.or (.nt (.isi (.fld (.idx (.get 0) (.int 11)) "key") [.tuple] false)) (.cmp .ne (.fld (.idx (.get 0) (.int 11)) "key") (.get 3)))) .nil) (.seq (.ret (.bl false)) .skip) .skip) (.seq (.ife (.cons (.or (.nt (.call 3 (.cons (.fld (.idx (.get 0) (.int 12)) "house") (.cons (.get 1) .nil)))) (.nt (.call 3 (.cons (.fld (.idx (.get 0) (.int 12)) "number") (.cons (.get 2) .nil))))) .nil) (.seq (.ret (.bl false)) .skip) .skip) (.seq (.ife (.cons (.or (.nt (.call 3 (.cons (.fld (.idx (.get 0) (.int 13)) "house") (.cons (.get 2) .nil)))) (.nt (.call 3 (.cons (.fld (.idx (.get 0) (.int 13)) "number") (.cons (.get 1) .nil))))) .nil) (.seq (.ret (.bl false)) .skip) .skip) (.seq (.ret (.and (.call 3 (.cons (.fld (.idx (.get 0) (.int 14)) "house") (.cons (.get 1) .nil))) (.call 3 (.cons (.fld (.idx (.get 0) (.int 14)) "number") (.cons (.get 2) .nil))))) .skip))))
def f4 : Fn := ⟨4, 4, c4, false, false⟩
/-- 5: law[0 _law_script, 1 _law_numbers, 2 _law_k, 3 _law_key, 4 _law_first, 5 _law_second, 6 _law_j] -/
def c5 : C := (.seq (.set (.one 1) (.lc (.bin .mod (.call 0 (.cons (.get 0) (.cons (.get 2) .nil))) (.bin .pow (.int 10) (.int 60))) [2] (.one 2) (.rng1 (.int 4)) .skip)) (.seq (.set (.one 3) (.tup (.cons (.str "hold") (.cons (.bin .add (.str "b") (.bi .str (.cons (.bin .mod (.idx (.get 1) (.int 0)) (.int 100)) .nil))) (.cons (.bin .add (.str "r") (.bi .str (.cons (.bin .mod (.idx (.get 1) (.int 1)) (.int 100)) .nil))) .nil))))) (.seq (.set (.one 4) (.call 2 (.cons (.idx (.get 1) (.int 0)) (.cons (.idx (.get 1) (.int 1)) (.cons (.get 3) .nil))))) (.seq (.set (.one 5) (.call 2 (.cons (.idx (.get 1) (.int 2)) (.cons (.idx (.get 1) (.int 3)) (.cons (.tup (.cons (.str "at") (.cons (.bin .add (.str "c") (.bi .str (.cons (.bin .mod (.idx (.get 1) (.int 2)) (.int 100)) .nil))) .nil))) .nil))))) (.seq (.for_ (.one 2) (.rng1 (.int 15)) (.seq (.ife (.cons (.or (.nt (.isi (.idx (.get 4) (.get 2)) [(.xcl 0 ["LendError", "NoNumber", "NoName", "NoRow", "NoStamp", "NoClock", "NoFine", "NoMercy", "NoWheel", "NoHold", "NoDeed", "NoGround", "Misfit", "Torn", "Gap", "NoHistory"] [])] false)) (.nt (.isi (.idx (.get 4) (.get 2)) [.verr] false))) .nil) (.seq (.ret (.bl false)) .skip) .skip) (.seq (.ife (.cons (.cmp .ne (.call 1 (.cons (.idx (.get 4) (.get 2)) .nil)) (.lc (.cmp .eq (.get 6) (.get 2)) [6] (.one 6) (.rng1 (.int 15)) .skip)) .nil) (.seq (.ret (.bl false)) .skip) .skip) .skip))) (.seq (.ife (.cons (.nt (.call 4 (.cons (.get 5) (.cons (.idx (.get 1) (.int 2)) (.cons (.idx (.get 1) (.int 3)) (.cons (.tup (.cons (.str "at") (.cons (.bin .add (.str "c") (.bi .str (.cons (.bin .mod (.idx (.get 1) (.int 2)) (.int 100)) .nil))) .nil))) .nil)))))) .nil) (.seq (.ret (.bl false)) .skip) .skip) (.seq (.ret (.call 4 (.cons (.get 4) (.cons (.idx (.get 1) (.int 0)) (.cons (.idx (.get 1) (.int 1)) (.cons (.get 3) .nil)))))) .skip)))))))
def f5 : Fn := ⟨1, 7, c5, false, false⟩
/-- 6: __init__[0 self, 1 at] -/
def c6 : C := .dead
def f6 : Fn := ⟨2, 2, c6, false, false⟩
/-- 7: __init__[0 self, 1 key] -/
def c7 : C := .dead
def f7 : Fn := ⟨2, 2, c7, false, false⟩
/-- 8: __init__[0 self, 1 house, 2 number] -/
def c8 : C := .dead
def f8 : Fn := ⟨3, 3, c8, false, false⟩
/-- 9: __init__[0 self, 1 house, 2 number] -/
def c9 : C := .dead
def f9 : Fn := ⟨3, 3, c9, false, false⟩
/-- 10: __init__[0 self, 1 house, 2 number] -/
def c10 : C := .dead
def f10 : Fn := ⟨3, 3, c10, false, false⟩
def subs : List (Nat × Nat) := [(0, 0), (1, 0), (1, 1), (2, 0), (2, 2), (3, 0), (3, 3), (4, 0), (4, 4), (5, 0), (5, 5), (6, 0), (6, 6), (7, 0), (7, 7), (8, 0), (8, 8), (9, 0), (9, 9), (10, 0), (10, 10)]
def sub (a b : Nat) : Bool := subs.any fun s => s.1 == a && s.2 == b
def glos : List (Str × D) := []
def clss : List ClsR := []
def G : Prg := ⟨[f0, f1, f2, f3, f4, f5, f6, f7, f8, f9, f10], fun g => (glos[g]?).map (·.2), sub, 1000000, clss⟩
theorem u0 {k : Nat} {x0 x1 : D} : callF G (k + 1) 0 [x0, x1] = outC false (run (par G k) c0 false [some x0, some x1]) := rfl
theorem u1 {k : Nat} {x0 : D} : callF G (k + 1) 1 [x0] = outC false (run (par G k) c1 false [some x0, none]) := rfl
theorem u2 {k : Nat} {x0 x1 x2 : D} : callF G (k + 1) 2 [x0, x1, x2] = outC false (run (par G k) c2 false [some x0, some x1, some x2, none]) := rfl
theorem u3 {k : Nat} {x0 x1 : D} : callF G (k + 1) 3 [x0, x1] = outC false (run (par G k) c3 false [some x0, some x1]) := rfl
theorem u4 {k : Nat} {x0 x1 x2 x3 : D} : callF G (k + 1) 4 [x0, x1, x2, x3] = outC false (run (par G k) c4 false [some x0, some x1, some x2, some x3]) := rfl
theorem u5 {k : Nat} {x0 : D} : callF G (k + 1) 5 [x0] = outC false (run (par G k) c5 false [some x0, none, none, none, none, none, none]) := rfl
theorem u6 {k : Nat} {x0 x1 : D} : callF G (k + 1) 6 [x0, x1] = outC false (run (par G k) c6 false [some x0, some x1]) := rfl
theorem u7 {k : Nat} {x0 x1 : D} : callF G (k + 1) 7 [x0, x1] = outC false (run (par G k) c7 false [some x0, some x1]) := rfl
theorem u8 {k : Nat} {x0 x1 x2 : D} : callF G (k + 1) 8 [x0, x1, x2] = outC false (run (par G k) c8 false [some x0, some x1, some x2]) := rfl
theorem u9 {k : Nat} {x0 x1 x2 : D} : callF G (k + 1) 9 [x0, x1, x2] = outC false (run (par G k) c9 false [some x0, some x1, some x2]) := rfl
theorem u10 {k : Nat} {x0 x1 x2 : D} : callF G (k + 1) 10 [x0, x1, x2] = outC false (run (par G k) c10 false [some x0, some x1, some x2]) := rfl
end K18
set_option maxRecDepth 100000
set_option maxHeartbeats 4000000
/-! K18: the plain law. -/
namespace K18
open PySem PySem.Spec PyProof.Rows VI
def depth : Nat := 4
variable {k : Nat}
/-- what an exception is made to -/
def mkxR (c : Str) (fs : List Str) (xs : List D) (e : VI.Env) : R D := if lfL xs = true then (match fs with
      | [] => (match xs with
        | [_] => .ok (.exn c [] []) e
        | _ => .stuck)
      | f :: fs => if (f :: fs).length = xs.length then .ok (.exn c (f :: fs).reverse xs.reverse) e else .stuck) else .stuck
@[simp] theorem ev_mkx {P : Par} {p : Bool} {c : Str} {fs : List Str} {as : C} {e : VI.Env} : ev P (.mkx c fs as) p e = (evA P as true e).bind fun xs e1 => mkxR c fs xs e1 := by
  simp only [ev] <;> rfl
def cel (ns : List Int) (i : Nat) : Int := ns.getD i 0
theorem cell {ns : List Int} {i : Nat} : callF G (k + 1) 0 [.scr ns, .int i] = .ok (.int (cel ns i)) := by
  rw [u0]
  by_cases h : i < ns.length
  · simp [c0, h, idx_scr (atI_lt h), cel]
  · simp [c0, h, cel]
/-- the refusals that are made -/
def key (ss : List Str) : D := .tup (ss.map .str)
def made (a b : Int) (ss : List Str) : List D :=
  [.exn "NoNumber" [] [], .exn "NoName" [] [], .exn "NoRow" [] [], .exn "NoStamp" [] [], .exn "NoClock" [] [], .exn "NoFine" [] [], .exn "NoMercy" [] [], .exn "NoWheel" [] [], .exn "NoHold" [] [], .exn "NoDeed" [] [],
   .exn "NoGround" ["at"] [.int a], .exn "Misfit" ["key"] [key ss], .exn "Torn" ["number", "house"] [.int b, .int a], .exn "Gap" ["number", "house"] [.int a, .int b], .exn "NoHistory" ["number", "house"] [.int b, .int a]]
theorem key_lf {ss : List Str} : lf (key ss) = true := by unfold key; simp [lf]
theorem key_frz {ss : List Str} : frz (key ss) = key ss := by unfold key; simp
theorem key_ff {ss : List Str} : ff (key ss) = true := by unfold key; simp [ff]
theorem made_lf {a b : Int} {ss : List Str} : lfL (made a b ss) = true := by
  unfold made
  simp [lfL, lf, key_lf]
theorem made_ff {a b : Int} {ss : List Str} : ffL (made a b ss) = true := by
  unfold made
  simp [ffL, ff, key_ff]
theorem made_frz {a b : Int} {ss : List Str} : frzL (made a b ss) = made a b ss := by
  unfold made
  simp [frzL, frz, key_frz]
theorem made_len {a b : Int} {ss : List Str} : (made a b ss).length = 15 := rfl
section
variable {a b : Int} {ss : List Str} {e : VI.Env}
theorem x1 {c : Str} {d : D} : mkxR c [] [.str "no"] e = .ok (.exn c [] []) e := rfl
theorem x2 {c f : Str} {d : D} (h : lf d = true) : mkxR c [f] [d] e = .ok (.exn c [f] [d]) e := by simp [mkxR, lfL, h]
theorem x3 {c f g : Str} {i j : Int} : mkxR c [f, g] [.int i, .int j] e = .ok (.exn c [g, f] [.int j, .int i]) e := by simp [mkxR, lfL, lf]
theorem x0 {c : Str} {s : Str} : mkxR c [] [.str s] e = .ok (.exn c [] []) e := by simp [mkxR, lfL, lf]
end
theorem addL {m m' : Bool} {xs ys : List D} {rs : List (Option Nat)} {e : VI.Env} (hx : lfL xs = true) (hy : lfL ys = true) (h : xs.length + ys.length ≤ most) : binR .add (.lst m xs) (.lst m' ys) rs e = .ok (.lst true (xs ++ ys)) e := by
  have app : ∀ {xs ys : List D}, lfL xs = true → lfL ys = true → lfL (xs ++ ys) = true := by
    intro xs
    induction xs with
    | nil => exact fun _ h => h
    | cons x xs ih =>
      intro ys h1 h2
      simp only [lfL, Bool.and_eq_true] at h1
      simp only [List.cons_append, lfL, Bool.and_eq_true]
      exact ⟨h1.1, ih h1.2 h2⟩
  simp [binR, binop, h, shr, inLf, app hx hy]
theorem madeF {a b : Int} {ss : List Str} : callF G (k + 1) 2 [.int a, .int b, key ss] = .ok (.lst true (made a b ss)) := by
  rw [u2]
  have hm : most = 100000 := rfl
  have e : ∀ {m m' : Bool} {xs ys : List D} {rs : List (Option Nat)} {e : VI.Env}, lfL xs = true ∧ lfL ys = true ∧ xs.length + ys.length ≤ most → binR .add (.lst m xs) (.lst m' ys) rs e = .ok (.lst true (xs ++ ys)) e := fun h => addL h.1 h.2.1 h.2.2
  simp [c2, x0, x2 key_lf, x2 (d := .int a) rfl, x3, made, addL, lfL, lf, key_lf, hm]
/-! ### the flags -/
def nms : List Str := ["NoNumber", "NoName", "NoRow", "NoStamp", "NoClock", "NoFine", "NoMercy", "NoWheel", "NoHold", "NoDeed", "NoGround", "Misfit", "Torn", "Gap", "NoHistory"]
def flg (c : Str) : List D := nms.map fun n => .bl (decide (c = n))
theorem fl {c : Str} {fs : List Str} {xs : List D} (h : c ∈ nms) : callF G (k + 1) 1 [.exn c fs xs] = .ok (.lst true (flg c)) := by
  simp only [nms, List.mem_cons, List.not_mem_nil, or_false] at h
  rcases h with rfl | rfl | rfl | rfl | rfl | rfl | rfl | rfl | rfl | rfl | rfl | rfl | rfl | rfl | rfl
  all_goals kernel_rfl
/-- each of the fifteen -/
theorem mi {a b : Int} {ss : List Str} (i : Nat) (h : i < 15) : ∃ c fs xs, (made a b ss)[i]? = some (.exn c fs xs) ∧ frzL xs = xs ∧ c ∈ nms ∧
    isTy (.exn c fs xs) (.xcl 0 ["LendError", "NoNumber", "NoName", "NoRow", "NoStamp", "NoClock", "NoFine", "NoMercy", "NoWheel", "NoHold", "NoDeed", "NoGround", "Misfit", "Torn", "Gap", "NoHistory"] []) = some true ∧ isTy (.exn c fs xs) .verr = some true ∧
    ∀ e : VI.Env, cmpR .ne (.lst true (flg c)) (.lst true ((List.range 15).map fun (j : Nat) => .bl (decide (((j : Nat) : Int) = ((i : Nat) : Int))))) e = .ok (.bl false) e := by
  have h' : i = 0 ∨ i = 1 ∨ i = 2 ∨ i = 3 ∨ i = 4 ∨ i = 5 ∨ i = 6 ∨ i = 7 ∨ i = 8 ∨ i = 9 ∨ i = 10 ∨ i = 11 ∨ i = 12 ∨ i = 13 ∨ i = 14 := by omega
  rcases h' with rfl | rfl | rfl | rfl | rfl | rfl | rfl | rfl | rfl | rfl | rfl | rfl | rfl | rfl | rfl
  all_goals exact ⟨_, _, _, rfl, by simp [frzL, frz, key_frz], by decide, by kernel_rfl, by kernel_rfl, fun e => by kernel_rfl⟩
theorem flg_ff (c : Str) : ffL (flg c) = true := by
  unfold flg nms
  simp [ffL, ff]
/-! ### the fields -/
theorem isF {i j : Int} : callF G (k + 1) 3 [.int i, .int j] = .ok (.bl (decide (i = j))) := by
  rw [u3]
  by_cases h : i = j <;> simp [c3, h]
theorem fieldsF {m : Bool} {a b : Int} {ss : List Str} (hs : ∀ s ∈ ss, okT s) : callF G (k + 2) 4 [.lst m (made a b ss), .int a, .int b, key ss] = .ok (.bl true) := by
  rw [u4]
  have i10 : ∀ (r : Option Nat) (e : VI.Env), idxR (.lst m (made a b ss)) (.int 10) true r e = .ok (.exn "NoGround" ["at"] [.int a]) e := fun r e => idx_lst rfl rfl
  have i11 : ∀ (r : Option Nat) (e : VI.Env), idxR (.lst m (made a b ss)) (.int 11) true r e = .ok (.exn "Misfit" ["key"] [key ss]) e := fun r e => idx_lst rfl (by simp [lf, lfL, key_lf])
  have i12 : ∀ (r : Option Nat) (e : VI.Env), idxR (.lst m (made a b ss)) (.int 12) true r e = .ok (.exn "Torn" ["number", "house"] [.int b, .int a]) e := fun r e => idx_lst rfl rfl
  have i13 : ∀ (r : Option Nat) (e : VI.Env), idxR (.lst m (made a b ss)) (.int 13) true r e = .ok (.exn "Gap" ["number", "house"] [.int a, .int b]) e := fun r e => idx_lst rfl rfl
  have i14 : ∀ (r : Option Nat) (e : VI.Env), idxR (.lst m (made a b ss)) (.int 14) true r e = .ok (.exn "NoHistory" ["number", "house"] [.int b, .int a]) e := fun r e => idx_lst rfl rfl
  have g1 : ∀ (cls : List ClsR) (c f : Str) (d : D), fldD cls (.exn c [f] [d]) f = some d := fun cls c f d => by simp [fldD, getK, idxK]
  have g2 : ∀ (cls : List ClsR) (c : Str) (x y : D), fldD cls (.exn c ["number", "house"] [x, y]) "number" = some x := fun cls c x y => by kernel_rfl
  have g3 : ∀ (cls : List ClsR) (c : Str) (x y : D), fldD cls (.exn c ["number", "house"] [x, y]) "house" = some y := fun cls c x y => by kernel_rfl
  have t1 : isTy (key ss) .tuple = some true := by unfold key; rfl
  have ne : ∀ e : VI.Env, cmpR .ne (key ss) (key ss) e = .ok (.bl false) e := fun e => by
    unfold key
    rw [cmp_neTS hs hs]
    simp
  simp [c4, i10, i11, i12, i13, i14, g1, g2, g3, t1, ne, isF]
/-! ### the law -/
theorem lit_ok : okT "hold" ∧ okT "at" ∧ okT "b" ∧ okT "r" ∧ okT "c" := by decide +kernel
def two (x : Int) : Str := toString (x % 100)
theorem two_ok (x : Int) : okT (two x) ∧ (two x).length ≤ 2 := by
  have h : ∀ j : Fin 100, okT (toString ((j.val : Nat) : Int) : Str) ∧ ((toString ((j.val : Nat) : Int) : Str)).length ≤ 2 := by decide +kernel
  have z := h ⟨(x % 100).toNat, by omega⟩
  have e : (((x % 100).toNat : Nat) : Int) = x % 100 := by omega
  dsimp only at z
  rw [e] at z
  exact z
def num (ns : List Int) (i : Nat) : Int := cel ns i % 1000000000000000000000000000000000000000000000000000000000000
def key1 (ns : List Int) : List Str := ["hold", "b" ++ two (num ns 0), "r" ++ two (num ns 1)]
def key2 (ns : List Int) : List Str := ["at", "c" ++ two (num ns 2)]
theorem key1_ok {ns : List Int} : ∀ s ∈ key1 ns, okT s := by
  intro s h
  simp only [key1, List.mem_cons, List.not_mem_nil, or_false] at h
  obtain ⟨l1, l2, l3, l4, l5⟩ := lit_ok
  rcases h with rfl | rfl | rfl
  · exact l1
  · exact okT_cat l3 (two_ok _).1
  · exact okT_cat l4 (two_ok _).1
theorem key2_ok {ns : List Int} : ∀ s ∈ key2 ns, okT s := by
  intro s h
  simp only [key2, List.mem_cons, List.not_mem_nil, or_false] at h
  obtain ⟨l1, l2, l3, l4, l5⟩ := lit_ok
  rcases h with rfl | rfl
  · exact l2
  · exact okT_cat l5 (two_ok _).1
theorem catT {s : Str} {x : Int} {rs : List (Option Nat)} {e : VI.Env} (h : s.length ≤ 10) : binR .add (.str s) (.str (two x)) rs e = .ok (.str (s ++ two x)) e :=
  bin_cat (by have := (two_ok x).2; unfold most; omega)
theorem strT {x : Int} {rs : List (Option Nat)} {e : VI.Env} : biR .str [.int (x % 100)] rs e = .ok (.str (two x)) e :=
  bi_str_int (by
    have h : (x % 100).natAbs < 2 ^ 10 := by omega
    have := Nat.log2_lt (n := (x % 100).natAbs) (k := 10)
    by_cases z : (x % 100).natAbs = 0
    · rw [z]; decide
    · have := (this z).2 h
      omega)
section
variable {rs : List (Option Nat)} {e : VI.Env}
theorem p60 : binR .pow (.int 10) (.int 60) rs e = .ok (.int 1000000000000000000000000000000000000000000000000000000000000) e := (bin_pow (by decide)).trans rfl
theorem m60 {x : Int} : binR .mod (.int x) (.int 1000000000000000000000000000000000000000000000000000000000000) rs e = .ok (.int (x % 1000000000000000000000000000000000000000000000000000000000000)) e := bin_mod (by decide)
theorem m100 {x : Int} : binR .mod (.int x) (.int 100) rs e = .ok (.int (x % 100)) e := bin_mod (by decide)
end
def cN : C := .lc (.bin .mod (.call 0 (.cons (.get 0) (.cons (.get 2) .nil))) (.bin .pow (.int 10) (.int 60))) [2] (.one 2) (.rng1 (.int 4)) .skip
theorem numsF {ns : List Int} {p : Bool} : ev (par G (k + 3)) cN p [some (.scr ns), none, none, none, none, none, none] = .ok (.lst true [.int (num ns 0), .int (num ns 1), .int (num ns 2), .int (num ns 3)]) [some (.scr ns), none, none, none, none, none, none] := by
  have h := lc_rng (P := par G (k + 3)) (elt := .bin .mod (.call 0 (.cons (.get 0) (.cons (.get 2) .nil))) (.bin .pow (.int 10) (.int 60))) (a := .int 4) (s := 2) (p := p) (e := [some (.scr ns), none, none, none, none, none, none]) (n := 4) (f := fun i => .int (num ns i)) (by simp) (by decide) rfl (fun d hd => by
    simp [cell, p60, m60, num])
  exact h
def Ek (ns : List Int) (o : Option D) (a b : D) (j : Option D) : VI.Env := [some (.scr ns), some (.lst true [.int (num ns 0), .int (num ns 1), .int (num ns 2), .int (num ns 3)]), o, some (key (key1 ns)), some a, some b, j]
def cB : C := (.seq (.ife (.cons (.or (.nt (.isi (.idx (.get 4) (.get 2)) [(.xcl 0 ["LendError", "NoNumber", "NoName", "NoRow", "NoStamp", "NoClock", "NoFine", "NoMercy", "NoWheel", "NoHold", "NoDeed", "NoGround", "Misfit", "Torn", "Gap", "NoHistory"] [])] false)) (.nt (.isi (.idx (.get 4) (.get 2)) [.verr] false))) .nil) (.seq (.ret (.bl false)) .skip) .skip) (.seq (.ife (.cons (.cmp .ne (.call 1 (.cons (.idx (.get 4) (.get 2)) .nil)) (.lc (.cmp .eq (.get 6) (.get 2)) [6] (.one 6) (.rng1 (.int 15)) .skip)) .nil) (.seq (.ret (.bl false)) .skip) .skip) .skip))
theorem bodyF {ns : List Int} {a b : Int} {ss : List Str} {d : D} {i : Nat} (hi : i < 15) (o : Option D) : VI.run (par G (k + 3)) cB false ((Ek ns o (.lst true (made a b ss)) d none).set 2 (some (.int i))) = .nx (Ek ns (some (.int i)) (.lst true (made a b ss)) d none) := by
  obtain ⟨c, fs, xs, h1, h2, h3, h4, h5, h6⟩ := mi (a := a) (b := b) (ss := ss) i hi
  have hx : ∀ (r : Option Nat) (e : VI.Env), idxR (.lst true (made a b ss)) (.int i) true r e = .ok (.exn c fs xs) e := fun r e => by
    simp only [idxR, ixD, L2.atI_nat h1, Bool.true_or, if_true]
  have hz : frz (.exn c fs xs) = .exn c fs xs := by simp only [frz, h2]
  have hf : callF G (k + 3) 1 [.exn c fs xs] = .ok (.lst true (flg c)) := fl h3
  have hl : ∀ p, ev (par G (k + 3)) (.lc (.cmp .eq (.get 6) (.get 2)) [6] (.one 6) (.rng1 (.int 15)) .skip) p (Ek ns (some (.int i)) (.lst true (made a b ss)) d none) = .ok (.lst true ((List.range 15).map fun (j : Nat) => .bl (decide (((j : Nat) : Int) = ((i : Nat) : Int))))) (Ek ns (some (.int i)) (.lst true (made a b ss)) d none) := fun p =>
    lc_rng (n := 15) (by simp) (by decide) rfl fun j hj => by simp [Ek]
  have e2 : (Ek ns o (.lst true (made a b ss)) d none).set 2 (some (.int i)) = Ek ns (some (.int i)) (.lst true (made a b ss)) d none := rfl
  have g4 : (Ek ns (some (.int i)) (.lst true (made a b ss)) d none)[4]? = some (some (.lst true (made a b ss))) := rfl
  have g2 : (Ek ns (some (.int i)) (.lst true (made a b ss)) d none)[2]? = some (some (.int i)) := rfl
  rw [e2]
  simp [cB, hl, hx, hz, h6, g4, g2, frzL, hf, h4, h5, call_ff, ff, flg_ff]
  done
theorem c5_eq : c5 = (.seq (.set (.one 1) cN) (.seq (.set (.one 3) (.tup (.cons (.str "hold") (.cons (.bin .add (.str "b") (.bi .str (.cons (.bin .mod (.idx (.get 1) (.int 0)) (.int 100)) .nil))) (.cons (.bin .add (.str "r") (.bi .str (.cons (.bin .mod (.idx (.get 1) (.int 1)) (.int 100)) .nil))) .nil))))) (.seq (.set (.one 4) (.call 2 (.cons (.idx (.get 1) (.int 0)) (.cons (.idx (.get 1) (.int 1)) (.cons (.get 3) .nil))))) (.seq (.set (.one 5) (.call 2 (.cons (.idx (.get 1) (.int 2)) (.cons (.idx (.get 1) (.int 3)) (.cons (.tup (.cons (.str "at") (.cons (.bin .add (.str "c") (.bi .str (.cons (.bin .mod (.idx (.get 1) (.int 2)) (.int 100)) .nil))) .nil))) .nil))))) (.seq (.for_ (.one 2) (.rng1 (.int 15)) cB) (.seq (.ife (.cons (.nt (.call 4 (.cons (.get 5) (.cons (.idx (.get 1) (.int 2)) (.cons (.idx (.get 1) (.int 3)) (.cons (.tup (.cons (.str "at") (.cons (.bin .add (.str "c") (.bi .str (.cons (.bin .mod (.idx (.get 1) (.int 2)) (.int 100)) .nil))) .nil))) .nil)))))) .nil) (.seq (.ret (.bl false)) .skip) .skip) (.seq (.ret (.call 4 (.cons (.get 4) (.cons (.idx (.get 1) (.int 0)) (.cons (.idx (.get 1) (.int 1)) (.cons (.get 3) .nil)))))) .skip))))))) := rfl
theorem law : ∀ ns : List Int, ns.length ≤ 63 → callF G depth 5 [.scr ns] = .ok (.bl true) := by
  intro ns hns
  show callF G (3 + 1) 5 [.scr ns] = _
  rw [u5, c5_eq]
  have ix : ∀ {j : Int} {d : D} {r : Option Nat} {e : VI.Env}, L2.atI [D.int (num ns 0), .int (num ns 1), .int (num ns 2), .int (num ns 3)] j = some d → lf d = true → idxR (.lst true [.int (num ns 0), .int (num ns 1), .int (num ns 2), .int (num ns 3)]) (.int j) true r e = .ok d e := fun h1 h2 => idx_lst h1 h2
  have hi0 : ∀ (r : Option Nat) (e : VI.Env), idxR (.lst true [.int (num ns 0), .int (num ns 1), .int (num ns 2), .int (num ns 3)]) (.int 0) true r e = .ok (.int (num ns 0)) e := fun r e => idx_lst rfl rfl
  have hi1 : ∀ (r : Option Nat) (e : VI.Env), idxR (.lst true [.int (num ns 0), .int (num ns 1), .int (num ns 2), .int (num ns 3)]) (.int 1) true r e = .ok (.int (num ns 1)) e := fun r e => idx_lst rfl rfl
  have hi2 : ∀ (r : Option Nat) (e : VI.Env), idxR (.lst true [.int (num ns 0), .int (num ns 1), .int (num ns 2), .int (num ns 3)]) (.int 2) true r e = .ok (.int (num ns 2)) e := fun r e => idx_lst rfl rfl
  have hi3 : ∀ (r : Option Nat) (e : VI.Env), idxR (.lst true [.int (num ns 0), .int (num ns 1), .int (num ns 2), .int (num ns 3)]) (.int 3) true r e = .ok (.int (num ns 3)) e := fun r e => idx_lst rfl rfl
  have k1 : (.tup [.str "hold", .str ("b" ++ two (num ns 0)), .str ("r" ++ two (num ns 1))] : D) = key (key1 ns) := rfl
  have k2 : (.tup [.str "at", .str ("c" ++ two (num ns 2))] : D) = key (key2 ns) := rfl
  have m1 : callF G 3 2 [.int (num ns 0), .int (num ns 1), key (key1 ns)] = .ok (.lst true (made (num ns 0) (num ns 1) (key1 ns))) := madeF
  have m2 : callF G 3 2 [.int (num ns 2), .int (num ns 3), key (key2 ns)] = .ok (.lst true (made (num ns 2) (num ns 3) (key2 ns))) := madeF
  have lb : ("b" : Str).length ≤ 10 ∧ ("r" : Str).length ≤ 10 ∧ ("c" : Str).length ≤ 10 := by decide +kernel
  have nf : ev (par G 3) cN false [some (.scr ns), none, none, none, none, none, none] = _ := numsF (k := 0)
  have mb : mu cB = false := rfl
  have hr : ∀ e : VI.Env, rngR (.int 15) e = .ok ((List.range 15).map fun j : Nat => D.int j) e := fun e => rngR_nat (n := 15) (by decide)
  obtain ⟨e', hl, o, rfl⟩ := loopI_invR (b := bodyO (par G 3) (.one 2) cB false) (n := 15) (g := fun j : Nat => D.int j) (e := Ek ns none (.lst true (made (num ns 0) (num ns 1) (key1 ns))) (.lst true (made (num ns 2) (num ns 3) (key2 ns))) none)
    (I := fun _ e => ∃ o, e = Ek ns o (.lst true (made (num ns 0) (num ns 1) (key1 ns))) (.lst true (made (num ns 2) (num ns 3) (key2 ns))) none) (fun j hj e he => by
      obtain ⟨o, rfl⟩ := he
      refine ⟨_, ?_, some (.int j), rfl⟩
      have z := bodyF (k := 0) (ns := ns) (a := num ns 0) (b := num ns 1) (ss := key1 ns) (d := .lst true (made (num ns 2) (num ns 3) (key2 ns))) hj o
      exact z) ⟨none, rfl⟩
  unfold Ek at hl
  have f1 : callF G 3 4 [.lst false (made (num ns 0) (num ns 1) (key1 ns)), .int (num ns 0), .int (num ns 1), key (key1 ns)] = .ok (.bl true) := fieldsF key1_ok
  have f2 : callF G 3 4 [.lst false (made (num ns 2) (num ns 3) (key2 ns)), .int (num ns 2), .int (num ns 3), key (key2 ns)] = .ok (.bl true) := fieldsF key2_ok
  simp [nf, hi0, hi1, hi2, hi3, m100, strT, catT lb.1, catT lb.2.1, catT lb.2.2, k1, k2, key_frz, m1, m2, call_ff, ff, made_ff, mb, hr, hl, made_frz, f1, f2]
end K18
set_option maxRecDepth 100000
set_option maxHeartbeats 4000000
/-! K18: the table, the head, the end (printed by gen.py). -/
namespace K18
open PySem PySem.Spec PyProof.Rows VI
abbrev prog : Program := PySem.Challenge.pw_lendshelf_k18_refusals_with_fields
def top (i : Nat) : Stmt := prog.main.body.getD i (.Pass ⟨0, 0, 0, 0⟩)
def mem (s : Stmt) (j : Nat) : Stmt := match s with
  | .ClassDef _ _ _ b .. => b.getD j (.Pass ⟨0, 0, 0, 0⟩)
  | _ => .Pass ⟨0, 0, 0, 0⟩
def r0 : DRow := ⟨top 18, ["_law_script", "_law_k"], ["_law_script", "_law_k"], ⟨"_law_cell_at", 2, false, false, false, none, "_law_cell_at"⟩, f0⟩
def r1 : DRow := ⟨top 19, ["_law_e", "_law_flags_here"], ["_law_e"], ⟨"_law_flags", 1, false, false, false, none, "_law_flags"⟩, f1⟩
def r2 : DRow := ⟨top 20, ["_law_one", "_law_two", "_law_key", "_law_some"], ["_law_one", "_law_two", "_law_key"], ⟨"_law_made", 3, false, false, false, none, "_law_made"⟩, f2⟩
def r3 : DRow := ⟨top 21, ["_law_found", "_law_due"], ["_law_found", "_law_due"], ⟨"_law_is", 2, false, false, false, none, "_law_is"⟩, f3⟩
def r4 : DRow := ⟨top 22, ["_law_some", "_law_one", "_law_two", "_law_key"], ["_law_some", "_law_one", "_law_two", "_law_key"], ⟨"_law_fields", 4, false, false, false, none, "_law_fields"⟩, f4⟩
def r5 : DRow := ⟨top 23, ["_law_script", "_law_numbers", "_law_k", "_law_key", "_law_first", "_law_second", "_law_j"], ["_law_script"], ⟨"law", 1, false, false, false, none, "law"⟩, f5⟩
def r6 : DRow := ⟨mem (top 12) 0, ["self", "at"], ["self", "at"], ⟨"__init__", 2, false, false, false, some "NoGround", "NoGround.__init__"⟩, f6⟩
def r7 : DRow := ⟨mem (top 13) 0, ["self", "key"], ["self", "key"], ⟨"__init__", 2, false, false, false, some "Misfit", "Misfit.__init__"⟩, f7⟩
def r8 : DRow := ⟨mem (top 14) 0, ["self", "house", "number"], ["self", "house", "number"], ⟨"__init__", 3, false, false, false, some "Torn", "Torn.__init__"⟩, f8⟩
def r9 : DRow := ⟨mem (top 15) 0, ["self", "house", "number"], ["self", "house", "number"], ⟨"__init__", 3, false, false, false, some "Gap", "Gap.__init__"⟩, f9⟩
def r10 : DRow := ⟨mem (top 16) 0, ["self", "house", "number"], ["self", "house", "number"], ⟨"__init__", 3, false, false, false, some "NoHistory", "NoHistory.__init__"⟩, f10⟩
def rows : List DRow := [r0, r1, r2, r3, r4, r5, r6, r7, r8, r9, r10]
def excs : List Str := ["LendError", "NoNumber", "NoName", "NoRow", "NoStamp", "NoClock", "NoFine", "NoMercy", "NoWheel", "NoHold", "NoDeed"]
def free : List Str := ["ValueError", "bool", "int", "isinstance", "len", "range", "str", "tuple"]
def tys : List Str := ["NoGround", "Misfit", "Torn", "Gap", "NoHistory"]
def ctys : List Ty := [(.xcl 13 ["Torn"] ["LendError", "NoNumber", "NoName", "NoRow", "NoStamp", "NoClock", "NoFine", "NoMercy", "NoWheel", "NoHold", "NoDeed", "NoGround", "Misfit", "Gap", "NoHistory"]), (.xcl 14 ["Gap"] ["LendError", "NoNumber", "NoName", "NoRow", "NoStamp", "NoClock", "NoFine", "NoMercy", "NoWheel", "NoHold", "NoDeed", "NoGround", "Misfit", "Torn", "NoHistory"]), (.xcl 15 ["NoHistory"] ["LendError", "NoNumber", "NoName", "NoRow", "NoStamp", "NoClock", "NoFine", "NoMercy", "NoWheel", "NoHold", "NoDeed", "NoGround", "Misfit", "Torn", "Gap"]), (.xcl 9 ["NoHold"] ["LendError", "NoNumber", "NoName", "NoRow", "NoStamp", "NoClock", "NoFine", "NoMercy", "NoWheel", "NoDeed", "NoGround", "Misfit", "Torn", "Gap", "NoHistory"]), (.xcl 10 ["NoDeed"] ["LendError", "NoNumber", "NoName", "NoRow", "NoStamp", "NoClock", "NoFine", "NoMercy", "NoWheel", "NoHold", "NoGround", "Misfit", "Torn", "Gap", "NoHistory"]), (.xcl 11 ["NoGround"] ["LendError", "NoNumber", "NoName", "NoRow", "NoStamp", "NoClock", "NoFine", "NoMercy", "NoWheel", "NoHold", "NoDeed", "Misfit", "Torn", "Gap", "NoHistory"]), (.xcl 12 ["Misfit"] ["LendError", "NoNumber", "NoName", "NoRow", "NoStamp", "NoClock", "NoFine", "NoMercy", "NoWheel", "NoHold", "NoDeed", "NoGround", "Torn", "Gap", "NoHistory"]), (.xcl 5 ["NoClock"] ["LendError", "NoNumber", "NoName", "NoRow", "NoStamp", "NoFine", "NoMercy", "NoWheel", "NoHold", "NoDeed", "NoGround", "Misfit", "Torn", "Gap", "NoHistory"]), (.xcl 6 ["NoFine"] ["LendError", "NoNumber", "NoName", "NoRow", "NoStamp", "NoClock", "NoMercy", "NoWheel", "NoHold", "NoDeed", "NoGround", "Misfit", "Torn", "Gap", "NoHistory"]), (.xcl 7 ["NoMercy"] ["LendError", "NoNumber", "NoName", "NoRow", "NoStamp", "NoClock", "NoFine", "NoWheel", "NoHold", "NoDeed", "NoGround", "Misfit", "Torn", "Gap", "NoHistory"]), (.xcl 8 ["NoWheel"] ["LendError", "NoNumber", "NoName", "NoRow", "NoStamp", "NoClock", "NoFine", "NoMercy", "NoHold", "NoDeed", "NoGround", "Misfit", "Torn", "Gap", "NoHistory"]), (.xcl 1 ["NoNumber"] ["LendError", "NoName", "NoRow", "NoStamp", "NoClock", "NoFine", "NoMercy", "NoWheel", "NoHold", "NoDeed", "NoGround", "Misfit", "Torn", "Gap", "NoHistory"]), (.xcl 2 ["NoName"] ["LendError", "NoNumber", "NoRow", "NoStamp", "NoClock", "NoFine", "NoMercy", "NoWheel", "NoHold", "NoDeed", "NoGround", "Misfit", "Torn", "Gap", "NoHistory"]), (.xcl 3 ["NoRow"] ["LendError", "NoNumber", "NoName", "NoStamp", "NoClock", "NoFine", "NoMercy", "NoWheel", "NoHold", "NoDeed", "NoGround", "Misfit", "Torn", "Gap", "NoHistory"]), (.xcl 4 ["NoStamp"] ["LendError", "NoNumber", "NoName", "NoRow", "NoClock", "NoFine", "NoMercy", "NoWheel", "NoHold", "NoDeed", "NoGround", "Misfit", "Torn", "Gap", "NoHistory"]), (.xcl 0 ["LendError", "NoNumber", "NoName", "NoRow", "NoStamp", "NoClock", "NoFine", "NoMercy", "NoWheel", "NoHold", "NoDeed", "NoGround", "Misfit", "Torn", "Gap", "NoHistory"] [])]
def xns : List XRow := [⟨"NoGround", ["at"], 6, "LendError"⟩, ⟨"Misfit", ["key"], 7, "LendError"⟩, ⟨"Torn", ["house", "number"], 8, "LendError"⟩, ⟨"Gap", ["house", "number"], 9, "LendError"⟩, ⟨"NoHistory", ["house", "number"], 10, "LendError"⟩]
def tb : Tb := ⟨rows.map (·.row), excs, glos, free, sub, clss, tys, ctys, xns⟩
theorem b0 : BindsAll r0 := fun _ _ _ _ _ _ us hl => match us, hl with | [_, _], _ => rfl
theorem k0 : rowB tb r0 = true := by decide +kernel
theorem b1 : BindsAll r1 := fun _ _ _ _ _ _ us hl => match us, hl with | [_], _ => rfl
theorem k1 : rowB tb r1 = true := by decide +kernel
theorem b2 : BindsAll r2 := fun _ _ _ _ _ _ us hl => match us, hl with | [_, _, _], _ => rfl
theorem k2 : rowB tb r2 = true := by decide +kernel
theorem b3 : BindsAll r3 := fun _ _ _ _ _ _ us hl => match us, hl with | [_, _], _ => rfl
theorem k3 : rowB tb r3 = true := by decide +kernel
theorem b4 : BindsAll r4 := fun _ _ _ _ _ _ us hl => match us, hl with | [_, _, _, _], _ => rfl
theorem k4 : rowB tb r4 = true := by decide +kernel
theorem b5 : BindsAll r5 := fun _ _ _ _ _ _ us hl => match us, hl with | [_], _ => rfl
theorem k5 : rowB tb r5 = true := by decide +kernel
theorem b6 : BindsAll r6 := fun _ _ _ _ _ _ us hl => match us, hl with | [_, _], _ => rfl
theorem k6 : rowB tb r6 = true := by decide +kernel
theorem b7 : BindsAll r7 := fun _ _ _ _ _ _ us hl => match us, hl with | [_, _], _ => rfl
theorem k7 : rowB tb r7 = true := by decide +kernel
theorem b8 : BindsAll r8 := fun _ _ _ _ _ _ us hl => match us, hl with | [_, _, _], _ => rfl
theorem k8 : rowB tb r8 = true := by decide +kernel
theorem b9 : BindsAll r9 := fun _ _ _ _ _ _ us hl => match us, hl with | [_, _, _], _ => rfl
theorem k9 : rowB tb r9 = true := by decide +kernel
theorem b10 : BindsAll r10 := fun _ _ _ _ _ _ us hl => match us, hl with | [_, _, _], _ => rfl
theorem k10 : rowB tb r10 = true := by decide +kernel
theorem all_ok : rows.all (rowB tb) = true := by
  simp only [rows, List.all_cons, List.all_nil, k0, k1, k2, k3, k4, k5, k6, k7, k8, k9, k10, Bool.and_self]
theorem binds : ∀ d ∈ rows, BindsAll d := by
  intro d hd
  simp only [rows, List.mem_cons, List.not_mem_nil, or_false] at hd
  rcases hd with rfl | rfl | rfl | rfl | rfl | rfl | rfl | rfl | rfl | rfl | rfl
  · exact b0
  · exact b1
  · exact b2
  · exact b3
  · exact b4
  · exact b5
  · exact b6
  · exact b7
  · exact b8
  · exact b9
  · exact b10
abbrev R : PySem.W.OpenRow := PySem.W.OpenLaw.row PySem.Challenge.rw_lendshelf_k18_refusals_with_fields
abbrev qv : Program := PySem.W.view R.prog [23]
def loose0 : List PySem.Str := ["LendError", "NoNumber", "NoName", "NoRow", "NoStamp", "NoClock", "NoFine", "NoMercy", "NoWheel", "NoHold", "NoDeed", "NoGround", "Misfit", "Torn", "Gap", "NoHistory", "_law_cell_at", "_law_flags", "_law_made", "_law_is", "_law_fields"]
def loose : List PySem.Str := loose0
abbrev hk : PySem.W.Hook := hookV 5 tb (rows.map defD)
def ob (s : PySem.W.SharedT) : He.AlD := obsVG 5 tb (rows.map defD) (HandSHeadRun.getT s)
theorem ob_eq (s : PySem.W.SharedT) : ob s = hk.obs s.abs := obsVG_eq (HandSHeadRun.getT_eq s)
theorem run (w : World) : HandSHeadRun.RunEq R qv hk ob 6000 loose w := by
  intro os
  kernel_rfl
/-- the law, once its value is known -/
theorem fin {k : Nat} (hr : L2.Room (2 * k + 1) callerA) (law : ∀ ns : List Int, ns.length ≤ 63 → callF G k 5 [.scr ns] = .ok (.bl true)) : PySem.Challenge.rw_lendshelf_k18_refusals_with_fields.Holds := by
  open PySem.W PySem.Calls PyProof.Rows in
  w_on; o_law
  refine HandSHeadRun.head_any (r := OpenLaw.row PySem.Challenge.rw_lendshelf_k18_refusals_with_fields) (q := qv) (H := hk) (ob := ob) (M := 6000) (loose := loose) (d := HandSHeadRun.topDef (OpenLaw.row PySem.Challenge.rw_lendshelf_k18_refusals_with_fields).prog 23) (kwd := []) ob_eq
    (by kernel_rfl) (fun s => by kernel_rfl) run (by kernel_rfl) (by kernel_rfl) (by kernel_rfl) (by rfl) (by first | assumption | decide +kernel) (by decide +kernel) ⟨rfl, rfl, rfl, rfl, rfl, by decide +kernel⟩ ?hw ?hc
  case hw => w_witness2
  case hc =>
    exact law_walk (l := PySem.Challenge.rw_lendshelf_k18_refusals_with_fields) (n := 63) (i := 5) (dl := r5) (x := "_law_script") rfl (by decide) (by kernel_rfl) hr rfl rfl rfl rfl rfl all_ok (by decide +kernel) binds rfl (by kernel_rfl) rfl rfl rfl rfl law
end K18
open PySem PySem.W PySem.Calls PyProof.Rows
theorem PySem.Challenge.cw_lendshelf_k18_refusals_with_fields_holds : PySem.Challenge.rw_lendshelf_k18_refusals_with_fields.Holds :=
  K18.fin (k := K18.depth) ⟨rfl, by decide, by decide⟩ K18.law
