import PyProof.Rows.All
import Wide.All
import OpenK.AllK
import Wide.FinOn
import HandS.ForMost
import HandS.TupAny
import HandS.IsInst
import HandS.Style
import HandS.Small
import HandS.DictComp
import HandS.Conv
import HandS.Zip
import HandS.TupLen
import HandS.Deep
import HandS.EndBits
import KE.SortData
import KE.DataMinMax
import KE.DataCmp
import HandS.DeepEq
import HandS.DictEq
import HandS.More
import KE.GoesNew
import HandS.Codes
import PyProof.Rows.RegReprOcc
import PySem.Challenge.RW_twotexts_k66_whole_columns_of_rows
set_option Elab.async false
set_option linter.all false
set_option maxRecDepth 100000
/-! Pd1: data without addresses, the small language, its evaluator. -/
namespace Pd
open PySem PySem.Spec PyProof.Rows L2

/-- a key of a dict -/
inductive DK where
  | i (n : Int)
  | s (c : List Nat)
  | t (ks : List (Int ⊕ List Nat))
  deriving DecidableEq
/-- data: tuples, unchanging lists and dicts by value; a changeable object by its place in the store -/
inductive D where
  | non
  | bl (b : Bool)
  | int (i : Int)
  | str (c : List Nat)
  | tup (xs : List D)
  | lv (xs : List D)
  | dv (t : Bool) (ks : List DK) (vs : List D)
  | ref (l : Nat)
  | ty (n : String)
  | scr (ns : List Int)
abbrev Store := List D
abbrev Env := List (Option D)
abbrev Calls := Str → List D → Store → Option (D × Store)

inductive Op2 where
  | add | sub | mul | fdiv | mod | pow
  deriving DecidableEq
inductive Cmp where
  | eq | ne | lt | le | gt | ge | isN | notN | mem | nmem
  deriving DecidableEq
inductive Blt where
  | len | abs | int | list | tuple | dict | sum | sum2 | min | max | all | any | sorted | range | isinst | repr | str
  deriving DecidableEq
inductive Mth where
  | join | count | index | append | extend | pop | popi | get | get1 | endswith | update | items
  deriving DecidableEq

/-- a target: a slot, or slots of a tuple -/
inductive Tg where
  | nm (i : Nat)
  | tp (is : List Nat)

mutual
inductive E where
  | var (i : Nat)
  | non
  | bl (b : Bool)
  | int (i : Int)
  | str (c : List Nat)
  | gv (x : Str) (d : D)
  | op (o : Op2) (a b : E)
  | neg (a : E)
  | cmp (o : Cmp) (a b : E)
  | chain (o p : Cmp) (a b c : E)
  | and (a b : E)
  | or (a b : E)
  | not (a : E)
  | ite (c a b : E)
  | ty (n : String)
  | tup (es : Es)
  | lrg1 (k : Bool) (a : E)
  | lrg2 (k : Bool) (a b : E)
  | lst (k : Bool) (es : Es)
  | dct (k t : Bool) (ks vs : Es)
  | sub (a i : E)
  | slc (a : E) (lo hi : Es)
  | rev (a : E)
  | call (f : Str) (es : Es)
  | blt (b : Blt) (k : Bool) (es : Es)
  | mth (m : Mth) (a : E) (es : Es)
  | lc (k : Bool) (elt : E) (g : Tg) (vs : List Nat) (it : It) (c : Es)
  | dc (k : Bool) (key val : E) (g : Tg) (vs : List Nat) (it : It) (c : Es)
inductive Es where
  | nil
  | cons (e : E) (es : Es)
inductive It where
  | of (e : E)
  | range (es : Es)
  | enum (e : E)
  | zip (a b : E)
end
inductive T where
  | skip
  | seq (a b : T)
  | ex (e : E)
  | set (i : Nat) (e : E)
  | tset (is : List Nat) (e : E)
  | par (is : List Nat) (es : Es)
  | setI (o i e : E)
  | aug (i : Nat) (o : Op2) (e : E)
  | ret (e : E)
  | retn
  | ite (c : E) (a b : T)
  | whl (c : E) (b : T)
  | loop (g : Tg) (it : It) (b : T)
  | brk
  | cont
  | never

/-! ### data as the library's data -/
mutual
def py : D → PyData
  | .bl b => .bool b
  | .int i => .int i
  | .str c => .str ⟨c.toArray⟩
  | .tup xs => .tuple (pys xs)
  | .lv xs => .list (pys xs)
  | .non => .none
  | .dv _ _ _ => .none
  | .ref _ => .none
  | .ty _ => .none
  | .scr _ => .none
def pys : List D → List PyData
  | [] => []
  | x :: xs => py x :: pys xs
end
/-- plain data, nested at most so deep -/
def okd : Nat → D → Bool
  | 0, d => match d with
    | .non | .bl _ | .int _ | .str _ => true
    | _ => false
  | n + 1, d => match d with
    | .non | .bl _ | .int _ | .str _ => true
    | .tup xs => xs.all (okd n)
    | .lv xs => xs.all (okd n)
    | _ => false
/-- what stands behind a place -/
def top (S : Store) : D → D
  | .ref l => (S[l]?).getD .non
  | d => d
def asL (S : Store) : D → Option (List D)
  | .lv xs => some xs
  | .ref l => match S[l]? with
    | some (.lv xs) => some xs
    | _ => none
  | _ => none
def asDk (S : Store) : D → Option (Bool × List DK × List D)
  | .dv t ks vs => some (t, ks, vs)
  | .ref l => match S[l]? with
    | some (.dv t ks vs) => some (t, ks, vs)
    | _ => none
  | _ => none
/-- a list or a tuple -/
def asSq (S : Store) : D → Option (List D)
  | .tup xs => some xs
  | d => asL S d

def dkItem : Int ⊕ List Nat → D
  | .inl n => .int n
  | .inr c => .str c
def dkD : DK → D
  | .i n => .int n
  | .s c => .str c
  | .t ks => .tup (ks.map dkItem)
def keyItems : List D → Option (List (Int ⊕ List Nat))
  | [] => some []
  | .int n :: r => (keyItems r).map (.inl n :: ·)
  | .str c :: r => (keyItems r).map (.inr c :: ·)
  | _ :: _ => none
def asKey : D → Option DK
  | .int n => some (.i n)
  | .str c => some (.s c)
  | .tup xs => (keyItems xs).map .t
  | _ => none
def asFlat : D → Option DK
  | .int n => some (.i n)
  | .str c => some (.s c)
  | _ => none
def DK.flat : DK → Bool
  | .t _ => false
  | _ => true
/-- a key of the dict's kind -/
def DK.fits (k : DK) (t : Bool) : Bool := k.flat == !t
def dLook (k : DK) : List DK → List D → Option D
  | j :: js, v :: vs => if j = k then some v else dLook k js vs
  | _, _ => none
def dPutV (k : DK) (v : D) : List DK → List D → List D
  | j :: js, u :: us => (if j = k then v else u) :: dPutV k v js us
  | _, us => us
def dPut (k : DK) (v : D) (ks : List DK) (vs : List D) : List DK × List D :=
  if ks.any (fun j => decide (j = k)) then (ks, dPutV k v ks vs) else (ks ++ [k], vs ++ [v])

/-! ### primitives -/
def line : Nat := 16777216
inductive PR where
  | val (d : D)
  | new (c : D)
def fin (k : Bool) : PR → Store → D × Store
  | .val d, S => (d, S)
  | .new c, S => if k then (.ref S.length, S ++ [c]) else (c, S)

def opS : Op2 → D → D → Store → Option PR
  | .add, .int i, .int j, _ => some (.val (.int (i + j)))
  | .add, .str a, .str b, _ => if a.length + b.length ≤ line then some (.val (.str (a ++ b))) else none
  | .add, .tup xs, .tup ys, _ => if xs.length + ys.length ≤ line then some (.val (.tup (xs ++ ys))) else none
  | .add, x, y, S => match asL S x, asL S y with
    | some xs, some ys => if xs.length + ys.length ≤ line then some (.new (.lv (xs ++ ys))) else none
    | _, _ => none
  | .sub, .int i, .int j, _ => some (.val (.int (i - j)))
  | .mul, .int i, .int j, _ => if i.natAbs < 18446744073709551616 ∨ j.natAbs < 18446744073709551616 then some (.val (.int (i * j))) else none
  | .mul, x, .int k, S => match asL S x with
    | some xs => if k.natAbs < 9223372036854775808 ∧ xs.length * k.toNat ≤ line then some (.new (.lv (List.replicate k.toNat xs).flatten)) else none
    | none => none
  | .fdiv, .int i, .int j, _ => if 0 < j ∧ j.natAbs < 1073741824 then some (.val (.int (i / j))) else none
  | .mod, .int i, .int j, _ => if 0 < j then some (.val (.int (i % j))) else none
  | .pow, .int i, .int j, _ => if 0 ≤ j ∧ j.natAbs < 1000001 ∧ i.natAbs < 18446744073709551616 then some (.val (.int (i ^ j.toNat))) else none
  | _, _, _, _ => none

/-- each key of the one in the other, with the same thing; what is told is told where it is so -/
def sameAll (ks : List DK) (vs : List D) : List DK → List D → Bool
  | j :: js, u :: us => (match dLook j ks vs with
    | some w => okd 11 u && okd 11 w && PyData.eqv (py u) (py w)
    | none => false) && sameAll ks vs js us
  | _, _ => true
def eqDk (S : Store) (x y : D) : Option Bool := match asDk S x, asDk S y with
  | some (false, ks, us), some (false, js, vs) => if ks.length == js.length && sameAll js vs ks us then some true else none
  | _, _ => none
def eqS (S : Store) (x y : D) : Option Bool :=
  if okd 12 (top S x) && okd 12 (top S y) then some (PyData.eqv (py (top S x)) (py (top S y))) else eqDk S x y
def notNone : PyData → Bool
  | .none => false
  | _ => true
def ltS (S : Store) (x y : D) : Option Bool :=
  if okd 12 (top S x) && okd 12 (top S y) && PySem.W.alike (py (top S x)) (py (top S y)) && notNone (py (top S x)) then some (PySem.W.dataLt (py (top S x)) (py (top S y))) else none
def isNon : D → Bool
  | .non => true
  | _ => false
def memS (S : Store) (x y : D) : Option Bool :=
  match x, y with
  | .str [c], .str z => some (decide (c ∈ z))
  | x, y => match asDk S y with
    | some (t, ks, vs) => match asKey x with
      | some k => if k.fits t then some (dLook k ks vs).isSome else none
      | none => none
    | none => match asSq S y with
      | some ys => if okd 12 (top S x) && ys.all (okd 12) then some (ys.any fun z => PyData.eqv (py z) (py (top S x))) else none
      | none => none
def cmpS : Cmp → D → D → Store → Option Bool
  | .eq, x, y, S => eqS S x y
  | .ne, x, y, S => (eqS S x y).map (!·)
  | .lt, x, y, S => ltS S x y
  | .gt, x, y, S => ltS S y x
  | .le, x, y, S => (ltS S y x).map (!·)
  | .ge, x, y, S => (ltS S x y).map (!·)
  | .isN, x, .non, _ => some (isNon x)
  | .notN, x, .non, _ => some (!isNon x)
  | .mem, x, y, S => memS S x y
  | .nmem, x, y, S => (memS S x y).map (!·)
  | _, _, _, _ => none

def itemS (x i : D) (S : Store) : Option D :=
  match x, i with
  | .str z, .int j => if z.length ≤ line then (atI z j).map fun c => .str [c] else none
  | .tup xs, .int j => atI xs j
  | x, i => match asL S x, i with
    | some xs, .int j => atI xs j
    | _, i => match asDk S x, asKey i with
      | some (t, ks, vs), some k => if k.fits t then dLook k ks vs else none
      | _, _ => none
def bound? : Option D → Option (Option Int)
  | none => some none
  | some (.int i) => some (some i)
  | _ => none
def cutL {α : Type} (xs : List α) (lo hi : Option Int) : List α := (xs.drop (HT.sIx xs.length 0 lo)).take (HT.sIx xs.length xs.length hi - HT.sIx xs.length 0 lo)
def slcS (x : D) (l h : Option Int) (S : Store) : Option PR :=
  match x with
  | .str z => if z.length ≤ line then some (.val (.str (cutL z l h))) else none
  | .tup xs => some (.val (.tup (cutL xs l h)))
  | .scr ns => some (.new (.lv ((cutL ns l h).map .int)))
  | x => (asL S x).map fun xs => .new (.lv (cutL xs l h))
def revS (x : D) (S : Store) : Option PR := (asL S x).map fun xs => .new (.lv xs.reverse)

def tyOf (S : Store) : D → Option String
  | .non => some "NoneType"
  | .bl _ => some "bool"
  | .int _ => some "int"
  | .str _ => some "str"
  | .tup _ => some "tuple"
  | .lv _ => some "list"
  | .dv false _ _ => some "dict"
  | .scr _ => some "list"
  | .ref l => match S[l]? with
    | some (.lv _) => some "list"
    | some (.dv _ _ _) => some "dict"
    | _ => none
  | _ => none
def isTy (t n : String) : Bool := t == n || (t == "bool" && n == "int")
def knownTy (n : String) : Bool := n == "int" || n == "str" || n == "tuple" || n == "list" || n == "dict" || n == "bool"
def isinstS (S : Store) (x : D) (n : String) : Option Bool :=
  match tyOf S x with
  | some t => if knownTy n then some (isTy t n) else none
  | none => none
def isAny (S : Store) (x : D) : List D → Option Bool
  | [] => if (tyOf S x).isSome then some false else none
  | .ty n :: r => match isinstS S x n, isAny S x r with
    | some b, some c => some (b || c)
    | _, _ => none
  | _ :: _ => none
def boolsOf : List D → Option (List Bool)
  | [] => some []
  | .bl b :: r => (boolsOf r).map (b :: ·)
  | _ :: _ => none
def intsOf : List D → Option (List Int)
  | [] => some []
  | .int b :: r => (intsOf r).map (b :: ·)
  | _ :: _ => none
def strsOf : List D → Option (List (List Nat))
  | [] => some []
  | .str b :: r => (strsOf r).map (b :: ·)
  | _ :: _ => none
/-- data that can be put in order -/
def alikeL (xs : List D) : Bool :=
  xs.all (okd 12) && xs.all fun x => !isNon x && xs.all fun y => PySem.W.alike (py x) (py y)
def isTup1 : D → Bool
  | .tup (_ :: _) => true
  | _ => false
def isNoTup : D → Bool
  | .tup _ => false
  | _ => true
def sortableL (xs : List D) : Bool := xs.all isTup1 || xs.all isNoTup
def leD (x y : D) : Bool := !PySem.W.dataLt (py y) (py x)
def minL (x : D) (xs : List D) : D := xs.foldl (fun a y => if PySem.W.dataLt (py y) (py a) then y else a) x
def maxL (x : D) (xs : List D) : D := xs.foldl (fun a y => if PySem.W.dataLt (py a) (py y) then y else a) x
def walkS : D → Option (List D)
  | .str z => some (z.map fun c => .str [c])
  | .scr ns => some (ns.map .int)
  | .tup xs => some xs
  | .lv xs => some xs
  | _ => none

def lenD (S : Store) : D → Option Nat
  | .dv false ks _ => some ks.length
  | .ref l => match S[l]? with
    | some (.dv _ ks _) => some ks.length
    | _ => none
  | _ => none
/-- pairs of a key and a thing -/
def pairsOf : List D → Option (List (DK × D))
  | [] => some []
  | .tup [.int n, v] :: r => (pairsOf r).map ((.i n, v) :: ·)
  | .tup [.str c, v] :: r => (pairsOf r).map ((.s c, v) :: ·)
  | _ :: _ => none
def foldPut : List (DK × D) → List DK × List D → List DK × List D
  | [], acc => acc
  | (k, v) :: r, acc => foldPut r (dPut k v acc.1 acc.2)
def bltS : Blt → List D → Store → Option PR
  | .len, [x], S => match x with
    | .str z => if z.length ≤ line then some (.val (.int z.length)) else none
    | .scr ns => some (.val (.int ns.length))
    | x => match asSq S x with
      | some xs => some (.val (.int xs.length))
      | none => (lenD S x).map fun n => .val (.int (n : Nat))
  | .abs, [.int i], _ => some (.val (.int (if i < 0 then -i else i)))
  | .int, [.int i], _ => some (.val (.int i))
  | .int, [.bl b], _ => some (.val (.int (if b then 1 else 0)))
  | .list, [x], S => match x with
    | .str z => if z.length ≤ line then some (.new (.lv (z.map fun c => .str [c]))) else none
    | x => (asSq S x).map fun xs => .new (.lv xs)
  | .tuple, [x], S => (asSq S x).map fun xs => .val (.tup xs)
  | .sum, [x], S => (asL S x).bind fun xs => (intsOf xs).map fun ns => .val (.int ns.sum)
  | .all, [x], S => (asL S x).bind fun xs => (boolsOf xs).map fun bs => .val (.bl (bs.all id))
  | .any, [x], S => (asL S x).bind fun xs => (boolsOf xs).map fun bs => .val (.bl (bs.any id))
  | .min, [x], S => match asL S x with
    | some (y :: ys) => if alikeL (y :: ys) then some (.val (minL y ys)) else none
    | _ => none
  | .max, [x], S => match asL S x with
    | some (y :: ys) => if alikeL (y :: ys) then some (.val (maxL y ys)) else none
    | _ => none
  | .max, [.int i, .int j], _ => some (.val (.int (if j > i then j else i)))
  | .min, [.int i, .int j], _ => some (.val (.int (if j < i then j else i)))
  | .sorted, [x], S => match asL S x with
    | some xs => if alikeL xs && sortableL xs && decide (xs.length ≤ line) then some (.new (.lv (xs.mergeSort leD))) else none
    | none => none
  | .isinst, [x, .ty n], S => (isinstS S x n).map fun b => .val (.bl b)
  | .isinst, [x, .tup ts], S => (isAny S x ts).map fun b => .val (.bl b)
  | .dict, [x], S => match asL S x with
    | some xs => (pairsOf xs).map fun ps => .new (.dv false (foldPut ps ([], [])).1 (foldPut ps ([], [])).2)
    | none => match asDk S x with
      | some (false, ks, vs) => some (.new (.dv false ks vs))
      | _ => none
  | _, _, _ => none

def joinL (a : List Nat) : List (List Nat) → List Nat
  | [] => []
  | [x] => x
  | x :: r => x ++ a ++ joinL a r
/-- a method; the store may change -/
def mthS : Mth → D → List D → Store → Option (D × Store)
  | .join, .str a, [x], S => (asSq S x).bind fun xs => (strsOf xs).bind fun ys =>
    if (ys.map (·.length)).sum + ys.length * a.length ≤ line then some (.str (joinL a ys), S) else none
  | .append, .ref l, [x], S => match S[l]? with
    | some (.lv xs) => if xs.length < line then some (.non, S.set l (.lv (xs ++ [x]))) else none
    | _ => none
  | .count, .str a, [.str [c]], S => some (.int (a.count c : Nat), S)
  | .extend, .ref l, [x], S => match S[l]?, asL S x with
    | some (.lv xs), some ys => if xs.length + ys.length ≤ line then some (.non, S.set l (.lv (xs ++ ys))) else none
    | _, _ => none
  | .pop, .ref l, [], S => match S[l]? with
    | some (.lv xs) => (xs[xs.length - 1]?).map fun y => (y, S.set l (.lv xs.dropLast))
    | _ => none
  | .popi, .ref l, [.int i], S => match S[l]? with
    | some (.lv xs) => if i.natAbs < 9223372036854775808 then (ixN xs.length i).bind fun k => (xs[k]?).map fun y => (y, S.set l (.lv (xs.eraseIdx k))) else none
    | _ => none
  | _, _, _, _ => none
def mthTy : Mth → String
  | .join | .count | .index | .endswith => "str"
  | .append | .extend | .pop | .popi => "list"
  | .get | .get1 | .update | .items => "dict"
def setS (x i v : D) (S : Store) : Option Store :=
  match x with
  | .ref l => match S[l]? with
    | some (.lv xs) => match i with
      | .int j => (ixN xs.length j).map fun n => S.set l (.lv (xs.set n v))
      | _ => none
    | some (.dv t ks vs) => match asKey i with
      | some k => if k.fits t && decide (ks.length < line) then some (S.set l (.dv t (dPut k v ks vs).1 (dPut k v ks vs).2)) else none
      | none => none
    | _ => none
  | _ => none

/-! ### the evaluator -/
inductive W where
  | fix (xs : List D)
  | dyn (l : Nat)
inductive Fl where
  | nx (ρ : Env)
  | rt (d : D)
  | bk (ρ : Env)
  | ct (ρ : Env)
def setAll : Env → List Nat → List D → Option Env
  | ρ, [], [] => some ρ
  | ρ, i :: is, d :: ds => setAll (ρ.set i (some d)) is ds
  | _, _, _ => none
def bindTg : Tg → D → Env → Option Env
  | .nm i, d, ρ => some (ρ.set i (some d))
  | .tp is, .tup ds, ρ => setAll ρ is ds
  | .tp _, _, _ => none
def wipeE (ρ : Env) : List Nat → Env
  | [] => ρ
  | v :: vs => (wipeE ρ vs).set v none
def runFix {α : Type} (f : D → Store → Option (Option α × Store)) : List D → Store → Option (List α × Store)
  | [], S => some ([], S)
  | d :: ds, S => (f d S).bind fun r => (runFix f ds r.2).map fun q => (match r.1 with | some y => y :: q.1 | none => q.1, q.2)
def nxD (l : Nat) (i : Nat) (S : Store) : Option (Option D) := match S[l]? with
  | some (.lv xs) => some xs[i]?
  | _ => none
def runG {α : Type} (nx : Nat → Store → Option (Option D)) (f : D → Store → Option (Option α × Store)) : Nat → Nat → Store → Option (List α × Store)
  | 0, _, _ => none
  | n + 1, i, S => match nx i S with
    | none => none
    | some none => some ([], S)
    | some (some d) => (f d S).bind fun r => (runG nx f n (i + 1) r.2).map fun q => (match r.1 with | some y => y :: q.1 | none => q.1, q.2)
def runW {α : Type} (fu : Nat) (f : D → Store → Option (Option α × Store)) : W → Store → Option (List α × Store)
  | .fix xs, S => runFix f xs S
  | .dyn l, S => runG (nxD l) f fu 0 S
def forFix (g : Tg) (b : Env → Store → Option (Fl × Store)) : List D → Env → Store → Option (Fl × Store)
  | [], ρ, S => some (.nx ρ, S)
  | d :: ds, ρ, S => (bindTg g d ρ).bind fun ρ1 => (b ρ1 S).bind fun r => match r.1 with
    | .nx ρ2 => forFix g b ds ρ2 r.2
    | .ct ρ2 => forFix g b ds ρ2 r.2
    | .bk ρ2 => some (.nx ρ2, r.2)
    | .rt d => some (.rt d, r.2)
def forG (nx : Nat → Store → Option (Option D)) (g : Tg) (b : Env → Store → Option (Fl × Store)) : Nat → Nat → Env → Store → Option (Fl × Store)
  | 0, _, _, _ => none
  | n + 1, i, ρ, S => match nx i S with
    | none => none
    | some none => some (.nx ρ, S)
    | some (some d) => (bindTg g d ρ).bind fun ρ1 => (b ρ1 S).bind fun r => match r.1 with
      | .nx ρ2 => forG nx g b n (i + 1) ρ2 r.2
      | .ct ρ2 => forG nx g b n (i + 1) ρ2 r.2
      | .bk ρ2 => some (.nx ρ2, r.2)
      | .rt d => some (.rt d, r.2)
def whileN (c : Env → Store → Option (D × Store)) (b : Env → Store → Option (Fl × Store)) : Nat → Env → Store → Option (Fl × Store)
  | 0, _, _ => none
  | n + 1, ρ, S => (c ρ S).bind fun r => match r.1 with
    | .bl true => (b ρ r.2).bind fun q => match q.1 with
      | .nx ρ2 => whileN c b n ρ2 q.2
      | .ct ρ2 => whileN c b n ρ2 q.2
      | .bk ρ2 => some (.nx ρ2, q.2)
      | .rt d => some (.rt d, q.2)
    | .bl false => some (.nx ρ, r.2)
    | _ => none
def one? : List D → Option (Option D)
  | [] => some none
  | [d] => some (some d)
  | _ => none
def walkOf (S : Store) : D → Option W
  | .ref l => match S[l]? with
    | some (.lv _) => some (.dyn l)
    | _ => none
  | .dv _ ks _ => some (.fix (ks.map dkD))
  | d => (walkS d).map .fix
def intL (lo : Int) (n : Nat) : List D := (List.range n).map fun i : Nat => .int (lo + (i : Int))
def rangeS : List D → Option (List D)
  | [.int j] => if j.natAbs < 4611686018427387904 then some (intL 0 j.toNat) else none
  | [.int i, .int j] => if i.natAbs < 4611686018427387904 ∧ j.natAbs < 4611686018427387904 then some (intL i (j - i).toNat) else none
  | _ => none
def enumL : Nat → List D → List D
  | _, [] => []
  | n, x :: xs => .tup [.int n, x] :: enumL (n + 1) xs
def zipL : List D → List D → List D
  | x :: xs, y :: ys => .tup [x, y] :: zipL xs ys
  | _, _ => []

section
variable (fu : Nat) (Φ : Calls)
mutual
def ev : E → Env → Store → Option (D × Store)
  | .var i, ρ, S => match ρ[i]? with
    | some (some d) => some (d, S)
    | _ => none
  | .non, _, S => some (.non, S)
  | .bl b, _, S => some (.bl b, S)
  | .int i, _, S => some (.int i, S)
  | .str c, _, S => some (.str c, S)
  | .gv _ d, _, S => some (d, S)
  | .op o a b, ρ, S => (ev a ρ S).bind fun x => (ev b ρ x.2).bind fun y => (opS o x.1 y.1 y.2).map fun r => fin false r y.2
  | .neg a, ρ, S => (ev a ρ S).bind fun x => match x.1 with
    | .int i => some (.int (-i), x.2)
    | _ => none
  | .cmp o a b, ρ, S => (ev a ρ S).bind fun x => (ev b ρ x.2).bind fun y => (cmpS o x.1 y.1 y.2).map fun r => (.bl r, y.2)
  | .chain o p a b c, ρ, S => (ev a ρ S).bind fun x => (ev b ρ x.2).bind fun y => (cmpS o x.1 y.1 y.2).bind fun r =>
    if r then (ev c ρ y.2).bind fun z => (cmpS p y.1 z.1 z.2).map fun q => (.bl q, z.2) else some (.bl false, y.2)
  | .and a b, ρ, S => (ev a ρ S).bind fun x => match x.1 with
    | .bl k => if k = true then ev b ρ x.2 else some (.bl false, x.2)
    | _ => none
  | .or a b, ρ, S => (ev a ρ S).bind fun x => match x.1 with
    | .bl k => if k = true then some (.bl true, x.2) else ev b ρ x.2
    | _ => none
  | .not a, ρ, S => (ev a ρ S).bind fun x => match x.1 with
    | .bl b => some (.bl (!b), x.2)
    | _ => none
  | .ite c a b, ρ, S => (ev c ρ S).bind fun x => match x.1 with
    | .bl k => if k = true then ev a ρ x.2 else ev b ρ x.2
    | _ => none
  | .ty n, _, S => some (.ty n, S)
  | .lrg1 k a, ρ, S => (ev a ρ S).bind fun x => (rangeS [x.1]).bind fun xs => if xs.length ≤ line then some (fin k (.new (.lv xs)) x.2) else none
  | .lrg2 k a b, ρ, S => (ev a ρ S).bind fun x => (ev b ρ x.2).bind fun y => (rangeS [x.1, y.1]).bind fun xs => if xs.length ≤ line then some (fin k (.new (.lv xs)) y.2) else none
  | .tup es, ρ, S => (evs es ρ S).bind fun x => if x.1.length ≤ line then some (.tup x.1, x.2) else none
  | .lst k es, ρ, S => (evs es ρ S).bind fun x => if x.1.length ≤ line then some (fin k (.new (.lv x.1)) x.2) else none
  | .dct k t ks vs, ρ, S => match ks, vs with
    | .nil, .nil => some (fin k (.new (.dv t [] [])) S)
    | _, _ => none
  | .sub a i, ρ, S => (ev a ρ S).bind fun x => (ev i ρ x.2).bind fun y => (itemS x.1 y.1 y.2).map fun d => (d, y.2)
  | .slc a lo hi, ρ, S => (ev a ρ S).bind fun x => (evs lo ρ x.2).bind fun l => (evs hi ρ l.2).bind fun h =>
    (one? l.1).bind fun l1 => (one? h.1).bind fun h1 => (bound? l1).bind fun l2 => (bound? h1).bind fun h2 => (slcS x.1 l2 h2 h.2).map fun r => fin false r h.2
  | .rev a, ρ, S => (ev a ρ S).bind fun x => (revS x.1 x.2).map fun r => fin false r x.2
  | .call f es, ρ, S => (evs es ρ S).bind fun x => Φ f x.1 x.2
  | .blt b k es, ρ, S => (evs es ρ S).bind fun x => (bltS b x.1 x.2).map fun r => fin k r x.2
  | .mth m a es, ρ, S => (ev a ρ S).bind fun x => if tyOf x.2 x.1 = some (mthTy m) then (evs es ρ x.2).bind fun y => mthS m x.1 y.1 y.2 else none
  | .lc k elt g vs it c, ρ, S => (evI it ρ S).bind fun w =>
    (runW fu (fun d S1 => (bindTg g d (wipeE ρ vs)).bind fun ρ1 => (evT c ρ1 S1).bind fun t =>
      if t.1 then (ev elt ρ1 t.2).map fun y => (some y.1, y.2) else some (none, t.2)) w.1 w.2).bind fun r =>
    if r.1.length ≤ line then some (fin k (.new (.lv r.1)) r.2) else none
  | .dc k key val g vs it c, ρ, S => (evI it ρ S).bind fun w =>
    (runW fu (fun d S1 => (bindTg g d (wipeE ρ vs)).bind fun ρ1 => (evT c ρ1 S1).bind fun t =>
      if t.1 then (ev key ρ1 t.2).bind fun y => (ev val ρ1 y.2).bind fun z => (asFlat y.1).map fun q => (some (q, z.1), z.2) else some (none, t.2)) w.1 w.2).bind fun r =>
    if r.1.length ≤ line then some (fin k (.new (.dv false (foldPut r.1 ([], [])).1 (foldPut r.1 ([], [])).2)) r.2) else none
def evs : Es → Env → Store → Option (List D × Store)
  | .nil, _, S => some ([], S)
  | .cons e es, ρ, S => (ev e ρ S).bind fun x => (evs es ρ x.2).map fun y => (x.1 :: y.1, y.2)
/-- a comprehension's tests -/
def evT : Es → Env → Store → Option (Bool × Store)
  | .nil, _, S => some (true, S)
  | .cons e _, ρ, S => (ev e ρ S).bind fun x => match x.1 with
    | .bl b => some (b, x.2)
    | _ => none
def evI : It → Env → Store → Option (W × Store)
  | .of e, ρ, S => (ev e ρ S).bind fun x => (walkOf x.2 x.1).map fun w => (w, x.2)
  | .range es, ρ, S => (evs es ρ S).bind fun x => (rangeS x.1).map fun xs => (.fix xs, x.2)
  | .enum e, ρ, S => (ev e ρ S).bind fun x => (walkS x.1).map fun xs => (.fix (enumL 0 xs), x.2)
  | .zip a b, ρ, S => (ev a ρ S).bind fun x => (ev b ρ x.2).bind fun y => (walkS x.1).bind fun xs => (walkS y.1).map fun ys => (.fix (zipL xs ys), y.2)
end
def augOk : Op2 → D → Bool
  | .add, .int _ => true
  | .add, .str _ => true
  | .sub, .int _ => true
  | _, _ => false
def run : T → Env → Store → Option (Fl × Store)
  | .skip, ρ, S => some (.nx ρ, S)
  | .never, _, _ => none
  | .seq a b, ρ, S => (run a ρ S).bind fun r => match r.1 with
    | .nx ρ1 => run b ρ1 r.2
    | f => some (f, r.2)
  | .ex e, ρ, S => (ev fu Φ e ρ S).map fun x => (.nx ρ, x.2)
  | .set i e, ρ, S => (ev fu Φ e ρ S).map fun x => (.nx (ρ.set i (some x.1)), x.2)
  | .tset is e, ρ, S => (ev fu Φ e ρ S).bind fun x => (bindTg (.tp is) x.1 ρ).map fun ρ1 => (.nx ρ1, x.2)
  | .par is es, ρ, S => (evs fu Φ es ρ S).bind fun x => (setAll ρ is x.1).map fun ρ1 => (.nx ρ1, x.2)
  | .setI o i e, ρ, S => (ev fu Φ e ρ S).bind fun v => (ev fu Φ o ρ v.2).bind fun x => (ev fu Φ i ρ x.2).bind fun y => (setS x.1 y.1 v.1 y.2).map fun S1 => (.nx ρ, S1)
  | .aug i o e, ρ, S => match ρ[i]? with
    | some (some x) => if augOk o x then (ev fu Φ e ρ S).bind fun y => match opS o x y.1 y.2 with
      | some (.val d) => some (.nx (ρ.set i (some d)), y.2)
      | _ => none
      else none
    | _ => none
  | .ret e, ρ, S => (ev fu Φ e ρ S).map fun x => (.rt x.1, x.2)
  | .retn, _, S => some (.rt .non, S)
  | .ite c a b, ρ, S => (ev fu Φ c ρ S).bind fun x => match x.1 with
    | .bl k => if k = true then run a ρ x.2 else run b ρ x.2
    | _ => none
  | .whl c b, ρ, S => whileN (ev fu Φ c) (run b) fu ρ S
  | .loop g it b, ρ, S => (evI fu Φ it ρ S).bind fun w => match w.1 with
    | .fix xs => forFix g (run b) xs ρ w.2
    | .dyn l => forG (nxD l) g (run b) fu 0 ρ w.2
  | .brk, ρ, S => some (.bk ρ, S)
  | .cont, ρ, S => some (.ct ρ, S)
end

/-! ### defs -/
structure Fn where
  nm : Str
  ps : List Str
  N : List Str
  body : T
def startE (n : Nat) (ds : List D) : Env := ds.map some ++ List.replicate (n - ds.length) none
def callN (fu : Nat) (P : List Fn) : Nat → Calls
  | 0 => fun _ _ _ => none
  | n + 1 => fun f ds S => match P.find? (fun g => g.nm == f) with
    | none => none
    | some g => if ds.length = g.ps.length then (run fu (callN fu P n) g.body (startE g.N.length ds) S).bind fun r => match r.1 with
        | .rt d => some (d, r.2)
        | .nx _ => some (.non, r.2)
        | _ => none
      else none
end Pd

/-! Pd2: how data lie in the heap. -/
namespace Pd
open PySem PySem.Spec PyProof.Rows L2

abbrev sOf (c : List Nat) : Str := ⟨c.toArray⟩
def keyS : Int ⊕ List Nat → Key
  | .inl n => .inl n
  | .inr c => .inr (sOf c)
def okS (c : List Nat) : Prop := ∀ x ∈ c, x < 0x110000
def okK : Int ⊕ List Nat → Prop
  | .inl _ => True
  | .inr c => okS c

inductive KK : List DK → List Key → Prop
  | nil : KK [] []
  | i {n : Int} {ks : List DK} {js : List Key} : KK ks js → KK (.i n :: ks) (.inl n :: js)
  | s {c : List Nat} {ks : List DK} {js : List Key} : okS c → KK ks js → KK (.s c :: ks) (.inr (sOf c) :: js)
inductive KT : List DK → List (List Key) → Prop
  | nil : KT [] []
  | t {l : List (Int ⊕ List Nat)} {ks : List DK} {js : List (List Key)} : (∀ x ∈ l, okK x) → KT ks js → KT (.t l :: ks) (l.map keyS :: js)

section
variable (M : Addr → Prop) (Λ : List Addr) (H : Hp)
mutual
inductive RV : D → V → Prop
  | non : RV .non .non
  | bl (b : Bool) : RV (.bl b) (.bl b)
  | int (i : Int) : RV (.int i) (.int i)
  | str {c : List Nat} : okS c → RV (.str c) (.str (sOf c))
  | ty (n : String) : RV (.ty n) (.ty n)
  | tup {a : Addr} {xs : List D} {vs : List V} : H a = some (.tup vs) → RVs xs vs → RV (.tup xs) (.ref a)
  | lst {a : Addr} {xs : List D} {vs : List V} : H a = some (.lst vs) → a ∉ Λ → ¬ M a → RVs xs vs → RV (.lv xs) (.ref a)
  | dct {a : Addr} {o : Obj} {t : Bool} {ks : List DK} {ds : List D} {ho : HO} : H a = some (.frz o ho) → a ∉ Λ → ¬ M a → RO (.dv t ks ds) ho → RV (.dv t ks ds) (.ref a)
  | ref {l : Nat} {a : Addr} : Λ[l]? = some a → RV (.ref l) (.ref a)
  | scr {a : Addr} {o : Obj} {ns : List Int} : H a = some (.frz o (.lst (ns.map V.int))) → a ∉ Λ → RV (.scr ns) (.ref a)
inductive RVs : List D → List V → Prop
  | nil : RVs [] []
  | cons {d : D} {v : V} {ds : List D} {vs : List V} : RV d v → RVs ds vs → RVs (d :: ds) (v :: vs)
inductive RO : D → HO → Prop
  | lst {xs : List D} {vs : List V} : RVs xs vs → RO (.lv xs) (.lst vs)
  | dK {ks : List DK} {ds : List D} {kvs : List (Key × V)} : KK ks (kvs.map (·.1)) → RVs ds (kvs.map (·.2)) → RO (.dv false ks ds) (.dK kvs)
  | dT {ks : List DK} {ds : List D} {kvs : List (List Key × V)} : KT ks (kvs.map (·.1)) → RVs ds (kvs.map (·.2)) → RO (.dv true ks ds) (.dT kvs)
end
end

def isMut : HO → Prop
  | .lst _ | .dK _ | .dT _ => True
  | _ => False
/-- the store lies in the heap -/
structure RelS (M : Addr → Prop) (Λ : List Addr) (S : Store) (H : Hp) : Prop where
  len : S.length = Λ.length
  nd : Λ.Nodup
  nm : ∀ a ∈ Λ, ¬ M a
  mt : ∀ a, M a → ∃ o, H a = some o
  st : ∀ (l : Nat) (c : D) (a : Addr), S[l]? = some c → Λ[l]? = some a → ∃ ho, H a = some ho ∧ RO M Λ H c ho
def RelE (M : Addr → Prop) (Λ : List Addr) (H : Hp) (ρ : Env) (σ : L2.St) : Prop :=
  ρ.length = σ.length ∧ ∀ (i : Nat) (d : D), ρ[i]? = some (some d) → ∃ v, σ[i]? = some (some v) ∧ RV M Λ H d v
/-- what changed: the changeable objects alone; new ones came -/
structure Step (Λ : List Addr) (H : Hp) (Λ' : List Addr) (H' : Hp) : Prop where
  ext : ∃ n, Λ' = Λ ++ n ∧ ∀ a ∈ n, H a = none
  keep : ∀ a o, H a = some o → a ∉ Λ → H' a = some o
  there : ∀ a o, H a = some o → ∃ o', H' a = some o'

section
variable {K : PySem.W.Frag} {M : Addr → Prop} {Λ Λ' Λ1 Λ2 : List Addr} {H H' H1 H2 : Hp} {S : Store} {ρ : Env} {σ : L2.St} {d : D} {v : V}
theorem RO.isMut {ho : HO} (h : RO M Λ H d ho) : isMut ho := by cases h <;> trivial
theorem Step.refl : Step Λ H Λ H := ⟨⟨[], by simp, fun _ h => by cases h⟩, fun _ _ h _ => h, fun _ o h => ⟨o, h⟩⟩
theorem Step.same (h : Same H H') : Step Λ H Λ H' := ⟨⟨[], by simp, fun _ h => by cases h⟩, fun a o e _ => h a o e, fun a o e => ⟨o, h a o e⟩⟩
theorem Step.notin (s : Step Λ H Λ' H') {a : Addr} {o : HO} (e : H a = some o) (h : a ∉ Λ) : a ∉ Λ' := by
  obtain ⟨n, rfl, hn⟩ := s.ext
  intro hm
  rcases List.mem_append.mp hm with z | z
  · exact h z
  · have := hn a z; rw [e] at this; cases this
theorem Step.trans (s : Step Λ H Λ1 H1) (t : Step Λ1 H1 Λ2 H2) : Step Λ H Λ2 H2 := by
  refine ⟨?_, fun a o e h => t.keep a o (s.keep a o e h) (s.notin e h), fun a o e => ?_⟩
  · obtain ⟨n, rfl, hn⟩ := s.ext
    obtain ⟨m, rfl, hm⟩ := t.ext
    refine ⟨n ++ m, by simp, fun a ha => ?_⟩
    rcases List.mem_append.mp ha with z | z
    · exact hn a z
    · cases q : H a with
      | none => rfl
      | some o =>
        have q1 := hm a z
        obtain ⟨o', e⟩ := s.there a o q
        rw [e] at q1; cases q1
  · obtain ⟨o', e'⟩ := s.there a o e
    exact t.there a o' e'
theorem RelS.addr (R : RelS M Λ S H) {a : Addr} (h : a ∈ Λ) : ∃ (l : Nat) (c : D) (ho : HO), S[l]? = some c ∧ Λ[l]? = some a ∧ H a = some ho ∧ RO M Λ H c ho := by
  obtain ⟨l, hl, e⟩ := List.getElem_of_mem h
  have h1 : Λ[l]? = some a := by rw [List.getElem?_eq_getElem hl, e]
  have h2 : l < S.length := by rw [R.len]; exact hl
  obtain ⟨ho, e1, e2⟩ := R.st l S[l] a (List.getElem?_eq_getElem h2) h1
  exact ⟨l, S[l], ho, List.getElem?_eq_getElem h2, h1, e1, e2⟩
theorem RelS.tup_out (R : RelS M Λ S H) {a : Addr} {u : HO} (h : Rd H a u) (hn : ¬ isMut u) : a ∉ Λ := by
  intro hm
  obtain ⟨l, c, ho, _, _, e, r⟩ := R.addr hm
  rcases h with h | ⟨o, h⟩
  · rw [h] at e; cases e; exact hn r.isMut
  · rw [h] at e; cases e; exact r.isMut
theorem Step.tup (R : RelS M Λ S H) (s : Step Λ H Λ' H') {a : Addr} {vs : List V} (h : H a = some (.tup vs)) : H' a = some (.tup vs) :=
  s.keep _ _ h (R.tup_out (.inl h) (by intro z; exact z))
theorem ext_get (s : Step Λ H Λ' H') {l : Nat} {a : Addr} (h : Λ[l]? = some a) : Λ'[l]? = some a := by
  obtain ⟨n, rfl, _⟩ := s.ext
  rw [List.getElem?_append_left (List.getElem?_eq_some_iff.mp h).1]
  exact h
mutual
theorem RV.step (R : RelS M Λ S H) (s : Step Λ H Λ' H') : ∀ {d : D} {v : V}, RV M Λ H d v → RV M Λ' H' d v
  | _, _, .non => .non
  | _, _, .bl b => .bl b
  | _, _, .int i => .int i
  | _, _, .str h => .str h
  | _, _, .ty n => .ty n
  | _, _, .tup h r => .tup (s.tup R h) (RVs.step R s r)
  | _, _, .lst e h m r => .lst (s.keep _ _ e h) (s.notin e h) m (RVs.step R s r)
  | _, _, .dct e h m r => .dct (s.keep _ _ e h) (s.notin e h) m (RO.step R s r)
  | _, _, .ref h => .ref (ext_get s h)
  | _, _, .scr e h => .scr (s.keep _ _ e h) (s.notin e h)
theorem RVs.step (R : RelS M Λ S H) (s : Step Λ H Λ' H') : ∀ {ds : List D} {vs : List V}, RVs M Λ H ds vs → RVs M Λ' H' ds vs
  | _, _, .nil => .nil
  | _, _, .cons h r => .cons (RV.step R s h) (RVs.step R s r)
theorem RO.step (R : RelS M Λ S H) (s : Step Λ H Λ' H') : ∀ {d : D} {ho : HO}, RO M Λ H d ho → RO M Λ' H' d ho
  | _, _, .lst r => .lst (RVs.step R s r)
  | _, _, .dK k r => .dK k (RVs.step R s r)
  | _, _, .dT k r => .dT k (RVs.step R s r)
end
theorem RelE.step (R : RelS M Λ S H) (s : Step Λ H Λ' H') (h : RelE M Λ H ρ σ) : RelE M Λ' H' ρ σ :=
  ⟨h.1, fun i d e => let ⟨v, e1, r⟩ := h.2 i d e; ⟨v, e1, r.step R s⟩⟩
theorem RelS.same (R : RelS M Λ S H) (s : Same H H') : RelS M Λ S H' :=
  ⟨R.len, R.nd, R.nm, fun a h => let ⟨o, e⟩ := R.mt a h; ⟨o, s a o e⟩, fun l c a e1 e2 => let ⟨ho, e3, r⟩ := R.st l c a e1 e2; ⟨ho, s a ho e3, r.step R (Step.same s)⟩⟩
theorem same_upd {H : Hp} {p : Addr} {o : HO} (h : H p = none) : Same H (upd H p o) := fun b x e => by
  rw [upd_ne (ne_of_none e h)]
  exact e
theorem RelS.fresh (R : RelS M Λ S H) {a : Addr} (hn : H a = none) : a ∉ Λ ∧ ¬ M a := by
  refine ⟨fun hm => ?_, fun hm => ?_⟩
  · obtain ⟨_, _, _, _, _, e, _⟩ := R.addr hm
    rw [hn] at e; cases e
  · obtain ⟨_, e⟩ := R.mt a hm
    rw [hn] at e; cases e
/-- a new list that will not change -/
theorem freeze (R : RelS M Λ S H) {a : Addr} {xs : List D} {vs : List V} (hn : H a = none) (r : RVs M Λ H xs vs) : RelS M Λ S (upd H a (.lst vs)) ∧ RV M Λ (upd H a (.lst vs)) (.lv xs) (.ref a) ∧ Step Λ H Λ (upd H a (.lst vs)) := by
  have s := same_upd (o := .lst vs) hn
  exact ⟨R.same s, .lst upd_same (R.fresh hn).1 (R.fresh hn).2 (r.step R (Step.same s)), Step.same s⟩
/-- a new dict, locked for good -/
theorem freezeD (R : RelS M Λ S H) {a : Addr} {o : Obj} {ho : HO} {t : Bool} {ks : List DK} {ds : List D} (hn : H a = none) (r : RO M Λ H (.dv t ks ds) ho) :
    RelS M Λ S (upd H a (.frz o ho)) ∧ RV M Λ (upd H a (.frz o ho)) (.dv t ks ds) (.ref a) ∧ Step Λ H Λ (upd H a (.frz o ho)) := by
  have s := same_upd (o := .frz o ho) hn
  exact ⟨R.same s, .dct upd_same (R.fresh hn).1 (R.fresh hn).2 (r.step R (Step.same s)), Step.same s⟩
/-- a new object that may change -/
theorem adopt (R : RelS M Λ S H) {a : Addr} {ho : HO} {c : D} (hn : H a = none) (r : RO M Λ H c ho) : RelS M (Λ ++ [a]) (S ++ [c]) (upd H a ho) ∧ RV M (Λ ++ [a]) (upd H a ho) (.ref S.length) (.ref a) ∧ Step Λ H (Λ ++ [a]) (upd H a ho) := by
  have s := same_upd (o := ho) hn
  have st : Step Λ H (Λ ++ [a]) (upd H a ho) := ⟨⟨[a], rfl, fun b hb => by rw [List.mem_singleton.mp hb]; exact hn⟩, fun b o e _ => s b o e, fun b o e => ⟨o, s b o e⟩⟩
  have hnL : a ∉ Λ := (R.fresh hn).1
  have hnM : ¬ M a := (R.fresh hn).2
  refine ⟨⟨by simp [R.len], ?_, fun b hb => ?_, fun b h => let ⟨o, e⟩ := R.mt b h; ⟨o, s b o e⟩, fun l c' b e1 e2 => ?_⟩, .ref ?_, st⟩
  · rw [List.nodup_append]
    refine ⟨R.nd, by simp, fun x hx y hy e => ?_⟩
    rw [List.mem_singleton.mp hy] at e
    exact hnL (e ▸ hx)
  · rcases List.mem_append.mp hb with z | z
    · exact R.nm b z
    · rw [List.mem_singleton.mp z]; exact hnM
  · by_cases hl : l < S.length
    · rw [List.getElem?_append_left hl] at e1
      rw [List.getElem?_append_left (by rw [← R.len]; exact hl)] at e2
      obtain ⟨ho', e3, r'⟩ := R.st l c' b e1 e2
      exact ⟨ho', s b ho' e3, r'.step R st⟩
    · have hl2 : l = S.length := by
        have := (List.getElem?_eq_some_iff.mp e1).1
        simp at this
        omega
      subst hl2
      rw [List.getElem?_append_right (Nat.le_refl _)] at e1
      rw [R.len, List.getElem?_append_right (Nat.le_refl _)] at e2
      simp at e1 e2
      subst e1; subst e2
      exact ⟨ho, upd_same, r.step R st⟩
  · rw [R.len, List.getElem?_append_right (Nat.le_refl _)]
    simp
/-- a changeable object is changed -/
theorem write (R : RelS M Λ S H) {l : Nat} {a : Addr} {ho' : HO} {c' : D} (e : Λ[l]? = some a) (r : RO M Λ H c' ho') : RelS M Λ (S.set l c') (upd H a ho') ∧ Step Λ H Λ (upd H a ho') := by
  have hm : a ∈ Λ := List.mem_of_getElem? e
  have st : Step Λ H Λ (upd H a ho') := by
    refine ⟨⟨[], by simp, fun _ h => by cases h⟩, fun b o q hb => ?_, fun b o q => ?_⟩
    · have hz : b ≠ a := fun z => hb (by rw [z]; exact hm)
      rw [upd_ne hz]; exact q
    · by_cases hb : b = a
      · subst hb; exact ⟨_, upd_same⟩
      · rw [upd_ne hb]; exact ⟨o, q⟩
  refine ⟨⟨by simp [R.len], R.nd, R.nm, fun b h => ?_, fun j c b e1 e2 => ?_⟩, st⟩
  · obtain ⟨o, q⟩ := R.mt b h
    exact st.there b o q
  · by_cases hj : j = l
    · subst hj
      rw [e] at e2; cases e2
      have hlt : j < S.length := by rw [R.len]; exact (List.getElem?_eq_some_iff.mp e).1
      rw [List.getElem?_set_self hlt] at e1
      cases e1
      exact ⟨ho', upd_same, r.step R st⟩
    · rw [List.getElem?_set_ne (Ne.symm hj)] at e1
      obtain ⟨ho, e3, r'⟩ := R.st j c b e1 e2
      have hba : b ≠ a := fun z => by
        subst z
        obtain ⟨h1, e1'⟩ := List.getElem?_eq_some_iff.mp e
        obtain ⟨h2, e2'⟩ := List.getElem?_eq_some_iff.mp e2
        exact hj ((List.getElem_inj R.nd).mp (e2'.trans e1'.symm))
      exact ⟨ho, by rw [upd_ne hba]; exact e3, r'.step R st⟩
theorem RVs.length : ∀ {ds : List D} {vs : List V}, RVs M Λ H ds vs → ds.length = vs.length
  | _, _, .nil => rfl
  | _, _, .cons _ r => by rw [List.length_cons, List.length_cons, RVs.length r]
theorem RVs.get : ∀ {ds : List D} {vs : List V} {i : Nat} {d : D}, RVs M Λ H ds vs → ds[i]? = some d → ∃ v, vs[i]? = some v ∧ RV M Λ H d v
  | _, _, _, _, .nil, e => by simp at e
  | _, _, 0, _, .cons h _, e => by simp at e; subst e; exact ⟨_, rfl, h⟩
  | _, _, i + 1, _, .cons _ r, e => by simpa using RVs.get (i := i) r (by simpa using e)
theorem RVs.append : ∀ {ds es : List D} {vs ws : List V}, RVs M Λ H ds vs → RVs M Λ H es ws → RVs M Λ H (ds ++ es) (vs ++ ws)
  | _, _, _, _, .nil, r => r
  | _, _, _, _, .cons h t, r => .cons h (RVs.append t r)
theorem RVs.take : ∀ (n : Nat) {ds : List D} {vs : List V}, RVs M Λ H ds vs → RVs M Λ H (ds.take n) (vs.take n)
  | 0, _, _, _ => .nil
  | _ + 1, _, _, .nil => .nil
  | n + 1, _, _, .cons h t => .cons h (RVs.take n t)
theorem RVs.drop : ∀ (n : Nat) {ds : List D} {vs : List V}, RVs M Λ H ds vs → RVs M Λ H (ds.drop n) (vs.drop n)
  | 0, _, _, h => h
  | _ + 1, _, _, .nil => .nil
  | n + 1, _, _, .cons _ t => RVs.drop n t
theorem RVs.set {d : D} {v : V} (h : RV M Λ H d v) : ∀ (n : Nat) {ds : List D} {vs : List V}, RVs M Λ H ds vs → RVs M Λ H (ds.set n d) (vs.set n v)
  | _, _, _, .nil => .nil
  | 0, _, _, .cons _ t => .cons h t
  | n + 1, _, _, .cons g t => .cons g (RVs.set h n t)
theorem RVs.reverse : ∀ {ds : List D} {vs : List V}, RVs M Λ H ds vs → RVs M Λ H ds.reverse vs.reverse
  | _, _, .nil => .nil
  | _, _, .cons h t => by
    rw [List.reverse_cons, List.reverse_cons]
    exact (RVs.reverse t).append (.cons h .nil)
theorem RVs.rep {ds : List D} {vs : List V} (r : RVs M Λ H ds vs) : ∀ n : Nat, RVs M Λ H (List.replicate n ds).flatten (List.replicate n vs).flatten
  | 0 => .nil
  | n + 1 => by
    rw [List.replicate_succ, List.replicate_succ, List.flatten_cons, List.flatten_cons]
    exact r.append (RVs.rep r n)
/-- what reads as a list -/
theorem asL_rv (R : RelS M Λ S H) (h : RV M Λ H d v) {xs : List D} (e : asL S d = some xs) : ∃ a vs, v = .ref a ∧ H a = some (.lst vs) ∧ RVs M Λ H xs vs := by
  cases h with
  | lst e1 _ _ r =>
    simp only [asL, Option.some.injEq] at e
    subst e
    exact ⟨_, _, rfl, e1, r⟩
  | @ref l a e1 =>
    simp only [asL] at e
    cases q : S[l]? with
    | none => rw [q] at e; cases e
    | some c =>
      rw [q] at e
      obtain ⟨ho, e2, r⟩ := R.st l c a q e1
      cases r with
      | lst r =>
        simp only [Option.some.injEq] at e
        subst e
        exact ⟨_, _, rfl, e2, r⟩
      | dK _ _ => simp at e
      | dT _ _ => simp at e
  | _ => simp [asL] at e
theorem asSq_rv (R : RelS M Λ S H) (h : RV M Λ H d v) {xs : List D} (e : asSq S d = some xs) : ∃ a vs, v = .ref a ∧ (H a = some (.lst vs) ∨ SqT K H a vs) ∧ RVs M Λ H xs vs := by
  cases h with
  | tup h r =>
    simp only [asSq, Option.some.injEq] at e
    subst e
    exact ⟨_, _, rfl, .inr (.of h), r⟩
  | lst e1 e2 e3 r =>
    simp only [asSq, asL, Option.some.injEq] at e
    subst e
    exact ⟨_, _, rfl, .inl e1, r⟩
  | @ref l a e1 =>
    obtain ⟨a, vs, q1, q2, q3⟩ := asL_rv R (RV.ref e1) (show asL S (.ref l) = some xs from e)
    exact ⟨a, vs, q1, .inl q2, q3⟩
  | _ => simp [asSq, asL] at e
/-- a dict as it lies -/
def DkAt (M : Addr → Prop) (Λ : List Addr) (H : Hp) (a : Addr) (t : Bool) (ks : List DK) (ds : List D) : Prop :=
  (t = false ∧ ∃ kvs, Rd H a (.dK kvs) ∧ KK ks (kvs.map (·.1)) ∧ RVs M Λ H ds (kvs.map (·.2))) ∨ (t = true ∧ ∃ kvs, Rd H a (.dT kvs) ∧ KT ks (kvs.map (·.1)) ∧ RVs M Λ H ds (kvs.map (·.2)))
theorem RO.dk {t : Bool} {ks : List DK} {ds : List D} {ho : HO} {a : Addr} (e : Rd H a ho) (r : RO M Λ H (.dv t ks ds) ho) : DkAt M Λ H a t ks ds := by
  cases r with
  | dK k r => exact .inl ⟨rfl, _, e, k, r⟩
  | dT k r => exact .inr ⟨rfl, _, e, k, r⟩
theorem asDk_rv (R : RelS M Λ S H) (h : RV M Λ H d v) {t : Bool} {ks : List DK} {ds : List D} (e : asDk S d = some (t, ks, ds)) : ∃ a, v = .ref a ∧ DkAt M Λ H a t ks ds := by
  cases h with
  | @dct a o _ _ _ ho e1 _ _ r =>
    simp only [asDk, Option.some.injEq, Prod.mk.injEq] at e
    obtain ⟨rfl, rfl, rfl⟩ := e
    exact ⟨a, rfl, RO.dk (.inr ⟨o, e1⟩) r⟩
  | @ref l a e1 =>
    simp only [asDk] at e
    cases q : S[l]? with
    | none => rw [q] at e; cases e
    | some c =>
      rw [q] at e
      obtain ⟨ho, e2, r⟩ := R.st l c a q e1
      refine ⟨a, rfl, ?_⟩
      cases r with
      | lst _ => simp at e
      | dK k r => simp only [Option.some.injEq, Prod.mk.injEq] at e; obtain ⟨rfl, rfl, rfl⟩ := e; exact RO.dk (.inl e2) (.dK k r)
      | dT k r => simp only [Option.some.injEq, Prod.mk.injEq] at e; obtain ⟨rfl, rfl, rfl⟩ := e; exact RO.dk (.inl e2) (.dT k r)
  | _ => simp [asDk] at e

/-! ### as the library's data -/
theorem dps_of {n : Nat} (ih : ∀ {d : D} {v : V}, RV M Λ H d v → okd n d = true → Dp K H v (py d)) : ∀ {ds : List D} {vs : List V}, RVs M Λ H ds vs → (∀ x ∈ ds, okd n x = true) → DpAll K H vs (pys ds)
  | [], _, h, _ => by
    cases h
    rw [pys]; exact .nil
  | d :: ds, _, h, k => by
    cases h with
    | cons h r =>
      rw [pys]
      exact .cons (ih h (k _ List.mem_cons_self)) (dps_of ih r fun x hx => k x (List.mem_cons_of_mem _ hx))
theorem dp_of : ∀ (n : Nat) {d : D} {v : V}, RV M Λ H d v → okd n d = true → Dp K H v (py d)
  | 0, d, v, h, k => by
    cases h with
    | non => rw [py]; exact .non
    | bl b => rw [py]; exact .bl b
    | int i => rw [py]; exact .int i
    | str h => rw [py]; exact .str _
    | tup _ _ => simp [okd] at k
    | _ => simp [okd] at k
  | n + 1, d, v, h, k => by
    cases h with
    | non => rw [py]; exact .non
    | bl b => rw [py]; exact .bl b
    | int i => rw [py]; exact .int i
    | str h => rw [py]; exact .str _
    | tup h r => rw [py]; exact .tup (.of h) (dps_of (dp_of n) r (by simpa [okd] using k))
    | lst e _ _ r => rw [py]; exact .lst (.of e) (dps_of (dp_of n) r (by simpa [okd] using k))
    | _ => simp [okd] at k

theorem okds {n : Nat} (ih : ∀ {d : D} {v : V}, RV M Λ H d v → okd n d = true → (py d).canLay0 = true ∧ (py d).depth ≤ n) : ∀ {ds : List D} {vs : List V}, RVs M Λ H ds vs → (∀ x ∈ ds, okd n x = true) → PyData.canLayAll0 (pys ds) = true ∧ PyData.depthAll (pys ds) ≤ n
  | [], _, _, _ => by rw [pys]; exact ⟨rfl, Nat.zero_le _⟩
  | d :: ds, _, h, k => by
    cases h with
    | cons h r =>
      obtain ⟨a1, a2⟩ := ih h (k _ List.mem_cons_self)
      obtain ⟨b1, b2⟩ := okds ih r fun x hx => k x (List.mem_cons_of_mem _ hx)
      rw [pys, PyData.canLayAll0, PyData.depthAll, a1, b1]
      exact ⟨rfl, Nat.max_le.mpr ⟨a2, b2⟩⟩
theorem strOk_of {c : List Nat} (h : okS c) : PySem.PyData.strOk (sOf c) = true := by
  show Array.all c.toArray (fun x => decide (x < 0x110000)) = true
  rw [← Array.all_toList, List.all_eq_true]
  exact fun x hx => decide_eq_true (h x (by simpa using hx))
theorem okd_of : ∀ (n : Nat) {d : D} {v : V}, RV M Λ H d v → okd n d = true → (py d).canLay0 = true ∧ (py d).depth ≤ n
  | 0, d, v, h, k => by
    cases h with
    | non => rw [py]; exact ⟨rfl, Nat.le_refl _⟩
    | bl b => rw [py]; exact ⟨rfl, Nat.le_refl _⟩
    | int i => rw [py]; exact ⟨rfl, Nat.le_refl _⟩
    | str h => rw [py]; exact ⟨strOk_of h, Nat.le_refl _⟩
    | tup _ _ => simp [okd] at k
    | _ => simp [okd] at k
  | n + 1, d, v, h, k => by
    cases h with
    | non => rw [py]; exact ⟨rfl, Nat.zero_le _⟩
    | bl b => rw [py]; exact ⟨rfl, Nat.zero_le _⟩
    | int i => rw [py]; exact ⟨rfl, Nat.zero_le _⟩
    | str h => rw [py]; exact ⟨strOk_of h, Nat.zero_le _⟩
    | tup h r =>
      obtain ⟨a, b⟩ := okds (okd_of n) r (by simpa [okd] using k)
      rw [py, PyData.canLay0, PyData.depth]
      exact ⟨a, Nat.succ_le_succ b⟩
    | lst e _ _ r =>
      obtain ⟨a, b⟩ := okds (okd_of n) r (by simpa [okd] using k)
      rw [py, PyData.canLay0, PyData.depth]
      exact ⟨a, Nat.succ_le_succ b⟩
    | _ => simp [okd] at k
/-- what stands behind a place, read as data -/
theorem top_dp (R : RelS M Λ S H) (h : RV M Λ H d v) {n : Nat} (k : okd n (top S d) = true) : Dp K H v (py (top S d)) ∧ (py (top S d)).canLay0 = true ∧ (py (top S d)).depth ≤ n := by
  have go : ∀ {d : D} {v : V}, RV M Λ H d v → okd n d = true → Dp K H v (py d) ∧ (py d).canLay0 = true ∧ (py d).depth ≤ n := fun h k => ⟨dp_of n h k, okd_of n h k⟩
  cases h with
  | @ref l a e =>
    simp only [top] at k ⊢
    cases q : S[l]? with
    | none =>
      have h1 := (List.getElem?_eq_some_iff.mp e).1
      have h2 := List.getElem?_eq_none_iff.mp q
      rw [R.len] at h2
      omega
    | some c =>
      rw [q] at k
      simp only [Option.getD_some] at k ⊢
      obtain ⟨ho, e2, r⟩ := R.st l c a q e
      cases r with
      | lst r =>
        cases n with
        | zero => simp [okd] at k
        | succ n =>
          simp only [okd, List.all_eq_true] at k
          have k' := k
          obtain ⟨b1, b2⟩ := okds (okd_of n) r k'
          rw [py, PyData.canLay0, PyData.depth]
          exact ⟨.lst (.of e2) (dps_of (dp_of n) r k'), b1, Nat.succ_le_succ b2⟩
      | dK _ _ => cases n <;> simp [okd] at k
      | dT _ _ => cases n <;> simp [okd] at k
  | non => exact go .non k
  | bl b => exact go (.bl b) k
  | int i => exact go (.int i) k
  | str h => exact go (.str h) k
  | ty n' => exact go (.ty n') k
  | tup h r => exact go (.tup h r) k
  | lst e h m r => exact go (.lst e h m r) k
  | dct e h m r => exact go (.dct e h m r) k
  | scr e h => exact go (.scr e h) k
theorem RVs.mem : ∀ {ds : List D} {vs : List V} {d : D}, RVs M Λ H ds vs → d ∈ ds → ∃ v, v ∈ vs ∧ RV M Λ H d v
  | _, _, _, .nil, e => by cases e
  | _, _, _, .cons h t, e => by
    rcases List.mem_cons.mp e with rfl | e
    · exact ⟨_, List.mem_cons_self, h⟩
    · obtain ⟨v, a, b⟩ := RVs.mem t e
      exact ⟨v, List.mem_cons_of_mem _ a, b⟩
end
end Pd

/-! Pd3: the primitives, by the layer's rules. -/
namespace Pd
open PySem PySem.Spec PyProof.Rows L2

section
variable {K : PySem.W.Frag} {M : Addr → Prop} {Λ : List Addr} {H : Hp} {S : Store} {d : D} {v : V} {Q : VK}
def PRk (M : Addr → Prop) (Λ : List Addr) (r : PR) (H : Hp) (Q : VK) : Prop := match r with
  | .val d => ∀ v H1, Same H H1 → RV M Λ H1 d v → Q v H1
  | .new c => ∀ a H1 ho, Same H H1 → H1 a = none → RO M Λ H1 c ho → Q (.ref a) (upd H1 a ho)
def rP2 (f : D → D → Store → Option PR) : R2 := fun x y H Q => ∃ M Λ S d e r, RelS M Λ S H ∧ RV M Λ H d x ∧ RV M Λ H e y ∧ f d e S = some r ∧ PRk M Λ r H Q
def rPs (f : List D → Store → Option PR) : List V → Hp → VK → Prop := fun xs H Q => ∃ M Λ S ds r, RelS M Λ S H ∧ RVs M Λ H ds xs ∧ f ds S = some r ∧ PRk M Λ r H Q
theorem OpR.imp {X : Cx} {f : Value → Value → Sem Value} {r r' : R2} (h : OpR X f r) (i : ∀ x y H Q, r' x y H Q → r x y H Q) : OpR X f r' :=
  fun pins s σ H x y v u Q I r1 r2 q => h pins s σ H x y v u Q I r1 r2 (i x y H Q q)
theorem CallR.imp {X : Cx} {f : Value} {r r' : List V → Hp → VK → Prop} (h : CallR X f r) (i : ∀ xs H Q, r' xs H Q → r xs H Q) : CallR X f r' :=
  fun pins s σ H xs us Q I r1 q => h pins s σ H xs us Q I r1 (i xs H Q q)
theorem CallR.or {X : Cx} {f : Value} {r r' : List V → Hp → VK → Prop} (h : CallR X f r) (h' : CallR X f r') : CallR X f (fun xs H Q => r xs H Q ∨ r' xs H Q) :=
  fun pins s σ H xs us Q I r1 q => q.elim (h pins s σ H xs us Q I r1) (h' pins s σ H xs us Q I r1)
theorem PRk.val_same {d : D} (k : PRk M Λ (.val d) H Q) {v : V} (r : RV M Λ H d v) : Q v H := k v H (Same.refl H) r
theorem PRk.new_same {c : D} (k : PRk M Λ (.new c) H Q) {a : Addr} {ho : HO} (hn : H a = none) (r : RO M Λ H c ho) : Q (.ref a) (upd H a ho) := k a H ho (Same.refl H) hn r
theorem PRk.tup (R : RelS M Λ S H) {ds : List D} (k : PRk M Λ (.val (.tup ds)) H Q) {vs : List V} (r : RVs M Λ H ds vs) {a : Addr} (hn : H a = none) : Q (.ref a) (upd H a (.tup vs)) :=
  k _ _ (same_upd hn) (.tup upd_same (r.step R (Step.same (same_upd hn))))
theorem len_sOf (c : List Nat) : (sOf c).length = c.length := by
  show (c.toArray).size = c.length
  simp
theorem app_sOf (a b : List Nat) : sOf a ++ sOf b = sOf (a ++ b) := by
  show (⟨a.toArray ++ b.toArray⟩ : Str) = ⟨(a ++ b).toArray⟩
  simp
theorem okS_app {a b : List Nat} (h : okS a) (k : okS b) : okS (a ++ b) := fun x hx => (List.mem_append.mp hx).elim (h x) (k x)

theorem okS_of {c : List Nat} {v : V} (h : RV M Λ H (.str c) v) : okS c ∧ v = .str (sOf c) := by
  cases h with
  | str h => exact ⟨h, rfl⟩
theorem int_of {i : Int} {v : V} (h : RV M Λ H (.int i) v) : v = .int i := by
  cases h with
  | int => rfl
theorem bl_of {i : Bool} {v : V} (h : RV M Λ H (.bl i) v) : v = .bl i := by
  cases h with
  | bl => rfl
theorem non_of {v : V} (h : RV M Λ H .non v) : v = .non := by
  cases h with
  | non => rfl
theorem ty_of {n : String} {v : V} (h : RV M Λ H (.ty n) v) : v = .ty n := by
  cases h with
  | ty => rfl
theorem tup_of {ds : List D} {v : V} (h : RV M Λ H (.tup ds) v) : ∃ a vs, v = .ref a ∧ H a = some (.tup vs) ∧ RVs M Λ H ds vs := by
  cases h with
  | tup h r => exact ⟨_, _, rfl, h, r⟩
theorem scr_of {ns : List Int} {v : V} (h : RV M Λ H (.scr ns) v) : ∃ a, v = .ref a ∧ SqL K H a (ns.map V.int) := by
  cases h with
  | scr e _ => exact ⟨_, rfl, .inl (.inr ⟨_, e⟩)⟩

/-! ### operators -/
variable {X : Cx}
theorem line_eq : line = sizeLine := by rw [sizeLine_eq]; rfl
theorem opr_add : OpR X (binaryOp .Add) (rP2 (opS .add)) := by
  refine OpR.imp (op_add.or (op_add_str.or ((op_catA (X := X)).or (op_cat (X := X))))) fun x y H Q h => ?_
  obtain ⟨M, Λ, S, d, e, r, R, rx, ry, h, k⟩ := h
  unfold opS at h
  split at h <;> first | contradiction | skip
  · cases int_of rx; cases int_of ry
    cases h
    exact .inl ⟨_, _, rfl, rfl, k.val_same (.int _)⟩
  · obtain ⟨k1, rfl⟩ := okS_of rx
    obtain ⟨k2, rfl⟩ := okS_of ry
    split at h
    · cases h
      refine .inr (.inl ⟨_, _, rfl, rfl, ?_, ?_⟩)
      · rw [len_sOf, len_sOf, ← line_eq]; assumption
      · rw [app_sOf]
        exact k.val_same (.str (okS_app k1 k2))
    · cases h
  · obtain ⟨a, vs, rfl, h1, r1⟩ := tup_of rx
    obtain ⟨b, ws, rfl, h2, r2⟩ := tup_of ry
    split at h
    · cases h
      refine .inr (.inr (.inl ⟨a, b, vs, ws, rfl, rfl, .of h1, .of h2, ?_, fun e => ?_, fun _ e => ?_, fun _ _ p hp => ?_⟩))
      · rw [← r1.length, ← r2.length, ← line_eq]; assumption
      · subst e
        cases r1
        exact k.val_same (.tup h2 r2)
      · subst e
        cases r2
        rw [List.append_nil] at k
        exact k.val_same (.tup h1 r1)
      · exact k.tup R (r1.append r2) hp
    · cases h
  · split at h
    · rename_i xs ys e1 e2
      obtain ⟨a, vs, rfl, h1, r1⟩ := asL_rv R rx e1
      obtain ⟨b, ws, rfl, h2, r2⟩ := asL_rv R ry e2
      split at h
      · cases h
        refine .inr (.inr (.inr ⟨a, b, vs, ws, rfl, rfl, h1, h2, ?_, fun p hp => k.new_same hp (.lst (r1.append r2))⟩))
        rw [← r1.length, ← r2.length, ← line_eq]; assumption
      · cases h
    · cases h
theorem opr_sub : OpR X (binaryOp .Sub) (rP2 (opS .sub)) := by
  refine OpR.imp op_sub fun x y H Q h => ?_
  obtain ⟨M, Λ, S, d, e, r, R, rx, ry, h, k⟩ := h
  unfold opS at h
  split at h <;> first | contradiction | skip
  cases int_of rx; cases int_of ry
  cases h
  exact ⟨_, _, rfl, rfl, k.val_same (.int _)⟩
theorem mul_side {i j : Int} (h : i.natAbs < 18446744073709551616 ∨ j.natAbs < 18446744073709551616) : (-(2 ^ 64) < i ∧ i < 2 ^ 64) ∨ (-(2 ^ 64) < j ∧ j < 2 ^ 64) := by omega
theorem fdiv_side {j : Int} (h : 0 < j ∧ j.natAbs < 1073741824) : 0 < j ∧ j < 1073741824 := by omega
theorem pow_side {i j : Int} (h : 0 ≤ j ∧ j.natAbs < 1000001 ∧ i.natAbs < 18446744073709551616) : 0 ≤ j ∧ j ≤ 1000000 ∧ i.natAbs < 2 ^ 64 := by omega
theorem opr_mul : OpR X (binaryOp .Mult) (rP2 (opS .mul)) := by
  refine OpR.imp (op_mul.or op_rep) fun x y H Q h => ?_
  obtain ⟨M, Λ, S, d, e, r, R, rx, ry, h, k⟩ := h
  unfold opS at h
  split at h <;> first | contradiction | skip
  · cases int_of rx; cases int_of ry
    split at h
    · cases h
      exact .inl ⟨_, _, rfl, rfl, mul_side (by assumption), k.val_same (.int _)⟩
    · cases h
  · cases int_of ry
    split at h
    · rename_i xs e1
      obtain ⟨a, vs, rfl, h1, r1⟩ := asL_rv R rx e1
      split at h
      · rename_i hc
        cases h
        refine .inr ⟨a, _, vs, rfl, rfl, h1, by omega, by omega, ?_, fun p hp => k.new_same hp (.lst (r1.rep _))⟩
        rw [← r1.length, ← line_eq]; exact hc.2
      · cases h
    · cases h
theorem opr_fdiv : OpR X (binaryOp .FloorDiv) (rP2 (opS .fdiv)) := by
  refine OpR.imp op_fdiv fun x y H Q h => ?_
  obtain ⟨M, Λ, S, d, e, r, R, rx, ry, h, k⟩ := h
  unfold opS at h
  split at h <;> first | contradiction | skip
  cases int_of rx; cases int_of ry
  split at h
  · cases h
    exact ⟨_, _, rfl, rfl, fdiv_side (by assumption), k.val_same (.int _)⟩
  · cases h
theorem opr_mod : OpR X (binaryOp .Mod) (rP2 (opS .mod)) := by
  refine OpR.imp op_mod fun x y H Q h => ?_
  obtain ⟨M, Λ, S, d, e, r, R, rx, ry, h, k⟩ := h
  unfold opS at h
  split at h <;> first | contradiction | skip
  cases int_of rx; cases int_of ry
  split at h
  · cases h
    exact ⟨_, _, rfl, rfl, by assumption, k.val_same (.int _)⟩
  · cases h
theorem opr_pow : OpR X (binaryOp .Pow) (rP2 (opS .pow)) := by
  refine OpR.imp op_pow fun x y H Q h => ?_
  obtain ⟨M, Λ, S, d, e, r, R, rx, ry, h, k⟩ := h
  unfold opS at h
  split at h <;> first | contradiction | skip
  cases int_of rx; cases int_of ry
  split at h
  · cases h
    exact ⟨_, _, rfl, rfl, pow_side (by assumption), k.val_same (.int _)⟩
  · cases h
def astOp : Op2 → Operator
  | .add => .Add
  | .sub => .Sub
  | .mul => .Mult
  | .fdiv => .FloorDiv
  | .mod => .Mod
  | .pow => .Pow
theorem opr : ∀ o : Op2, OpR X (binaryOp (astOp o)) (rP2 (opS o))
  | .add => opr_add
  | .sub => opr_sub
  | .mul => opr_mul
  | .fdiv => opr_fdiv
  | .mod => opr_mod
  | .pow => opr_pow
/-- x op= e, by ints and texts -/
theorem iopr_add : OpR X (inplaceOp .Add) (fun x y H Q => ∃ M Λ S d e c, RelS M Λ S H ∧ RV M Λ H d x ∧ RV M Λ H e y ∧ augOk .add d = true ∧ opS .add d e S = some (.val c) ∧ PRk M Λ (.val c) H Q) := by
  refine OpR.imp (iop_add.or iop_add_str) fun x y H Q h => ?_
  obtain ⟨M, Λ, S, d, e, r, R, rx, ry, hd, h, k⟩ := h
  unfold opS at h
  split at h <;> first | contradiction | skip
  · cases int_of rx; cases int_of ry
    cases h
    exact .inl ⟨_, _, rfl, rfl, k.val_same (.int _)⟩
  · obtain ⟨k1, rfl⟩ := okS_of rx
    obtain ⟨k2, rfl⟩ := okS_of ry
    split at h
    · cases h
      refine .inr ⟨_, _, rfl, rfl, ?_, ?_⟩
      · rw [len_sOf, len_sOf, ← line_eq]; assumption
      · rw [app_sOf]
        exact k.val_same (.str (okS_app k1 k2))
    · cases h
  all_goals (split at h <;> first | (cases h; done) | (split at h <;> cases h))
theorem iopr_sub : OpR X (inplaceOp .Sub) (fun x y H Q => ∃ M Λ S d e c, RelS M Λ S H ∧ RV M Λ H d x ∧ RV M Λ H e y ∧ opS .sub d e S = some (.val c) ∧ PRk M Λ (.val c) H Q) := by
  refine OpR.imp iop_sub fun x y H Q h => ?_
  obtain ⟨M, Λ, S, d, e, r, R, rx, ry, h, k⟩ := h
  unfold opS at h
  split at h <;> first | contradiction | skip
  cases int_of rx; cases int_of ry
  cases h
  exact ⟨_, _, rfl, rfl, k.val_same (.int _)⟩
/-- - x -/
theorem unr_neg : UnR X (unaryOp .USub) (fun x H Q => ∃ M Λ i, RV M Λ H (.int i) x ∧ Q (.int (-i)) H) := fun pins s σ H x v Q I r ⟨M, Λ, i, rx, q⟩ => by
  cases int_of rx
  exact un_neg pins s σ H _ v Q I r ⟨_, rfl, q⟩
end
end Pd

/-! Pd4: comparisons, subscripts, slices. -/
namespace Pd
open PySem PySem.Spec PyProof.Rows L2

section
variable {M : Addr → Prop} {Λ : List Addr} {H : Hp} {S : Store} {d : D} {v : V} {Q : VK} {X : Cx}
def rB (f : D → D → Store → Option Bool) : R2 := fun x y H Q => ∃ M Λ S d e b, RelS M Λ S H ∧ RV M Λ H d x ∧ RV M Λ H e y ∧ f d e S = some b ∧ Q (.bl b) H
theorem shaped_of {p : PyData} {n : Nat} (h : p.canLay0 = true) (k : p.depth ≤ n) (hn : n ≤ 64) : SeqAt.shaped p = true := by
  unfold SeqAt.shaped
  rw [h, decide_eq_true (Nat.le_trans k hn)]
  rfl
theorem eqS_some {S : Store} {x y : D} {b : Bool} (h : eqS S x y = some b) : (okd 12 (top S x) = true ∧ okd 12 (top S y) = true ∧ b = PyData.eqv (py (top S x)) (py (top S y))) ∨ eqDk S x y = some b := by
  unfold eqS at h
  split at h
  · rename_i hc
    simp only [Bool.and_eq_true] at hc
    cases h
    exact .inl ⟨hc.1, hc.2, rfl⟩
  · exact .inr h
def dkK' : DK → Option Key
  | .i n => some (.inl n)
  | .s c => some (.inr (sOf c))
  | .t _ => none
theorem sOf_inj' {a b : List Nat} (h : sOf a = sOf b) : a = b := by
  have := congrArg (fun s : Str => s.cps.toList) h
  simpa using this
theorem kk_head : ∀ {i : DK} {js : List DK} {k : Key} {l : List Key}, KK (i :: js) (k :: l) → dkK' i = some k ∧ KK js l
  | _, _, _, _, .i h => ⟨rfl, h⟩
  | _, _, _, _, .s _ h => ⟨rfl, h⟩
theorem dkK'_inj {i j : DK} {k : Key} (h : dkK' i = some k) (g : dkK' j = some k) : i = j := by
  cases i with
  | i n =>
    cases h
    cases j with
    | i m => cases g; rfl
    | s c => cases g
    | t l => cases g
  | s c =>
    cases h
    cases j with
    | i m => cases g
    | s e =>
      have := sOf_inj' (Sum.inr.inj (Option.some.inj g))
      rw [this]
    | t l => cases g
  | t l => cases h
theorem KK_len' : ∀ {ks : List DK} {js : List Key}, KK ks js → ks.length = js.length
  | _, _, .nil => rfl
  | _, _, .i h => by rw [List.length_cons, List.length_cons, KK_len' h]
  | _, _, .s _ h => by rw [List.length_cons, List.length_cons, KK_len' h]
theorem look_valV : ∀ {js : List DK} {us : List D} {ls : List (Key × V)} {j : DK} {k : Key} {w : D}, KK js (ls.map (·.1)) → RVs M Λ H us (ls.map (·.2)) → dkK' j = some k → dLook j js us = some w → ∃ v, valV ls k = some v ∧ RV M Λ H w v
  | [], _, _, _, _, _, _, _, _, h => by simp [dLook] at h
  | i :: js, us, [], _, _, _, hk, _, _, _ => by simp at hk; cases hk
  | i :: js, [], p :: ls, _, _, _, _, _, _, h => by simp [dLook] at h
  | i :: js, u :: us, p :: ls, j, k, w, hk, hr, hj, h => by
    simp only [List.map_cons] at hk hr
    cases hr with
    | cons r1 r2 =>
      unfold dLook at h
      obtain ⟨e0, hk'⟩ := kk_head hk
      split at h
      · rename_i e
        cases h
        subst e
        rw [hj] at e0
        exact ⟨p.2, valV_pos (Option.some.inj e0).symm, r1⟩
      · rename_i e
        have hne : ¬ p.1 = k := fun z => e (dkK'_inj e0 (z ▸ hj))
        rw [valV_neg hne]
        exact look_valV hk' r2 hj h
theorem same_hits {ls : List (Key × V)} {js : List DK} {vs : List D} (hk : KK js (ls.map (·.1))) (hr : RVs M Λ H vs (ls.map (·.2))) : ∀ {ks : List DK} {us : List D} {kvs : List (Key × V)}, KK ks (kvs.map (·.1)) → RVs M Λ H us (kvs.map (·.2)) → sameAll js vs ks us = true →
    ∀ p ∈ kvs, ∃ u, valV ls p.1 = some u ∧ ∃ d e, RV M Λ H d p.2 ∧ RV M Λ H e u ∧ okd 11 d = true ∧ okd 11 e = true ∧ PyData.eqv (py d) (py e) = true
  | _, _, [], _, _, _, _, hp => by cases hp
  | [], _, q :: kvs, h1, _, _, _, _ => by simp at h1; cases h1
  | i :: ks, [], q :: kvs, _, h2, _, _, _ => by simp at h2; cases h2
  | i :: ks, u :: us, q :: kvs, h1, h2, h3, p, hp => by
    simp only [List.map_cons] at h1 h2
    simp only [sameAll, Bool.and_eq_true] at h3
    cases h2 with
    | cons r1 r2 =>
      have hki := kk_head h1
      rcases List.mem_cons.mp hp with rfl | hp
      · obtain ⟨h3, _⟩ := h3
        split at h3 <;> try (cases h3; done)
        rename_i w ew
        simp only [Bool.and_eq_true] at h3
        obtain ⟨v, ev, rv⟩ := look_valV hk hr hki.1 ew
        exact ⟨v, ev, u, w, r1, rv, h3.1.1, h3.1.2, h3.2⟩
      · exact same_hits hk hr hki.2 r2 h3.2 p hp
theorem hits_at {A : Around} {s : Shared} {C : V → V → Prop} {ls : List (Key × V)} {vb : List (Key × Value)} (rb : KV ls vb) {ks : List (Key × V)} {va : List (Key × Value)} (ra : KV ks va) (hp : ∀ p ∈ ks, ∃ u, valV ls p.1 = some u ∧ C p.2 u)
    (ih : ∀ x y v u, C x y → RelV x v → RelV y u → SeqAt.EqAt A s v u true) : PySem.W.KeqHits A s vb va true := by
  unfold KV at ra
  induction ra with
  | nil => exact .nil
  | @cons p q ps qs h t k =>
    obtain ⟨h1, h2⟩ := h
    obtain ⟨u, e, f⟩ := hp p List.mem_cons_self
    have rr : RelO (some u) (valueAt vb p.1) := e ▸ rb.val p.1
    obtain ⟨y, hy, ry⟩ := rr.some_of
    obtain ⟨key, w⟩ := q
    rw [show p.1 = key from h1] at hy
    exact PySem.W.KeqHits.hit (e := true) (b := true) hy (ih _ _ _ _ f h2 ry) (k fun p' hm => hp p' (List.mem_cons_of_mem _ hm))
theorem eqDk_true {S : Store} {x y : D} {b : Bool} (h : eqDk S x y = some b) : b = true := by
  unfold eqDk at h
  split at h <;> try (cases h; done)
  split at h <;> try (cases h; done)
  cases h
  rfl
theorem eqDk_run {op : CmpOp} {b : Bool} (hop : (op = .Eq ∧ b = true) ∨ (op = .NotEq ∧ b = false)) (hu : X.A.units + 64 < cLine) : OpR X (compareOp op) (fun x y H Q => ∃ M Λ S d e c, RelS M Λ S H ∧ RV M Λ H d x ∧ RV M Λ H e y ∧ eqDk S d e = some c ∧ Q (.bl b) H) := by
  intro pins s σ H x y v u Q I rx ry ⟨M, Λ, S, d, e, c, R, r1, r2, h, q⟩
  unfold eqDk at h
  split at h <;> try (cases h; done)
  rename_i ks us js vs e1 e2
  split at h <;> try (cases h; done)
  rename_i hc
  simp only [Bool.and_eq_true, beq_iff_eq] at hc
  obtain ⟨hl, hs⟩ := hc
  obtain ⟨a, rfl, D1⟩ := asDk_rv R r1 e1
  obtain ⟨a', rfl, D2⟩ := asDk_rv R r2 e2
  rcases D1 with ⟨_, kvs, d1, k1, w1⟩ | ⟨z, _⟩
  · rcases D2 with ⟨_, ls, d2, k2, w2⟩ | ⟨z, _⟩
    · obtain rfl : v = Value.ref a := rx
      obtain rfl : u = Value.ref a' := ry
      obtain ⟨_, ya, va, ra, da⟩ := dk_rd I.hok d1
      obtain ⟨_, yb, vb, rb, db⟩ := dk_rd I.hok d2
      have hlen : va.length = vb.length := by
        have z1 := KK_len' k1
        have z2 := KK_len' k2
        rw [List.length_map] at z1 z2
        rw [← ra.length, ← rb.length, ← z1, ← z2]
        exact hl
      have hits : PySem.W.KeqHits X.A.in1 s vb va true := hits_at (C := fun x y => ∃ d e, RV M Λ H d x ∧ RV M Λ H e y ∧ okd 11 d = true ∧ okd 11 e = true ∧ PyData.eqv (py d) (py e) = true) rb ra (same_hits k2 w2 k1 w1 hs) fun x y v u ⟨d, e, q1, q2, o1, o2, q3⟩ rx ry => by
        obtain ⟨as, z1⟩ := Dp.reads I (py d) x v (dp_of 11 q1 o1) rx
        obtain ⟨bs, z2⟩ := Dp.reads I (py e) y u (dp_of 11 q2 o2) ry
        have dd := (okd_of 11 q1 o1).2
        have hat := SeqAt.eqAt_reads (py d) (py e) X.A.in1 s v u as bs z1 z2 (okd_of 11 q1 o1).1 (okd_of 11 q2 o2).1 (by
          have := Nat.min_le_left (py d).depth (py e).depth
          show X.A.units + 1 + min (py d).depth (py e).depth < cLine
          omega)
        rw [q3] at hat
        exact hat
      rcases hop with ⟨rfl, rfl⟩ | ⟨rfl, rfl⟩
      · exact PySem.W.keq_eq (knd := mixKind X.prog X.w) (r := true) ya yb da db (by omega) (fun _ => hits) (fin_bl I q (by simp [hlen]))
      · exact PySem.W.keq_ne (knd := mixKind X.prog X.w) (r := true) ya yb da db (by omega) (fun _ => hits) (fin_bl I q (by simp [hlen]))
    · cases z
  · cases z
theorem cmpr_eq (hu : X.A.units + 64 < cLine) : OpR X (compareOp .Eq) (rB (cmpS .eq)) := by
  refine OpR.imp (OpR.or (op_eqD hu) (eqDk_run (b := true) (.inl ⟨rfl, rfl⟩) hu)) fun x y H Q h => ?_
  obtain ⟨M, Λ, S, d, e, b, R, rx, ry, h, q⟩ := h
  rcases eqS_some h with ⟨k1, k2, rfl⟩ | h
  · obtain ⟨a1, a2, a3⟩ := top_dp (K := X.K) R rx k1
    obtain ⟨b1, b2, b3⟩ := top_dp (K := X.K) R ry k2
    exact .inl ⟨_, _, a1, b1, shaped_of a2 a3 (by decide), shaped_of b2 b3 (by decide), q⟩
  · cases eqDk_true h
    exact .inr ⟨M, Λ, S, d, e, true, R, rx, ry, h, q⟩
theorem cmpr_ne (hu : X.A.units + 64 < cLine) : OpR X (compareOp .NotEq) (rB (cmpS .ne)) := by
  refine OpR.imp (OpR.or (op_neD hu) (eqDk_run (b := false) (.inr ⟨rfl, rfl⟩) hu)) fun x y H Q h => ?_
  obtain ⟨M, Λ, S, d, e, b, R, rx, ry, h, q⟩ := h
  simp only [cmpS, Option.map_eq_some_iff] at h
  obtain ⟨c, h, rfl⟩ := h
  rcases eqS_some h with ⟨k1, k2, rfl⟩ | h
  · obtain ⟨a1, a2, a3⟩ := top_dp (K := X.K) R rx k1
    obtain ⟨b1, b2, b3⟩ := top_dp (K := X.K) R ry k2
    exact .inl ⟨_, _, a1, b1, shaped_of a2 a3 (by decide), shaped_of b2 b3 (by decide), q⟩
  · cases eqDk_true h
    exact .inr ⟨M, Λ, S, d, e, true, R, rx, ry, h, q⟩
theorem ltS_some {S : Store} {x y : D} {b : Bool} (h : ltS S x y = some b) : okd 12 (top S x) = true ∧ okd 12 (top S y) = true ∧ PySem.W.alike (py (top S x)) (py (top S y)) = true ∧ py (top S x) ≠ .none ∧ b = PySem.W.dataLt (py (top S x)) (py (top S y)) := by
  unfold ltS at h
  split at h
  · rename_i hc
    simp only [Bool.and_eq_true] at hc
    cases h
    exact ⟨hc.1.1.1, hc.1.1.2, hc.1.2, fun z => by rw [z] at hc; simp [notNone] at hc, rfl⟩
  · cases h
theorem room12 {a b : Nat} {A : Around} (hu : A.units + 64 < cLine) (h : a ≤ 12) : A.units + min a b < cLine := by
  have := Nat.min_le_left a b
  omega
/-- the four orders, by the reads -/
theorem cmpr_ord {op : CmpOp} {f : D → D → Store → Option Bool} (go : ∀ (s : Shared) (a b : Value) (da db : PyData) (as bs : List Addr) (c : Bool) (Q : Value → Shared → Prop) (S : Store) (x y : D), Reads s.heap a da as → Reads s.heap b db bs →
      py (top S x) = da → py (top S y) = db → f x y S = some c → da.depth ≤ 12 → db.depth ≤ 12 → Q (.bool c) s → wpAny (model X.prog X.w) X.A (compareOp op a b) Q X.xe s)
    (ok : ∀ S x y c, f x y S = some c → okd 12 (top S x) = true ∧ okd 12 (top S y) = true) : OpR X (compareOp op) (rB f) := by
  intro pins s σ H x y v u Q I r1 r2 h
  obtain ⟨M, Λ, S, d, e, b, R, rx, ry, h, q⟩ := h
  obtain ⟨k1, k2⟩ := ok _ _ _ _ h
  obtain ⟨a1, a2, a3⟩ := top_dp (K := X.K) R rx k1
  obtain ⟨b1, b2, b3⟩ := top_dp (K := X.K) R ry k2
  obtain ⟨as, w1⟩ := Dp.reads I _ x v a1 r1
  obtain ⟨bs, w2⟩ := Dp.reads I _ y u b1 r2
  exact go s v u _ _ as bs b _ S d e w1 w2 rfl rfl h a3 b3 ⟨.bl b, H, I, rfl, q⟩
theorem cmpr_lt (hu : X.A.units + 64 < cLine) : OpR X (compareOp .Lt) (rB (cmpS .lt)) :=
  cmpr_ord (fun s a b da db as bs c Q S x y w1 w2 e1 e2 h h1 h2 q => by
    obtain ⟨_, _, k3, k4, rfl⟩ := ltS_some (show ltS S x y = some c from h)
    subst e1; subst e2
    exact PySem.W.lt_data w1 w2 k3 k4 (room12 hu h1) q) fun S x y c h => let z := ltS_some (show ltS S x y = some c from h); ⟨z.1, z.2.1⟩
theorem cmpr_gt (hu : X.A.units + 64 < cLine) : OpR X (compareOp .Gt) (rB (cmpS .gt)) :=
  cmpr_ord (fun s a b da db as bs c Q S x y w1 w2 e1 e2 h h1 h2 q => by
    obtain ⟨_, _, k3, k4, rfl⟩ := ltS_some (show ltS S y x = some c from h)
    subst e1; subst e2
    refine PySem.W.gt_data w1 w2 (by rw [PySem.W.alike_comm]; exact k3) (PySem.W.ne_none_both k3 k4) (room12 hu h1) q) fun S x y c h => let z := ltS_some (show ltS S y x = some c from h); ⟨z.2.1, z.1⟩
theorem cmpr_le (hu : X.A.units + 64 < cLine) : OpR X (compareOp .LtE) (rB (cmpS .le)) :=
  cmpr_ord (fun s a b da db as bs c Q S x y w1 w2 e1 e2 h h1 h2 q => by
    simp only [cmpS, Option.map_eq_some_iff] at h
    obtain ⟨c, h, rfl⟩ := h
    obtain ⟨_, _, k3, k4, rfl⟩ := ltS_some h
    subst e1; subst e2
    refine PySem.W.le_data w1 w2 (by rw [PySem.W.alike_comm]; exact k3) (PySem.W.ne_none_both k3 k4) (room12 hu h1) q) fun S x y c h => by
      simp only [cmpS, Option.map_eq_some_iff] at h
      obtain ⟨c, h, rfl⟩ := h
      exact ⟨(ltS_some h).2.1, (ltS_some h).1⟩
theorem cmpr_ge (hu : X.A.units + 64 < cLine) : OpR X (compareOp .GtE) (rB (cmpS .ge)) :=
  cmpr_ord (fun s a b da db as bs c Q S x y w1 w2 e1 e2 h h1 h2 q => by
    simp only [cmpS, Option.map_eq_some_iff] at h
    obtain ⟨c, h, rfl⟩ := h
    obtain ⟨_, _, k3, k4, rfl⟩ := ltS_some h
    subst e1; subst e2
    refine PySem.W.ge_data w1 w2 k3 k4 (room12 hu h1) q) fun S x y c h => by
      simp only [cmpS, Option.map_eq_some_iff] at h
      obtain ⟨c, h, rfl⟩ := h
      exact ⟨(ltS_some h).1, (ltS_some h).2.1⟩
theorem isNon_rv (h : RV M Λ H d v) : isNon d = decide (v = .non) := by
  cases h with
  | non => rfl
  | _ => simp [isNon]
theorem cmpr_is : OpR X (compareOp .Is) (rB (cmpS .isN)) := by
  refine OpR.imp op_isN fun x y H Q h => ?_
  obtain ⟨M, Λ, S, d, e, b, R, rx, ry, h, q⟩ := h
  unfold cmpS at h
  split at h <;> first | contradiction | skip
  cases h
  exact ⟨non_of ry, by rw [← isNon_rv rx]; exact q⟩
theorem cmpr_isn : OpR X (compareOp .IsNot) (rB (cmpS .notN)) := by
  refine OpR.imp op_notN fun x y H Q h => ?_
  obtain ⟨M, Λ, S, d, e, b, R, rx, ry, h, q⟩ := h
  unfold cmpS at h
  split at h <;> first | contradiction | skip
  cases h
  exact ⟨non_of ry, by rw [← isNon_rv rx]; exact q⟩

/-! ### dicts -/
theorem sOf_inj {a b : List Nat} (h : sOf a = sOf b) : a = b := by
  have := congrArg (fun z : Str => z.cps.toList) h
  simpa using this
def dkK : DK → Option Key
  | .i n => some (.inl n)
  | .s c => some (.inr (sOf c))
  | .t _ => none
theorem keyS_inj : ∀ {a b : Int ⊕ List Nat}, keyS a = keyS b → a = b
  | .inl _, .inl _, h => by simp only [keyS, Sum.inl.injEq] at h; rw [h]
  | .inl _, .inr _, h => by simp [keyS] at h
  | .inr _, .inl _, h => by simp [keyS] at h
  | .inr _, .inr _, h => by simp only [keyS, Sum.inr.injEq] at h; rw [sOf_inj h]
theorem map_keyS_inj : ∀ {a b : List (Int ⊕ List Nat)}, a.map keyS = b.map keyS → a = b
  | [], [], _ => rfl
  | [], _ :: _, h => by simp at h
  | _ :: _, [], h => by simp at h
  | x :: xs, y :: ys, h => by
    simp only [List.map_cons, List.cons.injEq] at h
    rw [keyS_inj h.1, map_keyS_inj h.2]
theorem KK_look {k : DK} {kk : Key} (hk : dkK k = some kk) : ∀ {ks : List DK} {kvs : List (Key × V)} {ds : List D}, KK ks (kvs.map (·.1)) → RVs M Λ H ds (kvs.map (·.2)) →
    (dLook k ks ds = none ∧ valV kvs kk = none) ∨ ∃ d v, dLook k ks ds = some d ∧ valV kvs kk = some v ∧ RV M Λ H d v
  | [], [], ds, _, r => by
    cases r
    exact .inl ⟨rfl, rfl⟩
  | [], _ :: _, ds, h, r => by simp only [List.map_cons] at h; cases h
  | j :: js, [], ds, h, r => by cases h
  | j :: js, (q, u) :: kvs, ds, h, r => by
    simp only [List.map_cons] at h r
    cases r with
    | cons ru rr =>
      have hq : dkK j = some q ∧ KK js (kvs.map (·.1)) := by
        cases h with
        | i h => exact ⟨rfl, h⟩
        | s _ h => exact ⟨rfl, h⟩
      by_cases e : j = k
      · subst e
        have e2 : kk = q := Option.some.inj (hk.symm.trans hq.1)
        subst e2
        exact .inr ⟨_, u, by simp [dLook], by simp [valV], ru⟩
      · have hne : ¬ q = kk := fun z => e (by
          subst z
          have h3 := hq.1.trans hk.symm
          cases j <;> cases k <;> simp only [dkK, Option.some.injEq, Sum.inl.injEq, Sum.inr.injEq, reduceCtorEq] at h3
          · rw [h3]
          · rw [sOf_inj h3]
          · simp [dkK] at hk)
        have ih := KK_look hk hq.2 rr
        simpa [dLook, e, valV, List.find?_cons, hne] using ih
theorem KT_look {l : List (Int ⊕ List Nat)} : ∀ {ks : List DK} {kvs : List (List Key × V)} {ds : List D}, KT ks (kvs.map (·.1)) → RVs M Λ H ds (kvs.map (·.2)) →
    (dLook (.t l) ks ds = none ∧ valV kvs (l.map keyS) = none) ∨ ∃ d v, dLook (.t l) ks ds = some d ∧ valV kvs (l.map keyS) = some v ∧ RV M Λ H d v
  | [], [], ds, _, r => by
    cases r
    exact .inl ⟨rfl, rfl⟩
  | [], _ :: _, ds, h, r => by simp only [List.map_cons] at h; cases h
  | j :: js, [], ds, h, r => by cases h
  | j :: js, (q, u) :: kvs, ds, h, r => by
    simp only [List.map_cons] at h r
    cases r with
    | cons ru rr =>
      cases h with
      | @t m _ _ hm h =>
        by_cases e : m = l
        · subst e
          exact .inr ⟨_, u, by simp [dLook], by simp [valV], ru⟩
        · have hne : ¬ m.map keyS = l.map keyS := fun z => e (map_keyS_inj z)
          have ih := KT_look (l := l) h rr
          simpa [dLook, e, valV, List.find?_cons, hne] using ih
theorem keyItems_rv : ∀ {xs : List D} {vs : List V} {l : List (Int ⊕ List Nat)}, RVs M Λ H xs vs → keyItems xs = some l → vs = (l.map keyS).map kV ∧ ∀ x ∈ l, okK x
  | [], vs, l, r, h => by
    cases r
    cases h
    exact ⟨rfl, fun _ h => by cases h⟩
  | d :: ds, vs, l, r, h => by
    cases r with
    | cons r rs =>
      unfold keyItems at h
      split at h <;> first | contradiction | skip
      · rename_i n r' e
        cases e
        simp only [Option.map_eq_some_iff] at h
        obtain ⟨l', h, rfl⟩ := h
        obtain ⟨e1, e2⟩ := keyItems_rv rs h
        cases int_of r
        refine ⟨by rw [e1]; rfl, fun x hx => ?_⟩
        rcases List.mem_cons.mp hx with rfl | hx
        · trivial
        · exact e2 x hx
      · rename_i n r' e
        cases e
        simp only [Option.map_eq_some_iff] at h
        obtain ⟨l', h, rfl⟩ := h
        obtain ⟨e1, e2⟩ := keyItems_rv rs h
        obtain ⟨k, rfl⟩ := okS_of r
        refine ⟨by rw [e1]; rfl, fun x hx => ?_⟩
        rcases List.mem_cons.mp hx with rfl | hx
        · exact k
        · exact e2 x hx
/-- a look-up -/
theorem dget_rv {a : Addr} {t : Bool} {ks : List DK} {ds : List D} {k : DK} {e : D} {y : V} (D0 : DkAt M Λ H a t ks ds) (ry : RV M Λ H e y) (hk : asKey e = some k) (hf : k.fits t = true) :
    (dLook k ks ds = none ∧ DGet H a y none) ∨ ∃ d v, dLook k ks ds = some d ∧ DGet H a y (some v) ∧ RV M Λ H d v := by
  rcases D0 with ⟨rfl, kvs, e1, hK, r⟩ | ⟨rfl, kvs, e1, hK, r⟩
  · have hh : ∃ kk, dkK k = some kk ∧ y = kV kk := by
      cases e <;> simp only [asKey, Option.some.injEq, reduceCtorEq, Option.map_eq_some_iff] at hk
      · subst hk; exact ⟨_, rfl, int_of ry⟩
      · subst hk; exact ⟨_, rfl, (okS_of ry).2⟩
      · obtain ⟨l, _, rfl⟩ := hk
        simp [DK.fits, DK.flat] at hf
    obtain ⟨kk, h1, rfl⟩ := hh
    rcases KK_look h1 hK r with ⟨q1, q2⟩ | ⟨d, v, q1, q2, q3⟩
    · exact .inl ⟨q1, .inl ⟨kvs, kk, e1, rfl, q2.symm⟩⟩
    · exact .inr ⟨d, v, q1, .inl ⟨kvs, kk, e1, rfl, q2.symm⟩, q3⟩
  · cases e <;> simp only [asKey, Option.some.injEq, reduceCtorEq, Option.map_eq_some_iff] at hk
    · subst hk; simp [DK.fits, DK.flat] at hf
    · subst hk; simp [DK.fits, DK.flat] at hf
    · obtain ⟨l, h, rfl⟩ := hk
      obtain ⟨b, vs, rfl, eb, rv⟩ := tup_of ry
      obtain ⟨rfl, _⟩ := keyItems_rv rv h
      rcases KT_look (l := l) hK r with ⟨q1, q2⟩ | ⟨d, v, q1, q2, q3⟩
      · exact .inl ⟨q1, .inr ⟨kvs, _, b, e1, rfl, eb, q2.symm⟩⟩
      · exact .inr ⟨d, v, q1, .inr ⟨kvs, _, b, e1, rfl, eb, q2.symm⟩, q3⟩

/-! ### in -/
theorem op_din (hu : X.A.units + 1 < cLine) : OpR X (compareOp .In) (fun y x H Q => ∃ a o, x = .ref a ∧ DGet H a y o ∧ Q (.bl o.isSome) H) := fun pins s σ H y x u v Q I r1 r2 ⟨a, o, ex, g, q⟩ => by
  subst ex
  cases (show v = Value.ref a from r2)
  exact d_in hu I g r1 fun s3 I3 => ⟨.bl o.isSome, H, I3, rfl, q⟩
theorem op_dnin (hu : X.A.units + 1 < cLine) : OpR X (compareOp .NotIn) (fun y x H Q => ∃ a o, x = .ref a ∧ DGet H a y o ∧ Q (.bl (!o.isSome)) H) := fun pins s σ H y x u v Q I r1 r2 ⟨a, o, ex, g, q⟩ => by
  subst ex
  cases (show v = Value.ref a from r2)
  exact d_notIn hu I g r1 fun s3 I3 => ⟨.bl (!o.isSome), H, I3, rfl, q⟩
theorem pys_map : ∀ xs : List D, pys xs = xs.map py
  | [] => rfl
  | x :: xs => by rw [pys, pys_map xs]; rfl
theorem any_pys (xs : List D) (p : PyData) : ((pys xs).any fun z => PyData.eqv z p) = xs.any fun z => PyData.eqv (py z) p := by
  rw [pys_map, List.any_map]
  rfl
/-- in of a list or a tuple, by the reads -/
theorem op_inSq (hu : X.A.units + 64 < cLine) : OpR X (compareOp .In) (fun x y H Q => ∃ M Λ S d e ys, RelS M Λ S H ∧ RV M Λ H d x ∧ RV M Λ H e y ∧ asSq S e = some ys ∧ okd 12 (top S d) = true ∧ ys.all (okd 12) = true ∧
    Q (.bl (ys.any fun z => PyData.eqv (py z) (py (top S d)))) H) := by
  intro pins s σ H x y v u Q I r1 r2 h
  obtain ⟨M, Λ, S, d, e, ys, R, rx, ry, hs, k1, k2, q⟩ := h
  obtain ⟨a1, a2, a3⟩ := top_dp (K := X.K) R rx k1
  obtain ⟨as, w1⟩ := Dp.reads I _ x v a1 r1
  obtain ⟨a, vs, rfl, hv, rv⟩ := asSq_rv (K := X.K) R ry hs
  rw [List.all_eq_true] at k2
  obtain ⟨c1, c2⟩ := okds (okd_of 12) rv k2
  have hd := dps_of (K := X.K) (dp_of 12) rv k2
  have room : X.A.units + 1 + min (PyData.depthAll (pys ys)) (py (top S d)).depth < cLine := by
    have := Nat.min_le_left (PyData.depthAll (pys ys)) (py (top S d)).depth
    omega
  rw [← any_pys] at q
  rcases hv with hv | hv
  · obtain ⟨bs, w2⟩ := Dp.reads I _ _ u (.lst (.of hv) hd) r2
    exact SeqAt.in_list_reads w2 w1 c1 a2 room ⟨.bl _, H, I, rfl, q⟩
  · obtain ⟨bs, w2⟩ := Dp.reads I _ _ u (.tup hv hd) r2
    exact SeqAt.in_tuple_reads w2 w1 c1 a2 room ⟨.bl _, H, I, rfl, q⟩
theorem op_ninSq (hu : X.A.units + 64 < cLine) : OpR X (compareOp .NotIn) (fun x y H Q => ∃ M Λ S d e ys, RelS M Λ S H ∧ RV M Λ H d x ∧ RV M Λ H e y ∧ asSq S e = some ys ∧ okd 12 (top S d) = true ∧ ys.all (okd 12) = true ∧
    Q (.bl (!ys.any fun z => PyData.eqv (py z) (py (top S d)))) H) := by
  intro pins s σ H x y v u Q I r1 r2 h
  obtain ⟨M, Λ, S, d, e, ys, R, rx, ry, hs, k1, k2, q⟩ := h
  obtain ⟨a1, a2, a3⟩ := top_dp (K := X.K) R rx k1
  obtain ⟨as, w1⟩ := Dp.reads I _ x v a1 r1
  obtain ⟨a, vs, rfl, hv, rv⟩ := asSq_rv (K := X.K) R ry hs
  rw [List.all_eq_true] at k2
  obtain ⟨c1, c2⟩ := okds (okd_of 12) rv k2
  have hd := dps_of (K := X.K) (dp_of 12) rv k2
  have room : X.A.units + 1 + min (PyData.depthAll (pys ys)) (py (top S d)).depth < cLine := by
    have := Nat.min_le_left (PyData.depthAll (pys ys)) (py (top S d)).depth
    omega
  rw [← any_pys] at q
  rcases hv with hv | hv
  · obtain ⟨bs, w2⟩ := Dp.reads I _ _ u (.lst (.of hv) hd) r2
    exact SeqAt.notIn_list_reads w2 w1 c1 a2 room ⟨.bl _, H, I, rfl, q⟩
  · obtain ⟨bs, w2⟩ := Dp.reads I _ _ u (.tup hv hd) r2
    exact SeqAt.notIn_tuple_reads w2 w1 c1 a2 room ⟨.bl _, H, I, rfl, q⟩
theorem sign_mem (c : Nat) (z : List Nat) : decide (c ∈ (sOf z).cps.toList) = decide (c ∈ z) := by simp
theorem memS_cases {S : Store} {x y : D} {b : Bool} (h : memS S x y = some b) :
    (∃ c z, x = .str [c] ∧ y = .str z ∧ b = decide (c ∈ z)) ∨ (∃ t ks vs k, asDk S y = some (t, ks, vs) ∧ asKey x = some k ∧ k.fits t = true ∧ b = (dLook k ks vs).isSome) ∨
      ∃ ys, asSq S y = some ys ∧ okd 12 (top S x) = true ∧ ys.all (okd 12) = true ∧ b = ys.any fun z => PyData.eqv (py z) (py (top S x)) := by
  unfold memS at h
  split at h
  · cases h
    exact .inl ⟨_, _, rfl, rfl, rfl⟩
  · split at h
    · split at h
      · split at h
        · cases h
          exact .inr (.inl ⟨_, _, _, _, by assumption, by assumption, by assumption, rfl⟩)
        · cases h
      · cases h
    · split at h
      · split at h
        · rename_i hc
          simp only [Bool.and_eq_true] at hc
          cases h
          exact .inr (.inr ⟨_, by assumption, hc.1, hc.2, rfl⟩)
        · cases h
      · cases h
theorem cmpr_in (hu : X.A.units + 64 < cLine) : OpR X (compareOp .In) (rB (cmpS .mem)) := by
  refine OpR.imp (op_in_sign.or ((op_din (by omega)).or (op_inSq hu))) fun x y H Q h => ?_
  obtain ⟨M, Λ, S, d, e, b, R, rx, ry, h, q⟩ := h
  rcases memS_cases h with ⟨c, z, rfl, rfl, rfl⟩ | ⟨t, ks, vs, k, h1, h2, h3, rfl⟩ | ⟨ys, h1, h2, h3, rfl⟩
  · obtain ⟨_, rfl⟩ := okS_of rx
    obtain ⟨_, rfl⟩ := okS_of ry
    exact .inl ⟨c, _, rfl, rfl, by rw [sign_mem]; exact q⟩
  · obtain ⟨a, rfl, D0⟩ := asDk_rv R ry h1
    rcases dget_rv D0 rx h2 h3 with ⟨q1, q2⟩ | ⟨d', v', q1, q2, _⟩
    · rw [q1] at q
      exact .inr (.inl ⟨a, _, rfl, q2, q⟩)
    · rw [q1] at q
      exact .inr (.inl ⟨a, _, rfl, q2, q⟩)
  · exact .inr (.inr ⟨M, Λ, S, d, e, ys, R, rx, ry, h1, h2, h3, q⟩)
theorem cmpr_nin (hu : X.A.units + 64 < cLine) : OpR X (compareOp .NotIn) (rB (cmpS .nmem)) := by
  refine OpR.imp (op_notIn_sign.or ((op_dnin (by omega)).or (op_ninSq hu))) fun x y H Q h => ?_
  obtain ⟨M, Λ, S, d, e, b, R, rx, ry, h, q⟩ := h
  simp only [cmpS, Option.map_eq_some_iff] at h
  obtain ⟨b', h, rfl⟩ := h
  rcases memS_cases h with ⟨c, z, rfl, rfl, rfl⟩ | ⟨t, ks, vs, k, h1, h2, h3, rfl⟩ | ⟨ys, h1, h2, h3, rfl⟩
  · obtain ⟨_, rfl⟩ := okS_of rx
    obtain ⟨_, rfl⟩ := okS_of ry
    exact .inl ⟨c, _, rfl, rfl, by rw [sign_mem]; exact q⟩
  · obtain ⟨a, rfl, D0⟩ := asDk_rv R ry h1
    rcases dget_rv D0 rx h2 h3 with ⟨q1, q2⟩ | ⟨d', v', q1, q2, _⟩
    · rw [q1] at q
      exact .inr (.inl ⟨a, _, rfl, q2, q⟩)
    · rw [q1] at q
      exact .inr (.inl ⟨a, _, rfl, q2, q⟩)
  · exact .inr (.inr ⟨M, Λ, S, d, e, ys, R, rx, ry, h1, h2, h3, q⟩)
def astCmp : Cmp → CmpOp
  | .eq => .Eq
  | .ne => .NotEq
  | .lt => .Lt
  | .le => .LtE
  | .gt => .Gt
  | .ge => .GtE
  | .isN => .Is
  | .notN => .IsNot
  | .mem => .In
  | .nmem => .NotIn
theorem cmpr (hu : X.A.units + 64 < cLine) : ∀ o : Cmp, OpR X (compareOp (astCmp o)) (rB (cmpS o))
  | .eq => cmpr_eq hu
  | .ne => cmpr_ne hu
  | .lt => cmpr_lt hu
  | .le => cmpr_le hu
  | .gt => cmpr_gt hu
  | .ge => cmpr_ge hu
  | .isN => cmpr_is
  | .notN => cmpr_isn
  | .mem => cmpr_in hu
  | .nmem => cmpr_nin hu
end
end Pd

/-! Pd5: subscripts, slices, built-in functions, methods. -/
namespace Pd
open PySem PySem.Spec PyProof.Rows L2

section
variable {M : Addr → Prop} {Λ : List Addr} {H : Hp} {S : Store} {d : D} {v : V} {Q : VK} {X : Cx}
theorem IxR.imp {X : Cx} {r r' : R2} (h : IxR X r) (i : ∀ x y H Q, r' x y H Q → r x y H Q) : IxR X r' :=
  fun value slice pins s σ H x y v u Q I r1 r2 q e => h value slice pins s σ H x y v u Q I r1 r2 (i x y H Q q) e
theorem SlR.imp {X : Cx} {r r' : V → Option Int → Option Int → Hp → VK → Prop} (h : L2.SlR X r) (i : ∀ x lo hi H Q, r' x lo hi H Q → r x lo hi H Q) : L2.SlR X r' :=
  fun pins s σ H x v vl vu lo hi sl Q I r1 hs p1 p2 q => h pins s σ H x v vl vu lo hi sl Q I r1 hs p1 p2 (i x lo hi H Q q)
theorem MtR.imp {X : Cx} {id : String} {r r' : V → List V → Hp → VK → Prop} (h : MtR X id r) (i : ∀ x xs H Q, r' x xs H Q → r x xs H Q) : MtR X id r' :=
  fun pins s σ H x xs v us Q I r1 r2 q => h pins s σ H x xs v us Q I r1 r2 (i x xs H Q q)
theorem ix_dict (hu : X.A.units + 1 < cLine) : IxR X (fun x y H Q => ∃ a v, x = .ref a ∧ DGet H a y (some v) ∧ Q v H) := fun value slice pins s σ H x y v u Q I r1 r2 ⟨a, w, ex, g, q⟩ hs => by
  subst ex
  obtain rfl : v = Value.ref a := r1
  exact tail_any (dict_typeIs I g) PySem.F.slot_dict_getitem.lookup (d_getItem hu I g r2 fun w' s3 I3 rw' => ⟨w, H, I3, rw', q⟩) hs
theorem RVs.at {xs : List D} {vs : List V} (r : RVs M Λ H xs vs) {i : Int} {c : D} (h : atI xs i = some c) : ∃ v, atI vs i = some v ∧ RV M Λ H c v := by
  unfold atI at h ⊢
  rw [r.length] at h
  cases e : ixN vs.length i with
  | none => rw [e] at h; cases h
  | some j =>
    rw [e] at h
    obtain ⟨v, h1, h2⟩ := r.get (show xs[j]? = some c from h)
    exact ⟨v, h1, h2⟩
theorem atI_mem {α : Type} {xs : List α} {i : Int} {c : α} (h : atI xs i = some c) : c ∈ xs := by
  unfold atI at h
  cases e : ixN xs.length i with
  | none => rw [e] at h; cases h
  | some j => rw [e] at h; exact List.mem_of_getElem? (show xs[j]? = some c from h)
def rItem : R2 := fun x y H Q => ∃ M Λ S d e c, RelS M Λ S H ∧ RV M Λ H d x ∧ RV M Λ H e y ∧ itemS d e S = some c ∧ ∀ v, RV M Λ H c v → Q v H
theorem itemR (hu : X.A.units + 64 < cLine) : IxR X rItem := by
  refine IxR.imp ((ix_str (X := X)).or ((ix_tup (X := X)).or ((ix_list (X := X)).or (ix_dict (X := X) (by omega))))) fun x y H Q h => ?_
  obtain ⟨M, Λ, S, d, e, c, R, rx, ry, h, q⟩ := h
  unfold itemS at h
  split at h
  · obtain ⟨k, rfl⟩ := okS_of rx
    cases int_of ry
    split at h
    · rename_i hz
      simp only [Option.map_eq_some_iff] at h
      obtain ⟨c, h, rfl⟩ := h
      refine .inl ⟨_, _, c, rfl, rfl, ?_, by simpa using h, q _ (.str (c := [c]) fun x hx => ?_)⟩
      · rw [len_sOf, ← line_eq]; exact hz
      · rw [List.mem_singleton.mp hx]
        exact k c (atI_mem h)
    · cases h
  · obtain ⟨a, vs, rfl, e1, r⟩ := tup_of rx
    cases int_of ry
    obtain ⟨v, h1, h2⟩ := r.at h
    exact .inr (.inl ⟨a, vs, _, v, rfl, rfl, .of e1, h1, q v h2⟩)
  · split at h
    · have e1 := ‹asL S d = some _›
      obtain ⟨a, vs, rfl, e2, r⟩ := asL_rv R rx e1
      cases int_of ry
      obtain ⟨v, h1, h2⟩ := r.at h
      exact .inr (.inr (.inl ⟨a, vs, _, v, rfl, rfl, .of e2, h1, q v h2⟩))
    · split at h
      · rename_i t ks vs k h1 h2
        split at h
        · rename_i hf
          obtain ⟨a, rfl, D0⟩ := asDk_rv R rx h1
          rcases dget_rv D0 ry h2 hf with ⟨q1, q2⟩ | ⟨d', v', q1, q2, q3⟩
          · rw [q1] at h; cases h
          · rw [q1] at h
            cases h
            exact .inr (.inr (.inr ⟨a, v', rfl, q2, q v' q3⟩))
        · cases h
      · cases h

/-! ### slices -/
theorem RVs.cut {xs : List D} {vs : List V} (r : RVs M Λ H xs vs) (lo hi : Option Int) : RVs M Λ H (cutL xs lo hi) (cutV vs lo hi) := by
  unfold cutL cutV
  rw [r.length]
  exact (r.drop _).take _
theorem cutL_whole {α : Type} (xs : List α) (lo hi : Option Int) (h : HT.sIx xs.length 0 lo = 0 ∧ HT.sIx xs.length xs.length hi = xs.length) : cutL xs lo hi = xs := by
  unfold cutL
  rw [h.1, h.2]
  simp
def rSlc : V → Option Int → Option Int → Hp → VK → Prop := fun x lo hi H Q => ∃ M Λ S d r, RelS M Λ S H ∧ RV M Λ H d x ∧ slcS d lo hi S = some r ∧ PRk M Λ r H Q
theorem ints_rv : ∀ ns : List Int, RVs M Λ H (ns.map D.int) (ns.map V.int)
  | [] => .nil
  | n :: ns => .cons (.int n) (ints_rv ns)
theorem cutV_ints (ns : List Int) (lo hi : Option Int) : cutV (ns.map V.int) lo hi = (cutL ns lo hi).map V.int := by
  unfold cutV cutL
  rw [List.length_map, List.map_take, List.map_drop]
theorem slcR : L2.SlR X rSlc := by
  refine SlR.imp ((sl_str (X := X)).or ((sl_tupA (X := X)).or (sl_list (X := X)))) fun x lo hi H Q h => ?_
  obtain ⟨M, Λ, S, d, r, R, rx, h, k⟩ := h
  unfold slcS at h
  split at h
  · obtain ⟨k1, rfl⟩ := okS_of rx
    split at h
    · rename_i z hz
      cases h
      refine .inl ⟨_, rfl, by rw [len_sOf, ← line_eq]; exact hz, ?_⟩
      have e : cutS (sOf z) lo hi = sOf (cutL z lo hi) := by
        unfold cutS cutL
        rw [len_sOf]
      rw [e]
      exact k.val_same (.str fun x hx => k1 x (List.mem_of_mem_drop (List.mem_of_mem_take hx)))
    · cases h
  · rename_i xs
    obtain ⟨a, vs, rfl, e1, r⟩ := tup_of rx
    cases h
    refine .inr (.inl ⟨a, vs, rfl, .of e1, fun hw => ?_, fun _ p hp => ?_⟩)
    · rw [← r.length] at hw
      rw [cutL_whole xs lo hi hw] at k
      exact k.val_same (.tup e1 r)
    · exact k.tup R (r.cut lo hi) hp
  · obtain ⟨a, rfl, e1⟩ := scr_of (K := X.K) rx
    cases h
    refine .inr (.inr ⟨a, _, rfl, e1, fun p hp => ?_⟩)
    rw [cutV_ints]
    exact k.new_same hp (.lst (ints_rv _))
  · simp only [Option.map_eq_some_iff] at h
    obtain ⟨xs, h, rfl⟩ := h
    obtain ⟨a, vs, rfl, e2, r⟩ := asL_rv R rx h
    exact .inr (.inr ⟨a, vs, rfl, .of e2, fun p hp => k.new_same hp (.lst (r.cut lo hi))⟩)

/-! ### o[i] = v -/
def rSet : TSet := fun o i v H Q => ∃ M Λ S x y d S', RelS M Λ S H ∧ RV M Λ H x o ∧ RV M Λ H y i ∧ RV M Λ H d v ∧ setS x y d S = some S' ∧ ∀ H', RelS M Λ S' H' → Step Λ H Λ H' → Q H'
theorem PSet.or {X : Cx} {t t' : TSet} (h : PSet X t) (h' : PSet X t') : PSet X (fun o i v H Q => t o i v H Q ∨ t' o i v H Q) :=
  fun pins s σ H o i v ov iv u Q I r1 r2 r3 q => q.elim (h pins s σ H o i v ov iv u Q I r1 r2 r3) (h' pins s σ H o i v ov iv u Q I r1 r2 r3)
theorem PSet.imp {X : Cx} {t t' : TSet} (h : PSet X t) (i : ∀ o k v H Q, t' o k v H Q → t o k v H Q) : PSet X t' :=
  fun pins s σ H o k v ov iv u Q I r1 r2 r3 q => h pins s σ H o k v ov iv u Q I r1 r2 r3 (i o k v H Q q)
theorem KK_any {k : DK} {kk : Key} (hk : dkK k = some kk) : ∀ {ks : List DK} {kvs : List (Key × V)}, KK ks (kvs.map (·.1)) → ks.any (fun j => decide (j = k)) = kvs.any (fun kv => decide (kv.1 = kk))
  | [], [], _ => rfl
  | [], _ :: _, h => by simp only [List.map_cons] at h; cases h
  | _ :: _, [], h => by cases h
  | j :: js, (q, u) :: kvs, h => by
    simp only [List.map_cons] at h
    have hq : dkK j = some q ∧ KK js (kvs.map (·.1)) := by
      cases h with
      | i h => exact ⟨rfl, h⟩
      | s _ h => exact ⟨rfl, h⟩
    rw [List.any_cons, List.any_cons, KK_any hk hq.2]
    congr 1
    by_cases e : j = k
    · subst e
      have e2 : kk = q := Option.some.inj (hk.symm.trans hq.1)
      simp [e2]
    · have hne : ¬ q = kk := fun z => e (by
        subst z
        have h3 := hq.1.trans hk.symm
        cases j <;> cases k <;> simp only [dkK, Option.some.injEq, Sum.inl.injEq, Sum.inr.injEq, reduceCtorEq] at h3
        · rw [h3]
        · rw [sOf_inj h3]
        · simp [dkK] at hk)
      simp [e, hne]
theorem KT_any {l : List (Int ⊕ List Nat)} : ∀ {ks : List DK} {kvs : List (List Key × V)}, KT ks (kvs.map (·.1)) → ks.any (fun j => decide (j = .t l)) = kvs.any (fun kv => decide (kv.1 = l.map keyS))
  | [], [], _ => rfl
  | [], _ :: _, h => by simp only [List.map_cons] at h; cases h
  | _ :: _, [], h => by cases h
  | j :: js, (q, u) :: kvs, h => by
    simp only [List.map_cons] at h
    cases h with
    | @t m _ _ hm h =>
      rw [List.any_cons, List.any_cons, KT_any h]
      congr 1
      by_cases e : m = l
      · simp [e]
      · have hne : ¬ m.map keyS = l.map keyS := fun z => e (map_keyS_inj z)
        simp [e, hne]
theorem KK_putV {k : DK} {kk : Key} {d : D} {v : V} (hk : dkK k = some kk) (rd : RV M Λ H d v) : ∀ {ks : List DK} {kvs : List (Key × V)} {ds : List D}, KK ks (kvs.map (·.1)) → RVs M Λ H ds (kvs.map (·.2)) →
    RVs M Λ H (dPutV k d ks ds) ((kvs.map fun kv => if kv.1 = kk then (kv.1, v) else kv).map (·.2))
  | [], [], ds, _, r => by cases r; exact .nil
  | [], _ :: _, ds, h, r => by simp only [List.map_cons] at h; cases h
  | _ :: _, [], ds, h, r => by cases h
  | j :: js, (q, u) :: kvs, ds, h, r => by
    simp only [List.map_cons] at h r
    cases r with
    | cons ru rr =>
      have hq : dkK j = some q ∧ KK js (kvs.map (·.1)) := by
        cases h with
        | i h => exact ⟨rfl, h⟩
        | s _ h => exact ⟨rfl, h⟩
      have ih := KK_putV hk rd hq.2 rr
      by_cases e : j = k
      · subst e
        have e2 : kk = q := Option.some.inj (hk.symm.trans hq.1)
        subst e2
        simp only [dPutV, List.map_cons, if_true]
        exact .cons rd ih
      · have hne : ¬ q = kk := fun z => e (by
          subst z
          have h3 := hq.1.trans hk.symm
          cases j <;> cases k <;> simp only [dkK, Option.some.injEq, Sum.inl.injEq, Sum.inr.injEq, reduceCtorEq] at h3
          · rw [h3]
          · rw [sOf_inj h3]
          · simp [dkK] at hk)
        simp only [dPutV, List.map_cons, e, hne, if_false]
        exact .cons ru ih
theorem KT_putV {l : List (Int ⊕ List Nat)} {d : D} {v : V} (rd : RV M Λ H d v) : ∀ {ks : List DK} {kvs : List (List Key × V)} {ds : List D}, KT ks (kvs.map (·.1)) → RVs M Λ H ds (kvs.map (·.2)) →
    RVs M Λ H (dPutV (.t l) d ks ds) ((kvs.map fun kv => if kv.1 = l.map keyS then (kv.1, v) else kv).map (·.2))
  | [], [], ds, _, r => by cases r; exact .nil
  | [], _ :: _, ds, h, r => by simp only [List.map_cons] at h; cases h
  | _ :: _, [], ds, h, r => by cases h
  | j :: js, (q, u) :: kvs, ds, h, r => by
    simp only [List.map_cons] at h r
    cases r with
    | cons ru rr =>
      cases h with
      | @t m _ _ hm h =>
        have ih := KT_putV (l := l) rd h rr
        by_cases e : m = l
        · subst e
          simp only [dPutV, List.map_cons, if_true]
          exact .cons rd ih
        · have hne : ¬ m.map keyS = l.map keyS := fun z => e (map_keyS_inj z)
          have hne2 : ¬ DK.t m = DK.t l := fun z => e (DK.t.inj z)
          simp only [dPutV, List.map_cons, hne2, hne, if_false]
          exact .cons ru ih
theorem map_fst_put {κ : Type} [DecidableEq κ] (kk : κ) (v : V) (kvs : List (κ × V)) : (kvs.map fun kv => if kv.1 = kk then (kv.1, v) else kv).map (·.1) = kvs.map (·.1) := by
  rw [List.map_map]
  apply List.map_congr_left
  intro kv _
  show (if kv.1 = kk then (kv.1, v) else kv).1 = kv.1
  split <;> rfl
theorem KK.len : ∀ {ks : List DK} {js : List Key}, KK ks js → ks.length = js.length
  | _, _, .nil => rfl
  | _, _, .i h => by rw [List.length_cons, List.length_cons, KK.len h]
  | _, _, .s _ h => by rw [List.length_cons, List.length_cons, KK.len h]
theorem KT.len : ∀ {ks : List DK} {js : List (List Key)}, KT ks js → ks.length = js.length
  | _, _, .nil => rfl
  | _, _, .t _ h => by rw [List.length_cons, List.length_cons, KT.len h]
theorem KK.snoc {k : DK} {kk : Key} (hk : KK [k] [kk]) : ∀ {ks : List DK} {js : List Key}, KK ks js → KK (ks ++ [k]) (js ++ [kk])
  | _, _, .nil => hk
  | _, _, .i h => .i (KK.snoc hk h)
  | _, _, .s o h => .s o (KK.snoc hk h)
theorem KT.snoc {l : List (Int ⊕ List Nat)} (hk : ∀ x ∈ l, okK x) : ∀ {ks : List DK} {js : List (List Key)}, KT ks js → KT (ks ++ [.t l]) (js ++ [l.map keyS])
  | _, _, .nil => .t hk .nil
  | _, _, .t o h => .t o (KT.snoc hk h)
/-- a dict with one more pair, or one changed -/
theorem dput_rv {a : Addr} {t : Bool} {ks : List DK} {ds : List D} {k : DK} {e d : D} {y v : V} {ho0 : HO} (e0 : H a = some ho0) (D0 : RO M Λ H (.dv t ks ds) ho0) (ry : RV M Λ H e y) (rd : RV M Λ H d v) (hk : asKey e = some k) (hf : k.fits t = true) (hl : ks.length < line) :
    ∃ ho, DPut H a y v (upd H a ho) ∧ RO M Λ H (.dv t (dPut k d ks ds).1 (dPut k d ks ds).2) ho := by
  have D1 : (t = false ∧ ∃ kvs, H a = some (.dK kvs) ∧ KK ks (kvs.map (·.1)) ∧ RVs M Λ H ds (kvs.map (·.2))) ∨ (t = true ∧ ∃ kvs, H a = some (.dT kvs) ∧ KT ks (kvs.map (·.1)) ∧ RVs M Λ H ds (kvs.map (·.2))) := by
    cases D0 with
    | dK k r => exact .inl ⟨rfl, _, e0, k, r⟩
    | dT k r => exact .inr ⟨rfl, _, e0, k, r⟩
  rcases D1 with ⟨rfl, kvs, e1, hK, r⟩ | ⟨rfl, kvs, e1, hK, r⟩
  · have hh : ∃ kk, dkK k = some kk ∧ y = kV kk ∧ KK [k] [kk] := by
      cases e <;> simp only [asKey, Option.some.injEq, reduceCtorEq, Option.map_eq_some_iff] at hk
      · subst hk; exact ⟨_, rfl, int_of ry, .i .nil⟩
      · subst hk; exact ⟨_, rfl, (okS_of ry).2, .s (okS_of ry).1 .nil⟩
      · obtain ⟨l, _, rfl⟩ := hk
        simp [DK.fits, DK.flat] at hf
    obtain ⟨kk, h1, rfl, h3⟩ := hh
    have hl2 : kvs.length < sizeLine := by
      have := hK.len
      rw [List.length_map] at this
      rw [← this, ← line_eq]; exact hl
    refine ⟨.dK (putK kvs kk v), .inl ⟨kvs, kk, e1, rfl, hl2, rfl⟩, ?_⟩
    unfold dPut putK
    rw [KK_any h1 hK]
    split
    · exact .dK (by rw [map_fst_put]; exact hK) (KK_putV h1 rd hK r)
    · refine .dK ?_ ?_
      · rw [List.map_append]; exact KK.snoc h3 hK
      · rw [List.map_append]; exact r.append (.cons rd .nil)
  · cases e <;> simp only [asKey, Option.some.injEq, reduceCtorEq, Option.map_eq_some_iff] at hk
    · subst hk; simp [DK.fits, DK.flat] at hf
    · subst hk; simp [DK.fits, DK.flat] at hf
    · obtain ⟨l, h, rfl⟩ := hk
      obtain ⟨b, vs, rfl, eb, rv⟩ := tup_of ry
      obtain ⟨rfl, ok⟩ := keyItems_rv rv h
      have hl2 : kvs.length < sizeLine := by
        have := hK.len
        rw [List.length_map] at this
        rw [← this, ← line_eq]; exact hl
      refine ⟨.dT (putK kvs (l.map keyS) v), .inr ⟨kvs, _, b, e1, rfl, eb, hl2, rfl⟩, ?_⟩
      unfold dPut putK
      rw [KT_any hK]
      split
      · exact .dT (by rw [map_fst_put]; exact hK) (KT_putV rd hK r)
      · refine .dT ?_ ?_
        · rw [List.map_append]; exact hK.snoc ok
        · rw [List.map_append]; exact r.append (.cons rd .nil)
theorem ref_of {l : Nat} {v : V} (h : RV M Λ H (.ref l) v) : ∃ a, v = .ref a ∧ Λ[l]? = some a := by
  cases h with
  | ref h => exact ⟨_, rfl, h⟩
theorem setR (hu : X.A.units + 64 < cLine) : PSet X rSet := by
  refine PSet.imp (PSet.or (set_list (X := X)) (set_dict (X := X) (by omega))) fun o i v H Q h => ?_
  obtain ⟨M, Λ, S, x, y, d, S', R, rx, ry, rd, h, q⟩ := h
  unfold setS at h
  split at h <;> first | contradiction | skip
  obtain ⟨a, rfl, el⟩ := ref_of rx
  split at h <;> first | contradiction | skip
  · rename_i xs eS
    obtain ⟨ho, e1, r⟩ := R.st _ _ _ eS el
    cases r with
    | lst r =>
      split at h <;> first | contradiction | skip
      cases int_of ry
      simp only [Option.map_eq_some_iff] at h
      obtain ⟨n, h, rfl⟩ := h
      rename_i vs _
      have w := write R el (RO.lst (RVs.set rd n r))
      exact .inl ⟨a, _, _, n, rfl, rfl, e1, by rw [← r.length]; exact h, q _ w.1 w.2⟩
  · rename_i t ks vs eS
    obtain ⟨ho, e1, r⟩ := R.st _ _ _ eS el
    split at h <;> first | contradiction | skip
    split at h <;> first | contradiction | skip
    rename_i k hk hc
    simp only [Bool.and_eq_true, decide_eq_true_eq] at hc
    cases h
    obtain ⟨ho', p1, p2⟩ := dput_rv e1 r ry rd hk hc.1 hc.2
    have w := write R el p2
    exact .inr ⟨a, _, rfl, p1, q _ w.1 w.2⟩
end
end Pd

/-! Pd6: built-in functions. -/
namespace Pd
open PySem PySem.Spec PyProof.Rows L2

section
variable {M : Addr → Prop} {Λ : List Addr} {H : Hp} {S : Store} {d : D} {v : V} {Q : VK} {X : Cx}
theorem rvs1 {d : D} {vs : List V} (h : RVs M Λ H [d] vs) : ∃ v, vs = [v] ∧ RV M Λ H d v := by
  cases h with
  | cons h t => cases t; exact ⟨_, rfl, h⟩
theorem rvs2 {d e : D} {vs : List V} (h : RVs M Λ H [d, e] vs) : ∃ v u, vs = [v, u] ∧ RV M Λ H d v ∧ RV M Λ H e u := by
  cases h with
  | cons h t =>
    obtain ⟨u, rfl, r⟩ := rvs1 t
    exact ⟨_, u, rfl, h, r⟩
theorem call_lenRd : CallR X (.builtin "len") (fun xs H Q => ∃ a, xs = [V.ref a] ∧ ((∃ kvs, Rd H a (.dK kvs) ∧ Q (.int kvs.length) H) ∨ ∃ kvs, H a = some (.dT kvs) ∧ Q (.int kvs.length) H)) := by
  intro pins s σ H xs us Q I r h
  obtain ⟨a, rfl, h⟩ := h
  obtain ⟨u, rfl, ru⟩ := vals1 r
  cases ru
  rcases h with ⟨kvs, ha, q⟩ | ⟨kvs, ha, q⟩
  · exact d_len I ha fun t s' I' => ⟨.int kvs.length, H, I', ⟨t, rfl⟩, q⟩
  · exact call_len_dT pins s σ H [.ref a] _ Q I r ⟨a, kvs, rfl, ha, q⟩
theorem call_len_scr : CallR X (.builtin "len") (fun xs H Q => ∃ p ys, xs = [.ref p] ∧ SqL X.K H p ys ∧ Q (.int ys.length) H) :=
  CallR.imp call_len_seq fun xs H Q ⟨p, ys, e, h, q⟩ => ⟨p, ys, e, .inl h, q⟩
theorem lenD_rv (R : RelS M Λ S H) (h : RV M Λ H d v) {n : Nat} (e : lenD S d = some n) : ∃ a, v = .ref a ∧ ((∃ kvs, Rd H a (.dK kvs) ∧ kvs.length = n) ∨ ∃ kvs, H a = some (.dT kvs) ∧ kvs.length = n) := by
  cases h with
  | @dct a o _ _ _ ho e1 _ _ r =>
    cases r with
    | dK k r =>
      simp only [lenD, Option.some.injEq] at e
      have := k.len
      rw [List.length_map] at this
      exact ⟨a, rfl, .inl ⟨_, .inr ⟨o, e1⟩, by rw [← this]; exact e⟩⟩
    | dT _ _ => simp [lenD] at e
  | @ref l a e1 =>
    simp only [lenD] at e
    split at e
    · rename_i q
      obtain ⟨ho, e2, r⟩ := R.st _ _ _ q e1
      simp only [Option.some.injEq] at e
      cases r with
      | dK k r =>
        have := k.len
        rw [List.length_map] at this
        exact ⟨a, rfl, .inl ⟨_, .inl e2, by rw [← this]; exact e⟩⟩
      | dT k r =>
        have := k.len
        rw [List.length_map] at this
        exact ⟨a, rfl, .inr ⟨_, e2, by rw [← this]; exact e⟩⟩
    · cases e
  | _ => simp [lenD] at e
theorem bltr_len : CallR X (.builtin "len") (rPs (bltS .len)) := by
  refine CallR.imp (CallR.or call_len_str (CallR.or call_len_seq call_lenRd)) fun xs H Q h => ?_
  obtain ⟨M, Λ, S, ds, r, R, rs, h, k⟩ := h
  unfold bltS at h
  split at h <;> first | contradiction | skip
  obtain ⟨v, rfl, rx⟩ := rvs1 rs
  split at h
  · obtain ⟨k1, rfl⟩ := okS_of rx
    split at h
    · rename_i hz
      cases h
      refine .inl ⟨_, rfl, by rw [len_sOf, ← line_eq]; exact hz, ?_⟩
      rw [len_sOf]
      exact k.val_same (.int _)
    · cases h
  · obtain ⟨a, rfl, e⟩ := scr_of (K := X.K) rx
    cases h
    refine .inr (.inl ⟨a, _, rfl, .inl e, ?_⟩)
    rw [List.length_map]
    exact k.val_same (.int _)
  · split at h
    · have e1 := ‹asSq _ _ = some _›
      obtain ⟨a, vs, rfl, e2, r⟩ := asSq_rv (K := X.K) R rx e1
      cases h
      refine .inr (.inl ⟨a, vs, rfl, e2.elim (fun z => .inl (.of z)) .inr, ?_⟩)
      rw [← r.length]
      exact k.val_same (.int _)
    · simp only [Option.map_eq_some_iff] at h
      obtain ⟨n, e1, rfl⟩ := h
      obtain ⟨a, rfl, e⟩ := lenD_rv R rx e1
      rcases e with ⟨kvs, e2, rfl⟩ | ⟨kvs, e2, rfl⟩
      · exact .inr (.inr ⟨a, rfl, .inl ⟨kvs, e2, k.val_same (.int _)⟩⟩)
      · exact .inr (.inr ⟨a, rfl, .inr ⟨kvs, e2, k.val_same (.int _)⟩⟩)
theorem bltr_abs : CallR X (.builtin "abs") (rPs (bltS .abs)) := by
  refine CallR.imp call_abs fun xs H Q h => ?_
  obtain ⟨M, Λ, S, ds, r, R, rs, h, k⟩ := h
  unfold bltS at h
  split at h <;> first | contradiction | skip
  obtain ⟨v, rfl, rx⟩ := rvs1 rs
  cases int_of rx
  cases h
  exact ⟨_, rfl, k.val_same (.int _)⟩
theorem bltr_int : CallR X (.type "int") (rPs (bltS .int)) := by
  refine CallR.imp call_int1 fun xs H Q h => ?_
  obtain ⟨M, Λ, S, ds, r, R, rs, h, k⟩ := h
  unfold bltS at h
  split at h <;> first | contradiction | skip
  · obtain ⟨v, rfl, rx⟩ := rvs1 rs
    cases int_of rx
    cases h
    exact .inl ⟨_, rfl, k.val_same (.int _)⟩
  · obtain ⟨v, rfl, rx⟩ := rvs1 rs
    cases bl_of rx
    cases h
    exact .inr ⟨_, rfl, k.val_same (.int _)⟩
theorem signs_rv : ∀ {c : List Nat}, okS c → RVs M Λ H (c.map fun c => D.str [c]) (c.map fun c => V.str ⟨#[c]⟩)
  | [], _ => .nil
  | x :: c, h => .cons (.str (c := [x]) fun y hy => by rw [List.mem_singleton.mp hy]; exact h x List.mem_cons_self) (signs_rv fun y hy => h y (List.mem_cons_of_mem _ hy))
theorem call_list_text (hc : X.calm = true) : CallR X (.type "list") (fun xs H Q => ∃ z, xs = [.str z] ∧ z.length ≤ sizeLine ∧ ∀ l, H l = none → Q (.ref l) (upd H l (.lst (z.cps.toList.map fun c => V.str ⟨#[c]⟩)))) := by
  intro pins s σ H xs us Q I r h
  obtain ⟨z, rfl, hz, q⟩ := h
  obtain ⟨u, rfl, rx⟩ := vals1 r
  obtain ⟨t, rfl⟩ := rx
  refine call_list_str (I.ok.hd hc) z t (fun h' tk acc' c' hk hS hacc => ?_) hz
  refine ⟨.ref s.heap.objs.size, _, I.laid (t' := tk) hk (Nat.le_refl _) (show ObjOk X.prog X.w _ h' _ (.lst (z.cps.toList.map fun c => V.str ⟨#[c]⟩)) from ⟨?_, acc'.toList, c', ?_, ?_⟩), rfl, q _ (I.hok.fresh (Nat.le_refl _))⟩
  · rw [List.length_map, Array.length_toList]; exact hz
  · have hsz : acc'.size = z.cps.size := hacc.1
    refine vals_of_at (by rw [List.length_map, Array.length_toList, Array.length_toList]; exact hsz.symm) fun j x u e1 e2 => ?_
    rw [List.getElem?_map] at e1
    cases e3 : z.cps.toList[j]? with
    | none => rw [e3] at e1; cases e1
    | some c =>
      rw [e3] at e1
      cases e1
      obtain ⟨c', t', h1, h2⟩ := hacc.2 j u (by simpa using e2)
      have h3 : z.cps[j]? = some c := by simpa using e3
      rw [h3] at h1
      cases h1
      exact ⟨t', h2⟩
  · rw [Array.toArray_toList]; exact hS

theorem bltr_list (hc : X.calm = true) : CallR X (.type "list") (rPs (bltS .list)) := by
  refine CallR.imp (CallR.or (call_list_text hc) call_list_of) fun xs H Q h => ?_
  obtain ⟨M, Λ, S, ds, r, R, rs, h, k⟩ := h
  unfold bltS at h
  split at h <;> first | contradiction | skip
  obtain ⟨v, rfl, rx⟩ := rvs1 rs
  split at h
  · obtain ⟨k1, rfl⟩ := okS_of rx
    split at h
    · rename_i hz
      cases h
      refine .inl ⟨_, rfl, by rw [len_sOf, ← line_eq]; exact hz, fun l hl => ?_⟩
      have e : ∀ z : List Nat, ((sOf z).cps.toList.map fun c => V.str ⟨#[c]⟩) = z.map fun c => V.str ⟨#[c]⟩ := fun z => by simp
      rw [e]
      exact k.new_same hl (.lst (signs_rv k1))
    · cases h
  · simp only [Option.map_eq_some_iff] at h
    obtain ⟨xs, h, rfl⟩ := h
    obtain ⟨a, vs, rfl, e2, r⟩ := asSq_rv (K := X.K) R rx h
    exact .inr ⟨a, vs, rfl, e2.elim (fun z => .inl (.of z)) .inr, fun l hl => k.new_same hl (.lst r)⟩
theorem bltr_tuple : CallR X (.type "tuple") (rPs (bltS .tuple)) := by
  refine CallR.imp call_tuple_of fun xs H Q h => ?_
  obtain ⟨M, Λ, S, ds, r, R, rs, h, k⟩ := h
  unfold bltS at h
  split at h <;> first | contradiction | skip
  obtain ⟨v, rfl, rx⟩ := rvs1 rs
  simp only [Option.map_eq_some_iff] at h
  obtain ⟨xs, h, rfl⟩ := h
  rename_i d _
  have hh : (∃ a vs, v = .ref a ∧ H a = some (.tup vs) ∧ RVs M Λ H xs vs) ∨ ∃ a vs, v = .ref a ∧ H a = some (.lst vs) ∧ RVs M Λ H xs vs := by
    cases d with
    | tup ys =>
      simp only [asSq, Option.some.injEq] at h
      subst h
      obtain ⟨a, vs, q1, q2, q3⟩ := tup_of rx
      exact .inl ⟨a, vs, q1, q2, q3⟩
    | _ => exact .inr (asL_rv R rx (by simpa [asSq] using h))
  rcases hh with ⟨a, vs, rfl, e, r⟩ | ⟨a, vs, rfl, e, r⟩
  · exact ⟨a, vs, rfl, .inr ⟨.of e, k.val_same (.tup e r)⟩⟩
  · exact ⟨a, vs, rfl, .inl ⟨.of e, fun l hl => k.tup R r hl⟩⟩
theorem intsOf_rv : ∀ {xs : List D} {vs : List V} {ns : List Int}, RVs M Λ H xs vs → intsOf xs = some ns → vs = ns.map V.int
  | [], vs, ns, r, h => by
    cases r; cases h; rfl
  | d :: ds, vs, ns, r, h => by
    cases r with
    | cons r rs =>
      unfold intsOf at h
      split at h <;> first | contradiction | skip
      rename_i e
      cases e
      simp only [Option.map_eq_some_iff] at h
      obtain ⟨l, h, rfl⟩ := h
      cases int_of r
      rw [intsOf_rv rs h]
      rfl
theorem boolsOf_rv : ∀ {xs : List D} {vs : List V} {ns : List Bool}, RVs M Λ H xs vs → boolsOf xs = some ns → vs = ns.map V.bl
  | [], vs, ns, r, h => by
    cases r; cases h; rfl
  | d :: ds, vs, ns, r, h => by
    cases r with
    | cons r rs =>
      unfold boolsOf at h
      split at h <;> first | contradiction | skip
      rename_i e
      cases e
      simp only [Option.map_eq_some_iff] at h
      obtain ⟨l, h, rfl⟩ := h
      cases bl_of r
      rw [boolsOf_rv rs h]
      rfl
theorem strsOf_rv : ∀ {xs : List D} {vs : List V} {ns : List (List Nat)}, RVs M Λ H xs vs → strsOf xs = some ns → vs = (ns.map sOf).map V.str ∧ ∀ c ∈ ns, okS c
  | [], vs, ns, r, h => by
    cases r; cases h; exact ⟨rfl, fun _ h => by cases h⟩
  | d :: ds, vs, ns, r, h => by
    cases r with
    | cons r rs =>
      unfold strsOf at h
      split at h <;> first | contradiction | skip
      rename_i e
      cases e
      simp only [Option.map_eq_some_iff] at h
      obtain ⟨l, h, rfl⟩ := h
      obtain ⟨k, rfl⟩ := okS_of r
      obtain ⟨e1, e2⟩ := strsOf_rv rs h
      refine ⟨by rw [e1]; rfl, fun c hc => ?_⟩
      rcases List.mem_cons.mp hc with rfl | hc
      · exact k
      · exact e2 c hc
theorem bltr_sum (hc : X.calm = true) : CallR X (.builtin "sum") (rPs (bltS .sum)) := by
  refine CallR.imp (cr_sum hc) fun xs H Q h => ?_
  obtain ⟨M, Λ, S, ds, r, R, rs, h, k⟩ := h
  unfold bltS at h
  split at h <;> first | contradiction | skip
  obtain ⟨v, rfl, rx⟩ := rvs1 rs
  simp only [Option.bind_eq_some_iff, Option.map_eq_some_iff] at h
  obtain ⟨xs, h, ns, h2, rfl⟩ := h
  obtain ⟨a, vs, rfl, e, r⟩ := asL_rv R rx h
  obtain rfl := intsOf_rv r h2
  exact ⟨a, ns, rfl, .of e, k.val_same (.int _)⟩
theorem bltr_all (hc : X.calm = true) : CallR X (.builtin "all") (rPs (bltS .all)) := by
  refine CallR.imp (cr_all hc) fun xs H Q h => ?_
  obtain ⟨M, Λ, S, ds, r, R, rs, h, k⟩ := h
  unfold bltS at h
  split at h <;> first | contradiction | skip
  obtain ⟨v, rfl, rx⟩ := rvs1 rs
  simp only [Option.bind_eq_some_iff, Option.map_eq_some_iff] at h
  obtain ⟨xs, h, ns, h2, rfl⟩ := h
  obtain ⟨a, vs, rfl, e, r⟩ := asL_rv R rx h
  obtain rfl := boolsOf_rv r h2
  exact ⟨a, ns, rfl, .of e, k.val_same (.bl _)⟩
theorem bltr_any (hc : X.calm = true) : CallR X (.builtin "any") (rPs (bltS .any)) := by
  refine CallR.imp (cr_any hc) fun xs H Q h => ?_
  obtain ⟨M, Λ, S, ds, r, R, rs, h, k⟩ := h
  unfold bltS at h
  split at h <;> first | contradiction | skip
  obtain ⟨v, rfl, rx⟩ := rvs1 rs
  simp only [Option.bind_eq_some_iff, Option.map_eq_some_iff] at h
  obtain ⟨xs, h, ns, h2, rfl⟩ := h
  obtain ⟨a, vs, rfl, e, r⟩ := asL_rv R rx h
  obtain rfl := boolsOf_rv r h2
  exact ⟨a, ns, rfl, .of e, k.val_same (.bl _)⟩

/-! ### order -/
theorem pys_inj {n : Nat} (ih : ∀ a b : D, okd n a = true → okd n b = true → py a = py b → a = b) : ∀ xs ys : List D, xs.all (okd n) = true → ys.all (okd n) = true → pys xs = pys ys → xs = ys
  | [], [], _, _, _ => rfl
  | [], _ :: _, _, _, h => by rw [pys, pys] at h; cases h
  | _ :: _, [], _, _, h => by rw [pys, pys] at h; cases h
  | x :: xs, y :: ys, h1, h2, h => by
    rw [pys, pys] at h
    simp only [List.all_cons, Bool.and_eq_true] at h1 h2
    injection h with e1 e2
    rw [ih x y h1.1 h2.1 e1, pys_inj ih xs ys h1.2 h2.2 e2]
theorem str_inj {a b : List Nat} (h : PyData.str ⟨a.toArray⟩ = PyData.str ⟨b.toArray⟩) : a = b := sOf_inj (PyData.str.inj h)
theorem py_inj : ∀ (n : Nat) (a b : D), okd n a = true → okd n b = true → py a = py b → a = b
  | 0, a, b, h1, h2, h => by
    cases a <;> simp only [okd, reduceCtorEq, Bool.false_eq_true] at h1 <;> cases b <;> simp only [okd, reduceCtorEq, Bool.false_eq_true] at h2 <;> simp only [py, reduceCtorEq, PyData.bool.injEq, PyData.int.injEq] at h
    · rfl
    · rw [h]
    · rw [h]
    · rw [str_inj h]
  | n + 1, a, b, h1, h2, h => by
    cases a <;> simp only [okd, reduceCtorEq, Bool.false_eq_true] at h1 <;> cases b <;> simp only [okd, reduceCtorEq, Bool.false_eq_true] at h2 <;> simp only [py, reduceCtorEq, PyData.bool.injEq, PyData.int.injEq, PyData.tuple.injEq, PyData.list.injEq] at h
    · rfl
    · rw [h]
    · rw [h]
    · rw [str_inj h]
    · rw [pys_inj (py_inj n) _ _ h1 h2 h]
    · rw [pys_inj (py_inj n) _ _ h1 h2 h]
theorem minL_mem : ∀ (xs : List D) (x : D), minL x xs ∈ x :: xs
  | [], x => by simp [minL]
  | y :: ys, x => by
    show List.foldl _ (if _ then y else x) ys ∈ _
    have := minL_mem ys (if PySem.W.dataLt (py y) (py x) = true then y else x)
    unfold minL at this
    rcases List.mem_cons.mp this with e | e
    · rw [e]; split <;> simp
    · exact List.mem_cons_of_mem _ (List.mem_cons_of_mem _ e)
theorem maxL_mem : ∀ (xs : List D) (x : D), maxL x xs ∈ x :: xs
  | [], x => by simp [maxL]
  | y :: ys, x => by
    show List.foldl _ (if _ then y else x) ys ∈ _
    have := maxL_mem ys (if PySem.W.dataLt (py x) (py y) = true then y else x)
    unfold maxL at this
    rcases List.mem_cons.mp this with e | e
    · rw [e]; split <;> simp
    · exact List.mem_cons_of_mem _ (List.mem_cons_of_mem _ e)
theorem minL_py : ∀ (xs : List D) (x : D), PySem.W.minD (py x) (pys xs) = py (minL x xs)
  | [], x => by rw [pys]; rfl
  | y :: ys, x => by
    rw [pys]
    show PySem.W.minD (if _ then py y else py x) (pys ys) = _
    rw [← apply_ite py, minL_py ys]
    rfl
theorem maxL_py : ∀ (xs : List D) (x : D), PySem.W.maxD (py x) (pys xs) = py (maxL x xs)
  | [], x => by rw [pys]; rfl
  | y :: ys, x => by
    rw [pys]
    show PySem.W.maxD (if _ then py y else py x) (pys ys) = _
    rw [← apply_ite py, maxL_py ys]
    rfl
theorem py_none {n : Nat} {d : D} (h : okd n d = true) (k : isNon d = false) : py d ≠ .none := by
  intro e
  cases d <;> simp only [py, reduceCtorEq] at e
  · simp [isNon] at k
  · cases n <;> simp [okd] at h
  · cases n <;> simp [okd] at h
  · cases n <;> simp [okd] at h
  · cases n <;> simp [okd] at h
theorem alikeL_all {xs : List D} (h : alikeL xs = true) : (∀ x ∈ xs, okd 12 x = true) ∧ (∀ x ∈ xs, ∀ y ∈ xs, PySem.W.alike (py x) (py y) = true) ∧ ∀ x ∈ xs, py x ≠ .none := by
  unfold alikeL at h
  simp only [Bool.and_eq_true, List.all_eq_true, Bool.not_eq_true'] at h
  exact ⟨h.1, fun x hx => (h.2 x hx).2, fun x hx => py_none (h.1 x hx) (h.2 x hx).1⟩
theorem alikeAll_of {xs : List D} (h : alikeL xs = true) : PySem.W.AlikeAll (pys xs) := by
  obtain ⟨_, h2, h3⟩ := alikeL_all h
  rw [pys_map]
  refine ⟨fun x hx y hy => ?_, fun x hx => ?_⟩
  · obtain ⟨x', hx', rfl⟩ := List.mem_map.mp hx
    obtain ⟨y', hy', rfl⟩ := List.mem_map.mp hy
    exact h2 x' hx' y' hy'
  · obtain ⟨x', hx', rfl⟩ := List.mem_map.mp hx
    exact h3 x' hx'
theorem reads_all {pins : List (Addr × Obj)} {σ : L2.St} {s : Shared} (I : Inv X pins σ H s) {n : Nat} : ∀ {ds : List D} {vs : List V} {us : List Value}, RVs M Λ H ds vs → Vals vs us → (∀ x ∈ ds, okd n x = true) → ∃ as, ReadsAll s.heap us (pys ds) as
  | [], _, _, r, q, _ => by
    cases r; cases q
    rw [pys]
    exact ⟨_, .nil⟩
  | d :: ds, _, _, r, q, k => by
    cases r with
    | cons r rs =>
      cases q with
      | cons q qs =>
        obtain ⟨as, a1⟩ := Dp.reads I _ _ _ (dp_of (K := X.K) n r (k _ List.mem_cons_self)) q
        obtain ⟨bs, a2⟩ := reads_all I rs qs fun x hx => k x (List.mem_cons_of_mem _ hx)
        rw [pys]
        exact ⟨_, .cons a1 a2⟩
theorem RVs.back {ds : List D} {vs : List V} {us : List Value} (r : RVs M Λ H ds vs) (q : Vals vs us) {i : Nat} {u : Value} (h : us[i]? = some u) : ∃ d v, ds[i]? = some d ∧ vs[i]? = some v ∧ RV M Λ H d v ∧ RelV v u := by
  have hi : i < us.length := (List.getElem?_eq_some_iff.mp h).1
  have h1 : i < vs.length := by rw [q.length]; exact hi
  have h2 : i < ds.length := by rw [r.length]; exact h1
  obtain ⟨v, e1, r1⟩ := r.get (List.getElem?_eq_getElem h2)
  obtain ⟨u', e2, r2⟩ := q.get e1
  rw [h] at e2
  cases e2
  exact ⟨_, v, List.getElem?_eq_getElem h2, e1, r1, r2⟩
theorem depthAll_le {ds : List D} {vs : List V} (r : RVs M Λ H ds vs) (k : ∀ x ∈ ds, okd 12 x = true) : PyData.depthAll (pys ds) ≤ 12 := (okds (okd_of 12) r k).2
theorem bltr_min (hc : X.calm = true) (hu : X.A.units + 64 < cLine) : CallR X (.builtin "min") (rPs (bltS .min)) := by
  refine CallR.imp (CallR.or (call_min2 hc) (r' := fun xs H Q => ∃ M Λ S d y ys, RelS M Λ S H ∧ RVs M Λ H [d] xs ∧ asL S d = some (y :: ys) ∧ alikeL (y :: ys) = true ∧ PRk M Λ (.val (minL y ys)) H Q) ?_) fun xs H Q h => ?_
  · intro pins s σ H xs us Q I q h
    obtain ⟨M, Λ, S, d, y, ys, R, rs, h1, h2, k⟩ := h
    obtain ⟨v, rfl, rx⟩ := rvs1 rs
    obtain ⟨u, rfl, ru⟩ := vals1 q
    obtain ⟨a, vs, rfl, e, r⟩ := asL_rv R rx h1
    cases ru
    obtain ⟨its, rv, hl, _⟩ := I.list (.of e)
    obtain ⟨k1, k2, k3⟩ := alikeL_all h2
    obtain ⟨as, ra⟩ := reads_all I r rv k1
    rw [pys] at ra
    have hA : PySem.W.AlikeAll (py y :: pys ys) := by have := alikeAll_of h2; rw [pys] at this; exact this
    have hD : PyData.depthAll (py y :: pys ys) ≤ 12 := by have := depthAll_le r k1; rw [pys] at this; exact this
    refine PySem.W.min_list_data (I.ok.hd hc) hl.isList (by simpa using ra) hA (by omega) fun i u h' tk bs hi hr hk => ?_
    obtain ⟨d', v', f1, f2, f3, f4⟩ := r.back rv (show its[i]? = some u by simpa using hi)
    obtain ⟨cs, w⟩ := Dp.reads I _ _ _ (dp_of (K := X.K) 12 f3 (k1 _ (List.mem_of_getElem? f1))) f4
    have hm := minL_mem ys y
    have e3 : py d' = PySem.W.minD (py y) (pys ys) := PySem.W.alike_unique _ _ _ _ _ (by rw [minL_py]; exact k2 _ (List.mem_of_getElem? f1) _ hm) (PySem.W.reads_keeps hk w) hr
    rw [minL_py] at e3
    have e4 := py_inj 12 _ _ (k1 _ (List.mem_of_getElem? f1)) (k1 _ hm) e3
    subst e4
    exact ⟨v', H, I.kept (t' := tk) hk, f4, k.val_same f3⟩
  · obtain ⟨M, Λ, S, ds, r, R, rs, h, k⟩ := h
    unfold bltS at h
    split at h <;> first | contradiction | skip
    · split at h <;> first | contradiction | skip
      split at h
      · cases h
        exact .inr ⟨M, Λ, _, _, _, _, R, rs, by assumption, by assumption, k⟩
      · cases h
    · obtain ⟨v, u, rfl, rx, ry⟩ := rvs2 rs
      cases int_of rx
      cases int_of ry
      cases h
      exact .inl ⟨_, _, rfl, k.val_same (.int _)⟩
theorem bltr_max (hc : X.calm = true) (hu : X.A.units + 64 < cLine) : CallR X (.builtin "max") (rPs (bltS .max)) := by
  refine CallR.imp (CallR.or (call_max2 hc) (r' := fun xs H Q => ∃ M Λ S d y ys, RelS M Λ S H ∧ RVs M Λ H [d] xs ∧ asL S d = some (y :: ys) ∧ alikeL (y :: ys) = true ∧ PRk M Λ (.val (maxL y ys)) H Q) ?_) fun xs H Q h => ?_
  · intro pins s σ H xs us Q I q h
    obtain ⟨M, Λ, S, d, y, ys, R, rs, h1, h2, k⟩ := h
    obtain ⟨v, rfl, rx⟩ := rvs1 rs
    obtain ⟨u, rfl, ru⟩ := vals1 q
    obtain ⟨a, vs, rfl, e, r⟩ := asL_rv R rx h1
    cases ru
    obtain ⟨its, rv, hl, _⟩ := I.list (.of e)
    obtain ⟨k1, k2, k3⟩ := alikeL_all h2
    obtain ⟨as, ra⟩ := reads_all I r rv k1
    rw [pys] at ra
    have hA : PySem.W.AlikeAll (py y :: pys ys) := by have := alikeAll_of h2; rw [pys] at this; exact this
    have hD : PyData.depthAll (py y :: pys ys) ≤ 12 := by have := depthAll_le r k1; rw [pys] at this; exact this
    refine PySem.W.max_list_data (I.ok.hd hc) hl.isList (by simpa using ra) hA (by omega) fun i u h' tk bs hi hr hk => ?_
    obtain ⟨d', v', f1, f2, f3, f4⟩ := r.back rv (show its[i]? = some u by simpa using hi)
    obtain ⟨cs, w⟩ := Dp.reads I _ _ _ (dp_of (K := X.K) 12 f3 (k1 _ (List.mem_of_getElem? f1))) f4
    have hm := maxL_mem ys y
    have e3 : py d' = PySem.W.maxD (py y) (pys ys) := PySem.W.alike_unique _ _ _ _ _ (by rw [maxL_py]; exact k2 _ (List.mem_of_getElem? f1) _ hm) (PySem.W.reads_keeps hk w) hr
    rw [maxL_py] at e3
    have e4 := py_inj 12 _ _ (k1 _ (List.mem_of_getElem? f1)) (k1 _ hm) e3
    subst e4
    exact ⟨v', H, I.kept (t' := tk) hk, f4, k.val_same f3⟩
  · obtain ⟨M, Λ, S, ds, r, R, rs, h, k⟩ := h
    unfold bltS at h
    split at h <;> first | contradiction | skip
    · split at h <;> first | contradiction | skip
      split at h
      · cases h
        exact .inr ⟨M, Λ, _, _, _, _, R, rs, by assumption, by assumption, k⟩
      · cases h
    · obtain ⟨v, u, rfl, rx, ry⟩ := rvs2 rs
      cases int_of rx
      cases int_of ry
      cases h
      exact .inl ⟨_, _, rfl, k.val_same (.int _)⟩
theorem each_of : ∀ {ds : List D} {vs : List V} {us : List Value}, RVs M Λ H ds vs → Vals vs us → PySem.W.EachIs (fun u d => ∃ v, RelV v u ∧ RV M Λ H d v) us ds
  | _, _, _, .nil, .nil => .nil
  | _, _, _, .cons r rs, .cons q qs => .cons ⟨_, q, r⟩ (each_of rs qs)
theorem of_each : ∀ {ds : List D} {us : List Value}, PySem.W.EachIs (fun u d => ∃ v, RelV v u ∧ RV M Λ H d v) us ds → ∃ vs, RVs M Λ H ds vs ∧ Vals vs us
  | _, _, .nil => ⟨[], .nil, .nil⟩
  | _, _, .cons ⟨v, q, r⟩ t => let ⟨vs, a, b⟩ := of_each t; ⟨v :: vs, .cons r a, .cons q b⟩
theorem each_reads {pins : List (Addr × Obj)} {σ : L2.St} {s : Shared} (I : Inv X pins σ H s) {n : Nat} : ∀ {ds : List D} {vs : List V} {us : List Value}, RVs M Λ H ds vs → Vals vs us → (∀ x ∈ ds, okd n x = true) → PySem.W.EachIs (fun u d => ∃ as, Reads s.heap u (py d) as) us ds
  | _, _, _, .nil, .nil, _ => .nil
  | _, _, _, .cons r rs, .cons q qs, k => .cons (Dp.reads I _ _ _ (dp_of (K := X.K) n r (k _ List.mem_cons_self)) q) (each_reads I rs qs fun x hx => k x (List.mem_cons_of_mem _ hx))
theorem leD_eq : PySem.W.dataLe false py = leD := rfl
theorem bltr_sorted (hu : X.A.units + 64 < cLine) : CallR X (.builtin "sorted") (rPs (bltS .sorted)) := by
  intro pins s σ H xs us Q I q h
  obtain ⟨M, Λ, S, ds, r, R, rs, h, k⟩ := h
  unfold bltS at h
  split at h <;> first | contradiction | skip
  obtain ⟨v, rfl, rx⟩ := rvs1 rs
  obtain ⟨u, rfl, ru⟩ := vals1 q
  split at h <;> first | contradiction | skip
  rename_i xs h1
  split at h
  · rename_i hc
    simp only [Bool.and_eq_true, decide_eq_true_eq] at hc
    cases h
    obtain ⟨a, vs, rfl, e, r⟩ := asL_rv R rx h1
    cases ru
    obtain ⟨its, rv, hl, hz⟩ := I.list (.of e)
    obtain ⟨k1, k2, k3⟩ := alikeL_all hc.1.1
    have hA : PySem.W.AllAlike (xs.map py) := fun x hx y hy => by
      obtain ⟨x', hx', rfl⟩ := List.mem_map.mp hx
      obtain ⟨y', hy', rfl⟩ := List.mem_map.mp hy
      exact k2 x' hx' y' hy'
    have hS : PySem.W.Sortable (xs.map py) := by
      have := hc.1.2
      unfold sortableL at this
      simp only [Bool.or_eq_true, List.all_eq_true] at this
      rcases this with t | t
      · refine .inl fun x hx => ?_
        obtain ⟨x', hx', rfl⟩ := List.mem_map.mp hx
        have := t x' hx'
        unfold isTup1 at this
        split at this
        · exact ⟨_, _, by rw [py, pys]⟩
        · cases this
      · refine .inr fun x hx => ?_
        obtain ⟨x', hx', rfl⟩ := List.mem_map.mp hx
        refine ⟨k3 x' hx', fun ys e => ?_⟩
        have := t x' hx'
        cases x' <;> simp only [py, reduceCtorEq] at e
        simp [isNoTup] at this
    refine PySem.W.sorted_data (R := fun u d => ∃ v, RelV v u ∧ RV M Λ H d v) (enc := py) (bs := xs) hl.isList (each_of r rv) (each_reads I r rv k1) hA hS (by rw [← line_eq]; exact hc.2) (fun b hb => ?_) fun out hlen eo => ?_
    · have := (okd_of 12 (RVs.mem r hb).choose_spec.2 (k1 b hb)).2
      omega
    · rw [leD_eq] at eo
      obtain ⟨ws, w1, w2⟩ := of_each eo
      obtain ⟨ep, he'⟩ := PyProof.Rows.sortedAll_at s.heap its (List.toArray out)
      refine ⟨.ref _, upd H (s.heap.objs.size + 1) (.lst ws), I.laid (t' := s.toks) (fun _ _ => PyProof.Rows.sortedAll_old) (Nat.le_succ _) ⟨?_, out, ep, w2, he'⟩, rfl, k.new_same (I.hok.fresh (Nat.le_succ _)) (.lst w1)⟩
      rw [w2.length, hlen, ← line_eq]; exact hc.2
  · cases h

/-! ### isinstance -/
theorem kit_all : ∀ t ∈ ["NoneType", "bool", "int", "str", "tuple", "list", "dict"], ∀ n ∈ ["int", "str", "tuple", "list", "dict", "bool"], kitB t n = some (isTy t n) := by decide +kernel
theorem known_mem {n : String} (h : knownTy n = true) : n ∈ ["int", "str", "tuple", "list", "dict", "bool"] := by
  unfold knownTy at h
  simpa [or_assoc] using h
theorem ty_rv (R : RelS M Λ S H) (rx : RV M Λ H d v) {t : String} (h : tyOf S d = some t) : t ∈ ["NoneType", "bool", "int", "str", "tuple", "list", "dict"] ∧ TyX X.K H v (.type t) := by
  cases rx with
  | non => cases h; exact ⟨by decide, .base .non⟩
  | bl b => cases h; exact ⟨by decide, .base (.bl b)⟩
  | int i => cases h; exact ⟨by decide, .base (.int i)⟩
  | str _ => cases h; exact ⟨by decide, .base (.str _)⟩
  | tup e _ => cases h; exact ⟨by decide, .base (.tup e)⟩
  | scr e _ => cases h; exact ⟨by decide, .base (.frz e)⟩
  | ty n => cases h
  | lst e _ _ r => cases h; exact ⟨by decide, .base (.lst e)⟩
  | @dct a o t ks ds ho e _ _ r =>
    cases r with
    | dK _ _ => cases h; exact ⟨by decide, .fDict e⟩
    | dT _ _ => cases h
  | @ref l a e =>
    simp only [tyOf] at h
    split at h
    · rename_i q
      obtain ⟨ho, e2, r⟩ := R.st _ _ _ q e
      cases r
      cases h
      exact ⟨by decide, .base (.lst e2)⟩
    · rename_i q
      obtain ⟨ho, e2, r⟩ := R.st _ _ _ q e
      cases r <;> cases h
      · exact ⟨by decide, .base (.dK e2)⟩
      · exact ⟨by decide, .base (.dT e2)⟩
    · cases h
theorem isAny_rv (R : RelS M Λ S H) (rx : RV M Λ H d v) : ∀ {ts : List D} {vs : List V} {b : Bool}, RVs M Λ H ts vs → isAny S d ts = some b → ∃ t us, tyOf S d = some t ∧ Paired ClsV vs us ∧ PySem.W.kitAny X.K (.type t) us = some b
  | [], vs, b, r, h => by
    cases r
    unfold isAny at h
    split at h
    · rename_i hc
      obtain ⟨t, e⟩ := Option.isSome_iff_exists.mp hc
      cases h
      exact ⟨t, [], e, .nil, kitAny_nil⟩
    · cases h
  | c :: ts, vs, b, r, h => by
    cases r with
    | cons r rs =>
      unfold isAny at h
      split at h <;> first | contradiction | skip
      rename_i n r' e
      cases e
      split at h <;> first | contradiction | skip
      rename_i b1 c1 h1 h2
      cases h
      obtain ⟨t, us, e1, e2, e3⟩ := isAny_rv R rx rs h2
      cases ty_of r
      unfold isinstS at h1
      rw [e1] at h1
      simp only at h1
      split at h1
      · rename_i hk
        cases h1
        refine ⟨t, .type n :: us, e1, .cons (.ty n) e2, ?_⟩
        refine kitAny_cons (b := isTy t n) (kit_ty (kit_all t (ty_rv (X := X) R rx e1).1 n (known_mem hk))) (fun hb => ?_) fun hb => ?_
        · rw [hb]; simpa using e3
        · rw [hb]; rfl
      · cases h1
theorem bltr_isinst : CallR X (.builtin "isinstance") (rPs (bltS .isinst)) := by
  refine CallR.imp (CallR.or (call_isi (X := X)) (call_isiT (X := X))) fun xs H Q h => ?_
  obtain ⟨M, Λ, S, ds, r, R, rs, h, k⟩ := h
  unfold bltS at h
  split at h <;> first | contradiction | skip
  · obtain ⟨v, u, rfl, rx, ry⟩ := rvs2 rs
    cases ty_of ry
    simp only [Option.map_eq_some_iff] at h
    obtain ⟨b, h, rfl⟩ := h
    unfold isinstS at h
    split at h <;> first | contradiction | skip
    rename_i t e1
    split at h
    · rename_i hk
      cases h
      obtain ⟨m, ty⟩ := ty_rv (X := X) R rx e1
      exact .inl ⟨v, _, _, _, _, rfl, .ty _, ty, kit_ty (kit_all t m _ (known_mem hk)), k.val_same (.bl _)⟩
    · cases h
  · obtain ⟨v, u, rfl, rx, ry⟩ := rvs2 rs
    obtain ⟨a, vs, rfl, e, r⟩ := tup_of ry
    simp only [Option.map_eq_some_iff] at h
    obtain ⟨b, h, rfl⟩ := h
    obtain ⟨t, us, e1, e2, e3⟩ := isAny_rv (X := X) R rx r h
    obtain ⟨m, ty⟩ := ty_rv (X := X) R rx e1
    exact .inr ⟨v, a, vs, _, us, b, rfl, e, e2, ty, e3, k.val_same (.bl _)⟩
end
end Pd

/-! Pd7: enumerate and zip over lists, tuples, texts in any mix. -/
namespace Pd
open PySem PySem.Spec PyProof.Rows L2

/-- what an iterator draws from -/
inductive Src where
  | lst (a : Addr)
  | tup (a : Addr)
  | txt (z : Str) (t : Tok)
def Src.val : Src → Value
  | .lst a => .ref a
  | .tup a => .ref a
  | .txt z t => .str z t
/-- what it holds -/
def Src.has (K : PySem.W.Frag) (H : Hp) : Src → List V → Prop
  | .lst a, xs => SqL K H a xs
  | .tup a, xs => SqT K H a xs
  | .txt z _, xs => xs = z.cps.toList.map fun c => V.str ⟨#[c]⟩
def Src.cell : Src → Addr → Nat → Heap → Prop
  | .lst a, it, i, h => h.IsListIter it a i
  | .tup a, it, i, h => h.IsTupleIter it a i
  | .txt z t, it, i, h => h.IsStrIter it (strIterType z) z t i
def Src.fp : Src → Addr → List Addr
  | .lst a, it => [it, a]
  | .tup a, it => [it, a]
  | .txt _ _, it => [it]
def Src.stand : Src → Array Value → Heap → Prop
  | .lst a, its, h => h.IsList a its
  | .tup a, its, h => h.IsTuple a its
  | .txt _ _, _, _ => True
def Src.iter : Src → Obj
  | .lst a => { cls := .type "list_iterator", data := .fields #[.ref a, .int 0 0] }
  | .tup a => { cls := .type "tuple_iterator", data := .fields #[.ref a, .int 0 0] }
  | .txt z t => { cls := .type (strIterType z), data := .fields #[.str z t, .int 0 0] }
def Src.far : Src → Addr → Prop
  | .lst a, b => a ≠ b
  | .tup a, b => a ≠ b
  | .txt _ _, _ => True
theorem Src.cell_at {c : Src} {it : Addr} {i : Nat} {h h' : Heap} (s : c.cell it i h) (k : ∀ o, h.get? it = some o → h'.get? it = some o) : c.cell it i h' := by
  cases c with
  | lst a => exact Heap.IsListIter.at s k
  | tup a => exact Heap.IsTupleIter.at s k
  | txt z t => obtain ⟨o, e, cd⟩ := s; exact ⟨o, k o e, cd⟩
theorem Src.cell_obj {c : Src} {it : Addr} {i : Nat} {h : Heap} (s : c.cell it i h) : ∃ o, h.get? it = some o ∧ ∀ v, o.data ≠ .cell v := by
  cases c with
  | lst a => obtain ⟨o, e, _, d⟩ := s; exact ⟨o, e, fun v z => by rw [d] at z; cases z⟩
  | tup a => obtain ⟨o, e, _, d⟩ := s; exact ⟨o, e, fun v z => by rw [d] at z; cases z⟩
  | txt z t => obtain ⟨o, e, _, d⟩ := s; exact ⟨o, e, fun v z => by rw [d] at z; cases z⟩
theorem Src.begins (c : Src) (its : Array Value) : Begins c.val c.iter (c.stand its) := by
  cases c with
  | lst a => exact begins_list a its
  | tup a => exact begins_tuple a its
  | txt z t => exact begins_text z t
theorem Src.cell0 {c : Src} {it : Addr} {h : Heap} (e : h.get? it = some c.iter) : c.cell it 0 h := by
  cases c with
  | lst a => exact ⟨_, e, rfl, rfl⟩
  | tup a => exact ⟨_, e, rfl, rfl⟩
  | txt z t => exact ⟨_, e, rfl, rfl⟩
def Src.num (c : Src) (its : Array Value) : Nat := match c with
  | .txt z _ => z.cps.size
  | _ => its.size
def Src.P (c : Src) (its : Array Value) (i : Nat) (v : Value) : Prop := match c with
  | .txt z _ => ∃ x u, z.cps[i]? = some x ∧ v = .str ⟨#[x]⟩ u
  | _ => its[i]? = some v
theorem Src.draws {prog : Program} {w : World} {A : Around} (hh : A.handled = none) (c : Src) (it : Addr) (hf : c.far it) (its : Array Value) :
    Draws prog w A it (c.fp it) (c.num its) (c.P its) (fun i h => c.cell it i h ∧ c.stand its h) := by
  cases c with
  | lst a => exact Draws.list hh it a hf its
  | tup a => exact Draws.tuple hh it a hf its
  | txt z t =>
    have D := Draws.text (prog := prog) (w := w) hh it z t
    exact ⟨fun i h st => D.live i h st.1, fun i h h' st k => ⟨D.frame i h h' st.1 k, trivial⟩, fun i s Q E hi st hQ => D.item i s Q E hi st.1 fun x h' tk p st' sb => hQ x h' tk p ⟨st', trivial⟩ sb, fun s Q E st hE => D.done s Q E st.1 hE⟩
section
variable {X : Cx} {pins : List (Addr × Obj)} {σ : L2.St} {H : Hp} {s : Shared}
/-- the source as it stands -/
theorem Src.inj {X : Cx} {pins : List (Addr × Obj)} {σ : L2.St} {H : Hp} {s : Shared} (I : Inv X pins σ H s) {c : Src} {xs ys : List V} (h : c.has X.K H xs) (k : c.has X.K H ys) : xs = ys := by
  cases c with
  | lst a => exact Inv.list_inj I h k
  | tup a => exact Inv.tuple_inj I h k
  | txt z t => exact Eq.trans h (Eq.symm k)
theorem Src.opened (I : Inv X pins σ H s) {c : Src} {xs : List V} (h : c.has X.K H xs) : ∃ its : Array Value, c.stand its s.heap ∧ c.num its = xs.length ∧ ∀ (i : Nat) (x : V), xs[i]? = some x → ∀ v, c.P its i v → RelV x v := by
  cases c with
  | lst a =>
    obtain ⟨its, rv, p, _⟩ := I.list h
    refine ⟨its.toArray, p.isList, ?_, fun i x hx v hv => ?_⟩
    · show its.toArray.size = _
      rw [List.size_toArray, rv.length]
    · obtain ⟨u, hu, ru⟩ := rv.get hx
      have hv' : its[i]? = some v := by simpa [Src.P] using hv
      rw [hu] at hv'
      cases hv'
      exact ru
  | tup a =>
    obtain ⟨its, rv, p, _⟩ := I.tuple h
    refine ⟨its.toArray, p, ?_, fun i x hx v hv => ?_⟩
    · show its.toArray.size = _
      rw [List.size_toArray, rv.length]
    · obtain ⟨u, hu, ru⟩ := rv.get hx
      have hv' : its[i]? = some v := by simpa [Src.P] using hv
      rw [hu] at hv'
      cases hv'
      exact ru
  | txt z t =>
    have h : xs = z.cps.toList.map fun c => V.str ⟨#[c]⟩ := h
    subst h
    refine ⟨#[], trivial, ?_, fun i x hx v hv => ?_⟩
    · show z.cps.size = _
      simp
    · obtain ⟨y, u, h1, h2⟩ := hv
      rw [List.getElem?_map] at hx
      have h1' : z.cps.toList[i]? = some y := by simpa using h1
      rw [h1'] at hx
      cases hx
      exact ⟨u, h2⟩
theorem Src.far_of {c : Src} {b : Addr} (hf : FpOk X pins H b) (I : Inv X pins σ H s) {xs : List V} (h : c.has X.K H xs) : c.far b := by
  obtain ⟨f0, f1, f2, f3, _⟩ := hf
  have kk : ∀ {a : Addr} {o : Obj}, X.K.lookup a = some o → a ≠ b := fun {a o} e z => by
    subst z
    have e1 := I.ok.mod.kin _ _ e
    rcases f3 with f3 | f3
    · exact I.ok.noex _ _ e1 f3
    · exact absurd (Nat.lt_of_lt_of_le (Heap.lt_size (I.ok.bs _ _ e1).1) f3) (Nat.lt_irrefl _)
  cases c with
  | lst a =>
    rcases h with (h | ⟨o, h⟩) | ⟨o, its, n, h, _⟩
    · exact ne_of_none h f0
    · exact ne_of_none h f0
    · exact kk h
  | tup a =>
    rcases h with (h | ⟨o, h⟩) | ⟨o, its, n, h, _⟩
    · exact ne_of_none h f0
    · exact ne_of_none h f0
    · exact kk h
  | txt z t => trivial
end
theorem Src.notin {c : Src} {it b : Addr} (h1 : c.far b) (h2 : b ≠ it) : b ∉ c.fp it := by
  cases c <;> simp [Src.fp, h2]
  · exact fun z => h1 z.symm
  · exact fun z => h1 z.symm
theorem Src.memfp (c : Src) (it : Addr) : it ∈ c.fp it := by cases c <;> simp [Src.fp]

/-! ### enumerate -/
set_option maxHeartbeats 1000000 in
theorem meets_enum1 {v : Value} {o : Obj} {Fh : Heap → Prop} (B : Begins v o Fh) :
    Meets (Builtin.«enumerate.__new__» ⟨[.type "enumerate", v], []⟩) (fun _ R s => Fh s.heap ∧ R (.ok (.ret (.ref (s.heap.push o).objs.size)))
      { s with heap := (s.heap.push o).push { cls := .type "enumerate", data := .fields #[.none, .bool false, .ref s.heap.objs.size, rawInt 0, .none, .none] } }) :=
  .of_wp fun prog w A R s hh => by
    obtain ⟨hp, g, d, tk, os⟩ := s
    obtain ⟨h1, h2⟩ := hh
    have hs := sub_enumerate
    have q : ∀ {A' : Around} {E : Value → Shared → Prop} {Q : Value → Shared → Prop}, Q (.ref hp.objs.size) ⟨hp.push o, g, d, tk, os⟩ → wpAny (model prog w) A' (pyIter v) Q E ⟨hp, g, d, tk, os⟩ :=
      fun z => B.iter prog w _ _ ⟨hp, g, d, tk, os⟩ _ h1 z
    wp_walk using q
    refine wpAny_stack_any fun st => wpAny_pure ?_
    split
    · rename_i c _ _ _ _ _
      cases (c == Value.type "enumerate") <;> (wp_walk using q; exact ⟨_, rfl, h2⟩)
    · (wp_walk using q; exact ⟨_, rfl, h2⟩)
theorem call_enum1 {prog : Program} {w : World} {A : Around} {E : Value → Shared → Prop} {s : Shared} {v : Value} {o : Obj} {Fh : Heap → Prop} {Q : Value → Shared → Prop} (B : Begins v o Fh) (h1 : Fh s.heap)
    (h : ∀ h', IsEnum h' (s.heap.objs.size + 1) s.heap.objs.size 0 .none → h'.get? s.heap.objs.size = some o → (∀ b x, s.heap.get? b = some x → h'.get? b = some x) → Q (.ref (s.heap.objs.size + 1)) { s with heap := h' }) :
    wpAny (model prog w) A (call (.type "enumerate") [v]) Q E s := by
  refine callType_new F.called_enumerate (by decide) (F.typeCall_enumerate_1 _) (F.newCall_enumerate_1 _) (fun obj => F.args_object_init_2 obj _) F.entry_enumerate_new (meets_enum1 B) ⟨h1, ?_⟩
  have hz : (s.heap.push o).objs.size = s.heap.objs.size + 1 := Heap.size_push ..
  show _ ∧ _
  rw [hz]
  have he : IsEnum ((s.heap.push o).push { cls := .type "enumerate", data := .fields #[.none, .bool false, .ref s.heap.objs.size, rawInt 0, .none, .none] }) (s.heap.objs.size + 1) s.heap.objs.size 0 .none := by
    have z := Heap.get?_push_size (s.heap.push o) (o := { cls := .type "enumerate", data := .fields #[.none, .bool false, .ref s.heap.objs.size, rawInt 0, .none, .none] }) rfl
    rw [hz] at z; exact z
  exact ⟨⟨_, he, rfl⟩, h _ he (Heap.get?_push_of_some _ (Heap.get?_push_size _ B.free)) fun b x z => Heap.get?_push_of_some _ (Heap.get?_push_of_some _ z)⟩
/-- (i, x), the pair new -/
def ItE (K : PySem.W.Frag) (c : Src) : L2.It :=
  ⟨fun i H => ∃ xs x, c.has K H xs ∧ xs[i]? = some x,
    fun i H v H' => ∃ T x, v = .ref T ∧ H T = none ∧ H' = upd H T (.tup [.int (i : Nat), x]) ∧ ∀ xs, c.has K H xs → xs[i]? = some x,
    fun i H => ∃ xs, c.has K H xs ∧ xs.length = i⟩
theorem turn_enumS {P : Program} {w : World} {K : PySem.W.Frag} {elts : List Expr} {kk : Nat} {tpos : Pos} (c : Src) (e it : Addr) :
    Turn P w K (.Tuple elts kk tpos) (ItE K c) [e, it] e (fun i h => (∃ old, IsEnum h e it (0 + ((i : Nat) : Int)) old) ∧ c.cell it i h ∧ e ≠ it) where
  mem := by simp
  obj := fun i h st b hb => by
    obtain ⟨⟨old, he⟩, hi, _⟩ := st
    have e' : b = e ∨ b = it := by simpa using hb
    rcases e' with z | z
    · rw [z]; exact ⟨_, he, fun v q => nomatch q⟩
    · rw [z]; exact Src.cell_obj hi
  keep := fun i h h' st k => let ⟨⟨old, he⟩, hi, hne⟩ := st; ⟨⟨old, k e (by simp) _ he⟩, Src.cell_at hi fun o q => k it (by simp) o q, hne⟩
  item := by
    intro X hP hw hK hc i pins s σ H E I hf st hg
    subst hP hw hK
    obtain ⟨⟨old, he⟩, hit, hne⟩ := st
    obtain ⟨xs, x, hq, hx⟩ := hg
    obtain ⟨its, hs, hn, hP⟩ := Src.opened I hq
    have hel : e < s.heap.objs.size := Heap.lt_size he
    obtain ⟨oi, hoi, _⟩ := Src.cell_obj hit
    have hil : it < s.heap.objs.size := Heap.lt_size hoi
    have far : c.far it := Src.far_of (hf it (by simp)) I hq
    have fare : e ∉ c.fp it := Src.notin (Src.far_of (hf e (by simp)) I hq) hne
    have mem : it ∈ c.fp it := c.memfp it
    have G := GoesN.enumFrom (elts := elts) (x1 := kk) (pos := tpos) 0 (Src.draws (prog := X.prog) (w := X.w) (A := X.A.in1) (I.ok.hd hc) c it far its) e hne fare mem
    have hi : i < c.num its := by rw [hn]; exact (List.getElem?_eq_some_iff.mp hx).1
    refine wpAny_mono (G.goes i s (fun u s2 => ∃ x H', Inv X pins σ H' s2 ∧ RelV x u ∧ (ItE X.K c).yld i H x H' ∧ ((∃ old, IsEnum s2.heap e it (0 + ((i + 1 : Nat) : Int)) old) ∧ c.cell it (i + 1) s2.heap ∧ e ≠ it) ∧ ∀ b ∈ [e, it], H' b = none) E hi ⟨⟨old, he⟩, hit, hs⟩ fun v h' tk hY st' hk _ => ?_) (fun r s1 h => h) fun _ _ z => z
    obtain ⟨T, t, u, rfl, hT, hPu, hTup⟩ := hY
    have ru := hP i x hx u hPu
    have new : ObjOk X.prog X.w (upd H T (.tup [.int (i : Nat), x])) h' T (.tup [.int (i : Nat), x]) :=
      ⟨by show 2 ≤ sizeLine; decide, [.int (0 + (i : Int)) t, u], .cons ⟨t, by rw [Int.zero_add]⟩ (.cons ru .nil), hTup⟩
    have I1 : Inv X pins σ (upd H T (.tup [.int (i : Nat), x])) { s with heap := h', toks := tk } := I.turnedNew (ch := [e, it]) hk hf hT new
    refine ⟨.ref T, _, I1, rfl, ⟨T, x, rfl, I.hok.fresh hT, rfl, fun zs hz => Src.inj I hq hz ▸ hx⟩, ⟨st'.1, st'.2.1, hne⟩, fun b hb => ?_⟩
    have hb' : b < s.heap.objs.size := by
      have e' : b = e ∨ b = it := by simpa using hb
      rcases e' with z | z
      · rw [z]; exact hel
      · rw [z]; exact hil
    rw [upd_ne (Nat.ne_of_lt (Nat.lt_of_lt_of_le hb' hT))]
    exact (hf b hb).1
  done := by
    intro X hP hw hK hc i pins s σ H E I hf st hg
    subst hP hw hK
    obtain ⟨⟨old, he⟩, hit, hne⟩ := st
    obtain ⟨xs, hq, hx⟩ := hg
    obtain ⟨its, hs, hn, hP⟩ := Src.opened I hq
    have far : c.far it := Src.far_of (hf it (by simp)) I hq
    have fare : e ∉ c.fp it := Src.notin (Src.far_of (hf e (by simp)) I hq) hne
    have mem : it ∈ c.fp it := c.memfp it
    have G := GoesN.enumFrom (elts := elts) (x1 := kk) (pos := tpos) 0 (Src.draws (prog := X.prog) (w := X.w) (A := X.A.in1) (I.ok.hd hc) c it far its) e hne fare mem
    have hi : i = c.num its := by rw [hn, hx]
    subst hi
    refine G.stops s _ E ⟨⟨old, he⟩, hit, hs⟩ fun h' tk hk _ => ?_
    exact I.step (g' := s.gens) (d' := s.drawn) (ch := [e, it]) (fun b hb => ⟨(hf b hb).2.2.2.1, (hf b hb).2.1, (hf b hb).2.2.2.2.1, (hf b hb).2.2.2.2.2⟩) (fun b o _ _ hc' e _ => hk b o hc' e) (fun b o _ _ hc' e _ => ⟨o.slots, hk b o hc' e⟩)
      (fun _ _ _ _ n => n) (fun b o hc' e => ⟨o, hk b o hc' e⟩) (fun _ _ e => e) (fun _ _ _ e => e) (fun b ps e => ⟨#[], by rw [e]; simp⟩)
      (fun m hm => by
        obtain ⟨o, es, ep, ho, r⟩ := hm
        exact ⟨o, es, ep, hk _ o (fun z => (hf _ z).2.1 rfl) ho, r⟩)
      (fun b u e => (I.hok b u e).stay (fun x v hx q => hk x v (fun z => by
        have q1 := (hf x z).1
        rcases hx with hx | hx
        · subst hx; rw [q1] at e; cases e
        · rw [q1] at hx; cases hx) q) (fun _ q => q) fun _ _ q => q) I.bare
  self := fun A i s Q E st h => let ⟨⟨_, he⟩, _⟩ := st; wpAny_pyIter_enum he h
/-- what is told of a value that is walked -/
def SrcV (K : PySem.W.Frag) (v : V) (H : Hp) (R : (Tok → Src) → Prop) : Prop := match v with
  | .ref a => ((∃ xs, SqL K H a xs) ∧ R fun _ => .lst a) ∨ ((∃ xs, SqT K H a xs) ∧ R fun _ => .tup a)
  | .str z => R fun t => .txt z t
  | _ => False
/-- a reading that wants the iterator by the source, whatever its token -/
def iEnumS (K : PySem.W.Frag) (ta : TA) : TI := fun σ H R => ta σ H fun vs H1 => ∃ v, vs = [v] ∧ SrcV K v H1 fun c => ∀ t, R (ItE K (c t)) H1
theorem srcV_open {X : Cx} {pins : List (Addr × Obj)} {σ : L2.St} {H : Hp} {s : Shared} (I : Inv X pins σ H s) {v : V} {u : Value} (r : RelV v u) {R : Src → Prop} (h : SrcV X.K v H fun c => ∀ t, R (c t)) : ∃ c : Src, u = c.val ∧ (∃ xs, c.has X.K H xs) ∧ R c := by
  cases v with
  | ref a =>
    cases r
    rcases h with ⟨⟨xs, h1⟩, h2⟩ | ⟨⟨xs, h1⟩, h2⟩
    · exact ⟨.lst a, rfl, ⟨xs, h1⟩, h2 0⟩
    · exact ⟨.tup a, rfl, ⟨xs, h1⟩, h2 0⟩
  | str z =>
    obtain ⟨t, rfl⟩ := r
    exact ⟨.txt z t, rfl, ⟨_, rfl⟩, h t⟩
  | _ => exact h.elim
theorem pi_enumS {X : Cx} {e : Expr} {ta : TA} {p pos tpos : Pos} {elts : List Expr} {kk : Nat} (hg : Gl X "enumerate") (hm : X.mg "enumerate" = none) (ha : PA X [e] ta) (hs : starEach [e] X.env = [(false, eval e X.env)]) :
    PI X (.Tuple elts kk tpos) (.Call (.Name "enumerate" p) [e] [] pos) (iEnumS X.K ta) := by
  refine ⟨fun pins s σ H R I h => ?_⟩
  refine Call_ (ld_blt I hg hm boot_enumerate (PyProof.Rows.callWith_type1 (thn (ha.run pos pins s σ H _ I h) fun us s1 ⟨vs, H1, I1, r1, q1⟩ => ?_) hs rfl))
  obtain ⟨v, ex, q⟩ := q1
  subst ex
  obtain ⟨u, rfl, ru⟩ := vals1 r1
  obtain ⟨c, rfl, ⟨xs, hx⟩, q⟩ := srcV_open I1 ru (R := fun c => R (ItE X.K c) H1) q
  obtain ⟨its, hst, _, _⟩ := Src.opened I1 hx
  refine call_enum1 (c.begins its) hst fun h' he hit hk => wpAny_pyIter_enum he ?_
  have I2 : Inv X pins σ H1 { s1 with heap := h' } := I1.kept (t' := s1.toks) hk
  refine ⟨s1.heap.objs.size + 1, [s1.heap.objs.size + 1, s1.heap.objs.size], _, _, H1, rfl, I2, turn_enumS c (s1.heap.objs.size + 1) s1.heap.objs.size, ⟨⟨.none, he⟩, Src.cell0 hit, Nat.succ_ne_self _⟩, fun b hb => ?_, q⟩
  have e' : b = s1.heap.objs.size + 1 ∨ b = s1.heap.objs.size := by simpa using hb
  have hle : s1.heap.objs.size ≤ b := by
    rcases e' with z | z
    · rw [z]; exact Nat.le_succ _
    · rw [z]; exact Nat.le_refl _
  exact I1.fpOk hle (I1.hok.fresh hle)

/-! ### zip -/
def ItZ (K : PySem.W.Frag) (c1 c2 : Src) : L2.It :=
  ⟨fun i H => ∃ xs ys x y, c1.has K H xs ∧ c2.has K H ys ∧ xs[i]? = some x ∧ ys[i]? = some y,
    fun i H v H' => ∃ T x y, v = .ref T ∧ H T = none ∧ H' = upd H T (.tup [x, y]) ∧ ∀ xs ys, c1.has K H xs → c2.has K H ys → xs[i]? = some x ∧ ys[i]? = some y,
    fun i H => ∃ xs ys, c1.has K H xs ∧ c2.has K H ys ∧ min xs.length ys.length = i⟩
/-- the cells of a zip lie apart -/
structure Apart (z TI TO i1 i2 : Addr) : Prop where
  a1 : TI ≠ z
  a2 : TO ≠ z
  a3 : TI ≠ TO
  a4 : TI ≠ i1
  a5 : TI ≠ i2
  a6 : z ≠ i1
  a7 : z ≠ i2
  a8 : TO ≠ i1
  a9 : TO ≠ i2
  a10 : i1 ≠ i2
theorem Apart.sep {z TI TO i1 i2 : Addr} (D : Apart z TI TO i1 i2) {c1 c2 : Src} (f1 : ∀ b ∈ [z, TI, TO, i1, i2], c1.far b) (f2 : ∀ b ∈ [z, TI, TO, i1, i2], c2.far b) : ZipSep2 z TI TO i1 i2 (c1.fp i1) (c2.fp i2) :=
  ⟨D.a1, D.a2, D.a3, D.a4, c1.memfp i1, Src.notin (f1 _ (by simp)) D.a6, Src.notin (f1 _ (by simp)) D.a8, D.a5, c2.memfp i2, Src.notin (f2 _ (by simp)) D.a7, Src.notin (f2 _ (by simp)) D.a9,
    Src.notin (f2 _ (by simp)) D.a10, Src.notin (f1 _ (by simp)) (Ne.symm D.a10)⟩
theorem turn_zipS {P : Program} {w : World} {K : PySem.W.Frag} {elts : List Expr} {kk : Nat} {tpos : Pos} (c1 c2 : Src) {z TI TO i1 i2 : Addr} (D : Apart z TI TO i1 i2) :
    Turn P w K (.Tuple elts kk tpos) (ItZ K c1 c2) [z, TI, TO, i1, i2] z (fun i h => IsZip h z TI TO .none ∧ IsTupOf2 h TI (.ref i1) (.ref i2) ∧ (∃ a1 a2, IsTupOf2 h TO a1 a2) ∧ c1.cell i1 i h ∧ c2.cell i2 i h) where
  mem := by simp
  obj := fun i h st b hb => by
    obtain ⟨hz, hTI, ⟨x, y, hTO⟩, h1, h2⟩ := st
    have e' : b = z ∨ b = TI ∨ b = TO ∨ b = i1 ∨ b = i2 := by simpa using hb
    rcases e' with q | q | q | q | q
    · rw [q]; exact ⟨_, hz, fun v q => nomatch q⟩
    · rw [q]; exact ⟨_, hTI, fun v q => nomatch q⟩
    · rw [q]; exact ⟨_, hTO, fun v q => nomatch q⟩
    · rw [q]; exact Src.cell_obj h1
    · rw [q]; exact Src.cell_obj h2
  keep := fun i h h' st k => by
    obtain ⟨hz, hTI, ⟨x, y, hTO⟩, h1, h2⟩ := st
    exact ⟨k z (by simp) _ hz, k TI (by simp) _ hTI, ⟨x, y, k TO (by simp) _ hTO⟩, Src.cell_at h1 fun o q => k i1 (by simp) o q, Src.cell_at h2 fun o q => k i2 (by simp) o q⟩
  item := by
    intro X hP hw hK hc i pins s σ H E I hf st hg
    subst hP hw hK
    have st0 := st
    obtain ⟨hz, hTI, hTO, h1, h2⟩ := st
    obtain ⟨xs, ys, x, y, hq1, hq2, hx, hy⟩ := hg
    obtain ⟨its1, hs1, hn1, hP1⟩ := Src.opened I hq1
    obtain ⟨its2, hs2, hn2, hP2⟩ := Src.opened I hq2
    have F1 : ∀ b ∈ [z, TI, TO, i1, i2], c1.far b := fun b hb => Src.far_of (hf b hb) I hq1
    have F2 : ∀ b ∈ [z, TI, TO, i1, i2], c2.far b := fun b hb => Src.far_of (hf b hb) I hq2
    have G := GoesN.zip2 (elts := elts) (x1 := kk) (pos := tpos) (D.sep F1 F2) (Src.draws (prog := X.prog) (w := X.w) (A := X.A.in1) (I.ok.hd hc) c1 i1 (F1 _ (by simp)) its1) (Src.draws (prog := X.prog) (w := X.w) (A := X.A.in1) (I.ok.hd hc) c2 i2 (F2 _ (by simp)) its2)
    have hi : i < min (c1.num its1) (c2.num its2) := by
      rw [hn1, hn2]
      exact Nat.lt_min.mpr ⟨(List.getElem?_eq_some_iff.mp hx).1, (List.getElem?_eq_some_iff.mp hy).1⟩
    have hb0 : ∀ b ∈ [z, TI, TO, i1, i2], b < s.heap.objs.size := fun b hb => by
      have e' : b = z ∨ b = TI ∨ b = TO ∨ b = i1 ∨ b = i2 := by simpa using hb
      rcases e' with q | q | q | q | q
      · rw [q]; exact Heap.lt_size hz
      · rw [q]; exact Heap.lt_size hTI
      · rw [q]; obtain ⟨_, _, e⟩ := hTO; exact Heap.lt_size e
      · rw [q]; obtain ⟨o, e, _⟩ := Src.cell_obj h1; exact Heap.lt_size e
      · rw [q]; obtain ⟨o, e, _⟩ := Src.cell_obj h2; exact Heap.lt_size e
    refine wpAny_mono (G.goes i s (fun u s2 => ∃ x H', Inv X pins σ H' s2 ∧ RelV x u ∧ (ItZ X.K c1 c2).yld i H x H' ∧ (IsZip s2.heap z TI TO .none ∧ IsTupOf2 s2.heap TI (.ref i1) (.ref i2) ∧ (∃ a1 a2, IsTupOf2 s2.heap TO a1 a2) ∧ c1.cell i1 (i + 1) s2.heap ∧ c2.cell i2 (i + 1) s2.heap) ∧ ∀ b ∈ [z, TI, TO, i1, i2], H' b = none) E hi ⟨hz, hTI, hTO, ⟨h1, hs1⟩, ⟨h2, hs2⟩⟩ fun v h' tk hY st' hk _ => ?_) (fun r s1 h => h) fun _ _ z => z
    obtain ⟨T, u1, u2, rfl, hT, p1, p2, hTup⟩ := hY
    have r1 := hP1 i x hx u1 p1
    have r2 := hP2 i y hy u2 p2
    have new : ObjOk X.prog X.w (upd H T (.tup [x, y])) h' T (.tup [x, y]) := ⟨by show 2 ≤ sizeLine; decide, [u1, u2], .cons r1 (.cons r2 .nil), hTup⟩
    have I1 : Inv X pins σ (upd H T (.tup [x, y])) { s with heap := h', toks := tk } := I.turnedNew (ch := [z, TO, i1, i2]) hk (fun b hb => hf b (by simp at hb ⊢; rcases hb with e | e | e | e <;> simp [e])) hT new
    exact ⟨.ref T, _, I1, rfl, ⟨T, x, y, rfl, I.hok.fresh hT, rfl, fun zs ws h1 h2 => ⟨Src.inj I hq1 h1 ▸ hx, Src.inj I hq2 h2 ▸ hy⟩⟩, ⟨st'.1, st'.2.1, st'.2.2.1, st'.2.2.2.1.1, st'.2.2.2.2.1⟩, fun b hb => by
      rw [upd_ne (Nat.ne_of_lt (Nat.lt_of_lt_of_le (hb0 b hb) hT))]
      exact (hf b hb).1⟩
  done := by
    intro X hP hw hK hc i pins s σ H E I hf st hg
    subst hP hw hK
    obtain ⟨hz, hTI, hTO, h1, h2⟩ := st
    obtain ⟨xs, ys, hq1, hq2, hx⟩ := hg
    obtain ⟨its1, hs1, hn1, hP1⟩ := Src.opened I hq1
    obtain ⟨its2, hs2, hn2, hP2⟩ := Src.opened I hq2
    have F1 : ∀ b ∈ [z, TI, TO, i1, i2], c1.far b := fun b hb => Src.far_of (hf b hb) I hq1
    have F2 : ∀ b ∈ [z, TI, TO, i1, i2], c2.far b := fun b hb => Src.far_of (hf b hb) I hq2
    have G := GoesN.zip2 (elts := elts) (x1 := kk) (pos := tpos) (D.sep F1 F2) (Src.draws (prog := X.prog) (w := X.w) (A := X.A.in1) (I.ok.hd hc) c1 i1 (F1 _ (by simp)) its1) (Src.draws (prog := X.prog) (w := X.w) (A := X.A.in1) (I.ok.hd hc) c2 i2 (F2 _ (by simp)) its2)
    have hi : i = min (c1.num its1) (c2.num its2) := by rw [hn1, hn2, hx]
    subst hi
    refine G.stops s _ E ⟨hz, hTI, hTO, ⟨h1, hs1⟩, ⟨h2, hs2⟩⟩ fun h' tk hk _ => ?_
    have hf' : ∀ b ∈ [z, TO, i1, i2], FpOk X pins H b := fun b hb => hf b (by simp at hb ⊢; rcases hb with e | e | e | e <;> simp [e])
    exact I.step (g' := s.gens) (d' := s.drawn) (ch := [z, TO, i1, i2]) (fun b hb => ⟨(hf' b hb).2.2.2.1, (hf' b hb).2.1, (hf' b hb).2.2.2.2.1, (hf' b hb).2.2.2.2.2⟩) (fun b o _ _ hc' e _ => hk b o hc' e) (fun b o _ _ hc' e _ => ⟨o.slots, hk b o hc' e⟩)
      (fun _ _ _ _ n => n) (fun b o hc' e => ⟨o, hk b o hc' e⟩) (fun _ _ e => e) (fun _ _ _ e => e) (fun b ps e => ⟨#[], by rw [e]; simp⟩)
      (fun m hm => by
        obtain ⟨o, es, ep, ho, r⟩ := hm
        exact ⟨o, es, ep, hk _ o (fun z => (hf' _ z).2.1 rfl) ho, r⟩)
      (fun b u e => (I.hok b u e).stay (fun x v hx q => hk x v (fun z => by
        have q1 := (hf' x z).1
        rcases hx with hx | hx
        · subst hx; rw [q1] at e; cases e
        · rw [q1] at hx; cases hx) q) (fun _ q => q) fun _ _ q => q) I.bare
  self := fun A i s Q E st h => wpAny_pyIter_zip st.1 h
def iZipS (K : PySem.W.Frag) (ta : TA) : TI := fun σ H R => ta σ H fun vs H1 => ∃ v u, vs = [v, u] ∧ SrcV K v H1 fun c1 => ∀ t, SrcV K u H1 fun c2 => ∀ t2, R (ItZ K (c1 t) (c2 t2)) H1
theorem pi_zipS {X : Cx} {e e2 : Expr} {ta : TA} {p pos tpos : Pos} {elts : List Expr} {kk : Nat} (hg : Gl X "zip") (hm : X.mg "zip" = none) (ha : PA X [e, e2] ta)
    (hs : starEach [e, e2] X.env = (false, eval e X.env) :: starEach [e2] X.env) (hpl : (backTo pos (starEach [e2] X.env)).any (·.1) = false) :
    PI X (.Tuple elts kk tpos) (.Call (.Name "zip" p) [e, e2] [] pos) (iZipS X.K ta) := by
  refine ⟨fun pins s σ H R I h => ?_⟩
  refine Call_ (ld_blt I hg hm PyProof.Rows.boot_zip (PyProof.Rows.callWith_type1 (thn (ha.run pos pins s σ H _ I h) fun us s1 ⟨vs, H1, I1, r1, q1⟩ => ?_) hs hpl))
  obtain ⟨v, u, ex, q⟩ := q1
  subst ex
  obtain ⟨w1, w2, rfl, r1, r2⟩ := vals2 r1
  obtain ⟨c1, rfl, ⟨xs, hx⟩, q⟩ := srcV_open I1 r1 (R := fun c1 => SrcV X.K u H1 fun c2 => ∀ t2, R (ItZ X.K c1 (c2 t2)) H1) q
  obtain ⟨c2, rfl, ⟨ys, hy⟩, q⟩ := srcV_open I1 r2 (R := fun c2 => R (ItZ X.K c1 c2) H1) q
  obtain ⟨its1, hst1, _, _⟩ := Src.opened I1 hx
  obtain ⟨its2, hst2, _, _⟩ := Src.opened I1 hy
  refine zip_begins2 (c1.begins its1) (c2.begins its2) hst1 hst2 fun h' hz hTI hTO e1 e2 hsz hk => wpAny_pyIter_zip hz ?_
  have I2 : Inv X pins σ H1 { s1 with heap := h' } := I1.kept (t' := s1.toks) hk
  have D : Apart (s1.heap.objs.size + 4) (s1.heap.objs.size + 2) (s1.heap.objs.size + 3) s1.heap.objs.size (s1.heap.objs.size + 1) := by
    constructor <;> (intro q; have q' : (_ : Nat) = _ := q; omega)
  refine ⟨s1.heap.objs.size + 4, _, _, _, H1, rfl, I2, turn_zipS c1 c2 D, ⟨hz, hTI, ⟨_, _, hTO⟩, Src.cell0 e1, Src.cell0 e2⟩, fun b hb => ?_, q⟩
  have hle : s1.heap.objs.size ≤ b := by
    have e' : b = s1.heap.objs.size + 4 ∨ b = s1.heap.objs.size + 2 ∨ b = s1.heap.objs.size + 3 ∨ b = s1.heap.objs.size ∨ b = s1.heap.objs.size + 1 := by simpa using hb
    rcases e' with q | q | q | q | q
    · rw [q]; exact Nat.le_add_right _ _
    · rw [q]; exact Nat.le_add_right _ _
    · rw [q]; exact Nat.le_add_right _ _
    · rw [q]; exact Nat.le_refl _
    · rw [q]; exact Nat.le_add_right _ _
  exact I1.fpOk hle (I1.hok.fresh hle)
end Pd

/-! Pd8: the readings by the evaluator; the pieces of the soundness. -/
namespace Pd
open PySem PySem.Spec PyProof.Rows L2

def bltNames : List Str := ["len", "abs", "int", "list", "tuple", "dict", "sum", "min", "max", "all", "any", "sorted", "range", "isinstance", "repr", "str", "enumerate", "zip", "bool", "set"]
structure Sig where
  fns : List (Str × List Str)
  gvs : List (Str × D)
/-- what a call of a def promises -/
def spC (Φ : Calls) (f : Str) (k : Nat) : Sp := fun vs H Q _ => ∃ M Λ S ds d S', RelS M Λ S H ∧ RVs M Λ H ds vs ∧ ds.length = k ∧ Φ f ds S = some (d, S') ∧ ∀ v H' Λ', Step Λ H Λ' H' → RelS M Λ' S' H' → RV M Λ' H' d v → Q v H'
structure OkX (G : Sig) (Φ : Calls) (n : Nat) (X : Cx) : Prop where
  nd : X.N.Nodup
  calm : X.calm = true
  room : Room n X.A
  blt : ∀ x ∈ bltNames, X.mg x = none
  fn : ∀ f ps, G.fns.lookup f = some ps → ∃ a fd, X.mg f = some (.ref a) ∧ PySem.W.keepIn X.K (.ref a) = true ∧ Binds X.K fd ps [] ∧ FnOk X.prog X.w X.K X.mg X.base CX0 n a fd ps (spC Φ f ps.length)
  gv : ∀ x d, G.gvs.lookup x = some d → ∃ v u, X.mg x = some u ∧ RelV v u ∧ ∀ M Λ H, RV M Λ H d v

def tE (f : Env → Store → Option (D × Store)) : TE := fun σ H Q => ∃ M ρ S Λ d S', RelS M Λ S H ∧ RelE M Λ H ρ σ ∧ f ρ S = some (d, S') ∧ ∀ v H' Λ', Step Λ H Λ' H' → RelS M Λ' S' H' → RV M Λ' H' d v → Q v H'
def tT (f : Env → Store → Option (D × Store)) : TT := fun σ H Q => ∃ M ρ S Λ b S', RelS M Λ S H ∧ RelE M Λ H ρ σ ∧ f ρ S = some (.bl b, S') ∧ ∀ H' Λ', Step Λ H Λ' H' → RelS M Λ' S' H' → Q b H'
def tA (f : Env → Store → Option (List D × Store)) : TA := fun σ H Q => ∃ M ρ S Λ ds S', RelS M Λ S H ∧ RelE M Λ H ρ σ ∧ f ρ S = some (ds, S') ∧ ∀ vs H' Λ', Step Λ H Λ' H' → RelS M Λ' S' H' → RVs M Λ' H' ds vs → Q vs H'
theorem PE.imp {X : Cx} {e : Expr} {t t' : TE} (h : PE X e t) (i : ∀ σ H Q, t' σ H Q → t σ H Q) : PE X e t' := ⟨fun pins s σ H Q I q => h.run pins s σ H Q I (i σ H Q q)⟩
theorem PT.imp {X : Cx} {e : Expr} {t t' : TT} (h : PT X e t) (i : ∀ σ H Q, t' σ H Q → t σ H Q) : PT X e t' := ⟨fun pins s σ H Q I q => h.run pins s σ H Q I (i σ H Q q)⟩
theorem PW.imp {X : Cx} {e : Expr} {t t' : TT} (h : PW X e t) (i : ∀ σ H Q, t' σ H Q → t σ H Q) : PW X e t' := ⟨fun wh pins s σ H Q I q => h.run wh pins s σ H Q I (i σ H Q q)⟩
theorem PA.imp {X : Cx} {e : List Expr} {t t' : TA} (h : PA X e t) (i : ∀ σ H Q, t' σ H Q → t σ H Q) : PA X e t' := ⟨fun pos pins s σ H Q I q => h.run pos pins s σ H Q I (i σ H Q q)⟩
theorem PI.imp {X : Cx} {tg e : Expr} {t t' : TI} (h : PI X tg e t) (i : ∀ σ H Q, t' σ H Q → t σ H Q) : PI X tg e t' := ⟨fun pins s σ H Q I q => h.run pins s σ H Q I (i σ H Q q)⟩
theorem PE.or {X : Cx} {e : Expr} {t t' : TE} (h : PE X e t) (h' : PE X e t') : PE X e (fun σ H Q => t σ H Q ∨ t' σ H Q) := ⟨fun pins s σ H Q I q => q.elim (h.run pins s σ H Q I) (h'.run pins s σ H Q I)⟩
theorem PI.or {X : Cx} {tg e : Expr} {t t' : TI} (h : PI X tg e t) (h' : PI X tg e t') : PI X tg e (fun σ H Q => t σ H Q ∨ t' σ H Q) := ⟨fun pins s σ H Q I q => q.elim (h.run pins s σ H Q I) (h'.run pins s σ H Q I)⟩

section
variable {M : Addr → Prop} {Λ Λ' : List Addr} {H H' : Hp} {S S' : Store} {d : D} {v : V} {Q : VK} {X : Cx} {ρ : Env} {σ : L2.St}
/-- a primitive's end -/
theorem fin_prk {r : PR} {k : Bool} (hd : ∀ t ks vs, r ≠ .new (.dv t ks vs) ∨ k = true) (R : RelS M Λ S H) (q : ∀ v H' Λ', Step Λ H Λ' H' → RelS M Λ' (fin k r S).2 H' → RV M Λ' H' (fin k r S).1 v → Q v H') : PRk M Λ r H Q := by
  cases r with
  | val d => exact fun v H1 s r => q v H1 Λ (Step.same s) (R.same s) r
  | new c =>
    intro a H1 ho s hn r
    have R1 := R.same s
    cases k with
    | true =>
      obtain ⟨z1, z2, z3⟩ := adopt R1 hn r
      exact q _ _ _ ((Step.same s).trans z3) z1 z2
    | false =>
      cases r with
      | lst r =>
        obtain ⟨z1, z2, z3⟩ := freeze R1 hn r
        exact q _ _ _ ((Step.same s).trans z3) z1 z2
      | dK _ _ => exact absurd rfl ((hd _ _ _).resolve_right (by simp))
      | dT _ _ => exact absurd rfl ((hd _ _ _).resolve_right (by simp))
theorem tE_of {f : Env → Store → Option (D × Store)} {d : D} {S' : Store} (R : RelS M Λ S H) (RE : RelE M Λ H ρ σ) (h : f ρ S = some (d, S')) (q : ∀ v H' Λ', Step Λ H Λ' H' → RelS M Λ' S' H' → RV M Λ' H' d v → Q v H') : tE f σ H Q :=
  ⟨M, ρ, S, Λ, d, S', R, RE, h, q⟩

/-! ### names, constants -/
theorem se_var {i : Nat} {x : Str} {pos : Pos} (hN : X.N[i]? = some x) (hv : Vis X.env.scope x) (hd : (x == ("__debug__" : Str)) = false) (hcd : (x == ("__classdict__" : Str)) = false) {f : Env → Store → Option (D × Store)}
    (hf : ∀ ρ S d S', f ρ S = some (d, S') → ρ[i]? = some (some d) ∧ S' = S) : PE X (.Name x pos) (tE f) :=
  PE.imp (pe_var hN hv hd hcd) fun σ H Q ⟨M, ρ, S, Λ, d, S', R, RE, h, q⟩ => by
    obtain ⟨h1, rfl⟩ := hf _ _ _ _ h
    obtain ⟨v, h2, r⟩ := RE.2 i d h1
    exact ⟨v, h2, q v H Λ Step.refl R r⟩
theorem se_const {e : Expr} {v : V} {d : D} (hp : PE X e (tC v)) (hr : ∀ M Λ H, RV M Λ H d v) {f : Env → Store → Option (D × Store)} (hf : ∀ ρ S d' S', f ρ S = some (d', S') → d' = d ∧ S' = S) : PE X e (tE f) :=
  PE.imp hp fun σ H Q ⟨M, ρ, S, Λ, d', S', R, RE, h, q⟩ => by
    obtain ⟨rfl, rfl⟩ := hf _ _ _ _ h
    exact q v H Λ Step.refl R (hr _ _ _)
/-! ### operators -/
variable {a b c : Expr} {fa fb fc : Env → Store → Option (D × Store)} {pos : Pos}
theorem se_op (o : Op2) (ha : PE X a (tE fa)) (hb : PE X b (tE fb)) : PE X (.BinOp a (astOp o) b pos) (tE fun ρ S => (fa ρ S).bind fun x => (fb ρ x.2).bind fun y => (opS o x.1 y.1 y.2).map fun r => fin false r y.2) :=
  PE.imp (pe_op (opr o) ha hb) fun σ H Q ⟨M, ρ, S, Λ, d, S', R, RE, h, q⟩ => by
    simp only [Option.bind_eq_some_iff, Option.map_eq_some_iff] at h
    obtain ⟨⟨x, S1⟩, h1, ⟨y, S2⟩, h2, r, h3, e⟩ := h
    refine tE_of R RE h1 fun v1 H1 Λ1 s1 R1 r1 => tE_of R1 (RE.step R s1) h2 fun v2 H2 Λ2 s2 R2 r2 => ⟨M, Λ2, S2, x, y, r, R2, r1.step R1 s2, r2, h3, ?_⟩
    refine fin_prk (k := false) (fun t ks vs => .inl fun z => ?_) R2 fun v H' Λ' s3 R3 r3 => ?_
    · subst z
      unfold opS at h3
      split at h3 <;> (repeat' split at h3) <;> simp at h3
    · simp only at e R3 r3
      rw [e] at R3 r3
      exact q v H' Λ' (s1.trans (s2.trans s3)) R3 r3
theorem se_neg (ha : PE X a (tE fa)) : PE X (.UnaryOp .USub a pos) (tE fun ρ S => (fa ρ S).bind fun x => match x.1 with | .int i => some (.int (-i), x.2) | _ => none) :=
  PE.imp (pe_un unr_neg ha) fun σ H Q ⟨M, ρ, S, Λ, d, S', R, RE, h, q⟩ => by
    simp only [Option.bind_eq_some_iff] at h
    obtain ⟨⟨x, S1⟩, h1, h⟩ := h
    split at h <;> first | contradiction | skip
    rename_i i e
    simp only at e
    subst e
    simp only [Option.some.injEq, Prod.mk.injEq] at h
    obtain ⟨rfl, rfl⟩ := h
    exact tE_of R RE h1 fun v1 H1 Λ1 s1 R1 r1 => ⟨M, Λ1, i, r1, q _ _ _ s1 R1 (.int _)⟩
theorem se_cmp (hu : X.A.units + 64 < cLine) (o : Cmp) (ha : PE X a (tE fa)) (hb : PE X b (tE fb)) (hm : behindInMarks (astCmp o) b = false) :
    PE X (.Compare a [astCmp o] [b] pos) (tE fun ρ S => (fa ρ S).bind fun x => (fb ρ x.2).bind fun y => (cmpS o x.1 y.1 y.2).map fun r => (.bl r, y.2)) ∧
    PT X (.Compare a [astCmp o] [b] pos) (tT fun ρ S => (fa ρ S).bind fun x => (fb ρ x.2).bind fun y => (cmpS o x.1 y.1 y.2).map fun r => (.bl r, y.2)) := by
  constructor
  · refine PE.imp (pe_cmpR (cmpr hu o) ha hb hm) fun σ H Q ⟨M, ρ, S, Λ, d, S', R, RE, h, q⟩ => ?_
    simp only [Option.bind_eq_some_iff, Option.map_eq_some_iff, Prod.mk.injEq] at h
    obtain ⟨⟨x, S1⟩, h1, ⟨y, S2⟩, h2, r, h3, rfl, rfl⟩ := h
    exact tE_of R RE h1 fun v1 H1 Λ1 s1 R1 r1 => tE_of R1 (RE.step R s1) h2 fun v2 H2 Λ2 s2 R2 r2 => ⟨M, Λ2, S2, x, y, r, R2, r1.step R1 s2, r2, h3, q _ _ _ (s1.trans s2) R2 (.bl _)⟩
  · refine PT.imp (pt_cmpR (cmpr hu o) ha hb hm) fun σ H Q ⟨M, ρ, S, Λ, d, S', R, RE, h, q⟩ => ?_
    simp only [Option.bind_eq_some_iff, Option.map_eq_some_iff, Prod.mk.injEq] at h
    obtain ⟨⟨x, S1⟩, h1, ⟨y, S2⟩, h2, r, h3, e, rfl⟩ := h
    cases e
    exact tE_of R RE h1 fun v1 H1 Λ1 s1 R1 r1 => tE_of R1 (RE.step R s1) h2 fun v2 H2 Λ2 s2 R2 r2 => ⟨M, Λ2, S2, x, y, _, R2, r1.step R1 s2, r2, h3, _, rfl, q _ _ (s1.trans s2) R2⟩
theorem chain_read {o p : Cmp} {σ : L2.St} {H : Hp} {Q : VK} (h : tE (fun ρ S => (fa ρ S).bind fun x => (fb ρ x.2).bind fun y => (cmpS o x.1 y.1 y.2).bind fun r =>
    if r then (fc ρ y.2).bind fun z => (cmpS p y.1 z.1 z.2).map fun q => (.bl q, z.2) else some (.bl false, y.2)) σ H Q) : tChain (rB (cmpS o)) (rB (cmpS p)) (tE fa) (tE fb) (tE fc) σ H Q := by
  obtain ⟨M, ρ, S, Λ, d, S', R, RE, h, q⟩ := h
  simp only [Option.bind_eq_some_iff] at h
  obtain ⟨⟨x, S1⟩, h1, ⟨y, S2⟩, h2, r, h3, h⟩ := h
  refine tE_of R RE h1 fun v1 H1 Λ1 s1 R1 r1 => tE_of R1 (RE.step R s1) h2 fun v2 H2 Λ2 s2 R2 r2 => ⟨M, Λ2, S2, x, y, r, R2, r1.step R1 s2, r2, h3, r, rfl, ?_⟩
  cases r with
  | true =>
    simp only [if_true, Option.bind_eq_some_iff, Option.map_eq_some_iff, Prod.mk.injEq] at h
    obtain ⟨⟨z, S3⟩, h4, r', h5, rfl, rfl⟩ := h
    refine iteT ?_
    exact tE_of R2 ((RE.step R s1).step R1 s2) h4 fun v3 H3 Λ3 s3 R3 r3 => ⟨M, Λ3, S3, y, z, r', R3, r2.step R2 s3, r3, h5, q _ _ _ (s1.trans (s2.trans s3)) R3 (.bl _)⟩
  | false =>
    simp only [Bool.false_eq_true, if_false, Option.some.injEq, Prod.mk.injEq] at h
    obtain ⟨rfl, rfl⟩ := h
    exact iteF (q _ _ _ (s1.trans s2) R2 (.bl _))
theorem tT_tE {f : Env → Store → Option (D × Store)} {σ : L2.St} {H : Hp} {Q : Bool → Hp → Prop} (h : tT f σ H Q) : tE f σ H fun v H' => ∃ k, v = .bl k ∧ Q k H' := by
  obtain ⟨M, ρ, S, Λ, d, S', R, RE, h, q⟩ := h
  exact tE_of R RE h fun v H' Λ' s R' r => ⟨d, bl_of r, q H' Λ' s R'⟩
theorem se_chain (hu : X.A.units + 64 < cLine) (o p : Cmp) (ha : PE X a (tE fa)) (hb : PE X b (tE fb)) (hc : PE X c (tE fc)) (hm : lastMarks [astCmp o, astCmp p] [b, c] = false) :
    PE X (.Compare a [astCmp o, astCmp p] [b, c] pos) (tE fun ρ S => (fa ρ S).bind fun x => (fb ρ x.2).bind fun y => (cmpS o x.1 y.1 y.2).bind fun r =>
      if r then (fc ρ y.2).bind fun z => (cmpS p y.1 z.1 z.2).map fun q => (.bl q, z.2) else some (.bl false, y.2)) ∧
    PT X (.Compare a [astCmp o, astCmp p] [b, c] pos) (tT fun ρ S => (fa ρ S).bind fun x => (fb ρ x.2).bind fun y => (cmpS o x.1 y.1 y.2).bind fun r =>
      if r then (fc ρ y.2).bind fun z => (cmpS p y.1 z.1 z.2).map fun q => (.bl q, z.2) else some (.bl false, y.2)) :=
  ⟨PE.imp (pe_chain (cmpr hu o) (cmpr hu p) ha hb hc hm) fun σ H Q h => chain_read h, PT.imp (pt_chain (cmpr hu o) (cmpr hu p) ha hb hc hm) fun σ H Q h => chain_read (tT_tE h)⟩

/-! ### and, or, not, if -/
abbrev fAnd (fa fb : Env → Store → Option (D × Store)) : Env → Store → Option (D × Store) := fun ρ S => (fa ρ S).bind fun x => match x.1 with
    | .bl k => if k = true then fb ρ x.2 else some (.bl false, x.2)
    | _ => none
abbrev fOr (fa fb : Env → Store → Option (D × Store)) : Env → Store → Option (D × Store) := fun ρ S => (fa ρ S).bind fun x => match x.1 with
    | .bl k => if k = true then some (.bl true, x.2) else fb ρ x.2
    | _ => none
theorem and_split {ρ : Env} {S S' : Store} {d : D} (h : fAnd fa fb ρ S = some (d, S')) : ∃ k S1, fa ρ S = some (.bl k, S1) ∧ (k = true ∧ fb ρ S1 = some (d, S') ∨ k = false ∧ d = .bl false ∧ S' = S1) := by
  simp only [fAnd, Option.bind_eq_some_iff] at h
  obtain ⟨⟨x, S1⟩, h1, h⟩ := h
  split at h <;> first | contradiction | skip
  rename_i k e
  cases k with
  | true =>
    rw [if_pos rfl] at h
    exact ⟨true, S1, by rw [h1]; simp only at e; rw [e], .inl ⟨rfl, h⟩⟩
  | false =>
    rw [if_neg Bool.false_ne_true] at h
    simp only [Option.some.injEq, Prod.mk.injEq] at h
    exact ⟨false, S1, by rw [h1]; simp only at e; rw [e], .inr ⟨rfl, h.1.symm, h.2.symm⟩⟩
theorem or_split {ρ : Env} {S S' : Store} {d : D} (h : fOr fa fb ρ S = some (d, S')) : ∃ k S1, fa ρ S = some (.bl k, S1) ∧ (k = false ∧ fb ρ S1 = some (d, S') ∨ k = true ∧ d = .bl true ∧ S' = S1) := by
  simp only [fOr, Option.bind_eq_some_iff] at h
  obtain ⟨⟨x, S1⟩, h1, h⟩ := h
  split at h <;> first | contradiction | skip
  rename_i k e
  cases k with
  | true =>
    rw [if_pos rfl] at h
    simp only [Option.some.injEq, Prod.mk.injEq] at h
    exact ⟨true, S1, by rw [h1]; simp only at e; rw [e], .inr ⟨rfl, h.1.symm, h.2.symm⟩⟩
  | false =>
    rw [if_neg Bool.false_ne_true] at h
    exact ⟨false, S1, by rw [h1]; simp only at e; rw [e], .inl ⟨rfl, h⟩⟩
theorem se_and {rest : List Expr} (ha : PE X a (tE fa)) (hb : PE X (.BoolOp .And (b :: rest) pos) (tE fb)) : PE X (.BoolOp .And (a :: b :: rest) pos) (tE (fAnd fa fb)) :=
  PE.imp (pe_and ha hb) fun σ H Q ⟨M, ρ, S, Λ, d, S', R, RE, h, q⟩ => by
    obtain ⟨k, S1, h1, h⟩ := and_split h
    refine tE_of R RE h1 fun v1 H1 Λ1 s1 R1 r1 => ⟨k, bl_of r1, ?_⟩
    rcases h with ⟨rfl, h⟩ | ⟨rfl, rfl, rfl⟩
    · exact iteT (tE_of R1 (RE.step R s1) h fun v2 H2 Λ2 s2 R2 r2 => q _ _ _ (s1.trans s2) R2 r2)
    · exact iteF (q _ _ _ s1 R1 (.bl _))
theorem se_or {rest : List Expr} (ha : PE X a (tE fa)) (hb : PE X (.BoolOp .Or (b :: rest) pos) (tE fb)) : PE X (.BoolOp .Or (a :: b :: rest) pos) (tE (fOr fa fb)) :=
  PE.imp (pe_or ha hb) fun σ H Q ⟨M, ρ, S, Λ, d, S', R, RE, h, q⟩ => by
    obtain ⟨k, S1, h1, h⟩ := or_split h
    refine tE_of R RE h1 fun v1 H1 Λ1 s1 R1 r1 => ⟨k, bl_of r1, ?_⟩
    rcases h with ⟨rfl, h⟩ | ⟨rfl, rfl, rfl⟩
    · exact iteF (tE_of R1 (RE.step R s1) h fun v2 H2 Λ2 s2 R2 r2 => q _ _ _ (s1.trans s2) R2 r2)
    · exact iteT (q _ _ _ s1 R1 (.bl _))
theorem st_and {rest : List Expr} (ha : PT X a (tT fa)) (hb : PW X (.BoolOp .And (b :: rest) pos) (tT fb)) : PW X (.BoolOp .And (a :: b :: rest) pos) (tT (fAnd fa fb)) :=
  PW.imp (pw_and ha hb) fun σ H Q ⟨M, ρ, S, Λ, d, S', R, RE, h, q⟩ => by
    obtain ⟨k, S1, h1, h⟩ := and_split h
    refine ⟨M, ρ, S, Λ, k, S1, R, RE, h1, fun H1 Λ1 s1 R1 => ?_⟩
    rcases h with ⟨rfl, h⟩ | ⟨rfl, e, rfl⟩
    · exact iteT ⟨M, ρ, S1, Λ1, d, S', R1, RE.step R s1, h, fun H2 Λ2 s2 R2 => q _ _ (s1.trans s2) R2⟩
    · cases e
      exact iteF (q _ _ s1 R1)
theorem st_or {rest : List Expr} (ha : PT X a (tT fa)) (hb : PW X (.BoolOp .Or (b :: rest) pos) (tT fb)) : PW X (.BoolOp .Or (a :: b :: rest) pos) (tT (fOr fa fb)) :=
  PW.imp (pw_or ha hb) fun σ H Q ⟨M, ρ, S, Λ, d, S', R, RE, h, q⟩ => by
    obtain ⟨k, S1, h1, h⟩ := or_split h
    refine ⟨M, ρ, S, Λ, k, S1, R, RE, h1, fun H1 Λ1 s1 R1 => ?_⟩
    rcases h with ⟨rfl, h⟩ | ⟨rfl, e, rfl⟩
    · exact iteF ⟨M, ρ, S1, Λ1, d, S', R1, RE.step R s1, h, fun H2 Λ2 s2 R2 => q _ _ (s1.trans s2) R2⟩
    · cases e
      exact iteT (q _ _ s1 R1)
abbrev fNot (fa : Env → Store → Option (D × Store)) : Env → Store → Option (D × Store) := fun ρ S => (fa ρ S).bind fun x => match x.1 with
    | .bl b => some (.bl (!b), x.2)
    | _ => none
theorem not_split {ρ : Env} {S S' : Store} {d : D} (h : fNot fa ρ S = some (d, S')) : ∃ k, fa ρ S = some (.bl k, S') ∧ d = .bl (!k) := by
  simp only [fNot, Option.bind_eq_some_iff] at h
  obtain ⟨⟨x, S1⟩, h1, h⟩ := h
  split at h <;> first | contradiction | skip
  rename_i k e
  simp only [Option.some.injEq, Prod.mk.injEq] at h
  simp only at e
  exact ⟨k, by rw [h1, e, h.2], h.1.symm⟩
theorem se_not (ha : PE X a (tE fa)) : PE X (.UnaryOp .Not a pos) (tE (fNot fa)) :=
  PE.imp (pe_not ha) fun σ H Q ⟨M, ρ, S, Λ, d, S', R, RE, h, q⟩ => by
    obtain ⟨k, h1, rfl⟩ := not_split h
    exact tE_of R RE h1 fun v1 H1 Λ1 s1 R1 r1 => ⟨k, bl_of r1, q _ _ _ s1 R1 (.bl _)⟩
theorem st_not (ha : PT X a (tT fa)) : PT X (.UnaryOp .Not a pos) (tT (fNot fa)) :=
  PT.imp (pt_not ha) fun σ H Q ⟨M, ρ, S, Λ, d, S', R, RE, h, q⟩ => by
    obtain ⟨k, h1, e⟩ := not_split h
    cases e
    exact ⟨M, ρ, S, Λ, k, S', R, RE, h1, fun H1 Λ1 s1 R1 => q _ _ s1 R1⟩
abbrev fIte (fc fa fb : Env → Store → Option (D × Store)) : Env → Store → Option (D × Store) := fun ρ S => (fc ρ S).bind fun x => match x.1 with
    | .bl k => if k = true then fa ρ x.2 else fb ρ x.2
    | _ => none
theorem ite_split {ρ : Env} {S S' : Store} {d : D} (h : fIte fc fa fb ρ S = some (d, S')) : ∃ k S1, fc ρ S = some (.bl k, S1) ∧ (k = true ∧ fa ρ S1 = some (d, S') ∨ k = false ∧ fb ρ S1 = some (d, S')) := by
  simp only [fIte, Option.bind_eq_some_iff] at h
  obtain ⟨⟨x, S1⟩, h1, h⟩ := h
  split at h <;> first | contradiction | skip
  rename_i k e
  cases k with
  | true =>
    rw [if_pos rfl] at h
    exact ⟨true, S1, by rw [h1]; simp only at e; rw [e], .inl ⟨rfl, h⟩⟩
  | false =>
    rw [if_neg Bool.false_ne_true] at h
    exact ⟨false, S1, by rw [h1]; simp only at e; rw [e], .inr ⟨rfl, h⟩⟩
theorem se_ite (hc : PT X c (tT fc)) (ha : PE X a (tE fa)) (hb : PE X b (tE fb)) : PE X (.IfExp c a b pos) (tE (fIte fc fa fb)) :=
  PE.imp (pe_ifExp hc ha hb) fun σ H Q ⟨M, ρ, S, Λ, d, S', R, RE, h, q⟩ => by
    obtain ⟨k, S1, h1, h⟩ := ite_split h
    refine ⟨M, ρ, S, Λ, k, S1, R, RE, h1, fun H1 Λ1 s1 R1 => ?_⟩
    rcases h with ⟨rfl, h⟩ | ⟨rfl, h⟩
    · exact iteT (tE_of R1 (RE.step R s1) h fun v2 H2 Λ2 s2 R2 r2 => q _ _ _ (s1.trans s2) R2 r2)
    · exact iteF (tE_of R1 (RE.step R s1) h fun v2 H2 Λ2 s2 R2 r2 => q _ _ _ (s1.trans s2) R2 r2)
theorem pt_ife {tc ta tb : TT} (hc : PT X c tc) (ha : PT X a ta) (hb : PT X b tb) : PT X (.IfExp c a b pos) (fun σ H Q => tc σ H fun k H1 => if k = true then ta σ H1 Q else tb σ H1 Q) := by
  refine ⟨fun pins s σ H Q I h => ?_⟩
  show wpAny _ _ (isTrue c X.env (eval c X.env) >>= fun k => if k = true then isTrue a X.env (eval a X.env) else isTrue b X.env (eval b X.env)) _ _ s
  refine wpAny_bind (thn (hc.run pins s σ H _ I h) fun k s1 ⟨H1, I1, q1⟩ => ?_)
  cases k with
  | true => exact ha.run pins s1 σ H1 Q I1 q1
  | false => exact hb.run pins s1 σ H1 Q I1 q1
theorem st_ite (hc : PT X c (tT fc)) (ha : PT X a (tT fa)) (hb : PT X b (tT fb)) : PT X (.IfExp c a b pos) (tT (fIte fc fa fb)) :=
  PT.imp (pt_ife hc ha hb) fun σ H Q ⟨M, ρ, S, Λ, d, S', R, RE, h, q⟩ => by
    obtain ⟨k, S1, h1, h⟩ := ite_split h
    refine ⟨M, ρ, S, Λ, k, S1, R, RE, h1, fun H1 Λ1 s1 R1 => ?_⟩
    rcases h with ⟨rfl, h⟩ | ⟨rfl, h⟩
    · exact iteT ⟨M, ρ, S1, Λ1, d, S', R1, RE.step R s1, h, fun H2 Λ2 s2 R2 => q _ _ (s1.trans s2) R2⟩
    · exact iteF ⟨M, ρ, S1, Λ1, d, S', R1, RE.step R s1, h, fun H2 Λ2 s2 R2 => q _ _ (s1.trans s2) R2⟩
/-- an expression with a bool's value, as a test -/
theorem st_val {e : Expr} {f : Env → Store → Option (D × Store)} (h : PE X e (tE f)) (he : ∀ whole, isTrue e X.env whole = (do let v ← whole; standAt e.pos; holding [v] (truthy v))) : PT X e (tT f) :=
  PT.imp (pt_val h he) fun σ H Q h => tT_tE h

/-! ### argument lists, displays -/
theorem sa_nil {f : Env → Store → Option (List D × Store)} (hf : ∀ ρ S ds S', f ρ S = some (ds, S') → ds = [] ∧ S' = S) : PA X [] (tA f) :=
  PA.imp pa_nil fun σ H Q ⟨M, ρ, S, Λ, ds, S', R, RE, h, q⟩ => by
    obtain ⟨rfl, rfl⟩ := hf _ _ _ _ h
    exact q _ _ _ Step.refl R .nil
theorem sa_cons {es : List Expr} {g : Env → Store → Option (List D × Store)} (ha : PE X a (tE fa)) (hr : PA X es (tA g)) (hs : starEach (a :: es) X.env = (false, eval a X.env) :: starEach es X.env) :
    PA X (a :: es) (tA fun ρ S => (fa ρ S).bind fun x => (g ρ x.2).map fun y => (x.1 :: y.1, y.2)) :=
  PA.imp (pa_cons ha hr hs) fun σ H Q ⟨M, ρ, S, Λ, ds, S', R, RE, h, q⟩ => by
    simp only [Option.bind_eq_some_iff, Option.map_eq_some_iff, Prod.mk.injEq] at h
    obtain ⟨⟨x, S1⟩, h1, ⟨y, S2⟩, h2, rfl, rfl⟩ := h
    exact tE_of R RE h1 fun v1 H1 Λ1 s1 R1 r1 => ⟨M, ρ, S1, Λ1, y, S2, R1, RE.step R s1, h2, fun vs H2 Λ2 s2 R2 r2 => q _ _ _ (s1.trans s2) R2 (.cons (r1.step R1 s2) r2)⟩
variable {es : List Expr} {g : Env → Store → Option (List D × Store)}
theorem se_tup {x1 : Nat} (h : PA X es (tA g)) : PE X (.Tuple es x1 pos) (tE fun ρ S => (g ρ S).bind fun x => if x.1.length ≤ line then some (.tup x.1, x.2) else none) :=
  PE.imp (pe_tup h) fun σ H Q ⟨M, ρ, S, Λ, d, S', R, RE, h, q⟩ => by
    simp only [Option.bind_eq_some_iff] at h
    obtain ⟨⟨x, S1⟩, h1, h⟩ := h
    split at h <;> first | contradiction | skip
    rename_i hl
    simp only [Option.some.injEq, Prod.mk.injEq] at h
    obtain ⟨rfl, rfl⟩ := h
    refine ⟨M, ρ, S, Λ, x, S1, R, RE, h1, fun vs H1 Λ1 s1 R1 r1 => ⟨by rw [← r1.length, ← line_eq]; exact hl, fun p hp => ?_⟩⟩
    have sm := same_upd (o := .tup vs) hp
    exact q _ _ Λ1 (s1.trans (Step.same sm)) (R1.same sm) (.tup upd_same (r1.step R1 (Step.same sm)))
theorem se_lst (k : Bool) (h : PA X es (tA g)) : PE X (.List es pos) (tE fun ρ S => (g ρ S).bind fun x => if x.1.length ≤ line then some (fin k (.new (.lv x.1)) x.2) else none) :=
  PE.imp (pe_lst h) fun σ H Q ⟨M, ρ, S, Λ, d, S', R, RE, h, q⟩ => by
    simp only [Option.bind_eq_some_iff] at h
    obtain ⟨⟨x, S1⟩, h1, h⟩ := h
    split at h <;> first | contradiction | skip
    rename_i hl
    simp only [Option.some.injEq] at h
    refine ⟨M, ρ, S, Λ, x, S1, R, RE, h1, fun vs H1 Λ1 s1 R1 r1 => ⟨by rw [← r1.length, ← line_eq]; exact hl, fun p hp => ?_⟩⟩
    have pr : PRk M Λ1 (.new (.lv x)) H1 Q := by
      refine fin_prk (k := k) (fun _ _ _ => .inl (by simp)) R1 fun v H' Λ' s3 R3 r3 => ?_
      rw [h] at R3 r3
      exact q _ _ _ (s1.trans s3) R3 r3
    exact pr.new_same hp (.lst r1)

/-! ### subscripts -/
theorem se_sub (hu : X.A.units + 64 < cLine) (ha : PE X a (tE fa)) (hb : PE X b (tE fb)) (hs : PlainIx b) : PE X (.Subscript a b pos) (tE fun ρ S => (fa ρ S).bind fun x => (fb ρ x.2).bind fun y => (itemS x.1 y.1 y.2).map fun d => (d, y.2)) :=
  PE.imp (pe_ix (itemR hu) ha hb hs) fun σ H Q ⟨M, ρ, S, Λ, d, S', R, RE, h, q⟩ => by
    simp only [Option.bind_eq_some_iff, Option.map_eq_some_iff, Prod.mk.injEq] at h
    obtain ⟨⟨x, S1⟩, h1, ⟨y, S2⟩, h2, r, h3, rfl, rfl⟩ := h
    exact tE_of R RE h1 fun v1 H1 Λ1 s1 R1 r1 => tE_of R1 (RE.step R s1) h2 fun v2 H2 Λ2 s2 R2 r2 => ⟨M, Λ2, S2, x, y, r, R2, r1.step R1 s2, r2, h3, fun v r3 => q _ _ _ (s1.trans s2) R2 r3⟩
/-- a slice's part, by the evaluator -/
def tO (g : Env → Store → Option (List D × Store)) : TO := fun σ H Q => ∃ M ρ S Λ ds S' o l, RelS M Λ S H ∧ RelE M Λ H ρ σ ∧ g ρ S = some (ds, S') ∧ one? ds = some o ∧ bound? o = some l ∧ ∀ H' Λ', Step Λ H Λ' H' → RelS M Λ' S' H' → Q l H'
theorem PO.imp {X : Cx} {e : Option Expr} {t t' : TO} (h : PO X e t) (i : ∀ σ H Q, t' σ H Q → t σ H Q) : PO X e t' := ⟨fun pins s σ H Q I q => h.run pins s σ H Q I (i σ H Q q)⟩
theorem so_none {g : Env → Store → Option (List D × Store)} (hf : ∀ ρ S ds S', g ρ S = some (ds, S') → ds = [] ∧ S' = S) : PO X none (tO g) :=
  PO.imp po_none fun σ H Q ⟨M, ρ, S, Λ, ds, S', o, l, R, RE, h, h1, h2, q⟩ => by
    obtain ⟨rfl, rfl⟩ := hf _ _ _ _ h
    cases h1
    cases h2
    exact q _ _ Step.refl R
theorem so_some {g : Env → Store → Option (List D × Store)} (ha : PE X a (tE fa)) (hf : ∀ ρ S ds S', g ρ S = some (ds, S') → ∃ d, ds = [d] ∧ fa ρ S = some (d, S')) : PO X (some a) (tO g) :=
  PO.imp (po_some ha) fun σ H Q ⟨M, ρ, S, Λ, ds, S', o, l, R, RE, h, h1, h2, q⟩ => by
    obtain ⟨d, rfl, h3⟩ := hf _ _ _ _ h
    cases h1
    unfold bound? at h2
    split at h2 <;> first | contradiction | skip
    rename_i i e
    cases e
    cases h2
    exact tE_of R RE h3 fun v H1 Λ1 s1 R1 r1 => ⟨i, int_of r1, q _ _ s1 R1⟩
theorem se_slc {lo hi : Option Expr} {gl gh : Env → Store → Option (List D × Store)} {p2 : Pos} (ha : PE X a (tE fa)) (hl : PO X lo (tO gl)) (hh : PO X hi (tO gh)) :
    PE X (.Subscript a (.Slice lo hi none p2) pos) (tE fun ρ S => (fa ρ S).bind fun x => (gl ρ x.2).bind fun l => (gh ρ l.2).bind fun h =>
      (one? l.1).bind fun l1 => (one? h.1).bind fun h1 => (bound? l1).bind fun l2 => (bound? h1).bind fun h2 => (slcS x.1 l2 h2 h.2).map fun r => fin false r h.2) :=
  PE.imp (pe_slice slcR ha hl hh) fun σ H Q ⟨M, ρ, S, Λ, d, S', R, RE, h, q⟩ => by
    simp only [Option.bind_eq_some_iff, Option.map_eq_some_iff] at h
    obtain ⟨⟨x, S1⟩, h1, ⟨l, S2⟩, h2, ⟨u, S3⟩, h3, l1, e1, u1, e2, l2, e3, u2, e4, r, h4, e⟩ := h
    refine tE_of R RE h1 fun v1 H1 Λ1 s1 R1 r1 => ⟨M, ρ, S1, Λ1, l, S2, l1, l2, R1, RE.step R s1, h2, e1, e3, fun H2 Λ2 s2 R2 => ⟨M, ρ, S2, Λ2, u, S3, u1, u2, R2, (RE.step R s1).step R1 s2, h3, e2, e4, fun H3 Λ3 s3 R3 => ?_⟩⟩
    refine ⟨M, Λ3, S3, x, r, R3, (r1.step R1 s2).step R2 s3, h4, fin_prk (k := false) (fun t ks vs => .inl fun z => ?_) R3 fun v H' Λ' s4 R4 r4 => ?_⟩
    · subst z
      unfold slcS at h4
      split at h4 <;> first | (split at h4 <;> simp at h4; done) | simp at h4
    · rw [e] at R4 r4
      exact q v H' Λ' (s1.trans (s2.trans (s3.trans s4))) R4 r4
theorem se_rev {k : Nat} {p1 p2 p3 : Pos} (ha : PE X a (tE fa)) : PE X (.Subscript a (.Slice none none (some (.UnaryOp .USub (.Constant (.int 1) k p1) p2)) p3) pos) (tE fun ρ S => (fa ρ S).bind fun x => (revS x.1 x.2).map fun r => fin false r x.2) :=
  PE.imp (pe_revL ha) fun σ H Q ⟨M, ρ, S, Λ, d, S', R, RE, h, q⟩ => by
    simp only [Option.bind_eq_some_iff, Option.map_eq_some_iff] at h
    obtain ⟨⟨x, S1⟩, h1, r, h2, e⟩ := h
    simp only [revS, Option.map_eq_some_iff] at h2
    obtain ⟨xs, h2, rfl⟩ := h2
    refine tE_of R RE h1 fun v1 H1 Λ1 s1 R1 r1 => ?_
    obtain ⟨a', vs, rfl, e2, r2⟩ := asL_rv R1 r1 h2
    refine ⟨a', vs, rfl, .of e2, fun p hp => ?_⟩
    have pr : PRk M Λ1 (.new (.lv xs.reverse)) H1 Q := by
      refine fin_prk (k := false) (fun _ _ _ => .inl (by simp)) R1 fun v H' Λ' s3 R3 r3 => ?_
      rw [e] at R3 r3
      exact q _ _ _ (s1.trans s3) R3 r3
    exact pr.new_same hp (.lst r2.reverse)

/-! ### calls -/
theorem OkX.units {G : Sig} {Φ : Calls} {n : Nat} (O : OkX G Φ n X) : X.A.units + 64 < cLine := O.room.units
theorem se_call {G : Sig} {Φ : Calls} {n : Nat} (O : OkX G Φ n X) {f : Str} {ps : List Str} (hf : G.fns.lookup f = some ps) (hg : Gl X f) (hdb : (f == ("__debug__" : Str)) = false) {p : Pos} {e : Expr} (ha : PA X (e :: es) (tA g)) (hn : (e :: es).length = ps.length)
    (he : starEach (e :: es) X.env = (false, eval e X.env) :: starEach es X.env) (hpl : (backTo pos (starEach es X.env)).any (·.1) = false) (hlen : ∀ ρ S ds S', g ρ S = some (ds, S') → ds.length = (e :: es).length) :
    PE X (.Call (.Name f p) (e :: es) [] pos) (tE fun ρ S => (g ρ S).bind fun x => Φ f x.1 x.2) := by
  obtain ⟨a, fd, h1, h2, h3, h4⟩ := O.fn f ps hf
  refine PE.imp (pe_call (pos := pos) (p := p) h4 O.room hg h1 h2 h3 .nil pass0 ha hdb he hpl) fun σ H Q ⟨M, ρ, S, Λ, d, S', R, RE, h, q⟩ => ?_
  simp only [Option.bind_eq_some_iff] at h
  obtain ⟨⟨x, S1⟩, h5, h6⟩ := h
  refine ⟨M, ρ, S, Λ, x, S1, R, RE, h5, fun vs H1 Λ1 s1 R1 r1 => ⟨M, Λ1, S1, x, d, S', R1, by rw [List.append_nil]; exact r1, by rw [hlen _ _ _ _ h5, hn], h6, fun v H2 Λ2 s2 R2 r2 => q _ _ _ (s1.trans s2) R2 r2⟩⟩
theorem se_call0 {G : Sig} {Φ : Calls} {n : Nat} (O : OkX G Φ n X) {f : Str} (hf : G.fns.lookup f = some []) (hg : Gl X f) (hdb : (f == ("__debug__" : Str)) = false) {p : Pos} :
    PE X (.Call (.Name f p) [] [] pos) (tE fun ρ S => Φ f [] S) := by
  obtain ⟨a, fd, h1, h2, h3, h4⟩ := O.fn f [] hf
  refine PE.imp (pe_call0 (pos := pos) (p := p) h4 O.room hg h1 h2 h3 .nil pass0 hdb) fun σ H Q ⟨M, ρ, S, Λ, d, S', R, RE, h, q⟩ => ?_
  exact ⟨M, Λ, S, [], d, S', R, .nil, rfl, h, fun v H2 Λ2 s2 R2 r2 => q _ _ _ s2 R2 r2⟩
end
end Pd

/-! Pd9: built-in functions, methods. -/
namespace Pd
open PySem PySem.Spec PyProof.Rows L2

section
variable {M : Addr → Prop} {Λ Λ' : List Addr} {H H' : Hp} {S S' : Store} {d : D} {v : V} {Q : VK} {X : Cx} {ρ : Env} {σ : L2.St}

/-! ### a new thing, locked where it is made -/
/-- as it is, or locked -/
def lockQ (Q : VK) : VK := fun v H => Q v H ∨ ∃ a u, v = .ref a ∧ H a = some u ∧ Mut (some u) ∧ ∀ od, Q v (upd H a (.frz od u))
theorem pe_locked {e : Expr} {t : TE} (h : PE X e t) : PE X e (fun σ H Q => t σ H (lockQ Q)) := ⟨fun pins s σ H Q I q =>
  thn (h.run pins s σ H _ I q) fun u s1 ⟨x, H1, I1, r1, q1⟩ => by
    rcases q1 with q1 | ⟨a, w, rfl, e1, mu, q1⟩
    · exact ⟨x, H1, I1, r1, q1⟩
    · obtain ⟨od, I2⟩ := Inv.lock I1 e1 mu
      exact ⟨_, _, I2, r1, q1 od⟩⟩
theorem fin_prkL {r : PR} {k : Bool} (R : RelS M Λ S H) (q : ∀ v H' Λ', Step Λ H Λ' H' → RelS M Λ' (fin k r S).2 H' → RV M Λ' H' (fin k r S).1 v → Q v H') : PRk M Λ r H (lockQ Q) := by
  cases r with
  | val d => exact fun v H1 s r => .inl (q v H1 Λ (Step.same s) (R.same s) r)
  | new c =>
    intro a H1 ho s hn r
    have R1 := R.same s
    cases k with
    | true =>
      obtain ⟨z1, z2, z3⟩ := adopt R1 hn r
      exact .inl (q _ _ _ ((Step.same s).trans z3) z1 z2)
    | false =>
      have go : ∀ {t : Bool} {ks : List DK} {ds : List D}, RO M Λ H1 (.dv t ks ds) ho → c = .dv t ks ds → Mut (some ho) → lockQ Q (.ref a) (upd H1 a ho) := fun r' ec mu => by
        refine .inr ⟨a, ho, rfl, upd_same, mu, fun od => ?_⟩
        rw [upd_upd]
        obtain ⟨z1, z2, z3⟩ := freezeD (o := od) R1 hn r'
        subst ec
        exact q _ _ _ ((Step.same s).trans z3) z1 z2
      cases r with
      | lst r =>
        obtain ⟨z1, z2, z3⟩ := freeze R1 hn r
        exact .inl (q _ _ _ ((Step.same s).trans z3) z1 z2)
      | dK k1 r1 => exact go (.dK k1 r1) rfl trivial
      | dT k1 r1 => exact go (.dT k1 r1) rfl trivial

/-! ### dict(..) -/
theorem dput_KK {k : DK} {kk : Key} (hk : KK [k] [kk]) {e : D} {v : V} (re : RV M Λ H e v) {ks : List DK} {ds : List D} {kvs : List (Key × V)} (h1 : KK ks (kvs.map (·.1))) (h2 : RVs M Λ H ds (kvs.map (·.2))) :
    KK (dPut k e ks ds).1 ((putK kvs kk v).map (·.1)) ∧ RVs M Λ H (dPut k e ks ds).2 ((putK kvs kk v).map (·.2)) := by
  have hd : dkK k = some kk := by cases hk <;> rfl
  have ha := KK_any (k := k) hd h1
  unfold dPut putK
  rw [ha]
  split
  · rename_i hc
    rw [map_fst_put]
    exact ⟨h1, KK_putV hd re h1 h2⟩
  · rename_i hc
    rw [List.map_append, List.map_append]
    exact ⟨KK.snoc hk h1, h2.append (.cons re .nil)⟩
theorem pairs_rv : ∀ {xs : List D} {vs : List V} {ps : List (DK × D)}, RVs M Λ H xs vs → pairsOf xs = some ps →
    ∃ (as : List Addr) (kvs : List (Key × V)), vs = as.map V.ref ∧ Paired (fun p kv => SqT X.K H p [kV kv.1, kv.2]) as kvs ∧ KK (ps.map (·.1)) (kvs.map (·.1)) ∧ RVs M Λ H (ps.map (·.2)) (kvs.map (·.2))
  | [], _, _, h, e => by
    cases h
    cases e
    exact ⟨[], [], rfl, .nil, .nil, .nil⟩
  | x :: xs, [], _, h, e => nomatch h
  | x :: xs, _ :: _, ps, .cons h r, e => by
    unfold pairsOf at e
    split at e <;> first | contradiction | skip
    all_goals
      rename_i e0 <;> first | (cases e0; done) | skip
      simp only [Option.map_eq_some_iff] at e
      obtain ⟨ps', e1, rfl⟩ := e
      cases e0
      obtain ⟨as, kvs, rfl, p1, k1, r1⟩ := pairs_rv r e1
      obtain ⟨a, ws, rfl, ha, rr⟩ := tup_of h
      cases rr with
      | cons ra rr =>
        cases rr with
        | cons rb rr =>
          cases rr
          first
            | (obtain rfl := int_of ra; exact ⟨a :: as, (.inl _, _) :: kvs, rfl, .cons (.of ha) p1, .i k1, .cons rb r1⟩)
            | (obtain ⟨o1, rfl⟩ := okS_of ra; exact ⟨a :: as, (.inr _, _) :: kvs, rfl, .cons (.of ha) p1, .s o1 k1, .cons rb r1⟩)
theorem fold_rv : ∀ {ps : List (DK × D)} {kvs : List (Key × V)} {acc : List DK × List D} {acc' : List (Key × V)}, KK (ps.map (·.1)) (kvs.map (·.1)) → RVs M Λ H (ps.map (·.2)) (kvs.map (·.2)) →
    KK acc.1 (acc'.map (·.1)) → RVs M Λ H acc.2 (acc'.map (·.2)) → KK (foldPut ps acc).1 ((mergeK acc' kvs).map (·.1)) ∧ RVs M Λ H (foldPut ps acc).2 ((mergeK acc' kvs).map (·.2))
  | [], [], _, _, _, _, h1, h2 => ⟨h1, h2⟩
  | [], _ :: _, _, _, h, _, _, _ => by cases h
  | _ :: _, [], _, _, h, _, _, _ => by have := h.len; simp at this
  | (k, e) :: ps, (kk, v) :: kvs, acc, acc', h, r, h1, h2 => by
    simp only [List.map_cons] at h r
    cases r with
    | cons re rs =>
      have hk : KK [k] [kk] ∧ KK (ps.map (·.1)) (kvs.map (·.1)) := by
        cases h with
        | i h => exact ⟨.i .nil, h⟩
        | s o h => exact ⟨.s o .nil, h⟩
      obtain ⟨z1, z2⟩ := dput_KK hk.1 re h1 h2
      have z := fold_rv (ps := ps) (kvs := kvs) (acc := dPut k e acc.1 acc.2) (acc' := putK acc' kk v) hk.2 rs z1 z2
      exact z
theorem bltr_dict (hc : X.calm = true) : CallR X (.type "dict") (rPs (bltS .dict)) := by
  refine CallR.imp (CallR.or (call_dictP hc) call_dictD) fun vs H Q ⟨M, Λ, S, ds, r, R, rs, h, k⟩ => ?_
  unfold bltS at h
  split at h <;> first | contradiction | skip
  rename_i x _ e
  cases rs with
  | cons rx rr =>
    cases rr
    split at h
    · rename_i xs ex
      simp only [Option.map_eq_some_iff] at h
      obtain ⟨ps, e1, rfl⟩ := h
      obtain ⟨a, ws, rfl, ha, rw⟩ := asL_rv R rx ex
      obtain ⟨as, kvs, rfl, p1, k1, r1⟩ := pairs_rv (X := X) rw e1
      obtain ⟨z1, z2⟩ := fold_rv (acc := ([], [])) (acc' := []) k1 r1 .nil .nil
      exact .inl ⟨a, as, kvs, rfl, .of ha, p1, fun p hp => k.new_same hp (.dK z1 z2)⟩
    · split at h <;> first | contradiction | skip
      rename_i ks ws ed
      cases h
      obtain ⟨a, rfl, D0⟩ := asDk_rv R rx ed
      rcases D0 with ⟨_, kvs, e1, e2, e3⟩ | ⟨e0, _⟩
      · exact .inr ⟨a, kvs, rfl, e1, fun p hp => k.new_same hp (.dK e2 e3)⟩
      · cases e0

/-! ### built-in functions -/
def bltNm : Blt → Str
  | .len => "len" | .abs => "abs" | .int => "int" | .list => "list" | .tuple => "tuple" | .dict => "dict" | .sum => "sum" | .sum2 => "sum" | .min => "min" | .max => "max" | .all => "all" | .any => "any"
  | .sorted => "sorted" | .range => "range" | .isinst => "isinstance" | .repr => "repr" | .str => "str"
def bltV : Blt → Value ⊕ String
  | .len => .inr "len" | .abs => .inr "abs" | .int => .inl (.type "int") | .list => .inl (.type "list") | .tuple => .inl (.type "tuple") | .dict => .inl (.type "dict") | .sum => .inr "sum" | .sum2 => .inr "sum"
  | .min => .inr "min" | .max => .inr "max" | .all => .inr "all" | .any => .inr "any" | .sorted => .inr "sorted" | .range => .inl (.type "range") | .isinst => .inr "isinstance" | .repr => .inr "repr" | .str => .inl (.type "str")
def bltT : Blt → Option String
  | .int => some "int" | .list => some "list" | .tuple => some "tuple" | .dict => some "dict" | .range => some "range" | .str => some "str"
  | _ => none
def bltB : Blt → String
  | .len => "len" | .abs => "abs" | .sum => "sum" | .sum2 => "sum" | .min => "min" | .max => "max" | .all => "all" | .any => "any" | .sorted => "sorted" | .isinst => "isinstance" | .repr => "repr"
  | _ => ""
def bltVal (b : Blt) : Value := match bltT b with
  | some t => .type t
  | none => .builtin (bltB b)
theorem boot_blt (b : Blt) : bootBuiltins (bltNm b) = some (bltVal b) := by cases b <;> decide +kernel
theorem blt_name (b : Blt) : bltNm b ≠ "__name__" ∧ (bltNm b == ("__debug__" : Str)) = false ∧ bltNm b ∈ bltNames := by cases b <;> decide +kernel
theorem blt_none {f : Value} {g : List D → Store → Option PR} (h : ∀ ds S, g ds S = none) : CallR X f (rPs g) := fun pins s σ H xs us Q I r ⟨M, Λ, S, ds, r', R, rs, e, k⟩ => by
  rw [h] at e; cases e
theorem bltC (hc : X.calm = true) (hu : X.A.units + 64 < cLine) (b : Blt) : CallR X (bltVal b) (rPs (bltS b)) := by
  cases b with
  | len => exact bltr_len
  | abs => exact bltr_abs
  | int => exact bltr_int
  | list => exact bltr_list hc
  | tuple => exact bltr_tuple
  | dict => exact bltr_dict hc
  | sum => exact bltr_sum hc
  | min => exact bltr_min hc hu
  | max => exact bltr_max hc hu
  | all => exact bltr_all hc
  | any => exact bltr_any hc
  | sorted => exact bltr_sorted hu
  | isinst => exact bltr_isinst
  | sum2 => exact blt_none fun _ _ => rfl
  | range => exact blt_none fun _ _ => rfl
  | repr => exact blt_none fun _ _ => rfl
  | str => exact blt_none fun _ _ => rfl
variable {e : Expr} {es : List Expr} {g : Env → Store → Option (List D × Store)} {fa fb : Env → Store → Option (D × Store)} {pos p : Pos}
theorem se_blt (b : Blt) (k : Bool) (hc : X.calm = true) (hu : X.A.units + 64 < cLine) (hg : Gl X (bltNm b)) (hm : X.mg (bltNm b) = none) (ha : PA X (e :: es) (tA g))
    (he : starEach (e :: es) X.env = (false, eval e X.env) :: starEach es X.env) (hpl : (backTo pos (starEach es X.env)).any (·.1) = false) :
    PE X (.Call (.Name (bltNm b) p) (e :: es) [] pos) (tE fun ρ S => (g ρ S).bind fun x => (bltS b x.1 x.2).map fun r => fin k r x.2) := by
  have main : PE X (.Call (.Name (bltNm b) p) (e :: es) [] pos) (tCB (rPs (bltS b)) (tA g)) := by
    have hC := bltC hc hu b
    have hB := boot_blt b
    obtain ⟨h1, h2, _⟩ := blt_name b
    unfold bltVal at hC hB
    split at hB
    · rename_i t et
      rw [et] at hC
      exact pe_callTy hC hg hm hB ha h1 h2 he hpl
    · rename_i et
      rw [et] at hC
      exact pe_callB hC hg hm hB ha h1 h2 he hpl
  refine PE.imp (pe_locked main) fun σ H Q ⟨M, ρ, S, Λ, d, S', R, RE, h, q⟩ => ?_
  simp only [Option.bind_eq_some_iff, Option.map_eq_some_iff] at h
  obtain ⟨⟨x, S1⟩, h1, r, h2, e⟩ := h
  refine ⟨M, ρ, S, Λ, x, S1, R, RE, h1, fun vs H1 Λ1 s1 R1 r1 => ⟨M, Λ1, S1, x, r, R1, r1, h2, fin_prkL (k := k) R1 fun v H' Λ' s2 R2 r2 => ?_⟩⟩
  rw [e] at R2 r2
  exact q _ _ _ (s1.trans s2) R2 r2

/-- a type's name -/
theorem se_ty {n : String} {x : Str} (hg : Gl X x) (hm : X.mg x = none) (hv : bootBuiltins x = some (.type n)) (hn : x ≠ "__name__") (hd : (x == ("__debug__" : Str)) = false) {f : Env → Store → Option (D × Store)}
    (hf : ∀ ρ S d' S', f ρ S = some (d', S') → d' = .ty n ∧ S' = S) : PE X (.Name x pos) (tE f) :=
  se_const (d := .ty n) (pe_bltn (v := .ty n) hg hm hv rfl hn hd) (fun _ _ _ => .ty n) hf
theorem rg_rv (a b : Int) : RVs M Λ H (intL a (b - a).toNat) (rgV a b) := by
  unfold intL rgV
  have go : ∀ l : List Nat, RVs M Λ H (l.map fun i : Nat => D.int (a + (i : Int))) (l.map fun i : Nat => V.int (a + (i : Int))) := by
    intro l
    induction l with
    | nil => exact .nil
    | cons x l ih => exact .cons (.int _) ih
  exact go _
theorem intL_len (a : Int) (n : Nat) : (intL a n).length = n := by simp [intL]
/-- list(range(..)) -/
theorem se_lrg1 (k : Bool) {p2 pos2 : Pos} (hc : X.calm = true) (hg : Gl X "list") (hm : X.mg "list" = none) (hg2 : Gl X "range") (hm2 : X.mg "range" = none) (ha : PE X e (tE fa))
    (na : starEach [e] X.env = (false, eval e X.env) :: starEach [] X.env) (nb : starEach [.Call (.Name "range" p2) [e] [] pos2] X.env = (false, eval (.Call (.Name "range" p2) [e] [] pos2) X.env) :: starEach [] X.env)
    {f : Env → Store → Option (D × Store)} (hf : ∀ ρ S d S', f ρ S = some (d, S') → ∃ x S1 xs, fa ρ S = some (x, S1) ∧ rangeS [x] = some xs ∧ xs.length ≤ line ∧ fin k (.new (.lv xs)) S1 = (d, S')) :
    PE X (.Call (.Name "list" p) [.Call (.Name "range" p2) [e] [] pos2] [] pos) (tE f) := by
  refine PE.imp (pe_locked (pe_listRg hc hg hm (prg_1 hg2 hm2 ha na) nb)) fun σ H Q ⟨M, ρ, S, Λ, d, S', R, RE, h, q⟩ => ?_
  obtain ⟨x, S1, xs, h1, h2, hl, e⟩ := hf _ _ _ _ h
  refine tE_of R RE h1 fun v1 H1 Λ1 s1 R1 r1 => ?_
  unfold rangeS at h2
  split at h2 <;> first | contradiction | skip
  · rename_i j ej
    simp only [List.cons.injEq, and_true] at ej
    subst ej
    split at h2 <;> first | contradiction | skip
    rename_i hb
    cases h2
    rw [intL_len] at hl
    refine ⟨j, int_of r1, ⟨by omega, by omega, by omega, by omega, by unfold line at hl; simpa using hl⟩, fun a ha => ?_⟩
    have pr : PRk M Λ1 (.new (.lv (intL 0 j.toNat))) H1 (lockQ Q) := fin_prkL (k := k) R1 fun v H' Λ' s2 R2 r2 => by
      rw [e] at R2 r2
      exact q _ _ _ (s1.trans s2) R2 r2
    refine pr.new_same ha (.lst ?_)
    have := rg_rv (M := M) (Λ := Λ1) (H := H1) 0 j
    simpa using this
  · rename_i ej
    cases ej
theorem se_lrg2 (k : Bool) {e2 : Expr} {p2 pos2 : Pos} (hc : X.calm = true) (hg : Gl X "list") (hm : X.mg "list" = none) (hg2 : Gl X "range") (hm2 : X.mg "range" = none) (ha : PE X e (tE fa)) (hb : PE X e2 (tE fb))
    (na : starEach [e, e2] X.env = (false, eval e X.env) :: starEach [e2] X.env) (na2 : starEach [e2] X.env = (false, eval e2 X.env) :: starEach [] X.env) (nh : (backTo pos2 (starEach [e2] X.env)).any (·.1) = false)
    (nb : starEach [.Call (.Name "range" p2) [e, e2] [] pos2] X.env = (false, eval (.Call (.Name "range" p2) [e, e2] [] pos2) X.env) :: starEach [] X.env)
    {f : Env → Store → Option (D × Store)} (hf : ∀ ρ S d S', f ρ S = some (d, S') → ∃ x S1 y S2 xs, fa ρ S = some (x, S1) ∧ fb ρ S1 = some (y, S2) ∧ rangeS [x, y] = some xs ∧ xs.length ≤ line ∧ fin k (.new (.lv xs)) S2 = (d, S')) :
    PE X (.Call (.Name "list" p) [.Call (.Name "range" p2) [e, e2] [] pos2] [] pos) (tE f) := by
  refine PE.imp (pe_locked (pe_listRg hc hg hm (prg_2 hg2 hm2 ha hb na na2 nh) nb)) fun σ H Q ⟨M, ρ, S, Λ, d, S', R, RE, h, q⟩ => ?_
  obtain ⟨x, S1, y, S2, xs, h1, h1', h2, hl, e⟩ := hf _ _ _ _ h
  refine tE_of R RE h1 fun v1 H1 Λ1 s1 R1 r1 => tE_of R1 (RE.step R s1) h1' fun v2 H2 Λ2 s2 R2 r2 => ?_
  unfold rangeS at h2
  split at h2 <;> first | contradiction | skip
  · rename_i j ej
    cases ej
  · rename_i i j ej
    simp only [List.cons.injEq, and_true] at ej
    obtain ⟨rfl, rfl⟩ := ej
    split at h2 <;> first | contradiction | skip
    rename_i hb
    cases h2
    rw [intL_len] at hl
    refine ⟨i, j, int_of r1, int_of r2, ⟨by omega, by omega, by omega, by omega, hl⟩, fun a ha => ?_⟩
    have pr : PRk M Λ2 (.new (.lv (intL i (j - i).toNat))) H2 (lockQ Q) := fin_prkL (k := k) R2 fun v H' Λ' s3 R3 r3 => by
      rw [e] at R3 r3
      exact q _ _ _ (s1.trans (s2.trans s3)) R3 r3
    exact pr.new_same ha (.lst (rg_rv i j))
/-- {} -/
theorem se_dct (k t : Bool) {f : Env → Store → Option (D × Store)} (hf : ∀ ρ S d S', f ρ S = some (d, S') → fin k (.new (.dv t [] [])) S = (d, S')) : PE X (.Dict [] [] pos) (tE f) := by
  cases t with
  | false =>
    refine PE.imp (pe_locked pe_dnewK) fun σ H Q ⟨M, ρ, S, Λ, d, S', R, RE, h, q⟩ => ?_
    have e := hf _ _ _ _ h
    intro a ha
    have pr : PRk M Λ (.new (.dv false [] [])) H (lockQ Q) := fin_prkL (k := k) R fun v H' Λ' s2 R2 r2 => by
      rw [e] at R2 r2
      exact q _ _ _ s2 R2 r2
    exact pr.new_same ha (.dK (kvs := []) .nil .nil)
  | true =>
    refine PE.imp (pe_locked pe_dnewT) fun σ H Q ⟨M, ρ, S, Λ, d, S', R, RE, h, q⟩ => ?_
    have e := hf _ _ _ _ h
    intro a ha
    have pr : PRk M Λ (.new (.dv true [] [])) H (lockQ Q) := fin_prkL (k := k) R fun v H' Λ' s2 R2 r2 => by
      rw [e] at R2 r2
      exact q _ _ _ s2 R2 r2
    exact pr.new_same ha (.dT (kvs := []) .nil .nil)
end
end Pd

/-! Pd10: methods. -/
namespace Pd
open PySem PySem.Spec PyProof.Rows L2

section
variable {M : Addr → Prop} {Λ Λ' : List Addr} {H H' : Hp} {S S' : Store} {d : D} {v : V} {Q : VK} {X : Cx} {ρ : Env} {σ : L2.St}

theorem joinL_eq (a : List Nat) : ∀ ys : List (List Nat), TL.joinL a ys = joinL a ys
  | [] => rfl
  | [x] => rfl
  | x :: y :: r => by
    show x ++ (a ++ TL.joinL a (y :: r)) = x ++ a ++ joinL a (y :: r)
    rw [joinL_eq a (y :: r), List.append_assoc]
theorem okS_join {a : List Nat} (ha : okS a) : ∀ {ys : List (List Nat)}, (∀ c ∈ ys, okS c) → okS (joinL a ys)
  | [], _ => fun _ h => by cases h
  | [x], h => h x List.mem_cons_self
  | x :: y :: r, h => okS_app (okS_app (h x List.mem_cons_self) ha) (okS_join ha fun c hc => h c (List.mem_cons_of_mem _ hc))
/-- what a method's rule promises -/
def rM (m : Mth) : V → List V → Hp → VK → Prop := fun x vs H Q => ∃ M Λ S d ds d' S', RelS M Λ S H ∧ RV M Λ H d x ∧ RVs M Λ H ds vs ∧ mthS m d ds S = some (d', S') ∧
  ∀ v H' Λ', Step Λ H Λ' H' → RelS M Λ' S' H' → RV M Λ' H' d' v → Q v H'
theorem mtr_join : MtR X "str.join" (rM .join) := by
  refine MtR.imp mt_join fun x vs H Q ⟨M, Λ, S, d, ds, d', S', R, rx, rs, h, q⟩ => ?_
  unfold mthS at h
  split at h <;> first | contradiction | skip
  rename_i a y _
  simp only [Option.bind_eq_some_iff] at h
  obtain ⟨xs, h1, ys, h2, h3⟩ := h
  split at h3 <;> first | contradiction | skip
  rename_i hl
  cases h3
  obtain ⟨oa, rfl⟩ := okS_of rx
  obtain ⟨u, rfl, ru⟩ := rvs1 rs
  obtain ⟨p, ws, rfl, hp, rw'⟩ := asSq_rv (K := X.K) R ru h1
  obtain ⟨e1, o2⟩ := strsOf_rv rw' h2
  subst e1
  refine ⟨_, p, ys.map sOf, rfl, rfl, ?_, ?_, ?_⟩
  · rcases hp with hp | hp
    · exact .inl (.of hp)
    · exact .inr hp
  · rw [List.map_map, List.length_map, len_sOf]
    unfold line at hl
    have e : ((fun x : Str => x.length) ∘ sOf) = List.length := by funext c; exact len_sOf c
    show (List.map ((fun x : Str => x.length) ∘ sOf) ys).sum + _ ≤ _
    rw [e]
    exact hl
  · have e : Txt.join (sOf a) (ys.map sOf) = sOf (joinL a ys) := by rw [← joinL_eq]; exact SX.join_S a ys
    rw [e]
    exact q _ _ _ Step.refl R (.str (okS_join oa o2))
theorem cnt_count (c : Nat) (l : List Nat) : Txt.count (sOf l) ⟨#[c]⟩ = (l.count c : Nat) := by
  have h := count_cnt (sOf l) c
  rw [h]
  show cnt c l = _
  clear h
  induction l with
  | nil => rfl
  | cons x r ih =>
    rw [cnt_cons, ih, List.count_cons]
    by_cases e : x = c
    · subst e
      simp only [if_pos, beq_self_eq_true]
      omega
    · rw [if_neg e, if_neg (by simpa using e)]
      omega
theorem mtr_count : MtR X "str.count" (rM .count) := by
  refine MtR.imp mt_count fun x vs H Q ⟨M, Λ, S, d, ds, d', S', R, rx, rs, h, q⟩ => ?_
  unfold mthS at h
  split at h <;> first | contradiction | skip
  rename_i a c _
  cases h
  obtain ⟨oa, rfl⟩ := okS_of rx
  obtain ⟨u, rfl, ru⟩ := rvs1 rs
  obtain ⟨oc, rfl⟩ := okS_of ru
  refine ⟨_, _, rfl, rfl, ?_⟩
  have e := cnt_count c a
  rw [show Txt.count (sOf a) (sOf [c]) = _ from e]
  exact q _ _ _ Step.refl R (.int _)
theorem ref_lst (R : RelS M Λ S H) {l : Nat} {x : V} {xs : List D} (rx : RV M Λ H (.ref l) x) (e : S[l]? = some (.lv xs)) : ∃ a vs, x = .ref a ∧ Λ[l]? = some a ∧ H a = some (.lst vs) ∧ RVs M Λ H xs vs := by
  obtain ⟨a, rfl, ea⟩ := ref_of rx
  obtain ⟨ho, e2, r⟩ := R.st _ _ _ e ea
  cases r with
  | lst r => exact ⟨a, _, rfl, ea, e2, r⟩
theorem mtr_append : MtR X "list.append" (rM .append) := by
  refine MtR.imp mt_append fun x vs H Q ⟨M, Λ, S, d, ds, d', S', R, rx, rs, h, q⟩ => ?_
  unfold mthS at h
  split at h <;> first | contradiction | skip
  rename_i l y _
  split at h <;> first | contradiction | skip
  rename_i xs ex
  split at h <;> first | contradiction | skip
  rename_i hl
  cases h
  obtain ⟨a, ws, rfl, ea, eh, rw'⟩ := ref_lst R rx ex
  obtain ⟨u, rfl, ru⟩ := rvs1 rs
  refine ⟨a, ws, u, rfl, rfl, eh, by rw [← rw'.length, ← line_eq]; exact hl, ?_⟩
  obtain ⟨z1, z2⟩ := write R ea (c' := .lv (xs ++ [y])) (ho' := .lst (ws ++ [u])) (.lst (rw'.append (.cons ru .nil)))
  exact q _ _ _ z2 z1 .non
theorem mtr_extend : MtR X "list.extend" (rM .extend) := by
  refine MtR.imp mt_extend fun x vs H Q ⟨M, Λ, S, d, ds, d', S', R, rx, rs, h, q⟩ => ?_
  unfold mthS at h
  split at h <;> first | contradiction | skip
  rename_i l y _
  split at h <;> first | contradiction | skip
  rename_i xs ys ex ey
  split at h <;> first | contradiction | skip
  rename_i hl
  cases h
  obtain ⟨a, ws, rfl, ea, eh, rw'⟩ := ref_lst R rx ex
  obtain ⟨u, rfl, ru⟩ := rvs1 rs
  obtain ⟨b, us, rfl, eb, rb⟩ := asL_rv R ru ey
  refine ⟨a, b, ws, us, rfl, rfl, eh, eb, by rw [← rw'.length, ← rb.length, ← line_eq]; exact hl, ?_⟩
  obtain ⟨z1, z2⟩ := write R ea (c' := .lv (xs ++ ys)) (ho' := .lst (ws ++ us)) (.lst (rw'.append rb))
  exact q _ _ _ z2 z1 .non
theorem RVs.dropLast {ds : List D} {vs : List V} (r : RVs M Λ H ds vs) : RVs M Λ H ds.dropLast vs.dropLast := by
  rw [List.dropLast_eq_take, List.dropLast_eq_take, r.length]
  exact r.take _
theorem RVs.eraseIdx : ∀ {ds : List D} {vs : List V} (k : Nat), RVs M Λ H ds vs → RVs M Λ H (ds.eraseIdx k) (vs.eraseIdx k)
  | _, _, _, .nil => .nil
  | _, _, 0, .cons _ t => t
  | _, _, k + 1, .cons h t => .cons h (RVs.eraseIdx k t)
theorem mtr_pop : MtR X "list.pop" (rM .pop) := by
  refine MtR.imp mt_pop fun x vs H Q ⟨M, Λ, S, d, ds, d', S', R, rx, rs, h, q⟩ => ?_
  unfold mthS at h
  split at h <;> first | contradiction | skip
  split at h <;> first | contradiction | skip
  rename_i xs ex
  simp only [Option.map_eq_some_iff, Prod.mk.injEq] at h
  obtain ⟨y, ey, rfl, rfl⟩ := h
  obtain ⟨a, ws, rfl, ea, eh, rw'⟩ := ref_lst R rx ex
  cases rs
  obtain ⟨u, eu, ru⟩ := rw'.get ey
  refine ⟨a, ws, u, rfl, rfl, eh, by rw [← rw'.length]; exact eu, ?_⟩
  obtain ⟨z1, z2⟩ := write R ea (c' := .lv xs.dropLast) (ho' := .lst ws.dropLast) (.lst rw'.dropLast)
  exact q _ _ _ z2 z1 (ru.step R z2)
theorem mtr_popi : MtR X "list.pop" (rM .popi) := by
  refine MtR.imp mt_popAt fun x vs H Q ⟨M, Λ, S, d, ds, d', S', R, rx, rs, h, q⟩ => ?_
  unfold mthS at h
  split at h <;> first | contradiction | skip
  rename_i l i _
  split at h <;> first | contradiction | skip
  rename_i xs ex
  split at h <;> first | contradiction | skip
  rename_i hi
  simp only [Option.bind_eq_some_iff, Option.map_eq_some_iff, Prod.mk.injEq] at h
  obtain ⟨k, ek, y, ey, rfl, rfl⟩ := h
  obtain ⟨a, ws, rfl, ea, eh, rw'⟩ := ref_lst R rx ex
  obtain ⟨w, rfl, rw2⟩ := rvs1 rs
  obtain rfl := int_of rw2
  obtain ⟨u, eu, ru⟩ := rw'.get ey
  refine ⟨a, ws, i, k, u, rfl, rfl, eh, by omega, by omega, by rw [← rw'.length]; exact (ixN_seq ek).1, eu, ?_⟩
  obtain ⟨z1, z2⟩ := write R ea (c' := .lv (xs.eraseIdx k)) (ho' := .lst (ws.eraseIdx k)) (.lst (rw'.eraseIdx k))
  exact q _ _ _ z2 z1 (ru.step R z2)

/-! ### the methods together -/
def mthNm : Mth → Str
  | .join => "join" | .count => "count" | .index => "index" | .append => "append" | .extend => "extend" | .pop => "pop" | .popi => "pop" | .get => "get" | .get1 => "get" | .endswith => "endswith" | .update => "update" | .items => "items"
def mthId : Mth → String
  | .join => "str.join" | .count => "str.count" | .index => "str.index" | .append => "list.append" | .extend => "list.extend" | .pop => "list.pop" | .popi => "list.pop" | .get => "dict.get" | .get1 => "dict.get" | .endswith => "str.endswith" | .update => "dict.update" | .items => "dict.items"
theorem plain_mth (m : Mth) : PlainAttrs (mthTy m) := by
  cases m <;> first | exact PySem.F.plainAttrs_str | exact PySem.F.plainAttrs_list | exact PySem.F.plainAttrs_dict
def mthHave : Mth → Bool
  | .join | .count | .append | .extend | .pop | .popi => true
  | _ => false
theorem slot_mth (m : Mth) (h : mthHave m = true) : Slot (mthTy m) (mthNm m) (mthId m) ∧ typeOf (.builtin (mthId m)) = pure (.type "method_descriptor") := by
  cases m <;> first | cases h | skip
  · exact ⟨PySem.F.slot_str_join, PySem.F.type_str_join⟩
  · exact ⟨PySem.F.slot_str_count, PySem.F.type_str_count⟩
  · exact ⟨PySem.F.slot_list_append, PySem.F.type_list_append⟩
  · exact ⟨PySem.F.slot_list_extend, PySem.F.type_list_extend⟩
  · exact ⟨PySem.F.slot_list_pop, PySem.F.type_list_pop⟩
  · exact ⟨PySem.F.slot_list_pop, PySem.F.type_list_pop⟩
theorem mtr_all (m : Mth) (h : mthHave m = true) : MtR X (mthId m) (rM m) := by
  cases m <;> first | cases h | skip
  · exact mtr_join
  · exact mtr_count
  · exact mtr_append
  · exact mtr_extend
  · exact mtr_pop
  · exact mtr_popi
theorem rcv_ty (m : Mth) (h : mthHave m = true) (R : RelS M Λ S H) {x : V} (rx : RV M Λ H d x) (e : tyOf S d = some (mthTy m)) : tyV X.K (mthTy m) x H := by
  have st : mthTy m = "str" → tyV X.K (mthTy m) x H := fun em => by
    rw [em] at e ⊢
    cases rx with
    | str _ => rfl
    | @dct _ _ t _ _ _ _ _ _ _ => cases t <;> simp [tyOf] at e
    | ref _ => simp only [tyOf] at e; split at e <;> simp at e
    | _ => simp [tyOf] at e
  have ls : mthTy m = "list" → tyV X.K (mthTy m) x H := fun em => by
    rw [em] at e ⊢
    cases rx with
    | lst e1 _ _ _ => exact .inl ⟨rfl, _, .of e1⟩
    | scr e1 e2 =>
      obtain ⟨a, ea, z⟩ := scr_of (K := X.K) (RV.scr (M := M) e1 e2)
      cases ea
      exact .inl ⟨rfl, _, z⟩
    | @dct _ _ t _ _ _ _ _ _ _ => cases t <;> simp [tyOf] at e
    | @ref l a e1 =>
      simp only [tyOf] at e
      split at e <;> first | (simp at e; done) | skip
      rename_i q
      obtain ⟨ho, e2, r⟩ := R.st _ _ _ q e1
      cases r with
      | lst r => exact .inl ⟨rfl, _, .of e2⟩
    | _ => simp [tyOf] at e
  cases m <;> simp only [mthHave, Bool.false_eq_true] at h <;> first | exact st rfl | exact ls rfl
variable {e o : Expr} {es : List Expr} {g : Env → Store → Option (List D × Store)} {fo : Env → Store → Option (D × Store)} {apos cpos : Pos}
theorem se_mth (m : Mth) (hm : mthHave m = true) (ho : PE X o (tE fo)) (ha : PA X (e :: es) (tA g))
    (hbase : attributeBase o (mthNm m) X.env (eval o X.env) = eval o X.env)
    (hfew : ((backTo cpos (starEach (e :: es) X.env)).all (fun x => !x.1) && (backToKw cpos (keywordEach [] X.env)).all (fun x => x.1.isSome)
      && decide ((e :: es).length + ([] : List Keyword).length + (if ([] : List Keyword).isEmpty then 0 else 1) < 30)) = true)
    (hline : (apos.endLine == cpos.line) = true) (hs : starEach (e :: es) X.env = (false, eval e X.env) :: starEach es X.env) (hplain : (backTo cpos (starEach es X.env)).any (·.1) = false) :
    PE X (.Call (.Attribute o (mthNm m) apos) (e :: es) [] cpos) (tE fun ρ S => (fo ρ S).bind fun x => if tyOf x.2 x.1 = some (mthTy m) then (g ρ x.2).bind fun y => mthS m x.1 y.1 y.2 else none) := by
  obtain ⟨h1, h2⟩ := slot_mth m hm
  refine PE.imp (pe_bm (plain_mth m) h1 h2 (mtr_all m hm) ho ha hbase hfew hline hs hplain) fun σ H Q ⟨M, ρ, S, Λ, d, S', R, RE, h, q⟩ => ?_
  simp only [Option.bind_eq_some_iff] at h
  obtain ⟨⟨x, S1⟩, e1, h⟩ := h
  split at h <;> first | contradiction | skip
  rename_i et
  simp only [Option.bind_eq_some_iff] at h
  obtain ⟨⟨y, S2⟩, e2, h⟩ := h
  refine tE_of R RE e1 fun v1 H1 Λ1 s1 R1 r1 => ⟨rcv_ty m hm R1 r1 et, M, ρ, S1, Λ1, y, S2, R1, RE.step R s1, e2, fun vs H2 Λ2 s2 R2 r2 => ⟨M, Λ2, S2, x, y, d, S', R2, r1.step R1 s2, r2, h, fun v H3 Λ3 s3 R3 r3 => q _ _ _ (s1.trans (s2.trans s3)) R3 r3⟩⟩
theorem se_mth0 (m : Mth) (hm : mthHave m = true) (ho : PE X o (tE fo))
    (hbase : attributeBase o (mthNm m) X.env (eval o X.env) = eval o X.env) (hline : (apos.endLine == cpos.line) = true) :
    PE X (.Call (.Attribute o (mthNm m) apos) [] [] cpos) (tE fun ρ S => (fo ρ S).bind fun x => if tyOf x.2 x.1 = some (mthTy m) then mthS m x.1 [] x.2 else none) := by
  obtain ⟨h1, h2⟩ := slot_mth m hm
  refine PE.imp (pe_bm0 (plain_mth m) h1 h2 (mtr_all m hm) ho hbase hline) fun σ H Q ⟨M, ρ, S, Λ, d, S', R, RE, h, q⟩ => ?_
  simp only [Option.bind_eq_some_iff] at h
  obtain ⟨⟨x, S1⟩, e1, h⟩ := h
  split at h <;> first | contradiction | skip
  rename_i et
  exact tE_of R RE e1 fun v1 H1 Λ1 s1 R1 r1 => ⟨rcv_ty m hm R1 r1 et, M, Λ1, S1, x, [], d, S', R1, r1, .nil, h, fun v H3 Λ3 s3 R3 r3 => q _ _ _ (s1.trans s3) R3 r3⟩
end
end Pd

/-! Pd11: what is walked. -/
namespace Pd
open PySem PySem.Spec PyProof.Rows L2

section
variable {K : PySem.W.Frag} {M : Addr → Prop} {Λ Λ' Λ1 : List Addr} {H H' H1 : Hp} {S S' : Store} {d : D} {v : V} {Q : VK} {X : Cx} {ρ ρ' : Env} {σ : L2.St}
/-- with one more object in the making -/
def more (M : Addr → Prop) (D0 : Addr) : Addr → Prop := fun a => M a ∨ a = D0

/-! ### an object in the making is changed -/
/-- H' differs from H at D0 alone, which nothing told depends on -/
structure Off (M : Addr → Prop) (Λ : List Addr) (H : Hp) (D0 : Addr) (H' : Hp) : Prop where
  out : D0 ∉ Λ
  at0 : H D0 = none ∨ M D0 ∧ ∃ u, H D0 = some u ∧ isMut u
  same : ∀ a, a ≠ D0 → H' a = H a
theorem Off.keep {D0 : Addr} (o : Off M Λ H D0 H') {a : Addr} {u : HO} (e : H a = some u) (h : ¬ isMut u ∨ ¬ M a) : H' a = some u := by
  have hne : a ≠ D0 := by
    intro z
    subst z
    rcases o.at0 with q | ⟨q1, w, q2, q3⟩
    · rw [q] at e; cases e
    · rcases h with h | h
      · rw [q2] at e; cases e; exact h q3
      · exact h q1
  rw [o.same a hne]
  exact e
mutual
theorem RV.off {D0 : Addr} (o : Off M Λ H D0 H') : ∀ {d : D} {v : V}, RV M Λ H d v → RV M Λ H' d v
  | _, _, .non => .non
  | _, _, .bl b => .bl b
  | _, _, .int i => .int i
  | _, _, .str h => .str h
  | _, _, .ty n => .ty n
  | _, _, .tup h r => .tup (o.keep h (.inl (by intro z; exact z))) (RVs.off o r)
  | _, _, .lst e h m r => .lst (o.keep e (.inr m)) h m (RVs.off o r)
  | _, _, .dct e h m r => .dct (o.keep e (.inr m)) h m (RO.off o r)
  | _, _, .ref h => .ref h
  | _, _, .scr e h => .scr (o.keep e (.inl (by intro z; exact z))) h
theorem RVs.off {D0 : Addr} (o : Off M Λ H D0 H') : ∀ {ds : List D} {vs : List V}, RVs M Λ H ds vs → RVs M Λ H' ds vs
  | _, _, .nil => .nil
  | _, _, .cons h r => .cons (RV.off o h) (RVs.off o r)
theorem RO.off {D0 : Addr} (o : Off M Λ H D0 H') : ∀ {d : D} {ho : HO}, RO M Λ H d ho → RO M Λ H' d ho
  | _, _, .lst r => .lst (RVs.off o r)
  | _, _, .dK k r => .dK k (RVs.off o r)
  | _, _, .dT k r => .dT k (RVs.off o r)
end
theorem RelS.off {D0 : Addr} (R : RelS M Λ S H) (o : Off M Λ H D0 H') (h0 : ∃ u, H' D0 = some u) : RelS M Λ S H' := by
  refine ⟨R.len, R.nd, R.nm, fun a h => ?_, fun l c a e1 e2 => ?_⟩
  · by_cases z : a = D0
    · subst z; exact h0
    · obtain ⟨u, e⟩ := R.mt a h
      exact ⟨u, by rw [o.same a z]; exact e⟩
  · obtain ⟨ho, e3, r⟩ := R.st l c a e1 e2
    refine ⟨ho, ?_, r.off o⟩
    rw [o.same a (fun z => o.out (z ▸ List.mem_of_getElem? e2))]
    exact e3
theorem RelE.off {D0 : Addr} (R : RelE M Λ H ρ σ) (o : Off M Λ H D0 H') : RelE M Λ H' ρ σ :=
  ⟨R.1, fun i d e => let ⟨v, e1, r⟩ := R.2 i d e; ⟨v, e1, r.off o⟩⟩
/-! ### one more in the making -/
mutual
theorem RV.more {D0 : Addr} (h0 : H D0 = none) : ∀ {d : D} {v : V}, RV M Λ H d v → RV (Pd.more M D0) Λ H d v
  | _, _, .non => .non
  | _, _, .bl b => .bl b
  | _, _, .int i => .int i
  | _, _, .str h => .str h
  | _, _, .ty n => .ty n
  | _, _, .tup h r => .tup h (RVs.more h0 r)
  | _, _, .lst e h m r => .lst e h (fun z => z.elim m fun z => by subst z; rw [h0] at e; cases e) (RVs.more h0 r)
  | _, _, .dct e h m r => .dct e h (fun z => z.elim m fun z => by subst z; rw [h0] at e; cases e) (RO.more h0 r)
  | _, _, .ref h => .ref h
  | _, _, .scr e h => .scr e h
theorem RVs.more {D0 : Addr} (h0 : H D0 = none) : ∀ {ds : List D} {vs : List V}, RVs M Λ H ds vs → RVs (Pd.more M D0) Λ H ds vs
  | _, _, .nil => .nil
  | _, _, .cons h r => .cons (RV.more h0 h) (RVs.more h0 r)
theorem RO.more {D0 : Addr} (h0 : H D0 = none) : ∀ {d : D} {ho : HO}, RO M Λ H d ho → RO (Pd.more M D0) Λ H d ho
  | _, _, .lst r => .lst (RVs.more h0 r)
  | _, _, .dK k r => .dK k (RVs.more h0 r)
  | _, _, .dT k r => .dT k (RVs.more h0 r)
end
theorem off_new {D0 : Addr} (R : RelS M Λ S H) (h0 : H D0 = none) (u : HO) : Off M Λ H D0 (upd H D0 u) := ⟨(R.fresh h0).1, .inl h0, fun a h => upd_ne h⟩
theorem RV.begin {D0 : Addr} {u : HO} (R : RelS M Λ S H) (h0 : H D0 = none) (r : RV M Λ H d v) : RV (Pd.more M D0) Λ (upd H D0 u) d v := (r.more h0).off ⟨(R.fresh h0).1, .inl h0, fun a h => upd_ne h⟩
theorem RVs.begin {ds : List D} {vs : List V} {D0 : Addr} {u : HO} (R : RelS M Λ S H) (h0 : H D0 = none) (r : RVs M Λ H ds vs) : RVs (Pd.more M D0) Λ (upd H D0 u) ds vs := (r.more h0).off ⟨(R.fresh h0).1, .inl h0, fun a h => upd_ne h⟩
theorem RelE.begin {D0 : Addr} {u : HO} (R : RelS M Λ S H) (h0 : H D0 = none) (r : RelE M Λ H ρ σ) : RelE (Pd.more M D0) Λ (upd H D0 u) ρ σ :=
  ⟨r.1, fun i d e => let ⟨v, e1, r'⟩ := r.2 i d e; ⟨v, e1, r'.begin R h0⟩⟩
theorem RelS.begin {D0 : Addr} (R : RelS M Λ S H) (h0 : H D0 = none) (u : HO) : RelS (Pd.more M D0) Λ S (upd H D0 u) := by
  have o := off_new R h0 u
  refine ⟨R.len, R.nd, fun a h z => z.elim (R.nm a h) fun z => (R.fresh h0).1 (z ▸ h), fun a h => ?_, fun l c a e1 e2 => ?_⟩
  · by_cases z : a = D0
    · subst z; exact ⟨u, upd_same⟩
    · rcases h with h | h
      · obtain ⟨w, e⟩ := R.mt a h
        exact ⟨w, by rw [upd_ne z]; exact e⟩
      · exact absurd h z
  · obtain ⟨ho, e3, r⟩ := R.st l c a e1 e2
    refine ⟨ho, ?_, (r.more h0).off ⟨(R.fresh h0).1, .inl h0, fun a h => upd_ne h⟩⟩
    rw [upd_ne (ne_of_none e3 h0)]
    exact e3
/-! ### it is made -/
mutual
theorem RV.less {D0 : Addr} : ∀ {d : D} {v : V}, RV (Pd.more M D0) Λ H d v → RV M Λ H d v
  | _, _, .non => .non
  | _, _, .bl b => .bl b
  | _, _, .int i => .int i
  | _, _, .str h => .str h
  | _, _, .ty n => .ty n
  | _, _, .tup h r => .tup h (RVs.less r)
  | _, _, .lst e h m r => .lst e h (fun z => m (.inl z)) (RVs.less r)
  | _, _, .dct e h m r => .dct e h (fun z => m (.inl z)) (RO.less r)
  | _, _, .ref h => .ref h
  | _, _, .scr e h => .scr e h
theorem RVs.less {D0 : Addr} : ∀ {ds : List D} {vs : List V}, RVs (Pd.more M D0) Λ H ds vs → RVs M Λ H ds vs
  | _, _, .nil => .nil
  | _, _, .cons h r => .cons (RV.less h) (RVs.less r)
theorem RO.less {D0 : Addr} : ∀ {d : D} {ho : HO}, RO (Pd.more M D0) Λ H d ho → RO M Λ H d ho
  | _, _, .lst r => .lst (RVs.less r)
  | _, _, .dK k r => .dK k (RVs.less r)
  | _, _, .dT k r => .dT k (RVs.less r)
end
theorem RelS.less {D0 : Addr} (R : RelS (Pd.more M D0) Λ S H) : RelS M Λ S H :=
  ⟨R.len, R.nd, fun a h z => R.nm a h (.inl z), fun a h => R.mt a (.inl h), fun l c a e1 e2 => let ⟨ho, e3, r⟩ := R.st l c a e1 e2; ⟨ho, e3, r.less⟩⟩
theorem Step.updM {D0 : Addr} {u : HO} (s : Step Λ H Λ' H') (h0 : H D0 = none) : Step Λ H Λ' (upd H' D0 u) := by
  refine ⟨s.ext, fun a o e h => ?_, fun a o e => ?_⟩
  · rw [upd_ne (ne_of_none e h0)]
    exact s.keep a o e h
  · rw [upd_ne (ne_of_none e h0)]
    exact s.there a o e
/-- made, and it will not change -/
theorem made_lv {D0 : Addr} (R : RelS (Pd.more M D0) Λ S H) (hm : ¬ M D0) {xs : List D} {vs : List V} (e : H D0 = some (.lst vs)) (r : RVs (Pd.more M D0) Λ H xs vs) : RelS M Λ S H ∧ RV M Λ H (.lv xs) (.ref D0) :=
  ⟨R.less, .lst e (fun z => R.nm D0 z (.inr rfl)) hm r.less⟩
/-- made, and it may change -/
theorem made_ref {Λ0 : List Addr} {H0 : Hp} {D0 : Addr} (R : RelS (Pd.more M D0) Λ S H) (hm : ¬ M D0) (s : Step Λ0 H0 Λ H) (h0 : H0 D0 = none) {c : D} {ho : HO} (e : H D0 = some ho) (r : RO (Pd.more M D0) Λ H c ho) :
    RelS M (Λ ++ [D0]) (S ++ [c]) H ∧ RV M (Λ ++ [D0]) H (.ref S.length) (.ref D0) ∧ Step Λ0 H0 (Λ ++ [D0]) H := by
  have hn : D0 ∉ Λ := fun z => R.nm D0 z (.inr rfl)
  have R' := R.less
  -- what is told of the others does not need the new one
  have lift : ∀ {d : D} {v : V}, RV (Pd.more M D0) Λ H d v → RV M (Λ ++ [D0]) H d v := fun {d v} h => by
    refine (RV.rec (M := Pd.more M D0) (Λ := Λ) (H := H) (motive_1 := fun d v _ => RV M (Λ ++ [D0]) H d v) (motive_2 := fun d v _ => RVs M (Λ ++ [D0]) H d v) (motive_3 := fun d v _ => RO M (Λ ++ [D0]) H d v) ?_ ?_ ?_ ?_ ?_ ?_ ?_ ?_ ?_ ?_ ?_ ?_ ?_ ?_ ?_ h)
    · exact .non
    · exact fun b => .bl b
    · exact fun i => .int i
    · exact fun h => .str h
    · exact fun n => .ty n
    · exact fun h _ r => .tup h r
    · exact fun e h m _ r => .lst e (fun z => (List.mem_append.mp z).elim h fun z => m (.inr (List.mem_singleton.mp z))) (fun z => m (.inl z)) r
    · exact fun e h m _ r => .dct e (fun z => (List.mem_append.mp z).elim h fun z => m (.inr (List.mem_singleton.mp z))) (fun z => m (.inl z)) r
    · exact fun h => .ref (by rw [List.getElem?_append_left (List.getElem?_eq_some_iff.mp h).1]; exact h)
    · intro a o ns e2 h2
      refine .scr e2 fun z => (List.mem_append.mp z).elim h2 fun z => ?_
      rw [List.mem_singleton.mp z] at e2
      rw [e] at e2
      cases e2
      cases r
    · exact .nil
    · exact fun _ _ h r => .cons h r
    · exact fun _ r => .lst r
    · exact fun k _ r => .dK k r
    · exact fun k _ r => .dT k r
  have lifts : ∀ {ds : List D} {vs : List V}, RVs (Pd.more M D0) Λ H ds vs → RVs M (Λ ++ [D0]) H ds vs := fun {ds} => by
    induction ds with
    | nil => intro vs h; cases h; exact .nil
    | cons d ds ih => intro vs h; cases h with | cons h r => exact .cons (lift h) (ih r)
  have lifto : ∀ {c : D} {ho : HO}, RO (Pd.more M D0) Λ H c ho → RO M (Λ ++ [D0]) H c ho := fun h => by
    cases h with
    | lst r => exact .lst (lifts r)
    | dK k r => exact .dK k (lifts r)
    | dT k r => exact .dT k (lifts r)
  refine ⟨⟨by simp [R.len], ?_, fun b hb => ?_, R'.mt, fun l c' b e1 e2 => ?_⟩, .ref ?_, ⟨?_, fun a o q h => s.keep a o q fun z => h ?_, s.there⟩⟩
  · rw [List.nodup_append]
    refine ⟨R.nd, by simp, fun x hx y hy z => ?_⟩
    rw [List.mem_singleton.mp hy] at z
    exact hn (z ▸ hx)
  · rcases List.mem_append.mp hb with z | z
    · exact R'.nm b z
    · rw [List.mem_singleton.mp z]; exact hm
  · by_cases hl : l < S.length
    · rw [List.getElem?_append_left hl] at e1
      rw [List.getElem?_append_left (by rw [← R.len]; exact hl)] at e2
      obtain ⟨ho', e3, r'⟩ := R.st l c' b e1 e2
      exact ⟨ho', e3, lifto r'⟩
    · have hl2 : l = S.length := by
        have := (List.getElem?_eq_some_iff.mp e1).1
        simp at this
        omega
      subst hl2
      rw [List.getElem?_append_right (Nat.le_refl _)] at e1
      rw [R.len, List.getElem?_append_right (Nat.le_refl _)] at e2
      simp at e1 e2
      subst e1; subst e2
      exact ⟨ho, e, lifto r⟩
  · rw [R.len, List.getElem?_append_right (Nat.le_refl _)]
    simp
  · obtain ⟨n, rfl, hn'⟩ := s.ext
    exact ⟨n ++ [D0], by simp, fun a ha => (List.mem_append.mp ha).elim (hn' a) fun z => by rw [List.mem_singleton.mp z]; exact h0⟩
  · exact z
end
end Pd

/-! Pd12: iterators by the evaluator. -/
namespace Pd
open PySem PySem.Spec PyProof.Rows L2

section
variable {K : PySem.W.Frag} {M : Addr → Prop} {Λ Λ' Λ1 : List Addr} {H H' H1 : Hp} {S S' : Store} {d : D} {v : V} {Q : VK} {X : Cx} {ρ ρ' : Env} {σ : L2.St}
/-- the i-th turn -/
def nextW : W → Nat → Store → Option (Option D)
  | .fix xs, i, _ => some xs[i]?
  | .dyn l, i, S => nxD l i S
/-- what an iterator needs through its turns: things that lie there, objects that do not change -/
structure Fx (M : Addr → Prop) (Λ : List Addr) (H : Hp) (ds : List D) (vs : List V) (fs : List (Addr × HO)) : Prop where
  rv : RVs M Λ H ds vs
  fz : ∀ p ∈ fs, H p.1 = some p.2
  nm : ∀ p ∈ fs, ¬ isMut p.2
theorem Fx.step {ds : List D} {vs : List V} {fs : List (Addr × HO)} (F0 : Fx M Λ H ds vs fs) (R : RelS M Λ S H) (s : Step Λ H Λ' H') : Fx M Λ' H' ds vs fs :=
  ⟨F0.rv.step R s, fun p hp => s.keep _ _ (F0.fz p hp) (R.tup_out (.inl (F0.fz p hp)) (F0.nm p hp)), F0.nm⟩
theorem Fx.off {ds : List D} {vs : List V} {fs : List (Addr × HO)} {D0 : Addr} (F0 : Fx M Λ H ds vs fs) (o : Off M Λ H D0 H') : Fx M Λ H' ds vs fs :=
  ⟨F0.rv.off o, fun p hp => o.keep (F0.fz p hp) (.inl (F0.nm p hp)), F0.nm⟩
theorem Fx.begin {ds : List D} {vs : List V} {fs : List (Addr × HO)} {D0 : Addr} {u : HO} (F0 : Fx M Λ H ds vs fs) (R : RelS M Λ S H) (h0 : H D0 = none) : Fx (Pd.more M D0) Λ (upd H D0 u) ds vs fs :=
  ⟨F0.rv.begin R h0, fun p hp => by rw [upd_ne (ne_of_none (F0.fz p hp) h0)]; exact F0.fz p hp, F0.nm⟩
theorem Fx.only {ds : List D} {vs : List V} (h : RVs M Λ H ds vs) : Fx M Λ H ds vs [] := ⟨h, fun _ z => (List.not_mem_nil z).elim, fun _ z => (List.not_mem_nil z).elim⟩
theorem Fx.fixed {a : Addr} {u : HO} (h : H a = some u) (hn : ¬ isMut u) : Fx M Λ H [] [] [(a, u)] := ⟨.nil, fun p hp => by rw [List.mem_singleton.mp hp]; exact h, fun p hp => by rw [List.mem_singleton.mp hp]; exact hn⟩
def JOk (J : L2.It) (w : W) (ds : List D) (vs : List V) (fs : List (Addr × HO)) : Prop := ∀ (M : Addr → Prop) (Λ : List Addr) (S : Store) (H : Hp) (i : Nat), RelS M Λ S H → Fx M Λ H ds vs fs → (∀ xs, w = .fix xs → i ≤ xs.length) →
  (nextW w i S = some none → J.stop i H) ∧ ∀ d, nextW w i S = some (some d) → J.go i H ∧ ∀ x H', J.yld i H x H' → Same H H' ∧ RV M Λ H' d x
def tI (f : Env → Store → Option (W × Store)) : TI := fun σ H R => ∃ M ρ S Λ w S', RelS M Λ S H ∧ RelE M Λ H ρ σ ∧ f ρ S = some (w, S') ∧
  ∀ J H' Λ' ds vs fs, Step Λ H Λ' H' → RelS M Λ' S' H' → Fx M Λ' H' ds vs fs → JOk J w ds vs fs → R J H'
theorem none_get {α : Type} {xs : List α} {i : Nat} (h : xs[i]? = none) : xs.length ≤ i := List.getElem?_eq_none_iff.mp h
theorem JOk.fix {J : L2.It} {xs : List D} {ds : List D} {vs : List V} {fs : List (Addr × HO)} (h : ∀ (M : Addr → Prop) (Λ : List Addr) (S : Store) (H : Hp), RelS M Λ S H → Fx M Λ H ds vs fs →
    J.stop xs.length H ∧ ∀ (i : Nat) (d : D), xs[i]? = some d → J.go i H ∧ ∀ x H', J.yld i H x H' → Same H H' ∧ RV M Λ H' d x) : JOk J (.fix xs) ds vs fs := fun M Λ S H i R F0 hi => by
  obtain ⟨h1, h2⟩ := h M Λ S H R F0
  refine ⟨fun e => ?_, fun d e => h2 i d (by simpa [nextW] using e)⟩
  have e' : xs[i]? = none := by simpa [nextW] using e
  have hle : xs.length ≤ i := none_get e'
  have : i = xs.length := Nat.le_antisymm (hi xs rfl) hle
  rw [this]
  exact h1
theorem sign_rv {c : Nat} {cs : List Nat} (h : okS cs) (hc : c ∈ cs) : RV M Λ H (.str [c]) (.str ⟨#[c]⟩) := .str (c := [c]) fun x hx => by rw [List.mem_singleton.mp hx]; exact h c hc
theorem items_rv : ∀ {l : List (Int ⊕ List Nat)}, (∀ x ∈ l, okK x) → RVs M Λ H (l.map dkItem) ((l.map keyS).map kV)
  | [], _ => .nil
  | .inl n :: r, h => .cons (.int n) (items_rv fun x hx => h x (List.mem_cons_of_mem _ hx))
  | .inr c :: r, h => .cons (.str (h (.inr c) List.mem_cons_self)) (items_rv fun x hx => h x (List.mem_cons_of_mem _ hx))
theorem KK.at : ∀ {ks : List DK} {js : List Key} {n : Nat} {k : DK}, KK ks js → ks[n]? = some k → ∃ j, js[n]? = some j ∧ ∀ M Λ H, RV M Λ H (dkD k) (kV j)
  | _, _, n, _, h, e => by
    induction h generalizing n with
    | nil => simp at e
    | i h ih =>
      cases n with
      | zero => cases e; exact ⟨_, rfl, fun _ _ _ => .int _⟩
      | succ n => exact ih _ e
    | s o h ih =>
      cases n with
      | zero => cases e; exact ⟨_, rfl, fun _ _ _ => .str o⟩
      | succ n => exact ih _ e
theorem KT.at : ∀ {ks : List DK} {js : List (List Key)} {n : Nat} {k : DK}, KT ks js → ks[n]? = some k → ∃ l, k = .t l ∧ (∀ x ∈ l, okK x) ∧ js[n]? = some (l.map keyS)
  | _, _, n, _, h, e => by
    induction h generalizing n with
    | nil => simp at e
    | t o h ih =>
      cases n with
      | zero => cases e; exact ⟨_, rfl, o, rfl⟩
      | succ n => exact ih _ e
theorem jok_str {c : List Nat} (h : okS c) : JOk (Its (sOf c)) (.fix (c.map fun c => .str [c])) [] [] [] := JOk.fix fun M Λ S H R F0 => by
  refine ⟨?_, fun i d e => ?_⟩
  · show (sOf c).cps.size ≤ _
    simp
  · rw [List.getElem?_map, Option.map_eq_some_iff] at e
    obtain ⟨z, e, rfl⟩ := e
    refine ⟨?_, fun x H' y => ?_⟩
    · show i < (sOf c).cps.size
      simpa using (List.getElem?_eq_some_iff.mp e).1
    · obtain ⟨rfl, w, e2, rfl⟩ := y
      have : (sOf c).cps[i]? = c[i]? := by simp
      rw [this, e] at e2
      cases e2
      exact ⟨Same.refl _, sign_rv h (List.mem_of_getElem? e)⟩
theorem at_rv {xs : List D} {vs : List V} (r : RVs M Λ H xs vs) {i : Nat} {d : D} (e : xs[i]? = some d) : ∃ v, vs[i]? = some v ∧ RV M Λ H d v := r.get e
theorem jok_lv {xs : List D} {a : Addr} : JOk (Itl K a) (.fix xs) [.lv xs] [.ref a] [] := JOk.fix fun M Λ S H R F0 => by
  obtain ⟨v, ev, r⟩ := rvs1 F0.rv
  cases ev
  cases r with
  | lst e _ _ r =>
    refine ⟨⟨_, .of e, Nat.le_of_eq r.length.symm⟩, fun i d ed => ?_⟩
    obtain ⟨w, ew, rw'⟩ := r.get ed
    refine ⟨⟨_, w, .of e, ew⟩, fun x H' y => ?_⟩
    obtain ⟨rfl, y⟩ := y
    have := y _ (.of e)
    rw [ew] at this
    cases this
    exact ⟨Same.refl _, rw'⟩
theorem jok_tup {xs : List D} {a : Addr} : JOk (Itt K a) (.fix xs) [.tup xs] [.ref a] [] := JOk.fix fun M Λ S H R F0 => by
  obtain ⟨v, ev, r⟩ := rvs1 F0.rv
  cases ev
  cases r with
  | tup e r =>
    refine ⟨⟨_, .of e, Nat.le_of_eq r.length.symm⟩, fun i d ed => ?_⟩
    obtain ⟨w, ew, rw'⟩ := r.get ed
    refine ⟨⟨_, w, .of e, ew⟩, fun x H' y => ?_⟩
    obtain ⟨rfl, y⟩ := y
    have := y _ (.of e)
    rw [ew] at this
    cases this
    exact ⟨Same.refl _, rw'⟩
theorem jok_scr {ns : List Int} {a : Addr} : JOk (Itl K a) (.fix (ns.map .int)) [.scr ns] [.ref a] [] := JOk.fix fun M Λ S H R F0 => by
  obtain ⟨v, ev, r⟩ := rvs1 F0.rv
  cases ev
  obtain ⟨b, eb, hq⟩ := scr_of (K := K) r
  cases eb
  have rr := ints_rv (M := M) (Λ := Λ) (H := H) ns
  refine ⟨⟨_, hq, Nat.le_of_eq rr.length.symm⟩, fun i d ed => ?_⟩
  obtain ⟨w, ew, rw'⟩ := rr.get ed
  refine ⟨⟨_, w, hq, ew⟩, fun x H' y => ?_⟩
  obtain ⟨rfl, y⟩ := y
  have := y _ hq
  rw [ew] at this
  cases this
  exact ⟨Same.refl _, rw'⟩
theorem jok_ref {l : Nat} {a : Addr} : JOk (Itl K a) (.dyn l) [.ref l] [.ref a] [] := fun M Λ S H i R F0 _ => by
  obtain ⟨v, ev, r⟩ := rvs1 F0.rv
  cases ev
  refine ⟨fun e => ?_, fun d e => ?_⟩
  all_goals
    simp only [nextW, nxD] at e
    split at e <;> first | (cases e; done) | skip
    rename_i xs ex
    simp only [Option.some.injEq] at e
    obtain ⟨b, ws, eb, ea, eh, rw'⟩ := ref_lst R r ex
    cases eb
  · refine ⟨_, .of eh, ?_⟩
    rw [← rw'.length]
    exact none_get e
  · obtain ⟨w, ew, r2⟩ := rw'.get e
    refine ⟨⟨_, w, .of eh, ew⟩, fun x H' y => ?_⟩
    obtain ⟨rfl, y⟩ := y
    have := y _ (.of eh)
    rw [ew] at this
    cases this
    exact ⟨Same.refl _, r2⟩
theorem jok_dK {ks : List DK} {kvs : List (Key × V)} {a : Addr} {o : Obj} (h : KK ks (kvs.map (·.1))) : JOk (Itk a o kvs) (.fix (ks.map dkD)) [] [] [(a, .frz o (.dK kvs))] := JOk.fix fun M Λ S H R F0 => by
  have e := F0.fz _ List.mem_cons_self
  have hl := h.len
  rw [List.length_map] at hl
  refine ⟨⟨e, by rw [List.length_map, hl]; exact Nat.le_refl _⟩, fun i d ed => ?_⟩
  rw [List.getElem?_map, Option.map_eq_some_iff] at ed
  obtain ⟨k, ek, rfl⟩ := ed
  obtain ⟨j, ej, rj⟩ := h.at ek
  refine ⟨⟨e, by rw [← hl]; exact (List.getElem?_eq_some_iff.mp ek).1⟩, fun x H' y => ?_⟩
  obtain ⟨rfl, k', v', e2, rfl⟩ := y
  rw [List.getElem?_map, e2] at ej
  cases ej
  exact ⟨Same.refl _, rj _ _ _⟩
theorem jok_dT {ks : List DK} {kvs : List (List Key × V)} {a : Addr} {o : Obj} (h : KT ks (kvs.map (·.1))) : JOk (Itkt a o kvs) (.fix (ks.map dkD)) [] [] [(a, .frz o (.dT kvs))] := JOk.fix fun M Λ S H R F0 => by
  have e := F0.fz _ List.mem_cons_self
  have hl := h.len
  rw [List.length_map] at hl
  refine ⟨⟨e, by rw [List.length_map, hl]; exact Nat.le_refl _⟩, fun i d ed => ?_⟩
  rw [List.getElem?_map, Option.map_eq_some_iff] at ed
  obtain ⟨k, ek, rfl⟩ := ed
  obtain ⟨l, rfl, ol, ej⟩ := h.at ek
  refine ⟨⟨e, by rw [← hl]; exact (List.getElem?_eq_some_iff.mp ek).1⟩, fun x H' y => ?_⟩
  obtain ⟨rfl, k', v', q, e2, rfl, e3⟩ := y
  rw [List.getElem?_map, e2] at ej
  cases ej
  exact ⟨Same.refl _, .tup e3 (items_rv ol)⟩
variable {e : Expr} {es : List Expr} {fe fa fb : Env → Store → Option (D × Store)} {g : Env → Store → Option (List D × Store)} {pos p : Pos} {tg : Expr}
theorem si_of (he : PE X e (tE fe)) : PI X tg e (tI fun ρ S => (fe ρ S).bind fun x => (walkOf x.2 x.1).map fun w => (w, x.2)) := by
  refine PI.imp (PI.or (PI.or (pi_str he) (pi_list he)) (PI.or (pi_tup he) (pi_keys he))) fun σ H Rr ⟨M, ρ, S, Λ, w, S', R, RE, h, q⟩ => ?_
  simp only [Option.bind_eq_some_iff, Option.map_eq_some_iff, Prod.mk.injEq] at h
  obtain ⟨⟨d, S1⟩, h1, w', h2, rfl, rfl⟩ := h
  simp only at h2 q
  cases d with
  | str c =>
    simp only [walkOf, walkS, Option.map_some, Option.some.injEq] at h2
    subst h2
    refine .inl (.inl (tE_of R RE h1 fun v H1 Λ1 s1 R1 r1 => ?_))
    obtain ⟨o, rfl⟩ := okS_of r1
    exact ⟨_, rfl, q _ _ _ [] [] [] s1 R1 (Fx.only (.nil)) (jok_str o)⟩
  | scr ns =>
    simp only [walkOf, walkS, Option.map_some, Option.some.injEq] at h2
    subst h2
    refine .inl (.inr (tE_of R RE h1 fun v H1 Λ1 s1 R1 r1 => ?_))
    obtain ⟨a, rfl, z⟩ := scr_of (K := X.K) r1
    exact ⟨a, rfl, ⟨_, z⟩, q _ _ _ [.scr ns] [.ref a] [] s1 R1 (Fx.only (.cons r1 .nil)) jok_scr⟩
  | lv xs =>
    simp only [walkOf, walkS, Option.map_some, Option.some.injEq] at h2
    subst h2
    refine .inl (.inr (tE_of R RE h1 fun v H1 Λ1 s1 R1 r1 => ?_))
    obtain ⟨a, ws, rfl, z, _⟩ := asL_rv R1 r1 (xs := xs) rfl
    exact ⟨a, rfl, ⟨_, .of z⟩, q _ _ _ [.lv xs] [.ref a] [] s1 R1 (Fx.only (.cons r1 .nil)) jok_lv⟩
  | tup xs =>
    simp only [walkOf, walkS, Option.map_some, Option.some.injEq] at h2
    subst h2
    refine .inr (.inl (tE_of R RE h1 fun v H1 Λ1 s1 R1 r1 => ?_))
    obtain ⟨a, ws, rfl, z, _⟩ := tup_of r1
    exact ⟨a, rfl, ⟨_, .of z⟩, q _ _ _ [.tup xs] [.ref a] [] s1 R1 (Fx.only (.cons r1 .nil)) jok_tup⟩
  | ref l =>
    simp only [walkOf] at h2
    split at h2 <;> first | (cases h2; done) | skip
    rename_i xs ex
    cases h2
    refine .inl (.inr (tE_of R RE h1 fun v H1 Λ1 s1 R1 r1 => ?_))
    obtain ⟨a, ws, rfl, _, z, _⟩ := ref_lst R1 r1 ex
    exact ⟨a, rfl, ⟨_, .of z⟩, q _ _ _ [.ref l] [.ref a] [] s1 R1 (Fx.only (.cons r1 .nil)) jok_ref⟩
  | dv t ks vs =>
    simp only [walkOf, Option.some.injEq] at h2
    subst h2
    refine .inr (.inr (tE_of R RE h1 fun v H1 Λ1 s1 R1 r1 => ?_))
    cases r1 with
    | @dct a o _ _ _ ho e1 _ _ r =>
      cases r with
      | dK k r => exact ⟨a, o, rfl, .inl ⟨_, e1, q _ _ _ [] [] [(a, _)] s1 R1 (Fx.fixed e1 fun z => z) (jok_dK k)⟩⟩
      | dT k r => exact ⟨a, o, rfl, .inr ⟨_, e1, q _ _ _ [] [] [(a, _)] s1 R1 (Fx.fixed e1 fun z => z) (jok_dT k)⟩⟩
  | non => simp [walkOf, walkS] at h2
  | bl b => simp [walkOf, walkS] at h2
  | int i => simp [walkOf, walkS] at h2
  | ty n => simp [walkOf, walkS] at h2
theorem jok_range (lo : Int) (n : Nat) : JOk (Itr lo n) (.fix (intL lo n)) [] [] [] := JOk.fix fun M Λ S H R F0 => by
  refine ⟨?_, fun i d e => ?_⟩
  · show n ≤ _
    rw [intL_len]
    exact Nat.le_refl _
  · unfold intL at e
    rw [List.getElem?_map, Option.map_eq_some_iff] at e
    obtain ⟨z, e, rfl⟩ := e
    have hl := (List.getElem?_eq_some_iff.mp e).1
    rw [List.length_range] at hl
    rw [List.getElem?_range hl] at e
    cases e
    refine ⟨hl, fun x H' y => ?_⟩
    obtain ⟨rfl, rfl⟩ := y
    exact ⟨Same.refl _, .int _⟩
theorem si_range1 (hg : Gl X "range") (hm : X.mg "range" = none) (ha : PA X [e] (tA g)) (hs : starEach [e] X.env = [(false, eval e X.env)]) (hlen : ∀ ρ S ds S', g ρ S = some (ds, S') → ds.length = 1) :
    PI X tg (.Call (.Name "range" p) [e] [] pos) (tI fun ρ S => (g ρ S).bind fun x => (rangeS x.1).map fun xs => (.fix xs, x.2)) := by
  refine PI.imp (pi_range1 hg hm ha hs) fun σ H Rr ⟨M, ρ, S, Λ, w, S', R, RE, h, q⟩ => ?_
  simp only [Option.bind_eq_some_iff, Option.map_eq_some_iff, Prod.mk.injEq] at h
  obtain ⟨⟨x, S1⟩, h1, xs, h2, rfl, rfl⟩ := h
  have hl := hlen _ _ _ _ h1
  simp only at h2 q
  refine ⟨M, ρ, S, Λ, x, S1, R, RE, h1, fun vs H1 Λ1 s1 R1 r1 => ?_⟩
  unfold rangeS at h2
  split at h2 <;> first | contradiction | skip
  · split at h2 <;> first | contradiction | skip
    rename_i j hj
    cases h2
    obtain ⟨u, rfl, ru⟩ := rvs1 r1
    obtain rfl := int_of ru
    exact ⟨j, rfl, by omega, by omega, q _ _ _ [] [] [] s1 R1 (Fx.only (.nil)) (jok_range _ _)⟩
  · simp at hl
theorem si_range2 {e2 : Expr} (hg : Gl X "range") (hm : X.mg "range" = none) (ha : PA X [e, e2] (tA g)) (hs : starEach [e, e2] X.env = [(false, eval e X.env), (false, eval e2 X.env)]) (hs2 : starEach [e2] X.env = [(false, eval e2 X.env)])
    (hlen : ∀ ρ S ds S', g ρ S = some (ds, S') → ds.length = 2) :
    PI X tg (.Call (.Name "range" p) [e, e2] [] pos) (tI fun ρ S => (g ρ S).bind fun x => (rangeS x.1).map fun xs => (.fix xs, x.2)) := by
  refine PI.imp (pi_range2 hg hm ha hs hs2) fun σ H Rr ⟨M, ρ, S, Λ, w, S', R, RE, h, q⟩ => ?_
  simp only [Option.bind_eq_some_iff, Option.map_eq_some_iff, Prod.mk.injEq] at h
  obtain ⟨⟨x, S1⟩, h1, xs, h2, rfl, rfl⟩ := h
  have hl := hlen _ _ _ _ h1
  simp only at h2 q
  refine ⟨M, ρ, S, Λ, x, S1, R, RE, h1, fun vs H1 Λ1 s1 R1 r1 => ?_⟩
  unfold rangeS at h2
  split at h2 <;> first | contradiction | skip
  · simp at hl
  · split at h2 <;> first | contradiction | skip
    rename_i i j hj
    cases h2
    obtain ⟨u, w, rfl, ru, rw'⟩ := rvs2 r1
    obtain rfl := int_of ru
    obtain rfl := int_of rw'
    exact ⟨i, j, rfl, ⟨by omega, by omega, by omega, by omega⟩, q _ _ _ [] [] [] s1 R1 (Fx.only (.nil)) (jok_range _ _)⟩
/-! ### enumerate, zip -/
/-- what is walked there, as it stays -/
structure SrcOk (K : PySem.W.Frag) (c : Src) (xs : List D) (ds : List D) (vs : List V) : Prop where
  has : ∀ (M : Addr → Prop) (Λ : List Addr) (S : Store) (H : Hp), RelS M Λ S H → RVs M Λ H ds vs → ∃ ws, c.has K H ws ∧ RVs M Λ H xs ws
theorem srcv_of (R : RelS M Λ S H) (r : RV M Λ H d v) {xs : List D} (h : walkS d = some xs) {Rr : (Tok → Src) → Prop} (k : ∀ c, (∀ t, SrcOk K (c t) xs [d] [v]) → Rr c) : SrcV K v H Rr := by
  unfold walkS at h
  split at h <;> first | contradiction | skip
  · rename_i z
    cases h
    obtain ⟨o, rfl⟩ := okS_of r
    exact k _ fun t => ⟨fun M Λ S H R rs => ⟨_, rfl, signs_rv o⟩⟩
  · rename_i ns
    cases h
    obtain ⟨a, rfl, z⟩ := scr_of (K := K) r
    exact .inl ⟨⟨_, z⟩, k _ fun t => ⟨fun M Λ S H R rs => by
      obtain ⟨u, eu, ru⟩ := rvs1 rs
      cases eu
      obtain ⟨b, eb, z⟩ := scr_of (K := K) ru
      cases eb
      exact ⟨_, z, ints_rv ns⟩⟩⟩
  · rename_i ys
    cases h
    obtain ⟨a, ws, rfl, z, _⟩ := tup_of r
    exact .inr ⟨⟨_, .of z⟩, k _ fun t => ⟨fun M Λ S H R rs => by
      obtain ⟨u, eu, ru⟩ := rvs1 rs
      cases eu
      obtain ⟨b, ws, eb, z, rr⟩ := tup_of ru
      cases eb
      exact ⟨_, .of z, rr⟩⟩⟩
  · rename_i ys
    cases h
    obtain ⟨a, ws, rfl, z, _⟩ := asL_rv R r (xs := _) rfl
    exact .inl ⟨⟨_, .of z⟩, k _ fun t => ⟨fun M Λ S H R rs => by
      obtain ⟨u, eu, ru⟩ := rvs1 rs
      cases eu
      obtain ⟨b, ws, eb, z, rr⟩ := asL_rv R ru (xs := _) rfl
      cases eb
      exact ⟨_, .of z, rr⟩⟩⟩
theorem enumL_get : ∀ (xs : List D) (n i : Nat), (enumL n xs)[i]? = (xs[i]?).map fun x => D.tup [.int ((n + i : Nat) : Int), x]
  | [], n, i => by simp [enumL]
  | x :: xs, n, 0 => by simp [enumL]
  | x :: xs, n, i + 1 => by
    simp only [enumL, List.getElem?_cons_succ]
    rw [enumL_get xs (n + 1) i]
    congr 1
    funext y
    rw [Nat.add_assoc, Nat.add_comm 1 i]
theorem enumL_len : ∀ (xs : List D) (n : Nat), (enumL n xs).length = xs.length
  | [], _ => rfl
  | x :: xs, n => by simp [enumL, enumL_len xs (n + 1)]
theorem zipL_get : ∀ (xs ys : List D) (i : Nat) (d : D), (zipL xs ys)[i]? = some d → ∃ x y, xs[i]? = some x ∧ ys[i]? = some y ∧ d = .tup [x, y]
  | [], _, i, d, h => by simp [zipL] at h
  | _ :: _, [], i, d, h => by simp [zipL] at h
  | x :: xs, y :: ys, 0, d, h => by
    simp only [zipL, List.getElem?_cons_zero, Option.some.injEq] at h
    exact ⟨x, y, rfl, rfl, h.symm⟩
  | x :: xs, y :: ys, i + 1, d, h => zipL_get xs ys i d (by simpa [zipL] using h)
theorem zipL_len : ∀ (xs ys : List D), (zipL xs ys).length = min xs.length ys.length
  | [], _ => by simp [zipL]
  | _ :: _, [] => by simp [zipL]
  | x :: xs, y :: ys => by
    simp only [zipL, List.length_cons, zipL_len xs ys]
    omega
theorem jok_enum {c : Src} {xs ds : List D} {vs : List V} (h : SrcOk K c xs ds vs) : JOk (ItE K c) (.fix (enumL 0 xs)) ds vs [] := JOk.fix fun M Λ S H R F0 => by
  obtain ⟨ws, hw, rw'⟩ := h.has M Λ S H R F0.rv
  refine ⟨⟨ws, hw, by rw [enumL_len, rw'.length]⟩, fun i d e => ?_⟩
  rw [enumL_get, Option.map_eq_some_iff] at e
  obtain ⟨x, ex, rfl⟩ := e
  obtain ⟨u, eu, ru⟩ := rw'.get ex
  refine ⟨⟨ws, u, hw, eu⟩, fun v H' y => ?_⟩
  obtain ⟨T0, x', rfl, hn, rfl, y⟩ := y
  have := y ws hw
  rw [eu] at this
  cases this
  have sm := same_upd (o := .tup [.int (i : Nat), u]) hn
  refine ⟨sm, .tup upd_same (.cons ?_ (.cons (ru.step R (Step.same sm)) .nil))⟩
  rw [Nat.zero_add]
  exact .int _
theorem jok_zip {c1 c2 : Src} {xs ys d1 d2 : List D} {v1 v2 : List V} (h1 : SrcOk K c1 xs d1 v1) (h2 : SrcOk K c2 ys d2 v2) (hl : d1.length = v1.length) : JOk (ItZ K c1 c2) (.fix (zipL xs ys)) (d1 ++ d2) (v1 ++ v2) [] := JOk.fix fun M Λ S H R F0 => by
  have r1 : RVs M Λ H d1 v1 := by
    have := F0.rv.take d1.length
    rw [List.take_left, hl, List.take_left] at this
    exact this
  have r2 : RVs M Λ H d2 v2 := by
    have := F0.rv.drop d1.length
    rw [List.drop_left, hl, List.drop_left] at this
    exact this
  obtain ⟨ws, hw, rw'⟩ := h1.has M Λ S H R r1
  obtain ⟨us, hu, ru'⟩ := h2.has M Λ S H R r2
  refine ⟨⟨ws, us, hw, hu, by rw [zipL_len, rw'.length, ru'.length]⟩, fun i d e => ?_⟩
  obtain ⟨x, y, ex, ey, rfl⟩ := zipL_get _ _ _ _ e
  obtain ⟨p, ep, rp⟩ := rw'.get ex
  obtain ⟨q, eq, rq⟩ := ru'.get ey
  refine ⟨⟨ws, us, p, q, hw, hu, ep, eq⟩, fun v H' y => ?_⟩
  obtain ⟨T0, x', y', rfl, hn, rfl, y⟩ := y
  obtain ⟨z1, z2⟩ := y ws us hw hu
  rw [ep] at z1
  rw [eq] at z2
  cases z1
  cases z2
  have sm := same_upd (o := .tup [p, q]) hn
  exact ⟨sm, .tup upd_same (.cons (rp.step R (Step.same sm)) (.cons (rq.step R (Step.same sm)) .nil))⟩
variable {tpos : Pos} {elts : List Expr} {kk : Nat}
theorem si_enum (hg : Gl X "enumerate") (hm : X.mg "enumerate" = none) (ha : PA X [e] (tA g)) (hs : starEach [e] X.env = [(false, eval e X.env)]) {f : Env → Store → Option (W × Store)}
    (hf : ∀ ρ S w S', f ρ S = some (w, S') → ∃ x xs, g ρ S = some ([x], S') ∧ walkS x = some xs ∧ w = .fix (enumL 0 xs)) :
    PI X (.Tuple elts kk tpos) (.Call (.Name "enumerate" p) [e] [] pos) (tI f) := by
  refine PI.imp (pi_enumS hg hm ha hs) fun σ H Rr ⟨M, ρ, S, Λ, w, S', R, RE, h, q⟩ => ?_
  obtain ⟨x, xs, h1, h2, rfl⟩ := hf _ _ _ _ h
  refine ⟨M, ρ, S, Λ, _, S', R, RE, h1, fun vs H1 Λ1 s1 R1 r1 => ?_⟩
  obtain ⟨u, rfl, ru⟩ := rvs1 r1
  exact ⟨u, rfl, srcv_of R1 ru h2 fun c hc t => q _ _ _ [x] [u] [] s1 R1 (Fx.only r1) (jok_enum (hc t))⟩
theorem si_zip {e2 : Expr} (hg : Gl X "zip") (hm : X.mg "zip" = none) (ha : PA X [e, e2] (tA g)) (hs : starEach [e, e2] X.env = (false, eval e X.env) :: starEach [e2] X.env) (hpl : (backTo pos (starEach [e2] X.env)).any (·.1) = false) {f : Env → Store → Option (W × Store)}
    (hf : ∀ ρ S w S', f ρ S = some (w, S') → ∃ x xs y ys, g ρ S = some ([x, y], S') ∧ walkS x = some xs ∧ walkS y = some ys ∧ w = .fix (zipL xs ys)) :
    PI X (.Tuple elts kk tpos) (.Call (.Name "zip" p) [e, e2] [] pos) (tI f) := by
  refine PI.imp (pi_zipS hg hm ha hs hpl) fun σ H Rr ⟨M, ρ, S, Λ, w, S', R, RE, h, q⟩ => ?_
  obtain ⟨x, xs, y, ys, h1, h2, h3, rfl⟩ := hf _ _ _ _ h
  refine ⟨M, ρ, S, Λ, _, S', R, RE, h1, fun vs H1 Λ1 s1 R1 r1 => ?_⟩
  obtain ⟨u, w, rfl, ru, rw'⟩ := rvs2 r1
  exact ⟨u, w, rfl, srcv_of R1 ru h2 fun c1 hc1 t1 => srcv_of R1 rw' h3 fun c2 hc2 t2 => q _ _ _ [x, y] [u, w] [] s1 R1 (Fx.only r1) (jok_zip (d1 := [x]) (v1 := [u]) (hc1 t1) (hc2 t2) rfl)⟩
end
end Pd

/-! Pd13: targets, list comprehensions. -/
namespace Pd
open PySem PySem.Spec PyProof.Rows L2

section
variable {K : PySem.W.Frag} {M : Addr → Prop} {Λ Λ' Λ1 : List Addr} {H H' H1 : Hp} {S S' : Store} {d : D} {v : V} {Q : VK} {X : Cx} {ρ ρ' : Env} {σ σ' : L2.St}
/-! ### slots -/
theorem RelE.set (R : RelE M Λ H ρ σ) (r : RV M Λ H d v) (i : Nat) : RelE M Λ H (ρ.set i (some d)) (σ.set i (some v)) := by
  refine ⟨by simp [R.1], fun j e h => ?_⟩
  by_cases z : i = j
  · subst z
    rw [List.getElem?_set] at h
    simp only [if_true] at h
    split at h
    · rename_i hl
      cases h
      exact ⟨v, by rw [List.getElem?_set]; simp [← R.1, hl], r⟩
    · cases h
  · rw [List.getElem?_set_ne z] at h ⊢
    exact R.2 j e h
theorem RelE.wipe (R : RelE M Λ H ρ σ) : ∀ vs : List Nat, RelE M Λ H (wipeE ρ vs) (wipe σ vs)
  | [] => R
  | v :: vs => by
    have ih := RelE.wipe R vs
    refine ⟨by simp [wipeE, L2.wipe, ih.1], fun j e h => ?_⟩
    unfold wipeE at h
    unfold L2.wipe
    by_cases z : v = j
    · subst z
      rw [List.getElem?_set] at h
      simp only [if_true] at h
      split at h <;> cases h
    · rw [List.getElem?_set_ne z] at h ⊢
      exact ih.2 j e h
theorem wipe_set_out {i : Nat} {w : Option V} : ∀ {vs : List Nat}, wipe (σ.set i w) vs = if i ∈ vs then wipe σ vs else (wipe σ vs).set i w
  | [] => by simp [L2.wipe]
  | v :: vs => by
    unfold L2.wipe
    rw [wipe_set_out (vs := vs)]
    by_cases h : i ∈ vs
    · simp [h]
    · by_cases z : i = v
      · subst z
        simp [h]
      · rw [if_neg h, if_neg (by simp [z, h]), List.set_comm _ _ z]
theorem wipe_in {i : Nat} {w : Option V} {vs : List Nat} (h : i ∈ vs) : wipe (σ.set i w) vs = wipe σ vs := by rw [wipe_set_out, if_pos h]
theorem wipe_twice_sub : ∀ {us vs : List Nat}, (∀ u ∈ us, u ∈ vs) → wipe (wipe σ us) vs = wipe σ vs
  | [], _, _ => rfl
  | u :: us, vs, h => by
    show wipe ((wipe σ us).set u none) vs = _
    rw [wipe_in (h u List.mem_cons_self), wipe_twice_sub fun x hx => h x (List.mem_cons_of_mem _ hx)]
theorem wipe_twice (vs : List Nat) : wipe (wipe σ vs) vs = wipe σ vs := wipe_twice_sub fun _ h => h
/-! ### targets -/
def tgSlots : Tg → List Nat
  | .nm i => [i]
  | .tp is => is
def tG (g : Tg) : TG := fun x σ H N => ∃ M Λ S ρ d ρ', RelS M Λ S H ∧ RelE M Λ H ρ σ ∧ RV M Λ H d x ∧ bindTg g d ρ = some ρ' ∧
  ∀ σ', RelE M Λ H ρ' σ' → (∀ vs, (∀ i ∈ tgSlots g, i ∈ vs) → wipe σ' vs = wipe σ vs) → N σ' H
def tGs (is : List Nat) : TGs := fun xs σ H N => ∃ M Λ S ρ ds ρ', RelS M Λ S H ∧ RelE M Λ H ρ σ ∧ RVs M Λ H ds xs ∧ setAll ρ is ds = some ρ' ∧
  ∀ σ', RelE M Λ H ρ' σ' → (∀ vs, (∀ i ∈ is, i ∈ vs) → wipe σ' vs = wipe σ vs) → N σ' H
theorem PG.imp {X : Cx} {e : Expr} {t t' : TG} (h : PG X e t) (i : ∀ v σ H Q, t' v σ H Q → t v σ H Q) : PG X e t' := ⟨fun pins s σ H v u Q I r q => h.run pins s σ H v u Q I r (i v σ H Q q)⟩
theorem PGs.imp {X : Cx} {e : List Expr} {t t' : TGs} (h : PGs X e t) (i : ∀ v σ H Q, t' v σ H Q → t v σ H Q) : PGs X e t' := ⟨fun pins s σ H v u Q I r q => h.run pins s σ H v u Q I r (i v σ H Q q)⟩
theorem sg_name {i : Nat} {x : Str} {pos : Pos} (hN : X.N.Nodup) (hi : X.N[i]? = some x) (hx : Loc X.env.scope x) (hf : X.fn x = true ∨ X.env.scope.names.lookup x = some .local) : PG X (.Name x pos) (tG (.nm i)) :=
  PG.imp (pg_name hN hi hx hf) fun v σ H N ⟨M, Λ, S, ρ, d, ρ', R, RE, r, h, q⟩ => by
    cases h
    exact q _ (RE.set r i) fun vs hv => wipe_in (hv i List.mem_cons_self)
theorem sgs_nil : PGs X [] (tGs []) := PGs.imp pgs_nil fun vs σ H N ⟨M, Λ, S, ρ, ds, ρ', R, RE, r, h, q⟩ => by
  cases ds with
  | nil => cases r; cases h; exact ⟨rfl, q _ RE fun _ _ => rfl⟩
  | cons _ _ => cases h
theorem sgs_cons {i : Nat} {is : List Nat} {x : Str} {pos : Pos} {es : List Expr} (hN : X.N.Nodup) (hi : X.N[i]? = some x) (hx : Loc X.env.scope x) (hf : X.fn x = true ∨ X.env.scope.names.lookup x = some .local) (h : PGs X es (tGs is))
    (hs : (assignEach (.Name x pos :: es) X.env).map (·.2) = assign (.Name x pos) X.env :: (assignEach es X.env).map (·.2)) : PGs X (.Name x pos :: es) (tGs (i :: is)) :=
  PGs.imp (pgs_cons (pg_name hN hi hx hf) h hs) fun vs σ H N ⟨M, Λ, S, ρ, ds, ρ', R, RE, r, h, q⟩ => by
    cases ds with
    | nil => cases h
    | cons d ds =>
      cases r with
      | @cons _ v _ vr r1 r2 =>
        refine ⟨v, vr, rfl, M, Λ, S, _, ds, ρ', R, RE.set r1 i, r2, h, fun σ' RE' hw => q _ RE' fun us hu => ?_⟩
        rw [hw us fun j hj => hu j (List.mem_cons_of_mem _ hj), wipe_in (hu i List.mem_cons_self)]
theorem setAll_len : ∀ {is : List Nat} {ds : List D} {ρ ρ' : Env}, setAll ρ is ds = some ρ' → ds.length = is.length
  | [], [], _, _, _ => rfl
  | [], _ :: _, _, _, h => by cases h
  | _ :: _, [], _, _, h => by cases h
  | i :: is, d :: ds, _, _, h => by rw [List.length_cons, List.length_cons, setAll_len (is := is) (ds := ds) h]
theorem sg_tup {es : List Expr} {is : List Nat} {k : Nat} {pos : Pos} (hc : X.calm = true) (h : PGs X es (tGs is)) (hn : (assignEach es X.env).length = is.length) (hst : (assignEach es X.env).findIdx? (·.1) = none) : PG X (.Tuple es k pos) (tG (.tp is)) :=
  PG.imp (pg_tup hc h hn hst) fun v σ H N ⟨M, Λ, S, ρ, d, ρ', R, RE, r, h, q⟩ => by
    cases d with
    | tup ds =>
      obtain ⟨a, vs, rfl, ea, rs⟩ := tup_of r
      exact ⟨a, vs, rfl, .of ea, by rw [← rs.length]; exact setAll_len h, M, Λ, S, ρ, ds, ρ', R, RE, rs, h, q⟩
    | _ => cases h

/-! ### tests -/
def tTs (f : Env → Store → Option (Bool × Store)) : TT := fun σ H Q => ∃ M ρ S Λ b S', RelS M Λ S H ∧ RelE M Λ H ρ σ ∧ f ρ S = some (b, S') ∧ ∀ H' Λ', Step Λ H Λ' H' → RelS M Λ' S' H' → Q b H'
theorem PTs.imp {X : Cx} {e : List Expr} {t t' : TT} (h : PTs X e t) (i : ∀ σ H Q, t' σ H Q → t σ H Q) : PTs X e t' := ⟨fun pins s σ H Q I q => h.run pins s σ H Q I (i σ H Q q)⟩
theorem sts_nil {f : Env → Store → Option (Bool × Store)} (hf : ∀ ρ S b S', f ρ S = some (b, S') → b = true ∧ S' = S) : PTs X [] (tTs f) := PTs.imp pts_nil fun σ H Q ⟨M, ρ, S, Λ, b, S', R, RE, h, q⟩ => by
  obtain ⟨rfl, rfl⟩ := hf _ _ _ _ h
  exact q H Λ Step.refl R
theorem sts_one {c : Expr} {fc : Env → Store → Option (D × Store)} {f : Env → Store → Option (Bool × Store)} (h : PT X c (tT fc)) (hf : ∀ ρ S b S', f ρ S = some (b, S') → fc ρ S = some (.bl b, S')) : PTs X [c] (tTs f) :=
  PTs.imp (pts_one h) fun σ H Q ⟨M, ρ, S, Λ, b, S', R, RE, h, q⟩ => ⟨M, ρ, S, Λ, b, S', R, RE, hf _ _ _ _ h, q⟩

/-! ### a walk by turns -/
theorem runG_fix {α : Type} {f : D → Store → Option (Option α × Store)} {xs : List D} : ∀ (n : Nat) (i : Nat) (S : Store) (r : List α × Store), (xs.drop i).length = n → runFix f (xs.drop i) S = some r → runG (nextW (.fix xs)) f (n + 1) i S = some r
  | 0, i, S, r, hn, h => by
    have e : xs.drop i = [] := List.eq_nil_of_length_eq_zero hn
    rw [e] at h
    cases h
    have e' : xs[i]? = none := by
      have h1 : (xs.drop i)[0]? = xs[i]? := by rw [List.getElem?_drop]; rfl
      rw [← h1, e]
      rfl
    unfold runG
    simp only [nextW, e']
  | n + 1, i, S, r, hn, h => by
    cases e : xs.drop i with
    | nil => rw [e] at hn; cases hn
    | cons d ds =>
      have e' : xs[i]? = some d := by
        have h1 : (xs.drop i)[0]? = xs[i]? := by rw [List.getElem?_drop]; rfl
        rw [← h1, e]
        rfl
      have e2 : xs.drop (i + 1) = ds := by
        rw [← List.drop_drop, e]
        rfl
      rw [e] at h hn
      simp only [runFix, Option.bind_eq_some_iff, Option.map_eq_some_iff] at h
      obtain ⟨q, h1, w, h2, h3⟩ := h
      unfold runG
      simp only [nextW, e', h1, Option.bind_some]
      rw [runG_fix n (i + 1) q.2 w (by rw [e2]; simpa using hn) (by rw [e2]; exact h2)]
      simp only [Option.map_some, h3]
theorem runW_runG {α : Type} {fu : Nat} {f : D → Store → Option (Option α × Store)} {w : W} {S : Store} {r : List α × Store} (h : runW fu f w S = some r) : ∃ n, runG (nextW w) f n 0 S = some r := by
  cases w with
  | fix xs => exact ⟨_, runG_fix (xs := xs) xs.length 0 S r rfl h⟩
  | dyn l => exact ⟨fu, h⟩

/-! ### list comprehensions -/
variable {tg iter elt : Expr} {ifs : List Expr} {scope : Scope} {own : List (Str × Nat)} {pos : Pos} {fi : Env → Store → Option (W × Store)} {ft : Env → Store → Option (Bool × Store)} {fe : Env → Store → Option (D × Store)} {g : Tg}
def turnF (g : Tg) (vs : List Nat) (ft : Env → Store → Option (Bool × Store)) (fe : Env → Store → Option (D × Store)) (ρ : Env) : D → Store → Option (Option D × Store) := fun d S1 =>
  (bindTg g d (wipeE ρ vs)).bind fun ρ1 => (ft ρ1 S1).bind fun t => if t.1 then (fe ρ1 t.2).map fun y => (some y.1, y.2) else some (none, t.2)
theorem lc_read (fu : Nat) (k : Bool) {vs0 : List Nat} (hsl : ∀ i ∈ tgSlots g, i ∈ vs0) {σ : L2.St} {H : Hp} {Q : VK}
    (h : tE (fun ρ S => (fi ρ S).bind fun w => (runW fu (turnF g vs0 ft fe ρ) w.1 w.2).bind fun r => if r.1.length ≤ line then some (fin k (.new (.lv r.1)) r.2) else none) σ H Q) :
    tLc (tI fi) (tG g) (tTs ft) (tE fe) vs0 σ H Q := by
  obtain ⟨M, ρ, S, Λ, d, S', R, RE, h, q⟩ := h
  simp only [Option.bind_eq_some_iff] at h
  obtain ⟨⟨w, S1⟩, h1, ⟨total, S2⟩, h2, h3⟩ := h
  split at h3 <;> first | contradiction | skip
  rename_i hl
  simp only [Option.some.injEq] at h3 hl
  obtain ⟨n0, h2⟩ := runW_runG h2
  refine ⟨M, ρ, S, Λ, w, S1, R, RE, h1, fun J H1 Λ1 ds vs fs s1 R1 F1 jok D0 hD => ?_⟩
  have hM : ¬ M D0 := (R1.fresh hD).2
  have o0 := off_new R1 hD (.lst [])
  refine ⟨fun i m H => ∃ Λ2 S3 acc ys r, RelS (more M D0) Λ2 S3 H ∧ RelE (more M D0) Λ2 H ρ σ ∧ Fx (more M D0) Λ2 H ds vs fs ∧ H D0 = some (.lst acc) ∧ RVs (more M D0) Λ2 H ys acc ∧ Step Λ1 H1 Λ2 H ∧ (∀ xs, w = .fix xs → i ≤ xs.length) ∧
    runG (nextW w) (turnF g vs0 ft fe ρ) m i S3 = some (r, S2) ∧ ys ++ r = total, ⟨n0, Λ1, S1, [], [], total, R1.begin hD _, (RE.step R s1).begin R1 hD, F1.begin R1 hD, upd_same, .nil, (Step.refl).updM hD, fun _ _ => Nat.zero_le _, h2, rfl⟩, ?_⟩
  rintro i m H2 ⟨Λ2, S3, acc, ys, r, R2, RE2, F2, eD, ry, s2, hi2, hr, ht2⟩
  have jk := jok _ _ _ _ i R2 F2 hi2
  cases m with
  | zero => cases hr
  | succ n =>
    unfold runG at hr
    split at hr
    · cases hr
    · rename_i en
      simp only [Option.some.injEq, Prod.mk.injEq] at hr
      obtain ⟨rfl, rfl⟩ := hr
      refine .inl ⟨jk.1 en, ?_⟩
      rw [List.append_nil] at ht2
      subst ht2
      have st : Step Λ H Λ2 H2 := s1.trans s2
      cases k with
      | false =>
        obtain ⟨z1, z2⟩ := made_lv R2 hM eD ry
        cases h3
        exact q _ _ _ st z1 z2
      | true =>
        have hD0 : H D0 = none := by
          cases e : H D0 with
          | none => rfl
          | some u =>
            obtain ⟨o', e'⟩ := s1.there _ _ e
            rw [hD] at e'; cases e'
        obtain ⟨z1, z2, z3⟩ := made_ref R2 hM st hD0 (c := .lv ys) eD (.lst ry)
        cases h3
        exact q _ _ _ z3 z1 z2
    · rename_i d' en
      obtain ⟨j1, j2⟩ := jk.2 _ en
      simp only [Option.bind_eq_some_iff, Option.map_eq_some_iff] at hr
      obtain ⟨⟨o, S4⟩, hf, ⟨r', S5⟩, hr', e5⟩ := hr
      simp only [Prod.mk.injEq] at e5
      obtain ⟨e5, rfl⟩ := e5
      refine .inr ⟨j1, fun H => ∃ Λ2 S3 acc ys r, RelS (more M D0) Λ2 S3 H ∧ RelE (more M D0) Λ2 H ρ σ ∧ Fx (more M D0) Λ2 H ds vs fs ∧ H D0 = some (.lst acc) ∧ RVs (more M D0) Λ2 H ys acc ∧ Step Λ1 H1 Λ2 H ∧ (∀ xs, w = .fix xs → i + 1 ≤ xs.length) ∧
        runG (nextW w) (turnF g vs0 ft fe ρ) n (i + 1) S3 = some (r, S5) ∧ ys ++ r = total, fun H' hn => ⟨n, Nat.lt_succ_self n, hn⟩, fun x H3 y => ?_⟩
      obtain ⟨sm, rx⟩ := j2 x H3 y
      have hi3 : ∀ xs, w = .fix xs → i + 1 ≤ xs.length := fun xs ew => by
        subst ew
        simp only [nextW, Option.some.injEq] at en
        exact (List.getElem?_eq_some_iff.mp en).1
      have R3 := R2.same sm
      have RE3 := RE2.step R2 (Step.same sm)
      have F3 := F2.step R2 (Step.same sm)
      have s3 := s2.trans (Step.same sm)
      have ry3 := ry.step R2 (Step.same sm)
      have eD3 := sm _ _ eD
      simp only [turnF, Option.bind_eq_some_iff] at hf
      obtain ⟨ρ1, b1, ⟨t, S6⟩, b2, b3⟩ := hf
      refine ⟨more M D0, Λ2, S3, _, d', ρ1, R3, RE3.wipe _, rx, b1, fun σ2 RE4 hw => ⟨?_, more M D0, ρ1, S3, Λ2, t, S6, R3, RE4, b2, fun H4 Λ4 s4 R4 => ?_⟩⟩
      · rw [hw _ hsl, wipe_twice]
      · have hDn : D0 ∉ Λ2 := fun z => R2.nm D0 z (.inr rfl)
        have eD4 := s4.keep _ _ eD3 hDn
        have ry4 := ry3.step R3 s4
        have F4 := F3.step R3 s4
        have RE5 := RE3.step R3 s4
        cases t with
        | true =>
          simp only [if_true, Option.map_eq_some_iff, Prod.mk.injEq] at b3
          obtain ⟨⟨yv, S7⟩, b4, rfl, rfl⟩ := b3
          refine iteT ⟨more M D0, ρ1, S6, Λ4, yv, S7, R4, RE4.step R3 s4, b4, fun v5 H5 Λ5 s5 R5 r5 => ?_⟩
          have hDn4 : D0 ∉ Λ4 := fun z => R4.nm D0 z (.inr rfl)
          have eD5 := s5.keep _ _ eD4 hDn4
          have ry5 := (ry4.step R4 s5)
          simp only at e5
          subst e5
          have ol : Off (more M D0) Λ5 H5 D0 (upd H5 D0 (.lst (acc ++ [v5]))) := ⟨fun z => R5.nm D0 z (.inr rfl), .inr ⟨.inr rfl, _, eD5, trivial⟩, fun a h => upd_ne h⟩
          have hlen : ys.length + 1 ≤ line := by
            have := congrArg List.length ht2
            rw [List.length_append, List.length_cons] at this
            omega
          refine ⟨acc, eD5, by rw [← ry5.length, ← line_eq]; omega, Λ5, S7, acc ++ [v5], ys ++ [yv], r', R5.off ol ⟨_, upd_same⟩, (RE5.step R4 s5).off ol, (F4.step R4 s5).off ol, upd_same, ?_, ?_, hi3, hr', by rw [List.append_assoc]; exact ht2⟩
          · exact (ry5.append (.cons r5 .nil)).off ol
          · exact (s3.trans (s4.trans s5)).updM hD
        | false =>
          simp only [Bool.false_eq_true, if_false, Option.some.injEq, Prod.mk.injEq] at b3
          obtain ⟨rfl, rfl⟩ := b3
          simp only at e5
          subst e5
          exact iteF ⟨Λ4, S6, acc, ys, r', R4, RE5, F4, eD4, ry4, s3.trans s4, hi3, hr', ht2⟩
theorem se_lc (fu : Nat) (k : Bool) (hc : X.calm = true) (hN : X.N.Nodup) (hi : PI X tg iter (tI fi)) (ok : BlkOk X.N X.env.scope scope own)
    (hg : ∀ (s : Shared) (H : Hp) (C : Addr) (cl : List (Str × Addr)) (fp : List Addr), PG (X.blk s H scope (compEnvC scope cl C X.env) fp) tg (tG g)) (ht : ∀ (s : Shared) (H : Hp) (C : Addr) (cl : List (Str × Addr)) (fp : List Addr), PTs (X.blk s H scope (compEnvC scope cl C X.env) fp) ifs (tTs ft))
    (he : ∀ (s : Shared) (H : Hp) (C : Addr) (cl : List (Str × Addr)) (fp : List Addr), PE (X.blk s H scope (compEnvC scope cl C X.env) fp) elt (tE fe)) (hs : ∀ x, foldedSetIterable iter X.env x = pure x) (hsl : ∀ i ∈ tgSlots g, i ∈ own.map (·.2)) :
    PE X (.ListComp elt [⟨tg, iter, ifs, 0⟩] scope pos) (tE fun ρ S => (fi ρ S).bind fun w => (runW fu (turnF g (own.map (·.2)) ft fe ρ) w.1 w.2).bind fun r => if r.1.length ≤ line then some (fin k (.new (.lv r.1)) r.2) else none) := by
  exact PE.imp (pe_lc hc hN hi ok hg ht he hs) fun σ H Q h => lc_read fu k hsl h
end
end Pd

/-! Pd14: dict comprehensions. -/
namespace Pd
open PySem PySem.Spec PyProof.Rows L2

section
variable {K : PySem.W.Frag} {M : Addr → Prop} {Λ Λ' Λ1 : List Addr} {H H' H1 : Hp} {S S' : Store} {d : D} {v : V} {Q : VK} {X : Cx} {ρ ρ' : Env} {σ σ' : L2.St}
theorem dPut_len (k : DK) (e : D) (ks : List DK) (vs : List D) : (dPut k e ks vs).1.length ≤ ks.length + 1 := by
  unfold dPut
  split
  · exact Nat.le_succ _
  · simp
theorem foldPut_snoc : ∀ (ps : List (DK × D)) (k : DK) (e : D) (acc : List DK × List D), foldPut (ps ++ [(k, e)]) acc = dPut k e (foldPut ps acc).1 (foldPut ps acc).2
  | [], _, _, _ => rfl
  | (j, u) :: ps, k, e, acc => foldPut_snoc ps k e _
theorem foldPut_len : ∀ (ps : List (DK × D)) (acc : List DK × List D), (foldPut ps acc).1.length ≤ acc.1.length + ps.length
  | [], _ => Nat.le_refl _
  | (j, u) :: ps, acc => by
    have h1 := foldPut_len ps (dPut j u acc.1 acc.2)
    have h2 := dPut_len j u acc.1 acc.2
    show (foldPut ps (dPut j u acc.1 acc.2)).1.length ≤ _
    rw [List.length_cons]
    omega
theorem flat_rv {q : DK} (r : RV M Λ H d v) (h : asFlat d = some q) : ∃ kk : Key, v = kV kk ∧ KK [q] [kk] := by
  unfold asFlat at h
  split at h <;> first | contradiction | skip
  · cases h
    obtain rfl := int_of r
    exact ⟨.inl _, rfl, .i .nil⟩
  · cases h
    obtain ⟨o, rfl⟩ := okS_of r
    exact ⟨.inr _, rfl, .s o .nil⟩
/-! ### dict comprehensions -/
variable {tg iter kx vx : Expr} {ifs : List Expr} {scope : Scope} {own : List (Str × Nat)} {pos : Pos} {fi : Env → Store → Option (W × Store)} {ft : Env → Store → Option (Bool × Store)} {fk fe : Env → Store → Option (D × Store)} {g : Tg}
def turnK (g : Tg) (vs : List Nat) (ft : Env → Store → Option (Bool × Store)) (fk fe : Env → Store → Option (D × Store)) (ρ : Env) : D → Store → Option (Option (DK × D) × Store) := fun d S1 =>
  (bindTg g d (wipeE ρ vs)).bind fun ρ1 => (ft ρ1 S1).bind fun t => if t.1 then (fk ρ1 t.2).bind fun y => (fe ρ1 y.2).bind fun z => (asFlat y.1).map fun q => (some (q, z.1), z.2) else some (none, t.2)
theorem se_dc (fu : Nat) (k : Bool) (hc : X.calm = true) (hN : X.N.Nodup) (hi : PI X tg iter (tI fi)) (ok : BlkOk X.N X.env.scope scope own)
    (hg : ∀ (s : Shared) (H : Hp) (C : Addr) (cl : List (Str × Addr)) (fp : List Addr), PG (X.blk s H scope (compEnvC scope cl C X.env) fp) tg (tG g)) (ht : ∀ (s : Shared) (H : Hp) (C : Addr) (cl : List (Str × Addr)) (fp : List Addr), PTs (X.blk s H scope (compEnvC scope cl C X.env) fp) ifs (tTs ft))
    (hk : ∀ (s : Shared) (H : Hp) (C : Addr) (cl : List (Str × Addr)) (fp : List Addr), PE (X.blk s H scope (compEnvC scope cl C X.env) fp) kx (tE fk))
    (he : ∀ (s : Shared) (H : Hp) (C : Addr) (cl : List (Str × Addr)) (fp : List Addr), PE (X.blk s H scope (compEnvC scope cl C X.env) fp) vx (tE fe)) (hs : ∀ x, foldedSetIterable iter X.env x = pure x) (hsl : ∀ i ∈ tgSlots g, i ∈ own.map (·.2)) :
    PE X (.DictComp kx vx [⟨tg, iter, ifs, 0⟩] scope pos) (tE fun ρ S => (fi ρ S).bind fun w => (runW fu (turnK g (own.map (·.2)) ft fk fe ρ) w.1 w.2).bind fun r => if r.1.length ≤ line then some (fin k (.new (.dv false (foldPut r.1 ([], [])).1 (foldPut r.1 ([], [])).2)) r.2) else none) := by
  refine PE.imp (pe_locked (pe_dc hc hN hi ok hg ht hk he hs)) fun σ H Q ⟨M, ρ, S, Λ, d, S', R, RE, h, q⟩ => ?_
  simp only [Option.bind_eq_some_iff] at h
  obtain ⟨⟨w, S1⟩, h1, ⟨total, S2⟩, h2, h3⟩ := h
  split at h3 <;> first | contradiction | skip
  rename_i hl
  simp only [Option.some.injEq] at h3 hl
  obtain ⟨n0, h2⟩ := runW_runG h2
  refine ⟨M, ρ, S, Λ, w, S1, R, RE, h1, fun J H1 Λ1 ds vs fs s1 R1 F1 jok D0 hD => ?_⟩
  have hM : ¬ M D0 := (R1.fresh hD).2
  have o0 := off_new R1 hD (.dK [])
  refine ⟨fun i m H => ∃ Λ2 S3 acc ys r, RelS (more M D0) Λ2 S3 H ∧ RelE (more M D0) Λ2 H ρ σ ∧ Fx (more M D0) Λ2 H ds vs fs ∧ H D0 = some (.dK acc) ∧ KK (foldPut ys ([], [])).1 (acc.map (·.1)) ∧ RVs (more M D0) Λ2 H (foldPut ys ([], [])).2 (acc.map (·.2)) ∧ Step Λ1 H1 Λ2 H ∧ (∀ xs, w = .fix xs → i ≤ xs.length) ∧
    runG (nextW w) (turnK g (own.map (·.2)) ft fk fe ρ) m i S3 = some (r, S2) ∧ ys ++ r = total, ⟨n0, Λ1, S1, [], [], total, R1.begin hD _, (RE.step R s1).begin R1 hD, F1.begin R1 hD, upd_same, .nil, .nil, (Step.refl).updM hD, fun _ _ => Nat.zero_le _, h2, rfl⟩, ?_⟩
  rintro i m H2 ⟨Λ2, S3, acc, ys, r, R2, RE2, F2, eD, kk, ry, s2, hi2, hr, ht2⟩
  have jk := jok _ _ _ _ i R2 F2 hi2
  cases m with
  | zero => cases hr
  | succ n =>
    unfold runG at hr
    split at hr
    · cases hr
    · rename_i en
      simp only [Option.some.injEq, Prod.mk.injEq] at hr
      obtain ⟨rfl, rfl⟩ := hr
      refine .inl ⟨jk.1 en, ?_⟩
      rw [List.append_nil] at ht2
      subst ht2
      have st : Step Λ H Λ2 H2 := s1.trans s2
      cases k with
      | false =>
        refine .inr ⟨D0, _, rfl, eD, trivial, fun od => ?_⟩
        have ol : Off (more M D0) Λ2 H2 D0 (upd H2 D0 (.frz od (.dK acc))) := ⟨fun z => R2.nm D0 z (.inr rfl), .inr ⟨.inr rfl, _, eD, trivial⟩, fun a h => upd_ne h⟩
        have z1 := (R2.off ol ⟨_, upd_same⟩).less
        cases h3
        exact q _ _ _ (s1.trans (s2.updM hD)) z1 (.dct upd_same (fun z => R2.nm D0 z (.inr rfl)) hM (.dK kk (ry.off ol).less))
      | true =>
        have hD0 : H D0 = none := by
          cases e : H D0 with
          | none => rfl
          | some u =>
            obtain ⟨o', e'⟩ := s1.there _ _ e
            rw [hD] at e'; cases e'
        obtain ⟨z1, z2, z3⟩ := made_ref R2 hM st hD0 (c := .dv false _ _) eD (.dK kk ry)
        cases h3
        exact .inl (q _ _ _ z3 z1 z2)
    · rename_i d' en
      obtain ⟨j1, j2⟩ := jk.2 _ en
      simp only [Option.bind_eq_some_iff, Option.map_eq_some_iff] at hr
      obtain ⟨⟨o, S4⟩, hf, ⟨r', S5⟩, hr', e5⟩ := hr
      simp only [Prod.mk.injEq] at e5
      obtain ⟨e5, rfl⟩ := e5
      refine .inr ⟨j1, fun H => ∃ Λ2 S3 acc ys r, RelS (more M D0) Λ2 S3 H ∧ RelE (more M D0) Λ2 H ρ σ ∧ Fx (more M D0) Λ2 H ds vs fs ∧ H D0 = some (.dK acc) ∧ KK (foldPut ys ([], [])).1 (acc.map (·.1)) ∧ RVs (more M D0) Λ2 H (foldPut ys ([], [])).2 (acc.map (·.2)) ∧ Step Λ1 H1 Λ2 H ∧ (∀ xs, w = .fix xs → i + 1 ≤ xs.length) ∧
        runG (nextW w) (turnK g (own.map (·.2)) ft fk fe ρ) n (i + 1) S3 = some (r, S5) ∧ ys ++ r = total, fun H' hn => ⟨n, Nat.lt_succ_self n, hn⟩, fun x H3 y => ?_⟩
      obtain ⟨sm, rx⟩ := j2 x H3 y
      have hi3 : ∀ xs, w = .fix xs → i + 1 ≤ xs.length := fun xs ew => by
        subst ew
        simp only [nextW, Option.some.injEq] at en
        exact (List.getElem?_eq_some_iff.mp en).1
      have R3 := R2.same sm
      have RE3 := RE2.step R2 (Step.same sm)
      have F3 := F2.step R2 (Step.same sm)
      have s3 := s2.trans (Step.same sm)
      have ry3 := ry.step R2 (Step.same sm)
      have eD3 := sm _ _ eD
      simp only [turnK, Option.bind_eq_some_iff] at hf
      obtain ⟨ρ1, b1, ⟨t, S6⟩, b2, b3⟩ := hf
      refine ⟨more M D0, Λ2, S3, _, d', ρ1, R3, RE3.wipe _, rx, b1, fun σ2 RE4 hw => ⟨?_, more M D0, ρ1, S3, Λ2, t, S6, R3, RE4, b2, fun H4 Λ4 s4 R4 => ?_⟩⟩
      · rw [hw _ hsl, wipe_twice]
      · have hDn : D0 ∉ Λ2 := fun z => R2.nm D0 z (.inr rfl)
        have eD4 := s4.keep _ _ eD3 hDn
        have ry4 := ry3.step R3 s4
        have F4 := F3.step R3 s4
        have RE5 := RE3.step R3 s4
        cases t with
        | true =>
          simp only [if_true, Option.bind_eq_some_iff, Option.map_eq_some_iff, Prod.mk.injEq] at b3
          obtain ⟨⟨yk, S7⟩, b4, ⟨yv, S8⟩, b5, qk, b6, rfl, rfl⟩ := b3
          refine iteT ⟨more M D0, ρ1, S6, Λ4, yk, S7, R4, RE4.step R3 s4, b4, fun v5 H5 Λ5 s5 R5 r5 => ⟨more M D0, ρ1, S7, Λ5, yv, S8, R5, (RE4.step R3 s4).step R4 s5, b5, fun v6 H6 Λ6 s6 R6 r6 => ?_⟩⟩
          obtain ⟨kk6, rfl, hkk⟩ := flat_rv r5 b6
          have hDn4 : D0 ∉ Λ4 := fun z => R4.nm D0 z (.inr rfl)
          have hDn5 : D0 ∉ Λ5 := fun z => R5.nm D0 z (.inr rfl)
          have eD6 := s6.keep _ _ (s5.keep _ _ eD4 hDn4) hDn5
          have ry6 := (ry4.step R4 s5).step R5 s6
          simp only at e5
          subst e5
          have ol : Off (more M D0) Λ6 H6 D0 (upd H6 D0 (.dK (putK acc kk6 v6))) := ⟨fun z => R6.nm D0 z (.inr rfl), .inr ⟨.inr rfl, _, eD6, trivial⟩, fun a h => upd_ne h⟩
          have hlen : ys.length + 1 ≤ line := by
            have := congrArg List.length ht2
            rw [List.length_append, List.length_cons] at this
            omega
          have hacc : acc.length < sizeLine := by
            have h1 := kk.len
            have h2 := foldPut_len ys ([], [])
            rw [List.length_map] at h1
            rw [← line_eq]
            simp only [List.length_nil] at h2
            omega
          obtain ⟨z1, z2⟩ := dput_KK hkk r6 kk ry6
          refine ⟨acc, kk6, rfl, eD6, hacc, Λ6, S8, putK acc kk6 v6, ys ++ [(qk, yv)], r', R6.off ol ⟨_, upd_same⟩, ((RE5.step R4 s5).step R5 s6).off ol, ((F4.step R4 s5).step R5 s6).off ol, upd_same, ?_, ?_, ?_, hi3, hr', by rw [List.append_assoc]; exact ht2⟩
          · rw [foldPut_snoc]
            exact z1
          · rw [foldPut_snoc]
            exact z2.off ol
          · exact (s3.trans (s4.trans (s5.trans s6))).updM hD
        | false =>
          simp only [Bool.false_eq_true, if_false, Option.some.injEq, Prod.mk.injEq] at b3
          obtain ⟨rfl, rfl⟩ := b3
          simp only at e5
          subst e5
          exact iteF ⟨Λ4, S6, acc, ys, r', R4, RE5, F4, eD4, kk, ry4, s3.trans s4, hi3, hr', ht2⟩
end
end Pd

/-! Pd15: the text agrees with the small language; what that gives. -/
namespace Pd
open PySem PySem.Spec PyProof.Rows L2

/-! ### looks -/
def eqB (a b : Str) : Bool := decide (a = b)
theorem eqB_eq {a b : Str} (h : eqB a b = true) : a = b := of_decide_eq_true h
def gl? (sc : Scope) (x : Str) : Bool := decide (sc.names.lookup x = some .globalImplicit)
def vis? (sc : Scope) (x : Str) : Bool := decide (sc.names.lookup x = some .local) || decide (sc.names.lookup x = some .cell) || decide (sc.names.lookup x = some .free)
def loc? (sc : Scope) (x : Str) : Bool := decide (sc.names.lookup x = some .local) || decide (sc.names.lookup x = some .cell)
def nodb (x : Str) : Bool := (x == ("__debug__" : Str)) == false
def ns : Expr → Bool
  | .Starred _ _ => false
  | _ => true
def nsAll : List Expr → Bool
  | [] => true
  | x :: xs => ns x && nsAll xs
/-- no slice, no set -/
def plainX : Expr → Bool
  | .Slice _ _ _ _ => false
  | .Set _ _ _ => false
  | _ => true
/-- a receiver's look -/
def rcvX : Expr → Bool
  | .Name _ _ => true
  | .Constant _ _ _ => true
  | .Subscript _ _ _ => true
  | .BinOp _ _ _ _ => true
  | .ListComp _ _ _ _ => true
  | .Call _ (_ :: _) _ _ => true
  | _ => false
def tyNames : List String := ["int", "str", "tuple", "list", "dict", "bool"]
def okC (c : List Nat) : Bool := c.all fun x => decide (x < 0x110000)
theorem okC_S {c : List Nat} (h : okC c = true) : okS c := fun x hx => of_decide_eq_true (List.all_eq_true.mp h x hx)
/-- a target; fn: the names that may be stored though no locals -/
def chkT (N : List Str) (sc : Scope) (fn : Str → Bool) (i : Nat) : Expr → Bool
  | .Name x _ => decide (N[i]? = some x) && loc? sc x && (fn x || decide (sc.names.lookup x = some .local))
  | _ => false
def chkTs (N : List Str) (sc : Scope) (fn : Str → Bool) : List Nat → List Expr → Bool
  | [], [] => true
  | i :: is, x :: xs => chkT N sc fn i x && chkTs N sc fn is xs
  | _, _ => false
def chkG (N : List Str) (sc : Scope) (fn : Str → Bool) : Tg → Expr → Bool
  | .nm i, x => chkT N sc fn i x
  | .tp is, .Tuple xs _ _ => chkTs N sc fn is xs
  | .tp _, _ => false
def isTupX : Expr → Bool
  | .Tuple _ _ _ => true
  | _ => false
def ownOf (N : List Str) (vs : List Nat) : List (Str × Nat) := vs.map fun i => (N[i]?.getD ⟨#[]⟩, i)
def fnB (scope : Scope) : Str → Bool := fun x => scope.names.lookup x == some .cell
def gvOk (G : Sig) (x : Str) (d : D) : Bool := match G.gvs.lookup x, d with
  | some (.int j), .int i => decide (i = j)
  | some (.str b), .str c => decide (b = c)
  | _, _ => false
def esLen : Es → Nat
  | .nil => 0
  | .cons _ es => esLen es + 1

section
variable (G : Sig) (N : List Str)
mutual
def chkE (sc : Scope) : E → Expr → Bool
  | .var i, x => match x with
    | .Name y _ => decide (N[i]? = some y) && vis? sc y && nodb y && ((y == ("__classdict__" : Str)) == false)
    | _ => false
  | .non, x => match x with
    | .Constant .none _ _ => true
    | _ => false
  | .bl b, x => match x with
    | .Constant (.bool c) _ _ => decide (b = c)
    | _ => false
  | .int i, x => match x with
    | .Constant (.int j) _ _ => decide (i = j)
    | _ => false
  | .str c, x => match x with
    | .Constant (.str s) _ _ => decide (s = sOf c) && okC c
    | _ => false
  | .gv y d, x => match x with
    | .Name z _ => eqB z y && gl? sc z && nodb z && gvOk G y d
    | _ => false
  | .op o a b, x => match x with
    | .BinOp l p r _ => decide (p = astOp o) && chkE sc a l && chkE sc b r
    | _ => false
  | .neg a, x => match x with
    | .UnaryOp .USub l _ => chkE sc a l
    | _ => false
  | .cmp o a b, x => match x with
    | .Compare l [p] [r] _ => decide (p = astCmp o) && plainX r && chkE sc a l && chkE sc b r
    | _ => false
  | .chain o p a b c, x => match x with
    | .Compare l [o1, p1] [r1, r2] _ => decide (o1 = astCmp o) && decide (p1 = astCmp p) && plainX r2 && chkE sc a l && chkE sc b r1 && chkE sc c r2
    | _ => false
  | .and a b, x => match x with
    | .BoolOp .And [l, r] _ => chkE sc a l && chkE sc b r
    | .BoolOp .And (l :: r :: q :: rest) pos => chkE sc a l && chkE sc b (.BoolOp .And (r :: q :: rest) pos)
    | _ => false
  | .or a b, x => match x with
    | .BoolOp .Or [l, r] _ => chkE sc a l && chkE sc b r
    | .BoolOp .Or (l :: r :: q :: rest) pos => chkE sc a l && chkE sc b (.BoolOp .Or (r :: q :: rest) pos)
    | _ => false
  | .not a, x => match x with
    | .UnaryOp .Not l _ => chkE sc a l
    | _ => false
  | .ite c a b, x => match x with
    | .IfExp t l r _ => chkE sc c t && chkE sc a l && chkE sc b r
    | _ => false
  | .ty n, x => match x with
    | .Name y _ => decide (n ∈ tyNames) && eqB y (Str.ofString n) && gl? sc y
    | _ => false
  | .tup es, x => match x with
    | .Tuple xs _ _ => chkEs sc es xs
    | _ => false
  | .lrg1 k a, x => match x with
    | .Call (.Name f _) [.Call (.Name g _) [y] [] _] [] _ => eqB f "list" && eqB g "range" && gl? sc f && gl? sc g && ns y && chkE sc a y
    | _ => false
  | .lrg2 k a b, x => match x with
    | .Call (.Name f _) [.Call (.Name g _) [y, z] [] _] [] _ => eqB f "list" && eqB g "range" && gl? sc f && gl? sc g && ns y && ns z && chkE sc a y && chkE sc b z
    | _ => false
  | .lst k es, x => match x with
    | .List xs _ => chkEs sc es xs
    | _ => false
  | .dct k t .nil .nil, x => match x with
    | .Dict [] [] _ => true
    | _ => false
  | .dct _ _ _ _, _ => false
  | .sub a i, x => match x with
    | .Subscript l r _ => plainX r && chkE sc a l && chkE sc i r
    | _ => false
  | .slc a lo hi, x => match x with
    | .Subscript l (.Slice lo' hi' none _) _ => chkE sc a l && chkO sc lo lo' && chkO sc hi hi'
    | _ => false
  | .rev a, x => match x with
    | .Subscript l (.Slice none none (some (.UnaryOp .USub (.Constant (.int i) _ _) _)) _) _ => decide (i = 1) && chkE sc a l
    | _ => false
  | .call f es, x => match x with
    | .Call (.Name g _) xs [] _ => eqB g f && gl? sc g && nodb g && (match G.fns.lookup f with | some ps => decide (ps.length = xs.length) | none => false) && chkEs sc es xs
    | _ => false
  | .blt b k es, x => match x with
    | .Call (.Name g _) (y :: ys) [] _ => eqB g (bltNm b) && gl? sc g && chkEs sc es (y :: ys)
    | _ => false
  | .mth m a es, x => match x with
    | .Call (.Attribute o nm apos) xs [] cpos => eqB nm (mthNm m) && mthHave m && rcvX o && (apos.endLine == cpos.line) && decide (xs.length < 30) && chkE sc a o && chkEs sc es xs
    | _ => false
  | .lc k elt g vs it c, x => match x with
    | .ListComp y [⟨tg, iter, ifs, asy⟩] scope _ => decide (asy = 0) && blkC N sc scope (ownOf N vs) && (tgSlots g).all (fun i => decide (i ∈ vs)) && plainX iter && chkG N (relS scope sc) (fnB scope) g tg && chkI sc it tg iter && chkC (relS scope sc) c ifs && chkE (relS scope sc) elt y
    | _ => false
  | .dc k key val g vs it c, x => match x with
    | .DictComp y z [⟨tg, iter, ifs, asy⟩] scope _ => decide (asy = 0) && blkC N sc scope (ownOf N vs) && (tgSlots g).all (fun i => decide (i ∈ vs)) && plainX iter && chkG N (relS scope sc) (fnB scope) g tg && chkI sc it tg iter && chkC (relS scope sc) c ifs && chkE (relS scope sc) key y && chkE (relS scope sc) val z
    | _ => false
def chkEs (sc : Scope) : Es → List Expr → Bool
  | .nil, xs => match xs with
    | [] => true
    | _ => false
  | .cons e es, xs => match xs with
    | x :: xs => ns x && chkE sc e x && chkEs sc es xs
    | _ => false
def chkO (sc : Scope) : Es → Option Expr → Bool
  | .nil, x => match x with
    | none => true
    | _ => false
  | .cons e es, x => match es, x with
    | .nil, some x => chkE sc e x
    | _, _ => false
def chkC (sc : Scope) : Es → List Expr → Bool
  | .nil, xs => match xs with
    | [] => true
    | _ => false
  | .cons e es, xs => match es, xs with
    | .nil, [x] => chkE sc e x
    | _, _ => false
def chkI (sc : Scope) : It → Expr → Expr → Bool
  | .of e, tg, x => chkE sc e x
  | .range es, tg, x => match x with
    | .Call (.Name f _) xs [] _ => eqB f "range" && gl? sc f && (decide (xs.length = 1) || decide (xs.length = 2)) && chkEs sc es xs
    | _ => false
  | .enum e, tg, x => match x with
    | .Call (.Name f _) [y] [] _ => isTupX tg && eqB f "enumerate" && gl? sc f && ns y && chkE sc e y
    | _ => false
  | .zip a b, tg, x => match x with
    | .Call (.Name f _) [y, z] [] _ => isTupX tg && eqB f "zip" && gl? sc f && ns y && ns z && chkE sc a y && chkE sc b z
    | _ => false
end
end

/-! ### lists of arguments -/
theorem star_ns {x : Expr} {xs : List Expr} {env : PySem.Env} (h : ns x = true) : starEach (x :: xs) env = (false, eval x env) :: starEach xs env := by
  cases x <;> first | rfl | cases h
theorem star_none : ∀ {xs : List Expr} {env : PySem.Env}, nsAll xs = true → ∀ p ∈ starEach xs env, p.1 = false
  | [], _, _ => fun p hp => by cases hp
  | x :: xs, env, h => by
    simp only [nsAll, Bool.and_eq_true] at h
    rw [star_ns h.1]
    intro p hp
    rcases List.mem_cons.mp hp with rfl | hp
    · rfl
    · exact star_none h.2 p hp
theorem back_any {xs : List Expr} {env : PySem.Env} {pos : Pos} (h : nsAll xs = true) : (backTo pos (starEach xs env)).any (·.1) = false := by
  rw [List.any_eq_false]
  intro p hp
  simp only [backTo, List.mem_map] at hp
  obtain ⟨q, hq, rfl⟩ := hp
  have := star_none h q hq
  simp [this]
theorem back_all {xs : List Expr} {env : PySem.Env} {pos : Pos} (h : nsAll xs = true) : (backTo pos (starEach xs env)).all (fun x => !x.1) = true := by
  rw [List.all_eq_true]
  intro p hp
  simp only [backTo, List.mem_map] at hp
  obtain ⟨q, hq, rfl⟩ := hp
  have := star_none h q hq
  simp [this]
theorem rcv_base {o : Expr} {nm : Str} {env : PySem.Env} (h : rcvX o = true) : attributeBase o nm env (eval o env) = eval o env := by
  cases o with
  | Call f args kw p =>
    cases args with
    | nil => simp [rcvX] at h
    | cons _ _ => cases f <;> rfl
  | _ => first | rfl | simp [rcvX] at h
theorem plain_in {op : CmpOp} {r : Expr} (h : plainX r = true) : behindInMarks op r = false := by
  cases r <;> first | rfl | simp [plainX] at h
theorem plain_ix {r : Expr} (h : plainX r = true) : PlainIx r := by
  cases r <;> first | (intro _ _; rfl) | simp [plainX] at h
theorem plain_set {r : Expr} {env : PySem.Env} (h : plainX r = true) : ∀ x, foldedSetIterable r env x = pure x := by
  cases r <;> first | (intro _; rfl) | simp [plainX] at h
theorem OkX.blk {G : Sig} {Φ : Calls} {n : Nat} {X : Cx} (O : OkX G Φ n X) {s : Shared} {H : Hp} {scope : Scope} {env : PySem.Env} {fp : List Addr} : OkX G Φ n (X.blk s H scope env fp) := ⟨O.nd, O.calm, O.room, O.blt, O.fn, O.gv⟩
theorem gl_of {X : Cx} {x : Str} (h : gl? X.env.scope x = true) : Gl X x := show X.env.scope.names.lookup x = some .globalImplicit from of_decide_eq_true h
theorem vis_of {X : Cx} {x : Str} (h : vis? X.env.scope x = true) : Vis X.env.scope x := by
  unfold vis? at h
  simp only [Bool.or_eq_true, decide_eq_true_eq] at h
  rcases h with (h | h) | h
  · exact .inl h
  · exact .inr (.inl h)
  · exact .inr (.inr h)
theorem loc_of {sc : Scope} {x : Str} (h : loc? sc x = true) : Loc sc x := by
  unfold loc? at h
  simp only [Bool.or_eq_true, decide_eq_true_eq] at h
  exact h
theorem nodb_of {x : Str} (h : nodb x = true) : (x == ("__debug__" : Str)) = false := by simpa [nodb] using h
theorem ty_boot {n : String} (h : n ∈ tyNames) : bootBuiltins (Str.ofString n) = some (.type n) ∧ Str.ofString n ≠ "__name__" ∧ ((Str.ofString n) == ("__debug__" : Str)) = false ∧ Str.ofString n ∈ bltNames := by
  unfold tyNames at h
  simp only [List.mem_cons, List.not_mem_nil, or_false] at h
  rcases h with rfl | rfl | rfl | rfl | rfl | rfl <;> decide +kernel
theorem blt_in {x : Str} (h : x = "list" ∨ x = "range" ∨ x = "enumerate" ∨ x = "zip") : x ∈ bltNames := by
  rcases h with rfl | rfl | rfl | rfl <;> decide +kernel
section
variable {X : Cx} {N : List Str} {sc : Scope}
theorem chkT_ok {fn : Str → Bool} {i : Nat} {x : Expr} (h : chkT N X.env.scope fn i x = true) (hN : X.N = N) (hnd : X.N.Nodup) (hfn : ∀ y, fn y = true → X.fn y = true) : ∃ y p, x = .Name y p ∧ X.N[i]? = some y ∧ Loc X.env.scope y ∧ (X.fn y = true ∨ X.env.scope.names.lookup y = some .local) := by
  cases x <;> try (simp [chkT] at h; done)
  rename_i y p
  simp only [chkT, Bool.and_eq_true, Bool.or_eq_true, decide_eq_true_eq] at h
  obtain ⟨⟨h1, h2⟩, h3⟩ := h
  exact ⟨y, p, rfl, by rw [hN]; exact h1, loc_of h2, h3.imp (hfn y) id⟩
theorem chkTs_ok {fn : Str → Bool} (hN : X.N = N) (hnd : X.N.Nodup) (hfn : ∀ y, fn y = true → X.fn y = true) : ∀ {is : List Nat} {xs : List Expr}, chkTs N X.env.scope fn is xs = true → PGs X xs (tGs is) ∧ (assignEach xs X.env).length = is.length ∧ (assignEach xs X.env).findIdx? (·.1) = none
  | [], [], _ => ⟨sgs_nil, rfl, rfl⟩
  | [], _ :: _, h => by cases h
  | _ :: _, [], h => by cases h
  | i :: is, x :: xs, h => by
    simp only [chkTs, Bool.and_eq_true] at h
    obtain ⟨y, p, rfl, h1, h2, h3⟩ := chkT_ok h.1 hN hnd hfn
    obtain ⟨k1, k2, k3⟩ := chkTs_ok hN hnd hfn h.2
    refine ⟨sgs_cons hnd h1 h2 h3 k1 rfl, ?_, ?_⟩
    · show (assignEach xs X.env).length + 1 = _
      rw [k2, List.length_cons]
    · show List.findIdx? (·.1) ((false, assign (.Name y p) X.env) :: assignEach xs X.env) = none
      rw [List.findIdx?_cons, k3]
      rfl
theorem chkG_ok {fn : Str → Bool} {g : Tg} {x : Expr} (hc : X.calm = true) (hN : X.N = N) (hnd : X.N.Nodup) (hfn : ∀ y, fn y = true → X.fn y = true) (h : chkG N X.env.scope fn g x = true) : PG X x (tG g) := by
  cases g with
  | nm i =>
    obtain ⟨y, p, rfl, h1, h2, h3⟩ := chkT_ok (x := x) h hN hnd hfn
    exact sg_name hnd h1 h2 h3
  | tp is =>
    cases x <;> try (simp [chkG] at h; done)
    rename_i xs k p
    obtain ⟨k1, k2, k3⟩ := chkTs_ok hN hnd hfn (show chkTs N X.env.scope fn is xs = true from h)
    exact sg_tup hc k1 k2 k3
end
end Pd

/-! Pd16: what agrees is sound: expressions. -/
namespace Pd
open PySem PySem.Spec PyProof.Rows L2

structure SE (X : Cx) (x : Expr) (f : Env → Store → Option (D × Store)) : Prop where
  pe : PE X x (tE f)
  pt : PT X x (tT f)
  pw : ∀ o l p, x = .BoolOp o l p → PW X x (tT f)
def isVal : Expr → Bool
  | .UnaryOp .Not _ _ => false
  | .BoolOp _ _ _ => false
  | .IfExp _ _ _ _ => false
  | .Compare _ _ _ _ => false
  | _ => true
theorem isVal_true {x : Expr} {env : PySem.Env} (h : isVal x = true) : ∀ whole, isTrue x env whole = (do let v ← whole; standAt x.pos; holding [v] (truthy v)) := by
  cases x with
  | UnaryOp o _ _ => cases o <;> first | (intro _; rfl) | simp [isVal] at h
  | _ => first | (intro _; rfl) | simp [isVal] at h
theorem SE.val {X : Cx} {x : Expr} {f : Env → Store → Option (D × Store)} (h : PE X x (tE f)) (hv : isVal x = true) : SE X x f :=
  ⟨h, st_val h (isVal_true hv), fun o l p e => by subst e; simp [isVal] at hv⟩
structure SA (X : Cx) (xs : List Expr) (f : Env → Store → Option (List D × Store)) : Prop where
  pa : PA X xs (tA f)
  ns : nsAll xs = true
  len : ∀ ρ S ds S', f ρ S = some (ds, S') → ds.length = xs.length
  zero : xs = [] → ∀ ρ S ds S', f ρ S = some (ds, S') → S' = S
section
variable {G : Sig} {N : List Str} {fu : Nat} {Φ : Calls} {n : Nat}
theorem ev_one {es : Es} {e : E} {ρ : Env} {S S' : Store} {ds : List D} (h : evs fu Φ (.cons e .nil) ρ S = some (ds, S')) : ∃ d, ds = [d] ∧ ev fu Φ e ρ S = some (d, S') := by
  simp only [evs, Option.bind_eq_some_iff, Option.map_eq_some_iff, Prod.mk.injEq] at h
  obtain ⟨⟨x, S1⟩, h1, ⟨y, S2⟩, h2, rfl, rfl⟩ := h
  cases h2
  exact ⟨x, rfl, h1⟩
theorem evs_two {e1 e2 : E} {ρ : Env} {S S' : Store} {x y : D} {S1 : Store} (h1 : ev fu Φ e1 ρ S = some (x, S1)) (h2 : ev fu Φ e2 ρ S1 = some (y, S')) : evs fu Φ (.cons e1 (.cons e2 .nil)) ρ S = some ([x, y], S') := by
  simp [evs, h1, h2]
theorem evs_one {e1 : E} {ρ : Env} {S S' : Store} {x : D} (h1 : ev fu Φ e1 ρ S = some (x, S')) : evs fu Φ (.cons e1 .nil) ρ S = some ([x], S') := by
  simp [evs, h1]
theorem SA.head {X : Cx} {x : Expr} {xs : List Expr} {f : Env → Store → Option (List D × Store)} (h : SA X (x :: xs) f) : starEach (x :: xs) X.env = (false, eval x X.env) :: starEach xs X.env ∧ nsAll xs = true := by
  have := h.ns
  simp only [nsAll, Bool.and_eq_true] at this
  exact ⟨star_ns this.1, this.2⟩
theorem own_snd (N : List Str) (vs : List Nat) : (ownOf N vs).map (·.2) = vs := by
  unfold ownOf
  rw [List.map_map]
  exact List.map_id' vs
theorem SA.nil {X : Cx} {g : Env → Store → Option (List D × Store)} (h : SA X [] g) {ρ : Env} {S S' : Store} {ds : List D} (e : g ρ S = some (ds, S')) : ds = [] := List.eq_nil_of_length_eq_zero (h.len _ _ _ _ e)
theorem se_callA {X : Cx} {xs : List Expr} {g : Env → Store → Option (List D × Store)} {pos p : Pos} (O : OkX G Φ n X) {f : Str} {ps : List Str} (hf : G.fns.lookup f = some ps) (hg : Gl X f) (hdb : (f == ("__debug__" : Str)) = false) (hs : SA X xs g) (hl : ps.length = xs.length) :
    PE X (.Call (.Name f p) xs [] pos) (tE fun ρ S => (g ρ S).bind fun x => Φ f x.1 x.2) := by
  cases xs with
  | nil =>
    have hp : ps = [] := List.eq_nil_of_length_eq_zero hl
    subst hp
    refine PE.imp (se_call0 O hf hg hdb) fun σ H Q h => ?_
    obtain ⟨M, ρ, S, Λ, d, S', R, RE, h, q⟩ := h
    simp only [Option.bind_eq_some_iff] at h
    obtain ⟨⟨ds, S1⟩, h6, h7⟩ := h
    have e1 := hs.nil h6
    have e2 := hs.zero rfl _ _ _ _ h6
    subst e1
    subst e2
    exact ⟨M, ρ, _, Λ, d, S', R, RE, h7, q⟩
  | cons y ys =>
    obtain ⟨k1, k2⟩ := hs.head
    exact se_call O hf hg hdb hs.pa hl.symm k1 (back_any k2) hs.len
theorem se_mthA {X : Cx} {o : Expr} {xs : List Expr} {fo : Env → Store → Option (D × Store)} {g : Env → Store → Option (List D × Store)} {apos cpos : Pos} (m : Mth) (hm : mthHave m = true) (ho : PE X o (tE fo)) (hs : SA X xs g)
    (hbase : attributeBase o (mthNm m) X.env (eval o X.env) = eval o X.env) (hline : (apos.endLine == cpos.line) = true) (hl : xs.length < 30) :
    PE X (.Call (.Attribute o (mthNm m) apos) xs [] cpos) (tE fun ρ S => (fo ρ S).bind fun x => if tyOf x.2 x.1 = some (mthTy m) then (g ρ x.2).bind fun y => mthS m x.1 y.1 y.2 else none) := by
  cases xs with
  | nil =>
    refine PE.imp (se_mth0 m hm ho hbase hline) fun σ H Q h => ?_
    obtain ⟨M, ρ, S, Λ, d, S', R, RE, h, q⟩ := h
    refine ⟨M, ρ, S, Λ, d, S', R, RE, ?_, q⟩
    simp only [Option.bind_eq_some_iff] at h ⊢
    obtain ⟨⟨x, S1⟩, h6, h7⟩ := h
    refine ⟨⟨x, S1⟩, h6, ?_⟩
    split at h7 <;> first | contradiction | skip
    rename_i et
    rw [if_pos et]
    simp only [Option.bind_eq_some_iff] at h7
    obtain ⟨⟨ds, S2⟩, h8, h9⟩ := h7
    have e1 := hs.nil h8
    have e2 := hs.zero rfl _ _ _ _ h8
    subst e1
    subst e2
    exact h9
  | cons y ys =>
    obtain ⟨k1, k2⟩ := hs.head
    refine se_mth m hm ho hs.pa hbase ?_ hline k1 (back_any k2)
    rw [back_all hs.ns]
    simp only [List.length_nil, List.isEmpty_nil, if_true, Nat.add_zero, Bool.true_and, Bool.and_eq_true, decide_eq_true_eq]
    exact ⟨rfl, hl⟩
set_option maxHeartbeats 4000000 in
mutual
theorem sndE : ∀ (e : E) (x : Expr) (X : Cx), OkX G Φ n X → X.N = N → chkE G N X.env.scope e x = true → SE X x (ev fu Φ e)
  | .var i, x, X, O, hN, h => by
    simp only [chkE] at h
    split at h <;> try (cases h; done)
    simp only [Bool.and_eq_true, decide_eq_true_eq, beq_iff_eq] at h
    obtain ⟨⟨⟨h1, h2⟩, h3⟩, h4⟩ := h
    refine SE.val (se_var (by rw [hN]; exact h1) (vis_of h2) (nodb_of h3) h4 fun ρ S d S' he => ?_) rfl
    simp only [ev] at he
    split at he <;> first | (cases he; done) | skip
    rename_i d' e
    cases he
    exact ⟨e, rfl⟩
  | .non, x, X, O, hN, h => by
    simp only [chkE] at h
    split at h <;> try (cases h; done)
    exact SE.val (se_const pe_non (fun _ _ _ => .non) fun ρ S d S' he => by cases he; exact ⟨rfl, rfl⟩) rfl
  | .bl b, x, X, O, hN, h => by
    simp only [chkE] at h
    split at h <;> try (cases h; done)
    simp only [decide_eq_true_eq] at h
    subst h
    exact SE.val (se_const pe_bl (fun _ _ _ => .bl b) fun ρ S d S' he => by cases he; exact ⟨rfl, rfl⟩) rfl
  | .int i, x, X, O, hN, h => by
    simp only [chkE] at h
    split at h <;> try (cases h; done)
    simp only [decide_eq_true_eq] at h
    subst h
    exact SE.val (se_const pe_int (fun _ _ _ => .int i) fun ρ S d S' he => by cases he; exact ⟨rfl, rfl⟩) rfl
  | .str c, x, X, O, hN, h => by
    simp only [chkE] at h
    split at h <;> try (cases h; done)
    simp only [Bool.and_eq_true, decide_eq_true_eq] at h
    obtain ⟨rfl, h2⟩ := h
    exact SE.val (se_const pe_str (fun _ _ _ => .str (okC_S h2)) fun ρ S d S' he => by cases he; exact ⟨rfl, rfl⟩) rfl
  | .gv y d, x, X, O, hN, h => by
    simp only [chkE] at h
    split at h <;> try (cases h; done)
    simp only [Bool.and_eq_true] at h
    obtain ⟨⟨⟨h1, h2⟩, h3⟩, h4⟩ := h
    rename_i z _
    have e := eqB_eq h1
    subst e
    have hl : G.gvs.lookup z = some d := by
      unfold gvOk at h4
      split at h4 <;> first | (cases h4; done) | skip
      all_goals
        rename_i e
        have := of_decide_eq_true h4
        subst this
        exact e
    obtain ⟨v, u, h5, h6, h7⟩ := O.gv _ _ hl
    exact SE.val (se_const (pe_glob (gl_of h2) h5 h6 (nodb_of h3)) h7 fun ρ S d S' he => by cases he; exact ⟨rfl, rfl⟩) rfl
  | .op o a b, x, X, O, hN, h => by
    simp only [chkE] at h
    split at h <;> try (cases h; done)
    simp only [Bool.and_eq_true, decide_eq_true_eq] at h
    obtain ⟨⟨rfl, h1⟩, h2⟩ := h
    exact SE.val (se_op o (sndE a _ X O hN h1).pe (sndE b _ X O hN h2).pe) rfl
  | .neg a, x, X, O, hN, h => by
    simp only [chkE] at h
    split at h <;> try (cases h; done)
    exact SE.val (se_neg (sndE a _ X O hN h).pe) rfl
  | .cmp o a b, x, X, O, hN, h => by
    simp only [chkE] at h
    split at h <;> try (cases h; done)
    simp only [Bool.and_eq_true, decide_eq_true_eq] at h
    obtain ⟨⟨⟨rfl, h0⟩, h1⟩, h2⟩ := h
    obtain ⟨z1, z2⟩ := se_cmp O.units o (sndE a _ X O hN h1).pe (sndE b _ X O hN h2).pe (plain_in h0)
    exact ⟨z1, z2, fun _ _ _ e => nomatch e⟩
  | .chain o p a b c, x, X, O, hN, h => by
    simp only [chkE] at h
    split at h <;> try (cases h; done)
    simp only [Bool.and_eq_true, decide_eq_true_eq] at h
    obtain ⟨⟨⟨⟨⟨rfl, rfl⟩, h0⟩, h1⟩, h2⟩, h3⟩ := h
    obtain ⟨z1, z2⟩ := se_chain O.units o p (sndE a _ X O hN h1).pe (sndE b _ X O hN h2).pe (sndE c _ X O hN h3).pe (plain_in h0)
    exact ⟨z1, z2, fun _ _ _ e => nomatch e⟩
  | .and a b, x, X, O, hN, h => by
    simp only [chkE] at h
    split at h <;> try (cases h; done)
    · simp only [Bool.and_eq_true] at h
      have h1 := sndE a _ X O hN h.1
      have h2 := sndE b _ X O hN h.2
      rename_i pos
      have w := st_and (pos := pos) h1.pt (pw_and1 (pos := pos) h2.pt)
      exact ⟨se_and h1.pe (pe_one h2.pe), w.pt, fun _ _ _ _ => w⟩
    · simp only [Bool.and_eq_true] at h
      have h1 := sndE a _ X O hN h.1
      have h2 := sndE b _ X O hN h.2
      rename_i pos
      have w := st_and (pos := pos) h1.pt (h2.pw _ _ _ rfl)
      exact ⟨se_and h1.pe h2.pe, w.pt, fun _ _ _ _ => w⟩
  | .or a b, x, X, O, hN, h => by
    simp only [chkE] at h
    split at h <;> try (cases h; done)
    · simp only [Bool.and_eq_true] at h
      have h1 := sndE a _ X O hN h.1
      have h2 := sndE b _ X O hN h.2
      rename_i pos
      have w := st_or (pos := pos) h1.pt (pw_or1 (pos := pos) h2.pt)
      exact ⟨se_or h1.pe (pe_one h2.pe), w.pt, fun _ _ _ _ => w⟩
    · simp only [Bool.and_eq_true] at h
      have h1 := sndE a _ X O hN h.1
      have h2 := sndE b _ X O hN h.2
      rename_i pos
      have w := st_or (pos := pos) h1.pt (h2.pw _ _ _ rfl)
      exact ⟨se_or h1.pe h2.pe, w.pt, fun _ _ _ _ => w⟩
  | .not a, x, X, O, hN, h => by
    simp only [chkE] at h
    split at h <;> try (cases h; done)
    have h1 := sndE a _ X O hN h
    exact ⟨se_not h1.pe, st_not h1.pt, fun _ _ _ e => nomatch e⟩
  | .ite c a b, x, X, O, hN, h => by
    simp only [chkE] at h
    split at h <;> try (cases h; done)
    simp only [Bool.and_eq_true] at h
    have h1 := sndE c _ X O hN h.1.1
    have h2 := sndE a _ X O hN h.1.2
    have h3 := sndE b _ X O hN h.2
    exact ⟨se_ite h1.pt h2.pe h3.pe, st_ite h1.pt h2.pt h3.pt, fun _ _ _ e => nomatch e⟩
  | .ty m, x, X, O, hN, h => by
    simp only [chkE] at h
    split at h <;> try (cases h; done)
    simp only [Bool.and_eq_true, decide_eq_true_eq] at h
    obtain ⟨⟨h1, h2⟩, h3⟩ := h
    obtain rfl := eqB_eq h2
    obtain ⟨z1, z2, z3, z4⟩ := ty_boot h1
    exact SE.val (se_ty (gl_of h3) (O.blt _ z4) z1 z2 z3 fun ρ S d S' he => by cases he; exact ⟨rfl, rfl⟩) rfl
  | .tup es, x, X, O, hN, h => by
    simp only [chkE] at h
    split at h <;> try (cases h; done)
    exact SE.val (se_tup (sndEs es _ X O hN h).pa) rfl
  | .lst k es, x, X, O, hN, h => by
    simp only [chkE] at h
    split at h <;> try (cases h; done)
    exact SE.val (se_lst k (sndEs es _ X O hN h).pa) rfl
  | .lrg1 k a, x, X, O, hN, h => by
    simp only [chkE] at h
    split at h <;> try (cases h; done)
    simp only [Bool.and_eq_true] at h
    obtain ⟨⟨⟨⟨⟨h1, h2⟩, h3⟩, h4⟩, k1⟩, k2⟩ := h
    obtain rfl := eqB_eq h1
    obtain rfl := eqB_eq h2
    refine SE.val (se_lrg1 k O.calm (gl_of h3) (O.blt _ (blt_in (.inl rfl))) (gl_of h4) (O.blt _ (blt_in (.inr (.inl rfl)))) (sndE a _ X O hN k2).pe (star_ns k1) rfl fun ρ S d S' he => ?_) rfl
    simp only [ev, Option.bind_eq_some_iff] at he
    obtain ⟨⟨d1, S1⟩, h7, xs, h8, h9⟩ := he
    split at h9 <;> first | (cases h9; done) | skip
    rename_i hl
    exact ⟨d1, S1, xs, h7, h8, hl, by simpa using h9⟩
  | .lrg2 k a b, x, X, O, hN, h => by
    simp only [chkE] at h
    split at h <;> try (cases h; done)
    simp only [Bool.and_eq_true] at h
    obtain ⟨⟨⟨⟨⟨⟨⟨h1, h2⟩, h3⟩, h4⟩, k1⟩, k3⟩, k2⟩, k4⟩ := h
    obtain rfl := eqB_eq h1
    obtain rfl := eqB_eq h2
    refine SE.val (se_lrg2 k O.calm (gl_of h3) (O.blt _ (blt_in (.inl rfl))) (gl_of h4) (O.blt _ (blt_in (.inr (.inl rfl)))) (sndE a _ X O hN k2).pe (sndE b _ X O hN k4).pe (star_ns k1) (star_ns k3) (back_any (by simp [nsAll, k3])) rfl fun ρ S d S' he => ?_) rfl
    simp only [ev, Option.bind_eq_some_iff] at he
    obtain ⟨⟨d1, S1⟩, h7, ⟨d2, S2⟩, h7', xs, h8, h9⟩ := he
    split at h9 <;> first | (cases h9; done) | skip
    rename_i hl
    exact ⟨d1, S1, d2, S2, xs, h7, h7', h8, hl, by simpa using h9⟩
  | .dct k t .nil .nil, x, X, O, hN, h => by
    simp only [chkE] at h
    split at h <;> try (cases h; done)
    exact SE.val (se_dct k t fun ρ S d S' he => by simpa [ev] using he) rfl
  | .dct k t (.cons _ _) _, x, X, O, hN, h => by simp [chkE] at h
  | .dct k t .nil (.cons _ _), x, X, O, hN, h => by simp [chkE] at h
  | .sub a i, x, X, O, hN, h => by
    simp only [chkE] at h
    split at h <;> try (cases h; done)
    simp only [Bool.and_eq_true] at h
    exact SE.val (se_sub O.units (sndE a _ X O hN h.1.2).pe (sndE i _ X O hN h.2).pe (plain_ix h.1.1)) rfl
  | .slc a lo hi, x, X, O, hN, h => by
    simp only [chkE] at h
    split at h <;> try (cases h; done)
    simp only [Bool.and_eq_true] at h
    exact SE.val (se_slc (sndE a _ X O hN h.1.1).pe (sndO lo _ X O hN h.1.2) (sndO hi _ X O hN h.2)) rfl
  | .rev a, x, X, O, hN, h => by
    simp only [chkE] at h
    split at h <;> try (cases h; done)
    simp only [Bool.and_eq_true, decide_eq_true_eq] at h
    obtain ⟨rfl, h⟩ := h
    exact SE.val (se_rev (sndE a _ X O hN h).pe) rfl
  | .call f es, x, X, O, hN, h => by
    simp only [chkE] at h
    split at h <;> try (cases h; done)
    simp only [Bool.and_eq_true] at h
    obtain ⟨⟨⟨⟨h1, h2⟩, h3⟩, h4⟩, h5⟩ := h
    obtain rfl := eqB_eq h1
    have hs := sndEs es _ X O hN h5
    split at h4 <;> try (cases h4; done)
    rename_i ps hps
    simp only [decide_eq_true_eq] at h4
    exact SE.val (se_callA O hps (gl_of h2) (nodb_of h3) hs h4) rfl
  | .blt b k es, x, X, O, hN, h => by
    simp only [chkE] at h
    split at h <;> try (cases h; done)
    simp only [Bool.and_eq_true] at h
    obtain ⟨⟨h1, h2⟩, h3⟩ := h
    obtain rfl := eqB_eq h1
    have hs := sndEs es _ X O hN h3
    obtain ⟨k1, k2⟩ := hs.head
    exact SE.val (se_blt b k O.calm O.units (gl_of h2) (O.blt _ (blt_name b).2.2) hs.pa k1 (back_any k2)) rfl
  | .mth m a es, x, X, O, hN, h => by
    simp only [chkE] at h
    split at h <;> try (cases h; done)
    simp only [Bool.and_eq_true, decide_eq_true_eq] at h
    obtain ⟨⟨⟨⟨⟨⟨h1, h2⟩, h3⟩, h4⟩, h5⟩, h6⟩, h7⟩ := h
    obtain rfl := eqB_eq h1
    have hs := sndEs es _ X O hN h7
    have ha := sndE a _ X O hN h6
    exact SE.val (se_mthA m h2 ha.pe hs (rcv_base h3) h4 h5) rfl
  | .lc k elt g vs it c, x, X, O, hN, h => by
    simp only [chkE] at h
    split at h <;> try (cases h; done)
    simp only [Bool.and_eq_true, decide_eq_true_eq] at h
    obtain ⟨⟨⟨⟨⟨⟨⟨h0, h1⟩, h2⟩, h3⟩, h4⟩, h5⟩, h6⟩, h7⟩ := h
    subst h0
    rename_i scope _
    have eo : (ownOf N vs).map (·.2) = vs := own_snd N vs
    have hb : BlkOk X.N X.env.scope scope (ownOf N vs) := blkOk_by (by rw [hN]; exact h1)
    have main := se_lc (own := ownOf N vs) (pos := ‹_›) (fu := fu) (k := k) (g := g) O.calm O.nd (sndI it _ _ X O hN h5) hb (fun s H C cl fp => chkG_ok (X := X.blk s H scope (compEnvC scope cl C X.env) fp) (fn := fnB scope) O.calm hN O.nd (fun _ h => h) h4)
      (fun s H C cl fp => sndC c _ (X.blk s H scope (compEnvC scope cl C X.env) fp) O.blk hN h6) (fun s H C cl fp => (sndE elt _ (X.blk s H scope (compEnvC scope cl C X.env) fp) O.blk hN h7).pe) (plain_set h3)
      (fun i hi => by rw [eo]; exact of_decide_eq_true (List.all_eq_true.mp h2 i hi))
    rw [eo] at main
    exact SE.val main rfl
  | .dc k key val g vs it c, x, X, O, hN, h => by
    simp only [chkE] at h
    split at h <;> try (cases h; done)
    simp only [Bool.and_eq_true, decide_eq_true_eq] at h
    obtain ⟨⟨⟨⟨⟨⟨⟨⟨h0, h1⟩, h2⟩, h3⟩, h4⟩, h5⟩, h6⟩, h7⟩, h8⟩ := h
    subst h0
    rename_i scope _
    have eo : (ownOf N vs).map (·.2) = vs := own_snd N vs
    have hb : BlkOk X.N X.env.scope scope (ownOf N vs) := blkOk_by (by rw [hN]; exact h1)
    have main := se_dc (own := ownOf N vs) (pos := ‹_›) (fu := fu) (k := k) (g := g) O.calm O.nd (sndI it _ _ X O hN h5) hb (fun s H C cl fp => chkG_ok (X := X.blk s H scope (compEnvC scope cl C X.env) fp) (fn := fnB scope) O.calm hN O.nd (fun _ h => h) h4)
      (fun s H C cl fp => sndC c _ (X.blk s H scope (compEnvC scope cl C X.env) fp) O.blk hN h6) (fun s H C cl fp => (sndE key _ (X.blk s H scope (compEnvC scope cl C X.env) fp) O.blk hN h7).pe)
      (fun s H C cl fp => (sndE val _ (X.blk s H scope (compEnvC scope cl C X.env) fp) O.blk hN h8).pe) (plain_set h3)
      (fun i hi => by rw [eo]; exact of_decide_eq_true (List.all_eq_true.mp h2 i hi))
    rw [eo] at main
    exact SE.val main rfl
theorem sndEs : ∀ (es : Es) (xs : List Expr) (X : Cx), OkX G Φ n X → X.N = N → chkEs G N X.env.scope es xs = true → SA X xs (evs fu Φ es)
  | .nil, xs, X, O, hN, h => by
    simp only [chkEs] at h
    split at h <;> try (cases h; done)
    exact ⟨sa_nil fun ρ S ds S' he => by cases he; exact ⟨rfl, rfl⟩, rfl, fun ρ S ds S' he => by cases he; rfl, fun _ ρ S ds S' he => by cases he; rfl⟩
  | .cons e es, xs, X, O, hN, h => by
    simp only [chkEs] at h
    split at h <;> try (cases h; done)
    simp only [Bool.and_eq_true] at h
    obtain ⟨⟨h1, h2⟩, h3⟩ := h
    have k1 := sndE e _ X O hN h2
    have k2 := sndEs es _ X O hN h3
    refine ⟨sa_cons k1.pe k2.pa (star_ns h1), by simp [nsAll, h1, k2.ns], fun ρ S ds S' he => ?_, fun z => nomatch z⟩
    simp only [evs, Option.bind_eq_some_iff, Option.map_eq_some_iff, Prod.mk.injEq] at he
    obtain ⟨⟨x1, S1⟩, q1, ⟨y, S2⟩, q2, rfl, rfl⟩ := he
    rw [List.length_cons, List.length_cons, k2.len _ _ _ _ q2]
theorem sndO : ∀ (es : Es) (x : Option Expr) (X : Cx), OkX G Φ n X → X.N = N → chkO G N X.env.scope es x = true → PO X x (tO (evs fu Φ es))
  | .nil, x, X, O, hN, h => by
    simp only [chkO] at h
    split at h <;> try (cases h; done)
    exact so_none fun ρ S ds S' he => by cases he; exact ⟨rfl, rfl⟩
  | .cons e .nil, x, X, O, hN, h => by
    simp only [chkO] at h
    split at h <;> try (cases h; done)
    exact so_some (sndE e _ X O hN h).pe fun ρ S ds S' he => ev_one (es := .nil) he
  | .cons e (.cons _ _), x, X, O, hN, h => by
    simp only [chkO] at h
    cases h
theorem sndC : ∀ (es : Es) (xs : List Expr) (X : Cx), OkX G Φ n X → X.N = N → chkC G N X.env.scope es xs = true → PTs X xs (tTs (evT fu Φ es))
  | .nil, x, X, O, hN, h => by
    simp only [chkC] at h
    split at h <;> try (cases h; done)
    exact sts_nil fun ρ S ds S' he => by cases he; exact ⟨rfl, rfl⟩
  | .cons e .nil, x, X, O, hN, h => by
    simp only [chkC] at h
    split at h <;> try (cases h; done)
    refine sts_one (sndE e _ X O hN h).pt fun ρ S b S' he => ?_
    simp only [evT, Option.bind_eq_some_iff] at he
    obtain ⟨⟨x1, S1⟩, q1, q2⟩ := he
    split at q2 <;> first | (cases q2; done) | skip
    rename_i b' eb
    simp only at eb
    cases q2
    rw [q1, eb]
  | .cons e (.cons _ _), x, X, O, hN, h => by
    simp only [chkC] at h
    cases h
theorem sndI : ∀ (it : It) (tg x : Expr) (X : Cx), OkX G Φ n X → X.N = N → chkI G N X.env.scope it tg x = true → PI X tg x (tI (evI fu Φ it))
  | .of e, tg, x, X, O, hN, h => si_of (sndE e x X O hN (by simpa only [chkI] using h)).pe
  | .range es, tg, x, X, O, hN, h => by
    simp only [chkI] at h
    split at h <;> try (cases h; done)
    simp only [Bool.and_eq_true, Bool.or_eq_true, decide_eq_true_eq] at h
    obtain ⟨⟨⟨h1, h2⟩, h3⟩, h4⟩ := h
    obtain rfl := eqB_eq h1
    have hs := sndEs es _ X O hN h4
    have hm := O.blt _ (blt_in (.inr (.inl rfl)))
    rename_i xs _
    rcases h3 with h3 | h3
    · match xs, hs, h3 with
      | [y], hs, _ => exact si_range1 (gl_of h2) hm hs.pa hs.head.1 hs.len
    · match xs, hs, h3 with
      | [y, z], hs, _ =>
        have hn := hs.ns
        simp only [nsAll, Bool.and_eq_true] at hn
        exact si_range2 (gl_of h2) hm hs.pa (by rw [star_ns hn.1, star_ns hn.2.1]; rfl) (star_ns hn.2.1) hs.len
  | .enum e, tg, x, X, O, hN, h => by
    simp only [chkI] at h
    split at h <;> try (cases h; done)
    simp only [Bool.and_eq_true] at h
    obtain ⟨⟨⟨⟨h0, h1⟩, h2⟩, h3⟩, h4⟩ := h
    obtain rfl := eqB_eq h1
    cases tg <;> try (simp [isTupX] at h0; done)
    refine si_enum (g := evs fu Φ (.cons e .nil)) (gl_of h2) (O.blt _ (blt_in (.inr (.inr (.inl rfl))))) (sa_cons (sndE e _ X O hN h4).pe (sa_nil fun ρ S ds S' he => by cases he; exact ⟨rfl, rfl⟩) (star_ns h3)) (star_ns h3) fun ρ S w S' he => ?_
    simp only [evI, Option.bind_eq_some_iff, Option.map_eq_some_iff, Prod.mk.injEq] at he
    obtain ⟨⟨x1, S1⟩, q1, xs, q2, rfl, rfl⟩ := he
    exact ⟨x1, xs, evs_one q1, q2, rfl⟩
  | .zip a b, tg, x, X, O, hN, h => by
    simp only [chkI] at h
    split at h <;> try (cases h; done)
    simp only [Bool.and_eq_true] at h
    obtain ⟨⟨⟨⟨⟨⟨h0, h1⟩, h2⟩, h3⟩, h3'⟩, h4⟩, h5⟩ := h
    obtain rfl := eqB_eq h1
    cases tg <;> try (simp [isTupX] at h0; done)
    refine si_zip (g := evs fu Φ (.cons a (.cons b .nil))) (gl_of h2) (O.blt _ (blt_in (.inr (.inr (.inr rfl))))) (sa_cons (sndE a _ X O hN h4).pe (sa_cons (sndE b _ X O hN h5).pe (sa_nil fun ρ S ds S' he => by cases he; exact ⟨rfl, rfl⟩) (star_ns h3')) (star_ns h3)) (star_ns h3) (back_any (by simp [nsAll, h3'])) fun ρ S w S' he => ?_
    simp only [evI, Option.bind_eq_some_iff, Option.map_eq_some_iff, Prod.mk.injEq] at he
    obtain ⟨⟨x1, S1⟩, q1, ⟨y1, S2⟩, q2, xs, q3, ys, q4, rfl, rfl⟩ := he
    exact ⟨x1, xs, y1, ys, evs_two q1 q2, q3, q4, rfl⟩
end
end
end Pd

/-! Pd17: statements. -/
namespace Pd
open PySem PySem.Spec PyProof.Rows L2

/-! ### the text agrees -/
def compScope : Expr → Option Scope
  | .ListComp _ _ s _ | .SetComp _ _ s _ | .DictComp _ _ _ s _ => some s
  | _ => none
def swapB (sc : Scope) (t : Str) (p : Pos) (x : Expr) : Bool := match compScope x with
  | none => false
  | some s => decide (sc.names.lookup t = some .local) && p.line == x.pos.line && !(s.names.any fun (n, k) => n == t && (k == .local || k == .cell))
def isTrue? : Str → Bool := fun _ => true
/-- a parallel store that is swapped: two or three names, locals, on one line, not all constants -/
def parNames (sc : Scope) (line : Nat) : List Expr → Option (List Str)
  | [] => some []
  | .Name x p :: r => if decide (sc.names.lookup x = some .local) && p.line == line then (parNames sc line r).map (x :: ·) else none
  | _ :: _ => none
abbrev lineOf (ts : List Expr) : Nat := (ts.head?.map (·.pos.line)).getD 0
section
variable (G : Sig) (N : List Str)
mutual
def chkS (sc : Scope) : T → Stmt → Bool
  | .skip, x => match x with
    | .Pass _ => true
    | _ => false
  | .seq _ _, _ => false
  | .never, _ => true
  | .ex e, x => match x with
    | .Expr y _ => (compScope y).isNone && chkE G N sc e y
    | _ => false
  | .set i e, x => match x with
    | .Assign [.Name t p] y _ => chkT N sc isTrue? i (.Name t p) && chkE G N sc e y && (!swapB sc t p y || (decide (sc.kind = .function) && (match e with | .lc _ _ _ _ _ _ => true | _ => false)))
    | _ => false
  | .tset is e, x => match x with
    | .Assign [.Tuple ts k p] y _ => chkTs N sc isTrue? is ts && !isTupX y && (compScope y).isNone && chkE G N sc e y
    | _ => false
  | .par is es, x => match x with
    | .Assign [.Tuple ts k p] (.Tuple ys k2 p2) _ => chkTs N sc isTrue? is ts && chkEs G N sc es ys && decide (is.Nodup) && decide (is.length < 100) && (
        (decide (sc.kind = .function) && (ys.all (foldedForSure 8) == false) && (ys.all (constantsAlone 8) == false) && (match parNames sc (lineOf ts) ts with
          | some xs => decide (xs.eraseDups.length = xs.length) && (decide (ts.length = 2) || decide (ts.length = 3)) && decide (ys.length = ts.length)
          | none => false)) ||
        ((parNames sc (lineOf ts) ts).isNone || ys.all (foldedForSure 8) || !(decide (ts.length = 2) || decide (ts.length = 3))))
    | _ => false
  | .setI o i e, x => match x with
    | .Assign [.Subscript y z _] w _ => plainX z && chkE G N sc e w && chkE G N sc o y && chkE G N sc i z
    | _ => false
  | .aug i o e, x => match x with
    | .AugAssign (.Name t p) q y _ => chkT N sc isTrue? i (.Name t p) && decide (q = astOp o) && (decide (o = .add) || decide (o = .sub)) && chkE G N sc e y
    | _ => false
  | .ret e, x => match x with
    | .Return (some y) _ => chkE G N sc e y
    | _ => false
  | .retn, x => match x with
    | .Return none _ => true
    | _ => false
  | .ite c a b, x => match x with
    | .If y p q _ => chkE G N sc c y && chkSs sc a p && chkSs sc b q
    | _ => false
  | .whl c b, x => match x with
    | .While y p [] _ => chkE G N sc c y && chkSs sc b p
    | _ => false
  | .loop g it b, x => match x with
    | .For tg y p [] _ => plainX y && chkG N sc isTrue? g tg && chkI G N sc it tg y && chkSs sc b p
    | _ => false
  | .brk, x => match x with
    | .Break _ => true
    | _ => false
  | .cont, x => match x with
    | .Continue _ => true
    | _ => false
def chkSs (sc : Scope) : T → List Stmt → Bool
  | .skip, xs => match xs with
    | [] => true
    | _ => false
  | .seq a b, xs => match xs with
    | x :: r => chkS sc a x && chkSs sc b r
    | _ => false
  | .never, _ => true
  | _, _ => false
end
end
section
variable {M : Addr → Prop} {Λ Λ' Λ1 : List Addr} {H H' H1 : Hp} {S S' : Store} {d : D} {v : V} {Q : VK} {X : Cx} {ρ ρ' : Env} {σ σ' : L2.St}
/-- what a statement's end is to give -/
def flQ (M : Addr → Prop) (D0 : Ends) (Λ : List Addr) (H : Hp) : Fl → Prop
  | .nx ρ => ∀ σ, RelE M Λ H ρ σ → D0.nx σ H
  | .ct ρ => ∀ σ, RelE M Λ H ρ σ → D0.ct σ H
  | .bk ρ => ∀ σ, RelE M Λ H ρ σ → D0.bk σ H
  | .rt d => ∀ v, RV M Λ H d v → D0.rt v H
def tSt (f : Env → Store → Option (Fl × Store)) : TS := fun D0 σ H => ∃ M ρ S Λ fl S', RelS M Λ S H ∧ RelE M Λ H ρ σ ∧ f ρ S = some (fl, S') ∧ ∀ H' Λ', Step Λ H Λ' H' → RelS M Λ' S' H' → flQ M D0 Λ' H' fl
theorem PS.imp {X : Cx} {e : Stmt} {t t' : TS} (h : PS X e t) (i : ∀ D σ H, t' D σ H → t D σ H) : PS X e t' := ⟨fun pins s σ H D I q => h.run pins s σ H D I (i D σ H q)⟩
theorem PSs.imp {X : Cx} {e : List Stmt} {t t' : TS} (h : PSs X e t) (i : ∀ D σ H, t' D σ H → t D σ H) : PSs X e t' := ⟨fun pins s σ H D I q => h.run pins s σ H D I (i D σ H q)⟩
variable {fe fo fi fc : Env → Store → Option (D × Store)} {e x y z : Expr} {pos : Pos} {fa fb : Env → Store → Option (Fl × Store)}
theorem fl_one {ρ : Env} {S S' : Store} {fl : Fl} {f : Env → Store → Option (D × Store)} {k : D → Fl} (h : (f ρ S).map (fun x => (k x.1, x.2)) = some (fl, S')) : ∃ d, f ρ S = some (d, S') ∧ fl = k d := by
  simp only [Option.map_eq_some_iff, Prod.mk.injEq] at h
  obtain ⟨⟨d, S1⟩, h1, rfl, rfl⟩ := h
  exact ⟨d, h1, rfl⟩
theorem no_swap {x : Expr} {t : Option Expr} {l : Nat} {env : PySem.Env} (h : (compScope x).isNone = true) : swapsWith x t l env = pure false := by
  cases x <;> first | rfl | simp [compScope] at h
theorem swap_no {x : Expr} {t : Str} {p : Pos} {l : Nat} {env : PySem.Env} (h : swapB env.scope t p x = false) : swapsWith x (some (.Name t p)) l env = pure false := by
  have key : ∀ s : Scope, compScope x = some s → (env.kindOf t == some .local && p.line == x.pos.line && !(s.names.any fun (n, k) => n == t && (k == .local || k == .cell))) = false := fun s es => by
    unfold swapB at h
    rw [es] at h
    simp only at h
    rw [← h]
    congr 2
    show (env.scope.names.lookup t == some .local) = decide _
    rw [Bool.eq_iff_iff, beq_iff_eq, decide_eq_true_eq]
  cases x <;> try rfl
  all_goals
    have k := key _ rfl
    simp only [swapsWith]
    rw [Bool.and_assoc, Bool.and_assoc, ← Bool.and_assoc (env.kindOf t == some .local), k, Bool.and_false]
theorem swap_yes {elt : Expr} {gs : List Comprehension} {s : Scope} {cp : Pos} {t : Str} {p : Pos} {l : Nat} {env : PySem.Env} (hk : env.scope.kind = .function) (h : swapB env.scope t p (.ListComp elt gs s cp) = true) :
    env.scope.names.lookup t = some .local ∧ swapsWith (.ListComp elt gs s cp) (some (.Name t p)) l env = pure true := by
  unfold swapB at h
  simp only [compScope, Bool.and_eq_true, decide_eq_true_eq, Bool.not_eq_true'] at h
  exact ⟨h.1.1, sw_true hk h.1.1 h.1.2 h.2⟩
/-! ### parallel stores -/
def parF (env : PySem.Env) (line : Nat) : Expr → Option Str := fun
  | .Name id pos => if env.kindOf id == some .local && pos.line == line then some id else none
  | _ => none
theorem parNames_some {env : PySem.Env} {line : Nat} : ∀ {ts : List Expr} {xs : List Str}, parNames env.scope line ts = some xs → ts.filterMap (parF env line) = xs ∧ xs.length = ts.length
  | [], xs, h => by cases h; exact ⟨rfl, rfl⟩
  | t :: ts, xs, h => by
    cases t <;> try (simp [parNames] at h; done)
    rename_i x p
    simp only [parNames] at h
    split at h <;> try (cases h; done)
    rename_i hc
    simp only [Option.map_eq_some_iff] at h
    obtain ⟨ys, h1, rfl⟩ := h
    obtain ⟨z1, z2⟩ := parNames_some h1
    have e : parF env line (.Name x p) = some x := by
      have hc' : (env.kindOf x == some .local && p.line == line) = true := by
        simp only [Bool.and_eq_true, decide_eq_true_eq, beq_iff_eq] at hc ⊢
        exact hc
      show (if (env.kindOf x == some .local && p.line == line) = true then some x else none) = some x
      rw [hc']
      rfl
    rw [List.filterMap_cons_some e, z1]
    exact ⟨rfl, by rw [List.length_cons, List.length_cons, z2]⟩
theorem parNames_none {env : PySem.Env} {line : Nat} : ∀ {ts : List Expr}, parNames env.scope line ts = none → (ts.filterMap (parF env line)).length < ts.length
  | [], h => by cases h
  | t :: ts, h => by
    have le : (ts.filterMap (parF env line)).length ≤ ts.length := List.length_filterMap_le _ _
    cases e : parF env line t with
    | none =>
      rw [List.filterMap_cons_none e, List.length_cons]
      omega
    | some y =>
      rw [List.filterMap_cons_some e, List.length_cons, List.length_cons]
      cases t <;> try (simp [parF] at e; done)
      rename_i x p
      simp only [parF] at e
      split at e <;> try (cases e; done)
      rename_i hc
      have hc' : (decide (env.scope.names.lookup x = some .local) && p.line == line) = true := by
        simp only [Bool.and_eq_true, decide_eq_true_eq, beq_iff_eq] at hc ⊢
        exact hc
      simp only [parNames, hc', if_true, Option.map_eq_none_iff] at h
      have := parNames_none h
      omega
def isStar : Expr → Bool
  | .Starred .. => true
  | _ => false
theorem any_ns {ys : List Expr} (h : nsAll ys = true) : ys.any isStar = false := by
  induction ys with
  | nil => rfl
  | cons y ys ih =>
    simp only [nsAll, Bool.and_eq_true] at h
    rw [List.any_cons, ih h.2, Bool.or_false]
    cases y <;> first | rfl | simp [ns] at h
theorem swapped_eq {env : PySem.Env} {ts ys : List Expr} {k k2 : Nat} {p p2 : Pos} : swappedStores [.Tuple ts k p] (.Tuple ys k2 p2) env =
    (if (!(ts.length == 2 || ts.length == 3) || ys.length != ts.length || env.blockKind != .function) = true then pure none
    else if ys.any isStar = true then pure none
    else if ((ts.filterMap (parF env (lineOf ts))).length != ts.length || (ts.filterMap (parF env (lineOf ts))).eraseDups.length != (ts.filterMap (parF env (lineOf ts))).length) = true then pure none
    else if ys.all (foldedForSure 8) = true then pure none
    else if ys.all (constantsAlone 8) = true then (do unsupported "assign.tuple-of-constant-expressions:order-of-the-stores"; pure (some (ts.filterMap (parF env (lineOf ts)))))
    else pure (some (ts.filterMap (parF env (lineOf ts))))) := by
  have e1 : (isStar : Expr → Bool) = (fun | .Starred .. => true | _ => false) := by funext x; cases x <;> rfl
  have e2 : parF env (lineOf ts) = (fun | .Name id pos => if env.kindOf id == some .local && pos.line == lineOf ts then some id else none | _ => none) := by funext x; cases x <;> rfl
  rw [e1, e2]
  rfl
theorem par_yes {env : PySem.Env} {ts ys : List Expr} {k k2 : Nat} {p p2 : Pos} {xs : List Str} (hk : env.scope.kind = .function) (hn : nsAll ys = true) (h1 : parNames env.scope (lineOf ts) ts = some xs)
    (h2 : xs.eraseDups.length = xs.length) (h3 : ts.length = 2 ∨ ts.length = 3) (h4 : ys.length = ts.length) (h5 : ys.all (foldedForSure 8) = false) (h6 : ys.all (constantsAlone 8) = false) :
    swappedStores [.Tuple ts k p] (.Tuple ys k2 p2) env = pure (some xs) := by
  obtain ⟨z1, z2⟩ := parNames_some h1
  have hb : env.blockKind = .function := by unfold Env.blockKind; rw [hk]; rfl
  rw [swapped_eq, hb, h4, any_ns hn, z1, h2, z2, h5, h6]
  rcases h3 with h3 | h3 <;> rw [h3] <;> rfl
theorem par_no {env : PySem.Env} {ts ys : List Expr} {k k2 : Nat} {p p2 : Pos} (hn : nsAll ys = true)
    (h : parNames env.scope (lineOf ts) ts = none ∨ ys.all (foldedForSure 8) = true ∨ ¬ (ts.length = 2 ∨ ts.length = 3)) :
    swappedStores [.Tuple ts k p] (.Tuple ys k2 p2) env = pure none := by
  rw [swapped_eq, any_ns hn]
  split
  · rfl
  · rename_i c1
    rw [if_neg Bool.false_ne_true]
    split
    · rfl
    · rename_i c2
      rcases h with h | h | h
      · have := parNames_none h
        simp only [Bool.or_eq_true, bne_iff_ne, ne_eq, not_or, Decidable.not_not] at c2
        omega
      · rw [h]
        rfl
      · exfalso
        apply c1
        have e : (ts.length == 2 || ts.length == 3) = false := by
          rw [Bool.eq_false_iff]
          intro q
          simp only [Bool.or_eq_true, beq_iff_eq] at q
          exact h q
        rw [e]
        rfl
end
end Pd

/-! Pd18: what agrees is sound: statements. -/
namespace Pd
open PySem PySem.Spec PyProof.Rows L2

structure OkS (G : Sig) (Φ : Calls) (n : Nat) (X : Cx) : Prop where
  ok : OkX G Φ n X
  po : PassesOwn (model X.prog X.w) X.A X.env X.xe
  fn1 : ∀ y, X.fn y = true
theorem forG_fix {g : Tg} {b : Env → Store → Option (Fl × Store)} {xs : List D} : ∀ (n : Nat) (i : Nat) (ρ : Env) (S : Store) (r : Fl × Store), (xs.drop i).length = n → forFix g b (xs.drop i) ρ S = some r → forG (nextW (.fix xs)) g b (n + 1) i ρ S = some r
  | 0, i, ρ, S, r, hn, h => by
    have e : xs.drop i = [] := List.eq_nil_of_length_eq_zero hn
    rw [e] at h
    cases h
    have e' : xs[i]? = none := by
      have h1 : (xs.drop i)[0]? = xs[i]? := by rw [List.getElem?_drop]; rfl
      rw [← h1, e]
      rfl
    unfold forG
    simp only [nextW, e']
  | n + 1, i, ρ, S, r, hn, h => by
    cases e : xs.drop i with
    | nil => rw [e] at hn; cases hn
    | cons d ds =>
      have e' : xs[i]? = some d := by
        have h1 : (xs.drop i)[0]? = xs[i]? := by rw [List.getElem?_drop]; rfl
        rw [← h1, e]
        rfl
      have e2 : xs.drop (i + 1) = ds := by
        rw [← List.drop_drop, e]
        rfl
      rw [e] at h hn
      simp only [forFix, Option.bind_eq_some_iff] at h
      obtain ⟨ρ1, h1, ⟨f, S1⟩, h2, h3⟩ := h
      have hn' : (xs.drop (i + 1)).length = n := by rw [e2]; simpa using hn
      unfold forG
      simp only [nextW, e', h1, Option.bind_some, h2]
      cases f with
      | nx ρ2 => exact forG_fix n (i + 1) ρ2 S1 r hn' (by rw [e2]; exact h3)
      | ct ρ2 => exact forG_fix n (i + 1) ρ2 S1 r hn' (by rw [e2]; exact h3)
      | bk ρ2 => exact h3
      | rt d => exact h3
section
variable {G : Sig} {N : List Str} {fu : Nat} {Φ : Calls} {n : Nat}
variable {M : Addr → Prop} {Λ Λ' Λ1 : List Addr} {H H' H1 : Hp} {S S' : Store} {d : D} {v : V} {Q : VK} {X : Cx} {ρ ρ' : Env} {σ σ' : L2.St}
variable {g : Tg} {fi : Env → Store → Option (W × Store)} {fc : Env → Store → Option (D × Store)} {fb : Env → Store → Option (Fl × Store)}
/-- a for's reading -/
theorem for_read {D0 : Ends} (h : tSt (fun ρ S => (fi ρ S).bind fun w => match w.1 with
    | .fix xs => forFix g fb xs ρ w.2
    | .dyn l => forG (nxD l) g fb fu 0 ρ w.2) D0 σ H) : tFor (tI fi) (tG g) (tSt fb) D0 σ H := by
  obtain ⟨M, ρ, S, Λ, fl, S', R, RE, h, q⟩ := h
  simp only [Option.bind_eq_some_iff] at h
  obtain ⟨⟨w, S1⟩, h1, h2⟩ := h
  have h3 : ∃ n0, forG (nextW w) g fb n0 0 ρ S1 = some (fl, S') := by
    cases w with
    | fix xs => exact ⟨_, forG_fix (xs := xs) xs.length 0 ρ S1 _ rfl h2⟩
    | dyn l => exact ⟨fu, h2⟩
  obtain ⟨n0, h3⟩ := h3
  refine ⟨M, ρ, S, Λ, w, S1, R, RE, h1, fun J H1 Λ1 ds vs fs s1 R1 F1 jok => ?_⟩
  refine ⟨fun i m σ H => ∃ Λ2 S3 ρ2, RelS M Λ2 S3 H ∧ RelE M Λ2 H ρ2 σ ∧ Fx M Λ2 H ds vs fs ∧ Step Λ1 H1 Λ2 H ∧ (∀ xs, w = .fix xs → i ≤ xs.length) ∧ forG (nextW w) g fb m i ρ2 S3 = some (fl, S'), ⟨n0, Λ1, S1, ρ, R1, RE.step R s1, F1, Step.refl, fun _ _ => Nat.zero_le _, h3⟩, ?_⟩
  rintro i m σ2 H2 ⟨Λ2, S3, ρ2, R2, RE2, F2, s2, hi2, hr⟩
  have jk := jok _ _ _ _ i R2 F2 hi2
  cases m with
  | zero => cases hr
  | succ m =>
    unfold forG at hr
    split at hr
    · cases hr
    · rename_i en
      simp only [Option.some.injEq, Prod.mk.injEq] at hr
      obtain ⟨rfl, rfl⟩ := hr
      exact .inl ⟨jk.1 en, q H2 Λ2 (s1.trans s2) R2 σ2 RE2⟩
    · rename_i d' en
      obtain ⟨j1, j2⟩ := jk.2 _ en
      simp only [Option.bind_eq_some_iff] at hr
      obtain ⟨ρ3, b1, ⟨f, S4⟩, b2, b3⟩ := hr
      have hi3 : ∀ xs, w = .fix xs → i + 1 ≤ xs.length := fun xs ew => by
        subst ew
        simp only [nextW, Option.some.injEq] at en
        exact (List.getElem?_eq_some_iff.mp en).1
      refine .inr ⟨j1, fun σ H => ∃ Λ2 S3 ρ2, RelS M Λ2 S3 H ∧ RelE M Λ2 H ρ2 σ ∧ Fx M Λ2 H ds vs fs ∧ Step Λ1 H1 Λ2 H ∧ (∀ xs, w = .fix xs → i + 1 ≤ xs.length) ∧ forG (nextW w) g fb m (i + 1) ρ2 S3 = some (fl, S'), fun σ' H' hn => ⟨m, Nat.lt_succ_self m, hn⟩, fun x H3 y => ?_⟩
      obtain ⟨sm, rx⟩ := j2 x H3 y
      have R3 := R2.same sm
      refine ⟨M, Λ2, S3, ρ2, d', ρ3, R3, RE2.step R2 (Step.same sm), rx, b1, fun σ4 RE4 _ => ?_⟩
      refine ⟨M, ρ3, S3, Λ2, f, S4, R3, RE4, b2, fun H5 Λ5 s5 R5 => ?_⟩
      have F5 := (F2.step R2 (Step.same sm)).step R3 s5
      have st := s2.trans ((Step.same sm).trans s5)
      cases f with
      | nx ρ5 => exact fun σ5 RE5 => ⟨Λ5, S4, ρ5, R5, RE5, F5, st, hi3, b3⟩
      | ct ρ5 => exact fun σ5 RE5 => ⟨Λ5, S4, ρ5, R5, RE5, F5, st, hi3, b3⟩
      | bk ρ5 =>
        simp only [Option.some.injEq, Prod.mk.injEq] at b3
        obtain ⟨rfl, rfl⟩ := b3
        exact fun σ5 RE5 => q H5 Λ5 (s1.trans st) R5 σ5 RE5
      | rt d5 =>
        simp only [Option.some.injEq, Prod.mk.injEq] at b3
        obtain ⟨rfl, rfl⟩ := b3
        exact fun v r => q H5 Λ5 (s1.trans st) R5 v r
/-- a while's reading -/
theorem while_read {D0 : Ends} (h : tSt (whileN fc fb fu) D0 σ H) : tWhile (tT fc) (tSt fb) D0 σ H := by
  obtain ⟨M, ρ, S, Λ, fl, S', R, RE, h, q⟩ := h
  refine ⟨fun m σ H' => ∃ Λ2 S3 ρ2, RelS M Λ2 S3 H' ∧ RelE M Λ2 H' ρ2 σ ∧ Step Λ H Λ2 H' ∧ whileN fc fb m ρ2 S3 = some (fl, S'), ⟨fu, Λ, S, ρ, R, RE, Step.refl, h⟩, ?_⟩
  rintro m σ2 H2 ⟨Λ2, S3, ρ2, R2, RE2, s2, hr⟩
  cases m with
  | zero => cases hr
  | succ m =>
    unfold whileN at hr
    simp only [Option.bind_eq_some_iff] at hr
    obtain ⟨⟨c, S4⟩, h1, h2⟩ := hr
    split at h2 <;> try (cases h2; done)
    · rename_i ec
      simp only at ec
      subst ec
      simp only [Option.bind_eq_some_iff] at h2
      obtain ⟨⟨f, S5⟩, h3, h4⟩ := h2
      refine ⟨M, ρ2, S3, Λ2, true, S4, R2, RE2, h1, fun H3 Λ3 s3 R3 => iteT ⟨fun σ H' => ∃ Λ2 S3 ρ2, RelS M Λ2 S3 H' ∧ RelE M Λ2 H' ρ2 σ ∧ Step Λ H Λ2 H' ∧ whileN fc fb m ρ2 S3 = some (fl, S'), fun σ' H' hn => ⟨m, Nat.lt_succ_self m, hn⟩, ?_⟩⟩
      refine ⟨M, ρ2, S4, Λ3, f, S5, R3, RE2.step R2 s3, h3, fun H5 Λ5 s5 R5 => ?_⟩
      have st := s2.trans (s3.trans s5)
      cases f with
      | nx ρ5 => exact fun σ5 RE5 => ⟨Λ5, S5, ρ5, R5, RE5, st, h4⟩
      | ct ρ5 => exact fun σ5 RE5 => ⟨Λ5, S5, ρ5, R5, RE5, st, h4⟩
      | bk ρ5 =>
        simp only [Option.some.injEq, Prod.mk.injEq] at h4
        obtain ⟨rfl, rfl⟩ := h4
        exact fun σ5 RE5 => q H5 Λ5 st R5 σ5 RE5
      | rt d5 =>
        simp only [Option.some.injEq, Prod.mk.injEq] at h4
        obtain ⟨rfl, rfl⟩ := h4
        exact fun v r => q H5 Λ5 st R5 v r
    · rename_i ec
      simp only at ec
      subst ec
      simp only [Option.some.injEq, Prod.mk.injEq] at h2
      obtain ⟨rfl, rfl⟩ := h2
      exact ⟨M, ρ2, S3, Λ2, false, S4, R2, RE2, h1, fun H3 Λ3 s3 R3 => iteF (q H3 Λ3 (s2.trans s3) R3 σ2 (RE2.step R2 s3))⟩
theorem aug_ok {o : Op2} (ho : o = .add ∨ o = .sub) : PIp X (astOp o) (fun x y H Q => ∃ M Λ S d e c, RelS M Λ S H ∧ RV M Λ H d x ∧ RV M Λ H e y ∧ augOk o d = true ∧ opS o d e S = some (.val c) ∧ PRk M Λ (.val c) H Q) := by
  rcases ho with rfl | rfl
  · exact iopr_add
  · exact OpR.imp iopr_sub fun x y H Q ⟨M, Λ, S, d, e, c, a1, a2, a3, _, a5, a6⟩ => ⟨M, Λ, S, d, e, c, a1, a2, a3, a5, a6⟩
/-- x, y = a, b -/
theorem two_par {i j : Nat} {x y : Str} {ys : List Expr} {ga : Env → Store → Option (List D × Store)} {px py pt pos : Pos} {kt k2 : Nat} {pt2 : Pos} (hc : X.calm = true) (hN : X.N.Nodup) (hi : X.N[i]? = some x) (hj : X.N[j]? = some y) (hij : i ≠ j)
    (hx : X.env.scope.names.lookup x = some .local) (hy : X.env.scope.names.lookup y = some .local) (ha : SA X ys ga) (hl : ys.length = 2)
    (hw : swappedStores [.Tuple [.Name x px, .Name y py] kt pt] (.Tuple ys k2 pt2) X.env = pure (some [x, y])) :
    PS X (.Assign [.Tuple [.Name x px, .Name y py] kt pt] (.Tuple ys k2 pt2) pos) (tSt fun ρ S => (ga ρ S).bind fun z => (setAll ρ [i, j] z.1).map fun ρ1 => (.nx ρ1, z.2)) := by
  match ys, hl, ha, hw with
  | [a, b], _, ha, hw =>
    refine PS.imp (ps_par hc hN hi hj hij hx hy ha.pa hw) fun D0 σ H ⟨M, ρ, S, Λ, fl, S', R, RE, h, q⟩ => ?_
    simp only [Option.bind_eq_some_iff, Option.map_eq_some_iff, Prod.mk.injEq] at h
    obtain ⟨⟨ds, S1⟩, h1, ρ1, h2, rfl, rfl⟩ := h
    refine ⟨M, ρ, S, Λ, ds, S1, R, RE, h1, fun vs H1 Λ1 s1 R1 r1 => ?_⟩
    match ds, h2, r1 with
    | [d1, d2], h2, r1 =>
      cases h2
      obtain ⟨v, w, rfl, rv, rw'⟩ := rvs2 r1
      exact ⟨v, w, rfl, q H1 Λ1 s1 R1 _ (((RE.step R s1).set rv i).set rw' j)⟩
    | [], h2, r1 => cases h2
    | [_], h2, r1 => cases h2
    | _ :: _ :: _ :: _, h2, r1 => cases h2
theorem three_par {i j l : Nat} {x y z : Str} {ys : List Expr} {ga : Env → Store → Option (List D × Store)} {px py pz pt pos : Pos} {kt k2 : Nat} {pt2 : Pos} (hc : X.calm = true) (hN : X.N.Nodup) (hi : X.N[i]? = some x) (hj : X.N[j]? = some y) (hk : X.N[l]? = some z) (hij : i ≠ j) (hil : i ≠ l) (hjl : j ≠ l)
    (hx : X.env.scope.names.lookup x = some .local) (hy : X.env.scope.names.lookup y = some .local) (hz : X.env.scope.names.lookup z = some .local) (ha : SA X ys ga) (hl : ys.length = 3)
    (hw : swappedStores [.Tuple [.Name x px, .Name y py, .Name z pz] kt pt] (.Tuple ys k2 pt2) X.env = pure (some [x, y, z])) :
    PS X (.Assign [.Tuple [.Name x px, .Name y py, .Name z pz] kt pt] (.Tuple ys k2 pt2) pos) (tSt fun ρ S => (ga ρ S).bind fun z => (setAll ρ [i, j, l] z.1).map fun ρ1 => (.nx ρ1, z.2)) := by
  match ys, hl, ha, hw with
  | [a, b, c], _, ha, hw =>
    refine PS.imp (ps_par3 hc hN hi hj hk hij hil hjl hx hy hz ha.pa hw) fun D0 σ H ⟨M, ρ, S, Λ, fl, S', R, RE, h, q⟩ => ?_
    simp only [Option.bind_eq_some_iff, Option.map_eq_some_iff, Prod.mk.injEq] at h
    obtain ⟨⟨ds, S1⟩, h1, ρ1, h2, rfl, rfl⟩ := h
    refine ⟨M, ρ, S, Λ, ds, S1, R, RE, h1, fun vs H1 Λ1 s1 R1 r1 => ?_⟩
    match ds, h2, r1 with
    | [d1, d2, d3], h2, r9 =>
      cases h2
      cases r9 with
      | @cons _ v _ _ r0 r8 =>
        obtain ⟨w, u, rfl, rv, rw'⟩ := rvs2 r8
        exact ⟨v, w, u, rfl, q H1 Λ1 s1 R1 _ ((((RE.step R s1).set r0 i).set rv j).set rw' l)⟩
    | [], h2, r1 => cases h2
    | [_], h2, r1 => cases h2
    | [_, _], h2, r1 => cases h2
    | _ :: _ :: _ :: _ :: _, h2, r1 => cases h2
theorem parNames_at {sc : Scope} {line : Nat} : ∀ {ts : List Expr} {xs : List Str}, parNames sc line ts = some xs → ∀ t ∈ ts, ∃ x p, t = .Name x p ∧ sc.names.lookup x = some .local
  | [], _, _, t, ht => by cases ht
  | t :: ts, xs, h, t', ht => by
    cases t <;> try (simp [parNames] at h; done)
    rename_i x p
    simp only [parNames] at h
    split at h <;> try (cases h; done)
    rename_i hc
    simp only [Bool.and_eq_true, decide_eq_true_eq] at hc
    simp only [Option.map_eq_some_iff] at h
    obtain ⟨ys, h1, rfl⟩ := h
    rcases List.mem_cons.mp ht with rfl | ht
    · exact ⟨x, p, rfl, hc.1⟩
    · exact parNames_at h1 t' ht
theorem no_swapS {x t : Expr} {l : Nat} {env : PySem.Env} (h : (compScope x).isNone = true) : swapsWithSole [t] x l env = pure false := no_swap (t := some t) h
theorem not_tup {ts : List Expr} {k : Nat} {p : Pos} {y : Expr} {env : PySem.Env} (h : isTupX y = false) : swappedStores [.Tuple ts k p] y env = pure none := by
  cases y <;> first | rfl | simp [isTupX] at h
theorem plain_asg {o i : Expr} {tp : Pos} {env : PySem.Env} (h : plainX i = true) : ∀ v, assign (.Subscript o i tp) env v = (do
      let ov ← holding [v] (eval o env)
      let iv ← holding [v, ov] (eval i env)
      standAt tp
      holding [v, ov, iv] (setItem ov iv v)
      release [v, ov, iv] []) := by
  cases i <;> first | (intro _; rfl) | simp [plainX] at h
theorem swap_sub {o i y : Expr} {tp : Pos} {l : Nat} {env : PySem.Env} : swapsWithSole [.Subscript o i tp] y l env = pure false := by
  cases y <;> rfl
theorem swapped_sub {o i y : Expr} {tp : Pos} {env : PySem.Env} : swappedStores [.Subscript o i tp] y env = pure none := by
  cases y <;> rfl
theorem par_sw {ts ys : List Expr} {is : List Nat} {xs : List Str} {kt k2 : Nat} {pt pt2 pos : Pos} {ga : Env → Store → Option (List D × Store)} (hc : X.calm = true) (hnd : X.N.Nodup) (hN : X.N = N) (hfn : ∀ z, isTrue? z = true → X.fn z = true)
    (h1 : chkTs N X.env.scope isTrue? is ts = true) (hin : is.Nodup) (hk : X.env.scope.kind = .function) (hp : parNames X.env.scope (lineOf ts) ts = some xs) (ha : SA X ys ga)
    (e2 : xs.eraseDups.length = xs.length) (e3 : ts.length = 2 ∨ ts.length = 3) (e4 : ys.length = ts.length) (e5 : ys.all (foldedForSure 8) = false) (e6 : ys.all (constantsAlone 8) = false) :
    PS X (.Assign [.Tuple ts kt pt] (.Tuple ys k2 pt2) pos) (tSt fun ρ S => (ga ρ S).bind fun z => (setAll ρ is z.1).map fun ρ1 => (.nx ρ1, z.2)) := by
  have hw := par_yes (k := kt) (k2 := k2) (p := pt) (p2 := pt2) hk ha.ns hp e2 e3 e4 e5 e6
  have hat := parNames_at hp
  match ts, is, h1, hin, hp, hat, e3, e4, hw with
  | [t1, t2], [i, j], h1, hin, hp, hat, _, e4, hw =>
    simp only [chkTs, Bool.and_eq_true] at h1
    obtain ⟨x, p, rfl, a1, a2, a3⟩ := chkT_ok h1.1 hN hnd hfn
    obtain ⟨y, p', rfl, b1, b2, b3⟩ := chkT_ok h1.2.1 hN hnd hfn
    obtain ⟨_, _, ex, lx⟩ := hat _ List.mem_cons_self
    obtain ⟨_, _, ey, ly⟩ := hat _ (List.mem_cons_of_mem _ List.mem_cons_self)
    cases ex
    cases ey
    have ex : xs = [x, y] := by
      obtain ⟨z1, _⟩ := parNames_some hp
      simp only [parNames] at hp
      split at hp <;> try (cases hp; done)
      split at hp <;> try (cases hp; done)
      simpa using hp.symm
    subst ex
    exact two_par hc hnd a1 b1 (by simpa using hin) lx ly ha e4 hw
  | [t1, t2, t3], [i, j, l], h1, hin, hp, hat, _, e4, hw =>
    simp only [chkTs, Bool.and_eq_true] at h1
    obtain ⟨x, p, rfl, a1, a2, a3⟩ := chkT_ok h1.1 hN hnd hfn
    obtain ⟨y, p', rfl, b1, b2, b3⟩ := chkT_ok h1.2.1 hN hnd hfn
    obtain ⟨z, p2', rfl, c1, c2, c3⟩ := chkT_ok h1.2.2.1 hN hnd hfn
    obtain ⟨_, _, ex, lx⟩ := hat _ List.mem_cons_self
    obtain ⟨_, _, ey, ly⟩ := hat _ (List.mem_cons_of_mem _ List.mem_cons_self)
    obtain ⟨_, _, ez, lz⟩ := hat _ (List.mem_cons_of_mem _ (List.mem_cons_of_mem _ List.mem_cons_self))
    cases ex
    cases ey
    cases ez
    have ex : xs = [x, y, z] := by
      simp only [parNames] at hp
      split at hp <;> try (cases hp; done)
      split at hp <;> try (cases hp; done)
      split at hp <;> try (cases hp; done)
      simpa using hp.symm
    subst ex
    simp only [List.nodup_cons, List.mem_cons, List.not_mem_nil, or_false, not_or] at hin
    exact three_par hc hnd a1 b1 c1 hin.1.1 hin.1.2 hin.2.1 lx ly lz ha e4 hw
  | [], _, _, _, _, _, e3, _, _ => simp at e3
  | [_], _, _, _, _, _, e3, _, _ => simp at e3
  | _ :: _ :: _ :: _ :: _, _, _, _, _, _, e3, _, _ => simp at e3
  | [_, _], [], h1, _, _, _, _, _, _ => simp [chkTs] at h1
  | [_, _], [_], h1, _, _, _, _, _, _ => simp [chkTs] at h1
  | [_, _], _ :: _ :: _ :: _, h1, _, _, _, _, _, _ => simp [chkTs] at h1
  | [_, _, _], [], h1, _, _, _, _, _, _ => simp [chkTs] at h1
  | [_, _, _], [_], h1, _, _, _, _, _, _ => simp [chkTs] at h1
  | [_, _, _], [_, _], h1, _, _, _, _, _, _ => simp [chkTs] at h1
  | [_, _, _], _ :: _ :: _ :: _ :: _, h1, _, _, _, _, _, _ => simp [chkTs] at h1
set_option maxHeartbeats 4000000 in
mutual
theorem sndS : ∀ (t : T) (st : Stmt) (X : Cx), OkS G Φ n X → X.N = N → chkS G N X.env.scope t st = true → PS X st (tSt (run fu Φ t))
  | .skip, st, X, O, hN, h => by
    simp only [chkS] at h
    split at h <;> try (cases h; done)
    refine PS.imp ps_pass fun D0 σ H ⟨M, ρ, S, Λ, fl, S', R, RE, h, q⟩ => ?_
    cases h
    exact q H Λ Step.refl R σ RE
  | .seq a b, st, X, O, hN, h => by simp [chkS] at h
  | .never, st, X, O, hN, h => PS.imp ps_never fun D0 σ H ⟨M, ρ, S, Λ, fl, S', R, RE, h, q⟩ => by cases h
  | .ex e, st, X, O, hN, h => by
    simp only [chkS] at h
    split at h <;> try (cases h; done)
    simp only [Bool.and_eq_true] at h
    refine PS.imp (ps_expr (sndE (fu := fu) e _ X O.ok hN h.2).pe (no_swap h.1)) fun D0 σ H ⟨M, ρ, S, Λ, fl, S', R, RE, h, q⟩ => ?_
    obtain ⟨d, h1, rfl⟩ := fl_one (k := fun _ => .nx ρ) h
    exact tE_of R RE h1 fun v H1 Λ1 s1 R1 r1 => q H1 Λ1 s1 R1 σ (RE.step R s1)
  | .set i e, st, X, O, hN, h => by
    simp only [chkS] at h
    split at h <;> try (cases h; done)
    simp only [Bool.and_eq_true] at h
    obtain ⟨⟨h1, h2⟩, h3⟩ := h
    rename_i y p x sp
    obtain ⟨y', p', ey, k1, k2, k3⟩ := chkT_ok h1 hN O.ok.nd (fun z _ => O.fn1 z)
    cases ey
    have read : ∀ (D0 : Ends) (σ : L2.St) (H : Hp), tSt (run fu Φ (.set i e)) D0 σ H → tE (ev fu Φ e) σ H fun x H1 => gName i x σ H1 D0.nx := fun D0 σ H ⟨M, ρ, S, Λ, fl, S', R, RE, h, q⟩ => by
      obtain ⟨d, h1, rfl⟩ := fl_one (k := fun d => .nx (ρ.set i (some d))) h
      exact tE_of R RE h1 fun v H1 Λ1 s1 R1 r1 => q H1 Λ1 s1 R1 _ ((RE.step R s1).set r1 i)
    cases hs : swapB X.env.scope y p x with
    | false => exact PS.imp (ps_set O.ok.nd k1 k2 (sndE (fu := fu) e _ X O.ok hN h2).pe (swap_no hs) k3) fun D0 σ H h => read D0 σ H h
    | true =>
      rw [hs] at h3
      simp only [Bool.not_true, Bool.false_or, Bool.and_eq_true, decide_eq_true_eq] at h3
      obtain ⟨hk, h3⟩ := h3
      match e, h2, h3, read with
      | .lc k elt g vs it c, h2, _, read =>
        simp only [chkE] at h2
        split at h2 <;> try (cases h2; done)
        simp only [Bool.and_eq_true, decide_eq_true_eq] at h2
        obtain ⟨⟨⟨⟨⟨⟨⟨m0, m1⟩, m2⟩, m3⟩, m4⟩, m5⟩, m6⟩, m7⟩ := h2
        subst m0
        rename_i scope _
        obtain ⟨hy, hsw⟩ := swap_yes hk hs (l := sp.line)
        have hb : BlkOk X.N X.env.scope scope (ownOf N vs) := blkOk_by (by rw [hN]; exact m1)
        have main := ps_setLc (spos := sp) (own := ownOf N vs) O.ok.calm O.ok.nd k1 hy hsw (sndI (fu := fu) it _ _ X O.ok hN m5) hb (fun s H C cl fp => chkG_ok (X := X.blk s H scope (compEnvC scope cl C X.env) fp) (fn := fnB scope) O.ok.calm hN O.ok.nd (fun _ h => h) m4)
          (fun s H C cl fp => sndC (fu := fu) c _ (X.blk s H scope (compEnvC scope cl C X.env) fp) O.ok.blk hN m6) (fun s H C cl fp => (sndE (fu := fu) elt _ (X.blk s H scope (compEnvC scope cl C X.env) fp) O.ok.blk hN m7).pe) (plain_set m3)
        rw [own_snd] at main
        exact PS.imp main fun D0 σ H h => lc_read fu k (fun i hi => of_decide_eq_true (List.all_eq_true.mp m2 i hi)) (read D0 σ H h)
  | .tset is e, st, X, O, hN, h => by
    simp only [chkS] at h
    split at h <;> try (cases h; done)
    simp only [Bool.and_eq_true, Bool.not_eq_true'] at h
    obtain ⟨⟨⟨h1, h2⟩, h3⟩, h4⟩ := h
    obtain ⟨k1, k2, k3⟩ := chkTs_ok hN O.ok.nd (fun z _ => O.fn1 z) h1
    refine PS.imp (ps_asg (sndE (fu := fu) e _ X O.ok hN h4).pe (sg_tup O.ok.calm k1 k2 k3) (no_swapS h3) (not_tup h2) rfl) fun D0 σ H ⟨M, ρ, S, Λ, fl, S', R, RE, h, q⟩ => ?_
    simp only [run, Option.bind_eq_some_iff, Option.map_eq_some_iff, Prod.mk.injEq] at h
    obtain ⟨⟨d, S1⟩, h1, ρ1, h2, rfl, rfl⟩ := h
    exact tE_of R RE h1 fun v H1 Λ1 s1 R1 r1 => ⟨M, Λ1, S1, ρ, d, ρ1, R1, RE.step R s1, r1, h2, fun σ' RE' _ => q H1 Λ1 s1 R1 σ' RE'⟩
  | .par is es, st, X, O, hN, h => by
    simp only [chkS] at h
    split at h <;> try (cases h; done)
    simp only [Bool.and_eq_true, Bool.or_eq_true, decide_eq_true_eq] at h
    obtain ⟨⟨⟨⟨h1, h2⟩, hnd⟩, hlt⟩, h3⟩ := h
    rename_i ts kt pt ys k2 pt2 sp
    have ha := sndEs (fu := fu) es _ X O.ok hN h2
    rcases h3 with h3 | h3
    · obtain ⟨⟨⟨hk, e5⟩, e6⟩, h3⟩ := h3
      split at h3 <;> try (cases h3; done)
      rename_i xs hp
      simp only [Bool.and_eq_true, Bool.or_eq_true, decide_eq_true_eq] at h3
      obtain ⟨⟨e2, e3⟩, e4⟩ := h3
      exact par_sw O.ok.calm O.ok.nd hN (fun z _ => O.fn1 z) h1 hnd hk hp ha e2 e3 e4 (by simpa using e5) (by simpa using e6)
    · obtain ⟨q1, q2, q3⟩ := chkTs_ok hN O.ok.nd (fun z _ => O.fn1 z) h1
      have hno := par_no (k := kt) (k2 := k2) (p := pt) (p2 := pt2) ha.ns (env := X.env) (ts := ts) (by
        rcases h3 with (h3 | h3) | h3
        · exact .inl (Option.isNone_iff_eq_none.mp h3)
        · exact .inr (.inl h3)
        · refine .inr (.inr fun z => ?_)
          simp only [Bool.not_eq_true', Bool.or_eq_false_iff, decide_eq_false_iff_not] at h3
          exact z.elim h3.1 h3.2)
      refine PS.imp (ps_asg (se_tup ha.pa) (sg_tup O.ok.calm q1 q2 q3) rfl hno rfl) fun D0 σ H ⟨M, ρ, S, Λ, fl, S', R, RE, h, q⟩ => ?_
      simp only [run, Option.bind_eq_some_iff, Option.map_eq_some_iff, Prod.mk.injEq] at h
      obtain ⟨⟨ds, S1⟩, h1, ρ1, h2, rfl, rfl⟩ := h
      have hl := setAll_len h2
      refine tE_of (d := .tup ds) R RE (by simp only [h1, Option.bind_some]; rw [if_pos (by rw [hl]; unfold line; omega)]) fun v H1 Λ1 s1 R1 r1 => ⟨M, Λ1, S1, ρ, .tup ds, ρ1, R1, RE.step R s1, r1, h2, fun σ' RE' _ => q H1 Λ1 s1 R1 σ' RE'⟩
  | .setI o i e, st, X, O, hN, h => by
    simp only [chkS] at h
    split at h <;> try (cases h; done)
    simp only [Bool.and_eq_true] at h
    obtain ⟨⟨⟨h0, h1⟩, h2⟩, h3⟩ := h
    rename_i y z tp w sp
    have main := ps_asg (pos := sp) (tg := .Subscript y z tp) (sndE (fu := fu) e _ X O.ok hN h1).pe (pg_sub (sndE (fu := fu) o _ X O.ok hN h2).pe (sndE (fu := fu) i _ X O.ok hN h3).pe (setR O.ok.units) (plain_asg h0)) (swap_sub) (swapped_sub) rfl
    refine PS.imp main fun D0 σ H ⟨M, ρ, S, Λ, fl, S', R, RE, h, q⟩ => ?_
    simp only [run, Option.bind_eq_some_iff, Option.map_eq_some_iff, Prod.mk.injEq] at h
    obtain ⟨⟨d, S1⟩, h1, ⟨x, S2⟩, h2, ⟨j, S3⟩, h3, S4, h4, rfl, rfl⟩ := h
    refine tE_of R RE h1 fun v H1 Λ1 s1 R1 r1 => tE_of R1 (RE.step R s1) h2 fun v2 H2 Λ2 s2 R2 r2 => tE_of R2 ((RE.step R s1).step R1 s2) h3 fun v3 H3 Λ3 s3 R3 r3 => ?_
    exact ⟨M, Λ3, S3, x, j, d, S4, R3, r2.step R2 s3, r3, (r1.step R1 s2).step R2 s3, h4, fun H4 R4 s4 => q H4 Λ3 (s1.trans (s2.trans (s3.trans s4))) R4 σ ((((RE.step R s1).step R1 s2).step R2 s3).step R3 s4)⟩
  | .aug i o e, st, X, O, hN, h => by
    simp only [chkS] at h
    split at h <;> try (cases h; done)
    simp only [Bool.and_eq_true, Bool.or_eq_true, decide_eq_true_eq] at h
    obtain ⟨⟨⟨h1, rfl⟩, h2⟩, h3⟩ := h
    obtain ⟨y, p, ey, k1, k2, k3⟩ := chkT_ok h1 hN O.ok.nd (fun z _ => O.fn1 z)
    cases ey
    refine PS.imp (ps_aug O.ok.nd k1 k2 (sndE (fu := fu) e _ X O.ok hN h3).pe (aug_ok h2) k3) fun D0 σ H ⟨M, ρ, S, Λ, fl, S', R, RE, h, q⟩ => ?_
    simp only [run] at h
    split at h <;> try (cases h; done)
    rename_i d hd
    split at h <;> try (cases h; done)
    rename_i hok
    simp only [Option.bind_eq_some_iff] at h
    obtain ⟨⟨b, S1⟩, h4, h5⟩ := h
    split at h5 <;> try (cases h5; done)
    rename_i c hc
    cases h5
    obtain ⟨v, ev1, rv⟩ := RE.2 i d hd
    refine ⟨v, ev1, tE_of R RE h4 fun w H1 Λ1 s1 R1 r1 => ⟨M, Λ1, S1, d, b, c, R1, rv.step R s1, r1, hok, hc, fun u H2 sm ru => ?_⟩⟩
    exact q H2 Λ1 (s1.trans (Step.same sm)) (R1.same sm) _ (((RE.step R s1).step R1 (Step.same sm)).set ru i)
  | .ret e, st, X, O, hN, h => by
    simp only [chkS] at h
    split at h <;> try (cases h; done)
    refine PS.imp (ps_ret (sndE (fu := fu) e _ X O.ok hN h).pe) fun D0 σ H ⟨M, ρ, S, Λ, fl, S', R, RE, h, q⟩ => ?_
    obtain ⟨d, h1, rfl⟩ := fl_one (k := fun d => .rt d) h
    exact tE_of R RE h1 fun v H1 Λ1 s1 R1 r1 => q H1 Λ1 s1 R1 v r1
  | .retn, st, X, O, hN, h => by
    simp only [chkS] at h
    split at h <;> try (cases h; done)
    refine PS.imp ps_retN fun D0 σ H ⟨M, ρ, S, Λ, fl, S', R, RE, h, q⟩ => ?_
    cases h
    exact q H Λ Step.refl R _ .non
  | .ite c a b, st, X, O, hN, h => by
    simp only [chkS] at h
    split at h <;> try (cases h; done)
    simp only [Bool.and_eq_true] at h
    refine PS.imp (ps_if (sndE (fu := fu) c _ X O.ok hN h.1.1).pt (sndSs a _ X O hN h.1.2) (sndSs b _ X O hN h.2)) fun D0 σ H ⟨M, ρ, S, Λ, fl, S', R, RE, h, q⟩ => ?_
    simp only [run, Option.bind_eq_some_iff] at h
    obtain ⟨⟨d, S1⟩, h1, h2⟩ := h
    split at h2 <;> try (cases h2; done)
    rename_i k ed
    simp only at ed
    subst ed
    cases k with
    | true =>
      rw [if_pos rfl] at h2
      exact ⟨M, ρ, S, Λ, true, S1, R, RE, h1, fun H1 Λ1 s1 R1 => iteT ⟨M, ρ, S1, Λ1, fl, S', R1, RE.step R s1, h2, fun H2 Λ2 s2 R2 => q H2 Λ2 (s1.trans s2) R2⟩⟩
    | false =>
      rw [if_neg Bool.false_ne_true] at h2
      exact ⟨M, ρ, S, Λ, false, S1, R, RE, h1, fun H1 Λ1 s1 R1 => iteF ⟨M, ρ, S1, Λ1, fl, S', R1, RE.step R s1, h2, fun H2 Λ2 s2 R2 => q H2 Λ2 (s1.trans s2) R2⟩⟩
  | .whl c b, st, X, O, hN, h => by
    simp only [chkS] at h
    split at h <;> try (cases h; done)
    simp only [Bool.and_eq_true] at h
    exact PS.imp (ps_while O.po (sndE (fu := fu) c _ X O.ok hN h.1).pt (sndSs b _ X O hN h.2)) fun D0 σ H h => while_read h
  | .loop g it b, st, X, O, hN, h => by
    simp only [chkS] at h
    split at h <;> try (cases h; done)
    simp only [Bool.and_eq_true] at h
    obtain ⟨⟨⟨h0, h1⟩, h2⟩, h3⟩ := h
    exact PS.imp (ps_for O.po O.ok.calm (sndI (fu := fu) it _ _ X O.ok hN h2) (chkG_ok O.ok.calm hN O.ok.nd (fun z _ => O.fn1 z) h1) (sndSs b _ X O hN h3) (plain_set h0)) fun D0 σ H h => for_read h
  | .brk, st, X, O, hN, h => by
    simp only [chkS] at h
    split at h <;> try (cases h; done)
    refine PS.imp ps_break fun D0 σ H ⟨M, ρ, S, Λ, fl, S', R, RE, h, q⟩ => ?_
    cases h
    exact q H Λ Step.refl R σ RE
  | .cont, st, X, O, hN, h => by
    simp only [chkS] at h
    split at h <;> try (cases h; done)
    refine PS.imp ps_continue fun D0 σ H ⟨M, ρ, S, Λ, fl, S', R, RE, h, q⟩ => ?_
    cases h
    exact q H Λ Step.refl R σ RE
theorem sndSs : ∀ (t : T) (xs : List Stmt) (X : Cx), OkS G Φ n X → X.N = N → chkSs G N X.env.scope t xs = true → PSs X xs (tSt (run fu Φ t))
  | .skip, xs, X, O, hN, h => by
    simp only [chkSs] at h
    split at h <;> try (cases h; done)
    refine PSs.imp pss_nil fun D0 σ H ⟨M, ρ, S, Λ, fl, S', R, RE, h, q⟩ => ?_
    cases h
    exact q H Λ Step.refl R σ RE
  | .seq a b, xs, X, O, hN, h => by
    simp only [chkSs] at h
    split at h <;> try (cases h; done)
    simp only [Bool.and_eq_true] at h
    refine PSs.imp (pss_cons (sndS a _ X O hN h.1) (sndSs b _ X O hN h.2)) fun D0 σ H ⟨M, ρ, S, Λ, fl, S', R, RE, h, q⟩ => ?_
    simp only [run, Option.bind_eq_some_iff] at h
    obtain ⟨⟨f, S1⟩, h1, h2⟩ := h
    refine ⟨M, ρ, S, Λ, f, S1, R, RE, h1, fun H1 Λ1 s1 R1 => ?_⟩
    cases f with
    | nx ρ1 => exact fun σ1 RE1 => ⟨M, ρ1, S1, Λ1, fl, S', R1, RE1, h2, fun H2 Λ2 s2 R2 => q H2 Λ2 (s1.trans s2) R2⟩
    | _ =>
      cases h2
      exact q H1 Λ1 s1 R1
  | .never, xs, X, O, hN, h => PSs.imp pss_never fun D0 σ H ⟨M, ρ, S, Λ, fl, S', R, RE, h, q⟩ => by cases h
  | .ex _, _, _, _, _, h => by simp [chkSs] at h
  | .set _ _, _, _, _, _, h => by simp [chkSs] at h
  | .tset _ _, _, _, _, _, h => by simp [chkSs] at h
  | .par _ _, _, _, _, _, h => by simp [chkSs] at h
  | .setI _ _ _, _, _, _, _, h => by simp [chkSs] at h
  | .aug _ _ _, _, _, _, _, h => by simp [chkSs] at h
  | .ret _, _, _, _, _, h => by simp [chkSs] at h
  | .retn, _, _, _, _, h => by simp [chkSs] at h
  | .ite _ _ _, _, _, _, _, h => by simp [chkSs] at h
  | .whl _ _, _, _, _, _, h => by simp [chkSs] at h
  | .loop _ _ _, _, _, _, _, h => by simp [chkSs] at h
  | .brk, _, _, _, _, h => by simp [chkSs] at h
  | .cont, _, _, _, _, h => by simp [chkSs] at h
end
end
end Pd

/-! Pd19: the defs together; the law's promise. -/
namespace Pd
open PySem PySem.Spec PyProof.Rows L2

theorem scC_ok {N P : List Str} {sc : Scope} (h : C8.scC N P sc = true) : FnScope N P sc := C8.fnScope_by h
structure DefAt (K : PySem.W.Frag) (mg : Str → Option Value) (G : Sig) (g : Fn) (a : Addr) (fd : FuncData) (st : Stmt) : Prop where
  fn : L2.Fun K g.nm g.nm st a fd
  mgf : mg g.nm = some (.ref a)
  keep : PySem.W.keepIn K (.ref a) = true
  bind : Binds K fd g.ps []
  sc : C8.scC g.N g.ps (defScope st) = true
  chk : chkSs G g.N (defScope st) g.body (defBody st) = true
theorem look_find {L : List Fn} {f : Str} {ps : List Str} (h : (L.map fun g => (g.nm, g.ps)).lookup f = some ps) : ∃ g ∈ L, L.find? (fun h => h.nm == f) = some g ∧ g.ps = ps ∧ g.nm = f := by
  induction L with
  | nil => cases h
  | cons g L ih =>
    rw [List.map_cons, List.lookup_cons] at h
    by_cases e : f = g.nm
    · subst e
      simp only [beq_self_eq_true] at h
      cases h
      exact ⟨g, List.mem_cons_self, by rw [List.find?_cons]; simp, rfl, rfl⟩
    · have e1 : (f == g.nm) = false := by simpa using e
      rw [e1] at h
      obtain ⟨g', h1, h2, h3, h4⟩ := ih h
      refine ⟨g', List.mem_cons_of_mem _ h1, ?_, h3, h4⟩
      rw [List.find?_cons]
      have e2 : (g.nm == f) = false := by simpa using fun z => e z.symm
      rw [e2]
      exact h2
theorem start_rel {M : Addr → Prop} {Λ : List Addr} {H : Hp} {ds : List D} {vs : List V} (r : RVs M Λ H ds vs) (N : List Str) : RelE M Λ H (startE N.length ds) (L2.start N vs) := by
  unfold startE L2.start
  refine ⟨by simp [r.length], fun i d h => ?_⟩
  by_cases hi : i < (ds.map some).length
  · rw [List.getElem?_append_left hi, List.getElem?_map, Option.map_eq_some_iff] at h
    obtain ⟨d', h1, h2⟩ := h
    cases h2
    obtain ⟨v, ev, rv⟩ := r.get h1
    refine ⟨v, ?_, rv⟩
    rw [List.getElem?_append_left (by simpa [← r.length] using hi), List.getElem?_map, ev]
    rfl
  · rw [List.getElem?_append_right (Nat.le_of_not_lt hi), List.getElem?_replicate] at h
    split at h <;> cases h
section
variable {P : Program} {w : World} {K : PySem.W.Frag} {mg : Str → Option Value} {base : Heap}
theorem prog_ok {L : List Fn} {fu : Nat} {G : Sig} (hG : G.fns = L.map fun g => (g.nm, g.ps)) (hd : ∀ g ∈ L, ∃ a fd st, DefAt K mg G g a fd st) (hblt : ∀ x ∈ bltNames, mg x = none)
    (hgv : ∀ x d, G.gvs.lookup x = some d → ∃ v u, mg x = some u ∧ RelV v u ∧ ∀ M Λ H, RV M Λ H d v) :
    ∀ (n : Nat) (g : Fn) (a : Addr) (fd : FuncData) (st : Stmt), L.find? (fun h => h.nm == g.nm) = some g → DefAt K mg G g a fd st → FnOk P w K mg base CX0 n a fd g.ps (spC (callN fu L n) g.nm g.ps.length)
  | 0, g, a, fd, st, hf, D0 => by
    constructor
    · intro vs H Q E ⟨M, Λ, S, ds, d, S', R, rs, hl, e, q⟩
      cases e
    · intro A outer s H args us vs Q E hr he hb hv ⟨M, Λ, S, ds, d, S', R, rs, hl, e, q⟩
      cases e
  | n + 1, g, a, fd, st, hf, D0 => by
    have S0 := scC_ok D0.sc
    refine D0.fn.ok S0 (fun vs H Q E h => ?_) (fun cdv A outer s H vs Q E hr h => ?_)
    · obtain ⟨M, Λ, S, ds, d, S', R, rs, hl, e, q⟩ := h
      rw [← rs.length, hl]
    · obtain ⟨M, Λ, S, ds, d, S', R, rs, hl, e, q⟩ := h
      have O : OkS G (callN fu L n) n (cxOf CX0 P w K mg base g.N g.nm (defScope st) a cdv A outer s H E).nox := by
        refine ⟨⟨S0.nd, rfl, hr, hblt, fun f ps hl' => ?_, hgv⟩, PassesOwn.never, fun _ => rfl⟩
        rw [hG] at hl'
        obtain ⟨g', h1, h2, rfl, rfl⟩ := look_find hl'
        obtain ⟨a', fd', st', D1⟩ := hd g' h1
        exact ⟨a', fd', D1.mgf, D1.keep, D1.bind, prog_ok hG hd hblt hgv n g' a' fd' st' h2 D1⟩
      refine ⟨_, sndSs (fu := fu) (Φ := callN fu L n) g.body (defBody st) _ O rfl D0.chk, ?_⟩
      simp only [callN, hf, hl, if_true, Option.bind_eq_some_iff] at e
      obtain ⟨⟨fl, S1⟩, e1, e2⟩ := e
      refine ⟨M, _, S, Λ, fl, S1, R, start_rel rs g.N, e1, fun H' Λ' s' R' => ?_⟩
      cases fl with
      | rt d' =>
        cases e2
        exact fun v r => q v H' Λ' s' R' r
      | nx ρ' =>
        cases e2
        exact fun σ' _ => q .non H' Λ' s' R' .non
      | bk _ => cases e2
      | ct _ => cases e2
end
def listCls : Value → Bool
  | .type n => n == "list"
  | _ => false
def noLists (K : PySem.W.Frag) : Bool := K.all fun p => !listCls p.2.cls
theorem noList {K : PySem.W.Frag} (h : noLists K = true) {a : Addr} {o : Obj} (e : K.lookup a = some o) : o.cls ≠ .type "list" := by
  have hm : (a, o) ∈ K := by
    clear h
    induction K with
    | nil => cases e
    | cons p K ih =>
      obtain ⟨b, u⟩ := p
      rw [List.lookup_cons] at e
      split at e
      · rename_i z
        cases e
        rw [beq_iff_eq] at z
        subst z
        exact List.mem_cons_self
      · exact List.mem_cons_of_mem _ (ih e)
  intro z
  have := List.all_eq_true.mp h _ hm
  simp only [z] at this
  cases this
/-- what the law is to give of the evaluator -/
def LawT (L : List Fn) (fu n most : Nat) : Prop := ∀ ns : List Int, ns.length ≤ most → ∃ S, callN fu L n "law" [.scr ns] [] = some (.bl true, S)
theorem law_sp {K : PySem.W.Frag} (hK : noLists K = true) {L : List Fn} {fu n most : Nat} (T0 : LawT L fu n most) {H : Hp} {a : Addr} {ns : List Int} (hl : ns.length ≤ most) (hO : Only H) (hS : SqL K H a (ns.map V.int)) :
    spC (callN fu L n) "law" 1 [.ref a] H (fun v _ => v = .bl true) fun _ _ _ => False := by
  obtain ⟨S, e⟩ := T0 ns hl
  have hf : ∃ o, H a = some (.frz o (.lst (ns.map V.int))) := by
    rcases hS with (h | ⟨o, h⟩) | ⟨o, its, m, h1, h2, _⟩
    · rcases hO a with z | ⟨o, xs, z⟩
      · rw [z] at h; cases h
      · rw [z] at h; cases h
    · exact ⟨o, h⟩
    · exact absurd h2 (noList hK h1)
  obtain ⟨o, hf⟩ := hf
  refine ⟨fun _ => False, [], [], [.scr ns], _, S, ⟨rfl, List.nodup_nil, fun _ h => (List.not_mem_nil h).elim, fun _ h => h.elim, fun l c a' h1 h2 => by simp at h1⟩, .cons (.scr hf (by simp)) .nil, rfl, e, fun v H' Λ' s R r => bl_of r⟩
end Pd

/-! Pd20: from the written part to the promise. -/
namespace Pd
open PySem PySem.Spec PyProof.Rows L2

section
variable {P : Program} {w : World} {K : PySem.W.Frag} {mg : Str → Option Value} {h : Heap}
theorem mkAt {G : Sig} {g : Fn} {st : Stmt} {f : Addr} {oc kV dc pm cd ct : Value} {od an : Option Addr} {sl : Array (Option Value)} (X : K.In h) (Gn : h.Ns mainGlobals mg)
    (hc : (C8.scC g.N g.ps (defScope st) && chkSs G g.N (defScope st) g.body (defBody st)) = true)
    (hb : ∀ (kV doc pm : Value) (an : Option Addr) (cdv ct : Value) (us : List Value), us.length = g.ps.length → bindArgs (PySem.W.fnOf g.nm g.nm (defArgs st) (defBody st) (defScope st) .none kV doc pm an cdv ct) ⟨us, []⟩ = pure (g.ps.zip us))
    (a1 : PySem.W.nsIn K mainGlobals g.nm = some (some (.ref f))) (l1 : K.lookup f = some ⟨oc, od, .func (PySem.W.fnOf g.nm g.nm (defArgs st) (defBody st) (defScope st) .none kV dc pm an cd ct), sl⟩)
    (c1 : PySem.W.codeIn K cd g.nm = true) (k1 : PySem.W.keepIn K (.ref f) = true) : DefAt K mg G g f (PySem.W.fnOf g.nm g.nm (defArgs st) (defBody st) (defScope st) .none kV dc pm an cd ct) st := by
  rw [Bool.and_eq_true] at hc
  have F1 := fun_mk (st := st) l1 c1 k1
  exact ⟨F1, PySem.W.mg_of X Gn a1, k1, F1.binds hb, hc.1, hc.2⟩
theorem gv_int {x : Str} {i : Int} {t : Tok} (X : K.In h) (Gn : h.Ns mainGlobals mg) (a1 : PySem.W.nsIn K mainGlobals x = some (some (.int i t))) : ∃ v u, mg x = some u ∧ RelV v u ∧ ∀ M Λ H, RV M Λ H (.int i) v :=
  ⟨.int i, _, PySem.W.mg_of X Gn a1, ⟨t, rfl⟩, fun _ _ _ => .int i⟩
theorem gv_str {x : Str} {c : List Nat} {t : Tok} (X : K.In h) (Gn : h.Ns mainGlobals mg) (hc : okC c = true) (a1 : PySem.W.nsIn K mainGlobals x = some (some (.str (sOf c) t))) : ∃ v u, mg x = some u ∧ RelV v u ∧ ∀ M Λ H, RV M Λ H (.str c) v :=
  ⟨.str (sOf c), _, PySem.W.mg_of X Gn a1, ⟨t, rfl⟩, fun _ _ _ => .str (okC_S hc)⟩
theorem look_mem {α : Type} {l : List (Str × α)} {x : Str} {d : α} (h : l.lookup x = some d) : (x, d) ∈ l := by
  induction l with
  | nil => cases h
  | cons p l ih =>
    obtain ⟨y, e⟩ := p
    rw [List.lookup_cons] at h
    split at h
    · rename_i z
      cases h
      rw [beq_iff_eq] at z
      subst z
      exact List.mem_cons_self
    · exact List.mem_cons_of_mem _ (ih h)
theorem law_mk {L : List Fn} {G : Sig} {gL : Fn} {fu n : Nat} {fa fL : Addr} {fdL : FuncData} {stL : Stmt} (hG : G.fns = L.map fun g => (g.nm, g.ps)) (hfind : L.find? (fun g => g.nm == gL.nm) = some gL) (hn : gL.nm = "law") (hps : gL.ps = [("script" : Str)])
    (hfa : mg "law" = some (.ref fa)) (dL : DefAt K mg G gL fL fdL stL) (hbind : ∀ (s : Shared) (v : Value), BindsTo s fdL ⟨[v], []⟩ [("script", v)])
    (hd : ∀ g ∈ L, ∃ a fd st, DefAt K mg G g a fd st) (hblt : ∀ x ∈ bltNames, mg x = none) (hgv : ∀ p ∈ G.gvs, ∃ v u, mg p.1 = some u ∧ RelV v u ∧ ∀ M Λ H, RV M Λ H p.2 v) :
    ∃ fd : FuncData, (∀ (s : Shared) (v : Value), BindsTo s fd ⟨[v], []⟩ [("script", v)]) ∧ ∀ base : Heap, K.In base → base.Ns mainGlobals mg → FnOk P w K mg base CX0 n fa fd ["script"] (spC (callN fu L n) "law" 1) := by
  have e := hfa.symm.trans (hn ▸ dL.mgf)
  cases e
  refine ⟨fdL, hbind, fun base _ _ => ?_⟩
  have := prog_ok (P := P) (w := w) (base := base) (fu := fu) hG hd hblt (fun x d h => hgv (x, d) (look_mem h)) n gL fa fdL stL hfind dL
  rw [hn, hps] at this
  exact this
end
end Pd

/-! Pd21: laws of the evaluator. -/
namespace Pd
open PySem PySem.Spec PyProof.Rows L2

def retOf (r : Fl × Store) : Option (D × Store) := match r.1 with
  | .rt d => some (d, r.2)
  | .nx _ => some (.non, r.2)
  | _ => none
theorem callN_at {L : List Fn} {fu m : Nat} {f : Str} {g : Fn} {ds : List D} {S : Store} (hf : L.find? (fun h => h.nm == f) = some g) (hl : ds.length = g.ps.length) :
    callN fu L (m + 1) f ds S = (run fu (callN fu L m) g.body (startE g.N.length ds) S).bind retOf := by
  show (match L.find? (fun g => g.nm == f) with
    | none => none
    | some g => if ds.length = g.ps.length then (run fu (callN fu L m) g.body (startE g.N.length ds) S).bind retOf else none) = _
  rw [hf]
  simp only [hl, if_true]
theorem runFix_of {α β : Type} {f : D → Store → Option (Option α × Store)} {φ : β → D} {g : β → Option α} {S : Store} : ∀ {L : List β}, (∀ b ∈ L, f (φ b) S = some (g b, S)) → runFix f (L.map φ) S = some (L.filterMap g, S)
  | [], _ => rfl
  | b :: L, h => by
    rw [List.map_cons, runFix, h b List.mem_cons_self]
    simp only [Option.bind_some]
    rw [runFix_of fun c hc => h c (List.mem_cons_of_mem _ hc)]
    simp only [Option.map_some, List.filterMap_cons]
    cases g b <;> rfl
/-- a walk that keeps the store and takes each -/
theorem runFix_map {α β : Type} {f : D → Store → Option (Option α × Store)} {φ : β → D} {g : β → α} {S : Store} {L : List β} (h : ∀ b ∈ L, f (φ b) S = some (some (g b), S)) : runFix f (L.map φ) S = some (L.map g, S) := by
  rw [runFix_of (g := fun b => some (g b)) h, List.filterMap_eq_map']
/-- .. and takes some -/
theorem runFix_filter {α β : Type} {f : D → Store → Option (Option α × Store)} {φ : β → D} {p : β → Bool} {g : β → α} {S : Store} : ∀ {L : List β}, (∀ b ∈ L, f (φ b) S = some (if p b then some (g b) else none, S)) → runFix f (L.map φ) S = some ((L.filter p).map g, S)
  | [], _ => rfl
  | b :: L, h => by
    rw [List.map_cons, runFix, h b List.mem_cons_self]
    simp only [Option.bind_some]
    rw [runFix_filter fun c hc => h c (List.mem_cons_of_mem _ hc), List.filter_cons]
    cases p b <;> rfl
theorem atI_nat' {α : Type} {xs : List α} {i : Nat} : atI xs (i : Int) = xs[i]? := by
  unfold atI ixN
  rw [if_pos (Int.natCast_nonneg i)]
  by_cases h : i < xs.length
  · rw [if_pos (by omega)]
    simp
  · rw [if_neg (by omega), List.getElem?_eq_none (by omega)]
    rfl
theorem strsOf_map : ∀ l : List (List Nat), strsOf (l.map .str) = some l
  | [] => rfl
  | c :: l => by rw [List.map_cons, strsOf, strsOf_map l]; rfl
theorem boolsOf_map : ∀ l : List Bool, boolsOf (l.map .bl) = some l
  | [] => rfl
  | c :: l => by rw [List.map_cons, boolsOf, boolsOf_map l]; rfl
theorem intsOf_map : ∀ l : List Int, intsOf (l.map .int) = some l
  | [] => rfl
  | c :: l => by rw [List.map_cons, intsOf, intsOf_map l]; rfl
theorem joinL_nil : ∀ l : List (List Nat), joinL [] l = l.flatten
  | [] => rfl
  | [x] => by simp [joinL]
  | x :: y :: r => by
    show x ++ [] ++ joinL [] (y :: r) = _
    rw [joinL_nil (y :: r), List.append_nil]
    rfl
section
variable {fu : Nat} {Φ : Calls} {ρ : Env} {S S1 S2 : Store}
theorem lc_fix {k : Bool} {elt : E} {g : Tg} {vs : List Nat} {it : It} {c : Es} {xs r : List D} (h1 : evI fu Φ it ρ S = some (.fix xs, S1)) (h2 : runFix (turnF g vs (evT fu Φ c) (ev fu Φ elt) ρ) xs S1 = some (r, S2)) (h3 : r.length ≤ line) :
    ev fu Φ (.lc k elt g vs it c) ρ S = some (fin k (.new (.lv r)) S2) := by
  show ((evI fu Φ it ρ S).bind fun w => (runW fu (turnF g vs (evT fu Φ c) (ev fu Φ elt) ρ) w.1 w.2).bind fun r => if r.1.length ≤ line then some (fin k (.new (.lv r.1)) r.2) else none) = _
  rw [h1]
  simp only [Option.bind_some, runW, h2, h3, if_true]
theorem lc_map {elt : E} {g : Tg} {vs : List Nat} {it : It} {c : Es} {β : Type} {L : List β} {φ : β → D} (g' : β → D) (h1 : evI fu Φ it ρ S = some (.fix (L.map φ), S1)) (h2 : ∀ b ∈ L, turnF g vs (evT fu Φ c) (ev fu Φ elt) ρ (φ b) S1 = some (some (g' b), S1)) (h3 : L.length ≤ line) :
    ev fu Φ (.lc false elt g vs it c) ρ S = some (.lv (L.map g'), S1) := lc_fix (k := false) h1 (runFix_map h2) (by rw [List.length_map]; exact h3)
theorem lc_filter {elt : E} {g : Tg} {vs : List Nat} {it : It} {c : Es} {β : Type} {L : List β} {φ : β → D} (p : β → Bool) (g' : β → D) (h1 : evI fu Φ it ρ S = some (.fix (L.map φ), S1)) (h2 : ∀ b ∈ L, turnF g vs (evT fu Φ c) (ev fu Φ elt) ρ (φ b) S1 = some (if p b then some (g' b) else none, S1)) (h3 : L.length ≤ line) :
    ev fu Φ (.lc false elt g vs it c) ρ S = some (.lv ((L.filter p).map g'), S1) := lc_fix (k := false) h1 (runFix_filter h2) (by rw [List.length_map]; exact Nat.le_trans (List.length_filter_le _ _) h3)
theorem dc_map {key val : E} {g : Tg} {vs : List Nat} {it : It} {c : Es} {β : Type} {L : List β} {φ : β → D} (g' : β → DK × D) (h1 : evI fu Φ it ρ S = some (.fix (L.map φ), S1)) (h2 : ∀ b ∈ L, turnK g vs (evT fu Φ c) (ev fu Φ key) (ev fu Φ val) ρ (φ b) S1 = some (some (g' b), S1)) (h3 : L.length ≤ line) :
    ev fu Φ (.dc false key val g vs it c) ρ S = some (.dv false (foldPut (L.map g') ([], [])).1 (foldPut (L.map g') ([], [])).2, S1) := by
  show ((evI fu Φ it ρ S).bind fun w => (runW fu (turnK g vs (evT fu Φ c) (ev fu Φ key) (ev fu Φ val) ρ) w.1 w.2).bind fun r => if r.1.length ≤ line then some (fin false (.new (.dv false (foldPut r.1 ([], [])).1 (foldPut r.1 ([], [])).2)) r.2) else none) = _
  rw [h1]
  simp only [Option.bind_some, runW, runFix_map h2, List.length_map, h3, if_true]
  rfl
end
/-! ### primitives, by their things -/
section
variable {S : Store}
theorem p_add_i (i j : Int) : opS .add (.int i) (.int j) S = some (.val (.int (i + j))) := rfl
theorem p_sub_i (i j : Int) : opS .sub (.int i) (.int j) S = some (.val (.int (i - j))) := rfl
theorem p_mul_i {i j : Int} (h : i.natAbs < 18446744073709551616 ∨ j.natAbs < 18446744073709551616) : opS .mul (.int i) (.int j) S = some (.val (.int (i * j))) := by
  show (if _ then _ else _) = _
  rw [if_pos h]
theorem p_fdiv_i {i j : Int} (h : 0 < j ∧ j.natAbs < 1073741824) : opS .fdiv (.int i) (.int j) S = some (.val (.int (i / j))) := by
  show (if _ then _ else _) = _
  rw [if_pos h]
theorem p_mod_i {i j : Int} (h : 0 < j) : opS .mod (.int i) (.int j) S = some (.val (.int (i % j))) := by
  show (if _ then _ else _) = _
  rw [if_pos h]
theorem p_pow_i {i j : Int} (h : 0 ≤ j ∧ j.natAbs < 1000001 ∧ i.natAbs < 18446744073709551616) : opS .pow (.int i) (.int j) S = some (.val (.int (i ^ j.toNat))) := by
  show (if _ then _ else _) = _
  rw [if_pos h]
theorem p_add_s {a b : List Nat} (h : a.length + b.length ≤ line) : opS .add (.str a) (.str b) S = some (.val (.str (a ++ b))) := by
  show (if _ then _ else _) = _
  rw [if_pos h]
theorem p_add_t {a b : List D} (h : a.length + b.length ≤ line) : opS .add (.tup a) (.tup b) S = some (.val (.tup (a ++ b))) := by
  show (if _ then _ else _) = _
  rw [if_pos h]
theorem eq_ii (i j : Int) : eqS S (.int i) (.int j) = some (decide (i = j)) := by
  simp only [eqS, top, okd, py, PyData.eqv, Bool.and_self, if_true]
  rw [show (i == j) = decide (i = j) from by rw [Bool.eq_iff_iff, beq_iff_eq, decide_eq_true_eq]]
theorem sOf_beq (a b : List Nat) : (sOf a == sOf b) = decide (a = b) := SX.S_beq_eq
theorem eq_ss (a b : List Nat) : eqS S (.str a) (.str b) = some (decide (a = b)) := by
  simp only [eqS, top, okd, py, PyData.eqv, Bool.and_self, if_true]
  rw [← sOf_beq]
theorem lt_ii (i j : Int) : ltS S (.int i) (.int j) = some (decide (i < j)) := by
  simp only [ltS, top, okd, py, PySem.W.alike, notNone, Bool.and_self, if_true, PySem.W.dataLt_int]
theorem lt_ss (a b : List Nat) : ltS S (.str a) (.str b) = some (decide (a < b)) := by
  simp only [ltS, top, okd, py, PySem.W.alike, notNone, Bool.and_self, if_true, PySem.W.dataLt_str]
theorem isi_non_int : bltS .isinst [.non, .ty "int"] S = some (.val (.bl false)) := by
  simp [bltS, isinstS, tyOf, knownTy, isTy]
theorem isi_non_str : bltS .isinst [.non, .ty "str"] S = some (.val (.bl false)) := by
  simp [bltS, isinstS, tyOf, knownTy, isTy]
theorem isi_non_tuple : bltS .isinst [.non, .ty "tuple"] S = some (.val (.bl false)) := by
  simp [bltS, isinstS, tyOf, knownTy, isTy]
theorem isi_non_list : bltS .isinst [.non, .ty "list"] S = some (.val (.bl false)) := by
  simp [bltS, isinstS, tyOf, knownTy, isTy]
theorem isi_non_dict : bltS .isinst [.non, .ty "dict"] S = some (.val (.bl false)) := by
  simp [bltS, isinstS, tyOf, knownTy, isTy]
theorem isi_non_bool : bltS .isinst [.non, .ty "bool"] S = some (.val (.bl false)) := by
  simp [bltS, isinstS, tyOf, knownTy, isTy]
theorem isi_bl_int (b : Bool) : bltS .isinst [(.bl b), .ty "int"] S = some (.val (.bl true)) := by
  simp [bltS, isinstS, tyOf, knownTy, isTy]
theorem isi_bl_str (b : Bool) : bltS .isinst [(.bl b), .ty "str"] S = some (.val (.bl false)) := by
  simp [bltS, isinstS, tyOf, knownTy, isTy]
theorem isi_bl_tuple (b : Bool) : bltS .isinst [(.bl b), .ty "tuple"] S = some (.val (.bl false)) := by
  simp [bltS, isinstS, tyOf, knownTy, isTy]
theorem isi_bl_list (b : Bool) : bltS .isinst [(.bl b), .ty "list"] S = some (.val (.bl false)) := by
  simp [bltS, isinstS, tyOf, knownTy, isTy]
theorem isi_bl_dict (b : Bool) : bltS .isinst [(.bl b), .ty "dict"] S = some (.val (.bl false)) := by
  simp [bltS, isinstS, tyOf, knownTy, isTy]
theorem isi_bl_bool (b : Bool) : bltS .isinst [(.bl b), .ty "bool"] S = some (.val (.bl true)) := by
  simp [bltS, isinstS, tyOf, knownTy, isTy]
theorem isi_int_int (i : Int) : bltS .isinst [(.int i), .ty "int"] S = some (.val (.bl true)) := by
  simp [bltS, isinstS, tyOf, knownTy, isTy]
theorem isi_int_str (i : Int) : bltS .isinst [(.int i), .ty "str"] S = some (.val (.bl false)) := by
  simp [bltS, isinstS, tyOf, knownTy, isTy]
theorem isi_int_tuple (i : Int) : bltS .isinst [(.int i), .ty "tuple"] S = some (.val (.bl false)) := by
  simp [bltS, isinstS, tyOf, knownTy, isTy]
theorem isi_int_list (i : Int) : bltS .isinst [(.int i), .ty "list"] S = some (.val (.bl false)) := by
  simp [bltS, isinstS, tyOf, knownTy, isTy]
theorem isi_int_dict (i : Int) : bltS .isinst [(.int i), .ty "dict"] S = some (.val (.bl false)) := by
  simp [bltS, isinstS, tyOf, knownTy, isTy]
theorem isi_int_bool (i : Int) : bltS .isinst [(.int i), .ty "bool"] S = some (.val (.bl false)) := by
  simp [bltS, isinstS, tyOf, knownTy, isTy]
theorem isi_str_int (c : List Nat) : bltS .isinst [(.str c), .ty "int"] S = some (.val (.bl false)) := by
  simp [bltS, isinstS, tyOf, knownTy, isTy]
theorem isi_str_str (c : List Nat) : bltS .isinst [(.str c), .ty "str"] S = some (.val (.bl true)) := by
  simp [bltS, isinstS, tyOf, knownTy, isTy]
theorem isi_str_tuple (c : List Nat) : bltS .isinst [(.str c), .ty "tuple"] S = some (.val (.bl false)) := by
  simp [bltS, isinstS, tyOf, knownTy, isTy]
theorem isi_str_list (c : List Nat) : bltS .isinst [(.str c), .ty "list"] S = some (.val (.bl false)) := by
  simp [bltS, isinstS, tyOf, knownTy, isTy]
theorem isi_str_dict (c : List Nat) : bltS .isinst [(.str c), .ty "dict"] S = some (.val (.bl false)) := by
  simp [bltS, isinstS, tyOf, knownTy, isTy]
theorem isi_str_bool (c : List Nat) : bltS .isinst [(.str c), .ty "bool"] S = some (.val (.bl false)) := by
  simp [bltS, isinstS, tyOf, knownTy, isTy]
theorem isi_tup_int (xs : List D) : bltS .isinst [(.tup xs), .ty "int"] S = some (.val (.bl false)) := by
  simp [bltS, isinstS, tyOf, knownTy, isTy]
theorem isi_tup_str (xs : List D) : bltS .isinst [(.tup xs), .ty "str"] S = some (.val (.bl false)) := by
  simp [bltS, isinstS, tyOf, knownTy, isTy]
theorem isi_tup_tuple (xs : List D) : bltS .isinst [(.tup xs), .ty "tuple"] S = some (.val (.bl true)) := by
  simp [bltS, isinstS, tyOf, knownTy, isTy]
theorem isi_tup_list (xs : List D) : bltS .isinst [(.tup xs), .ty "list"] S = some (.val (.bl false)) := by
  simp [bltS, isinstS, tyOf, knownTy, isTy]
theorem isi_tup_dict (xs : List D) : bltS .isinst [(.tup xs), .ty "dict"] S = some (.val (.bl false)) := by
  simp [bltS, isinstS, tyOf, knownTy, isTy]
theorem isi_tup_bool (xs : List D) : bltS .isinst [(.tup xs), .ty "bool"] S = some (.val (.bl false)) := by
  simp [bltS, isinstS, tyOf, knownTy, isTy]
theorem isi_lv_int (xs : List D) : bltS .isinst [(.lv xs), .ty "int"] S = some (.val (.bl false)) := by
  simp [bltS, isinstS, tyOf, knownTy, isTy]
theorem isi_lv_str (xs : List D) : bltS .isinst [(.lv xs), .ty "str"] S = some (.val (.bl false)) := by
  simp [bltS, isinstS, tyOf, knownTy, isTy]
theorem isi_lv_tuple (xs : List D) : bltS .isinst [(.lv xs), .ty "tuple"] S = some (.val (.bl false)) := by
  simp [bltS, isinstS, tyOf, knownTy, isTy]
theorem isi_lv_list (xs : List D) : bltS .isinst [(.lv xs), .ty "list"] S = some (.val (.bl true)) := by
  simp [bltS, isinstS, tyOf, knownTy, isTy]
theorem isi_lv_dict (xs : List D) : bltS .isinst [(.lv xs), .ty "dict"] S = some (.val (.bl false)) := by
  simp [bltS, isinstS, tyOf, knownTy, isTy]
theorem isi_lv_bool (xs : List D) : bltS .isinst [(.lv xs), .ty "bool"] S = some (.val (.bl false)) := by
  simp [bltS, isinstS, tyOf, knownTy, isTy]
theorem isi_dv_int (ks : List DK) (vs : List D) : bltS .isinst [(.dv false ks vs), .ty "int"] S = some (.val (.bl false)) := by
  simp [bltS, isinstS, tyOf, knownTy, isTy]
theorem isi_dv_str (ks : List DK) (vs : List D) : bltS .isinst [(.dv false ks vs), .ty "str"] S = some (.val (.bl false)) := by
  simp [bltS, isinstS, tyOf, knownTy, isTy]
theorem isi_dv_tuple (ks : List DK) (vs : List D) : bltS .isinst [(.dv false ks vs), .ty "tuple"] S = some (.val (.bl false)) := by
  simp [bltS, isinstS, tyOf, knownTy, isTy]
theorem isi_dv_list (ks : List DK) (vs : List D) : bltS .isinst [(.dv false ks vs), .ty "list"] S = some (.val (.bl false)) := by
  simp [bltS, isinstS, tyOf, knownTy, isTy]
theorem isi_dv_dict (ks : List DK) (vs : List D) : bltS .isinst [(.dv false ks vs), .ty "dict"] S = some (.val (.bl true)) := by
  simp [bltS, isinstS, tyOf, knownTy, isTy]
theorem isi_dv_bool (ks : List DK) (vs : List D) : bltS .isinst [(.dv false ks vs), .ty "bool"] S = some (.val (.bl false)) := by
  simp [bltS, isinstS, tyOf, knownTy, isTy]
theorem isi_scr_int (ns : List Int) : bltS .isinst [(.scr ns), .ty "int"] S = some (.val (.bl false)) := by
  simp [bltS, isinstS, tyOf, knownTy, isTy]
theorem isi_scr_str (ns : List Int) : bltS .isinst [(.scr ns), .ty "str"] S = some (.val (.bl false)) := by
  simp [bltS, isinstS, tyOf, knownTy, isTy]
theorem isi_scr_tuple (ns : List Int) : bltS .isinst [(.scr ns), .ty "tuple"] S = some (.val (.bl false)) := by
  simp [bltS, isinstS, tyOf, knownTy, isTy]
theorem isi_scr_list (ns : List Int) : bltS .isinst [(.scr ns), .ty "list"] S = some (.val (.bl true)) := by
  simp [bltS, isinstS, tyOf, knownTy, isTy]
theorem isi_scr_dict (ns : List Int) : bltS .isinst [(.scr ns), .ty "dict"] S = some (.val (.bl false)) := by
  simp [bltS, isinstS, tyOf, knownTy, isTy]
theorem isi_scr_bool (ns : List Int) : bltS .isinst [(.scr ns), .ty "bool"] S = some (.val (.bl false)) := by
  simp [bltS, isinstS, tyOf, knownTy, isTy]
theorem b_len_s {c : List Nat} (h : c.length ≤ line) : bltS .len [.str c] S = some (.val (.int c.length)) := by
  show (if _ then _ else _) = _
  rw [if_pos h]
theorem b_len_t (xs : List D) : bltS .len [.tup xs] S = some (.val (.int xs.length)) := rfl
theorem b_len_l (xs : List D) : bltS .len [.lv xs] S = some (.val (.int xs.length)) := rfl
theorem b_abs (i : Int) : bltS .abs [.int i] S = some (.val (.int (if i < 0 then -i else i))) := rfl
theorem b_int (i : Int) : bltS .int [.int i] S = some (.val (.int i)) := rfl
theorem b_tuple_l (xs : List D) : bltS .tuple [.lv xs] S = some (.val (.tup xs)) := rfl
theorem b_list_t (xs : List D) : bltS .list [.tup xs] S = some (.new (.lv xs)) := rfl
theorem b_list_l (xs : List D) : bltS .list [.lv xs] S = some (.new (.lv xs)) := rfl
theorem b_list_s {c : List Nat} (h : c.length ≤ line) : bltS .list [.str c] S = some (.new (.lv (c.map fun c => .str [c]))) := by
  show (if _ then _ else _) = _
  rw [if_pos h]
theorem b_all (bs : List Bool) : bltS .all [.lv (bs.map .bl)] S = some (.val (.bl (bs.all id))) := by
  show ((some (bs.map D.bl)).bind fun xs => (boolsOf xs).map fun bs => PR.val (.bl (bs.all id))) = _
  rw [Option.bind_some, boolsOf_map]
  rfl
theorem b_any (bs : List Bool) : bltS .any [.lv (bs.map .bl)] S = some (.val (.bl (bs.any id))) := by
  show ((some (bs.map D.bl)).bind fun xs => (boolsOf xs).map fun bs => PR.val (.bl (bs.any id))) = _
  rw [Option.bind_some, boolsOf_map]
  rfl
theorem b_sum (ns : List Int) : bltS .sum [.lv (ns.map .int)] S = some (.val (.int ns.sum)) := by
  show ((some (ns.map D.int)).bind fun xs => (intsOf xs).map fun bs => PR.val (.int bs.sum)) = _
  rw [Option.bind_some, intsOf_map]
  rfl
theorem m_join_l {a : List Nat} {l : List (List Nat)} (h : (l.map (·.length)).sum + l.length * a.length ≤ line) : mthS .join (.str a) [.lv (l.map .str)] S = some (.str (joinL a l), S) := by
  show ((some (l.map D.str)).bind fun xs => (strsOf xs).bind fun ys => if (ys.map (·.length)).sum + ys.length * a.length ≤ line then some (D.str (joinL a ys), S) else none) = _
  rw [Option.bind_some, strsOf_map, Option.bind_some, if_pos h]
theorem m_count (a : List Nat) (c : Nat) : mthS .count (.str a) [.str [c]] S = some (.int (a.count c : Nat), S) := rfl
theorem i_tup (xs : List D) (j : Int) : itemS (.tup xs) (.int j) S = atI xs j := rfl
theorem i_lv (xs : List D) (j : Int) : itemS (.lv xs) (.int j) S = atI xs j := rfl
theorem i_str {c : List Nat} (j : Int) (h : c.length ≤ line) : itemS (.str c) (.int j) S = (atI c j).map fun c => .str [c] := by
  show (if _ then _ else _) = _
  rw [if_pos h]
theorem atI_0 {α : Type} (xs : List α) : atI xs 0 = xs[0]? := atI_nat' (i := 0)
theorem atI_1 {α : Type} (xs : List α) : atI xs 1 = xs[1]? := atI_nat' (i := 1)
theorem atI_2 {α : Type} (xs : List α) : atI xs 2 = xs[2]? := atI_nat' (i := 2)
theorem atI_3 {α : Type} (xs : List α) : atI xs 3 = xs[3]? := atI_nat' (i := 3)
theorem atI_4 {α : Type} (xs : List α) : atI xs 4 = xs[4]? := atI_nat' (i := 4)
theorem mem_s (c : Nat) (z : List Nat) : memS S (.str [c]) (.str z) = some (decide (c ∈ z)) := rfl
theorem ty_str (c : List Nat) : (tyOf S (.str c) = some (mthTy .join)) = True := by simp [tyOf, mthTy]
theorem ty_count (c : List Nat) : (tyOf S (.str c) = some (mthTy .count)) = True := by simp [tyOf, mthTy]
end
theorem flat_single {α β : Type} (f : α → β) : ∀ l : List α, (l.map fun x => [f x]).flatten = l.map f
  | [] => rfl
  | a :: l => by rw [List.map_cons, List.flatten_cons, flat_single f l]; rfl
theorem sum_single {α β : Type} (f : α → β) : ∀ l : List α, ((l.map fun x => [f x]).map (·.length)).sum = l.length
  | [] => rfl
  | a :: l => by
    rw [List.map_cons, List.map_cons, List.sum_cons, sum_single f l, List.length_cons]
    exact Nat.add_comm _ _
theorem range_1 {j : Int} (h : -1000000 ≤ j ∧ j ≤ 1000000) : rangeS [.int j] = some (intL 0 j.toNat) := by
  unfold rangeS
  simp only
  rw [if_pos (by omega)]
theorem range_2 {i j : Int} (h : -1000000 ≤ i ∧ i ≤ 1000000) (k : -1000000 ≤ j ∧ j ≤ 1000000) : rangeS [.int i, .int j] = some (intL i (j - i).toNat) := by
  unfold rangeS
  simp only
  rw [if_pos (by omega)]
/-- a for over a fixed list, by what holds behind so many turns -/
theorem forFix_inv {β : Type} {g : Tg} {b : Env → Store → Option (Fl × Store)} {φ : β → D} (I : Nat → Env → Store → Prop) : ∀ (L : List β) (i : Nat) (ρ : Env) (S : Store), I i ρ S →
    (∀ (j : Nat) (x : β) (ρ : Env) (S : Store), L[j]? = some x → I (i + j) ρ S → ∃ ρ1 ρ2 S2, bindTg g (φ x) ρ = some ρ1 ∧ (b ρ1 S = some (.nx ρ2, S2) ∨ b ρ1 S = some (.ct ρ2, S2)) ∧ I (i + j + 1) ρ2 S2) →
    ∃ ρ' S', forFix g b (L.map φ) ρ S = some (.nx ρ', S') ∧ I (i + L.length) ρ' S'
  | [], i, ρ, S, h, _ => ⟨ρ, S, rfl, h⟩
  | x :: L, i, ρ, S, h, hs => by
    obtain ⟨ρ1, ρ2, S2, h1, h2, h3⟩ := hs 0 x ρ S rfl h
    obtain ⟨ρ', S', e, h4⟩ := forFix_inv I L (i + 1) ρ2 S2 h3 fun j y ρ S hj hI => by
      have := hs (j + 1) y ρ S hj (by rw [show i + (j + 1) = i + 1 + j from by omega]; exact hI)
      rw [show i + (j + 1) + 1 = i + 1 + j + 1 from by omega] at this
      exact this
    refine ⟨ρ', S', ?_, ?_⟩
    · rw [List.map_cons, forFix, h1, Option.bind_some]
      rcases h2 with h2 | h2
      · rw [h2, Option.bind_some]
        exact e
      · rw [h2, Option.bind_some]
        exact e
    · rw [List.length_cons, show i + (L.length + 1) = i + 1 + L.length from by omega]
      exact h4
/-- a walk over a list in the store that the turns leave as it is -/
theorem runG_pure {α β : Type} {l : Nat} {f : D → Store → Option (Option α × Store)} {φ : β → D} {g : β → Option α} {S : Store} {L : List β} (hS : S[l]? = some (.lv (L.map φ))) (h : ∀ b ∈ L, f (φ b) S = some (g b, S)) :
    ∀ (k n i : Nat), i + k = L.length → k < n → runG (nxD l) f n i S = some ((L.drop i).filterMap g, S)
  | 0, 0, i, _, hn => absurd hn (Nat.lt_irrefl _)
  | 0, n + 1, i, hi, _ => by
    have e : (L.map φ)[i]? = none := List.getElem?_eq_none (by rw [List.length_map]; omega)
    unfold runG
    simp only [nxD, hS, e]
    rw [List.drop_eq_nil_of_le (by omega)]
    rfl
  | k + 1, 0, i, _, hn => absurd hn (Nat.not_lt_zero _)
  | k + 1, n + 1, i, hi, hn => by
    have hlt : i < L.length := by omega
    have e : (L.map φ)[i]? = some (φ L[i]) := by rw [List.getElem?_map, List.getElem?_eq_getElem hlt]; rfl
    unfold runG
    simp only [nxD, hS, e, h _ (List.getElem_mem hlt), Option.bind_some]
    rw [runG_pure hS h k n (i + 1) (by omega) (by omega), List.drop_eq_getElem_cons hlt]
    simp only [Option.map_some, List.filterMap_cons]
    cases g L[i] <;> rfl
theorem lc_dyn {fu : Nat} {Φ : Calls} {ρ : Env} {S S1 : Store} {elt : E} {g : Tg} {vs : List Nat} {it : It} {c : Es} {β : Type} {L : List β} {φ : β → D} {l : Nat} (p : β → Bool) (g' : β → D) (h1 : evI fu Φ it ρ S = some (.dyn l, S1)) (hS : S1[l]? = some (.lv (L.map φ)))
    (h2 : ∀ b ∈ L, turnF g vs (evT fu Φ c) (ev fu Φ elt) ρ (φ b) S1 = some (if p b then some (g' b) else none, S1)) (h3 : L.length ≤ line) (h4 : L.length < fu) :
    ev fu Φ (.lc false elt g vs it c) ρ S = some (.lv ((L.filter p).map g'), S1) := by
  have hr := runG_pure (g := fun b => if p b then some (g' b) else none) hS h2 L.length fu 0 (Nat.zero_add _) h4
  have e : (L.drop 0).filterMap (fun b => if p b then some (g' b) else none) = (L.filter p).map g' := by
    rw [List.drop_zero]
    clear hr hS h2 h3 h4
    induction L with
    | nil => rfl
    | cons x L ih =>
      rw [List.filterMap_cons, List.filter_cons]
      cases p x <;> simp [ih]
  rw [e] at hr
  show ((evI fu Φ it ρ S).bind fun w => (runW fu (turnF g vs (evT fu Φ c) (ev fu Φ elt) ρ) w.1 w.2).bind fun r => if r.1.length ≤ line then some (fin false (.new (.lv r.1)) r.2) else none) = _
  rw [h1]
  have hl : ((L.filter p).map g').length ≤ line := by rw [List.length_map]; exact Nat.le_trans (List.length_filter_le _ _) h3
  simp only [Option.bind_some, runW, hr, hl, if_true]
  rfl
/-! ### things in the store -/
section
variable {S : Store} {l : Nat} {xs : List D}
theorem get_last (S : Store) (x : D) : (S ++ [x])[S.length]? = some x := by simp
theorem set_last (S : Store) (x y : D) : (S ++ [x]).set S.length y = S ++ [y] := by
  rw [List.set_append_right _ _ (Nat.le_refl _), Nat.sub_self]
  rfl
theorem b_len_ref (h : S[l]? = some (.lv xs)) : bltS .len [.ref l] S = some (.val (.int xs.length)) := by
  simp only [bltS, asSq, asL, h]
theorem i_ref (h : S[l]? = some (.lv xs)) (j : Int) : itemS (.ref l) (.int j) S = atI xs j := by
  simp only [itemS, asL, h]
theorem set_ref (h : S[l]? = some (.lv xs)) {j : Int} {n : Nat} (hj : ixN xs.length j = some n) (v : D) : setS (.ref l) (.int j) v S = some (S.set l (.lv (xs.set n v))) := by
  simp only [setS, h, hj, Option.map_some]
theorem app_ref (h : S[l]? = some (.lv xs)) (hl : xs.length < line) (x : D) : mthS .append (.ref l) [x] S = some (.non, S.set l (.lv (xs ++ [x]))) := by
  simp only [mthS, h, hl, if_true]
theorem ext_ref (h : S[l]? = some (.lv xs)) {ys : List D} (hl : xs.length + ys.length ≤ line) : mthS .extend (.ref l) [.lv ys] S = some (.non, S.set l (.lv (xs ++ ys))) := by
  simp only [mthS, h, asL, hl, if_true]
theorem ty_ref (h : S[l]? = some (.lv xs)) : tyOf S (.ref l) = some "list" := by
  simp only [tyOf, h]
theorem b_tuple_ref (h : S[l]? = some (.lv xs)) : bltS .tuple [.ref l] S = some (.val (.tup xs)) := by
  simp only [bltS, asSq, asL, h, Option.map_some]
theorem w_ref (h : S[l]? = some (.lv xs)) : walkOf S (.ref l) = some (.dyn l) := by
  simp only [walkOf, h]
theorem ixN_last {n : Nat} (h : 0 < n) : ixN n (-1) = some (n - 1) := by
  unfold ixN
  rw [if_neg (by omega), if_pos (by omega)]
  congr 1
  omega
theorem atI_last' {α : Type} (xs : List α) (x : α) : atI (xs ++ [x]) (-1) = some x := by
  unfold atI
  rw [ixN_last (by simp)]
  simp
end
theorem ev_op {fu : Nat} {Φ : Calls} {ρ : Env} {S S1 S2 : Store} {o : Op2} {a b : E} {x y z : D} (h1 : ev fu Φ a ρ S = some (x, S1)) (h2 : ev fu Φ b ρ S1 = some (y, S2)) (h3 : opS o x y S2 = some (.val z)) : ev fu Φ (.op o a b) ρ S = some (z, S2) := by
  show ((ev fu Φ a ρ S).bind fun x => (ev fu Φ b ρ x.2).bind fun y => (opS o x.1 y.1 y.2).map fun r => fin false r y.2) = _
  rw [h1, Option.bind_some, h2, Option.bind_some, h3]
  rfl
theorem ev_sub {fu : Nat} {Φ : Calls} {ρ : Env} {S S1 S2 : Store} {a b : E} {x y z : D} (h1 : ev fu Φ a ρ S = some (x, S1)) (h2 : ev fu Φ b ρ S1 = some (y, S2)) (h3 : itemS x y S2 = some z) : ev fu Φ (.sub a b) ρ S = some (z, S2) := by
  show ((ev fu Φ a ρ S).bind fun x => (ev fu Φ b ρ x.2).bind fun y => (itemS x.1 y.1 y.2).map fun d => (d, y.2)) = _
  rw [h1, Option.bind_some, h2, Option.bind_some, h3]
  rfl
theorem ev_blt1 {fu : Nat} {Φ : Calls} {ρ : Env} {S S1 : Store} {b : Blt} {a : E} {x z : D} (h1 : ev fu Φ a ρ S = some (x, S1)) (h3 : bltS b [x] S1 = some (.val z)) : ev fu Φ (.blt b false (.cons a .nil)) ρ S = some (z, S1) := by
  show ((evs fu Φ (.cons a .nil) ρ S).bind fun x => (bltS b x.1 x.2).map fun r => fin false r x.2) = _
  rw [evs_one h1, Option.bind_some, h3]
  rfl
end Pd

namespace Pd
open PySem PySem.Spec PyProof.Rows L2
def d_is_integer : Fn := ⟨"is_integer", ["thing"], ["thing"],
  .seq (.ret (.and (.blt .isinst false (.cons (.var 0) (.cons (.ty "int") .nil))) (.not (.blt .isinst false (.cons (.var 0) (.cons (.ty "bool") .nil)))))) .skip⟩
def d_is_within : Fn := ⟨"is_within", ["thing", "least", "most"], ["thing", "least", "most"],
  .seq (.ret (.and (.call "is_integer" (.cons (.var 0) .nil)) (.chain .le .le (.var 1) (.var 0) (.var 2)))) .skip⟩
def d_is_sized : Fn := ⟨"is_sized", ["thing", "least", "most"], ["thing", "least", "most"],
  .seq (.ret (.and (.blt .isinst false (.cons (.var 0) (.cons (.ty "tuple") .nil))) (.chain .le .le (.var 1) (.blt .len false (.cons (.var 0) .nil)) (.var 2)))) .skip⟩
def d_is_row_of_c1 : E := .lc false (.or (.cmp .eq (.var 2) (.gv "GAP" (.str [45]))) (.cmp .mem (.var 2) (.gv "LETTERS" (.str [97, 98, 99, 100, 101, 102, 103, 104, 105, 106, 107, 108, 109, 110, 111, 112, 113, 114, 115, 116, 117, 118, 119, 120, 121, 122])))) (.nm 2) [2] (.of (.var 0)) (.nil)
def d_is_row_of : Fn := ⟨"is_row_of", ["thing", "many"], ["thing", "many", "sign"],
  .seq (.ite (.or (.not (.blt .isinst false (.cons (.var 0) (.cons (.ty "str") .nil)))) (.cmp .ne (.blt .len false (.cons (.var 0) .nil)) (.var 1))) (.seq (.ret (.bl false)) .skip) (.skip)) (.seq (.ret (.blt .all false (.cons (d_is_row_of_c1) .nil))) .skip)⟩
def d_are_rows_c1 : E := .lc false (.call "is_row_of" (.cons (.var 1) (.cons (.blt .len false (.cons (.sub (.var 0) (.int 0)) .nil)) .nil))) (.nm 1) [1] (.of (.var 0)) (.nil)
def d_are_rows : Fn := ⟨"are_rows", ["thing"], ["thing", "row"],
  .seq (.ite (.or (.not (.call "is_sized" (.cons (.var 0) (.cons (.int 1) (.cons (.gv "MOST_ROWS" (.int (6))) .nil))))) (.or (.not (.blt .isinst false (.cons (.sub (.var 0) (.int 0)) (.cons (.ty "str") .nil)))) (.not (.chain .le .le (.int 1) (.blt .len false (.cons (.sub (.var 0) (.int 0)) .nil)) (.gv "MOST_SIGNS" (.int (12))))))) (.seq (.ret (.bl false)) .skip) (.skip)) (.seq (.ret (.blt .all false (.cons (d_are_rows_c1) .nil))) .skip)⟩
def d_check_rows : Fn := ⟨"check_rows", ["thing"], ["thing"],
  .seq (.ite (.not (.call "are_rows" (.cons (.var 0) .nil))) (.seq (.never) .skip) (.skip)) .skip⟩
def d_check_place : Fn := ⟨"check_place", ["rows", "place"], ["rows", "place"],
  .seq (.ex (.call "check_rows" (.cons (.var 0) .nil))) (.seq (.ite (.not (.call "is_within" (.cons (.var 1) (.cons (.int 0) (.cons (.op .sub (.blt .len false (.cons (.sub (.var 0) (.int 0)) .nil)) (.int 1)) .nil))))) (.seq (.never) .skip) (.skip)) .skip)⟩
def d_raw_column_c1 : E := .lc false (.sub (.var 2) (.var 1)) (.nm 2) [2] (.of (.var 0)) (.nil)
def d_raw_column : Fn := ⟨"raw_column", ["rows", "place"], ["rows", "place", "row"],
  .seq (.ret (.mth .join (.str []) (.cons (d_raw_column_c1) .nil))) .skip⟩
def d_column : Fn := ⟨"column", ["rows", "place"], ["rows", "place"],
  .seq (.ex (.call "check_place" (.cons (.var 0) (.cons (.var 1) .nil)))) (.seq (.ret (.call "raw_column" (.cons (.var 0) (.cons (.var 1) .nil)))) .skip)⟩
def d_raw_counts_c1 : E := .dc false (.var 1) (.mth .count (.var 0) (.cons (.var 1) .nil)) (.nm 1) [1] (.of (.var 0)) (.nil)
def d_raw_counts : Fn := ⟨"raw_counts", ["text"], ["text", "sign"],
  .seq (.ret (d_raw_counts_c1)) .skip⟩
def d_counts_at : Fn := ⟨"counts_at", ["rows", "place"], ["rows", "place"],
  .seq (.ex (.call "check_place" (.cons (.var 0) (.cons (.var 1) .nil)))) (.seq (.ret (.call "raw_counts" (.cons (.call "raw_column" (.cons (.var 0) (.cons (.var 1) .nil))) .nil))) .skip)⟩
def d_every_place : Fn := ⟨"every_place", ["rows"], ["rows"],
  .seq (.ret (.lrg1 false (.blt .len false (.cons (.sub (.var 0) (.int 0)) .nil)))) .skip⟩
def d_most_of_c1 : E := .lc false (.tup (.cons (.neg (.sub (.var 1) (.var 2))) (.cons (.var 2) .nil))) (.nm 2) [2] (.of (.var 1)) (.nil)
def d_most_of : Fn := ⟨"most_of", ["text"], ["text", "told", "sign"],
  .seq (.set 1 (.call "raw_counts" (.cons (.var 0) .nil))) (.seq (.ret (.sub (.blt .min false (.cons (d_most_of_c1) .nil)) (.int 1))) .skip)⟩
def d_most_at_c1 : E := .lc false (.call "most_of" (.cons (.call "raw_column" (.cons (.var 0) (.cons (.var 1) .nil))) .nil)) (.nm 1) [1] (.of (.call "every_place" (.cons (.var 0) .nil))) (.nil)
def d_most_at : Fn := ⟨"most_at", ["rows"], ["rows", "place"],
  .seq (.ex (.call "check_rows" (.cons (.var 0) .nil))) (.seq (.ret (.mth .join (.str []) (.cons (d_most_at_c1) .nil))) .skip)⟩
def d_is_alike : Fn := ⟨"is_alike", ["text"], ["text"],
  .seq (.ret (.and (.cmp .ne (.sub (.var 0) (.int 0)) (.gv "GAP" (.str [45]))) (.cmp .eq (.mth .count (.var 0) (.cons (.sub (.var 0) (.int 0)) .nil)) (.blt .len false (.cons (.var 0) .nil))))) .skip⟩
def d_raw_alike_c1 : E := .lc false (.var 1) (.nm 1) [1] (.of (.call "every_place" (.cons (.var 0) .nil))) (.cons (.call "is_alike" (.cons (.call "raw_column" (.cons (.var 0) (.cons (.var 1) .nil))) .nil)) .nil)
def d_raw_alike : Fn := ⟨"raw_alike", ["rows"], ["rows", "place"],
  .seq (.ret (d_raw_alike_c1)) .skip⟩
def d_alike_places : Fn := ⟨"alike_places", ["rows"], ["rows"],
  .seq (.ex (.call "check_rows" (.cons (.var 0) .nil))) (.seq (.ret (.blt .tuple false (.cons (.call "raw_alike" (.cons (.var 0) .nil)) .nil))) .skip)⟩
def d_stretches_alike_c1 : E := .lc false (.tup (.cons (.var 4) (.cons (.var 5) .nil))) (.tp [4, 5]) [4, 5] (.of (.var 2)) (.cons (.cmp .ge (.op .sub (.var 5) (.var 4)) (.var 1)) .nil)
def d_stretches_alike_b1 : T := .seq (.ite (.and (.cmp .gt (.blt .len false (.cons (.var 2) .nil)) (.int 0)) (.cmp .eq (.sub (.sub (.var 2) (.neg (.int 1))) (.int 1)) (.var 3))) (.seq (.setI (.var 2) (.neg (.int 1)) (.tup (.cons (.sub (.sub (.var 2) (.neg (.int 1))) (.int 0)) (.cons (.op .add (.var 3) (.int 1)) .nil)))) .skip) (.seq (.ex (.mth .append (.var 2) (.cons (.tup (.cons (.var 3) (.cons (.op .add (.var 3) (.int 1)) .nil))) .nil))) .skip)) .skip
def d_stretches_alike : Fn := ⟨"stretches_alike", ["rows", "size"], ["rows", "size", "found", "place", "begin", "end"],
  .seq (.ex (.call "check_rows" (.cons (.var 0) .nil))) (.seq (.ite (.not (.call "is_within" (.cons (.var 1) (.cons (.int 1) (.cons (.gv "MOST_SIGNS" (.int (12))) .nil))))) (.seq (.never) .skip) (.skip)) (.seq (.set 2 (.lst true (.nil))) (.seq (.loop (.nm 3) (.of (.call "raw_alike" (.cons (.var 0) .nil))) (d_stretches_alike_b1)) (.seq (.ret (.blt .tuple false (.cons (d_stretches_alike_c1) .nil))) .skip))))⟩
def d_far_sum_o1 : E := .op .sub (.op .fdiv (.op .mul (.blt .len false (.cons (.var 0) .nil)) (.op .sub (.blt .len false (.cons (.var 0) .nil)) (.int 1))) (.int 2)) (.var 4)
def d_far_sum_o2 : E := .op .fdiv (.op .mul (.sub (.var 3) (.var 5)) (.op .sub (.sub (.var 3) (.var 5)) (.int 1))) (.int 2)
def d_far_sum_c1 : E := .lc false (d_far_sum_o2) (.nm 5) [5] (.of (.var 3)) (.nil)
def d_far_sum_b1 : T := .seq (.set 3 (.call "raw_counts" (.cons (.call "raw_column" (.cons (.var 0) (.cons (.var 2) .nil))) .nil))) (.seq (.set 4 (.blt .sum false (.cons (d_far_sum_c1) .nil))) (.seq (.aug 1 .add (d_far_sum_o1)) .skip))
def d_far_sum : Fn := ⟨"far_sum", ["rows"], ["rows", "found", "place", "told", "alike", "sign"],
  .seq (.ex (.call "check_rows" (.cons (.var 0) .nil))) (.seq (.set 1 (.int 0)) (.seq (.loop (.nm 2) (.of (.call "every_place" (.cons (.var 0) .nil))) (d_far_sum_b1)) (.seq (.ret (.var 1)) .skip)))⟩
def d_gap_places_c1 : E := .lc false (.var 2) (.nm 2) [2] (.of (.call "every_place" (.cons (.var 0) .nil))) (.cons (.cmp .eq (.sub (.sub (.var 0) (.var 1)) (.var 2)) (.gv "GAP" (.str [45]))) .nil)
def d_gap_places : Fn := ⟨"gap_places", ["rows", "row"], ["rows", "row", "place"],
  .seq (.ex (.call "check_rows" (.cons (.var 0) .nil))) (.seq (.ite (.or (.not (.call "is_integer" (.cons (.var 1) .nil))) (.not (.call "is_within" (.cons (.var 1) (.cons (.int 0) (.cons (.op .sub (.blt .len false (.cons (.var 0) .nil)) (.int 1)) .nil)))))) (.seq (.never) .skip) (.skip)) (.seq (.ret (.blt .tuple false (.cons (d_gap_places_c1) .nil))) .skip))⟩
def d_law_hand_c1 : E := .lc false (.blt .abs false (.cons (.blt .int false (.cons (.var 2) .nil)) .nil)) (.nm 2) [2] (.of (.slc (.var 0) (.nil) (.cons (.int 63) .nil))) (.nil)
def d_law_hand : Fn := ⟨"_law_hand", ["script"], ["script", "cells", "cell"],
  .seq (.set 1 (d_law_hand_c1)) (.seq (.ret (.lst true (.cons (.var 1) (.cons (.int 0) (.cons (.int 0) (.cons (.op .add (.int 353) (.blt .len false (.cons (.var 1) .nil))) (.cons (.int 0) .nil))))))) .skip)⟩
def d_law_draw_o1 : E := .op .mod (.blt .int false (.cons (.op .fdiv (.var 2) (.int 16)) .nil)) (.var 1)
def d_law_draw_o2 : E := .op .mod (.blt .int false (.cons (.op .mul (.var 2) (.op .add (.op .fdiv (.var 2) (.int 2003)) (.int 40692))) .nil)) (.int 2147483399)
def d_law_draw_o3 : E := .op .mod (.blt .int false (.cons (.op .mul (.var 2) (.op .add (.op .fdiv (.var 2) (.int 1009)) (.int 69621))) .nil)) (.int 2147483647)
def d_law_draw_o4 : E := .op .mod (.blt .int false (.cons (.op .mul (.blt .int false (.cons (.op .add (.sub (.var 0) (.int 3)) (.op .mul (.int 7919) (.sub (.var 0) (.int 4)))) .nil)) (.int 48271)) .nil)) (.int 2147483647)
def d_law_draw_o5 : E := .op .fdiv (.sub (.var 0) (.int 2)) (.var 1)
def d_law_draw_o6 : E := .op .mod (.blt .int false (.cons (.sub (.var 0) (.int 2)) .nil)) (.var 1)
def d_law_draw_o7 : E := .op .pow (.int 10) (.int 18)
def d_law_draw_o8 : E := .op .mod (.blt .int false (.cons (.op .add (.op .add (.op .mul (.sub (.var 0) (.int 3)) (.int 69621)) (.var 3)) (.int 449)) .nil)) (.int 2147483629)
def d_law_draw : Fn := ⟨"_law_draw", ["hand", "limit"], ["hand", "limit", "number", "cell", "digit"],
  .seq (.ite (.and (.cmp .eq (.sub (.var 0) (.int 2)) (.int 0)) (.cmp .lt (.sub (.var 0) (.int 1)) (.blt .len false (.cons (.sub (.var 0) (.int 0)) .nil)))) (.seq (.set 3 (.sub (.sub (.var 0) (.int 0)) (.sub (.var 0) (.int 1)))) (.seq (.setI (.var 0) (.int 1) (.op .add (.sub (.var 0) (.int 1)) (.int 1))) (.seq (.setI (.var 0) (.int 3) (d_law_draw_o8)) (.seq (.ite (.cmp .ge (.var 3) (d_law_draw_o7)) (.seq (.setI (.var 0) (.int 2) (.var 3)) .skip) (.skip)) .skip)))) (.skip)) (.seq (.ite (.cmp .gt (.sub (.var 0) (.int 2)) (.int 0)) (.seq (.set 4 (d_law_draw_o6)) (.seq (.setI (.var 0) (.int 2) (d_law_draw_o5)) (.seq (.ret (.var 4)) .skip))) (.skip)) (.seq (.setI (.var 0) (.int 4) (.op .add (.sub (.var 0) (.int 4)) (.int 1))) (.seq (.set 2 (d_law_draw_o4)) (.seq (.set 2 (d_law_draw_o3)) (.seq (.set 2 (d_law_draw_o2)) (.seq (.ret (d_law_draw_o1)) .skip))))))⟩
def d_law_some : Fn := ⟨"_law_some", ["hand", "items"], ["hand", "items"],
  .seq (.ret (.sub (.var 1) (.call "_law_draw" (.cons (.var 0) (.cons (.blt .len false (.cons (.var 1) .nil)) .nil))))) .skip⟩
def d_law_is_c1 : E := .lc false (.call "_law_is" (.cons (.var 2) (.cons (.var 3) .nil))) (.tp [2, 3]) [2, 3] (.zip (.var 0) (.var 1)) (.nil)
def d_law_is : Fn := ⟨"_law_is", ["thing", "due"], ["thing", "due", "one", "its"],
  .seq (.ite (.or (.blt .isinst false (.cons (.var 1) (.cons (.ty "tuple") .nil))) (.blt .isinst false (.cons (.var 1) (.cons (.ty "list") .nil)))) (.seq (.ite (.or (.cmp .ne (.blt .isinst false (.cons (.var 1) (.cons (.ty "tuple") .nil))) (.blt .isinst false (.cons (.var 0) (.cons (.ty "tuple") .nil)))) (.cmp .ne (.blt .isinst false (.cons (.var 1) (.cons (.ty "list") .nil))) (.blt .isinst false (.cons (.var 0) (.cons (.ty "list") .nil))))) (.seq (.ret (.bl false)) .skip) (.skip)) (.seq (.ret (.and (.cmp .eq (.blt .len false (.cons (.var 0) .nil)) (.blt .len false (.cons (.var 1) .nil))) (.blt .all false (.cons (d_law_is_c1) .nil)))) .skip)) (.skip)) (.seq (.ite (.or (.blt .isinst false (.cons (.var 1) (.cons (.ty "dict") .nil))) (.blt .isinst false (.cons (.var 0) (.cons (.ty "dict") .nil)))) (.seq (.ret (.and (.blt .isinst false (.cons (.var 1) (.cons (.ty "dict") .nil))) (.and (.blt .isinst false (.cons (.var 0) (.cons (.ty "dict") .nil))) (.cmp .eq (.var 0) (.var 1))))) .skip) (.skip)) (.seq (.ite (.or (.cmp .isN (.var 1) (.non)) (.cmp .isN (.var 0) (.non))) (.seq (.ret (.and (.cmp .isN (.var 1) (.non)) (.cmp .isN (.var 0) (.non)))) .skip) (.skip)) (.seq (.ite (.or (.blt .isinst false (.cons (.var 1) (.cons (.ty "bool") .nil))) (.blt .isinst false (.cons (.var 0) (.cons (.ty "bool") .nil)))) (.seq (.ret (.and (.blt .isinst false (.cons (.var 1) (.cons (.ty "bool") .nil))) (.and (.blt .isinst false (.cons (.var 0) (.cons (.ty "bool") .nil))) (.cmp .eq (.var 0) (.var 1))))) .skip) (.skip)) (.seq (.ite (.or (.blt .isinst false (.cons (.var 1) (.cons (.ty "str") .nil))) (.blt .isinst false (.cons (.var 0) (.cons (.ty "str") .nil)))) (.seq (.ret (.and (.blt .isinst false (.cons (.var 1) (.cons (.ty "str") .nil))) (.and (.blt .isinst false (.cons (.var 0) (.cons (.ty "str") .nil))) (.cmp .eq (.var 0) (.var 1))))) .skip) (.skip)) (.seq (.ret (.and (.blt .isinst false (.cons (.var 0) (.cons (.ty "int") .nil))) (.cmp .eq (.var 0) (.var 1)))) .skip)))))⟩
def d_law_mixed_b1 : T := .seq (.ex (.mth .append (.var 3) (.cons (.mth .popi (.var 2) (.cons (.call "_law_draw" (.cons (.var 0) (.cons (.blt .len false (.cons (.var 2) .nil)) .nil))) .nil)) .nil))) .skip
def d_law_mixed : Fn := ⟨"_law_mixed", ["hand", "things"], ["hand", "things", "remain", "found"],
  .seq (.par [2, 3] (.cons (.blt .list true (.cons (.var 1) .nil)) (.cons (.lst true (.nil)) (.nil)))) (.seq (.whl (.cmp .gt (.blt .len false (.cons (.var 2) .nil)) (.int 0)) (d_law_mixed_b1)) (.seq (.ret (.var 3)) .skip))⟩
def d_law_rows_c1 : E := .lc false (.call "_law_some" (.cons (.var 0) (.cons (.blt .list false (.cons (.var 5) .nil)) .nil))) (.nm 6) [6] (.range (.cons (.var 4) .nil)) (.nil)
def d_law_rows_b1 : T := .seq (.ex (.mth .append (.var 2) (.cons (.mth .join (.str []) (.cons (d_law_rows_c1) .nil)) .nil))) .skip
def d_law_rows : Fn := ⟨"_law_rows", ["hand", "most"], ["hand", "most", "found", "row", "wide", "signs", "sign"],
  .seq (.par [4, 5] (.cons (.op .add (.int 1) (.call "_law_draw" (.cons (.var 0) (.cons (.var 1) .nil)))) (.cons (.call "_law_some" (.cons (.var 0) (.cons (.lst false (.cons (.str [97, 98, 45]) (.cons (.str [97, 45]) (.cons (.str [97, 98, 99, 45]) (.cons (.str [97, 97, 97, 98, 45]) .nil))))) .nil))) (.nil)))) (.seq (.set 2 (.lst true (.nil))) (.seq (.loop (.nm 3) (.range (.cons (.op .add (.int 1) (.call "_law_draw" (.cons (.var 0) (.cons (.int 6) .nil)))) .nil)) (d_law_rows_b1)) (.seq (.ret (.blt .tuple false (.cons (.var 2) .nil))) .skip)))⟩
def d_law_alike_c1 : E := .lc false (.cmp .eq (.sub (.var 4) (.var 3)) (.sub (.sub (.var 0) (.int 0)) (.var 3))) (.nm 4) [4] (.of (.var 0)) (.nil)
def d_law_alike_c2 : E := .lc false (.var 3) (.nm 3) [3] (.of (.var 2)) (.cons (.blt .all false (.cons (d_law_alike_c1) .nil)) .nil)
def d_law_alike_c3 : E := .lc false (.var 3) (.nm 3) [3] (.range (.cons (.var 1) .nil)) (.cons (.cmp .ne (.sub (.sub (.var 0) (.int 0)) (.var 3)) (.str [45])) .nil)
def d_law_alike : Fn := ⟨"_law_alike", ["rows_now"], ["rows_now", "wide", "some", "place", "row"],
  .seq (.set 1 (.blt .len false (.cons (.sub (.var 0) (.int 0)) .nil))) (.seq (.set 2 (d_law_alike_c3)) (.seq (.ret (d_law_alike_c2)) .skip))⟩
def d_law_stretches_b1 : T := .seq (.ite (.and (.cmp .mem (.var 2) (.var 3)) (.cmp .isN (.var 5) (.non))) (.seq (.set 5 (.var 2)) .skip) (.skip)) (.seq (.ite (.and (.cmp .nmem (.var 2) (.var 3)) (.cmp .notN (.var 5) (.non))) (.seq (.ex (.mth .extend (.var 4) (.cons (.ite (.cmp .ge (.op .sub (.var 2) (.var 5)) (.var 1)) (.lst false (.cons (.tup (.cons (.var 5) (.cons (.var 2) .nil))) .nil)) (.lst false (.nil))) .nil))) (.seq (.set 5 (.non)) .skip)) (.skip)) .skip)
def d_law_stretches : Fn := ⟨"_law_stretches", ["rows_now", "size"], ["rows_now", "size", "place", "alike", "found", "begin"],
  .seq (.par [3, 4, 5] (.cons (.call "_law_alike" (.cons (.var 0) .nil)) (.cons (.lst true (.nil)) (.cons (.non) (.nil))))) (.seq (.loop (.nm 2) (.range (.cons (.op .add (.blt .len false (.cons (.sub (.var 0) (.int 0)) .nil)) (.int 1)) .nil)) (d_law_stretches_b1)) (.seq (.ret (.var 4)) .skip))⟩
def d_law_is_right_c1 : E := .lc false (.cmp .mem (.var 2) (.call "alike_places" (.cons (.slc (.var 7) (.nil) (.cons (.op .add (.int 1) (.var 5)) .nil)) .nil))) (.nm 2) [2] (.of (.call "alike_places" (.cons (.var 1) .nil))) (.nil)
def d_law_is_right_c2 : E := .lc false (.var 2) (.nm 2) [2] (.range (.cons (.var 8) .nil)) (.cons (.cmp .eq (.sub (.sub (.var 1) (.var 5)) (.var 2)) (.str [45])) .nil)
def d_law_is_right_c3 : E := .lc false (.int 1) (.tp [16, 17]) [16, 17] (.zip (.var 14) (.var 15)) (.cons (.cmp .ne (.var 16) (.var 17)) .nil)
def d_law_is_right_b1 : T := .seq (.set 4 (.op .add (.var 4) (.blt .len false (.cons (d_law_is_right_c3) .nil)))) .skip
def d_law_is_right_b2 : T := .seq (.loop (.nm 15) (.of (.slc (.var 1) (.cons (.op .add (.var 13) (.int 1)) .nil) (.nil))) (d_law_is_right_b1)) .skip
def d_law_is_right_c4 : E := .lc false (.tup (.cons (.op .sub (.int 0) (.sub (.var 11) (.var 16))) (.cons (.var 16) .nil))) (.nm 16) [16] (.of (.var 11)) (.nil)
def d_law_is_right_c5 : E := .lc false (.tup (.cons (.var 16) (.cons (.mth .count (.var 10) (.cons (.var 16) .nil)) .nil))) (.nm 16) [16] (.of (.var 10)) (.nil)
def d_law_is_right_c6 : E := .lc false (.sub (.var 14) (.var 2)) (.nm 14) [14] (.of (.var 1)) (.nil)
def d_law_is_right_b3 : T := .seq (.set 10 (.mth .join (.str []) (.cons (d_law_is_right_c6) .nil))) (.seq (.set 11 (.blt .dict false (.cons (d_law_is_right_c5) .nil))) (.seq (.set 12 (.call "counts_at" (.cons (.var 1) (.cons (.var 2) .nil)))) (.seq (.ite (.or (.not (.call "_law_is" (.cons (.call "column" (.cons (.var 1) (.cons (.var 2) .nil))) (.cons (.var 10) .nil)))) (.not (.call "_law_is" (.cons (.var 12) (.cons (.var 11) .nil))))) (.seq (.ret (.bl false)) .skip) (.skip)) (.seq (.set 9 (.op .add (.var 9) (.sub (.blt .min false (.cons (d_law_is_right_c4) .nil)) (.int 1)))) .skip))))
def d_law_is_right : Fn := ⟨"_law_is_right", ["hand"], ["hand", "rows_now", "place", "size", "far_now", "number", "gone", "order", "wide", "most", "signs", "due", "told", "at", "row", "other", "sign", "its"],
  .seq (.set 1 (.call "_law_rows" (.cons (.var 0) (.cons (.int 12) .nil)))) (.seq (.par [8, 9] (.cons (.blt .len false (.cons (.sub (.var 1) (.int 0)) .nil)) (.cons (.str []) (.nil)))) (.seq (.loop (.nm 2) (.range (.cons (.var 8) .nil)) (d_law_is_right_b3)) (.seq (.ite (.or (.not (.call "_law_is" (.cons (.call "most_at" (.cons (.var 1) .nil)) (.cons (.var 9) .nil)))) (.not (.call "_law_is" (.cons (.call "alike_places" (.cons (.var 1) .nil)) (.cons (.blt .tuple false (.cons (.call "_law_alike" (.cons (.var 1) .nil)) .nil)) .nil))))) (.seq (.ret (.bl false)) .skip) (.skip)) (.seq (.set 3 (.op .add (.int 1) (.call "_law_draw" (.cons (.var 0) (.cons (.call "_law_some" (.cons (.var 0) (.cons (.lst false (.cons (.int 2) (.cons (.int 12) .nil))) .nil))) .nil))))) (.seq (.ite (.not (.call "_law_is" (.cons (.call "stretches_alike" (.cons (.var 1) (.cons (.var 3) .nil))) (.cons (.blt .tuple false (.cons (.call "_law_stretches" (.cons (.var 1) (.cons (.var 3) .nil))) .nil)) .nil)))) (.seq (.ret (.bl false)) .skip) (.skip)) (.seq (.set 4 (.int 0)) (.seq (.loop (.tp [13, 14]) (.enum (.var 1)) (d_law_is_right_b2)) (.seq (.set 5 (.call "_law_draw" (.cons (.var 0) (.cons (.blt .len false (.cons (.var 1) .nil)) .nil)))) (.seq (.ite (.not (.call "_law_is" (.cons (.call "far_sum" (.cons (.var 1) .nil)) (.cons (.var 4) .nil)))) (.seq (.ret (.bl false)) .skip) (.skip)) (.seq (.set 6 (d_law_is_right_c2)) (.seq (.ite (.not (.call "_law_is" (.cons (.call "gap_places" (.cons (.var 1) (.cons (.var 5) .nil))) (.cons (.blt .tuple false (.cons (.var 6) .nil)) .nil)))) (.seq (.ret (.bl false)) .skip) (.skip)) (.seq (.set 7 (.blt .tuple false (.cons (.call "_law_mixed" (.cons (.var 0) (.cons (.blt .list false (.cons (.var 1) .nil)) .nil))) .nil))) (.seq (.ite (.or (.cmp .ne (.call "most_at" (.cons (.var 7) .nil)) (.var 9)) (.or (.cmp .ne (.call "far_sum" (.cons (.var 7) .nil)) (.var 4)) (.cmp .ne (.call "alike_places" (.cons (.var 7) .nil)) (.call "alike_places" (.cons (.var 1) .nil))))) (.seq (.ret (.bl false)) .skip) (.skip)) (.seq (.ret (.blt .all false (.cons (d_law_is_right_c1) .nil))) .skip))))))))))))))⟩
def d_law_c1 : E := .lc false (.call "_law_is_right" (.cons (.var 1) .nil)) (.nm 3) [3] (.range (.cons (.int 6) .nil)) (.nil)
def d_law : Fn := ⟨"law", ["script"], ["script", "hand", "rows_now", "turn"],
  .seq (.set 1 (.call "_law_hand" (.cons (.var 0) .nil))) (.seq (.set 2 (.tup (.cons (.str [97, 98, 45, 99]) (.cons (.str [97, 98, 45, 100]) (.cons (.str [97, 97, 45, 100]) .nil))))) (.seq (.ite (.or (.cmp .ne (.call "column" (.cons (.var 2) (.cons (.int 1) .nil))) (.str [98, 98, 97])) (.or (.cmp .ne (.call "most_at" (.cons (.var 2) .nil)) (.str [97, 98, 45, 100])) (.cmp .ne (.call "alike_places" (.cons (.var 2) .nil)) (.tup (.cons (.int 0) .nil))))) (.seq (.ret (.bl false)) .skip) (.skip)) (.seq (.ite (.cmp .ne (.call "far_sum" (.cons (.var 2) .nil)) (.int 4)) (.seq (.ret (.bl false)) .skip) (.skip)) (.seq (.ite (.cmp .ne (.call "stretches_alike" (.cons (.tup (.cons (.str [97, 98, 120, 97]) (.cons (.str [97, 98, 121, 97]) .nil))) (.cons (.int 1) .nil))) (.tup (.cons (.tup (.cons (.int 0) (.cons (.int 2) .nil))) (.cons (.tup (.cons (.int 3) (.cons (.int 4) .nil))) .nil)))) (.seq (.ret (.bl false)) .skip) (.skip)) (.seq (.ite (.or (.cmp .ne (.call "stretches_alike" (.cons (.tup (.cons (.str [97, 98, 120, 97]) (.cons (.str [97, 98, 121, 97]) .nil))) (.cons (.int 2) .nil))) (.tup (.cons (.tup (.cons (.int 0) (.cons (.int 2) .nil))) .nil))) (.cmp .ne (.call "gap_places" (.cons (.var 2) (.cons (.int 0) .nil))) (.tup (.cons (.int 2) .nil)))) (.seq (.ret (.bl false)) .skip) (.skip)) (.seq (.ret (.blt .all false (.cons (d_law_c1) .nil))) .skip))))))⟩
def progL : List Fn := [d_is_integer, d_is_within, d_is_sized, d_is_row_of, d_are_rows, d_check_rows, d_check_place, d_raw_column, d_column, d_raw_counts, d_counts_at, d_every_place, d_most_of, d_most_at, d_is_alike, d_raw_alike, d_alike_places, d_stretches_alike, d_far_sum, d_gap_places, d_law_hand, d_law_draw, d_law_some, d_law_is, d_law_mixed, d_law_rows, d_law_alike, d_law_stretches, d_law_is_right, d_law]
def topI : List Nat := [8, 9, 10, 15, 16, 17, 18, 19, 20, 21, 22, 23, 24, 25, 26, 27, 28, 29, 30, 31, 33, 34, 35, 36, 37, 38, 39, 40, 41, 42]
def sig : Sig := ⟨progL.map fun g => (g.nm, g.ps), [("MOST_SIGNS", .int (12)), ("GAP", .str [45]), ("MOST_ROWS", .int (6)), ("LETTERS", .str [97, 98, 99, 100, 101, 102, 103, 104, 105, 106, 107, 108, 109, 110, 111, 112, 113, 114, 115, 116, 117, 118, 119, 120, 121, 122])]⟩
def topS (i : Nat) : Stmt := PySem.Challenge.pw_twotexts_k66_whole_columns_of_rows.main.body.getD i (.Pass ⟨0, 0, 0, 0⟩)
def okAt (g : Fn) (i : Nat) : Bool := C8.scC g.N g.ps (defScope (topS i)) && chkSs sig g.N (defScope (topS i)) g.body (defBody (topS i))
theorem ck_is_integer : okAt d_is_integer 8 = true := by decide +kernel
theorem ck_is_within : okAt d_is_within 9 = true := by decide +kernel
theorem ck_is_sized : okAt d_is_sized 10 = true := by decide +kernel
theorem ck_is_row_of : okAt d_is_row_of 15 = true := by decide +kernel
theorem ck_are_rows : okAt d_are_rows 16 = true := by decide +kernel
theorem ck_check_rows : okAt d_check_rows 17 = true := by decide +kernel
theorem ck_check_place : okAt d_check_place 18 = true := by decide +kernel
theorem ck_raw_column : okAt d_raw_column 19 = true := by decide +kernel
theorem ck_column : okAt d_column 20 = true := by decide +kernel
theorem ck_raw_counts : okAt d_raw_counts 21 = true := by decide +kernel
theorem ck_counts_at : okAt d_counts_at 22 = true := by decide +kernel
theorem ck_every_place : okAt d_every_place 23 = true := by decide +kernel
theorem ck_most_of : okAt d_most_of 24 = true := by decide +kernel
theorem ck_most_at : okAt d_most_at 25 = true := by decide +kernel
theorem ck_is_alike : okAt d_is_alike 26 = true := by decide +kernel
theorem ck_raw_alike : okAt d_raw_alike 27 = true := by decide +kernel
theorem ck_alike_places : okAt d_alike_places 28 = true := by decide +kernel
theorem ck_stretches_alike : okAt d_stretches_alike 29 = true := by decide +kernel
theorem ck_far_sum : okAt d_far_sum 30 = true := by decide +kernel
theorem ck_gap_places : okAt d_gap_places 31 = true := by decide +kernel
theorem ck_law_hand : okAt d_law_hand 33 = true := by decide +kernel
theorem ck_law_draw : okAt d_law_draw 34 = true := by decide +kernel
theorem ck_law_some : okAt d_law_some 35 = true := by decide +kernel
theorem ck_law_is : okAt d_law_is 36 = true := by decide +kernel
theorem ck_law_mixed : okAt d_law_mixed 37 = true := by decide +kernel
theorem ck_law_rows : okAt d_law_rows 38 = true := by decide +kernel
theorem ck_law_alike : okAt d_law_alike 39 = true := by decide +kernel
theorem ck_law_stretches : okAt d_law_stretches 40 = true := by decide +kernel
theorem ck_law_is_right : okAt d_law_is_right 41 = true := by decide +kernel
theorem ck_law : okAt d_law 42 = true := by decide +kernel

theorem fi_is_integer : progL.find? (fun h => h.nm == ("is_integer" : Str)) = some d_is_integer := by kernel_rfl
theorem fi_is_within : progL.find? (fun h => h.nm == ("is_within" : Str)) = some d_is_within := by kernel_rfl
theorem fi_is_sized : progL.find? (fun h => h.nm == ("is_sized" : Str)) = some d_is_sized := by kernel_rfl
theorem fi_is_row_of : progL.find? (fun h => h.nm == ("is_row_of" : Str)) = some d_is_row_of := by kernel_rfl
theorem fi_are_rows : progL.find? (fun h => h.nm == ("are_rows" : Str)) = some d_are_rows := by kernel_rfl
theorem fi_check_rows : progL.find? (fun h => h.nm == ("check_rows" : Str)) = some d_check_rows := by kernel_rfl
theorem fi_check_place : progL.find? (fun h => h.nm == ("check_place" : Str)) = some d_check_place := by kernel_rfl
theorem fi_raw_column : progL.find? (fun h => h.nm == ("raw_column" : Str)) = some d_raw_column := by kernel_rfl
theorem fi_column : progL.find? (fun h => h.nm == ("column" : Str)) = some d_column := by kernel_rfl
theorem fi_raw_counts : progL.find? (fun h => h.nm == ("raw_counts" : Str)) = some d_raw_counts := by kernel_rfl
theorem fi_counts_at : progL.find? (fun h => h.nm == ("counts_at" : Str)) = some d_counts_at := by kernel_rfl
theorem fi_every_place : progL.find? (fun h => h.nm == ("every_place" : Str)) = some d_every_place := by kernel_rfl
theorem fi_most_of : progL.find? (fun h => h.nm == ("most_of" : Str)) = some d_most_of := by kernel_rfl
theorem fi_most_at : progL.find? (fun h => h.nm == ("most_at" : Str)) = some d_most_at := by kernel_rfl
theorem fi_is_alike : progL.find? (fun h => h.nm == ("is_alike" : Str)) = some d_is_alike := by kernel_rfl
theorem fi_raw_alike : progL.find? (fun h => h.nm == ("raw_alike" : Str)) = some d_raw_alike := by kernel_rfl
theorem fi_alike_places : progL.find? (fun h => h.nm == ("alike_places" : Str)) = some d_alike_places := by kernel_rfl
theorem fi_stretches_alike : progL.find? (fun h => h.nm == ("stretches_alike" : Str)) = some d_stretches_alike := by kernel_rfl
theorem fi_far_sum : progL.find? (fun h => h.nm == ("far_sum" : Str)) = some d_far_sum := by kernel_rfl
theorem fi_gap_places : progL.find? (fun h => h.nm == ("gap_places" : Str)) = some d_gap_places := by kernel_rfl
theorem fi_law_hand : progL.find? (fun h => h.nm == ("_law_hand" : Str)) = some d_law_hand := by kernel_rfl
theorem fi_law_draw : progL.find? (fun h => h.nm == ("_law_draw" : Str)) = some d_law_draw := by kernel_rfl
theorem fi_law_some : progL.find? (fun h => h.nm == ("_law_some" : Str)) = some d_law_some := by kernel_rfl
theorem fi_law_is : progL.find? (fun h => h.nm == ("_law_is" : Str)) = some d_law_is := by kernel_rfl
theorem fi_law_mixed : progL.find? (fun h => h.nm == ("_law_mixed" : Str)) = some d_law_mixed := by kernel_rfl
theorem fi_law_rows : progL.find? (fun h => h.nm == ("_law_rows" : Str)) = some d_law_rows := by kernel_rfl
theorem fi_law_alike : progL.find? (fun h => h.nm == ("_law_alike" : Str)) = some d_law_alike := by kernel_rfl
theorem fi_law_stretches : progL.find? (fun h => h.nm == ("_law_stretches" : Str)) = some d_law_stretches := by kernel_rfl
theorem fi_law_is_right : progL.find? (fun h => h.nm == ("_law_is_right" : Str)) = some d_law_is_right := by kernel_rfl
theorem fi_law : progL.find? (fun h => h.nm == ("law" : Str)) = some d_law := by kernel_rfl
end Pd
namespace Pd
open PySem PySem.Spec PyProof.Rows L2
abbrev cN (n : Nat) (f : Str) (ds : List D) (S : Store) : Option (D × Store) := callN 1000 progL n f ds S
theorem pos_n {k n : Nat} (h : k + 1 ≤ n) : ∃ m, n = m + 1 ∧ k ≤ m := ⟨n - 1, by omega, by omega⟩
section
variable {n : Nat} {S : Store}
theorem is_integer_ok (hn : 1 ≤ n) (i : Int) : cN n "is_integer" [.int i] S = some (.bl true, S) := by
  obtain ⟨m, rfl, _⟩ := pos_n hn
  rw [cN, callN_at fi_is_integer rfl]
  simp only [d_is_integer, run, ev, evs, evT, evI, fin, Option.bind_some, Option.map_some, startE, List.map_cons, List.map_nil, List.length_cons, List.length_nil, List.cons_append, List.nil_append, List.replicate_succ, List.replicate_zero, Nat.reduceAdd, Nat.reduceSub, Nat.zero_add, List.getElem?_cons_zero, List.getElem?_cons_succ, List.set_cons_zero, List.set_cons_succ, wipeE, bindTg, setAll, retOf, cmpS, eq_ii, eq_ss, lt_ii, lt_ss, mem_s, p_add_i, p_sub_i, b_len_t, b_len_l, b_abs, b_int, b_tuple_l, b_list_t, b_list_l, m_count, i_tup, i_lv, atI_0, atI_1, atI_2, atI_3, atI_4, decide_eq_true_eq, Bool.not_true, Bool.not_false, Bool.false_eq_true, if_true, if_false, ite_true, ite_false, reduceIte, isNon, walkOf, walkS, isi_non_int, isi_non_str, isi_non_tuple, isi_non_list, isi_non_dict, isi_non_bool, isi_bl_int, isi_bl_str, isi_bl_tuple, isi_bl_list, isi_bl_dict, isi_bl_bool, isi_int_int, isi_int_str, isi_int_tuple, isi_int_list, isi_int_dict, isi_int_bool, isi_str_int, isi_str_str, isi_str_tuple, isi_str_list, isi_str_dict, isi_str_bool, isi_tup_int, isi_tup_str, isi_tup_tuple, isi_tup_list, isi_tup_dict, isi_tup_bool, isi_lv_int, isi_lv_str, isi_lv_tuple, isi_lv_list, isi_lv_dict, isi_lv_bool, isi_dv_int, isi_dv_str, isi_dv_tuple, isi_dv_list, isi_dv_dict, isi_dv_bool, isi_scr_int, isi_scr_str, isi_scr_tuple, isi_scr_list, isi_scr_dict, isi_scr_bool]
theorem is_within_ok (hn : 2 ≤ n) {x a b : Int} (h : a ≤ x ∧ x ≤ b) : cN n "is_within" [.int x, .int a, .int b] S = some (.bl true, S) := by
  obtain ⟨m, rfl, hm⟩ := pos_n hn
  rw [cN, callN_at fi_is_within rfl]
  have e1 : ¬ x < a := by omega
  have e2 : ¬ b < x := by omega
  have k1 := is_integer_ok (S := S) hm x
  rw [cN] at k1
  simp only [d_is_within, k1, e1, e2, decide_false, run, ev, evs, evT, evI, fin, Option.bind_some, Option.map_some, startE, List.map_cons, List.map_nil, List.length_cons, List.length_nil, List.cons_append, List.nil_append, List.replicate_succ, List.replicate_zero, Nat.reduceAdd, Nat.reduceSub, Nat.zero_add, List.getElem?_cons_zero, List.getElem?_cons_succ, List.set_cons_zero, List.set_cons_succ, wipeE, bindTg, setAll, retOf, cmpS, eq_ii, eq_ss, lt_ii, lt_ss, mem_s, p_add_i, p_sub_i, b_len_t, b_len_l, b_abs, b_int, b_tuple_l, b_list_t, b_list_l, m_count, i_tup, i_lv, atI_0, atI_1, atI_2, atI_3, atI_4, decide_eq_true_eq, Bool.not_true, Bool.not_false, Bool.false_eq_true, if_true, if_false, ite_true, ite_false, reduceIte, isNon, walkOf, walkS, isi_non_int, isi_non_str, isi_non_tuple, isi_non_list, isi_non_dict, isi_non_bool, isi_bl_int, isi_bl_str, isi_bl_tuple, isi_bl_list, isi_bl_dict, isi_bl_bool, isi_int_int, isi_int_str, isi_int_tuple, isi_int_list, isi_int_dict, isi_int_bool, isi_str_int, isi_str_str, isi_str_tuple, isi_str_list, isi_str_dict, isi_str_bool, isi_tup_int, isi_tup_str, isi_tup_tuple, isi_tup_list, isi_tup_dict, isi_tup_bool, isi_lv_int, isi_lv_str, isi_lv_tuple, isi_lv_list, isi_lv_dict, isi_lv_bool, isi_dv_int, isi_dv_str, isi_dv_tuple, isi_dv_list, isi_dv_dict, isi_dv_bool, isi_scr_int, isi_scr_str, isi_scr_tuple, isi_scr_list, isi_scr_dict, isi_scr_bool]
theorem is_sized_ok (hn : 1 ≤ n) {xs : List D} {a b : Int} (h : a ≤ xs.length ∧ xs.length ≤ b) : cN n "is_sized" [.tup xs, .int a, .int b] S = some (.bl true, S) := by
  obtain ⟨m, rfl, hm⟩ := pos_n hn
  rw [cN, callN_at fi_is_sized rfl]
  have e1 : ¬ (xs.length : Int) < a := by omega
  have e2 : ¬ b < (xs.length : Int) := by omega
  simp only [d_is_sized, e1, e2, decide_false, run, ev, evs, evT, evI, fin, Option.bind_some, Option.map_some, startE, List.map_cons, List.map_nil, List.length_cons, List.length_nil, List.cons_append, List.nil_append, List.replicate_succ, List.replicate_zero, Nat.reduceAdd, Nat.reduceSub, Nat.zero_add, List.getElem?_cons_zero, List.getElem?_cons_succ, List.set_cons_zero, List.set_cons_succ, wipeE, bindTg, setAll, retOf, cmpS, eq_ii, eq_ss, lt_ii, lt_ss, mem_s, p_add_i, p_sub_i, b_len_t, b_len_l, b_abs, b_int, b_tuple_l, b_list_t, b_list_l, m_count, i_tup, i_lv, atI_0, atI_1, atI_2, atI_3, atI_4, decide_eq_true_eq, Bool.not_true, Bool.not_false, Bool.false_eq_true, if_true, if_false, ite_true, ite_false, reduceIte, isNon, walkOf, walkS, isi_non_int, isi_non_str, isi_non_tuple, isi_non_list, isi_non_dict, isi_non_bool, isi_bl_int, isi_bl_str, isi_bl_tuple, isi_bl_list, isi_bl_dict, isi_bl_bool, isi_int_int, isi_int_str, isi_int_tuple, isi_int_list, isi_int_dict, isi_int_bool, isi_str_int, isi_str_str, isi_str_tuple, isi_str_list, isi_str_dict, isi_str_bool, isi_tup_int, isi_tup_str, isi_tup_tuple, isi_tup_list, isi_tup_dict, isi_tup_bool, isi_lv_int, isi_lv_str, isi_lv_tuple, isi_lv_list, isi_lv_dict, isi_lv_bool, isi_dv_int, isi_dv_str, isi_dv_tuple, isi_dv_list, isi_dv_dict, isi_dv_bool, isi_scr_int, isi_scr_str, isi_scr_tuple, isi_scr_list, isi_scr_dict, isi_scr_bool]
/-- rows: one to six, each of w signs, one to twelve, letters and gaps -/
def sgn (c : Nat) : Prop := c = 45 ∨ (97 ≤ c ∧ c ≤ 122)
structure Rows (rows : List (List Nat)) (w : Nat) : Prop where
  many : 1 ≤ rows.length ∧ rows.length ≤ 6
  wide : ∀ r ∈ rows, r.length = w
  w1 : 1 ≤ w ∧ w ≤ 12
  ok : ∀ r ∈ rows, ∀ c ∈ r, sgn c
abbrev rowsD (rows : List (List Nat)) : D := .tup (rows.map .str)
theorem is_row_of_ok (hn : 1 ≤ n) {r : List Nat} {w : Nat} (hr : r.length = w) (hw : w ≤ 12) (ok : ∀ c ∈ r, sgn c) : cN n "is_row_of" [.str r, .int w] S = some (.bl true, S) := by
  obtain ⟨m, rfl, hm⟩ := pos_n hn
  rw [cN, callN_at fi_is_row_of rfl]
  have hl : r.length ≤ line := by unfold line; omega
  have hc : ev 1000 (callN 1000 progL m) d_is_row_of_c1 [some (.str r), some (.int w), none] S = some (.lv (r.map fun _ => .bl true), S) := by
    refine lc_map (φ := fun c => .str [c]) (fun _ => .bl true) (by simp only [run, ev, evs, evT, evI, fin, Option.bind_some, Option.map_some, startE, List.map_cons, List.map_nil, List.length_cons, List.length_nil, List.cons_append, List.nil_append, List.replicate_succ, List.replicate_zero, Nat.reduceAdd, Nat.reduceSub, Nat.zero_add, List.getElem?_cons_zero, List.getElem?_cons_succ, List.set_cons_zero, List.set_cons_succ, wipeE, bindTg, setAll, retOf, cmpS, eq_ii, eq_ss, lt_ii, lt_ss, mem_s, p_add_i, p_sub_i, b_len_t, b_len_l, b_abs, b_int, b_tuple_l, b_list_t, b_list_l, m_count, i_tup, i_lv, atI_0, atI_1, atI_2, atI_3, atI_4, decide_eq_true_eq, Bool.not_true, Bool.not_false, Bool.false_eq_true, if_true, if_false, ite_true, ite_false, reduceIte, isNon, walkOf, walkS, isi_non_int, isi_non_str, isi_non_tuple, isi_non_list, isi_non_dict, isi_non_bool, isi_bl_int, isi_bl_str, isi_bl_tuple, isi_bl_list, isi_bl_dict, isi_bl_bool, isi_int_int, isi_int_str, isi_int_tuple, isi_int_list, isi_int_dict, isi_int_bool, isi_str_int, isi_str_str, isi_str_tuple, isi_str_list, isi_str_dict, isi_str_bool, isi_tup_int, isi_tup_str, isi_tup_tuple, isi_tup_list, isi_tup_dict, isi_tup_bool, isi_lv_int, isi_lv_str, isi_lv_tuple, isi_lv_list, isi_lv_dict, isi_lv_bool, isi_dv_int, isi_dv_str, isi_dv_tuple, isi_dv_list, isi_dv_dict, isi_dv_bool, isi_scr_int, isi_scr_str, isi_scr_tuple, isi_scr_list, isi_scr_dict, isi_scr_bool]) (fun c hc => ?_) hl
    have : sgn c := ok c hc
    rcases this with h | h
    · simp only [turnF, h, run, ev, evs, evT, evI, fin, Option.bind_some, Option.map_some, startE, List.map_cons, List.map_nil, List.length_cons, List.length_nil, List.cons_append, List.nil_append, List.replicate_succ, List.replicate_zero, Nat.reduceAdd, Nat.reduceSub, Nat.zero_add, List.getElem?_cons_zero, List.getElem?_cons_succ, List.set_cons_zero, List.set_cons_succ, wipeE, bindTg, setAll, retOf, cmpS, eq_ii, eq_ss, lt_ii, lt_ss, mem_s, p_add_i, p_sub_i, b_len_t, b_len_l, b_abs, b_int, b_tuple_l, b_list_t, b_list_l, m_count, i_tup, i_lv, atI_0, atI_1, atI_2, atI_3, atI_4, decide_eq_true_eq, Bool.not_true, Bool.not_false, Bool.false_eq_true, if_true, if_false, ite_true, ite_false, reduceIte, isNon, walkOf, walkS, isi_non_int, isi_non_str, isi_non_tuple, isi_non_list, isi_non_dict, isi_non_bool, isi_bl_int, isi_bl_str, isi_bl_tuple, isi_bl_list, isi_bl_dict, isi_bl_bool, isi_int_int, isi_int_str, isi_int_tuple, isi_int_list, isi_int_dict, isi_int_bool, isi_str_int, isi_str_str, isi_str_tuple, isi_str_list, isi_str_dict, isi_str_bool, isi_tup_int, isi_tup_str, isi_tup_tuple, isi_tup_list, isi_tup_dict, isi_tup_bool, isi_lv_int, isi_lv_str, isi_lv_tuple, isi_lv_list, isi_lv_dict, isi_lv_bool, isi_dv_int, isi_dv_str, isi_dv_tuple, isi_dv_list, isi_dv_dict, isi_dv_bool, isi_scr_int, isi_scr_str, isi_scr_tuple, isi_scr_list, isi_scr_dict, isi_scr_bool]
    · have e : c ∈ [97, 98, 99, 100, 101, 102, 103, 104, 105, 106, 107, 108, 109, 110, 111, 112, 113, 114, 115, 116, 117, 118, 119, 120, 121, 122] := by
        simp only [List.mem_cons, List.not_mem_nil, or_false]
        omega
      simp only [turnF, run, ev, evs, evT, evI, fin, Option.bind_some, Option.map_some, startE, List.map_cons, List.map_nil, List.length_cons, List.length_nil, List.cons_append, List.nil_append, List.replicate_succ, List.replicate_zero, Nat.reduceAdd, Nat.reduceSub, Nat.zero_add, List.getElem?_cons_zero, List.getElem?_cons_succ, List.set_cons_zero, List.set_cons_succ, wipeE, bindTg, setAll, retOf, cmpS, eq_ii, eq_ss, lt_ii, lt_ss, mem_s, p_add_i, p_sub_i, b_len_t, b_len_l, b_abs, b_int, b_tuple_l, b_list_t, b_list_l, m_count, i_tup, i_lv, atI_0, atI_1, atI_2, atI_3, atI_4, decide_eq_true_eq, Bool.not_true, Bool.not_false, Bool.false_eq_true, if_true, if_false, ite_true, ite_false, reduceIte, isNon, walkOf, walkS, isi_non_int, isi_non_str, isi_non_tuple, isi_non_list, isi_non_dict, isi_non_bool, isi_bl_int, isi_bl_str, isi_bl_tuple, isi_bl_list, isi_bl_dict, isi_bl_bool, isi_int_int, isi_int_str, isi_int_tuple, isi_int_list, isi_int_dict, isi_int_bool, isi_str_int, isi_str_str, isi_str_tuple, isi_str_list, isi_str_dict, isi_str_bool, isi_tup_int, isi_tup_str, isi_tup_tuple, isi_tup_list, isi_tup_dict, isi_tup_bool, isi_lv_int, isi_lv_str, isi_lv_tuple, isi_lv_list, isi_lv_dict, isi_lv_bool, isi_dv_int, isi_dv_str, isi_dv_tuple, isi_dv_list, isi_dv_dict, isi_dv_bool, isi_scr_int, isi_scr_str, isi_scr_tuple, isi_scr_list, isi_scr_dict, isi_scr_bool]
      split
      · rfl
      · simp only [e, decide_true]
        rfl
  have hb : bltS .all [.lv (r.map fun _ => D.bl true)] S = some (.val (.bl true)) := by
    have := b_all (S := S) (r.map fun _ => true)
    rw [List.map_map] at this
    rw [show (r.map fun _ => D.bl true) = r.map (D.bl ∘ fun _ => true) from rfl, this]
    simp
  have e0 : ((r.length : Nat) : Int) = (w : Int) := by omega
  simp only [d_is_row_of, b_len_s hl, e0, hc, hb, decide_true, run, ev, evs, evT, evI, fin, Option.bind_some, Option.map_some, startE, List.map_cons, List.map_nil, List.length_cons, List.length_nil, List.cons_append, List.nil_append, List.replicate_succ, List.replicate_zero, Nat.reduceAdd, Nat.reduceSub, Nat.zero_add, List.getElem?_cons_zero, List.getElem?_cons_succ, List.set_cons_zero, List.set_cons_succ, wipeE, bindTg, setAll, retOf, cmpS, eq_ii, eq_ss, lt_ii, lt_ss, mem_s, p_add_i, p_sub_i, b_len_t, b_len_l, b_abs, b_int, b_tuple_l, b_list_t, b_list_l, m_count, i_tup, i_lv, atI_0, atI_1, atI_2, atI_3, atI_4, decide_eq_true_eq, Bool.not_true, Bool.not_false, Bool.false_eq_true, if_true, if_false, ite_true, ite_false, reduceIte, isNon, walkOf, walkS, isi_non_int, isi_non_str, isi_non_tuple, isi_non_list, isi_non_dict, isi_non_bool, isi_bl_int, isi_bl_str, isi_bl_tuple, isi_bl_list, isi_bl_dict, isi_bl_bool, isi_int_int, isi_int_str, isi_int_tuple, isi_int_list, isi_int_dict, isi_int_bool, isi_str_int, isi_str_str, isi_str_tuple, isi_str_list, isi_str_dict, isi_str_bool, isi_tup_int, isi_tup_str, isi_tup_tuple, isi_tup_list, isi_tup_dict, isi_tup_bool, isi_lv_int, isi_lv_str, isi_lv_tuple, isi_lv_list, isi_lv_dict, isi_lv_bool, isi_dv_int, isi_dv_str, isi_dv_tuple, isi_dv_list, isi_dv_dict, isi_dv_bool, isi_scr_int, isi_scr_str, isi_scr_tuple, isi_scr_list, isi_scr_dict, isi_scr_bool]
theorem all_true {α : Type} (l : List α) : bltS .all [.lv (l.map fun _ => D.bl true)] S = some (.val (.bl true)) := by
  have := b_all (S := S) (l.map fun _ => true)
  rw [List.map_map] at this
  rw [show (l.map fun _ => D.bl true) = l.map (D.bl ∘ fun _ => true) from rfl, this]
  simp
theorem Rows.first {rows : List (List Nat)} {w : Nat} (R : Rows rows w) : ∃ r, rows[0]? = some r ∧ r.length = w := by
  have h : 0 < rows.length := R.many.1
  exact ⟨rows[0], List.getElem?_eq_getElem h, R.wide _ (List.getElem_mem h)⟩
theorem are_rows_ok (hn : 2 ≤ n) {rows : List (List Nat)} {w : Nat} (R : Rows rows w) : cN n "are_rows" [rowsD rows] S = some (.bl true, S) := by
  obtain ⟨m, rfl, hm⟩ := pos_n hn
  rw [cN, callN_at fi_are_rows rfl]
  obtain ⟨r0, h0, hr0⟩ := R.first
  have hm1 := R.many
  have hw1 := R.w1
  have hl0 : r0.length ≤ line := by unfold line; omega
  have k1 := is_sized_ok (S := S) hm (xs := rows.map .str) (a := 1) (b := 6) (by rw [List.length_map]; omega)
  rw [cN] at k1
  have hix : (rows.map D.str)[0]? = some (.str r0) := by rw [List.getElem?_map, h0]; rfl
  have hc : ev 1000 (callN 1000 progL m) d_are_rows_c1 [some (rowsD rows), none] S = some (.lv (rows.map fun _ => .bl true), S) := by
    refine lc_map (φ := .str) (fun _ => .bl true) (by simp only [run, ev, evs, evT, evI, fin, Option.bind_some, Option.map_some, startE, List.map_cons, List.map_nil, List.length_cons, List.length_nil, List.cons_append, List.nil_append, List.replicate_succ, List.replicate_zero, Nat.reduceAdd, Nat.reduceSub, Nat.zero_add, List.getElem?_cons_zero, List.getElem?_cons_succ, List.set_cons_zero, List.set_cons_succ, wipeE, bindTg, setAll, retOf, cmpS, eq_ii, eq_ss, lt_ii, lt_ss, mem_s, p_add_i, p_sub_i, b_len_t, b_len_l, b_abs, b_int, b_tuple_l, b_list_t, b_list_l, m_count, i_tup, i_lv, atI_0, atI_1, atI_2, atI_3, atI_4, decide_eq_true_eq, Bool.not_true, Bool.not_false, Bool.false_eq_true, if_true, if_false, ite_true, ite_false, reduceIte, isNon, walkOf, walkS, isi_non_int, isi_non_str, isi_non_tuple, isi_non_list, isi_non_dict, isi_non_bool, isi_bl_int, isi_bl_str, isi_bl_tuple, isi_bl_list, isi_bl_dict, isi_bl_bool, isi_int_int, isi_int_str, isi_int_tuple, isi_int_list, isi_int_dict, isi_int_bool, isi_str_int, isi_str_str, isi_str_tuple, isi_str_list, isi_str_dict, isi_str_bool, isi_tup_int, isi_tup_str, isi_tup_tuple, isi_tup_list, isi_tup_dict, isi_tup_bool, isi_lv_int, isi_lv_str, isi_lv_tuple, isi_lv_list, isi_lv_dict, isi_lv_bool, isi_dv_int, isi_dv_str, isi_dv_tuple, isi_dv_list, isi_dv_dict, isi_dv_bool, isi_scr_int, isi_scr_str, isi_scr_tuple, isi_scr_list, isi_scr_dict, isi_scr_bool]) (fun r hr => ?_) (by unfold line; omega)
    have k2 := is_row_of_ok (S := S) (n := m) (r := r) (w := w) hm (R.wide r hr) hw1.2 (R.ok r hr)
    rw [cN] at k2
    simp only [turnF, hix, b_len_s hl0, hr0, k2, run, ev, evs, evT, evI, fin, Option.bind_some, Option.map_some, startE, List.map_cons, List.map_nil, List.length_cons, List.length_nil, List.cons_append, List.nil_append, List.replicate_succ, List.replicate_zero, Nat.reduceAdd, Nat.reduceSub, Nat.zero_add, List.getElem?_cons_zero, List.getElem?_cons_succ, List.set_cons_zero, List.set_cons_succ, wipeE, bindTg, setAll, retOf, cmpS, eq_ii, eq_ss, lt_ii, lt_ss, mem_s, p_add_i, p_sub_i, b_len_t, b_len_l, b_abs, b_int, b_tuple_l, b_list_t, b_list_l, m_count, i_tup, i_lv, atI_0, atI_1, atI_2, atI_3, atI_4, decide_eq_true_eq, Bool.not_true, Bool.not_false, Bool.false_eq_true, if_true, if_false, ite_true, ite_false, reduceIte, isNon, walkOf, walkS, isi_non_int, isi_non_str, isi_non_tuple, isi_non_list, isi_non_dict, isi_non_bool, isi_bl_int, isi_bl_str, isi_bl_tuple, isi_bl_list, isi_bl_dict, isi_bl_bool, isi_int_int, isi_int_str, isi_int_tuple, isi_int_list, isi_int_dict, isi_int_bool, isi_str_int, isi_str_str, isi_str_tuple, isi_str_list, isi_str_dict, isi_str_bool, isi_tup_int, isi_tup_str, isi_tup_tuple, isi_tup_list, isi_tup_dict, isi_tup_bool, isi_lv_int, isi_lv_str, isi_lv_tuple, isi_lv_list, isi_lv_dict, isi_lv_bool, isi_dv_int, isi_dv_str, isi_dv_tuple, isi_dv_list, isi_dv_dict, isi_dv_bool, isi_scr_int, isi_scr_str, isi_scr_tuple, isi_scr_list, isi_scr_dict, isi_scr_bool]
  have e1 : ¬ ((r0.length : Nat) : Int) < 1 := by omega
  have e2 : ¬ 12 < ((r0.length : Nat) : Int) := by omega
  simp only [d_are_rows, k1, hix, b_len_s hl0, e1, e2, decide_false, hc, all_true, run, ev, evs, evT, evI, fin, Option.bind_some, Option.map_some, startE, List.map_cons, List.map_nil, List.length_cons, List.length_nil, List.cons_append, List.nil_append, List.replicate_succ, List.replicate_zero, Nat.reduceAdd, Nat.reduceSub, Nat.zero_add, List.getElem?_cons_zero, List.getElem?_cons_succ, List.set_cons_zero, List.set_cons_succ, wipeE, bindTg, setAll, retOf, cmpS, eq_ii, eq_ss, lt_ii, lt_ss, mem_s, p_add_i, p_sub_i, b_len_t, b_len_l, b_abs, b_int, b_tuple_l, b_list_t, b_list_l, m_count, i_tup, i_lv, atI_0, atI_1, atI_2, atI_3, atI_4, decide_eq_true_eq, Bool.not_true, Bool.not_false, Bool.false_eq_true, if_true, if_false, ite_true, ite_false, reduceIte, isNon, walkOf, walkS, isi_non_int, isi_non_str, isi_non_tuple, isi_non_list, isi_non_dict, isi_non_bool, isi_bl_int, isi_bl_str, isi_bl_tuple, isi_bl_list, isi_bl_dict, isi_bl_bool, isi_int_int, isi_int_str, isi_int_tuple, isi_int_list, isi_int_dict, isi_int_bool, isi_str_int, isi_str_str, isi_str_tuple, isi_str_list, isi_str_dict, isi_str_bool, isi_tup_int, isi_tup_str, isi_tup_tuple, isi_tup_list, isi_tup_dict, isi_tup_bool, isi_lv_int, isi_lv_str, isi_lv_tuple, isi_lv_list, isi_lv_dict, isi_lv_bool, isi_dv_int, isi_dv_str, isi_dv_tuple, isi_dv_list, isi_dv_dict, isi_dv_bool, isi_scr_int, isi_scr_str, isi_scr_tuple, isi_scr_list, isi_scr_dict, isi_scr_bool]
theorem check_rows_ok (hn : 3 ≤ n) {rows : List (List Nat)} {w : Nat} (R : Rows rows w) : cN n "check_rows" [rowsD rows] S = some (.non, S) := by
  obtain ⟨m, rfl, hm⟩ := pos_n hn
  rw [cN, callN_at fi_check_rows rfl]
  have k1 := are_rows_ok (S := S) hm R
  rw [cN] at k1
  simp only [d_check_rows, k1, run, ev, evs, evT, evI, fin, Option.bind_some, Option.map_some, startE, List.map_cons, List.map_nil, List.length_cons, List.length_nil, List.cons_append, List.nil_append, List.replicate_succ, List.replicate_zero, Nat.reduceAdd, Nat.reduceSub, Nat.zero_add, List.getElem?_cons_zero, List.getElem?_cons_succ, List.set_cons_zero, List.set_cons_succ, wipeE, bindTg, setAll, retOf, cmpS, eq_ii, eq_ss, lt_ii, lt_ss, mem_s, p_add_i, p_sub_i, b_len_t, b_len_l, b_abs, b_int, b_tuple_l, b_list_t, b_list_l, m_count, i_tup, i_lv, atI_0, atI_1, atI_2, atI_3, atI_4, decide_eq_true_eq, Bool.not_true, Bool.not_false, Bool.false_eq_true, if_true, if_false, ite_true, ite_false, reduceIte, isNon, walkOf, walkS, isi_non_int, isi_non_str, isi_non_tuple, isi_non_list, isi_non_dict, isi_non_bool, isi_bl_int, isi_bl_str, isi_bl_tuple, isi_bl_list, isi_bl_dict, isi_bl_bool, isi_int_int, isi_int_str, isi_int_tuple, isi_int_list, isi_int_dict, isi_int_bool, isi_str_int, isi_str_str, isi_str_tuple, isi_str_list, isi_str_dict, isi_str_bool, isi_tup_int, isi_tup_str, isi_tup_tuple, isi_tup_list, isi_tup_dict, isi_tup_bool, isi_lv_int, isi_lv_str, isi_lv_tuple, isi_lv_list, isi_lv_dict, isi_lv_bool, isi_dv_int, isi_dv_str, isi_dv_tuple, isi_dv_list, isi_dv_dict, isi_dv_bool, isi_scr_int, isi_scr_str, isi_scr_tuple, isi_scr_list, isi_scr_dict, isi_scr_bool]
theorem check_place_ok (hn : 4 ≤ n) {rows : List (List Nat)} {w p : Nat} (R : Rows rows w) (hp : p < w) : cN n "check_place" [rowsD rows, .int p] S = some (.non, S) := by
  obtain ⟨m, rfl, hm⟩ := pos_n hn
  rw [cN, callN_at fi_check_place rfl]
  obtain ⟨r0, h0, hr0⟩ := R.first
  have hw1 := R.w1
  have hl0 : r0.length ≤ line := by unfold line; omega
  have hix : (rows.map D.str)[0]? = some (.str r0) := by rw [List.getElem?_map, h0]; rfl
  have k1 := check_rows_ok (S := S) hm R
  have k2 := is_within_ok (S := S) (n := m) (by omega) (x := p) (a := 0) (b := (r0.length : Int) - 1) (by omega)
  rw [cN] at k1 k2
  simp only [d_check_place, k1, k2, hix, b_len_s hl0, run, ev, evs, evT, evI, fin, Option.bind_some, Option.map_some, startE, List.map_cons, List.map_nil, List.length_cons, List.length_nil, List.cons_append, List.nil_append, List.replicate_succ, List.replicate_zero, Nat.reduceAdd, Nat.reduceSub, Nat.zero_add, List.getElem?_cons_zero, List.getElem?_cons_succ, List.set_cons_zero, List.set_cons_succ, wipeE, bindTg, setAll, retOf, cmpS, eq_ii, eq_ss, lt_ii, lt_ss, mem_s, p_add_i, p_sub_i, b_len_t, b_len_l, b_abs, b_int, b_tuple_l, b_list_t, b_list_l, m_count, i_tup, i_lv, atI_0, atI_1, atI_2, atI_3, atI_4, decide_eq_true_eq, Bool.not_true, Bool.not_false, Bool.false_eq_true, if_true, if_false, ite_true, ite_false, reduceIte, isNon, walkOf, walkS, isi_non_int, isi_non_str, isi_non_tuple, isi_non_list, isi_non_dict, isi_non_bool, isi_bl_int, isi_bl_str, isi_bl_tuple, isi_bl_list, isi_bl_dict, isi_bl_bool, isi_int_int, isi_int_str, isi_int_tuple, isi_int_list, isi_int_dict, isi_int_bool, isi_str_int, isi_str_str, isi_str_tuple, isi_str_list, isi_str_dict, isi_str_bool, isi_tup_int, isi_tup_str, isi_tup_tuple, isi_tup_list, isi_tup_dict, isi_tup_bool, isi_lv_int, isi_lv_str, isi_lv_tuple, isi_lv_list, isi_lv_dict, isi_lv_bool, isi_dv_int, isi_dv_str, isi_dv_tuple, isi_dv_list, isi_dv_dict, isi_dv_bool, isi_scr_int, isi_scr_str, isi_scr_tuple, isi_scr_list, isi_scr_dict, isi_scr_bool]
/-- the signs of a place -/
def colr (rows : List (List Nat)) (p : Nat) : List Nat := rows.map fun r => r[p]?.getD 0
theorem colr_len (rows : List (List Nat)) (p : Nat) : (colr rows p).length = rows.length := by simp [colr]
theorem raw_column_ok (hn : 1 ≤ n) {rows : List (List Nat)} {w p : Nat} (R : Rows rows w) (hp : p < w) : cN n "raw_column" [rowsD rows, .int p] S = some (.str (colr rows p), S) := by
  obtain ⟨m, rfl, hm⟩ := pos_n hn
  rw [cN, callN_at fi_raw_column rfl]
  have hm1 := R.many
  have hw1 := R.w1
  have hc : ev 1000 (callN 1000 progL m) d_raw_column_c1 [some (rowsD rows), some (.int p), none] S = some (.lv ((rows.map fun r => [r[p]?.getD 0]).map .str), S) := by
    rw [List.map_map]
    refine lc_map (φ := .str) _ (by simp only [run, ev, evs, evT, evI, fin, Option.bind_some, Option.map_some, startE, List.map_cons, List.map_nil, List.length_cons, List.length_nil, List.cons_append, List.nil_append, List.replicate_succ, List.replicate_zero, Nat.reduceAdd, Nat.reduceSub, Nat.zero_add, List.getElem?_cons_zero, List.getElem?_cons_succ, List.set_cons_zero, List.set_cons_succ, wipeE, bindTg, setAll, retOf, cmpS, eq_ii, eq_ss, lt_ii, lt_ss, mem_s, p_add_i, p_sub_i, b_len_t, b_len_l, b_abs, b_int, b_tuple_l, b_list_t, b_list_l, m_count, i_tup, i_lv, atI_0, atI_1, atI_2, atI_3, atI_4, decide_eq_true_eq, Bool.not_true, Bool.not_false, Bool.false_eq_true, if_true, if_false, ite_true, ite_false, reduceIte, isNon, walkOf, walkS, isi_non_int, isi_non_str, isi_non_tuple, isi_non_list, isi_non_dict, isi_non_bool, isi_bl_int, isi_bl_str, isi_bl_tuple, isi_bl_list, isi_bl_dict, isi_bl_bool, isi_int_int, isi_int_str, isi_int_tuple, isi_int_list, isi_int_dict, isi_int_bool, isi_str_int, isi_str_str, isi_str_tuple, isi_str_list, isi_str_dict, isi_str_bool, isi_tup_int, isi_tup_str, isi_tup_tuple, isi_tup_list, isi_tup_dict, isi_tup_bool, isi_lv_int, isi_lv_str, isi_lv_tuple, isi_lv_list, isi_lv_dict, isi_lv_bool, isi_dv_int, isi_dv_str, isi_dv_tuple, isi_dv_list, isi_dv_dict, isi_dv_bool, isi_scr_int, isi_scr_str, isi_scr_tuple, isi_scr_list, isi_scr_dict, isi_scr_bool]) (fun r hr => ?_) (by unfold line; omega)
    have hr' := R.wide r hr
    have hl : r.length ≤ line := by unfold line; omega
    have e : r[p]? = some (r[p]?.getD 0) := by
      have : p < r.length := by omega
      rw [List.getElem?_eq_getElem this]
      rfl
    simp only [turnF, i_str _ hl, atI_nat', run, ev, evs, evT, evI, fin, Option.bind_some, Option.map_some, startE, List.map_cons, List.map_nil, List.length_cons, List.length_nil, List.cons_append, List.nil_append, List.replicate_succ, List.replicate_zero, Nat.reduceAdd, Nat.reduceSub, Nat.zero_add, List.getElem?_cons_zero, List.getElem?_cons_succ, List.set_cons_zero, List.set_cons_succ, wipeE, bindTg, setAll, retOf, cmpS, eq_ii, eq_ss, lt_ii, lt_ss, mem_s, p_add_i, p_sub_i, b_len_t, b_len_l, b_abs, b_int, b_tuple_l, b_list_t, b_list_l, m_count, i_tup, i_lv, atI_0, atI_1, atI_2, atI_3, atI_4, decide_eq_true_eq, Bool.not_true, Bool.not_false, Bool.false_eq_true, if_true, if_false, ite_true, ite_false, reduceIte, isNon, walkOf, walkS, isi_non_int, isi_non_str, isi_non_tuple, isi_non_list, isi_non_dict, isi_non_bool, isi_bl_int, isi_bl_str, isi_bl_tuple, isi_bl_list, isi_bl_dict, isi_bl_bool, isi_int_int, isi_int_str, isi_int_tuple, isi_int_list, isi_int_dict, isi_int_bool, isi_str_int, isi_str_str, isi_str_tuple, isi_str_list, isi_str_dict, isi_str_bool, isi_tup_int, isi_tup_str, isi_tup_tuple, isi_tup_list, isi_tup_dict, isi_tup_bool, isi_lv_int, isi_lv_str, isi_lv_tuple, isi_lv_list, isi_lv_dict, isi_lv_bool, isi_dv_int, isi_dv_str, isi_dv_tuple, isi_dv_list, isi_dv_dict, isi_dv_bool, isi_scr_int, isi_scr_str, isi_scr_tuple, isi_scr_list, isi_scr_dict, isi_scr_bool]
    rw [e]
    rfl
  have hj : mthS .join (.str []) [.lv ((rows.map fun r => [r[p]?.getD 0]).map .str)] S = some (.str (colr rows p), S) := by
    rw [m_join_l]
    · rw [joinL_nil, flat_single]
      rfl
    · rw [sum_single, List.length_map]
      simp only [List.length_nil, Nat.mul_zero, Nat.add_zero]
      unfold line
      omega
  simp only [d_raw_column, hc, hj, ty_str, run, ev, evs, evT, evI, fin, Option.bind_some, Option.map_some, startE, List.map_cons, List.map_nil, List.length_cons, List.length_nil, List.cons_append, List.nil_append, List.replicate_succ, List.replicate_zero, Nat.reduceAdd, Nat.reduceSub, Nat.zero_add, List.getElem?_cons_zero, List.getElem?_cons_succ, List.set_cons_zero, List.set_cons_succ, wipeE, bindTg, setAll, retOf, cmpS, eq_ii, eq_ss, lt_ii, lt_ss, mem_s, p_add_i, p_sub_i, b_len_t, b_len_l, b_abs, b_int, b_tuple_l, b_list_t, b_list_l, m_count, i_tup, i_lv, atI_0, atI_1, atI_2, atI_3, atI_4, decide_eq_true_eq, Bool.not_true, Bool.not_false, Bool.false_eq_true, if_true, if_false, ite_true, ite_false, reduceIte, isNon, walkOf, walkS, isi_non_int, isi_non_str, isi_non_tuple, isi_non_list, isi_non_dict, isi_non_bool, isi_bl_int, isi_bl_str, isi_bl_tuple, isi_bl_list, isi_bl_dict, isi_bl_bool, isi_int_int, isi_int_str, isi_int_tuple, isi_int_list, isi_int_dict, isi_int_bool, isi_str_int, isi_str_str, isi_str_tuple, isi_str_list, isi_str_dict, isi_str_bool, isi_tup_int, isi_tup_str, isi_tup_tuple, isi_tup_list, isi_tup_dict, isi_tup_bool, isi_lv_int, isi_lv_str, isi_lv_tuple, isi_lv_list, isi_lv_dict, isi_lv_bool, isi_dv_int, isi_dv_str, isi_dv_tuple, isi_dv_list, isi_dv_dict, isi_dv_bool, isi_scr_int, isi_scr_str, isi_scr_tuple, isi_scr_list, isi_scr_dict, isi_scr_bool]
theorem column_ok (hn : 5 ≤ n) {rows : List (List Nat)} {w p : Nat} (R : Rows rows w) (hp : p < w) : cN n "column" [rowsD rows, .int p] S = some (.str (colr rows p), S) := by
  obtain ⟨m, rfl, hm⟩ := pos_n hn
  rw [cN, callN_at fi_column rfl]
  have k1 := check_place_ok (S := S) hm R hp
  have k2 := raw_column_ok (S := S) (n := m) (by omega) R hp
  rw [cN] at k1 k2
  simp only [d_column, k1, k2, run, ev, evs, evT, evI, fin, Option.bind_some, Option.map_some, startE, List.map_cons, List.map_nil, List.length_cons, List.length_nil, List.cons_append, List.nil_append, List.replicate_succ, List.replicate_zero, Nat.reduceAdd, Nat.reduceSub, Nat.zero_add, List.getElem?_cons_zero, List.getElem?_cons_succ, List.set_cons_zero, List.set_cons_succ, wipeE, bindTg, setAll, retOf, cmpS, eq_ii, eq_ss, lt_ii, lt_ss, mem_s, p_add_i, p_sub_i, b_len_t, b_len_l, b_abs, b_int, b_tuple_l, b_list_t, b_list_l, m_count, i_tup, i_lv, atI_0, atI_1, atI_2, atI_3, atI_4, decide_eq_true_eq, Bool.not_true, Bool.not_false, Bool.false_eq_true, if_true, if_false, ite_true, ite_false, reduceIte, isNon, walkOf, walkS, isi_non_int, isi_non_str, isi_non_tuple, isi_non_list, isi_non_dict, isi_non_bool, isi_bl_int, isi_bl_str, isi_bl_tuple, isi_bl_list, isi_bl_dict, isi_bl_bool, isi_int_int, isi_int_str, isi_int_tuple, isi_int_list, isi_int_dict, isi_int_bool, isi_str_int, isi_str_str, isi_str_tuple, isi_str_list, isi_str_dict, isi_str_bool, isi_tup_int, isi_tup_str, isi_tup_tuple, isi_tup_list, isi_tup_dict, isi_tup_bool, isi_lv_int, isi_lv_str, isi_lv_tuple, isi_lv_list, isi_lv_dict, isi_lv_bool, isi_dv_int, isi_dv_str, isi_dv_tuple, isi_dv_list, isi_dv_dict, isi_dv_bool, isi_scr_int, isi_scr_str, isi_scr_tuple, isi_scr_list, isi_scr_dict, isi_scr_bool]
/-- how often each sign -/
def cnts (t : List Nat) : List DK × List D := foldPut (t.map fun c => (.s [c], .int (t.count c : Nat))) ([], [])
abbrev cntD (t : List Nat) : D := .dv false (cnts t).1 (cnts t).2
theorem raw_counts_ok (hn : 1 ≤ n) {t : List Nat} (ht : t.length ≤ 1000) : cN n "raw_counts" [.str t] S = some (cntD t, S) := by
  obtain ⟨m, rfl, hm⟩ := pos_n hn
  rw [cN, callN_at fi_raw_counts rfl]
  have hc : ev 1000 (callN 1000 progL m) d_raw_counts_c1 [some (.str t), none] S = some (cntD t, S) := by
    refine dc_map (φ := fun c => .str [c]) _ (by simp only [run, ev, evs, evT, evI, fin, Option.bind_some, Option.map_some, startE, List.map_cons, List.map_nil, List.length_cons, List.length_nil, List.cons_append, List.nil_append, List.replicate_succ, List.replicate_zero, Nat.reduceAdd, Nat.reduceSub, Nat.zero_add, List.getElem?_cons_zero, List.getElem?_cons_succ, List.set_cons_zero, List.set_cons_succ, wipeE, bindTg, setAll, retOf, cmpS, eq_ii, eq_ss, lt_ii, lt_ss, mem_s, p_add_i, p_sub_i, b_len_t, b_len_l, b_abs, b_int, b_tuple_l, b_list_t, b_list_l, m_count, i_tup, i_lv, atI_0, atI_1, atI_2, atI_3, atI_4, decide_eq_true_eq, Bool.not_true, Bool.not_false, Bool.false_eq_true, if_true, if_false, ite_true, ite_false, reduceIte, isNon, walkOf, walkS, isi_non_int, isi_non_str, isi_non_tuple, isi_non_list, isi_non_dict, isi_non_bool, isi_bl_int, isi_bl_str, isi_bl_tuple, isi_bl_list, isi_bl_dict, isi_bl_bool, isi_int_int, isi_int_str, isi_int_tuple, isi_int_list, isi_int_dict, isi_int_bool, isi_str_int, isi_str_str, isi_str_tuple, isi_str_list, isi_str_dict, isi_str_bool, isi_tup_int, isi_tup_str, isi_tup_tuple, isi_tup_list, isi_tup_dict, isi_tup_bool, isi_lv_int, isi_lv_str, isi_lv_tuple, isi_lv_list, isi_lv_dict, isi_lv_bool, isi_dv_int, isi_dv_str, isi_dv_tuple, isi_dv_list, isi_dv_dict, isi_dv_bool, isi_scr_int, isi_scr_str, isi_scr_tuple, isi_scr_list, isi_scr_dict, isi_scr_bool]) (fun c hc => ?_) (by unfold line; omega)
    simp only [turnK, ty_count, asFlat, run, ev, evs, evT, evI, fin, Option.bind_some, Option.map_some, startE, List.map_cons, List.map_nil, List.length_cons, List.length_nil, List.cons_append, List.nil_append, List.replicate_succ, List.replicate_zero, Nat.reduceAdd, Nat.reduceSub, Nat.zero_add, List.getElem?_cons_zero, List.getElem?_cons_succ, List.set_cons_zero, List.set_cons_succ, wipeE, bindTg, setAll, retOf, cmpS, eq_ii, eq_ss, lt_ii, lt_ss, mem_s, p_add_i, p_sub_i, b_len_t, b_len_l, b_abs, b_int, b_tuple_l, b_list_t, b_list_l, m_count, i_tup, i_lv, atI_0, atI_1, atI_2, atI_3, atI_4, decide_eq_true_eq, Bool.not_true, Bool.not_false, Bool.false_eq_true, if_true, if_false, ite_true, ite_false, reduceIte, isNon, walkOf, walkS, isi_non_int, isi_non_str, isi_non_tuple, isi_non_list, isi_non_dict, isi_non_bool, isi_bl_int, isi_bl_str, isi_bl_tuple, isi_bl_list, isi_bl_dict, isi_bl_bool, isi_int_int, isi_int_str, isi_int_tuple, isi_int_list, isi_int_dict, isi_int_bool, isi_str_int, isi_str_str, isi_str_tuple, isi_str_list, isi_str_dict, isi_str_bool, isi_tup_int, isi_tup_str, isi_tup_tuple, isi_tup_list, isi_tup_dict, isi_tup_bool, isi_lv_int, isi_lv_str, isi_lv_tuple, isi_lv_list, isi_lv_dict, isi_lv_bool, isi_dv_int, isi_dv_str, isi_dv_tuple, isi_dv_list, isi_dv_dict, isi_dv_bool, isi_scr_int, isi_scr_str, isi_scr_tuple, isi_scr_list, isi_scr_dict, isi_scr_bool]
  simp only [d_raw_counts, hc, run, ev, evs, evT, evI, fin, Option.bind_some, Option.map_some, startE, List.map_cons, List.map_nil, List.length_cons, List.length_nil, List.cons_append, List.nil_append, List.replicate_succ, List.replicate_zero, Nat.reduceAdd, Nat.reduceSub, Nat.zero_add, List.getElem?_cons_zero, List.getElem?_cons_succ, List.set_cons_zero, List.set_cons_succ, wipeE, bindTg, setAll, retOf, cmpS, eq_ii, eq_ss, lt_ii, lt_ss, mem_s, p_add_i, p_sub_i, b_len_t, b_len_l, b_abs, b_int, b_tuple_l, b_list_t, b_list_l, m_count, i_tup, i_lv, atI_0, atI_1, atI_2, atI_3, atI_4, decide_eq_true_eq, Bool.not_true, Bool.not_false, Bool.false_eq_true, if_true, if_false, ite_true, ite_false, reduceIte, isNon, walkOf, walkS, isi_non_int, isi_non_str, isi_non_tuple, isi_non_list, isi_non_dict, isi_non_bool, isi_bl_int, isi_bl_str, isi_bl_tuple, isi_bl_list, isi_bl_dict, isi_bl_bool, isi_int_int, isi_int_str, isi_int_tuple, isi_int_list, isi_int_dict, isi_int_bool, isi_str_int, isi_str_str, isi_str_tuple, isi_str_list, isi_str_dict, isi_str_bool, isi_tup_int, isi_tup_str, isi_tup_tuple, isi_tup_list, isi_tup_dict, isi_tup_bool, isi_lv_int, isi_lv_str, isi_lv_tuple, isi_lv_list, isi_lv_dict, isi_lv_bool, isi_dv_int, isi_dv_str, isi_dv_tuple, isi_dv_list, isi_dv_dict, isi_dv_bool, isi_scr_int, isi_scr_str, isi_scr_tuple, isi_scr_list, isi_scr_dict, isi_scr_bool]
theorem counts_at_ok (hn : 5 ≤ n) {rows : List (List Nat)} {w p : Nat} (R : Rows rows w) (hp : p < w) : cN n "counts_at" [rowsD rows, .int p] S = some (cntD (colr rows p), S) := by
  obtain ⟨m, rfl, hm⟩ := pos_n hn
  rw [cN, callN_at fi_counts_at rfl]
  have hm1 := R.many
  have k1 := check_place_ok (S := S) hm R hp
  have k2 := raw_column_ok (S := S) (n := m) (by omega) R hp
  have k3 := raw_counts_ok (S := S) (n := m) (by omega) (t := colr rows p) (by rw [colr_len]; omega)
  rw [cN] at k1 k2 k3
  simp only [d_counts_at, k1, k2, k3, run, ev, evs, evT, evI, fin, Option.bind_some, Option.map_some, startE, List.map_cons, List.map_nil, List.length_cons, List.length_nil, List.cons_append, List.nil_append, List.replicate_succ, List.replicate_zero, Nat.reduceAdd, Nat.reduceSub, Nat.zero_add, List.getElem?_cons_zero, List.getElem?_cons_succ, List.set_cons_zero, List.set_cons_succ, wipeE, bindTg, setAll, retOf, cmpS, eq_ii, eq_ss, lt_ii, lt_ss, mem_s, p_add_i, p_sub_i, b_len_t, b_len_l, b_abs, b_int, b_tuple_l, b_list_t, b_list_l, m_count, i_tup, i_lv, atI_0, atI_1, atI_2, atI_3, atI_4, decide_eq_true_eq, Bool.not_true, Bool.not_false, Bool.false_eq_true, if_true, if_false, ite_true, ite_false, reduceIte, isNon, walkOf, walkS, isi_non_int, isi_non_str, isi_non_tuple, isi_non_list, isi_non_dict, isi_non_bool, isi_bl_int, isi_bl_str, isi_bl_tuple, isi_bl_list, isi_bl_dict, isi_bl_bool, isi_int_int, isi_int_str, isi_int_tuple, isi_int_list, isi_int_dict, isi_int_bool, isi_str_int, isi_str_str, isi_str_tuple, isi_str_list, isi_str_dict, isi_str_bool, isi_tup_int, isi_tup_str, isi_tup_tuple, isi_tup_list, isi_tup_dict, isi_tup_bool, isi_lv_int, isi_lv_str, isi_lv_tuple, isi_lv_list, isi_lv_dict, isi_lv_bool, isi_dv_int, isi_dv_str, isi_dv_tuple, isi_dv_list, isi_dv_dict, isi_dv_bool, isi_scr_int, isi_scr_str, isi_scr_tuple, isi_scr_list, isi_scr_dict, isi_scr_bool]
abbrev natsD (w : Nat) : D := .lv (intL 0 w)
end
end Pd

namespace Pd
open PySem PySem.Spec PyProof.Rows L2
section
variable {n : Nat} {S : Store}
theorem evp_rg {r0 w : Nat} (h : r0 = w) (hw : w ≤ 12) : rangeS [.int (r0 : Nat)] = some (intL 0 w) := by
  rw [range_1 (by omega), h, Int.toNat_natCast]
theorem ev_lrg1 {fu : Nat} {Φ : Calls} {ρ : Env} {S S1 : Store} {a : E} {x : D} {xs : List D} (h1 : ev fu Φ a ρ S = some (x, S1)) (h2 : rangeS [x] = some xs) (h3 : xs.length ≤ line) : ev fu Φ (.lrg1 false a) ρ S = some (.lv xs, S1) := by
  show ((ev fu Φ a ρ S).bind fun x => (rangeS [x.1]).bind fun xs => if xs.length ≤ line then some (fin false (.new (.lv xs)) x.2) else none) = _
  rw [h1, Option.bind_some, h2, Option.bind_some, if_pos h3]
  rfl
theorem every_place_ok (hn : 1 ≤ n) {rows : List (List Nat)} {w : Nat} (R : Rows rows w) : cN n "every_place" [rowsD rows] S = some (natsD w, S) := by
  obtain ⟨m, rfl, hm⟩ := pos_n hn
  rw [cN, callN_at fi_every_place rfl]
  obtain ⟨r0, h0, hr0⟩ := R.first
  have hw1 := R.w1
  have hl0 : r0.length ≤ line := by unfold line; omega
  have hix : (rows.map D.str)[0]? = some (.str r0) := by rw [List.getElem?_map, h0]; rfl
  have hrg := evp_rg hr0 hw1.2
  have hll : (intL 0 w).length ≤ line := by rw [intL_len]; unfold line; omega
  have he := ev_lrg1 (fu := 1000) (Φ := callN 1000 progL m) (ρ := [some (rowsD rows)]) (S := S) (S1 := S) (a := .blt .len false (.cons (.sub (.var 0) (.int 0)) .nil)) (x := .int (r0.length : Nat)) (by simp only [hix, b_len_s hl0, run, ev, evs, evT, evI, fin, Option.bind_some, Option.map_some, startE, List.map_cons, List.map_nil, List.length_cons, List.length_nil, List.cons_append, List.nil_append, List.replicate_succ, List.replicate_zero, Nat.reduceAdd, Nat.reduceSub, Nat.zero_add, List.getElem?_cons_zero, List.getElem?_cons_succ, List.set_cons_zero, List.set_cons_succ, wipeE, bindTg, setAll, retOf, cmpS, eq_ii, eq_ss, lt_ii, lt_ss, mem_s, p_add_i, p_sub_i, b_len_t, b_len_l, b_abs, b_int, b_tuple_l, b_list_t, b_list_l, m_count, i_tup, i_lv, atI_0, atI_1, atI_2, atI_3, atI_4, decide_eq_true_eq, Bool.not_true, Bool.not_false, Bool.false_eq_true, if_true, if_false, ite_true, ite_false, reduceIte, isNon, walkOf, walkS, isi_non_int, isi_non_str, isi_non_tuple, isi_non_list, isi_non_dict, isi_non_bool, isi_bl_int, isi_bl_str, isi_bl_tuple, isi_bl_list, isi_bl_dict, isi_bl_bool, isi_int_int, isi_int_str, isi_int_tuple, isi_int_list, isi_int_dict, isi_int_bool, isi_str_int, isi_str_str, isi_str_tuple, isi_str_list, isi_str_dict, isi_str_bool, isi_tup_int, isi_tup_str, isi_tup_tuple, isi_tup_list, isi_tup_dict, isi_tup_bool, isi_lv_int, isi_lv_str, isi_lv_tuple, isi_lv_list, isi_lv_dict, isi_lv_bool, isi_dv_int, isi_dv_str, isi_dv_tuple, isi_dv_list, isi_dv_dict, isi_dv_bool, isi_scr_int, isi_scr_str, isi_scr_tuple, isi_scr_list, isi_scr_dict, isi_scr_bool]) hrg hll
  have e0 : startE d_every_place.N.length [rowsD rows] = [some (rowsD rows)] := rfl
  rw [e0]
  show ((Option.map (fun x : D × Store => (Fl.rt x.1, x.2)) (ev 1000 (callN 1000 progL m) (.lrg1 false (.blt .len false (.cons (.sub (.var 0) (.int 0)) .nil))) [some (rowsD rows)] S)).bind _).bind retOf = _
  rw [he]
  rfl
end
end Pd

namespace Pd
open PySem PySem.Spec PyProof.Rows L2
section
variable {n : Nat} {S : Store}
theorem le_line {k : Nat} (h : k ≤ 1000000) : (k ≤ line) = True := eq_true (by unfold line; omega)
theorem eqS_ne_ii (i j : Int) : cmpS .ne (.int i) (.int j) S = some (!decide (i = j)) := by
  simp only [cmpS, eq_ii, Option.map_some]
/-- a place with one letter throughout -/
def alkB (t : List Nat) : Bool := decide (¬ t[0]?.getD 0 = 45) && decide (t.count (t[0]?.getD 0) = t.length)
theorem head_of {α : Type} {t : List α} (h : t ≠ []) : ∃ c, t[0]? = some c := by
  cases t with
  | nil => exact absurd rfl h
  | cons c r => exact ⟨c, rfl⟩
theorem is_alike_ok (hn : 1 ≤ n) {t : List Nat} (h0 : t ≠ []) (ht : t.length ≤ 1000) : cN n "is_alike" [.str t] S = some (.bl (alkB t), S) := by
  obtain ⟨m, rfl, hm⟩ := pos_n hn
  rw [cN, callN_at fi_is_alike rfl]
  have hl : t.length ≤ line := by unfold line; omega
  obtain ⟨c, hc0⟩ := head_of h0
  have hi : itemS (.str t) (.int 0) S = some (.str [c]) := by rw [i_str _ hl, atI_0, hc0]; rfl
  have hlen := b_len_s (S := S) hl
  have e2 : ((((t.count c : Nat) : Int)) = ((t.length : Nat) : Int)) = (t.count c = t.length) := propext (by omega)
  have e4 : ([c] = [45]) = (c = 45) := by simp
  have ha : alkB t = (decide (¬ c = 45) && decide (t.count c = t.length)) := by
    unfold alkB
    rw [hc0]
    rfl
  rw [ha]
  by_cases hc : c = 45
  · simp only [d_is_alike, hi, e4, hc, decide_true, run, ev, evs, evT, evI, fin, Option.bind_some, Option.map_some, startE, List.map_cons, List.map_nil, List.length_cons, List.length_nil, List.cons_append, List.nil_append, List.replicate_succ, List.replicate_zero, Nat.reduceAdd, Nat.reduceSub, Nat.zero_add, List.getElem?_cons_zero, List.getElem?_cons_succ, List.set_cons_zero, List.set_cons_succ, wipeE, bindTg, setAll, retOf, cmpS, eq_ii, eq_ss, lt_ii, lt_ss, mem_s, p_add_i, p_sub_i, b_len_t, b_len_l, b_abs, b_int, b_tuple_l, b_list_t, b_list_l, m_count, i_tup, i_lv, atI_0, atI_1, atI_2, atI_3, atI_4, decide_eq_true_eq, Bool.not_true, Bool.not_false, Bool.false_eq_true, if_true, if_false, ite_true, ite_false, reduceIte, isNon, walkOf, walkS, isi_non_int, isi_non_str, isi_non_tuple, isi_non_list, isi_non_dict, isi_non_bool, isi_bl_int, isi_bl_str, isi_bl_tuple, isi_bl_list, isi_bl_dict, isi_bl_bool, isi_int_int, isi_int_str, isi_int_tuple, isi_int_list, isi_int_dict, isi_int_bool, isi_str_int, isi_str_str, isi_str_tuple, isi_str_list, isi_str_dict, isi_str_bool, isi_tup_int, isi_tup_str, isi_tup_tuple, isi_tup_list, isi_tup_dict, isi_tup_bool, isi_lv_int, isi_lv_str, isi_lv_tuple, isi_lv_list, isi_lv_dict, isi_lv_bool, isi_dv_int, isi_dv_str, isi_dv_tuple, isi_dv_list, isi_dv_dict, isi_dv_bool, isi_scr_int, isi_scr_str, isi_scr_tuple, isi_scr_list, isi_scr_dict, isi_scr_bool]
    simp [retOf]
  · simp only [d_is_alike, hi, e4, hc, decide_false, ty_count, hlen, e2, run, ev, evs, evT, evI, fin, Option.bind_some, Option.map_some, startE, List.map_cons, List.map_nil, List.length_cons, List.length_nil, List.cons_append, List.nil_append, List.replicate_succ, List.replicate_zero, Nat.reduceAdd, Nat.reduceSub, Nat.zero_add, List.getElem?_cons_zero, List.getElem?_cons_succ, List.set_cons_zero, List.set_cons_succ, wipeE, bindTg, setAll, retOf, cmpS, eq_ii, eq_ss, lt_ii, lt_ss, mem_s, p_add_i, p_sub_i, b_len_t, b_len_l, b_abs, b_int, b_tuple_l, b_list_t, b_list_l, m_count, i_tup, i_lv, atI_0, atI_1, atI_2, atI_3, atI_4, decide_eq_true_eq, Bool.not_true, Bool.not_false, Bool.false_eq_true, if_true, if_false, ite_true, ite_false, reduceIte, isNon, walkOf, walkS, isi_non_int, isi_non_str, isi_non_tuple, isi_non_list, isi_non_dict, isi_non_bool, isi_bl_int, isi_bl_str, isi_bl_tuple, isi_bl_list, isi_bl_dict, isi_bl_bool, isi_int_int, isi_int_str, isi_int_tuple, isi_int_list, isi_int_dict, isi_int_bool, isi_str_int, isi_str_str, isi_str_tuple, isi_str_list, isi_str_dict, isi_str_bool, isi_tup_int, isi_tup_str, isi_tup_tuple, isi_tup_list, isi_tup_dict, isi_tup_bool, isi_lv_int, isi_lv_str, isi_lv_tuple, isi_lv_list, isi_lv_dict, isi_lv_bool, isi_dv_int, isi_dv_str, isi_dv_tuple, isi_dv_list, isi_dv_dict, isi_dv_bool, isi_scr_int, isi_scr_str, isi_scr_tuple, isi_scr_list, isi_scr_dict, isi_scr_bool]
    simp [retOf]
theorem retOf_rt (d : D) (S : Store) : retOf (.rt d, S) = some (d, S) := rfl
def alks (rows : List (List Nat)) (w : Nat) : List Nat := (List.range w).filter fun i => alkB (colr rows i)
abbrev natsOf (l : List Nat) : List D := l.map fun i : Nat => .int (0 + (i : Int))
theorem raw_alike_ok (hn : 2 ≤ n) {rows : List (List Nat)} {w : Nat} (R : Rows rows w) : cN n "raw_alike" [rowsD rows] S = some (.lv (natsOf (alks rows w)), S) := by
  obtain ⟨m, rfl, hm⟩ := pos_n hn
  rw [cN, callN_at fi_raw_alike rfl]
  have k1 := every_place_ok (S := S) (n := m) (by omega) R
  rw [cN] at k1
  have hm1 := R.many
  have hw1 := R.w1
  have hc : ev 1000 (callN 1000 progL m) d_raw_alike_c1 [some (rowsD rows), none] S = some (.lv (natsOf (alks rows w)), S) := by
    refine lc_filter (L := List.range w) (φ := fun i : Nat => .int (0 + (i : Int))) (fun i => alkB (colr rows i)) _ (by simp only [k1, natsD, intL, run, ev, evs, evT, evI, fin, Option.bind_some, Option.map_some, startE, List.map_cons, List.map_nil, List.length_cons, List.length_nil, List.cons_append, List.nil_append, List.replicate_succ, List.replicate_zero, Nat.reduceAdd, Nat.reduceSub, Nat.zero_add, List.getElem?_cons_zero, List.getElem?_cons_succ, List.set_cons_zero, List.set_cons_succ, wipeE, bindTg, setAll, retOf, cmpS, eq_ii, eq_ss, lt_ii, lt_ss, mem_s, p_add_i, p_sub_i, b_len_t, b_len_l, b_abs, b_int, b_tuple_l, b_list_t, b_list_l, m_count, i_tup, i_lv, atI_0, atI_1, atI_2, atI_3, atI_4, decide_eq_true_eq, Bool.not_true, Bool.not_false, Bool.false_eq_true, if_true, if_false, ite_true, ite_false, reduceIte, isNon, walkOf, walkS, isi_non_int, isi_non_str, isi_non_tuple, isi_non_list, isi_non_dict, isi_non_bool, isi_bl_int, isi_bl_str, isi_bl_tuple, isi_bl_list, isi_bl_dict, isi_bl_bool, isi_int_int, isi_int_str, isi_int_tuple, isi_int_list, isi_int_dict, isi_int_bool, isi_str_int, isi_str_str, isi_str_tuple, isi_str_list, isi_str_dict, isi_str_bool, isi_tup_int, isi_tup_str, isi_tup_tuple, isi_tup_list, isi_tup_dict, isi_tup_bool, isi_lv_int, isi_lv_str, isi_lv_tuple, isi_lv_list, isi_lv_dict, isi_lv_bool, isi_dv_int, isi_dv_str, isi_dv_tuple, isi_dv_list, isi_dv_dict, isi_dv_bool, isi_scr_int, isi_scr_str, isi_scr_tuple, isi_scr_list, isi_scr_dict, isi_scr_bool]) (fun i hi => ?_) (by rw [List.length_range]; unfold line; omega)
    have hi' : i < w := List.mem_range.mp hi
    have k2 := raw_column_ok (S := S) (n := m) (by omega) R hi'
    have k3 := is_alike_ok (S := S) (n := m) (by omega) (t := colr rows i) (by intro z; have := colr_len rows i; rw [z] at this; simp at this; omega) (by rw [colr_len]; omega)
    rw [cN] at k2 k3
    have e : (0 : Int) + (i : Int) = (i : Int) := by omega
    simp only [turnF, e, k2, k3, run, ev, evs, evT, evI, fin, Option.bind_some, Option.map_some, startE, List.map_cons, List.map_nil, List.length_cons, List.length_nil, List.cons_append, List.nil_append, List.replicate_succ, List.replicate_zero, Nat.reduceAdd, Nat.reduceSub, Nat.zero_add, List.getElem?_cons_zero, List.getElem?_cons_succ, List.set_cons_zero, List.set_cons_succ, wipeE, bindTg, setAll, retOf, cmpS, eq_ii, eq_ss, lt_ii, lt_ss, mem_s, p_add_i, p_sub_i, b_len_t, b_len_l, b_abs, b_int, b_tuple_l, b_list_t, b_list_l, m_count, i_tup, i_lv, atI_0, atI_1, atI_2, atI_3, atI_4, decide_eq_true_eq, Bool.not_true, Bool.not_false, Bool.false_eq_true, if_true, if_false, ite_true, ite_false, reduceIte, isNon, walkOf, walkS, isi_non_int, isi_non_str, isi_non_tuple, isi_non_list, isi_non_dict, isi_non_bool, isi_bl_int, isi_bl_str, isi_bl_tuple, isi_bl_list, isi_bl_dict, isi_bl_bool, isi_int_int, isi_int_str, isi_int_tuple, isi_int_list, isi_int_dict, isi_int_bool, isi_str_int, isi_str_str, isi_str_tuple, isi_str_list, isi_str_dict, isi_str_bool, isi_tup_int, isi_tup_str, isi_tup_tuple, isi_tup_list, isi_tup_dict, isi_tup_bool, isi_lv_int, isi_lv_str, isi_lv_tuple, isi_lv_list, isi_lv_dict, isi_lv_bool, isi_dv_int, isi_dv_str, isi_dv_tuple, isi_dv_list, isi_dv_dict, isi_dv_bool, isi_scr_int, isi_scr_str, isi_scr_tuple, isi_scr_list, isi_scr_dict, isi_scr_bool]
    split <;> rfl
  simp only [d_raw_alike, hc, run, ev, evs, evT, evI, fin, Option.bind_some, Option.map_some, startE, List.map_cons, List.map_nil, List.length_cons, List.length_nil, List.cons_append, List.nil_append, List.replicate_succ, List.replicate_zero, Nat.reduceAdd, Nat.reduceSub, Nat.zero_add, List.getElem?_cons_zero, List.getElem?_cons_succ, List.set_cons_zero, List.set_cons_succ, wipeE, bindTg, setAll, retOf, cmpS, eq_ii, eq_ss, lt_ii, lt_ss, mem_s, p_add_i, p_sub_i, b_len_t, b_len_l, b_abs, b_int, b_tuple_l, b_list_t, b_list_l, m_count, i_tup, i_lv, atI_0, atI_1, atI_2, atI_3, atI_4, decide_eq_true_eq, Bool.not_true, Bool.not_false, Bool.false_eq_true, if_true, if_false, ite_true, ite_false, reduceIte, isNon, walkOf, walkS, isi_non_int, isi_non_str, isi_non_tuple, isi_non_list, isi_non_dict, isi_non_bool, isi_bl_int, isi_bl_str, isi_bl_tuple, isi_bl_list, isi_bl_dict, isi_bl_bool, isi_int_int, isi_int_str, isi_int_tuple, isi_int_list, isi_int_dict, isi_int_bool, isi_str_int, isi_str_str, isi_str_tuple, isi_str_list, isi_str_dict, isi_str_bool, isi_tup_int, isi_tup_str, isi_tup_tuple, isi_tup_list, isi_tup_dict, isi_tup_bool, isi_lv_int, isi_lv_str, isi_lv_tuple, isi_lv_list, isi_lv_dict, isi_lv_bool, isi_dv_int, isi_dv_str, isi_dv_tuple, isi_dv_list, isi_dv_dict, isi_dv_bool, isi_scr_int, isi_scr_str, isi_scr_tuple, isi_scr_list, isi_scr_dict, isi_scr_bool]
theorem alike_places_ok (hn : 4 ≤ n) {rows : List (List Nat)} {w : Nat} (R : Rows rows w) : cN n "alike_places" [rowsD rows] S = some (.tup (natsOf (alks rows w)), S) := by
  obtain ⟨m, rfl, hm⟩ := pos_n hn
  rw [cN, callN_at fi_alike_places rfl]
  have k1 := check_rows_ok (S := S) (n := m) (by omega) R
  have k2 := raw_alike_ok (S := S) (n := m) (by omega) R
  rw [cN] at k1 k2
  simp only [d_alike_places, k1, k2, run, ev, evs, evT, evI, fin, Option.bind_some, Option.map_some, startE, List.map_cons, List.map_nil, List.length_cons, List.length_nil, List.cons_append, List.nil_append, List.replicate_succ, List.replicate_zero, Nat.reduceAdd, Nat.reduceSub, Nat.zero_add, List.getElem?_cons_zero, List.getElem?_cons_succ, List.set_cons_zero, List.set_cons_succ, wipeE, bindTg, setAll, retOf, cmpS, eq_ii, eq_ss, lt_ii, lt_ss, mem_s, p_add_i, p_sub_i, b_len_t, b_len_l, b_abs, b_int, b_tuple_l, b_list_t, b_list_l, m_count, i_tup, i_lv, atI_0, atI_1, atI_2, atI_3, atI_4, decide_eq_true_eq, Bool.not_true, Bool.not_false, Bool.false_eq_true, if_true, if_false, ite_true, ite_false, reduceIte, isNon, walkOf, walkS, isi_non_int, isi_non_str, isi_non_tuple, isi_non_list, isi_non_dict, isi_non_bool, isi_bl_int, isi_bl_str, isi_bl_tuple, isi_bl_list, isi_bl_dict, isi_bl_bool, isi_int_int, isi_int_str, isi_int_tuple, isi_int_list, isi_int_dict, isi_int_bool, isi_str_int, isi_str_str, isi_str_tuple, isi_str_list, isi_str_dict, isi_str_bool, isi_tup_int, isi_tup_str, isi_tup_tuple, isi_tup_list, isi_tup_dict, isi_tup_bool, isi_lv_int, isi_lv_str, isi_lv_tuple, isi_lv_list, isi_lv_dict, isi_lv_bool, isi_dv_int, isi_dv_str, isi_dv_tuple, isi_dv_list, isi_dv_dict, isi_dv_bool, isi_scr_int, isi_scr_str, isi_scr_tuple, isi_scr_list, isi_scr_dict, isi_scr_bool]
/-- the gaps of a row -/
def gaps (rows : List (List Nat)) (w k : Nat) : List Nat := (List.range w).filter fun i => decide ((rows[k]?.getD [])[i]?.getD 0 = 45)
theorem gap_places_ok (hn : 4 ≤ n) {rows : List (List Nat)} {w k : Nat} (R : Rows rows w) (hk : k < rows.length) : cN n "gap_places" [rowsD rows, .int k] S = some (.tup (natsOf (gaps rows w k)), S) := by
  obtain ⟨m, rfl, hm⟩ := pos_n hn
  rw [cN, callN_at fi_gap_places rfl]
  have hm1 := R.many
  have hw1 := R.w1
  have k1 := check_rows_ok (S := S) (n := m) (by omega) R
  have k2 := every_place_ok (S := S) (n := m) (by omega) R
  have k3 := is_integer_ok (S := S) (n := m) (by omega) (k : Nat)
  have k4 := is_within_ok (S := S) (n := m) (by omega) (x := k) (a := 0) (b := ((rows.map D.str).length : Int) - 1) (by rw [List.length_map]; omega)
  rw [cN] at k1 k2 k3 k4
  have hr0 : rows[k]? = some (rows[k]) := List.getElem?_eq_getElem hk
  have hrk : (rows.map D.str)[k]? = some (.str rows[k]) := by rw [List.getElem?_map, hr0]; rfl
  have hlr : (rows[k]).length = w := R.wide _ (List.getElem_mem hk)
  have hc : ev 1000 (callN 1000 progL m) d_gap_places_c1 [some (rowsD rows), some (.int k), none] S = some (.lv (natsOf (gaps rows w k)), S) := by
    refine lc_filter (L := List.range w) (φ := fun i : Nat => .int (0 + (i : Int))) (fun i => decide ((rows[k]?.getD [])[i]?.getD 0 = 45)) _ (by simp only [k2, natsD, intL, run, ev, evs, evT, evI, fin, Option.bind_some, Option.map_some, startE, List.map_cons, List.map_nil, List.length_cons, List.length_nil, List.cons_append, List.nil_append, List.replicate_succ, List.replicate_zero, Nat.reduceAdd, Nat.reduceSub, Nat.zero_add, List.getElem?_cons_zero, List.getElem?_cons_succ, List.set_cons_zero, List.set_cons_succ, wipeE, bindTg, setAll, retOf, cmpS, eq_ii, eq_ss, lt_ii, lt_ss, mem_s, p_add_i, p_sub_i, b_len_t, b_len_l, b_abs, b_int, b_tuple_l, b_list_t, b_list_l, m_count, i_tup, i_lv, atI_0, atI_1, atI_2, atI_3, atI_4, decide_eq_true_eq, Bool.not_true, Bool.not_false, Bool.false_eq_true, if_true, if_false, ite_true, ite_false, reduceIte, isNon, walkOf, walkS, isi_non_int, isi_non_str, isi_non_tuple, isi_non_list, isi_non_dict, isi_non_bool, isi_bl_int, isi_bl_str, isi_bl_tuple, isi_bl_list, isi_bl_dict, isi_bl_bool, isi_int_int, isi_int_str, isi_int_tuple, isi_int_list, isi_int_dict, isi_int_bool, isi_str_int, isi_str_str, isi_str_tuple, isi_str_list, isi_str_dict, isi_str_bool, isi_tup_int, isi_tup_str, isi_tup_tuple, isi_tup_list, isi_tup_dict, isi_tup_bool, isi_lv_int, isi_lv_str, isi_lv_tuple, isi_lv_list, isi_lv_dict, isi_lv_bool, isi_dv_int, isi_dv_str, isi_dv_tuple, isi_dv_list, isi_dv_dict, isi_dv_bool, isi_scr_int, isi_scr_str, isi_scr_tuple, isi_scr_list, isi_scr_dict, isi_scr_bool]) (fun i hi => ?_) (by rw [List.length_range]; unfold line; omega)
    have hi' : i < w := List.mem_range.mp hi
    have hl : (rows[k]).length ≤ line := by unfold line; omega
    have e : (0 : Int) + (i : Int) = (i : Int) := by omega
    have hii : (rows[k])[i]? = some ((rows[k])[i]?.getD 0) := by
      have : i < (rows[k]).length := by omega
      rw [List.getElem?_eq_getElem this]
      rfl
    have hit : itemS (.str rows[k]) (.int (i : Nat)) S = some (.str [(rows[k])[i]?.getD 0]) := by
      rw [i_str _ hl, atI_nat', hii]
      rfl
    rw [hr0]
    simp only [turnF, e, atI_nat', hrk, hit, Option.getD_some, List.cons.injEq, and_true, run, ev, evs, evT, evI, fin, Option.bind_some, Option.map_some, startE, List.map_cons, List.map_nil, List.length_cons, List.length_nil, List.cons_append, List.nil_append, List.replicate_succ, List.replicate_zero, Nat.reduceAdd, Nat.reduceSub, Nat.zero_add, List.getElem?_cons_zero, List.getElem?_cons_succ, List.set_cons_zero, List.set_cons_succ, wipeE, bindTg, setAll, retOf, cmpS, eq_ii, eq_ss, lt_ii, lt_ss, mem_s, p_add_i, p_sub_i, b_len_t, b_len_l, b_abs, b_int, b_tuple_l, b_list_t, b_list_l, m_count, i_tup, i_lv, atI_0, atI_1, atI_2, atI_3, atI_4, decide_eq_true_eq, Bool.not_true, Bool.not_false, Bool.false_eq_true, if_true, if_false, ite_true, ite_false, reduceIte, isNon, walkOf, walkS, isi_non_int, isi_non_str, isi_non_tuple, isi_non_list, isi_non_dict, isi_non_bool, isi_bl_int, isi_bl_str, isi_bl_tuple, isi_bl_list, isi_bl_dict, isi_bl_bool, isi_int_int, isi_int_str, isi_int_tuple, isi_int_list, isi_int_dict, isi_int_bool, isi_str_int, isi_str_str, isi_str_tuple, isi_str_list, isi_str_dict, isi_str_bool, isi_tup_int, isi_tup_str, isi_tup_tuple, isi_tup_list, isi_tup_dict, isi_tup_bool, isi_lv_int, isi_lv_str, isi_lv_tuple, isi_lv_list, isi_lv_dict, isi_lv_bool, isi_dv_int, isi_dv_str, isi_dv_tuple, isi_dv_list, isi_dv_dict, isi_dv_bool, isi_scr_int, isi_scr_str, isi_scr_tuple, isi_scr_list, isi_scr_dict, isi_scr_bool]
    split <;> rfl
  simp only [d_gap_places, k1, k3, k4, hc, run, ev, evs, evT, evI, fin, Option.bind_some, Option.map_some, startE, List.map_cons, List.map_nil, List.length_cons, List.length_nil, List.cons_append, List.nil_append, List.replicate_succ, List.replicate_zero, Nat.reduceAdd, Nat.reduceSub, Nat.zero_add, List.getElem?_cons_zero, List.getElem?_cons_succ, List.set_cons_zero, List.set_cons_succ, wipeE, bindTg, setAll, retOf, cmpS, eq_ii, eq_ss, lt_ii, lt_ss, mem_s, p_add_i, p_sub_i, b_len_t, b_len_l, b_abs, b_int, b_tuple_l, b_list_t, b_list_l, m_count, i_tup, i_lv, atI_0, atI_1, atI_2, atI_3, atI_4, decide_eq_true_eq, Bool.not_true, Bool.not_false, Bool.false_eq_true, if_true, if_false, ite_true, ite_false, reduceIte, isNon, walkOf, walkS, isi_non_int, isi_non_str, isi_non_tuple, isi_non_list, isi_non_dict, isi_non_bool, isi_bl_int, isi_bl_str, isi_bl_tuple, isi_bl_list, isi_bl_dict, isi_bl_bool, isi_int_int, isi_int_str, isi_int_tuple, isi_int_list, isi_int_dict, isi_int_bool, isi_str_int, isi_str_str, isi_str_tuple, isi_str_list, isi_str_dict, isi_str_bool, isi_tup_int, isi_tup_str, isi_tup_tuple, isi_tup_list, isi_tup_dict, isi_tup_bool, isi_lv_int, isi_lv_str, isi_lv_tuple, isi_lv_list, isi_lv_dict, isi_lv_bool, isi_dv_int, isi_dv_str, isi_dv_tuple, isi_dv_list, isi_dv_dict, isi_dv_bool, isi_scr_int, isi_scr_str, isi_scr_tuple, isi_scr_list, isi_scr_dict, isi_scr_bool]
end
end Pd

namespace Pd
open PySem PySem.Spec PyProof.Rows L2
section
variable {n : Nat} {S : Store}
/-! ### counting -/
def addN (acc : List Nat) (c : Nat) : List Nat := if c ∈ acc then acc else acc ++ [c]
/-- the signs in the order in which they first stand -/
def firsts (t : List Nat) : List Nat := t.foldl addN []
theorem dPutV_map (f : Nat → D) (c : Nat) : ∀ L : List Nat, dPutV (.s [c]) (f c) (L.map fun c => .s [c]) (L.map f) = L.map f
  | [] => rfl
  | d :: L => by
    rw [List.map_cons, List.map_cons, dPutV, dPutV_map f c L]
    by_cases h : d = c
    · subst h
      rw [if_pos rfl]
    · rw [if_neg (by simpa using h)]
theorem any_key (c : Nat) (L : List Nat) : (L.map fun c => DK.s [c]).any (fun j => decide (j = .s [c])) = decide (c ∈ L) := by
  rw [Bool.eq_iff_iff, List.any_eq_true, decide_eq_true_eq]
  constructor
  · rintro ⟨j, hj, e⟩
    obtain ⟨d, hd, rfl⟩ := List.mem_map.mp hj
    have : d = c := by simpa using of_decide_eq_true e
    exact this ▸ hd
  · intro h
    exact ⟨.s [c], List.mem_map.mpr ⟨c, h, rfl⟩, by simp⟩
theorem fold_firsts (f : Nat → D) : ∀ (l acc : List Nat), foldPut (l.map fun c => (DK.s [c], f c)) (acc.map (fun c => .s [c]), acc.map f) = ((l.foldl addN acc).map (fun c => .s [c]), (l.foldl addN acc).map f)
  | [], _ => rfl
  | c :: l, acc => by
    rw [List.map_cons, foldPut, List.foldl_cons]
    have e : dPut (.s [c]) (f c) (acc.map fun c => .s [c]) (acc.map f) = ((addN acc c).map (fun c => .s [c]), (addN acc c).map f) := by
      unfold dPut addN
      rw [any_key]
      by_cases h : c ∈ acc
      · rw [if_pos (decide_eq_true h), if_pos h, dPutV_map]
      · rw [if_neg (by simpa using h), if_neg h, List.map_append, List.map_append]
        rfl
    rw [e]
    exact fold_firsts f l _
theorem cnts_eq (t : List Nat) : cnts t = ((firsts t).map (fun c => .s [c]), (firsts t).map fun c => .int (t.count c : Nat)) := fold_firsts (fun c => .int (t.count c : Nat)) t []
theorem mem_addN {acc : List Nat} {c d : Nat} : d ∈ addN acc c ↔ d ∈ acc ∨ d = c := by
  unfold addN
  split
  · rename_i h
    constructor
    · exact .inl
    · rintro (h' | rfl)
      · exact h'
      · exact h
  · simp
theorem mem_fold : ∀ (l acc : List Nat) (d : Nat), d ∈ l.foldl addN acc ↔ d ∈ acc ∨ d ∈ l
  | [], acc, d => by simp
  | c :: l, acc, d => by
    rw [List.foldl_cons, mem_fold l, mem_addN, List.mem_cons]
    constructor
    · rintro ((h | h) | h)
      · exact .inl h
      · exact .inr (.inl h)
      · exact .inr (.inr h)
    · rintro (h | h | h)
      · exact .inl (.inl h)
      · exact .inl (.inr h)
      · exact .inr h
theorem mem_firsts {t : List Nat} {d : Nat} : d ∈ firsts t ↔ d ∈ t := by
  unfold firsts
  rw [mem_fold]
  simp
theorem nodup_addN {acc : List Nat} {c : Nat} (h : acc.Nodup) : (addN acc c).Nodup := by
  unfold addN
  split
  · exact h
  · rename_i hc
    rw [List.nodup_append]
    exact ⟨h, by simp, fun x hx y hy e => hc (by rw [List.mem_singleton.mp hy] at e; exact e ▸ hx)⟩
theorem nodup_firsts (t : List Nat) : (firsts t).Nodup := by
  have go : ∀ (l acc : List Nat), acc.Nodup → (l.foldl addN acc).Nodup := by
    intro l
    induction l with
    | nil => exact fun _ h => h
    | cons c l ih => exact fun acc h => ih _ (nodup_addN h)
  exact go t [] List.nodup_nil
theorem len_firsts (t : List Nat) : (firsts t).length ≤ t.length := by
  have go : ∀ (l acc : List Nat), (l.foldl addN acc).length ≤ acc.length + l.length := by
    intro l
    induction l with
    | nil => exact fun _ => Nat.le_refl _
    | cons c l ih =>
      intro acc
      have h1 := ih (addN acc c)
      have h2 : (addN acc c).length ≤ acc.length + 1 := by
        unfold addN
        split
        · exact Nat.le_succ _
        · simp
      rw [List.foldl_cons, List.length_cons]
      omega
  have h := go t []
  rw [List.length_nil, Nat.zero_add] at h
  exact h
theorem look_firsts (f : Nat → D) {c : Nat} : ∀ {L : List Nat}, c ∈ L → dLook (.s [c]) (L.map fun c => .s [c]) (L.map f) = some (f c)
  | [], h => by cases h
  | d :: L, h => by
    rw [List.map_cons, List.map_cons, dLook]
    by_cases e : d = c
    · subst e
      rw [if_pos rfl]
    · rw [if_neg (by simpa using e)]
      rcases List.mem_cons.mp h with h | h
      · exact absurd h.symm e
      · exact look_firsts f h
theorem i_cnt {t : List Nat} {c : Nat} (h : c ∈ t) : itemS (cntD t) (.str [c]) S = some (.int (t.count c : Nat)) := by
  have e : itemS (cntD t) (.str [c]) S = dLook (.s [c]) (cnts t).1 (cnts t).2 := by
    show (if DK.fits (.s [c]) false = true then dLook (.s [c]) (cnts t).1 (cnts t).2 else none) = _
    rw [if_pos (show DK.fits (.s [c]) false = true from rfl)]
  rw [e, cnts_eq]
  exact look_firsts (fun c => .int (t.count c : Nat)) (mem_firsts.mpr h)
theorem w_cnt (t : List Nat) : walkOf S (cntD t) = some (.fix ((firsts t).map fun c => .str [c])) := by
  show some (W.fix ((cnts t).1.map dkD)) = _
  rw [cnts_eq, List.map_map]
  rfl
/-! ### the sign that most have -/
/-- better: more often, else the less -/
def betB (f : Nat → Nat) (x y : Nat) : Bool := decide (f y < f x ∨ (f x = f y ∧ x < y))
def bst (f : Nat → Nat) (x : Nat) (xs : List Nat) : Nat := xs.foldl (fun a y => if betB f y a = true then y else a) x
abbrev negT (f : Nat → Nat) (c : Nat) : D := .tup [.int (-((f c : Nat) : Int)), .str [c]]
theorem lt_negT (f : Nat → Nat) (x y : Nat) : PySem.W.dataLt (py (negT f x)) (py (negT f y)) = betB f x y := by
  simp only [negT, py, pys]
  rw [PySem.W.dataLt_pair rfl rfl]
  simp only [PyData.eqv, PySem.W.dataLt_int, PySem.W.dataLt_str]
  have e1 : (sOf [x] == sOf [y]) = decide (x = y) := by
    rw [sOf_beq]
    exact decide_eq_decide.mpr (by simp)
  have e2 : ((-((f x : Nat) : Int)) == (-((f y : Nat) : Int))) = decide (f x = f y) := by
    rw [Bool.eq_iff_iff, beq_iff_eq, decide_eq_true_eq]
    omega
  have e3 : decide ((⟨#[x]⟩ : Str).cps.toList < (⟨#[y]⟩ : Str).cps.toList) = decide (x < y) := by
    apply decide_eq_decide.mpr
    show [x] < [y] ↔ x < y
    rw [List.cons_lt_cons_iff]
    simp
  unfold betB
  rw [Bool.eq_iff_iff]
  by_cases h : f x = f y
  · by_cases g : x = y
    · simp [e1, e2, h, g]
    · rw [e2, e1, e3]
      simp only [h, g, decide_true, decide_false, if_true, Bool.false_eq_true, if_false, decide_eq_true_eq, Nat.lt_irrefl, false_or, true_and]
  · rw [e2]
    simp only [h, decide_false, Bool.false_eq_true, if_false, decide_eq_true_eq, false_and, or_false]
    omega
theorem minL_bst (f : Nat → Nat) : ∀ (xs : List Nat) (x : Nat), minL (negT f x) (xs.map (negT f)) = negT f (bst f x xs)
  | [], _ => rfl
  | y :: xs, x => by
    rw [List.map_cons]
    show List.foldl _ (if PySem.W.dataLt (py (negT f y)) (py (negT f x)) then negT f y else negT f x) (xs.map (negT f)) = _
    rw [lt_negT]
    have e : (if betB f y x = true then negT f y else negT f x) = negT f (if betB f y x = true then y else x) := by split <;> rfl
    rw [e]
    exact minL_bst f xs _
theorem alike_negT (f : Nat → Nat) (xs : List Nat) : alikeL (xs.map (negT f)) = true := by
  unfold alikeL
  rw [Bool.and_eq_true, List.all_eq_true, List.all_eq_true]
  refine ⟨fun d hd => ?_, fun d hd => ?_⟩
  · obtain ⟨c, _, rfl⟩ := List.mem_map.mp hd
    rfl
  · obtain ⟨c, _, rfl⟩ := List.mem_map.mp hd
    rw [Bool.and_eq_true, List.all_eq_true]
    refine ⟨rfl, fun e he => ?_⟩
    obtain ⟨c', _, rfl⟩ := List.mem_map.mp he
    rfl
theorem b_min_neg (f : Nat → Nat) (x : Nat) (xs : List Nat) : bltS .min [.lv (negT f x :: xs.map (negT f))] S = some (.val (negT f (bst f x xs))) := by
  have h := alike_negT f (x :: xs)
  rw [List.map_cons] at h
  show (if alikeL (negT f x :: xs.map (negT f)) = true then some (PR.val (minL (negT f x) (xs.map (negT f)))) else none) = _
  rw [if_pos h, minL_bst]
/-- the sign that stands most often, the least of such -/
def mostC (t : List Nat) : Nat := match firsts t with
  | [] => 0
  | x :: xs => bst (fun c => t.count c) x xs
theorem most_of_ok (hn : 2 ≤ n) {t : List Nat} (h0 : t ≠ []) (ht : t.length ≤ 1000) : cN n "most_of" [.str t] S = some (.str [mostC t], S) := by
  obtain ⟨m, rfl, hm⟩ := pos_n hn
  rw [cN, callN_at fi_most_of rfl]
  have k1 := raw_counts_ok (S := S) (n := m) (by omega) ht
  rw [cN] at k1
  have hc : ev 1000 (callN 1000 progL m) d_most_of_c1 [some (.str t), some (cntD t), none] S = some (.lv ((firsts t).map (negT fun c => t.count c)), S) := by
    refine lc_map (φ := fun c => .str [c]) _ (by simp only [run, ev, evs, evT, evI, fin, Option.bind_some, Option.map_some, startE, List.map_cons, List.map_nil, List.length_cons, List.length_nil, List.cons_append, List.nil_append, List.replicate_succ, List.replicate_zero, Nat.reduceAdd, Nat.reduceSub, Nat.zero_add, List.getElem?_cons_zero, List.getElem?_cons_succ, List.set_cons_zero, List.set_cons_succ, wipeE, bindTg, setAll, retOf, cmpS, eq_ii, eq_ss, lt_ii, lt_ss, mem_s, p_add_i, p_sub_i, b_len_t, b_len_l, b_abs, b_int, b_tuple_l, b_list_t, b_list_l, m_count, i_tup, i_lv, atI_0, atI_1, atI_2, atI_3, atI_4, decide_eq_true_eq, Bool.not_true, Bool.not_false, Bool.false_eq_true, if_true, if_false, ite_true, ite_false, reduceIte, isNon, walkOf, walkS, isi_non_int, isi_non_str, isi_non_tuple, isi_non_list, isi_non_dict, isi_non_bool, isi_bl_int, isi_bl_str, isi_bl_tuple, isi_bl_list, isi_bl_dict, isi_bl_bool, isi_int_int, isi_int_str, isi_int_tuple, isi_int_list, isi_int_dict, isi_int_bool, isi_str_int, isi_str_str, isi_str_tuple, isi_str_list, isi_str_dict, isi_str_bool, isi_tup_int, isi_tup_str, isi_tup_tuple, isi_tup_list, isi_tup_dict, isi_tup_bool, isi_lv_int, isi_lv_str, isi_lv_tuple, isi_lv_list, isi_lv_dict, isi_lv_bool, isi_dv_int, isi_dv_str, isi_dv_tuple, isi_dv_list, isi_dv_dict, isi_dv_bool, isi_scr_int, isi_scr_str, isi_scr_tuple, isi_scr_list, isi_scr_dict, isi_scr_bool]; rw [cnts_eq, List.map_map]; rfl) (fun c hc => ?_) (by have := len_firsts t; unfold line; omega)
    have e2 : (2 ≤ line) = True := le_line (by omega)
    simp only [turnF, i_cnt (mem_firsts.mp hc), e2, run, ev, evs, evT, evI, fin, Option.bind_some, Option.map_some, startE, List.map_cons, List.map_nil, List.length_cons, List.length_nil, List.cons_append, List.nil_append, List.replicate_succ, List.replicate_zero, Nat.reduceAdd, Nat.reduceSub, Nat.zero_add, List.getElem?_cons_zero, List.getElem?_cons_succ, List.set_cons_zero, List.set_cons_succ, wipeE, bindTg, setAll, retOf, cmpS, eq_ii, eq_ss, lt_ii, lt_ss, mem_s, p_add_i, p_sub_i, b_len_t, b_len_l, b_abs, b_int, b_tuple_l, b_list_t, b_list_l, m_count, i_tup, i_lv, atI_0, atI_1, atI_2, atI_3, atI_4, decide_eq_true_eq, Bool.not_true, Bool.not_false, Bool.false_eq_true, if_true, if_false, ite_true, ite_false, reduceIte, isNon, walkOf, walkS, isi_non_int, isi_non_str, isi_non_tuple, isi_non_list, isi_non_dict, isi_non_bool, isi_bl_int, isi_bl_str, isi_bl_tuple, isi_bl_list, isi_bl_dict, isi_bl_bool, isi_int_int, isi_int_str, isi_int_tuple, isi_int_list, isi_int_dict, isi_int_bool, isi_str_int, isi_str_str, isi_str_tuple, isi_str_list, isi_str_dict, isi_str_bool, isi_tup_int, isi_tup_str, isi_tup_tuple, isi_tup_list, isi_tup_dict, isi_tup_bool, isi_lv_int, isi_lv_str, isi_lv_tuple, isi_lv_list, isi_lv_dict, isi_lv_bool, isi_dv_int, isi_dv_str, isi_dv_tuple, isi_dv_list, isi_dv_dict, isi_dv_bool, isi_scr_int, isi_scr_str, isi_scr_tuple, isi_scr_list, isi_scr_dict, isi_scr_bool]
  have hf : firsts t ≠ [] := by
    obtain ⟨c, hc⟩ := head_of h0
    intro z
    have : c ∈ firsts t := mem_firsts.mpr (List.mem_of_getElem? hc)
    rw [z] at this
    cases this
  obtain ⟨x, xs, e⟩ : ∃ x xs, firsts t = x :: xs := by
    cases h : firsts t with
    | nil => exact absurd h hf
    | cons x xs => exact ⟨x, xs, rfl⟩
  have em : mostC t = bst (fun c => t.count c) x xs := by unfold mostC; rw [e]
  rw [e] at hc
  rw [em]
  simp only [d_most_of, k1, hc, b_min_neg, run, ev, evs, evT, evI, fin, Option.bind_some, Option.map_some, startE, List.map_cons, List.map_nil, List.length_cons, List.length_nil, List.cons_append, List.nil_append, List.replicate_succ, List.replicate_zero, Nat.reduceAdd, Nat.reduceSub, Nat.zero_add, List.getElem?_cons_zero, List.getElem?_cons_succ, List.set_cons_zero, List.set_cons_succ, wipeE, bindTg, setAll, retOf, cmpS, eq_ii, eq_ss, lt_ii, lt_ss, mem_s, p_add_i, p_sub_i, b_len_t, b_len_l, b_abs, b_int, b_tuple_l, b_list_t, b_list_l, m_count, i_tup, i_lv, atI_0, atI_1, atI_2, atI_3, atI_4, decide_eq_true_eq, Bool.not_true, Bool.not_false, Bool.false_eq_true, if_true, if_false, ite_true, ite_false, reduceIte, isNon, walkOf, walkS, isi_non_int, isi_non_str, isi_non_tuple, isi_non_list, isi_non_dict, isi_non_bool, isi_bl_int, isi_bl_str, isi_bl_tuple, isi_bl_list, isi_bl_dict, isi_bl_bool, isi_int_int, isi_int_str, isi_int_tuple, isi_int_list, isi_int_dict, isi_int_bool, isi_str_int, isi_str_str, isi_str_tuple, isi_str_list, isi_str_dict, isi_str_bool, isi_tup_int, isi_tup_str, isi_tup_tuple, isi_tup_list, isi_tup_dict, isi_tup_bool, isi_lv_int, isi_lv_str, isi_lv_tuple, isi_lv_list, isi_lv_dict, isi_lv_bool, isi_dv_int, isi_dv_str, isi_dv_tuple, isi_dv_list, isi_dv_dict, isi_dv_bool, isi_scr_int, isi_scr_str, isi_scr_tuple, isi_scr_list, isi_scr_dict, isi_scr_bool]
end
end Pd

namespace Pd
open PySem PySem.Spec PyProof.Rows L2
section
variable {n : Nat} {S : Store}
def mosts (rows : List (List Nat)) (w : Nat) : List Nat := (List.range w).map fun i => mostC (colr rows i)
theorem colr_ne {rows : List (List Nat)} {w : Nat} (R : Rows rows w) (p : Nat) : colr rows p ≠ [] := by
  intro z
  have := colr_len rows p
  have := R.many
  rw [z] at *
  simp at *
  omega
theorem join_signs (l : List Nat) (hl : l.length ≤ 1000) : mthS .join (.str []) [.lv (l.map fun c => .str [c])] S = some (.str l, S) := by
  have e : (l.map fun c => D.str [c]) = (l.map fun c => [c]).map .str := by rw [List.map_map]; rfl
  rw [e, m_join_l]
  · rw [joinL_nil, flat_single (fun c => c)]
    simp
  · rw [sum_single (fun c => c), List.length_map]
    simp only [List.length_nil, Nat.mul_zero, Nat.add_zero]
    unfold line
    omega
theorem most_at_ok (hn : 4 ≤ n) {rows : List (List Nat)} {w : Nat} (R : Rows rows w) : cN n "most_at" [rowsD rows] S = some (.str (mosts rows w), S) := by
  obtain ⟨m, rfl, hm⟩ := pos_n hn
  rw [cN, callN_at fi_most_at rfl]
  have k0 := check_rows_ok (S := S) (n := m) (by omega) R
  have k1 := every_place_ok (S := S) (n := m) (by omega) R
  rw [cN] at k0 k1
  have hm1 := R.many
  have hw1 := R.w1
  have hc : ev 1000 (callN 1000 progL m) d_most_at_c1 [some (rowsD rows), none] S = some (.lv ((mosts rows w).map fun c => .str [c]), S) := by
    unfold mosts
    rw [List.map_map]
    refine lc_map (L := List.range w) (φ := fun i : Nat => .int (0 + (i : Int))) _ (by simp only [k1, natsD, intL, run, ev, evs, evT, evI, fin, Option.bind_some, Option.map_some, startE, List.map_cons, List.map_nil, List.length_cons, List.length_nil, List.cons_append, List.nil_append, List.replicate_succ, List.replicate_zero, Nat.reduceAdd, Nat.reduceSub, Nat.zero_add, List.getElem?_cons_zero, List.getElem?_cons_succ, List.set_cons_zero, List.set_cons_succ, wipeE, bindTg, setAll, retOf, cmpS, eq_ii, eq_ss, lt_ii, lt_ss, mem_s, p_add_i, p_sub_i, b_len_t, b_len_l, b_abs, b_int, b_tuple_l, b_list_t, b_list_l, m_count, i_tup, i_lv, atI_0, atI_1, atI_2, atI_3, atI_4, decide_eq_true_eq, Bool.not_true, Bool.not_false, Bool.false_eq_true, if_true, if_false, ite_true, ite_false, reduceIte, isNon, walkOf, walkS, isi_non_int, isi_non_str, isi_non_tuple, isi_non_list, isi_non_dict, isi_non_bool, isi_bl_int, isi_bl_str, isi_bl_tuple, isi_bl_list, isi_bl_dict, isi_bl_bool, isi_int_int, isi_int_str, isi_int_tuple, isi_int_list, isi_int_dict, isi_int_bool, isi_str_int, isi_str_str, isi_str_tuple, isi_str_list, isi_str_dict, isi_str_bool, isi_tup_int, isi_tup_str, isi_tup_tuple, isi_tup_list, isi_tup_dict, isi_tup_bool, isi_lv_int, isi_lv_str, isi_lv_tuple, isi_lv_list, isi_lv_dict, isi_lv_bool, isi_dv_int, isi_dv_str, isi_dv_tuple, isi_dv_list, isi_dv_dict, isi_dv_bool, isi_scr_int, isi_scr_str, isi_scr_tuple, isi_scr_list, isi_scr_dict, isi_scr_bool]) (fun i hi => ?_) (by rw [List.length_range]; unfold line; omega)
    have hi' : i < w := List.mem_range.mp hi
    have k2 := raw_column_ok (S := S) (n := m) (by omega) R hi'
    have k3 := most_of_ok (S := S) (n := m) (by omega) (t := colr rows i) (colr_ne R i) (by rw [colr_len]; omega)
    rw [cN] at k2 k3
    have e : (0 : Int) + (i : Int) = (i : Int) := by omega
    simp only [turnF, e, k2, k3, run, ev, evs, evT, evI, fin, Option.bind_some, Option.map_some, startE, List.map_cons, List.map_nil, List.length_cons, List.length_nil, List.cons_append, List.nil_append, List.replicate_succ, List.replicate_zero, Nat.reduceAdd, Nat.reduceSub, Nat.zero_add, List.getElem?_cons_zero, List.getElem?_cons_succ, List.set_cons_zero, List.set_cons_succ, wipeE, bindTg, setAll, retOf, cmpS, eq_ii, eq_ss, lt_ii, lt_ss, mem_s, p_add_i, p_sub_i, b_len_t, b_len_l, b_abs, b_int, b_tuple_l, b_list_t, b_list_l, m_count, i_tup, i_lv, atI_0, atI_1, atI_2, atI_3, atI_4, decide_eq_true_eq, Bool.not_true, Bool.not_false, Bool.false_eq_true, if_true, if_false, ite_true, ite_false, reduceIte, isNon, walkOf, walkS, isi_non_int, isi_non_str, isi_non_tuple, isi_non_list, isi_non_dict, isi_non_bool, isi_bl_int, isi_bl_str, isi_bl_tuple, isi_bl_list, isi_bl_dict, isi_bl_bool, isi_int_int, isi_int_str, isi_int_tuple, isi_int_list, isi_int_dict, isi_int_bool, isi_str_int, isi_str_str, isi_str_tuple, isi_str_list, isi_str_dict, isi_str_bool, isi_tup_int, isi_tup_str, isi_tup_tuple, isi_tup_list, isi_tup_dict, isi_tup_bool, isi_lv_int, isi_lv_str, isi_lv_tuple, isi_lv_list, isi_lv_dict, isi_lv_bool, isi_dv_int, isi_dv_str, isi_dv_tuple, isi_dv_list, isi_dv_dict, isi_dv_bool, isi_scr_int, isi_scr_str, isi_scr_tuple, isi_scr_list, isi_scr_dict, isi_scr_bool]
    rfl
  have hj := join_signs (S := S) (mosts rows w) (by simp only [mosts, List.length_map, List.length_range]; omega)
  simp only [d_most_at, k0, hc, hj, ty_str, run, ev, evs, evT, evI, fin, Option.bind_some, Option.map_some, startE, List.map_cons, List.map_nil, List.length_cons, List.length_nil, List.cons_append, List.nil_append, List.replicate_succ, List.replicate_zero, Nat.reduceAdd, Nat.reduceSub, Nat.zero_add, List.getElem?_cons_zero, List.getElem?_cons_succ, List.set_cons_zero, List.set_cons_succ, wipeE, bindTg, setAll, retOf, cmpS, eq_ii, eq_ss, lt_ii, lt_ss, mem_s, p_add_i, p_sub_i, b_len_t, b_len_l, b_abs, b_int, b_tuple_l, b_list_t, b_list_l, m_count, i_tup, i_lv, atI_0, atI_1, atI_2, atI_3, atI_4, decide_eq_true_eq, Bool.not_true, Bool.not_false, Bool.false_eq_true, if_true, if_false, ite_true, ite_false, reduceIte, isNon, walkOf, walkS, isi_non_int, isi_non_str, isi_non_tuple, isi_non_list, isi_non_dict, isi_non_bool, isi_bl_int, isi_bl_str, isi_bl_tuple, isi_bl_list, isi_bl_dict, isi_bl_bool, isi_int_int, isi_int_str, isi_int_tuple, isi_int_list, isi_int_dict, isi_int_bool, isi_str_int, isi_str_str, isi_str_tuple, isi_str_list, isi_str_dict, isi_str_bool, isi_tup_int, isi_tup_str, isi_tup_tuple, isi_tup_list, isi_tup_dict, isi_tup_bool, isi_lv_int, isi_lv_str, isi_lv_tuple, isi_lv_list, isi_lv_dict, isi_lv_bool, isi_dv_int, isi_dv_str, isi_dv_tuple, isi_dv_list, isi_dv_dict, isi_dv_bool, isi_scr_int, isi_scr_str, isi_scr_tuple, isi_scr_list, isi_scr_dict, isi_scr_bool]
/-! ### stretches -/
abbrev pairD (p : Nat × Nat) : D := .tup [.int (p.1 : Nat), .int (p.2 : Nat)]
def stepS (acc : List (Nat × Nat)) (p : Nat) : List (Nat × Nat) := match acc.getLast? with
  | some (b, e) => if e = p then acc.dropLast ++ [(b, p + 1)] else acc ++ [(p, p + 1)]
  | none => [(p, p + 1)]
def strch (rows : List (List Nat)) (w : Nat) : List (Nat × Nat) := (alks rows w).foldl stepS []
theorem stepS_len (acc : List (Nat × Nat)) (p : Nat) : (stepS acc p).length ≤ acc.length + 1 := by
  unfold stepS
  split
  · split
    · simp
    · simp
  · simp
theorem foldS_len : ∀ (l : List Nat) (acc : List (Nat × Nat)), (l.foldl stepS acc).length ≤ acc.length + l.length
  | [], acc => Nat.le_refl _
  | p :: l, acc => by
    have h1 := foldS_len l (stepS acc p)
    have h2 := stepS_len acc p
    rw [List.foldl_cons, List.length_cons]
    omega
theorem stretch_step {m : Nat} {rows : List (List Nat)} {z : D} {acc : List (Nat × Nat)} {p : Nat} (hacc : acc.length ≤ 100) (b e : Option D) :
    run 1000 (callN 1000 progL m) d_stretches_alike_b1 [some (rowsD rows), some z, some (.ref S.length), some (.int (0 + (p : Int))), b, e] (S ++ [.lv (acc.map pairD)]) =
      some (.nx [some (rowsD rows), some z, some (.ref S.length), some (.int (0 + (p : Int))), b, e], S ++ [.lv ((stepS acc p).map pairD)]) := by
  have hg := get_last S (.lv (acc.map pairD))
  have h2 : (2 ≤ line) = True := le_line (by omega)
  have ha : (acc.map pairD).length < line := by rw [List.length_map]; unfold line; omega
  have e0 : (0 : Int) + (p : Int) = (p : Int) := by omega
  have e1 : ((p : Int) + 1) = ((p + 1 : Nat) : Int) := by omega
  rcases List.eq_nil_or_concat acc with rfl | ⟨as, ⟨x, y⟩, rfl⟩
  · have hg0 := get_last S (.lv [])
    have ha0 : ([] : List D).length < line := ha
    have hb : bltS .len [.ref S.length] (S ++ [.lv []]) = some (.val (.int 0)) := b_len_ref hg0
    have hap := app_ref hg0 ha0 (pairD (p, p + 1))
    rw [set_last] at hap
    simp only [pairD, List.nil_append] at hap
    simp only [d_stretches_alike_b1, hb, ty_ref hg0, hap, h2, e0, e1, mthTy, Int.lt_irrefl, decide_false, run, ev, evs, evT, evI, fin, Option.bind_some, Option.map_some, startE, List.map_cons, List.map_nil, List.length_cons, List.length_nil, List.cons_append, List.nil_append, List.replicate_succ, List.replicate_zero, Nat.reduceAdd, Nat.reduceSub, Nat.zero_add, List.getElem?_cons_zero, List.getElem?_cons_succ, List.set_cons_zero, List.set_cons_succ, wipeE, bindTg, setAll, retOf, cmpS, eq_ii, eq_ss, lt_ii, lt_ss, mem_s, p_add_i, p_sub_i, b_len_t, b_len_l, b_abs, b_int, b_tuple_l, b_list_t, b_list_l, m_count, i_tup, i_lv, atI_0, atI_1, atI_2, atI_3, atI_4, decide_eq_true_eq, Bool.not_true, Bool.not_false, Bool.false_eq_true, if_true, if_false, ite_true, ite_false, reduceIte, isNon, walkOf, walkS, isi_non_int, isi_non_str, isi_non_tuple, isi_non_list, isi_non_dict, isi_non_bool, isi_bl_int, isi_bl_str, isi_bl_tuple, isi_bl_list, isi_bl_dict, isi_bl_bool, isi_int_int, isi_int_str, isi_int_tuple, isi_int_list, isi_int_dict, isi_int_bool, isi_str_int, isi_str_str, isi_str_tuple, isi_str_list, isi_str_dict, isi_str_bool, isi_tup_int, isi_tup_str, isi_tup_tuple, isi_tup_list, isi_tup_dict, isi_tup_bool, isi_lv_int, isi_lv_str, isi_lv_tuple, isi_lv_list, isi_lv_dict, isi_lv_bool, isi_dv_int, isi_dv_str, isi_dv_tuple, isi_dv_list, isi_dv_dict, isi_dv_bool, isi_scr_int, isi_scr_str, isi_scr_tuple, isi_scr_list, isi_scr_dict, isi_scr_bool]
    rfl
  · have hl : (as.concat (x, y)).map pairD = as.map pairD ++ [pairD (x, y)] := by rw [List.concat_eq_append, List.map_append]; rfl
    have hpos : (0 : Int) < (((as.concat (x, y)).map pairD).length : Nat) := by rw [hl]; simp
    have hi : itemS (.ref S.length) (.int (-1)) (S ++ [.lv ((as.concat (x, y)).map pairD)]) = some (pairD (x, y)) := by
      rw [i_ref hg, hl, atI_last']
    have hst : stepS (as.concat (x, y)) p = if y = p then as ++ [(x, p + 1)] else as ++ [(x, y)] ++ [(p, p + 1)] := by
      unfold stepS
      rw [List.concat_eq_append, List.getLast?_concat, List.dropLast_concat]
    by_cases hy : y = p
    · subst hy
      have hix : ixN ((as.concat (x, y)).map pairD).length (-1) = some as.length := by
        rw [ixN_last (by rw [hl]; simp), hl]
        simp
      have hse := set_ref hg hix (pairD (x, y + 1))
      have e9 : ((as.concat (x, y)).map pairD).set as.length (pairD (x, y + 1)) = (as ++ [(x, y + 1)]).map pairD := by
        rw [hl, List.map_append, List.set_append_right _ _ (by simp)]
        simp
      rw [e9, set_last] at hse
      rw [hst, if_pos rfl]
      simp only [pairD] at hi hse ⊢
      simp only [d_stretches_alike_b1, b_len_ref hg, hpos, hi, h2, e0, e1, decide_true, hse, run, ev, evs, evT, evI, fin, Option.bind_some, Option.map_some, startE, List.map_cons, List.map_nil, List.length_cons, List.length_nil, List.cons_append, List.nil_append, List.replicate_succ, List.replicate_zero, Nat.reduceAdd, Nat.reduceSub, Nat.zero_add, List.getElem?_cons_zero, List.getElem?_cons_succ, List.set_cons_zero, List.set_cons_succ, wipeE, bindTg, setAll, retOf, cmpS, eq_ii, eq_ss, lt_ii, lt_ss, mem_s, p_add_i, p_sub_i, b_len_t, b_len_l, b_abs, b_int, b_tuple_l, b_list_t, b_list_l, m_count, i_tup, i_lv, atI_0, atI_1, atI_2, atI_3, atI_4, decide_eq_true_eq, Bool.not_true, Bool.not_false, Bool.false_eq_true, if_true, if_false, ite_true, ite_false, reduceIte, isNon, walkOf, walkS, isi_non_int, isi_non_str, isi_non_tuple, isi_non_list, isi_non_dict, isi_non_bool, isi_bl_int, isi_bl_str, isi_bl_tuple, isi_bl_list, isi_bl_dict, isi_bl_bool, isi_int_int, isi_int_str, isi_int_tuple, isi_int_list, isi_int_dict, isi_int_bool, isi_str_int, isi_str_str, isi_str_tuple, isi_str_list, isi_str_dict, isi_str_bool, isi_tup_int, isi_tup_str, isi_tup_tuple, isi_tup_list, isi_tup_dict, isi_tup_bool, isi_lv_int, isi_lv_str, isi_lv_tuple, isi_lv_list, isi_lv_dict, isi_lv_bool, isi_dv_int, isi_dv_str, isi_dv_tuple, isi_dv_list, isi_dv_dict, isi_dv_bool, isi_scr_int, isi_scr_str, isi_scr_tuple, isi_scr_list, isi_scr_dict, isi_scr_bool]
    · rw [hst, if_neg hy]
      have hap := app_ref hg ha (pairD (p, p + 1))
      have hy' : ((y : Int) = (p : Int)) = False := eq_false (by omega)
      have e9 : (as.concat (x, y)).map pairD ++ [pairD (p, p + 1)] = (as ++ [(x, y)] ++ [(p, p + 1)]).map pairD := by
        rw [List.concat_eq_append, List.map_append (l₁ := as ++ [(x, y)])]
        rfl
      rw [e9, set_last] at hap
      simp only [pairD] at hi hap ⊢
      simp only [d_stretches_alike_b1, b_len_ref hg, ty_ref hg, hpos, hi, hy', h2, e0, e1, mthTy, decide_true, decide_false, hap, run, ev, evs, evT, evI, fin, Option.bind_some, Option.map_some, startE, List.map_cons, List.map_nil, List.length_cons, List.length_nil, List.cons_append, List.nil_append, List.replicate_succ, List.replicate_zero, Nat.reduceAdd, Nat.reduceSub, Nat.zero_add, List.getElem?_cons_zero, List.getElem?_cons_succ, List.set_cons_zero, List.set_cons_succ, wipeE, bindTg, setAll, retOf, cmpS, eq_ii, eq_ss, lt_ii, lt_ss, mem_s, p_add_i, p_sub_i, b_len_t, b_len_l, b_abs, b_int, b_tuple_l, b_list_t, b_list_l, m_count, i_tup, i_lv, atI_0, atI_1, atI_2, atI_3, atI_4, decide_eq_true_eq, Bool.not_true, Bool.not_false, Bool.false_eq_true, if_true, if_false, ite_true, ite_false, reduceIte, isNon, walkOf, walkS, isi_non_int, isi_non_str, isi_non_tuple, isi_non_list, isi_non_dict, isi_non_bool, isi_bl_int, isi_bl_str, isi_bl_tuple, isi_bl_list, isi_bl_dict, isi_bl_bool, isi_int_int, isi_int_str, isi_int_tuple, isi_int_list, isi_int_dict, isi_int_bool, isi_str_int, isi_str_str, isi_str_tuple, isi_str_list, isi_str_dict, isi_str_bool, isi_tup_int, isi_tup_str, isi_tup_tuple, isi_tup_list, isi_tup_dict, isi_tup_bool, isi_lv_int, isi_lv_str, isi_lv_tuple, isi_lv_list, isi_lv_dict, isi_lv_bool, isi_dv_int, isi_dv_str, isi_dv_tuple, isi_dv_list, isi_dv_dict, isi_dv_bool, isi_scr_int, isi_scr_str, isi_scr_tuple, isi_scr_list, isi_scr_dict, isi_scr_bool]
theorem alks_len (rows : List (List Nat)) (w : Nat) : (alks rows w).length ≤ w := by
  have := List.length_filter_le (fun i => alkB (colr rows i)) (List.range w)
  rw [List.length_range] at this
  exact this
theorem strch_len (rows : List (List Nat)) (w : Nat) : (strch rows w).length ≤ w := by
  have h1 := foldS_len (alks rows w) []
  have h2 := alks_len rows w
  rw [List.length_nil] at h1
  unfold strch
  omega
def longP (size : Nat) (p : Nat × Nat) : Bool := !decide (((p.2 : Nat) : Int) - ((p.1 : Nat) : Int) < (size : Int))
theorem stretches_alike_ok (hn : 4 ≤ n) {rows : List (List Nat)} {w size : Nat} (R : Rows rows w) (hz : 1 ≤ size ∧ size ≤ 12) : ∃ T, cN n "stretches_alike" [rowsD rows, .int size] S = some (.tup (((strch rows w).filter (longP size)).map pairD), S ++ T) := by
  obtain ⟨m, rfl, hm⟩ := pos_n hn
  rw [cN, callN_at fi_stretches_alike rfl]
  have hw1 := R.w1
  have k0 := check_rows_ok (S := S) (n := m) (by omega) R
  have k1 := is_within_ok (S := S) (n := m) (by omega) (x := size) (a := 1) (b := 12) (by omega)
  have k2 := raw_alike_ok (S := S ++ [.lv []]) (n := m) (by omega) R
  rw [cN] at k0 k1 k2
  obtain ⟨ρ', S', he, v3, hρ, hS⟩ := forFix_inv (g := .nm 3) (b := run 1000 (callN 1000 progL m) d_stretches_alike_b1) (φ := fun i : Nat => D.int (0 + (i : Int)))
    (fun i ρ S' => ∃ v3, ρ = [some (rowsD rows), some (.int (size : Nat)), some (.ref S.length), v3, none, none] ∧ S' = S ++ [.lv ((((alks rows w).take i).foldl stepS []).map pairD)])
    (alks rows w) 0 [some (rowsD rows), some (.int (size : Nat)), some (.ref S.length), none, none, none] (S ++ [.lv []]) ⟨none, rfl, rfl⟩ (fun j x ρ S1 hj ⟨v3, e1, e2⟩ => by
      subst e1
      subst e2
      rw [Nat.zero_add]
      have hb : (((alks rows w).take j).foldl stepS []).length ≤ 100 := by
        have h1 := foldS_len ((alks rows w).take j) []
        have h2 := alks_len rows w
        rw [List.length_take, List.length_nil] at h1
        omega
      refine ⟨_, _, _, rfl, .inl (stretch_step hb none none), some (.int (0 + (x : Int))), rfl, ?_⟩
      rw [List.take_add_one, hj, List.foldl_append]
      rfl)
  subst hρ
  subst hS
  rw [Nat.zero_add, List.take_length] at he
  have hg := get_last S (.lv ((strch rows w).map pairD))
  have hc : ev 1000 (callN 1000 progL m) d_stretches_alike_c1 [some (rowsD rows), some (.int (size : Nat)), some (.ref S.length), v3, none, none] (S ++ [.lv ((strch rows w).map pairD)]) = some (.lv (((strch rows w).filter (longP size)).map pairD), S ++ [.lv ((strch rows w).map pairD)]) := by
    have h2 : (2 ≤ line) = True := le_line (by omega)
    have hlen := strch_len rows w
    refine lc_dyn (L := strch rows w) (φ := pairD) (longP size) pairD (by simp only [evI, ev, List.getElem?_cons_zero, List.getElem?_cons_succ, Option.bind_some, w_ref hg, Option.map_some]) hg (fun p hp => ?_) (by unfold line; omega) (by omega)
    have e : (!decide (((p.2 : Nat) : Int) - ((p.1 : Nat) : Int) < (size : Int))) = longP size p := rfl
    simp only [turnF, pairD, h2, run, ev, evs, evT, evI, fin, Option.bind_some, Option.map_some, startE, List.map_cons, List.map_nil, List.length_cons, List.length_nil, List.cons_append, List.nil_append, List.replicate_succ, List.replicate_zero, Nat.reduceAdd, Nat.reduceSub, Nat.zero_add, List.getElem?_cons_zero, List.getElem?_cons_succ, List.set_cons_zero, List.set_cons_succ, wipeE, bindTg, setAll, retOf, cmpS, eq_ii, eq_ss, lt_ii, lt_ss, mem_s, p_add_i, p_sub_i, b_len_t, b_len_l, b_abs, b_int, b_tuple_l, b_list_t, b_list_l, m_count, i_tup, i_lv, atI_0, atI_1, atI_2, atI_3, atI_4, decide_eq_true_eq, Bool.not_true, Bool.not_false, Bool.false_eq_true, if_true, if_false, ite_true, ite_false, reduceIte, isNon, walkOf, walkS, isi_non_int, isi_non_str, isi_non_tuple, isi_non_list, isi_non_dict, isi_non_bool, isi_bl_int, isi_bl_str, isi_bl_tuple, isi_bl_list, isi_bl_dict, isi_bl_bool, isi_int_int, isi_int_str, isi_int_tuple, isi_int_list, isi_int_dict, isi_int_bool, isi_str_int, isi_str_str, isi_str_tuple, isi_str_list, isi_str_dict, isi_str_bool, isi_tup_int, isi_tup_str, isi_tup_tuple, isi_tup_list, isi_tup_dict, isi_tup_bool, isi_lv_int, isi_lv_str, isi_lv_tuple, isi_lv_list, isi_lv_dict, isi_lv_bool, isi_dv_int, isi_dv_str, isi_dv_tuple, isi_dv_list, isi_dv_dict, isi_dv_bool, isi_scr_int, isi_scr_str, isi_scr_tuple, isi_scr_list, isi_scr_dict, isi_scr_bool]
    rw [e]
    cases longP size p <;> rfl
  have h0 : (0 ≤ line) = True := eq_true (Nat.zero_le _)
  refine ⟨[.lv ((strch rows w).map pairD)], ?_⟩
  unfold strch at hc ⊢
  simp only [d_stretches_alike, k0, k1, k2, natsOf, h0, he, hc, run, ev, evs, evT, evI, fin, Option.bind_some, Option.map_some, startE, List.map_cons, List.map_nil, List.length_cons, List.length_nil, List.cons_append, List.nil_append, List.replicate_succ, List.replicate_zero, Nat.reduceAdd, Nat.reduceSub, Nat.zero_add, List.getElem?_cons_zero, List.getElem?_cons_succ, List.set_cons_zero, List.set_cons_succ, wipeE, bindTg, setAll, retOf, cmpS, eq_ii, eq_ss, lt_ii, lt_ss, mem_s, p_add_i, p_sub_i, b_len_t, b_len_l, b_abs, b_int, b_tuple_l, b_list_t, b_list_l, m_count, i_tup, i_lv, atI_0, atI_1, atI_2, atI_3, atI_4, decide_eq_true_eq, Bool.not_true, Bool.not_false, Bool.false_eq_true, if_true, if_false, ite_true, ite_false, reduceIte, isNon, walkOf, walkS, isi_non_int, isi_non_str, isi_non_tuple, isi_non_list, isi_non_dict, isi_non_bool, isi_bl_int, isi_bl_str, isi_bl_tuple, isi_bl_list, isi_bl_dict, isi_bl_bool, isi_int_int, isi_int_str, isi_int_tuple, isi_int_list, isi_int_dict, isi_int_bool, isi_str_int, isi_str_str, isi_str_tuple, isi_str_list, isi_str_dict, isi_str_bool, isi_tup_int, isi_tup_str, isi_tup_tuple, isi_tup_list, isi_tup_dict, isi_tup_bool, isi_lv_int, isi_lv_str, isi_lv_tuple, isi_lv_list, isi_lv_dict, isi_lv_bool, isi_dv_int, isi_dv_str, isi_dv_tuple, isi_dv_list, isi_dv_dict, isi_dv_bool, isi_scr_int, isi_scr_str, isi_scr_tuple, isi_scr_list, isi_scr_dict, isi_scr_bool]
end
end Pd

namespace Pd
open PySem PySem.Spec PyProof.Rows L2
section
variable {n : Nat} {S : Store}
/-! ### how far -/
def mulI (c : Nat) : Int := (c : Int) * ((c : Int) - 1)
def tri (c : Nat) : Int := mulI c / 2
theorem tri_mul {c : Nat} (hc : c ≤ 1000) : opS .mul (.int (c : Nat)) (.int ((c : Int) - 1)) S = some (.val (.int (mulI c))) := p_mul_i (.inl (by omega))
theorem tri_div (c : Nat) : opS .fdiv (.int (mulI c)) (.int 2) S = some (.val (.int (tri c))) := p_fdiv_i (by omega)
def triD (t : List Nat) (c : Nat) : Int := tri (t.count c)
def sqS (t : List Nat) : Int := ((firsts t).map (triD t)).sum
/-- what a place gives -/
def farP (t : List Nat) : Int := tri t.length - sqS t
def farS (rows : List (List Nat)) (w : Nat) : Int := ((List.range w).map fun i => farP (colr rows i)).sum
theorem far_in {fu : Nat} {Φ : Calls} {t : List Nat} {q : Nat} (hq : q ∈ t) (hcn : t.count q ≤ 1000) (a b c d : Option D) :
    ev fu Φ d_far_sum_o2 [a, b, c, some (cntD t), d, some (.str [q])] S = some (.int (triD t q), S) := by
  have h1 : ev fu Φ (.sub (.var 3) (.var 5)) [a, b, c, some (cntD t), d, some (.str [q])] S = some (.int (t.count q : Nat), S) := ev_sub (x := cntD t) (y := .str [q]) rfl rfl (i_cnt hq)
  exact ev_op (ev_op h1 (ev_op h1 rfl rfl) (tri_mul hcn)) rfl (tri_div _)
theorem far_out {fu : Nat} {Φ : Calls} {xs : List D} (hl : xs.length ≤ 1000) (s : Int) (b c d e : Option D) :
    ev fu Φ d_far_sum_o1 [some (.tup xs), b, c, d, some (.int s), e] S = some (.int (tri xs.length - s), S) := by
  have h1 : ev fu Φ (.blt .len false (.cons (.var 0) .nil)) [some (.tup xs), b, c, d, some (.int s), e] S = some (.int (xs.length : Nat), S) := ev_blt1 (x := .tup xs) rfl (b_len_t xs)
  exact ev_op (ev_op (ev_op h1 (ev_op h1 rfl rfl) (tri_mul hl)) rfl (tri_div _)) rfl rfl
theorem tA1 {m : Nat} {t : List Nat} {q : Nat} (hq' : q ∈ t) (hcn : t.count q ≤ 1000) (a b c d : Option D) :
  turnF (.nm 5) [5] (evT 1000 (callN 1000 progL m) .nil) (ev 1000 (callN 1000 progL m) d_far_sum_o2) [a, b, c, some (cntD t), d, none] (.str [q]) S = some (some (.int (triD t q)), S) := by
  simp only [turnF, far_in hq' hcn, run, ev, evs, evT, evI, fin, Option.bind_some, Option.map_some, startE, List.map_cons, List.map_nil, List.length_cons, List.length_nil, List.cons_append, List.nil_append, List.replicate_succ, List.replicate_zero, Nat.reduceAdd, Nat.reduceSub, Nat.zero_add, List.getElem?_cons_zero, List.getElem?_cons_succ, List.set_cons_zero, List.set_cons_succ, wipeE, bindTg, setAll, retOf, cmpS, eq_ii, eq_ss, lt_ii, lt_ss, mem_s, p_add_i, p_sub_i, b_len_t, b_len_l, b_abs, b_int, b_tuple_l, b_list_t, b_list_l, m_count, i_tup, i_lv, atI_0, atI_1, atI_2, atI_3, atI_4, decide_eq_true_eq, Bool.not_true, Bool.not_false, Bool.false_eq_true, if_true, if_false, ite_true, ite_false, reduceIte, isNon, walkOf, walkS, isi_non_int, isi_non_str, isi_non_tuple, isi_non_list, isi_non_dict, isi_non_bool, isi_bl_int, isi_bl_str, isi_bl_tuple, isi_bl_list, isi_bl_dict, isi_bl_bool, isi_int_int, isi_int_str, isi_int_tuple, isi_int_list, isi_int_dict, isi_int_bool, isi_str_int, isi_str_str, isi_str_tuple, isi_str_list, isi_str_dict, isi_str_bool, isi_tup_int, isi_tup_str, isi_tup_tuple, isi_tup_list, isi_tup_dict, isi_tup_bool, isi_lv_int, isi_lv_str, isi_lv_tuple, isi_lv_list, isi_lv_dict, isi_lv_bool, isi_dv_int, isi_dv_str, isi_dv_tuple, isi_dv_list, isi_dv_dict, isi_dv_bool, isi_scr_int, isi_scr_str, isi_scr_tuple, isi_scr_list, isi_scr_dict, isi_scr_bool]
theorem tA2 {m : Nat} {t : List Nat} (ht : t.length ≤ 1000) (a b c d : Option D) : evI 1000 (callN 1000 progL m) (.of (.var 3)) [a, b, c, some (cntD t), d, none] S = some (.fix ((firsts t).map fun c => .str [c]), S) := by
  simp only [run, ev, evs, evT, evI, fin, Option.bind_some, Option.map_some, startE, List.map_cons, List.map_nil, List.length_cons, List.length_nil, List.cons_append, List.nil_append, List.replicate_succ, List.replicate_zero, Nat.reduceAdd, Nat.reduceSub, Nat.zero_add, List.getElem?_cons_zero, List.getElem?_cons_succ, List.set_cons_zero, List.set_cons_succ, wipeE, bindTg, setAll, retOf, cmpS, eq_ii, eq_ss, lt_ii, lt_ss, mem_s, p_add_i, p_sub_i, b_len_t, b_len_l, b_abs, b_int, b_tuple_l, b_list_t, b_list_l, m_count, i_tup, i_lv, atI_0, atI_1, atI_2, atI_3, atI_4, decide_eq_true_eq, Bool.not_true, Bool.not_false, Bool.false_eq_true, if_true, if_false, ite_true, ite_false, reduceIte, isNon, walkOf, walkS, isi_non_int, isi_non_str, isi_non_tuple, isi_non_list, isi_non_dict, isi_non_bool, isi_bl_int, isi_bl_str, isi_bl_tuple, isi_bl_list, isi_bl_dict, isi_bl_bool, isi_int_int, isi_int_str, isi_int_tuple, isi_int_list, isi_int_dict, isi_int_bool, isi_str_int, isi_str_str, isi_str_tuple, isi_str_list, isi_str_dict, isi_str_bool, isi_tup_int, isi_tup_str, isi_tup_tuple, isi_tup_list, isi_tup_dict, isi_tup_bool, isi_lv_int, isi_lv_str, isi_lv_tuple, isi_lv_list, isi_lv_dict, isi_lv_bool, isi_dv_int, isi_dv_str, isi_dv_tuple, isi_dv_list, isi_dv_dict, isi_dv_bool, isi_scr_int, isi_scr_str, isi_scr_tuple, isi_scr_list, isi_scr_dict, isi_scr_bool]; rw [cnts_eq, List.map_map]; rfl
theorem tA3 {t : List Nat} (ht : t.length ≤ 1000) : (firsts t).length ≤ line := by
  have := len_firsts t; unfold line; omega
theorem tA4 {t : List Nat} {q : Nat} (ht : t.length ≤ 1000) : t.count q ≤ 1000 := Nat.le_trans (List.count_le_length (a := q) (l := t)) ht
theorem far_c1 {m : Nat} {t : List Nat} (ht : t.length ≤ 1000) (a b c d : Option D) :
    ev 1000 (callN 1000 progL m) d_far_sum_c1 [a, b, c, some (cntD t), d, none] S = some (.lv ((firsts t).map fun c => .int (triD t c)), S) :=
  lc_map (L := firsts t) (φ := fun c => .str [c]) (fun c => .int (triD t c)) (tA2 ht a b c d) (fun q hq => tA1 (mem_firsts.mp hq) (tA4 ht) a b c d) (tA3 ht)
theorem far_step {m : Nat} (hm : 1 ≤ m) {rows : List (List Nat)} {w p : Nat} (R : Rows rows w) (hp : p < w) (v : Int) (a b : Option D) :
    ∃ a' b', run 1000 (callN 1000 progL m) d_far_sum_b1 [some (rowsD rows), some (.int v), some (.int (0 + (p : Int))), a, b, none] S =
      some (.nx [some (rowsD rows), some (.int (v + farP (colr rows p))), some (.int (0 + (p : Int))), a', b', none], S) := by
  have hm1 := R.many
  have k1 := raw_column_ok (S := S) (n := m) (by omega) R hp
  have k2 := raw_counts_ok (S := S) (n := m) (by omega) (t := colr rows p) (by rw [colr_len]; omega)
  rw [cN] at k1 k2
  have e0 : (0 : Int) + (p : Int) = (p : Int) := by omega
  have hc := far_c1 (S := S) (m := m) (t := colr rows p) (by rw [colr_len]; omega) (some (rowsD rows)) (some (.int v)) (some (.int (p : Int))) b
  have hsum : bltS .sum [.lv ((firsts (colr rows p)).map fun c => .int (triD (colr rows p) c))] S = some (.val (.int (sqS (colr rows p)))) := by
    have := b_sum (S := S) ((firsts (colr rows p)).map (triD (colr rows p)))
    rw [List.map_map] at this
    exact this
  have hout := far_out (S := S) (fu := 1000) (Φ := callN 1000 progL m) (xs := rows.map .str) (by rw [List.length_map]; omega) (sqS (colr rows p)) (some (.int v)) (some (.int (p : Int))) (some (cntD (colr rows p))) none
  have ef : farP (colr rows p) = tri (rows.map D.str).length - sqS (colr rows p) := by
    unfold farP
    rw [colr_len, List.length_map]
  refine ⟨some (cntD (colr rows p)), some (.int (sqS (colr rows p))), ?_⟩
  rw [ef]
  simp only [d_far_sum_b1, e0, k1, k2, hc, hsum, hout, augOk, run, ev, evs, evT, evI, fin, Option.bind_some, Option.map_some, startE, List.map_cons, List.map_nil, List.length_cons, List.length_nil, List.cons_append, List.nil_append, List.replicate_succ, List.replicate_zero, Nat.reduceAdd, Nat.reduceSub, Nat.zero_add, List.getElem?_cons_zero, List.getElem?_cons_succ, List.set_cons_zero, List.set_cons_succ, wipeE, bindTg, setAll, retOf, cmpS, eq_ii, eq_ss, lt_ii, lt_ss, mem_s, p_add_i, p_sub_i, b_len_t, b_len_l, b_abs, b_int, b_tuple_l, b_list_t, b_list_l, m_count, i_tup, i_lv, atI_0, atI_1, atI_2, atI_3, atI_4, decide_eq_true_eq, Bool.not_true, Bool.not_false, Bool.false_eq_true, if_true, if_false, ite_true, ite_false, reduceIte, isNon, walkOf, walkS, isi_non_int, isi_non_str, isi_non_tuple, isi_non_list, isi_non_dict, isi_non_bool, isi_bl_int, isi_bl_str, isi_bl_tuple, isi_bl_list, isi_bl_dict, isi_bl_bool, isi_int_int, isi_int_str, isi_int_tuple, isi_int_list, isi_int_dict, isi_int_bool, isi_str_int, isi_str_str, isi_str_tuple, isi_str_list, isi_str_dict, isi_str_bool, isi_tup_int, isi_tup_str, isi_tup_tuple, isi_tup_list, isi_tup_dict, isi_tup_bool, isi_lv_int, isi_lv_str, isi_lv_tuple, isi_lv_list, isi_lv_dict, isi_lv_bool, isi_dv_int, isi_dv_str, isi_dv_tuple, isi_dv_list, isi_dv_dict, isi_dv_bool, isi_scr_int, isi_scr_str, isi_scr_tuple, isi_scr_list, isi_scr_dict, isi_scr_bool]
theorem far_sum_ok (hn : 4 ≤ n) {rows : List (List Nat)} {w : Nat} (R : Rows rows w) : cN n "far_sum" [rowsD rows] S = some (.int (farS rows w), S) := by
  obtain ⟨m, rfl, hm⟩ := pos_n hn
  rw [cN, callN_at fi_far_sum rfl]
  have k0 := check_rows_ok (S := S) (n := m) (by omega) R
  have k1 := every_place_ok (S := S) (n := m) (by omega) R
  rw [cN] at k0 k1
  obtain ⟨ρ', S', he, v2, v3, v4, hρ, hS⟩ := forFix_inv (g := .nm 2) (b := run 1000 (callN 1000 progL m) d_far_sum_b1) (φ := fun i : Nat => D.int (0 + (i : Int)))
    (fun i ρ S' => ∃ v2 v3 v4, ρ = [some (rowsD rows), some (.int (((List.range w).take i).map fun i => farP (colr rows i)).sum), v2, v3, v4, none] ∧ S' = S)
    (List.range w) 0 [some (rowsD rows), some (.int 0), none, none, none, none] S ⟨none, none, none, rfl, rfl⟩ (fun j x ρ S1 hj ⟨v2, v3, v4, e1, e2⟩ => by
      subst e1
      subst e2
      have hx : x < w := List.mem_range.mp (List.mem_of_getElem? hj)
      obtain ⟨a', b', hs⟩ := far_step (S := S1) (m := m) (by omega) R hx (((List.range w).take (0 + j)).map fun i => farP (colr rows i)).sum v3 v4
      refine ⟨_, _, _, rfl, .inl hs, some (.int (0 + (x : Int))), a', b', ?_, rfl⟩
      rw [Nat.zero_add, List.take_add_one, hj, List.map_append, List.sum_append]
      simp)
  subst hρ
  subst hS
  rw [Nat.zero_add, List.length_range] at he
  have e1 : (List.range w).take w = List.range w := List.take_of_length_le (by rw [List.length_range]; exact Nat.le_refl _)
  rw [e1] at he
  unfold farS
  simp only [d_far_sum, k0, k1, natsD, intL, he, run, ev, evs, evT, evI, fin, Option.bind_some, Option.map_some, startE, List.map_cons, List.map_nil, List.length_cons, List.length_nil, List.cons_append, List.nil_append, List.replicate_succ, List.replicate_zero, Nat.reduceAdd, Nat.reduceSub, Nat.zero_add, List.getElem?_cons_zero, List.getElem?_cons_succ, List.set_cons_zero, List.set_cons_succ, wipeE, bindTg, setAll, retOf, cmpS, eq_ii, eq_ss, lt_ii, lt_ss, mem_s, p_add_i, p_sub_i, b_len_t, b_len_l, b_abs, b_int, b_tuple_l, b_list_t, b_list_l, m_count, i_tup, i_lv, atI_0, atI_1, atI_2, atI_3, atI_4, decide_eq_true_eq, Bool.not_true, Bool.not_false, Bool.false_eq_true, if_true, if_false, ite_true, ite_false, reduceIte, isNon, walkOf, walkS, isi_non_int, isi_non_str, isi_non_tuple, isi_non_list, isi_non_dict, isi_non_bool, isi_bl_int, isi_bl_str, isi_bl_tuple, isi_bl_list, isi_bl_dict, isi_bl_bool, isi_int_int, isi_int_str, isi_int_tuple, isi_int_list, isi_int_dict, isi_int_bool, isi_str_int, isi_str_str, isi_str_tuple, isi_str_list, isi_str_dict, isi_str_bool, isi_tup_int, isi_tup_str, isi_tup_tuple, isi_tup_list, isi_tup_dict, isi_tup_bool, isi_lv_int, isi_lv_str, isi_lv_tuple, isi_lv_list, isi_lv_dict, isi_lv_bool, isi_dv_int, isi_dv_str, isi_dv_tuple, isi_dv_list, isi_dv_dict, isi_dv_bool, isi_scr_int, isi_scr_str, isi_scr_tuple, isi_scr_list, isi_scr_dict, isi_scr_bool]
end
end Pd

namespace Pd
open PySem PySem.Spec PyProof.Rows L2
/-! the law's own draws -/
structure Hand where
  cells : List Int
  i : Int
  b : Int
  c : Int
  d : Int
structure HandOk (h : Hand) : Prop where
  cells : ∀ x ∈ h.cells, 0 ≤ x
  i : 0 ≤ h.i
  b : 0 ≤ h.b
  c : 0 ≤ h.c
  d : 0 ≤ h.d
abbrev handD (h : Hand) : D := .lv [.lv (h.cells.map .int), .int h.i, .int h.b, .int h.c, .int h.d]
section
variable {n : Nat} {T : Store} {fu : Nat} {Φ : Calls}
theorem g0 (xs : List D) (T : Store) (j : Int) : itemS (.ref 0) (.int j) (.lv xs :: T) = atI xs j := i_ref (S := .lv xs :: T) rfl j
theorem s0 (xs : List D) (T : Store) (j : Int) (v : D) : setS (.ref 0) (.int j) v (.lv xs :: T) = (ixN xs.length j).map fun n => .lv (xs.set n v) :: T := by
  simp only [setS, List.getElem?_cons_zero, List.set_cons_zero]
theorem x1 : ixN 5 1 = some 1 := rfl
theorem x2 : ixN 5 2 = some 2 := rfl
theorem x3 : ixN 5 3 = some 3 := rfl
theorem x4 : ixN 5 4 = some 4 := rfl
theorem hand_at (h : Hand) (T : Store) (x1 x2 x3 x4 : Option D) :
    ev fu Φ (.sub (.var 0) (.int 2)) [some (.ref 0), x1, x2, x3, x4] (handD h :: T) = some (.int h.b, handD h :: T) ∧
    ev fu Φ (.sub (.var 0) (.int 3)) [some (.ref 0), x1, x2, x3, x4] (handD h :: T) = some (.int h.c, handD h :: T) ∧
    ev fu Φ (.sub (.var 0) (.int 4)) [some (.ref 0), x1, x2, x3, x4] (handD h :: T) = some (.int h.d, handD h :: T) :=
  ⟨ev_sub (x := .ref 0) (y := .int 2) rfl rfl rfl, ev_sub (x := .ref 0) (y := .int 3) rfl rfl rfl, ev_sub (x := .ref 0) (y := .int 4) rfl rfl rfl⟩
theorem o8_ok (h : Hand) (T : Store) (cell : Int) (x1 x2 x4 : Option D) :
    ev fu Φ d_law_draw_o8 [some (.ref 0), x1, x2, some (.int cell), x4] (handD h :: T) = some (.int ((h.c * 69621 + cell + 449) % 2147483629), handD h :: T) :=
  ev_op (ev_blt1 (ev_op (ev_op (ev_op (hand_at h T _ _ _ _).2.1 rfl (p_mul_i (.inr (by decide)))) rfl rfl) rfl rfl) rfl) rfl (p_mod_i (by decide))
theorem o7_ok (ρ : Env) (S : Store) : ev fu Φ d_law_draw_o7 ρ S = some (.int (10 ^ 18), S) := ev_op rfl rfl (p_pow_i (i := 10) (j := 18) (by decide))
theorem o6_ok (h : Hand) (T : Store) {k : Int} (hk : 0 < k) (x2 x3 x4 : Option D) :
    ev fu Φ d_law_draw_o6 [some (.ref 0), some (.int k), x2, x3, x4] (handD h :: T) = some (.int (h.b % k), handD h :: T) :=
  ev_op (ev_blt1 (hand_at h T _ _ _ _).1 rfl) rfl (p_mod_i hk)
theorem o5_ok (h : Hand) (T : Store) {k : Int} (hk : 0 < k ∧ k.natAbs < 1073741824) (x2 x3 x4 : Option D) :
    ev fu Φ d_law_draw_o5 [some (.ref 0), some (.int k), x2, x3, x4] (handD h :: T) = some (.int (h.b / k), handD h :: T) :=
  ev_op (hand_at h T _ _ _ _).1 rfl (p_fdiv_i hk)
theorem o4_ok (h : Hand) (T : Store) (x1 x2 x3 x4 : Option D) :
    ev fu Φ d_law_draw_o4 [some (.ref 0), x1, x2, x3, x4] (handD h :: T) = some (.int ((h.c + 7919 * h.d) * 48271 % 2147483647), handD h :: T) :=
  ev_op (ev_blt1 (ev_op (ev_blt1 (ev_op (hand_at h T _ _ _ _).2.1 (ev_op rfl (hand_at h T _ _ _ _).2.2 (p_mul_i (.inl (by decide)))) rfl) rfl) rfl (p_mul_i (.inr (by decide)))) rfl) rfl (p_mod_i (by decide))
theorem o3_ok (S : Store) {v : Int} (hv : v.natAbs < 18446744073709551616) (x0 x1 x3 x4 : Option D) :
    ev fu Φ d_law_draw_o3 [x0, x1, some (.int v), x3, x4] S = some (.int (v * (v / 1009 + 69621) % 2147483647), S) :=
  ev_op (ev_blt1 (ev_op rfl (ev_op (ev_op rfl rfl (p_fdiv_i (by decide))) rfl rfl) (p_mul_i (.inl hv))) rfl) rfl (p_mod_i (by decide))
theorem o2_ok (S : Store) {v : Int} (hv : v.natAbs < 18446744073709551616) (x0 x1 x3 x4 : Option D) :
    ev fu Φ d_law_draw_o2 [x0, x1, some (.int v), x3, x4] S = some (.int (v * (v / 2003 + 40692) % 2147483399), S) :=
  ev_op (ev_blt1 (ev_op rfl (ev_op (ev_op rfl rfl (p_fdiv_i (by decide))) rfl rfl) (p_mul_i (.inl hv))) rfl) rfl (p_mod_i (by decide))
theorem o1_ok (S : Store) {v k : Int} (hk : 0 < k) (x0 x3 x4 : Option D) :
    ev fu Φ d_law_draw_o1 [x0, some (.int k), some (.int v), x3, x4] S = some (.int (v / 16 % k), S) :=
  ev_op (ev_blt1 (ev_op rfl rfl (p_fdiv_i (by decide))) rfl) rfl (p_mod_i hk)
theorem mod_small (a b : Int) (hb : 0 < b) (hs : b ≤ 4294967296) : (a % b).natAbs < 18446744073709551616 := by
  have h1 := Int.emod_nonneg a (show b ≠ 0 by omega)
  have h2 := Int.emod_lt_of_pos a hb
  omega
/-- the last part of a draw -/
theorem draw_tail (hn : 1 ≤ n) {h : Hand} (hh : HandOk h) {k : Int} (hk : 0 < k ∧ k.natAbs < 1073741824) (T : Store) (x3 : Option D) :
    ∃ v h', HandOk h' ∧ 0 ≤ v ∧ v < k ∧
      (run fu Φ (.seq (.ite (.cmp .gt (.sub (.var 0) (.int 2)) (.int 0)) (.seq (.set 4 (d_law_draw_o6)) (.seq (.setI (.var 0) (.int 2) (d_law_draw_o5)) (.seq (.ret (.var 4)) .skip))) (.skip)) (.seq (.setI (.var 0) (.int 4) (.op .add (.sub (.var 0) (.int 4)) (.int 1))) (.seq (.set 2 (d_law_draw_o4)) (.seq (.set 2 (d_law_draw_o3)) (.seq (.set 2 (d_law_draw_o2)) (.seq (.ret (d_law_draw_o1)) .skip)))))) [some (.ref 0), some (.int k), none, x3, none] (handD h :: T)) = some (.rt (.int v), handD h' :: T) := by
  by_cases hb : 0 < h.b
  · refine ⟨h.b % k, { h with b := h.b / k }, ⟨hh.cells, hh.i, Int.ediv_nonneg hh.b (by omega), hh.c, hh.d⟩, Int.emod_nonneg _ (by omega), Int.emod_lt_of_pos _ hk.1, ?_⟩
    have e6 := o6_ok (fu := fu) (Φ := Φ) h T hk.1 none x3 none
    have e5 := o5_ok (fu := fu) (Φ := Φ) h T hk none x3 (some (.int (h.b % k)))
    have e0 := (hand_at (fu := fu) (Φ := Φ) h T (some (.int k)) none x3 none).1
    simp only [hb, e6, e5, g0, s0, x2, decide_true, run, ev, evs, evT, evI, fin, Option.bind_some, Option.map_some, startE, List.map_cons, List.map_nil, List.length_cons, List.length_nil, List.cons_append, List.nil_append, List.replicate_succ, List.replicate_zero, Nat.reduceAdd, Nat.reduceSub, Nat.zero_add, List.getElem?_cons_zero, List.getElem?_cons_succ, List.set_cons_zero, List.set_cons_succ, wipeE, bindTg, setAll, retOf, cmpS, eq_ii, eq_ss, lt_ii, lt_ss, mem_s, p_add_i, p_sub_i, b_len_t, b_len_l, b_abs, b_int, b_tuple_l, b_list_t, b_list_l, m_count, i_tup, i_lv, atI_0, atI_1, atI_2, atI_3, atI_4, decide_eq_true_eq, Bool.not_true, Bool.not_false, Bool.false_eq_true, if_true, if_false, ite_true, ite_false, reduceIte, isNon, walkOf, walkS, isi_non_int, isi_non_str, isi_non_tuple, isi_non_list, isi_non_dict, isi_non_bool, isi_bl_int, isi_bl_str, isi_bl_tuple, isi_bl_list, isi_bl_dict, isi_bl_bool, isi_int_int, isi_int_str, isi_int_tuple, isi_int_list, isi_int_dict, isi_int_bool, isi_str_int, isi_str_str, isi_str_tuple, isi_str_list, isi_str_dict, isi_str_bool, isi_tup_int, isi_tup_str, isi_tup_tuple, isi_tup_list, isi_tup_dict, isi_tup_bool, isi_lv_int, isi_lv_str, isi_lv_tuple, isi_lv_list, isi_lv_dict, isi_lv_bool, isi_dv_int, isi_dv_str, isi_dv_tuple, isi_dv_list, isi_dv_dict, isi_dv_bool, isi_scr_int, isi_scr_str, isi_scr_tuple, isi_scr_list, isi_scr_dict, isi_scr_bool]
  · let h1 : Hand := { h with d := h.d + 1 }
    have hh1 : HandOk h1 := ⟨hh.cells, hh.i, hh.b, hh.c, by have := hh.d; show 0 ≤ h.d + 1; omega⟩
    let v1 : Int := (h1.c + 7919 * h1.d) * 48271 % 2147483647
    let v2 : Int := v1 * (v1 / 1009 + 69621) % 2147483647
    let v3 : Int := v2 * (v2 / 2003 + 40692) % 2147483399
    refine ⟨v3 / 16 % k, h1, hh1, Int.emod_nonneg _ (by omega), Int.emod_lt_of_pos _ hk.1, ?_⟩
    have e4 := o4_ok (fu := fu) (Φ := Φ) h1 T (some (.int k)) none x3 none
    have e3 := o3_ok (fu := fu) (Φ := Φ) (handD h1 :: T) (v := v1) (mod_small _ _ (by decide) (by decide)) (some (.ref 0)) (some (.int k)) x3 none
    have e2 := o2_ok (fu := fu) (Φ := Φ) (handD h1 :: T) (v := v2) (mod_small _ _ (by decide) (by decide)) (some (.ref 0)) (some (.int k)) x3 none
    have e1 := o1_ok (fu := fu) (Φ := Φ) (handD h1 :: T) (v := v3) hk.1 (some (.ref 0)) x3 none
    simp only [h1] at e4 e3 e2 e1 ⊢
    simp only [hb, e4, e3, e2, e1, g0, s0, x4, decide_false, v1, v2, v3, h1, run, ev, evs, evT, evI, fin, Option.bind_some, Option.map_some, startE, List.map_cons, List.map_nil, List.length_cons, List.length_nil, List.cons_append, List.nil_append, List.replicate_succ, List.replicate_zero, Nat.reduceAdd, Nat.reduceSub, Nat.zero_add, List.getElem?_cons_zero, List.getElem?_cons_succ, List.set_cons_zero, List.set_cons_succ, wipeE, bindTg, setAll, retOf, cmpS, eq_ii, eq_ss, lt_ii, lt_ss, mem_s, p_add_i, p_sub_i, b_len_t, b_len_l, b_abs, b_int, b_tuple_l, b_list_t, b_list_l, m_count, i_tup, i_lv, atI_0, atI_1, atI_2, atI_3, atI_4, decide_eq_true_eq, Bool.not_true, Bool.not_false, Bool.false_eq_true, if_true, if_false, ite_true, ite_false, reduceIte, isNon, walkOf, walkS, isi_non_int, isi_non_str, isi_non_tuple, isi_non_list, isi_non_dict, isi_non_bool, isi_bl_int, isi_bl_str, isi_bl_tuple, isi_bl_list, isi_bl_dict, isi_bl_bool, isi_int_int, isi_int_str, isi_int_tuple, isi_int_list, isi_int_dict, isi_int_bool, isi_str_int, isi_str_str, isi_str_tuple, isi_str_list, isi_str_dict, isi_str_bool, isi_tup_int, isi_tup_str, isi_tup_tuple, isi_tup_list, isi_tup_dict, isi_tup_bool, isi_lv_int, isi_lv_str, isi_lv_tuple, isi_lv_list, isi_lv_dict, isi_lv_bool, isi_dv_int, isi_dv_str, isi_dv_tuple, isi_dv_list, isi_dv_dict, isi_dv_bool, isi_scr_int, isi_scr_str, isi_scr_tuple, isi_scr_list, isi_scr_dict, isi_scr_bool]
end
end Pd

namespace Pd
open PySem PySem.Spec PyProof.Rows L2
section
variable {n : Nat} {T : Store} {fu : Nat} {Φ : Calls}
theorem hb0 (h : Hand) (T : Store) (x1 x2 x3 x4 : Option D) :
    ev fu Φ (.sub (.var 0) (.int 0)) [some (.ref 0), x1, x2, x3, x4] (handD h :: T) = some (.lv (h.cells.map .int), handD h :: T) ∧
    ev fu Φ (.sub (.var 0) (.int 1)) [some (.ref 0), x1, x2, x3, x4] (handD h :: T) = some (.int h.i, handD h :: T) :=
  ⟨ev_sub (x := .ref 0) (y := .int 0) rfl rfl rfl, ev_sub (x := .ref 0) (y := .int 1) rfl rfl rfl⟩
theorem atI_ge {xs : List Int} {i : Int} (h0 : 0 ≤ i) (h1 : i < xs.length) : ∃ x, atI (xs.map D.int) i = some (.int x) ∧ x ∈ xs := by
  obtain ⟨j, rfl⟩ : ∃ j : Nat, i = j := ⟨i.toNat, by omega⟩
  have hj : j < xs.length := by omega
  refine ⟨xs[j], ?_, List.getElem_mem hj⟩
  rw [atI_nat', List.getElem?_map, List.getElem?_eq_getElem hj]
  rfl
theorem draw_ok (hn : 1 ≤ n) {h : Hand} (hh : HandOk h) {k : Int} (hk : 0 < k ∧ k.natAbs < 1073741824) (T : Store) :
    ∃ v h', HandOk h' ∧ 0 ≤ v ∧ v < k ∧ cN n "_law_draw" [.ref 0, .int k] (handD h :: T) = some (.int v, handD h' :: T) := by
  obtain ⟨m, rfl, hm⟩ := pos_n hn
  by_cases hc : h.b = 0 ∧ h.i < ((h.cells.map D.int).length : Nat)
  · obtain ⟨c1, c2⟩ := hc
    obtain ⟨x, hx, hxm⟩ := atI_ge (xs := h.cells) hh.i (by rw [List.length_map] at c2; exact c2)
    have hx0 : 0 ≤ x := hh.cells x hxm
    let h1 : Hand := { h with i := h.i + 1 }
    let h2 : Hand := { h1 with c := (h1.c * 69621 + x + 449) % 2147483629 }
    let h3 : Hand := if 10 ^ 18 ≤ x then { h2 with b := x } else h2
    have hh3 : HandOk h3 := by
      have z : 0 ≤ h.i + 1 := by have := hh.i; omega
      have w : 0 ≤ (h1.c * 69621 + x + 449) % 2147483629 := Int.emod_nonneg _ (by decide)
      show HandOk (if 10 ^ 18 ≤ x then { h2 with b := x } else h2)
      split
      · exact ⟨hh.cells, z, hx0, w, hh.d⟩
      · exact ⟨hh.cells, z, hh.b, w, hh.d⟩
    obtain ⟨v, h', k1, k2, k3, k4⟩ := draw_tail (n := 1) (fu := 1000) (Φ := callN 1000 progL m) (Nat.le_refl _) hh3 hk T (some (.int x))
    refine ⟨v, h', k1, k2, k3, ?_⟩
    rw [cN, callN_at fi_law_draw rfl]
    have e8 := o8_ok (fu := 1000) (Φ := callN 1000 progL m) h1 T x (some (.int k)) none none
    simp only [h1, c1] at e8
    have e0 : startE d_law_draw.N.length [.ref 0, .int k] = [some (.ref 0), some (.int k), none, none, none] := rfl
    rw [e0]
    show ((run 1000 (callN 1000 progL m) (.seq _ (.seq _ _)) [some (.ref 0), some (.int k), none, none, none] (handD h :: T))).bind retOf = _
    have first : run 1000 (callN 1000 progL m) (.ite (.and (.cmp .eq (.sub (.var 0) (.int 2)) (.int 0)) (.cmp .lt (.sub (.var 0) (.int 1)) (.blt .len false (.cons (.sub (.var 0) (.int 0)) .nil)))) (.seq (.set 3 (.sub (.sub (.var 0) (.int 0)) (.sub (.var 0) (.int 1)))) (.seq (.setI (.var 0) (.int 1) (.op .add (.sub (.var 0) (.int 1)) (.int 1))) (.seq (.setI (.var 0) (.int 3) (d_law_draw_o8)) (.seq (.ite (.cmp .ge (.var 3) (d_law_draw_o7)) (.seq (.setI (.var 0) (.int 2) (.var 3)) .skip) (.skip)) .skip)))) (.skip)) [some (.ref 0), some (.int k), none, none, none] (handD h :: T) =
        some (.nx [some (.ref 0), some (.int k), none, some (.int x), none], handD h3 :: T) := by
      by_cases hbig : (10 : Int) ^ 18 ≤ x
      · have hbig' : ¬ x < (10 : Int) ^ 18 := by omega
        simp only [h3, h2, h1, hbig, hbig', c1, c2, e8, o7_ok, hx, g0, s0, x1, Pd.x2, Pd.x3, x4, decide_true, decide_false, run, ev, evs, evT, evI, fin, Option.bind_some, Option.map_some, startE, List.map_cons, List.map_nil, List.length_cons, List.length_nil, List.cons_append, List.nil_append, List.replicate_succ, List.replicate_zero, Nat.reduceAdd, Nat.reduceSub, Nat.zero_add, List.getElem?_cons_zero, List.getElem?_cons_succ, List.set_cons_zero, List.set_cons_succ, wipeE, bindTg, setAll, retOf, cmpS, eq_ii, eq_ss, lt_ii, lt_ss, mem_s, p_add_i, p_sub_i, b_len_t, b_len_l, b_abs, b_int, b_tuple_l, b_list_t, b_list_l, m_count, i_tup, i_lv, atI_0, atI_1, atI_2, atI_3, atI_4, decide_eq_true_eq, Bool.not_true, Bool.not_false, Bool.false_eq_true, if_true, if_false, ite_true, ite_false, reduceIte, isNon, walkOf, walkS, isi_non_int, isi_non_str, isi_non_tuple, isi_non_list, isi_non_dict, isi_non_bool, isi_bl_int, isi_bl_str, isi_bl_tuple, isi_bl_list, isi_bl_dict, isi_bl_bool, isi_int_int, isi_int_str, isi_int_tuple, isi_int_list, isi_int_dict, isi_int_bool, isi_str_int, isi_str_str, isi_str_tuple, isi_str_list, isi_str_dict, isi_str_bool, isi_tup_int, isi_tup_str, isi_tup_tuple, isi_tup_list, isi_tup_dict, isi_tup_bool, isi_lv_int, isi_lv_str, isi_lv_tuple, isi_lv_list, isi_lv_dict, isi_lv_bool, isi_dv_int, isi_dv_str, isi_dv_tuple, isi_dv_list, isi_dv_dict, isi_dv_bool, isi_scr_int, isi_scr_str, isi_scr_tuple, isi_scr_list, isi_scr_dict, isi_scr_bool]
      · have hbig' : x < (10 : Int) ^ 18 := by omega
        simp only [h3, h2, h1, hbig, hbig', c1, c2, e8, o7_ok, hx, g0, s0, x1, Pd.x2, Pd.x3, x4, decide_true, decide_false, run, ev, evs, evT, evI, fin, Option.bind_some, Option.map_some, startE, List.map_cons, List.map_nil, List.length_cons, List.length_nil, List.cons_append, List.nil_append, List.replicate_succ, List.replicate_zero, Nat.reduceAdd, Nat.reduceSub, Nat.zero_add, List.getElem?_cons_zero, List.getElem?_cons_succ, List.set_cons_zero, List.set_cons_succ, wipeE, bindTg, setAll, retOf, cmpS, eq_ii, eq_ss, lt_ii, lt_ss, mem_s, p_add_i, p_sub_i, b_len_t, b_len_l, b_abs, b_int, b_tuple_l, b_list_t, b_list_l, m_count, i_tup, i_lv, atI_0, atI_1, atI_2, atI_3, atI_4, decide_eq_true_eq, Bool.not_true, Bool.not_false, Bool.false_eq_true, if_true, if_false, ite_true, ite_false, reduceIte, isNon, walkOf, walkS, isi_non_int, isi_non_str, isi_non_tuple, isi_non_list, isi_non_dict, isi_non_bool, isi_bl_int, isi_bl_str, isi_bl_tuple, isi_bl_list, isi_bl_dict, isi_bl_bool, isi_int_int, isi_int_str, isi_int_tuple, isi_int_list, isi_int_dict, isi_int_bool, isi_str_int, isi_str_str, isi_str_tuple, isi_str_list, isi_str_dict, isi_str_bool, isi_tup_int, isi_tup_str, isi_tup_tuple, isi_tup_list, isi_tup_dict, isi_tup_bool, isi_lv_int, isi_lv_str, isi_lv_tuple, isi_lv_list, isi_lv_dict, isi_lv_bool, isi_dv_int, isi_dv_str, isi_dv_tuple, isi_dv_list, isi_dv_dict, isi_dv_bool, isi_scr_int, isi_scr_str, isi_scr_tuple, isi_scr_list, isi_scr_dict, isi_scr_bool]
    rw [run, first]
    simp only [Option.bind_some]
    rw [k4]
    rfl
  · obtain ⟨v, h', k1, k2, k3, k4⟩ := draw_tail (n := 1) (fu := 1000) (Φ := callN 1000 progL m) (Nat.le_refl _) hh hk T none
    refine ⟨v, h', k1, k2, k3, ?_⟩
    rw [cN, callN_at fi_law_draw rfl]
    have e0 : startE d_law_draw.N.length [.ref 0, .int k] = [some (.ref 0), some (.int k), none, none, none] := rfl
    rw [e0]
    show ((run 1000 (callN 1000 progL m) (.seq _ (.seq _ _)) [some (.ref 0), some (.int k), none, none, none] (handD h :: T))).bind retOf = _
    have first : run 1000 (callN 1000 progL m) (.ite (.and (.cmp .eq (.sub (.var 0) (.int 2)) (.int 0)) (.cmp .lt (.sub (.var 0) (.int 1)) (.blt .len false (.cons (.sub (.var 0) (.int 0)) .nil)))) (.seq (.set 3 (.sub (.sub (.var 0) (.int 0)) (.sub (.var 0) (.int 1)))) (.seq (.setI (.var 0) (.int 1) (.op .add (.sub (.var 0) (.int 1)) (.int 1))) (.seq (.setI (.var 0) (.int 3) (d_law_draw_o8)) (.seq (.ite (.cmp .ge (.var 3) (d_law_draw_o7)) (.seq (.setI (.var 0) (.int 2) (.var 3)) .skip) (.skip)) .skip)))) (.skip)) [some (.ref 0), some (.int k), none, none, none] (handD h :: T) =
        some (.nx [some (.ref 0), some (.int k), none, none, none], handD h :: T) := by
      by_cases c1 : h.b = 0
      · have c2 : ¬ h.i < ((h.cells.map D.int).length : Nat) := fun z => hc ⟨c1, z⟩
        simp only [c1, c2, g0, decide_true, decide_false, run, ev, evs, evT, evI, fin, Option.bind_some, Option.map_some, startE, List.map_cons, List.map_nil, List.length_cons, List.length_nil, List.cons_append, List.nil_append, List.replicate_succ, List.replicate_zero, Nat.reduceAdd, Nat.reduceSub, Nat.zero_add, List.getElem?_cons_zero, List.getElem?_cons_succ, List.set_cons_zero, List.set_cons_succ, wipeE, bindTg, setAll, retOf, cmpS, eq_ii, eq_ss, lt_ii, lt_ss, mem_s, p_add_i, p_sub_i, b_len_t, b_len_l, b_abs, b_int, b_tuple_l, b_list_t, b_list_l, m_count, i_tup, i_lv, atI_0, atI_1, atI_2, atI_3, atI_4, decide_eq_true_eq, Bool.not_true, Bool.not_false, Bool.false_eq_true, if_true, if_false, ite_true, ite_false, reduceIte, isNon, walkOf, walkS, isi_non_int, isi_non_str, isi_non_tuple, isi_non_list, isi_non_dict, isi_non_bool, isi_bl_int, isi_bl_str, isi_bl_tuple, isi_bl_list, isi_bl_dict, isi_bl_bool, isi_int_int, isi_int_str, isi_int_tuple, isi_int_list, isi_int_dict, isi_int_bool, isi_str_int, isi_str_str, isi_str_tuple, isi_str_list, isi_str_dict, isi_str_bool, isi_tup_int, isi_tup_str, isi_tup_tuple, isi_tup_list, isi_tup_dict, isi_tup_bool, isi_lv_int, isi_lv_str, isi_lv_tuple, isi_lv_list, isi_lv_dict, isi_lv_bool, isi_dv_int, isi_dv_str, isi_dv_tuple, isi_dv_list, isi_dv_dict, isi_dv_bool, isi_scr_int, isi_scr_str, isi_scr_tuple, isi_scr_list, isi_scr_dict, isi_scr_bool]
      · simp only [c1, g0, decide_true, decide_false, run, ev, evs, evT, evI, fin, Option.bind_some, Option.map_some, startE, List.map_cons, List.map_nil, List.length_cons, List.length_nil, List.cons_append, List.nil_append, List.replicate_succ, List.replicate_zero, Nat.reduceAdd, Nat.reduceSub, Nat.zero_add, List.getElem?_cons_zero, List.getElem?_cons_succ, List.set_cons_zero, List.set_cons_succ, wipeE, bindTg, setAll, retOf, cmpS, eq_ii, eq_ss, lt_ii, lt_ss, mem_s, p_add_i, p_sub_i, b_len_t, b_len_l, b_abs, b_int, b_tuple_l, b_list_t, b_list_l, m_count, i_tup, i_lv, atI_0, atI_1, atI_2, atI_3, atI_4, decide_eq_true_eq, Bool.not_true, Bool.not_false, Bool.false_eq_true, if_true, if_false, ite_true, ite_false, reduceIte, isNon, walkOf, walkS, isi_non_int, isi_non_str, isi_non_tuple, isi_non_list, isi_non_dict, isi_non_bool, isi_bl_int, isi_bl_str, isi_bl_tuple, isi_bl_list, isi_bl_dict, isi_bl_bool, isi_int_int, isi_int_str, isi_int_tuple, isi_int_list, isi_int_dict, isi_int_bool, isi_str_int, isi_str_str, isi_str_tuple, isi_str_list, isi_str_dict, isi_str_bool, isi_tup_int, isi_tup_str, isi_tup_tuple, isi_tup_list, isi_tup_dict, isi_tup_bool, isi_lv_int, isi_lv_str, isi_lv_tuple, isi_lv_list, isi_lv_dict, isi_lv_bool, isi_dv_int, isi_dv_str, isi_dv_tuple, isi_dv_list, isi_dv_dict, isi_dv_bool, isi_scr_int, isi_scr_str, isi_scr_tuple, isi_scr_list, isi_scr_dict, isi_scr_bool]
    rw [run, first]
    simp only [Option.bind_some]
    rw [k4]
    rfl
end
end Pd

namespace Pd
open PySem PySem.Spec PyProof.Rows L2
section
variable {n : Nat} {T S : Store} {fu : Nat} {Φ : Calls}
theorem some_ok (hn : 2 ≤ n) {h : Hand} (hh : HandOk h) {xs : List D} (h0 : xs ≠ []) (hl : xs.length ≤ 1000) (T : Store) :
    ∃ d h', d ∈ xs ∧ HandOk h' ∧ cN n "_law_some" [.ref 0, .lv xs] (handD h :: T) = some (d, handD h' :: T) := by
  obtain ⟨m, rfl, hm⟩ := pos_n hn
  have hpos : 0 < xs.length := List.length_pos_iff.mpr h0
  obtain ⟨v, h', k1, k2, k3, k4⟩ := draw_ok (n := m) hm hh (k := (xs.length : Nat)) (by omega) T
  obtain ⟨j, rfl⟩ : ∃ j : Nat, v = j := ⟨v.toNat, by omega⟩
  have hj : j < xs.length := by omega
  refine ⟨xs[j], h', List.getElem_mem hj, k1, ?_⟩
  rw [cN, callN_at fi_law_some rfl]
  rw [cN] at k4
  have e : atI xs (j : Int) = some xs[j] := by rw [atI_nat', List.getElem?_eq_getElem hj]
  simp only [d_law_some, k4, e, run, ev, evs, evT, evI, fin, Option.bind_some, Option.map_some, startE, List.map_cons, List.map_nil, List.length_cons, List.length_nil, List.cons_append, List.nil_append, List.replicate_succ, List.replicate_zero, Nat.reduceAdd, Nat.reduceSub, Nat.zero_add, List.getElem?_cons_zero, List.getElem?_cons_succ, List.set_cons_zero, List.set_cons_succ, wipeE, bindTg, setAll, retOf, cmpS, eq_ii, eq_ss, lt_ii, lt_ss, mem_s, p_add_i, p_sub_i, b_len_t, b_len_l, b_abs, b_int, b_tuple_l, b_list_t, b_list_l, m_count, i_tup, i_lv, atI_0, atI_1, atI_2, atI_3, atI_4, decide_eq_true_eq, Bool.not_true, Bool.not_false, Bool.false_eq_true, if_true, if_false, ite_true, ite_false, reduceIte, isNon, walkOf, walkS, isi_non_int, isi_non_str, isi_non_tuple, isi_non_list, isi_non_dict, isi_non_bool, isi_bl_int, isi_bl_str, isi_bl_tuple, isi_bl_list, isi_bl_dict, isi_bl_bool, isi_int_int, isi_int_str, isi_int_tuple, isi_int_list, isi_int_dict, isi_int_bool, isi_str_int, isi_str_str, isi_str_tuple, isi_str_list, isi_str_dict, isi_str_bool, isi_tup_int, isi_tup_str, isi_tup_tuple, isi_tup_list, isi_tup_dict, isi_tup_bool, isi_lv_int, isi_lv_str, isi_lv_tuple, isi_lv_list, isi_lv_dict, isi_lv_bool, isi_dv_int, isi_dv_str, isi_dv_tuple, isi_dv_list, isi_dv_dict, isi_dv_bool, isi_scr_int, isi_scr_str, isi_scr_tuple, isi_scr_list, isi_scr_dict, isi_scr_bool]
/-! ### sameness -/
theorem eq_bb (a b : Bool) : eqS S (.bl a) (.bl b) = some (decide (a = b)) := by
  simp only [eqS, top, okd, py, PyData.eqv, Bool.and_self, if_true]
  cases a <;> cases b <;> rfl
theorem sameAll_self {L : List Nat} (f : Nat → D) (hf : ∀ c, okd 11 (f c) = true ∧ PyData.eqv (py (f c)) (py (f c)) = true) : ∀ {M : List Nat}, (∀ c ∈ M, c ∈ L) → sameAll (L.map fun c => .s [c]) (L.map f) (M.map fun c => .s [c]) (M.map f) = true
  | [], _ => rfl
  | c :: M, h => by
    simp only [List.map_cons, sameAll, look_firsts f (h c List.mem_cons_self), (hf c).1, (hf c).2, Bool.and_self, Bool.true_and]
    exact sameAll_self f hf fun d hd => h d (List.mem_cons_of_mem _ hd)
theorem eq_cnt (t : List Nat) : eqS S (cntD t) (cntD t) = some true := by
  have e : eqS S (cntD t) (cntD t) = eqDk S (cntD t) (cntD t) := by
    unfold eqS
    simp only [top, okd, Bool.false_and, Bool.and_self, Bool.false_eq_true, if_false]
  rw [e]
  unfold eqDk
  simp only [asDk, cnts_eq, beq_self_eq_true, Bool.true_and]
  rw [if_pos]
  exact sameAll_self (fun c => .int (t.count c : Nat)) (fun c => ⟨rfl, by simp [py, PyData.eqv]⟩) fun c h => h
/-- what the law's own look can compare -/
def isD : Nat → D → Prop
  | 0, _ => False
  | k + 1, d => (∃ xs, (d = .tup xs ∨ d = .lv xs) ∧ xs.length ≤ 1000 ∧ ∀ x ∈ xs, isD k x) ∨ (∃ i, d = .int i) ∨ (∃ c, d = .str c) ∨ d = .non ∨ (∃ b, d = .bl b) ∨ ∃ ks vs, d = .dv false ks vs ∧ ∀ S, eqS S d d = some true
theorem zipL_self : ∀ xs : List D, zipL xs xs = xs.map fun x => .tup [x, x]
  | [] => rfl
  | x :: xs => by rw [zipL, zipL_self xs]; rfl
theorem all_tt (xs : List D) : bltS .all [.lv (xs.map fun _ => D.bl true)] S = some (.val (.bl true)) := all_true xs
theorem is_c1 {m k : Nat} (ih : ∀ d, isD k d → callN 1000 progL m "_law_is" [d, d] S = some (.bl true, S)) {xs : List D} (hl : xs.length ≤ 1000) (hx : ∀ x ∈ xs, isD k x) {d : D} (hd : walkS d = some xs) :
    ev 1000 (callN 1000 progL m) d_law_is_c1 [some d, some d, none, none] S = some (.lv (xs.map fun _ => .bl true), S) := by
  refine lc_map (L := xs) (φ := fun x => .tup [x, x]) (fun _ => .bl true) ?_ (fun x hm => ?_) (by unfold line; omega)
  · simp only [evI, ev, List.getElem?_cons_zero, List.getElem?_cons_succ, Option.bind_some, hd, Option.map_some, zipL_self]
  · simp only [turnF, ih x (hx x hm), run, ev, evs, evT, evI, fin, Option.bind_some, Option.map_some, startE, List.map_cons, List.map_nil, List.length_cons, List.length_nil, List.cons_append, List.nil_append, List.replicate_succ, List.replicate_zero, Nat.reduceAdd, Nat.reduceSub, Nat.zero_add, List.getElem?_cons_zero, List.getElem?_cons_succ, List.set_cons_zero, List.set_cons_succ, wipeE, bindTg, setAll, retOf, cmpS, eq_ii, eq_ss, lt_ii, lt_ss, mem_s, p_add_i, p_sub_i, b_len_t, b_len_l, b_abs, b_int, b_tuple_l, b_list_t, b_list_l, m_count, i_tup, i_lv, atI_0, atI_1, atI_2, atI_3, atI_4, decide_eq_true_eq, Bool.not_true, Bool.not_false, Bool.false_eq_true, if_true, if_false, ite_true, ite_false, reduceIte, isNon, walkOf, walkS, isi_non_int, isi_non_str, isi_non_tuple, isi_non_list, isi_non_dict, isi_non_bool, isi_bl_int, isi_bl_str, isi_bl_tuple, isi_bl_list, isi_bl_dict, isi_bl_bool, isi_int_int, isi_int_str, isi_int_tuple, isi_int_list, isi_int_dict, isi_int_bool, isi_str_int, isi_str_str, isi_str_tuple, isi_str_list, isi_str_dict, isi_str_bool, isi_tup_int, isi_tup_str, isi_tup_tuple, isi_tup_list, isi_tup_dict, isi_tup_bool, isi_lv_int, isi_lv_str, isi_lv_tuple, isi_lv_list, isi_lv_dict, isi_lv_bool, isi_dv_int, isi_dv_str, isi_dv_tuple, isi_dv_list, isi_dv_dict, isi_dv_bool, isi_scr_int, isi_scr_str, isi_scr_tuple, isi_scr_list, isi_scr_dict, isi_scr_bool]
theorem is_ok : ∀ (k : Nat) (n : Nat), k ≤ n → ∀ d, isD k d → cN n "_law_is" [d, d] S = some (.bl true, S)
  | 0, _, _, _, h => h.elim
  | k + 1, n, hn, d, h => by
    obtain ⟨m, rfl, hm⟩ := pos_n (k := k) hn
    have ih : ∀ d, isD k d → callN 1000 progL m "_law_is" [d, d] S = some (.bl true, S) := fun d hd => is_ok k m hm d hd
    rw [cN, callN_at fi_law_is rfl]
    rcases h with ⟨xs, h, hl, hx⟩ | ⟨i, rfl⟩ | ⟨c, rfl⟩ | rfl | ⟨b, rfl⟩ | ⟨ks, vs, rfl, he⟩
    · rcases h with rfl | rfl
      · have hc := is_c1 ih hl hx (d := .tup xs) rfl
        simp only [d_law_is, hc, all_tt, eq_bb, decide_true, run, ev, evs, evT, evI, fin, Option.bind_some, Option.map_some, startE, List.map_cons, List.map_nil, List.length_cons, List.length_nil, List.cons_append, List.nil_append, List.replicate_succ, List.replicate_zero, Nat.reduceAdd, Nat.reduceSub, Nat.zero_add, List.getElem?_cons_zero, List.getElem?_cons_succ, List.set_cons_zero, List.set_cons_succ, wipeE, bindTg, setAll, retOf, cmpS, eq_ii, eq_ss, lt_ii, lt_ss, mem_s, p_add_i, p_sub_i, b_len_t, b_len_l, b_abs, b_int, b_tuple_l, b_list_t, b_list_l, m_count, i_tup, i_lv, atI_0, atI_1, atI_2, atI_3, atI_4, decide_eq_true_eq, Bool.not_true, Bool.not_false, Bool.false_eq_true, if_true, if_false, ite_true, ite_false, reduceIte, isNon, walkOf, walkS, isi_non_int, isi_non_str, isi_non_tuple, isi_non_list, isi_non_dict, isi_non_bool, isi_bl_int, isi_bl_str, isi_bl_tuple, isi_bl_list, isi_bl_dict, isi_bl_bool, isi_int_int, isi_int_str, isi_int_tuple, isi_int_list, isi_int_dict, isi_int_bool, isi_str_int, isi_str_str, isi_str_tuple, isi_str_list, isi_str_dict, isi_str_bool, isi_tup_int, isi_tup_str, isi_tup_tuple, isi_tup_list, isi_tup_dict, isi_tup_bool, isi_lv_int, isi_lv_str, isi_lv_tuple, isi_lv_list, isi_lv_dict, isi_lv_bool, isi_dv_int, isi_dv_str, isi_dv_tuple, isi_dv_list, isi_dv_dict, isi_dv_bool, isi_scr_int, isi_scr_str, isi_scr_tuple, isi_scr_list, isi_scr_dict, isi_scr_bool]
      · have hc := is_c1 ih hl hx (d := .lv xs) rfl
        simp only [d_law_is, hc, all_tt, eq_bb, decide_true, run, ev, evs, evT, evI, fin, Option.bind_some, Option.map_some, startE, List.map_cons, List.map_nil, List.length_cons, List.length_nil, List.cons_append, List.nil_append, List.replicate_succ, List.replicate_zero, Nat.reduceAdd, Nat.reduceSub, Nat.zero_add, List.getElem?_cons_zero, List.getElem?_cons_succ, List.set_cons_zero, List.set_cons_succ, wipeE, bindTg, setAll, retOf, cmpS, eq_ii, eq_ss, lt_ii, lt_ss, mem_s, p_add_i, p_sub_i, b_len_t, b_len_l, b_abs, b_int, b_tuple_l, b_list_t, b_list_l, m_count, i_tup, i_lv, atI_0, atI_1, atI_2, atI_3, atI_4, decide_eq_true_eq, Bool.not_true, Bool.not_false, Bool.false_eq_true, if_true, if_false, ite_true, ite_false, reduceIte, isNon, walkOf, walkS, isi_non_int, isi_non_str, isi_non_tuple, isi_non_list, isi_non_dict, isi_non_bool, isi_bl_int, isi_bl_str, isi_bl_tuple, isi_bl_list, isi_bl_dict, isi_bl_bool, isi_int_int, isi_int_str, isi_int_tuple, isi_int_list, isi_int_dict, isi_int_bool, isi_str_int, isi_str_str, isi_str_tuple, isi_str_list, isi_str_dict, isi_str_bool, isi_tup_int, isi_tup_str, isi_tup_tuple, isi_tup_list, isi_tup_dict, isi_tup_bool, isi_lv_int, isi_lv_str, isi_lv_tuple, isi_lv_list, isi_lv_dict, isi_lv_bool, isi_dv_int, isi_dv_str, isi_dv_tuple, isi_dv_list, isi_dv_dict, isi_dv_bool, isi_scr_int, isi_scr_str, isi_scr_tuple, isi_scr_list, isi_scr_dict, isi_scr_bool]
    · simp only [d_law_is, decide_true, run, ev, evs, evT, evI, fin, Option.bind_some, Option.map_some, startE, List.map_cons, List.map_nil, List.length_cons, List.length_nil, List.cons_append, List.nil_append, List.replicate_succ, List.replicate_zero, Nat.reduceAdd, Nat.reduceSub, Nat.zero_add, List.getElem?_cons_zero, List.getElem?_cons_succ, List.set_cons_zero, List.set_cons_succ, wipeE, bindTg, setAll, retOf, cmpS, eq_ii, eq_ss, lt_ii, lt_ss, mem_s, p_add_i, p_sub_i, b_len_t, b_len_l, b_abs, b_int, b_tuple_l, b_list_t, b_list_l, m_count, i_tup, i_lv, atI_0, atI_1, atI_2, atI_3, atI_4, decide_eq_true_eq, Bool.not_true, Bool.not_false, Bool.false_eq_true, if_true, if_false, ite_true, ite_false, reduceIte, isNon, walkOf, walkS, isi_non_int, isi_non_str, isi_non_tuple, isi_non_list, isi_non_dict, isi_non_bool, isi_bl_int, isi_bl_str, isi_bl_tuple, isi_bl_list, isi_bl_dict, isi_bl_bool, isi_int_int, isi_int_str, isi_int_tuple, isi_int_list, isi_int_dict, isi_int_bool, isi_str_int, isi_str_str, isi_str_tuple, isi_str_list, isi_str_dict, isi_str_bool, isi_tup_int, isi_tup_str, isi_tup_tuple, isi_tup_list, isi_tup_dict, isi_tup_bool, isi_lv_int, isi_lv_str, isi_lv_tuple, isi_lv_list, isi_lv_dict, isi_lv_bool, isi_dv_int, isi_dv_str, isi_dv_tuple, isi_dv_list, isi_dv_dict, isi_dv_bool, isi_scr_int, isi_scr_str, isi_scr_tuple, isi_scr_list, isi_scr_dict, isi_scr_bool]
    · simp only [d_law_is, decide_true, run, ev, evs, evT, evI, fin, Option.bind_some, Option.map_some, startE, List.map_cons, List.map_nil, List.length_cons, List.length_nil, List.cons_append, List.nil_append, List.replicate_succ, List.replicate_zero, Nat.reduceAdd, Nat.reduceSub, Nat.zero_add, List.getElem?_cons_zero, List.getElem?_cons_succ, List.set_cons_zero, List.set_cons_succ, wipeE, bindTg, setAll, retOf, cmpS, eq_ii, eq_ss, lt_ii, lt_ss, mem_s, p_add_i, p_sub_i, b_len_t, b_len_l, b_abs, b_int, b_tuple_l, b_list_t, b_list_l, m_count, i_tup, i_lv, atI_0, atI_1, atI_2, atI_3, atI_4, decide_eq_true_eq, Bool.not_true, Bool.not_false, Bool.false_eq_true, if_true, if_false, ite_true, ite_false, reduceIte, isNon, walkOf, walkS, isi_non_int, isi_non_str, isi_non_tuple, isi_non_list, isi_non_dict, isi_non_bool, isi_bl_int, isi_bl_str, isi_bl_tuple, isi_bl_list, isi_bl_dict, isi_bl_bool, isi_int_int, isi_int_str, isi_int_tuple, isi_int_list, isi_int_dict, isi_int_bool, isi_str_int, isi_str_str, isi_str_tuple, isi_str_list, isi_str_dict, isi_str_bool, isi_tup_int, isi_tup_str, isi_tup_tuple, isi_tup_list, isi_tup_dict, isi_tup_bool, isi_lv_int, isi_lv_str, isi_lv_tuple, isi_lv_list, isi_lv_dict, isi_lv_bool, isi_dv_int, isi_dv_str, isi_dv_tuple, isi_dv_list, isi_dv_dict, isi_dv_bool, isi_scr_int, isi_scr_str, isi_scr_tuple, isi_scr_list, isi_scr_dict, isi_scr_bool]
    · simp only [d_law_is, decide_true, run, ev, evs, evT, evI, fin, Option.bind_some, Option.map_some, startE, List.map_cons, List.map_nil, List.length_cons, List.length_nil, List.cons_append, List.nil_append, List.replicate_succ, List.replicate_zero, Nat.reduceAdd, Nat.reduceSub, Nat.zero_add, List.getElem?_cons_zero, List.getElem?_cons_succ, List.set_cons_zero, List.set_cons_succ, wipeE, bindTg, setAll, retOf, cmpS, eq_ii, eq_ss, lt_ii, lt_ss, mem_s, p_add_i, p_sub_i, b_len_t, b_len_l, b_abs, b_int, b_tuple_l, b_list_t, b_list_l, m_count, i_tup, i_lv, atI_0, atI_1, atI_2, atI_3, atI_4, decide_eq_true_eq, Bool.not_true, Bool.not_false, Bool.false_eq_true, if_true, if_false, ite_true, ite_false, reduceIte, isNon, walkOf, walkS, isi_non_int, isi_non_str, isi_non_tuple, isi_non_list, isi_non_dict, isi_non_bool, isi_bl_int, isi_bl_str, isi_bl_tuple, isi_bl_list, isi_bl_dict, isi_bl_bool, isi_int_int, isi_int_str, isi_int_tuple, isi_int_list, isi_int_dict, isi_int_bool, isi_str_int, isi_str_str, isi_str_tuple, isi_str_list, isi_str_dict, isi_str_bool, isi_tup_int, isi_tup_str, isi_tup_tuple, isi_tup_list, isi_tup_dict, isi_tup_bool, isi_lv_int, isi_lv_str, isi_lv_tuple, isi_lv_list, isi_lv_dict, isi_lv_bool, isi_dv_int, isi_dv_str, isi_dv_tuple, isi_dv_list, isi_dv_dict, isi_dv_bool, isi_scr_int, isi_scr_str, isi_scr_tuple, isi_scr_list, isi_scr_dict, isi_scr_bool]
    · simp only [d_law_is, eq_bb, decide_true, run, ev, evs, evT, evI, fin, Option.bind_some, Option.map_some, startE, List.map_cons, List.map_nil, List.length_cons, List.length_nil, List.cons_append, List.nil_append, List.replicate_succ, List.replicate_zero, Nat.reduceAdd, Nat.reduceSub, Nat.zero_add, List.getElem?_cons_zero, List.getElem?_cons_succ, List.set_cons_zero, List.set_cons_succ, wipeE, bindTg, setAll, retOf, cmpS, eq_ii, eq_ss, lt_ii, lt_ss, mem_s, p_add_i, p_sub_i, b_len_t, b_len_l, b_abs, b_int, b_tuple_l, b_list_t, b_list_l, m_count, i_tup, i_lv, atI_0, atI_1, atI_2, atI_3, atI_4, decide_eq_true_eq, Bool.not_true, Bool.not_false, Bool.false_eq_true, if_true, if_false, ite_true, ite_false, reduceIte, isNon, walkOf, walkS, isi_non_int, isi_non_str, isi_non_tuple, isi_non_list, isi_non_dict, isi_non_bool, isi_bl_int, isi_bl_str, isi_bl_tuple, isi_bl_list, isi_bl_dict, isi_bl_bool, isi_int_int, isi_int_str, isi_int_tuple, isi_int_list, isi_int_dict, isi_int_bool, isi_str_int, isi_str_str, isi_str_tuple, isi_str_list, isi_str_dict, isi_str_bool, isi_tup_int, isi_tup_str, isi_tup_tuple, isi_tup_list, isi_tup_dict, isi_tup_bool, isi_lv_int, isi_lv_str, isi_lv_tuple, isi_lv_list, isi_lv_dict, isi_lv_bool, isi_dv_int, isi_dv_str, isi_dv_tuple, isi_dv_list, isi_dv_dict, isi_dv_bool, isi_scr_int, isi_scr_str, isi_scr_tuple, isi_scr_list, isi_scr_dict, isi_scr_bool]
    · simp only [d_law_is, he S, decide_true, run, ev, evs, evT, evI, fin, Option.bind_some, Option.map_some, startE, List.map_cons, List.map_nil, List.length_cons, List.length_nil, List.cons_append, List.nil_append, List.replicate_succ, List.replicate_zero, Nat.reduceAdd, Nat.reduceSub, Nat.zero_add, List.getElem?_cons_zero, List.getElem?_cons_succ, List.set_cons_zero, List.set_cons_succ, wipeE, bindTg, setAll, retOf, cmpS, eq_ii, eq_ss, lt_ii, lt_ss, mem_s, p_add_i, p_sub_i, b_len_t, b_len_l, b_abs, b_int, b_tuple_l, b_list_t, b_list_l, m_count, i_tup, i_lv, atI_0, atI_1, atI_2, atI_3, atI_4, decide_eq_true_eq, Bool.not_true, Bool.not_false, Bool.false_eq_true, if_true, if_false, ite_true, ite_false, reduceIte, isNon, walkOf, walkS, isi_non_int, isi_non_str, isi_non_tuple, isi_non_list, isi_non_dict, isi_non_bool, isi_bl_int, isi_bl_str, isi_bl_tuple, isi_bl_list, isi_bl_dict, isi_bl_bool, isi_int_int, isi_int_str, isi_int_tuple, isi_int_list, isi_int_dict, isi_int_bool, isi_str_int, isi_str_str, isi_str_tuple, isi_str_list, isi_str_dict, isi_str_bool, isi_tup_int, isi_tup_str, isi_tup_tuple, isi_tup_list, isi_tup_dict, isi_tup_bool, isi_lv_int, isi_lv_str, isi_lv_tuple, isi_lv_list, isi_lv_dict, isi_lv_bool, isi_dv_int, isi_dv_str, isi_dv_tuple, isi_dv_list, isi_dv_dict, isi_dv_bool, isi_scr_int, isi_scr_str, isi_scr_tuple, isi_scr_list, isi_scr_dict, isi_scr_bool]
end
end Pd

namespace Pd
open PySem PySem.Spec PyProof.Rows L2
section
variable {n : Nat} {T S : Store} {fu : Nat} {Φ : Calls}
theorem slc_scr (ns : List Int) (l h : Option Int) (S : Store) : slcS (.scr ns) l h S = some (.new (.lv ((cutL ns l h).map .int))) := rfl
theorem cutL_len {α : Type} (xs : List α) (lo hi : Option Int) : (cutL xs lo hi).length ≤ xs.length := by
  unfold cutL
  rw [List.length_take, List.length_drop]
  omega
theorem hand_ok (hn : 1 ≤ n) (ns : List Int) (hl : ns.length ≤ 63) : ∃ h, HandOk h ∧ cN n "_law_hand" [.scr ns] [] = some (.ref 0, [handD h]) := by
  obtain ⟨m, rfl, hm⟩ := pos_n hn
  let cells := (cutL ns none (some 63)).map fun i => if i < 0 then -i else i
  refine ⟨⟨cells, 0, 0, 353 + (cells.length : Nat), 0⟩, ⟨fun x hx => ?_, Int.le_refl 0, Int.le_refl 0, by show (0:Int) ≤ 353 + (cells.length : Nat); omega, Int.le_refl 0⟩, ?_⟩
  · obtain ⟨i, _, rfl⟩ := List.mem_map.mp hx
    split <;> omega
  · rw [cN, callN_at fi_law_hand rfl]
    have hlen := cutL_len ns none (some 63)
    have hc : ev 1000 (callN 1000 progL m) d_law_hand_c1 [some (.scr ns), none, none] [] = some (.lv (cells.map .int), []) := by
      show _ = some (D.lv (((cutL ns none (some 63)).map fun i => if i < 0 then -i else i).map .int), [])
      rw [List.map_map]
      refine lc_map (L := cutL ns none (some 63)) (φ := .int) _ ?_ (fun i hi => ?_) (by unfold line; omega)
      · simp only [one?, bound?, slc_scr, run, ev, evs, evT, evI, fin, Option.bind_some, Option.map_some, startE, List.map_cons, List.map_nil, List.length_cons, List.length_nil, List.cons_append, List.nil_append, List.replicate_succ, List.replicate_zero, Nat.reduceAdd, Nat.reduceSub, Nat.zero_add, List.getElem?_cons_zero, List.getElem?_cons_succ, List.set_cons_zero, List.set_cons_succ, wipeE, bindTg, setAll, retOf, cmpS, eq_ii, eq_ss, lt_ii, lt_ss, mem_s, p_add_i, p_sub_i, b_len_t, b_len_l, b_abs, b_int, b_tuple_l, b_list_t, b_list_l, m_count, i_tup, i_lv, atI_0, atI_1, atI_2, atI_3, atI_4, decide_eq_true_eq, Bool.not_true, Bool.not_false, Bool.false_eq_true, if_true, if_false, ite_true, ite_false, reduceIte, isNon, walkOf, walkS, isi_non_int, isi_non_str, isi_non_tuple, isi_non_list, isi_non_dict, isi_non_bool, isi_bl_int, isi_bl_str, isi_bl_tuple, isi_bl_list, isi_bl_dict, isi_bl_bool, isi_int_int, isi_int_str, isi_int_tuple, isi_int_list, isi_int_dict, isi_int_bool, isi_str_int, isi_str_str, isi_str_tuple, isi_str_list, isi_str_dict, isi_str_bool, isi_tup_int, isi_tup_str, isi_tup_tuple, isi_tup_list, isi_tup_dict, isi_tup_bool, isi_lv_int, isi_lv_str, isi_lv_tuple, isi_lv_list, isi_lv_dict, isi_lv_bool, isi_dv_int, isi_dv_str, isi_dv_tuple, isi_dv_list, isi_dv_dict, isi_dv_bool, isi_scr_int, isi_scr_str, isi_scr_tuple, isi_scr_list, isi_scr_dict, isi_scr_bool]
      · simp only [turnF, run, ev, evs, evT, evI, fin, Option.bind_some, Option.map_some, startE, List.map_cons, List.map_nil, List.length_cons, List.length_nil, List.cons_append, List.nil_append, List.replicate_succ, List.replicate_zero, Nat.reduceAdd, Nat.reduceSub, Nat.zero_add, List.getElem?_cons_zero, List.getElem?_cons_succ, List.set_cons_zero, List.set_cons_succ, wipeE, bindTg, setAll, retOf, cmpS, eq_ii, eq_ss, lt_ii, lt_ss, mem_s, p_add_i, p_sub_i, b_len_t, b_len_l, b_abs, b_int, b_tuple_l, b_list_t, b_list_l, m_count, i_tup, i_lv, atI_0, atI_1, atI_2, atI_3, atI_4, decide_eq_true_eq, Bool.not_true, Bool.not_false, Bool.false_eq_true, if_true, if_false, ite_true, ite_false, reduceIte, isNon, walkOf, walkS, isi_non_int, isi_non_str, isi_non_tuple, isi_non_list, isi_non_dict, isi_non_bool, isi_bl_int, isi_bl_str, isi_bl_tuple, isi_bl_list, isi_bl_dict, isi_bl_bool, isi_int_int, isi_int_str, isi_int_tuple, isi_int_list, isi_int_dict, isi_int_bool, isi_str_int, isi_str_str, isi_str_tuple, isi_str_list, isi_str_dict, isi_str_bool, isi_tup_int, isi_tup_str, isi_tup_tuple, isi_tup_list, isi_tup_dict, isi_tup_bool, isi_lv_int, isi_lv_str, isi_lv_tuple, isi_lv_list, isi_lv_dict, isi_lv_bool, isi_dv_int, isi_dv_str, isi_dv_tuple, isi_dv_list, isi_dv_dict, isi_dv_bool, isi_scr_int, isi_scr_str, isi_scr_tuple, isi_scr_list, isi_scr_dict, isi_scr_bool]
        rfl
    have h5 : (5 ≤ line) = True := le_line (by omega)
    simp only [d_law_hand, hc, h5, List.length_map, run, ev, evs, evT, evI, fin, Option.bind_some, Option.map_some, startE, List.map_cons, List.map_nil, List.length_cons, List.length_nil, List.cons_append, List.nil_append, List.replicate_succ, List.replicate_zero, Nat.reduceAdd, Nat.reduceSub, Nat.zero_add, List.getElem?_cons_zero, List.getElem?_cons_succ, List.set_cons_zero, List.set_cons_succ, wipeE, bindTg, setAll, retOf, cmpS, eq_ii, eq_ss, lt_ii, lt_ss, mem_s, p_add_i, p_sub_i, b_len_t, b_len_l, b_abs, b_int, b_tuple_l, b_list_t, b_list_l, m_count, i_tup, i_lv, atI_0, atI_1, atI_2, atI_3, atI_4, decide_eq_true_eq, Bool.not_true, Bool.not_false, Bool.false_eq_true, if_true, if_false, ite_true, ite_false, reduceIte, isNon, walkOf, walkS, isi_non_int, isi_non_str, isi_non_tuple, isi_non_list, isi_non_dict, isi_non_bool, isi_bl_int, isi_bl_str, isi_bl_tuple, isi_bl_list, isi_bl_dict, isi_bl_bool, isi_int_int, isi_int_str, isi_int_tuple, isi_int_list, isi_int_dict, isi_int_bool, isi_str_int, isi_str_str, isi_str_tuple, isi_str_list, isi_str_dict, isi_str_bool, isi_tup_int, isi_tup_str, isi_tup_tuple, isi_tup_list, isi_tup_dict, isi_tup_bool, isi_lv_int, isi_lv_str, isi_lv_tuple, isi_lv_list, isi_lv_dict, isi_lv_bool, isi_dv_int, isi_dv_str, isi_dv_tuple, isi_dv_list, isi_dv_dict, isi_dv_bool, isi_scr_int, isi_scr_str, isi_scr_tuple, isi_scr_list, isi_scr_dict, isi_scr_bool]
/-- a walk whose turns change the hand -/
theorem runFix_ex {α β : Type} {f : D → Store → Option (Option α × Store)} {φ : β → D} (P : Store → Prop) (Q : α → Prop) : ∀ (L : List β) (S : Store), P S → (∀ b ∈ L, ∀ S, P S → ∃ y S', f (φ b) S = some (some y, S') ∧ Q y ∧ P S') →
    ∃ ys S', runFix f (L.map φ) S = some (ys, S') ∧ ys.length = L.length ∧ (∀ y ∈ ys, Q y) ∧ P S'
  | [], S, h, _ => ⟨[], S, rfl, rfl, fun _ h => (List.not_mem_nil h).elim, h⟩
  | b :: L, S, h, hs => by
    obtain ⟨y, S1, e1, q1, p1⟩ := hs b List.mem_cons_self S h
    obtain ⟨ys, S2, e2, l2, q2, p2⟩ := runFix_ex P Q L S1 p1 fun c hc => hs c (List.mem_cons_of_mem _ hc)
    refine ⟨y :: ys, S2, ?_, by rw [List.length_cons, List.length_cons, l2], fun z hz => ?_, p2⟩
    · rw [List.map_cons, runFix, e1, Option.bind_some, e2]
      rfl
    · rcases List.mem_cons.mp hz with rfl | hz
      · exact q1
      · exact q2 z hz
theorem signs_of : ∀ ys : List D, (∀ y ∈ ys, ∃ c, y = .str [c] ∧ sgn c) → ∃ cs : List Nat, ys = cs.map (fun c => .str [c]) ∧ ∀ c ∈ cs, sgn c
  | [], _ => ⟨[], rfl, fun _ h => (List.not_mem_nil h).elim⟩
  | y :: ys, h => by
    obtain ⟨c, rfl, hc⟩ := h y List.mem_cons_self
    obtain ⟨cs, rfl, hs⟩ := signs_of ys fun z hz => h z (List.mem_cons_of_mem _ hz)
    exact ⟨c :: cs, rfl, fun d hd => (List.mem_cons.mp hd).elim (fun e => e ▸ hc) (hs d)⟩
theorem rows_c1 {m : Nat} (hm : 2 ≤ m) {sg : List Nat} (h0 : sg ≠ []) (hs : ∀ c ∈ sg, sgn c) (hl : sg.length ≤ 1000) {w : Nat} (hw : w ≤ 12) {h : Hand} (hh : HandOk h) (T : Store) (x1 x2 x3 : Option D) :
    ∃ (cs : List Nat) (h' : Hand), cs.length = w ∧ (∀ c ∈ cs, sgn c) ∧ HandOk h' ∧ ev 1000 (callN 1000 progL m) d_law_rows_c1 [some (.ref 0), x1, x2, x3, some (.int (w : Nat)), some (.str sg), none] (handD h :: T) = some (.lv (cs.map fun c => .str [c]), handD h' :: T) := by
  have hll : sg.length ≤ line := by unfold line; omega
  obtain ⟨ys, S', e, l, q, h', hh', rfl⟩ := runFix_ex (f := turnF (.nm 6) [6] (evT 1000 (callN 1000 progL m) .nil) (ev 1000 (callN 1000 progL m) (.call "_law_some" (.cons (.var 0) (.cons (.blt .list false (.cons (.var 5) .nil)) .nil)))) [some (.ref 0), x1, x2, x3, some (.int (w : Nat)), some (.str sg), none])
    (φ := fun i : Nat => D.int (0 + (i : Int))) (fun S => ∃ h', HandOk h' ∧ S = handD h' :: T) (fun y => ∃ c, y = D.str [c] ∧ sgn c) (List.range w) (handD h :: T) ⟨h, hh, rfl⟩ (fun b hb S ⟨h1, hh1, e⟩ => by
      subst e
      obtain ⟨d, h2, hd, hh2, e2⟩ := some_ok (n := m) hm hh1 (xs := sg.map fun c => .str [c]) (by simpa using h0) (by rw [List.length_map]; exact hl) T
      obtain ⟨c, hc, rfl⟩ := List.mem_map.mp hd
      refine ⟨.str [c], handD h2 :: T, ?_, ⟨c, rfl, hs c hc⟩, h2, hh2, rfl⟩
      rw [cN] at e2
      simp only [turnF, b_list_s hll, e2, run, ev, evs, evT, evI, fin, Option.bind_some, Option.map_some, startE, List.map_cons, List.map_nil, List.length_cons, List.length_nil, List.cons_append, List.nil_append, List.replicate_succ, List.replicate_zero, Nat.reduceAdd, Nat.reduceSub, Nat.zero_add, List.getElem?_cons_zero, List.getElem?_cons_succ, List.set_cons_zero, List.set_cons_succ, wipeE, bindTg, setAll, retOf, cmpS, eq_ii, eq_ss, lt_ii, lt_ss, mem_s, p_add_i, p_sub_i, b_len_t, b_len_l, b_abs, b_int, b_tuple_l, b_list_t, b_list_l, m_count, i_tup, i_lv, atI_0, atI_1, atI_2, atI_3, atI_4, decide_eq_true_eq, Bool.not_true, Bool.not_false, Bool.false_eq_true, if_true, if_false, ite_true, ite_false, reduceIte, isNon, walkOf, walkS, isi_non_int, isi_non_str, isi_non_tuple, isi_non_list, isi_non_dict, isi_non_bool, isi_bl_int, isi_bl_str, isi_bl_tuple, isi_bl_list, isi_bl_dict, isi_bl_bool, isi_int_int, isi_int_str, isi_int_tuple, isi_int_list, isi_int_dict, isi_int_bool, isi_str_int, isi_str_str, isi_str_tuple, isi_str_list, isi_str_dict, isi_str_bool, isi_tup_int, isi_tup_str, isi_tup_tuple, isi_tup_list, isi_tup_dict, isi_tup_bool, isi_lv_int, isi_lv_str, isi_lv_tuple, isi_lv_list, isi_lv_dict, isi_lv_bool, isi_dv_int, isi_dv_str, isi_dv_tuple, isi_dv_list, isi_dv_dict, isi_dv_bool, isi_scr_int, isi_scr_str, isi_scr_tuple, isi_scr_list, isi_scr_dict, isi_scr_bool])
  obtain ⟨cs, rfl, hcs⟩ := signs_of ys q
  refine ⟨cs, h', by simpa using l, hcs, hh', ?_⟩
  have hr : rangeS [.int (w : Nat)] = some (intL 0 w) := by rw [range_1 (by omega), Int.toNat_natCast]
  exact lc_fix (k := false) (xs := intL 0 w) (by simp only [hr, run, ev, evs, evT, evI, fin, Option.bind_some, Option.map_some, startE, List.map_cons, List.map_nil, List.length_cons, List.length_nil, List.cons_append, List.nil_append, List.replicate_succ, List.replicate_zero, Nat.reduceAdd, Nat.reduceSub, Nat.zero_add, List.getElem?_cons_zero, List.getElem?_cons_succ, List.set_cons_zero, List.set_cons_succ, wipeE, bindTg, setAll, retOf, cmpS, eq_ii, eq_ss, lt_ii, lt_ss, mem_s, p_add_i, p_sub_i, b_len_t, b_len_l, b_abs, b_int, b_tuple_l, b_list_t, b_list_l, m_count, i_tup, i_lv, atI_0, atI_1, atI_2, atI_3, atI_4, decide_eq_true_eq, Bool.not_true, Bool.not_false, Bool.false_eq_true, if_true, if_false, ite_true, ite_false, reduceIte, isNon, walkOf, walkS, isi_non_int, isi_non_str, isi_non_tuple, isi_non_list, isi_non_dict, isi_non_bool, isi_bl_int, isi_bl_str, isi_bl_tuple, isi_bl_list, isi_bl_dict, isi_bl_bool, isi_int_int, isi_int_str, isi_int_tuple, isi_int_list, isi_int_dict, isi_int_bool, isi_str_int, isi_str_str, isi_str_tuple, isi_str_list, isi_str_dict, isi_str_bool, isi_tup_int, isi_tup_str, isi_tup_tuple, isi_tup_list, isi_tup_dict, isi_tup_bool, isi_lv_int, isi_lv_str, isi_lv_tuple, isi_lv_list, isi_lv_dict, isi_lv_bool, isi_dv_int, isi_dv_str, isi_dv_tuple, isi_dv_list, isi_dv_dict, isi_dv_bool, isi_scr_int, isi_scr_str, isi_scr_tuple, isi_scr_list, isi_scr_dict, isi_scr_bool]) e (by rw [l, List.length_range]; unfold line; omega)
theorem set_mid (h : Hand) (T : Store) (x y : D) : (handD h :: (T ++ [x])).set (T.length + 1) y = handD h :: (T ++ [y]) := by
  rw [List.set_cons_succ, set_last]
theorem get_mid (h : Hand) (T : Store) (x : D) : (handD h :: (T ++ [x]))[T.length + 1]? = some x := by
  rw [List.getElem?_cons_succ, get_last]
theorem tyOf_s (c : List Nat) : tyOf S (.str c) = some "str" := rfl
theorem rows_step {m : Nat} (hm : 2 ≤ m) {sg : List Nat} (h0 : sg ≠ []) (hs : ∀ c ∈ sg, sgn c) (hl : sg.length ≤ 1000) {w : Nat} (hw : w ≤ 12) {h : Hand} (hh : HandOk h) (T : Store) (x1 x3 : Option D) {acc : List (List Nat)} (ha : acc.length ≤ 100) :
    ∃ (cs : List Nat) (h' : Hand), cs.length = w ∧ (∀ c ∈ cs, sgn c) ∧ HandOk h' ∧ run 1000 (callN 1000 progL m) d_law_rows_b1 [some (.ref 0), x1, some (.ref (T.length + 1)), x3, some (.int (w : Nat)), some (.str sg), none] (handD h :: (T ++ [.lv (acc.map .str)])) =
      some (.nx [some (.ref 0), x1, some (.ref (T.length + 1)), x3, some (.int (w : Nat)), some (.str sg), none], handD h' :: (T ++ [.lv ((acc ++ [cs]).map .str)])) := by
  obtain ⟨cs, h', l, hcs, hh', e⟩ := rows_c1 hm h0 hs hl hw hh (T ++ [.lv (acc.map .str)]) x1 (some (.ref (T.length + 1))) x3
  refine ⟨cs, h', l, hcs, hh', ?_⟩
  have hj := join_signs (S := handD h' :: (T ++ [.lv (acc.map .str)])) cs (by omega)
  have hg := get_mid h' T (.lv (acc.map .str))
  have hg0 := get_mid h T (.lv (acc.map .str))
  have ha' : (acc.map D.str).length < line := by rw [List.length_map]; unfold line; omega
  have hap := app_ref hg ha' (.str cs)
  rw [set_mid] at hap
  rw [List.map_append]
  simp only [d_law_rows_b1, e, hj, hap, tyOf_s, ty_ref hg0, mthTy, run, ev, evs, evT, evI, fin, Option.bind_some, Option.map_some, startE, List.map_cons, List.map_nil, List.length_cons, List.length_nil, List.cons_append, List.nil_append, List.replicate_succ, List.replicate_zero, Nat.reduceAdd, Nat.reduceSub, Nat.zero_add, List.getElem?_cons_zero, List.getElem?_cons_succ, List.set_cons_zero, List.set_cons_succ, wipeE, bindTg, setAll, retOf, cmpS, eq_ii, eq_ss, lt_ii, lt_ss, mem_s, p_add_i, p_sub_i, b_len_t, b_len_l, b_abs, b_int, b_tuple_l, b_list_t, b_list_l, m_count, i_tup, i_lv, atI_0, atI_1, atI_2, atI_3, atI_4, decide_eq_true_eq, Bool.not_true, Bool.not_false, Bool.false_eq_true, if_true, if_false, ite_true, ite_false, reduceIte, isNon, walkOf, walkS, isi_non_int, isi_non_str, isi_non_tuple, isi_non_list, isi_non_dict, isi_non_bool, isi_bl_int, isi_bl_str, isi_bl_tuple, isi_bl_list, isi_bl_dict, isi_bl_bool, isi_int_int, isi_int_str, isi_int_tuple, isi_int_list, isi_int_dict, isi_int_bool, isi_str_int, isi_str_str, isi_str_tuple, isi_str_list, isi_str_dict, isi_str_bool, isi_tup_int, isi_tup_str, isi_tup_tuple, isi_tup_list, isi_tup_dict, isi_tup_bool, isi_lv_int, isi_lv_str, isi_lv_tuple, isi_lv_list, isi_lv_dict, isi_lv_bool, isi_dv_int, isi_dv_str, isi_dv_tuple, isi_dv_list, isi_dv_dict, isi_dv_bool, isi_scr_int, isi_scr_str, isi_scr_tuple, isi_scr_list, isi_scr_dict, isi_scr_bool]
theorem rows_ok (hn : 3 ≤ n) {h : Hand} (hh : HandOk h) (T : Store) : ∃ rows w h' T', Rows rows w ∧ HandOk h' ∧ cN n "_law_rows" [.ref 0, .int 12] (handD h :: T) = some (rowsD rows, handD h' :: (T ++ T')) := by
  obtain ⟨m, rfl, hm⟩ := pos_n hn
  obtain ⟨v, h1, hh1, v0, v1, e1⟩ := draw_ok (n := m) (by omega) hh (k := 12) (by decide) T
  obtain ⟨d, h2, hd, hh2, e2⟩ := some_ok (n := m) (by omega) hh1 (xs := [.str [97, 98, 45], .str [97, 45], .str [97, 98, 99, 45], .str [97, 97, 97, 98, 45]]) (by simp) (by decide) T
  obtain ⟨sg, rfl, g0', g1, g2⟩ : ∃ sg : List Nat, d = .str sg ∧ sg ≠ [] ∧ (∀ c ∈ sg, sgn c) ∧ sg.length ≤ 1000 := by
    simp only [List.mem_cons, List.not_mem_nil, or_false] at hd
    rcases hd with rfl | rfl | rfl | rfl <;> refine ⟨_, rfl, by simp, ?_, by decide⟩ <;> (intro c hc; simp only [List.mem_cons, List.not_mem_nil, or_false] at hc; unfold sgn; omega)
  obtain ⟨u, h3, hh3, u0, u1, e3⟩ := draw_ok (n := m) (by omega) hh2 (k := 6) (by decide) (T ++ [.lv []])
  obtain ⟨j, rfl⟩ : ∃ j : Nat, v = j := ⟨v.toNat, by omega⟩
  obtain ⟨q, rfl⟩ : ∃ q : Nat, u = q := ⟨u.toNat, by omega⟩
  have ew : (1 : Int) + (j : Int) = ((j + 1 : Nat) : Int) := by omega
  have eq : (1 : Int) + (q : Int) = ((q + 1 : Nat) : Int) := by omega
  have hr : rangeS [.int ((q + 1 : Nat) : Int)] = some (intL 0 (q + 1)) := by rw [range_1 (by omega), Int.toNat_natCast]
  obtain ⟨ρ', S', he, x3, rows, h', hρ, hS, hh', hlen, hwide, hok⟩ := forFix_inv (g := .nm 3) (b := run 1000 (callN 1000 progL m) d_law_rows_b1) (φ := fun i : Nat => D.int (0 + (i : Int)))
    (fun i ρ S' => ∃ x3 rows h', ρ = [some (.ref 0), some (.int 12), some (.ref (T.length + 1)), x3, some (.int ((j + 1 : Nat) : Int)), some (.str sg), none] ∧ S' = handD h' :: (T ++ [.lv (rows.map .str)]) ∧ HandOk h' ∧ rows.length = i ∧ (∀ r ∈ rows, r.length = j + 1) ∧ ∀ r ∈ rows, ∀ c ∈ r, sgn c)
    (List.range (q + 1)) 0 [some (.ref 0), some (.int 12), some (.ref (T.length + 1)), none, some (.int ((j + 1 : Nat) : Int)), some (.str sg), none] (handD h3 :: (T ++ [.lv []])) ⟨none, [], h3, rfl, rfl, hh3, rfl, fun _ h => (List.not_mem_nil h).elim, fun _ h => (List.not_mem_nil h).elim⟩
    (fun k x ρ S1 hk ⟨x3, rows, h', e4, e5, hh', hlen, hwide, hok⟩ => by
      subst e4
      subst e5
      have hkk := (List.getElem?_eq_some_iff.mp hk).1
      rw [List.length_range] at hkk
      obtain ⟨cs, h'', l, hcs, hh'', e⟩ := rows_step (m := m) (by omega) g0' g1 g2 (w := j + 1) (by omega) hh' T (some (.int 12)) (some (.int (0 + (x : Int)))) (acc := rows) (by omega)
      refine ⟨_, _, _, rfl, .inl e, _, rows ++ [cs], h'', rfl, rfl, hh'', by rw [List.length_append, hlen]; rfl, fun r hr => ?_, fun r hr => ?_⟩
      · rcases List.mem_append.mp hr with hr | hr
        · exact hwide r hr
        · rw [List.mem_singleton.mp hr]; exact l
      · rcases List.mem_append.mp hr with hr | hr
        · exact hok r hr
        · rw [List.mem_singleton.mp hr]; exact hcs)
  subst hρ
  subst hS
  rw [Nat.zero_add, List.length_range] at hlen
  refine ⟨rows, j + 1, h', [.lv (rows.map .str)], ⟨by omega, hwide, by omega, hok⟩, hh', ?_⟩
  rw [cN, callN_at fi_law_rows rfl]
  rw [cN] at e1 e2 e3
  have h4 : (4 ≤ line) = True := le_line (by omega)
  have h00 : (0 ≤ line) = True := eq_true (Nat.zero_le _)
  have hg := get_mid h' T (.lv (rows.map .str))
  simp only [d_law_rows, e1, e2, e3, ew, eq, hr, intL, he, b_tuple_ref hg, h4, h00, run, ev, evs, evT, evI, fin, Option.bind_some, Option.map_some, startE, List.map_cons, List.map_nil, List.length_cons, List.length_nil, List.cons_append, List.nil_append, List.replicate_succ, List.replicate_zero, Nat.reduceAdd, Nat.reduceSub, Nat.zero_add, List.getElem?_cons_zero, List.getElem?_cons_succ, List.set_cons_zero, List.set_cons_succ, wipeE, bindTg, setAll, retOf, cmpS, eq_ii, eq_ss, lt_ii, lt_ss, mem_s, p_add_i, p_sub_i, b_len_t, b_len_l, b_abs, b_int, b_tuple_l, b_list_t, b_list_l, m_count, i_tup, i_lv, atI_0, atI_1, atI_2, atI_3, atI_4, decide_eq_true_eq, Bool.not_true, Bool.not_false, Bool.false_eq_true, if_true, if_false, ite_true, ite_false, reduceIte, isNon, walkOf, walkS, isi_non_int, isi_non_str, isi_non_tuple, isi_non_list, isi_non_dict, isi_non_bool, isi_bl_int, isi_bl_str, isi_bl_tuple, isi_bl_list, isi_bl_dict, isi_bl_bool, isi_int_int, isi_int_str, isi_int_tuple, isi_int_list, isi_int_dict, isi_int_bool, isi_str_int, isi_str_str, isi_str_tuple, isi_str_list, isi_str_dict, isi_str_bool, isi_tup_int, isi_tup_str, isi_tup_tuple, isi_tup_list, isi_tup_dict, isi_tup_bool, isi_lv_int, isi_lv_str, isi_lv_tuple, isi_lv_list, isi_lv_dict, isi_lv_bool, isi_dv_int, isi_dv_str, isi_dv_tuple, isi_dv_list, isi_dv_dict, isi_dv_bool, isi_scr_int, isi_scr_str, isi_scr_tuple, isi_scr_list, isi_scr_dict, isi_scr_bool]
end
end Pd

namespace Pd
open PySem PySem.Spec PyProof.Rows L2
section
variable {n : Nat} {T S : Store} {fu : Nat} {Φ : Calls}
theorem pop_ref {l : Nat} {xs : List D} {i : Int} {k : Nat} {y : D} (h : S[l]? = some (.lv xs)) (hi : i.natAbs < 9223372036854775808) (hk : ixN xs.length i = some k) (hy : xs[k]? = some y) : mthS .popi (.ref l) [.int i] S = some (y, S.set l (.lv (xs.eraseIdx k))) := by
  simp only [mthS, h, hi, if_true, hk, Option.bind_some, hy, Option.map_some]
abbrev two (h : Hand) (T : Store) (xs ys : List D) : Store := handD h :: (T ++ [.lv xs, .lv ys])
theorem two_1 (h : Hand) (T : Store) (xs ys : List D) : (two h T xs ys)[T.length + 1]? = some (.lv xs) := by
  rw [two, List.getElem?_cons_succ, List.getElem?_append_right (Nat.le_refl _), Nat.sub_self]
  rfl
theorem two_2 (h : Hand) (T : Store) (xs ys : List D) : (two h T xs ys)[T.length + 2]? = some (.lv ys) := by
  rw [two, List.getElem?_cons_succ, List.getElem?_append_right (by omega)]
  simp
theorem set_1 (h : Hand) (T : Store) (xs ys zs : List D) : (two h T xs ys).set (T.length + 1) (.lv zs) = two h T zs ys := by
  rw [two, List.set_cons_succ, List.set_append_right _ _ (Nat.le_refl _), Nat.sub_self]
  rfl
theorem set_2 (h : Hand) (T : Store) (xs ys zs : List D) : (two h T xs ys).set (T.length + 2) (.lv zs) = two h T xs zs := by
  rw [two, List.set_cons_succ, List.set_append_right _ _ (by omega)]
  simp
theorem mixed_step {m : Nat} (hm : 1 ≤ m) {h : Hand} (hh : HandOk h) (T : Store) (x1 : Option D) {xs ys : List D} (h0 : xs ≠ []) (hl : xs.length + ys.length ≤ 1000) :
    ∃ k y h', xs[k]? = some y ∧ HandOk h' ∧ run 1000 (callN 1000 progL m) d_law_mixed_b1 [some (.ref 0), x1, some (.ref (T.length + 1)), some (.ref (T.length + 2))] (two h T xs ys) =
      some (.nx [some (.ref 0), x1, some (.ref (T.length + 1)), some (.ref (T.length + 2))], two h' T (xs.eraseIdx k) (ys ++ [y])) := by
  have hpos : 0 < xs.length := List.length_pos_iff.mpr h0
  obtain ⟨v, h', hh', v0, v1, e⟩ := draw_ok (n := m) hm hh (k := (xs.length : Nat)) (by omega) (T ++ [.lv xs, .lv ys])
  obtain ⟨j, rfl⟩ : ∃ j : Nat, v = j := ⟨v.toNat, by omega⟩
  have hj : j < xs.length := by omega
  have hy : xs[j]? = some xs[j] := List.getElem?_eq_getElem hj
  have hix : ixN xs.length (j : Int) = some j := by
    unfold ixN
    rw [if_pos (by omega), if_pos (by omega)]
    simp
  refine ⟨j, xs[j], h', hy, hh', ?_⟩
  rw [cN] at e
  have hp := pop_ref (two_1 h' T xs ys) (i := (j : Nat)) (by omega) hix hy
  rw [set_1] at hp
  have ha := app_ref (two_2 h' T (xs.eraseIdx j) ys) (by unfold line; omega) xs[j]
  rw [set_2] at ha
  have t1 := ty_ref (two_1 h T xs ys)
  have t2 := ty_ref (two_2 h T xs ys)
  have bl := b_len_ref (two_1 h T xs ys)
  simp only [two] at hp ha t1 t2 bl ⊢
  simp only [d_law_mixed_b1, bl, e, hp, ha, t1, t2, mthTy, run, ev, evs, evT, evI, fin, Option.bind_some, Option.map_some, startE, List.map_cons, List.map_nil, List.length_cons, List.length_nil, List.cons_append, List.nil_append, List.replicate_succ, List.replicate_zero, Nat.reduceAdd, Nat.reduceSub, Nat.zero_add, List.getElem?_cons_zero, List.getElem?_cons_succ, List.set_cons_zero, List.set_cons_succ, wipeE, bindTg, setAll, retOf, cmpS, eq_ii, eq_ss, lt_ii, lt_ss, mem_s, p_add_i, p_sub_i, b_len_t, b_len_l, b_abs, b_int, b_tuple_l, b_list_t, b_list_l, m_count, i_tup, i_lv, atI_0, atI_1, atI_2, atI_3, atI_4, decide_eq_true_eq, Bool.not_true, Bool.not_false, Bool.false_eq_true, if_true, if_false, ite_true, ite_false, reduceIte, isNon, walkOf, walkS, isi_non_int, isi_non_str, isi_non_tuple, isi_non_list, isi_non_dict, isi_non_bool, isi_bl_int, isi_bl_str, isi_bl_tuple, isi_bl_list, isi_bl_dict, isi_bl_bool, isi_int_int, isi_int_str, isi_int_tuple, isi_int_list, isi_int_dict, isi_int_bool, isi_str_int, isi_str_str, isi_str_tuple, isi_str_list, isi_str_dict, isi_str_bool, isi_tup_int, isi_tup_str, isi_tup_tuple, isi_tup_list, isi_tup_dict, isi_tup_bool, isi_lv_int, isi_lv_str, isi_lv_tuple, isi_lv_list, isi_lv_dict, isi_lv_bool, isi_dv_int, isi_dv_str, isi_dv_tuple, isi_dv_list, isi_dv_dict, isi_dv_bool, isi_scr_int, isi_scr_str, isi_scr_tuple, isi_scr_list, isi_scr_dict, isi_scr_bool]
theorem perm_erase : ∀ (xs : List D) (k : Nat) (y : D), xs[k]? = some y → xs.Perm (y :: xs.eraseIdx k)
  | [], _, _, h => by simp at h
  | x :: xs, 0, y, h => by
    simp only [List.getElem?_cons_zero, Option.some.injEq] at h
    subst h
    exact List.Perm.refl _
  | x :: xs, k + 1, y, h => by
    have := perm_erase xs k y (by simpa using h)
    exact (this.cons x).trans (List.Perm.swap y x _)
theorem whl_c {m : Nat} (h : Hand) (T : Store) (x1 : Option D) (xs ys : List D) : ev 1000 (callN 1000 progL m) (.cmp .gt (.blt .len false (.cons (.var 2) .nil)) (.int 0)) [some (.ref 0), x1, some (.ref (T.length + 1)), some (.ref (T.length + 2))] (two h T xs ys) = some (.bl (decide ((0 : Int) < (xs.length : Nat))), two h T xs ys) := by
  have bl := b_len_ref (two_1 h T xs ys)
  simp only [two] at bl ⊢
  simp only [bl, run, ev, evs, evT, evI, fin, Option.bind_some, Option.map_some, startE, List.map_cons, List.map_nil, List.length_cons, List.length_nil, List.cons_append, List.nil_append, List.replicate_succ, List.replicate_zero, Nat.reduceAdd, Nat.reduceSub, Nat.zero_add, List.getElem?_cons_zero, List.getElem?_cons_succ, List.set_cons_zero, List.set_cons_succ, wipeE, bindTg, setAll, retOf, cmpS, eq_ii, eq_ss, lt_ii, lt_ss, mem_s, p_add_i, p_sub_i, b_len_t, b_len_l, b_abs, b_int, b_tuple_l, b_list_t, b_list_l, m_count, i_tup, i_lv, atI_0, atI_1, atI_2, atI_3, atI_4, decide_eq_true_eq, Bool.not_true, Bool.not_false, Bool.false_eq_true, if_true, if_false, ite_true, ite_false, reduceIte, isNon, walkOf, walkS, isi_non_int, isi_non_str, isi_non_tuple, isi_non_list, isi_non_dict, isi_non_bool, isi_bl_int, isi_bl_str, isi_bl_tuple, isi_bl_list, isi_bl_dict, isi_bl_bool, isi_int_int, isi_int_str, isi_int_tuple, isi_int_list, isi_int_dict, isi_int_bool, isi_str_int, isi_str_str, isi_str_tuple, isi_str_list, isi_str_dict, isi_str_bool, isi_tup_int, isi_tup_str, isi_tup_tuple, isi_tup_list, isi_tup_dict, isi_tup_bool, isi_lv_int, isi_lv_str, isi_lv_tuple, isi_lv_list, isi_lv_dict, isi_lv_bool, isi_dv_int, isi_dv_str, isi_dv_tuple, isi_dv_list, isi_dv_dict, isi_dv_bool, isi_scr_int, isi_scr_str, isi_scr_tuple, isi_scr_list, isi_scr_dict, isi_scr_bool]
theorem mixed_whl {m : Nat} (hm : 1 ≤ m) (T : Store) (x1 : Option D) : ∀ (f : Nat) (xs ys : List D) (h : Hand), HandOk h → xs.length < f → xs.length + ys.length ≤ 1000 →
    ∃ zs h', (ys ++ xs).Perm zs ∧ HandOk h' ∧ whileN (ev 1000 (callN 1000 progL m) (.cmp .gt (.blt .len false (.cons (.var 2) .nil)) (.int 0))) (run 1000 (callN 1000 progL m) d_law_mixed_b1) f [some (.ref 0), x1, some (.ref (T.length + 1)), some (.ref (T.length + 2))] (two h T xs ys) =
      some (.nx [some (.ref 0), x1, some (.ref (T.length + 1)), some (.ref (T.length + 2))], two h' T [] zs)
  | 0, xs, ys, h, _, hf, _ => absurd hf (Nat.not_lt_zero _)
  | f + 1, xs, ys, h, hh, hf, hl => by
    have bl := b_len_ref (two_1 h T xs ys)
    by_cases h0 : xs = []
    · subst h0
      refine ⟨ys, h, by rw [List.append_nil], hh, ?_⟩
      have hz : ¬ (0 : Int) < (([] : List D).length : Nat) := by decide
      rw [whileN, whl_c, Option.bind_some]
      simp only [hz, decide_false]
    · obtain ⟨k, y, h1, hy, hh1, e⟩ := mixed_step hm hh T x1 h0 hl
      have hk := (List.getElem?_eq_some_iff.mp hy).1
      have hle : (xs.eraseIdx k).length = xs.length - 1 := List.length_eraseIdx_of_lt hk
      obtain ⟨zs, h2, hp, hh2, e2⟩ := mixed_whl hm T x1 f (xs.eraseIdx k) (ys ++ [y]) h1 hh1 (by omega) (by rw [List.length_append, hle]; simp; omega)
      refine ⟨zs, h2, ?_, hh2, ?_⟩
      · refine List.Perm.trans ?_ hp
        rw [List.append_assoc]
        refine List.Perm.append_left ys ?_
        exact perm_erase xs k y hy
      · have hpos : (0 : Int) < (xs.length : Nat) := by
          have : 0 < xs.length := List.length_pos_iff.mpr h0
          omega
        rw [whileN, whl_c, Option.bind_some]
        simp only [hpos, decide_true, e, Option.bind_some, e2]
theorem run_seq {a b : Pd.T} {ρ ρ1 : Env} {S S1 : Store} (h1 : run fu Φ a ρ S = some (.nx ρ1, S1)) : run fu Φ (.seq a b) ρ S = run fu Φ b ρ1 S1 := by
  rw [run, h1]
  rfl
theorem mixed_ok (hn : 2 ≤ n) {h : Hand} (hh : HandOk h) (T : Store) {xs : List D} (hl : xs.length ≤ 900) :
    ∃ zs h' T', xs.Perm zs ∧ HandOk h' ∧ cN n "_law_mixed" [.ref 0, .lv xs] (handD h :: T) = some (.ref (T.length + 2), handD h' :: (T ++ T')) ∧ (handD h' :: (T ++ T'))[T.length + 2]? = some (.lv zs) := by
  obtain ⟨m, rfl, hm⟩ := pos_n hn
  obtain ⟨zs, h', hp, hh', e⟩ := mixed_whl (m := m) hm T (some (.lv xs)) 1000 xs [] h hh (by omega) (by simp; omega)
  refine ⟨zs, h', [.lv [], .lv zs], by simpa using hp, hh', ?_, two_2 h' T [] zs⟩
  rw [cN, callN_at fi_law_mixed rfl]
  have h00 : (0 ≤ line) = True := eq_true (Nat.zero_le _)
  have p1 : run 1000 (callN 1000 progL m) (.par [2, 3] (.cons (.blt .list true (.cons (.var 1) .nil)) (.cons (.lst true (.nil)) (.nil)))) [some (.ref 0), some (.lv xs), none, none] (handD h :: T) =
      some (.nx [some (.ref 0), some (.lv xs), some (.ref (T.length + 1)), some (.ref (T.length + 2))], two h T xs []) := by
    simp only [h00, List.append_assoc, List.length_append, two, run, ev, evs, evT, evI, fin, Option.bind_some, Option.map_some, startE, List.map_cons, List.map_nil, List.length_cons, List.length_nil, List.cons_append, List.nil_append, List.replicate_succ, List.replicate_zero, Nat.reduceAdd, Nat.reduceSub, Nat.zero_add, List.getElem?_cons_zero, List.getElem?_cons_succ, List.set_cons_zero, List.set_cons_succ, wipeE, bindTg, setAll, retOf, cmpS, eq_ii, eq_ss, lt_ii, lt_ss, mem_s, p_add_i, p_sub_i, b_len_t, b_len_l, b_abs, b_int, b_tuple_l, b_list_t, b_list_l, m_count, i_tup, i_lv, atI_0, atI_1, atI_2, atI_3, atI_4, decide_eq_true_eq, Bool.not_true, Bool.not_false, Bool.false_eq_true, if_true, if_false, ite_true, ite_false, reduceIte, isNon, walkOf, walkS, isi_non_int, isi_non_str, isi_non_tuple, isi_non_list, isi_non_dict, isi_non_bool, isi_bl_int, isi_bl_str, isi_bl_tuple, isi_bl_list, isi_bl_dict, isi_bl_bool, isi_int_int, isi_int_str, isi_int_tuple, isi_int_list, isi_int_dict, isi_int_bool, isi_str_int, isi_str_str, isi_str_tuple, isi_str_list, isi_str_dict, isi_str_bool, isi_tup_int, isi_tup_str, isi_tup_tuple, isi_tup_list, isi_tup_dict, isi_tup_bool, isi_lv_int, isi_lv_str, isi_lv_tuple, isi_lv_list, isi_lv_dict, isi_lv_bool, isi_dv_int, isi_dv_str, isi_dv_tuple, isi_dv_list, isi_dv_dict, isi_dv_bool, isi_scr_int, isi_scr_str, isi_scr_tuple, isi_scr_list, isi_scr_dict, isi_scr_bool]
  have p2 : run 1000 (callN 1000 progL m) (.whl (.cmp .gt (.blt .len false (.cons (.var 2) .nil)) (.int 0)) (d_law_mixed_b1)) [some (.ref 0), some (.lv xs), some (.ref (T.length + 1)), some (.ref (T.length + 2))] (two h T xs []) = _ := e
  have p3 : run 1000 (callN 1000 progL m) (.seq (.ret (.var 3)) .skip) [some (.ref 0), some (.lv xs), some (.ref (T.length + 1)), some (.ref (T.length + 2))] (two h' T [] zs) = some (.rt (.ref (T.length + 2)), two h' T [] zs) := rfl
  have e9 : startE d_law_mixed.N.length [.ref 0, .lv xs] = [some (.ref 0), some (.lv xs), none, none] := rfl
  rw [e9]
  show (run 1000 (callN 1000 progL m) (.seq _ (.seq _ _)) _ _).bind retOf = _
  rw [run_seq p1, run_seq p2, p3]
  rfl
end
end Pd

namespace Pd
open PySem PySem.Spec PyProof.Rows L2
section
variable {n : Nat} {T S : Store} {fu : Nat} {Φ : Calls}
theorem all_map {α : Type} (p : α → Bool) (l : List α) : bltS .all [.lv (l.map fun x => D.bl (p x))] S = some (.val (.bl (l.all p))) := by
  have := b_all (S := S) (l.map p)
  rw [List.map_map] at this
  rw [show (l.map fun x => D.bl (p x)) = l.map (D.bl ∘ p) from rfl, this]
  simp [List.all_map]
theorem cell_at {rows : List (List Nat)} {w i : Nat} (R : Rows rows w) (hi : i < w) {r : List Nat} (hr : r ∈ rows) : itemS (.str r) (.int (0 + (i : Int))) S = some (.str [r[i]?.getD 0]) := by
  have hl := R.wide r hr
  have hw := R.w1
  have e : (0 : Int) + (i : Int) = (i : Int) := by omega
  have hii : r[i]? = some (r[i]?.getD 0) := by
    have : i < r.length := by omega
    rw [List.getElem?_eq_getElem this]
    rfl
  rw [e, i_str _ (by unfold line; omega), atI_nat', hii]
  rfl
theorem str1 (a b : Nat) : ([a] = [b]) = (a = b) := by simp
theorem law_alike_ok (hn : 1 ≤ n) {rows : List (List Nat)} {w : Nat} (R : Rows rows w) : cN n "_law_alike" [rowsD rows] S = some (.lv (natsOf (alks rows w)), S) := by
  obtain ⟨m, rfl, hm⟩ := pos_n hn
  rw [cN, callN_at fi_law_alike rfl]
  obtain ⟨r0, h0, hr0⟩ := R.first
  have hw1 := R.w1
  have hm1 := R.many
  have hmem : r0 ∈ rows := List.mem_of_getElem? h0
  have hix : (rows.map D.str)[0]? = some (.str r0) := by rw [List.getElem?_map, h0]; rfl
  have hl0 : r0.length ≤ line := by unfold line; omega
  have hr : rangeS [.int (w : Nat)] = some (intL 0 w) := by rw [range_1 (by omega), Int.toNat_natCast]
  let p1 : Nat → Bool := fun i => !decide (r0[i]?.getD 0 = 45)
  let p2 : Nat → Bool := fun i => rows.all fun r => decide (r[i]?.getD 0 = r0[i]?.getD 0)
  have c3 : ev 1000 (callN 1000 progL m) d_law_alike_c3 [some (rowsD rows), some (.int (w : Nat)), none, none, none] S = some (.lv (natsOf ((List.range w).filter p1)), S) := by
    refine lc_filter (L := List.range w) (φ := fun i : Nat => .int (0 + (i : Int))) p1 _ (by simp only [hr, intL, run, ev, evs, evT, evI, fin, Option.bind_some, Option.map_some, startE, List.map_cons, List.map_nil, List.length_cons, List.length_nil, List.cons_append, List.nil_append, List.replicate_succ, List.replicate_zero, Nat.reduceAdd, Nat.reduceSub, Nat.zero_add, List.getElem?_cons_zero, List.getElem?_cons_succ, List.set_cons_zero, List.set_cons_succ, wipeE, bindTg, setAll, retOf, cmpS, eq_ii, eq_ss, lt_ii, lt_ss, mem_s, p_add_i, p_sub_i, b_len_t, b_len_l, b_abs, b_int, b_tuple_l, b_list_t, b_list_l, m_count, i_tup, i_lv, atI_0, atI_1, atI_2, atI_3, atI_4, decide_eq_true_eq, Bool.not_true, Bool.not_false, Bool.false_eq_true, if_true, if_false, ite_true, ite_false, reduceIte, isNon, walkOf, walkS, isi_non_int, isi_non_str, isi_non_tuple, isi_non_list, isi_non_dict, isi_non_bool, isi_bl_int, isi_bl_str, isi_bl_tuple, isi_bl_list, isi_bl_dict, isi_bl_bool, isi_int_int, isi_int_str, isi_int_tuple, isi_int_list, isi_int_dict, isi_int_bool, isi_str_int, isi_str_str, isi_str_tuple, isi_str_list, isi_str_dict, isi_str_bool, isi_tup_int, isi_tup_str, isi_tup_tuple, isi_tup_list, isi_tup_dict, isi_tup_bool, isi_lv_int, isi_lv_str, isi_lv_tuple, isi_lv_list, isi_lv_dict, isi_lv_bool, isi_dv_int, isi_dv_str, isi_dv_tuple, isi_dv_list, isi_dv_dict, isi_dv_bool, isi_scr_int, isi_scr_str, isi_scr_tuple, isi_scr_list, isi_scr_dict, isi_scr_bool]) (fun i hi => ?_) (by rw [List.length_range]; unfold line; omega)
    have hi' : i < w := List.mem_range.mp hi
    simp only [turnF, hix, cell_at R hi' hmem, str1, run, ev, evs, evT, evI, fin, Option.bind_some, Option.map_some, startE, List.map_cons, List.map_nil, List.length_cons, List.length_nil, List.cons_append, List.nil_append, List.replicate_succ, List.replicate_zero, Nat.reduceAdd, Nat.reduceSub, Nat.zero_add, List.getElem?_cons_zero, List.getElem?_cons_succ, List.set_cons_zero, List.set_cons_succ, wipeE, bindTg, setAll, retOf, cmpS, eq_ii, eq_ss, lt_ii, lt_ss, mem_s, p_add_i, p_sub_i, b_len_t, b_len_l, b_abs, b_int, b_tuple_l, b_list_t, b_list_l, m_count, i_tup, i_lv, atI_0, atI_1, atI_2, atI_3, atI_4, decide_eq_true_eq, Bool.not_true, Bool.not_false, Bool.false_eq_true, if_true, if_false, ite_true, ite_false, reduceIte, isNon, walkOf, walkS, isi_non_int, isi_non_str, isi_non_tuple, isi_non_list, isi_non_dict, isi_non_bool, isi_bl_int, isi_bl_str, isi_bl_tuple, isi_bl_list, isi_bl_dict, isi_bl_bool, isi_int_int, isi_int_str, isi_int_tuple, isi_int_list, isi_int_dict, isi_int_bool, isi_str_int, isi_str_str, isi_str_tuple, isi_str_list, isi_str_dict, isi_str_bool, isi_tup_int, isi_tup_str, isi_tup_tuple, isi_tup_list, isi_tup_dict, isi_tup_bool, isi_lv_int, isi_lv_str, isi_lv_tuple, isi_lv_list, isi_lv_dict, isi_lv_bool, isi_dv_int, isi_dv_str, isi_dv_tuple, isi_dv_list, isi_dv_dict, isi_dv_bool, isi_scr_int, isi_scr_str, isi_scr_tuple, isi_scr_list, isi_scr_dict, isi_scr_bool]
    show (if (!decide (r0[i]?.getD 0 = 45)) = true then _ else _) = some (if p1 i = true then _ else _, S)
    cases hq : p1 i <;> simp [p1] at hq <;> simp [hq]
  have c1 : ∀ i, i < w → ev 1000 (callN 1000 progL m) d_law_alike_c1 [some (rowsD rows), some (.int (w : Nat)), some (.lv (natsOf ((List.range w).filter p1))), some (.int (0 + (i : Int))), none] S = some (.lv (rows.map fun r => .bl (decide (r[i]?.getD 0 = r0[i]?.getD 0))), S) := fun i hi => by
    refine lc_map (L := rows) (φ := .str) _ (by simp only [run, ev, evs, evT, evI, fin, Option.bind_some, Option.map_some, startE, List.map_cons, List.map_nil, List.length_cons, List.length_nil, List.cons_append, List.nil_append, List.replicate_succ, List.replicate_zero, Nat.reduceAdd, Nat.reduceSub, Nat.zero_add, List.getElem?_cons_zero, List.getElem?_cons_succ, List.set_cons_zero, List.set_cons_succ, wipeE, bindTg, setAll, retOf, cmpS, eq_ii, eq_ss, lt_ii, lt_ss, mem_s, p_add_i, p_sub_i, b_len_t, b_len_l, b_abs, b_int, b_tuple_l, b_list_t, b_list_l, m_count, i_tup, i_lv, atI_0, atI_1, atI_2, atI_3, atI_4, decide_eq_true_eq, Bool.not_true, Bool.not_false, Bool.false_eq_true, if_true, if_false, ite_true, ite_false, reduceIte, isNon, walkOf, walkS, isi_non_int, isi_non_str, isi_non_tuple, isi_non_list, isi_non_dict, isi_non_bool, isi_bl_int, isi_bl_str, isi_bl_tuple, isi_bl_list, isi_bl_dict, isi_bl_bool, isi_int_int, isi_int_str, isi_int_tuple, isi_int_list, isi_int_dict, isi_int_bool, isi_str_int, isi_str_str, isi_str_tuple, isi_str_list, isi_str_dict, isi_str_bool, isi_tup_int, isi_tup_str, isi_tup_tuple, isi_tup_list, isi_tup_dict, isi_tup_bool, isi_lv_int, isi_lv_str, isi_lv_tuple, isi_lv_list, isi_lv_dict, isi_lv_bool, isi_dv_int, isi_dv_str, isi_dv_tuple, isi_dv_list, isi_dv_dict, isi_dv_bool, isi_scr_int, isi_scr_str, isi_scr_tuple, isi_scr_list, isi_scr_dict, isi_scr_bool]) (fun r hr => ?_) (by unfold line; omega)
    simp only [turnF, hix, cell_at R hi hmem, cell_at R hi hr, str1, run, ev, evs, evT, evI, fin, Option.bind_some, Option.map_some, startE, List.map_cons, List.map_nil, List.length_cons, List.length_nil, List.cons_append, List.nil_append, List.replicate_succ, List.replicate_zero, Nat.reduceAdd, Nat.reduceSub, Nat.zero_add, List.getElem?_cons_zero, List.getElem?_cons_succ, List.set_cons_zero, List.set_cons_succ, wipeE, bindTg, setAll, retOf, cmpS, eq_ii, eq_ss, lt_ii, lt_ss, mem_s, p_add_i, p_sub_i, b_len_t, b_len_l, b_abs, b_int, b_tuple_l, b_list_t, b_list_l, m_count, i_tup, i_lv, atI_0, atI_1, atI_2, atI_3, atI_4, decide_eq_true_eq, Bool.not_true, Bool.not_false, Bool.false_eq_true, if_true, if_false, ite_true, ite_false, reduceIte, isNon, walkOf, walkS, isi_non_int, isi_non_str, isi_non_tuple, isi_non_list, isi_non_dict, isi_non_bool, isi_bl_int, isi_bl_str, isi_bl_tuple, isi_bl_list, isi_bl_dict, isi_bl_bool, isi_int_int, isi_int_str, isi_int_tuple, isi_int_list, isi_int_dict, isi_int_bool, isi_str_int, isi_str_str, isi_str_tuple, isi_str_list, isi_str_dict, isi_str_bool, isi_tup_int, isi_tup_str, isi_tup_tuple, isi_tup_list, isi_tup_dict, isi_tup_bool, isi_lv_int, isi_lv_str, isi_lv_tuple, isi_lv_list, isi_lv_dict, isi_lv_bool, isi_dv_int, isi_dv_str, isi_dv_tuple, isi_dv_list, isi_dv_dict, isi_dv_bool, isi_scr_int, isi_scr_str, isi_scr_tuple, isi_scr_list, isi_scr_dict, isi_scr_bool]
  have c2 : ev 1000 (callN 1000 progL m) d_law_alike_c2 [some (rowsD rows), some (.int (w : Nat)), some (.lv (natsOf ((List.range w).filter p1))), none, none] S = some (.lv (natsOf (((List.range w).filter p1).filter p2)), S) := by
    refine lc_filter (L := (List.range w).filter p1) (φ := fun i : Nat => .int (0 + (i : Int))) p2 _ (by simp only [run, ev, evs, evT, evI, fin, Option.bind_some, Option.map_some, startE, List.map_cons, List.map_nil, List.length_cons, List.length_nil, List.cons_append, List.nil_append, List.replicate_succ, List.replicate_zero, Nat.reduceAdd, Nat.reduceSub, Nat.zero_add, List.getElem?_cons_zero, List.getElem?_cons_succ, List.set_cons_zero, List.set_cons_succ, wipeE, bindTg, setAll, retOf, cmpS, eq_ii, eq_ss, lt_ii, lt_ss, mem_s, p_add_i, p_sub_i, b_len_t, b_len_l, b_abs, b_int, b_tuple_l, b_list_t, b_list_l, m_count, i_tup, i_lv, atI_0, atI_1, atI_2, atI_3, atI_4, decide_eq_true_eq, Bool.not_true, Bool.not_false, Bool.false_eq_true, if_true, if_false, ite_true, ite_false, reduceIte, isNon, walkOf, walkS, isi_non_int, isi_non_str, isi_non_tuple, isi_non_list, isi_non_dict, isi_non_bool, isi_bl_int, isi_bl_str, isi_bl_tuple, isi_bl_list, isi_bl_dict, isi_bl_bool, isi_int_int, isi_int_str, isi_int_tuple, isi_int_list, isi_int_dict, isi_int_bool, isi_str_int, isi_str_str, isi_str_tuple, isi_str_list, isi_str_dict, isi_str_bool, isi_tup_int, isi_tup_str, isi_tup_tuple, isi_tup_list, isi_tup_dict, isi_tup_bool, isi_lv_int, isi_lv_str, isi_lv_tuple, isi_lv_list, isi_lv_dict, isi_lv_bool, isi_dv_int, isi_dv_str, isi_dv_tuple, isi_dv_list, isi_dv_dict, isi_dv_bool, isi_scr_int, isi_scr_str, isi_scr_tuple, isi_scr_list, isi_scr_dict, isi_scr_bool]) (fun i hi => ?_) (by have := List.length_filter_le p1 (List.range w); rw [List.length_range] at this; unfold line; omega)
    have hi' : i < w := List.mem_range.mp (List.mem_filter.mp hi).1
    have ha := all_map (S := S) (fun r : List Nat => decide (r[i]?.getD 0 = r0[i]?.getD 0)) rows
    simp only [turnF, c1 i hi', ha, run, ev, evs, evT, evI, fin, Option.bind_some, Option.map_some, startE, List.map_cons, List.map_nil, List.length_cons, List.length_nil, List.cons_append, List.nil_append, List.replicate_succ, List.replicate_zero, Nat.reduceAdd, Nat.reduceSub, Nat.zero_add, List.getElem?_cons_zero, List.getElem?_cons_succ, List.set_cons_zero, List.set_cons_succ, wipeE, bindTg, setAll, retOf, cmpS, eq_ii, eq_ss, lt_ii, lt_ss, mem_s, p_add_i, p_sub_i, b_len_t, b_len_l, b_abs, b_int, b_tuple_l, b_list_t, b_list_l, m_count, i_tup, i_lv, atI_0, atI_1, atI_2, atI_3, atI_4, decide_eq_true_eq, Bool.not_true, Bool.not_false, Bool.false_eq_true, if_true, if_false, ite_true, ite_false, reduceIte, isNon, walkOf, walkS, isi_non_int, isi_non_str, isi_non_tuple, isi_non_list, isi_non_dict, isi_non_bool, isi_bl_int, isi_bl_str, isi_bl_tuple, isi_bl_list, isi_bl_dict, isi_bl_bool, isi_int_int, isi_int_str, isi_int_tuple, isi_int_list, isi_int_dict, isi_int_bool, isi_str_int, isi_str_str, isi_str_tuple, isi_str_list, isi_str_dict, isi_str_bool, isi_tup_int, isi_tup_str, isi_tup_tuple, isi_tup_list, isi_tup_dict, isi_tup_bool, isi_lv_int, isi_lv_str, isi_lv_tuple, isi_lv_list, isi_lv_dict, isi_lv_bool, isi_dv_int, isi_dv_str, isi_dv_tuple, isi_dv_list, isi_dv_dict, isi_dv_bool, isi_scr_int, isi_scr_str, isi_scr_tuple, isi_scr_list, isi_scr_dict, isi_scr_bool]
    show (if (rows.all fun r => decide (r[i]?.getD 0 = r0[i]?.getD 0)) = true then _ else _) = some (if p2 i = true then _ else _, S)
    have e : p2 i = (rows.all fun r => decide (r[i]?.getD 0 = r0[i]?.getD 0)) := rfl
    rw [e]
    cases (rows.all fun r => decide (r[i]?.getD 0 = r0[i]?.getD 0)) <;> rfl
  have ee : ((List.range w).filter p1).filter p2 = alks rows w := by
    rw [List.filter_filter]
    unfold alks
    apply List.filter_congr
    intro i hi
    have hi' : i < w := List.mem_range.mp hi
    have e0 : (colr rows i)[0]?.getD 0 = r0[i]?.getD 0 := by
      unfold colr
      rw [List.getElem?_map, h0]
      rfl
    unfold alkB
    rw [e0]
    have e1 : decide ((colr rows i).count (r0[i]?.getD 0) = (colr rows i).length) = p2 i := by
      show _ = rows.all fun r => decide (r[i]?.getD 0 = r0[i]?.getD 0)
      rw [Bool.eq_iff_iff, decide_eq_true_eq, List.count_eq_length, List.all_eq_true]
      unfold colr
      constructor
      · intro h r hr
        exact decide_eq_true (h _ (List.mem_map.mpr ⟨r, hr, rfl⟩)).symm
      · intro h b hb
        obtain ⟨r, hr, rfl⟩ := List.mem_map.mp hb
        exact (of_decide_eq_true (h r hr)).symm
    rw [e1]
    show (p2 i && !decide (r0[i]?.getD 0 = 45)) = (decide (¬ r0[i]?.getD 0 = 45) && p2 i)
    rw [Bool.and_comm]
    congr 1
    simp
  rw [ee] at c2
  simp only [d_law_alike, hix, b_len_s hl0, hr0, c3, c2, run, ev, evs, evT, evI, fin, Option.bind_some, Option.map_some, startE, List.map_cons, List.map_nil, List.length_cons, List.length_nil, List.cons_append, List.nil_append, List.replicate_succ, List.replicate_zero, Nat.reduceAdd, Nat.reduceSub, Nat.zero_add, List.getElem?_cons_zero, List.getElem?_cons_succ, List.set_cons_zero, List.set_cons_succ, wipeE, bindTg, setAll, retOf, cmpS, eq_ii, eq_ss, lt_ii, lt_ss, mem_s, p_add_i, p_sub_i, b_len_t, b_len_l, b_abs, b_int, b_tuple_l, b_list_t, b_list_l, m_count, i_tup, i_lv, atI_0, atI_1, atI_2, atI_3, atI_4, decide_eq_true_eq, Bool.not_true, Bool.not_false, Bool.false_eq_true, if_true, if_false, ite_true, ite_false, reduceIte, isNon, walkOf, walkS, isi_non_int, isi_non_str, isi_non_tuple, isi_non_list, isi_non_dict, isi_non_bool, isi_bl_int, isi_bl_str, isi_bl_tuple, isi_bl_list, isi_bl_dict, isi_bl_bool, isi_int_int, isi_int_str, isi_int_tuple, isi_int_list, isi_int_dict, isi_int_bool, isi_str_int, isi_str_str, isi_str_tuple, isi_str_list, isi_str_dict, isi_str_bool, isi_tup_int, isi_tup_str, isi_tup_tuple, isi_tup_list, isi_tup_dict, isi_tup_bool, isi_lv_int, isi_lv_str, isi_lv_tuple, isi_lv_list, isi_lv_dict, isi_lv_bool, isi_dv_int, isi_dv_str, isi_dv_tuple, isi_dv_list, isi_dv_dict, isi_dv_bool, isi_scr_int, isi_scr_str, isi_scr_tuple, isi_scr_list, isi_scr_dict, isi_scr_bool]
end
end Pd

namespace Pd
open PySem PySem.Spec PyProof.Rows L2
section
variable {n : Nat} {T S : Store} {fu : Nat} {Φ : Calls}
theorem mem_nats (p : Nat) (L : List Nat) : memS S (.int (0 + (p : Int))) (.lv (natsOf L)) = some (decide (p ∈ L)) := by
  have hall : (natsOf L).all (okd 12) = true := by
    rw [List.all_eq_true]
    intro x hx
    obtain ⟨i, _, rfl⟩ := List.mem_map.mp hx
    rfl
  have hany : ((natsOf L).any fun z => PyData.eqv (py z) (py (top S (.int (0 + (p : Int)))))) = decide (p ∈ L) := by
    rw [Bool.eq_iff_iff, List.any_eq_true, decide_eq_true_eq]
    constructor
    · rintro ⟨x, hx, e⟩
      obtain ⟨i, hi, rfl⟩ := List.mem_map.mp hx
      simp only [py, top, PyData.eqv, beq_iff_eq] at e
      have : i = p := by omega
      exact this ▸ hi
    · intro h
      exact ⟨.int (0 + (p : Int)), List.mem_map.mpr ⟨p, h, rfl⟩, by simp [py, top, PyData.eqv]⟩
  show (if (okd 12 (top S (.int (0 + (p : Int)))) && (natsOf L).all (okd 12)) = true then some ((natsOf L).any fun z => PyData.eqv (py z) (py (top S (.int (0 + (p : Int)))))) else none) = _
  rw [hall, hany]
  rfl
/-! ### the law's stretches -/
def stL (A : List Nat) (size : Nat) (st : List (Nat × Nat) × Option Nat) (p : Nat) : List (Nat × Nat) × Option Nat :=
  if p ∈ A then (st.1, match st.2 with | none => some p | some x => some x)
  else match st.2 with
    | none => st
    | some x => (st.1 ++ (if longP size (x, p) = true then [(x, p)] else []), none)
def stF (A : List Nat) (s : List (Nat × Nat)) (p : Nat) : List (Nat × Nat) := if p ∈ A then stepS s p else s
def InvL (size k : Nat) (s : List (Nat × Nat)) (st : List (Nat × Nat) × Option Nat) : Prop := match st.2 with
  | none => st.1 = s.filter (longP size) ∧ ∀ x e, s.getLast? = some (x, e) → e < k
  | some x => ∃ s', s = s' ++ [(x, k)] ∧ st.1 = s'.filter (longP size)
theorem invL_step (A : List Nat) (size k : Nat) (s : List (Nat × Nat)) (st : List (Nat × Nat) × Option Nat) (h : InvL size k s st) : InvL size (k + 1) (stF A s k) (stL A size st k) := by
  obtain ⟨acc, b⟩ := st
  unfold stF stL
  by_cases hk : k ∈ A
  · rw [if_pos hk, if_pos hk]
    cases b with
    | none =>
      obtain ⟨h1, h2⟩ := h
      show ∃ s', stepS s k = s' ++ [(k, k + 1)] ∧ acc = s'.filter (longP size)
      refine ⟨s, ?_, h1⟩
      unfold stepS
      cases e : s.getLast? with
      | none =>
        have : s = [] := by simpa using e
        subst this
        rfl
      | some q =>
        obtain ⟨x, y⟩ := q
        have hy := h2 x y e
        simp only
        rw [if_neg (by omega)]
    | some x =>
      obtain ⟨s', rfl, h1⟩ := h
      show ∃ s'', stepS (s' ++ [(x, k)]) k = s'' ++ [(x, k + 1)] ∧ acc = s''.filter (longP size)
      refine ⟨s', ?_, h1⟩
      unfold stepS
      rw [List.getLast?_concat, List.dropLast_concat]
      simp only [if_true]
  · rw [if_neg hk, if_neg hk]
    cases b with
    | none =>
      obtain ⟨h1, h2⟩ := h
      exact ⟨h1, fun x e he => Nat.lt_succ_of_lt (h2 x e he)⟩
    | some x =>
      obtain ⟨s', rfl, h1⟩ := h
      show acc ++ _ = (s' ++ [(x, k)]).filter (longP size) ∧ _
      refine ⟨?_, fun y e he => ?_⟩
      · have h1' : acc = s'.filter (longP size) := h1
        rw [List.filter_append, h1']
        congr 1
        simp only [List.filter_cons, List.filter_nil]
      · rw [List.getLast?_concat] at he
        cases he
        exact Nat.lt_succ_self k
theorem invL_all (A : List Nat) (size : Nat) : ∀ k, InvL size k ((List.range k).foldl (stF A) []) ((List.range k).foldl (stL A size) ([], none))
  | 0 => ⟨rfl, fun x e h => by cases h⟩
  | k + 1 => by
    rw [List.range_succ, List.foldl_append, List.foldl_append]
    exact invL_step A size k _ _ (invL_all A size k)
theorem foldl_stF (A : List Nat) : ∀ (l : List Nat) (s : List (Nat × Nat)), l.foldl (stF A) s = (l.filter fun p => decide (p ∈ A)).foldl stepS s
  | [], _ => rfl
  | p :: l, s => by
    rw [List.foldl_cons, List.filter_cons, foldl_stF A l]
    unfold stF
    by_cases h : p ∈ A
    · rw [if_pos h, if_pos (decide_eq_true h), List.foldl_cons]
    · rw [if_neg h, if_neg (by simpa using h)]
/-- the law's loop gives the same stretches -/
theorem stL_all {rows : List (List Nat)} {w size : Nat} : ((List.range (w + 1)).foldl (stL (alks rows w) size) ([], none)).1 = (strch rows w).filter (longP size) := by
  have h1 := invL_all (alks rows w) size w
  have hw : w ∉ alks rows w := by
    intro h
    have := List.mem_range.mp (List.mem_filter.mp h).1
    exact Nat.lt_irrefl w this
  have h2 := invL_all (alks rows w) size (w + 1)
  have hs : (List.range (w + 1)).foldl (stF (alks rows w)) [] = strch rows w := by
    rw [foldl_stF]
    unfold strch
    congr 1
    rw [List.range_succ, List.filter_append]
    have e1 : [w].filter (fun p => decide (p ∈ alks rows w)) = [] := by simp [hw]
    rw [e1, List.append_nil]
    unfold alks
    apply List.filter_congr
    intro i hi
    have : decide (i ∈ (List.range w).filter fun i => alkB (colr rows i)) = alkB (colr rows i) := by
      rw [Bool.eq_iff_iff, decide_eq_true_eq, List.mem_filter]
      exact ⟨fun h => h.2, fun h => ⟨hi, h⟩⟩
    exact this
  have hb : ((List.range (w + 1)).foldl (stL (alks rows w) size) ([], none)).2 = none := by
    rw [List.range_succ, List.foldl_append]
    show (stL (alks rows w) size _ w).2 = none
    unfold stL
    rw [if_neg hw]
    split
    · assumption
    · rfl
  unfold InvL at h2
  rw [hb, hs] at h2
  exact h2.1
abbrev begD (b : Option Nat) : D := match b with
  | none => .non
  | some x => .int (0 + (x : Int))
theorem stretch_law_step {m : Nat} {A : List Nat} {size p : Nat} (r : Option D) (l : Nat) {acc : List (Nat × Nat)} {b : Option Nat} (hacc : acc.length ≤ 100) (hS : S.length = l) :
    run 1000 (callN 1000 progL m) d_law_stretches_b1 [r, some (.int (size : Nat)), some (.int (0 + (p : Int))), some (.lv (natsOf A)), some (.ref l), some (begD b)] (S ++ [.lv (acc.map pairD)]) =
      some (.nx [r, some (.int (size : Nat)), some (.int (0 + (p : Int))), some (.lv (natsOf A)), some (.ref l), some (begD (stL A size (acc, b) p).2)], S ++ [.lv ((stL A size (acc, b) p).1.map pairD)]) := by
  subst hS
  have hg := get_last S (.lv (acc.map pairD))
  have hm := mem_nats (S := S ++ [.lv (acc.map pairD)]) p A
  have h2 : (2 ≤ line) = True := le_line (by omega)
  have h1 : (1 ≤ line) = True := le_line (by omega)
  have h0 : (0 ≤ line) = True := le_line (by omega)
  have tr := ty_ref hg
  by_cases hp : p ∈ A
  · cases b with
    | none =>
      simp only [d_law_stretches_b1, stL, begD, hm, hp, decide_true, run, ev, evs, evT, evI, fin, Option.bind_some, Option.map_some, startE, List.map_cons, List.map_nil, List.length_cons, List.length_nil, List.cons_append, List.nil_append, List.replicate_succ, List.replicate_zero, Nat.reduceAdd, Nat.reduceSub, Nat.zero_add, List.getElem?_cons_zero, List.getElem?_cons_succ, List.set_cons_zero, List.set_cons_succ, wipeE, bindTg, setAll, retOf, cmpS, eq_ii, eq_ss, lt_ii, lt_ss, mem_s, p_add_i, p_sub_i, b_len_t, b_len_l, b_abs, b_int, b_tuple_l, b_list_t, b_list_l, m_count, i_tup, i_lv, atI_0, atI_1, atI_2, atI_3, atI_4, decide_eq_true_eq, Bool.not_true, Bool.not_false, Bool.false_eq_true, if_true, if_false, ite_true, ite_false, reduceIte, isNon, walkOf, walkS, isi_non_int, isi_non_str, isi_non_tuple, isi_non_list, isi_non_dict, isi_non_bool, isi_bl_int, isi_bl_str, isi_bl_tuple, isi_bl_list, isi_bl_dict, isi_bl_bool, isi_int_int, isi_int_str, isi_int_tuple, isi_int_list, isi_int_dict, isi_int_bool, isi_str_int, isi_str_str, isi_str_tuple, isi_str_list, isi_str_dict, isi_str_bool, isi_tup_int, isi_tup_str, isi_tup_tuple, isi_tup_list, isi_tup_dict, isi_tup_bool, isi_lv_int, isi_lv_str, isi_lv_tuple, isi_lv_list, isi_lv_dict, isi_lv_bool, isi_dv_int, isi_dv_str, isi_dv_tuple, isi_dv_list, isi_dv_dict, isi_dv_bool, isi_scr_int, isi_scr_str, isi_scr_tuple, isi_scr_list, isi_scr_dict, isi_scr_bool]
    | some x =>
      simp only [d_law_stretches_b1, stL, begD, hm, hp, decide_true, run, ev, evs, evT, evI, fin, Option.bind_some, Option.map_some, startE, List.map_cons, List.map_nil, List.length_cons, List.length_nil, List.cons_append, List.nil_append, List.replicate_succ, List.replicate_zero, Nat.reduceAdd, Nat.reduceSub, Nat.zero_add, List.getElem?_cons_zero, List.getElem?_cons_succ, List.set_cons_zero, List.set_cons_succ, wipeE, bindTg, setAll, retOf, cmpS, eq_ii, eq_ss, lt_ii, lt_ss, mem_s, p_add_i, p_sub_i, b_len_t, b_len_l, b_abs, b_int, b_tuple_l, b_list_t, b_list_l, m_count, i_tup, i_lv, atI_0, atI_1, atI_2, atI_3, atI_4, decide_eq_true_eq, Bool.not_true, Bool.not_false, Bool.false_eq_true, if_true, if_false, ite_true, ite_false, reduceIte, isNon, walkOf, walkS, isi_non_int, isi_non_str, isi_non_tuple, isi_non_list, isi_non_dict, isi_non_bool, isi_bl_int, isi_bl_str, isi_bl_tuple, isi_bl_list, isi_bl_dict, isi_bl_bool, isi_int_int, isi_int_str, isi_int_tuple, isi_int_list, isi_int_dict, isi_int_bool, isi_str_int, isi_str_str, isi_str_tuple, isi_str_list, isi_str_dict, isi_str_bool, isi_tup_int, isi_tup_str, isi_tup_tuple, isi_tup_list, isi_tup_dict, isi_tup_bool, isi_lv_int, isi_lv_str, isi_lv_tuple, isi_lv_list, isi_lv_dict, isi_lv_bool, isi_dv_int, isi_dv_str, isi_dv_tuple, isi_dv_list, isi_dv_dict, isi_dv_bool, isi_scr_int, isi_scr_str, isi_scr_tuple, isi_scr_list, isi_scr_dict, isi_scr_bool]
  · cases b with
    | none =>
      simp only [d_law_stretches_b1, stL, begD, hm, hp, decide_false, run, ev, evs, evT, evI, fin, Option.bind_some, Option.map_some, startE, List.map_cons, List.map_nil, List.length_cons, List.length_nil, List.cons_append, List.nil_append, List.replicate_succ, List.replicate_zero, Nat.reduceAdd, Nat.reduceSub, Nat.zero_add, List.getElem?_cons_zero, List.getElem?_cons_succ, List.set_cons_zero, List.set_cons_succ, wipeE, bindTg, setAll, retOf, cmpS, eq_ii, eq_ss, lt_ii, lt_ss, mem_s, p_add_i, p_sub_i, b_len_t, b_len_l, b_abs, b_int, b_tuple_l, b_list_t, b_list_l, m_count, i_tup, i_lv, atI_0, atI_1, atI_2, atI_3, atI_4, decide_eq_true_eq, Bool.not_true, Bool.not_false, Bool.false_eq_true, if_true, if_false, ite_true, ite_false, reduceIte, isNon, walkOf, walkS, isi_non_int, isi_non_str, isi_non_tuple, isi_non_list, isi_non_dict, isi_non_bool, isi_bl_int, isi_bl_str, isi_bl_tuple, isi_bl_list, isi_bl_dict, isi_bl_bool, isi_int_int, isi_int_str, isi_int_tuple, isi_int_list, isi_int_dict, isi_int_bool, isi_str_int, isi_str_str, isi_str_tuple, isi_str_list, isi_str_dict, isi_str_bool, isi_tup_int, isi_tup_str, isi_tup_tuple, isi_tup_list, isi_tup_dict, isi_tup_bool, isi_lv_int, isi_lv_str, isi_lv_tuple, isi_lv_list, isi_lv_dict, isi_lv_bool, isi_dv_int, isi_dv_str, isi_dv_tuple, isi_dv_list, isi_dv_dict, isi_dv_bool, isi_scr_int, isi_scr_str, isi_scr_tuple, isi_scr_list, isi_scr_dict, isi_scr_bool]
    | some x =>
      have hc := lt_ii (S := S ++ [.lv (acc.map pairD)]) ((0 + (p : Int)) - (0 + (x : Int))) (size : Nat)
      have el : longP size (x, p) = !decide ((0 + (p : Int)) - (0 + (x : Int)) < (size : Int)) := by
        unfold longP
        congr 1
        exact decide_eq_decide.mpr (by omega)
      by_cases hq : (0 + (p : Int)) - (0 + (x : Int)) < (size : Int)
      · have hx : (acc.map pairD).length + ([] : List D).length ≤ line := by rw [List.length_map]; unfold line; simp; omega
        have he := ext_ref hg hx
        rw [set_last, List.append_nil] at he
        have el' : longP size (x, p) = false := by rw [el, decide_eq_true hq]; rfl
        simp only [d_law_stretches_b1, stL, begD, hm, hp, hq, el', decide_false, decide_true, he, tr, mthTy, h0, List.append_nil, run, ev, evs, evT, evI, fin, Option.bind_some, Option.map_some, startE, List.map_cons, List.map_nil, List.length_cons, List.length_nil, List.cons_append, List.nil_append, List.replicate_succ, List.replicate_zero, Nat.reduceAdd, Nat.reduceSub, Nat.zero_add, List.getElem?_cons_zero, List.getElem?_cons_succ, List.set_cons_zero, List.set_cons_succ, wipeE, bindTg, setAll, retOf, cmpS, eq_ii, eq_ss, lt_ii, lt_ss, mem_s, p_add_i, p_sub_i, b_len_t, b_len_l, b_abs, b_int, b_tuple_l, b_list_t, b_list_l, m_count, i_tup, i_lv, atI_0, atI_1, atI_2, atI_3, atI_4, decide_eq_true_eq, Bool.not_true, Bool.not_false, Bool.false_eq_true, if_true, if_false, ite_true, ite_false, reduceIte, isNon, walkOf, walkS, isi_non_int, isi_non_str, isi_non_tuple, isi_non_list, isi_non_dict, isi_non_bool, isi_bl_int, isi_bl_str, isi_bl_tuple, isi_bl_list, isi_bl_dict, isi_bl_bool, isi_int_int, isi_int_str, isi_int_tuple, isi_int_list, isi_int_dict, isi_int_bool, isi_str_int, isi_str_str, isi_str_tuple, isi_str_list, isi_str_dict, isi_str_bool, isi_tup_int, isi_tup_str, isi_tup_tuple, isi_tup_list, isi_tup_dict, isi_tup_bool, isi_lv_int, isi_lv_str, isi_lv_tuple, isi_lv_list, isi_lv_dict, isi_lv_bool, isi_dv_int, isi_dv_str, isi_dv_tuple, isi_dv_list, isi_dv_dict, isi_dv_bool, isi_scr_int, isi_scr_str, isi_scr_tuple, isi_scr_list, isi_scr_dict, isi_scr_bool]
      · have hx : (acc.map pairD).length + [pairD (x, p)].length ≤ line := by rw [List.length_map]; unfold line; simp; omega
        have he := ext_ref hg hx
        rw [set_last] at he
        have el' : longP size (x, p) = true := by rw [el, decide_eq_false hq]; rfl
        have ep : pairD (x, p) = .tup [.int (0 + (x : Int)), .int (0 + (p : Int))] := by
          simp only [pairD, Int.zero_add]
        rw [ep] at he
        have em : (acc ++ [(x, p)]).map pairD = acc.map pairD ++ [.tup [.int (0 + (x : Int)), .int (0 + (p : Int))]] := by
          rw [List.map_append, ← ep]
          rfl
        simp only [d_law_stretches_b1, stL, begD, hm, hp, hq, el', decide_false, decide_true, he, tr, mthTy, h1, h2, em, run, ev, evs, evT, evI, fin, Option.bind_some, Option.map_some, startE, List.map_cons, List.map_nil, List.length_cons, List.length_nil, List.cons_append, List.nil_append, List.replicate_succ, List.replicate_zero, Nat.reduceAdd, Nat.reduceSub, Nat.zero_add, List.getElem?_cons_zero, List.getElem?_cons_succ, List.set_cons_zero, List.set_cons_succ, wipeE, bindTg, setAll, retOf, cmpS, eq_ii, eq_ss, lt_ii, lt_ss, mem_s, p_add_i, p_sub_i, b_len_t, b_len_l, b_abs, b_int, b_tuple_l, b_list_t, b_list_l, m_count, i_tup, i_lv, atI_0, atI_1, atI_2, atI_3, atI_4, decide_eq_true_eq, Bool.not_true, Bool.not_false, Bool.false_eq_true, if_true, if_false, ite_true, ite_false, reduceIte, isNon, walkOf, walkS, isi_non_int, isi_non_str, isi_non_tuple, isi_non_list, isi_non_dict, isi_non_bool, isi_bl_int, isi_bl_str, isi_bl_tuple, isi_bl_list, isi_bl_dict, isi_bl_bool, isi_int_int, isi_int_str, isi_int_tuple, isi_int_list, isi_int_dict, isi_int_bool, isi_str_int, isi_str_str, isi_str_tuple, isi_str_list, isi_str_dict, isi_str_bool, isi_tup_int, isi_tup_str, isi_tup_tuple, isi_tup_list, isi_tup_dict, isi_tup_bool, isi_lv_int, isi_lv_str, isi_lv_tuple, isi_lv_list, isi_lv_dict, isi_lv_bool, isi_dv_int, isi_dv_str, isi_dv_tuple, isi_dv_list, isi_dv_dict, isi_dv_bool, isi_scr_int, isi_scr_str, isi_scr_tuple, isi_scr_list, isi_scr_dict, isi_scr_bool]
theorem stL_len (A : List Nat) (size : Nat) : ∀ (l : List Nat) (st : List (Nat × Nat) × Option Nat), (l.foldl (stL A size) st).1.length ≤ st.1.length + l.length
  | [], _ => Nat.le_refl _
  | p :: l, st => by
    have h1 := stL_len A size l (stL A size st p)
    have h2 : (stL A size st p).1.length ≤ st.1.length + 1 := by
      unfold stL
      split
      · exact Nat.le_succ _
      · split
        · exact Nat.le_succ _
        · rw [List.length_append]
          split <;> simp
    rw [List.foldl_cons, List.length_cons]
    omega
theorem law_stretches_ok (hn : 2 ≤ n) {rows : List (List Nat)} {w size : Nat} (R : Rows rows w) (S : Store) : ∃ T, cN n "_law_stretches" [rowsD rows, .int (size : Nat)] S = some (.ref S.length, S ++ T) ∧ (S ++ T)[S.length]? = some (.lv (((strch rows w).filter (longP size)).map pairD)) := by
  obtain ⟨m, rfl, hm⟩ := pos_n hn
  have hw1 := R.w1
  obtain ⟨r0, h0, hr0⟩ := R.first
  have hix : (rows.map D.str)[0]? = some (.str r0) := by rw [List.getElem?_map, h0]; rfl
  have hl0 : r0.length ≤ line := by unfold line; omega
  have k1 := law_alike_ok (S := S) (n := m) hm R
  rw [cN] at k1
  have h00 : (0 ≤ line) = True := eq_true (Nat.zero_le _)
  obtain ⟨ρ', S', he, x2, b', hρ, hS⟩ := forFix_inv (g := .nm 2) (b := run 1000 (callN 1000 progL m) d_law_stretches_b1) (φ := fun i : Nat => D.int (0 + (i : Int)))
    (fun i ρ S' => ∃ x2 b', ρ = [some (rowsD rows), some (.int (size : Nat)), x2, some (.lv (natsOf (alks rows w))), some (.ref S.length), some (begD b')] ∧ b' = (((List.range (w + 1)).take i).foldl (stL (alks rows w) size) ([], none)).2 ∧ S' = S ++ [.lv ((((List.range (w + 1)).take i).foldl (stL (alks rows w) size) ([], none)).1.map pairD)])
    (List.range (w + 1)) 0 [some (rowsD rows), some (.int (size : Nat)), none, some (.lv (natsOf (alks rows w))), some (.ref S.length), some .non] (S ++ [.lv []]) ⟨none, none, rfl, rfl, rfl⟩ (fun k x ρ S1 hk ⟨x2, b', e1, e2, e3⟩ => by
      subst e1
      subst e2
      subst e3
      rw [Nat.zero_add]
      have hb : (((List.range (w + 1)).take k).foldl (stL (alks rows w) size) ([], none)).1.length ≤ 100 := by
        have := stL_len (alks rows w) size ((List.range (w + 1)).take k) ([], none)
        rw [List.length_take, List.length_range] at this
        simp only [List.length_nil] at this
        omega
      have hs := stretch_law_step (S := S) (m := m) (A := alks rows w) (size := size) (p := x) (some (rowsD rows)) S.length (b := (((List.range (w + 1)).take k).foldl (stL (alks rows w) size) ([], none)).2) hb rfl
      refine ⟨_, _, _, rfl, .inl hs, some (.int (0 + (x : Int))), _, rfl, ?_, ?_⟩
      · rw [List.take_add_one, hk, List.foldl_append]
        rfl
      · rw [List.take_add_one, hk, List.foldl_append]
        rfl)
  obtain ⟨hb, hS⟩ := hS
  subst hρ
  subst hS
  rw [Nat.zero_add, List.length_range] at he
  have e1 : (List.range (w + 1)).take (w + 1) = List.range (w + 1) := List.take_of_length_le (by rw [List.length_range]; exact Nat.le_refl _)
  rw [e1, stL_all] at he
  refine ⟨[.lv (((strch rows w).filter (longP size)).map pairD)], ?_, get_last S _⟩
  rw [cN, callN_at fi_law_stretches rfl]
  have ew : ((w : Int) + 1) = ((w + 1 : Nat) : Int) := by omega
  have hr : rangeS [.int ((w + 1 : Nat) : Int)] = some (intL 0 (w + 1)) := by rw [range_1 (by omega), Int.toNat_natCast]
  simp only [d_law_stretches, k1, h00, hix, b_len_s hl0, hr0, ew, hr, intL, he, run, ev, evs, evT, evI, fin, Option.bind_some, Option.map_some, startE, List.map_cons, List.map_nil, List.length_cons, List.length_nil, List.cons_append, List.nil_append, List.replicate_succ, List.replicate_zero, Nat.reduceAdd, Nat.reduceSub, Nat.zero_add, List.getElem?_cons_zero, List.getElem?_cons_succ, List.set_cons_zero, List.set_cons_succ, wipeE, bindTg, setAll, retOf, cmpS, eq_ii, eq_ss, lt_ii, lt_ss, mem_s, p_add_i, p_sub_i, b_len_t, b_len_l, b_abs, b_int, b_tuple_l, b_list_t, b_list_l, m_count, i_tup, i_lv, atI_0, atI_1, atI_2, atI_3, atI_4, decide_eq_true_eq, Bool.not_true, Bool.not_false, Bool.false_eq_true, if_true, if_false, ite_true, ite_false, reduceIte, isNon, walkOf, walkS, isi_non_int, isi_non_str, isi_non_tuple, isi_non_list, isi_non_dict, isi_non_bool, isi_bl_int, isi_bl_str, isi_bl_tuple, isi_bl_list, isi_bl_dict, isi_bl_bool, isi_int_int, isi_int_str, isi_int_tuple, isi_int_list, isi_int_dict, isi_int_bool, isi_str_int, isi_str_str, isi_str_tuple, isi_str_list, isi_str_dict, isi_str_bool, isi_tup_int, isi_tup_str, isi_tup_tuple, isi_tup_list, isi_tup_dict, isi_tup_bool, isi_lv_int, isi_lv_str, isi_lv_tuple, isi_lv_list, isi_lv_dict, isi_lv_bool, isi_dv_int, isi_dv_str, isi_dv_tuple, isi_dv_list, isi_dv_dict, isi_dv_bool, isi_scr_int, isi_scr_str, isi_scr_tuple, isi_scr_list, isi_scr_dict, isi_scr_bool]
end
end Pd

namespace Pd
open PySem PySem.Spec PyProof.Rows L2
/-! rows in another order -/
theorem colr_perm {rows rows' : List (List Nat)} (h : rows.Perm rows') (p : Nat) : (colr rows p).Perm (colr rows' p) := h.map _
theorem rows_perm {rows rows' : List (List Nat)} {w : Nat} (h : rows.Perm rows') (R : Rows rows w) : Rows rows' w :=
  ⟨by rw [← h.length_eq]; exact R.many, fun r hr => R.wide r (h.mem_iff.mpr hr), R.w1, fun r hr => R.ok r (h.mem_iff.mpr hr)⟩
theorem mem_of_head {t : List Nat} {c : Nat} (h : t[0]? = some c) : c ∈ t := List.mem_of_getElem? h
/-- alike: by any of its signs -/
theorem alkB_iff {t : List Nat} (h0 : t ≠ []) : alkB t = true ↔ ∃ c, ¬ c = 45 ∧ ∀ d ∈ t, d = c := by
  obtain ⟨c, hc⟩ := head_of h0
  unfold alkB
  rw [hc, Bool.and_eq_true, decide_eq_true_eq, decide_eq_true_eq, Option.getD_some, List.count_eq_length]
  constructor
  · rintro ⟨h1, h2⟩
    exact ⟨c, h1, fun d hd => (h2 d hd).symm⟩
  · rintro ⟨c', h1, h2⟩
    have e := h2 c (mem_of_head hc)
    subst e
    exact ⟨h1, fun d hd => (h2 d hd).symm⟩
theorem alkB_perm {t t' : List Nat} (h : t.Perm t') (h0 : t ≠ []) : alkB t = alkB t' := by
  have h0' : t' ≠ [] := fun z => h0 (by rw [z] at h; exact h.eq_nil)
  rw [Bool.eq_iff_iff, alkB_iff h0, alkB_iff h0']
  exact ⟨fun ⟨c, h1, h2⟩ => ⟨c, h1, fun d hd => h2 d (h.mem_iff.mpr hd)⟩, fun ⟨c, h1, h2⟩ => ⟨c, h1, fun d hd => h2 d (h.mem_iff.mp hd)⟩⟩
theorem alks_perm {rows rows' : List (List Nat)} {w : Nat} (R : Rows rows w) (h : rows.Perm rows') : alks rows w = alks rows' w := by
  unfold alks
  apply List.filter_congr
  intro i _
  exact alkB_perm (colr_perm h i) (colr_ne R i)
/-- the alike places of all rows are alike in some of them -/
theorem alks_sub {rows rows' : List (List Nat)} {w : Nat} (R : Rows rows w) (R' : Rows rows' w) (h : ∀ r ∈ rows', r ∈ rows) : ∀ i ∈ alks rows w, i ∈ alks rows' w := by
  intro i hi
  obtain ⟨h1, h2⟩ := List.mem_filter.mp hi
  refine List.mem_filter.mpr ⟨h1, ?_⟩
  rw [alkB_iff (colr_ne R i)] at h2
  rw [alkB_iff (colr_ne R' i)]
  obtain ⟨c, h3, h4⟩ := h2
  refine ⟨c, h3, fun d hd => ?_⟩
  obtain ⟨r, hr, rfl⟩ := List.mem_map.mp hd
  exact h4 _ (List.mem_map.mpr ⟨r, h r hr, rfl⟩)
/-! the sign that most have -/
theorem bst_mem (f : Nat → Nat) : ∀ (xs : List Nat) (x : Nat), bst f x xs ∈ x :: xs
  | [], x => List.mem_cons_self
  | y :: xs, x => by
    show bst f (if betB f y x = true then y else x) xs ∈ _
    have h := bst_mem f xs (if betB f y x = true then y else x)
    rcases List.mem_cons.mp h with h | h
    · rw [h]
      split
      · exact List.mem_cons_of_mem _ List.mem_cons_self
      · exact List.mem_cons_self
    · exact List.mem_cons_of_mem _ (List.mem_cons_of_mem _ h)
theorem betB_iff {f : Nat → Nat} {x y : Nat} : betB f x y = true ↔ (f y < f x ∨ (f x = f y ∧ x < y)) := by
  unfold betB
  rw [decide_eq_true_eq]
theorem bst_le (f : Nat → Nat) : ∀ (xs : List Nat) (x : Nat), ∀ z ∈ x :: xs, betB f z (bst f x xs) = false
  | [], x, z, hz => by
    rw [List.mem_singleton.mp hz]
    show betB f x x = false
    rw [Bool.eq_false_iff]
    intro h
    rw [betB_iff] at h
    omega
  | y :: xs, x, z, hz => by
    show betB f z (bst f (if betB f y x = true then y else x) xs) = false
    have ih := bst_le f xs (if betB f y x = true then y else x)
    have h0 := ih _ List.mem_cons_self
    rw [Bool.eq_false_iff] at h0 ⊢
    intro hb
    rw [betB_iff] at hb
    rcases List.mem_cons.mp hz with hz | hz
    · subst hz
      apply h0
      by_cases c : betB f y z = true
      · rw [if_pos c] at hb ⊢
        rw [betB_iff] at c ⊢
        omega
      · rw [if_neg c] at hb ⊢
        rw [betB_iff]
        exact hb
    · rcases List.mem_cons.mp hz with hz | hz
      · subst hz
        apply h0
        by_cases c : betB f z x = true
        · rw [if_pos c] at hb ⊢
          rw [betB_iff]
          exact hb
        · rw [if_neg c] at hb ⊢
          rw [betB_iff] at c ⊢
          omega
      · have h1 := ih z (List.mem_cons_of_mem _ hz)
        rw [Bool.eq_false_iff] at h1
        exact h1 (by rw [betB_iff]; exact hb)
theorem mostC_spec {t : List Nat} (h0 : t ≠ []) : mostC t ∈ t ∧ ∀ z ∈ t, betB (fun c => t.count c) z (mostC t) = false := by
  have hf : ∃ x xs, firsts t = x :: xs := by
    cases h : firsts t with
    | nil =>
      obtain ⟨c, hc⟩ := head_of h0
      have : c ∈ firsts t := mem_firsts.mpr (mem_of_head hc)
      rw [h] at this
      cases this
    | cons x xs => exact ⟨x, xs, rfl⟩
  obtain ⟨x, xs, e⟩ := hf
  have em : mostC t = bst (fun c => t.count c) x xs := by unfold mostC; rw [e]
  rw [em]
  refine ⟨mem_firsts.mp (by rw [e]; exact bst_mem _ xs x), fun z hz => bst_le _ xs x z (by rw [← e]; exact mem_firsts.mpr hz)⟩
theorem mostC_perm {t t' : List Nat} (h : t.Perm t') (h0 : t ≠ []) : mostC t = mostC t' := by
  have h0' : t' ≠ [] := fun z => h0 (by rw [z] at h; exact h.eq_nil)
  obtain ⟨a1, a2⟩ := mostC_spec h0
  obtain ⟨b1, b2⟩ := mostC_spec h0'
  have hc : ∀ c, t.count c = t'.count c := fun c => h.count_eq c
  have c1 := a2 (mostC t') (h.mem_iff.mpr b1)
  have c2 := b2 (mostC t) (h.mem_iff.mp a1)
  rw [Bool.eq_false_iff, ne_eq, betB_iff] at c1 c2
  have e1 := hc (mostC t)
  have e2 := hc (mostC t')
  omega
theorem mosts_perm {rows rows' : List (List Nat)} {w : Nat} (R : Rows rows w) (h : rows.Perm rows') : mosts rows w = mosts rows' w := by
  unfold mosts
  apply List.map_congr_left
  intro i _
  exact mostC_perm (colr_perm h i) (colr_ne R i)
/-! how far, in another order -/
theorem firsts_perm {t t' : List Nat} (h : t.Perm t') : (firsts t).Perm (firsts t') :=
  (List.perm_ext_iff_of_nodup (nodup_firsts t) (nodup_firsts t')).mpr fun a => by rw [mem_firsts, mem_firsts]; exact h.mem_iff
theorem perm_sum {l l' : List Int} (h : l.Perm l') : l.sum = l'.sum := by
  induction h with
  | nil => rfl
  | cons x _ ih => rw [List.sum_cons, List.sum_cons, ih]
  | swap x y l => simp only [List.sum_cons]; omega
  | trans _ _ h1 h2 => exact h1.trans h2
theorem sqS_perm {t t' : List Nat} (h : t.Perm t') : sqS t = sqS t' := by
  unfold sqS
  have e : (firsts t').map (triD t') = (firsts t').map (triD t) := by
    apply List.map_congr_left
    intro c _
    unfold triD
    rw [h.count_eq]
  rw [e]
  exact perm_sum ((firsts_perm h).map _)
theorem farS_perm {rows rows' : List (List Nat)} {w : Nat} (h : rows.Perm rows') : farS rows w = farS rows' w := by
  unfold farS
  congr 1
  apply List.map_congr_left
  intro i _
  unfold farP
  rw [sqS_perm (colr_perm h i), (colr_perm h i).length_eq]
/-! pairs that differ -/
theorem tri_succ (c : Nat) : tri (c + 1) = tri c + (c : Int) := by
  have e : mulI (c + 1) = mulI c + (c : Int) * 2 := by
    unfold mulI
    have e1 : (((c + 1 : Nat) : Int)) = (c : Int) + 1 := by omega
    rw [e1, Int.add_sub_cancel, Int.add_mul, Int.mul_sub]
    omega
  unfold tri
  rw [e, Int.add_mul_ediv_right _ _ (by decide)]
theorem tri_0 : tri 0 = 0 := by decide
def prs : List Nat → Int
  | [] => 0
  | x :: t => ((t.length : Nat) : Int) - ((t.count x : Nat) : Int) + prs t
def sqL (L t : List Nat) : Int := (L.map (triD t)).sum
theorem sqL_cons {x : Nat} {t : List Nat} : ∀ {L : List Nat}, L.Nodup → sqL L (x :: t) = sqL L t + (if x ∈ L then ((t.count x : Nat) : Int) else 0)
  | [], _ => by simp [sqL]
  | c :: L, h => by
    obtain ⟨h1, h2⟩ := List.nodup_cons.mp h
    have ih := sqL_cons (x := x) (t := t) h2
    simp only [sqL, List.map_cons, List.sum_cons] at ih ⊢
    rw [ih]
    by_cases e : c = x
    · subst e
      have e1 : triD (c :: t) c = triD t c + ((t.count c : Nat) : Int) := by
        unfold triD
        rw [List.count_cons_self, tri_succ]
      rw [e1, if_neg h1, if_pos List.mem_cons_self]
      omega
    · have e1 : triD (x :: t) c = triD t c := by
        unfold triD
        rw [List.count_cons_of_ne (fun z => e z.symm)]
      rw [e1]
      by_cases hm : x ∈ L
      · rw [if_pos hm, if_pos (List.mem_cons_of_mem _ hm)]
        omega
      · rw [if_neg hm, if_neg (by simp only [List.mem_cons, not_or]; exact ⟨fun z => e z.symm, hm⟩)]
        omega
theorem sqL_zero {t : List Nat} : ∀ {L : List Nat}, (∀ c ∈ L, c ∉ t) → sqL L t = 0
  | [], _ => rfl
  | c :: L, h => by
    simp only [sqL, List.map_cons, List.sum_cons]
    have e : triD t c = 0 := by
      unfold triD
      rw [List.count_eq_zero.mpr (h c List.mem_cons_self), tri_0]
    have ih := sqL_zero (t := t) (L := L) fun d hd => h d (List.mem_cons_of_mem _ hd)
    unfold sqL at ih
    rw [e, ih]
    rfl
theorem sqL_app (L L' t : List Nat) : sqL (L ++ L') t = sqL L t + sqL L' t := by
  unfold sqL
  rw [List.map_append, List.sum_append]
/-- over any list without doubles that has all of t -/
theorem sqL_any {L t : List Nat} (h : L.Nodup) (hs : ∀ c ∈ t, c ∈ L) : sqL L t = sqS t := by
  have hp : L.Perm (firsts t ++ L.filter fun c => !decide (c ∈ t)) := by
    refine (List.perm_ext_iff_of_nodup h ?_).mpr fun a => ?_
    · rw [List.nodup_append]
      refine ⟨nodup_firsts t, h.filter _, fun x hx y hy e => ?_⟩
      subst e
      have := (List.mem_filter.mp hy).2
      simp only [Bool.not_eq_true', decide_eq_false_iff_not] at this
      exact this (mem_firsts.mp hx)
    · rw [List.mem_append, mem_firsts, List.mem_filter]
      constructor
      · intro ha
        by_cases hm : a ∈ t
        · exact .inl hm
        · exact .inr ⟨ha, by simp [hm]⟩
      · rintro (ha | ha)
        · exact hs a ha
        · exact ha.1
  have e1 : sqL L t = sqL (firsts t ++ L.filter fun c => !decide (c ∈ t)) t := perm_sum (hp.map _)
  have e2 : sqL (L.filter fun c => !decide (c ∈ t)) t = 0 := sqL_zero fun c hc => by
    have := (List.mem_filter.mp hc).2
    simpa using this
  rw [e1, sqL_app, e2, Int.add_zero]
  rfl
theorem farP_prs : ∀ t : List Nat, farP t = prs t
  | [] => by decide
  | x :: t => by
    have ih := farP_prs t
    unfold farP at ih ⊢
    have h1 : sqS (x :: t) = sqL (firsts (x :: t)) (x :: t) := rfl
    rw [h1, sqL_cons (nodup_firsts _), if_pos (mem_firsts.mpr List.mem_cons_self), sqL_any (nodup_firsts _) (fun c hc => mem_firsts.mpr (List.mem_cons_of_mem _ hc)), List.length_cons, tri_succ]
    show _ = ((t.length : Nat) : Int) - ((t.count x : Nat) : Int) + prs t
    omega
end Pd

namespace Pd
open PySem PySem.Spec PyProof.Rows L2
section
variable {n : Nat} {T S : Store} {fu : Nat} {Φ : Calls}
theorem is_s {n : Nat} (hn : 1 ≤ n) (c : List Nat) : cN n "_law_is" [.str c, .str c] S = some (.bl true, S) := is_ok 1 n hn _ (.inr (.inr (.inl ⟨c, rfl⟩)))
theorem is_i {n : Nat} (hn : 1 ≤ n) (i : Int) : cN n "_law_is" [.int i, .int i] S = some (.bl true, S) := is_ok 1 n hn _ (.inr (.inl ⟨i, rfl⟩))
theorem is_cnt {n : Nat} (hn : 1 ≤ n) (t : List Nat) : cN n "_law_is" [cntD t, cntD t] S = some (.bl true, S) := is_ok 1 n hn _ (.inr (.inr (.inr (.inr (.inr ⟨_, _, rfl, fun S => eq_cnt t⟩)))))
theorem pairs_cnt (t : List Nat) (f : Nat → Int) : pairsOf (t.map fun c => .tup [.str [c], .int (f c)]) = some (t.map fun c => (.s [c], .int (f c))) := by
  induction t with
  | nil => rfl
  | cons c t ih =>
    rw [List.map_cons, pairsOf, ih]
    rfl
theorem dict_cnt (t : List Nat) : bltS .dict [.lv (t.map fun c => .tup [.str [c], .int (t.count c : Nat)])] S = some (.new (cntD t)) := by
  show (pairsOf (t.map fun c => D.tup [.str [c], .int (t.count c : Nat)])).map _ = _
  rw [pairs_cnt t fun c => ((t.count c : Nat) : Int)]
  rfl
theorem right_c6 {m : Nat} {rows : List (List Nat)} {w p : Nat} (R : Rows rows w) (hp : p < w) (x0 x3 x4 x5 x6 x7 x8 x9 x10 x11 x12 x13 x14 x15 x16 x17 : Option D) :
    ev 1000 (callN 1000 progL m) d_law_is_right_c6 [x0, some (rowsD rows), some (.int (0 + (p : Int))), x3, x4, x5, x6, x7, x8, x9, x10, x11, x12, x13, x14, x15, x16, x17] S = some (.lv ((colr rows p).map fun c => .str [c]), S) := by
  have hm1 := R.many
  unfold colr
  rw [List.map_map]
  refine lc_map (L := rows) (φ := .str) _ (by simp only [run, ev, evs, evT, evI, fin, Option.bind_some, Option.map_some, startE, List.map_cons, List.map_nil, List.length_cons, List.length_nil, List.cons_append, List.nil_append, List.replicate_succ, List.replicate_zero, Nat.reduceAdd, Nat.reduceSub, Nat.zero_add, List.getElem?_cons_zero, List.getElem?_cons_succ, List.set_cons_zero, List.set_cons_succ, wipeE, bindTg, setAll, retOf, cmpS, eq_ii, eq_ss, lt_ii, lt_ss, mem_s, p_add_i, p_sub_i, b_len_t, b_len_l, b_abs, b_int, b_tuple_l, b_list_t, b_list_l, m_count, i_tup, i_lv, atI_0, atI_1, atI_2, atI_3, atI_4, decide_eq_true_eq, Bool.not_true, Bool.not_false, Bool.false_eq_true, if_true, if_false, ite_true, ite_false, reduceIte, isNon, walkOf, walkS, isi_non_int, isi_non_str, isi_non_tuple, isi_non_list, isi_non_dict, isi_non_bool, isi_bl_int, isi_bl_str, isi_bl_tuple, isi_bl_list, isi_bl_dict, isi_bl_bool, isi_int_int, isi_int_str, isi_int_tuple, isi_int_list, isi_int_dict, isi_int_bool, isi_str_int, isi_str_str, isi_str_tuple, isi_str_list, isi_str_dict, isi_str_bool, isi_tup_int, isi_tup_str, isi_tup_tuple, isi_tup_list, isi_tup_dict, isi_tup_bool, isi_lv_int, isi_lv_str, isi_lv_tuple, isi_lv_list, isi_lv_dict, isi_lv_bool, isi_dv_int, isi_dv_str, isi_dv_tuple, isi_dv_list, isi_dv_dict, isi_dv_bool, isi_scr_int, isi_scr_str, isi_scr_tuple, isi_scr_list, isi_scr_dict, isi_scr_bool]) (fun r hr => ?_) (by unfold line; omega)
  simp only [turnF, cell_at R hp hr, run, ev, evs, evT, evI, fin, Option.bind_some, Option.map_some, startE, List.map_cons, List.map_nil, List.length_cons, List.length_nil, List.cons_append, List.nil_append, List.replicate_succ, List.replicate_zero, Nat.reduceAdd, Nat.reduceSub, Nat.zero_add, List.getElem?_cons_zero, List.getElem?_cons_succ, List.set_cons_zero, List.set_cons_succ, wipeE, bindTg, setAll, retOf, cmpS, eq_ii, eq_ss, lt_ii, lt_ss, mem_s, p_add_i, p_sub_i, b_len_t, b_len_l, b_abs, b_int, b_tuple_l, b_list_t, b_list_l, m_count, i_tup, i_lv, atI_0, atI_1, atI_2, atI_3, atI_4, decide_eq_true_eq, Bool.not_true, Bool.not_false, Bool.false_eq_true, if_true, if_false, ite_true, ite_false, reduceIte, isNon, walkOf, walkS, isi_non_int, isi_non_str, isi_non_tuple, isi_non_list, isi_non_dict, isi_non_bool, isi_bl_int, isi_bl_str, isi_bl_tuple, isi_bl_list, isi_bl_dict, isi_bl_bool, isi_int_int, isi_int_str, isi_int_tuple, isi_int_list, isi_int_dict, isi_int_bool, isi_str_int, isi_str_str, isi_str_tuple, isi_str_list, isi_str_dict, isi_str_bool, isi_tup_int, isi_tup_str, isi_tup_tuple, isi_tup_list, isi_tup_dict, isi_tup_bool, isi_lv_int, isi_lv_str, isi_lv_tuple, isi_lv_list, isi_lv_dict, isi_lv_bool, isi_dv_int, isi_dv_str, isi_dv_tuple, isi_dv_list, isi_dv_dict, isi_dv_bool, isi_scr_int, isi_scr_str, isi_scr_tuple, isi_scr_list, isi_scr_dict, isi_scr_bool]
  rfl
theorem right_c5 {m : Nat} {t : List Nat} (ht : t.length ≤ 1000) (x0 x1 x2 x3 x4 x5 x6 x7 x8 x9 x11 x12 x13 x14 x15 x16 x17 : Option D) :
    ev 1000 (callN 1000 progL m) d_law_is_right_c5 [x0, x1, x2, x3, x4, x5, x6, x7, x8, x9, some (.str t), x11, x12, x13, x14, x15, x16, x17] S = some (.lv (t.map fun c => .tup [.str [c], .int (t.count c : Nat)]), S) := by
  have h2 : (2 ≤ line) = True := le_line (by omega)
  refine lc_map (L := t) (φ := fun c => .str [c]) _ (by simp only [run, ev, evs, evT, evI, fin, Option.bind_some, Option.map_some, startE, List.map_cons, List.map_nil, List.length_cons, List.length_nil, List.cons_append, List.nil_append, List.replicate_succ, List.replicate_zero, Nat.reduceAdd, Nat.reduceSub, Nat.zero_add, List.getElem?_cons_zero, List.getElem?_cons_succ, List.set_cons_zero, List.set_cons_succ, wipeE, bindTg, setAll, retOf, cmpS, eq_ii, eq_ss, lt_ii, lt_ss, mem_s, p_add_i, p_sub_i, b_len_t, b_len_l, b_abs, b_int, b_tuple_l, b_list_t, b_list_l, m_count, i_tup, i_lv, atI_0, atI_1, atI_2, atI_3, atI_4, decide_eq_true_eq, Bool.not_true, Bool.not_false, Bool.false_eq_true, if_true, if_false, ite_true, ite_false, reduceIte, isNon, walkOf, walkS, isi_non_int, isi_non_str, isi_non_tuple, isi_non_list, isi_non_dict, isi_non_bool, isi_bl_int, isi_bl_str, isi_bl_tuple, isi_bl_list, isi_bl_dict, isi_bl_bool, isi_int_int, isi_int_str, isi_int_tuple, isi_int_list, isi_int_dict, isi_int_bool, isi_str_int, isi_str_str, isi_str_tuple, isi_str_list, isi_str_dict, isi_str_bool, isi_tup_int, isi_tup_str, isi_tup_tuple, isi_tup_list, isi_tup_dict, isi_tup_bool, isi_lv_int, isi_lv_str, isi_lv_tuple, isi_lv_list, isi_lv_dict, isi_lv_bool, isi_dv_int, isi_dv_str, isi_dv_tuple, isi_dv_list, isi_dv_dict, isi_dv_bool, isi_scr_int, isi_scr_str, isi_scr_tuple, isi_scr_list, isi_scr_dict, isi_scr_bool]) (fun c hc => ?_) (by unfold line; omega)
  simp only [turnF, ty_count, h2, run, ev, evs, evT, evI, fin, Option.bind_some, Option.map_some, startE, List.map_cons, List.map_nil, List.length_cons, List.length_nil, List.cons_append, List.nil_append, List.replicate_succ, List.replicate_zero, Nat.reduceAdd, Nat.reduceSub, Nat.zero_add, List.getElem?_cons_zero, List.getElem?_cons_succ, List.set_cons_zero, List.set_cons_succ, wipeE, bindTg, setAll, retOf, cmpS, eq_ii, eq_ss, lt_ii, lt_ss, mem_s, p_add_i, p_sub_i, b_len_t, b_len_l, b_abs, b_int, b_tuple_l, b_list_t, b_list_l, m_count, i_tup, i_lv, atI_0, atI_1, atI_2, atI_3, atI_4, decide_eq_true_eq, Bool.not_true, Bool.not_false, Bool.false_eq_true, if_true, if_false, ite_true, ite_false, reduceIte, isNon, walkOf, walkS, isi_non_int, isi_non_str, isi_non_tuple, isi_non_list, isi_non_dict, isi_non_bool, isi_bl_int, isi_bl_str, isi_bl_tuple, isi_bl_list, isi_bl_dict, isi_bl_bool, isi_int_int, isi_int_str, isi_int_tuple, isi_int_list, isi_int_dict, isi_int_bool, isi_str_int, isi_str_str, isi_str_tuple, isi_str_list, isi_str_dict, isi_str_bool, isi_tup_int, isi_tup_str, isi_tup_tuple, isi_tup_list, isi_tup_dict, isi_tup_bool, isi_lv_int, isi_lv_str, isi_lv_tuple, isi_lv_list, isi_lv_dict, isi_lv_bool, isi_dv_int, isi_dv_str, isi_dv_tuple, isi_dv_list, isi_dv_dict, isi_dv_bool, isi_scr_int, isi_scr_str, isi_scr_tuple, isi_scr_list, isi_scr_dict, isi_scr_bool]
theorem right_c4 {m : Nat} {t : List Nat} (ht : t.length ≤ 1000) (x0 x1 x2 x3 x4 x5 x6 x7 x8 x9 x10 x12 x13 x14 x15 x16 x17 : Option D) :
    ev 1000 (callN 1000 progL m) d_law_is_right_c4 [x0, x1, x2, x3, x4, x5, x6, x7, x8, x9, x10, some (cntD t), x12, x13, x14, x15, x16, x17] S = some (.lv ((firsts t).map (negT fun c => t.count c)), S) := by
  have h2 : (2 ≤ line) = True := le_line (by omega)
  refine lc_map (L := firsts t) (φ := fun c => .str [c]) _ (by simp only [run, ev, evs, evT, evI, fin, Option.bind_some, Option.map_some, startE, List.map_cons, List.map_nil, List.length_cons, List.length_nil, List.cons_append, List.nil_append, List.replicate_succ, List.replicate_zero, Nat.reduceAdd, Nat.reduceSub, Nat.zero_add, List.getElem?_cons_zero, List.getElem?_cons_succ, List.set_cons_zero, List.set_cons_succ, wipeE, bindTg, setAll, retOf, cmpS, eq_ii, eq_ss, lt_ii, lt_ss, mem_s, p_add_i, p_sub_i, b_len_t, b_len_l, b_abs, b_int, b_tuple_l, b_list_t, b_list_l, m_count, i_tup, i_lv, atI_0, atI_1, atI_2, atI_3, atI_4, decide_eq_true_eq, Bool.not_true, Bool.not_false, Bool.false_eq_true, if_true, if_false, ite_true, ite_false, reduceIte, isNon, walkOf, walkS, isi_non_int, isi_non_str, isi_non_tuple, isi_non_list, isi_non_dict, isi_non_bool, isi_bl_int, isi_bl_str, isi_bl_tuple, isi_bl_list, isi_bl_dict, isi_bl_bool, isi_int_int, isi_int_str, isi_int_tuple, isi_int_list, isi_int_dict, isi_int_bool, isi_str_int, isi_str_str, isi_str_tuple, isi_str_list, isi_str_dict, isi_str_bool, isi_tup_int, isi_tup_str, isi_tup_tuple, isi_tup_list, isi_tup_dict, isi_tup_bool, isi_lv_int, isi_lv_str, isi_lv_tuple, isi_lv_list, isi_lv_dict, isi_lv_bool, isi_dv_int, isi_dv_str, isi_dv_tuple, isi_dv_list, isi_dv_dict, isi_dv_bool, isi_scr_int, isi_scr_str, isi_scr_tuple, isi_scr_list, isi_scr_dict, isi_scr_bool]; rw [cnts_eq, List.map_map]; rfl) (fun c hc => ?_) (by have := len_firsts t; unfold line; omega)
  simp only [turnF, i_cnt (mem_firsts.mp hc), h2, Int.zero_sub, run, ev, evs, evT, evI, fin, Option.bind_some, Option.map_some, startE, List.map_cons, List.map_nil, List.length_cons, List.length_nil, List.cons_append, List.nil_append, List.replicate_succ, List.replicate_zero, Nat.reduceAdd, Nat.reduceSub, Nat.zero_add, List.getElem?_cons_zero, List.getElem?_cons_succ, List.set_cons_zero, List.set_cons_succ, wipeE, bindTg, setAll, retOf, cmpS, eq_ii, eq_ss, lt_ii, lt_ss, mem_s, p_add_i, p_sub_i, b_len_t, b_len_l, b_abs, b_int, b_tuple_l, b_list_t, b_list_l, m_count, i_tup, i_lv, atI_0, atI_1, atI_2, atI_3, atI_4, decide_eq_true_eq, Bool.not_true, Bool.not_false, Bool.false_eq_true, if_true, if_false, ite_true, ite_false, reduceIte, isNon, walkOf, walkS, isi_non_int, isi_non_str, isi_non_tuple, isi_non_list, isi_non_dict, isi_non_bool, isi_bl_int, isi_bl_str, isi_bl_tuple, isi_bl_list, isi_bl_dict, isi_bl_bool, isi_int_int, isi_int_str, isi_int_tuple, isi_int_list, isi_int_dict, isi_int_bool, isi_str_int, isi_str_str, isi_str_tuple, isi_str_list, isi_str_dict, isi_str_bool, isi_tup_int, isi_tup_str, isi_tup_tuple, isi_tup_list, isi_tup_dict, isi_tup_bool, isi_lv_int, isi_lv_str, isi_lv_tuple, isi_lv_list, isi_lv_dict, isi_lv_bool, isi_dv_int, isi_dv_str, isi_dv_tuple, isi_dv_list, isi_dv_dict, isi_dv_bool, isi_scr_int, isi_scr_str, isi_scr_tuple, isi_scr_list, isi_scr_dict, isi_scr_bool]
theorem min_most {t : List Nat} (h0 : t ≠ []) : bltS .min [.lv ((firsts t).map (negT fun c => t.count c))] S = some (.val (negT (fun c => t.count c) (mostC t))) := by
  have hf : ∃ x xs, firsts t = x :: xs := by
    cases h : firsts t with
    | nil =>
      obtain ⟨c, hc⟩ := head_of h0
      have : c ∈ firsts t := mem_firsts.mpr (mem_of_head hc)
      rw [h] at this
      cases this
    | cons x xs => exact ⟨x, xs, rfl⟩
  obtain ⟨x, xs, e⟩ := hf
  have em : mostC t = bst (fun c => t.count c) x xs := by unfold mostC; rw [e]
  rw [e, em, List.map_cons]
  exact b_min_neg _ x xs
theorem right_b3 {m : Nat} (hm : 5 ≤ m) {rows : List (List Nat)} {w p : Nat} (R : Rows rows w) (hp : p < w) (x0 x3 x4 x5 x6 x7 x8 x10 x11 x12 : Option D) {acc : List Nat} (ha : acc.length ≤ 100) :
    ∃ y10 y11 y12, run 1000 (callN 1000 progL m) d_law_is_right_b3 [x0, some (rowsD rows), some (.int (0 + (p : Int))), x3, x4, x5, x6, x7, x8, some (.str acc), x10, x11, x12, none, none, none, none, none] S =
      some (.nx [x0, some (rowsD rows), some (.int (0 + (p : Int))), x3, x4, x5, x6, x7, x8, some (.str (acc ++ [mostC (colr rows p)])), y10, y11, y12, none, none, none, none, none], S) := by
  have hm1 := R.many
  have hcl := colr_len rows p
  have h6 := right_c6 (S := S) (m := m) R hp x0 x3 x4 x5 x6 x7 x8 (some (.str acc)) x10 x11 x12 none none none none none
  have hj := join_signs (S := S) (colr rows p) (by omega)
  have h5 := right_c5 (S := S) (m := m) (t := colr rows p) (by omega) x0 (some (rowsD rows)) (some (.int (0 + (p : Int)))) x3 x4 x5 x6 x7 x8 (some (.str acc)) x11 x12 none none none none none
  have hd := dict_cnt (S := S) (colr rows p)
  have e0 : (0 : Int) + (p : Int) = (p : Int) := by omega
  have k1 := counts_at_ok (S := S) (n := m) hm R hp
  have k2 := column_ok (S := S) (n := m) hm R hp
  have k3 := is_s (S := S) (n := m) (by omega) (colr rows p)
  have k4 := is_cnt (S := S) (n := m) (by omega) (colr rows p)
  have h4 := right_c4 (S := S) (m := m) (t := colr rows p) (by omega) x0 (some (rowsD rows)) (some (.int (0 + (p : Int)))) x3 x4 x5 x6 x7 x8 (some (.str acc)) (some (.str (colr rows p))) (some (cntD (colr rows p))) none none none none none
  have hmin := min_most (S := S) (colr_ne R p)
  have hadd := p_add_s (S := S) (a := acc) (b := [mostC (colr rows p)]) (by unfold line; simp; omega)
  rw [cN] at k1 k2 k3 k4
  rw [← e0] at k1 k2
  refine ⟨some (.str (colr rows p)), some (cntD (colr rows p)), some (cntD (colr rows p)), ?_⟩
  simp only [d_law_is_right_b3, h6, hj, ty_str, h5, hd, k1, k2, k3, k4, h4, hmin, hadd, run, ev, evs, evT, evI, fin, Option.bind_some, Option.map_some, startE, List.map_cons, List.map_nil, List.length_cons, List.length_nil, List.cons_append, List.nil_append, List.replicate_succ, List.replicate_zero, Nat.reduceAdd, Nat.reduceSub, Nat.zero_add, List.getElem?_cons_zero, List.getElem?_cons_succ, List.set_cons_zero, List.set_cons_succ, wipeE, bindTg, setAll, retOf, cmpS, eq_ii, eq_ss, lt_ii, lt_ss, mem_s, p_add_i, p_sub_i, b_len_t, b_len_l, b_abs, b_int, b_tuple_l, b_list_t, b_list_l, m_count, i_tup, i_lv, atI_0, atI_1, atI_2, atI_3, atI_4, decide_eq_true_eq, Bool.not_true, Bool.not_false, Bool.false_eq_true, if_true, if_false, ite_true, ite_false, reduceIte, isNon, walkOf, walkS, isi_non_int, isi_non_str, isi_non_tuple, isi_non_list, isi_non_dict, isi_non_bool, isi_bl_int, isi_bl_str, isi_bl_tuple, isi_bl_list, isi_bl_dict, isi_bl_bool, isi_int_int, isi_int_str, isi_int_tuple, isi_int_list, isi_int_dict, isi_int_bool, isi_str_int, isi_str_str, isi_str_tuple, isi_str_list, isi_str_dict, isi_str_bool, isi_tup_int, isi_tup_str, isi_tup_tuple, isi_tup_list, isi_tup_dict, isi_tup_bool, isi_lv_int, isi_lv_str, isi_lv_tuple, isi_lv_list, isi_lv_dict, isi_lv_bool, isi_dv_int, isi_dv_str, isi_dv_tuple, isi_dv_list, isi_dv_dict, isi_dv_bool, isi_scr_int, isi_scr_str, isi_scr_tuple, isi_scr_list, isi_scr_dict, isi_scr_bool]
end
end Pd

namespace Pd
open PySem PySem.Spec PyProof.Rows L2
section
variable {n : Nat} {T S : Store} {fu : Nat} {Φ : Calls}
theorem cutL_from {α : Type} (xs : List α) (k : Nat) : cutL xs (some (k : Int)) none = xs.drop k := by
  unfold cutL
  rw [HT.sIx_nat, HT.sIx_none]
  by_cases h : k ≤ xs.length
  · rw [Nat.min_eq_left h]
    exact List.take_of_length_le (by rw [List.length_drop]; exact Nat.le_refl _)
  · rw [Nat.min_eq_right (by omega), List.drop_eq_nil_of_le (Nat.le_refl _), List.drop_eq_nil_of_le (by omega), List.take_nil]
theorem cutL_to {α : Type} (xs : List α) (k : Nat) : cutL xs none (some (k : Int)) = xs.take k := by
  unfold cutL
  rw [HT.sIx_nat, HT.sIx_none, List.drop_zero, Nat.sub_zero]
  by_cases h : k ≤ xs.length
  · rw [Nat.min_eq_left h]
  · rw [Nat.min_eq_right (by omega), List.take_of_length_le (Nat.le_refl _), List.take_of_length_le (by omega)]
theorem slc_tup (xs : List D) (l h : Option Int) : slcS (.tup xs) l h S = some (.val (.tup (cutL xs l h))) := rfl
def difN (r o : List Nat) : Nat := ((r.zip o).filter fun p => !decide (p.1 = p.2)).length
theorem zip_str : ∀ r o : List Nat, zipL (r.map fun c => .str [c]) (o.map fun c => .str [c]) = (r.zip o).map fun p => .tup [.str [p.1], .str [p.2]]
  | [], _ => by simp [zipL]
  | _ :: _, [] => by simp [zipL]
  | a :: r, b :: o => by
    rw [List.map_cons, List.map_cons, zipL, zip_str r o]
    rfl
theorem right_c3 {m : Nat} {r o : List Nat} (hr : r.length ≤ 1000) (x0 x1 x2 x3 x4 x5 x6 x7 x8 x9 x10 x11 x12 x13 : Option D) :
    ev 1000 (callN 1000 progL m) d_law_is_right_c3 [x0, x1, x2, x3, x4, x5, x6, x7, x8, x9, x10, x11, x12, x13, some (.str r), some (.str o), none, none] S = some (.lv (((r.zip o).filter fun p => !decide (p.1 = p.2)).map fun _ => .int 1), S) := by
  refine lc_filter (L := r.zip o) (φ := fun p => .tup [.str [p.1], .str [p.2]]) (fun p => !decide (p.1 = p.2)) (fun _ => .int 1) (by simp only [zip_str, run, ev, evs, evT, evI, fin, Option.bind_some, Option.map_some, startE, List.map_cons, List.map_nil, List.length_cons, List.length_nil, List.cons_append, List.nil_append, List.replicate_succ, List.replicate_zero, Nat.reduceAdd, Nat.reduceSub, Nat.zero_add, List.getElem?_cons_zero, List.getElem?_cons_succ, List.set_cons_zero, List.set_cons_succ, wipeE, bindTg, setAll, retOf, cmpS, eq_ii, eq_ss, lt_ii, lt_ss, mem_s, p_add_i, p_sub_i, b_len_t, b_len_l, b_abs, b_int, b_tuple_l, b_list_t, b_list_l, m_count, i_tup, i_lv, atI_0, atI_1, atI_2, atI_3, atI_4, decide_eq_true_eq, Bool.not_true, Bool.not_false, Bool.false_eq_true, if_true, if_false, ite_true, ite_false, reduceIte, isNon, walkOf, walkS, isi_non_int, isi_non_str, isi_non_tuple, isi_non_list, isi_non_dict, isi_non_bool, isi_bl_int, isi_bl_str, isi_bl_tuple, isi_bl_list, isi_bl_dict, isi_bl_bool, isi_int_int, isi_int_str, isi_int_tuple, isi_int_list, isi_int_dict, isi_int_bool, isi_str_int, isi_str_str, isi_str_tuple, isi_str_list, isi_str_dict, isi_str_bool, isi_tup_int, isi_tup_str, isi_tup_tuple, isi_tup_list, isi_tup_dict, isi_tup_bool, isi_lv_int, isi_lv_str, isi_lv_tuple, isi_lv_list, isi_lv_dict, isi_lv_bool, isi_dv_int, isi_dv_str, isi_dv_tuple, isi_dv_list, isi_dv_dict, isi_dv_bool, isi_scr_int, isi_scr_str, isi_scr_tuple, isi_scr_list, isi_scr_dict, isi_scr_bool]) (fun p hp => ?_) (by rw [List.length_zip]; unfold line; omega)
  simp only [turnF, str1, run, ev, evs, evT, evI, fin, Option.bind_some, Option.map_some, startE, List.map_cons, List.map_nil, List.length_cons, List.length_nil, List.cons_append, List.nil_append, List.replicate_succ, List.replicate_zero, Nat.reduceAdd, Nat.reduceSub, Nat.zero_add, List.getElem?_cons_zero, List.getElem?_cons_succ, List.set_cons_zero, List.set_cons_succ, wipeE, bindTg, setAll, retOf, cmpS, eq_ii, eq_ss, lt_ii, lt_ss, mem_s, p_add_i, p_sub_i, b_len_t, b_len_l, b_abs, b_int, b_tuple_l, b_list_t, b_list_l, m_count, i_tup, i_lv, atI_0, atI_1, atI_2, atI_3, atI_4, decide_eq_true_eq, Bool.not_true, Bool.not_false, Bool.false_eq_true, if_true, if_false, ite_true, ite_false, reduceIte, isNon, walkOf, walkS, isi_non_int, isi_non_str, isi_non_tuple, isi_non_list, isi_non_dict, isi_non_bool, isi_bl_int, isi_bl_str, isi_bl_tuple, isi_bl_list, isi_bl_dict, isi_bl_bool, isi_int_int, isi_int_str, isi_int_tuple, isi_int_list, isi_int_dict, isi_int_bool, isi_str_int, isi_str_str, isi_str_tuple, isi_str_list, isi_str_dict, isi_str_bool, isi_tup_int, isi_tup_str, isi_tup_tuple, isi_tup_list, isi_tup_dict, isi_tup_bool, isi_lv_int, isi_lv_str, isi_lv_tuple, isi_lv_list, isi_lv_dict, isi_lv_bool, isi_dv_int, isi_dv_str, isi_dv_tuple, isi_dv_list, isi_dv_dict, isi_dv_bool, isi_scr_int, isi_scr_str, isi_scr_tuple, isi_scr_list, isi_scr_dict, isi_scr_bool]
  cases hq : decide (p.1 = p.2) <;> simp at hq <;> simp [hq]
theorem right_b1 {m : Nat} {r o : List Nat} (hr : r.length ≤ 1000) (v : Int) (x0 x1 x2 x3 x5 x6 x7 x8 x9 x10 x11 x12 x13 : Option D) :
    run 1000 (callN 1000 progL m) d_law_is_right_b1 [x0, x1, x2, x3, some (.int v), x5, x6, x7, x8, x9, x10, x11, x12, x13, some (.str r), some (.str o), none, none] S =
      some (.nx [x0, x1, x2, x3, some (.int (v + (difN r o : Nat))), x5, x6, x7, x8, x9, x10, x11, x12, x13, some (.str r), some (.str o), none, none], S) := by
  have h3 := right_c3 (S := S) (m := m) (o := o) hr x0 x1 x2 x3 (some (.int v)) x5 x6 x7 x8 x9 x10 x11 x12 x13
  have e : (((r.zip o).filter fun p => !decide (p.1 = p.2)).map fun _ => D.int 1).length = difN r o := by rw [List.length_map]; rfl
  simp only [d_law_is_right_b1, h3, e, run, ev, evs, evT, evI, fin, Option.bind_some, Option.map_some, startE, List.map_cons, List.map_nil, List.length_cons, List.length_nil, List.cons_append, List.nil_append, List.replicate_succ, List.replicate_zero, Nat.reduceAdd, Nat.reduceSub, Nat.zero_add, List.getElem?_cons_zero, List.getElem?_cons_succ, List.set_cons_zero, List.set_cons_succ, wipeE, bindTg, setAll, retOf, cmpS, eq_ii, eq_ss, lt_ii, lt_ss, mem_s, p_add_i, p_sub_i, b_len_t, b_len_l, b_abs, b_int, b_tuple_l, b_list_t, b_list_l, m_count, i_tup, i_lv, atI_0, atI_1, atI_2, atI_3, atI_4, decide_eq_true_eq, Bool.not_true, Bool.not_false, Bool.false_eq_true, if_true, if_false, ite_true, ite_false, reduceIte, isNon, walkOf, walkS, isi_non_int, isi_non_str, isi_non_tuple, isi_non_list, isi_non_dict, isi_non_bool, isi_bl_int, isi_bl_str, isi_bl_tuple, isi_bl_list, isi_bl_dict, isi_bl_bool, isi_int_int, isi_int_str, isi_int_tuple, isi_int_list, isi_int_dict, isi_int_bool, isi_str_int, isi_str_str, isi_str_tuple, isi_str_list, isi_str_dict, isi_str_bool, isi_tup_int, isi_tup_str, isi_tup_tuple, isi_tup_list, isi_tup_dict, isi_tup_bool, isi_lv_int, isi_lv_str, isi_lv_tuple, isi_lv_list, isi_lv_dict, isi_lv_bool, isi_dv_int, isi_dv_str, isi_dv_tuple, isi_dv_list, isi_dv_dict, isi_dv_bool, isi_scr_int, isi_scr_str, isi_scr_tuple, isi_scr_list, isi_scr_dict, isi_scr_bool]
def sumD (r : List Nat) (os : List (List Nat)) : Int := (os.map fun o => ((difN r o : Nat) : Int)).sum
theorem right_b2 {m : Nat} {rows : List (List Nat)} {r : List Nat} (hl : rows.length ≤ 100) (hr : r.length ≤ 1000) (i : Nat) (v : Int) (x0 x2 x3 x5 x6 x7 x8 x9 x10 x11 x12 x15 : Option D) :
    ∃ y15, run 1000 (callN 1000 progL m) d_law_is_right_b2 [x0, some (rowsD rows), x2, x3, some (.int v), x5, x6, x7, x8, x9, x10, x11, x12, some (.int (i : Nat)), some (.str r), x15, none, none] S =
      some (.nx [x0, some (rowsD rows), x2, x3, some (.int (v + sumD r (rows.drop (i + 1)))), x5, x6, x7, x8, x9, x10, x11, x12, some (.int (i : Nat)), some (.str r), y15, none, none], S) := by
  obtain ⟨ρ', S', he, y15, hρ, hS⟩ := forFix_inv (g := .nm 15) (b := run 1000 (callN 1000 progL m) d_law_is_right_b1) (φ := fun o : List Nat => D.str o)
    (fun k ρ S' => ∃ y15, ρ = [x0, some (rowsD rows), x2, x3, some (.int (v + sumD r ((rows.drop (i + 1)).take k))), x5, x6, x7, x8, x9, x10, x11, x12, some (.int (i : Nat)), some (.str r), y15, none, none] ∧ S' = S)
    (rows.drop (i + 1)) 0 [x0, some (rowsD rows), x2, x3, some (.int v), x5, x6, x7, x8, x9, x10, x11, x12, some (.int (i : Nat)), some (.str r), x15, none, none] S ⟨x15, by simp [sumD], rfl⟩ (fun k o ρ S1 hk ⟨y15, e1, e2⟩ => by
      subst e1
      subst e2
      refine ⟨_, _, _, rfl, .inl (right_b1 hr _ x0 _ x2 x3 x5 x6 x7 x8 x9 x10 x11 x12 _), some (.str o), ?_, rfl⟩
      have e : sumD r ((rows.drop (i + 1)).take (0 + k + 1)) = sumD r ((rows.drop (i + 1)).take (0 + k)) + ((difN r o : Nat) : Int) := by
        unfold sumD
        rw [Nat.zero_add, List.take_add_one, hk, List.map_append, List.sum_append]
        simp
      rw [e, Int.add_assoc])
  subst hρ
  subst hS
  rw [Nat.zero_add, List.take_length] at he
  have ec : cutL (rows.map D.str) (some ((i : Int) + 1)) none = (rows.drop (i + 1)).map D.str := by
    rw [show ((i : Int) + 1) = ((i + 1 : Nat) : Int) from by omega, cutL_from, List.map_drop]
  refine ⟨y15, ?_⟩
  simp only [d_law_is_right_b2, one?, bound?, slc_tup, ec, he, run, ev, evs, evT, evI, fin, Option.bind_some, Option.map_some, startE, List.map_cons, List.map_nil, List.length_cons, List.length_nil, List.cons_append, List.nil_append, List.replicate_succ, List.replicate_zero, Nat.reduceAdd, Nat.reduceSub, Nat.zero_add, List.getElem?_cons_zero, List.getElem?_cons_succ, List.set_cons_zero, List.set_cons_succ, wipeE, bindTg, setAll, retOf, cmpS, eq_ii, eq_ss, lt_ii, lt_ss, mem_s, p_add_i, p_sub_i, b_len_t, b_len_l, b_abs, b_int, b_tuple_l, b_list_t, b_list_l, m_count, i_tup, i_lv, atI_0, atI_1, atI_2, atI_3, atI_4, decide_eq_true_eq, Bool.not_true, Bool.not_false, Bool.false_eq_true, if_true, if_false, ite_true, ite_false, reduceIte, isNon, walkOf, walkS, isi_non_int, isi_non_str, isi_non_tuple, isi_non_list, isi_non_dict, isi_non_bool, isi_bl_int, isi_bl_str, isi_bl_tuple, isi_bl_list, isi_bl_dict, isi_bl_bool, isi_int_int, isi_int_str, isi_int_tuple, isi_int_list, isi_int_dict, isi_int_bool, isi_str_int, isi_str_str, isi_str_tuple, isi_str_list, isi_str_dict, isi_str_bool, isi_tup_int, isi_tup_str, isi_tup_tuple, isi_tup_list, isi_tup_dict, isi_tup_bool, isi_lv_int, isi_lv_str, isi_lv_tuple, isi_lv_list, isi_lv_dict, isi_lv_bool, isi_dv_int, isi_dv_str, isi_dv_tuple, isi_dv_list, isi_dv_dict, isi_dv_bool, isi_scr_int, isi_scr_str, isi_scr_tuple, isi_scr_list, isi_scr_dict, isi_scr_bool]
/-- over all pairs -/
def pr2 : List (List Nat) → Int
  | [] => 0
  | r :: t => sumD r t + pr2 t
theorem enum_rows (rows : List (List Nat)) : enumL 0 (rows.map .str) = (List.range rows.length).map fun i : Nat => .tup [.int (i : Nat), .str (rows[i]?.getD [])] := by
  apply List.ext_getElem?
  intro i
  rw [enumL_get, List.getElem?_map, List.getElem?_map, Nat.zero_add]
  by_cases h : i < rows.length
  · rw [List.getElem?_range h, List.getElem?_eq_getElem h]
    show some (D.tup [.int (i : Nat), .str rows[i]]) = some (D.tup [.int (i : Nat), .str (rows[i]?.getD [])])
    rw [List.getElem?_eq_getElem h]
    rfl
  · rw [List.getElem?_eq_none (by omega), List.getElem?_eq_none (by rw [List.length_range]; omega)]
    rfl
theorem right_far {m : Nat} {rows : List (List Nat)} (hl : rows.length ≤ 100) (hr : ∀ r ∈ rows, r.length ≤ 1000) (x0 x2 x3 x5 x6 x7 x8 x9 x10 x11 x12 : Option D) :
    ∃ y13 y14 y15, run 1000 (callN 1000 progL m) (.loop (.tp [13, 14]) (.enum (.var 1)) (d_law_is_right_b2)) [x0, some (rowsD rows), x2, x3, some (.int 0), x5, x6, x7, x8, x9, x10, x11, x12, none, none, none, none, none] S =
      some (.nx [x0, some (rowsD rows), x2, x3, some (.int (pr2 rows)), x5, x6, x7, x8, x9, x10, x11, x12, y13, y14, y15, none, none], S) := by
  obtain ⟨ρ', S', he, v, y13, y14, y15, hρ, hv, hS⟩ := forFix_inv (g := .tp [13, 14]) (b := run 1000 (callN 1000 progL m) d_law_is_right_b2) (φ := fun i : Nat => D.tup [.int (i : Nat), .str (rows[i]?.getD [])])
    (fun k ρ S' => ∃ v y13 y14 y15, ρ = [x0, some (rowsD rows), x2, x3, some (.int v), x5, x6, x7, x8, x9, x10, x11, x12, y13, y14, y15, none, none] ∧ v + pr2 (rows.drop k) = pr2 rows ∧ S' = S)
    (List.range rows.length) 0 [x0, some (rowsD rows), x2, x3, some (.int 0), x5, x6, x7, x8, x9, x10, x11, x12, none, none, none, none, none] S ⟨0, none, none, none, rfl, by simp, rfl⟩ (fun k i ρ S1 hk ⟨v, y13, y14, y15, e1, hv, e2⟩ => by
      subst e1
      subst e2
      have hkl := (List.getElem?_eq_some_iff.mp hk).1
      rw [List.length_range] at hkl
      rw [List.getElem?_range hkl] at hk
      cases hk
      rw [Nat.zero_add] at hv
      have hg : rows[k]?.getD [] = rows[k] := by rw [List.getElem?_eq_getElem hkl]; rfl
      obtain ⟨z15, hs⟩ := right_b2 (S := S1) (m := m) (rows := rows) (r := rows[k]?.getD []) hl (by rw [hg]; exact hr _ (List.getElem_mem hkl)) k v x0 x2 x3 x5 x6 x7 x8 x9 x10 x11 x12 y15
      refine ⟨_, _, _, rfl, .inl hs, _, _, _, z15, rfl, ?_, rfl⟩
      rw [Nat.zero_add, hg]
      rw [List.drop_eq_getElem_cons hkl] at hv
      have : pr2 (rows[k] :: rows.drop (k + 1)) = sumD rows[k] (rows.drop (k + 1)) + pr2 (rows.drop (k + 1)) := rfl
      omega)
  subst hρ
  subst hS
  rw [Nat.zero_add, List.length_range, List.drop_length] at hv
  have hv' : v = pr2 rows := by
    have : pr2 [] = 0 := rfl
    omega
  subst hv'
  refine ⟨y13, y14, y15, ?_⟩
  simp only [run, evI, ev, walkS, enum_rows, List.getElem?_cons_zero, List.getElem?_cons_succ, Option.bind_some, Option.map_some, he]
/-! over all pairs, by places -/
def ne1 (r o : List Nat) (p : Nat) : Int := if r[p]?.getD 0 = o[p]?.getD 0 then 0 else 1
theorem difN_sum : ∀ (w : Nat) (r o : List Nat), r.length = w → o.length = w → ((difN r o : Nat) : Int) = ((List.range w).map (ne1 r o)).sum
  | 0, [], [], _, _ => rfl
  | 0, _ :: _, _, h, _ => by cases h
  | 0, [], _ :: _, _, h => by cases h
  | w + 1, [], _, h, _ => by cases h
  | w + 1, _ :: _, [], _, h => by cases h
  | w + 1, a :: r, b :: o, h1, h2 => by
    have ih := difN_sum w r o (by simpa using h1) (by simpa using h2)
    rw [List.range_succ_eq_map, List.map_cons, List.sum_cons, List.map_map]
    have e1 : (List.range w).map (ne1 (a :: r) (b :: o) ∘ Nat.succ) = (List.range w).map (ne1 r o) := rfl
    rw [e1, ← ih]
    unfold difN
    rw [List.zip_cons_cons, List.filter_cons]
    have e2 : ne1 (a :: r) (b :: o) 0 = if a = b then 0 else 1 := rfl
    rw [e2]
    by_cases h : a = b
    · simp [h]
    · simp [h]
      omega
theorem sum_add {f g : Nat → Int} : ∀ l : List Nat, (l.map fun p => f p + g p).sum = (l.map f).sum + (l.map g).sum
  | [] => rfl
  | a :: l => by
    simp only [List.map_cons, List.sum_cons, sum_add l]
    omega
def cl1 (r : List Nat) (t : List (List Nat)) (p : Nat) : Int := (((colr t p).length : Nat) : Int) - (((colr t p).count (r[p]?.getD 0) : Nat) : Int)
theorem sumD_cl {w : Nat} {r : List Nat} (hr : r.length = w) : ∀ t : List (List Nat), (∀ o ∈ t, o.length = w) → sumD r t = ((List.range w).map (cl1 r t)).sum
  | [], _ => by
    have : (List.range w).map (cl1 r []) = (List.range w).map fun _ => (0 : Int) := by
      apply List.map_congr_left
      intro p _
      simp [cl1, colr]
    rw [this]
    have z : ∀ l : List Nat, (l.map fun _ => (0 : Int)).sum = 0 := by
      intro l
      induction l with
      | nil => rfl
      | cons a l ih => rw [List.map_cons, List.sum_cons, ih]; rfl
    rw [z]
    rfl
  | o :: t, h => by
    have ih := sumD_cl hr t fun x hx => h x (List.mem_cons_of_mem _ hx)
    have e : sumD r (o :: t) = ((difN r o : Nat) : Int) + sumD r t := by simp [sumD]
    rw [e, ih, difN_sum w r o hr (h o List.mem_cons_self), ← sum_add]
    congr 1
    apply List.map_congr_left
    intro p _
    unfold cl1 ne1 colr
    rw [List.map_cons, List.length_cons, List.count_cons]
    by_cases q : r[p]?.getD 0 = o[p]?.getD 0
    · rw [if_pos q, if_pos (by simp [q])]
      omega
    · rw [if_neg q, if_neg (by simp; exact fun z => q z.symm)]
      omega
theorem pr2_far {w : Nat} : ∀ rows : List (List Nat), (∀ r ∈ rows, r.length = w) → pr2 rows = farS rows w
  | [], _ => by
    unfold farS
    have : (List.range w).map (fun i => farP (colr [] i)) = (List.range w).map fun _ => (0 : Int) := by
      apply List.map_congr_left
      intro p _
      show farP [] = 0
      rw [farP_prs]
      rfl
    rw [this]
    have z : ∀ l : List Nat, (l.map fun _ => (0 : Int)).sum = 0 := by
      intro l
      induction l with
      | nil => rfl
      | cons a l ih => rw [List.map_cons, List.sum_cons, ih]; rfl
    rw [z]
    rfl
  | r :: t, h => by
    have ih := pr2_far t fun x hx => h x (List.mem_cons_of_mem _ hx)
    show sumD r t + pr2 t = _
    rw [ih, sumD_cl (h r List.mem_cons_self) t fun x hx => h x (List.mem_cons_of_mem _ hx)]
    unfold farS
    rw [← sum_add]
    congr 1
    apply List.map_congr_left
    intro p _
    rw [farP_prs, farP_prs]
    rfl
end
end Pd

namespace Pd
open PySem PySem.Spec PyProof.Rows L2
section
variable {n : Nat} {T S : Store} {fu : Nat} {Φ : Calls}
theorem right_loop1 {m : Nat} (hm : 5 ≤ m) {rows : List (List Nat)} {w : Nat} (R : Rows rows w) (x0 x3 x4 x5 x6 x7 x8 : Option D) :
    ∃ y2 y10 y11 y12, forFix (.nm 2) (run 1000 (callN 1000 progL m) d_law_is_right_b3) (natsOf (List.range w)) [x0, some (rowsD rows), none, x3, x4, x5, x6, x7, x8, some (.str []), none, none, none, none, none, none, none, none] S =
      some (.nx [x0, some (rowsD rows), y2, x3, x4, x5, x6, x7, x8, some (.str (mosts rows w)), y10, y11, y12, none, none, none, none, none], S) := by
  have hw1 := R.w1
  obtain ⟨ρ', S', he, y2, y10, y11, y12, hρ, hS⟩ := forFix_inv (g := .nm 2) (b := run 1000 (callN 1000 progL m) d_law_is_right_b3) (φ := fun i : Nat => D.int (0 + (i : Int)))
    (fun k ρ S' => ∃ y2 y10 y11 y12, ρ = [x0, some (rowsD rows), y2, x3, x4, x5, x6, x7, x8, some (.str (((List.range w).take k).map fun i => mostC (colr rows i))), y10, y11, y12, none, none, none, none, none] ∧ S' = S)
    (List.range w) 0 [x0, some (rowsD rows), none, x3, x4, x5, x6, x7, x8, some (.str []), none, none, none, none, none, none, none, none] S ⟨none, none, none, none, rfl, rfl⟩ (fun k i ρ S1 hk ⟨y2, y10, y11, y12, e1, e2⟩ => by
      subst e1
      subst e2
      have hi : i < w := List.mem_range.mp (List.mem_of_getElem? hk)
      have hl : (((List.range w).take (0 + k)).map fun i => mostC (colr rows i)).length ≤ 100 := by
        rw [List.length_map, List.length_take, List.length_range]
        omega
      obtain ⟨z10, z11, z12, hs⟩ := right_b3 (S := S1) (m := m) hm R hi x0 x3 x4 x5 x6 x7 x8 y10 y11 y12 hl
      refine ⟨_, _, _, rfl, .inl hs, some (.int (0 + (i : Int))), z10, z11, z12, ?_, rfl⟩
      rw [Nat.zero_add, List.take_add_one, hk, List.map_append]
      rfl)
  subst hρ
  subst hS
  rw [Nat.zero_add, List.length_range] at he
  have e1 : (List.range w).take w = List.range w := List.take_of_length_le (by rw [List.length_range]; exact Nat.le_refl _)
  rw [e1] at he
  exact ⟨y2, y10, y11, y12, he⟩
theorem isD_nats (l : List Nat) (hl : l.length ≤ 1000) : isD 2 (.tup (natsOf l)) := .inl ⟨natsOf l, .inl rfl, by rw [List.length_map]; exact hl, fun x hx => by
  obtain ⟨i, _, rfl⟩ := List.mem_map.mp hx
  exact .inr (.inl ⟨_, rfl⟩)⟩
theorem isD_pairs (l : List (Nat × Nat)) (hl : l.length ≤ 1000) : isD 3 (.tup (l.map pairD)) := .inl ⟨l.map pairD, .inl rfl, by rw [List.length_map]; exact hl, fun x hx => by
  obtain ⟨p, _, rfl⟩ := List.mem_map.mp hx
  refine .inl ⟨_, .inl rfl, by simp, fun y hy => ?_⟩
  simp only [List.mem_cons, List.not_mem_nil, or_false] at hy
  rcases hy with rfl | rfl
  · exact .inr (.inl ⟨_, rfl⟩)
  · exact .inr (.inl ⟨_, rfl⟩)⟩
theorem gaps_len (rows : List (List Nat)) (w k : Nat) : (gaps rows w k).length ≤ w := by
  have := List.length_filter_le (fun i => decide ((rows[k]?.getD [])[i]?.getD 0 = 45)) (List.range w)
  rw [List.length_range] at this
  exact this
theorem right_c2 {m : Nat} {rows : List (List Nat)} {w k : Nat} (R : Rows rows w) (hk : k < rows.length) (x0 x2 x3 x4 x6 x7 x9 x10 x11 x12 x13 x14 x15 x16 x17 : Option D) :
    ev 1000 (callN 1000 progL m) d_law_is_right_c2 [x0, some (rowsD rows), x2, x3, x4, some (.int (k : Nat)), x6, x7, some (.int (w : Nat)), x9, x10, x11, x12, x13, x14, x15, x16, x17] S = some (.lv (natsOf (gaps rows w k)), S) := by
  have hw1 := R.w1
  have hr : rangeS [.int (w : Nat)] = some (intL 0 w) := by rw [range_1 (by omega), Int.toNat_natCast]
  have hr0 : rows[k]? = some (rows[k]) := List.getElem?_eq_getElem hk
  have hrk : (rows.map D.str)[k]? = some (.str rows[k]) := by rw [List.getElem?_map, hr0]; rfl
  refine lc_filter (L := List.range w) (φ := fun i : Nat => .int (0 + (i : Int))) (fun i => decide ((rows[k]?.getD [])[i]?.getD 0 = 45)) _ (by simp only [hr, intL, run, ev, evs, evT, evI, fin, Option.bind_some, Option.map_some, startE, List.map_cons, List.map_nil, List.length_cons, List.length_nil, List.cons_append, List.nil_append, List.replicate_succ, List.replicate_zero, Nat.reduceAdd, Nat.reduceSub, Nat.zero_add, List.getElem?_cons_zero, List.getElem?_cons_succ, List.set_cons_zero, List.set_cons_succ, wipeE, bindTg, setAll, retOf, cmpS, eq_ii, eq_ss, lt_ii, lt_ss, mem_s, p_add_i, p_sub_i, b_len_t, b_len_l, b_abs, b_int, b_tuple_l, b_list_t, b_list_l, m_count, i_tup, i_lv, atI_0, atI_1, atI_2, atI_3, atI_4, decide_eq_true_eq, Bool.not_true, Bool.not_false, Bool.false_eq_true, if_true, if_false, ite_true, ite_false, reduceIte, isNon, walkOf, walkS, isi_non_int, isi_non_str, isi_non_tuple, isi_non_list, isi_non_dict, isi_non_bool, isi_bl_int, isi_bl_str, isi_bl_tuple, isi_bl_list, isi_bl_dict, isi_bl_bool, isi_int_int, isi_int_str, isi_int_tuple, isi_int_list, isi_int_dict, isi_int_bool, isi_str_int, isi_str_str, isi_str_tuple, isi_str_list, isi_str_dict, isi_str_bool, isi_tup_int, isi_tup_str, isi_tup_tuple, isi_tup_list, isi_tup_dict, isi_tup_bool, isi_lv_int, isi_lv_str, isi_lv_tuple, isi_lv_list, isi_lv_dict, isi_lv_bool, isi_dv_int, isi_dv_str, isi_dv_tuple, isi_dv_list, isi_dv_dict, isi_dv_bool, isi_scr_int, isi_scr_str, isi_scr_tuple, isi_scr_list, isi_scr_dict, isi_scr_bool]) (fun i hi => ?_) (by rw [List.length_range]; unfold line; omega)
  have hi' : i < w := List.mem_range.mp hi
  have hc := cell_at (S := S) R hi' (List.getElem_mem hk)
  rw [hr0]
  simp only [turnF, atI_nat', hrk, hc, str1, Option.getD_some, run, ev, evs, evT, evI, fin, Option.bind_some, Option.map_some, startE, List.map_cons, List.map_nil, List.length_cons, List.length_nil, List.cons_append, List.nil_append, List.replicate_succ, List.replicate_zero, Nat.reduceAdd, Nat.reduceSub, Nat.zero_add, List.getElem?_cons_zero, List.getElem?_cons_succ, List.set_cons_zero, List.set_cons_succ, wipeE, bindTg, setAll, retOf, cmpS, eq_ii, eq_ss, lt_ii, lt_ss, mem_s, p_add_i, p_sub_i, b_len_t, b_len_l, b_abs, b_int, b_tuple_l, b_list_t, b_list_l, m_count, i_tup, i_lv, atI_0, atI_1, atI_2, atI_3, atI_4, decide_eq_true_eq, Bool.not_true, Bool.not_false, Bool.false_eq_true, if_true, if_false, ite_true, ite_false, reduceIte, isNon, walkOf, walkS, isi_non_int, isi_non_str, isi_non_tuple, isi_non_list, isi_non_dict, isi_non_bool, isi_bl_int, isi_bl_str, isi_bl_tuple, isi_bl_list, isi_bl_dict, isi_bl_bool, isi_int_int, isi_int_str, isi_int_tuple, isi_int_list, isi_int_dict, isi_int_bool, isi_str_int, isi_str_str, isi_str_tuple, isi_str_list, isi_str_dict, isi_str_bool, isi_tup_int, isi_tup_str, isi_tup_tuple, isi_tup_list, isi_tup_dict, isi_tup_bool, isi_lv_int, isi_lv_str, isi_lv_tuple, isi_lv_list, isi_lv_dict, isi_lv_bool, isi_dv_int, isi_dv_str, isi_dv_tuple, isi_dv_list, isi_dv_dict, isi_dv_bool, isi_scr_int, isi_scr_str, isi_scr_tuple, isi_scr_list, isi_scr_dict, isi_scr_bool]
  split <;> rfl
def backS : D → List Nat
  | .str c => c
  | _ => []
theorem perm_rows {rows : List (List Nat)} {zs : List D} (h : (rows.map D.str).Perm zs) : ∃ rows', zs = rows'.map D.str ∧ rows.Perm rows' := by
  refine ⟨zs.map backS, ?_, ?_⟩
  · have : ∀ l : List D, (∀ z ∈ l, ∃ c, z = D.str c) → l = (l.map backS).map D.str := by
      intro l
      induction l with
      | nil => intro _; rfl
      | cons a l ih =>
        intro hl
        obtain ⟨c, rfl⟩ := hl a List.mem_cons_self
        rw [List.map_cons, List.map_cons, ← ih fun z hz => hl z (List.mem_cons_of_mem _ hz)]
        rfl
    refine this zs fun z hz => ?_
    obtain ⟨c, _, e⟩ := List.mem_map.mp (h.mem_iff.mpr hz)
    exact ⟨c, e.symm⟩
  · have e : (rows.map D.str).map backS = rows := by
      rw [List.map_map]
      exact List.map_id' rows
    have := h.map backS
    rw [e] at this
    exact this
end
end Pd

namespace Pd
open PySem PySem.Spec PyProof.Rows L2
section
variable {n : Nat} {T S : Store} {fu : Nat} {Φ : Calls}
theorem far_enum {m : Nat} {rows : List (List Nat)} (hl : rows.length ≤ 100) (hr : ∀ r ∈ rows, r.length ≤ 1000) (x0 x2 x3 x5 x6 x7 x8 x9 x10 x11 x12 : Option D) :
    ∃ y13 y14 y15, forFix (.tp [13, 14]) (run 1000 (callN 1000 progL m) d_law_is_right_b2) (enumL 0 (rows.map .str)) [x0, some (rowsD rows), x2, x3, some (.int 0), x5, x6, x7, x8, x9, x10, x11, x12, none, none, none, none, none] S =
      some (.nx [x0, some (rowsD rows), x2, x3, some (.int (pr2 rows)), x5, x6, x7, x8, x9, x10, x11, x12, y13, y14, y15, none, none], S) := by
  obtain ⟨y13, y14, y15, h⟩ := right_far (S := S) (m := m) hl hr x0 x2 x3 x5 x6 x7 x8 x9 x10 x11 x12
  exact ⟨y13, y14, y15, h⟩
theorem right_c1 {m : Nat} (hm : 4 ≤ m) {rows rows' : List (List Nat)} {w q : Nat} (R : Rows rows w) (R' : Rows rows' w) (hs : ∀ r ∈ rows'.take (1 + q), r ∈ rows) (x0 x2 x3 x4 x6 x8 x9 x10 x11 x12 x13 x14 x15 x16 x17 : Option D) :
    ev 1000 (callN 1000 progL m) d_law_is_right_c1 [x0, some (rowsD rows), x2, x3, x4, some (.int (q : Nat)), x6, some (rowsD rows'), x8, x9, x10, x11, x12, x13, x14, x15, x16, x17] S = some (.lv ((alks rows w).map fun _ => .bl true), S) := by
  have hm1 := R'.many
  have Rt : Rows (rows'.take (1 + q)) w := ⟨by rw [List.length_take]; omega, fun r hr => R'.wide r (List.mem_of_mem_take hr), R'.w1, fun r hr => R'.ok r (List.mem_of_mem_take hr)⟩
  have k1 := alike_places_ok (S := S) (n := m) hm R
  have k2 := alike_places_ok (S := S) (n := m) hm Rt
  rw [cN] at k1 k2
  have hw1 := R.w1
  have hlen := alks_len rows w
  have ec : cutL (rows'.map D.str) none (some ((1 : Int) + (q : Int))) = (rows'.take (1 + q)).map D.str := by
    rw [show ((1 : Int) + (q : Int)) = ((1 + q : Nat) : Int) from by omega, cutL_to, List.map_take]
  refine lc_map (L := alks rows w) (φ := fun i : Nat => .int (0 + (i : Int))) _ (by simp only [k1, run, ev, evs, evT, evI, fin, Option.bind_some, Option.map_some, startE, List.map_cons, List.map_nil, List.length_cons, List.length_nil, List.cons_append, List.nil_append, List.replicate_succ, List.replicate_zero, Nat.reduceAdd, Nat.reduceSub, Nat.zero_add, List.getElem?_cons_zero, List.getElem?_cons_succ, List.set_cons_zero, List.set_cons_succ, wipeE, bindTg, setAll, retOf, cmpS, eq_ii, eq_ss, lt_ii, lt_ss, mem_s, p_add_i, p_sub_i, b_len_t, b_len_l, b_abs, b_int, b_tuple_l, b_list_t, b_list_l, m_count, i_tup, i_lv, atI_0, atI_1, atI_2, atI_3, atI_4, decide_eq_true_eq, Bool.not_true, Bool.not_false, Bool.false_eq_true, if_true, if_false, ite_true, ite_false, reduceIte, isNon, walkOf, walkS, isi_non_int, isi_non_str, isi_non_tuple, isi_non_list, isi_non_dict, isi_non_bool, isi_bl_int, isi_bl_str, isi_bl_tuple, isi_bl_list, isi_bl_dict, isi_bl_bool, isi_int_int, isi_int_str, isi_int_tuple, isi_int_list, isi_int_dict, isi_int_bool, isi_str_int, isi_str_str, isi_str_tuple, isi_str_list, isi_str_dict, isi_str_bool, isi_tup_int, isi_tup_str, isi_tup_tuple, isi_tup_list, isi_tup_dict, isi_tup_bool, isi_lv_int, isi_lv_str, isi_lv_tuple, isi_lv_list, isi_lv_dict, isi_lv_bool, isi_dv_int, isi_dv_str, isi_dv_tuple, isi_dv_list, isi_dv_dict, isi_dv_bool, isi_scr_int, isi_scr_str, isi_scr_tuple, isi_scr_list, isi_scr_dict, isi_scr_bool]) (fun i hi => ?_) (by unfold line; omega)
  have hmem := alks_sub R Rt hs i hi
  have hmm : memS S (.int (0 + (i : Int))) (.tup (natsOf (alks (rows'.take (1 + q)) w))) = some true := by
    have := mem_nats (S := S) i (alks (rows'.take (1 + q)) w)
    rw [decide_eq_true hmem] at this
    exact this
  simp only [turnF, one?, bound?, slc_tup, ec, k2, hmm, run, ev, evs, evT, evI, fin, Option.bind_some, Option.map_some, startE, List.map_cons, List.map_nil, List.length_cons, List.length_nil, List.cons_append, List.nil_append, List.replicate_succ, List.replicate_zero, Nat.reduceAdd, Nat.reduceSub, Nat.zero_add, List.getElem?_cons_zero, List.getElem?_cons_succ, List.set_cons_zero, List.set_cons_succ, wipeE, bindTg, setAll, retOf, cmpS, eq_ii, eq_ss, lt_ii, lt_ss, mem_s, p_add_i, p_sub_i, b_len_t, b_len_l, b_abs, b_int, b_tuple_l, b_list_t, b_list_l, m_count, i_tup, i_lv, atI_0, atI_1, atI_2, atI_3, atI_4, decide_eq_true_eq, Bool.not_true, Bool.not_false, Bool.false_eq_true, if_true, if_false, ite_true, ite_false, reduceIte, isNon, walkOf, walkS, isi_non_int, isi_non_str, isi_non_tuple, isi_non_list, isi_non_dict, isi_non_bool, isi_bl_int, isi_bl_str, isi_bl_tuple, isi_bl_list, isi_bl_dict, isi_bl_bool, isi_int_int, isi_int_str, isi_int_tuple, isi_int_list, isi_int_dict, isi_int_bool, isi_str_int, isi_str_str, isi_str_tuple, isi_str_list, isi_str_dict, isi_str_bool, isi_tup_int, isi_tup_str, isi_tup_tuple, isi_tup_list, isi_tup_dict, isi_tup_bool, isi_lv_int, isi_lv_str, isi_lv_tuple, isi_lv_list, isi_lv_dict, isi_lv_bool, isi_dv_int, isi_dv_str, isi_dv_tuple, isi_dv_list, isi_dv_dict, isi_dv_bool, isi_scr_int, isi_scr_str, isi_scr_tuple, isi_scr_list, isi_scr_dict, isi_scr_bool]
end
end Pd

namespace Pd
open PySem PySem.Spec PyProof.Rows L2
section
variable {n : Nat} {T S : Store} {fu : Nat} {Φ : Calls}
theorem eqvAll_nats : ∀ l : List Nat, PyData.eqvAll (pys (natsOf l)) (pys (natsOf l)) = true
  | [] => rfl
  | a :: l => by
    show (PyData.eqv (.int (0 + (a : Int))) (.int (0 + (a : Int))) && PyData.eqvAll (pys (natsOf l)) (pys (natsOf l))) = true
    rw [eqvAll_nats l]
    simp [PyData.eqv]
theorem eq_nats (l : List Nat) : eqS S (.tup (natsOf l)) (.tup (natsOf l)) = some true := by
  have hall : okd 12 (.tup (natsOf l)) = true := by
    show (natsOf l).all (okd 11) = true
    rw [List.all_eq_true]
    intro x hx
    obtain ⟨i, _, rfl⟩ := List.mem_map.mp hx
    rfl
  unfold eqS
  simp only [top, hall, Bool.and_self, if_true]
  show some (PyData.eqvAll (pys (natsOf l)) (pys (natsOf l))) = _
  rw [eqvAll_nats]
theorem is_right_ok (hn : 8 ≤ n) {h : Hand} (hh : HandOk h) (T : Store) : ∃ h' T', HandOk h' ∧ cN n "_law_is_right" [.ref 0] (handD h :: T) = some (.bl true, handD h' :: (T ++ T')) := by
  obtain ⟨m, rfl, hm⟩ := pos_n hn
  obtain ⟨rows, w, h1, T1, R, hh1, e1⟩ := rows_ok (n := m) (by omega) hh T
  have hm1 := R.many
  have hw1 := R.w1
  obtain ⟨r0, h0, hr0⟩ := R.first
  have hix : (rows.map D.str)[0]? = some (.str r0) := by rw [List.getElem?_map, h0]; rfl
  have hl0 : r0.length ≤ line := by unfold line; omega
  obtain ⟨y2, y10, y11, y12, l1⟩ := right_loop1 (S := handD h1 :: (T ++ T1)) (m := m) (by omega) R (some (.ref 0)) none none none none none (some (.int (w : Nat)))
  have hr : rangeS [.int (w : Nat)] = some (natsOf (List.range w)) := by rw [range_1 (by omega), Int.toNat_natCast]; rfl
  have a1 := most_at_ok (S := handD h1 :: (T ++ T1)) (n := m) (by omega) R
  have a2 := is_s (S := handD h1 :: (T ++ T1)) (n := m) (by omega) (mosts rows w)
  have a3 := alike_places_ok (S := handD h1 :: (T ++ T1)) (n := m) (by omega) R
  have a4 := law_alike_ok (S := handD h1 :: (T ++ T1)) (n := m) (by omega) R
  have a5 := is_ok (S := handD h1 :: (T ++ T1)) 2 m (by omega) _ (isD_nats (alks rows w) (by have := alks_len rows w; omega))
  obtain ⟨d, h2, hd, hh2, b1⟩ := some_ok (n := m) (by omega) hh1 (xs := [.int 2, .int 12]) (by simp) (by decide) (T ++ T1)
  obtain ⟨k, rfl, hk0, hk1⟩ : ∃ k : Int, d = .int k ∧ 0 < k ∧ k ≤ 12 := by
    simp only [List.mem_cons, List.not_mem_nil, or_false] at hd
    rcases hd with rfl | rfl
    · exact ⟨2, rfl, by decide, by decide⟩
    · exact ⟨12, rfl, by decide, by decide⟩
  obtain ⟨v, h3, hh3, v0, v1, b2⟩ := draw_ok (n := m) (by omega) hh2 (k := k) (by omega) (T ++ T1)
  obtain ⟨j, rfl⟩ : ∃ j : Nat, v = j := ⟨v.toNat, by omega⟩
  have ej : (1 : Int) + (j : Int) = ((j + 1 : Nat) : Int) := by omega
  obtain ⟨T2, c1⟩ := stretches_alike_ok (S := handD h3 :: (T ++ T1)) (n := m) (by omega) R (size := j + 1) (by omega)
  obtain ⟨T3, c2, c3⟩ := law_stretches_ok (n := m) (by omega) R (size := j + 1) (handD h3 :: (T ++ T1) ++ T2)
  have c4 := is_ok (S := handD h3 :: (T ++ T1) ++ T2 ++ T3) 3 m (by omega) _ (isD_pairs ((strch rows w).filter (longP (j + 1))) (by have := List.length_filter_le (longP (j + 1)) (strch rows w); have := strch_len rows w; omega))
  obtain ⟨y13, y14, y15, f1⟩ := far_enum (S := handD h3 :: (T ++ T1) ++ T2 ++ T3) (m := m) (rows := rows) (by omega) (fun r hr => by rw [R.wide r hr]; omega) (some (.ref 0)) y2 (some (.int ((j + 1 : Nat) : Int))) none none none (some (.int (w : Nat))) (some (.str (mosts rows w))) y10 y11 y12
  obtain ⟨u, h4, hh4, u0, u1, g1⟩ := draw_ok (n := m) (by omega) hh3 (k := ((rows.map D.str).length : Nat)) (by rw [List.length_map]; omega) (T ++ T1 ++ T2 ++ T3)
  obtain ⟨q, rfl⟩ : ∃ q : Nat, u = q := ⟨u.toNat, by omega⟩
  have hq : q < rows.length := by rw [List.length_map] at u1; omega
  have g2 := far_sum_ok (S := handD h4 :: (T ++ T1 ++ T2 ++ T3)) (n := m) (by omega) R
  have g3 := is_i (S := handD h4 :: (T ++ T1 ++ T2 ++ T3)) (n := m) (by omega) (farS rows w)
  have g4 := right_c2 (S := handD h4 :: (T ++ T1 ++ T2 ++ T3)) (m := m) R hq (some (.ref 0)) y2 (some (.int ((j + 1 : Nat) : Int))) (some (.int (farS rows w))) none none (some (.str (mosts rows w))) y10 y11 y12 y13 y14 y15 none none
  have g5 := gap_places_ok (S := handD h4 :: (T ++ T1 ++ T2 ++ T3)) (n := m) (by omega) R hq
  have g6 := is_ok (S := handD h4 :: (T ++ T1 ++ T2 ++ T3)) 2 m (by omega) _ (isD_nats (gaps rows w q) (by have := gaps_len rows w q; omega))
  obtain ⟨zs, h5, T5, hp, hh5, i1, i2⟩ := mixed_ok (n := m) (by omega) hh4 (T ++ T1 ++ T2 ++ T3) (xs := rows.map .str) (by rw [List.length_map]; omega)
  obtain ⟨rows', rfl, hp'⟩ := perm_rows hp
  have R' := rows_perm hp' R
  have j1 := most_at_ok (S := handD h5 :: (T ++ T1 ++ T2 ++ T3 ++ T5)) (n := m) (by omega) R'
  have j2 := far_sum_ok (S := handD h5 :: (T ++ T1 ++ T2 ++ T3 ++ T5)) (n := m) (by omega) R'
  have j3 := alike_places_ok (S := handD h5 :: (T ++ T1 ++ T2 ++ T3 ++ T5)) (n := m) (by omega) R'
  have j4 := alike_places_ok (S := handD h5 :: (T ++ T1 ++ T2 ++ T3 ++ T5)) (n := m) (by omega) R
  rw [← mosts_perm R hp'] at j1
  rw [← farS_perm hp'] at j2
  rw [← alks_perm R hp'] at j3
  have ef : pr2 rows = farS rows w := pr2_far rows R.wide
  rw [ef] at f1
  have k1 := right_c1 (S := handD h5 :: (T ++ T1 ++ T2 ++ T3 ++ T5)) (m := m) (by omega) R R' (q := q) (fun r hr => hp'.mem_iff.mpr (List.mem_of_mem_take hr)) (some (.ref 0)) y2 (some (.int ((j + 1 : Nat) : Int))) (some (.int (farS rows w))) (some (.lv (natsOf (gaps rows w q)))) (some (.int (w : Nat))) (some (.str (mosts rows w))) y10 y11 y12 y13 y14 y15 none none
  refine ⟨h5, T1 ++ T2 ++ T3 ++ T5, hh5, ?_⟩
  rw [cN, callN_at fi_law_is_right rfl]
  have z2 : (2 ≤ line) = True := le_line (by omega)
  have z0 : (0 ≤ line) = True := le_line (by omega)
  have tt := b_tuple_ref c3
  have tt2 := b_tuple_ref i2
  rw [cN] at e1 a1 a2 a3 a4 a5 b1 b2 c1 c2 c4 g1 g2 g3 g5 g6 i1 j1 j2 j3 j4
  have en := eq_nats (S := handD h5 :: (T ++ T1 ++ T2 ++ T3 ++ T5)) (alks rows w)
  simp only [List.cons_append, List.length_cons] at c1 c2 c4 f1 tt
  rw [show T ++ (T1 ++ T2 ++ T3 ++ T5) = T ++ T1 ++ T2 ++ T3 ++ T5 from by simp only [List.append_assoc]]
  simp only [d_law_is_right, e1, hix, b_len_s hl0, hr0, hr, l1, a1, a2, a3, a4, a5, b1, b2, ej, c1, c2, c4, tt, f1, g1, g2, g3, g4, g5, g6, i1, tt2, j1, j2, j3, j4, en, k1, z2, z0, all_true, decide_true, run, ev, evs, evT, evI, fin, Option.bind_some, Option.map_some, startE, List.map_cons, List.map_nil, List.length_cons, List.length_nil, List.cons_append, List.nil_append, List.replicate_succ, List.replicate_zero, Nat.reduceAdd, Nat.reduceSub, Nat.zero_add, List.getElem?_cons_zero, List.getElem?_cons_succ, List.set_cons_zero, List.set_cons_succ, wipeE, bindTg, setAll, retOf, cmpS, eq_ii, eq_ss, lt_ii, lt_ss, mem_s, p_add_i, p_sub_i, b_len_t, b_len_l, b_abs, b_int, b_tuple_l, b_list_t, b_list_l, m_count, i_tup, i_lv, atI_0, atI_1, atI_2, atI_3, atI_4, decide_eq_true_eq, Bool.not_true, Bool.not_false, Bool.false_eq_true, if_true, if_false, ite_true, ite_false, reduceIte, isNon, walkOf, walkS, isi_non_int, isi_non_str, isi_non_tuple, isi_non_list, isi_non_dict, isi_non_bool, isi_bl_int, isi_bl_str, isi_bl_tuple, isi_bl_list, isi_bl_dict, isi_bl_bool, isi_int_int, isi_int_str, isi_int_tuple, isi_int_list, isi_int_dict, isi_int_bool, isi_str_int, isi_str_str, isi_str_tuple, isi_str_list, isi_str_dict, isi_str_bool, isi_tup_int, isi_tup_str, isi_tup_tuple, isi_tup_list, isi_tup_dict, isi_tup_bool, isi_lv_int, isi_lv_str, isi_lv_tuple, isi_lv_list, isi_lv_dict, isi_lv_bool, isi_dv_int, isi_dv_str, isi_dv_tuple, isi_dv_list, isi_dv_dict, isi_dv_bool, isi_scr_int, isi_scr_str, isi_scr_tuple, isi_scr_list, isi_scr_dict, isi_scr_bool]
end
end Pd

namespace Pd
open PySem PySem.Spec PyProof.Rows L2
section
variable {n : Nat} {T S : Store} {fu : Nat} {Φ : Calls}
def known : List (List Nat) := [[97, 98, 45, 99], [97, 98, 45, 100], [97, 97, 45, 100]]
def kn2 : List (List Nat) := [[97, 98, 120, 97], [97, 98, 121, 97]]
theorem known_rows : Rows known 4 := ⟨by decide, by decide, by decide, by unfold sgn known; decide⟩
theorem kn2_rows : Rows kn2 4 := ⟨by decide, by decide, by decide, by unfold sgn kn2; decide⟩
theorem kv1 : colr known 1 = [98, 98, 97] := by decide
theorem kv2 : mosts known 4 = [97, 98, 45, 100] := by decide
theorem kv3 : alks known 4 = [0] := by decide
theorem kv4 : farS known 4 = 4 := by decide
theorem kv5 : (strch kn2 4).filter (longP 1) = [(0, 2), (3, 4)] := by decide
theorem kv6 : (strch kn2 4).filter (longP 2) = [(0, 2)] := by decide
theorem kv7 : gaps known 4 0 = [2] := by decide
theorem law_c1 {m : Nat} (hm : 8 ≤ m) {h : Hand} (hh : HandOk h) (T : Store) (x0 x2 : Option D) : ∃ S', ev 1000 (callN 1000 progL m) d_law_c1 [x0, some (.ref 0), x2, none] (handD h :: T) = some (.lv ((List.range 6).map fun _ => .bl true), S') := by
  obtain ⟨ys, S', e, l, q, h', T', hh', rfl⟩ := runFix_ex (f := turnF (.nm 3) [3] (evT 1000 (callN 1000 progL m) .nil) (ev 1000 (callN 1000 progL m) (.call "_law_is_right" (.cons (.var 1) .nil))) [x0, some (.ref 0), x2, none])
    (φ := fun i : Nat => D.int (0 + (i : Int))) (fun S => ∃ h' T', HandOk h' ∧ S = handD h' :: T') (fun y => y = D.bl true) (List.range 6) (handD h :: T) ⟨h, T, hh, rfl⟩ (fun b hb S ⟨h1, T1, hh1, e⟩ => by
      subst e
      obtain ⟨h2, T2, hh2, e2⟩ := is_right_ok (n := m) hm hh1 T1
      refine ⟨.bl true, handD h2 :: (T1 ++ T2), ?_, rfl, h2, _, hh2, rfl⟩
      rw [cN] at e2
      simp only [turnF, e2, run, ev, evs, evT, evI, fin, Option.bind_some, Option.map_some, startE, List.map_cons, List.map_nil, List.length_cons, List.length_nil, List.cons_append, List.nil_append, List.replicate_succ, List.replicate_zero, Nat.reduceAdd, Nat.reduceSub, Nat.zero_add, List.getElem?_cons_zero, List.getElem?_cons_succ, List.set_cons_zero, List.set_cons_succ, wipeE, bindTg, setAll, retOf, cmpS, eq_ii, eq_ss, lt_ii, lt_ss, mem_s, p_add_i, p_sub_i, b_len_t, b_len_l, b_abs, b_int, b_tuple_l, b_list_t, b_list_l, m_count, i_tup, i_lv, atI_0, atI_1, atI_2, atI_3, atI_4, decide_eq_true_eq, Bool.not_true, Bool.not_false, Bool.false_eq_true, if_true, if_false, ite_true, ite_false, reduceIte, isNon, walkOf, walkS, isi_non_int, isi_non_str, isi_non_tuple, isi_non_list, isi_non_dict, isi_non_bool, isi_bl_int, isi_bl_str, isi_bl_tuple, isi_bl_list, isi_bl_dict, isi_bl_bool, isi_int_int, isi_int_str, isi_int_tuple, isi_int_list, isi_int_dict, isi_int_bool, isi_str_int, isi_str_str, isi_str_tuple, isi_str_list, isi_str_dict, isi_str_bool, isi_tup_int, isi_tup_str, isi_tup_tuple, isi_tup_list, isi_tup_dict, isi_tup_bool, isi_lv_int, isi_lv_str, isi_lv_tuple, isi_lv_list, isi_lv_dict, isi_lv_bool, isi_dv_int, isi_dv_str, isi_dv_tuple, isi_dv_list, isi_dv_dict, isi_dv_bool, isi_scr_int, isi_scr_str, isi_scr_tuple, isi_scr_list, isi_scr_dict, isi_scr_bool])
  have hys : ys = (List.range 6).map fun _ => D.bl true := by
    apply List.ext_getElem
    · rw [l, List.length_map]
    · intro i h1 h2
      rw [List.getElem_map]
      exact q _ (List.getElem_mem h1)
  subst hys
  have hr : rangeS [.int 6] = some (intL 0 6) := range_1 (j := 6) (by decide)
  exact ⟨_, lc_fix (k := false) (xs := intL 0 6) (by simp only [hr, run, ev, evs, evT, evI, fin, Option.bind_some, Option.map_some, startE, List.map_cons, List.map_nil, List.length_cons, List.length_nil, List.cons_append, List.nil_append, List.replicate_succ, List.replicate_zero, Nat.reduceAdd, Nat.reduceSub, Nat.zero_add, List.getElem?_cons_zero, List.getElem?_cons_succ, List.set_cons_zero, List.set_cons_succ, wipeE, bindTg, setAll, retOf, cmpS, eq_ii, eq_ss, lt_ii, lt_ss, mem_s, p_add_i, p_sub_i, b_len_t, b_len_l, b_abs, b_int, b_tuple_l, b_list_t, b_list_l, m_count, i_tup, i_lv, atI_0, atI_1, atI_2, atI_3, atI_4, decide_eq_true_eq, Bool.not_true, Bool.not_false, Bool.false_eq_true, if_true, if_false, ite_true, ite_false, reduceIte, isNon, walkOf, walkS, isi_non_int, isi_non_str, isi_non_tuple, isi_non_list, isi_non_dict, isi_non_bool, isi_bl_int, isi_bl_str, isi_bl_tuple, isi_bl_list, isi_bl_dict, isi_bl_bool, isi_int_int, isi_int_str, isi_int_tuple, isi_int_list, isi_int_dict, isi_int_bool, isi_str_int, isi_str_str, isi_str_tuple, isi_str_list, isi_str_dict, isi_str_bool, isi_tup_int, isi_tup_str, isi_tup_tuple, isi_tup_list, isi_tup_dict, isi_tup_bool, isi_lv_int, isi_lv_str, isi_lv_tuple, isi_lv_list, isi_lv_dict, isi_lv_bool, isi_dv_int, isi_dv_str, isi_dv_tuple, isi_dv_list, isi_dv_dict, isi_dv_bool, isi_scr_int, isi_scr_str, isi_scr_tuple, isi_scr_list, isi_scr_dict, isi_scr_bool]) e (by rw [l]; decide)⟩
end
end Pd

namespace Pd
open PySem PySem.Spec PyProof.Rows L2
theorem eq_pairs2 {S : Store} : eqS S (.tup [pairD (0, 2), pairD (3, 4)]) (.tup [.tup [.int 0, .int 2], .tup [.int 3, .int 4]]) = some true := by rfl
theorem eq_pairs1 {S : Store} : eqS S (.tup [pairD (0, 2)]) (.tup [.tup [.int 0, .int 2]]) = some true := by rfl
theorem eq_one {S : Store} (a : Nat) : eqS S (.tup [.int (0 + (a : Int))]) (.tup [.int (a : Nat)]) = some true := by
  have := eq_nats (S := S) [a]
  simp only [natsOf, List.map_cons, List.map_nil] at this
  have e : (0 : Int) + (a : Int) = (a : Int) := by omega
  rw [e] at this ⊢
  exact this
theorem lawT : LawT progL 1000 30 63 := by
  intro ns hl
  obtain ⟨h, hh, e1⟩ := hand_ok (n := 29) (by decide) ns hl
  have k1 : cN 29 "column" [rowsD known, .int 1] [handD h] = _ := column_ok (n := 29) (S := [handD h]) (by decide) known_rows (p := 1) (by decide)
  have k2 := most_at_ok (n := 29) (S := [handD h]) (by decide) known_rows
  have k3 := alike_places_ok (n := 29) (S := [handD h]) (by decide) known_rows
  have k4 := far_sum_ok (n := 29) (S := [handD h]) (by decide) known_rows
  obtain ⟨T1, k5⟩ : ∃ T1, cN 29 "stretches_alike" [rowsD kn2, .int 1] [handD h] = some (.tup (((strch kn2 4).filter (longP 1)).map pairD), [handD h] ++ T1) := stretches_alike_ok (n := 29) (S := [handD h]) (by decide) kn2_rows (size := 1) (by decide)
  obtain ⟨T2, k6⟩ : ∃ T2, cN 29 "stretches_alike" [rowsD kn2, .int 2] ([handD h] ++ T1) = some (.tup (((strch kn2 4).filter (longP 2)).map pairD), [handD h] ++ T1 ++ T2) := stretches_alike_ok (n := 29) (S := [handD h] ++ T1) (by decide) kn2_rows (size := 2) (by decide)
  have k7 : cN 29 "gap_places" [rowsD known, .int 0] ([handD h] ++ T1 ++ T2) = _ := gap_places_ok (n := 29) (S := [handD h] ++ T1 ++ T2) (by decide) known_rows (k := 0) (by decide)
  rw [kv1] at k1
  rw [kv2] at k2
  rw [kv3] at k3
  rw [kv4] at k4
  rw [kv5] at k5
  rw [kv6] at k6
  rw [kv7] at k7
  obtain ⟨S', k8⟩ := law_c1 (m := 29) (by decide) hh (T1 ++ T2) (some (.scr ns)) (some (rowsD known))
  rw [cN] at e1 k1 k2 k3 k4 k5 k6 k7
  refine ⟨S', ?_⟩
  rw [show (30 : Nat) = 29 + 1 from rfl, callN_at fi_law rfl]
  have h3 : (3 ≤ line) = True := le_line (by omega)
  have h2 : (2 ≤ line) = True := le_line (by omega)
  have h1 : (1 ≤ line) = True := le_line (by omega)
  have en2 := @eq_pairs2
  have en1 := @eq_pairs1
  have eo0 : ∀ S : Store, eqS S (.tup [.int (0 + ((0 : Nat) : Int))]) (.tup [.int 0]) = some true := fun S => eq_one (S := S) 0
  have eo2 : ∀ S : Store, eqS S (.tup [.int (0 + ((2 : Nat) : Int))]) (.tup [.int 2]) = some true := fun S => eq_one (S := S) 2
  simp only [known, kn2, natsOf, rowsD, List.map_cons, List.map_nil, List.cons_append, List.nil_append] at k1 k2 k3 k4 k5 k6 k7 k8 e1 en2 en1
  simp only [d_law, e1, k1, k2, k3, k4, k5, k6, k7, k8, en2, en1, eo0, eo2, h3, h2, h1, all_true, decide_true, run, ev, evs, evT, evI, fin, Option.bind_some, Option.map_some, startE, List.map_cons, List.map_nil, List.length_cons, List.length_nil, List.cons_append, List.nil_append, List.replicate_succ, List.replicate_zero, Nat.reduceAdd, Nat.reduceSub, Nat.zero_add, List.getElem?_cons_zero, List.getElem?_cons_succ, List.set_cons_zero, List.set_cons_succ, wipeE, bindTg, setAll, retOf, cmpS, eq_ii, eq_ss, lt_ii, lt_ss, mem_s, p_add_i, p_sub_i, b_len_t, b_len_l, b_abs, b_int, b_tuple_l, b_list_t, b_list_l, m_count, i_tup, i_lv, atI_0, atI_1, atI_2, atI_3, atI_4, decide_eq_true_eq, Bool.not_true, Bool.not_false, Bool.false_eq_true, if_true, if_false, ite_true, ite_false, reduceIte, isNon, walkOf, walkS, isi_non_int, isi_non_str, isi_non_tuple, isi_non_list, isi_non_dict, isi_non_bool, isi_bl_int, isi_bl_str, isi_bl_tuple, isi_bl_list, isi_bl_dict, isi_bl_bool, isi_int_int, isi_int_str, isi_int_tuple, isi_int_list, isi_int_dict, isi_int_bool, isi_str_int, isi_str_str, isi_str_tuple, isi_str_list, isi_str_dict, isi_str_bool, isi_tup_int, isi_tup_str, isi_tup_tuple, isi_tup_list, isi_tup_dict, isi_tup_bool, isi_lv_int, isi_lv_str, isi_lv_tuple, isi_lv_list, isi_lv_dict, isi_lv_bool, isi_dv_int, isi_dv_str, isi_dv_tuple, isi_dv_list, isi_dv_dict, isi_dv_bool, isi_scr_int, isi_scr_str, isi_scr_tuple, isi_scr_list, isi_scr_dict, isi_scr_bool]
end Pd

namespace Pd
open PySem PySem.Spec PyProof.Rows L2
theorem all_mk {P : Program} {w : World} {K : PySem.W.Frag} {h : Heap} {mg : Str → Option Value} {fa : Addr} {fu n : Nat} (X : K.In h) (Gn : h.Ns mainGlobals mg) (hfa : mg "law" = some (.ref fa))
    {f_is_integer : Addr} {oc_is_integer kV_is_integer dc_is_integer pm_is_integer cd_is_integer ct_is_integer : Value} {od_is_integer an_is_integer : Option Addr} {sl_is_integer : Array (Option Value)}
    {f_is_within : Addr} {oc_is_within kV_is_within dc_is_within pm_is_within cd_is_within ct_is_within : Value} {od_is_within an_is_within : Option Addr} {sl_is_within : Array (Option Value)}
    {f_is_sized : Addr} {oc_is_sized kV_is_sized dc_is_sized pm_is_sized cd_is_sized ct_is_sized : Value} {od_is_sized an_is_sized : Option Addr} {sl_is_sized : Array (Option Value)}
    {f_is_row_of : Addr} {oc_is_row_of kV_is_row_of dc_is_row_of pm_is_row_of cd_is_row_of ct_is_row_of : Value} {od_is_row_of an_is_row_of : Option Addr} {sl_is_row_of : Array (Option Value)}
    {f_are_rows : Addr} {oc_are_rows kV_are_rows dc_are_rows pm_are_rows cd_are_rows ct_are_rows : Value} {od_are_rows an_are_rows : Option Addr} {sl_are_rows : Array (Option Value)}
    {f_check_rows : Addr} {oc_check_rows kV_check_rows dc_check_rows pm_check_rows cd_check_rows ct_check_rows : Value} {od_check_rows an_check_rows : Option Addr} {sl_check_rows : Array (Option Value)}
    {f_check_place : Addr} {oc_check_place kV_check_place dc_check_place pm_check_place cd_check_place ct_check_place : Value} {od_check_place an_check_place : Option Addr} {sl_check_place : Array (Option Value)}
    {f_raw_column : Addr} {oc_raw_column kV_raw_column dc_raw_column pm_raw_column cd_raw_column ct_raw_column : Value} {od_raw_column an_raw_column : Option Addr} {sl_raw_column : Array (Option Value)}
    {f_column : Addr} {oc_column kV_column dc_column pm_column cd_column ct_column : Value} {od_column an_column : Option Addr} {sl_column : Array (Option Value)}
    {f_raw_counts : Addr} {oc_raw_counts kV_raw_counts dc_raw_counts pm_raw_counts cd_raw_counts ct_raw_counts : Value} {od_raw_counts an_raw_counts : Option Addr} {sl_raw_counts : Array (Option Value)}
    {f_counts_at : Addr} {oc_counts_at kV_counts_at dc_counts_at pm_counts_at cd_counts_at ct_counts_at : Value} {od_counts_at an_counts_at : Option Addr} {sl_counts_at : Array (Option Value)}
    {f_every_place : Addr} {oc_every_place kV_every_place dc_every_place pm_every_place cd_every_place ct_every_place : Value} {od_every_place an_every_place : Option Addr} {sl_every_place : Array (Option Value)}
    {f_most_of : Addr} {oc_most_of kV_most_of dc_most_of pm_most_of cd_most_of ct_most_of : Value} {od_most_of an_most_of : Option Addr} {sl_most_of : Array (Option Value)}
    {f_most_at : Addr} {oc_most_at kV_most_at dc_most_at pm_most_at cd_most_at ct_most_at : Value} {od_most_at an_most_at : Option Addr} {sl_most_at : Array (Option Value)}
    {f_is_alike : Addr} {oc_is_alike kV_is_alike dc_is_alike pm_is_alike cd_is_alike ct_is_alike : Value} {od_is_alike an_is_alike : Option Addr} {sl_is_alike : Array (Option Value)}
    {f_raw_alike : Addr} {oc_raw_alike kV_raw_alike dc_raw_alike pm_raw_alike cd_raw_alike ct_raw_alike : Value} {od_raw_alike an_raw_alike : Option Addr} {sl_raw_alike : Array (Option Value)}
    {f_alike_places : Addr} {oc_alike_places kV_alike_places dc_alike_places pm_alike_places cd_alike_places ct_alike_places : Value} {od_alike_places an_alike_places : Option Addr} {sl_alike_places : Array (Option Value)}
    {f_stretches_alike : Addr} {oc_stretches_alike kV_stretches_alike dc_stretches_alike pm_stretches_alike cd_stretches_alike ct_stretches_alike : Value} {od_stretches_alike an_stretches_alike : Option Addr} {sl_stretches_alike : Array (Option Value)}
    {f_far_sum : Addr} {oc_far_sum kV_far_sum dc_far_sum pm_far_sum cd_far_sum ct_far_sum : Value} {od_far_sum an_far_sum : Option Addr} {sl_far_sum : Array (Option Value)}
    {f_gap_places : Addr} {oc_gap_places kV_gap_places dc_gap_places pm_gap_places cd_gap_places ct_gap_places : Value} {od_gap_places an_gap_places : Option Addr} {sl_gap_places : Array (Option Value)}
    {f_law_hand : Addr} {oc_law_hand kV_law_hand dc_law_hand pm_law_hand cd_law_hand ct_law_hand : Value} {od_law_hand an_law_hand : Option Addr} {sl_law_hand : Array (Option Value)}
    {f_law_draw : Addr} {oc_law_draw kV_law_draw dc_law_draw pm_law_draw cd_law_draw ct_law_draw : Value} {od_law_draw an_law_draw : Option Addr} {sl_law_draw : Array (Option Value)}
    {f_law_some : Addr} {oc_law_some kV_law_some dc_law_some pm_law_some cd_law_some ct_law_some : Value} {od_law_some an_law_some : Option Addr} {sl_law_some : Array (Option Value)}
    {f_law_is : Addr} {oc_law_is kV_law_is dc_law_is pm_law_is cd_law_is ct_law_is : Value} {od_law_is an_law_is : Option Addr} {sl_law_is : Array (Option Value)}
    {f_law_mixed : Addr} {oc_law_mixed kV_law_mixed dc_law_mixed pm_law_mixed cd_law_mixed ct_law_mixed : Value} {od_law_mixed an_law_mixed : Option Addr} {sl_law_mixed : Array (Option Value)}
    {f_law_rows : Addr} {oc_law_rows kV_law_rows dc_law_rows pm_law_rows cd_law_rows ct_law_rows : Value} {od_law_rows an_law_rows : Option Addr} {sl_law_rows : Array (Option Value)}
    {f_law_alike : Addr} {oc_law_alike kV_law_alike dc_law_alike pm_law_alike cd_law_alike ct_law_alike : Value} {od_law_alike an_law_alike : Option Addr} {sl_law_alike : Array (Option Value)}
    {f_law_stretches : Addr} {oc_law_stretches kV_law_stretches dc_law_stretches pm_law_stretches cd_law_stretches ct_law_stretches : Value} {od_law_stretches an_law_stretches : Option Addr} {sl_law_stretches : Array (Option Value)}
    {f_law_is_right : Addr} {oc_law_is_right kV_law_is_right dc_law_is_right pm_law_is_right cd_law_is_right ct_law_is_right : Value} {od_law_is_right an_law_is_right : Option Addr} {sl_law_is_right : Array (Option Value)}
    {f_law : Addr} {oc_law kV_law dc_law pm_law cd_law ct_law : Value} {od_law an_law : Option Addr} {sl_law : Array (Option Value)}
    {t_MOST_SIGNS : Tok}
    {t_GAP : Tok}
    {t_MOST_ROWS : Tok}
    {t_LETTERS : Tok}
    (a_is_integer : PySem.W.nsIn K mainGlobals d_is_integer.nm = some (some (.ref f_is_integer))) (l_is_integer : K.lookup f_is_integer = some ⟨oc_is_integer, od_is_integer, .func (PySem.W.fnOf d_is_integer.nm d_is_integer.nm (defArgs (topS 8)) (defBody (topS 8)) (defScope (topS 8)) .none kV_is_integer dc_is_integer pm_is_integer an_is_integer cd_is_integer ct_is_integer), sl_is_integer⟩) (c_is_integer : PySem.W.codeIn K cd_is_integer d_is_integer.nm = true) (k_is_integer : PySem.W.keepIn K (.ref f_is_integer) = true)
    (a_is_within : PySem.W.nsIn K mainGlobals d_is_within.nm = some (some (.ref f_is_within))) (l_is_within : K.lookup f_is_within = some ⟨oc_is_within, od_is_within, .func (PySem.W.fnOf d_is_within.nm d_is_within.nm (defArgs (topS 9)) (defBody (topS 9)) (defScope (topS 9)) .none kV_is_within dc_is_within pm_is_within an_is_within cd_is_within ct_is_within), sl_is_within⟩) (c_is_within : PySem.W.codeIn K cd_is_within d_is_within.nm = true) (k_is_within : PySem.W.keepIn K (.ref f_is_within) = true)
    (a_is_sized : PySem.W.nsIn K mainGlobals d_is_sized.nm = some (some (.ref f_is_sized))) (l_is_sized : K.lookup f_is_sized = some ⟨oc_is_sized, od_is_sized, .func (PySem.W.fnOf d_is_sized.nm d_is_sized.nm (defArgs (topS 10)) (defBody (topS 10)) (defScope (topS 10)) .none kV_is_sized dc_is_sized pm_is_sized an_is_sized cd_is_sized ct_is_sized), sl_is_sized⟩) (c_is_sized : PySem.W.codeIn K cd_is_sized d_is_sized.nm = true) (k_is_sized : PySem.W.keepIn K (.ref f_is_sized) = true)
    (a_is_row_of : PySem.W.nsIn K mainGlobals d_is_row_of.nm = some (some (.ref f_is_row_of))) (l_is_row_of : K.lookup f_is_row_of = some ⟨oc_is_row_of, od_is_row_of, .func (PySem.W.fnOf d_is_row_of.nm d_is_row_of.nm (defArgs (topS 15)) (defBody (topS 15)) (defScope (topS 15)) .none kV_is_row_of dc_is_row_of pm_is_row_of an_is_row_of cd_is_row_of ct_is_row_of), sl_is_row_of⟩) (c_is_row_of : PySem.W.codeIn K cd_is_row_of d_is_row_of.nm = true) (k_is_row_of : PySem.W.keepIn K (.ref f_is_row_of) = true)
    (a_are_rows : PySem.W.nsIn K mainGlobals d_are_rows.nm = some (some (.ref f_are_rows))) (l_are_rows : K.lookup f_are_rows = some ⟨oc_are_rows, od_are_rows, .func (PySem.W.fnOf d_are_rows.nm d_are_rows.nm (defArgs (topS 16)) (defBody (topS 16)) (defScope (topS 16)) .none kV_are_rows dc_are_rows pm_are_rows an_are_rows cd_are_rows ct_are_rows), sl_are_rows⟩) (c_are_rows : PySem.W.codeIn K cd_are_rows d_are_rows.nm = true) (k_are_rows : PySem.W.keepIn K (.ref f_are_rows) = true)
    (a_check_rows : PySem.W.nsIn K mainGlobals d_check_rows.nm = some (some (.ref f_check_rows))) (l_check_rows : K.lookup f_check_rows = some ⟨oc_check_rows, od_check_rows, .func (PySem.W.fnOf d_check_rows.nm d_check_rows.nm (defArgs (topS 17)) (defBody (topS 17)) (defScope (topS 17)) .none kV_check_rows dc_check_rows pm_check_rows an_check_rows cd_check_rows ct_check_rows), sl_check_rows⟩) (c_check_rows : PySem.W.codeIn K cd_check_rows d_check_rows.nm = true) (k_check_rows : PySem.W.keepIn K (.ref f_check_rows) = true)
    (a_check_place : PySem.W.nsIn K mainGlobals d_check_place.nm = some (some (.ref f_check_place))) (l_check_place : K.lookup f_check_place = some ⟨oc_check_place, od_check_place, .func (PySem.W.fnOf d_check_place.nm d_check_place.nm (defArgs (topS 18)) (defBody (topS 18)) (defScope (topS 18)) .none kV_check_place dc_check_place pm_check_place an_check_place cd_check_place ct_check_place), sl_check_place⟩) (c_check_place : PySem.W.codeIn K cd_check_place d_check_place.nm = true) (k_check_place : PySem.W.keepIn K (.ref f_check_place) = true)
    (a_raw_column : PySem.W.nsIn K mainGlobals d_raw_column.nm = some (some (.ref f_raw_column))) (l_raw_column : K.lookup f_raw_column = some ⟨oc_raw_column, od_raw_column, .func (PySem.W.fnOf d_raw_column.nm d_raw_column.nm (defArgs (topS 19)) (defBody (topS 19)) (defScope (topS 19)) .none kV_raw_column dc_raw_column pm_raw_column an_raw_column cd_raw_column ct_raw_column), sl_raw_column⟩) (c_raw_column : PySem.W.codeIn K cd_raw_column d_raw_column.nm = true) (k_raw_column : PySem.W.keepIn K (.ref f_raw_column) = true)
    (a_column : PySem.W.nsIn K mainGlobals d_column.nm = some (some (.ref f_column))) (l_column : K.lookup f_column = some ⟨oc_column, od_column, .func (PySem.W.fnOf d_column.nm d_column.nm (defArgs (topS 20)) (defBody (topS 20)) (defScope (topS 20)) .none kV_column dc_column pm_column an_column cd_column ct_column), sl_column⟩) (c_column : PySem.W.codeIn K cd_column d_column.nm = true) (k_column : PySem.W.keepIn K (.ref f_column) = true)
    (a_raw_counts : PySem.W.nsIn K mainGlobals d_raw_counts.nm = some (some (.ref f_raw_counts))) (l_raw_counts : K.lookup f_raw_counts = some ⟨oc_raw_counts, od_raw_counts, .func (PySem.W.fnOf d_raw_counts.nm d_raw_counts.nm (defArgs (topS 21)) (defBody (topS 21)) (defScope (topS 21)) .none kV_raw_counts dc_raw_counts pm_raw_counts an_raw_counts cd_raw_counts ct_raw_counts), sl_raw_counts⟩) (c_raw_counts : PySem.W.codeIn K cd_raw_counts d_raw_counts.nm = true) (k_raw_counts : PySem.W.keepIn K (.ref f_raw_counts) = true)
    (a_counts_at : PySem.W.nsIn K mainGlobals d_counts_at.nm = some (some (.ref f_counts_at))) (l_counts_at : K.lookup f_counts_at = some ⟨oc_counts_at, od_counts_at, .func (PySem.W.fnOf d_counts_at.nm d_counts_at.nm (defArgs (topS 22)) (defBody (topS 22)) (defScope (topS 22)) .none kV_counts_at dc_counts_at pm_counts_at an_counts_at cd_counts_at ct_counts_at), sl_counts_at⟩) (c_counts_at : PySem.W.codeIn K cd_counts_at d_counts_at.nm = true) (k_counts_at : PySem.W.keepIn K (.ref f_counts_at) = true)
    (a_every_place : PySem.W.nsIn K mainGlobals d_every_place.nm = some (some (.ref f_every_place))) (l_every_place : K.lookup f_every_place = some ⟨oc_every_place, od_every_place, .func (PySem.W.fnOf d_every_place.nm d_every_place.nm (defArgs (topS 23)) (defBody (topS 23)) (defScope (topS 23)) .none kV_every_place dc_every_place pm_every_place an_every_place cd_every_place ct_every_place), sl_every_place⟩) (c_every_place : PySem.W.codeIn K cd_every_place d_every_place.nm = true) (k_every_place : PySem.W.keepIn K (.ref f_every_place) = true)
    (a_most_of : PySem.W.nsIn K mainGlobals d_most_of.nm = some (some (.ref f_most_of))) (l_most_of : K.lookup f_most_of = some ⟨oc_most_of, od_most_of, .func (PySem.W.fnOf d_most_of.nm d_most_of.nm (defArgs (topS 24)) (defBody (topS 24)) (defScope (topS 24)) .none kV_most_of dc_most_of pm_most_of an_most_of cd_most_of ct_most_of), sl_most_of⟩) (c_most_of : PySem.W.codeIn K cd_most_of d_most_of.nm = true) (k_most_of : PySem.W.keepIn K (.ref f_most_of) = true)
    (a_most_at : PySem.W.nsIn K mainGlobals d_most_at.nm = some (some (.ref f_most_at))) (l_most_at : K.lookup f_most_at = some ⟨oc_most_at, od_most_at, .func (PySem.W.fnOf d_most_at.nm d_most_at.nm (defArgs (topS 25)) (defBody (topS 25)) (defScope (topS 25)) .none kV_most_at dc_most_at pm_most_at an_most_at cd_most_at ct_most_at), sl_most_at⟩) (c_most_at : PySem.W.codeIn K cd_most_at d_most_at.nm = true) (k_most_at : PySem.W.keepIn K (.ref f_most_at) = true)
    (a_is_alike : PySem.W.nsIn K mainGlobals d_is_alike.nm = some (some (.ref f_is_alike))) (l_is_alike : K.lookup f_is_alike = some ⟨oc_is_alike, od_is_alike, .func (PySem.W.fnOf d_is_alike.nm d_is_alike.nm (defArgs (topS 26)) (defBody (topS 26)) (defScope (topS 26)) .none kV_is_alike dc_is_alike pm_is_alike an_is_alike cd_is_alike ct_is_alike), sl_is_alike⟩) (c_is_alike : PySem.W.codeIn K cd_is_alike d_is_alike.nm = true) (k_is_alike : PySem.W.keepIn K (.ref f_is_alike) = true)
    (a_raw_alike : PySem.W.nsIn K mainGlobals d_raw_alike.nm = some (some (.ref f_raw_alike))) (l_raw_alike : K.lookup f_raw_alike = some ⟨oc_raw_alike, od_raw_alike, .func (PySem.W.fnOf d_raw_alike.nm d_raw_alike.nm (defArgs (topS 27)) (defBody (topS 27)) (defScope (topS 27)) .none kV_raw_alike dc_raw_alike pm_raw_alike an_raw_alike cd_raw_alike ct_raw_alike), sl_raw_alike⟩) (c_raw_alike : PySem.W.codeIn K cd_raw_alike d_raw_alike.nm = true) (k_raw_alike : PySem.W.keepIn K (.ref f_raw_alike) = true)
    (a_alike_places : PySem.W.nsIn K mainGlobals d_alike_places.nm = some (some (.ref f_alike_places))) (l_alike_places : K.lookup f_alike_places = some ⟨oc_alike_places, od_alike_places, .func (PySem.W.fnOf d_alike_places.nm d_alike_places.nm (defArgs (topS 28)) (defBody (topS 28)) (defScope (topS 28)) .none kV_alike_places dc_alike_places pm_alike_places an_alike_places cd_alike_places ct_alike_places), sl_alike_places⟩) (c_alike_places : PySem.W.codeIn K cd_alike_places d_alike_places.nm = true) (k_alike_places : PySem.W.keepIn K (.ref f_alike_places) = true)
    (a_stretches_alike : PySem.W.nsIn K mainGlobals d_stretches_alike.nm = some (some (.ref f_stretches_alike))) (l_stretches_alike : K.lookup f_stretches_alike = some ⟨oc_stretches_alike, od_stretches_alike, .func (PySem.W.fnOf d_stretches_alike.nm d_stretches_alike.nm (defArgs (topS 29)) (defBody (topS 29)) (defScope (topS 29)) .none kV_stretches_alike dc_stretches_alike pm_stretches_alike an_stretches_alike cd_stretches_alike ct_stretches_alike), sl_stretches_alike⟩) (c_stretches_alike : PySem.W.codeIn K cd_stretches_alike d_stretches_alike.nm = true) (k_stretches_alike : PySem.W.keepIn K (.ref f_stretches_alike) = true)
    (a_far_sum : PySem.W.nsIn K mainGlobals d_far_sum.nm = some (some (.ref f_far_sum))) (l_far_sum : K.lookup f_far_sum = some ⟨oc_far_sum, od_far_sum, .func (PySem.W.fnOf d_far_sum.nm d_far_sum.nm (defArgs (topS 30)) (defBody (topS 30)) (defScope (topS 30)) .none kV_far_sum dc_far_sum pm_far_sum an_far_sum cd_far_sum ct_far_sum), sl_far_sum⟩) (c_far_sum : PySem.W.codeIn K cd_far_sum d_far_sum.nm = true) (k_far_sum : PySem.W.keepIn K (.ref f_far_sum) = true)
    (a_gap_places : PySem.W.nsIn K mainGlobals d_gap_places.nm = some (some (.ref f_gap_places))) (l_gap_places : K.lookup f_gap_places = some ⟨oc_gap_places, od_gap_places, .func (PySem.W.fnOf d_gap_places.nm d_gap_places.nm (defArgs (topS 31)) (defBody (topS 31)) (defScope (topS 31)) .none kV_gap_places dc_gap_places pm_gap_places an_gap_places cd_gap_places ct_gap_places), sl_gap_places⟩) (c_gap_places : PySem.W.codeIn K cd_gap_places d_gap_places.nm = true) (k_gap_places : PySem.W.keepIn K (.ref f_gap_places) = true)
    (a_law_hand : PySem.W.nsIn K mainGlobals d_law_hand.nm = some (some (.ref f_law_hand))) (l_law_hand : K.lookup f_law_hand = some ⟨oc_law_hand, od_law_hand, .func (PySem.W.fnOf d_law_hand.nm d_law_hand.nm (defArgs (topS 33)) (defBody (topS 33)) (defScope (topS 33)) .none kV_law_hand dc_law_hand pm_law_hand an_law_hand cd_law_hand ct_law_hand), sl_law_hand⟩) (c_law_hand : PySem.W.codeIn K cd_law_hand d_law_hand.nm = true) (k_law_hand : PySem.W.keepIn K (.ref f_law_hand) = true)
    (a_law_draw : PySem.W.nsIn K mainGlobals d_law_draw.nm = some (some (.ref f_law_draw))) (l_law_draw : K.lookup f_law_draw = some ⟨oc_law_draw, od_law_draw, .func (PySem.W.fnOf d_law_draw.nm d_law_draw.nm (defArgs (topS 34)) (defBody (topS 34)) (defScope (topS 34)) .none kV_law_draw dc_law_draw pm_law_draw an_law_draw cd_law_draw ct_law_draw), sl_law_draw⟩) (c_law_draw : PySem.W.codeIn K cd_law_draw d_law_draw.nm = true) (k_law_draw : PySem.W.keepIn K (.ref f_law_draw) = true)
    (a_law_some : PySem.W.nsIn K mainGlobals d_law_some.nm = some (some (.ref f_law_some))) (l_law_some : K.lookup f_law_some = some ⟨oc_law_some, od_law_some, .func (PySem.W.fnOf d_law_some.nm d_law_some.nm (defArgs (topS 35)) (defBody (topS 35)) (defScope (topS 35)) .none kV_law_some dc_law_some pm_law_some an_law_some cd_law_some ct_law_some), sl_law_some⟩) (c_law_some : PySem.W.codeIn K cd_law_some d_law_some.nm = true) (k_law_some : PySem.W.keepIn K (.ref f_law_some) = true)
    (a_law_is : PySem.W.nsIn K mainGlobals d_law_is.nm = some (some (.ref f_law_is))) (l_law_is : K.lookup f_law_is = some ⟨oc_law_is, od_law_is, .func (PySem.W.fnOf d_law_is.nm d_law_is.nm (defArgs (topS 36)) (defBody (topS 36)) (defScope (topS 36)) .none kV_law_is dc_law_is pm_law_is an_law_is cd_law_is ct_law_is), sl_law_is⟩) (c_law_is : PySem.W.codeIn K cd_law_is d_law_is.nm = true) (k_law_is : PySem.W.keepIn K (.ref f_law_is) = true)
    (a_law_mixed : PySem.W.nsIn K mainGlobals d_law_mixed.nm = some (some (.ref f_law_mixed))) (l_law_mixed : K.lookup f_law_mixed = some ⟨oc_law_mixed, od_law_mixed, .func (PySem.W.fnOf d_law_mixed.nm d_law_mixed.nm (defArgs (topS 37)) (defBody (topS 37)) (defScope (topS 37)) .none kV_law_mixed dc_law_mixed pm_law_mixed an_law_mixed cd_law_mixed ct_law_mixed), sl_law_mixed⟩) (c_law_mixed : PySem.W.codeIn K cd_law_mixed d_law_mixed.nm = true) (k_law_mixed : PySem.W.keepIn K (.ref f_law_mixed) = true)
    (a_law_rows : PySem.W.nsIn K mainGlobals d_law_rows.nm = some (some (.ref f_law_rows))) (l_law_rows : K.lookup f_law_rows = some ⟨oc_law_rows, od_law_rows, .func (PySem.W.fnOf d_law_rows.nm d_law_rows.nm (defArgs (topS 38)) (defBody (topS 38)) (defScope (topS 38)) .none kV_law_rows dc_law_rows pm_law_rows an_law_rows cd_law_rows ct_law_rows), sl_law_rows⟩) (c_law_rows : PySem.W.codeIn K cd_law_rows d_law_rows.nm = true) (k_law_rows : PySem.W.keepIn K (.ref f_law_rows) = true)
    (a_law_alike : PySem.W.nsIn K mainGlobals d_law_alike.nm = some (some (.ref f_law_alike))) (l_law_alike : K.lookup f_law_alike = some ⟨oc_law_alike, od_law_alike, .func (PySem.W.fnOf d_law_alike.nm d_law_alike.nm (defArgs (topS 39)) (defBody (topS 39)) (defScope (topS 39)) .none kV_law_alike dc_law_alike pm_law_alike an_law_alike cd_law_alike ct_law_alike), sl_law_alike⟩) (c_law_alike : PySem.W.codeIn K cd_law_alike d_law_alike.nm = true) (k_law_alike : PySem.W.keepIn K (.ref f_law_alike) = true)
    (a_law_stretches : PySem.W.nsIn K mainGlobals d_law_stretches.nm = some (some (.ref f_law_stretches))) (l_law_stretches : K.lookup f_law_stretches = some ⟨oc_law_stretches, od_law_stretches, .func (PySem.W.fnOf d_law_stretches.nm d_law_stretches.nm (defArgs (topS 40)) (defBody (topS 40)) (defScope (topS 40)) .none kV_law_stretches dc_law_stretches pm_law_stretches an_law_stretches cd_law_stretches ct_law_stretches), sl_law_stretches⟩) (c_law_stretches : PySem.W.codeIn K cd_law_stretches d_law_stretches.nm = true) (k_law_stretches : PySem.W.keepIn K (.ref f_law_stretches) = true)
    (a_law_is_right : PySem.W.nsIn K mainGlobals d_law_is_right.nm = some (some (.ref f_law_is_right))) (l_law_is_right : K.lookup f_law_is_right = some ⟨oc_law_is_right, od_law_is_right, .func (PySem.W.fnOf d_law_is_right.nm d_law_is_right.nm (defArgs (topS 41)) (defBody (topS 41)) (defScope (topS 41)) .none kV_law_is_right dc_law_is_right pm_law_is_right an_law_is_right cd_law_is_right ct_law_is_right), sl_law_is_right⟩) (c_law_is_right : PySem.W.codeIn K cd_law_is_right d_law_is_right.nm = true) (k_law_is_right : PySem.W.keepIn K (.ref f_law_is_right) = true)
    (a_law : PySem.W.nsIn K mainGlobals d_law.nm = some (some (.ref f_law))) (l_law : K.lookup f_law = some ⟨oc_law, od_law, .func (PySem.W.fnOf d_law.nm d_law.nm (defArgs (topS 42)) (defBody (topS 42)) (defScope (topS 42)) .none kV_law dc_law pm_law an_law cd_law ct_law), sl_law⟩) (c_law : PySem.W.codeIn K cd_law d_law.nm = true) (k_law : PySem.W.keepIn K (.ref f_law) = true)
    (z_len : PySem.W.nsIn K mainGlobals "len" = some none)
    (z_abs : PySem.W.nsIn K mainGlobals "abs" = some none)
    (z_int : PySem.W.nsIn K mainGlobals "int" = some none)
    (z_list : PySem.W.nsIn K mainGlobals "list" = some none)
    (z_tuple : PySem.W.nsIn K mainGlobals "tuple" = some none)
    (z_dict : PySem.W.nsIn K mainGlobals "dict" = some none)
    (z_sum : PySem.W.nsIn K mainGlobals "sum" = some none)
    (z_min : PySem.W.nsIn K mainGlobals "min" = some none)
    (z_max : PySem.W.nsIn K mainGlobals "max" = some none)
    (z_all : PySem.W.nsIn K mainGlobals "all" = some none)
    (z_any : PySem.W.nsIn K mainGlobals "any" = some none)
    (z_sorted : PySem.W.nsIn K mainGlobals "sorted" = some none)
    (z_range : PySem.W.nsIn K mainGlobals "range" = some none)
    (z_isinstance : PySem.W.nsIn K mainGlobals "isinstance" = some none)
    (z_repr : PySem.W.nsIn K mainGlobals "repr" = some none)
    (z_str : PySem.W.nsIn K mainGlobals "str" = some none)
    (z_enumerate : PySem.W.nsIn K mainGlobals "enumerate" = some none)
    (z_zip : PySem.W.nsIn K mainGlobals "zip" = some none)
    (z_bool : PySem.W.nsIn K mainGlobals "bool" = some none)
    (z_set : PySem.W.nsIn K mainGlobals "set" = some none)
    (v_MOST_SIGNS : PySem.W.nsIn K mainGlobals "MOST_SIGNS" = some (some (.int (12) t_MOST_SIGNS)))
    (v_GAP : PySem.W.nsIn K mainGlobals "GAP" = some (some (.str (sOf [45]) t_GAP)))
    (v_MOST_ROWS : PySem.W.nsIn K mainGlobals "MOST_ROWS" = some (some (.int (6) t_MOST_ROWS)))
    (v_LETTERS : PySem.W.nsIn K mainGlobals "LETTERS" = some (some (.str (sOf [97, 98, 99, 100, 101, 102, 103, 104, 105, 106, 107, 108, 109, 110, 111, 112, 113, 114, 115, 116, 117, 118, 119, 120, 121, 122]) t_LETTERS)))
    : ∃ fd : FuncData, (∀ (s : Shared) (v : Value), BindsTo s fd ⟨[v], []⟩ [("script", v)]) ∧ ∀ base : Heap, K.In base → base.Ns mainGlobals mg → FnOk P w K mg base CX0 n fa fd ["script"] (spC (callN fu progL n) "law" 1) := by
  have D_is_integer := mkAt (G := sig) (g := d_is_integer) (st := topS 8) X Gn ck_is_integer (fun _ _ _ _ _ _ us hl => match us, hl with | [_], _ => rfl) a_is_integer l_is_integer c_is_integer k_is_integer
  have D_is_within := mkAt (G := sig) (g := d_is_within) (st := topS 9) X Gn ck_is_within (fun _ _ _ _ _ _ us hl => match us, hl with | [_, _, _], _ => rfl) a_is_within l_is_within c_is_within k_is_within
  have D_is_sized := mkAt (G := sig) (g := d_is_sized) (st := topS 10) X Gn ck_is_sized (fun _ _ _ _ _ _ us hl => match us, hl with | [_, _, _], _ => rfl) a_is_sized l_is_sized c_is_sized k_is_sized
  have D_is_row_of := mkAt (G := sig) (g := d_is_row_of) (st := topS 15) X Gn ck_is_row_of (fun _ _ _ _ _ _ us hl => match us, hl with | [_, _], _ => rfl) a_is_row_of l_is_row_of c_is_row_of k_is_row_of
  have D_are_rows := mkAt (G := sig) (g := d_are_rows) (st := topS 16) X Gn ck_are_rows (fun _ _ _ _ _ _ us hl => match us, hl with | [_], _ => rfl) a_are_rows l_are_rows c_are_rows k_are_rows
  have D_check_rows := mkAt (G := sig) (g := d_check_rows) (st := topS 17) X Gn ck_check_rows (fun _ _ _ _ _ _ us hl => match us, hl with | [_], _ => rfl) a_check_rows l_check_rows c_check_rows k_check_rows
  have D_check_place := mkAt (G := sig) (g := d_check_place) (st := topS 18) X Gn ck_check_place (fun _ _ _ _ _ _ us hl => match us, hl with | [_, _], _ => rfl) a_check_place l_check_place c_check_place k_check_place
  have D_raw_column := mkAt (G := sig) (g := d_raw_column) (st := topS 19) X Gn ck_raw_column (fun _ _ _ _ _ _ us hl => match us, hl with | [_, _], _ => rfl) a_raw_column l_raw_column c_raw_column k_raw_column
  have D_column := mkAt (G := sig) (g := d_column) (st := topS 20) X Gn ck_column (fun _ _ _ _ _ _ us hl => match us, hl with | [_, _], _ => rfl) a_column l_column c_column k_column
  have D_raw_counts := mkAt (G := sig) (g := d_raw_counts) (st := topS 21) X Gn ck_raw_counts (fun _ _ _ _ _ _ us hl => match us, hl with | [_], _ => rfl) a_raw_counts l_raw_counts c_raw_counts k_raw_counts
  have D_counts_at := mkAt (G := sig) (g := d_counts_at) (st := topS 22) X Gn ck_counts_at (fun _ _ _ _ _ _ us hl => match us, hl with | [_, _], _ => rfl) a_counts_at l_counts_at c_counts_at k_counts_at
  have D_every_place := mkAt (G := sig) (g := d_every_place) (st := topS 23) X Gn ck_every_place (fun _ _ _ _ _ _ us hl => match us, hl with | [_], _ => rfl) a_every_place l_every_place c_every_place k_every_place
  have D_most_of := mkAt (G := sig) (g := d_most_of) (st := topS 24) X Gn ck_most_of (fun _ _ _ _ _ _ us hl => match us, hl with | [_], _ => rfl) a_most_of l_most_of c_most_of k_most_of
  have D_most_at := mkAt (G := sig) (g := d_most_at) (st := topS 25) X Gn ck_most_at (fun _ _ _ _ _ _ us hl => match us, hl with | [_], _ => rfl) a_most_at l_most_at c_most_at k_most_at
  have D_is_alike := mkAt (G := sig) (g := d_is_alike) (st := topS 26) X Gn ck_is_alike (fun _ _ _ _ _ _ us hl => match us, hl with | [_], _ => rfl) a_is_alike l_is_alike c_is_alike k_is_alike
  have D_raw_alike := mkAt (G := sig) (g := d_raw_alike) (st := topS 27) X Gn ck_raw_alike (fun _ _ _ _ _ _ us hl => match us, hl with | [_], _ => rfl) a_raw_alike l_raw_alike c_raw_alike k_raw_alike
  have D_alike_places := mkAt (G := sig) (g := d_alike_places) (st := topS 28) X Gn ck_alike_places (fun _ _ _ _ _ _ us hl => match us, hl with | [_], _ => rfl) a_alike_places l_alike_places c_alike_places k_alike_places
  have D_stretches_alike := mkAt (G := sig) (g := d_stretches_alike) (st := topS 29) X Gn ck_stretches_alike (fun _ _ _ _ _ _ us hl => match us, hl with | [_, _], _ => rfl) a_stretches_alike l_stretches_alike c_stretches_alike k_stretches_alike
  have D_far_sum := mkAt (G := sig) (g := d_far_sum) (st := topS 30) X Gn ck_far_sum (fun _ _ _ _ _ _ us hl => match us, hl with | [_], _ => rfl) a_far_sum l_far_sum c_far_sum k_far_sum
  have D_gap_places := mkAt (G := sig) (g := d_gap_places) (st := topS 31) X Gn ck_gap_places (fun _ _ _ _ _ _ us hl => match us, hl with | [_, _], _ => rfl) a_gap_places l_gap_places c_gap_places k_gap_places
  have D_law_hand := mkAt (G := sig) (g := d_law_hand) (st := topS 33) X Gn ck_law_hand (fun _ _ _ _ _ _ us hl => match us, hl with | [_], _ => rfl) a_law_hand l_law_hand c_law_hand k_law_hand
  have D_law_draw := mkAt (G := sig) (g := d_law_draw) (st := topS 34) X Gn ck_law_draw (fun _ _ _ _ _ _ us hl => match us, hl with | [_, _], _ => rfl) a_law_draw l_law_draw c_law_draw k_law_draw
  have D_law_some := mkAt (G := sig) (g := d_law_some) (st := topS 35) X Gn ck_law_some (fun _ _ _ _ _ _ us hl => match us, hl with | [_, _], _ => rfl) a_law_some l_law_some c_law_some k_law_some
  have D_law_is := mkAt (G := sig) (g := d_law_is) (st := topS 36) X Gn ck_law_is (fun _ _ _ _ _ _ us hl => match us, hl with | [_, _], _ => rfl) a_law_is l_law_is c_law_is k_law_is
  have D_law_mixed := mkAt (G := sig) (g := d_law_mixed) (st := topS 37) X Gn ck_law_mixed (fun _ _ _ _ _ _ us hl => match us, hl with | [_, _], _ => rfl) a_law_mixed l_law_mixed c_law_mixed k_law_mixed
  have D_law_rows := mkAt (G := sig) (g := d_law_rows) (st := topS 38) X Gn ck_law_rows (fun _ _ _ _ _ _ us hl => match us, hl with | [_, _], _ => rfl) a_law_rows l_law_rows c_law_rows k_law_rows
  have D_law_alike := mkAt (G := sig) (g := d_law_alike) (st := topS 39) X Gn ck_law_alike (fun _ _ _ _ _ _ us hl => match us, hl with | [_], _ => rfl) a_law_alike l_law_alike c_law_alike k_law_alike
  have D_law_stretches := mkAt (G := sig) (g := d_law_stretches) (st := topS 40) X Gn ck_law_stretches (fun _ _ _ _ _ _ us hl => match us, hl with | [_, _], _ => rfl) a_law_stretches l_law_stretches c_law_stretches k_law_stretches
  have D_law_is_right := mkAt (G := sig) (g := d_law_is_right) (st := topS 41) X Gn ck_law_is_right (fun _ _ _ _ _ _ us hl => match us, hl with | [_], _ => rfl) a_law_is_right l_law_is_right c_law_is_right k_law_is_right
  have D_law := mkAt (G := sig) (g := d_law) (st := topS 42) X Gn ck_law (fun _ _ _ _ _ _ us hl => match us, hl with | [_], _ => rfl) a_law l_law c_law k_law
  refine law_mk (gL := d_law) rfl (by kernel_rfl) rfl rfl hfa D_law (fun s v => .of_eq rfl) ?_ ?_ ?_
  · exact List.forall_mem_cons.mpr ⟨⟨_, _, _, D_is_integer⟩, List.forall_mem_cons.mpr ⟨⟨_, _, _, D_is_within⟩, List.forall_mem_cons.mpr ⟨⟨_, _, _, D_is_sized⟩, List.forall_mem_cons.mpr ⟨⟨_, _, _, D_is_row_of⟩, List.forall_mem_cons.mpr ⟨⟨_, _, _, D_are_rows⟩, List.forall_mem_cons.mpr ⟨⟨_, _, _, D_check_rows⟩, List.forall_mem_cons.mpr ⟨⟨_, _, _, D_check_place⟩, List.forall_mem_cons.mpr ⟨⟨_, _, _, D_raw_column⟩, List.forall_mem_cons.mpr ⟨⟨_, _, _, D_column⟩, List.forall_mem_cons.mpr ⟨⟨_, _, _, D_raw_counts⟩, List.forall_mem_cons.mpr ⟨⟨_, _, _, D_counts_at⟩, List.forall_mem_cons.mpr ⟨⟨_, _, _, D_every_place⟩, List.forall_mem_cons.mpr ⟨⟨_, _, _, D_most_of⟩, List.forall_mem_cons.mpr ⟨⟨_, _, _, D_most_at⟩, List.forall_mem_cons.mpr ⟨⟨_, _, _, D_is_alike⟩, List.forall_mem_cons.mpr ⟨⟨_, _, _, D_raw_alike⟩, List.forall_mem_cons.mpr ⟨⟨_, _, _, D_alike_places⟩, List.forall_mem_cons.mpr ⟨⟨_, _, _, D_stretches_alike⟩, List.forall_mem_cons.mpr ⟨⟨_, _, _, D_far_sum⟩, List.forall_mem_cons.mpr ⟨⟨_, _, _, D_gap_places⟩, List.forall_mem_cons.mpr ⟨⟨_, _, _, D_law_hand⟩, List.forall_mem_cons.mpr ⟨⟨_, _, _, D_law_draw⟩, List.forall_mem_cons.mpr ⟨⟨_, _, _, D_law_some⟩, List.forall_mem_cons.mpr ⟨⟨_, _, _, D_law_is⟩, List.forall_mem_cons.mpr ⟨⟨_, _, _, D_law_mixed⟩, List.forall_mem_cons.mpr ⟨⟨_, _, _, D_law_rows⟩, List.forall_mem_cons.mpr ⟨⟨_, _, _, D_law_alike⟩, List.forall_mem_cons.mpr ⟨⟨_, _, _, D_law_stretches⟩, List.forall_mem_cons.mpr ⟨⟨_, _, _, D_law_is_right⟩, List.forall_mem_cons.mpr ⟨⟨_, _, _, D_law⟩, fun _ h => (List.not_mem_nil h).elim⟩⟩⟩⟩⟩⟩⟩⟩⟩⟩⟩⟩⟩⟩⟩⟩⟩⟩⟩⟩⟩⟩⟩⟩⟩⟩⟩⟩⟩⟩
  · exact List.forall_mem_cons.mpr ⟨PySem.W.mg_none_of X Gn z_len, List.forall_mem_cons.mpr ⟨PySem.W.mg_none_of X Gn z_abs, List.forall_mem_cons.mpr ⟨PySem.W.mg_none_of X Gn z_int, List.forall_mem_cons.mpr ⟨PySem.W.mg_none_of X Gn z_list, List.forall_mem_cons.mpr ⟨PySem.W.mg_none_of X Gn z_tuple, List.forall_mem_cons.mpr ⟨PySem.W.mg_none_of X Gn z_dict, List.forall_mem_cons.mpr ⟨PySem.W.mg_none_of X Gn z_sum, List.forall_mem_cons.mpr ⟨PySem.W.mg_none_of X Gn z_min, List.forall_mem_cons.mpr ⟨PySem.W.mg_none_of X Gn z_max, List.forall_mem_cons.mpr ⟨PySem.W.mg_none_of X Gn z_all, List.forall_mem_cons.mpr ⟨PySem.W.mg_none_of X Gn z_any, List.forall_mem_cons.mpr ⟨PySem.W.mg_none_of X Gn z_sorted, List.forall_mem_cons.mpr ⟨PySem.W.mg_none_of X Gn z_range, List.forall_mem_cons.mpr ⟨PySem.W.mg_none_of X Gn z_isinstance, List.forall_mem_cons.mpr ⟨PySem.W.mg_none_of X Gn z_repr, List.forall_mem_cons.mpr ⟨PySem.W.mg_none_of X Gn z_str, List.forall_mem_cons.mpr ⟨PySem.W.mg_none_of X Gn z_enumerate, List.forall_mem_cons.mpr ⟨PySem.W.mg_none_of X Gn z_zip, List.forall_mem_cons.mpr ⟨PySem.W.mg_none_of X Gn z_bool, List.forall_mem_cons.mpr ⟨PySem.W.mg_none_of X Gn z_set, fun _ h => (List.not_mem_nil h).elim⟩⟩⟩⟩⟩⟩⟩⟩⟩⟩⟩⟩⟩⟩⟩⟩⟩⟩⟩⟩
  · exact List.forall_mem_cons.mpr ⟨gv_int X Gn v_MOST_SIGNS, List.forall_mem_cons.mpr ⟨gv_str X Gn (by decide +kernel) v_GAP, List.forall_mem_cons.mpr ⟨gv_int X Gn v_MOST_ROWS, List.forall_mem_cons.mpr ⟨gv_str X Gn (by decide +kernel) v_LETTERS, fun _ h => (List.not_mem_nil h).elim⟩⟩⟩⟩

end Pd
open PySem PySem.W PyProof.Rows
set_option maxRecDepth 100000 in
set_option maxHeartbeats 0 in
theorem PySem.Challenge.cw_twotexts_k66_whole_columns_of_rows_holds : PySem.Challenge.rw_twotexts_k66_whole_columns_of_rows.Holds := by
  w_on; o_law; k_head; (case hw => w_witness2)
  k_fill
  refine L2.walk_of (l := PySem.Challenge.rw_twotexts_k66_whole_columns_of_rows) (n := 63) (k := 30) (x := "script") (CX := fun _ => L2.CX0) (sp := fun w => Pd.spC (Pd.callN 1000 Pd.progL 30) "law" 1) rfl (by decide) rfl ⟨rfl, by decide, by decide⟩ (fun w h Y => PySem.W.kIn_of Y) ?F ?G (fun _ _ _ _ _ h => h)
  case G =>
    intro w H a ns hl hO hS
    refine Pd.law_sp (most := 63) ?nl Pd.lawT hl hO hS
    (case nl => kernel_rfl)
  case F =>
    intro w mg fa h KX G hmg
    refine' Pd.all_mk KX G hmg ?a_is_integer ?l_is_integer ?c_is_integer ?k_is_integer ?a_is_within ?l_is_within ?c_is_within ?k_is_within ?a_is_sized ?l_is_sized ?c_is_sized ?k_is_sized ?a_is_row_of ?l_is_row_of ?c_is_row_of ?k_is_row_of ?a_are_rows ?l_are_rows ?c_are_rows ?k_are_rows ?a_check_rows ?l_check_rows ?c_check_rows ?k_check_rows ?a_check_place ?l_check_place ?c_check_place ?k_check_place ?a_raw_column ?l_raw_column ?c_raw_column ?k_raw_column ?a_column ?l_column ?c_column ?k_column ?a_raw_counts ?l_raw_counts ?c_raw_counts ?k_raw_counts ?a_counts_at ?l_counts_at ?c_counts_at ?k_counts_at ?a_every_place ?l_every_place ?c_every_place ?k_every_place ?a_most_of ?l_most_of ?c_most_of ?k_most_of ?a_most_at ?l_most_at ?c_most_at ?k_most_at ?a_is_alike ?l_is_alike ?c_is_alike ?k_is_alike ?a_raw_alike ?l_raw_alike ?c_raw_alike ?k_raw_alike ?a_alike_places ?l_alike_places ?c_alike_places ?k_alike_places ?a_stretches_alike ?l_stretches_alike ?c_stretches_alike ?k_stretches_alike ?a_far_sum ?l_far_sum ?c_far_sum ?k_far_sum ?a_gap_places ?l_gap_places ?c_gap_places ?k_gap_places ?a_law_hand ?l_law_hand ?c_law_hand ?k_law_hand ?a_law_draw ?l_law_draw ?c_law_draw ?k_law_draw ?a_law_some ?l_law_some ?c_law_some ?k_law_some ?a_law_is ?l_law_is ?c_law_is ?k_law_is ?a_law_mixed ?l_law_mixed ?c_law_mixed ?k_law_mixed ?a_law_rows ?l_law_rows ?c_law_rows ?k_law_rows ?a_law_alike ?l_law_alike ?c_law_alike ?k_law_alike ?a_law_stretches ?l_law_stretches ?c_law_stretches ?k_law_stretches ?a_law_is_right ?l_law_is_right ?c_law_is_right ?k_law_is_right ?a_law ?l_law ?c_law ?k_law ?z_len ?z_abs ?z_int ?z_list ?z_tuple ?z_dict ?z_sum ?z_min ?z_max ?z_all ?z_any ?z_sorted ?z_range ?z_isinstance ?z_repr ?z_str ?z_enumerate ?z_zip ?z_bool ?z_set ?v_MOST_SIGNS ?v_GAP ?v_MOST_ROWS ?v_LETTERS
    (case a_is_integer => k_is); (case l_is_integer => k_is); (case c_is_integer => k_is); (case k_is_integer => k_is); (case a_is_within => k_is); (case l_is_within => k_is); (case c_is_within => k_is); (case k_is_within => k_is); (case a_is_sized => k_is); (case l_is_sized => k_is); (case c_is_sized => k_is); (case k_is_sized => k_is); (case a_is_row_of => k_is); (case l_is_row_of => k_is); (case c_is_row_of => k_is); (case k_is_row_of => k_is); (case a_are_rows => k_is); (case l_are_rows => k_is); (case c_are_rows => k_is); (case k_are_rows => k_is); (case a_check_rows => k_is); (case l_check_rows => k_is); (case c_check_rows => k_is); (case k_check_rows => k_is); (case a_check_place => k_is); (case l_check_place => k_is); (case c_check_place => k_is); (case k_check_place => k_is); (case a_raw_column => k_is); (case l_raw_column => k_is); (case c_raw_column => k_is); (case k_raw_column => k_is); (case a_column => k_is); (case l_column => k_is); (case c_column => k_is); (case k_column => k_is); (case a_raw_counts => k_is); (case l_raw_counts => k_is); (case c_raw_counts => k_is); (case k_raw_counts => k_is); (case a_counts_at => k_is); (case l_counts_at => k_is); (case c_counts_at => k_is); (case k_counts_at => k_is); (case a_every_place => k_is); (case l_every_place => k_is); (case c_every_place => k_is); (case k_every_place => k_is); (case a_most_of => k_is); (case l_most_of => k_is); (case c_most_of => k_is); (case k_most_of => k_is); (case a_most_at => k_is); (case l_most_at => k_is); (case c_most_at => k_is); (case k_most_at => k_is); (case a_is_alike => k_is); (case l_is_alike => k_is); (case c_is_alike => k_is); (case k_is_alike => k_is); (case a_raw_alike => k_is); (case l_raw_alike => k_is); (case c_raw_alike => k_is); (case k_raw_alike => k_is); (case a_alike_places => k_is); (case l_alike_places => k_is); (case c_alike_places => k_is); (case k_alike_places => k_is); (case a_stretches_alike => k_is); (case l_stretches_alike => k_is); (case c_stretches_alike => k_is); (case k_stretches_alike => k_is); (case a_far_sum => k_is); (case l_far_sum => k_is); (case c_far_sum => k_is); (case k_far_sum => k_is); (case a_gap_places => k_is); (case l_gap_places => k_is); (case c_gap_places => k_is); (case k_gap_places => k_is); (case a_law_hand => k_is); (case l_law_hand => k_is); (case c_law_hand => k_is); (case k_law_hand => k_is); (case a_law_draw => k_is); (case l_law_draw => k_is); (case c_law_draw => k_is); (case k_law_draw => k_is); (case a_law_some => k_is); (case l_law_some => k_is); (case c_law_some => k_is); (case k_law_some => k_is); (case a_law_is => k_is); (case l_law_is => k_is); (case c_law_is => k_is); (case k_law_is => k_is); (case a_law_mixed => k_is); (case l_law_mixed => k_is); (case c_law_mixed => k_is); (case k_law_mixed => k_is); (case a_law_rows => k_is); (case l_law_rows => k_is); (case c_law_rows => k_is); (case k_law_rows => k_is); (case a_law_alike => k_is); (case l_law_alike => k_is); (case c_law_alike => k_is); (case k_law_alike => k_is); (case a_law_stretches => k_is); (case l_law_stretches => k_is); (case c_law_stretches => k_is); (case k_law_stretches => k_is); (case a_law_is_right => k_is); (case l_law_is_right => k_is); (case c_law_is_right => k_is); (case k_law_is_right => k_is); (case a_law => k_is); (case l_law => k_is); (case c_law => k_is); (case k_law => k_is); (case z_len => k_is); (case z_abs => k_is); (case z_int => k_is); (case z_list => k_is); (case z_tuple => k_is); (case z_dict => k_is); (case z_sum => k_is); (case z_min => k_is); (case z_max => k_is); (case z_all => k_is); (case z_any => k_is); (case z_sorted => k_is); (case z_range => k_is); (case z_isinstance => k_is); (case z_repr => k_is); (case z_str => k_is); (case z_enumerate => k_is); (case z_zip => k_is); (case z_bool => k_is); (case z_set => k_is); (case v_MOST_SIGNS => k_is); (case v_GAP => k_is); (case v_MOST_ROWS => k_is); (case v_LETTERS => k_is)
